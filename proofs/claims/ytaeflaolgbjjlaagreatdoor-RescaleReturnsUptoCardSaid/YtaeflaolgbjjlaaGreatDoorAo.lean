/- Proved: library functions, and a part of the fixed example of the chapter: what they answer (a part of the proof of RescaleReturnsUptoCardSaid, whose theorem stands in the last text). -/
import Derived.Test.YtaeflaolgbjjlaaGreatDoorAn
open Option renaming some->J,none->Z
open Bool renaming true->V,false->C
open Go renaming TypeId->an,Oper->aB,Value->aC,Program->aG,World->aW,Code->bF,FuncId->bV,Frame->dh,lone->fc
open Go.Builtin renaming zeroCells->nF,firstCells->oq,append_->sP,copy_->yW
open Go.Lib renaming compact->sR
open Go.Proofs.Tryz renaming prog->eP
open List renaming replicate->lW
open Nat renaming beq->aw,ble->br,blt->cm,add->gW,mul->iR
noncomputable section
set_option linter.all false
namespace Go.Proofs
open Go.Shelf
def Tryz.ayP:Go.Shelf.Ren:=⟨λ|219=>330|217=>384|225=>385|224=>386|267=>387|266=>457|314=>458|n=>n,λ|9=>9|3=>3|4=>4|5=>5|46=>138|146=>184|51=>131|n=>n,λ|1=>2|n=>n⟩
theorem Tryz.ayO:Go.Proofs.Lays.n219 eP Tryz.ayP:={
 mixed:=by rfl
 f217:=Tryz.func384.trans (gY J (by rfl))
 f219:=Tryz.func330.trans (gY J (by rfl))
 f224:=Tryz.func386.trans (gY J (by rfl))
 f225:=Tryz.func385.trans (gY J (by rfl))
 f266:=Tryz.func457.trans (gY J (by rfl))
 f267:=Tryz.func387.trans (gY J (by rfl))
 f314:=Tryz.func458.trans (gY J (by rfl))
 t3:=Tryz.underlying3
 a3:=Tryz.isAgg3
 z3:=Tryz.sizeOf3
 v3:=Tryz.zeroValue3
 t4:=Tryz.underlying4
 a4:=Tryz.isAgg4
 z4:=Tryz.sizeOf4
 v4:=Tryz.zeroValue4
 t5:=Tryz.underlying5
 a5:=Tryz.isAgg5
 z5:=Tryz.sizeOf5
 v5:=Tryz.zeroValue5
 t9:=Tryz.underlying9
 a9:=Tryz.isAgg9
 z9:=Tryz.sizeOf9
 v9:=Tryz.zeroValue9
 t46:=Tryz.underlying138
 a46:=Tryz.isAgg138
 z46:=Tryz.sizeOf138
 v46:=Tryz.zeroValue138
 t51:=Tryz.underlying131
 a51:=Tryz.isAgg131
 z51:=Tryz.sizeOf131
 v51:=Tryz.zeroValue131
 t146:=Tryz.underlying184
 a146:=Tryz.isAgg184
 z146:=Tryz.sizeOf184
 v146:=Tryz.zeroValue184
 g1:=by kernel_rfl}
def Tryz.ayM:Go.Shelf.Ren:=⟨λ|106=>130|213=>185|265=>234|n=>n,λ|9=>9|3=>3|n=>n,λ|n=>n⟩
theorem Tryz.ayL:Go.Proofs.Lays.n106 eP Tryz.ayM:={
 mixed:=by rfl
 f106:=Tryz.func130.trans (gY J (by rfl))
 f213:=Tryz.func185.trans (gY J (by rfl))
 f265:=Tryz.func234.trans (gY J (by rfl))
 t3:=Tryz.underlying3
 a3:=Tryz.isAgg3
 z3:=Tryz.sizeOf3
 v3:=Tryz.zeroValue3
 t9:=Tryz.underlying9
 a9:=Tryz.isAgg9
 z9:=Tryz.sizeOf9
 v9:=Tryz.zeroValue9}
end Go.Proofs
namespace Go.AM
open Go
variable{t:Tr (List eD)}
noncomputable abbrev PP:aG:=Proofs.Tryz.prog
theorem Mf:PP.follows .mixedOrders=V:=by rfl
theorem aho:PP.globals.size=6:=by rfl
theorem aE4:(PP.funcs.toList.all λfn=>fn.body.isNone||!(fn.name== "runtime.NumGoroutine"))=V:=aN
theorem Fy:qQ PP:=by intro f fn a h e;have:=List.all_eq_true.1 aE4 fn ai;simp_all
def lQ:cg:=Qq 130 (Mg 330 2 (λ_ _ _=>Z))
theorem uy:jH PP (λ_ _ _=>Z):=λ_ _ _ _ _ h=>ai
theorem awG:jH PP (Mg 330 2 (λ_ _ _=>Z)):=aE8 uy (by rw[aho];decide) (λargs w=>Proofs.Tryz.call330 args w) (λs sub m w a h=>Proofs.Any.stringslite_Index Proofs.Tryz.ayO s sub m w a h)
theorem ahp:jH PP lQ:=aE7 awG (λargs w=>Proofs.Tryz.call130 args w) (λa b w=>Proofs.Any.strings_Compare Proofs.Tryz.ayL a b w)
def mb(t:Tr (List eD)):Prop:=∀f l E,t.get f=J l->E∈l->Gv PP f E
def m9(t:Tr (List eD))(f:Nat)(E:eD):Tr (List eD):=t.ins f (E::(t.get f).getD [])
def Rc:Tr (List eD):=.nil
theorem ok0:mb Rc:=λf l E h _=>by
 have:Rc.get f=Z:=by rfl
 grind
theorem aJX(h:mb t):jH PP (mw 6 3000 t lQ):=by have:=aK9 (fuel:=3000) Fy ahp h;simp_all
theorem aJY(h:mb t)(n:Nat):m8 PP (AM.run PP (mw 6 3000 t lQ) n):=by grind[S9,aJX,Fy,Mf]
theorem pH(h:mb t){f:Nat}{E:eD}{n:Nat}{P:aD}(k:entry PP (AM.run PP (mw 6 3000 t lQ) n) f E P=V)(i:bg E.H):mb (m9 t f E):=by
 have e:=ao6 (aJY h n) i k;intro g l D a m;unfold m9 at a;by_cases b:g=f
 . subst b;rw[Tr.lh]at a;cases a;rcases List.mem_cons.1 m with rfl|m;.omega
   . rcases q:t.get g with _|l2;.grind
     rw[q]at m;exact h g l2 D q m
 .rw[Tr.jr _ _ ab]at a;exact h g l D a m
end Go.AM
namespace Go.AM
open Go
theorem ant{I B:bc}{H:Heap}{w W:aW}{c:aJ}{f:fM}{e:an}(P:bg H)(Q:bM gC I H w)(h:fT I H w B (H.cP c f e) W)(nN:f≠.ex){p:Pl}(hp:B H.next=J p):fT I H w (fp B H.next {p with len:=0}) (H.cP [] f e) W:=by
 obtain⟨M,A,m⟩:=h;have F:(H.cP c f e).get H.next=J (.cells c H.next f e):=me ..;have E:(H.cP [] f e).get H.next=J (.cells [] H.next f e):=me ..;have R:∀i,i≠H.next->(H.cP [] f e).get i=(H.cP c f e).get i:=λi v=>(nq H _ v).trans (nq H _ v).symm;have hr:∀i,rootOf (H.cP [] f e) i=rootOf (H.cP c f e) i:=λi=>by grind[rootOf]
 have eC:∀i,fI (H.cP [] f e) i->fI (H.cP c f e) i:=λi=>by
   rintro⟨l,r,t,h⟩;by_cases x:i=H.next;.subst x;rw[E]at h;obtain⟨_,rfl,rfl,rfl⟩:=b9.cells.inj (bt h);exact⟨_,_,_,F⟩
   .exact⟨l,r,t,aT⟩
 have X:∀i,jb (H.cP [] f e) i↔jb (H.cP c f e) i:=λi=>by
   by_cases x:i=H.next
   . subst x;refine⟨λk l r f e h=>?_,λk l r f e h=>?_⟩;.rw[F]at h;obtain⟨_,rfl,_,_⟩:=b9.cells.inj (bt h);exact k _ _ _ _ E
     .rw[E]at h;obtain⟨_,rfl,_,_⟩:=b9.cells.inj (bt h);exact k _ _ _ _ F
   .unfold jb;rw[R i x];rfl
 have bU:∀i q,B i=J q->i<H.next+1:=λi q h=>A.stat.lt M h;have EE:∀i q,B i=J q->i≠H.next->rootOf (H.cP c f e) i<H.next:=λi q h x=>by have v:i<H.next:=ai;have:rootOf (H.cP c f e) i=rootOf H i:=m.root i v;simp_all[qG]
 have up:∀i q,fp B H.next {p with len:=0} i=J q->∃u,B i=J u/\u.aY=q.aY/\u.base=q.base/\(i≠H.next->u=q):=λi q h=>by grind[jD,kW]
 have hinv:bg (H.cP [] f e):=we P _ (λl r f e g=>aT);refine⟨hinv,⟨⟨λi q h=>?_,λi q l r D t h G=>?_,λi j q s a b d n=>?_,λi j q s a b d n k=>?_⟩,λi q o h _ N G=>?_⟩,?_⟩;.obtain⟨u,a,b,_⟩:=up i q h;obtain⟨k1,k2⟩:=A.stat.cw i u a;grind
 . by_cases x:i=H.next;.grind[jD]
   .rw[kW _ _ x]at h;exact A.stat.len i q l r D t h aT
 . obtain⟨u,K,b1,_⟩:=up i q a;obtain⟨U,L,b2,_⟩:=up j s b;rw[hr,hr];refine A.stat.inj i j u U K L ab λy=>n ?_;obtain⟨l,r,t,h⟩:=y;by_cases x:i=H.next;.subst x;rw[F]at h;obtain⟨_,rfl,rfl,rfl⟩:=b9.cells.inj (bt h);exact⟨_,_,_,E⟩
   .exact⟨l,r,t,aT⟩
 . obtain⟨u,K,b1,c1,d1⟩:=up i q a;obtain⟨U,L,b2,c2,d2⟩:=up j s b;have x:i≠H.next:=ai;obtain rfl:=d1 x;by_cases y:j=H.next
   . subst y;exfalso;have:rootOf (H.cP c f e) i=rootOf (H.cP c f e) H.next:=by
      rcases n with n|n;.exact A.stat.inj _ _ _ _ K L ab λy=>n (by obtain⟨l,r,t,h⟩:=y;exact⟨l,r,t,aT⟩)
      .exact(A.stat.inj _ _ _ _ L K ab λy=>n (by obtain⟨l,r,t,h⟩:=y;rw[F]at h;obtain⟨_,rfl,rfl,rfl⟩:=b9.cells.inj (bt h);exact⟨_,_,_,E⟩)).symm
     grind[pY]
   . obtain rfl:=d2 y;refine A.stat.mono i j _ _ K L d (n.imp (λn z=>n ?_) (λn z=>n ?_)) k;.obtain⟨l,r,t,h⟩:=z;exact⟨l,r,t,aT⟩
     .obtain⟨l,r,t,h⟩:=z;exact⟨l,r,t,aT⟩
 . by_cases x:i=H.next;.subst x;rw[jD]at h;cases h;rw[E]at G;cases G;obtain⟨cs,fz,e1,k1,k2,k3,k4,k5,k6,k7⟩:=A.obj H.next p _ hp trivial ((X _).1 N) F;exact⟨cs,fz,e1,k1,k2,ai,λi a h=>aT,λa h=>aT,k6,λh=>absurd h nN⟩
   . rw[kW _ _ x]at h;rw[R i x]at G;have ju:i<H.next:=ai;have Y:H.get i=J o:=by rw[<-nq H (.cells c H.next f e) x];exact G
     cases T:I i with|none=>have:=(m.new i q h T).1;omega|some q0=>have k1:=Q.obj i q0 o T trivial (λl r D t hh=>N l r D t aT) Y;have k2:=A.obj i q o h trivial ((X i).1 N) G;refine(lY.cut (n:=H.next) (λj q h=>Q.stat.lt P h) k1 k2).mono (λj r hj=>?_) rfl;grind[oB,kW]
 . have O:∀i q,I i=J q->i≠H.next:=λi q h=>by have:=Q.stat.lt P h;omega
   have back:∀i q,fp B H.next {p with len:=0} i=J q->I i=Z->H.next<=i:=λi q h v=>by obtain⟨u,a,_⟩:=up i q h;exact(m.new i u a v).1
   exact{
     ext:=λi q h=>by rw[kW _ _ (O i q h)];exact m.ext i q h
     size:=m.size
     os:=m.os
     tape:=m.tape
     output:=m.output
     next:=m.next
     bu:=m.bu
     bT:=m.bT
     cG:=m.cG
     root:=λi h=>(hr i).trans (m.root i h)
     view:=λi o M h4 h5 h6=>by obtain⟨a,b,d⟩:=m.view i o M h4 h5 h6;grind
     nh:=m.nh
     new:=λi q h v=>by obtain⟨u,a,b,_⟩:=up i q h;obtain⟨k1,k2⟩:=m.new i u a v;refine⟨k1,?_⟩;rw[<-b,hr];exact k2
     ro:=λi h k=>by obtain⟨l,r,t,g⟩:=m.ro i h k;exact⟨l,r,t,ai⟩
     keep:=λi o h k=>by obtain⟨o',a,b⟩:=m.keep i o h k;grind
     cover:=λi h k=>by
      by_cases x:i=H.next;.grind[jD]
      .have:i<H.next+1:=k;omega
     mi:=λi q h v S=>by obtain⟨u,a,_⟩:=up i q h;rw[hr]at S;rw[hr];exact m.mi i u a v S
     uK:=m.uK
     uT:=m.uT}
open Go.VM Proofs.Tryz
theorem aml{f:bV}{z:aJ}{r:cD}(h:wx PP f z=J r)(a:Array aC)(w:aW):(callFunc f a).run PP w=.ok (.enter f a) w:=by obtain⟨fn,d,h⟩:=aF h;obtain⟨b,c,h⟩:=aF h;grind[JR,Fy]
theorem aqB{k:cg}(p:jH PP k){f:bV}{z:aJ}{a:AV}{H g:Heap}(h:Gw PP k f z H a g){b:bc}{w:aW}{v:Array aC}(c:dh)(s:List dh)(m:bg H)(o:bM gC b H w)(l:iP PP b)(q:ba b z v.toList):∃e d u,fT b H w e g d/\VR e a u/\(callFunc f v).run PP w=.ok (.enter f v) w/\Steps PP (fc (Frame.enter PP f v .normal) (c::s) w) (fc (c.finish u) s d):=by obtain⟨_,fr,i,n,j⟩:=h;obtain⟨e1,_⟩:=J9 i q;obtain⟨e,d,u,r,t,q3⟩:=kp.back (S9 p Fy Mf n fr H _ (j n (bJ _)) b w _ (c::s) m o l e1);grind[aml]
def Fz(f e s b:Nat)(k:cg):cg:=λa args H=>bif aw a f then(match args with|[.bC,.int .i64 (.ofNat n)]=>bif br (n*b) bl&&br n bl then(bif aw n 0 then J (J (.bC,H))else J (J (.sl H.next 0 0 Z s,H.cP [] .op e)))else J Z|_=>J Z)else k a args H
theorem Qr{f e s b:Nat}{z:aJ}{k:cg}(L:jH PP k)(G:Jw f e s b)(M:lV PP e=J z)(I:z.length=s):jH PP (Fz f e s b k):=by
 intro g args H v t h O w x c d i a l m;unfold Fz at h;rw[bE]at h;by_cases j:g=f
 . subst j;simp only[dM,aR]at h;split at h
   . rename_i n;rcases q:(br (n*b) bl&&br n bl)with _|_;.grind
     rw[q]at h;simp only[gD,dg,gZ]at q;obtain⟨S,N,u,o,r,q3,q4⟩:=aqB uy (G (λ_ _ _=>Z) H n z M I q.1 q.2 rfl) c d i a l m;cases K:aw n 0 with|true=>grind|false=>rw[K]at h o r;obtain⟨rfl,rfl⟩:=il (bt (bt h));cases r with|sl _ _ _ _ _ p T y A B D P Q E F R=>refine⟨_,N,_,ant i a o aO A,.sl _ 0 0 _ s _ _ _ (jD ..) B D aT aT E F aO,aT⟩
   grind
 .simp only[j,kM,bS]at h;exact L g args H v t h O w x c d i a l m
end Go.AM
namespace Go.Proofs
open Go.Shelf
def Tryz.ayN:Go.Shelf.Ren:=⟨λ|189=>275|125=>328|257=>337|128=>382|129=>383|294=>389|295=>390|296=>391|297=>392|298=>393|299=>394|216=>395|300=>396|301=>397|328=>459|329=>453|330=>454|331=>460|332=>461|215=>127|343=>489|n=>n,λ|28=>26|3=>3|46=>138|0=>0|51=>131|53=>186|4=>4|183=>490|182=>489|131=>194|5=>5|9=>9|218=>557|222=>561|228=>598|229=>335|n=>n,λ|n=>n⟩
theorem Tryz.afA:Go.Proofs.Lays.n189 eP Tryz.ayN:={
 mixed:=by rfl
 f125:=Tryz.func328.trans (gY J (by rfl))
 f128:=Tryz.func382.trans (gY J (by rfl))
 f129:=Tryz.func383.trans (gY J (by rfl))
 f189:=Tryz.func275.trans (gY J (by rfl))
 f215:=Tryz.func127.trans (gY J (by rfl))
 f216:=Tryz.func395.trans (gY J (by rfl))
 f257:=Tryz.func337.trans (gY J (by rfl))
 f294:=Tryz.func389.trans (gY J (by rfl))
 f295:=Tryz.func390.trans (gY J (by rfl))
 f296:=Tryz.func391.trans (gY J (by rfl))
 f297:=Tryz.func392.trans (gY J (by rfl))
 f298:=Tryz.func393.trans (gY J (by rfl))
 f299:=Tryz.func394.trans (gY J (by rfl))
 f300:=Tryz.func396.trans (gY J (by rfl))
 f301:=Tryz.func397.trans (gY J (by rfl))
 f328:=Tryz.func459.trans (gY J (by rfl))
 f329:=Tryz.func453.trans (gY J (by rfl))
 f330:=Tryz.func454.trans (gY J (by rfl))
 f331:=Tryz.func460.trans (gY J (by rfl))
 f332:=Tryz.func461.trans (gY J (by rfl))
 f343:=Tryz.func489.trans (gY J (by rfl))
 t0:=Tryz.underlying0
 a0:=Tryz.isAgg0
 z0:=Tryz.sizeOf0
 v0:=Tryz.zeroValue0
 t3:=Tryz.underlying3
 a3:=Tryz.isAgg3
 z3:=Tryz.sizeOf3
 v3:=Tryz.zeroValue3
 t4:=Tryz.underlying4
 a4:=Tryz.isAgg4
 z4:=Tryz.sizeOf4
 v4:=Tryz.zeroValue4
 t5:=Tryz.underlying5
 a5:=Tryz.isAgg5
 z5:=Tryz.sizeOf5
 v5:=Tryz.zeroValue5
 t9:=Tryz.underlying9
 a9:=Tryz.isAgg9
 z9:=Tryz.sizeOf9
 v9:=Tryz.zeroValue9
 t28:=Tryz.underlying26
 a28:=Tryz.isAgg26
 z28:=Tryz.sizeOf26
 v28:=Tryz.zeroValue26
 t46:=Tryz.underlying138
 a46:=Tryz.isAgg138
 z46:=Tryz.sizeOf138
 v46:=Tryz.zeroValue138
 t51:=Tryz.underlying131
 a51:=Tryz.isAgg131
 z51:=Tryz.sizeOf131
 v51:=Tryz.zeroValue131
 t53:=Tryz.underlying186
 a53:=Tryz.isAgg186
 z53:=Tryz.sizeOf186
 v53:=Tryz.zeroValue186
 t131:=Tryz.underlying194
 a131:=Tryz.isAgg194
 z131:=Tryz.sizeOf194
 v131:=Tryz.zeroValue194
 t182:=Tryz.underlying489
 a182:=Tryz.isAgg489
 z182:=Tryz.sizeOf489
 v182:=Tryz.zeroValue489
 t183:=Tryz.underlying490
 a183:=Tryz.isAgg490
 z183:=Tryz.sizeOf490
 v183:=Tryz.zeroValue490
 t218:=Tryz.underlying557
 a218:=Tryz.isAgg557
 z218:=Tryz.sizeOf557
 v218:=Tryz.zeroValue557
 t222:=Tryz.underlying561
 a222:=Tryz.isAgg561
 z222:=Tryz.sizeOf561
 v222:=Tryz.zeroValue561
 t228:=Tryz.underlying598
 a228:=Tryz.isAgg598
 z228:=Tryz.sizeOf598
 v228:=Tryz.zeroValue598
 t229:=Tryz.underlying335
 a229:=Tryz.isAgg335
 z229:=Tryz.sizeOf335
 v229:=Tryz.zeroValue335}
def Tryz.ayQ:Go.Shelf.Ren:=⟨λ|20=>276|n=>n,λ|22=>26|3=>3|4=>4|0=>0|n=>n,λ|n=>n⟩
theorem Tryz.afB:Go.Proofs.Lays2.n20 eP Tryz.ayQ:={
 mixed:=by rfl
 f20:=Tryz.func276.trans (gY J (by rfl))
 t0:=Tryz.underlying0
 a0:=Tryz.isAgg0
 z0:=Tryz.sizeOf0
 v0:=Tryz.zeroValue0
 t3:=Tryz.underlying3
 a3:=Tryz.isAgg3
 z3:=Tryz.sizeOf3
 v3:=Tryz.zeroValue3
 t4:=Tryz.underlying4
 a4:=Tryz.isAgg4
 z4:=Tryz.sizeOf4
 v4:=Tryz.zeroValue4
 t22:=Tryz.underlying26
 a22:=Tryz.isAgg26
 z22:=Tryz.sizeOf26
 v22:=Tryz.zeroValue26
 i3:=by kernel_rfl}
end Go.Proofs
namespace Go.AM
open Go Go.VM Proofs.Tryz Go.Sort
theorem fT.grown{n q:bc}{H l:Heap}{w f j:aW}(h:fT n H w q l f)(r:f.heap.size<=j.heap.size)(m:∀b,b<f.heap.size->j.heap[b]?=f.heap[b]?)(t:j.os=f.os)(v:j.tape=f.tape)(u:j.output=f.output):fT n H w q l j:=by
 obtain⟨s,g,c⟩:=h;refine⟨s,⟨⟨λi p k=>?_,g.stat.len,g.stat.inj,g.stat.mono⟩,λi p o a b d e=>(g.obj i p o a b d e).mono (Ext.refl _) (m _ (g.stat.cw i p a).1)⟩,{c with size:=fX c.size r,os:=t.trans c.os,tape:=v.trans c.tape,output:=u.trans c.output,nh:=λb k=>?_}⟩;.obtain⟨a,b⟩:=g.stat.cw i p k;grind
 .rw[m b (gi k c.size)];exact c.nh b k
theorem aFo(y:cE)(o:Nat)(c:Array aC)(h:o+y.length<=c.size):putCells (Value.int .i64) o y.toArray c=over c o (y.map (Value.int .i64)):=by apply Rx;grind[uz,putCells]
theorem ah5{f:bc}{H A:Heap}{w:aW}(R:bg H)(s:bM gC f H w){d o n:Nat}{p:Pl}(m:f d=J p){z ys:cE}(hl:H.load d o n=J (z.map (AV.int .i64)))(hy:ys.length=z.length)(g:H.store d o (ys.map (AV.int .i64))=J A):p.aY<w.heap.size/\z.length=n/\Holds (Value.int .i64) w p.aY (p.base+o) z.toArray/\∀q u,fT f H w f A (grow (putRow (Value.int .i64) (Sort.ahead w q) p.aY (p.base+o) ys.toArray) u):=by
 have X:=(s.stat.cw d p m).1;have F:=g;unfold Heap.store at g;split at g
 . rename_i l r G e Q;rcases D:(br (H.bn r).1 d&&(aw (H.bn r).2 d&&(br (gW o (eM (ys.map (AV.int .i64)))) (eM l)&&G.wr)))with _|_;.grind
   simp only[gD,dg,bE,gZ,dS,fZ]at D;obtain⟨K,h2,h3,h4⟩:=D;obtain⟨T,E⟩:=Cg s m trivial Q K;obtain⟨B,fz,e1,g1,g2,g3,g4,g5,g6,g7⟩:=T;obtain⟨rfl,rfl⟩:=g6 (by grind[fM.wr]);have O:(l.drop o).take n=z.map (AV.int .i64)/\o+n<=l.length:=by grind[Heap.load,Heap.cellsOf,dg,dS,pI,ql]
   have t:z.length=n:=by have:=gY List.length O.1;grind
   have CH:∀j,j<z.length->B[p.base+o+j]?=J (.int .i64 z.toArray[j]!):=by
     intro j S;have L:l[o+j]?=J (.int .i64 z[j]):=by have h6:((l.drop o).take n)[j]?=(z.map (AV.int .i64))[j]?:=ai;grind
     obtain⟨c,h7,M⟩:=g4 _ _ L;cases M;grind
   refine⟨X,t,λj S=>?_,λq u=>?_⟩;.grind[World.cell?,World.frozen?]
   . have W:ba f (ys.map (AV.int .i64)) (ys.map (Value.int .i64)):=by
      refine⟨aO,λi a v k h=>?_⟩;rw[jo]at k h;rcases I:ys[i]? with _|y;.grind
      rw[I]at k h;cases k;cases h;exact .int .i64 y
     obtain⟨Y,k1,k2⟩:=MR (P:=PP) R s m trivial F W (λx U=>by obtain⟨y,_,rfl⟩:=List.mem_map.1 U;rfl);have zK:p.base+o+(ys.map (Value.int .i64)).length<=B.size:=ai;rw[MA g1 zK (λv h=>by obtain⟨y,_,rfl⟩:=List.mem_map.1 h;rfl)]at k1;obtain⟨_,rfl⟩:()=()/\World.eU w p.aY _=Y:=by simpa using k1
     refine fT.grown ⟨k2.1,k2.2.1,k2.2.2⟩ (by simp[BT]) (λb N=>?_) rfl rfl rfl;rw[BT]at N;show((w.heap.modify p.aY (onCells (putCells (Value.int .i64) (p.base+o) ys.toArray)))++u)[b]?=_;grind[Aq,onCells,aFo,BS]
 grind
end Go.AM
namespace Go.Proofs
open Go Go.AM Go.RowKit Go.Lib Go.Shelf
variable{cs ds:Array aC}{vb vc vo:Nat}{fz:Nat×Nat}{w:aW}{e:an}
theorem QN{t:an}{b o l f c a s d m:Nat}{g:an}(h:w.heap[b]?=J (.cells cs e (0,0)))(i:w.heap[c]?=J (.cells ds g fz))(q:min s l=m)(n:o+m*14<=cs.size)(j:a+m*14<=ds.size)(k:∀v,v∈(ds.extract a (a+m*14)).toList->vH v=V):(yW #[56,56] t #[.slice (J ⟨b,o,Z⟩) l f,.slice (J ⟨c,a,Z⟩) s d]).run eP w=.ok (goInt m) (World.eU w b (.cells (over cs o (ds.extract a (a+m*14)).toList) e (0,0))):=by have f1:(oq 14 m (.slice (J _) s d)).run eP w=.ok _ w:=I3 i j;have g1:=MA (P:=eP) h (I:=o) ai k;have p:(Builtin.lenOf (.slice (J ⟨c,a,Z⟩) s d)).run eP w=.ok s w:=rfl;simp_all[yW]
theorem aG0{P:aG}{t R l b o i m g j:Nat}{p:an}(h:P.underlying t=J (.slice l)){s:Nat}(z:aZ P l=J s)(d:w.heap[b]?=J (.cells cs e (0,0)))(q:w.heap[vb]?=J (.cells ds p fz))(B:vb≠b)(v:ds.size≠0):(Extern.SlicesOverlaps.overlaps #[t,t] #[R] #[.slice (J ⟨vb,vo,Z⟩) g j,.slice (J ⟨b,o,Z⟩) i m]).run P w=.ok (.bool C) w:=by
 have f:∀w,(Go.sizeOf l).run P w=.ok s w:=λw=>lR z w;have h:∀w,(underlying t).run P w=.ok (.slice l) w:=λw=>dC h w;have M:(vb !=b)=V:=ai;have a:(vb==b)=C:=ai;have k1:=YU d;have k2:=YU q;have k3:∀k,w.frozen? ⟨b,k,Z⟩=C:=λk=>adr d k;change Sem.run P (underlying t>>=_) w=_;by_cases c:g=0\/i=0\/s=0;.simp[h,f,c]
 . rcases H:ds.size with _|n;.omega
   rw[H]at k2;cases r:w.frozen? ⟨vb,vo,Z⟩<;>cases u:w.frozen? ⟨vb,n+1,Z⟩<;>simp[h,f,c,M,a,frozen,noView,viewAt,mayBeOne,stringish,shape,Sem.run,k1,k2,k3,r,u]
theorem aGZ{b o i d l a:Nat}{f:an}(h:w.heap[b]?=J (.cells cs e (0,0)))(g:w.heap[vb]?=J (.cells ds f fz))(c:vb≠b)(n:ds.size≠0):(callFunc 462 #[.slice (J ⟨vb,vo,Z⟩) l a,.slice (J ⟨b,o,Z⟩) i d]).run eP w=.ok (.value (.bool C)) w:=by rw[run_callFunc_extern Tryz.func462 (by rfl) (by rfl) aN (e:=Extern.SlicesOverlaps.overlaps _ #[4]) aN,aG0 Tryz.underlying56 VM.xc h g c n];rfl
set_option maxHeartbeats 4000000 in set_option maxRecDepth 100000 in theorem aw0{b o n c:Nat}{p:an}(g:w.heap[b]?=J (.cells cs e (0,0)))(i:w.heap[vb]?=J (.cells ds p fz))(B:vb≠b)(M:0<n)(K:n<1000000000)(L:n+1<=c)(N:o+(n+1)*14<=cs.size)(D:vo+14<=ds.size)(s:∀v,v∈(cs.extract o (o+n*14)).toList->vH v=V)(r:∀v,v∈(ds.extract vo (vo+1*14)).toList->vH v=V):Calls eP 399 #[.slice (J ⟨b,o,Z⟩) n c,.int .i64 0,.slice (J ⟨vb,vo,Z⟩) 1 vc] w λx I=>x=.returned (.slice (J ⟨b,o,Z⟩) (n+1) c)/\I=World.eU w.drew b (.cells (over (over cs (o+14) (cs.extract o (o+n*14)).toList) o (ds.extract vo (vo+1*14)).toList) e (0,0)):=by
 have H:ds.size≠0:=ab;have G:¬((0:Int)=(n:Int)):=ab;have j:∀lb l,(callFunc 462 #[.slice (J ⟨vb,vo,Z⟩) 1 vc,.slice (J ⟨b,o+14,Z⟩) lb l]).run eP w=.ok (.value (.bool C)) w:=λlb l=>aGZ g i B H;have T:w.drew.heap[b]?=J (.cells cs e (0,0)):=g;have a:∀ty d t,(yW #[56,56] ty #[.slice (J ⟨b,o+14,Z⟩) n d,.slice (J ⟨b,o,Z⟩) (n+1) t]).run eP w.drew=.ok (goInt n) (World.eU w.drew b (.cells (over cs (o+14) (cs.extract o (o+n*14)).toList) e (0,0))):=λty d t=>QN T T ab ab ab s;have R:¬(c=1):=ab;have k:Tryz.prog.follows .mixedOrders=V:=Mf;have O:IntKind.i64.wrap 1=1:=by rfl
 have Q:(1:Int)<=(n:Int)+1:=ab;have z:¬(c=0):=ab;have A:(0:Int)<=(n:Int)+1:=ab;have E:IntKind.i64.wrap 0=0:=by rfl
 obtain⟨W,F⟩:∃W,W=World.eU w.drew b (.cells (over cs (o+14) (cs.extract o (o+n*14)).toList) e (0,0)):=⟨_,rfl⟩;have h:W.heap[b]?=J (.cells (over cs (o+14) (cs.extract o (o+n*14)).toList) e (0,0)):=by grind[Aq]
 have f:W.heap[vb]?=J (.cells ds p fz):=by rw[F,BS _ _ B];exact i
 have y:(over cs (o+14) (cs.extract o (o+n*14)).toList).size=cs.size:=Ai _ _ _ ai;have u:∀ty d,(yW #[56,56] ty #[.slice (J ⟨b,o,Z⟩) (n+1) d,.slice (J ⟨vb,vo,Z⟩) 1 vc]).run eP W=.ok (goInt 1) (World.eU W b (.cells (over (over cs (o+14) (cs.extract o (o+n*14)).toList) o (ds.extract vo (vo+1*14)).toList) e (0,0))):=λty d=>QN (m:=1) h f (by rfl) ab ab r;have q:World.eU W b (.cells (over (over cs (o+14) (cs.extract o (o+n*14)).toList) o (ds.extract vo (vo+1*14)).toList) e (0,0))=World.eU w.drew b (.cells (over (over cs (o+14) (cs.extract o (o+n*14)).toList) o (ds.extract vo (vo+1*14)).toList) e (0,0)):=by grind[YR]
 rw[<-F]at a;rw[<-q];clear q h f y g i T s r F;go_enter Tryz.func399,Tryz.ntmps399;go_wp2_with(simp only[j]);go_region_law_o(refine step_copy_runI rfl _ _ 56 56 rfl _ _ (by simp[Act.eval,Act.put]) (by simp[Act.eval,Act.put]) (a _ _ _) ?_);go_wp2_with(at_builtin;refine wpList_copy_runI _ rfl _ _ 56 56 rfl _ _ rfl rfl (u _ _) ?_);go_ret;simp_all
set_option maxHeartbeats 4000000 in set_option maxRecDepth 100000 in theorem afc{b:aW}{a:Addr}{c:Nat}{r:aC}(j:∀ty,(sP #[56,56] ty #[.slice (J a) 0 c,.slice (J ⟨vb,vo,Z⟩) 1 vc]).run eP w=.ok r b):Calls eP 399 #[.slice (J a) 0 c,.int .i64 0,.slice (J ⟨vb,vo,Z⟩) 1 vc] w λx d=>x=.returned r/\d=b:=by go_enter Tryz.func399,Tryz.ntmps399;go_wp2_with(at_builtin;refine Lib.wpList_append_run _ rfl _ _ _ _ rfl _ _ rfl rfl _ _ (j _) ?_);all_goals(go_ret;simp_all)
set_option maxHeartbeats 4000000 in set_option maxRecDepth 100000 in theorem awZ{b o n c G:Nat}{row:Array aC}{E:an}{O:Nat×Nat}(p:w.heap[b]?=J (.cells cs e O))(q:w.heap[vb]?=J (.cells ds E fz))(hn:0<n)(hb:n<1000000000)(hc:c<n+1)(U:n<=c)(X:o+n*14<=cs.size)(s:vo+14<=ds.size)(A:∀v,v∈(cs.extract o (o+n*14)).toList->vH v=V)(B:∀v,v∈(ds.extract vo (vo+1*14)).toList->vH v=V)(Y:(n+1)*14<=row.size)(hG:n+1<=G)(r:∀ty,(sP #[56,3] ty #[.slice (J ⟨b,o,Z⟩) 0 c,.int .i64 ((n:Int)+1)]).run eP w=.ok (.slice (J ⟨w.heap.size,0,Z⟩) (n+1) G) (World.push w.drew (.cells row 61))):Calls eP 399 #[.slice (J ⟨b,o,Z⟩) n c,.int .i64 0,.slice (J ⟨vb,vo,Z⟩) 1 vc] w λx w'=>x=.returned (.slice (J ⟨w.heap.size,0,Z⟩) (n+1) G)/\w'=World.eU (World.push w.drew (.cells row 61)).drew w.heap.size (.cells (over (over row 0 (ds.extract vo (vo+1*14)).toList) 14 (cs.extract o (o+n*14)).toList) 61 (0,0)):=by
 have hz2:¬((0:Int)=(n:Int)):=ab;have hz3:(c:Int)<(n:Int)+1:=ab;have S:¬(c=0):=ab;have y:Tryz.prog.follows .mixedOrders=V:=Mf;have hw0:IntKind.i64.wrap 0=0:=by rfl
 have vi:IntKind.i64.wrap 1=1:=by rfl
 have TQ:(1:Int)<=(n:Int)+1:=ab;have Q:(0:Int)<=(n:Int)+1:=ab;have R:(0:Int)<=(n:Int):=ab;have L:¬(G=0):=ab;have P:¬(G=1):=ab;have hsw:IntKind.i64.wrap ((n:Int)+1-0)=(n:Int)+1:=by grind[IntKind.wrap_i64]
 have M:IntKind.i64.wrap ((n:Int)+1)=(n:Int)+1:=ai;have i:=(Array.getElem?_eq_some_iff.1 p).1;have j:=(Array.getElem?_eq_some_iff.1 q).1;obtain⟨N,hN⟩:∃N,N=w.heap.size:=⟨_,rfl⟩;obtain⟨W,F⟩:∃W,W=World.push w.drew (.cells row 61):=⟨_,rfl⟩;have t:W.heap[N]?=J (.cells row 61 (0,0)):=by rw[F,hN];exact wX w.drew _
 have h:∀k,k<N->W.heap[k]?=w.heap[k]?:=λk T=>by rw[F];exact FA w.drew _ (hN▸T)
 have g:N<W.heap.size:=(Array.getElem?_eq_some_iff.1 t).1;have iI:(ds.extract vo (vo+1*14)).toList.length=14:=ai;have d:∀ty f,(yW #[56,56] ty #[.slice (J ⟨N,0,Z⟩) (n+1) f,.slice (J ⟨vb,vo,Z⟩) 1 vc]).run eP W=.ok (goInt 1) (World.eU W N (.cells (over row 0 (ds.extract vo (vo+1*14)).toList) 61 (0,0))):=λty f=>QN (m:=1) t ((h vb (hN▸j)).trans q) (by rfl) ab ab B;obtain⟨a,K⟩:∃a,a=World.eU W N (.cells (over row 0 (ds.extract vo (vo+1*14)).toList) 61 (0,0)):=⟨_,rfl⟩;have l:a.drew.heap[N]?=J (.cells (over row 0 (ds.extract vo (vo+1*14)).toList) 61 (0,0)):=by rw[K];exact Aq _ _ g
 have H:a.drew.heap[b]?=J (.cells cs e O):=by rw[K];exact(BS _ _ ab).trans ((h b (hN▸i)).trans p)
 have I:(over row 0 (ds.extract vo (vo+1*14)).toList).size=row.size:=Ai _ _ _ ab;have u:∀ty f D,(yW #[56,56] ty #[.slice (J ⟨N,14,Z⟩) n f,.slice (J ⟨b,o,Z⟩) n D]).run eP a.drew=.ok (goInt n) (World.eU a.drew N (.cells (over (over row 0 (ds.extract vo (vo+1*14)).toList) 14 (cs.extract o (o+n*14)).toList) 61 (0,0))):=λty f D=>QN (m:=n) l H ab ab ab A;have z:World.eU a.drew N (.cells (over (over row 0 (ds.extract vo (vo+1*14)).toList) 14 (cs.extract o (o+n*14)).toList) 61 (0,0))=World.eU W.drew N (.cells (over (over row 0 (ds.extract vo (vo+1*14)).toList) 14 (cs.extract o (o+n*14)).toList) 61 (0,0)):=by rw[K];exact YR W.drew N _ _
 rw[<-F,<-hN]at r|-;rw[<-K]at d;rw[<-z];clear z l H I K F hN t h g iI p q A B Y i j X s;go_enter Tryz.func399,Tryz.ntmps399;go_wp2_with(first|(at_builtin;refine Lib.wpList_append_run _ rfl _ _ _ _ rfl _ _ rfl rfl _ _ (r _) ?_)|(at_builtin;refine wpList_copy_runI _ rfl _ _ 56 56 rfl _ _ rfl rfl (d _ _) ?_));go_region_law_o(refine step_copy_runI rfl _ _ 56 56 rfl _ _ (by simp[Act.eval,Act.put]) (by simp[Act.eval,Act.put]) (u _ _ _) ?_);go_wp2;go_ret;simp_all
end Go.Proofs
namespace Go.AM
open Go Go.VM Proofs Proofs.Tryz
theorem Ci{f:bV}{v:Array aC}{w:aW}{R:Ending->aW->Prop}(h:Calls PP f v w R)(c:dh)(s:List dh):∃e a,R e a/\∀u,e=.returned u->Steps PP (fc (Frame.enter PP f v .normal) (c::s) w) (fc (c.finish u) s a):=by obtain⟨e,a,fr,b,K,y,m⟩:=h _;refine⟨e,a,b,λu d=>?_⟩;subst d;exact Steps.trans K (Steps.head (step_leave_returned m) (Steps.refl _ _))
theorem JS{f:bV}{n:Func}{b:bF}(c:PP.funcs[f]?=J n)(h:n.body=J b)(a:Array aC)(w:aW):(callFunc f a).run PP w=.ok (.enter f a) w:=by grind[JR,Fy]
def Cj(n m k:Nat):ah Nat->Bool|some c=>aw c n|none=>br m k
def Ln(i o n:Nat)(c:ah Nat)(w W:Nat)(H:Heap):ah (AV×Heap):=match H.get i with|some (.cells l r f e)=>(H.load w W 14).bind λx=>(H.load i o (n*14)).bind λa=>bif(f.wr&&(br (H.bn r).1 i&&(aw (H.bn r).2 i&&aw e 61)))&&(!(aw (rootOf H w) r)&&(cm n 1000000000&&Cj n (eM l) (o+n*14) c))then J (.sl H.next 0 (n+1) Z 14,H.gM r (H.bn r).1 V (x++a) 61)else Z|_=>Z
def Qs(a:cg):cg:=λf args H=>bif aw f 399 then(match args with|[.sl id o n c 14,.int .i64 (.ofNat 0),.sl w i 1 _ 14]=>J (Ln id o n c w i H)|_=>J Z)else a f args H
theorem afN{S:Nat->Prop}{g:bc}{H:Heap}{w:aW}(G:bM S g H w){d o n:Nat}{p:Pl}{l:aJ}(F:g d=J p)(A:S (rootOf H d))(h:H.load d o n=J l):∃c f e1,w.heap[p.aY]?=J (.cells c e1 f)/\c.size=p.oc/\p.base+o+n<=c.size/\ba g l (c.extract (p.base+o) (p.base+o+n)).toList/\(∀x,x∈l->x.aV=V)/\∀v,v∈(c.extract (p.base+o) (p.base+o+n)).toList->vH v=V:=by
 unfold Heap.load at h;rcases q:H.cellsOf d with _|m;.grind
 simp only[q,cQ,dg,dS,pI,ql]at h;by_cases a:o+n<=m.length;.have u:J ((m.drop o).take n)=J l:=ai;cases u;obtain⟨r,I,e,B,b⟩:=JV q;obtain⟨s,E⟩:=Cg G F A B b;obtain⟨c,f,e1,j,y,k,z⟩:=s.slice E a;obtain⟨K,_,_,k1,k2,_⟩:=s;rw[j]at k1;obtain⟨rfl,_⟩:=Obj.cells.inj (bt k1);refine⟨c,f,e1,j,k2,y,k,z,λv b=>?_⟩;obtain⟨i,D⟩:=List.mem_iff_getElem?.1 b;have t:i<((m.drop o).take n).length:=ai;exact(k.2 i _ _ (dD t) D).aV aT
 grind
theorem aKN{e:bc}{a b:aJ}{u d:List aC}(h:ba e a u)(f:ba e b d){r:Array aC}{s:Nat}(j:∀k,k<u.length->r[s+k]?=u[k]?)(l:∀k,k<d.length->r[s+u.length+k]?=d[k]?):∀(i:Nat)(x:AV),(a++b)[i]?=J x->∃c,r[s+i]?=J c/\VR e x c:=by intro i x g;obtain⟨v,m,hr⟩:=(h.append f).get g;grind
set_option maxRecDepth 10000
theorem ajo:lV PP 61=J [.int .i64 0,.bC,.int .i64 0,.int .i64 0,.int .i64 0,.int .i64 0,.int .i64 0,.bC,.int .i64 0,.int .i64 0,.int .i64 0,.int .i64 0,.int .i64 0,.str []]:=by rfl
theorem aE9{ak:cg}(hp:jH PP ak):jH PP (Qs ak):=by
 intro f args H v H' h aa g av c F hi K hg hv;unfold Qs at h;rw[bE]at h;by_cases hf:f=399
 . subst hf;simp only[dM,aR]at h;split at h
   . rename_i id d n c0 wQ W cv;have h:=bt h;unfold Ln at h;split at h
     . rename_i l r fl e kO;obtain⟨cx,KJ,h⟩:=aF h;obtain⟨Y,kN,h⟩:=aF h;rcases TT:((fl.wr&&(br (H.bn r).1 id&&(aw (H.bn r).2 id&&aw e 61)))&&(!(aw (rootOf H wQ) r)&&(cm n 1000000000&&Cj n (eM l) (d+n*14) c0)))with _|_;.grind
       rw[TT]at h;obtain⟨rfl,rfl⟩:=il (bt h);simp only[gD,dg,bE,eK,gZ,Nj,qj]at TT;obtain⟨⟨hwr,Bo,Eu,rfl⟩,EE,mM,qp⟩:=TT;obtain⟨x1,t1,e1,kS,nT⟩:=hv.cons_inv;obtain⟨x2,t2,e2,oK,qu⟩:=nT.cons_inv;obtain⟨x3,t3,e3,Po,ht3⟩:=qu.cons_inv;obtain rfl:=ht3.rG;subst e2;subst e3;cases oK;cases kS with|sl _ _ _ _ _ p T i k1 k2 k3 k4 k5 k6 k7 k8=>cases Po with|sl _ _ _ _ _ q aGC B j1 j2 j3 j4 j5 j6 j7 j8=>
       have uU:av=#[.slice (J T) n i,.int .i64 0,.slice (J aGC) 1 B]:=ai;subst uU;obtain rfl:=j6 ab;have nN:fl≠.ro:=by grind[fM.wr]
       have vd:=(K.stat.cw id p k1).1;have eC:¬fI H id:=by rintro⟨l',r',e',hh⟩;grind
       have ia:rootOf H id=r:=pY kO;have cB:q.aY≠p.aY:=λx=>EE (by rw[<-ia];exact(K.stat.inj id wQ p q k1 j1 x.symm eC).symm);obtain⟨ix,uk⟩:=Cg K k1 trivial kO Bo;obtain⟨A,fz,ee,X,a2,a3,a4,a5,a6,a7⟩:=ix;obtain⟨rfl,rfl⟩:=a6 nN;obtain⟨A',Tz,ee',b1,b2,b3,b4,b5,b6⟩:=afN K k1 trivial kN;rw[X]at b1;obtain⟨rfl,_,_⟩:=Obj.cells.inj (bt b1);obtain⟨D,fd,ed,d1,d2,d3,d4,d5,d6⟩:=afN K j1 trivial KJ;have fG:∀g,(callFunc 399 #[.slice (J T) n i,.int .i64 0,.slice (J ⟨q.aY,q.base+W,Z⟩) 1 B]).run PP g=.ok (.enter 399 _) g:=λg=>JS Tryz.func399 rfl _ g;have hul:(D.extract (q.base+W) (q.base+W+14)).toList.length=14:=ai;have qx:(A.extract (p.base+d) (p.base+d+n*14)).toList.length=n*14:=ai;generalize Lg:(D.extract (q.base+W) (q.base+W+14)).toList=s at*;generalize uo:(A.extract (p.base+d) (p.base+d+n*14)).toList=y at*;have aum:(cx++Y).length=(n+1)*14:=by rw[gJ,d4.1,b4.1,hul,qx];omega
       have fin:∀(j:aW)(z:Pl)(N:Nat)(t:Array aC),g.heap.size<=j.heap.size->(j.os=g.os/\j.tape=g.tape/\j.output=g.output)->(∀b,b<g.heap.size->b≠p.aY->j.heap[b]?=g.heap[b]?)->((z.aY=p.aY/\p.base+p.len<=z.base+z.len)\/(g.heap.size<=z.aY/\z.aY<j.heap.size))->z.len=(n+1)*14->j.heap[z.aY]?=J (.cells t 61 (0,0))->t.size=z.oc->(∀k,k<14->t[z.base+k]?=s[k]?)->(∀k,k<n*14->t[z.base+14+k]?=y[k]?)->n+1<=N->z.base+N*14<=z.oc->Steps PP (fc (Frame.enter PP 399 #[.slice (J T) n i,.int .i64 0,.slice (J ⟨q.aY,q.base+W,Z⟩) 1 B] .normal) (c::F) g) (fc (c.finish (.slice (J ⟨z.aY,z.base,Z⟩) (n+1) N)) F j)->∃ψ j u,fT aa H g ψ (H.gM r (H.bn r).1 V (cx++Y) 61) j/\VR ψ (.sl H.next 0 (n+1) Z 14) u/\((callFunc 399 #[.slice (J T) n i,.int .i64 0,.slice (J ⟨q.aY,q.base+W,Z⟩) 1 B]).run PP g=.ok (.value u) j\/((callFunc 399 #[.slice (J T) n i,.int .i64 0,.slice (J ⟨q.aY,q.base+W,Z⟩) 1 B]).run PP g=.ok (.enter 399 #[.slice (J T) n i,.int .i64 0,.slice (J ⟨q.aY,q.base+W,Z⟩) 1 B]) g/\Steps PP (fc (Frame.enter PP 399 #[.slice (J T) n i,.int .i64 0,.slice (J ⟨q.aY,q.base+W,Z⟩) 1 B] .normal) (c::F) g) (fc (c.finish u) F j))):=by
         intro j z N t f1 f2 f3 f4 f5 f6 f7 f8 f9 f10 f11 f12;have hm:(n+1)*14<=N*14:=lD _ f10;have O2:lY aa j (.cells (cx++Y) r .op 61) z:=by
           refine⟨t,(0,0),_,f6,f7,ab,?_,λa ha=>?_,λ_=>⟨rfl,rfl⟩,λh=>ai⟩;.exact aKN d4 b4 (λk E=>f8 k ab) (λk E=>ai)
           grind
         have pR:=TD hi K k1 kO nN Eu (H.bn r).1 rfl (cx++Y) V z ab f1 f2 f3 f4 (λh=>ai) O2;refine⟨_,j,_,⟨pR.1,pR.2.1.RT λ_=>trivial,pR.2.2⟩,.sl H.next 0 (n+1) Z 14 z ⟨z.aY,z.base,Z⟩ N (jD ..) f10 ab (λk E=>ai) (λ_=>ab) (λ_=>rfl) ab ab,.inr ⟨fG g,f12⟩⟩
       obtain⟨ti,t1,t2,t3⟩:=Ij Ux;obtain⟨I,z1,z2,_⟩:=ZM (φ:=aa) ajo t1;have z3:I.cells.size=14:=by have:=z2.1;rw[Array.length_toList]at this;exact this.symm
       have hX:(D.extract (q.base+W) (q.base+W+14)).size=14:=ai;have mf:∀j,j.heap=g.heap->(oq 14 1 (.slice (J ⟨q.aY,q.base+W,Z⟩) 1 B)).run PP j=.ok (D.extract (q.base+W) (q.base+W+14)) j:=λj e=>I3 (n:=1*14) (by rw[e];omega) d3;have Q:PP.underlying 56=J (.slice 61):=underlying56;have hu3:PP.underlying 3=J (.int .i64):=underlying3;by_cases iU:n=0
       . subst iU;by_cases R:1<=i
         . obtain rfl:=k6 ab;have zK:p.base+d+s.length<=A.size:=ab;have cj:=MA (P:=PP) X zK (λv hv=>d6 v hv);have je:∀ty,(sP #[56,56] ty #[.slice (J ⟨p.aY,p.base+d,Z⟩) 0 i,.slice (J ⟨q.aY,q.base+W,Z⟩) 1 B]).run PP g=.ok (.slice (J ⟨p.aY,p.base+d,Z⟩) (0+1) i) (World.eU g p.aY (.cells (over A (p.base+d) s) 61 (0,0))):=λty=>aid rfl Q xc rfl Q (λk h=>ai) rfl (mf g rfl) ab (by grind[wc]);obtain⟨e,j,⟨rfl,M⟩,L⟩:=Ci (afc je) c F;subst M;refine fin (World.eU g p.aY (.cells (over A (p.base+d) s) 61 (0,0))) ⟨p.aY,p.base+d,p.oc,14⟩ i (over A (p.base+d) s) (by simp[BT]) ⟨rfl,rfl,rfl⟩ (λb _ h=>BS g _ h) (.inl ⟨rfl,?_⟩) rfl (Aq g _ vd) ((Ai _ _ _ zK).trans a2) (λk E=>?_) (λk E=>ab) R k3 (L _ rfl)
           . show p.base+p.len<=p.base+d+14;rcases c0 with _|k;.grind[Cj,dg,dS]
             grind[Cj,bE]
           .show(over A (p.base+d) s)[p.base+d+k]?=_;rw[uz _ _ _ zK,if_pos ab];congr 1;omega
         . obtain⟨m,g1,g2⟩:=run_append_grow (P:=PP) (w:=g) (ats:=#[56,56]) (ty:=56) (eT:=0) (iY:=i) (n:=1) (base:=J T) (xv:=.slice (J ⟨q.aY,q.base+W,Z⟩) 1 B) (old:=#[]) rfl Q t1 z1 rfl Q (λk h=>ai) rfl (by rw[t2];exact mf g.drew rfl) ab (by simp[oq,loadCells,loadCellsFrom]) (by rw[t3];decide) eY;obtain⟨e,j,⟨rfl,M⟩,L⟩:=Ci (afc (λty=>(show _=_ from by rw[<-g2];rfl))) c F;subst M;have hR:(#[]++D.extract (q.base+W) (q.base+W+14)++nF I.cells (m-(0+1))).size=m*14:=by grind[ZL]
           refine fin (World.push g.drew (.cells (#[]++D.extract (q.base+W) (q.base+W+14)++nF I.cells (m-(0+1))) 61)) ⟨g.heap.size,0,m*14,14⟩ m (#[]++D.extract (q.base+W) (q.base+W+14)++nF I.cells (m-(0+1))) (by simp[Dg]) ⟨rfl,rfl,rfl⟩ (λb hb _=>FA g.drew _ hb) (.inr ⟨bJ _,by simp[Dg]⟩) rfl (wX g.drew _) hR (λk E=>?_) (λk E=>ab) g1 aO (L _ rfl);grind
       . by_cases R:n+1<=i
         . obtain rfl:=k6 ab;have hm:(n+1)*14<=i*14:=lD _ R;have U:=aw0 (vc:=B) (c:=i) (o:=p.base+d) (vo:=q.base+W) (n:=n) X d1 cB ab mM R ab d3 ai ai;rw[Nat.one_mul,uo,Lg]at U;obtain⟨e,j,⟨rfl,M⟩,L⟩:=Ci U c F;subst M;have S:p.base+d+14+y.length<=A.size:=ab;have iI:=Ai A (p.base+d+14) y S;have O:p.base+d+s.length<=(over A (p.base+d+14) y).size:=ab;refine fin (World.eU g.drew p.aY (.cells (over (over A (p.base+d+14) y) (p.base+d) s) 61 (0,0))) ⟨p.aY,p.base+d,p.oc,(n+1)*14⟩ i (over (over A (p.base+d+14) y) (p.base+d) s) (by simp[BT]) ⟨rfl,rfl,rfl⟩ (λb _ h=>BS g.drew _ h) (.inl ⟨rfl,?_⟩) rfl (Aq g.drew _ vd) ((Ai _ _ _ O).trans (iI.trans a2)) (λk E=>?_) (λk E=>?_) R k3 (L _ rfl)
           . show p.base+p.len<=p.base+d+(n+1)*14;rcases c0 with _|k;.grind[Cj,dg,dS]
             grind[Cj,bE]
           .show(over (over A (p.base+d+14) y) (p.base+d) s)[p.base+d+k]?=_;rw[uz _ _ _ O,if_pos ab];congr 1;omega
           .show(over (over A (p.base+d+14) y) (p.base+d) s)[p.base+d+14+k]?=_;rw[uz _ _ _ O,if_neg ab,uz _ _ _ S,if_pos ab];congr 1;omega
         . have tf:T=⟨p.aY,p.base+d,Z⟩:=k6 ab;obtain⟨m,g1,g2⟩:=aie (P:=PP) (w:=g) (ats:=#[56,3]) (ty:=56) (eT:=0) (iY:=i) (n:=n+1) (base:=J T) (old:=#[]) rfl Q t1 z1 rfl hu3 ab ab (by simp[oq,loadCells,loadCellsFrom]) (by rw[t3];show _<=1099511627776;omega) (by show _<=1099511627776;omega);have hR:(#[]++nF I.cells (n+1)++nF I.cells (m-(0+(n+1)))).size=m*14:=by grind[ZL]
           generalize#[]++nF I.cells (n+1)++nF I.cells (m-(0+(n+1)))=row at*;subst tf;have U:=awZ (vc:=B) (c:=i) (o:=p.base+d) (vo:=q.base+W) (n:=n) (G:=m) (row:=row) X d1 ab mM ab k2 ab d3 ai ai ab ab (λty=>by have:=g2;rw[iZ]at this;exact this);rw[Nat.one_mul,uo,Lg]at U;obtain⟨e,j,⟨rfl,M⟩,L⟩:=Ci U c F;subst M;have S:0+s.length<=row.size:=ab;have iI:=Ai row 0 s S;have O:14+y.length<=(over row 0 s).size:=ab;have hN:g.heap.size<(World.push g.drew (.cells row 61)).heap.size:=by simp[Dg]
           refine fin (World.eU (World.push g.drew (.cells row 61)).drew g.heap.size (.cells (over (over row 0 s) 14 y) 61 (0,0))) ⟨g.heap.size,0,m*14,(n+1)*14⟩ m (over (over row 0 s) 14 y) (by rw[BT];exact Nat.le_of_lt hN) ⟨rfl,rfl,rfl⟩ (λb hb _=>(BS _ _ ab).trans (FA g.drew _ hb)) (.inr ⟨bJ _,by rw[BT];exact hN⟩) rfl (Aq _ _ hN) ((Ai _ _ _ O).trans (iI.trans hR)) (λk E=>?_) (λk E=>?_) ab aO (L _ rfl);.show(over (over row 0 s) 14 y)[0+k]?=_;rw[uz _ _ _ O,if_neg ab,uz _ _ _ S,if_pos ab];grind
           grind[uz]
     grind
   grind
 .simp only[hf,kM,bS]at h;exact hp f args H v H' h aa g av c F hi K hg hv
open Go.Sort
def Io:aJ->ah cE|[]=>J []|.int .i64 z::l=>(Io l).map λt=>z::t|_=>Z
theorem afe:∀{l:aJ}{zs:cE},Io l=J zs->l=zs.map (AV.int .i64)
 |[],zs,h=>by cases h;rfl|a::l,zs,h=>by
  unfold Io at h;split at h;.simp at*
  .rename_i z t e;obtain⟨rfl,rfl⟩:=List.cons.inj e;obtain⟨c,b,rfl⟩:=Option.map_eq_some_iff.1 h;rw[afe b];rfl
  .simp at h
def rowP(f:cE->cE)(H:Heap)(i o n:Nat):ah (cE×Heap):=bif cm 0 n&&cm n 1000000000 then(H.load i o n).bind λl=>(Io l).bind λzs=>(H.store i o ((f zs).map (AV.int .i64))).map λa=>(zs,a)else Z
def FZ(l:cE):cE:=l.mergeSort λx y=>decide (x<=y)
def Cm(l:cE):cE:=sR l++lW (l.length-(sR l).length) 0
def Qt(a:cg):cg:=λf args H=>bif aw f 275 then(match args with|[.bC]=>J (J (.cM [],H))|[.sl id o n _ 1]=>J ((rowP FZ H id o n).map λr=>(.cM [],r.2))|_=>J Z)else bif aw f 276 then(match args with|[.bC]=>J (J (.bC,H))|[.sl id o n c 1]=>J ((rowP Cm H id o n).map λr=>(.sl id o (sR r.1).length c 1,r.2))|_=>J Z)else a f args H
theorem abu(l:cE):(sR l).length<=l.length:=by grind[sR,Lib.compactUpTo]
theorem ah4{f:cE->cE}{H a:Heap}{i o n:Nat}{s:cE}(h:rowP f H i o n=J (s,a)):0<n/\n<1000000000/\H.load i o n=J (s.map (AV.int .i64))/\H.store i o ((f s).map (AV.int .i64))=J a:=by
 unfold rowP at h;rcases c:(cm 0 n&&cm n 1000000000)with _|_;.grind
 rw[c]at h;simp only[gD,eK,gZ]at c;obtain⟨l,b,h⟩:=aF h;obtain⟨z,d,h⟩:=aF h;grind[ja,afe]
theorem aFa{E:cg}(M:jH PP E):jH PP (Qt E):=by
 intro f args H v G h x w d c s j l K m;unfold Qt at h;rw[bE,bE]at h;by_cases g:f=275
 . subst g;simp only[dM,aR]at h;split at h;.obtain⟨rfl,rfl⟩:=il (bt (bt h));obtain⟨x1,t1,e1,S,T⟩:=m.cons_inv;obtain rfl:=T.rG;cases S;have u:d=#[.slice Z 0 0]:=ai;subst u;obtain⟨e,t,⟨rfl,rfl⟩,k⟩:=Ci (Any.slices_Sort_int_none Tryz.afA Z 0 w) c s;exact⟨x,t,.tuple #[],fT.refl j l,.cM [] #[] rfl (λi a v h=>ai),.inr ⟨JS Tryz.func275 rfl _ _,k _ rfl⟩⟩
   .rename_i id o n F;obtain⟨r,hr,e⟩:=Option.map_eq_some_iff.1 (bt h);obtain⟨rfl,rfl⟩:=il e;obtain⟨zs,I⟩:=r;obtain⟨N,O,A,y⟩:=ah4 hr;obtain⟨x1,t1,e1,S,T⟩:=m.cons_inv;obtain rfl:=T.rG;cases S with|sl _ _ _ _ _ p z b k1 k2 k3 k4 k5 k6 k7 k8=>have u:d=#[.slice (J z) n b]:=ai;subst u;obtain rfl:=k6 ab;obtain⟨r1,r2,B,D⟩:=ah5 j l k1 A (List.length_mergeSort zs) y;subst r2;obtain⟨e,t,⟨rfl,q,P,rfl⟩,k⟩:=Ci (Any.slices_Sort_int Tryz.afA p.aY (p.base+o) b zs w B r1 ab) c s;exact⟨x,_,.tuple #[],D q P,.cM [] #[] rfl (λi a v h=>ai),.inr ⟨JS Tryz.func275 rfl _ _,k _ rfl⟩⟩
   grind
 . simp only[g,kM,bS]at h;by_cases g:f=276
   . subst g;simp only[dM,aR]at h;split at h;.obtain⟨rfl,rfl⟩:=il (bt (bt h));obtain⟨x1,t1,e1,S,T⟩:=m.cons_inv;obtain rfl:=T.rG;cases S;have u:d=#[.slice Z 0 0]:=ai;subst u;obtain⟨e,t,⟨rfl,rfl⟩,k⟩:=Ci (Any.slices_Compact_int_empty Tryz.afB Z 0 w) c s;exact⟨x,t,_,fT.refl j l,.bC,.inr ⟨JS Tryz.func276 rfl _ _,k _ rfl⟩⟩
     .rename_i id o n F;obtain⟨r,hr,e⟩:=Option.map_eq_some_iff.1 (bt h);obtain⟨rfl,rfl⟩:=il e;obtain⟨zs,I⟩:=r;obtain⟨N,O,A,y⟩:=ah4 hr;obtain⟨x1,t1,e1,S,T⟩:=m.cons_inv;obtain rfl:=T.rG;cases S with|sl _ _ _ _ _ p z b k1 k2 k3 k4 k5 k6 k7 k8=>have u:d=#[.slice (J z) n b]:=ai;subst u;obtain rfl:=k6 ab;have L:=abu zs;obtain⟨r1,r2,B,D⟩:=ah5 j l k1 A (ys:=Cm zs) (by grind[Cm]) y;subst r2;obtain⟨e,t,⟨rfl,q,rfl⟩,k⟩:=Ci (Any.slices_Compact_int Tryz.afB p.aY (p.base+o) b zs w B ab k2) c s;refine⟨x,_,_,?_,.sl id o (sR zs).length F 1 p ⟨p.aY,p.base+o,Z⟩ b k1 ab k3 k4 k5 (λ_=>rfl) k7 ab,.inr ⟨JS Tryz.func276 rfl _ _,k _ rfl⟩⟩;have:=D q #[];rw[grow_empty]at this;exact this
     grind
   .simp only[g,kM,bS]at h;exact M f args H v G h x w d c s j l K m
end Go.AM
namespace Go.VM
open Go Go.AM Proofs.Tryz
set_option maxRecDepth 100000
set_option maxHeartbeats 4000000
variable{e I:Nat}{l:aq}
theorem azd{a b n:Nat}{c:ah Nat}:nv (.sl a b n c e)=J n:=(rfl)
theorem UG:aA 1 (.ofNat 2)=V:=(rfl)
theorem UH:aA 2 (.ofNat 2)=C:=(rfl)
section
variable{P:aG}{ak:cg}{rec:AM.Rec}{ops:Array aB}{fr:cD}{H:Heap}{o:aB}{l:List aB}{j:Nat}{log:List (Nat×jn)}
theorem aGw:H.resume H.fresh=H:=(rfl)
theorem atw{j:Nat}{d:jn}{H:Heap}(h:H.cG=[]):rk ops o j d H=V:=by grind[rk]
theorem f_w:H.fresh.bT=[]:=(rfl)
theorem f_g:H.fresh.cG=[]:=(rfl)
theorem aj8{a:Type}{f:a->Bool}:AM.kY f []=V:=(rfl)
theorem aj7{b:Type}{f:b->Bool}{a:b}{l:List b}:AM.kY f (a::l)=bif f a then AM.kY f l else C:=(rfl)
theorem aK4{r:ah (List (AM.Touch×Nat))}:AM.within ⟨r,[]⟩=V:=by cases r<;>rfl
theorem aK5{w:aD}:AM.within ⟨Z,w⟩=V:=(rfl)
theorem akB{r a:ah (List (AM.Touch×Nat))}:apart ⟨r,[]⟩ ⟨a,[]⟩=V:=by rfl
end
theorem ayI{a b n:Nat}{c:ah Nat}:qA (.sl a b n c e)=J n:=(rfl)
attribute[local go_sem]body uN wj xD xE xF D0 cD.uG cD.QR cD.QQ DF B2 Ge Gg DB Gh Gk DH DG Gf Gp Gi Gl Gm Gn Nd DC Gj B0 DD B1 DE BZ ayI aGw f_w f_g aj8 aj7 aK4 aK5 akB aia aic J3 vP ff dX ahb aha ag7 ag6 ag8 ag9 Dq wU C8 eZ aiT yA ur im xG Il azd hJ gF cQ ahG cu aiJ kZ jQ jF UG UH w00 agl aga agD DP Nat.sub_zero tQ iZ ar1 ar2 ar3 dS IT
attribute[local congr]bz bA
theorem anC(k:cg)(H q e:Heap)(d o a i j:Nat)(c b g r:ah Nat)(x:AV)(y z:aJ)(p:lV PP 61=J z)(l:z.length=14)(v:k 401 [.sl d o a c 14,hJ i,hJ j] H=Z)(I:i<j)(K:II x=J x)(D:AM.pD PP H 56 (.sl d o a c 14) (J (.int .i64 (.ofNat i))) (J (.int .i64 (.ofNat j))) (J (.int .i64 (.ofNat a)))=J x)(E:∀H,AM.pD PP H 56 (.sl d o a c 14) Z (J (.int .i64 (.ofNat i))) Z=J (.sl d o i b 14))(F:∀H,AM.pD PP H 56 (.sl d o a c 14) (J (.int .i64 (.ofNat j))) Z Z=J (.sl d (o+j*14) (a-j) g 14))(G:AM.pD PP (H.resume q) 56 (.sl d o (i+(a-j)) b 14) (J (.int .i64 (.ofNat (i+(a-j))))) (J (.int .i64 (.ofNat a))) Z=J (.sl d (o+(i+(a-j))*14) (a-(i+(a-j))) r 14))(w:qo H.fresh 14 (a-j) (.sl d (o+j*14) (a-j) g 14)=J y)(u:nd H.fresh 61 14 152 (.sl d o i b 14) y (a-j)=J (.sl d o (i+(a-j)) b 14,q))(s:q.cG=[])(h:a-(i+(a-j))≠0)(t:(H.resume q).store d (o+(i+(a-j))*14) (jA (a-(i+(a-j))) z)=J e):Gw PP k 401 [.sl d o a c 14,hJ i,hJ j] H (.sl d o (i+(a-j)) b 14) e:=by
 refine dQ.ev (fr:={fn:=401,n:=33,tmps:=((Tr.nil.ins 0 (.sl d o a c 14)).ins 1 (hJ i)).ins 2 (hJ j),todo:=[.code ((f401.body).getD .skip)],defers:=[],mode:=.run,roundOf:=Z}) (by unfold wx;rw[func401];kernel_rfl) v ?_;obtain⟨f,A,B,q3⟩:=Ij Ux;have t1:qK (bw f401 5) 2 6=V:=by rfl
 have t2:qK (bw f401 5) 5 6=V:=by rfl
 have t3:vD (bw f401 5)=V:=by rfl
 simp(config:={maxSteps:=1000000})only[bw,opsOf,f401,go_sem]at t1 t2 t3;have d6:aj (.ofNat i) (.ofNat j)=C:=by show aw i j=C;grind[kK]
 have d7:decide (a-(i+(a-j))=0)=C:=xK h;show dQ PP k {fn:=401,n:=33,tmps:=_,todo:=[.code (Code.seq _ _)],defers:=[],mode:=.run,roundOf:=Z} H _;iterate 12(refine dQ.step 0 (λm h=>by simp only[go_sem,D,d6];rfl) ?_)
 refine dQ.step 0 (λm h=>by
 simp only[go_sem,t3];iterate 8 rw[FN];simp only[go_sem,p,l,A,B,q3,t1,t2,E,F,w,u,s,atw,nY,Bool.or_true,eA,sI,wZ]
 rfl) ?_;iterate 5(refine dQ.step 0 (λm h=>by simp only[go_sem,p,l,G,d7,t];rfl) ?_)
 exact dQ.fin (by rfl) rfl
set_option maxRecDepth 10000
section
variable{K K':aX}{φ:ch}{ω:aI}{H H':Heap}{lb:dV}{g:GH}
theorem aap{d:DV}{o:aM}{z:aJ}(h:oQ K φ ω H [d] o z):∃a,z=[a]/\cN K φ ω H (.sl 0) d a o:=by obtain⟨b,c⟩:=h;match z,b with|[a],_=>exact⟨a,rfl,c 0 d a rfl rfl⟩
theorem RV{d e:DV}{o:aM}{z:aJ}(h:oQ K φ ω H [d,e] o z):∃a b,z=[a,b]/\cN K φ ω H (.sl 0) d a o/\DR K φ e b:=by obtain⟨f,c⟩:=h;match z,f with|[a,b],_=>exact⟨a,b,rfl,c 0 d a rfl rfl,c 1 e b rfl rfl⟩
theorem aaq{d e f:DV}{o:aM}{z:aJ}(h:oQ K φ ω H [d,e,f] o z):∃a b c,z=[a,b,c]/\cN K φ ω H (.sl 0) d a o/\DR K φ e b/\DR K φ f c:=by obtain⟨i,g⟩:=h;match z,i with|[a,b,c],_=>exact⟨a,b,c,rfl,g 0 d a rfl rfl,g 1 e b rfl rfl,g 2 f c rfl rfl⟩
theorem Vt{s:Nat}{a:AV}{o:aM}(h:cN K φ ω H (.sl 0) (.ay l e s) a o)(x:vw o=V):∃r id I c cells f,ω (.sl 0)=J (r,V)/\a=.sl id I l.length c s/\H.get id=J (.cells cells r f e)/\f.wr=V/\(H.bn r).1<=id/\(H.bn r).2=id/\gI K φ l s I cells/\Gu H id I l.length s r c cells:=by cases o with
 |ex g=>
 rcases h with⟨h,_⟩|⟨r,b,d⟩;.simp at h
 .obtain⟨i,p,id,I,c,cells,f,k1,k2,k3,k4,k5,k6,k7,k8⟩:=d.ex;obtain⟨rfl,rfl,rfl⟩:=DV.ay.inj k1;exact⟨r,id,I,c,cells,f,b,k2,k3,k4,k5,k6,k7,k8⟩|any=>obtain⟨h,_⟩:=h;simp at h|_=>simp[vw]at x
theorem P9{a:AV}{o:aM}{p:Pk}(h:cN K φ ω H p .nl a o):a=.bC:=by
 have k:DR K φ .nl a->a=.bC:=λh=>by cases h;rfl
 cases o with|no=>exact k h|any=>exact h.2|ty e=>exact k h.1|full e=>exact k h.1|ex e=>
 rcases h with h|⟨r,_,h⟩;.exact h.2
 .obtain⟨l,P,id,I,c,cells,f,k1,_⟩:=h.ex;simp at k1
theorem gI.load{s:Nat}{c:aJ}(h:gI K φ l s I c){i r:Nat}{f:fM}{e:an}(g:H.get i=J (.cells c r f e))(v:(H.bn r).1<=i):H.load i I (l.length*s)=J ((c.drop I).take (l.length*s)):=by unfold Heap.load Heap.cellsOf;simp only[g,dg,v,dM,aR,cQ,dS,pI,ql];rw[lf (show I.add (l.length*s)<=c.length from h.2.1)];rfl
theorem gI.ints{c:aJ}(h:gI K φ l 1 I c)(o:l.all uu=V):(c.drop I).take (l.length*1)=(l.map oj).map (AV.int .i64):=by
 have p:=h.2.1;apply Gz;intro i;by_cases b:i<l.length
 . rw[v7 ab,sS,jo,jo,dD b];have x:uu l[i]=V:=List.all_eq_true.1 o _ (GA b);have m:I+i<c.length:=ab;have f:(l[i]).flat[0]?=J l[i]:=by cases hd:l[i]<;>rw[hd]at x<;>first|rfl|simp[uu]at x
   obtain⟨a,e⟩:∃a,c[I+i]?=J a:=⟨_,dD m⟩;have hr:=h.2.2.2 i l[i] 0 l[i] a (dD b) f (by rw[Nat.mul_one,tQ];exact e);rw[e];generalize l[i]=d at*;cases d with
   |int k n=>
   cases k<;>first|simp[uu]at x|skip
   cases hr;rfl|_=>simp[uu]at x
 . have g:((c.drop I).take (l.length*1))[i]?=Z:=by simp;omega
   have j:((l.map oj).map (AV.int .i64))[i]?=Z:=by simp;omega
   rw[g,j]
theorem aJw{z:cE}{i r:Nat}{c:aJ}{f:fM}{e:an}(g:H.get i=J (.cells c r f e))(w:f.wr=V)(h:(H.bn r).1<=i)(a:(H.bn r).2=i)(b:I+z.length<=c.length):H.store i I (z.map (AV.int .i64))=J (H.dJ i r (.cells (fL c I (z.map (AV.int .i64))) r f e)):=by unfold Heap.store;simp only[g,dg,bE,h,a,w,dS,fZ,dM,xj,yV];rw[lf (show I.add z.length<=c.length from b)];rfl
theorem abY{zs ys:cE}{D:aJ}(c:I+(zs++ys).length<=D.length):gI K φ (zs.map (DV.int .i64)) 1 I (fL D I ((zs++ys).map (AV.int .i64))):=by
 have l:=yJ D I ((zs++ys).map (AV.int .i64)) (by rw[fZ];exact c);refine⟨eY,by rw[l,fZ,Nat.mul_one];rw[gJ]at c;omega,λi x h=>?_,λi x j d a h e b=>?_⟩;.obtain⟨y,_,rfl⟩:=List.mem_map.1 (dw h);exact⟨rfl,λy k=>by obtain rfl:=List.mem_singleton.1 k;rfl⟩
 . rw[jo]at h;obtain⟨z,f,rfl⟩:=Option.map_eq_some_iff.1 h;have B:j=0:=by have:=(List.getElem?_eq_some_iff.1 e).1;have:j<1:=this;omega
   subst B;cases e;have g:=(List.getElem?_eq_some_iff.1 f).1;rw[yI _ _ _ (by rw[fZ];exact c),if_pos (by rw[fZ,gJ];omega)]at b;rw[show I+i*1+0-I=i by omega,jo,mz g,f]at b;cases b;exact .int _ _
end
end Go.VM
namespace Go.AM
open Go Go.VM Proofs.Tryz
def E0:eD:=⟨[],jM (dF gl []),.bool V,[]⟩
def vE:Tr Nat:=(((((Tr.nil.ins 0 0).ins 1 1).ins 2 2).ins 3 3).ins 4 4).ins 5 5
def Qp(a:cg):cg:=λf args H=>bif aw f 6 then(match args with|[]=>J (BX 6 E0 [] H vE)|_=>J Z)else a f args H
theorem aE6{k:cg}(q:Gv PP 6 E0)(r:jH PP k):jH PP (Qp k):=by
 intro f args H v p h o w e c s j l i n;unfold Qp at h;rw[bE]at h;by_cases g:f=6
 . subst g;simp only[dM,aR]at h;split at h;.obtain⟨t,fr,z,E,P,k1,k2,k3,k4,k5⟩:=q;have m:=bt h;rw[<-aho]at m;obtain⟨y,x,u,a,b,d⟩:=ai7 Fy k1 k2 k3 k4 k5 m o w e c s j l i n;exact⟨y,x,u,a,b,.inr d⟩
   .simp at h
 .simp only[g,kM,bS]at h;exact r f args H v p h o w e c s j l i n
theorem G2{E H:Heap}{a:Nat->ah Nat}{i r:Nat}{f:fM}{l:aJ}{e:an}(b:E.get i=J (.cells l i .ro e))(h:a i=J i)(g:H.get i=J (.cells l r f e))(v:(H.bn r).1<=i)(m:cu (nB a 50) l=J l)(q:wy (xO 50) l l=V):tZ E H a i=V:=by unfold tZ;simp only[b,h,g,m,q,bE,dg,v,dM,xi]
theorem ak5{H:Heap}(h:∀(i:Nat)(x:aJ×an),gl[i]?=J x->∃r f,H.get i=J (.cells x.1 r f x.2)/\(H.bn r).1<=i):BX 6 E0 [] H vE=J (.bool V,H):=by
 have k:∀i,i<6->tZ E0.H H (sg E0.H.next vE) i=V:=by intro i c;have n:E0.H.next=6:=aN;rw[n];match i,c with|0,_=>obtain⟨r,f,a,b⟩:=h 0 _ rfl;exact G2 aN aN a b aN aN|1,_=>obtain⟨r,f,a,b⟩:=h 1 _ rfl;exact G2 aN aN a b aN aN|2,_=>obtain⟨r,f,a,b⟩:=h 2 _ rfl;exact G2 aN aN a b aN aN|3,_=>obtain⟨r,f,a,b⟩:=h 3 _ rfl;exact G2 aN aN a b aN aN|4,_=>obtain⟨r,f,a,b⟩:=h 4 _ rfl;exact G2 aN aN a b aN aN|5,_=>obtain⟨r,f,a,b⟩:=h 5 _ rfl;exact G2 aN aN a b aN aN
 have d:Cb (tZ E0.H H (sg E0.H.next vE)) E0.H.next=V:=by have n:E0.H.next=6:=aN;rw[n]at k|-;show(bif tZ E0.H H (sg 6 vE) 5 then(bif tZ E0.H H (sg 6 vE) 4 then(bif tZ E0.H H (sg 6 vE) 3 then(bif tZ E0.H H (sg 6 vE) 2 then(bif tZ E0.H H (sg 6 vE) 1 then(bif tZ E0.H H (sg 6 vE) 0 then V else C)else C)else C)else C)else C)else C)=V;rw[k 0 eY,k 1 eY,k 2 eY,k 3 eY,k 4 eY,k 5 eY];rfl
 unfold BX;rw[d,show NH (sg E0.H.next vE) E0.args []=V from rfl,show TB (sg E0.H.next vE) 6=V from aN];rfl
def mq:cg:=Qp (Qt (Qs (Fz 388 3 1 8 (Fz 402 59 8 88 (Fz 464 394 2 16 (Fz 140 90 5 56 lQ))))))
theorem zc3:lV PP 3=J [.int .i64 0]:=aN
theorem aLj:lV PP 59=J [.int .i64 0,.bC,.int .i64 0,.int .i64 0,.int .i64 0,.int .i64 0,.int .i64 0,.str []]:=aN
theorem aLi:lV PP 394=J [.int .i64 0,.int .i64 0]:=aN
theorem aLk:lV PP 90=J [.int .i64 0,.int .i64 0,.int .i64 0,.int .i64 0,.bC]:=aN
theorem aFe(h:Gv PP 6 E0):jH PP mq:=aE6 h (aFa (aE9 (Qr (Qr (Qr (Qr ahp atr aLk rfl) atv aLi rfl) atu aLj rfl) att zc3 rfl)))
theorem UB:∀b a:aD,VM.qz b a=AM.qz b a|[],a=>by cases a<;>rfl|x::b,[]=>rfl|x::b,y::a=>by show(aw x y&&VM.qz b a)=bif aw x y then AM.qz b a else C;rw[UB b a];cases aw x y<;>rfl
theorem idx_eq(b:aD):∀(a:aD)(i:Nat),CY b i a=Bq b a i|[],i=>by show(bif VM.qz b []then J i else Z)=bif AM.qz b []then J i else Z;rw[UB]|x::a,i=>by show(bif VM.qz b (x::a)then J i else CY b (i+1) a)=bif AM.qz b (x::a)then J i else Bq b a (i+1);rw[UB,idx_eq b a]
end Go.AM
namespace Go.VM
open Go Go.AM Proofs.Tryz
set_option maxRecDepth 10000
variable{ax:AV}{H:Heap}{j I r s:Nat}{v:SV}{st' st1:St}{az:aJ}{ow:aM}{dst:ah Tmp}{e:an}{L:aq}{f:bV}{fl:fM}
section
variable{K:aX}{φ:ch}{ω:aI}{H:Heap}{g:GH}
theorem adB(a:HR K φ ω H [] g)(h:du PP K (λ_=>Z) cf.ao)(i:Nat)(x:aJ×an)(b:gl[i]?=J x):∃r fl,H.get i=J (.cells x.1 r fl x.2)/\(H.bn r).1<=i:=a.dk i x.1 x.2 (h.2 i x b)
theorem Mh{a:AV}(i:HR K φ ω H [] g)(h:mq f az H=J (J (a,H)))(r:jR K φ ω H v a):∃a c d e b,Ev PP mq f az H a c/\Nx K φ ω H d e b c/\HR d e b c [] g/\jR d e b c v a:=⟨a,H,K,φ,ω,.inl h,Nx.refl i,i,r⟩
theorem aFx{d b:aD}(n:HR K φ ω H [] g)(s:du PP K (λ_=>Z) cf.ao)(o:oQ K φ ω H [.str d,.str b] ow az)(q:d.length<4294967281):∃x k l m j,Ev PP mq 330 az H x k/\Nx K φ ω H l m j k/\HR l m j k [] g/\jR l m j k (.dv (match CY b 0 d with|some i=>goN i|none=>.int .i64 (-1)) .no) x:=by
 obtain⟨x,y,rfl,f,p⟩:=RV o;have f:x=.str d:=by cases ow with|no=>cases f;rfl|any=>obtain⟨h,_⟩:=f;simp at h|ty e=>cases f.1;rfl|full e=>cases f.1;rfl|ex e=>
   rcases f with⟨h,_⟩|⟨r,_,h⟩;.simp at h
   .obtain⟨t,P,id,I,c,cells,fl,k1,_⟩:=h.ex;simp at k1
 cases p;subst f;obtain⟨r,fl,k1,k2⟩:=adB n s 2 _ rfl;refine Mh n (a:=Pv (Bq b d 0)) ?_ ?_
 . show(bif Ek H 2&&cm (eM d) 4294967281 then J (J (Pv (Bq b d 0),H))else J Z)=_;have:Ek H 2=V:=by unfold Ek;simp only[k1];rw[dg];exact lf k2
   rw[this,eK,dS,lf q];rfl
 .rw[idx_eq];cases Bq b d 0 with|none=>exact .int _ _|some i=>exact .int _ _
theorem aJF{d:aD}{x:AV}{p:Pk}(a:cN K φ ω H p (.str d) x ow):x=.str d:=by cases ow with|no=>cases a;rfl|any=>obtain⟨h,_⟩:=a;simp at h|ty e=>cases a.1;rfl|full e=>cases a.1;rfl|ex e=>
 rcases a with⟨h,_⟩|⟨r,_,h⟩;.simp at h
 .obtain⟨l,P,id,I,c,cells,fl,k1,_⟩:=h.ex;simp at k1
theorem aFv{f b:aD}(l:HR K φ ω H [] g)(i:oQ K φ ω H [.str f,.str b] ow az):∃x d e h c,Ev PP mq 130 az H x d/\Nx K φ ω H e h c d/\HR e h c d [] g/\jR e h c d (.dv (.int .i64 (cmpL f b)) .no) x:=by obtain⟨x,y,rfl,j,k⟩:=RV i;obtain rfl:=aJF j;cases k;exact Mh l (a:=.int .i64 (cmpL f b)) rfl (.int _ _)
theorem pv6(h:HR K φ ω H [] g)(j:du PP K (λ_=>Z) cf.ao)(f:oQ K φ ω H [] ow az):∃x c d e b,Ev PP mq 6 az H x c/\Nx K φ ω H d e b c/\HR d e b c [] g/\jR d e b c (.dv (.bool V) .no) x:=by have i:az=[]:=List.length_eq_zero_iff.1 f.1.symm;subst i;refine Mh h (a:=.bool V) ?_ (.bool _);show J (BX 6 E0 [] H vE)=_;rw[ak5 (adB h j)]
theorem aEI{f e b n:Nat}(G:0<s)(k:∀H,mq f [.bC,.int .i64 (.ofNat n)] H=bif br (n*b) bl&&br n bl then(bif aw n 0 then J (J (.bC,H))else J (J (.sl H.next 0 0 Z s,H.cP [] .op e)))else J Z)(q:HR K φ ω H [] g)(D:oQ K φ ω H [.nl,.int .i64 (.ofNat n)] ow az)(m:Cz e s b [.nl,.int .i64 (.ofNat n)]=J v):∃x o t u l,Ev PP mq f az H x o/\Nx K φ ω H t u l o/\HR t u l o [] g/\jR t u l o v x:=by obtain⟨x,y,rfl,E,F⟩:=RV D;obtain rfl:=P9 E;cases F;have m:(bif br (n*b) bl&&br n bl then J (bif aw n 0 then SV.dv .nl .any else .dv (.ay [] e s) (.ex e))else Z)=J v:=m;have k:=k H;cases w:(br (n*b) bl&&br n bl)with|false=>rw[w]at m;simp at m|true=>rw[w]at m k;cases m;cases A:aw n 0 with|true=>rw[A]at k;exact Mh q k ⟨rfl,rfl⟩|false=>
 rw[A]at k;have z:bQ (dL ω) H (H.cP [] .op e):=jY H _ _;have L:(H.cP [] .op e).bn H.next=(0,H.next):=A6 (H:=H) q.inv (bJ _);refine⟨_,_,K,φ,_,.inl k,⟨bo.refl _,q.fV z,aU.refl _,z,λB r c h=>?_,rfl,λ_ h=>.inl h,λ_ h=>.inl h⟩,P4 (p:=.sl 0) (v:=J V) q trivial,.inr ⟨H.next,aI.nC ..,[],s,H.next,0,Z,[],.op,rfl,rfl,me H _,rfl,by rw[L];exact lX _,by rw[L],?_,.inl ⟨rfl,by rw[L],aO⟩⟩⟩
 . by_cases e:B=.sl 0;.subst e;rw[aI.nC]at h;obtain⟨rfl,_⟩:=il (bt h);exact .inr (bJ _)
   .rw[aI.kV _ _ e]at h;exact .inl ⟨B,c,h⟩
 .exact⟨G,aO,λi x h=>by simp at h,λi x j d a h=>by simp at h⟩
theorem aff:∀zs:cE,Io (zs.map (AV.int .i64))=J zs|[]=>rfl|z::zs=>by show(Io (zs.map (AV.int .i64))).map (λt=>z::t)=_;rw[aff zs];rfl
theorem ah6{f:cE->cE}{i:Nat}{c:aJ}(g:H.get i=J (.cells c r fl e))(w:fl.wr=V)(h:(H.bn r).1<=i)(b:(H.bn r).2=i)(G:gI K φ L 1 I c)(j:L.all uu=V)(a:0<L.length)(n:L.length<1000000000)(d:(f (L.map oj)).length=L.length):rowP f H i I L.length=J (L.map oj,H.dJ i r (.cells (fL c I ((f (L.map oj)).map (AV.int .i64))) r fl e)):=by unfold rowP;have l:=G.load g h;rw[G.ints j,Nat.mul_one]at l;rw[eK,eK,lf a,lf n,l];simp only[xi,aR,cQ,aff];rw[aJw g w h b (by rw[d];have:=G.2.1;omega)];rfl
theorem ID{t x:Nat}{l:aD}(h:x∈Heap.note t r l):x∈l\/(x=r/\r<t):=(vn h).imp_right λ⟨a,b⟩=>⟨a,a▸b⟩
theorem axE{i:Nat}{m m':aJ}(a:HR K φ ω H [] g)(h:H.get i=J (.cells m r fl e))(b:(H.bn r).2=i):bQ (λx=>x=r) H (H.dJ i r (.cells m' r fl e))/\bg (H.dJ i r (.cells m' r fl e))/\oX (H.dJ i r (.cells m' r fl e))/\(H.dJ i r (.cells m' r fl e)).bu=H.bu/\(∀x,x∈(H.dJ i r (.cells m' r fl e)).bT->x∈H.bT\/(x=r/\r<H.bu))/\∀x,x∈(H.dJ i r (.cells m' r fl e)).cG->x∈H.cG\/(x=r/\r<H.bu):=by refine⟨yw h,QA a.inv h b,F8 a.gV h,BW ..,λx c=>?_,λx c=>by grind[xV]⟩;simp_all[xh,ID]
theorem am0{l:cE}(h:0<l.length):0<(sR l).length:=by
 rcases l with _|⟨x,l⟩;.grind
 have:x∈sR (x::l):=(abC (x::l) x).2 (gK ..);grind
theorem aFw(m:HR K φ ω H [] g)(s:oQ K φ ω H [.ay L 3 1] ow az)(y:vw ow=V)(v:L.all uu=V)(t:0<L.length)(w:L.length<1000000000):∃x f d j b,Ev PP mq 276 az H x f/\Nx K φ ω H d j b f/\HR d j b f [] g/\jR d j b f (.dv (rD (xJ L) 3 1) .no) x:=by
 obtain⟨a,rfl,u⟩:=aap s;obtain⟨r,id,I,c,cells,fl,F,rfl,n,M,p,o,q,N⟩:=Vt u y;have i:=abu (L.map oj);rw[fZ]at i;have z:(Cm (L.map oj)).length=L.length:=by grind[Cm]
 have hr:=ah6 n M p o q v t w z;obtain⟨k1,k2,k3,k4,k5,k6⟩:=axE (m':=fL cells I ((Cm (L.map oj)).map (AV.int .i64))) m n o;have O:mq 276 [.sl id I L.length c 1] H=J (J (.sl id I (sR (L.map oj)).length c 1,H.dJ id r (.cells (fL cells I ((Cm (L.map oj)).map (AV.int .i64))) r fl 3))):=by show J ((rowP Cm H id I L.length).map λr=>(AV.sl id I (sR r.1).length c 1,r.2))=_;grind
 have G:=abY (K:=K) (φ:=φ) (zs:=sR (L.map oj)) (ys:=lW ((L.map oj).length-(sR (L.map oj)).length) 0) (I:=I) (D:=cells) (by have:=q.2.1;grind);obtain⟨d,b,A,B,E⟩:=consume (l:=xJ L) (c:=c) m F k1 k2 k3 k4 k5 k6 (nM ..) (Kj p o).1 G (λk Q=>by unfold xJ;rw[fZ];rcases N with⟨h,_⟩|h<;>grind);refine⟨_,_,d,φ,b,.inl O,A,B,?_⟩;have e:(xJ L).length=(sR (L.map oj)).length:=by simp[xJ]
 rw[e]at E;have R:rD (xJ L) 3 1=.ay (xJ L) 3 1:=by
  have:=am0 (l:=L.map oj) ai;rcases P:xJ L with _|_;.grind
  rfl
 grind
theorem gI.cut{l:aq}{e:Nat}{c:aJ}(h:gI K φ l e I c):gI K φ l e 0 ((c.drop I).take (l.length*e))/\((c.drop I).take (l.length*e)).length=l.length*e:=by obtain⟨b,k,f,m⟩:=h;have g:((c.drop I).take (l.length*e)).length=l.length*e:=ai;refine⟨⟨b,ab,f,λi x j d a o hd n=>?_⟩,g⟩;grind
theorem axD{i:Nat}{m m':aJ}(h:HR K φ ω H [] g)(b:H.get i=J (.cells m r fl e)):bQ (λx=>x=r) H (H.gM r (H.bn r).1 V m' e)/\bg (H.gM r (H.bn r).1 V m' e)/\oX (H.gM r (H.bn r).1 V m' e)/\(H.gM r (H.bn r).1 V m' e).bu=H.bu/\(∀x,x∈(H.gM r (H.bn r).1 V m' e).bT->x∈H.bT\/(x=r/\r<H.bu))/\∀x,x∈(H.gM r (H.bn r).1 V m' e).cG->x∈H.cG\/(x=r/\r<H.bu):=⟨TC ..,adD h.inv b _ _,ai3 h.inv h.gV b _ _,rfl,λx a=>ID a,λx a=>ID a⟩
theorem aFy{y:DV}(j:HR K φ ω H [] g)(s:oQ K φ ω H [.ay L 61 14,.int .i64 (.ofNat 0),.ay [y] 61 14] ow az)(A:vw ow=V)(X:L.length<1000000000):∃x f e m d,Ev PP mq 399 az H x f/\Nx K φ ω H e m d f/\HR e m d f [] g/\jR e m d f (.dv (.ay (y::L) 61 14) .no) x:=by obtain⟨a,b,S,rfl,t,u,z⟩:=aaq s;obtain⟨r,id,I,c,cells,fl,o,rfl,n,o4,O,o6,p,P⟩:=Vt t A;cases u;cases z with|ay _ _ _ w i U N k1 k2 k3 k4 k5 k6=>
 obtain⟨rv,q,B,D⟩:=j.dk w N 61 k1;have v:gI K φ [y] 14 i N:=⟨k2,k3,k5,k6⟩;have l1:=v.load B D;have l2:=p.load n O;obtain⟨e1,e2⟩:=p.cut;obtain⟨e3,e4⟩:=v.append e1 ab;have T:rootOf H w≠r:=j.clean _ _ _ _ o k1;have M:Ln id I L.length c w i H=J (.sl H.next 0 (L.length+1) Z 14,H.gM r (H.bn r).1 V ((N.drop i).take ([y].length*14)++(cells.drop I).take (L.length*14)) 61):=by
  unfold Ln;have Y:Cj L.length (eM cells) (I+L.length*14) c=V:=by rcases P with⟨rfl,_,h⟩|rfl<;>simp_all[Cj,dS]
  grind[dg,bE,eK]
 obtain⟨Q,R,q3,q4,q5,q6⟩:=axD (m':=(N.drop i).take ([y].length*14)++(cells.drop I).take (L.length*14)) j n;obtain⟨e,d,E,F,G⟩:=consume (l:=y::L) (c:=Z) j o Q R q3 q4 q5 q6 (xU ..) (by simp[zF]) e3 (λk W=>ai);refine⟨_,_,e,φ,d,.inl ?_,E,F,G⟩;show J (Ln id I L.length c w i H)=_;grind
def JT(n k:Nat):ah Nat->ah Nat|none=>Z|some _=>J (n-k)
theorem aIc{d n i:Nat}{c:ah Nat}{e:aJ}(k:H.cellsOf d=J e)(h:I+n*14<=e.length)(a:c=Z\/c=J n)(b:i<=j)(f:j<=n)(g:n<=bl):AM.pD PP H 56 (.sl d I n c 14) (J (.int .i64 (.ofNat i))) (J (.int .i64 (.ofNat j))) (J (.int .i64 (.ofNat n)))=J (.sl d (I+i*14) (j-i) (J (n-i)) 14):=by
 unfold AM.pD AM.sliceB;rcases a with rfl|rfl;.simp only[underlying56,xc,cQ,bE,dM,aR,eX,mC,dg,b,f,g,k,dS,show gW I (iR n 14)<=e.length from h,xi];rfl
 simp_all[xc,eX,mC,dg]
theorem aId{d n i:Nat}{c:ah Nat}(h:c=Z\/c=J n)(a:i<=n)(b:n<=bl):AM.pD PP H 56 (.sl d I n c 14) Z (J (.int .i64 (.ofNat i))) Z=J (.sl d I i c 14):=by
 unfold AM.pD AM.sliceB;rcases h with rfl|rfl;.simp only[underlying56,xc,cQ,bE,dM,aR,eX,mC,dg,a,show i<=bl by omega,lX];grind
 simp_all[xc,eX,mC,dg]
theorem aIe{i n:Nat}{c:ah Nat}(a:c=Z\/c=J n)(h:j<=n):AM.pD PP H 56 (.sl i I n c 14) (J (.int .i64 (.ofNat j))) Z Z=J (.sl i (I+j*14) (n-j) (JT n j c) 14):=by
 unfold AM.pD AM.sliceB;rcases a with rfl|rfl;.simp only[underlying56,xc,cQ,bE,dM,aR,eX,mC,dg,h,bJ];rfl
 .simp only[underlying56,xc,cQ,bE,dM,aR,eX,mC,dg,h,bJ,xi];rfl
theorem aIf{i n m:Nat}{c:ah Nat}{e:aJ}(k:H.cellsOf i=J e)(b:I+n*14<=e.length)(a:c=Z\/c=J n)(h:m<n)(d:n<=bl):AM.pD PP H 56 (.sl i I m c 14) (J (.int .i64 (.ofNat m))) (J (.int .i64 (.ofNat n))) Z=J (.sl i (I+m*14) (n-m) (JT n m c) 14):=by
 unfold AM.pD AM.sliceB;rcases a with rfl|rfl;.simp only[underlying56,xc,cQ,bE,dM,aR,eX,mC,dg,d,Nat.le_of_lt h,show¬n<=m by omega,kM,bS,k,dS,show gW I (iR n 14)<=e.length from b];rfl
 .simp only[underlying56,xc,cQ,bE,dM,aR,eX,mC,dg,Nat.le_of_lt h,bJ,xi];rfl
theorem axC{c d:Heap}(a:bQ (λx=>x=r) H c)(b:bQ (λx=>x=r) c d):bQ (λx=>x=r) H d where
 next:=fX a.next b.next
 get:=λid h n=>(b.get id (gi h a.next) (by rw[a.root id h];exact n)).trans (a.get id h n)
 dp:=λx h n=>(b.dp x (gi h a.next) n).trans (a.dp x h n)
 root:=λid h=>(b.root id (gi h a.next)).trans (a.root id h)
theorem anD{i:Nat}{c z:aJ}(h:gI K φ L 14 I c)(t:i<j)(v:j<=L.length)(A:z.length=(L.length-(i+(L.length-j)))*14):(fL c (I+i*14) ((c.drop (I+j*14)).take ((L.length-j)*14))).length=c.length/\(fL (fL c (I+i*14) ((c.drop (I+j*14)).take ((L.length-j)*14))) (I+(i+(L.length-j))*14) z).length=c.length/\gI K φ (L.take i++L.drop j) 14 I (fL (fL c (I+i*14) ((c.drop (I+j*14)).take ((L.length-j)*14))) (I+(i+(L.length-j))*14) z):=by
 obtain⟨_,r,s,n⟩:=h;have o:((c.drop (I+j*14)).take ((L.length-j)*14)).length=(L.length-j)*14:=ai;generalize u:(c.drop (I+j*14)).take ((L.length-j)*14)=y at*;have e:I+i*14+y.length<=c.length:=ab;have l1:=yJ c (I+i*14) y e;have f:I+(i+(L.length-j))*14+z.length<=(fL c (I+i*14) y).length:=ab;have l2:=yJ (fL c (I+i*14) y) (I+(i+(L.length-j))*14) z f;have l:(L.take i++L.drop j).length=i+(L.length-j):=ai;refine⟨l1,l2.trans l1,ab,ab,λk x b=>?_,λk x q d a b hd g=>?_⟩;.grind
 . have p:=(List.getElem?_eq_some_iff.1 b).1;rw[l]at p;have m:(L.take i).length=i:=ai;by_cases O:k<i;.grind[yI]
   .rw[ov ab,m,sS]at b;have w:q<14:=ai;rw[yI _ _ _ f,if_neg ab,yI _ _ _ e,if_pos ab,<-u,v7 ab,sS]at g;exact n _ x q d a b hd (by rw[<-g];congr 1;omega)
theorem aGg{n:Nat}{z:aJ}:(jA n z).length=n*z.length:=FJ n z
theorem aFz{i:Nat}(e:HR K φ ω H [] g)(gd:oQ K φ ω H [.ay L 61 14,.int .i64 (.ofNat i),.int .i64 (.ofNat j)] ow az)(f:vw ow=V)(hn:L.length<1000000000)(E:i<j)(F:j<=L.length):∃x v m W d,Ev PP mq 401 az H x v/\Nx K φ ω H m W d v/\HR m W d v [] g/\jR m W d v (.dv (.ay (L.take i++L.drop j) 61 14) .no) x:=by
 obtain⟨a,b,c',rfl,Y,h2,h3⟩:=aaq gd;obtain⟨r,id,I,c,cells,fl,o1,rfl,o3,o4,o5,o6,o7,o8⟩:=Vt Y f;cases h2;cases h3;have S:L.length<=bl:=by grind[bl]
 have w:c=Z\/c=J L.length:=o8.imp (λh=>h.1) (λh=>h);have kh:∀n,(jA n [AV.int .i64 0,.bC,.int .i64 0,.int .i64 0,.int .i64 0,.int .i64 0,.int .i64 0,.bC,.int .i64 0,.int .i64 0,.int .i64 0,.int .i64 0,.int .i64 0,.str []]).length=n*14:=λn=>aGg;generalize Q:jA (L.length-(i+(L.length-j))) [AV.int .i64 0,.bC,.int .i64 0,.int .i64 0,.int .i64 0,.int .i64 0,.int .i64 0,.bC,.int .i64 0,.int .i64 0,.int .i64 0,.int .i64 0,.int .i64 0,.str []]=U at*;have Uw:U.length=(L.length-(i+(L.length-j)))*14:=ai;obtain⟨d1,d2,d3⟩:=anD o7 E F Uw;have zK:=o7.2.1;generalize hcy:(cells.drop (I+j*14)).take ((L.length-j)*14)=y at*;have aMe:y.length=(L.length-j)*14:=ai;have M:L.length-(i+(L.length-j))≠0:=ab;have A:H.fresh.get id=J (.cells cells r fl 61):=o3;have u:(H.fresh.bn r).1<=id:=o5;have B:(H.fresh.bn r).2=id:=o6;have D:H.cellsOf id=J cells:=by grind[Heap.cellsOf,dg]
 have hy:qo H.fresh 14 (L.length-j) (.sl id (I+j*14) (L.length-j) (JT L.length j c) 14)=J y:=by grind[qo,bE,List.length_eq_zero_iff,Heap.load,Heap.cellsOf,dg,dS,pI,ql]
 obtain⟨q,ha,Uf,hq2,X,t,o,O,N⟩:∃q,nd H.fresh 61 14 152 (.sl id I i c 14) y (L.length-j)=J (.sl id I (i+(L.length-j)) c 14,q)/\q.cG=[]/\(∀x,x∈q.bT->x=r)/\q.get id=J (.cells (fL cells (I+i*14) y) r fl 61)/\((q.bn r).1<=id/\(q.bn r).2=id)/\bQ (λx=>x=r) H q/\bg q/\oX q:=by
  have p:bg H.fresh:=⟨e.inv.get,e.inv.root,e.inv.nZ,e.inv.dp,bJ _⟩;have lr:(i+(L.length-j))*152<=bl:=by grind[bl]
  have jt:i+(L.length-j)<=bl:=ab;by_cases h0:L.length-j=0;.have aMd:y=[]:=List.length_eq_zero_iff.1 ab;refine⟨H.fresh,?_,rfl,λx h=>absurd h (mA),?_,⟨u,B⟩,⟨bJ _,λ_ _ _=>rfl,λ_ _ _=>rfl,λ_ _=>rfl⟩,p,e.gV⟩<;>simp_all[Z',Dt]
  . have cj:H.fresh.store id (I+i*14) y=J (H.fresh.dJ id r (.cells (fL cells (I+i*14) y) r fl 61)):=by grind[Heap.store,dg,bE,dS]
    refine⟨H.fresh.dJ id r (.cells (fL cells (I+i*14) y) r fl 61),?_,xV ..,λx h=>?_,nM ..,Kj u B,(λk=>⟨k.next,k.get,k.dp,k.root⟩:bQ (λx=>x=r) H.fresh (H.fresh.dJ id r (.cells (fL cells (I+i*14) y) r fl 61))->bQ (λx=>x=r) H (H.fresh.dJ id r (.cells (fL cells (I+i*14) y) r fl 61))) (yw A),QA p A B,F8 (H:=H.fresh) e.gV A⟩;.grind[nd,bE,dg,dS]
    . rw[xh]at h;rcases ID h with h|h;.exact absurd h (mA)
      omega
 have P:(H.resume q).cellsOf id=J (fL cells (I+i*14) y):=by have Y:(H.resume q).get id=J (.cells (fL cells (I+i*14) y) r fl 61):=X;have h2:((H.resume q).bn r).1<=id:=t.1;grind[Heap.cellsOf,dg]
 have T:(H.resume q).get id=J (.cells (fL cells (I+i*14) y) r fl 61):=X;have z:((H.resume q).bn r).1<=id/\((H.resume q).bn r).2=id:=t;have h6:(H.resume q).store id (I+(i+(L.length-j))*14) U=J ((H.resume q).dJ id r (.cells (fL (fL cells (I+i*14) y) (I+(i+(L.length-j))*14) U) r fl 61)):=by grind[Heap.store,dg,bE,dS]
 have ui:=anC mq H q _ id I L.length i j c c (JT L.length j c) (JT L.length (i+(L.length-j)) c) _ y _ ajo rfl (by rfl) E (by rfl) (aIc D zK w (Nat.le_of_lt E) F S) (λH=>aId w ab S) (λH=>aIe w F) (aIf P ab w ab S) hy ha Uf M (by rw[Q];omega);have R:bg (H.resume q):=⟨O.get,O.root,O.nZ,O.dp,fX e.inv.bu o.next⟩;have G:bQ (λx=>x=r) H (H.resume q):=⟨o.next,o.get,o.dp,o.root⟩;have s:(L.take i++L.drop j).length=i+(L.length-j):=ai;obtain⟨m,d,n1,n2,n3⟩:=consume (c:=c) e o1 (axC G (yw T)) (QA R T z.2) (F8 (H:=H.resume q) N T) (BW ..) (λx f=>by
  rw[xh]at f;rcases ID f with h|h;.rcases(Qd _ _).1 (show x∈fO (λl r=>Heap.note H.bu r l) q.bT H.bT from h)with h|⟨h,k⟩<;>grind
  .exact .inr h) (λx f=>by rw[xV]at f;rcases(Qd _ _).1 (show x∈fO (λl r=>Heap.note H.bu r l) q.cG H.cG from f)with h|⟨h,_⟩<;>grind) (nM ..) (Kj z.1 z.2).1 d3 (λk hk=>by grind);rw[s]at n3;exact⟨_,_,m,φ,d,ui.ev,n1,n2,n3⟩
end
theorem MT{n:Nat}(h:rP n=V):n<1000000000:=by unfold rP at h;rw[eK,gZ]at h;exact h
theorem cnF{b:Bool}{x:ah SV}(h:(bif b then J x else J Z)=Z):False:=by cases b<;>cases h
theorem aFd{a:aq}(h:cf.iK f a=Z):f≠330/\f≠6/\f≠388/\f≠402/\f≠464/\f≠275/\f≠276/\f≠399/\f≠401/\f≠130/\f≠140:=by refine⟨?_,?_,?_,?_,?_,?_,?_,?_,?_,?_,?_⟩<;>(rintro rfl;dsimp only[cf]at h;simp only[aw,aR,bS]at h);all_goals first|(cases h;done)|(split at h<;>first|(cases h;done)|exact cnF h)
theorem aFb(h:f≠330/\f≠6/\f≠388/\f≠402/\f≠464/\f≠275/\f≠276/\f≠399/\f≠401/\f≠130/\f≠140):mq f az H=Z:=by obtain⟨b,c,d,e,g,i,j,k,l,A,a⟩:=h;unfold mq Qp Qt Qs Fz lQ Qq Mg;simp only[bE,b,c,d,e,g,i,j,k,A,a,kM,bS]
theorem hN:∀f args az H,cf.iK f args=Z->mq f az H=Z:=λ_ _ _ _ h=>aFb (aFd h)
theorem cS{b:Bool}{x:SV}(h:(bif b then J (J x)else J Z)=J (J v)):b=V/\x=v:=by cases b<;>simp at h|-;exact h
theorem aFc:Nu PP mq cf:=by
 intro f args v h ow d g K w y H az j p i;by_cases f1:f=330
 . subst f1;dsimp only[cf]at h;simp only[aw,aR,bS]at h;split at h;.obtain⟨c,rfl⟩:=cS h;rw[eK,gZ]at c;exact aFx j p i c
   .cases h
 by_cases f2:f=6
 . subst f2;dsimp only[cf]at h;simp only[aw,aR,bS]at h;split at h;.obtain rfl:=bt (bt h);exact pv6 j p i
   .cases h
 have gr:∀{e s b:Nat},0<s->(∀n H,mq f [.bC,.int .i64 (.ofNat n)] H=bif br (n*b) bl&&br n bl then(bif aw n 0 then J (J (.bC,H))else J (J (.sl H.next 0 0 Z s,H.cP [] .op e)))else J Z)->J (Cz e s b args)=J (J v)->∃x l m o k,Ev PP mq f az H x l/\Nx K w y H m o k l/\HR m o k l [] g/\jR m o k l v x:=by
   intro e s b u t h;have h:=bt h;have q:=h;unfold Cz at h;split at h;.exact aEI u (t _) j i q
   .cases h
 by_cases f3:f=388;.subst f3;dsimp only[cf]at h;simp only[aw,aR,bS]at h;exact gr eY (λn H=>rfl) h
 by_cases f4:f=402;.subst f4;dsimp only[cf]at h;simp only[aw,aR,bS]at h;exact gr eY (λn H=>rfl) h
 by_cases f5:f=464;.subst f5;dsimp only[cf]at h;simp only[aw,aR,bS]at h;exact gr eY (λn H=>rfl) h
 by_cases f6:f=275;.subst f6;dsimp only[cf]at h;simp only[aw,aR,bS]at h;cases h
 by_cases f7:f=276
 . subst f7;have d:=d aN;dsimp only[cf]at h;simp only[aw,aR,bS]at h;split at h;.obtain rfl:=bt (bt h);obtain⟨z,rfl,r⟩:=aap i;obtain rfl:=P9 r;exact Mh j (a:=.bC) rfl .nl
   .obtain⟨c,rfl⟩:=cS h;rw[gD]at c;exact aFw j i d c.1 aO (MT c.2)
   .cases h
 by_cases f8:f=399
 . subst f8;have d:=d aN;dsimp only[cf]at h;simp only[aw,aR,bS]at h;split at h;.obtain⟨c,rfl⟩:=cS h;exact aFy j i d (MT c)
   .cases h
 by_cases f9:f=401
 . subst f9;have d:=d aN;dsimp only[cf]at h;simp only[aw,aR,bS]at h;split at h;.obtain⟨c,rfl⟩:=cS h;rw[gD,gD,eK,dg,gZ,gZ]at c;exact aFz j i d (MT c.1) c.2.1 c.2.2
   .cases h
 by_cases f10:f=130
 . subst f10;dsimp only[cf]at h;simp only[aw,aR,bS]at h;split at h;.obtain rfl:=bt (bt h);exact aFv j i
   .cases h
 by_cases f11:f=140;.subst f11;dsimp only[cf]at h;simp only[aw,aR,bS]at h;exact gr eY (λn H=>rfl) h
 .exfalso;dsimp only[cf]at h;simp only[bE,f1,f2,f3,f4,f5,f6,f7,f8,f9,f10,f11,kM,bS]at h;cases h
section
variable{K:aX}{φ:ch}{ω:aI}{H H':Heap}{g:GH}{O:St}{tm:Tr AV}
theorem ait{d:DV}{o:aM}{c:cT}(h:bX K φ ω H tm (put (cK c) s (.dv d o))):bX K φ ω H tm (cK (put (ij c s) s (.dv d o))):=by
 intro t v l;have p:=h t;unfold cK at l p;rw[qB,lN]at l;rw[lN,qB]at p;by_cases e:t=s;.rw[if_pos e]at l p;cases l;exact p _ rfl
 . rw[if_neg e]at l p;unfold ij at l;rw[qB]at l;rcases f:look c t with _|n;.grind
   rw[f]at l p;cases l;obtain⟨a,b,g,j⟩:=p _ rfl;cases n with
   |sr x=>show∃a,tm.get t=J a/\(pq (bif aw x s then .dd else .sr x)≠.dd->a≠.top)/\ma K φ ω H tm t (pq (bif aw x s then .dd else .sr x)) a;cases aw x s with|true=>exact⟨a,b,λh=>absurd rfl h,trivial⟩|false=>grind
   |se x i I=>show∃a,tm.get t=J a/\(pq (bif aw x s then .dd else .se x i I)≠.dd->a≠.top)/\ma K φ ω H tm t (pq (bif aw x s then .dd else .se x i I)) a;cases aw x s with|true=>exact⟨a,b,λh=>absurd rfl h,trivial⟩|false=>grind
   |_=>exact⟨a,b,g,j⟩
theorem aIq{s:cT}(i:bg H)(h:bX K φ ω H tm s):bX K φ ω H tm (cK s):=xa (S:=λ_=>False) i h (bQ.refl _ _) (bo.refl _) (aU.refl _) (λ_ _ _ _ h=>⟨h,id⟩) (λ_ _ _ h=>h)
theorem aiw{a:AV}(q:HR K φ ω H O.lb O.g)(o:AO K φ H r (.ay L 3 1) a e)(g:L.all uu=V)(f:0<L.length)(n:L.length<1000000000):∃id cells fl I c m,a=.sl id I L.length c 1/\e=3/\H.get id=J (.cells cells r fl 3)/\(H.bn r).2=id/\mq 275 [a] H=J (J (.cM [],H.dJ id r (.cells m r fl 3)))/\AO K φ (H.dJ id r (.cells m r fl 3)) r (rD (lS L) 3 1) a 3:=by
 obtain⟨t,s,id,I,c,cells,fl,k1,k2,k3,k4,k5,k6,k7,k8⟩:=o.ex;obtain⟨rfl,rfl,rfl⟩:=DV.ay.inj k1;subst k2;have z:(FZ (L.map oj)).length=L.length:=by simp[FZ]
 have hr:=ah6 k3 k4 k5 k6 k7 g f n z;have d:I+(FZ (L.map oj)++[]).length<=cells.length:=by rw[jQ,z];have:=k7.2.1;omega
 have i:=abY (K:=K) (φ:=φ) (zs:=FZ (L.map oj)) (ys:=[]) (I:=I) (D:=cells) d;rw[jQ]at i d;have h:(lS L).length=L.length:=by simp[lS]
 have j:rD (lS L) 3 1=.ay (lS L) 3 1:=by
   rcases p:lS L with _|_;.grind
   rfl
 obtain⟨f1,f2⟩:=Kj (ob:=.cells (fL cells I ((FZ (L.map oj)).map (AV.int .i64))) r fl 3) k5 k6;refine⟨id,cells,fl,I,c,_,rfl,rfl,k3,k6,?_,⟨lS L,1,id,I,c,_,fl,j,ai,nM ..,k4,f1,f2,i,?_⟩⟩;.show J ((rowP FZ H id I L.length).map λr=>(AV.cM [],r.2))=_;grind
 . rw[h];rcases k8 with⟨b,k,l⟩|b;.exact .inl ⟨b,f2,by grind[yJ]⟩
   .exact .inr b
theorem afP{i:Nat}{o:b9}(h:dL ω r):qc ω H (H.dJ i r o):=⟨BW ..,λx c=>by rw[xh]at c;exact(ID c).imp_right λ⟨a,b⟩=>a▸⟨b,h⟩,λx c=>by grind[xV]⟩
def Rz(K:aX)(g:ch)(h:aI)(H:Heap)(e s:St)(m:Tr AV)(x:AV)(d:ah Tmp)(t:St):Prop:=∃a H' c f b,Ev PP mq 275 [x] H a H'/\Nx K g h H c f b H'/\Ok c f b H' t (gQ m d a)/\s.n=e.n/\s.fn=e.fn
theorem Px(f:HR K φ ω H O.lb O.g)(u:mq 275 [ax] H=J (J (.cM [],H')))(n:Nx K φ ω H K φ ω H')(d:HR K φ ω H' st1.lb st1.g)(i:bX K φ ω H' tm (cK st1.sl))(h:aH {st1 with sl:=cK st1.sl} dst (.tp [])=J st')(e:st1.n=O.n)(c:st1.fn=O.fn):Rz K φ ω H O st1 tm ax dst st':=by obtain⟨b,j,a,g,ok⟩:=(Ca (O:={st1 with sl:=cK st1.sl}) d i h).nx (qc.refl _ _);exact⟨.cM [],H',b,j,a,.inl u,n.trans f.inv g,ok,e,c⟩
theorem awX{d:DV}{r:DV×SV}(o:Ok K φ ω H O tm)(u:look O.sl s=J (.dv d (.ex e)))(B:tm.get s=J ax)(f:cf.pU 275 d []=J r)(n:st1={O with sl:=put (ij O.sl s) s (Ir r.1 e)})(h:aH {st1 with sl:=cK st1.sl} dst r.2=J st'):Rz K φ ω H O st1 tm ax dst st':=by
 obtain⟨A,g1,g2,g3⟩:=o.sl s _ u;rw[B]at g1;cases g1;have y:=g2 aO;subst n;dsimp only[cf]at f;simp only[aw,aR]at f;split at f;.cases f;obtain rfl:=P9 (show cN K φ ω H (.sl s) .nl ax (.ex e)from g3);refine Px (H':=H) o.hr rfl (Nx.refl o.hr) o.hr (ait ?_) h rfl rfl;exact YZ (S:=λ_=>False) o.hr.inv o.sl (bQ.refl _ _) (bo.refl _) (aU.refl _) (λ_ _ _ _ _ _ h=>⟨h,id⟩) (λ_ _ _ h=>h) B (λ_=>y) (.inl ⟨rfl,rfl⟩)
 . rename_i x l _;rcases i:((x::l).all uu&&rP (x::l).length)with _|_;.grind
   rw[i]at f;cases f;rw[gD]at i;rcases g3 with⟨D,_⟩|⟨r,g,z⟩;.grind
   . obtain⟨id,cells,fl,I,c,w,rfl,rfl,k3,k4,k5,k6⟩:=aiw o.hr z i.1 aO (MT i.2);have k:=yw (m':=w) (fl':=fl) (e':=3) k3;have v:∀p a b,p≠.sl s->ω p=J (a,b)->a≠r:=λp a b q j e=>q (o.hr.inj _ _ _ _ _ (e▸j) g);have t:Ir (rD (lS (x::l)) 3 1) 3=.dv (rD (lS (x::l)) 3 1) (.ex 3):=by cases lS (x::l)<;>rfl
     refine Px o.hr k5 ⟨bo.refl _,o.hr.fV k,aU.refl _,k.xg o.hr.inv λa _ e=>⟨.sl s,V,e▸g⟩,λp a b h=>.inl ⟨p,b,h⟩,afP ⟨.sl s,V,g⟩⟩ (o.hr.ahB g trivial k3 k4) ?_ h rfl rfl;show bX K φ ω _ tm (cK (put (ij O.sl s) s (Ir (rD (lS (x::l)) 3 1) 3)));rw[t];refine ait (YZ (S:=λx=>x=r) o.hr.inv o.sl k (bo.refl _) (aU.refl _) (λp a b _ _ j m=>⟨m,v p a b j m⟩) (λ_ _ _ h=>h) B (λ_=>y) (.inr ⟨r,g,k6⟩))
 grind
theorem awW{u:Nat}{b:LB}{d:DV}{r:DV×SV}(o:Ok K φ ω H O tm)(hb:O.g.get u=J (.box b))(hd:b.cells[I]?=J d)(T:ew b I=.ex e)(Be:∃i m root fl e,φ u=J i/\H.get i=J (.cells m root fl e)/\m[I]?=J ax)(w:cf.pU 275 d []=J r)(cj:st1={O with g:=O.g.set u (.box {cells:=iC b.cells I r.1,own:=(match r.1 with|.jk=>cW b.own I 1|_=>b.own)})})(h:aH {st1 with sl:=cK st1.sl} dst r.2=J st'):Rz K φ ω H O st1 tm ax dst st':=by
 have rl:O.at (.g u)=J b:=by grind[St.at]
 obtain⟨i,t1,t2,t3⟩:=o.hr.at rl;obtain⟨i',m0,aNc,ri,e0,q1,q2,q3⟩:=Be;rw[t3 u rfl]at q1;cases q1;obtain⟨m,fl,eb,G,w2,w3,w4,w5,w6⟩:=t2;rw[G]at q2;obtain⟨rfl,_,_,_⟩:=b9.cells.inj (bt q2);obtain⟨ib,U⟩:=w6 I d ax hd q3;rw[T]at U;have HZ:I<b.cells.length:=(List.getElem?_eq_some_iff.1 hd).1;have HY:d≠.nl:=λe=>by grind[ew]
 subst cj;dsimp only[cf]at w;simp only[aw,aR]at w;split at w;.grind
 . rename_i a l _;rcases F:((a::l).all uu&&rP (a::l).length)with _|_;.grind
   rw[F]at w;cases w;rw[gD]at F;rcases U with⟨h0,_⟩|⟨r,E,o2⟩;.grind
   . obtain⟨id,cells,R,aC5,c,M,rfl,rfl,k3,k4,k5,k6⟩:=aiw o.hr o2 F.1 aO (MT F.2);have k:=yw (m':=M) (fl':=R) (e':=3) k3;have A:∀p f b,p≠.gc u I->ω p=J (f,b)->f≠r:=λp f b W X e=>W (o.hr.inj _ _ _ _ _ (e▸X) E);obtain⟨p1,p2,p3,p4,p5⟩:=QD (m':=M) (fl':=R) (e':=3) o.hr E k3 k4 (src:=J) (λp q y W X=>ai);have s:(rD (lS (a::l)) 3 1).aV=V:=by cases lS (a::l)<;>rfl
     have L:(match rD (lS (a::l)) 3 1 with|.jk=>cW b.own I 1|_=>b.own)=b.own:=by cases lS (a::l)<;>rfl
     have hms:∃z t,rD (lS (a::l)) 3 1=.ay (z::t) 3 1:=by
      have:(lS (a::l)).length=(a::l).length:=by simp[lS]
      rcases hc:lS (a::l)with _|⟨z,t⟩;.grind
      exact⟨z,t,rfl⟩
     have hi:i≠r:=A (.g u) i V aO t1;have lu:oR K φ ω (H.dJ id r (.cells M r R 3)) (.gc u) ⟨iC b.cells I (rD (lS (a::l)) 3 1),b.own⟩ i:=by
      refine⟨m,fl,eb,?_,w2,by rw[k.dp i (o.hr.inv.get _ _ G) hi];omega,by rw[k.dp i (o.hr.inv.get _ _ G) hi];omega,by grind[MH],λD Q P B N=>?_⟩;.rw[k.get i (o.hr.inv.get _ _ G) (by grind[lA])];omega
      . rw[QX HZ]at B;have v:ew ⟨iC b.cells I (rD (lS (a::l)) 3 1),b.own⟩ D=ew b D:=by grind[ew,QX]
        by_cases e:D=I;.subst e;rw[if_pos rfl]at B;cases B;rw[q3]at N;cases N;rw[v,T];exact⟨s,.inr ⟨r,E,k6⟩⟩
        .rw[if_neg e]at B;obtain⟨s1,s2⟩:=w6 D Q P B N;rw[v];exact⟨s1,s2.keep (S:=λa=>a=r) o.hr.inv k (bo.refl _) (aU.refl _) λf n j=>⟨j,A _ f n (λy=>e (Pk.gc.inj y).2) j⟩⟩
     have eV:=o.hr.FT (x:=.g u) (b':=⟨iC b.cells I (rD (lS (a::l)) 3 1),b.own⟩) rl t1 (bo.refl _) k p1 (F8 o.hr.gV k3) p2 p3 p4 p5 (λ_=>rfl) (λ_=>rfl) (λy D Q P Fs hy hp=>hp.keep (S:=λa=>a=r) o.hr.inv k (bo.refl _) (aU.refl _) λf n j=>⟨j,A _ f n (λz=>by cases y<;>simp[Loc.pk]at z;grind) j⟩) (λp f n hp _ j=>A p f n (λz=>ai) j) lu;refine Px o.hr k5 ⟨bo.refl _,o.hr.fV k,aU.refl _,k.xg o.hr.inv λf _ e=>⟨.gc u I,V,e▸E⟩,λp f b h=>.inl ⟨p,b,h⟩,afP ⟨.gc u I,V,E⟩⟩ ?_ ?_ h rfl rfl;.simp only[L];exact eV
     .exact xa (S:=λa=>a=r) o.hr.inv o.sl k (bo.refl _) (aU.refl _) (λp f b jv Y=>⟨Y,A p f b (λz=>by grind[Pk.slot]) Y⟩) (λ_ _ _ h=>h)
 grind
end
theorem awY:vX PP mq cf:=by
 intro st f x az st1 v h K y M H w F ok W Q dst st' q;rw[afb]at h;obtain⟨sv,hx,h⟩:=aF h;obtain⟨ax,a1,a2,p⟩:=qD (P:=PP) (pe W) ok.sl hx;have k:∀d r,cf.pU f d az=J r->f=275/\az=[]/\F=[]:=λd r h=>by
   dsimp only[cf]at h;rcases L:aw f 275 with _|_;.grind
   rw[bE,gZ]at L;subst L;simp only[aw,aR]at h;have S:az=[]:=ai;subst S;exact⟨rfl,rfl,Q.rG⟩
 have slot:∀s,w.get s=J ax->(look st.sl s).bind (EO cf st f az s)=J (st1,v)->∃ax a j l o c,AM.bB PP w x=J ax/\Ev PP mq f (ax::F) H a j/\Nx K y M H l o c j/\Ok l o c j st' (gQ w dst a)/\st1.n=st.n/\st1.fn=st.fn:=λs Y h=>by
   obtain⟨F6,X,h⟩:=aF h;unfold EO at h;split at h;.rename_i d e;obtain⟨r,hr,n⟩:=Option.map_eq_some_iff.1 h;obtain⟨rfl,rfl⟩:=il n;obtain⟨rfl,rfl,rfl⟩:=k _ _ hr;obtain⟨a,j,l,o,c,z,A,B,D,E⟩:=awX ok X Y hr rfl q;grind
   grind
 unfold Ik at h;split at h
 . obtain⟨r,hr,n⟩:=Option.map_eq_some_iff.1 h;obtain⟨rfl,rfl⟩:=il n;obtain⟨rfl,rfl,rfl⟩:=k _ _ hr;have N:ax=.bC:=by
     rcases p with⟨t,_,_,_,g⟩|⟨_,⟨d,e,g⟩|⟨d,G,_,e1,e2,_⟩|⟨_,_,_,_,e,_⟩⟩;.exact P9 (show cN K y M H (.sl t) .nl ax _ from g)
     .obtain⟨rfl,_⟩:=SV.dv.inj e;cases g;rfl
     all_goals grind
   subst N;dsimp only[cf]at hr;simp only[aw,aR]at hr;cases hr;obtain⟨a,j,l,o,c,z,A,B,D,E⟩:=Px (ax:=.bC) (st1:=st) (H':=H) ok.hr (show mq 275 [.bC] H=J (J (.cM [],H))from rfl) (Nx.refl ok.hr) ok.hr (aIq ok.hr.inv ok.sl) q rfl rfl;grind
 .grind
 . rename_i s;rcases p with⟨t,e,T,U,g⟩|⟨_,⟨d,e,_⟩|⟨d,G,_,e1,e2,_⟩|⟨_,_,_,_,e,_⟩⟩;.exact slot s g h
   all_goals grind
 . rename_i uO I;obtain⟨go,O,h⟩:=aF h;have u:∃i m root fl e,y uO=J i/\H.get i=J (.cells m root fl e)/\m[I]?=J ax:=by
     rcases p with⟨t,e,T,U,g⟩|⟨_,⟨d,e,_⟩|⟨d,G,_,e1,e2,_⟩|⟨_,_,_,_,e,_⟩⟩;.exact g
     all_goals grind
   unfold Pw at h;split at h
   . split at h;.rename_i b d e hd R;obtain⟨r,hr,n⟩:=Option.map_eq_some_iff.1 h;obtain⟨rfl,rfl⟩:=il n;obtain⟨rfl,rfl,rfl⟩:=k _ _ hr;obtain⟨a,j,l,o,c,z,A,B,D,E⟩:=awW ok O hd R u hr rfl q;grind
     grind
   grind
 grind
end Go.VM
namespace Go.AM
open Go
set_option maxRecDepth 1000000
def i(n:Int):AV:=.int .i64 n
def z8:aJ:=[i 0,.bC,i 0,i 0,i 0,i 0,i 0,.str []]
def x0:aJ×an:=([i 0],3)
def x1:aJ×an:=([.bC,.bC],229)
def x2:aJ×an:=([i (.negSucc 0)],3)
def x3:aJ×an:=([.str [107],i 0],76)
def x4:aJ×an:=([i 0,.bC,.bC],127)
def x5:aJ×an:=([i 0,i 7,.str []],43)
def x6:aJ×an:=([.str [97],i 0,.str [98],i 0],81)
def x7:aJ×an:=([.str [65],.sl 7 0 1 (.some 1) 2],79)
def x8:aJ×an:=([i 0,i 0,i 0,i 1,.sl 17 0 1 .none 3],90)
def x9:aJ×an:=([i 0,.bC,i 0,i 0,i 0,i 1,i 1,.str []],59)
def Rm:AV:=.agg [.sl 6 0 1 (.some 1) 2,.sl 8 0 1 (.some 1) 18]
def Nc:AV:=.agg ([i 1,.sl 6 0 2 (.some 2) 14,i 0,i 0,i 0,i 0]++z8)
def x12:aJ×an:=([i 0,i 0,i 7,.str [],i (.negSucc 0),.sl 16 0 1 .none 5,.sl 18 0 1 .none 3,.bC],49)
def x13:aJ×an:=([i 1,.sl 6 0 2 (.some 2) 14,i 0,i 0,i 0,i 0]++z8++[i 0,.bC,i 0,i 1,i 0,i 0,i 0,.bC,i 0,i 0,i 0,i 1,i 1,.str []],61)
def qL:aJ×an:=([i 0,.bC,i 0,i 0,i 0,i 0,i 0,.bC,i 0,i 0,i 0,i 1,i 1,.str [],i 0,.bC,i 0,i 1,i 0,i 0,i 0,.bC,i 0,i 0,i 0,i 1,i 1,.str []],61)
def Rn:aJ×an:=([.str [113],.sl 9 0 2 (.some 2) 2,.sl 10 0 1 (.some 1) 1,i 1,.sl 11 0 2 (.some 2) 14,i 0,i 0,i 0,i 0]++z8++[.sl 12 0 1 (.some 1) 8],63)
def DA:aJ×an:=([i 0,i 1,i 0,i 0,i 0,.bC,i 0,i 0,i 0,i 1,i 1,.str [],.bC,.bC,.bC,.bC,.bC,i 1,i (.negSucc 0),i 1,i 0,i 0,.bC,i 0,i 0,i 0,i 1,i 1,.str [],.bC,.bC,.bC,.bC,.bC],241)
def Gd:AV:=.agg ([.sl 6 0 1 (.some 1) 2,.str [113],.sl 8 0 2 (.some 2) 2,.sl 9 0 1 (.some 1) 1,i 1,.sl 10 0 2 (.some 2) 14,i 0,i 0,i 0,i 0]++z8++[.sl 11 0 1 (.some 1) 8,i 2,i 0,.sl 12 0 2 .none 1,.sl 13 0 2 .none 17])
def e0:eD:=⟨[Nc],jM (dF gl [qL]),.cM [i 2,i 0,i 0],[]⟩
def Y6:Tr (List eD):=m9 Rc 124 e0
def g0:aD:=[]
def e1:eD:=⟨[Nc],jM (dF gl [qL]),.cM [i 0,i 0],[]⟩
def Zg:Tr (List eD):=m9 Y6 167 e1
def g1:aD:=[]
def e2:eD:=⟨[.sl 6 0 5 .none 1],jM (dF gl [([.func 156 [] [.ptr 7 0],.func 156 [] [.ptr 11 0],.func 156 [] [.ptr 14 0],.func 164 [] [.ptr 18 0,.ptr 17 0,.ptr 15 0],.func 166 [] [.ptr 15 0]],212),([.func 210 [] [.ptr 8 0]],110),([.sl 9 0 1 (.some 1) 2],22),([.str [65],.sl 10 0 1 (.some 1) 2],79),x3,([.func 211 [] [.ptr 8 0,.ptr 12 0]],110),([.sl 13 0 2 (.some 2) 2],55),x6,([.func 163 [] [.ptr 15 0,.ptr 17 0]],110),([i 1,.sl 16 0 2 (.some 2) 14,i 0,i 0,i 0,i 0]++z8,61),qL,([.sl 13 0 2 (.some 2) 2],55),([.sl 9 0 1 (.some 1) 2],22)]),.cM [i 0,i 0],[]⟩
def Zh:Tr (List eD):=m9 Zg 112 e2
def g2:aD:=[]
def e3:eD:=⟨[Nc,.sl 7 0 1 (.some 1) 8],jM (dF gl [qL,x9]),.cM [i 0,i 0],[]⟩
def Zi:Tr (List eD):=m9 Zh 175 e3
def g3:aD:=[]
def e4:eD:=⟨[.sl 6 0 5 (.some 5) 1],jM (dF gl [([.func 156 [] [.ptr 7 0],.func 156 [] [.ptr 11 0],.func 117 [] [.ptr 8 0,.ptr 12 0],.func 156 [] [.ptr 17 0],.func 156 [] [.ptr 18 0]],212),([.func 114 [] [.ptr 8 0]],110),([.sl 9 0 1 (.some 1) 2],22),([.str [65],.sl 10 0 1 (.some 1) 2],79),x3,([.func 115 [] [.ptr 12 0]],110),([.str [113],.sl 13 0 2 (.some 2) 2,.sl 14 0 1 (.some 1) 1,i 1,.sl 15 0 2 (.some 2) 14,i 0,i 0,i 0,i 0]++z8++[.sl 16 0 1 (.some 1) 8],63),x6,x0,qL,x9,([.func 119 [] [.ptr 8 0,.ptr 12 0]],110),([.func 121 [] [.ptr 8 0,.ptr 12 0]],110)]),.cM [i 0,i 0],[]⟩
def Zj:Tr (List eD):=m9 Zi 112 e4
def g4:aD:=[]
def e5:eD:=⟨[Nc],jM (dF gl [qL]),.cM [.sl 7 0 2 .none 14,i 0],[x13]⟩
def Zk:Tr (List eD):=m9 Zj 123 e5
def g5:aD:=[136]
def e6:eD:=⟨[Nc],jM (dF gl [qL]),.cM [.agg [i 2,i 0,.sl 7 0 2 .none 1,.sl 8 0 2 .none 17],.sl 9 0 2 .none 14,i 0],[x1,DA,x13]⟩
def Zl:Tr (List eD):=m9 Zk 71 e6
def g6:aD:=[215,216,11]
def e7:eD:=⟨[Gd,.bC,.agg [i 0,.bC,.bC],i (.negSucc 0),.bC],jM (dF gl [x7,x3,x6,x0,qL,x9,x1,DA]),i 18,[]⟩
def Zm:Tr (List eD):=m9 Zl 240 e7
def g7:aD:=[]
def e8:eD:=⟨[.agg [.sl 6 0 1 (.some 1) 2,.sl 8 0 2 .none 2],.sl 9 0 5 .none 8],jM (dF gl [x7,x3,([.str [],i 0,.str [],i 0],81),([i 7,.sl 10 0 2 (.some 2) 8,i 0,i 0,i 0,i 0,i 0,.str [],i 0,.bC,i 0,i 0,i 0,i 1,i 1,.str [],i 8,.sl 11 0 2 (.some 2) 8,i 0,i 0,i 0,i 0,i 0,.str [],i 9,.sl 12 0 2 (.some 2) 8,i 0,i 0,i 0,i 0,i 0,.str [],i 0,.bC,i 0,i 0,i 0,i 1,i 1,.str []],59),([i 0,.bC,i 0,i 0,i 0,i 0,i (.negSucc 0),.str [],i 2,.bC,i 0,i 0,i 0,i 0,i 0,.str []],59),([i 2,.bC,i 0,i 0,i 0,i 0,i 0,.str [],i 2,.bC,i 1,i 0,i 0,i 0,i 0,.str []],59),([i 1,.bC,i 1,i 0,i 0,i 0,i 0,.str [],i 1,.bC,i 0,i 0,i 0,i 0,i 0,.str []],59)]),i 0,[]⟩
def Zn:Tr (List eD):=m9 Zm 348 e8
def g8:aD:=[]
def e9:eD:=⟨[Gd,.bC,.sl 14 0 1 .none 3,i (.negSucc 0)],jM (dF gl [x7,x3,x6,x0,qL,x9,x1,DA,x4]),.cM [.sl 15 0 1 .none 3,i 0],[x4]⟩
def Y7:Tr (List eD):=m9 Zn 201 e9
def g9:aD:=[628]
def wv:eD:=⟨[Gd,.agg [i (.negSucc 0),.bC,.sl 14 0 1 (.some 1) 3,.bC],i (.negSucc 0)],jM (dF gl [x7,x3,x6,x0,qL,x9,x1,DA,x4]),.cM [.agg [i (.negSucc 0),.bC,.sl 15 0 1 .none 3,.bC],.bC,i 0],[x4]⟩
def Y8:Tr (List eD):=m9 Y7 64 wv
def g10:aD:=[151]
def G4:eD:=⟨[Gd,.agg [i 0,.bC,i 0,i 0,i 0,i 0,i 0,.bC,i 0,i 0,i 0,i 1,i 1,.str []],.agg [i 0,i 0,i 0,i 1,.sl 14 0 1 (.some 1) 3]],jM (dF gl [x7,x3,x6,x0,qL,x9,x1,DA,x5]),.agg [i 1,.sl 15 0 2 .none 5],[([i 0,i 0,i 0,i 0,.sl 16 0 1 .none 3,i 0,i 1,i 0,i 0,.sl 17 0 1 .none 3],90),([i 0,i 0,.str []],43),([i 0,i 0,.str []],43)]⟩
def Y9:Tr (List eD):=m9 Y8 246 G4
def g11:aD:=[137,128,135]
def G5:eD:=⟨[Gd,.agg [i 0,i 0,i 0,i 1,.sl 14 0 1 (.some 1) 3]],jM (dF gl [x7,x3,x6,x0,qL,x9,x1,DA,x5]),.cM [i 1,i 0],[]⟩
def Y':Tr (List eD):=m9 Y9 96 G5
def g12:aD:=[]
def G6:eD:=⟨[Gd,.agg [i (.negSucc 0),.bC,.sl 14 0 1 .none 3,.bC],.agg [i 0,i 0,i 0,i 1,.sl 15 0 1 (.some 1) 3]],jM (dF gl [x7,x3,x6,x0,qL,x9,x1,DA,x4,x5]),.cM [.agg [i (.negSucc 0),.sl 16 0 1 .none 5,.sl 18 0 1 .none 3,.bC],i 0],[x8,x5,x4]⟩
def Za:Tr (List eD):=m9 Y' 60 G6
def g13:aD:=[117,115,111]
def G7:eD:=⟨[Rm,.agg [i 0,i 1],.agg [.sl 13 0 1 (.some 1) 1,.bC],i 0,.agg [i 0,i 0,i 0,i 0,i 1,.sl 14 0 1 (.some 1) 3,i 0]],jM (dF gl [x7,x3,Rn,x6,x0,qL,x9,x2,x5]),.cM [.agg [.sl 15 0 1 .none 1,.sl 16 0 1 .none 8],.bC,i 0],[x2,([i 0,i 0,i 7,.str [],i (.negSucc 0),.sl 17 0 1 .none 5,.sl 19 0 1 .none 3,.bC],49),([i 0,i 0,i 0,i 1,.sl 18 0 1 .none 3],90),x5,x4]⟩
def Zb:Tr (List eD):=m9 Za 19 G7
def g14:aD:=[124,122,114,115,116]
def SK:eD:=⟨[Gd,.agg [i (.negSucc 0),.sl 14 0 1 .none 5,.sl 16 0 1 .none 3,.bC]],jM (dF gl [x7,x3,x6,x0,qL,x9,x1,DA,([i 0,i 0,i 0,i 1,.sl 15 0 1 .none 3],90),x5,x4]),i 0,[]⟩
def Zc:Tr (List eD):=m9 Zb 139 SK
def g15:aD:=[]
def SL:eD:=⟨[Rm,.agg [.sl 13 0 1 .none 1,.sl 14 0 1 .none 8],i 2],jM (dF gl [x7,x3,Rn,x6,x0,qL,x9,x2,([i 0,i 0,i 7,.str [],i (.negSucc 0),.sl 15 0 1 .none 5,.sl 17 0 1 .none 3,.bC],49),([i 0,i 0,i 0,i 1,.sl 16 0 1 .none 3],90),x5,x4]),.cM [.sl 18 0 2 (.some 2) 2,i 0],[([.sl 19 0 1 .none 1,.sl 20 0 1 .none 8,.sl 24 0 1 .none 1,.bC],29),x2,([i 0,i 0,i 7,.str [],i (.negSucc 0),.sl 21 0 1 .none 5,.sl 23 0 1 .none 3,.bC],49),([i 0,i 0,i 0,i 1,.sl 22 0 1 .none 3],90),x5,x4,x2]⟩
def Zd:Tr (List eD):=m9 Zc 7 SL
def g16:aD:=[82,84,120,114,116,118,86]
def SM:eD:=⟨[Rm,.sl 13 0 2 (.some 2) 2],jM (dF gl [x7,x3,Rn,x6,x0,qL,x9,([.sl 14 0 1 .none 1,.sl 15 0 1 .none 8,.sl 19 0 1 .none 1,.bC],29),x2,x12,x8,x5,x4,x2]),.cM [.agg [.sl 20 0 1 .none 1,.sl 21 0 1 .none 8],i 0],[x2,([i 0,i 0,i 7,.str [],i (.negSucc 0),.sl 22 0 1 .none 5,.sl 24 0 1 .none 3,.bC],49),([i 0,i 0,i 0,i 1,.sl 23 0 1 .none 3],90),x5,x4]⟩
def Ze:Tr (List eD):=m9 Zd 8 SM
def g17:aD:=[152,168,159,161,163]
def SN:eD:=⟨[Rm,.sl 13 0 2 (.some 2) 2],jM (dF gl [x7,x3,Rn,x6,x0,qL,x9,([.sl 14 0 1 .none 1,.sl 15 0 1 .none 8,.sl 14 0 1 .none 1,.sl 15 0 1 .none 8],29),x2,x12,x8,x5,x4]),.cM [.agg [.bC,.bC],i 7],[]⟩
def Zf:Tr (List eD):=m9 Ze 8 SN
def g18:aD:=[]
def NZ:eD:=⟨[],jM (dF gl []),.bool V,[]⟩
def aiQ:Tr (List eD):=m9 Zf 6 NZ
def g19:aD:=[]
theorem k0:entry PP (AM.run PP (mw 6 3000 Rc lQ) 1000000) 124 e0 g0=V:=aN
theorem k1:entry PP (AM.run PP (mw 6 3000 Y6 lQ) 1000000) 167 e1 g1=V:=aN
theorem k2:entry PP (AM.run PP (mw 6 3000 Zg lQ) 1000000) 112 e2 g2=V:=aN
theorem k3:entry PP (AM.run PP (mw 6 3000 Zh lQ) 1000000) 175 e3 g3=V:=aN
theorem k4:entry PP (AM.run PP (mw 6 3000 Zi lQ) 1000000) 112 e4 g4=V:=aN
theorem k5:entry PP (AM.run PP (mw 6 3000 Zj lQ) 1000000) 123 e5 g5=V:=aN
theorem k6:entry PP (AM.run PP (mw 6 3000 Zk lQ) 1000000) 71 e6 g6=V:=aN
end Go.AM
