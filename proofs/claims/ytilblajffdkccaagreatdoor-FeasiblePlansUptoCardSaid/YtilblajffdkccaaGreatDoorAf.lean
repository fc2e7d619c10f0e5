/- Proved: the tables of this program and the laws by which its code is stepped through (a part of the proof of FeasiblePlansUptoCardSaid, whose theorem stands in the last text). -/
import Derived.Test.YtilblajffdkccaaGreatDoorAe
open Option renaming some->J,none->Z
open Bool renaming true->V,false->C
open Bool renaming noConfusion->mK
open Go renaming TypeId->al,Value->aB,Oper->aC,Operand->aH,Program->aM,World->aT,Code->bz,FuncId->bS,Frame->cZ,lone->eT,IntKind->gZ,MapEntry->kZ
open Go.Builtin renaming zeroCells->nR,firstCells->oE,append_->s8,copy_->zF
open Go.Lib renaming compact->tb
open Go.Op renaming operands->eB,mapUpdate->rC
open Go.Proofs.Tryz renaming prog->eS
open Go.Region renaming binds->uq
open Go.stepG renaming exec->ug
open Int renaming ofNat->dI,sub->nS
open List renaming rec->kG,append->qA
open Nat renaming beq->aw,ble->bV,blt->cM,succ->eU,add->im,mul->jD
open SizeOf renaming sizeOf->kb
open UInt8 renaming toNat->nU
noncomputable section set_option linter.all false
namespace Go.VM
open Go Go.AM
variable{α β:Type}{want z:Bool}{l:List (DV×aX)}{rs:List ResultVar}{a s t:Nat}{f:SV->SV}{P:aM}{x:α}
theorem vy{n:Nat}(h:s<n):cM s n=V:=aP
theorem iW{b:Nat}(h:a≠b):aw a b=C:=by simp_all[Bool.eq_false_iff]
theorem cC{x y:ah α}{f:α->ah β}(h:x=y):x.bind f=y.bind f:=aj
theorem cD{c d:Bool}{a b:α}(h:c=d):cond c a b=cond d a b:=aj
section
variable{P:aM}{cf:cj}{rec:eK}{rd:ah Nat}{M:St}{k:eJ->ah bt}
inductive Tg{α:Type}:α->Type|mk(a:α):Tg a
inductive Hd(α:Type)|mk(a:α)(t:Tg a)
def Hd.get{b:Type}:Hd b->b|.mk a _=>a
def Ry(P:aM)(c:cj)(r:eK)(d:ah Nat)(b:Hd bz)(k:eJ->ah bt):eJ->ah bt|.fO M=>exec P c r d b.get M k|.ext i M=>k (.ext i M)|.rt M=>k (.rt M)
def Kw(d:Nat)(k:eJ->ah bt):eJ->ah bt|.fO M=>k (.fO M)|.ext i M=>bif aw i d then k (.fO M)else k (.ext i M)|.rt M=>k (.rt M)
def Nk(P:aM)(r:List ResultVar):eJ->ah bt|.fO M|.rt M=>(vE P r M).bind λy=>J (.val (DH y.1) y.2.g)|.ext ..=>Z
theorem asL{a b:bz}:exec P cf rec rd (.seq a b) M k=exec P cf rec rd a M (Ry P cf rec rd (.mk b (.mk b)) k):=by rfl
theorem asC{i:Nat}{b:bz}:exec P cf rec rd (.block i b) M k=exec P cf rec rd b M (Kw i k):=by rfl
theorem aG8{b:bz}{t:Tg b}:Ry P cf rec rd (.mk b t) k (.fO M)=exec P cf rec rd b M k:=(rfl)
theorem aG7{b:Hd bz}{i:Nat}:Ry P cf rec rd b k (.ext i M)=k (.ext i M):=(rfl)
theorem aG9{b:Hd bz}:Ry P cf rec rd b k (.rt M)=k (.rt M):=(rfl)
theorem amV{i:Nat}:Kw i k (.fO M)=k (.fO M):=(rfl)
theorem amW{i:Nat}:Kw i k (.rt M)=k (.rt M):=(rfl)
theorem amT{i:Nat}:Kw i k (.ext i M)=k (.fO M):=by show cond _ _ _=_;simp_all
theorem amU{i d:Nat}(h:i≠d):Kw d k (.ext i M)=k (.ext i M):=by show cond _ _ _=_;grind[iW]
theorem aF1:Nk P rs (.fO M)=(vE P rs M).bind λy=>J (.val (DH y.1) y.2.g):=(rfl)
theorem aF2:Nk P rs (.rt M)=(vE P rs M).bind λy=>J (.val (DH y.1) y.2.g):=(rfl)
theorem as7{s:St}:vE P [] s=J ([],s):=(rfl)
theorem as6{s:St}{r:ResultVar}{l:List ResultVar}:vE P (r::l) s=(Ji P s r).bind λx=>(vE P l x.2).bind λy=>J (x.1::y.1,y.2):=(rfl)
theorem aFW{s:St}{t:Tmp}:Ji P s (.tmp t)=uZ s t:=(rfl)
def OQ:SV->ah (DV×aX)|.dv d o=>J (d,o)|_=>Z
theorem aFT{s:St}{t:Tmp}:uZ s t=(look s.sl t).bind λv=>(OQ v).bind λr=>J (r,{s with sl:=put s.sl t (leave v)}):=by
 unfold uZ;rcases look _ t with _|v;.rfl
 cases v<;>rfl
theorem bs{a:α}{f:α->ah β}:(J a).bind f=f a:=(rfl)
theorem ctt{a b:α}:cond V a b=a:=(rfl)
theorem ctf{a b:α}:cond C a b=b:=(rfl)
theorem aow{c:Bool}{x y:ah α}{f:α->ah β}:(bif c then x else y).bind f=bif c then x.bind f else y.bind f:=aj
theorem cond_not{c:Bool}{y:α}:(bif !c then x else y)=bif c then y else x:=aP
theorem asM:exec P cf rec rd .skip M k=k (.fO M):=(rfl)
theorem asF{i:Nat}:exec P cf rec rd (.exit i) M k=k (.ext i M):=(rfl)
theorem asJ:exec P cf rec rd .ret M k=k (.rt M):=(rfl)
def OM(P:aM)(c:cj)(r:eK)(d:ah Nat)(a b:Hd bz)(s:St)(k:eJ->ah bt):DV->ah bt|.bool x=>bif x then exec P c r d a.get s k else exec P c r d b.get s k|_=>Z
theorem asD{c:aH}{a b:bz}:exec P cf rec rd (.cond c a b) M k=(bp cf.aq M c).bind (OM P cf rec rd (.mk a (.mk a)) (.mk b (.mk b)) M k):=by
 show(match bp _ M c with|some (.bool x)=>_|_=>Z)=_;rcases bp _ M c with _|v;.rfl
 cases v<;>rfl
theorem aou{a:bz}{t:Tg a}{b:Hd bz}:OM P cf rec rd (.mk a t) b M k (.bool V)=exec P cf rec rd a M k:=(rfl)
theorem aot{b:bz}{t:Tg b}{a:Hd bz}:OM P cf rec rd a (.mk b t) M k (.bool C)=exec P cf rec rd b M k:=(rfl)
def aih(k:eJ->ah bt)(s:St):ah bt:=k (.fO s)
def rb(P:aM)(c:cj)(r:eK)(g a:an)(o l:Hd (List aC))(k:eJ->ah bt)(s:St):ah bt:=(jW P c r g a C ⟨o.get⟩ l.get 0 [] s).bind (aih k)
inductive xW|ex(rd:Option Nat)(a:Hd bz)(M:St)(k:eJ->Option bt)|so(gs cr:List Nat)(os l:Hd (List aC))(k:eJ->Option bt)(M:St)(o:Hd aC)|sk(gs cr:List Nat)(os l:Hd (List aC))(k:eJ->Option bt)(M:St)(d:Option Tmp)|bd(a:xW)(f:bt->Option bt)
def sY(P:aM)(c:cj)(r:eK):xW->ah bt|.ex rd a M k=>exec P c r rd a.get M k|.so gs cr s l k M o=>(dN P c r gs cr l.get M o.get).bind (rb P c r gs cr s l k)|.sk gs cr s l k M d=>(aJ M d (.tp [])).bind (rb P c r gs cr s l k)|.bd a f=>(sY P c r a).bind f
def W(P:aM)(c:cj)(r:eK)(a:xW):ah bt:=sY P c r a
theorem alz{a:xW}{f:bt->ah bt}:(W P cf rec a).bind f=W P cf rec (.bd a f):=(rfl)
theorem sp{A B:xW}{r:ah bt}(h:z=V->sY P cf rec A=r)(a:z=C->sY P cf rec B=r):(bif z then W P cf rec A else W P cf rec B)=r:=by
 cases z;.exact a rfl
 .exact h rfl
theorem aov{a b:Hd bz}:OM P cf rec rd a b M k (.bool z)=bif z then W P cf rec (.ex rd a M k)else W P cf rec (.ex rd b M k):=(rfl)
theorem Jn{g c:an}{p:Array aC}:∀(l:List aC)(i j:Nat)(log:List (Nat×Kx))(M:St),jW P cf rec g c C p l i log M=jW P cf rec g c C p l j log M:=by intro l;induction l with|nil=>intro i j log M;rfl|cons o l h=>intro i j log M;unfold jW;congr 1;funext w;grind
def IW(l:an)(k:eJ->ah bt):eJ->ah bt|.fO M=>k (.fO (mask l M))|o=>k o
theorem aBu{l:an}:IW l k (.fO M)=k (.fO (mask l M)):=(rfl)
theorem asI{i:Nat}{o:List aC}:exec P cf rec rd (.region i ⟨o⟩ C) M k=rb P cf rec (cf.uA M.fn) (cf.BN M.fn) (.mk o (.mk o)) (.mk o (.mk o)) (IW (cf.keep M.fn i) k) M:=(rfl)
def pL(r:eK)(b:Hd bz)(s:St)(d:ah Nat):ah bt:=r (.loop b.get s d)
theorem asG{b:bz}:exec P cf rec rd (.loop b) M k=(pL rec (.mk b (.mk b)) (mask (cf.live M.fn (Db b)) M) rd).bind (jm k):=(rfl)
variable{gs cr:an}{ops:Array aC}{l:List aC}{j:Nat}{log:List (Nat×Kx)}{d:ah Tmp}{op:Op}{ty:al}{pos:String}{af:Array Edge}{wh:ah (Nat×Bool)}
section
variable{os:Hd (List aC)}{tl:Tg l}{o:aC}{tg:Tg o}
theorem aGh{t:Tg []}:rb P cf rec gs cr os (.mk [] t) k M=k (.fO M):=(rfl)
theorem aGf{t:Tg (⟨d,op,ty,pos,af,Z⟩::l)}:rb P cf rec gs cr os (.mk (⟨d,op,ty,pos,af,Z⟩::l) t) k M=(dN P cf rec gs cr l M ⟨d,op,ty,pos,af,Z⟩).bind (rb P cf rec gs cr os (.mk l (.mk l)) k):=by
 show((dN P cf _ gs cr l M _).bind _).bind _=_;rcases dN P cf _ gs cr l M _ with _|s;.rfl
 show(jW P cf _ gs cr _ _ l 1 [] _).bind _=_;rw[Jn l 1 0];rfl
def NP(o:Hd (List aC))(s:St)(i:Nat)(w:Bool):ah Bool:=zn ⟨o.get⟩ s ⟨Z,.assign (.tmp 0),0, "",#[],J (i,w)⟩
def Pw(P:aM)(c:cj)(r:eK)(g a:an)(s l:Hd (List aC))(k:eJ->ah bt)(t:St)(o:Hd aC)(w:Bool):ah bt:=bif w then(dN P c r g a l.get t o.get).bind (rb P c r g a s l k)else(aJ t o.get.dst (.tp [])).bind (rb P c r g a s l k)
theorem aGg{i:Nat}{t:Tg (⟨d,op,ty,pos,af,J (i,want)⟩::l)}:rb P cf rec gs cr os (.mk (⟨d,op,ty,pos,af,J (i,want)⟩::l) t) k M=(NP os M i want).bind (Pw P cf rec gs cr os (.mk l (.mk l)) k M (.mk ⟨d,op,ty,pos,af,J (i,want)⟩ (.mk _))):=by show((NP os M i _).bind _).bind _=_;cases NP os M i _ with|none=>rfl|some w=>cases w with
 |true=>
 show((dN P cf _ gs cr l M _).bind _).bind _=(dN P cf _ gs cr l M ⟨d,op,ty,_,af,_⟩).bind _;rcases dN P cf _ gs cr l M _ with _|s;.rfl
 show(jW P cf _ gs cr _ _ l 1 [] _).bind _=_;rw[Jn l 1 0];rfl|false=>
 show((aJ M d _).bind _).bind _=(aJ M d _).bind _;rcases aJ M d _ with _|s;.rfl
 show(jW P cf _ gs cr _ _ l 1 [] _).bind _=_;rw[Jn l 1 0];rfl
theorem auX:Pw P cf rec gs cr os (.mk l tl) k M (.mk o tg) V=(dN P cf rec gs cr l M o).bind (rb P cf rec gs cr os (.mk l tl) k):=(rfl)
theorem auW:Pw P cf rec gs cr os (.mk l tl) k M (.mk o tg) C=(aJ M o.dst (.tp [])).bind (rb P cf rec gs cr os (.mk l tl) k):=(rfl)
theorem auY:Pw P cf rec gs cr os (.mk l tl) k M (.mk o tg) z=bif z then W P cf rec (.so gs cr os (.mk l tl) k M (.mk o tg))else W P cf rec (.sk gs cr os (.mk l tl) k M o.dst):=(rfl)
theorem aLe{r:ah Nat}{a:bz}{t:Tg a}:sY P cf rec (.ex r (.mk a t) M k)=exec P cf rec r a M k:=(rfl)
theorem aLg:sY P cf rec (.so gs cr os (.mk l tl) k M (.mk o tg))=(dN P cf rec gs cr l M o).bind (rb P cf rec gs cr os (.mk l tl) k):=(rfl)
theorem aLf{l:Hd (List aC)}:sY P cf rec (.sk gs cr os l k M d)=(aJ M d (.tp [])).bind (rb P cf rec gs cr os l k):=(rfl)
theorem aLd{a:xW}{f:bt->ah bt}:sY P cf rec (.bd a f)=(sY P cf rec a).bind f:=(rfl)
end
def D2:List aC->Nat->ah Tmp|[],_=>Z|a::_,0=>a.dst|_::l,i+1=>D2 l i
theorem aHY{a:aC}{l:List aC}:D2 (a::l) 0=a.dst:=rfl
theorem aHX{a:aC}{l:List aC}{i:Nat}:D2 (a::l) (i+1)=D2 l i:=rfl
theorem ajV:∀(l:List aC)(i:Nat),(l[i]?).bind (·.dst)=D2 l i|[],_=>by simp[D2]|a::_,0=>rfl|a::l,i+1=>by simp only[J6];exact ajV l i
def NQ(w:Bool):ah SV->ah Bool|some (.dv (.bool b) _)=>J (b==w)|some (.tp [])=>J C|_=>Z
def aa7(s:cT)(w:Bool):ah Tmp->ah Bool|some d=>NQ w (look s d)|none=>J C
theorem aLl{o:List aC}{t:Tg o}{i:Nat}:NP (.mk o t) M i want=aa7 M.sl want (D2 o i):=by unfold NP zn;simp only[Hd.get,List.getElem?_toArray,ajV];cases D2 o i with|none=>rfl|some d=>simp only[aa7];unfold NQ;rfl
theorem aLo{s:cT}{d:Tmp}:aa7 s want (J d)=NQ want (look s d):=rfl
theorem aLm{b:Bool}{o:aX}:NQ want (J (.dv (.bool b) o))=J (b==want):=rfl
theorem aLn:NQ want (J (.tp []))=J C:=rfl
theorem ahz{m n:Nat}{t:List (Nat×α)}:look ((m,x)::t) n=if m=n then J x else look t n:=by show cond _ _ _=_;simp_all
theorem aAQ{n:Nat}:look ([]:List (Nat×α)) n=Z:=rfl
theorem ai6{m n:Nat}{y:α}{t:List (Nat×α)}:put ((m,y)::t) n x=if m=n then(n,x)::t else(m,y)::put t n x:=by show cond _ _ _=_;simp_all
theorem azk{d:DV}{o:aX}:pJ s (.dv d o)=.dv d o:=rfl
theorem azr{l:List (DV×aX)}:pJ s (.tp l)=.tp l:=rfl
theorem azo{b:Nat}:pJ s (.lp a b)=.lp a b:=rfl
theorem azl{d:DV}:pJ s (.ev d)=.ev d:=rfl
theorem azm{b:Nat}:pJ s (.gr a b)=.gr a b:=rfl
theorem azn:pJ s (.hd a)=.hd a:=rfl
theorem azj:pJ s .dd=.dd:=rfl
theorem azq:pJ s (.sr t)=if t=s then .dd else .sr t:=by show cond _ _ _=_;simp_all
theorem azp{i f:Nat}:pJ s (.se t i f)=if t=s then .dd else .se t i f:=by show cond _ _ _=_;simp_all
theorem aHm{v:SV}:aJ M Z v=J M:=rfl
section
variable{fn n s:Nat}{sl:cT}{lb:dX}{g:GH}{dd:DV}{o:aX}
theorem aHh(h:s<n):aJ ⟨fn,n,sl,lb,g⟩ (J s) (.dv dd o)=J ⟨fn,n,put (iG sl s) s (.dv dd o),lb,g⟩:=by show cond (cM s n&&!C) _ _=_;grind[vy]
theorem aHp{l:List (DV×aX)}(h:s<n):aJ ⟨fn,n,sl,lb,g⟩ (J s) (.tp l)=J ⟨fn,n,put (iG sl s) s (.tp l),lb,g⟩:=by show cond (cM s n&&!C) _ _=_;grind[vy]
theorem aHl{b:Nat}(h:s<n):aJ ⟨fn,n,sl,lb,g⟩ (J s) (.lp a b)=J ⟨fn,n,put (iG sl s) s (.lp a b),lb,g⟩:=by show cond (cM s n&&!C) _ _=_;grind[vy]
theorem aHi(h:s<n):aJ ⟨fn,n,sl,lb,g⟩ (J s) (.ev dd)=J ⟨fn,n,put (iG sl s) s (.ev dd),lb,g⟩:=by show cond (cM s n&&!C) _ _=_;grind[vy]
theorem aHk(h:s<n):aJ ⟨fn,n,sl,lb,g⟩ (J s) (.hd a)=J ⟨fn,n,put (iG sl s) s (.hd a),lb,g⟩:=by show cond (cM s n&&!C) _ _=_;grind[vy]
theorem aHj{b:Nat}(h:s<n):aJ ⟨fn,n,sl,lb,g⟩ (J s) (.gr a b)=J ⟨fn,n,put (iG sl s) s (.gr a b),lb,g⟩:=by show cond (cM s n&&!C) _ _=_;grind[vy]
theorem aHo(h:s<n)(k:a≠s):aJ ⟨fn,n,sl,lb,g⟩ (J s) (.sr a)=J ⟨fn,n,put (iG sl s) s (.sr a),lb,g⟩:=by show cond (cM s n&&!(aw a s)) _ _=_;grind[vy,iW]
theorem aHn{i f:Nat}(h:s<n)(k:a≠s):aJ ⟨fn,n,sl,lb,g⟩ (J s) (.se a i f)=J ⟨fn,n,put (iG sl s) s (.se a i f),lb,g⟩:=by show cond (cM s n&&!(aw a s)) _ _=_;grind[vy,iW]
theorem ail:aQ f ⟨fn,n,sl,lb,g⟩ (.tmp t)=match look sl t with|some v=>⟨fn,n,put sl t (f v),lb,g⟩|none=>⟨fn,n,sl,lb,g⟩:=rfl
theorem aCQ{v:aB}:aQ f M (.const v)=M:=rfl
theorem aCR{v:bS}:aQ f M (.func v)=M:=rfl
theorem aCS{v:Nat}:aQ f M (.global v)=M:=rfl
end
section
variable{aq:Nat->ah aA}{fn n:Nat}{sl:cT}{lb:dX}{g:GH}
def Ci:ah SV->ah SV|some .dd=>Z|r=>r
theorem aC9:cP aq M (.tmp t)=Ci (look M.sl t):=by rfl
theorem aBS{d:DV}{o:aX}:Ci (J (.dv d o))=J (.dv d o):=rfl
theorem aBW{b:Nat}:Ci (J (.lp a b))=J (.lp a b):=rfl
theorem aBT{d:DV}:Ci (J (.ev d))=J (.ev d):=rfl
theorem aBZ{d}:Ci (J (.tp d))=J (.tp d):=rfl
theorem aBY:Ci (J (.sr a))=J (.sr a):=rfl
theorem aBX{b c:Nat}:Ci (J (.se a b c))=J (.se a b c):=rfl
theorem aBU{b:Nat}:Ci (J (.gr a b))=J (.gr a b):=rfl
theorem aBV:Ci (J (.hd a))=J (.hd a):=rfl
theorem aC3{k:gZ}{z:Int}:cP aq M (.const (.int k z))=J (.dv (.int k z) .no):=rfl
theorem aC2{b:Bool}:cP aq M (.const (.bool b))=J (.dv (.bool b) .no):=rfl
theorem aC4:cP aq M (.const (.slice Z 0 0))=J (.dv .nl .any):=rfl
theorem aC7{f:bS}:cP aq M (.func f)=J (.dv (.func f [] []) .no):=rfl
theorem aC8{i:Nat}:cP aq M (.global i)=(aq i).map λl=>.ev (.agg l):=rfl
theorem aDc{x:aH}:bp aq M x=(cP aq M x).bind CV:=rfl
theorem ao9{d:DV}{o:aX}:CV (.dv d o)=J d:=rfl
end
section
variable{x y a b c:aH}{fn n:Nat}{sl:cT}{lb:dX}{g:GH}{t:al}
def uR(s:St)(x:aH)(d:Tmp)(u:jq):SV->ah St|.tp l=>aJ (aQ leave s x) (J d) (.tp l)|.dv dd o=>(match u,o,x with|.take,.ex _,_=>(aJ s (J d) (.dv dd o)).map λs=>aQ (λ_=>.sr d) s x|.take,_,_=>aJ (aQ leave s x) (J d) (.dv dd o)|.len,.ex _,_=>(pK dd).bind λn=>aJ s (J d) (.hd n)|.ref,.ex _,.tmp t=>aJ s (J d) (.sr t)|_,.any,_=>aJ s (J d) (.dv dd o)|_,_,_=>aJ (aQ share s x) (J d) (.dv dd .no))|v=>aJ s (J d) v
theorem alq{d:Tmp}:dN P cf rec gs cr l M ⟨J d,.move x,ty,pos,af,wh⟩=(cP cf.aq M x).bind (uR M x d (GI cf.fk cr l d)):=by
 show(cP _ M x).bind _=(cP _ M x).bind _;rcases cP _ M x with _|v;.rfl
 cases v<;>rfl
theorem ak7:dN P cf rec gs cr l M ⟨d,.assign x,ty,pos,af,wh⟩=(cP cf.aq M x).bind λv=>aJ (aQ leave M x) d v:=(rfl)
theorem ai9:∀{sl:cT}{t:Nat}{v:SV},look sl t=J v->put sl t v=sl
 |[],_,_,h=>by simp[look]at h|(m,y)::l,t,v,h=>by
  rw[ahz]at h;rw[ai6];by_cases e:m=t;.subst e;rw[if_pos rfl]at h|-;rw[br h]
  .rw[if_neg e]at h|-;rw[ai9 h]
theorem aik{t:Nat}{v:SV}(h:look sl t=J v)(k:f v=v):aQ f ⟨fn,n,sl,lb,g⟩ (.tmp t)=⟨fn,n,sl,lb,g⟩:=by grind[ail,ai9]
theorem aBk{t d:Nat}{u:jq}{a:DV}(h:look sl t=J (.dv a .no)):uR ⟨fn,n,sl,lb,g⟩ (.tmp t) d u (.dv a .no)=aJ ⟨fn,n,sl,lb,g⟩ (J d) (.dv a .no):=by have e1:aQ leave _ _=(⟨fn,n,sl,lb,g⟩:St):=aik h rfl;have e2:aQ share _ _=(⟨fn,n,sl,lb,g⟩:St):=aik h rfl;grind[uR]
def dm(s:St)(l:List aH):St:=l.foldl (aQ share) s
theorem aHJ:dm M []=M:=rfl
theorem aHI{l:List aH}:dm M (x::l)=dm (aQ share M x) l:=rfl
theorem als:dN P cf rec gs cr l M ⟨d,.pick c a b,ty,pos,af,wh⟩=(bp cf.aq (dm M [c,a,b]) c).bind λ|.bool z=>bif z then(bp cf.aq (dm M [c,a,b]) a).bind λv=>aJ (dm M [c,a,b]) d (.dv v .no)else(bp cf.aq (dm M [c,a,b]) b).bind λv=>aJ (dm M [c,a,b]) d (.dv v .no)|_=>Z:=by
 show(match bp _ (dm M [c,a,b]) c with|some (.bool z)=>_|_=>Z)=_;rcases bp _ _ c with _|v;.rfl
 cases v<;>rfl
theorem ak8{o:BinOp}{u:al}:dN P cf rec gs cr l M ⟨d,.binOp o t x y u,ty,pos,af,wh⟩=(bp cf.aq M x).bind λa=>(bp cf.aq M y).bind λb=>(nX P o t a b).bind λv=>aJ M d (.dv v .no):=(rfl)
theorem alw{o:UnOp}:dN P cf rec gs cr l M ⟨d,.unOp o t x,ty,pos,af,wh⟩=(bp cf.aq M x).bind λa=>(JH o a).bind λv=>aJ M d (.dv v .no):=(rfl)
theorem ak5{e:al}{d:Tmp}:dN P cf rec gs cr l M ⟨J d,.alloc e,ty,pos,af,wh⟩=(fT P e).bind λz=>DA (gs.any (aw d)) M (J d) z.flat:=(rfl)
theorem ak9{e:al}{d:Tmp}:dN P cf rec gs cr l M ⟨J d,.box e x,ty,pos,af,wh⟩=(bp cf.aq (dm M [x]) x).bind λv=>DA (gs.any (aw d)) (dm M [x]) (J d) v.flat:=(rfl)
theorem aBD{d:Tmp}{c:aA}(h:d<n):DA C ⟨fn,n,sl,lb,g⟩ (J d) c=J ⟨fn,n,put (iG (E3 sl d) d) d (.lp d 0),put lb d ⟨c,[]⟩,g⟩:=by show cond _ _ _=_;grind[vy]
theorem aBC{d:Tmp}{c:aA}(h:d<n):DA V ⟨fn,n,sl,lb,g⟩ (J d) c=J ⟨fn,n,put (iG sl d) d (.dv (.ptr g.next 0) .no),lb,g.alloc (.box ⟨c,[]⟩)⟩:=by show cond _ _ _=_;grind[vy]
theorem azb{d:DV}{o:aX}:vW s (.dv d o)=.dv d o:=rfl
theorem azh{l:List (DV×aX)}:vW s (.tp l)=.tp l:=rfl
theorem azc{d:DV}:vW s (.ev d)=.ev d:=rfl
theorem azg{a:Nat}:vW s (.sr a)=.sr a:=rfl
theorem azf{a b e:Nat}:vW s (.se a b e)=.se a b e:=rfl
theorem azd{a:Nat}:vW s (.hd a)=.hd a:=rfl
theorem aza:vW s .dd=.dd:=rfl
theorem aze{a o:Nat}:vW s (.lp a o)=if a=s then .dd else .lp a o:=by show cond _ _ _=_;simp_all
def MO(a:Nat->ah aA)(s:St):List (Nat×aH)->ah (List (Nat×DV))|[]=>J []|p::t=>((bp a s p.2).map λv=>(p.1,v)).bind λq=>(MO a s t).bind λr=>J (q::r)
theorem W7{a:Nat->ah aA}:∀l:List (Nat×aH),cE (λ(p:Nat×aH)=>(bp a M p.2).map λv=>(p.1,v)) l=MO a M l|[]=>rfl|p::t=>by show((bp a M p.2).map λv=>(p.1,v)).bind _=((bp a M p.2).map λv=>(p.1,v)).bind _;congr 1;funext q;show(cE _ t).bind _=_;rw[W7 t]
def opsV(a:Nat->ah aA)(s:St):List aH->ah aA|[]=>J []|p::t=>(bp a s p).bind λq=>(opsV a s t).bind λr=>J (q::r)
theorem DI{a:Nat->ah aA}:∀l:List aH,cE (bp a M) l=opsV a M l|[]=>rfl|p::t=>by show(bp a M p).bind _=(bp a M p).bind _;congr 1;funext q;show(cE _ t).bind _=_;rw[DI t]
def Tc(P:aM)(t:al)(a:St)(d:ah Tmp)(s:List (Nat×DV))(z:DV):ah St:=match P.underlying t with|some (.struct e)=>(cE (λ(f:Field)=>(bC P f.type).map λn=>(f.offset,n)) e.toList).bind λp=>(BT (λi=>oW p i) s z.flat).bind λl=>aJ a d (.dv (.agg l) .no)|_=>Z
theorem alb{p:List (Nat×aH)}:dN P cf rec gs cr l M ⟨d,.build t ⟨p⟩,ty,pos,af,wh⟩=(fT P t).bind λz=>(MO cf.aq (dm M (Op.build t ⟨p⟩).operands.toList) p).bind λq=>Tc P t (dm M (Op.build t ⟨p⟩).operands.toList) d q z:=by show(fT P t).bind _=(fT P t).bind _;congr 1;rw[W7];rfl
def Ml(P:aM)(t:al)(u:jq)(a:St)(d:ah Tmp):SV->ah St|.lp s o=>(look a.lb s).bind λb=>(gP P u t b o).bind λr=>aJ {a with lb:=put a.lb s r.2} d r.1|.ev v=>(match AM.isAgg P t with|some V=>(bC P t).bind λn=>bif !v.bj&&aw v.flat.length n then aJ a d (.dv v .no)else Z|some C=>bif v.bj then aJ a d (.dv v .no)else Z|none=>Z)|.se s i o=>(nB a s).bind λx=>(x.1[i]?).bind λv=>(lO P t v.flat o).bind λv=>aJ a d (.dv v .no)|.dv (.ptr id o) _=>(match a.g.get id with|some (.box b)=>(match u,fg b o,AM.isAgg P t with|.ref,.ex _,J C=>bif cM o b.cells.length then aJ a d (.gr id o)else Z|_,_,_=>(gP P u t b o).bind λr=>aJ {a with g:=a.g.set id (.box r.2)} d r.1)|_=>Z)|_=>Z
theorem alj{d:Tmp}:dN P cf rec gs cr l M ⟨J d,.load t x,ty,pos,af,wh⟩=(cP cf.aq M x).bind (Ml P t (GI cf.fk cr l d) M (J d)):=by show(match cP _ M x with|some (.lp s _)=>_|some (.ev d)=>_|some (.se s i _)=>_|some (.dv (.ptr id _) _)=>_|_=>Z)=_;cases cP _ M x with|none=>rfl|some v=>cases v with|dv v o=>cases v<;>rfl|_=>rfl
def RJ(P:aM)(t:al)(a:St)(d:ah Tmp)(x:aH)(v:DV)(w:aX):SV->ah St|.lp s o=>(look a.lb s).bind λb=>(zh P t b o v w).bind λb=>aJ {aQ leave a x with sl:=cV (aQ leave a x).sl,lb:=put a.lb s b} d (.tp [])|.dv (.ptr id o) _=>(match a.g.get id with|some (.box b)=>(zh P t b o v w).bind λb=>aJ {aQ leave a x with sl:=cV (aQ leave a x).sl,g:=a.g.set id (.box b)} d (.tp [])|_=>Z)|.se s i o=>(nB (aQ share a x) s).bind λy=>(y.1[i]?).bind λe=>(bC P t).bind λn=>bif aw v.flat.length n&&bV (o+n) e.flat.length then(reshape e (pR e.flat o v.flat)).bind λl=>aJ {aQ share a x with sl:=put (cV (aQ share a x).sl) s (.dv (.ay (jo y.1 i l) y.2.1 y.2.2) (.ex y.2.1))} d (.tp [])else Z|_=>Z
theorem alv:dN P cf rec gs cr l M ⟨d,.store t a x,ty,pos,af,wh⟩=(cP cf.aq M x).bind λv=>(OQ v).bind λv=>(cP cf.aq M a).bind (RJ P t M d x v.1 v.2):=by show(cP _ M x).bind _=(cP _ M x).bind _;congr 1;funext v;cases v with
 |dv v o=>show(match cP _ M a with|some (.lp s _)=>_|some (.dv (.ptr id _) _)=>_|some (.se s i _)=>_|_=>Z)=(cP _ M a).bind _;cases cP _ M a with|none=>rfl|some w=>cases w with|dv w o=>cases w<;>rfl|_=>rfl
 |_=>rfl
def Wz(t:St)(d:ah Tmp):SV->ah St|.lp s o=>(look t.lb s).bind λ_=>aJ t d (.lp s o)|.ev v=>aJ t d (.ev v)|.se a b c=>aJ t d (.se a b c)|.dv (.ptr id o) _=>aJ t d (.dv (.ptr id o) .no)|_=>Z
theorem alr:dN P cf rec gs cr l M ⟨d,.nilCheck x,ty,pos,af,wh⟩=(cP cf.aq M x).bind (Wz M d):=by show(cP _ M x).bind _=(cP _ M x).bind _;congr 1;funext v;cases v with|dv v o=>cases v<;>rfl|_=>rfl
def aeK(P:aM)(a:St)(d:ah Tmp)(t:al)(f:Nat):SV->ah St|.lp b o=>(look a.lb b).bind λ_=>aJ a d (.lp b (o+f))|.dv (.ptr id o) _=>aJ a d (.dv (.ptr id (o+f)) .no)|.se s i o=>aJ a d (.se s i (o+f))|.ev (.agg l)=>(lO P t l f).bind λv=>aJ a d (.ev v)|_=>Z
def dj(P:aM)(t:al)(f:Nat):ah (al×Nat):=match P.underlying t with|some (.struct i)=>(i[f]?).bind λd=>(bC P d.type).bind λn=>(match n with|0=>Z|_=>J (d.type,d.offset))|_=>Z
theorem alf{f:Nat}:dN P cf rec gs cr l M ⟨d,.fieldAddr t x f,ty,pos,af,wh⟩=(dj P t f).bind λq=>(cP cf.aq M x).bind (aeK P M d q.1 q.2):=by
 unfold dj;show(match P.underlying t with
 |some (.struct e)=>(e[f]?).bind λc=>(bC P c.type).bind λn=>match n,cP cf.aq M x with|eU _,J (.lp b a)=>(look M.lb b).bind λ_=>aJ M d (.lp b (a+c.offset))|eU _,J (.dv (.ptr id a) _)=>aJ M d (.dv (.ptr id (a+c.offset)) .no)|eU _,J (.se s i a)=>aJ M d (.se s i (a+c.offset))|eU _,J (.ev (.agg l))=>(lO P c.type l c.offset).bind λv=>aJ M d (.ev v)|_,_=>Z
 |_=>Z)=_;split;.rename_i e h;cases e[f]? with|none=>rfl|some c=>simp only[cU];cases bC P c.type with|none=>rfl|some n=>cases n with|zero=>rfl|succ n=>simp only[cU];cases cP cf.aq M x with|none=>rfl|some v=>cases v with|dv v o=>cases v<;>rfl|ev v=>cases v<;>rfl|_=>rfl
 rfl
theorem ale{i:Nat}:dN P cf rec gs cr l M ⟨d,.extract (.tmp s) i,ty,pos,af,wh⟩=(match look M.sl s with|some (.tp l)=>(l[i]?).bind λx=>aJ {M with sl:=put M.sl s (.tp (l.take i++(match x.2 with|.ex _=>(DV.jk,aX.no)|_=>(x.1,.no))::l.drop (i+1)))} d (.dv x.1 x.2)|_=>Z):=rfl
def FE(P:aM)(t:St)(d:ah Tmp)(x:aH)(i:Nat):ah TypeDesc->SV->ah St|some (.slice m),.dv (.ay l e z) w=>(bC P m).bind λn=>bif aw n z&&aw e m then(match w,x with|.ex _,.tmp s=>bif cM i l.length then aJ t d (.se s i 0)else Z|_,_=>(l[i]?).bind λv=>aJ t d (.ev v))else Z|some (.slice m),.sr s=>(nB t s).bind λy=>(bC P m).bind λn=>bif aw n y.2.2&&(aw y.2.1 m&&cM i y.1.length)then aJ t d (.se s i 0)else Z|some (.array len m),.ev (.agg l)=>(bC P m).bind λn=>bif cM i len then(lO P m l (i*n)).bind λv=>aJ t d (.ev v)else Z|some (.array len m),.lp s o=>(bC P m).bind λn=>bif cM i len then(look t.lb s).bind λ_=>aJ t d (.lp s (o+i*n))else Z|_,_=>Z
def IX:DV->ah Nat|.int _ (.ofNat i)=>J i|_=>Z
theorem alg{i:aH}:dN P cf rec gs cr l M ⟨d,.indexAddr t x i,ty,pos,af,wh⟩=(bp cf.aq M i).bind λv=>(IX v).bind λi=>(cP cf.aq M x).bind (FE P M d x i (P.underlying t)):=by show(match bp _ M i with|some (.int _ (.ofNat i))=>(match P.underlying t,cP _ M x with|some (.slice m),J (.dv (.ay l e a) b)=>(bC P _).bind _|some (.slice m),J (.sr s)=>(nB M s).bind _|some (.array len m),J (.ev (.agg l))=>(bC P _).bind _|some (.array len m),J (.lp s f)=>(bC P _).bind _|_,_=>Z)|_=>Z)=_;cases bp _ M i with|none=>rfl|some v=>cases v with
 | int k z => rcases z with i|i;.show _=(cP _ M x).bind _;cases h:P.underlying t with|none=>cases cP _ M x<;>rfl|some u=>cases cP _ M x with|none=>grind|some w=>cases u with
              |slice e=>cases w with|dv w o=>cases w<;>rfl|_=>rfl
              |array n e=>cases w with|dv w o=>rfl|ev w=>cases w<;>rfl|_=>rfl
              |_=>rfl
              rfl|_=>rfl
def We(t:St):ah TypeDesc->SV->ah Nat|some (.array n _),.dv _ _=>J n|some .string,.dv (.str s) _=>J s.length|some (.slice _),.dv d _=>pK d|some (.slice _),.hd n=>J n|some (.slice _),.sr s=>(nB t s).map λy=>y.1.length|some (.slice _),.gr id o=>(EW t id o).bind pK|_,_=>Z
theorem ali{a:List al}:dN P cf rec gs cr l M ⟨d,.call ⟨.builtin .len,⟨[x]⟩,⟨t::a⟩⟩,ty,pos,af,wh⟩=(cP cf.aq M x).bind λv=>(We M (P.underlying t) v).bind λn=>aJ M d (.dv (goN n) .no):=by show(cP _ M x).bind _=(cP _ M x).bind _;congr 1;funext v;show(match P.underlying t,v with|some (.array n _),.dv _ _=>aJ M d _|some .string,.dv (.str s) _=>aJ M d _|some (.slice _),.dv v _=>(pK v).bind λn=>aJ M d _|some (.slice _),.hd n=>aJ M d _|some (.slice _),.sr s=>(nB M s).bind λy=>aJ M d _|some (.slice _),.gr id o=>(EW M id _).bind λv=>(pK v).bind λn=>aJ M d _|_,_=>Z)=_;grind[We,nB]
def Tb(P:aM)(t:St)(d:ah Tmp)(a:Nat)(s:List (Nat×DV))(e n:Nat)(z:DV):ah St:=bif aw n 0||!(bV (a*n) 16777216)then Z else bif aw z.flat.length n then(oN (λ(l:aA)(p:Nat×DV)=>bif cM p.1 l.length&&(aw p.2.flat.length n&&(p.2.bj==z.bj))then J (jo l p.1 p.2)else Z) s (List.replicate a z)).bind λl=>aJ t d (.dv (.ay l e n) (.ex e))else Z
def Nw:ah TypeDesc->ah al|some (.slice e)=>J e|_=>Z
theorem ala{a:Nat}{s:List (Nat×aH)}:dN P cf rec gs cr l M ⟨d,.buildSlice t a ⟨s⟩,ty,pos,af,wh⟩=(Nw (P.underlying t)).bind λm=>(bC P m).bind λn=>(MO cf.aq (dm M (Op.buildSlice t a ⟨s⟩).operands.toList) s).bind λq=>(fT P m).bind λz=>Tb P (dm M (Op.buildSlice t a ⟨s⟩).operands.toList) d a q m n z:=by show(match P.underlying t with|some (.slice m)=>(bC P _).bind λn=>bif aw n 0||!(bV _ _)then Z else(cE (λ(p:Nat×aH)=>(bp _ (dm M (Op.buildSlice t _ _).operands.toList) _).map _) s).bind λb=>(fT P _).bind λz=>bif aw _ n then(oN _ _ _).bind λl=>aJ (dm M (Op.buildSlice t _ _).operands.toList) d _ else Z|_=>Z)=_;cases P.underlying t with|none=>rfl|some u=>cases u with|slice e=>show(bC P e).bind _=(bC P e).bind _;congr 1;funext n;rw[W7];unfold Tb;cases(aw n 0||!(bV _ _))<;>simp_all|_=>rfl
def abQ(t:St)(d:ah Tmp)(x:aH)(e s b:Nat)(z v:DV)(w:DV×aX):ah St:=bif aw z.flat.length s then(Dz v).bind λnew=>bif new.all (λy=>aw y.flat.length s)then(iM e s b w.1 w.2 new).bind λr=>bif d.isSome then aJ {aQ leave t x with sl:=cV (aQ leave t x).sl} d (.dv r.1 r.2)else Z else Z else Z
def uP(P:aM)(e:al):ah (Nat×Nat):=(P.info? e).map λi=>(i.size,i.bytes)
theorem ak6{u:al}:dN P cf rec gs cr l M ⟨d,.call ⟨.builtin .append,⟨[x,y]⟩,⟨[t,u]⟩⟩,ty,pos,af,wh⟩=(Nw (P.underlying t)).bind λm=>(Nw (P.underlying u)).bind λ_=>(uP P m).bind λi=>(fT P m).bind λz=>(cP cf.aq M x).bind λw=>(OQ w).bind λw=>(bp cf.aq M y).bind λv=>abQ M d x m i.1 i.2 z v w:=by show(match P.underlying t,P.underlying u with|some (.slice m),J (.slice _)=>(match P.info? _,fT P _,cP _ M x,bp _ M y with|some i,J z,J (.dv v f),J w=>bif aw _ _ then(Dz w).bind _ else Z|_,_,_,_=>Z)|_,_=>Z)=_;cases P.underlying t with|none=>rfl|some a=>cases a with
 |slice e=>cases P.underlying u with|none=>rfl|some b=>cases b with
  |slice c=>simp only[Nw,cU,uP];cases P.info? e with|none=>rfl|some i=>cases fT P e with|none=>rfl|some z=>cases cP _ M x with|none=>rfl|some w=>cases w with|dv w o=>cases bp _ M y<;>rfl|_=>rfl
  |_=>rfl
 |_=>cases P.underlying u<;>rfl
theorem anu{f:bS}{o:Op}{a:List aH}(h:cf.fk f=0):qE cf rec M o (.func f) a=(opsV cf.aq (dm M (handsOn o)) a).bind λar=>ku cf rec f ar .no (dm M (handsOn o)).g λv g=>J ({dm M (handsOn o)with g:=g},v):=by show(bif aw _ 1 then _ else bif aw _ 2 then _ else bif aw _ 3 then _ else _)=_;rw[h];show(cE _ _).bind _=_;rw[DI];congr 1;funext ar;rw[fy];rfl
def Ho(a:Nat->ah aA)(s:St):List aH->ah aA|[]=>J []|p::t=>(Ad a s p).bind λq=>(Ho a s t).bind λr=>J (q::r)
theorem SX{a:Nat->ah aA}:∀l:List aH,cE (Ad a M) l=Ho a M l|[]=>rfl|p::t=>by show(Ad a M p).bind _=(Ad a M p).bind _;congr 1;funext q;show(cE _ t).bind _=_;rw[SX t]
theorem anx{f:bS}{o:Op}{a:List aH}(h:cf.fk f=3)(b:cf.eF f=V):qE cf rec M o (.func f) a=(Ho cf.aq M a).bind λar=>ku cf rec f ar .no M.g λv _=>bif v.plain then J (M,v)else Z:=by show(bif aw _ 1 then _ else bif aw _ 2 then _ else bif aw _ 3 then _ else _)=_;rw[h];show(bif cf.eF f then _ else Z)=_;grind[SX]
theorem alc{x:aH}{a:List aH}{t:Array al}:dN P cf rec gs cr l M ⟨d,.call ⟨.value x,⟨a⟩,t⟩,ty,pos,af,wh⟩=(qE cf rec M (.call ⟨.value x,⟨a⟩,t⟩) x a).bind λr=>aJ {r.1 with sl:=cV r.1.sl} d r.2:=(rfl)
theorem ay1{d:DV}{o:aX}:pI (.dv d o)=.dv d o:=rfl
theorem ay8{d}:pI (.tp d)=.tp d:=rfl
theorem ay5{a b:Nat}:pI (.lp a b)=.lp a b:=rfl
theorem ay2{d:DV}:pI (.ev d)=.ev d:=rfl
theorem ay7{a:Nat}:pI (.sr a)=.sr a:=rfl
theorem ay6{a b e:Nat}:pI (.se a b e)=.se a b e:=rfl
theorem ay4{a:Nat}:pI (.hd a)=.hd a:=rfl
theorem ay0:pI .dd=.dd:=rfl
theorem ay3{a b:Nat}:pI (.gr a b)=.dd:=rfl
theorem acB{f:bS}{a:aA}{o:aX}{g:GH}{k:SV->GH->ah α}(h:cf.eF f=V)(b:cF a=V):ku cf rec f a o g k=(rec (.call f a o .empty)).bind λ|.val v _=>bif v.pure then k (ri (cf.ri f&&o.yK) v) g else Z|_=>Z:=by grind[ku]
theorem aK{c:cj}{f n:Nat}{b:Func}{j:bz}{a:aA}{w:aX}{g:GH}{r:bt}(l:P.funcs[f]?=J b)(h:exec P c (ev P c) Z j ⟨f,n,Ae 0 w a,[],g⟩ (Nk P rs)=J r)(k:b.body=J j:=by rfl)(m:b.results=⟨rs⟩:=by rfl)(t:b.ntmps=n:=by rfl)(p:c.ko f a=Z:=by rfl)(d:(DD (rs.map A9)&&bV a.length n)=V:=by rfl):ev P c (.call f a w g)=J r:=by
 apply Pb;subst t;rw[iC]at d;unfold zm;simp only[p,l,cU,k,d.2,aL];refine Eq.trans ?_ h;have e:∀M,EZ P b M=(vE P rs M).bind λy=>J (.val (DH y.1) y.2.g):=by intro M;unfold EZ;rw[m];rw[d.1];cases vE P rs M<;>rfl
 congr 1;funext o;cases o with|fO M=>exact e M|rt M=>exact e M|ext i M=>rfl
end
end
end Go.VM
namespace Go.VM
open Go Go.AM
variable{m:Nat}{l:cT}
attribute[go_sem↓]aBu aLe aLg aLf aLd aLl aHY aHX alz asL asI asJ asM asF asD asC aG8 aG9 aG7 amV amW amT amU aF2 aF1 aGf aGg aGh alq ak7 als ak8 alw ak5 ak9 alb alj alv alr alf ale alg ali ala ak6 alc bs aow cond_not
attribute[go_sem↓high]aou aot auX auW
attribute[go_sem↓low]aov auY
attribute[go_sem]Nat.reduceLT Nat.reduceEqDiff
theorem aAO{s:Nat}:look (iG l s) m=(look l m).map (pJ s):=qT l (pJ s) m
theorem aAN{s:Nat}:look (E3 l s) m=(look l m).map (vW s):=qT l (vW s) m
theorem aAK:look (cV l) m=(look l m).map pI:=qT l pI m
theorem aEQ{n:Nat}{x y:GO}{t:List (Nat×GO)}:put ((m,y)::t) n x=if m=n then(n,x)::t else(m,y)::put t n x:=ai6
theorem aER{n:Nat}{x:GO}:put [] n x=[(n,x)]:=rfl
attribute[go_sem]mC aAO aAN aAK aEQ aER iE rD aC2 aC3 aC4 aC7 aC8 aC9 aBS aBW aBT aBZ aBY aBX aBU aBV aDc ao9 ail aCQ aCR aCS Ae aHh aHp aHl aHi aHo aHn aHj aHk aHm azk azr azo azl azq azp azm azn azj ahz aAQ aBk aHJ aHI leave share rf aLo aLm aLn as6 as7 aFW aFT OQ DH aBD aBC azb azh azc azg azf azd aza aze ay1 ay8 ay5 ay2 ay7 ay6 ay4 ay0 ay3 if_true if_false reduceIte beq_true beq_false
end Go.VM
namespace Go.VM
open Go Go.AM
variable{α:Type}{a e f t:Nat}{tm:Tr AV}{l:aA}{v:aB}{x:aH}{P:aM}{fk:bS->Nat}
theorem alR:AM.isAgg PP 40=J V/\AM.isAgg PP 34=J V/\AM.isAgg PP 38=J V/\AM.isAgg PP 64=J V/\AM.isAgg PP 91=J V/\AM.isAgg PP 32=J V/\AM.isAgg PP 30=J V/\AM.isAgg PP 60=J V/\AM.isAgg PP 96=J V/\AM.isAgg PP 28=J V/\AM.isAgg PP 174=J V/\AM.isAgg PP 99=J V/\AM.isAgg PP 101=J V/\AM.isAgg PP 127=J V/\AM.isAgg PP 267=J V/\AM.isAgg PP 259=J V/\AM.isAgg PP 276=J V/\AM.isAgg PP 283=J V/\AM.isAgg PP 325=J V/\AM.isAgg PP 260=J V/\AM.isAgg PP 335=J V/\AM.isAgg PP 22=J C/\AM.isAgg PP 3=J C/\AM.isAgg PP 35=J C/\AM.isAgg PP 36=J C/\AM.isAgg PP 44=J C/\AM.isAgg PP 24=J C/\AM.isAgg PP 9=J C/\AM.isAgg PP 23=J C/\AM.isAgg PP 26=J C/\AM.isAgg PP 25=J C/\AM.isAgg PP 58=J C/\AM.isAgg PP 62=J C/\AM.isAgg PP 45=J C/\AM.isAgg PP 89=J C/\AM.isAgg PP 4=J C/\AM.isAgg PP 130=J C/\AM.isAgg PP 125=J C/\AM.isAgg PP 5=J C/\AM.isAgg PP 176=J C/\AM.isAgg PP 177=J C/\AM.isAgg PP 264=J C/\AM.isAgg PP 327=J C/\AM.isAgg PP 399=J C:=by and_intros<;>kernel_rfl
theorem atQ:dj PP 38 3=J (36,3)/\dj PP 40 0=J (22,0)/\dj PP 40 1=J (34,1)/\dj PP 34 3=J (32,3)/\dj PP 40 2=J (38,19)/\dj PP 38 2=J (35,2)/\dj PP 60 0=J (58,0)/\dj PP 64 4=J (30,4)/\dj PP 64 7=J (26,14)/\dj PP 64 5=J (24,12)/\dj PP 64 6=J (24,13)/\dj PP 64 9=J (24,16)/\dj PP 64 8=J (62,15)/\dj PP 91 1=J (89,1)/\dj PP 91 0=J (9,0)/\dj PP 34 1=J (23,1)/\dj PP 34 2=J (24,2)/\dj PP 34 4=J (26,17)/\dj PP 34 0=J (9,0)/\dj PP 32 6=J (30,6)/\dj PP 32 0=J (3,0)/\dj PP 32 1=J (25,1)/\dj PP 96 3=J (30,3)/\dj PP 38 0=J (3,0)/\dj PP 38 1=J (3,1)/\dj PP 64 0=J (3,0)/\dj PP 64 1=J (3,1)/\dj PP 30 1=J (26,1)/\dj PP 96 0=J (3,0)/\dj PP 96 1=J (3,1)/\dj PP 96 2=J (3,2)/\dj PP 64 2=J (3,2)/\dj PP 64 3=J (3,3)/\dj PP 127 0=J (125,0)/\dj PP 32 2=J (3,2)/\dj PP 32 3=J (3,3)/\dj PP 101 1=J (3,1)/\dj PP 99 1=J (3,1)/\dj PP 174 0=J (3,0)/\dj PP 174 1=J (3,1)/\dj PP 99 0=J (9,0)/\dj PP 30 0=J (3,0)/\dj PP 30 2=J (3,2)/\dj PP 30 3=J (3,3)/\dj PP 30 4=J (3,4)/\dj PP 30 5=J (28,5)/\dj PP 101 0=J (9,0)/\dj PP 32 4=J (3,4)/\dj PP 283 0=J (64,0)/\dj PP 283 1=J (4,17)/\dj PP 283 2=J (32,18)/\dj PP 325 2=J (4,2)/\dj PP 325 4=J (4,4)/\dj PP 260 1=J (4,1)/\dj PP 259 0=J (24,0)/\dj PP 259 1=J (24,1)/\dj PP 259 2=J (3,2)/\dj PP 260 0=J (4,0)/\dj PP 335 0=J (4,0)/\dj PP 335 1=J (32,1)/\dj PP 276 0=J (24,0)/\dj PP 276 1=J (24,1)/\dj PP 276 2=J (3,2)/\dj PP 32 5=J (3,5)/\dj PP 325 0=J (3,0)/\dj PP 325 1=J (3,1)/\dj PP 325 5=J (4,5)/\dj PP 325 3=J (4,3)/\dj PP 28 0=J (3,0)/\dj PP 28 2=J (9,2):=by and_intros<;>kernel_rfl
theorem atS:dj PP 28 1=J (3,1):=by and_intros<;>kernel_rfl
theorem aKn:bC PP 40=J 23/\bC PP 34=J 18/\bC PP 38=J 4/\bC PP 35=J 1/\bC PP 36=J 1/\bC PP 64=J 17/\bC PP 44=J 1/\bC PP 24=J 1/\bC PP 91=J 2/\bC PP 9=J 1/\bC PP 26=J 1/\bC PP 25=J 1/\bC PP 30=J 8/\bC PP 60=J 1/\bC PP 58=J 1/\bC PP 62=J 1/\bC PP 28=J 3/\bC PP 174=J 2/\bC PP 45=J 1/\bC PP 89=J 1/\bC PP 99=J 2/\bC PP 101=J 2/\bC PP 4=J 1/\bC PP 127=J 1/\bC PP 5=J 1/\bC PP 177=J 1/\bC PP 267=J 2/\bC PP 259=J 3/\bC PP 276=J 3/\bC PP 283=J 32/\bC PP 325=J 6/\bC PP 327=J 1/\bC PP 260=J 2/\bC PP 335=J 15:=by and_intros<;>kernel_rfl
theorem aLL:fT PP 38=J (.agg [.int .i64 0,.int .i64 0,.nl,.nl])/\fT PP 3=J (.int .i64 0)/\fT PP 36=J (.nl)/\fT PP 64=J (.agg [.int .i64 0,.int .i64 0,.int .i64 0,.int .i64 0,.int .i64 0,.nl,.int .i64 0,.int .i64 0,.int .i64 0,.int .i64 0,.int .i64 0,.str [],.nl,.nl,.nl,.nl,.nl])/\fT PP 44=J (.nl)/\fT PP 24=J (.nl)/\fT PP 91=J (.agg [.str [],.nl])/\fT PP 32=J (.agg [.int .i64 0,.nl,.int .i64 0,.int .i64 0,.int .i64 0,.int .i64 0,.int .i64 0,.nl,.int .i64 0,.int .i64 0,.int .i64 0,.int .i64 0,.int .i64 0,.str []])/\fT PP 26=J (.nl)/\fT PP 25=J (.nl)/\fT PP 30=J (.agg [.int .i64 0,.nl,.int .i64 0,.int .i64 0,.int .i64 0,.int .i64 0,.int .i64 0,.str []])/\fT PP 60=J (.agg [.nl])/\fT PP 96=J (.agg [.int .i64 0,.int .i64 0,.int .i64 0,.int .i64 0,.nl,.int .i64 0,.int .i64 0,.int .i64 0,.int .i64 0,.int .i64 0,.str []])/\fT PP 62=J (.nl)/\fT PP 28=J (.agg [.int .i64 0,.int .i64 0,.str []])/\fT PP 174=J (.agg [.int .i64 0,.int .i64 0])/\fT PP 45=J (.int .i64 0)/\fT PP 99=J (.agg [.str [],.int .i64 0])/\fT PP 101=J (.agg [.str [],.int .i64 0])/\fT PP 4=J (.bool C)/\fT PP 127=J (.agg [.nilFunc])/\fT PP 177=J (.nilFunc)/\fT PP 195=J (.agg [.nl,.nl,.int .i64 0])/\fT PP 267=J (.agg [.nl,.nl])/\fT PP 259=J (.agg [.nl,.nl,.int .i64 0])/\fT PP 276=J (.agg [.nl,.nl,.int .i64 0])/\fT PP 283=J (.agg [.int .i64 0,.int .i64 0,.int .i64 0,.int .i64 0,.int .i64 0,.nl,.int .i64 0,.int .i64 0,.int .i64 0,.int .i64 0,.int .i64 0,.str [],.nl,.nl,.nl,.nl,.nl,.bool C,.int .i64 0,.nl,.int .i64 0,.int .i64 0,.int .i64 0,.int .i64 0,.int .i64 0,.nl,.int .i64 0,.int .i64 0,.int .i64 0,.int .i64 0,.int .i64 0,.str []])/\fT PP 325=J (.agg [.int .i64 0,.int .i64 0,.bool C,.bool C,.bool C,.bool C])/\fT PP 327=J (.nilFunc)/\fT PP 335=J (.agg [.bool C,.int .i64 0,.nl,.int .i64 0,.int .i64 0,.int .i64 0,.int .i64 0,.int .i64 0,.nl,.int .i64 0,.int .i64 0,.int .i64 0,.int .i64 0,.int .i64 0,.str []]):=by and_intros<;>kernel_rfl
theorem axE:uP PP 64=J (17,240)/\uP PP 24=J (1,24)/\uP PP 60=J (1,24)/\uP PP 96=J (11,112)/\uP PP 127=J (1,8)/\uP PP 283=J (32,400):=by and_intros<;>kernel_rfl
theorem RQ:bC PP 3=J 1:=aI
theorem ia3:uP PP 3=J (1,8):=aI
theorem wx:bC PP 32=J 14:=aI
theorem VV:uP PP 32=J (14,152):=aI
theorem agO:uP PP 30=J (8,88):=aI
theorem ake:bC PP 96=J 11:=aI
theorem agM:uP PP 174=J (2,16):=aI
attribute[go_sem]alR atQ atS aKn aLL axE RQ ia3 wx VV agO ake agM
open Go.Proofs.Tryz in attribute[go_sem]underlying40 underlying34 underlying38 underlying64 underlying91 underlying32 underlying30 underlying60 underlying96 underlying28 underlying174 underlying99 underlying101 underlying127 underlying195 underlying267 underlying259 underlying276 underlying283 underlying326 underlying325 underlying261 underlying260 underlying335 underlying22 underlying3 underlying35 underlying36 underlying44 underlying24 underlying9 underlying23 underlying26 underlying25 underlying58 underlying62 underlying45 underlying89 underlying4 underlying130 underlying125 underlying183 underlying138 underlying142 underlying168 underlying175 underlying184 underlying5 underlying189 underlying186 underlying206 underlying141 underlying169 underlying176 underlying177 underlying179 underlying193 underlying264 underlying265 underlying280 underlying327 underlying337 underlying56 underlying398 underlying284 underlying441 underlying448 underlying450 underlying497 underlying501 underlying399 underlying507 underlying549
set_option maxRecDepth 100000
theorem atX:fr 3=q3/\fr 4=q4/\fr 5=q5/\fr 6=q6/\fr 7=q7/\fr 8=q7/\fr 9=q9/\fr 10=q9/\fr 11=Xl/\fr 12=Xs/\fr 13=Xz/\fr 14=XI/\fr 15=XM/\fr 16=XO/\fr 17=q4/\fr 22=Yk/\fr 23=Yl/\fr 24=Yr/\fr 25=Yz/\fr 26=M4/\fr 27=M5/\fr 28=yT/\fr 29=YP/\fr 30=M5/\fr 31=YQ/\fr 32=Gh/\fr 33=YX/\fr 34=M9/\fr 35=Y4/\fr 36=M9/\fr 37=M'/\fr 40=Zd/\fr 41=Ze/\fr 42=Gi/\fr 43=wg/\fr 44=Zf/\fr 45=Zh/\fr 46=Zi/\fr 47=Zj/\fr 48=Zk/\fr 49=Gj/\fr 50=Zl/\fr 51=Gj/\fr 52=Zm/\fr 53=Nb/\fr 54=Zn/\fr 55=Gk/\fr 56=M4/\fr 57=Zo/\fr 58=Zp/\fr 59=Zq/\fr 60=yU/\fr 61=yT/\fr 62=yU/\fr 63=yT/\fr 64=yU/\fr 65=yT/\fr 66=Zr/\fr 67=Zs/\fr 68=Zt/\fr 69=Zu/\fr 70=Zv/\fr 71=Zw/\fr 72=Zx/\fr 73=Zy/\fr 74=M':=by and_intros<;>kernel_rfl
theorem atY:fr 80=wg/\fr 81=yV/\fr 82=Nc/\fr 83=Zz/\fr 84=ZA/\fr 85=ZB/\fr 86=yV/\fr 87=q4/\fr 88=ZC/\fr 89=ZD/\fr 90=yV/\fr 91=ZE/\fr 92=Nd/\fr 93=ZF/\fr 94=ZG/\fr 95=ZH/\fr 96=Gl/\fr 97=ZI/\fr 98=oZ/\fr 99=oZ/\fr 100=yV/\fr 101=oZ/\fr 102=oZ/\fr 103=Gi/\fr 104=Xg/\fr 105=Xh/\fr 106=Xi/\fr 107=Xj/\fr 108=Gl/\fr 109=Xk/\fr 110=Gk/\fr 111=Xm/\fr 112=Nb/\fr 113=Xn/\fr 114=Xo/\fr 115=Xp/\fr 116=Gl/\fr 117=Xq/\fr 118=Xr/\fr 119=Cl/\fr 120=Xt/\fr 121=Xu/\fr 122=yU/\fr 123=MX/\fr 124=MX/\fr 125=Xv/\fr 126=Xw/\fr 127=oZ/\fr 128=Xx/\fr 129=Xy/\fr 130=XA/\fr 131=XB/\fr 132=q4/\fr 133=MY/\fr 134=XC/\fr 135=XD/\fr 136=XE/\fr 137=XF/\fr 138=XG/\fr 139=XH/\fr 140=XJ/\fr 141=MZ/\fr 142=XK/\fr 143=XL/\fr 157=we/\fr 158=M0:=by and_intros<;>kernel_rfl
theorem atZ:fr 159=XN/\fr 160=XP/\fr 161=wg/\fr 162=we/\fr 163=we/\fr 164=XQ/\fr 165=XR/\fr 166=XS/\fr 167=oZ/\fr 168=wg/\fr 169=we/\fr 170=Gj/\fr 171=Gk/\fr 172=XU/\fr 173=XV/\fr 174=XW/\fr 175=MY/\fr 176=XX/\fr 177=XY/\fr 178=XZ/\fr 179=X0/\fr 180=X1/\fr 181=X2/\fr 182=X3/\fr 183=X4/\fr 184=M1/\fr 185=X5/\fr 186=X6/\fr 187=M1/\fr 188=X7/\fr 189=X8/\fr 190=X9/\fr 191=X'/\fr 192=oZ/\fr 193=Ya/\fr 194=q4/\fr 195=q4/\fr 196=q4/\fr 197=Yb/\fr 198=Yc/\fr 199=Yd/\fr 200=Ye/\fr 201=Yf/\fr 202=Yg/\fr 203=MZ/\fr 204=Yh/\fr 205=Yi/\fr 206=Yj/\fr 207=Gh/\fr 208=Gh/\fr 233=Ym/\fr 234=Yn/\fr 235=Yo/\fr 236=Yp/\fr 237=Yq/\fr 238=oZ/\fr 239=oZ/\fr 240=wg/\fr 241=Ys/\fr 242=Cl/\fr 243=Yt/\fr 244=Yu/\fr 245=Yv/\fr 246=Yw/\fr 247=Yx/\fr 248=Gf:=by and_intros<;>kernel_rfl
theorem at0:fr 249=Yy/\fr 250=yV/\fr 251=M3/\fr 252=yT/\fr 253=we/\fr 254=M3/\fr 255=YA/\fr 256=Nc/\fr 257=M0/\fr 258=YB/\fr 259=oZ/\fr 260=YC/\fr 261=YD/\fr 262=YE/\fr 263=YF/\fr 264=YG/\fr 265=YH/\fr 266=YI/\fr 267=YJ/\fr 268=YK/\fr 269=YL/\fr 270=YM/\fr 271=YN/\fr 287=YO/\fr 310=M6/\fr 311=YR/\fr 312=YS/\fr 313=YT/\fr 314=M6/\fr 315=YU/\fr 316=M7/\fr 317=YV/\fr 318=Gg/\fr 321=M7/\fr 322=Cl/\fr 323=Gi/\fr 324=Cl/\fr 325=we/\fr 326=yU/\fr 327=M8/\fr 328=wg/\fr 329=YW/\fr 330=YY/\fr 331=YZ/\fr 332=q4/\fr 333=M8/\fr 334=Y0/\fr 335=Y1/\fr 336=Y2/\fr 337=Y3/\fr 353=Y5/\fr 382=Y6/\fr 383=Y7/\fr 384=Y8/\fr 385=Y9/\fr 386=Y'/\fr 387=Gg/\fr 388=Za/\fr 389=Zb/\fr 390=Zc/\fr 391=Na/\fr 392=Na/\fr 439=Nd/\fr 440=Gf/\fr 441=Zg/\fr 442=Gf:=by and_intros<;>kernel_rfl
theorem at1:fr 444=Gg:=by and_intros<;>kernel_rfl
theorem at2:fr 370=q0/\fr 443=q0/\fr 476=q0:=by and_intros<;>kernel_rfl
theorem anZ:cf.uA f=(fr f).g:=rfl
theorem anY:cf.BN f=(fr f).c:=rfl
theorem acH:cf.fk f=(fr f).k:=rfl
theorem acI:cf.eF f=(fr f).p:=rfl
theorem an1{h:Nat}:cf.live f h=nt [] ([]::(fr f).r) h:=rfl
theorem an0{h:Nat}:cf.keep f h=nt [] (fr f).r h:=rfl
attribute[go_sem]atX atY atZ at0 at1 at2 nt anZ anY acH acI an1 an0 q0 dy kF uj q3 q4 q5 q6 q7 q9 Xl Xs Xz XI XM XO Yk Yl Yr Yz M4 M5 yT YP YQ Gh YX M9 Y4 M' Zd Ze Gi wg Zf Zh Zi Zj Zk Gj Zl Zm Nb Zn Gk Zo Zp Zq yU Zr Zs Zt Zu Zv Zw Zx Zy yV Nc Zz ZA ZB ZC ZD ZE Nd ZF ZG ZH Gl ZI oZ Xg Xh Xi Xj Xk Xm Xn Xo Xp Xq Xr Cl Xt Xu MX Xv Xw Xx Xy XA XB MY XC XD XE XF XG XH XJ MZ XK XL we M0 XN XP XQ XR XS XU XV XW XX XY XZ X0 X1 X2 X3 X4 M1 X5 X6 X7 X8 X9 X' Ya Yb Yc Yd Ye Yf Yg Yh Yi Yj Ym Yn Yo Yp Yq Ys Yt Yu Yv Yw Yx Gf Yy M3 YA YB YC YD YE YF YG YH YI YJ YK YL YM YN YO M6 YR YS YT YU M7 YV Gg M8 YW YY YZ Y0 Y1 Y2 Y3 Y5 Y6 Y7 Y8 Y9 Y' Za Zb Zc Na Zg
inductive Expr|mk(op:Int)(nl:Bool)(args:List Expr)(var cG neg kind num:Int)(str:List Nat)
inductive ab|mk(op:Int)(nl:Bool)(args:List ab)(ty var scope span:Int)(cond:Expr)
abbrev aF:=List ab
def cp(a:Bool)(l:aA)(e n:Nat):DV:=match l with|[]=>bif a then .nl else .ay [] e n|l=>.ay l e n
mutual
def Expr.cells : Expr -> aA
  | .mk o l args v c n k num str => [.int .i64 o, cp l (Expr.aN args) 30 8, .int .i64 v, .int .i64 c, .int .i64 n, .int .i64 k, .int .i64 num, .str str]
def Expr.aN : List Expr -> aA
  | [] => []
  | e :: t => .agg e.cells :: Expr.aN t
end
mutual
def ab.cells : ab -> aA
  | .mk o n args t v s p c => [.int .i64 o, cp n (ab.aN args) 32 14, .int .i64 t, .int .i64 v, .int .i64 s, .int .i64 p] ++ c.cells
def ab.aN : aF -> aA
  | [] => []
  | e :: t => .agg e.cells :: ab.aN t
end
theorem Expr.KY:∀(l:List Expr)(i:Nat),(Expr.aN l)[i]?=(l[i]?).map λe=>.agg e.cells|[],i=>by simp[Expr.aN]|a::l,0=>by simp[Expr.aN]|a::l,i+1=>by simp[Expr.aN,Expr.KY l i]
theorem ab.KY:∀(l:aF)(i:Nat),(ab.aN l)[i]?=(l[i]?).map λe=>.agg e.cells|[],i=>by simp[ab.aN]|a::l,0=>by simp[ab.aN]|a::l,i+1=>by simp[ab.aN,ab.KY l i]
theorem Wd{b:Bool}{n:Nat}:pK (cp b l e n)=J l.length:=by
 rcases l with _|⟨a,l⟩;.cases b<;>rfl
 rfl
theorem aAs{b:Bool}{n:Nat}:Dz (cp b l e n)=J l:=by
 rcases l with _|⟨a,l⟩;.cases b<;>rfl
 rfl
theorem aGS{b:Bool}{n:Nat}:(cp b l e n).bj=V:=by
 rcases l with _|⟨a,l⟩;.cases b<;>rfl
 rfl
theorem adB{b:Bool}{a:DV}{n:Nat}:cp b (a::l) e n=.ay (a::l) e n:=rfl
theorem Expr.eN:∀e:Expr,e.cells.length=8|.mk ..=>rfl
theorem ab.eN:∀e:ab,e.cells.length=14|.mk _ _ _ _ _ _ _ c=>by simp[ab.cells,Expr.eN c]
theorem Expr.jP:∀l:List Expr,(Expr.aN l).length=l.length|[]=>rfl|_::l=>by simp[Expr.aN,Expr.jP l]
theorem ab.jP:∀l:aF,(ab.aN l).length=l.length|[]=>rfl|_::l=>by simp[ab.aN,ab.jP l]
theorem axJ:inL [] f=C:=rfl
theorem al4{d:Nat}:([]:an).any (aw d)=C:=rfl
theorem an2:cf.ri f=if f=186 then V else C:=by show aw f _=_;by_cases h:f=186<;>simp_all[iW]
def F7(s:cT):an->cT|[]=>[]|t::l=>match look s t with|some v=>(t,v)::F7 s l|none=>F7 s l
def MQ(a:dX)(l:an):dX:=l.eraseDups.filterMap λs=>(look a s).map λb=>(s,b)
def Gm:cT->an|[]=>[]|(_,.lp s _)::l=>s::Gm l|_::l=>Gm l
theorem aji:∀l:cT,l.flatMap (λx=>ajf x.2)=Gm l|[]=>rfl|(a,v)::l=>by rw[vu,aji l];cases v<;>rfl
theorem aA8{l:an}{f n:Nat}{a:cT}{b:dX}{g:GH}:mask l ⟨f,n,a,b,g⟩=⟨f,n,F7 a l,MQ b (Gm (F7 a l)),g⟩:=by
 have e:l.filterMap (λs=>(look a s).map λv=>(s,v))=F7 a l:=by induction l<;>grind[F7]
 unfold mask;simp only[e,aji];rfl
theorem aD2{l:dX}:MQ l []=[]:=rfl
attribute[go_sem]axJ al4 an2 F7 aD2 Gm aA8 EA Option.getD_none
attribute[go_sem↓]asG
theorem aK4{l:List aC}{d:Tmp}:GI fk [] l d=JK fk l d:=rfl
theorem aK3{l:List aC}{d a:Tmp}{t:an}:GI fk (a::t) l d=if d=a then .copy else GI fk t l d:=by
 show(bif(aw d a||t.any _)then _ else _)=_;by_cases h:d=a;.simp_all
 .rw[if_neg h,iW h];rfl
theorem aK2{d:Tmp}:JK fk [] d=.none:=rfl
theorem aK1{d:Tmp}{o:aC}{l:List aC}:JK fk (o::l) d=jq.join (aa2 fk d o.op) (JK fk l d):=rfl
theorem ayb{d:Nat}:qj d (.tmp t)=if t=d then V else C:=by show aw t d=_;grind[nT,iW]
theorem ax8{d:Nat}:qj d (.const v)=C:=rfl
theorem aya{d:Nat}{v:Nat}:qj d (.global v)=C:=rfl
theorem ax9{d:Nat}{v:Nat}:qj d (.func v)=C:=rfl
section
variable{P:aM}{M:St}{u:jq}{t:al}{d:ah Tmp}{s D n:Nat}{A:aA}{own:List (Nat×aX)}
theorem aAE:Ml P t u M d (.lp s D)=(look M.lb s).bind λb=>(gP P u t b D).bind λr=>aJ {M with lb:=put M.lb s r.2} d r.1:=(rfl)
theorem aAw(h:AM.isAgg P t=J V):gP P u t ⟨A,[]⟩ D=(bC P t).bind λn=>bif bV (D+n) A.length then J (.dv (.agg ((A.drop D).take n)) .no,⟨A,[]⟩)else Z:=by grind[gP]
theorem aAA(h:AM.isAgg P t=J C)(a:u≠.take):gP P u t ⟨A,[]⟩ D=(A[D]?).bind λd=>J (.dv d .no,⟨A,[]⟩):=by grind[gP,pO,fg,look]
end
attribute[go_sem↓]aK4 aK3 aK2 aK1 aa2 Db
attribute[go_sem]ayb ax8 aya ax9 aAE aAw aAA eB nv zM N2 vp J2 Bool.or_true ne_eq reduceCtorEq not_false_eq_true ctt ctf fA dk bU eD Nat.reduceAdd Nat.reduceLeDiff wJ List.drop_succ_cons List.take_succ_cons List.take_zero List.getElem?_cons_zero J6 jM Nat.reduceBEq rB
theorem S7{b:Nat}:cM a b=decide (a<b):=by grind[vy,cM,Nat.le_of_ble_eq_true]
theorem amS{b:Nat}:bV a b=decide (a<=b):=by grind[rB,Nat.le_of_ble_eq_true]
theorem S3{b:Nat}:aw a b=decide (a=b):=by grind[nT,iW]
theorem H6{a:Type}{f:a->α->ah a}{b:a}:oN f [] b=J b:=rfl
theorem H4{c:Type}{f:c->α->ah c}{b:c}{a:α}{l:List α}:oN f (a::l) b=(f b a).bind (oN f l):=rfl
theorem aGQ:(DV.agg l).bj=C:=rfl
mutual
theorem Expr.pure : ∀ e : Expr, cF e.cells = V
  | .mk o l args v c n k num str => by
    have h := Expr.qX args
    simp only [Expr.cells, cF, DV.pure, xP, zD]
    unfold cp
    split
    · cases l <;> rfl
    · exact h
theorem Expr.qX : ∀ l : List Expr, cF (Expr.aN l) = V
  | [] => rfl
  | e :: l => by simp only [Expr.aN, cF, DV.pure, Expr.pure e, Expr.qX l, xP]
end
mutual
theorem ab.pure : ∀ e : ab, cF e.cells = V
  | .mk m a args t v s p ⟨o, j, T, c, f, d, P, g, i⟩ => by
    have h := ab.qX args
    have k := Expr.qX T
    have b : ∀ a l e n, cF l = V -> (cp a l e n).pure = V := by
      intro a l e n h; unfold cp; split
      · cases a <;> rfl
      · exact h
    simp only [ab.cells, Expr.cells, fA, dk, cF, DV.pure, xP, b _ _ _ _ h, b _ _ _ _ k]
theorem ab.qX : ∀ l : aF, cF (ab.aN l) = V
  | [] => rfl
  | e :: l => by simp only [ab.aN, cF, DV.pure, ab.pure e, ab.qX l, xP]
end
theorem xE{a:Bool}{n:Nat}(h:cF l=V):(cp a l e n).pure=V:=by
 unfold cp;split;.cases a<;>rfl
 .exact h
attribute[go_sem]Nw MO de bP Tb H6 H4 S7 amS S3 eu mO List.replicate_succ List.replicate_zero jo aGQ xP zD Bo GZ Nat.reduceMul iE xE ab.qX Expr.qX DV.pure cF SV.pure We Wd aAs goN opsV Ho anu anx acB ri Ad aeK
def rU(P:aM)(c:cj)(b:Hd bz)(r:ah Nat):eJ->ah bt|.fO st=>pL (ev P c) b (mask (c.live st.fn (Db b.get)) st) r|o=>J (.out o)
theorem ar0{c:cj}{b:bz}{t:Tg b}{s:St}{d:ah Nat}{r:bt}(h:exec P c (ev P c) d b s (rU P c (.mk b t) d)=J r):pL (ev P c) (.mk b t) s d=J r:=by apply Pb;refine Eq.trans ?_ h;rfl
theorem aAU{c:cj}{b:bz}{t:Tg b}{r:ah Nat}{s:St}:rU P c (.mk b t) r (.fO s)=pL (ev P c) (.mk b t) (mask (c.live s.fn (Db b)) s) r:=(rfl)
theorem aAT{c:cj}{b:Hd bz}{r:ah Nat}{i:Nat}{s:St}:rU P c b r (.ext i s)=J (.out (.ext i s)):=(rfl)
theorem aAV{c:cj}{b:Hd bz}{r:ah Nat}{s:St}:rU P c b r (.rt s)=J (.out (.rt s)):=(rfl)
theorem aDk{k:eJ->ah bt}{o:eJ}:jm k (.out o)=k o:=(rfl)
theorem aA0{b:Nat}:ao (.ofNat a) (.ofNat b)=decide (a<b):=S7
theorem xO{i:Nat}(h:i+1<9223372036854775808):fS .i64 (Int.add (dI i) 1)=dI (i+1):=by show(bif cM _ _ then dI _ else _)=_;grind[vy]
attribute[go_sem↓]aAU aAT aAV aDk
section
variable{P:aM}{t:al}{s u:an}{M:St}{aq:Nat->ah aA}
theorem amD{k:gZ}{a b:Int}:nX P .add t (.int k a) (.int k b)=J (.int k (fS k (Int.add a b))):=by show(if k=k then _ else Z)=_;rw[if_pos rfl];rfl
theorem amP{k:gZ}{a b:Int}:nX P .sub t (.int k a) (.int k b)=J (.int k (fS k (nS a b))):=by show(if k=k then _ else Z)=_;rw[if_pos rfl];rfl
theorem amF{k:gZ}{a b:Int}:nX P .eql t (.int k a) (.int k b)=J (.bool (ai a b)):=by show(if k=k then _ else Z)=_;rw[if_pos rfl];rfl
theorem amN{k:gZ}{a b:Int}:nX P .neq t (.int k a) (.int k b)=J (.bool (!ai a b)):=by show(if k=k then _ else Z)=_;rw[if_pos rfl];rfl
theorem amL{k:gZ}{a b:Int}:nX P .lss t (.int k a) (.int k b)=J (.bool (ao a b)):=by show(if k=k then _ else Z)=_;rw[if_pos rfl];rfl
theorem amK{k:gZ}{a b:Int}:nX P .leq t (.int k a) (.int k b)=J (.bool (!ao b a)):=by show(if k=k then _ else Z)=_;rw[if_pos rfl];rfl
theorem amH{k:gZ}{a b:Int}:nX P .gtr t (.int k a) (.int k b)=J (.bool (ao b a)):=by show(if k=k then _ else Z)=_;rw[if_pos rfl];rfl
theorem amG{k:gZ}{a b:Int}:nX P .geq t (.int k a) (.int k b)=J (.bool (!ao a b)):=by show(if k=k then _ else Z)=_;rw[if_pos rfl];rfl
theorem am8:nX P .eql t (.str s) (.str u)=J (.bool (decide (s=u))):=by rw[<-Al];rfl
theorem am9:nX P .neq t (.str s) (.str u)=J (.bool (!decide (s=u))):=by rw[<-Al];rfl
theorem acv(h:s.length+u.length<=1000000000):nX P .add t (.str s) (.str u)=J (.str (s++u)):=by show(bif bV _ _ then J _ else Z).bind _=_;rw[ef,ef,lQ,rB ae];rfl
theorem aC6{l:List UInt8}:cP aq M (.const (.string ⟨⟨l⟩⟩))=J (.dv (.str (l.map nU)) .no):=rfl
theorem aC5:cP aq M (.const .nilFunc)=J (.dv .nilFunc .no):=rfl
end
attribute[go_sem]aC6 aC5 UInt8.reduceToNat amD amP amF amN amL amK amH amG am8 am9
attribute[go_sem]aA0 Option.or
section
variable{M:St}{x:aH}{d e t:Nat}{dd:DV}{u:jq}
theorem aBp:uR M x d .take (.dv dd (.ex e))=(aJ M (J d) (.dv dd (.ex e))).bind λM=>J (aQ (λ_=>.sr d) M x):=by show Option.map _ _=_;grind[aJ]
theorem aBo:uR M x d .take (.dv dd .any)=aJ (aQ leave M x) (J d) (.dv dd .any):=(rfl)
theorem aBj:uR M x d .len (.dv dd (.ex e))=(pK dd).bind λn=>aJ M (J d) (.hd n):=(rfl)
theorem aBl:uR M (.tmp t) d .ref (.dv dd (.ex e))=aJ M (J d) (.sr t):=(rfl)
theorem aBh:uR M x d .copy (.dv dd (.ex e))=aJ (aQ share M x) (J d) (.dv dd .no):=(rfl)
theorem aBg(h:u≠.take):uR M x d u (.dv dd .any)=aJ M (J d) (.dv dd .any):=by cases u<;>first|rfl|grind
theorem aBr(h:u≠.take):uR M x d u (.dv dd (.ty e))=aJ (aQ share M x) (J d) (.dv dd .no):=by cases u<;>first|rfl|grind
end
attribute[go_sem]aBp aBo aBj aBl aBh aBg aBr Bool.and_false Bool.false_and jq.join
section
variable{P:aM}{M:St}{x:aH}{d:ah Tmp}{e n i:Nat}{t:al}{u:jq}{nl:Bool}{xs l new:aA}{dd:DV}
theorem axA(h:bC P e=J n):FE P M d x i (J (.slice e)) (.dv (cp nl xs e n) .no)=(xs[i]?).bind λv=>aJ M d (.ev v):=by
 have e1:=nT n;have e2:=nT e;rcases xs with _|⟨a,xs⟩;.cases nl with|true=>rfl|false=>show(bC P e).bind _=_;grind
 show(bC P e).bind _=_;grind
theorem axC(h:bC P e=J n):FE P M d x i (J (.slice e)) (.dv (.ay xs e n) .no)=(xs[i]?).bind λv=>aJ M d (.ev v):=by have e1:=nT n;have e2:=nT e;show(bC P e).bind _=_;grind
theorem aAD:Ml P t u M d (.ev dd)=(AM.isAgg P t).bind λa=>bif a then(bC P t).bind λn=>bif !dd.bj&&aw dd.flat.length n then aJ M d (.dv dd .no)else Z else bif dd.bj then aJ M d (.dv dd .no)else Z:=by show(match AM.isAgg P t with|some V=>_|some C=>_|none=>Z)=_;grind
theorem wN{b:Nat}(c:n≠0)(h:(l.length+new.length)*b<=bF)(a:l.length+new.length<=bF):iM e n b (.ay l e n) (.ex e) new=J (.ay (l++new) e n,.ex e):=by grind[iM,iW,nT,rB]
theorem aAt:Dz (.ay l e n)=J l:=rfl
end
theorem ab.KX:∀l:aF,((ab.aN l).all λy=>decide (y.flat.length=14))=V|[]=>rfl|q::l=>by show(decide (q.cells.length=14)&&(ab.aN l).all _)=V;rw[ab.eN,ab.KX l];rfl
theorem Expr.KX:∀l:List Expr,((Expr.aN l).all λy=>decide (y.flat.length=8))=V|[]=>rfl|q::l=>by show(decide (q.cells.length=8)&&(Expr.aN l).all _)=V;rw[Expr.eN,Expr.KX l];rfl
theorem ab.vC:∀l m:aF,ab.aN (l++m)=ab.aN l++ab.aN m|[],m=>rfl|q::l,m=>by simp[ab.aN,ab.vC l m]
theorem Expr.vC:∀l m:List Expr,Expr.aN (l++m)=Expr.aN l++Expr.aN m|[],m=>rfl|q::l,m=>by simp[Expr.aN,Expr.vC l m]
attribute[go_sem]axA axC aAD aAt ab.KX Expr.KX ab.KY Expr.KY ab.jP Expr.jP ab.eN Expr.eN ab.pure Expr.pure abQ SC
theorem avs{a:List aH}{t:Array al}:handsOn (.call ⟨.value x,⟨a⟩,t⟩)=x::a:=by simp[handsOn,eB,Call.operands]
attribute[go_sem]avs
theorem flat_agg:(DV.agg l).flat=l:=rfl
theorem att{k:gZ}{n:Int}:(DV.int k n).flat=[.int k n]:=rfl
theorem atp{b:Bool}:(DV.bool b).flat=[.bool b]:=rfl
theorem aty{b:an}:(DV.str b).flat=[.str b]:=rfl
theorem atw:DV.nl.flat=[.nl]:=rfl
theorem atu{n:Nat}:(DV.ay l e n).flat=[.ay l e n]:=rfl
theorem atr{m:aA}:(DV.func f l m).flat=[.func f l m]:=rfl
theorem atv:DV.nilFunc.flat=[.nilFunc]:=rfl
theorem atx{b:Nat}:(DV.ptr a b).flat=[.ptr a b]:=rfl
theorem atq{a:Bool}{n:Nat}:(cp a l e n).flat=[cp a l e n]:=by
 unfold cp;split;.cases a<;>rfl
 rfl
attribute[go_sem]flat_agg att atp aty atw atu atr atv atx atq
theorem aCf:dI 0=0:=rfl
theorem aBw{k:gZ}:IX (.int k 0)=J 0:=rfl
theorem aBx{k:gZ}:IX (.int k 1)=J 1:=rfl
theorem aBy{k:gZ}:IX (.int k 2)=J 2:=rfl
theorem aBz{k:gZ}{n:Nat}:IX (.int k (.ofNat n))=J n:=rfl
attribute[go_sem]aCf aBw aBx aBy aBz
section
variable{P:aM}{cf:cj}{rec:eK}{M:St}{gs cr:an}{l:List aC}{d:ah Tmp}{ty:al}{pos:String}{af:Array Edge}{wh:ah (Nat×Bool)}{x y:aH}{t u:al}{ts:Array al}
def ahG(s:St)(d:ah Tmp):DV->DV->ah St|.int k a,.int _ b=>aJ s d (.dv (.int k (bif ao a b then b else a)) .no)|_,_=>Z
theorem aln:dN P cf rec gs cr l M ⟨d,.call ⟨.builtin .max,⟨[x,y]⟩,ts⟩,ty,pos,af,wh⟩=(bp cf.aq M x).bind λa=>(bp cf.aq M y).bind (ahG M d a):=by
 show((bp _ M x).bind λb=>((bp _ M y).bind _).bind _).bind _=_;rcases bp _ M x with _|a;.rfl
 rcases bp _ M y with _|b;.rfl
 cases a<;>cases b<;>rfl
theorem aBa{b:Nat}:(bif decide (a<b)then dI b else dI a)=dI (max a b):=aj
def agR(P:aM)(t:St)(d:ah Tmp)(i:Nat):ah TypeDesc->DV->ah St|some .string,.str s=>(s[i]?).bind λb=>aJ t d (.dv (.int .u8 (.ofNat b)) .no)|_,_=>Z
theorem alh{i:aH}:dN P cf rec gs cr l M ⟨d,.index t x i,ty,pos,af,wh⟩=(bp cf.aq M i).bind λv=>(IX v).bind λa=>(bp cf.aq M x).bind (agR P M d a (P.underlying t)):=by show(match bp _ M i with|some (.int _ (.ofNat a))=>(match P.underlying t,bp _ M x with|some .string,J (.str s)=>(s[a]?).bind _|_,_=>Z)|_=>Z)=_;cases bp _ M i with|none=>rfl|some v=>cases v with
 |int k z=>
 rcases z with a|i;.show _=(bp _ M x).bind _;cases h:P.underlying t with|none=>cases bp _ M x<;>rfl|some w=>cases bp _ M x with|none=>grind|some q=>cases w with|string=>cases q<;>rfl|_=>rfl
 rfl|_=>rfl
def Wq:ah TypeDesc->ah (al×al)|some (.map k e)=>J (k,e)|_=>Z
def Mv:DV->ah Nat|.map r=>J r|_=>Z
def Mt(g:GH)(r:Nat):ah (List pf×Nat):=match g.get r with|some (.map e c)=>J (e,c)|_=>Z
def ahy(P:aM)(s:St)(d:ah Tmp)(t:al):ah (Nat×pf)->ah St|some (_,e)=>aJ s d (.dv e.2.1 .no)|none=>(fT P t).bind λz=>aJ s d (.dv z .no)
theorem alk{k:aH}:dN P cf rec gs cr l M ⟨d,.lookup t x k C,ty,pos,af,wh⟩=(Wq (P.underlying t)).bind λq=>(bp cf.aq (dm M (Op.lookup t x k C).operands.toList) x).bind λv=>(Mv v).bind λr=>(Mt (dm M (Op.lookup t x k C).operands.toList).g r).bind λm=>(bp cf.aq (dm M (Op.lookup t x k C).operands.toList) k).bind λa=>bif vV P q.1 a then(findD P q.1 a m.1 0).bind (ahy P (dm M (Op.lookup t x k C).operands.toList) d q.2)else Z:=by show(match P.underlying t,bp _ (dm M (Op.lookup t x k _).operands.toList) x with|some (.map b e),J (.map r)=>(match(dm M (Op.lookup t x k _).operands.toList).g.get r with|some (.map s _)=>(bp _ _ k).bind _|_=>Z)|_,_=>Z)=_;cases P.underlying t with|none=>rfl|some w=>cases w with
 |map b e=>cases bp _ _ x with|none=>rfl|some v=>cases v with
  |map r=>
  simp only[Mv,Mt,cU];rcases(dm M _).g.get r with _|o;.rfl
  cases o<;>rfl|_=>rfl
 |_=>rfl
def ahE(s:St)(d:ah Tmp)(r:Nat)(a:List pf)(c:Nat)(k x:DV):ah (Nat×pf)->ah St|some (i,e)=>aJ {s with sl:=cV s.sl,g:=s.g.set r (.map (a.take i++(e.1,x,e.2.2)::a.drop (i+1)) c)} d (.tp [])|none=>aJ {s with sl:=cV s.sl,g:=s.g.set r (.map (a++[(k,x,c)]) (c+1))} d (.tp [])
theorem alm{m k:aH}:dN P cf rec gs cr l M ⟨d,.mapUpdate t m k x,ty,pos,af,wh⟩=(Wq (P.underlying t)).bind λq=>(bp cf.aq (dm M (rC t m k x).operands.toList) m).bind λv=>(Mv v).bind λr=>(Mt (dm M (rC t m k x).operands.toList).g r).bind λs=>(bp cf.aq (dm M (rC t m k x).operands.toList) k).bind λa=>(bp cf.aq (dm M (rC t m k x).operands.toList) x).bind λb=>bif vV P q.1 a then(findD P q.1 a s.1 0).bind (ahE (dm M (rC t m k x).operands.toList) d r s.1 s.2 a b)else Z:=by show(match P.underlying t,bp cf.aq (dm M (rC t m k x).operands.toList) m with|some (.map f _),J (.map r)=>(match(dm M (rC t m k x).operands.toList).g.get r with|some (.map s c)=>(bp cf.aq (dm M (rC t m k x).operands.toList) k).bind λa=>(bp cf.aq (dm M (rC t m k x).operands.toList) x).bind λb=>bif vV P f a then(findD P f a s 0).bind λ|some (i,e)=>aJ {(dm M (rC t m k x).operands.toList)with sl:=cV (dm M (rC t m k x).operands.toList).sl,g:=(dm M (rC t m k x).operands.toList).g.set r (.map (s.take i++(e.1,b,e.2.2)::s.drop (i+1)) c)} d (.tp [])|none=>aJ {(dm M (rC t m k x).operands.toList)with sl:=cV (dm M (rC t m k x).operands.toList).sl,g:=(dm M (rC t m k x).operands.toList).g.set r (.map (s++[(a,b,c)]) (c+1))} d (.tp [])else Z|_=>Z)|_,_=>Z)=_;cases P.underlying t with|none=>rfl|some w=>cases w with
 |map f h=>show _=(bp cf.aq (dm M (rC t m k x).operands.toList) m).bind _;cases bp cf.aq (dm M (rC t m k x).operands.toList) m with|none=>rfl|some v=>cases v with
  |map r=>simp only[Mv,Mt,cU];cases(dm M (rC t m k x).operands.toList).g.get r with|none=>rfl|some o=>cases o<;>rfl
  |_=>rfl
 |_=>rfl
theorem alp:dN P cf rec gs cr l M ⟨d,.makeMap t Z,ty,pos,af,wh⟩=aJ {M with g:=M.g.alloc (.map [] 0)} d (.dv (.map M.g.next) .no):=(rfl)
theorem alo{f:bS}{a b:List aH}:dN P cf rec gs cr l M ⟨d,.makeFunc (.func f) ⟨a⟩ ⟨b⟩,ty,pos,af,wh⟩=(opsV cf.aq (dm M (Op.makeFunc (.func f) ⟨a⟩ ⟨b⟩).operands.toList) a).bind λc=>(opsV cf.aq (dm M (Op.makeFunc (.func f) ⟨a⟩ ⟨b⟩).operands.toList) b).bind λe=>aJ (dm M (Op.makeFunc (.func f) ⟨a⟩ ⟨b⟩).operands.toList) d (.dv (.func f c e) .no):=by show(cE _ a).bind _=_;rw[DI,DI];rfl
def MK(a:Nat->ah aA)(s:St):ah aH->ah (ah DV)|none=>J Z|some x=>(bp a s x).bind λv=>J (J v)
theorem alu{o h m:ah aH}:dN P cf rec gs cr l M ⟨d,.slice t x o h m,ty,pos,af,wh⟩=(bp cf.aq (dm M (Op.slice t x o h m).operands.toList) x).bind λv=>(MK cf.aq (dm M (Op.slice t x o h m).operands.toList) o).bind λk=>(MK cf.aq (dm M (Op.slice t x o h m).operands.toList) h).bind λc=>(MK cf.aq (dm M (Op.slice t x o h m).operands.toList) m).bind λF=>(oz P t v k c F).bind λr=>aJ (dm M (Op.slice t x o h m).operands.toList) d (.dv r.1 r.2):=by
 have e:∀(M:St)(x:aH),(bp cf.aq M x).map J=(bp cf.aq M x).bind λv=>J (J v):=by intro M x;cases bp _ M x<;>rfl
 unfold dN dM;cases o<;>cases h<;>cases m<;>simp only[MK,cU,e]<;>rfl
def adk(t:St)(d:ah Tmp)(P:aM):ah TypeDesc->ah TypeDesc->DV->ah St|some _,J (.int k),.int _ n=>aJ t d (.dv (.int k (fS k n)) .no)|some .string,J (.slice e),.str s=>(match P.underlying e with|some (.int .u8)=>aJ t d (.dv (.ay (s.map λb=>.int .u8 (.ofNat b)) e 1) .no)|_=>Z)|_,_,_=>Z
theorem ald:dN P cf rec gs cr l M ⟨d,.convert t u x,ty,pos,af,wh⟩=(bp cf.aq (dm M [x]) x).bind (adk (dm M [x]) d P (P.underlying t) (P.underlying u)):=(rfl)
def OB(c:cj)(r:eK)(s:St)(o:Op)(x:aH)(a:List aH):DV->ah (St×SV)
 |.func h f b=>bif aw (c.fk h) 0 then(opsV c.aq (dm s (handsOn o)) a).bind λar=>ku c r h (f++ar++b) .no (dm s (handsOn o)).g λv g=>J ({dm s (handsOn o)with g:=g},v)else bif aw (c.fk h) 3&&c.eF h then(Ho c.aq s a).bind λar=>ku c r h (f++ar++b) .no s.g λv _=>bif v.plain then J (s,v)else Z else qE c r s o x a|.dK i=>(opsV c.aq (dm s (handsOn o)) a).bind λar=>(r (.dK i ar (dm s (handsOn o)).g)).bind λ|.val v g=>J ({dm s (handsOn o)with g:=g},v)|_=>Z
 |_=>Z
theorem anA{o:Op}{s:Nat}{a:List aH}:qE cf rec M o (.tmp s) a=(bp cf.aq M (.tmp s)).bind (OB cf rec M o (.tmp s) a):=by cases h:bp _ M _ with|none=>grind[qE]|some v=>cases v with|func f b c=>show _=(bif aw _ 0 then _ else bif aw _ 3&&cf.eF f then _ else _);grind[qE,dm,DI,iW,SX]|dK i=>unfold qE;rw[h];rw[DI];rfl|_=>unfold qE;rw[h];rfl
theorem anr{o:Op}{a:List aH}{h:bS}{f c:aA}(e:cf.fk h=0):OB cf rec M o x a (.func h f c)=(opsV cf.aq (dm M (handsOn o)) a).bind λar=>ku cf rec h (f++ar++c) .no (dm M (handsOn o)).g λv g=>J ({dm M (handsOn o)with g:=g},v):=by show(bif aw _ 0 then _ else _)=_;simp_all
theorem ans{o:Op}{a:List aH}{h:bS}{f c:aA}(e:cf.fk h=3)(b:cf.eF h=V):OB cf rec M o x a (.func h f c)=(Ho cf.aq M a).bind λar=>ku cf rec h (f++ar++c) .no M.g λv _=>bif v.plain then J (M,v)else Z:=by show(bif aw _ 0 then _ else bif aw _ 3&&cf.eF h then _ else _)=_;rw[e,b];rfl
theorem anB{f:bS}{a:aA}{o:aX}{g:GH}{k:SV->GH->ah α}(h:cf.eF f=C):ku cf rec f a o g k=(rec (.call f a o g)).bind λ|.val v g=>k v g|_=>Z:=by grind[ku]
theorem aBi{d:Nat}{u:jq}{a:DV}:uR M (.const v) d u (.dv a .no)=aJ M (J d) (.dv a .no):=by cases u<;>rfl
theorem anF{b:Builtin}{a:List aH}:(Call.mk (.builtin b) ⟨a⟩ ts).operands.toList=a:=by simp[Call.operands]
theorem anG{a:List aH}:(Call.mk (.value x) ⟨a⟩ ts).operands.toList=x::a:=by simp[Call.operands]
end
attribute[go_sem↓]aln alh alk alm alp alo alu ald
attribute[go_sem]ahG aBa agR Wq Mv Mt ahy ahE MK adk anA anr ans anB aBi anF anG fy SV.plain DV.plain MS
theorem Expr.JA(e:Expr):List.take 8 e.cells=e.cells:=by grind[Expr.eN]
theorem ab.JA(e:ab):List.take 14 e.cells=e.cells:=by grind[ab.eN]
attribute[go_sem]Expr.JA ab.JA
structure Sl(α:Type)where
 nl:Bool
 l:List α
abbrev iD(n:Int):DV:=.int .i64 n
def hZ(s:Sl Int):DV:=cp s.nl (s.l.map iD) 3 1
structure Guard where
 scope:Int
 ty:Int
 var:Int
 cond:Expr
structure fU where
 scope:Int
 span:Int
structure Edge where
 src:Int
 dst:Int
 var:Int
 ty:Int
 cond:Expr
 opens:Sl Int
 gK:Sl Int
 gC:Sl Expr
 fx:Sl fU
 inside:Sl Int
abbrev bR:=List Edge
structure Stat where guards:Sl Guard
structure bm where
 vars:Int
 scopes:Int
 gk:Sl Stat
 bE:Sl Edge
structure jX where
 name:an
 kind:Int
structure bJ where
 name:an
 fields:Sl jX
structure dg where
 name:an
 ty:Int
structure cR where
 name:an
 vars:Sl dg
 key:Sl Int
 pat:ab
 jJ:Sl Expr
structure jZ where
 types:Sl bJ
 query:cR
 S0:bm
def vD(s:Sl Expr):DV:=cp s.nl (Expr.aN s.l) 30 8
def Guard.cells(g:Guard):aA:=[iD g.scope,iD g.ty,iD g.var]++g.cond.cells
def Guard.d(g:Guard):DV:=.agg g.cells
def fU.d(g:fU):DV:=.agg [iD g.scope,iD g.span]
def yN(s:Sl fU):DV:=cp s.nl (s.l.map fU.d) 174 2
def pC(s:Sl Guard):DV:=cp s.nl (s.l.map Guard.d) 96 11
def Edge.cells(e:Edge):aA:=[iD e.src,iD e.dst,iD e.var,iD e.ty]++e.cond.cells++[hZ e.opens,hZ e.gK,vD e.gC,yN e.fx,hZ e.inside]
def Edge.d(e:Edge):DV:=.agg e.cells
def Stat.d(s:Stat):DV:=.agg [pC s.guards]
def RI(s:Sl Stat):DV:=cp s.nl (s.l.map Stat.d) 60 1
def HF(s:Sl Edge):DV:=cp s.nl (s.l.map Edge.d) 64 17
def bm.cells(a:bm):aA:=[iD a.vars,iD a.scopes,RI a.gk,HF a.bE]
def jX.d(f:jX):DV:=.agg [.str f.name,iD f.kind]
def HY(s:Sl jX):DV:=cp s.nl (s.l.map jX.d) 99 2
def bJ.d(s:bJ):DV:=.agg [.str s.name,HY s.fields]
def ep(s:Sl bJ):DV:=cp s.nl (s.l.map bJ.d) 91 2
def dg.d(v:dg):DV:=.agg [.str v.name,iD v.ty]
def ic(s:Sl dg):DV:=cp s.nl (s.l.map dg.d) 101 2
def cR.cells(q:cR):aA:=[.str q.name,ic q.vars,hZ q.key]++q.pat.cells++[vD q.jJ]
def jZ.cells(p:jZ):aA:=[ep p.types]++p.query.cells++p.S0.cells
theorem Guard.eN(g:Guard):g.cells.length=11:=by simp[Guard.cells,Expr.eN]
theorem Edge.eN(e:Edge):e.cells.length=17:=by simp[Edge.cells,Expr.eN]
theorem cR.eN(q:cR):q.cells.length=18:=by simp[cR.cells,ab.eN]
theorem jZ.eN(p:jZ):p.cells.length=23:=by simp[jZ.cells,cR.eN,bm.cells]
theorem DM:∀a b:aA,cF (a++b)=(cF a&&cF b)|[],b=>by simp[cF]|x::a,b=>by simp[cF,DM a b,Bool.and_assoc]
theorem lz{b:Type}{f:b->DV}(h:∀a,(f a).pure=V):∀l:List b,cF (l.map f)=V|[]=>rfl|a::l=>by simp[cF,h a,lz h l]
theorem V2(s:Sl Int):(hZ s).pure=V:=xE (lz (λ_=>rfl) _)
theorem aeF(s:Sl Expr):(vD s).pure=V:=xE (Expr.qX _)
theorem Guard.pure(g:Guard):g.d.pure=V:=by show cF _=V;simp[Guard.cells,cF,DV.pure,Expr.pure]
theorem auZ(s:Sl Guard):(pC s).pure=V:=xE (lz Guard.pure _)
theorem aAq(s:Sl fU):(yN s).pure=V:=xE (lz (λ_=>rfl) _)
theorem Edge.pure(e:Edge):e.d.pure=V:=by show cF _=V;simp[Edge.cells,DM,cF,DV.pure,Expr.pure,V2,aeF,aAq]
theorem apc(s:Sl Edge):(HF s).pure=V:=xE (lz Edge.pure _)
theorem Stat.pure(s:Stat):s.d.pure=V:=by show cF _=V;simp[cF,auZ]
theorem aJI(s:Sl Stat):(RI s).pure=V:=xE (lz Stat.pure _)
theorem bm.pure(a:bm):cF a.cells=V:=by simp[bm.cells,cF,DV.pure,aJI,apc]
theorem asZ(s:Sl jX):(HY s).pure=V:=xE (lz (λ_=>rfl) _)
theorem bJ.pure(s:bJ):s.d.pure=V:=by show cF _=V;simp[cF,DV.pure,asZ]
theorem aGZ(s:Sl bJ):(ep s).pure=V:=xE (lz bJ.pure _)
theorem aK9(s:Sl dg):(ic s).pure=V:=xE (lz (λ_=>rfl) _)
theorem cR.pure(q:cR):cF q.cells=V:=by simp[cR.cells,DM,cF,DV.pure,ab.pure,aK9,V2,aeF]
theorem jZ.pure(p:jZ):cF p.cells=V:=by simp[jZ.cells,DM,cF,aGZ,cR.pure,bm.pure]
open Proofs.Tryz
set_option maxHeartbeats 4000000
section
variable{P:aM}{ak:bZ}{rec:AM.Rec}{ops:Array aC}{fr:cu}{H:Heap}{o:aC}{l:List aC}{α:Type}
theorem akk(t:Tr α)(n:Nat)(x:α)(m:Nat):(t.ins n x).get m=bif aw n m then J x else t.get m:=by grind[bN,Tr.lL,Tr.jF]
theorem ajF:Ba P ak rec ops [] fr H=J (.next fr H):=(rfl)
theorem ajD:Ba P ak rec ops (o::l) fr H=(BQ P ak rec ops fr H o).bind λ|.next fr H=>Ba P ak rec ops l fr H:=(rfl)
theorem aja(n:Nat):ao (.ofNat n) 0=C:=(rfl)
theorem aj9(n:Nat):nS (.ofNat n) 0=.ofNat n:=(rfl)
theorem w00:fS .i64 (nS 0 0)=0:=(rfl)
theorem ahX(a b:Nat):jD a b=a*b:=(rfl)
theorem ahO(a b:Nat):im a b=a+b:=(rfl)
theorem aic(a b:Nat):Nat.sub a b=a-b:=(rfl)
theorem ar1(a:Nat):(#[a]:Array Nat)[0]?=J a:=(rfl)
theorem ar2(a b:Nat):(#[a,b]:Array Nat)[0]?=J a:=(rfl)
theorem ar3(a b:Nat):(#[a,b]:Array Nat)[1]?=J b:=(rfl)
theorem wI{m:Nat}(h:m<=bF):fS .i64 (.ofNat m)=.ofNat m:=by unfold fS;simp only[fB,show m<9223372036854775808 from Hf h gD,eu,aL]
theorem Ma{b:Nat}(h:uP PP t=J (a,b)):∃i,PP.info? t=J i/\i.size=a/\i.bytes=b:=by simp_all[uP]
def F5(a:AV):ah AV:=match a with|.top=>Z|v=>J v
theorem aiy:AM.bu P tm (.tmp t)=F5 ((tm.get t).getD fR):=(rfl)
theorem aiw:AM.bu P tm (.const v)=xx v:=(rfl)
theorem aix{f:bS}:AM.bu P tm (.func f)=J (.func f [] []):=(rfl)
theorem ais{k:gZ}{n:Int}:F5 (.int k n)=J (.int k n):=(rfl)
theorem air{b:Bool}:F5 (.bool b)=J (.bool b):=(rfl)
theorem ait:F5 .bc=J .bc:=(rfl)
theorem aiv{b d:Nat}{c:ah Nat}:F5 (.sl a b d c e)=J (.sl a b d c e):=(rfl)
theorem aiu{b:Nat}:F5 (.ptr a b)=J (.ptr a b):=(rfl)
def G2(P:aM)(k:bZ)(f:bS)(z:aD)(H:Heap)(a:AV)(b:Heap):Prop:=k f z H=Z/\∃fr,wT P f z=J fr/\∃n,∀m,n<=m->AM.run P k m fr H=J (.ret a b)
theorem G2.ev{f:bS}{z:aD}{a:AV}{b:Heap}(h:G2 P ak f z H a b):Ev P ak f z H a b:=let⟨c,fr,d,n,e⟩:=h;.inr ⟨c,fr,d,n,e n (bo n)⟩
theorem dY.ev{f:bS}{z:aD}{a:AV}{b:Heap}{fr:cu}(h:wT P f z=J fr)(p:ak f z H=Z)(r:dY P ak fr H (λo=>o=.ret a b)):G2 P ak f z H a b:=by obtain⟨n,o,c,rfl⟩:=r;exact⟨p,fr,h,n,λm d=>Jp d fr H _ c⟩
theorem dY.fin{G:Out->Prop}{x:Out}(h:body P ak (λ_ _=>Z) fr H=J x)(g:G x):dY P ak fr H G:=⟨1,x,h,g⟩
end
attribute[local go_sem]body vw wO xZ ya yb EH cu.ve cu.Rw cu.Rv El CD GL GN Eg GQ GU En Em GM GX GR GV GW JX NX Ei GS CA Ej CB Ek Eh ajD ajF KS wC fP dV aiy aiw aix ais air ait aiv aiu D1 xx DE ff akk A6 vU lf Ag IG nN ix iE cU aja cE aj9 pQ sliceB fc mN w00 ahX ahO aic Nat.zero_mul Nat.sub_zero zU jM ar1 ar2 ar3 ef nz Jj
attribute[local congr]cC cD
def N5(f e s b:Nat):Prop:=∀(a:bZ)(H:Heap)(n:Nat)(z:aD),mJ PP e=J z->z.length=s->n*b<=bF->n<=bF->a f [.bc,ix n] H=Z->G2 PP a f [.bc,ix n] H (bif aw n 0 then .bc else .sl H.next 0 0 Z s) (bif aw n 0 then H else H.cO (kU n z) .op e)
theorem auQ:N5 370 3 1 8:=by
 intro a H n z d l b h p;refine dY.ev (fr:={fn:=370,n:=27,tmps:=(Tr.nil.ins 0 .bc).ins 1 (ix n),todo:=[.code ((f370.body).getD .skip)],defers:=[],mode:=.run,roundOf:=Z}) (by rfl) p ?_;obtain⟨i,hi,s,c⟩:=Ma ia3;have d1:decide (n*8<=bF)=V:=lS b;have d2:decide (n<=bF)=V:=lS h;have w:=wI h;show dY PP a {fn:=370,n:=27,tmps:=_,todo:=[.code (Code.seq _ _)],defers:=[],mode:=.run,roundOf:=Z} H _;cases n<;>iterate 17(refine dY.step 0 (λ_ _=>by simp only[go_sem,w,hi,s,c,d,l,d1,d2];rfl) ?_)
 all_goals exact dY.fin (by rfl) rfl
theorem auR:N5 443 30 8 88:=by
 intro a H n z d l b h p;refine dY.ev (fr:={fn:=443,n:=27,tmps:=(Tr.nil.ins 0 .bc).ins 1 (ix n),todo:=[.code ((f443.body).getD .skip)],defers:=[],mode:=.run,roundOf:=Z}) (by rfl) p ?_;obtain⟨i,hi,s,c⟩:=Ma agO;have d1:decide (n*88<=bF)=V:=lS b;have d2:decide (n<=bF)=V:=lS h;have w:=wI h;show dY PP a {fn:=443,n:=27,tmps:=_,todo:=[.code (Code.seq _ _)],defers:=[],mode:=.run,roundOf:=Z} H _;cases n<;>iterate 17(refine dY.step 0 (λ_ _=>by simp only[go_sem,w,hi,s,c,d,l,d1,d2];rfl) ?_)
 all_goals exact dY.fin (by rfl) rfl
theorem auS:N5 476 174 2 16:=by
 intro a H n z d l b h p;refine dY.ev (fr:={fn:=476,n:=27,tmps:=(Tr.nil.ins 0 .bc).ins 1 (ix n),todo:=[.code ((f476.body).getD .skip)],defers:=[],mode:=.run,roundOf:=Z}) (by rfl) p ?_;obtain⟨i,hi,s,c⟩:=Ma agM;have d1:decide (n*16<=bF)=V:=lS b;have d2:decide (n<=bF)=V:=lS h;have w:=wI h;show dY PP a {fn:=476,n:=27,tmps:=_,todo:=[.code (Code.seq _ _)],defers:=[],mode:=.run,roundOf:=Z} H _;cases n<;>iterate 17(refine dY.step 0 (λ_ _=>by simp only[go_sem,w,hi,s,c,d,l,d1,d2];rfl) ?_)
 all_goals exact dY.fin (by rfl) rfl
end Go.VM
namespace Go.AM
open Go
variable{E E' H:Heap}{j:Nat}{σ:Nat->ah Nat}{P:aM}{w:aT}{O ψ:aZ}
def Jk(d:Nat->ah Nat)(i:AV->ah AV)(a:AV):ah AV:=match a with|.ptr id o=>(d id).bind λj=>J (.ptr j o)|.sl id o len c e=>(d id).bind λj=>J (.sl j o len c e)|.map _|.yield _=>Z|.func f a b=>(cE i a).bind λa=>(cE i b).bind λb=>J (.func f a b)|.agg l=>(cE i l).bind λl=>J (.agg l)|.cw l=>(cE i l).bind λl=>J (.cw l)|a=>J a
def nP(a:Nat->ah Nat)(n:Nat):AV->ah AV:=Nat.rec (λ_=>Z) (λ_ i=>Jk a i) n
theorem Cf{d e:Type}{f:d->ah e}:∀{l:List d}{m:List e},cE f l=J m->l.length=m.length/\∀(i:Nat)(a:d)(b:e),l[i]?=J a->m[i]?=J b->f a=J b:=by intro l;induction l with|nil=>intro m h;obtain rfl:=br (show J []=J m from h);grind|cons x l k=>intro m h;have c:((f x).bind λb=>(cE f l).bind _)=J m:=h;obtain⟨b,g,c⟩:=aE c;obtain⟨t,j,c⟩:=aE c;grind
theorem Nl{n:Nat}{a b:AV}(h:nP σ n a=J b):b.bj=a.bj:=by
 rcases n with _|n;.simp_all[nP]
 replace h:Jk σ _ a=J b:=h;unfold Jk at h;cases a<;>simp only at h<;>(try(cases h;rfl))<;>(try(simp at h;done));all_goals obtain⟨_,_,h⟩:=aE h;first|(cases h;rfl)|(obtain⟨_,_,h⟩:=aE h;cases h;rfl)
theorem ajs(b:Nat->ah Nat)(n:Nat)(a:AV):nP b (n+1) a=Jk b (nP b n) a:=rfl
theorem ajr{E:aZ}(x:∀i j p,σ i=J j->E i=J p->ψ j=J p):∀(n:Nat)(a b:AV)(v:aB),nP σ n a=J b->VR E a v->VR ψ b v:=by intro n;induction n with|zero=>simp[nP]|succ n ih=>
 intro a b v h R;rw[ajs]at h;unfold Jk at h;have d:∀{l m:aD}{c:Array aB},cE (nP σ n) l=J m->l.length=c.size->(∀(i:Nat)(a:AV)(v:aB),l[i]?=J a->c[i]?=J v->VR E a v)->m.length=c.size/\∀(i:Nat)(a:AV)(v:aB),m[i]?=J a->c[i]?=J v->VR ψ a v:=λ{l m c}u hl hg=>by grind[Cf]
 cases R with|top n=>cases h;exact .top n|bool c=>cases h;exact .bool c|int k m=>cases h;exact .int k m|str l s F=>cases h;exact .str l s F|jV=>cases h;exact .jV|ptr id o p w=>obtain⟨j,D,h⟩:=aE h;cases h;exact .ptr j o p (x _ _ _ D w)|bc=>cases h;exact .bc|sl id o len c B p S A w y z G H I K M=>obtain⟨j,D,h⟩:=aE h;cases h;exact .sl j o len c B p S A (x _ _ _ D w) y z G H I K M|il=>cases h;exact .il|map r p w=>grind|func f l1 l2 N O t P g1 g2=>obtain⟨U,T,h⟩:=aE h;obtain⟨W,L,h⟩:=aE h;cases h;obtain⟨e,q⟩:=d T t g1;obtain⟨y,z⟩:=d L P g2;exact .func f U W N O e y q z|yield l p w=>grind|nilFunc=>cases h;exact .nilFunc|agg l c t F g=>obtain⟨m,u,h⟩:=aE h;cases h;obtain⟨e,q⟩:=d u t g;refine .agg m c e (λb Q=>?_) q;obtain⟨i,hi⟩:=List.mem_iff_getElem?.1 Q;obtain⟨k1,k2⟩:=Cf u;have X:i<l.length:=aj;have Y:l[i]?=J l[i]:=eZ X;grind[Nl,G7]|cw l c t g=>obtain⟨m,u,h⟩:=aE h;cases h;obtain⟨e,q⟩:=d u t g;exact .cw m c e q
theorem Rp{x:aZ}(N:∀i j p,σ i=J j->ψ j=J p->x i=J p):∀(n:Nat)(a b:AV)(v:aB),nP σ n a=J b->VR ψ b v->VR x a v:=by intro n;induction n with|zero=>simp[nP]|succ n U=>
 intro a b v h e;rw[ajs]at h;unfold Jk at h;have d:∀{l m:aD}{c:Array _},cE (nP σ n) l=J m->m.length=c.size->(∀(i:Nat)(a:AV)(v:aB),m[i]?=J a->c[i]?=J v->VR ψ a v)->l.length=c.size/\∀(i:Nat)(a:AV)(v:aB),l[i]?=J a->c[i]?=J v->VR x a v:=λ{l m c}s R Q=>by grind[Cf]
 cases a with
 |ptr id w=>obtain⟨j,K,h⟩:=aE h;cases h;cases e with|ptr _ _ p M=>exact .ptr id _ p aP
 |sl id w len c H=>obtain⟨j,K,h⟩:=aE h;cases h;cases e with|sl _ _ _ _ _ p T G M t u y z A B D=>exact .sl id _ _ c _ p _ _ aP t u y z A B D
 |map r=>grind|yield l=>grind|func f l1 l2=>obtain⟨W,O,h⟩:=aE h;obtain⟨X,L,h⟩:=aE h;cases h;cases e with|func _ _ _ E F q I g1 g2=>obtain⟨k,o⟩:=d O q g1;obtain⟨t,u⟩:=d L I g2;exact .func f l1 l2 E F k t o u
 |agg l=>obtain⟨m,s,h⟩:=aE h;cases h;cases e with|agg _ c q S g=>obtain⟨k,o⟩:=d s q g;refine .agg l c k (λa P=>?_) o;grind[List.mem_iff_getElem?,Cf,Nl,G7]
 |cw l=>obtain⟨m,s,h⟩:=aE h;cases h;cases e with|cw _ c q g=>obtain⟨k,o⟩:=d s q g;exact .cw l c k o
 |_=>cases h;cases e<;>constructor<;>assumption
theorem aF7{e:aZ}(b:∀i j p,σ i=J j->ψ j=J p->e i=J p){n:Nat}{l m:aD}{c:List aB}(h:cE (nP σ n) l=J m)(d:aV ψ m c):aV e l c:=by obtain⟨f,o⟩:=Cf h;refine⟨by rw[f];exact d.1,λi a v q k=>?_⟩;have hi:i<m.length:=aj;have g:=eZ hi;exact Rp b n _ _ _ aj (d.2 i _ _ g k)
structure Bs(E H:Heap)(σ:Nat->ah Nat):Prop where
 obj:∀id,id<E.next->∃l root e j l' r' fl',E.get id=J (.cells l root .ro e)/\σ id=J j/\H.get j=J (.cells l' r' fl' e)/\(H.bh r').1<=j/\cE (nP σ 50) l=J l'
 low:∀id j,σ id=J j->id<E.next
def sX(a:Nat->ah Nat)(b:aZ):aZ:=λi=>(a i).bind b
theorem RS{i:Nat}{p:Pl}(h:σ i=J j)(g:O j=J p):sX σ O i=J p:=by grind[sX]
theorem zk{i:Nat}{p:Pl}(h:sX σ O i=J p):∃j,σ i=J j/\O j=J p:=aE h
theorem Bs.ro(h:Bs E H σ){i:Nat}(b:σ i=J j):fJ E i:=by obtain⟨l,root,e,_,_,_,_,a,_⟩:=h.obj i (h.low i j b);exact⟨l,_,e,a⟩
theorem Bs.Be(h:Bs E H σ)(t:bA gR O H w):bA gR (sX σ O) E w:=by
 have P:∀i j p,σ i=J j->O j=J p->sX σ O i=J p:=λi j p a b=>RS a b;refine⟨⟨λid p g=>?_,λid p l r B e g n=>?_,λx y p q u v m d=>?_,λx y p q u v m d U=>?_⟩,λid p o g _ N n=>?_⟩;.obtain⟨j,c,f⟩:=zk g;obtain⟨l,root,e,_,_,_,_,g1,_⟩:=h.obj id (h.low id j c);exact⟨(t.stat.cq j p f).1,aj⟩
 .obtain⟨j,c,f⟩:=zk g;obtain⟨l0,root,e0,z,F,L,k,g1,g2,g3,g4,g5⟩:=h.obj id (h.low id j c);rw[c]at g2;cases g2;rw[n]at g1;obtain⟨rfl,_⟩:=bQ.cells.inj (br g1);rw[(Cf g5).1];exact t.stat.len j p _ _ _ _ f g3
 .obtain⟨j,c,_⟩:=zk u;exact absurd (h.ro c) d
 . obtain⟨j,c,_⟩:=zk u;obtain⟨z,f,_⟩:=zk v;rcases d with d|d;.exact absurd (h.ro c) d
   .exact absurd (h.ro f) d
 .obtain⟨j,c,f⟩:=zk g;obtain⟨l0,root,e0,z,F,L,k,g1,g2,g3,g4,g5⟩:=h.obj id (h.low id j c);rw[c]at g2;cases g2;rw[n]at g1;cases g1;obtain⟨A,D,e1,G,I,K,Q,R,S,T⟩:=t.obj j p _ f trivial (λl r B e s=>aj) g3;obtain⟨k1,k2⟩:=Cf g5;refine⟨A,D,e1,G,I,K,λi a hi=>?_,λa M=>?_,λs=>absurd rfl s,λs=>aj⟩<;>grind[Rp,List.mem_iff_getElem?,Nl,G7]
theorem Bs.post{d:aT}(h:Bs E H σ)(m:fZ (sX σ O) E w ψ E' d):(∀b,b<w.heap.size->d.heap[b]?=w.heap[b]?)/\(∀id p,ψ id=J p->E.next<=id->w.heap.size<=p.aW\/sX σ O id=J p):=by
 obtain⟨_,_,fr⟩:=m;refine⟨λb l=>?_,λid p hid F=>?_⟩
 . rcases fr.nA b l with x|⟨id,p,e,_,f,_⟩;.omega
   .obtain⟨j,a,_⟩:=zk e;exact absurd (h.ro a) f
 .cases c:sX σ O id with|some q=>have:=fr.ext _ _ c;grind|none=>
   obtain⟨_,a⟩:=fr.new id p hid c;rcases a with a|⟨j,q,g,_,i,_⟩;.omega
   .obtain⟨n,k,_⟩:=zk g;exact absurd (h.ro k) i
structure abt(H H2:Heap)(n:Nat):Prop where
 next:H2.next=H.next+n
 old:∀id,id<H.next->H2.get id=H.get id
 dh:∀r,H2.bh r=H.bh r
 bn:H2.bn=H.bn
 bK:H2.bK=H.bK
 cK:H2.cK=H.cK
 inv:ba H2
def news(H:Heap)(n:Nat)(f:Nat->Nat)(a b:aZ):aZ:=λi=>if i<H.next then a i else if i<H.next+n then b (f (i-H.next))else Z
theorem asN{F:Heap}{w':aT}{n:Nat}{X:Nat->Nat}(h:Bs E H σ)(hi:ba H)(B:bA gR O H w)(R:fZ (sX σ O) E w ψ E' w')(A:abt H F n)(N:∀k,k<n->∃l root t e m,E'.get (X k)=J (.cells l root t e)/\(E'.bh root).1<=X k/\E.next<=X k/\F.get (H.next+k)=J (.cells m (H.next+k) .ro e)/\l.length=m.length/\X k<E'.next/\∀(i:Nat)(b:AV),m[i]?=J b->∃a,l[i]?=J a/\a.bj=b.bj/\∀v,VR ψ a v->VR (news H n X O ψ) b v):fZ O H w (news H n X O ψ) F w':=by
 obtain⟨qQ,oj⟩:=h.post R;obtain⟨ct,U,fr⟩:=R;have bX:∀id p,O id=J p->id<H.next:=λid p g=>B.stat.lt hi g;have Y:Ext O (news H n X O ψ):=λid p g=>by grind[news]
 have f:∀id p,news H n X O ψ id=J p->(id<H.next/\O id=J p)\/∃k,k<n/\id=H.next+k/\ψ (X k)=J p:=λid p g=>by grind[news]
 have Q:∀k p,k<n->ψ (X k)=J p->w.heap.size<=p.aW:=λk p P g=>by
   obtain⟨_,_,_,_,_,_,_,u,_⟩:=N k P;rcases oj (X k) p g u with I|I;.omega
   .obtain⟨j,d,_⟩:=zk I;have:=h.low _ _ d;omega
 have L:∀id,id<H.next->rootOf F id=rootOf H id:=λid g=>by unfold rootOf;rw[A.old id g]
 have W:∀id,id<H.next->(fJ F id↔fJ H id):=λid g=>by unfold fJ;rw[A.old id g]
 have S:∀id,id<H.next->(jr F id↔jr H id):=λid g=>by unfold jr;rw[A.old id g];exact⟨λx l r t e y=>by rw[<-A.dh];grind,λx l r t e y=>by rw[A.dh];grind⟩
 have aOc:∀k,k<n->fJ F (H.next+k):=λk P=>by obtain⟨l,root,t,e,m,_,_,_,d,_⟩:=N k P;exact⟨m,_,e,d⟩
 refine⟨A.inv,⟨⟨λid p g=>?_,λid p l r t e g D=>?_,λx y p q I T G M=>?_,λx y p q I T G M xk=>?_⟩,λid p o g _ ha D=>?_⟩,?_⟩
 . rcases f id p g with⟨c,s⟩|⟨k,c,rfl,u⟩;.exact⟨fj (B.stat.cq id p s).1 fr.size,by rw[A.old id c];exact(B.stat.cq id p s).2⟩
   .obtain⟨l,root,t,e,m,_,_,_,d,_⟩:=N k c;exact⟨(U.stat.cq _ p u).1,aj⟩
 . rcases f id p g with⟨c,s⟩|⟨k,c,rfl,u⟩;.rw[A.old id c]at D;exact B.stat.len id p l r t e s D
   .obtain⟨l0,root,rM,e0,m,g1,_,_,d,z,_⟩:=N k c;rw[D]at d;obtain⟨rfl,_⟩:=bQ.cells.inj (br d);rw[<-z];exact U.stat.len _ p _ _ _ _ u g1
 . rcases f x p I with⟨c,s⟩|⟨k,c,rfl,u⟩
   . rcases f y q T with⟨d,z⟩|⟨k,d,rfl,z⟩;.rw[L x c,L y d];exact B.stat.inj x y p q s z G (λK=>M ((W x c).2 K))
     .have:=Q k q d z;have:=(B.stat.cq x p s).1;omega
   grind
 . rcases f x p I with⟨c,s⟩|⟨k,c,rfl,u⟩
   . rcases f y q T with⟨d,z⟩|⟨k,d,rfl,z⟩;.exact B.stat.mono x y p q s z G (M.imp (λa b=>a ((W x c).2 b)) (λa b=>a ((W y d).2 b))) xk
     .have:=Q k q d z;have:=(B.stat.cq x p s).1;omega
   grind
 . rcases f id p g with⟨c,s⟩|⟨k,c,rfl,u⟩;.rw[A.old id c]at D;exact(B.obj id p o s trivial ((S id c).1 ha) D).mono Y (qQ _ (B.stat.cq id p s).1)
   .obtain⟨l,root,t,e,m,g1,g2,_,d,z,_,h6⟩:=N k c;rw[D]at d;cases d;obtain⟨cs,fz,e1,o1,o2,o3,o4,o5,_,_⟩:=U.obj _ p _ u trivial (λl' r' fl' e' K=>aP) g1;refine⟨cs,fz,e1,o1,o2,o3,λi b G=>?_,λb G=>?_,λK=>absurd rfl K,λK=>aP⟩;all_goals grind[List.mem_iff_getElem?]
 .exact{
     ext:=Y
     size:=fr.size
     os:=fr.os
     tape:=fr.tape
     output:=fr.output
     next:=by rw[A.next];omega
     bn:=A.bn
     bK:=λr g=>by rw[A.bK];omega
     cK:=λr g=>by rw[A.cK];omega
     root:=λid g=>L id g
     view:=λid o g _ _ D=>⟨by rw[A.old id g];omega,(S id g).2,(S id g).1⟩
     nA:=λb G=>.inl (qQ b G)
     new:=λid p g hn=>by grind
     ro:=λid g hr=>(W id g).2 hr
     keep:=λid o g D=>⟨o,by rw[A.old id g];omega,rq.refl o⟩
     cover:=λid c s=>by rw[A.next]at s;obtain⟨l,root,t,e,m,_,_,g3,_,_,g6,_⟩:=N (id-H.next) ae;obtain⟨p,R⟩:=fr.cover _ g3 g6;grind[news]
     mD:=λid p g hn Vx=>by
      rcases f id p g with⟨_,s⟩|⟨k,c,rfl,u⟩;.simp_all
      .obtain⟨l,root,t,e,m,_,_,_,d,_⟩:=N k c;rw[qp d]at Vx;have:=hi.bn;omega
     vl:=λr g=>by rw[A.bK]at g;simp_all
     vF:=λr g=>by rw[A.cK]at g;simp_all}
def T8(a b:Bool):Bool:=bif a then b else !b
def Ua(a b:ah Nat):Bool:=match a with|none=>(match b with|none=>V|some _=>C)|some x=>(match b with|none=>C|some y=>aw x y)
def wU(f:AV->AV->Bool)(l:aD):aD->Bool:=kG (λm=>kG V (λ_ _ _=>C) m) (λa _ i m=>kG C (λb t _=>bif f a b then i t else C) m) l
def Ub(h:AV->AV->Bool)(a b:AV):Bool:=match a with|.top=>(match b with|.top=>V|_=>C)|.bool x=>(match b with|.bool y=>T8 x y|_=>C)|.int j x=>(match b with|.int k y=>j==k&&ai x y|_=>C)|.str x=>(match b with|.str y=>Ak x y|_=>C)|.ptr i o=>(match b with|.ptr j p=>aw i j&&aw o p|_=>C)|.jV=>(match b with|.jV=>V|_=>C)|.sl i o l c e=>(match b with|.sl j p m d f=>aw i j&&(aw o p&&(aw l m&&(Ua c d&&aw e f)))|_=>C)|.bc=>(match b with|.bc=>V|_=>C)|.il=>(match b with|.il=>V|_=>C)|.func f l1 l2=>(match b with|.func g n q=>aw f g&&(wU h l1 n&&wU h l2 q)|_=>C)|.nilFunc=>(match b with|.nilFunc=>V|_=>C)|.agg l=>(match b with|.agg m=>wU h l m|_=>C)|.cw l=>(match b with|.cw m=>wU h l m|_=>C)|_=>C
def yh(n:Nat):AV->AV->Bool:=Nat.rec (λ_ _=>C) (λ_ i=>Ub i) n
theorem OW{f:AV->AV->Bool}(d:∀a b,f a b=V->a=b):∀(l m:aD),wU f l m=V->l=m:=by intro l;induction l with|nil=>intro m h;cases m<;>grind[wU]|cons a l i=>
 intro m h;rcases m with _|⟨b,t⟩;.grind[wU]
 have c:(bif f a b then wU f l t else C)=V:=h;grind
theorem apt{a b:Bool}(h:T8 a b=V):a=b:=by grind[T8]
theorem apz{a b:ah Nat}(h:Ua a b=V):a=b:=by cases a<;>cases b<;>simp[Ua,bN]at h|-;omega
theorem apC(n:Nat)(a b:AV):yh (n+1) a b=Ub (yh n) a b:=rfl
theorem OX:∀(n:Nat)(a b:AV),yh n a b=V->a=b:=by intro n;induction n with|zero=>simp[yh]|succ n i=>intro a b h;rw[apC]at h;unfold Ub at h;grind[bN,apt,CZ,Al,apz,OW]
structure cH where
 args:aD
 H:Heap
 v:AV
 news:List (aD×al)
def sg(n:Nat)(k:Tr Nat)(i:Nat):ah Nat:=bif cM i n then k.get i else Z
theorem aHs{n:Nat}{k:Tr Nat}{i:Nat}(h:sg n k i=J j):i<n:=by grind[sg,fB]
def uv(E H:Heap)(a:Nat->ah Nat)(i:Nat):Bool:=match E.get i with|some (.cells l _ .ro e)=>(match a i with|some j=>(match H.get j with|some (.cells c r _ b)=>aw e b&&(bV (H.bh r).1 j&&(match cE (nP a 50) l with|some m=>wU (yh 50) m c|none=>C))|_=>C)|none=>C)|_=>C
def CJ(f:Nat->Bool)(n:Nat):Bool:=Nat.rec V (λk i=>bif f k then i else C) n
theorem SR{f:Nat->Bool}:∀(n:Nat),CJ f n=V->∀k,k<n->f k=V:=by intro n;induction n<;>grind[CJ]
theorem aAo{k:Tr Nat}(h:CJ (uv E H (sg E.next k)) E.next=V):Bs E H (sg E.next k):=by
 refine⟨λid hid=>?_,λid j a=>aHs a⟩;have c:=SR _ h id hid;unfold uv at c;split at c;.split at c<;>grind[bN,du,OW,OX]
 grind
def abE(a:Nat->ah Nat)(l:List (aD×al)):Heap->ah Heap:=kG (λH=>J H) (λx _ i H=>(cE (nP a 50) x.1).bind λm=>i (H.cO m .ro x.2)) l
theorem alL{d:Nat->ah Nat}:∀(l:List (aD×al))(H a:Heap),ba H->abE d l H=J a->abt H a l.length/\∀(k:Nat)(x:aD×al),l[k]?=J x->∃m,cE (nP d 50) x.1=J m/\a.get (H.next+k)=J (.cells m (H.next+k) .ro x.2):=by intro l;induction l with|nil=>intro H a hi h;obtain rfl:=br (show J H=J a from h);exact⟨⟨rfl,λ_ _=>rfl,λ_=>rfl,rfl,rfl,rfl,hi⟩,λk x h=>aj⟩|cons x l i=>
 intro H a hi h;have b:=h;obtain⟨m,f,b⟩:=aE b;have t:ba (H.cO m .ro x.2):=xY hi _ (λl r j e g=>aj);obtain⟨A,hN⟩:=i _ a t b;have D:(H.cO m .ro x.2).next=H.next+1:=rfl;refine⟨⟨by rw[A.next,D];grind,λid hid=>?_,λr=>by rw[A.dh];rfl,A.bn,A.bK,A.cK,A.inv⟩,λk y c=>?_⟩;.rw[A.old id ae];exact nE H _ ae
 . rcases k with _|k;.simp at c;subst c;refine⟨m,f,?_⟩;rw[zU,A.old _ ae];exact mS H _
   grind
def I'(f:AV->AV->List (Nat×Nat))(l:aD):aD->List (Nat×Nat):=kG (λ_=>[]) (λa _ i m=>kG [] (λb t _=>cQ (f a b) (i t)) m) l
def aiF(n:Nat):AV->AV->List (Nat×Nat):=Nat.rec (λ_ _=>[]) (λ_ h a b=>match a with|.ptr i _=>(match b with|.ptr j _=>[(i,j)]|_=>[])|.sl i _ _ _ _=>(match b with|.sl j _ _ _ _=>[(i,j)]|_=>[])|.func _ l1 l2=>(match b with|.func _ c d=>cQ (I' h l1 c) (I' h l2 d)|_=>[])|.agg l=>(match b with|.agg m=>I' h l m|_=>[])|.cw l=>(match b with|.cw m=>I' h l m|_=>[])|_=>[]) n
def au0(E H:Heap)(f:Nat):List (Nat×Nat)->Tr Nat->Tr Nat:=Nat.rec (λ_ k=>k) (λ_ i w k=>kG k (λx s _=>match k.get x.1 with|some _=>i s k|none=>(match E.get x.1 with|some (.cells l _ _ _)=>(match H.get x.2 with|some (.cells a _ _ _)=>i (cQ (I' (aiF 50) l a) s) (k.ins x.1 x.2)|_=>k)|_=>k)) w) f
def Qp(n:Nat)(a:Nat->ah Nat)(m i:Nat):ah Nat:=bif cM i n then a i else J (im m (Nat.sub i n))
def D'(n:Nat)(f:an)(i:Nat):ah Nat:=bif cM i n then J i else oW f (Nat.sub i n)
def Oi(b:Nat->ah Nat)(l a:aD):Bool:=match cE (nP b 50) l with|some m=>wU (yh 50) m a|none=>C
def UY(a:Nat->ah Nat)(n:Nat):Bool:=CJ (λg=>match a g with|some j=>aw j g|none=>C) n
def Cx(n:Nat)(E:cH)(a:aD)(H:Heap)(k:Tr Nat):ah (AV×Heap):=bif Oi (sg E.H.next k) E.args a&&(CJ (uv E.H H (sg E.H.next k)) E.H.next&&UY (sg E.H.next k) n)then(nP (Qp E.H.next (sg E.H.next k) H.next) 50 E.v).bind λv=>(abE (Qp E.H.next (sg E.H.next k) H.next) E.news H).bind λb=>J (v,b)else Z
structure SD(E:cH)(v0:AV)(E':Heap)(fX:an):Prop where
 len:fX.length=E.news.length
 val:nP (D' E.H.next fX) 50 E.v=J v0
 obj:∀(k:Nat)(x:aD×al),E.news[k]?=J x->∃j l root fl,fX[k]?=J j/\E'.get j=J (.cells l root fl x.2)/\(E'.bh root).1<=j/\E.H.next<=j/\cE (nP (D' E.H.next fX) 50) x.1=J l
set_option maxHeartbeats 1600000 in theorem aky{x:Rec}(hn:rA P)(dC:nw P x){f:bS}{E:cH}{G:cu}{v0 v:AV}{W:Heap}{X:an}{kV:Tr Nat}{r:aD}(yr:wT P f E.args=J G)(hr:x G E.H=J (.ret v0 E'))(Q:ba E.H)(R:SD E v0 E' X)(h:Cx P.globals.size E r H kV=J (v,W))(d:aZ)(w:aT)(n:Array aB)(c:cZ)(F:List cZ)(N:ba H)(S:bA gR d H w)(hg:jc P d)(hv:aV d r n.toList):∃ψ B u,fZ d H w ψ W B/\VR ψ v u/\((callFunc f n).run P w=.ok (.enter f n) w/\Steps P (eT (Frame.enter P f n .normal) (c::F) w) (eT (c.finish u) F B)):=by
 unfold Cx at h;generalize hσ:sg E.H.next kV=σ at h;rcases M:(Oi σ E.args r&&(CJ (uv E.H H σ) E.H.next&&UY σ P.globals.size))with _|_;.grind
 rw[M]at h;simp only[aL]at h;obtain⟨v',B7,h⟩:=aE h;obtain⟨H2',I,h⟩:=aE h;obtain⟨rfl,rfl⟩:=j9 (br h);simp only[iC]at M;obtain⟨jQ,nI,Ax⟩:=M;have L:Bs E.H H σ:=by grind[aAo]
 have nH:cE (nP σ 50) E.args=J r:=by grind[Oi,OW,OX]
 have Y:jc P (sX σ d):=λg U=>by
  have:=SR _ Ax g U;split at this;.rename_i j y;rw[bN,mw]at this;subst this;obtain⟨p,o,h2⟩:=hg j U;grind[RS]
  grind
 have Ds:aV (sX σ d) E.args n.toList:=aF7 (λi j p a b=>RS a b) nH hv;obtain⟨e1,e2,e4,fn,b,e5,e6⟩:=KZ (O:=sX σ d) yr Ds;have cY:=dC G E.H _ hr (sX σ d) w _ (c::F) Q (L.Be S) Y e1;obtain⟨ψ,B,u,z,q2,q3⟩:=kI.back cY;obtain⟨A,hN⟩:=alL _ _ _ N I;have s:∀i j p,Qp E.H.next σ H.next i=J j->sX (D' E.H.next _) ψ i=J p->news H E.news.length (λk=>(X[k]?).getD 0) d ψ j=J p:=λi j p o h2=>by
  unfold Qp at o;obtain⟨j',e,h4⟩:=zk h2;unfold D' at e;rw[fB]at o e;by_cases bX:i<E.H.next
  . simp only[bX,eu,aL]at o e;cases e;have y:∃q,d j=J q/\q=p:=by
     rcases hq:sX σ d i with _|q;.have:=(z.2.2.new i p h4 hq).1;omega
     have:=z.2.2.ext _ _ hq;grind[zk]
    obtain⟨q,h5,rfl⟩:=y;unfold news;rw[if_pos (S.stat.lt N h5)];omega
  .simp only[bX,mO,bg]at o e;rw[xw]at e;have BX:X[i-E.H.next]?=J j':=e;have K:=(List.getElem?_eq_some_iff.1 BX).1;rw[R.len]at K;grind[news]
 have t:∀i j p,D' _ _ i=J j->ψ j=J p->sX (D' E.H.next X) ψ i=J p:=λi j p a b=>RS a b;refine⟨_,B,u,asN L N S z A (λk hk=>?_),ajr s 50 _ _ _ B7 (Rp t 50 _ _ _ R.val q2),Kz hn e5 e6 _ w,q3⟩;have hx:=eZ hk;obtain⟨j,l,root,fl,o1,o2,o3,o4,o5⟩:=R.obj k _ hx;obtain⟨m,m1,m2⟩:=hN k _ hx;obtain⟨k1,k2⟩:=Cf o5;obtain⟨k3,k4⟩:=Cf m1;have y:(X[k]?).getD 0=j:=aj;refine⟨l,root,fl,_,m,aj,ae,ae,m2,ae,by rw[y];exact z.1.get j _ o2,λi b K=>?_⟩;have mT:i<(E.news[k]).1.length:=aj;have uG:=eZ mT;have D:i<l.length:=ae;have ha:=eZ D;have f1:=k2 i _ _ uG ha;have f2:=k4 i _ _ uG K;exact⟨_,ha,by rw[Nl f1,Nl f2],λvv T=>ajr s 50 _ _ _ f2 (Rp t 50 _ _ _ f1 T)⟩
def Lg(n:Nat)(a:aD)(H:Heap)(f:Nat)(l:List cH):ah (AV×Heap):=kG Z (λE _ i=>Option.rec i (λr=>J r) (Lk (au0 E.H H f (cQ (Nat.rec [] (λk t=>(k,k)::t) n) (I' (aiF 50) E.args a)) .nil) λb=>Cx n E a H b)) l
def G1(P:aM)(f:bS)(E:cH):Prop:=∃r fr v E' X,nw P r/\wT P f E.args=J fr/\r fr E.H=J (.ret v E')/\ba E.H/\SD E v E' X
theorem ati{n:Nat}{a:aD}{f:Nat}{r:AV×Heap}:∀(l:List cH),Lg n a H f l=J r->∃E k,E∈l/\Cx n E a H k=J r:=by intro l;induction l with|nil=>simp[Lg]|cons E l i=>intro h;unfold Lg at h;simp only[Ps]at h;generalize u:Cx n E _ H _=x at h;cases x<;>grind[Lg,Ps]
def ig(n u:Nat)(t:Tr (List cH))(a:bZ):bZ:=λf args H=>match t.get f with|none=>a f args H|some l=>(match Lg n args H u l with|some r=>J (J r)|none=>a f args H)
theorem aLy(x:rA P){m:bZ}(p:kJ P m){fuel:Nat}{t:Tr (List cH)}(y:∀f l E,t.get f=J l->E∈l->G1 P f E):kJ P (ig P.globals.size fuel t m):=by
 intro f args H v k h O w e c s hi i g j;unfold ig at h;split at h;.exact p f args H v k h O w e c s hi i g j
 . rename_i l q;split at h;.rename_i r hr;obtain rfl:=br (br h);obtain⟨E,B,n,o⟩:=ati l hr;obtain⟨z,fr,D,E',X,k1,k2,k3,k4,k5⟩:=y f l E q n;obtain⟨ψ,A,u,a,b,d⟩:=aky x k1 k2 k3 k4 k5 o O w e c s hi i g j;exact⟨ψ,A,u,a,b,.inr d⟩
   .exact p f args H v k h O w e c s hi i g j
def oL:Heap:={tr:=.nil,dh:=.nil,next:=0,bn:=0,bK:=[],cK:=[]}
def fN(l:List (aD×al)):Heap:=fV (λH x=>H.cO x.1 .ro x.2) l oL
theorem api:ba oL where
 get:=λid o h=>by
  have:oL.get id=Z:=by unfold Heap.get oL;rfl
  rw[this]at h;simp at h
 root:=λid l r a e h=>by
  have:oL.get id=Z:=by unfold Heap.get oL;rfl
  rw[this]at h;simp at h
 oy:=λid l r a e h=>by
  have:oL.get id=Z:=by unfold Heap.get oL;rfl
  rw[this]at h;simp at h
 dh:=λr f h=>by
  have:oL.dh.get r=Z:=by unfold oL;rfl
  rw[this]at h;simp at h
 bn:=bo _
theorem atC:∀(l:List (aD×al))(H:Heap),ba H->ba (fV (λH x=>H.cO x.1 .ro x.2) l H):=by intro l;induction l with|nil=>intro H h;exact h|cons x l i=>intro H h;exact i _ (xY h _ aP)
theorem iI(l:List (aD×al)):ba (fN l):=atC l oL api
def acK(E:cH)(a:Heap)(f:an)(k:Nat):Bool:=match oW E.news k with|some x=>(match oW f k with|some j=>(match a.get j with|some (.cells l root _ e)=>aw x.2 e&&(bV (a.bh root).1 j&&(bV E.H.next j&&(match cE (nP (D' E.H.next f) 50) x.1 with|some m=>wU (yh 50) m l|none=>C)))|_=>C)|none=>C)|none=>C
def W4(E:cH)(v:AV)(a:Heap)(f:an):Bool:=aw (eL f) (eL E.news)&&((match nP (D' E.H.next f) 50 E.v with|some m=>yh 50 m v|none=>C)&&CJ (acK E a f) (eL E.news))
def entry(P:aM)(r:Rec)(f:bS)(E:cH)(X:an):Bool:=match wT P f E.args with|some fr=>(match r fr E.H with|some (.ret v E')=>W4 E v E' X|none=>C)|none=>C
theorem aDl{E:cH}{v:AV}{f:an}(h:W4 E v E' f=V):SD E v E' f:=by
 unfold W4 at h;simp only[iC,bN,mw,ef]at h;obtain⟨c,e,d⟩:=h;refine⟨c,?_,λk x b=>?_⟩;.grind[OX]
 .have a:=SR _ d k (List.getElem?_eq_some_iff.1 b).1;unfold acK at a;rw[xw,xw,b]at a;simp only at a;split at a<;>grind[bN,du,OW,OX]
theorem apq{r:Rec}{f:bS}{E:cH}{X:an}(d:nw P r)(i:ba E.H)(h:entry P r f E X=V):G1 P f E:=by
 unfold entry at h;split at h
 . rename_i fr O;split at h;.rename_i v E' hr;exact⟨r,fr,v,E',X,d,O,hr,i,aDl h⟩
   .simp at h
 .simp at h
def mY(b:an):an->Bool:=kG (λ_=>V) (λx _ i a=>kG C (λy t _=>bif aw x y then i t else C) a) b
def B'(b a:an):Nat->ah Nat:=kG (λi=>bif mY b []then J i else Z) (λx s h i=>bif mY b (x::s)then J i else h (eU i)) a
def Qj:ah Nat->AV|some i=>ix i|none=>.int .i64 (-1)
def E9(H:Heap)(g:Nat):Bool:=match H.get g with|some (.cells [.top] root _ _)=>bV (H.bh root).1 g|_=>C
def Q3(c g:Nat)(k:bZ):bZ:=λf args H=>bif aw f c then match args with|[.str a,.str b]=>bif E9 H g&&cM (eL a) 4294967281 then J (J (Qj (B' b a 0),H))else J Z|_=>J Z else k f args H
theorem aKy(a b:UInt8):aw a.toNat b.toNat=(a==b):=by grind[bN,UInt8.toNat_inj]
theorem ag4:∀(b a:List UInt8),mY (b.map nU) (a.map nU)=b.isPrefixOf a:=by intro b;induction b with|nil=>intro a;rfl|cons x b i=>
 intro a;rcases a with _|⟨y,a⟩;.rfl
 show(bif aw _ _ then mY _ _ else C)=_;grind[aKy]
theorem axF(b:List UInt8):∀(a:List UInt8)(i:Nat),B' (b.map nU) (a.map nU) i=if Lib.index a b=-1 then Z else J (i+(Lib.index a b).toNat):=by intro a;induction a with|nil=>intro i;show(bif mY _ (([]:List _).map nU)then J i else Z)=_;grind[ag4,Lib.index]|cons x a h=>intro i;show(bif mY _ ((x::a).map _)then J i else B' _ _ _)=_;rw[ag4,h];have g:=Lib.index_ge a b;grind[Lib.index]
theorem axH(a b:List UInt8):Qj (B' (b.map nU) (a.map nU) 0)=.int .i64 (Lib.index a b):=by
 rw[axF];have g:=Lib.index_ge a b;by_cases h:Lib.index a b=-1;.rw[if_pos h,h];rfl
 .rw[if_neg h];show AV.int _ _=_;grind
theorem avv{g:Nat}(s:bA gR O H w)(b:jc P O)(D:g<P.globals.size)(h:E9 H g=V):∃m,w.cell? ⟨g,0,Z⟩=J (.int .i64 m):=by
 unfold E9 at h;split at h
 . rename_i root k e d;obtain⟨p,a,n,q⟩:=b g D;have y:jr H g:=λl r f j u=>by simp_all
   have o:=s.obj g p _ a trivial y d;obtain⟨i,z,_,k1,k2,k3,k4,k5⟩:=o;obtain⟨c,t,v⟩:=k4 0 _ rfl;cases v<;>grind[World.cell?]
 grind
theorem aEo{k:bZ}(I:kJ P k){d g:Nat}(D:g<P.globals.size)(W:∀args w,(callFunc d args).run P w=.ok (.enter d args) w)(E:∀(s sub:ByteArray)(m:Int)(w:aT),s.size<4294967281->w.cell? ⟨g,0,Z⟩=J (.int .i64 m)->Calls P d #[.string s,.string sub] w λe i=>e=.returned (.int .i64 (Lib.index s.data.toList sub.data.toList))/\i=w):kJ P (Q3 d g k):=by
 intro f args H v u h O w n c A hi j p r;unfold Q3 at h;rw[bN]at h;by_cases o:f=d
 . subst o;simp only[eu,aL]at h;split at h
   . rename_i a b;rcases q:(E9 H g&&cM (eL a) 4294967281)with _|_;.grind
     rw[q]at h;obtain⟨rfl,rfl⟩:=j9 (br (br h));simp only[iC,fB,mw,ef]at q;obtain⟨m,G⟩:=avv j p D q.1;obtain⟨x,t,e1,M,K⟩:=r.cons_inv;obtain⟨y,t2,e2,N,B⟩:=K.cons_inv;obtain rfl:=B.sT;cases M with|str _ s Q=>cases N with|str _ sub R=>
     have T:n=#[.string s,.string sub]:=by grind
     subst T;subst Q;subst R;have l:s.size<4294967281:=by simp_all
     obtain⟨e,i,fr,⟨F,L⟩,z,U,S⟩:=E s _ m w l G _;subst F;subst L;refine⟨O,i,.int .i64 (Lib.index s.data.toList sub.data.toList),⟨hi,j,Fr.refl O H i⟩,?_,.inr ⟨W _ _,?_⟩⟩;.rw[axH];exact .int _ _
     .exact Steps.trans z (Steps.head (step_leave_returned S) (Steps.refl _ _))
   grind
 .simp only[o,mO,bg]at h;exact I f _ H v u h O w n c A hi j p r
end Go.AM
namespace Go.Proofs
open Go.Shelf
def Tryz.azZ:Go.Shelf.Ren:=⟨λ|219=>315|217=>366|225=>367|224=>368|267=>369|266=>432|314=>433|n=>n,λ|9=>9|3=>3|4=>4|5=>5|46=>398|146=>495|51=>448|n=>n,λ|1=>2|n=>n⟩
theorem Tryz.azY:Go.Proofs.Lays.n219 eS Tryz.azZ:={
 mixed:=by rfl
 f217:=Tryz.func366.trans (fH J (by rfl))
 f219:=Tryz.func315.trans (fH J (by rfl))
 f224:=Tryz.func368.trans (fH J (by rfl))
 f225:=Tryz.func367.trans (fH J (by rfl))
 f266:=Tryz.func432.trans (fH J (by rfl))
 f267:=Tryz.func369.trans (fH J (by rfl))
 f314:=Tryz.func433.trans (fH J (by rfl))
 t3:=Tryz.underlying3
 a3:=Tryz.isAgg3
 z3:=Tryz.sizeOf3
 v3:=Tryz.zeroValue3
 t4:=Tryz.underlying4
 a4:=Tryz.isAgg4
 z4:=Tryz.sizeOf4
 v4:=Tryz.zeroValue4
 t5:=Tryz.underlying5
 a5:=Tryz.isAgg5
 z5:=Tryz.sizeOf5
 v5:=Tryz.zeroValue5
 t9:=Tryz.underlying9
 a9:=Tryz.isAgg9
 z9:=Tryz.sizeOf9
 v9:=Tryz.zeroValue9
 t46:=Tryz.underlying398
 a46:=Tryz.isAgg398
 z46:=Tryz.sizeOf398
 v46:=Tryz.zeroValue398
 t51:=Tryz.underlying448
 a51:=Tryz.isAgg448
 z51:=Tryz.sizeOf448
 v51:=Tryz.zeroValue448
 t146:=Tryz.underlying495
 a146:=Tryz.isAgg495
 z146:=Tryz.sizeOf495
 v146:=Tryz.zeroValue495
 g1:=by kernel_rfl}
end Go.Proofs
namespace Go.AM
open Go
variable{t:Tr (List cH)}
noncomputable abbrev PP:aM:=Proofs.Tryz.prog
theorem MU:PP.follows .mixedOrders=V:=by rfl
theorem aEm:PP.globals.size=6:=by rfl
theorem aEl:(PP.funcs.toList.all λfn=>fn.body.isNone||!(fn.name== "runtime.NumGoroutine"))=V:=aI
theorem Gc:rA PP:=by intro f fn a h e;have:=List.all_eq_true.1 aEl fn aj;simp_all
def gX:bZ:=Q3 315 2 (λ_ _ _=>Z)
theorem uT:kJ PP (λ_ _ _=>Z):=λ_ _ _ _ _ h=>aj
theorem aiL:kJ PP gX:=aEo uT aP (λargs w=>Proofs.Tryz.call315 args w) (λs sub m w a h=>Proofs.Any.stringslite_Index Proofs.Tryz.azY s sub m w a h)
def hJ(t:Tr (List cH)):Prop:=∀f l E,t.get f=J l->E∈l->G1 PP f E
def iu(t:Tr (List cH))(f:Nat)(E:cH):Tr (List cH):=t.ins f (E::(t.get f).getD [])
def RR:Tr (List cH):=.nil
theorem ok0:hJ RR:=λf l E h _=>by
 have:RR.get f=Z:=by rfl
 grind
theorem aKo(h:hJ t):kJ PP (ig 6 3000 t gX):=by have:=aLy (fuel:=3000) Gc aiL h;simp_all
theorem aKp(h:hJ t)(n:Nat):nw PP (AM.run PP (ig 6 3000 t gX) n):=by grind[Ux,aKo,Gc,MU]
theorem iZ(h:hJ t){f:Nat}{E:cH}{n:Nat}{X:an}(k:entry PP (AM.run PP (ig 6 3000 t gX) n) f E X=V)(i:ba E.H):hJ (iu t f E):=by
 have e:=apq (aKp h n) i k;intro g l D a m;unfold iu at a;by_cases b:g=f
 . subst b;rw[Tr.lL]at a;cases a;rcases List.mem_cons.1 m with rfl|m;.omega
   . rcases q:t.get g with _|l2;.grind
     rw[q]at m;exact h g l2 D q m
 .rw[Tr.jF _ _ ae]at a;exact h g l D a m
end Go.AM
namespace Go.AM
open Go
theorem aoH{I B:aZ}{H:Heap}{w W:aT}{c:aD}{f:gS}{e:al}(P:ba H)(Q:bA gR I H w)(h:fZ I H w B (H.cO c f e) W)(rR:f≠.ex){p:Pl}(hp:B H.next=J p):fZ I H w (gH B H.next {p with len:=0}) (H.cO [] f e) W:=by
 obtain⟨M,A,m⟩:=h;have F:(H.cO c f e).get H.next=J (.cells c H.next f e):=mS ..;have E:(H.cO [] f e).get H.next=J (.cells [] H.next f e):=mS ..;have R:∀i,i≠H.next->(H.cO [] f e).get i=(H.cO c f e).get i:=λi v=>(nE H _ v).trans (nE H _ v).symm;have hr:∀i,rootOf (H.cO [] f e) i=rootOf (H.cO c f e) i:=λi=>by grind[rootOf]
 have dZ:∀i,fJ (H.cO [] f e) i->fJ (H.cO c f e) i:=λi=>by
   rintro⟨l,r,t,h⟩;by_cases x:i=H.next;.subst x;rw[E]at h;obtain⟨_,rfl,rfl,rfl⟩:=bQ.cells.inj (br h);exact⟨_,_,_,F⟩
   .exact⟨l,r,t,aP⟩
 have X:∀i,jr (H.cO [] f e) i↔jr (H.cO c f e) i:=λi=>by
   by_cases x:i=H.next
   . subst x;refine⟨λk l r f e h=>?_,λk l r f e h=>?_⟩;.rw[F]at h;obtain⟨_,rfl,_,_⟩:=bQ.cells.inj (br h);exact k _ _ _ _ E
     .rw[E]at h;obtain⟨_,rfl,_,_⟩:=bQ.cells.inj (br h);exact k _ _ _ _ F
   .unfold jr;rw[R i x];rfl
 have bX:∀i q,B i=J q->i<H.next+1:=λi q h=>A.stat.lt M h;have Fw:∀i q,B i=J q->i≠H.next->rootOf (H.cO c f e) i<H.next:=λi q h x=>by have v:i<H.next:=aj;have:rootOf (H.cO c f e) i=rootOf H i:=m.root i v;simp_all[qZ]
 have up:∀i q,gH B H.next {p with len:=0} i=J q->∃u,B i=J u/\u.aW=q.aW/\u.base=q.base/\(i≠H.next->u=q):=λi q h=>by grind[jK,lC]
 have hinv:ba (H.cO [] f e):=xY P _ (λl r f e g=>aP);refine⟨hinv,⟨⟨λi q h=>?_,λi q l r D t h G=>?_,λi j q s a b d n=>?_,λi j q s a b d n k=>?_⟩,λi q o h _ N G=>?_⟩,?_⟩;.obtain⟨u,a,b,_⟩:=up i q h;obtain⟨k1,k2⟩:=A.stat.cq i u a;grind
 . by_cases x:i=H.next;.grind[jK]
   .rw[lC _ _ x]at h;exact A.stat.len i q l r D t h aP
 . obtain⟨u,K,b1,_⟩:=up i q a;obtain⟨U,L,b2,_⟩:=up j s b;rw[hr,hr];refine A.stat.inj i j u U K L ae λy=>n ?_;obtain⟨l,r,t,h⟩:=y;by_cases x:i=H.next;.subst x;rw[F]at h;obtain⟨_,rfl,rfl,rfl⟩:=bQ.cells.inj (br h);exact⟨_,_,_,E⟩
   .exact⟨l,r,t,aP⟩
 . obtain⟨u,K,b1,c1,d1⟩:=up i q a;obtain⟨U,L,b2,c2,d2⟩:=up j s b;have x:i≠H.next:=aj;obtain rfl:=d1 x;by_cases y:j=H.next
   . subst y;exfalso;have:rootOf (H.cO c f e) i=rootOf (H.cO c f e) H.next:=by
      rcases n with n|n;.exact A.stat.inj _ _ _ _ K L ae λy=>n (by obtain⟨l,r,t,h⟩:=y;exact⟨l,r,t,aP⟩)
      .exact(A.stat.inj _ _ _ _ L K ae λy=>n (by obtain⟨l,r,t,h⟩:=y;rw[F]at h;obtain⟨_,rfl,rfl,rfl⟩:=bQ.cells.inj (br h);exact⟨_,_,_,E⟩)).symm
     grind[qp]
   . obtain rfl:=d2 y;refine A.stat.mono i j _ _ K L d (n.imp (λn z=>n ?_) (λn z=>n ?_)) k;.obtain⟨l,r,t,h⟩:=z;exact⟨l,r,t,aP⟩
     .obtain⟨l,r,t,h⟩:=z;exact⟨l,r,t,aP⟩
 . by_cases x:i=H.next;.subst x;rw[jK]at h;cases h;rw[E]at G;cases G;obtain⟨cs,fz,e1,k1,k2,k3,k4,k5,k6,k7⟩:=A.obj H.next p _ hp trivial ((X _).1 N) F;exact⟨cs,fz,e1,k1,k2,aj,λi a h=>aP,λa h=>aP,k6,λh=>absurd h rR⟩
   . rw[lC _ _ x]at h;rw[R i x]at G;have lr:i<H.next:=aj;have Y:H.get i=J o:=by rw[<-nE H (.cells c H.next f e) x];exact G
     cases T:I i with|none=>have:=(m.new i q h T).1;omega|some q0=>have k1:=Q.obj i q0 o T trivial (λl r D t hh=>N l r D t aP) Y;have k2:=A.obj i q o h trivial ((X i).1 N) G;refine(mn.cut (n:=H.next) (λj q h=>Q.stat.lt P h) k1 k2).mono (λj r hj=>?_) rfl;grind[oJ,lC]
 . have O:∀i q,I i=J q->i≠H.next:=λi q h=>by have:=Q.stat.lt P h;omega
   have back:∀i q,gH B H.next {p with len:=0} i=J q->I i=Z->H.next<=i:=λi q h v=>by obtain⟨u,a,_⟩:=up i q h;exact(m.new i u a v).1
   exact{
     ext:=λi q h=>by rw[lC _ _ (O i q h)];exact m.ext i q h
     size:=m.size
     os:=m.os
     tape:=m.tape
     output:=m.output
     next:=m.next
     bn:=m.bn
     bK:=m.bK
     cK:=m.cK
     root:=λi h=>(hr i).trans (m.root i h)
     view:=λi o M h4 h5 h6=>by obtain⟨a,b,d⟩:=m.view i o M h4 h5 h6;grind
     nA:=m.nA
     new:=λi q h v=>by obtain⟨u,a,b,_⟩:=up i q h;obtain⟨k1,k2⟩:=m.new i u a v;refine⟨k1,?_⟩;rw[<-b,hr];exact k2
     ro:=λi h k=>by obtain⟨l,r,t,g⟩:=m.ro i h k;exact⟨l,r,t,aj⟩
     keep:=λi o h k=>by obtain⟨o',a,b⟩:=m.keep i o h k;grind
     cover:=λi h k=>by
      by_cases x:i=H.next;.grind[jK]
      .have:i<H.next+1:=k;omega
     mD:=λi q h v S=>by obtain⟨u,a,_⟩:=up i q h;rw[hr]at S;rw[hr];exact m.mD i u a v S
     vl:=m.vl
     vF:=m.vF}
open Go.VM Proofs.Tryz
theorem anD{f:bS}{z:aD}{r:cu}(h:wT PP f z=J r)(a:Array aB)(w:aT):(callFunc f a).run PP w=.ok (.enter f a) w:=by obtain⟨fn,d,h⟩:=aE h;obtain⟨b,c,h⟩:=aE h;grind[Kz,Gc]
theorem ar5{k:bZ}(p:kJ PP k){f:bS}{z:aD}{a:AV}{H g:Heap}(h:G2 PP k f z H a g){b:aZ}{w:aT}{v:Array aB}(c:cZ)(s:List cZ)(m:ba H)(o:bA gR b H w)(l:jc PP b)(q:aV b z v.toList):∃e d u,fZ b H w e g d/\VR e a u/\(callFunc f v).run PP w=.ok (.enter f v) w/\Steps PP (eT (Frame.enter PP f v .normal) (c::s) w) (eT (c.finish u) s d):=by obtain⟨_,fr,i,n,j⟩:=h;obtain⟨e1,_⟩:=KZ i q;obtain⟨e,d,u,r,t,q3⟩:=kI.back (Ux p Gc MU n fr H _ (j n (bo _)) b w _ (c::s) m o l e1);grind[anD]
def Ja(f e s b:Nat)(k:bZ):bZ:=λa args H=>bif aw a f then(match args with|[.bc,.int .i64 (.ofNat n)]=>bif bV (n*b) bF&&bV n bF then(bif aw n 0 then J (J (.bc,H))else J (J (.sl H.next 0 0 Z s,H.cO [] .op e)))else J Z|_=>J Z)else k a args H
theorem W9{f e s b:Nat}{z:aD}{k:bZ}(K:kJ PP k)(G:N5 f e s b)(L:mJ PP e=J z)(F:z.length=s):kJ PP (Ja f e s b k):=by
 intro g args H v r h N w t c d hi a j l;unfold Ja at h;rw[bN]at h;by_cases i:g=f
 . subst i;simp only[eu,aL]at h;split at h
   . rename_i n;rcases q:(bV (n*b) bF&&bV n bF)with _|_;.grind
     rw[q]at h;simp only[iC,du,mw]at q;obtain⟨S,M,u,m,o,q3,q4⟩:=ar5 uT (G (λ_ _ _=>Z) H n z L F q.1 q.2 rfl) c d hi a j l;cases I:aw n 0 with|true=>grind|false=>rw[I]at h m o;obtain⟨rfl,rfl⟩:=j9 (br (br h));cases o with|sl _ _ _ _ _ p R x y A B O P D E Q=>refine⟨_,M,_,aoH hi a m aO y,.sl _ 0 0 _ s _ _ _ (jK ..) A B aP aP D E aO,aP⟩
   grind
 .simp only[i,mO,bg]at h;exact K g args H v r h N w t c d hi a j l
end Go.AM
namespace Go.Proofs
open Go.Shelf
def Tryz.azX:Go.Shelf.Ren:=⟨λ|189=>247|125=>320|257=>319|128=>380|129=>381|294=>371|295=>372|296=>373|297=>374|298=>375|299=>376|216=>377|300=>378|301=>379|328=>434|329=>435|330=>436|331=>437|332=>438|215=>288|343=>473|n=>n,λ|28=>24|3=>3|46=>398|0=>0|51=>448|53=>450|4=>4|183=>442|182=>441|131=>316|5=>5|9=>9|218=>497|222=>501|228=>545|229=>145|n=>n,λ|n=>n⟩
theorem Tryz.ahj:Go.Proofs.Lays.n189 eS Tryz.azX:={
 mixed:=by rfl
 f125:=Tryz.func320.trans (fH J (by rfl))
 f128:=Tryz.func380.trans (fH J (by rfl))
 f129:=Tryz.func381.trans (fH J (by rfl))
 f189:=Tryz.func247.trans (fH J (by rfl))
 f215:=Tryz.func288.trans (fH J (by rfl))
 f216:=Tryz.func377.trans (fH J (by rfl))
 f257:=Tryz.func319.trans (fH J (by rfl))
 f294:=Tryz.func371.trans (fH J (by rfl))
 f295:=Tryz.func372.trans (fH J (by rfl))
 f296:=Tryz.func373.trans (fH J (by rfl))
 f297:=Tryz.func374.trans (fH J (by rfl))
 f298:=Tryz.func375.trans (fH J (by rfl))
 f299:=Tryz.func376.trans (fH J (by rfl))
 f300:=Tryz.func378.trans (fH J (by rfl))
 f301:=Tryz.func379.trans (fH J (by rfl))
 f328:=Tryz.func434.trans (fH J (by rfl))
 f329:=Tryz.func435.trans (fH J (by rfl))
 f330:=Tryz.func436.trans (fH J (by rfl))
 f331:=Tryz.func437.trans (fH J (by rfl))
 f332:=Tryz.func438.trans (fH J (by rfl))
 f343:=Tryz.func473.trans (fH J (by rfl))
 t0:=Tryz.underlying0
 a0:=Tryz.isAgg0
 z0:=Tryz.sizeOf0
 v0:=Tryz.zeroValue0
 t3:=Tryz.underlying3
 a3:=Tryz.isAgg3
 z3:=Tryz.sizeOf3
 v3:=Tryz.zeroValue3
 t4:=Tryz.underlying4
 a4:=Tryz.isAgg4
 z4:=Tryz.sizeOf4
 v4:=Tryz.zeroValue4
 t5:=Tryz.underlying5
 a5:=Tryz.isAgg5
 z5:=Tryz.sizeOf5
 v5:=Tryz.zeroValue5
 t9:=Tryz.underlying9
 a9:=Tryz.isAgg9
 z9:=Tryz.sizeOf9
 v9:=Tryz.zeroValue9
 t28:=Tryz.underlying24
 a28:=Tryz.isAgg24
 z28:=Tryz.sizeOf24
 v28:=Tryz.zeroValue24
 t46:=Tryz.underlying398
 a46:=Tryz.isAgg398
 z46:=Tryz.sizeOf398
 v46:=Tryz.zeroValue398
 t51:=Tryz.underlying448
 a51:=Tryz.isAgg448
 z51:=Tryz.sizeOf448
 v51:=Tryz.zeroValue448
 t53:=Tryz.underlying450
 a53:=Tryz.isAgg450
 z53:=Tryz.sizeOf450
 v53:=Tryz.zeroValue450
 t131:=Tryz.underlying316
 a131:=Tryz.isAgg316
 z131:=Tryz.sizeOf316
 v131:=Tryz.zeroValue316
 t182:=Tryz.underlying441
 a182:=Tryz.isAgg441
 z182:=Tryz.sizeOf441
 v182:=Tryz.zeroValue441
 t183:=Tryz.underlying442
 a183:=Tryz.isAgg442
 z183:=Tryz.sizeOf442
 v183:=Tryz.zeroValue442
 t218:=Tryz.underlying497
 a218:=Tryz.isAgg497
 z218:=Tryz.sizeOf497
 v218:=Tryz.zeroValue497
 t222:=Tryz.underlying501
 a222:=Tryz.isAgg501
 z222:=Tryz.sizeOf501
 v222:=Tryz.zeroValue501
 t228:=Tryz.underlying545
 a228:=Tryz.isAgg545
 z228:=Tryz.sizeOf545
 v228:=Tryz.zeroValue545
 t229:=Tryz.underlying145
 a229:=Tryz.isAgg145
 z229:=Tryz.sizeOf145
 v229:=Tryz.zeroValue145}
def Tryz.az0:Go.Shelf.Ren:=⟨λ|20=>248|n=>n,λ|22=>24|3=>3|4=>4|0=>0|n=>n,λ|n=>n⟩
theorem Tryz.ahk:Go.Proofs.Lays2.n20 eS Tryz.az0:={
 mixed:=by rfl
 f20:=Tryz.func248.trans (fH J (by rfl))
 t0:=Tryz.underlying0
 a0:=Tryz.isAgg0
 z0:=Tryz.sizeOf0
 v0:=Tryz.zeroValue0
 t3:=Tryz.underlying3
 a3:=Tryz.isAgg3
 z3:=Tryz.sizeOf3
 v3:=Tryz.zeroValue3
 t4:=Tryz.underlying4
 a4:=Tryz.isAgg4
 z4:=Tryz.sizeOf4
 v4:=Tryz.zeroValue4
 t22:=Tryz.underlying24
 a22:=Tryz.isAgg24
 z22:=Tryz.sizeOf24
 v22:=Tryz.zeroValue24
 i3:=by kernel_rfl}
end Go.Proofs
namespace Go.AM
open Go Go.VM Proofs.Tryz Go.Sort
theorem fZ.grown{n q:aZ}{H l:Heap}{w f j:aT}(h:fZ n H w q l f)(I:f.heap.size<=j.heap.size)(m:∀b,b<f.heap.size->j.heap[b]?=f.heap[b]?)(s:j.os=f.os)(u:j.tape=f.tape)(t:j.output=f.output):fZ n H w q l j:=by
 obtain⟨r,g,c⟩:=h;refine⟨r,⟨⟨λi p k=>?_,g.stat.len,g.stat.inj,g.stat.mono⟩,λi p o a b d e=>(g.obj i p o a b d e).mono (Ext.refl _) (m _ (g.stat.cq i p a).1)⟩,{c with size:=gv c.size I,os:=s.trans c.os,tape:=u.trans c.tape,output:=t.trans c.output,nA:=λb k=>?_}⟩;.obtain⟨a,b⟩:=g.stat.cq i p k;grind
 .rw[m b (fj k c.size)];exact c.nA b k
theorem aEP(y:bT)(o:Nat)(c:Array aB)(h:o+y.length<=c.size):putCells (Value.int .i64) o y.toArray c=over c o (y.map (Value.int .i64)):=by apply Su;grind[uU,putCells]
theorem ajx{f:aZ}{H u:Heap}{w:aT}(R:ba H)(s:bA gR f H w){d o n:Nat}{p:Pl}(k:f d=J p){z ys:bT}(hl:H.load d o n=J (z.map (AV.int .i64)))(hy:ys.length=z.length)(G:H.store d o (ys.map (AV.int .i64))=J u):p.aW<w.heap.size/\z.length=n/\Holds (Value.int .i64) w p.aW (p.base+o) z.toArray/\∀q t,fZ f H w f u (grow (putRow (Value.int .i64) (Sort.ahead w q) p.aW (p.base+o) ys.toArray) t):=by
 have Y:=(s.stat.cq d p k).1;have F:=G;unfold Heap.store at G;split at G
 . rename_i l r I e O;rcases B:(bV (H.bh r).1 d&&(aw (H.bh r).2 d&&(bV (im o (eL (ys.map (AV.int .i64)))) (eL l)&&I.wr)))with _|_;.grind
   simp only[iC,du,bN,mw,ef,dU]at B;obtain⟨K,h2,h3,h4⟩:=B;obtain⟨T,D⟩:=CO s k trivial O K;obtain⟨A,fz,e1,g1,g2,g3,g4,g5,g6,g7⟩:=T;obtain⟨rfl,rfl⟩:=g6 (by grind[gS.wr]);have Q:(l.drop o).take n=z.map (AV.int .i64)/\o+n<=l.length:=by grind[Heap.load,Heap.cellsOf,du,ef,qx,qI]
   have m:z.length=n:=by have:=fH List.length Q.1;grind
   have C9:∀j,j<z.length->A[p.base+o+j]?=J (.int .i64 z.toArray[j]!):=by
     intro j S;have L:l[o+j]?=J (.int .i64 z[j]):=by have h6:((l.drop o).take n)[j]?=(z.map (AV.int .i64))[j]?:=aj;grind
     obtain⟨c,h7,M⟩:=g4 _ _ L;cases M;grind
   refine⟨Y,m,λj S=>?_,λq t=>?_⟩;.grind[World.cell?,World.frozen?]
   . have W:aV f (ys.map (AV.int .i64)) (ys.map (Value.int .i64)):=by
      refine⟨aO,λi a v g h=>?_⟩;rw[lE]at g h;rcases X:ys[i]? with _|y;.grind
      rw[X]at g h;cases g;cases h;exact .int .i64 y
     obtain⟨w1,k1,k2⟩:=NB (P:=PP) R s k trivial F W (λx U=>by obtain⟨y,_,rfl⟩:=List.mem_map.1 U;rfl);have E:p.base+o+(ys.map (Value.int .i64)).length<=A.size:=aj;rw[Nq g1 E (λv h=>by obtain⟨y,_,rfl⟩:=List.mem_map.1 h;rfl)]at k1;obtain⟨_,rfl⟩:()=()/\World.eH w p.aW _=w1:=by simpa using k1
     refine fZ.grown ⟨k2.1,k2.2.1,k2.2.2⟩ (by simp[Cr]) (λb N=>?_) rfl rfl rfl;rw[Cr]at N;show((w.heap.modify p.aW (onCells (putCells (Value.int .i64) (p.base+o) ys.toArray)))++t)[b]?=_;grind[Bd,onCells,aEP,Cq]
 grind
end Go.AM
namespace Go.Proofs
open Go Go.AM Go.RowKit Go.Lib Go.Shelf
variable{cs ds:Array aB}{vb vo:Nat}{fz:Nat×Nat}{w:aT}{e:al}
theorem Rt{t:al}{b o l f c a s d m:Nat}{g:al}(h:w.heap[b]?=J (.cells cs e (0,0)))(i:w.heap[c]?=J (.cells ds g fz))(q:min s l=m)(n:o+m*14<=cs.size)(j:a+m*14<=ds.size)(k:∀v,v∈(ds.extract a (a+m*14)).toList->wu v=V):(zF #[25,25] t #[.slice (J ⟨b,o,Z⟩) l f,.slice (J ⟨c,a,Z⟩) s d]).run eS w=.ok (goInt m) (World.eH w b (.cells (over cs o (ds.extract a (a+m*14)).toList) e (0,0))):=by have f1:(oE 14 m (.slice (J _) s d)).run eS w=.ok _ w:=Jo i j;have g1:=Nq (P:=eS) h (D:=o) aj k;have p:(Builtin.lenOf (.slice (J ⟨c,a,Z⟩) s d)).run eS w=.ok s w:=rfl;simp_all[zF]
theorem aGt{P:aM}{S R a b o d p c m:Nat}{q:al}(h:P.underlying S=J (.slice a)){f:Nat}(v:bC P a=J f)(i:w.heap[b]?=J (.cells cs e (0,0)))(r:w.heap[vb]?=J (.cells ds q fz))(D:vb≠b)(E:ds.size≠0):(Extern.SlicesOverlaps.overlaps #[S,S] #[R] #[.slice (J ⟨vb,vo,Z⟩) c m,.slice (J ⟨b,o,Z⟩) d p]).run P w=.ok (.bool C) w:=by
 have I:∀w,(Go.sizeOf a).run P w=.ok f w:=λw=>mf v w;have h:∀w,(underlying S).run P w=.ok (.slice a) w:=λw=>dA h w;have A:(vb !=b)=V:=aj;have z:(vb==b)=C:=aj;have k1:=Z2 i;have k2:=Z2 r;have k3:∀k,w.frozen? ⟨b,k,Z⟩=C:=λk=>afc i k;change Sem.run P (underlying S>>=_) w=_;by_cases g:c=0\/d=0\/f=0;.simp[h,I,g]
 . rcases j:ds.size with _|n;.omega
   rw[j]at k2;cases u:w.frozen? ⟨vb,vo,Z⟩<;>cases B:w.frozen? ⟨vb,n+1,Z⟩<;>simp[h,I,g,A,z,frozen,noView,viewAt,mayBeOne,stringish,shape,Sem.run,k1,k2,k3,u,B]
theorem aGs{b o i d l a:Nat}{f:al}(h:w.heap[b]?=J (.cells cs e (0,0)))(g:w.heap[vb]?=J (.cells ds f fz))(c:vb≠b)(n:ds.size≠0):(callFunc 474 #[.slice (J ⟨vb,vo,Z⟩) l a,.slice (J ⟨b,o,Z⟩) i d]).run eS w=.ok (.value (.bool C)) w:=by rw[run_callFunc_extern Tryz.func474 (by rfl) (by rfl) aI (e:=Extern.SlicesOverlaps.overlaps _ #[4]) aI,aGt Tryz.underlying25 VM.wx h g c n];rfl
set_option maxHeartbeats 4000000 in set_option maxRecDepth 100000 in theorem ax0{b o n c vc:Nat}{q:al}(i:w.heap[b]?=J (.cells cs e (0,0)))(j:w.heap[vb]?=J (.cells ds q fz))(A:vb≠b)(O:0<n)(M:n<1000000000)(N:n+1<=c)(P:o+(n+1)*14<=cs.size)(B:vo+14<=ds.size)(s:∀v,v∈(cs.extract o (o+n*14)).toList->wu v=V)(r:∀v,v∈(ds.extract vo (vo+1*14)).toList->wu v=V):Calls eS 440 #[.slice (J ⟨b,o,Z⟩) n c,.int .i64 0,.slice (J ⟨vb,vo,Z⟩) 1 vc] w λx G=>x=.returned (.slice (J ⟨b,o,Z⟩) (n+1) c)/\G=World.eH w.drew b (.cells (over (over cs (o+14) (cs.extract o (o+n*14)).toList) o (ds.extract vo (vo+1*14)).toList) e (0,0)):=by
 have I:ds.size≠0:=ae;have F:¬((0:Int)=(n:Int)):=ae;have k:∀lb p,(callFunc 474 #[.slice (J ⟨vb,vo,Z⟩) 1 vc,.slice (J ⟨b,o+14,Z⟩) lb p]).run eS w=.ok (.value (.bool C)) w:=λlb p=>aGs i j A I;have U:w.drew.heap[b]?=J (.cells cs e (0,0)):=i;have a:∀ty d t,(zF #[25,25] ty #[.slice (J ⟨b,o+14,Z⟩) n d,.slice (J ⟨b,o,Z⟩) (n+1) t]).run eS w.drew=.ok (goInt n) (World.eH w.drew b (.cells (over cs (o+14) (cs.extract o (o+n*14)).toList) e (0,0))):=λty d t=>Rt U U ae ae ae s;have L:¬(c=1):=ae;have l:Tryz.prog.follows .mixedOrders=V:=MU;have Q:IntKind.i64.wrap 1=1:=by rfl
 have K:(1:Int)<=(n:Int)+1:=ae;have y:¬(c=0):=ae;have z:(0:Int)<=(n:Int)+1:=ae;have E:IntKind.i64.wrap 0=0:=by rfl
 obtain⟨W,g⟩:∃W,W=World.eH w.drew b (.cells (over cs (o+14) (cs.extract o (o+n*14)).toList) e (0,0)):=⟨_,rfl⟩;have h:W.heap[b]?=J (.cells (over cs (o+14) (cs.extract o (o+n*14)).toList) e (0,0)):=by grind[Bd]
 have f:W.heap[vb]?=J (.cells ds q fz):=by rw[g,Cq _ _ A];exact j
 have u:(over cs (o+14) (cs.extract o (o+n*14)).toList).size=cs.size:=A4 _ _ _ aj;have H:∀ty d,(zF #[25,25] ty #[.slice (J ⟨b,o,Z⟩) (n+1) d,.slice (J ⟨vb,vo,Z⟩) 1 vc]).run eS W=.ok (goInt 1) (World.eH W b (.cells (over (over cs (o+14) (cs.extract o (o+n*14)).toList) o (ds.extract vo (vo+1*14)).toList) e (0,0))):=λty d=>Rt (m:=1) h f (by rfl) ae ae r;have D:World.eH W b (.cells (over (over cs (o+14) (cs.extract o (o+n*14)).toList) o (ds.extract vo (vo+1*14)).toList) e (0,0))=World.eH w.drew b (.cells (over (over cs (o+14) (cs.extract o (o+n*14)).toList) o (ds.extract vo (vo+1*14)).toList) e (0,0)):=by grind[ZY]
 rw[<-g]at a;rw[<-D];clear D h f u i j U s r g;go_enter Tryz.func440,Tryz.ntmps440;go_wp2_with(simp only[k]);go_region_law_o(refine step_copy_runI rfl _ _ 25 25 rfl _ _ (by simp[Act.eval,Act.put]) (by simp[Act.eval,Act.put]) (a _ _ _) ?_);go_wp2_with(at_builtin;refine wpList_copy_runI _ rfl _ _ 25 25 rfl _ _ rfl rfl (H _ _) ?_);go_ret;simp_all
end Go.Proofs
