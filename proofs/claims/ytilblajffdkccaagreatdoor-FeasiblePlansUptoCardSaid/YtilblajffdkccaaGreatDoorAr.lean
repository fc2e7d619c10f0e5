/- Proved: the fixed example of the chapter returns true (a part of the proof of FeasiblePlansUptoCardSaid, whose theorem stands in the last text). -/
import Derived.Test.YtilblajffdkccaaGreatDoorAf
open Option renaming some->J,none->Z
open Bool renaming true->V,false->C
open Bool renaming noConfusion->mK
open Go renaming TypeId->al,Value->aB,Oper->aC,Operand->aH,Program->aM,World->aT,Code->bz,FuncId->bS,Frame->cZ,lone->eT,IntKind->gZ,MapEntry->kZ
open Go.Builtin renaming zeroCells->nR,firstCells->oE,append_->s8,copy_->zF
open Go.Lib renaming compact->tb
open Go.Op renaming operands->eB,mapUpdate->rC
open Go.Proofs.Tryz renaming prog->eS
open Go.Region renaming binds->uq
open Go.stepG renaming exec->ug
open Int renaming ofNat->dI,sub->nS
open List renaming rec->kG,append->qA
open Nat renaming beq->aw,ble->bV,blt->cM,succ->eU,add->im,mul->jD
open SizeOf renaming sizeOf->kb
open UInt8 renaming toNat->nU
noncomputable section
set_option linter.all false
namespace Go.AM
open Go
set_option maxRecDepth 1000000
def i(n:Int):AV:=.int .i64 n
def z8:aD:=[i 0,.bc,i 0,i 0,i 0,i 0,i 0,.str []]
def x0:aD×al:=([i 0],3)
def x1:aD×al:=([i 0,i 5],174)
def x2:aD×al:=([i 0,i 3],113)
def x3:aD×al:=([.bc,.bc],60)
def x4:AV:=.agg [i 0,.bc,.bc]
def x5:aD×al:=([.str [120],i 0],99)
def x6:aD×al:=([i 0,i 7,.str []],28)
def x7:aD×al:=([i 0,i 8,.str []],28)
def x8:aD×al:=([i 0,i 3,i 0,i 0],111)
def x9:aD×al:=([.str [],i 0,.str [],i 0],101)
def R8:aD×al:=([i 0,i (.negSucc 0),.str []],28)
def R9:aD×al:=([i 0,i 1099511627775,.str []],28)
def Sa:aD×al:=([i 0,i 1099511627776,.str []],28)
def vm:aD×al:=([.str [97],i 0,.str [98],i 0],101)
def pU:aD×al:=([.str [116],.sl 7 0 1 (.some 1) 2],91)
def Sb:aD×al:=([i 0,i 1,i 0,i 8,.sl 24 0 1 .none 3],107)
def wD:aD×al:=([i 0,.bc,i 0,i 0,i 0,i 1,i 1,.str []],30)
def x17:AV:=.agg [.sl 6 0 1 (.some 1) 2,.sl 8 0 2 .none 2]
def Sc:AV:=.agg [.sl 6 0 1 (.some 1) 2,.sl 8 0 1 .none 2]
def JS:aD×al:=([i 0,i 0,i 0,i 3,.sl 20 0 1 (.some 1) 3],107)
def x20:aD×al:=([.sl 6 0 1 (.some 1) 2,.sl 8 0 2 .none 2],349)
def Sd:aD×al:=([.sl 6 0 1 (.some 1) 2,.sl 8 0 1 .none 2],349)
def JT:AV:=.agg [i 2,i 1,.sl 6 0 2 .none 1,.sl 7 0 2 .none 17]
def NU:aD×al:=([i 1,.sl 7 0 2 (.some 2) 14,i 0,i 0,i 0,i 0]++z8,32)
def Se:aD×al:=([i 6,.sl 6 0 1 (.some 1) 14,i 0,i 0,i 0,i 5]++z8,32)
def zr:aD×al:=([i 1,.sl 10 0 2 (.some 2) 14,i 0,i 0,i 0,i 0]++z8,32)
def NV:AV:=.agg ([i 6,.sl 6 0 1 (.some 1) 14,i 0,i 0,i 0,i 5]++z8)
def JU:AV:=.agg [i 1,.sl 21 0 1 (.some 1) 4,.sl 22 0 1 (.some 1) 2]
def x28:AV:=.agg [i 8,.sl 9 0 2 (.some 2) 8,i 0,i 0,i 0,i 0,i 0,.str []]
def Sf:aD×al:=([i 0,.bc,.bc,i 1,.sl 16 0 1 .none 4,.sl 17 0 1 .none 2],70)
def x30:aD×al:=([i 0,i 0,i 0,i 0,.sl 20 0 1 .none 3,i 0,i 1,i 0,i 0,.sl 21 0 1 .none 3],107)
def lD:aD×al:=([i 1,.bc,i 0,i 0,i 0,i 0,i 0,.str [],i 1,.bc,i 1,i 0,i 0,i 0,i 0,.str []],30)
def Sg:aD×al:=([i 2,.bc,i 0,i 0,i 0,i 0,i 0,.str [],i 2,.bc,i 0,i 0,i 0,i 0,i 0,.str []],30)
def Sh:aD×al:=([i 2,.bc,i 1,i 0,i 0,i 0,i 0,.str [],i 2,.bc,i 0,i 0,i 0,i 0,i 0,.str []],30)
def x34:aD×al:=([i 2,.bc,i 0,i 0,i 0,i 0,i 0,.str [],i 2,.bc,i 1,i 0,i 0,i 0,i 0,.str []],30)
def x35:aD×al:=([i 0,.bc,i 0,i 0,i 0,i 0,i 3,.str [],i 2,.bc,i 0,i 0,i 0,i 0,i 0,.str []],30)
def x36:aD×al:=([i 0,.bc,i 0,i 0,i 0,i 0,i 7,.str [],i 1,.bc,i 0,i 0,i 0,i 0,i 0,.str []],30)
def Si:aD×al:=([i 2,.bc,i 0,i 0,i 0,i 0,i 0,.str [],i 0,.bc,i 0,i 0,i 0,i 0,i 8,.str []],30)
def x38:aD×al:=([i 0,.bc,i 0,i 1,i 0,i 0,i 7,.sl 8 0 2 (.some 2) 8,i 0,i 0,i 0,i 0,i 0,.str []],32)
def x39:aD×al:=([i 6,.sl 10 0 2 (.some 2) 8,i 0,i 0,i 0,i 0,i 0,.str [],i 0,.bc,i 0,i 0,i 0,i 0,i 5,.str []],30)
def x40:aD×al:=([i 6,.sl 12 0 2 (.some 2) 8,i 0,i 0,i 0,i 0,i 0,.str [],i 0,.bc,i 0,i 0,i 0,i 0,i 5,.str []],30)
def x41:aD×al:=([i 6,.sl 16 0 2 (.some 2) 8,i 0,i 0,i 0,i 0,i 0,.str [],i 0,.bc,i 0,i 0,i 0,i 0,i 5,.str []],30)
def x42:aD×al:=([i 0,i 0,i 0,i 1099511627776,.sl 20 0 1 .none 3,i 0,i 1,i 0,i 1099511627776,.sl 21 0 1 .none 3],107)
def x43:aD×al:=([i 0,.bc,.bc,i 1,.sl 16 0 1 .none 4,.sl 17 0 1 .none 2,i 1,.sl 20 0 1 .none 4,.sl 21 0 1 .none 2],70)
def NW:aD×al:=([i 0,.bc,i 0,i 0,i 0,i 0,i 0,.bc,i 0,i 0,i 0,i 1,i 1,.str [],i 0,.bc,i 0,i 1,i 0,i 0,i 7,.sl 8 0 2 (.some 2) 8,i 0,i 0,i 0,i 0,i 0,.str []],32)
def zu:aD×al:=([i 0,.bc,i 0,i 0,i 0,i 0,i 0,.bc,i 0,i 0,i 0,i 1,i 1,.str [],i 0,.bc,i 0,i 1,i 0,i 0,i 7,.sl 11 0 2 (.some 2) 8,i 0,i 0,i 0,i 0,i 0,.str []],32)
def Sj:aD×al:=([i 7,.sl 10 0 2 (.some 2) 8,i 0,i 0,i 0,i 0,i 0,.str [],i 7,.sl 11 0 2 .none 8,i 0,i 0,i 0,i 0,i 0,.str [],i 8,.sl 12 0 2 (.some 2) 8,i 0,i 0,i 0,i 0,i 0,.str []],30)
def zw:AV:=.agg ([.sl 6 0 1 (.some 1) 2,.str [113],.sl 8 0 2 (.some 2) 2,.bc,i 6,.sl 9 0 1 (.some 1) 14,i 0,i 0,i 0,i 5]++z8++[.sl 12 0 1 (.some 1) 8,i 2,i 1,.sl 13 0 2 .none 1,.sl 14 0 2 .none 17])
def JV:aD×al:=([i 0,i 1,i 0,i 0,i 0,.bc,i 0,i 0,i 0,i 1,i 1,.str [],.sl 8 0 1 .none 1,.bc,.bc,.sl 9 0 1 .none 2,.bc,i 1,i (.negSucc 0),i 1,i 0,i 7,.sl 10 0 2 (.some 2) 8,i 0,i 0,i 0,i 0,i 0,.str [],.bc,.sl 11 0 1 .none 1,.bc,.sl 12 0 1 .none 2,.bc],64)
def zx:aD×al:=([i 0,i 1,i 0,i 0,i 0,.bc,i 0,i 0,i 0,i 1,i 1,.str [],.sl 15 0 1 .none 1,.bc,.bc,.sl 16 0 1 .none 2,.bc,i 1,i (.negSucc 0),i 1,i 0,i 7,.sl 11 0 2 (.some 2) 8,i 0,i 0,i 0,i 0,i 0,.str [],.bc,.sl 17 0 1 .none 1,.bc,.sl 18 0 1 .none 2,.bc],64)
def x50:aD×al:=([i 7,.sl 10 0 2 (.some 2) 8,i 0,i 0,i 0,i 0,i 0,.str [],i 0,.bc,i 0,i 0,i 0,i 1,i 1,.str [],i 8,.sl 11 0 2 (.some 2) 8,i 0,i 0,i 0,i 0,i 0,.str [],i 8,.sl 13 0 2 (.some 2) 8,i 0,i 0,i 0,i 0,i 0,.str [],i 7,.sl 14 0 2 .none 8,i 0,i 0,i 0,i 0,i 0,.str [],i 8,.sl 15 0 2 (.some 2) 8,i 0,i 0,i 0,i 0,i 0,.str []],30)
def e0:cH:=⟨[NV],fN (cQ gl [NU,NW,lD]),i 0,[]⟩
def tb1:Tr (List cH):=iu RR 188 e0
def g0:an:=[]
def e1:cH:=⟨[NV,.ptr 9 0,.bc,i 0,i 0,.sl 10 0 1 (.some 1) 14],fN (cQ gl [NU,NW,lD,Se,Se]),.cw [.sl 11 0 2 .none 14,i 0],[([i 6,.sl 6 0 1 (.some 1) 14,i 0,i 0,i 0,i 5]++z8++[i 10,.sl 12 0 1 (.some 1) 14,i 0,i 0,i 0,i 5]++z8,32),x38]⟩
def tb2:Tr (List cH):=iu tb1 118 e1
def g1:an:=[143,94]
def e2:cH:=⟨[NV],fN (cQ gl [NU,NW,lD]),.cw [.agg [i 2,i 1,.sl 9 0 2 .none 1,.sl 10 0 2 .none 17],.sl 15 0 2 .none 14,i 0],[x3,([i 0,i 1,i 0,i 0,i 0,.bc,i 0,i 0,i 0,i 1,i 1,.str [],.sl 11 0 1 .none 1,.bc,.bc,.sl 12 0 1 .none 2,.bc,i 1,i (.negSucc 0),i 1,i 0,i 7,.sl 8 0 2 (.some 2) 8,i 0,i 0,i 0,i 0,i 0,.str [],.bc,.sl 13 0 1 .none 1,.bc,.sl 14 0 1 .none 2,.bc],64),x0,x1,x0,x1,([i 6,.sl 6 0 1 (.some 1) 14,i 0,i 0,i 0,i 5]++z8++[i 10,.sl 16 0 1 (.some 1) 14,i 0,i 0,i 0,i 5]++z8,32),x38]⟩
def tb3:Tr (List cH):=iu tb2 59 e2
def g2:an:=[454,455,279,282,412,409,145,96]
def e3:cH:=⟨[.ptr 6 0,.ptr 9 0,.ptr 11 0,i 0,i 0],fN (cQ gl [([.sl 7 0 1 (.some 1) 2],22),([.str [116],.sl 8 0 1 (.some 1) 2],91),x5,([.sl 10 0 2 (.some 2) 2],23),vm,([i 6,.sl 12 0 1 (.some 1) 14,i 0,i 0,i 0,i 5]++z8,32),([i 1,.sl 13 0 2 (.some 2) 14,i 0,i 0,i 0,i 0]++z8,32),([i 0,.bc,i 0,i 0,i 0,i 0,i 0,.bc,i 0,i 0,i 0,i 1,i 1,.str [],i 0,.bc,i 0,i 1,i 0,i 0,i 7,.sl 14 0 2 (.some 2) 8,i 0,i 0,i 0,i 0,i 0,.str []],32),lD]),.cw [i 0,i 0],[]⟩
def tb4:Tr (List cH):=iu tb3 106 e3
def g3:an:=[]
def e4:cH:=⟨[NV,.ptr 9 0,i 0,i 0,i 0],fN (cQ gl [NU,NW,lD,Se]),.cw [i 0,i 0],[]⟩
def tb5:Tr (List cH):=iu tb4 109 e4
def g4:an:=[]
def e5:cH:=⟨[.sl 6 0 5 .none 1],fN (cQ gl [([.func 96 [] [.ptr 7 0],.func 96 [] [.ptr 11 0],.func 96 [] [.ptr 14 0],.func 106 [] [.ptr 20 0,.ptr 19 0,.ptr 15 0],.func 108 [] [.ptr 15 0]],127),([.func 170 [] [.ptr 8 0]],130),([.sl 9 0 1 (.some 1) 2],22),([.str [116],.sl 10 0 1 (.some 1) 2],91),x5,([.func 171 [] [.ptr 8 0,.ptr 12 0]],130),([.sl 13 0 2 (.some 2) 2],23),vm,([.func 104 [] [.ptr 15 0,.ptr 19 0]],130),([i 6,.sl 16 0 1 (.some 1) 14,i 0,i 0,i 0,i 5]++z8,32),([i 1,.sl 17 0 2 (.some 2) 14,i 0,i 0,i 0,i 0]++z8,32),([i 0,.bc,i 0,i 0,i 0,i 0,i 0,.bc,i 0,i 0,i 0,i 1,i 1,.str [],i 0,.bc,i 0,i 1,i 0,i 0,i 7,.sl 18 0 2 (.some 2) 8,i 0,i 0,i 0,i 0,i 0,.str []],32),lD,([.sl 13 0 2 (.some 2) 2],23),([.sl 9 0 1 (.some 1) 2],22)]),.cw [i 0,i 0],[]⟩
def tb6:Tr (List cH):=iu tb5 47 e5
def g5:an:=[]
def e6:cH:=⟨[NV,.sl 9 0 1 (.some 1) 8,.ptr 10 0],fN (cQ gl [NU,NW,lD,wD,Se]),.cw [i 0,i 0],[]⟩
def tb7:Tr (List cH):=iu tb6 117 e6
def g6:an:=[]
def e7:cH:=⟨[.sl 6 0 5 (.some 5) 1],fN (cQ gl [([.func 96 [] [.ptr 7 0],.func 96 [] [.ptr 11 0],.func 53 [] [.ptr 8 0,.ptr 12 0],.func 96 [] [.ptr 18 0],.func 96 [] [.ptr 19 0]],127),([.func 49 [] [.ptr 8 0]],130),([.sl 9 0 1 (.some 1) 2],22),([.str [116],.sl 10 0 1 (.some 1) 2],91),x5,([.func 51 [] [.ptr 12 0]],130),([.str [113],.sl 13 0 2 (.some 2) 2,.bc,i 6,.sl 14 0 1 (.some 1) 14,i 0,i 0,i 0,i 5]++z8++[.sl 17 0 1 (.some 1) 8],34),vm,([i 1,.sl 15 0 2 (.some 2) 14,i 0,i 0,i 0,i 0]++z8,32),([i 0,.bc,i 0,i 0,i 0,i 0,i 0,.bc,i 0,i 0,i 0,i 1,i 1,.str [],i 0,.bc,i 0,i 1,i 0,i 0,i 7,.sl 16 0 2 (.some 2) 8,i 0,i 0,i 0,i 0,i 0,.str []],32),lD,wD,([.func 55 [] [.ptr 8 0,.ptr 12 0]],130),([.func 57 [] [.ptr 8 0,.ptr 12 0]],130)]),.cw [i 0,i 0],[]⟩
def tb8:Tr (List cH):=iu tb7 47 e7
def g7:an:=[]
def e8:cH:=⟨[JT,.ptr 13 0,i 0],fN (cQ gl [x3,JV,x0,x1,lD,x0,x1,([i 2,i 1,.sl 6 0 2 .none 1,.sl 7 0 2 .none 17],38)]),i 0,[]⟩
def tb9:Tr (List cH):=iu tb8 22 e8
def g8:an:=[]
def e9:cH:=⟨[.sl 6 0 1 (.some 1) 2,.sl 8 0 2 .none 2,x28],fN (cQ gl [pU,x5,x9,x39,Sg]),.cw [i 1,i 0],[]⟩
def aah:Tr (List cH):=iu tb9 115 e9
def g9:an:=[]
def ux:cH:=⟨[.sl 6 0 1 (.some 1) 2,.sl 8 0 2 .none 2,x28],fN (cQ gl [pU,x5,x9,x39,Sh]),.cw [i 1,i 0],[]⟩
def aai:Tr (List cH):=iu aah 115 ux
def g10:an:=[]
def tA:cH:=⟨[x17,.sl 9 0 6 .none 8,.ptr 17 0],fN (cQ gl [pU,x5,x9,x50,([i 0,.bc,i 0,i 0,i 0,i 0,i (.negSucc 0),.str [],i 2,.bc,i 0,i 0,i 0,i 0,i 0,.str []],30),x40,Sg,x34,lD,x41,Sh,x20]),i 0,[]⟩
def aaj:Tr (List cH):=iu aai 273 tA
def g11:an:=[]
def TG:cH:=⟨[zw,.bc,x4,i (.negSucc 0)],fN (cQ gl [pU,x5,vm,zr,zu,lD,wD,x3,zx,x0,x1,x0,x1]),.cw [i 1,.sl 19 0 2 .none 5,i 0],[x30,R8,([i 0,i 0,.str []],28)]⟩
def aak:Tr (List cH):=iu aaj 38 TG
def g12:an:=[1034,1025,1032]
def TH:cH:=⟨[JT,.bc,.sl 13 0 1 (.some 1) 3,.agg [i 0,i 0,i 0,i 0,.sl 14 0 1 .none 3]],fN (cQ gl [x3,JV,x0,x1,lD,x0,x1,([i 0,.bc,.bc],70),R8]),.cw [.sl 15 0 2 .none 3,.bc,i 0],[Sf,([i 0,i 0,i 0,i 0],111),([i 0,i 0],113)]⟩
def aal:Tr (List cH):=iu aak 78 TH
def g13:an:=[138,134,122]
def TI:cH:=⟨[JT,.sl 13 0 1 .none 5,.sl 15 0 2 .none 3,.agg [i 0,i 1,i 0,i 0,.sl 18 0 1 .none 3]],fN (cQ gl [x3,JV,x0,x1,lD,x0,x1,([i 0,i 0,i 0,i 0,.sl 14 0 1 .none 3],107),R8,Sf,([i 0,i 0,i 0,i 0],111),([i 0,i 0],113),([i 0,i 0,.str []],28)]),.cw [.sl 19 0 3 .none 3,.sl 22 0 1 .none 1,i 0],[x43,([i 0,i 0,i 0,i 1],111),([i 0,i 0],113),([.sl 23 0 2 .none 4],311),([i 0,i 0,i 0,i 0,i 1,i 0,i 0,i 1],111)]⟩
def aam:Tr (List cH):=iu aal 78 TI
def g14:an:=[182,161,149,281,277]
def TJ:cH:=⟨[zw,.bc,x4,i (.negSucc 0),.sl 19 0 2 .none 5],fN (cQ gl [pU,x5,vm,zr,zu,lD,wD,x3,zx,x0,x1,x0,x1,x30,R8,([i 0,i 0,.str []],28)]),i 0,[]⟩
def aan:Tr (List cH):=iu aam 39 TJ
def g15:an:=[]
def TK:cH:=⟨[x17,.sl 9 0 6 .none 8,.ptr 17 0],fN (cQ gl [pU,x5,x9,x50,([i 0,.bc,i 0,i 0,i 0,i 0,i 1099511627775,.str [],i 2,.bc,i 0,i 0,i 0,i 0,i 0,.str []],30),x40,Sg,x34,lD,x41,Sh,x20]),i 0,[]⟩
def aao:Tr (List cH):=iu aan 273 TK
def g16:an:=[]
def TL:cH:=⟨[zw,.bc,x4,i 1099511627775],fN (cQ gl [pU,x5,vm,zr,zu,lD,wD,x3,zx,x0,x1,x0,x1]),.cw [i 1,.sl 19 0 2 .none 5,i 0],[x42,R9,Sa]⟩
def aap:Tr (List cH):=iu aao 38 TL
def g17:an:=[1034,1025,1032]
def TM:cH:=⟨[JT,.bc,.sl 13 0 1 (.some 1) 3,.agg [i 0,i 0,i 0,i 1099511627776,.sl 14 0 1 .none 3]],fN (cQ gl [x3,JV,x0,x1,lD,x0,x1,([i 0,.bc,.bc],70),R9]),.cw [.sl 15 0 2 .none 3,.bc,i 0],[Sf,([i 0,i 1099511627776,i 0,i 0],111),([i 0,i 1099511627776],113)]⟩
def aaq:Tr (List cH):=iu aap 78 TM
def g18:an:=[138,134,122]
def TN:cH:=⟨[JT,.sl 13 0 1 .none 5,.sl 15 0 2 .none 3,.agg [i 0,i 1,i 0,i 1099511627776,.sl 18 0 1 .none 3]],fN (cQ gl [x3,JV,x0,x1,lD,x0,x1,([i 0,i 0,i 0,i 1099511627776,.sl 14 0 1 .none 3],107),R9,Sf,([i 0,i 1099511627776,i 0,i 0],111),([i 0,i 1099511627776],113),Sa]),.cw [.sl 19 0 3 .none 3,.sl 22 0 1 .none 1,i 0],[x43,([i 0,i 1099511627776,i 0,i 1],111),([i 0,i 1099511627776],113),([.sl 23 0 2 .none 4],311),([i 0,i 1099511627776,i 0,i 0,i 1,i 1099511627776,i 0,i 1],111)]⟩
def aat:Tr (List cH):=iu aaq 78 TN
def g19:an:=[182,161,149,281,277]
def TO:cH:=⟨[zw,.bc,x4,i 1099511627775,.sl 19 0 2 .none 5],fN (cQ gl [pU,x5,vm,zr,zu,lD,wD,x3,zx,x0,x1,x0,x1,x42,R9,Sa]),i 0,[]⟩
def aau:Tr (List cH):=iu aat 39 TO
def g20:an:=[]
def TP:cH:=⟨[x17,.sl 9 0 6 .none 8,.ptr 17 0],fN (cQ gl [pU,x5,x9,x50,([i 0,.bc,i 0,i 0,i 0,i 0,i 1099511627776,.str [],i 2,.bc,i 0,i 0,i 0,i 0,i 0,.str []],30),x40,Sg,x34,lD,x41,Sh,x20]),i 0,[]⟩
def aav:Tr (List cH):=iu aau 273 TP
def g21:an:=[]
def TQ:cH:=⟨[.agg [i 5,.sl 6 0 13 .none 3],.ptr 7 0,.bc,.bc],fN (cQ gl [([i 1,i 0,i 1099511627776,i 0,i 1,i 0,i 2,i 0,i 1099511627776,i 0,i 2,i 0,i 3,i 0,i 1099511627776,i 0,i 3,i 1099511627776,i 4,i 0,i 1099511627776,i 0,i 4,i 1099511627776,i 0,i 1,i (.negSucc 1099511627776),i 0,i 0,i 5,i 1,i 2,i 0,i 3,i 4,i (.negSucc 0),i 2,i 1,i 5],511),([i 5,.sl 6 0 13 .none 3],465)]),.cw [.bc,.sl 8 0 2 .none 1],[([i 0,i 8],3)]⟩
def aaw:Tr (List cH):=iu aav 457 TQ
def g22:an:=[106]
def TR:cH:=⟨[zw,.bc,x4,i 1099511627776],fN (cQ gl [pU,x5,vm,zr,zu,lD,wD,x3,zx,x0,x1,x0,x1]),.cw [i 2,.bc,i 0],[]⟩
def aax:Tr (List cH):=iu aaw 38 TR
def g23:an:=[]
def TS:cH:=⟨[Sc,.sl 9 0 3 .none 8,.ptr 13 0],fN (cQ gl [pU,x5,([.str [],i 0],101),Sj,x35,x36,Si,Sd]),i 0,[]⟩
def aay:Tr (List cH):=iu aax 273 TS
def g24:an:=[]
def TT:cH:=⟨[zw,.sl 19 0 1 (.some 1) 5,JU,i 3],fN (cQ gl [pU,x5,vm,zr,zu,lD,wD,x3,zx,x0,x1,x0,x1,JS,x6,x8,x2]),.cw [i 1,.sl 23 0 1 .none 5,i 0],[Sb,x7]⟩
def aaz:Tr (List cH):=iu aay 38 TT
def g25:an:=[733,731]
def TU:cH:=⟨[JT,.sl 13 0 1 .none 5,.sl 15 0 1 (.some 1) 3,.agg [i 0,i 1,i 0,i 8,.sl 18 0 1 .none 3]],fN (cQ gl [x3,JV,x0,x1,lD,x0,x1,([i 0,i 0,i 0,i 3,.sl 14 0 1 (.some 1) 3],107),x6,([i 1,.sl 16 0 1 (.some 1) 4,.sl 17 0 1 (.some 1) 2],70),x8,x2,x7]),.cw [.sl 19 0 1 .none 3,.sl 20 0 1 .none 1,i 0],[([i 1,.sl 16 0 1 (.some 1) 4,.sl 17 0 1 (.some 1) 2],70),([.sl 21 0 2 .none 4],311),([i 0,i 3,i 0,i 0,i 1,i 8,i 0,i 1],111)]⟩
def aaA:Tr (List cH):=iu aaz 78 TU
def g26:an:=[112,211,207]
def TV:cH:=⟨[zw,.sl 19 0 1 (.some 1) 5,JU,i 3,.sl 23 0 1 .none 5],fN (cQ gl [pU,x5,vm,zr,zu,lD,wD,x3,zx,x0,x1,x0,x1,JS,x6,x8,x2,Sb,x7]),i 0,[]⟩
def aaB:Tr (List cH):=iu aaA 39 TV
def g27:an:=[]
def TW:cH:=⟨[Sc,.sl 9 0 3 .none 8,.ptr 13 0],fN (cQ gl [pU,x5,([.str [],i 0],101),Sj,([i 0,.bc,i 0,i 0,i 0,i 0,i 7,.str [],i 2,.bc,i 0,i 0,i 0,i 0,i 0,.str []],30),x36,Si,Sd]),i 0,[]⟩
def aaC:Tr (List cH):=iu aaB 273 TW
def g28:an:=[]
def TX:cH:=⟨[zw,.sl 19 0 1 (.some 1) 5,JU,i 7],fN (cQ gl [pU,x5,vm,zr,zu,lD,wD,x3,zx,x0,x1,x0,x1,JS,x6,x8,x2]),.cw [i 1,.sl 23 0 1 .none 5,i 0],[Sb,x7]⟩
def aaE:Tr (List cH):=iu aaC 38 TX
def g29:an:=[733,731]
def TY:cH:=⟨[zw,.sl 19 0 1 (.some 1) 5,JU,i 7,.sl 23 0 1 .none 5],fN (cQ gl [pU,x5,vm,zr,zu,lD,wD,x3,zx,x0,x1,x0,x1,JS,x6,x8,x2,Sb,x7]),i 0,[]⟩
def aaF:Tr (List cH):=iu aaE 39 TY
def g30:an:=[]
def TZ:cH:=⟨[Sc,.sl 9 0 3 .none 8,.ptr 13 0],fN (cQ gl [pU,x5,([.str [],i 0],101),Sj,([i 0,.bc,i 0,i 0,i 0,i 0,i 8,.str [],i 2,.bc,i 0,i 0,i 0,i 0,i 0,.str []],30),x36,Si,Sd]),i 0,[]⟩
def aaG:Tr (List cH):=iu aaF 273 TZ
def g31:an:=[]
def T0:cH:=⟨[zw,.sl 19 0 1 (.some 1) 5,JU,i 8],fN (cQ gl [pU,x5,vm,zr,zu,lD,wD,x3,zx,x0,x1,x0,x1,JS,x6,x8,x2]),.cw [i 2,.bc,i 0],[]⟩
def aaH:Tr (List cH):=iu aaG 38 T0
def g32:an:=[]
def T1:cH:=⟨[Sc,.sl 9 0 3 .none 8,.ptr 13 0],fN (cQ gl [pU,x5,([.str [],i 0],101),Sj,x35,([i 0,.bc,i 0,i 0,i 0,i 0,i 1099511627776,.str [],i 1,.bc,i 0,i 0,i 0,i 0,i 0,.str []],30),Si,Sd]),i 0,[]⟩
def aaI:Tr (List cH):=iu aaH 273 T1
def g33:an:=[]
def T2:cH:=⟨[zw,.sl 19 0 1 (.some 1) 5,JU,i 3],fN (cQ gl [pU,x5,vm,zr,zu,lD,wD,x3,zx,x0,x1,x0,x1,JS,Sa,x8,x2]),.cw [i 2,.bc,i 0],[]⟩
def aaJ:Tr (List cH):=iu aaI 38 T2
def g34:an:=[]
def CW:cH:=⟨[],fN (cQ gl []),.bool V,[]⟩
def akh:Tr (List cH):=iu aaJ 6 CW
def g35:an:=[]
theorem k0:entry PP (AM.run PP (ig 6 3000 RR gX) 1000000) 188 e0 g0=V:=aI
theorem k1:entry PP (AM.run PP (ig 6 3000 tb1 gX) 1000000) 118 e1 g1=V:=aI
theorem k2:entry PP (AM.run PP (ig 6 3000 tb2 gX) 1000000) 59 e2 g2=V:=aI
theorem k3:entry PP (AM.run PP (ig 6 3000 tb3 gX) 1000000) 106 e3 g3=V:=aI
theorem k4:entry PP (AM.run PP (ig 6 3000 tb4 gX) 1000000) 109 e4 g4=V:=aI
theorem k5:entry PP (AM.run PP (ig 6 3000 tb5 gX) 1000000) 47 e5 g5=V:=aI
theorem k6:entry PP (AM.run PP (ig 6 3000 tb6 gX) 1000000) 117 e6 g6=V:=aI
theorem k7:entry PP (AM.run PP (ig 6 3000 tb7 gX) 1000000) 47 e7 g7=V:=aI
theorem k8:entry PP (AM.run PP (ig 6 3000 tb8 gX) 1000000) 22 e8 g8=V:=aI
theorem k9:entry PP (AM.run PP (ig 6 3000 tb9 gX) 1000000) 115 e9 g9=V:=aI
theorem V7:entry PP (AM.run PP (ig 6 3000 aah gX) 1000000) 115 ux g10=V:=aI
theorem k11:entry PP (AM.run PP (ig 6 3000 aai gX) 1000000) 273 tA g11=V:=aI
theorem k12:entry PP (AM.run PP (ig 6 3000 aaj gX) 1000000) 38 TG g12=V:=aI
theorem k13:entry PP (AM.run PP (ig 6 3000 aak gX) 1000000) 78 TH g13=V:=aI
theorem k14:entry PP (AM.run PP (ig 6 3000 aal gX) 1000000) 78 TI g14=V:=aI
theorem k15:entry PP (AM.run PP (ig 6 3000 aam gX) 1000000) 39 TJ g15=V:=aI
theorem k16:entry PP (AM.run PP (ig 6 3000 aan gX) 1000000) 273 TK g16=V:=aI
theorem k17:entry PP (AM.run PP (ig 6 3000 aao gX) 1000000) 38 TL g17=V:=aI
theorem k18:entry PP (AM.run PP (ig 6 3000 aap gX) 1000000) 78 TM g18=V:=aI
theorem k19:entry PP (AM.run PP (ig 6 3000 aaq gX) 1000000) 78 TN g19=V:=aI
theorem k20:entry PP (AM.run PP (ig 6 3000 aat gX) 1000000) 39 TO g20=V:=aI
theorem k21:entry PP (AM.run PP (ig 6 3000 aau gX) 1000000) 273 TP g21=V:=aI
theorem k22:entry PP (AM.run PP (ig 6 3000 aav gX) 1000000) 457 TQ g22=V:=aI
theorem k23:entry PP (AM.run PP (ig 6 3000 aaw gX) 1000000) 38 TR g23=V:=aI
theorem k24:entry PP (AM.run PP (ig 6 3000 aax gX) 1000000) 273 TS g24=V:=aI
theorem k25:entry PP (AM.run PP (ig 6 3000 aay gX) 1000000) 38 TT g25=V:=aI
theorem k26:entry PP (AM.run PP (ig 6 3000 aaz gX) 1000000) 78 TU g26=V:=aI
theorem k27:entry PP (AM.run PP (ig 6 3000 aaA gX) 1000000) 39 TV g27=V:=aI
theorem k28:entry PP (AM.run PP (ig 6 3000 aaB gX) 1000000) 273 TW g28=V:=aI
theorem k29:entry PP (AM.run PP (ig 6 3000 aaC gX) 1000000) 38 TX g29=V:=aI
theorem k30:entry PP (AM.run PP (ig 6 3000 aaE gX) 1000000) 39 TY g30=V:=aI
theorem k31:entry PP (AM.run PP (ig 6 3000 aaF gX) 1000000) 273 TZ g31=V:=aI
theorem k32:entry PP (AM.run PP (ig 6 3000 aaG gX) 1000000) 38 T0 g32=V:=aI
theorem k33:entry PP (AM.run PP (ig 6 3000 aaH gX) 1000000) 273 T1 g33=V:=aI
theorem k34:entry PP (AM.run PP (ig 6 3000 aaI gX) 1000000) 38 T2 g34=V:=aI
end Go.AM
