/- Proved: closed facts of the row (a part of the proof of FeasiblePlansUptoCardSaid, whose theorem stands in the last text). -/
import Derived.Test.YtilblajffdkccaaGreatDoorCards
import Derived.Test.YtilblajffdkccaaGreatDoorTie
import Derived.Test.YtilblajffdkccaaGreatDoorAa
open Option renaming some->J,none->Z
open Bool renaming true->V,false->C
open Bool renaming noConfusion->mK
open Go renaming TypeId->al,Value->aB,Oper->aC,Operand->aH,Program->aM,World->aT,Code->bz,FuncId->bS,Frame->cZ,lone->eT,IntKind->gZ,MapEntry->kZ
open Go.Builtin renaming zeroCells->nR,firstCells->oE,append_->s8,copy_->zF
open Go.Lib renaming compact->tb
open Go.Op renaming operands->eB,mapUpdate->rC
open Go.Proofs.Tryz renaming prog->eS
open Go.Region renaming binds->uq
open Go.stepG renaming exec->ug
open Int renaming ofNat->dI,sub->nS
open List renaming rec->kG,append->qA
open Nat renaming beq->aw,ble->bV,blt->cM,succ->eU,add->im,mul->jD
open SizeOf renaming sizeOf->kb
open UInt8 renaming toNat->nU
noncomputable section
set_option linter.all false
namespace Go.Proofs.YtilblajffdkccaaGreatDoor.fp
set_option maxRecDepth 100000
def cl3:List bS:=[3,4,12,13,33,34,74,35,17,36,37,14,15,5,16,6,18,19,27,59,118,173,241,188,257,242,316,317,258,327,83,158,159,160,233,234,235,287,353,310,121,328,174,183,249,321,322,382,383,439,440,474,475,496,504,441,384,442,323,385,324,386,387,443,388,318,370,444,476,389,184,254,255,326,253,251,252,123,122,124,250,325,105,119,185,186,187,256,120,189,20,38,75,9,26,49,50,97,166,238,239,167,48,96,51,52,98,99,168,240,315,366,432,367,368,369,433,100,169,101,102,53,54,103,170,171,172,104,106,107,175,115,180,245,246,108,109,177,179,244,247,320,380,381,319,371,377,288,372,434,373,435,436,374,437,438,473,375,376,378,379,248,181,182,178,161,236,176,243,47,55,56,110,111,57,58,112,113,114,116,117,28,60,61,62,63,64,65,144,209,152,22,40,80,82,81,157,41,85,84,86,162,87,221,289,149,217,219,218,290,222,153,223,146,216,286,211,272,220,210,151,76,23,42,88,89,91,90,163,92,145,212,214,278,279,277,280,281,349,282,350,401,402,404,403,462,351,352,405,406,407,283,284,285,213,273,338,393,445,339,275,341,274,340,342,343,345,344,276,346,394,446,447,459,451,460,482,448,449,477,395,450,398,458,453,452,454,455,396,397,456,478,457,479,497,505,506,480,481,498,347,348,400,399,461,483,499,507,508,512,513,509,510,514,515,523,524,215,39,77,147,148,150,79,156,78,154,224,226,227,293,292,354,225,291,155,228,294,295,296,297,355,408,463,484,485,486,487,409,488,489,490,491,464,492,500,501,502,511,516,517,525,519,521,520,526,529,530,531,532,533,528,518,522,527,298,356,357,410,411,412,413,465,466,493,503,358,415,414,359,360,362,361,363,229,299,364,416,417,467,418,419,468,469,494,420,421,422,423,301,300,230,232,307,308,309,302,303,231,304,365,424,425,470,426,427,471,472,495,428,429,430,431,306,305,21,7,8,24,43,44,93,164,237,311,312,313,314,45,94,165,25,46,95,10,29,66,125,190,259,191,126,67,127,128,192,129,68,130,131,193,204,268,331,194,195,196,332,333,142,260,132,133,136,199,200,264,265,330,266,134,197,261,262,329,267,263,201,202,198,69,135,70,137,30,71,138,140,205,269,270,143,207,208,206,271,334,390,335,336,337,391,392,203,139,141,31,72,73,11,32]
abbrev fh:OpenClaim:=Rows.feasiblePlansUptoRow
abbrev qu:ChangeSpec:=(Rows.OpenSpec.upto Rows.feasiblePlansSpec).bare
theorem OK:Tryz.prog.closure 3=cl3:=aI
end Go.Proofs.YtilblajffdkccaaGreatDoor.fp
