/- Part of a proof, joined by a program. -/
import Derived.Test.YtakpkjhmbbfniaaGreatU02
set_option linter.unusedVariables false
set_option linter.unusedSimpArgs false
set_option linter.defProp false
set_option linter.constructorNameAsVariable false
set_option maxHeartbeats 8000000
set_option maxRecDepth 100000
namespace Go.Proofs.YtakpkjhmbbfniaaGreat
open Go.Vc
section
variable{m:I}{R:Value->I->Prop}
def zO(h:O):=cT m R ⟨[(3,[(3,.S),(4,.I)])],[],[]⟩ [cS h] Tryz.func75
def vW(aY:O):=cT m R ⟨[(4,[(14,.I)]),(9,[(56,.I)]),(15,[(76,.I)])],[(8,[])],[(8,[110]),(9,[110]),(15,[110])]⟩ [cS aY] Tryz.func76
def zw(aY a:O):=cT m R ⟨[(2,[(9,.I)])],[],[]⟩ [cS aY,cS a] Tryz.func77
def De(aY:O)(t:Int):=cT m R A0 [cS aY,cI t] Tryz.func78
def zA(aY:O):=cT m R ⟨[(3,[(3,.I),(8,.I)])],[],[]⟩ [cS aY] Tryz.func79
def Dc(aY:O)(t:Int):=cT m R ⟨[(6,[(6,.S),(28,.I)])],[],[]⟩ [cS aY,cI t] Tryz.func80
def zB(aY:O)(c:Int):=cT m R A0 [cS aY,cI c] Tryz.func81
def xw(h:O)(w:Int):=cT m R A0 [cS h,cI w] Tryz.func82
def BE(a:O):=cT m R ⟨[(2,[(3,.I)])],[],[]⟩ [cS a] Tryz.func83
def DQ(h:O)(w:Int):=cT m R A0 [cS h,cI w] Tryz.func84
def DO(h:O)(w:Int):=cT m R A0 [cS h,cI w] Tryz.func85
def xJ(a dg:O):=cT m R ⟨[(2,[(5,.I)])],[],[]⟩ [cS a,cS dg] Tryz.func86
def xS(aY:O):=cT m R ⟨[(3,[(3,.S),(4,.I)]),(7,[(5,.S),(6,.I)])],[],[]⟩ [cS aY] Tryz.func87
def vh(first a:Int):=cT m R ⟨[(3,[(5,.S),(6,.I)])],[],[]⟩ [cI first,cI a] Tryz.func88
def tm(e:Nat×Nat)(c d a:O)(b:Int)(cons first:O):=cT m R ⟨[(2,[(3,.S),(4,.S),(10,.I)])],[(17,[])],[(2,[104,103]),(17,[108,104,103])]⟩ [cP e,.agg [.s c,.s d],.agg [.s a,.i b],cS cons,cS first] Tryz.func89
def uW(e:Nat×Nat)(a b c d:Int)(f g:O):=cT m R A0 [cP e,.agg [.i a,.i b,.i c,.i d,.s f,.s g]] Tryz.func90
def DU(cG:O)(a:Int):=cT m R ⟨[(3,[(5,.I),(6,.I)]),(7,[(5,.I),(7,.I)])],[],[]⟩ [cS cG,cI a] Tryz.func91
def uU(r:Nat×Nat):=cT m R A0 [cP r] Tryz.func92
end
section
variable{m:I}{R:Value->I->Prop}
def Hd(r:Nat×Nat)(a b:O):=cT m R ⟨[(9,[(10,.S),(11,.I)])],[],[(9,[108,106,105])]⟩ [cP r,.agg [.s a,.s b]] Tryz.func93
def xP(a b:O):=cT m R ⟨[(3,[(4,.I)])],[],[(3,[38,37])]⟩ [.agg [.s a,.s b]] Tryz.func94
def vo(a b:O):=cT m R ⟨[(3,[(4,.I)])],[],[(3,[40,39])]⟩ [.agg [.s a,.s b]] Tryz.func95
def DW(a b:O):=cT m R ⟨[(3,[(4,.I)])],[],[(3,[40,39])]⟩ [.agg [.s a,.s b]] Tryz.func96
def Aw(cG:O):=cT m R ⟨[(3,[(3,.S),(4,.I)])],[],[]⟩ [cS cG] Tryz.func97
def pF(a b c d:Int)(e f:O):=cT m R A0 [.agg [.i a,.i b,.i c,.i d,.s e,.s f]] Tryz.func98
def Hw(a:Int):=cT m R A0 [cI a] Tryz.func99
def yd(r:Nat×Nat):=cT m R A0 [cP r] Tryz.func100
def Jd(aI:O):=cT m R A0 [cS aI] Tryz.func101
def yN(aY:O)(a:Int):=cT m R ⟨[(6,[(6,.I)]),(12,[(7,.I)])],[],[(6,[105]),(12,[105])]⟩ [cS aY,cI a] Tryz.func102
def BL(aY:O)(c:Int):=cT m R ⟨[(2,[(5,.I)])],[],[]⟩ [cS aY,cI c] Tryz.func103
def pD(aY:O)(c:Int):=cT m R A0 [cS aY,cI c] Tryz.func104
def Al(b c:O)(bJ a fx:Int):=cT m R A0 [.agg [.s b,.s c],cI bJ,cI a,cI fx] Tryz.func105
def sN(aY:O)(t:Int):=cT m R ⟨[(5,[(5,.S),(6,.I)])],[],[]⟩ [cS aY,cI t] Tryz.func106
def wJ(c:O)(d a b:Int):=cT m R ⟨[(4,[(9,.I)])],[],[]⟩ [cS c,cI d,cI a,cI b] Tryz.func107
def FT(n:Int):=cT m R A0 [cI n] Tryz.func108
def DN(a:Int):=cT m R A0 [cI a] Tryz.func109
def Aj(a b c:Int)(d e f dp:O):=cT m R ⟨[(3,[(6,.I)])],[],[(3,[42])]⟩ [.agg [.i a,.i b,.i c,.s d,.s e,.s f],cS dp] Tryz.func110
end
section
variable{m:I}{R:Value->I->Prop}
def Co(g h:O)(a b c d:Int)(e f:O):=cT m R ⟨[(4,[(5,.S),(6,.I)])],[(3,[(30,.T)])],[(3,[70,69]),(4,[70,69])]⟩ [.agg [.s g,.s h],.agg [.i a,.i b,.i c,.i d,.s e,.s f]] Tryz.func111
def sq(n:Nat×Nat)(a b c:Int)(d e f:O)(g h i j:Int)(k l aV:O):=cT m R ⟨[],[(3,[])],[(3,[226,225])]⟩ [cP n,.agg [.i a,.i b,.i c,.s d,.s e,.s f],.agg [.i g,.i h,.i i,.i j,.s k,.s l],cS aV] Tryz.func112
def rD(n:Nat×Nat)(a b c:Int)(d e f:O)(g h i j:Int)(k l:O):=cT m R A0 [cP n,.agg [.i a,.i b,.i c,.s d,.s e,.s f],.agg [.i g,.i h,.i i,.i j,.s k,.s l]] Tryz.func113
def EJ(aY:O)(c:Int):=cT m R ⟨[(2,[(1,.I),(10,.I)])],[],[(2,[43])]⟩ [cS aY,cI c] Tryz.func114
def sg(e:Nat×Nat)(a b:O)(c d f:Int)(g h cons first:O):=cT m R ⟨[(17,[(16,.S),(17,.S),(18,.I)]),(22,[(20,.I)]),(33,[(23,.I)])],[],[(17,[215,214]),(22,[215,214]),(33,[215,214])]⟩ [cP e,.agg [.s a,.s b],.agg [.i c,.i d,.i f,.s g,.s h],cS cons,cS first] Tryz.func115
def sQ(a fx:O):=cT m R A0 [cS a,cS fx] Tryz.func116
def zY(a:O)(first:Int):=cT m R ⟨[(3,[(5,.S),(6,.I)])],[],[]⟩ [cS a,cI first] Tryz.func117
def BO(a:Int):=cT m R A0 [cI a] Tryz.func118
def yC(r:Nat×Nat):=cT m R A0 [cP r] Tryz.func119
def BN(a b:O):=cT m R ⟨[(3,[(4,.I)])],[],[(3,[38,37])]⟩ [.agg [.s a,.s b]] Tryz.func120
def Hj(a b:O):=cT m R ⟨[(3,[(4,.I)])],[],[(3,[41,40])]⟩ [.agg [.s a,.s b]] Tryz.func121
def uZ(a b:O)(f k:Int):=cT m R ⟨[(5,[(9,.I)])],[],[(5,[67])]⟩ [.agg [.s a,.s b],cI f,cI k] Tryz.func122
def ug(l:Nat×Nat)(v:Int):=cT m R ⟨[(1,[(1,.I)])],[],[]⟩ [cP l,cI v] Tryz.func123
def Ci(b:O)(c a d e f:Int)(g h:O):=cT m R A0 [.agg [.s b,.i c],cI a,.agg [.i d,.i e,.i f,.s g,.s h]] Tryz.func124
def zS(a v:Int):=cT m R A0 [cI a,cI v] Tryz.func125
def vv(c d:O)(f:Int)(a:O)(b:Int):=cT m R A0 [.agg [.s c,.s d],cI f,.agg [.s a,.i b]] Tryz.func126
def Ay(c d:O)(e:Int)(f:O)(g:Int)(a:O)(b:Int):=cT m R A0 [.agg [.s c,.s d,.i e,.s f,.i g],.agg [.s a,.i b]] Tryz.func127
def uT(a:O)(b:Int):=cT m R ⟨[(4,[(3,.S),(4,.S),(5,.I)]),(13,[(7,.S),(8,.I)])],[],[(4,[74,73]),(13,[78,74,73])]⟩ [.agg [.s a,.i b]] Tryz.func128
end
section
variable{m:I}{R:Value->I->Prop}
def uv(d e a:O)(b c:Int):=cT m R ⟨[(3,[(2,.I),(8,.I)]),(9,[(10,.S),(12,.I)])],[],[(3,[113,111,110]),(9,[116,113,111,110])]⟩ [.agg [.s d,.s e],.agg [.s a,.i b],cI c] Tryz.func129
def wB(c d a:O)(b:Int)(ju:O):=cT m R ⟨[(3,[(8,.I)]),(8,[(10,.S),(11,.I)])],[],[(3,[67,65,64]),(8,[70,67,65,64])]⟩ [.agg [.s c,.s d],.agg [.s a,.i b],cS ju] Tryz.func130
def yF(cG:O)(a Oj:Int):=cT m R ⟨[(1,[(1,.I),(2,.I)])],[],[]⟩ [cS cG,cI a,cI Oj] Tryz.func131
def zV(aY:O)(a:Int):=cT m R ⟨[(3,[(5,.I),(6,.I)])],[],[]⟩ [cS aY,cI a] Tryz.func132
def qb(a:Int):=cT m R A0 [cI a] Tryz.func133
def Ca(g h:O)(a b c d:Int)(e f:O)(k:Int):=cT m R A0 [.agg [.s g,.s h],.agg [.i a,.i b,.i c,.i d,.s e,.s f],cI k] Tryz.func134
def uq(a:O):=cT m R ⟨[(2,[(3,.I)])],[],[]⟩ [cS a] Tryz.func135
def wc(a b c:Int)(d e f:O)(g h i j:Int)(k l:O):=cT m R ⟨[(2,[(5,.I)])],[],[(2,[26,25])]⟩ [.agg [.i a,.i b,.i c,.s d,.s e,.s f],.agg [.i g,.i h,.i i,.i j,.s k,.s l]] Tryz.func136
def qE(n:Nat×Nat)(a b c:Int)(d e f:O)(g h i j:Int)(k l:O):=cT m R A0 [cP n,.agg [.i a,.i b,.i c,.s d,.s e,.s f],.agg [.i g,.i h,.i i,.i j,.s k,.s l]] Tryz.func137
def qC(n:Nat×Nat)(a b c:Int)(d e f:O)(g h i j:Int)(k l:O):=cT m R ⟨[(2,[(7,.I)])],[],[(2,[51,50])]⟩ [cP n,.agg [.i a,.i b,.i c,.s d,.s e,.s f],.agg [.i g,.i h,.i i,.i j,.s k,.s l]] Tryz.func138
def qD(a:Nat×Nat)(w:Int):=cT m R A0 [cP a,cI w] Tryz.func139
def sk(a:Nat×Nat)(w:Int):=cT m R A0 [cP a,cI w] Tryz.func140
def rC(n:Nat×Nat)(a b c:Int)(d e f:O)(g h i j:Int)(k l:O):=cT m R A0 [cP n,.agg [.i a,.i b,.i c,.s d,.s e,.s f],.agg [.i g,.i h,.i i,.i j,.s k,.s l]] Tryz.func141
def Hf(a:O)(n:Int):=cT m R ⟨[(2,[(5,.I)])],[],[]⟩ [cS a,cI n] Tryz.func142
def sB(a:Nat×Nat)(r w:Int):=cT m R A0 [cP a,cI r,cI w] Tryz.func143
def Ht(c a b:Int):=cT m R A0 [cI c,cI a,cI b] Tryz.func144
def pU(n:Nat×Nat)(a b c:Int)(d e f:O)(g h i j:Int)(k l:O)(lA:Int):=cT m R ⟨[],[(5,[(8,.I)])],[(5,[75,74])]⟩ [cP n,.agg [.i a,.i b,.i c,.s d,.s e,.s f],.agg [.i g,.i h,.i i,.i j,.s k,.s l],cI lA] Tryz.func145
def zN(aY:O):=cT m R ⟨[(3,[(3,.I),(4,.I)])],[],[]⟩ [cS aY] Tryz.func146
end
end Go.Proofs.YtakpkjhmbbfniaaGreat
