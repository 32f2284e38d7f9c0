/- Part of a proof, joined by a program. -/
import Derived.Test.YtgnjacfobdjeeaaGreatO02
set_option linter.unusedVariables false
set_option linter.unusedSimpArgs false
set_option linter.defProp false
set_option linter.constructorNameAsVariable false
set_option maxHeartbeats 8000000
set_option maxRecDepth 100000
namespace Go.Proofs.YtgnjacfobdjeeaaGreat
open Go.Vc
section
variable{m:I}{R:Value->I->Prop}
def wK(b c d e:O)(f g:Int)(h:O)(a:Int):=cQ m R ⟨[(4,[(9,.I)])],[(10,[])],[(4,[241,238,237]),(10,[241,238,237])]⟩ [.agg [.s b,.s c],.agg [.s d,.s e,.i f,.i g,.s h],cI a] Tryz.func113
def BT(c d:O)(a b:Int)(dh aW:O):=cQ m R A0 [.agg [.s c,.s d],cI a,cI b,cS dh,cS aW] Tryz.func114
def qH(r:Nat×Nat)(a:O):=cQ m R A0 [cP r,cS a] Tryz.func115
def xX(a b c d:Int)(e f g:O):=cQ m R ⟨[(3,[(4,.I)])],[(2,[(3,.P)])],[(2,[58,57]),(3,[58,57])]⟩ [.agg [.i a,.i b,.i c,.i d,.s e,.s f,.s g]] Tryz.func116
def yP(h:O)(a b:Int)(c:O):=cQ m R ⟨[(6,[(5,.I)])],[],[(6,[59])]⟩ [cS h,.agg [.i a,.i b,.s c]] Tryz.func117
def DU(h:O):=cQ m R ⟨[(3,[(4,.I)]),(6,[(5,.I)])],[],[]⟩ [cS h] Tryz.func118
def yo(h:O):=cQ m R ⟨[(4,[(4,.I),(5,.T)]),(7,[(4,.I),(5,.T),(6,.I)])],[],[]⟩ [cS h] Tryz.func119
def yV(h:O)(a b c:Int)(d e f:O):=cQ m R ⟨[(2,[(5,.I)])],[],[(2,[53])]⟩ [cS h,.agg [.i a,.i b,.i c,.s d,.s e,.s f]] Tryz.func120
def yr(w:Int):=cQ m R A0 [cI w] Tryz.func121
def xp(h:O)(a b:Int)(c:O):=cQ m R ⟨[(6,[(48,.I)])],[(5,[])],[(5,[69]),(6,[69])]⟩ [cS h,.agg [.i a,.i b,.s c]] Tryz.func122
def Dh(h:O)(w:Int):=cQ m R A0 [cS h,cI w] Tryz.func123
def oP(s:O)(f:Fn×Array Value×Array Value):=cQ m R ⟨[(2,[(8,.I)])],[],[]⟩ [cS s,.c (.fv f)] Tryz.func124
def DO(a:Int):=cQ m R A0 [cI a] Tryz.func125
def Am(a b c:Int)(d e f dp:O):=cQ m R ⟨[(3,[(6,.I)])],[],[(3,[42])]⟩ [.agg [.i a,.i b,.i c,.s d,.s e,.s f],cS dp] Tryz.func126
def Cp(g h:O)(a b c d:Int)(e f:O):=cQ m R ⟨[(4,[(5,.S),(6,.I)])],[(3,[(30,.T)])],[(3,[70,69]),(4,[70,69])]⟩ [.agg [.s g,.s h],.agg [.i a,.i b,.i c,.i d,.s e,.s f]] Tryz.func127
def se(n:Nat×Nat)(a b c:Int)(d e f:O)(g h i j:Int)(k l aW:O):=cQ m R ⟨[],[(3,[])],[(3,[226,225])]⟩ [cP n,.agg [.i a,.i b,.i c,.s d,.s e,.s f],.agg [.i g,.i h,.i i,.i j,.s k,.s l],cS aW] Tryz.func128
def rB(n:Nat×Nat)(a b c:Int)(d e f:O)(g h i j:Int)(k l:O):=cQ m R A0 [cP n,.agg [.i a,.i b,.i c,.s d,.s e,.s f],.agg [.i g,.i h,.i i,.i j,.s k,.s l]] Tryz.func129
end
section
variable{m:I}{R:Value->I->Prop}
def BR(a b:O):=cQ m R ⟨[(3,[(4,.I)])],[],[(3,[75,74])]⟩ [.agg [.s a,.s b]] Tryz.func133
def tZ(r:Nat×Nat):=cQ m R ⟨[],[(4,[]),(6,[]),(9,[]),(11,[])],[(4,[37]),(6,[37]),(9,[37]),(11,[37])]⟩ [cP r] Tryz.func134
def yN(a b:O):=cQ m R ⟨[(3,[(4,.I)])],[],[(3,[45,44])]⟩ [.agg [.s a,.s b]] Tryz.func135
def xW(a b:O):=cQ m R ⟨[(3,[(4,.I)]),(8,[(6,.S),(7,.I)])],[],[(3,[62,61]),(8,[65,62,61])]⟩ [.agg [.s a,.s b]] Tryz.func136
def xP(r:Nat×Nat)(a b c d:Int)(e f:O):=cQ m R A0 [cP r,.agg [.i a,.i b,.i c,.i d,.s e,.s f]] Tryz.func137
def zI(r:Nat×Nat):=cQ m R A0 [cP r] Tryz.func138
def wF(r:Nat×Nat)(a b c d:Int)(e f:O):=cQ m R A0 [cP r,.agg [.i a,.i b,.i c,.i d,.s e,.s f]] Tryz.func139
def vX(aT:O):=cQ m R ⟨[(4,[(14,.I)]),(9,[(56,.I)]),(15,[(76,.I)])],[(8,[])],[(8,[110]),(9,[110]),(15,[110])]⟩ [cS aT] Tryz.func140
def zB(aT a:O):=cQ m R ⟨[(2,[(9,.I)])],[],[]⟩ [cS aT,cS a] Tryz.func141
def Dg(aT:O)(t:Int):=cQ m R A0 [cS aT,cI t] Tryz.func142
def zD(aT:O)(c:Int):=cQ m R A0 [cS aT,cI c] Tryz.func143
end
section
variable{m:I}{R:Value->I->Prop}
def yQ(aT:O)(a:Int):=cQ m R ⟨[(6,[(6,.I)]),(12,[(7,.I)])],[],[(6,[105]),(12,[105])]⟩ [cS aT,cI a] Tryz.func152
def HJ(a:Int):=cQ m R A0 [cI a] Tryz.func153
def BM(aT:O)(c:Int):=cQ m R ⟨[(2,[(5,.I)])],[],[]⟩ [cS aT,cI c] Tryz.func154
def pD(aT:O)(c:Int):=cQ m R A0 [cS aT,cI c] Tryz.func155
def Ao(b c:O)(bL a fw:Int):=cQ m R A0 [.agg [.s b,.s c],cI bL,cI a,cI fw] Tryz.func156
def sM(aT:O)(t:Int):=cQ m R ⟨[(5,[(5,.S),(6,.I)])],[],[]⟩ [cS aT,cI t] Tryz.func157
def wL(c:O)(d a b:Int):=cQ m R ⟨[(4,[(9,.I)])],[],[]⟩ [cS c,cI d,cI a,cI b] Tryz.func158
def FW(n:Int):=cQ m R A0 [cI n] Tryz.func159
def zR(h:O):=cQ m R ⟨[(3,[(3,.S),(4,.I)])],[],[]⟩ [cS h] Tryz.func160
def BG(a:O):=cQ m R ⟨[(2,[(3,.I)])],[],[]⟩ [cS a] Tryz.func161
def DR(h:O)(w:Int):=cQ m R A0 [cS h,cI w] Tryz.func162
def DP(h:O)(w:Int):=cQ m R A0 [cS h,cI w] Tryz.func163
def xN(a dh:O):=cQ m R ⟨[(2,[(5,.I)])],[],[]⟩ [cS a,cS dh] Tryz.func164
def xy(h:O)(w:Int):=cQ m R A0 [cS h,cI w] Tryz.func165
def qj(a:Int):=cQ m R A0 [cI a] Tryz.func166
end
section
variable{m:I}{R:Value->I->Prop}
def Cb(g h:O)(a b c d:Int)(e f:O)(k:Int):=cQ m R A0 [.agg [.s g,.s h],.agg [.i a,.i b,.i c,.i d,.s e,.s f],cI k] Tryz.func167
def uq(a:O):=cQ m R ⟨[(2,[(3,.I)])],[],[]⟩ [cS a] Tryz.func168
def wg(a b c:Int)(d e f:O)(g h i j:Int)(k l:O):=cQ m R ⟨[(2,[(5,.I)])],[],[(2,[26,25])]⟩ [.agg [.i a,.i b,.i c,.s d,.s e,.s f],.agg [.i g,.i h,.i i,.i j,.s k,.s l]] Tryz.func169
def qF(n:Nat×Nat)(a b c:Int)(d e f:O)(g h i j:Int)(k l:O):=cQ m R A0 [cP n,.agg [.i a,.i b,.i c,.s d,.s e,.s f],.agg [.i g,.i h,.i i,.i j,.s k,.s l]] Tryz.func170
def qD(n:Nat×Nat)(a b c:Int)(d e f:O)(g h i j:Int)(k l:O):=cQ m R ⟨[(2,[(7,.I)])],[],[(2,[51,50])]⟩ [cP n,.agg [.i a,.i b,.i c,.s d,.s e,.s f],.agg [.i g,.i h,.i i,.i j,.s k,.s l]] Tryz.func171
def qE(a:Nat×Nat)(w:Int):=cQ m R A0 [cP a,cI w] Tryz.func172
def sa(a:Nat×Nat)(w:Int):=cQ m R A0 [cP a,cI w] Tryz.func173
def ry(n:Nat×Nat)(a b c:Int)(d e f:O)(g h i j:Int)(k l:O):=cQ m R A0 [cP n,.agg [.i a,.i b,.i c,.s d,.s e,.s f],.agg [.i g,.i h,.i i,.i j,.s k,.s l]] Tryz.func174
def Hq(a:O)(n:Int):=cQ m R ⟨[(2,[(5,.I)])],[],[]⟩ [cS a,cI n] Tryz.func175
def sj(a:Nat×Nat)(r w:Int):=cQ m R A0 [cP a,cI r,cI w] Tryz.func176
def HG(c a b:Int):=cQ m R A0 [cI c,cI a,cI b] Tryz.func177
def pV(n:Nat×Nat)(a b c:Int)(d e f:O)(g h i j:Int)(k l:O)(lp:Int):=cQ m R ⟨[],[(5,[(8,.I)])],[(5,[75,74])]⟩ [cP n,.agg [.i a,.i b,.i c,.s d,.s e,.s f],.agg [.i g,.i h,.i i,.i j,.s k,.s l],cI lp] Tryz.func178
def zQ(aT:O):=cQ m R ⟨[(3,[(3,.I),(4,.I)])],[],[]⟩ [cS aT] Tryz.func179
def tn(n:Nat×Nat)(a b c:Int)(d e f:O)(g h i j:Int)(k l:O):=cQ m R ⟨[],[(10,[(6,.I),(7,.S)])],[(10,[128,127])]⟩ [cP n,.agg [.i a,.i b,.i c,.s d,.s e,.s f],.agg [.i g,.i h,.i i,.i j,.s k,.s l]] Tryz.func180
def tp(g:Nat×Nat)(a b c:Int)(d e f:O)(w:Int):=cQ m R A0 [cP g,.agg [.i a,.i b,.i c,.s d,.s e,.s f],cI w] Tryz.func181
def tq(a:Nat×Nat)(dh:O):=cQ m R ⟨[(1,[(4,.I)])],[],[]⟩ [cP a,cS dh] Tryz.func182
def np(b:Nat×Nat)(a:Int):=cQ m R A0 [cP b,cI a] Tryz.func183
def ye(h dh:O):=cQ m R ⟨[(2,[(5,.S)])],[],[]⟩ [cS h,cS dh] Tryz.func184
end
section
variable{m:I}{R:Value->I->Prop}
def qG(n:Nat×Nat)(a b c:Int)(d e f:O)(g h i j:Int)(k l:O):=cQ m R ⟨[(4,[(8,.I)])],[],[(4,[111,110])]⟩ [cP n,.agg [.i a,.i b,.i c,.s d,.s e,.s f],.agg [.i g,.i h,.i i,.i j,.s k,.s l]] Tryz.func185
def sg(a:Nat×Nat)(r w:Int):=cQ m R A0 [cP a,cI r,cI w] Tryz.func186
def zY(aT:O)(a:Int):=cQ m R ⟨[(3,[(5,.I),(6,.I)])],[],[]⟩ [cS aT,cI a] Tryz.func187
def xV(aT:O):=cQ m R ⟨[(3,[(3,.S),(4,.I)]),(7,[(5,.S),(6,.I)])],[],[]⟩ [cS aT] Tryz.func188
def vj(first a:Int):=cQ m R ⟨[(3,[(5,.S),(6,.I)])],[],[]⟩ [cI first,cI a] Tryz.func189
def th(e:Nat×Nat)(c d a:O)(b:Int)(cons first:O):=cQ m R ⟨[(2,[(3,.S),(4,.S),(10,.I)])],[(17,[])],[(2,[104,103]),(17,[108,104,103])]⟩ [cP e,.agg [.s c,.s d],.agg [.s a,.i b],cS cons,cS first] Tryz.func190
def uX(e:Nat×Nat)(a b c d:Int)(f g:O):=cQ m R A0 [cP e,.agg [.i a,.i b,.i c,.i d,.s f,.s g]] Tryz.func191
def DV(cE:O)(a:Int):=cQ m R ⟨[(3,[(5,.I),(6,.I)]),(7,[(5,.I),(7,.I)])],[],[]⟩ [cS cE,cI a] Tryz.func192
def uV(r:Nat×Nat):=cQ m R A0 [cP r] Tryz.func193
def Ho(r:Nat×Nat)(a b:O):=cQ m R ⟨[(9,[(10,.S),(11,.I)])],[],[(9,[108,106,105])]⟩ [cP r,.agg [.s a,.s b]] Tryz.func194
def xS(a b:O):=cQ m R ⟨[(3,[(4,.I)])],[],[(3,[38,37])]⟩ [.agg [.s a,.s b]] Tryz.func195
def vr(a b:O):=cQ m R ⟨[(3,[(4,.I)])],[],[(3,[40,39])]⟩ [.agg [.s a,.s b]] Tryz.func196
def DX(a b:O):=cQ m R ⟨[(3,[(4,.I)])],[],[(3,[40,39])]⟩ [.agg [.s a,.s b]] Tryz.func197
def Az(cE:O):=cQ m R ⟨[(3,[(3,.S),(4,.I)])],[],[]⟩ [cS cE] Tryz.func198
def pF(a b c d:Int)(e f:O):=cQ m R A0 [.agg [.i a,.i b,.i c,.i d,.s e,.s f]] Tryz.func199
def yg(r:Nat×Nat):=cQ m R A0 [cP r] Tryz.func200
def Jq(aK:O):=cQ m R A0 [cS aK] Tryz.func201
def EL(aT:O)(c:Int):=cQ m R ⟨[(2,[(1,.I),(10,.I)])],[],[(2,[43])]⟩ [cS aT,cI c] Tryz.func202
end
section
variable{m:I}{R:Value->I->Prop}
def BP(a:Int):=cQ m R A0 [cI a] Tryz.func205
def pW(a:Nat×Nat)(dh:O):=cQ m R ⟨[(2,[(5,.I)]),(6,[(6,.I),(7,.I)])],[],[]⟩ [cP a,cS dh] Tryz.func206
def wB(dh:O):=cQ m R ⟨[(3,[(3,.S),(4,.I)])],[],[]⟩ [cS dh] Tryz.func207
def Ar(a b:O):=cQ m R ⟨[(4,[(5,.I)])],[],[]⟩ [cS a,cS b] Tryz.func208
def Cy(a b c:Int)(d e f av:O):=cQ m R ⟨[(3,[(5,.S),(6,.I)])],[],[(3,[28])]⟩ [.agg [.i a,.i b,.i c,.s d,.s e,.s f],cS av] Tryz.func209
def Fj(n:Int):=cQ m R A0 [cI n] Tryz.func210
def yf(h:O):=cQ m R ⟨[(2,[(3,.I)])],[],[]⟩ [cS h] Tryz.func211
def FK(h:O)(a lp:Int)(aK:O):=cQ m R A0 [cS h,cI a,cI lp,cS aK] Tryz.func212
def sP(a fw:O):=cQ m R A0 [cS a,cS fw] Tryz.func213
def sk(a:Nat×Nat)(w:Int):=cQ m R A0 [cP a,cI w] Tryz.func214
def HN(h:O):=cQ m R ⟨[(2,[(3,.I)])],[],[]⟩ [cS h] Tryz.func215
def pH(g:Nat×Nat)(a b c d:Int)(e f dh:O):=cQ m R ⟨[(3,[(7,.S),(8,.I)])],[],[(3,[42])]⟩ [cP g,.agg [.i a,.i b,.i c,.i d,.s e,.s f],cS dh] Tryz.func216
def rY(e:Nat×Nat)(a b:O)(c d f:Int)(g h cons first:O):=cQ m R ⟨[(17,[(16,.S),(17,.S),(18,.I)]),(22,[(20,.I)]),(33,[(23,.I)])],[],[(17,[215,214]),(22,[215,214]),(33,[215,214])]⟩ [cP e,.agg [.s a,.s b],.agg [.i c,.i d,.i f,.s g,.s h],cS cons,cS first] Tryz.func217
def Ab(a:O)(first:Int):=cQ m R ⟨[(3,[(5,.S),(6,.I)])],[],[]⟩ [cS a,cI first] Tryz.func218
def yF(r:Nat×Nat):=cQ m R A0 [cP r] Tryz.func219
def BO(a b:O):=cQ m R ⟨[(3,[(4,.I)])],[],[(3,[38,37])]⟩ [.agg [.s a,.s b]] Tryz.func220
end
end Go.Proofs.YtgnjacfobdjeeaaGreat
