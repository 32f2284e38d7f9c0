/- Part of a proof. -/
import Derived.Test.YtdalfjkmdekijaaGreatUN00
set_option linter.all false
set_option maxHeartbeats 8000000
set_option maxRecDepth 100000
namespace Go.Proofs.YtdalfjkmdekijaaGreat
open Go.Vc
section
open Tryz
variable{m:E}{R:Value->E->Prop}
variable{a b c d e f g h p q r u v w x y:O}{i j k l n o s t z A B C D F G H:Int}
def BV(i:Int):=cW m R ⟨[(3,[(4,.I)]),(7,[(6,.I)])],[],[(3,[61]),(7,[65,61])]⟩ [.agg [i,j,k,l,a,b,c]] func93
def FA(a:O):=cW m R ⟨[(13,[(6,.S),(7,.I)])],[],[(13,[57])]⟩ [a,i] func94
def HM(a:O):=cW m R ⟨[(3,[(5,.S),(6,.I)])],[],[]⟩ [a,b] func95
def Jm(i:Int):=cW m R A0 [i] func96
def FK(i:Int):=cW m R ⟨[(4,[(3,.S),(4,.I)])],[],[(4,[30])]⟩ [.agg [i,j,k,l,a,b]] func97
def yS(a:O):=cW m R ⟨[(4,[(39,.I)]),(9,[(64,.I)])],[],[(9,[108])]⟩ [a,b] func98
def nK(p q:Nat×Nat):=cW m R A0 [i,p,q] func99
def nL(p:Nat×Nat):=cW m R A0 [i,p] func100
def pP(b c:O)(d e f g:Int)(h i:O)(a:Fn×Array Value×Array Value):=cW m R A0 [.agg [b,c],.agg [d,e,f,g,h,i],.c (.fv a)] func101
def qU(a:O):=cW m R A0 [.agg [a,b],.agg [i,j,k,l,c,d]] func102
def yP(a:O):=cW m R ⟨[(6,[(48,.I)])],[(5,[])],[(5,[69]),(6,[69])]⟩ [a,.agg [i,j,b]] func103
def pT(s:O)(f:Fn×Array Value×Array Value):=cW m R ⟨[(2,[(8,.I)])],[],[]⟩ [s,.c (.fv f)] func104
def tx(p:Nat×Nat):=cW m R ⟨[(17,[(16,.S),(17,.S),(18,.I)]),(22,[(20,.I)]),(33,[(23,.I)])],[],[(17,[215,214]),(22,[215,214]),(33,[215,214])]⟩ [p,.agg [a,b],.agg [i,j,k,c,d],e,f] func105
def ub(a:O):=cW m R A0 [a,b] func106
def BE(a:O):=cW m R ⟨[(3,[(5,.S),(6,.I)])],[],[]⟩ [a,i] func107
def qH(a:O):=cW m R A0 [a,i] func108
def Dt(i:Int):=cW m R A0 [i] func109
def FL(a:O):=cW m R A0 [.agg [a,i],j] func110
end
section
open Tryz
variable{m:E}{R:Value->E->Prop}
variable{a b c d e f g h p q r u v w x y:O}{i j k l n o s t z A B C D F G H:Int}
def xR(a:O):=cW m R ⟨[(5,[(11,.S),(12,.S),(13,.S),(14,.I)]),(17,[(13,.S),(20,.I)])],[],[(5,[159,156,154]),(17,[164,159,156,154])]⟩ [.agg [a,b],c,.agg [d,i],e,f] func111
def zD(i:Int):=cW m R ⟨[(3,[(5,.S),(6,.I)])],[],[]⟩ [i,a] func112
def tz(p:Nat×Nat):=cW m R ⟨[(13,[(11,.S),(13,.I)]),(22,[(15,.S),(16,.I)])],[(18,[(14,.I)])],[(13,[154,153]),(18,[154,153]),(22,[154,153])]⟩ [p,.agg [a,b],.agg [i,j,c],d] func113
def KN(a:O):=cW m R A0 [a] func114
def DI(a:O):=cW m R ⟨[(2,[(5,.I)])],[],[]⟩ [a,i] func115
def Dy(i:Int):=cW m R A0 [i] func116
def BP(p:Nat×Nat):=cW m R ⟨[],[(5,[])],[(5,[31,30])]⟩ [p,.agg [a,b]] func117
def BR(p:Nat×Nat):=cW m R ⟨[(6,[(12,.S),(13,.I)])],[(19,[]),(22,[])],[(6,[144,141]),(19,[151,150,144,141]),(22,[150,144,141])]⟩ [p,.agg [a,b],i,j] func118
def BT(p:Nat×Nat):=aaf m R ⟨[(6,[(9,.S),(10,.S),(11,.I)])],[(13,[(14,.P)]),(15,[])],[(6,[102,100]),(13,[109,108,102,100]),(15,[109,108,102,100])]⟩ [p,.agg [a,b],i] func119
def By(p:Nat×Nat):=cW m R ⟨[(4,[(8,.S),(9,.I)])],[(10,[])],[(4,[81,79]),(10,[81,79])]⟩ [p,.agg [a,b],i] func120
def Du(p:Nat×Nat):=cW m R ⟨[(2,[(4,.I)])],[],[(2,[44,40])]⟩ [p,.agg [a,b],c,i,j] func121
def DF(i:Int):=cW m R A0 [.agg [i,j,a]] func122
def Dw(a:O):=cW m R A0 [.agg [a,b],i,j,c,d] func123
def vC(p:Nat×Nat):=cW m R A0 [p] func124
def Br(a:O):=cW m R ⟨[(3,[(3,.S),(4,.I)])],[],[]⟩ [a] func125
def vn(p:Nat×Nat):=cW m R ⟨[],[(4,[]),(6,[]),(9,[]),(11,[])],[(4,[37]),(6,[37]),(9,[37]),(11,[37])]⟩ [p] func126
def Al(a:O):=cW m R ⟨[(3,[(4,.I)])],[],[(3,[45,44])]⟩ [.agg [a,b]] func127
def zw(a:O):=cW m R ⟨[(3,[(4,.I)]),(8,[(6,.S),(7,.I)])],[],[(3,[62,61]),(8,[65,62,61])]⟩ [.agg [a,b]] func128
end
section
open Tryz
variable{m:E}{R:Value->E->Prop}
variable{a b c d e f g h p q r u v w x y:O}{i j k l n o s t z A B C D F G H:Int}
def zk(p:Nat×Nat):=cW m R A0 [p,.agg [i,j,k,l,a,b]] func129
def Bh(p:Nat×Nat):=cW m R A0 [p] func130
def yh(p:Nat×Nat):=cW m R A0 [p,.agg [i,j,k,l,a,b]] func131
def yv(a:O):=cW m R ⟨[(4,[(3,.I)])],[],[]⟩ [a] func132
def Bg(a:O):=cW m R ⟨[(2,[(5,.I)])],[],[]⟩ [a,b] func133
def Au(a:O):=cW m R ⟨[(2,[(5,.I)])],[],[]⟩ [a,b] func134
def yp(a:O):=cW m R ⟨[(4,[(9,.I)])],[(10,[])],[(4,[241,238,237]),(10,[241,238,237])]⟩ [.agg [a,b],.agg [c,d,i,j,e],k] func135
def Dk(a:O):=cW m R ⟨[(2,[(3,.I)])],[],[]⟩ [a] func136
def Fv(a:O):=cW m R A0 [a,i] func137
def zi(a:O):=cW m R ⟨[(2,[(5,.I)])],[],[]⟩ [a,b] func138
def Fp(a:O):=cW m R ⟨[(4,[(5,.S),(6,.T),(7,.I)])],[],[]⟩ [a,i] func139
def xH(a:O):=cW m R ⟨[(4,[(14,.I)]),(9,[(56,.I)]),(15,[(76,.I)])],[(8,[])],[(8,[110]),(9,[110]),(15,[110])]⟩ [a] func140
def Ba(a:O):=cW m R ⟨[(2,[(9,.I)])],[],[]⟩ [a,b] func141
def EH(a:O):=cW m R A0 [a,i] func142
def Bb(a:O):=cW m R ⟨[(3,[(3,.I),(8,.I)])],[],[]⟩ [a] func143
def EE(a:O):=cW m R ⟨[(6,[(6,.S),(28,.I)])],[],[]⟩ [a,i] func144
def Bc(a:O):=cW m R A0 [a,i] func145
def yT(a:O):=cW m R A0 [a,i] func146
end
section
open Tryz
variable{m:E}{R:Value->E->Prop}
variable{a b c d e f g h p q r u v w x y:O}{i j k l n o s t z A B C D F G H:Int}
def wz(p:Nat×Nat):=cW m R A0 [p,i] func147
def tY(a:O):=cW m R ⟨[(5,[(5,.S),(6,.I)])],[],[]⟩ [a,i] func148
def yx(a:O):=cW m R A0 [a,i,j] func149
def Dq(a:O):=cW m R ⟨[(2,[(5,.I)])],[],[]⟩ [a,i] func150
def BA(a:O):=cW m R ⟨[(3,[(5,.I),(6,.I)])],[],[]⟩ [a,i] func151
def Dh(a:O):=cW m R ⟨[(2,[(3,.S),(9,.I)])],[],[(2,[44])]⟩ [.agg [a,i],j,k,b] func152
def Ch(a:O):=cW m R ⟨[],[(3,[]),(30,[(151,.T)])],[(3,[188,186]),(30,[188,186])]⟩ [.agg [a,b],c,.agg [i,j,k,d,e]] func153
def xS(a:O):=cW m R ⟨[(3,[(11,.S),(12,.I)])],[],[(3,[50,48])]⟩ [.agg [a,b],c,.agg [i,j,k,d,e],f,g] func154
def zB(a:O):=cW m R ⟨[(4,[(11,.S),(13,.I)])],[],[(4,[72,69,67])]⟩ [.agg [a,b],c,.agg [i,j,k,d,e],f,g] func155
def zT(a:O):=cW m R ⟨[(5,[(11,.S),(12,.I)])],[],[(5,[62,60])]⟩ [.agg [a,b],c,.agg [i,j,k,d,e],f,g] func156
def zU(a:O):=cW m R ⟨[(3,[(9,.S),(10,.I)])],[],[(3,[55,54])]⟩ [.agg [a,b],.agg [i,j,k,c,d],e,f] func157
def Bw(i:Int):=cW m R A0 [i,j] func158
def vB(p:Nat×Nat):=cW m R A0 [p,.agg [i,j,k,a,b]] func159
def KW(p:Nat×Nat):=cW m R A0 [p,.agg [a,b],c,i,j] func160
def Je(i:Int):=cW m R A0 [i,j,a] func161
def DE(p:Nat×Nat):=cW m R ⟨[(8,[(9,.I)])],[(5,[(7,.P)])],[(5,[51,50,49]),(8,[50,49])]⟩ [p,i] func162
def Cj(i:Int):=cW m R A0 [i] func163
def Ja(p:Nat×Nat):=cW m R A0 [p,.agg [a,b],c,i] func164
end
section
open Tryz
variable{m:E}{R:Value->E->Prop}
variable{a b c d e f g h p q r u v w x y:O}{i j k l n o s t z A B C D F G H:Int}
def zY(i:Int):=cW m R ⟨[(5,[(1,.I),(5,.I)])],[],[(5,[29])]⟩ [.agg [i,j,a],k] func165
def HN(i:Int):=cW m R A0 [i] func166
def Fs(i:Int):=cW m R A0 [i] func167
def BU(i:Int):=cW m R ⟨[(3,[(6,.I)])],[],[(3,[42])]⟩ [.agg [i,j,k,a,b,c],d] func168
def DQ(a:O):=cW m R ⟨[(4,[(5,.S),(6,.I)])],[(3,[(30,.T)])],[(3,[70,69]),(4,[70,69])]⟩ [.agg [a,b],.agg [i,j,k,l,c,d]] func169
def tC(p:Nat×Nat):=cW m R ⟨[],[(3,[])],[(3,[226,225])]⟩ [p,.agg [i,j,k,a,b,c],.agg [l,n,o,s,d,e],f] func170
def sT(p:Nat×Nat):=cW m R A0 [p,.agg [i,j,k,a,b,c],.agg [l,n,o,s,d,e]] func171
def wy(p:Nat×Nat):=cW m R A0 [p] func172
def IY(p:Nat×Nat):=cW m R ⟨[(9,[(10,.S),(11,.I)])],[],[(9,[108,106,105])]⟩ [p,.agg [a,b]] func173
def zn(a:O):=cW m R ⟨[(3,[(4,.I)])],[],[(3,[38,37])]⟩ [.agg [a,b]] func174
def wN(a:O):=cW m R ⟨[(3,[(4,.I)])],[],[(3,[40,39])]⟩ [.agg [a,b]] func175
def FF(a:O):=cW m R ⟨[(3,[(4,.I)])],[],[(3,[40,39])]⟩ [.agg [a,b]] func176
def Ci(a:O):=cW m R ⟨[(3,[(3,.S),(4,.I)])],[],[]⟩ [a] func177
def qJ(i:Int):=cW m R A0 [.agg [i,j,k,l,a,b]] func178
def Ao(a:O):=cW m R ⟨[(6,[(6,.I)]),(12,[(7,.I)])],[],[(6,[105]),(12,[105])]⟩ [a,i] func179
def BW(a:O):=cW m R A0 [.agg [a,b],i,j,k] func180
def yr(a:O):=cW m R ⟨[(4,[(9,.I)])],[],[]⟩ [a,i,j,k] func181
def Gx(a:O):=cW m R ⟨[(2,[(1,.I),(10,.I)])],[],[(2,[43])]⟩ [a,i] func182
end
section
open Tryz
variable{m:E}{R:Value->E->Prop}
variable{a b c d e f g h p q r u v w x y:O}{i j k l n o s t z A B C D F G H:Int}
def wt(i:Int):=cW m R ⟨[(4,[(2,.S),(7,.I)]),(9,[(2,.S),(8,.I)])],[],[(4,[61]),(9,[61])]⟩ [.agg [i,j,k,a,b],l,c] func183
def Fo(i:Int):=cW m R A0 [i] func184
def Aq(a:O):=cW m R A0 [a,.agg [i,j,k,b,c]] func185
def HL(a:O):=cW m R ⟨[(4,[(7,.I)])],[],[]⟩ [a,b,c] func186
def BK(a:O):=cW m R ⟨[(9,[(9,.I),(10,.I)])],[(5,[(8,.I)])],[(5,[76,74]),(9,[76,74])]⟩ [.agg [a,b],c,.agg [i,j,k,d,e]] func187
def wL(a:O):=cW m R A0 [.agg [a,b],c,.agg [i,j,k,d,e]] func188
def Dz(a:O):=cW m R A0 [a,i] func189
def vv(a:O):=cW m R A0 [.agg [a,b],c,.agg [i,j,k,d,e]] func190
def xT(a:O):=cW m R A0 [.agg [a,b],c,.agg [i,j,k,d,e],l] func191
def DA(a:O):=cW m R A0 [.agg [a,b],.agg [i,j,k,c,d],l,e,f] func192
def Bu(a:O):=cW m R ⟨[(7,[(16,.S),(17,.S),(18,.I)]),(14,[(19,.S),(20,.I)])],[],[(7,[127,124,121]),(14,[127,124,121])]⟩ [.agg [a,b],c,d,.agg [e,i],f,g] func193
def Ff(a:O):=cW m R ⟨[(3,[(5,.S),(6,.I)])],[],[]⟩ [a,b] func194
def Fw(a:O):=cW m R A0 [.agg [a,b],.agg [i,j,k,c,d],l] func195
def Dl(p:Nat×Nat):=cW m R A0 [p,.agg [a,b],c] func196
def Fm(p:Nat×Nat):=cW m R ⟨[(3,[(11,.S),(12,.I)])],[],[(3,[42])]⟩ [p,.agg [a,b],c,d,i] func197
def BC(p:Nat×Nat):=cW m R ⟨[(7,[(13,.S),(14,.I)])],[(4,[(11,.I)])],[(4,[79,75]),(7,[79,75])]⟩ [p,.agg [a,b],c,i,j] func198
def Bn(a:O):=cW m R ⟨[(3,[(5,.S),(6,.I)]),(7,[(7,.T),(8,.I)])],[],[(3,[59]),(7,[59])]⟩ [.agg [a,b],i] func199
def BD(p:Nat×Nat):=cW m R ⟨[(3,[(11,.I)])],[(7,[])],[(3,[130,126]),(7,[130,126])]⟩ [p,.agg [a,b],c,i,j] func200
end
section
open Tryz
variable{m:E}{R:Value->E->Prop}
variable{a b c d e f g h p q r u v w x y:O}{i j k l n o s t z A B C D F G H:Int}
def DM(p:Nat×Nat):=cW m R A0 [p] func201
def yw(a:O):=cW m R ⟨[(3,[(5,.S),(6,.I)])],[],[]⟩ [a,i] func202
def Dn(a:O):=cW m R A0 [.agg [a,b],c,i] func203
def Cd(p:Nat×Nat):=cW m R ⟨[(11,[(9,.S),(11,.I)]),(21,[(15,.S),(16,.I)])],[(6,[(8,.I)]),(8,[(8,.I)]),(17,[(80,.T)])],[(6,[124,122]),(8,[124,122]),(11,[124,122]),(17,[124,122]),(21,[124,122])]⟩ [p,.agg [a,b],i] func204
def rD(i:Int):=cW m R A0 [i] func205
def DC(a:O):=cW m R A0 [.agg [a,b],.agg [i,j,k,l,c,d],n] func206
def vE(a:O):=cW m R ⟨[(2,[(3,.I)])],[],[]⟩ [a] func207
def xN(i:Int):=cW m R ⟨[(2,[(5,.I)])],[],[(2,[26,25])]⟩ [.agg [i,j,k,a,b,c],.agg [l,n,o,s,d,e]] func208
def rS(p:Nat×Nat):=cW m R A0 [p,.agg [i,j,k,a,b,c],.agg [l,n,o,s,d,e]] func209
def rQ(p:Nat×Nat):=cW m R ⟨[(2,[(7,.I)])],[],[(2,[51,50])]⟩ [p,.agg [i,j,k,a,b,c],.agg [l,n,o,s,d,e]] func210
def rR(p:Nat×Nat):=cW m R A0 [p,i] func211
def tA(p:Nat×Nat):=cW m R A0 [p,i] func212
def sS(p:Nat×Nat):=cW m R A0 [p,.agg [i,j,k,a,b,c],.agg [l,n,o,s,d,e]] func213
def tE(p:Nat×Nat):=cW m R A0 [p,i,j] func214
def Ji(i:Int):=cW m R A0 [i,j,k] func215
def qZ(p:Nat×Nat):=cW m R ⟨[],[(5,[(8,.I)])],[(5,[75,74])]⟩ [p,.agg [i,j,k,a,b,c],.agg [l,n,o,s,d,e],t] func216
def Bq(a:O):=cW m R ⟨[(3,[(3,.I),(4,.I)])],[],[]⟩ [a] func217
def uB(p:Nat×Nat):=cW m R ⟨[],[(10,[(6,.I),(7,.S)])],[(10,[128,127])]⟩ [p,.agg [i,j,k,a,b,c],.agg [l,n,o,s,d,e]] func218
end
section
open Tryz
variable{m:E}{R:Value->E->Prop}
variable{a b c d e f g h p q r u v w x y:O}{i j k l n o s t z A B C D F G H:Int}
def uC(p:Nat×Nat):=cW m R A0 [p,.agg [i,j,k,a,b,c],l] func219
def uD(p:Nat×Nat):=cW m R ⟨[(1,[(4,.I)])],[],[]⟩ [p,a] func220
def oc(p:Nat×Nat):=cW m R A0 [p,i] func221
def zE(a:O):=cW m R ⟨[(2,[(5,.S)])],[],[]⟩ [a,b] func222
def rT(p:Nat×Nat):=cW m R ⟨[(4,[(8,.I)])],[],[(4,[111,110])]⟩ [p,.agg [i,j,k,a,b,c],.agg [l,n,o,s,d,e]] func223
def tD(p:Nat×Nat):=cW m R A0 [p,i,j] func224
def Ad(p:Nat×Nat):=cW m R A0 [p] func225
def I9(a:O):=cW m R ⟨[(3,[(4,.I)])],[],[(3,[41,40])]⟩ [.agg [a,b]] func226
def wD(a:O):=cW m R ⟨[(5,[(9,.I)])],[],[(5,[67])]⟩ [.agg [a,b],i,j] func227
def vy(p:Nat×Nat):=cW m R ⟨[(1,[(1,.I)])],[],[]⟩ [p,i] func228
def DJ(a:O):=cW m R A0 [.agg [a,i],j,.agg [k,l,n,b,c]] func229
def wS(a:O):=cW m R A0 [.agg [a,b],i,.agg [c,j]] func230
def wu(a:O):=cW m R ⟨[(4,[(3,.S),(4,.S),(5,.I)]),(13,[(7,.S),(8,.I)])],[],[(4,[74,73]),(13,[78,74,73])]⟩ [.agg [a,i]] func231
def vH(a:O):=cW m R ⟨[(3,[(2,.I),(8,.I)]),(9,[(10,.S),(12,.I)])],[],[(3,[113,111,110]),(9,[116,113,111,110])]⟩ [.agg [a,b],.agg [c,i],j] func232
def yf(a:O):=cW m R ⟨[(3,[(8,.I)]),(8,[(10,.S),(11,.I)])],[],[(3,[67,65,64]),(8,[70,67,65,64])]⟩ [.agg [a,b],.agg [c,i],d] func233
def Ag(a:O):=cW m R ⟨[(1,[(1,.I),(2,.I)])],[],[]⟩ [a,i,j] func234
def xU(i:Int):=cW m R A0 [i] func235
def zm(a:O):=cW m R ⟨[(3,[(7,.S),(8,.I)])],[],[(3,[57,55])]⟩ [.agg [a,b],c,.agg [d,i]] func236
end
section
open Tryz
variable{m:E}{R:Value->E->Prop}
variable{a b c d e f g h p q r u v w x y:O}{i j k l n o s t z A B C D F G H:Int}
def Dm(a:O):=cW m R ⟨[(2,[(7,.I)])],[],[]⟩ [a,i,j] func237
def vD(a:O):=cW m R ⟨[(2,[(7,.I)])],[],[(2,[46,45])]⟩ [.agg [a,b],.agg [i,j,k,c,d],l] func238
def G9(a:O):=cW m R ⟨[(3,[(5,.S),(6,.I)])],[],[]⟩ [a,i] func239
def Bo(a:O):=cW m R ⟨[(3,[(5,.S),(6,.I)])],[],[(3,[55])]⟩ [.agg [a,b],i] func240
def rc(p:Nat×Nat):=cW m R ⟨[(2,[(5,.I)]),(6,[(6,.I),(7,.I)])],[],[]⟩ [p,a] func241
def xZ(a:O):=cW m R ⟨[(3,[(3,.S),(4,.I)])],[],[]⟩ [a] func242
def Ca(a:O):=cW m R ⟨[(4,[(5,.I)])],[],[]⟩ [a,b] func243
def Hd(i:Int):=cW m R A0 [i] func244
def zH(a:O):=cW m R ⟨[(2,[(3,.I)])],[],[]⟩ [a] func245
def HD(a:O):=cW m R A0 [a,i,j,b] func246
def tF(p:Nat×Nat):=cW m R A0 [p,i] func247
def Jq(a:O):=cW m R ⟨[(2,[(3,.I)])],[],[]⟩ [a] func248
def qL(p:Nat×Nat):=cW m R ⟨[(3,[(7,.S),(8,.I)])],[],[(3,[42])]⟩ [p,.agg [i,j,k,l,a,b],c] func249
def BN(a:O):=cW m R ⟨[(3,[(4,.I)]),(7,[(5,.S),(6,.I)])],[],[(3,[35,34]),(7,[35,34])]⟩ [.agg [a,b]] func250
def zS(a:O):=cW m R ⟨[(5,[(9,.S),(10,.S),(11,.S),(12,.I)])],[],[(5,[88,86,84])]⟩ [.agg [a,b],c,.agg [d,i],e] func251
def Ac(a:O):=cW m R ⟨[(3,[(3,.S),(4,.I)])],[],[(3,[32])]⟩ [.agg [a,b,i,c,j]] func252
def wR(a:O):=cW m R ⟨[(4,[(3,.I)])],[],[(4,[36])]⟩ [.agg [a,b]] func253
def zW(a:O):=cW m R ⟨[(3,[(4,.I)])],[],[(3,[46])]⟩ [.agg [a,b,i,c,j]] func254
end
section
open Tryz
variable{m:E}{R:Value->E->Prop}
variable{a b c d e f g h p q r u v w x y:O}{i j k l n o s t z A B C D F G H:Int}
def wG(p:Nat×Nat):=cW m R ⟨[],[(16,[(8,.T)])],[(16,[94,93])]⟩ [p,.agg [a,b],.agg [i,j,k,c,d]] func255
def Fu(i:Int):=cW m R A0 [.agg [i,j,k,a,b]] func256
def Cb(a:O):=cW m R ⟨[(5,[(3,.S),(4,.S),(6,.I)]),(8,[(3,.S),(7,.I)]),(11,[(4,.S),(7,.I)])],[],[]⟩ [a] func257
def DG(a:O):=cW m R ⟨[(8,[(10,.S),(11,.S),(12,.I)])],[],[(8,[96,92])]⟩ [.agg [a,i],j,b,k] func258
def BZ(a:O):=cW m R A0 [.agg [a,b],.agg [i,j,k,c,d],l,e] func259
def Cl(a:O):=cW m R ⟨[(3,[(6,.I)])],[],[(3,[49,47])]⟩ [.agg [a,b],c] func260
def xP(a:O):=cW m R ⟨[(3,[(3,.S),(4,.I)])],[],[(3,[32])]⟩ [.agg [a,b]] func261
def BJ(a:O):=cW m R ⟨[(3,[(5,.S),(6,.I)])],[],[(3,[52])]⟩ [.agg [a,b],i] func262
def tw(a:O):=cW m R ⟨[(3,[(7,.S),(8,.I)])],[],[(3,[36,34])]⟩ [.agg [a,b],c,.agg [i,j,k,d,e]] func263
def BL(a:O):=cW m R ⟨[(4,[(7,.S),(9,.I)])],[(9,[(10,.S)])],[(4,[78,77,75]),(9,[78,77,75])]⟩ [.agg [a,b],c,.agg [i,j,k,d,e]] func264
def sW(a:O):=cW m R ⟨[(4,[(3,.I)])],[],[(4,[36])]⟩ [.agg [a,b]] func265
def DP(a:O):=cW m R A0 [.agg [a,i]] func266
def wE(p:Nat×Nat):=cW m R A0 [p,i,j,k] func267
def wH(p:Nat×Nat):=cW m R A0 [p,i] func268
def wF(p:Nat×Nat):=cW m R ⟨[(6,[(9,.I)])],[(4,[])],[(4,[110,109]),(6,[110,109])]⟩ [p,.agg [a,b],.agg [i,j,k,c,d]] func269
def uz(p:Nat×Nat):=cW m R ⟨[(7,[(9,.I)])],[(3,[])],[(3,[93,92]),(7,[93,92])]⟩ [p,.agg [a,b],.agg [i,j,k,c,d]] func270
def sR(p:Nat×Nat):=cW m R ⟨[(2,[(7,.I)]),(7,[(8,.I)])],[],[(2,[84,83]),(7,[84,83])]⟩ [p,.agg [a,b],.agg [i,j,k,c,d]] func271
def FW(a:O):=cW m R ⟨[(3,[(3,.S),(4,.I)])],[],[]⟩ [a] func272
end
section
open Tryz
variable{m:E}{R:Value->E->Prop}
variable{a b c d e f g h p q r u v w x y:O}{i j k l n o s t z A B C D F G H:Int}
def Ht(a:O):=cW m R ⟨[(3,[(5,.I),(6,.I)])],[],[]⟩ [a,i] func273
def Ah(a:O):=cW m R ⟨[(2,[(3,.I)])],[],[(2,[21])]⟩ [.agg [a,i]] func274
def Bj(a:O):=cW m R ⟨[(3,[(7,.S),(8,.I)])],[],[(3,[38])]⟩ [.agg [a,i],j,k] func275
def vJ(a:O):=cW m R ⟨[(4,[(5,.S),(6,.T),(7,.I)])],[],[]⟩ [a,i] func276
def BY(a:O):=cW m R A0 [.agg [a,i],j,k] func277
def xV(a:O):=cW m R ⟨[(2,[(3,.I)])],[],[(2,[22])]⟩ [.agg [a,i]] func278
def FJ(a:O):=cW m R ⟨[(2,[(9,.I)])],[],[(2,[40])]⟩ [.agg [a,i],j,k,l] func279
def qI(a:O):=cW m R ⟨[(3,[(4,.I)])],[],[(3,[30,29])]⟩ [.agg [a,i]] func280
def BH(a:O):=cW m R ⟨[(2,[(5,.I)])],[],[(2,[23])]⟩ [.agg [a,b],i] func281
def ux(a:O):=cW m R ⟨[(4,[(7,.I)]),(8,[(9,.I)]),(13,[(10,.I)])],[],[(4,[72,71]),(8,[76,72,71]),(13,[76,72,71])]⟩ [.agg [a,b],.agg [c,i],j] func282
def FG(a:O):=cW m R ⟨[(3,[(4,.I)])],[],[(3,[37,36])]⟩ [.agg [a,b]] func283
def Ak(a:O):=cW m R ⟨[(2,[(1,.I),(5,.I)]),(8,[(1,.I),(6,.I)])],[],[(2,[45]),(8,[45])]⟩ [.agg [a,i],j] func284
def xX(p:Nat×Nat):=cW m R ⟨[(9,[(14,.I)])],[],[(9,[89,88])]⟩ [p,.agg [a,b],.agg [i,j,k,c,d],l] func285
def He(a:O):=cW m R ⟨[(2,[(7,.I)])],[],[(2,[47])]⟩ [.agg [a,i],j,k] func286
def Bt(i:Int):=cW m R ⟨[(3,[(3,.S),(4,.I)])],[],[(3,[35,34])]⟩ [.agg [i,j,k,a,b]] func287
def Bp(a:O):=cW m R ⟨[(2,[(5,.I)]),(7,[(6,.I)])],[],[(2,[55]),(7,[55])]⟩ [.agg [a,i],j] func288
def uA(p:Nat×Nat):=cW m R A0 [p] func289
def vz(p:Nat×Nat):=cW m R ⟨[(2,[(9,.I)])],[],[(2,[51,50])]⟩ [p,.agg [a,b],.agg [c,i],j] func290
end
section
open Tryz
variable{m:E}{R:Value->E->Prop}
variable{a b c d e f g h p q r u v w x y:O}{i j k l n o s t z A B C D F G H:Int}
def xW(p:Nat×Nat):=cW m R ⟨[(2,[(5,.I)])],[],[]⟩ [p,i] func291
end
end Go.Proofs.YtdalfjkmdekijaaGreat
namespace Go.Proofs.YtdalfjkmdekijaaGreat
open Go.Vc
section
variable{m:E}{a:O}{l:List Int}
def ba(n b a:Int)(m:E):dA cv 44 [vi n,vi b,vi a] m (b<=n/\n<=a):=by
 apply Dx;refine⟨λh=>fV ?_ (J.aH _),λh=>cw ?_ (J.aH _)⟩<;>simp at h
 .simp[h]
 .omega
def jz(a:Int)(m:E):dA cv 109 [vi a] m (0<=a/\a<=11):=by
 apply Dt;exact(ba _ _ _ _).then λd e c b=>⟨_,rfl,fV c b⟩
def jE(a:Int):Prop:=0<=a/\a<=11/\a≠7/\a≠8\/a=18\/a=19
def rV(e:Int)(m:E):dA cv 96 [vi e] m (jE e):=by
 apply Jm;refine(jz _ _).then λg i d a=>⟨_,rfl,λh=>?_,λh=>?_⟩
 .have h:=d.1 h;refine⟨λb=>⟨λc=>jt ?_ a,λc=>⟨λf=>jt ?_ a,λf=>fV ?_ a⟩⟩,λb=>⟨λc=>jt ?_ a,λc=>fV ?_ a⟩⟩<;>simp[jE]at* <;>omega
 .have h:=fb d h;refine⟨λb=>jt ?_ a,λb=>fV ?_ a⟩<;>simp[jE]at* <;>omega
def dj(e:au m a l)(d:Int):dA cv 30 [O.v a,vi d] m (d∈l):=by
 apply I5;have i:=e.len;refine eu (n:=l.length) (i▸e.fA) (λk b=>J m b/\∀y∈l.take k,y≠d) ⟨J.aH _,aJ⟩ ?_;rintro k p I μ o ⟨c,g⟩ j
 refine dit (λh=>?_) λh=>?_
 .let⟨x,f⟩:=cq l k;refine⟨V,V,x,by simpa using c.af (e.aQ f),λb=>?_,λb=>?_⟩
  .simp only[aO]at b;exact jt (b▸av f) c
  .simp only[ap]at b;exact j V _ ⟨c,bN f g b⟩
 .exact cw (λb=>cU V g d b rfl) c
def yA(n:Nat)(t:Int):Prop:=0<=t/\t<=n
def Eg(n:Nat)(l:List Int):Prop:=∀t∈l,yA n t
def vm(c:au m a l)(bu:O):dA cv 133 [O.v bu,O.v a] m (Eg bu.len l):=by
 apply Bg;have i:=c.len;refine eu (n:=l.length) (i▸c.fA) (λk b=>J m b/\∀t∈l.take k,yA bu.len t) ⟨J.aH _,aJ⟩ ?_;rintro k r I μ q ⟨b,g⟩ o
 refine dit (λh=>?_) λh=>?_
 .let⟨x,d⟩:=cq l k;refine⟨V,V,x,by simpa using b.af (c.aQ d),?_⟩;exact(ba _ _ _ _).then λp s f e=>⟨_,rfl,λh=>cw (λj=>nb f h (j x (av d))) (b.trans e),λh=>o V _ ⟨b.trans e,bN d g (yb f h)⟩⟩
 .exact jt (cU V g) b
def Nr(l:List Int)(c a b:Int):Prop:=(l.length:Int)=c/\∀t∈l,a+1<=t/\t<=b -1
def DT(f:au m a l)(o b c:Int)(w: -1<=b/\b<9223372036854775807)(e:0<=c/\c<=9223372036854775807):
 dA cv 181 [O.v a,vi o,vi b,vi c] m (Nr l o b c):=by
 apply yr
 have g:=f.len
 refine⟨λh=>?_,λh=>?_⟩
 .simp only[uH]at h
  exact cw (λi=>h (by rw[g];exact i.1)) (J.aH _)
 .simp only[ig]at h
  have u:o=(l.length:Int):=by rw[<-h,g]
  subst u
  have r:cQ (b+1)=b+1:=aS V V
  have s:cQ (c -1)=c -1:=aS V V
  rw[r,s]
  refine eu (n:=l.length) (g▸f.fA) (λk d=>J m d/\∀t∈l.take k,b+1<=t/\t<=c -1) ⟨J.aH _,aJ⟩ ?_
  rintro k z I μ y ⟨d,q⟩ t
  refine dit (λh=>?_) λh=>?_
  .let⟨x,j⟩:=cq l k
   refine⟨V,V,x,by simpa using d.af (f.aQ j),?_⟩
   exact(ba _ _ _ _).then λv A p e=>⟨_,rfl,λh=>cw (λi=>nb p h (i.2 x (av j))) (d.trans e),λh=>t V _ ⟨d.trans e,bN j q (yb p h)⟩⟩
  .exact jt ⟨rfl,cU V q⟩ d
def CP(a dg:List Int):Prop:=∀(k:Nat)(v:Int),dg[k]? =some v->(∃t,0<=v/\a[v.toNat]? =some t/\t≠0)/\(∀u:Int,0<k->dg[k -1]? =some u->u<v)
def ue{A dg:O}{p:List Int}(g:au m A p)(f:au m dg l):dA cv 134 [O.v A,O.v dg] m (CP p l):=by
 apply Au;have K:=f.len;have L:=g.len;have T:=g.fA;have F:cQ ((A.len:Int) -1)=(p.length:Int) -1:=by rw[aS V V,L]
 rw[F];have S:=f.fA;refine eu (n:=l.length) (K▸f.fA) (λk M=>J m M/\∀(j:Nat)(v:Int),j<k->l[j]? =some v->(∃t,0<=v/\p[v.toNat]? =some t/\t≠0)/\(∀u:Int,0<j->l[j -1]? =some u->u<v)) ⟨J.aH _,aJ⟩ ?_;rintro k N P μ R ⟨i,w⟩ D
 refine dit (λh=>?_) λh=>?_
 .let⟨x,c⟩:=cq l k;have g1:af N dg.aC (dg.off+Int.toNat k*1)=some (vi x):=by simpa using i.af (f.aQ c)
  refine⟨V,V,x,g1,?_⟩;refine(ba _ _ _ _).then λQ U B d=>⟨_,rfl,λh=>?_,λh=>?_⟩
  .refine cw (λg=>nb B h ?_) (i.trans d);obtain⟨⟨t,b,s,_⟩,_⟩:=g k x c;have:=az s;omega
  .have C:=yb B h;let⟨t,q⟩:=cq p x.toNat;have H:=(i.trans d).af (g.aQ q);have o:=i.trans d;refine⟨V,V,x,d.af g1,V,V,t,by simpa using H,λb=>?_,λb=>?_⟩
   .simp only[aO]at b;refine cw (λa=>?_) o;obtain⟨⟨y,_,e,r⟩,_⟩:=a k x c;rw[q]at e;simp at e;exact r (e▸b)
   .simp only[ap]at b;refine dit (λs=>?_) λs=>?_
    .have G:cQ ((k:Int) -1)=((k -1:Nat):Int):=by rw[aS V V];omega
     let⟨E,z⟩:=cq l (k -1);rw[G];refine⟨V,V,x,d.af g1,V,V,E,by simpa using o.af (f.aQ z),dit (λe=>?_) λe=>?_⟩
     .refine cw (λa=>?_) o;have:=(a k x c).2 E V z;omega
     .refine D V _ ⟨o,λj v I a=>?_⟩
      by_cases r:j=k
      .subst r;rw[c]at a;simp at a;subst a;refine⟨⟨t,C.1,q,b⟩,λu _ y=>?_⟩;rw[z]at y;simp at y;subst y;omega
      .exact w j v V a
    .refine D V _ ⟨o,λj v I a=>?_⟩
     by_cases r:j=k
     .subst r;rw[c]at a;simp at a;subst a;exact⟨⟨t,C.1,q,b⟩,λu e _=>V⟩
     .exact w j v V a
 .exact jt (λj v a=>w j v (oh (az a)) a) i
end
section
variable{m:E}
structure Gh(ds:List bq)(k:Nat)(d:bq):Prop where
 gR:0<d.cons.length->d.cons.length<=3/\d.tn=0/\d.to=0/\∀f∈d.cons,f.length<=3/\Eg ds.length f
 Ri:d.cons.length=0->(∀e∈ds.take k,¬(e.cons.length=0/\e.tn=d.tn/\e.to=d.to))/\yA ds.length d.tn/\yA ds.length d.to
structure dI(ds:List bq):Prop where
 len:ds.length<=4
 df:∀(k:Nat)(d:bq),ds[k]? =some d->Gh ds k d
def FQ{bu:O}{h:List bq}(hd:bZ m bu h){k:Nat}{d:bq}(H:h[k]? =some d):dA cv 179 [O.v bu,vi k] m (Gh h k d):=by
 apply Ao;simp -zeta only[aG,aF];have X:=az H;have v:=hd.len;let⟨x,z,K,g1,g2⟩:=hd.aQ H;refine⟨V,V,_,by simpa using K,_,by simpa using g1,_,by simpa using g2,?_⟩;intro P s;have c:J m s:=((J.aH m).aR _).aj (ad _) _ _;have A:∀t∈[m.size],t<s.size:=by simp[s,P,aD]
 have M:=z.len;refine dit (λq=>?_) λq=>?_
 .refine dit (λL=>?_) λL=>?_
  .exact cw (λa=>oh ((a.gR V).1)) c
  refine⟨λf=>?_,λf=>?_⟩
  .simp only[uH]at f;exact cw (λa=>f (a.gR V).2.1) c
  simp only[ig]at f;refine⟨λp=>?_,λp=>?_⟩
  .simp only[uH]at p;exact cw (λa=>p (a.gR V).2.2.1) c
  simp only[ig]at p;refine eu (n:=d.cons.length) (M▸z.fA) (λk B=>J s B/\∀x∈d.cons.take k,x.length<=3/\Eg h.length x) ⟨J.aH _,aJ⟩ ?_;rintro j w I μ N ⟨g,r⟩ D
  refine dit (λy=>?_) λy=>?_
  .let⟨C,u⟩:=cq d.cons j;let⟨E,G,F⟩:=(oD.ext (c.trans g) z).aQ u;have R:=G.len;refine⟨V,V,E,by simpa using F,dit (λo=>?_) λo=>?_⟩
   .exact cw (λa=>oh (((a.gR V).2.2.2 C (av u)).1)) (c.trans g)
   .refine⟨V,V,E,by simpa using F,?_⟩;exact(vm G _).aK g A λt Q l i b=>⟨_,rfl,λe=>cw (λa=>nb l e (v▸((a.gR V).2.2.2 C (av u)).2)) (c.trans b),λe=>D V _ ⟨b,bN u r ⟨V,v▸yb l e⟩⟩⟩
  .exact jt ⟨λ_=>⟨V,f,p,cU V r⟩,λF=>V⟩ (c.trans g)
 .have C:d.cons.length=0:=V;have U:=hd.fA;refine eu (n:=k) V (λk B=>J s B/\∀f∈h.take k,¬(f.cons.length=0/\f.tn=d.tn/\f.to=d.to)) ⟨J.aH _,aJ⟩ ?_;rintro j w I μ N ⟨g,r⟩ D
  refine dit (λy=>?_) λy=>?_
  .let⟨f,u⟩:=cq h j;let⟨E,G,R,S,T⟩:=(bZ.ext (c.trans g) hd).aQ u;have W:=G.len;have B:¬(f.cons.length=0/\f.tn=d.tn/\f.to=d.to)->I (cQ ((j:Int)+1)) w/\μ (cQ ((j:Int)+1)) w<μ j w:=λp=>D V _ ⟨g,bN u r p⟩
   refine⟨V,V,E,by simpa using T,λo=>?_,λo=>?_⟩
   .simp only[aO]at o;refine⟨V,V,_,by simpa using R,λi=>?_,λi=>?_⟩
    .simp only[aO]at i;refine⟨V,V,_,by simpa using S,λb=>?_,λb=>?_⟩
     .simp only[aO]at b;have L:f∈h.take k:=by
       rw[List.mem_iff_getElem?];exact⟨j,by rw[mS,ao V];exact u⟩
      exact cw (λa=>(a.Ri C).1 f L ⟨V,i,b⟩) (c.trans g)
     .simp only[ap]at b;exact B (λp=>b p.2.2)
    .simp only[ap]at i;exact B (λp=>i p.2.1)
   .simp only[ap]at o;exact B (λp=>o V)
  .have f:j=k:=V;subst f;refine(ba _ _ _ _).aK g A λt Q l i b=>⟨_,rfl,λe=>?_,λe=>cw (λa=>fb l e (v▸(a.Ri C).2.1)) (c.trans b)⟩;have e:=l.1 e;refine(ba _ _ _ _).aK b A λt p l o a=>⟨_,rfl,fV ?_ (c.trans a)⟩;rw[l];rw[v]at e⊢;exact⟨λq=>⟨λF=>V,λ_=>⟨r,e,q⟩⟩,λq=>(q.Ri C).2.2⟩
def DW{bu:O}{a:List bq}(hd:bZ m bu a):dA cv 132 [O.v bu] m (dI a):=by
 apply yv;have u:=hd.len;refine dit (λo=>?_) λo=>?_
 .exact cw (λf=>oh f.len) (J.aH _)
 .refine eu (n:=a.length) V (λq r=>J m r/\∀(j:Nat)(d:bq),j<q->a[j]? =some d->Gh a j d) ⟨J.aH _,aJ⟩ ?_;rintro j x I μ w ⟨b,k⟩ s
  refine dit (λp=>?_) λp=>?_
  .let⟨l,e⟩:=cq a j;refine(FQ (bZ.ext b hd) e).then λt y h g=>⟨_,rfl,λc=>cw (λf=>nb h c (f.df j l e)) (b.trans g),λc=>?_⟩;refine s V _ ⟨b.trans g,λi d v bI=>?_⟩
   by_cases f:i=j
   .subst f;rw[e]at bI;simp at bI;subst bI;exact yb h c
   .exact k i d V bI
  .exact jt ⟨V,λi d bI=>k i d (oh (az bI)) bI⟩ b
end
section
variable{a:Nat}{m:E}
def fc:List bq->Nat->Nat
 |_,0=>0
 |[],_=>0
 |d::b,a+1=>d.cons.length+fc b a
def eI(a:List bq):List (List Int):=a.flatMap bq.cons
def Qa(a:Nat):fc [] a=0:=by cases a<;>rfl
def rL:∀{b:List bq}{a:Nat}{c:bq},b[a]? =some c->fc b (a+1)=fc b a+c.cons.length
 |[],a,c,h=>by simp at h
 |e::b,0,c,h=>by
  simp at h;subst h;simp only[fc];cases b<;>simp[fc]
 |e::b,a+1,c,h=>by
  have:=rL (b:=b) (a:=a) (c:=c) (by simpa using h);simp only[fc]at this⊢;omega
def nI:∀(b:List bq)(a:Nat),b.length<=a->fc b a=(eI b).length
 |[],a,_=>by rw[Qa];rfl
 |d::b,0,h=>by simp at h
 |d::b,a+1,h=>by
  have:=nI b a (by simpa using h);simp only[fc,eI,lO,aU]at this⊢;omega
def Q2:∀(a:List bq){b c:Nat},b<=c->fc a b<=fc a c
 |[],b,c,_=>by simp[Qa]
 |d::a,0,c,_=>by simp[fc]
 |d::a,b+1,0,h=>V
 |d::a,b+1,c+1,h=>by
  have:=Q2 a (b:=b) (c:=c) V;simp only[fc];omega
def kO{b:List bq}(h:dI b){d:bq}(e:b[a]? =some d):d.cons.length<=3:=by
 rcases iS d.cons.length with c|c
 .omega
 .exact((h.df a d e).gR c).1
def Tp{b:List bq}(h:dI b):∀a,fc b a<=3*a
 |0=>by cases b<;>simp[fc]
 |a+1=>by
  have e:=Tp h a;rcases aX a b.length with c|c
  .let⟨d,hd⟩:=dJ c;rw[rL hd];have:=kO h hd;omega
  .rw[nI b (a+1) V,<-nI b a c];omega
def sC{b:List bq}(h:dI b)(a:Nat):fc b a<=12:=by
 rcases aX a b.length with c|c
 .have:=Tp h a;have:=h.len;omega
 .rw[nI b a c,<-nI b b.length (ad _)];have:=Tp h b.length;have:=h.len;omega
def qA:∀(a:List bq)(i j:Nat)(d:bq),a[i]? =some d->j<d.cons.length->(eI a)[fc a i+j]? =d.cons[j]?
 |[],i,j,d,h,_=>by simp at h
 |e::a,0,j,d,h,b=>by
  simp at h;subst h;simp only[fc,eI,lO,bG];rw[ay b]
 |e::a,i+1,j,d,h,b=>by
  have:=qA a i j d (by simpa using h) b;simp only[fc,eI,lO]at this⊢;rw[aI V,<-this];congr 1;omega
def um:∀(a:List bq)(c:Nat),c<(eI a).length->∃i d,a[i]? =some d/\fc a i<=c/\c<fc a i+d.cons.length
 |[],c,h=>by simp[eI]at h
 |e::a,c,h=>by
  rcases aX c e.cons.length with b|b
  .exact⟨0,e,aJ,by simp[fc],by simpa[fc]using b⟩
  .let⟨i,d,f,g,j⟩:=um a (c -e.cons.length) (by simp only[eI,lO,aU]at h⊢;omega);exact⟨i+1,d,by simpa using f,by simp only[fc];omega,by simp only[fc];omega⟩
def jN{bu:O}{b:List bq}(hd:bZ m bu b)(d:dI b)(t:a<=b.length):LA cv 151 [O.v bu,vi a] m (vi (fc b a)):=by
 apply BA;have r:=hd.len;have:=d.len;refine dE (n:=a) V (λj g c=>J m c/\g=(fc b j:Nat)) ⟨J.aH _,by cases b<;>rfl⟩ ?_;rintro j g u I μ s ⟨e,rfl⟩ k
 refine dit (λi=>?_) λi=>?_
 .let⟨l,c⟩:=cq b j;let⟨h,f,o,g1,g2⟩:=(bZ.ext e hd).aQ c;refine⟨V,V,h,by simpa using g2,?_⟩;refine k V _ _ ⟨e,?_⟩
  have p:=sC d j;have q:=kO d c;rw[aS V (oh f.len),rL c,f.len];rfl
 .have:j=a:=V;subst this;exact⟨rfl,e⟩
def pU{bu:O}{a:List bq}(hd:bZ m bu a)(c:dI a):LA cv 217 [O.v bu] m (vi (eI a).length):=by
 apply Bq;have q:=hd.len;have:=c.len;refine dE (n:=a.length) V (λj f b=>J m b/\f=(fc a j:Nat)) ⟨J.aH _,by cases a<;>rfl⟩ ?_;rintro j f s I μ r ⟨d,rfl⟩ i
 refine dit (λh=>?_) λh=>?_
 .let⟨k,b⟩:=cq a j;let⟨g,e,l,g1,g2⟩:=(bZ.ext d hd).aQ b;refine⟨V,V,g,by simpa using g2,?_⟩;refine i V _ _ ⟨d,?_⟩
  have o:=sC c j;have p:=kO c b;rw[aS V (oh e.len),rL b,e.len];rfl
 .refine⟨?_,d⟩;rw[nI a j V]
def XC(a:List bq)(c t:Int):Prop:=
 (∃(i:Nat)(d:bq),t=i+1/\a[i]? =some d/\(fc a i:Int)<=c/\c<fc a i+d.cons.length)\/(t= -1/\¬(0<=c/\c<(eI a).length))
def lK{bu:O}{a:List bq}(hd:bZ m bu a)(k:dI a)(c:Int):aP cv 150 [O.v bu,vi c] m λE p=>∃u,E=vi u/\XC a c u/\J m p:=by
 apply Dq;have H:=hd.len;have:=k.len;refine eu (n:=a.length) V (λj p=>J m p/\∀(i:Nat)(d:bq),i<j->a[i]? =some d->¬((fc a i:Int)<=c/\c<fc a i+d.cons.length)) ⟨J.aH _,aJ⟩ ?_;rintro j M I μ L ⟨b,s⟩ D
 refine dit (λz=>?_) λz=>?_
 .let⟨d,h⟩:=cq a j;refine(jN (bZ.ext b hd) k V).then λN e=>⟨_,rfl,?_⟩;let⟨l,B,G,g1,g2⟩:=(bZ.ext (b.trans e) hd).aQ h;refine⟨V,V,l,by simpa using g2,?_⟩;have o:=sC k j;have A:=kO k h;have C:=B.len;have y:cQ (cQ ((fc a j:Int)+(l.len:Int)) -1)=(fc a j:Int)+d.cons.length -1:=by
   rw[aS (b:=(fc a j:Int)+(l.len:Int)) V V,aS V V,C]
  rw[y];refine(ba _ _ _ _).then λF P r q=>⟨_,rfl,λf=>?_,λf=>?_⟩
  .have f:=r.1 f;refine⟨_,rfl,Or.inl ⟨j,d,?_,h,V,V⟩,(b.trans e).trans q⟩;rw[aS V V]
  .refine D V _ ⟨(b.trans e).trans q,λi v K g=>?_⟩
   by_cases w:i=j
   .subst w;rw[h]at g;simp at g;subst g;intro t;exact fb r f ⟨t.1,V⟩
   .exact s i v V g
 .refine⟨_,rfl,Or.inr ⟨rfl,λt=>?_⟩,b⟩;let⟨i,d,o,e,A⟩:=um a c.toNat V;exact s i d (oh (az o)) o ⟨V,V⟩
def cg(a:List bq)(c:Int):List Int:=if 0<=c then((eI a)[c.toNat]?).getD []else[]
def Fg{bu:O}{a:List bq}(hd:bZ m bu a)(d:dI a)(c:Int):aP cv 108 [O.v bu,vi c] m λx l=>∃s,x=O.v s/\au l s (cg a c)/\J m l:=by
 apply qH;have E:=hd.len;have:=d.len;refine(lK hd d c).mono ?_;rintro _ H ⟨K,rfl,h,e⟩;refine⟨_,rfl,dit (λu=>?_) λu=>?_⟩
 .refine⟨_,rfl,?_,e.aR _⟩;have g:cg a c=[]:=by
   rcases h with⟨i,f,v,_⟩|⟨_,b⟩
   .omega
   .unfold cg;split
    .rw[bV V];rfl
    .rfl
  rw[g];exact⟨rfl,ad _,aJ,aJ⟩
 .rcases h with⟨i,f,rfl,b,B,C⟩|⟨v,_⟩
  .have G:=az b;let⟨q,j,z,g1,g2⟩:=(bZ.ext e hd).aQ b;have n:cQ ((i:Int)+1 -1)=i:=by rw[aS V V];omega
   rw[n];refine⟨V,V,q,by simpa using g2,?_⟩;refine(jN (bZ.ext e hd) d V).then λI g=>⟨_,rfl,g.dB (by simpa using g2),?_⟩;have A:=sC d i;have D:=kO d b;have F:=j.len;let⟨y,k⟩:=cq f.cons ((c -fc a i).toNat);let⟨r,w,t⟩:=(oD.ext g j).aQ k;have o:cQ (c -(fc a i:Int))=c -fc a i:=aS V V;rw[o];refine⟨V,V,r,t,_,rfl,?_,e.trans g⟩;have p:cg a c=y:=by
    unfold cg;rw[ao V];have:=qA a i (c -fc a i).toNat f b V;rw[show c.toNat=fc a i+(c -fc a i).toNat by omega,this,k];rfl
   rw[p];exact w
  .omega
def cb(a:List bq)(t:Int):List Int:=
 if 1<=t/\t<=a.length then((a[t.toNat -1]?).map λd=>(List.range d.cons.length).map λi=>((fc a (t.toNat -1)+i:Nat):Int)).getD []else[]
def zo{bu:O}{a:List bq}(hd:bZ m bu a)(c:dI a)(t:Int):aP cv 148 [O.v bu,vi t] m λI b=>∃s,I=O.v s/\au b s (cb a t)/\J m b:=by
 apply tY;intro r;have S:=hd.len;have:=c.len;have q:J m r:=(J.aH m).aR _;have F:gS m r aA 1 (.mk m.size 0 0 0) []:=gS.new (J.aH m) aA 1 [] 0 aJ;refine(ba _ _ _ _).then λL W l f=>⟨_,rfl,λh=>?_,λh=>?_⟩
 .refine⟨_,rfl,?_,q.trans f⟩;have e:cb a t=[]:=by
   unfold cb;rw[ae (oh (nb l h))]
  rw[e];exact⟨rfl,ad _,aJ,aJ⟩
 .have h:=yb l h;have v:cQ (t -1)=((t.toNat -1:Nat):Int):=by rw[aS V V];omega
  rw[v];let⟨e,g⟩:=cq a (t.toNat -1);have w:cb a t=(List.range e.cons.length).map λi=>((fc a (t.toNat -1)+i:Nat):Int):=by
   unfold cb;rw[ao V,g];rfl
  rw[w];have Q:=sC c (t.toNat -1);have R:=kO c g;refine dE (n:=e.cons.length) V (λj s b=>J m b/\gS m b aA 1 s (((List.range j).map λi=>((fc a (t.toNat -1)+i:Nat):Int)).map Ce.i)/\s.len=j) ⟨q.trans f,by simpa using F.ext f,rfl⟩ ?_;rintro j s X K μ U ⟨d,o,p⟩ H
  let⟨y,D,M,g1,g2⟩:=(bZ.ext d hd).aQ g;have T:=D.len;refine⟨V,V,y,by simpa using g2,dit (λz=>?_) λz=>?_⟩
  .refine(jN (bZ.ext d hd) c V).then λG k=>⟨_,rfl,?_⟩;intro u;have x:cQ (((fc a (t.toNat -1):Nat):Int)+(j:Int))=((fc a (t.toNat -1)+j:Nat):Int):=by rw[aS V V];omega
   have E:u=G.push (.cells (bE [.i (((fc a (t.toNat -1)+j:Nat):Int))]) aA):=by rw[<-x]
   clear_value u;subst E;refine gS.append (zs:=[.i 0]) (d:=[.i ((fc a (t.toNat -1)+j:Nat):Int)]) ((o.ext k).ext (J.push _ _)) ((d.trans k).aR _) rfl (cB.push _ _ _).jD (by simp[p];omega) ?_;intro Y b A B C N P _;refine H V _ _ ⟨B,?_,by simp[C,p]⟩
   rw[Se,eX,eX];exact A
  .have:j=e.cons.length:=V;subst this;exact⟨_,rfl,au.gG o bS,d⟩
end
section
variable{S:List Nat}{d:E}{s h a g:O}{e j:List Int}{k f:Nat}{x:Int}{Q:List Int->Prop}{K:Value->E->Prop}
def _root_.Go.Vc.au.cK{X:List Nat}{a:E}(h:au (bI S d) s e)(c:Fz X d a)(b:∀g∈X,g∈S)(f:e[k]? =some x):af a s.aC (s.off+k*1)=some (vi x):=
 (eA.1 ((h.le (c.cR b)).aQ f)).2
def _root_.Go.Vc.au.Ka{a:E}(h:au (bI S d) s e)(b:J d a)(c:e[k]? =some x):af a s.aC (s.off+k*1)=some (vi x):=
 h.cK (b.fz []) aJ c
def Ei(f:Nat)(b:List Value)(d:E)(S:List Nat)(Q:List Int->Prop):Prop:=aP cv f b d λv a=>∃s e,v=O.v s/\au (bI S a) s e/\Q e/\J d a
def iU(f:Nat)(b:List Value)(d:E)(S:List Nat)(Q:List Int->Prop):Prop:=aP cv f b d λv a=>∃s e,v=O.v s/\Gr S d a aA 1 tp s e/\Q e/\J d a
def rm(f:Nat)(a:List Value)(d:E)(Q:Int->Prop):Prop:=aP cv f a d λv b=>∃n:Int,v=vi n/\Q n/\J d b
abbrev GI(S:List Nat)(a d:E)(s:O)(e:List Int):Prop:=Gr S a d aA 1 tp s e
def GI.nil(S:List Nat)(d:E):GI S d (d.push (.cells (bE []) aA)) (.mk d.size 0 0 0) []:=Gr.new S (ad _) aA 1 tp
def GI.kj{S X:List Nat}{c d:E}{s:O}{e:List Int}{a:Int}{K:O->E->Prop}(h:GI S c d s e)(f:Fz X c d)(j:∀g∈S,g<c.size)(k:e.length<=10^12)
 (i:∀r b,GI S c b r (e++[a])->Fz X c b->(d.size<=b.size/\(r.aC=s.aC\/d.size<=r.aC))->(∀g,g<d.size->g≠s.aC->b[g]? =d[g]?)->K r b):jb (d.push (.cells (bE [.i a]) aA)) aA [.i 0] 8 s (.mk d.size 0 1 1) K:=
 Gr.kj (g:=[.i 0]) tp.mono bo h f rfl V i
def GI.done{S:List Nat}{a d:E}{s:O}{e:List Int}(h:GI S a d s e)(b:∀g∈S,g<a.size)(c:e.length<=10^12):au (bI S d) s e:=Gr.done tp.mono h b bo V
def GI.all{S X:List Nat}{b d:E}{s x:O}{e c:List Int}{K:O->E->Prop}(h:GI S b d s e)(f:Fz X b d)(k:∀g∈S,g<b.size)(j:au (bI (s.aC::S) d) x c)(l:e.length+c.length<=10^12)
 (i:∀r a,GI S b a r (e++c)->Fz X b a->(d.size<=a.size/\(r.aC=s.aC\/d.size<=r.aC))->(∀g,g<d.size->g≠s.aC->a[g]? =d[g]?)->K r a):jb d aA [.i 0] 8 s x K:=
 Gr.all (g:=[.i 0]) tp.mono bo h f j V i
def GI.iI{b a:E}(h:GI S b d s e)(j:a[s.aC]? =d[s.aC]?):GI S b a s e:=by
 let⟨f,c,g,i⟩:=h;exact⟨f,c,g.congr j,i.mono λ_ _ h=>h⟩
def GI.ext{S:List Nat}{b d a:E}{s:O}{e:List Int}(h:GI S b d s e)(c:J d a):GI S b a s e:=Gr.ext tp.mono h c
def _root_.Go.Vc.Gr.cL{α:Type}{S c:List Nat}{h i d:E}{f b:Nat}{R:E->List Ce->α->Prop}{s:O}{e:List α}(o:nG b R)(k:Gr c i d f b R s e)(p:∀g∈S,g∈c\/d.size<=g)(q:h.size<=i.size):Gr S h d f b R s e:=by
 let⟨l,j,m,n⟩:=k;refine⟨l,j,m.cL q,n.mono λr x=>o.le ((J.aH d).bI λg a=>?_)⟩;rcases List.mem_cons.1 a with a|a
 .exact Or.inl (by rw[a];exact aZ)
 .exact(p g a).imp (ah _) id
def GI.cL{S a:List Nat}{b c d:E}{s:O}{e:List Int}(h:GI a c d s e)(f:∀g∈S,g∈a)(j:b.size<=c.size):GI S b d s e:=Gr.cL tp.mono h (λg i=>Or.inl (f g i)) j
def iU.then{b:List Value}(h:iU f b d S Q)(k:∀s e a,GI S d a s e->Q e->J d a->K (O.v s) a):aP cv f b d K:=
 h.mono λ_ a⟨s,e,c,g,i,j⟩=>c▸k s e a g i j
def Ei.then{b:List Value}(h:Ei f b d S Q)(k:∀s e a,au (bI S a) s e->Q e->J d a->K (O.v s) a):aP cv f b d K:=
 h.mono λ_ a⟨s,e,c,g,i,j⟩=>c▸k s e a g i j
def rm.then{b:List Value}{Q:Int->Prop}(h:rm f b d Q)(i:∀n a,Q n->J d a->K (vi n) a):aP cv f b d K:=
 h.mono λ_ a⟨n,e,c,g⟩=>e▸i n a c g
def sD{a:E}{g:Nat}(h:J d a)(b:d.size<=g):Le (bI S d) (bI (g::S) a):=h.bI λe c=>by
 rcases List.mem_cons.1 c with h|h
 .exact Or.inr (by rw[h];exact b)
 .exact Or.inl h
def lL(c:∀g∈S,g<d.size)(j:au (bI S d) h e)(i:e.length<=10^12):iU 50 [O.v h] d S (e=·):=by
 apply mQ;intro k;have a:J d k:=J.push d _;exact GI.all (e:=[]) (X:=[]) (GI.nil S d) (a.fz []) c (j.le (sD a (ad _))) (by simpa using i) λr m b f _ _=>⟨r,e,rfl,by simpa using b,rfl,f.ext⟩
def oH(e a:List Int):Prop:=(∀x∈a,x∈e)/\a.length<=e.length
def pS{b:List Int}(h:∀x∈b,x∈e)(c:x∈e):∀y∈b++[x],y∈e:=by
 intro y a;rcases List.mem_append.1 a with a|a
 .exact h y a
 .simp at a;subst a;exact c
def sX(q:∀g∈S,g<d.size)(i:au (bI S d) h e)(a:Int)(t:e.length<=10^12):iU 53 [O.v h,vi a] d S (e.filter (λx=>!decide (x=a))=·):=by
 apply DY;intro w;have r:=i.len;refine dE (n:=e.length) (r▸i.fA) (λk s b=>J d b/\GI S d b s ((e.take k).filter λx=>!decide (x=a))) ⟨J.push d _,GI.nil S d⟩ ?_;rintro k s y I μ v ⟨b,c⟩ m
 have u:((e.take k).filter λx=>!decide (x=a)).length<=k:=by have:=il (λx=>!decide (x=a)) (e.take k);simp at this;omega
 refine dit (λp=>?_) λp=>?_
 .let⟨x,j⟩:=cq e k;refine⟨V,V,x,i.Ka b j,λl=>⟨V,V,x,i.Ka b j,?_⟩,λl=>m V _ _ ⟨b,?_⟩⟩
  .intro z;refine GI.kj c (b.fz []) q V λB A o f _ _=>m V _ _ ⟨f.ext,?_⟩
   rw[bF j,Ot];simpa[show x≠a by simpa using l]using o
  .rw[bF j,Ot];simpa[show x=a by simpa using l]using c
 .rw[dD V]at c;exact⟨s,_,rfl,c,rfl,b⟩
def iU.imp{b:List Value}{a:List Int->Prop}(h:iU f b d S Q)(i:∀e,Q e->a e):iU f b d S a:=h.mono λ_ _⟨s,e,c,g,q,x⟩=>⟨s,e,c,g,i e q,x⟩
def Ay(b:∀g∈S,g<d.size)(f:au (bI S d) h e)(n:Int)(c:e.length<=10^12):iU 53 [O.v h,vi n] d S (oH e):=
 (sX b f n c).imp λj a=>a▸⟨λx i=>(List.mem_filter.1 i).1,il _ _⟩
def N6(r:∀g∈S,g<d.size)(c:au (bI S d) h e)(u:Int)(v:e.length<=10^12):iU 239 [O.v h,vi u] d S (oH e):=by
 apply G9;intro z;have t:=c.len;refine dE (n:=e.length) (t▸c.fA) (λk s b=>J d b/\∃a,GI S d b s a/\(∀x∈a,x∈e)/\a.length<=k) ⟨J.push d _,[],GI.nil S d,aJ,ad _⟩ ?_;rintro k s A I μ y ⟨b,a,i,j,w⟩ m
 refine dit (λp=>?_) λp=>?_
 .let⟨x,l⟩:=cq e k;refine⟨V,V,x,c.Ka b l,λq=>⟨V,V,x,c.Ka b l,?_⟩,λq=>m V _ _ ⟨b,a,i,j,V⟩⟩;intro B;exact GI.kj i (b.fz []) r V λD C o f _ _=>m V _ _ ⟨f.ext,_,o,pS j (av l),bS⟩
 .exact⟨s,a,rfl,i,⟨j,V⟩,b⟩
def Mb(u:∀g∈S,g<d.size)(i:au (bI S d) a e)(v:au (bI S d) g j)(A:e.length<=10^12):iU 194 [O.v a,O.v g] d S (oH e):=by
 apply Ff;intro D;have w:=i.len;refine dE (n:=e.length) (w▸i.fA) (λk s b=>J d b/\∃c,GI S d b s c/\(∀x∈c,x∈e)/\c.length<=k) ⟨J.push d _,[],GI.nil S d,aJ,ad _⟩ ?_;rintro k s E I μ C ⟨b,c,l,m,B⟩ p
 refine dit (λr=>?_) λr=>?_
 .let⟨x,o⟩:=cq e k;refine⟨V,V,x,i.Ka b o,?_⟩;refine(dj ((v.le (bA _ _)).ext b) x).then λz F _ h=>⟨_,rfl,λt=>⟨V,V,x,i.Ka (b.trans h) o,?_⟩,λt=>p V _ _ ⟨b.trans h,c,l.ext h,m,V⟩⟩;intro y;exact GI.kj (l.ext h) ((b.trans h).fz []) u V λG y q f _ _=>p V _ _ ⟨f.ext,_,q,pS m (av o),bS⟩
 .exact⟨s,c,rfl,l,⟨m,V⟩,b⟩
def _root_.Go.Vc.vX{σ τ:Type}{n:Nat}(p:n<=9223372036854775807){h:σ}{j:τ}{g:(σ->τ->Int->E->Prop)->(σ->τ->Int->E->Nat)->σ->τ->Int->E->Prop}(Q:Nat->σ->τ->E->Prop)(m:Q 0 h j d)
 (l:∀(k:Nat)(s:σ)(t:τ)(a:E)(I:σ->τ->Int->E->Prop)(μ:σ->τ->Int->E->Nat),k<=n->Q k s t a->
  (k<n->∀c e b,Q (k+1) c e b->I c e (cQ ((k:Int)+1)) b/\μ c e (cQ ((k:Int)+1)) b<μ s t k a)->g I μ s t k a):
 ∃(I:σ->τ->Int->E->Prop)(μ:σ->τ->Int->E->Nat),I h j 0 d/\∀s t i a,I s t i a->g I μ s t i a:=by
 refine⟨λs t i b=>∃k:Nat,i=k/\k<=n/\Q k s t b,λ_ _ i _=>(n -i).toNat,⟨0,rfl,dy _,m⟩,?_⟩
 rintro s t i a ⟨k,rfl,o,q⟩
 refine l k s t a _ _ o q λf c e b r=>?_
 rw[kd f p]
 exact⟨⟨k+1,rfl,f,r⟩,Cv f⟩
def WC(e:List Int)(n:Int)(a:List Int):Prop:=(∀x∈a,x∈e\/x=n)/\a.length<=e.length+1
def GG:List Int->Int->List Int
 |[],n=>[n]
 |x::e,n=>if n<=x then(if n<x then n::x::e else x::e)else x::GG e n
def EL:∀{e:List Int}{n x:Int},x∈GG e n<->x=n\/x∈e
 |[],n,x=>by simp[GG]
 |y::e,n,x=>by
  unfold GG;split
  .split
   .simp
   .have:n=y:=V;subst this;simp
  .rw[aW,EL,aW];constructor
   .rintro(h|h|h)<;>simp[h]
   .rintro(h|h|h)<;>simp[h]
def Jz:∀(e:List Int)(n:Int),(GG e n).length<=e.length+1
 |[],n=>by simp[GG]
 |y::e,n=>by
  have:=Jz e n;unfold GG;split
  .split<;>simp
  .simp;omega
def nj(u:∀g∈S,g<d.size)(z:au (bI S d) h e)(m:Int)(P:e.length<10^12):iU 139 [O.v h,vi m] d S (GG e m=·):=by
 apply Fp;intro U;have M:=z.len;refine vX (n:=e.length) (M▸z.fA) (λk s b l=>J d l/\∃j,GI S d l s j/\(if b=true then j++e.drop k=GG e m else j++GG (e.drop k) m=GG e m)/\j.length<=k+(if b=true then 1 else 0)) ⟨J.push d _,[],GI.nil S d,aJ,aJ⟩ ?_;rintro k s b B I μ R ⟨i,j,v,a,q⟩ F
 have Q:j.length<=k+1:=by split at q<;>omega
 refine dit (λw=>?_) λw=>?_
 .let⟨x,C⟩:=cq e k;have G:∀{l:E},J d l->af l h.aC (h.off+k*1)=some (vi x):=λw=>z.Ka w C;have K:e.drop k=x::e.drop (k+1):=by
   obtain⟨L,H⟩:=List.getElem?_eq_some_iff.1 C;rw[lC L,H]
  rw[K]at a;have A:∀p:Bool,j.length<=k+(if p=true then 1 else 0)->(if p=true then(j++[x])++e.drop (k+1)=GG e m else(j++[x])++GG (e.drop (k+1)) m=GG e m)->jb (B.push (.cells (bE [.i x]) aA)) aA [.i 0] 8 s (.mk B.size 0 1 1) λr l=>I r p (cQ ((k:Int)+1)) l/\μ r p (cQ ((k:Int)+1)) l<μ s b k B:=λp T hd=>
   GI.kj v (i.fz []) u V λr D o f _ _=>F V _ _ _ ⟨f.ext,_,o,hd,bS⟩
  refine⟨λc=>⟨V,V,x,G i,λt=>⟨V,V,x,G i,λy=>?_,λy=>⟨V,V,x,G i,A true (by split at q<;>simp<;>omega) ?_⟩⟩,λt=>⟨V,V,x,G i,A b q ?_⟩⟩,λc=>⟨V,V,x,G i,A b q ?_⟩⟩
  .have hd:b=false:=by simpa using c
   subst hd;simp only[ft,mG]at a;rw[GG,ao (by simp at t;omega),ao (by simp at y;omega)]at a;intro N;refine GI.kj v (i.fz []) u V λr D o f _ _=>⟨V,V,x,G f.ext,?_⟩;intro W;refine GI.kj o f u bS λr X o f _ _=>F V _ _ _ ⟨f.ext,_,o,by simpa using a,by simp at q;simp;omega⟩
  .have hd:b=false:=by simpa using c
   subst hd;simp only[ft,mG]at a;rw[GG,ao (by simp at t;omega),ae (by simp at y;omega)]at a;simpa using a
  .have hd:b=false:=by simpa using c
   subst hd;simp only[ft,mG]at a⊢;rw[GG,ae (by simp at t;omega)]at a;simpa using a
  .have hd:b=true:=by simpa using c
   subst hd;simpa using a
 .rw[th V]at a;refine⟨λc=>?_,λc=>?_⟩
  .have hd:b=false:=by simpa using c
   subst hd;intro N;exact GI.kj v (i.fz []) u V λr D o f _ _=>⟨r,_,rfl,o,by simpa[GG]using a.symm,f.ext⟩
  .have hd:b=true:=by simpa using c
   subst hd;exact⟨s,_,rfl,v,by simpa using a.symm,i⟩
def nk(b:∀g∈S,g<d.size)(f:au (bI S d) h e)(n:Int)(c:e.length<10^12):iU 139 [O.v h,vi n] d S (WC e n):=
 (nj b f n c).imp λj a=>a▸⟨λx i=>(EL.1 i).symm,Jz _ _⟩
def rG(y:∀g∈S,g<d.size)(l:au (bI S d) h e)(B:Int)(C:e.length<=10^12):iU 276 [O.v h,vi B] d S (oH e):=by
 apply vJ;intro F;have z:=l.len;refine vX (n:=e.length) (z▸l.fA) (λk s _ b=>J d b/\∃a,GI S d b s a/\(∀x∈a,x∈e)/\a.length<=k) ⟨J.push d _,[],GI.nil S d,aJ,ad _⟩ ?_;rintro k s i o I μ E ⟨c,a,j,m,D⟩ q
 refine dit (λu=>?_) λu=>?_
 .let⟨x,p⟩:=cq e k;have G:=l.Ka c p;have A:jb (o.push (.cells (bE [.i x]) aA)) aA [.i 0] 8 s (.mk o.size 0 1 1) λr b=>I r i (cQ ((k:Int)+1)) b/\μ r i (cQ ((k:Int)+1)) b<μ s i k o:=
   GI.kj j (c.fz []) y V λr H t f _ _=>q V _ _ _ ⟨f.ext,_,t,pS m (av p),bS⟩
  exact⟨V,V,x,G,λv=>⟨λw=>q V _ _ _ ⟨c,a,j,m,V⟩,λw=>⟨V,V,x,G,A⟩⟩,λv=>⟨V,V,x,G,A⟩⟩
 .exact⟨s,a,rfl,j,⟨m,V⟩,c⟩
def Mp(a g:List Int):List Int:=g.foldl GG a
def AY:∀{g a:List Int}{x:Int},x∈Mp a g<->x∈a\/x∈g
 |[],a,x=>by simp[Mp]
 |y::g,a,x=>by
  have h:=AY (g:=g) (a:=GG a y) (x:=x);have e:Mp a (y::g)=Mp (GG a y) g:=rfl;rw[e,h,EL,aW];constructor
  .rintro((h|h)|h)<;>simp[h]
  .rintro(h|h|h)<;>simp[h]
def wV:∀(g a:List Int),(Mp a g).length<=a.length+g.length
 |[],a=>by simp[Mp]
 |y::g,a=>by
  have:=wV g (GG a y);have:=Jz a y;show(Mp (GG a y) g).length<=_;simp;omega
def Lp{a g:List Int}(h:g[k]? =some x):Mp a (g.take (k+1))=GG (Mp a (g.take k)) x:=by
 unfold Mp;rw[bF h,List.foldl_append];rfl
def wP(c:∀g∈S,g<d.size)(t:au (bI S d) a e)(i:au (bI S d) g j)(l:e.length+j.length<=10^12):iU 95 [O.v a,O.v g] d S (Mp e j=·):=by
 apply HM;refine(lL c t V).then λG _ C q o y=>⟨_,rfl,?_⟩;subst o;have u:=i.len;refine dE (n:=j.length) (u▸i.fA) (λk s b=>J d b/\GI S d b s (Mp e (j.take k))) ⟨y,q⟩ ?_;rintro k s D I μ A ⟨b,f⟩ v
 have r:=wV (j.take k) e;simp only[eJ]at r;refine dit (λh=>?_) λh=>?_
 .let⟨x,m⟩:=cq j k;refine⟨V,V,x,i.Ka b m,?_⟩;refine(nj (λg l=>aL (c g l) b.size) (f.done c V) x V).then λF B E p w z=>⟨_,rfl,v V _ _ ⟨b.trans z,?_⟩⟩;rw[Lp m,w];exact p.cL (λ_ h=>h) b.size
 .rw[dD V]at f;exact⟨s,_,rfl,f,rfl,b⟩
def Oc(f:∀g∈S,g<d.size)(i:au (bI S d) a e)(k:au (bI S d) g j)(h:e.length+j.length<=10^12):iU 95 [O.v a,O.v g] d S (λb=>(∀x∈b,x∈e\/x∈j)/\b.length<=e.length+j.length):=
 (wP f i k h).imp λb c=>c▸⟨λx l=>AY.1 l,wV _ _⟩
def sQ(a:Int)(d:E):dA cv 235 [vi a] d (14<=a/\a<=17):=by
 apply xU;exact(ba _ _ _ _).then λg e c b=>⟨_,rfl,fV c b⟩
def eD(c:∀g∈S,g<d.size){fX:O}{a:List Int}(m:au (bI S d) h e)(n:au (bI S d) fX a)(l:e.length+a.length<=10^12):iU 106 [O.v h,O.v fX] d S (e++a=·):=by
 apply ub;refine(lL c m V).then λq _ p b j i=>⟨_,rfl,?_⟩;subst j;exact GI.all b (i.fz []) c (n.le (sD i b.bn.1)) l λr o k f _ _=>⟨r,_,rfl,k,rfl,f.ext⟩
def qX(t:∀g∈S,g<d.size)(l:au (bI S d) h e)(b:Nat)(w:b+e.length<=10^12):iU 107 [O.v h,vi b] d S (λa=>(∀x∈a,(b:Int)<=x/\x<b+e.length)/\a.length<=e.length):=by
 apply BE;intro B;have u:=l.len;refine dE (n:=e.length) (u▸l.fA) (λk s c=>J d c/\∃a,GI S d c s a/\(∀x∈a,(b:Int)<=x/\x<b+e.length)/\a.length<=k) ⟨J.push d _,[],GI.nil S d,aJ,ad _⟩ ?_;rintro k s C I μ A ⟨i,a,j,m,z⟩ o
 refine dit (λq=>?_) λq=>?_
 .let⟨x,v⟩:=cq e k;refine⟨V,V,x,l.Ka i v,λr=>?_,λr=>o V _ _ ⟨i,a,j,m,V⟩⟩;rw[aS (b:=(b:Int)+k) V V];intro D;refine GI.kj j (i.fz []) t V λF E p f _ _=>o V _ _ ⟨f.ext,_,p,?_,bS⟩
  intro y c;rcases List.mem_append.1 c with c|c
  .exact m y c
  .simp at c;omega
 .exact⟨s,a,rfl,j,⟨m,V⟩,i⟩
def lA(o:∀g∈S,g<d.size)(b c:Nat)(q:b+c<=10^12):iU 65 [vi b,vi c] d S (λa=>(∀x∈a,(b:Int)<=x/\x<b+c)/\a.length=c):=by
 apply wJ;intro u;refine dE (n:=c) V (λk s e=>J d e/\∃a,GI S d e s a/\(∀x∈a,(b:Int)<=x/\x<b+c)/\a.length=k) ⟨J.push d _,[],GI.nil S d,aJ,rfl⟩ ?_;rintro k s v I μ t ⟨j,a,h,i,r⟩ p
 refine dit (λm=>?_) λm=>?_
 .rw[aS (b:=(b:Int)+k) V V];intro w;refine GI.kj h (j.fz []) o V λA z l f _ _=>p V _ _ ⟨f.ext,_,l,?_,bS⟩
  intro y e;rcases List.mem_append.1 e with e|e
  .exact i y e
  .simp at e;omega
 .exact⟨s,a,rfl,h,⟨i,V⟩,j⟩
def Gv(e:List Int):(e.map λx=>[Ce.i x]).flatten=e.map Ce.i:=by induction e<;>simp_all
def GI.set{S X:List Nat}{p d:E}{s:O}{e:List Int}(t:GI S p d s e)(M:Fz X p d){k:Nat}(B:k<e.length)(n:Int):
 fq d s.aC (s.off+k*1) 1/\GI S p (aj d s.aC (s.off+k*1) [.i n]) s (e.set k n)/\Fz X p (aj d s.aC (s.off+k*1) [.i n])/\(∀g,g≠s.aC->(aj d s.aC (s.off+k*1) [.i n])[g]? =d[g]?):=by
 have R:=t.bn
 have T:=t.len bo
 let⟨v,j,I,h⟩:=t
 have Q:∀g,g≠s.aC->(aj d s.aC (s.off+k*1) [.i n])[g]? =d[g]? :=λg L=>bh _ _ _ _ L
 let⟨g,D,tail,q,F,u,G,H⟩:=I.aQ.resolve_left v
 have N:j.flatten.length=e.length:=by rw[dp h.size,h.len];omega
 have P:j.flatten=e.map Ce.i:=by
  apply eM;intro f;rcases aX f e.length with a|a
  .let⟨x,l⟩:=dJ a;let⟨cs,y⟩:=cq j f (by rw[h.len];exact a);have z:cs=[.i x]:=h.df f cs x y l;have w:=iH (g:=1) h.size y (i:=0) (c:=.i x) (by rw[z];rfl);simp only[cT,jo]at w;rw[w];simp[l]
  .rw[bV V,bV (by simpa using a)]
 have C:s.off+k*1=k:=by rw[q];simp
 have w:s.aC=g:=by rw[q];rfl
 refine⟨?_,⟨v,(e.set k n).map λx=>[.i x],⟨?_,Or.inr ⟨g,D,tail,q,F,?_,?_,H⟩⟩,⟨by rw[dP],λcs y=>?_,λU cs x A l=>?_⟩⟩,M.aj (Or.inr R.1) _ _,Q⟩
 .rw[C,w]
  exact u.fq (by simp only[aU,aY,cE];omega)
 .rw[Gv,dP,iF];omega
 .have J:=cB.aj (m:=d) (b:=g) (r:=[.i n]) (o:=k) u
  rw[C,w,Gv]
  have K:iO (j.flatten++tail) k [.i n]=(e.set k n).map Ce.i++tail:=by
   apply eM;intro f;rw[kU,P];by_cases z:f=k
   .subst z;rw[ao ⟨ad _,aJ,bS⟩,ay (by simpa using B)];simp[B]
   .rw[ae bS];rcases aX f e.length with a|a
    .rw[ay (by simpa using a),ay (by simpa using a)];simp only[bT,dT (kE z)]
    .rw[aI (by simpa using a),aI (by simpa using a)];simp
  rw[<-K];exact J
 .rw[<-G,Gv]
  simp only[aU,N,dP,iF]
 .simp only[Xg]at y
  obtain⟨x,_,rfl⟩:=y
  rfl
 .simp only[bT,l,lF,CL]at A
  exact A.symm
def ug(k:∀g∈S,g<d.size)(o:au (bI S d) h e)(m:e.length<=10^12){a:Nat}(l:a<e.length)(n:Int):iU 149 [O.v h,vi a,vi n] d S (e.set a n=·):=by
 apply yx;refine(lL k o m).then λs _ q c b p=>⟨_,rfl,V,?_,?_⟩
 .subst b;have:=c.len bo;omega
 subst b;obtain⟨f,i,j,_⟩:=c.set (p.fz []) l n;exact⟨f,s,_,rfl,i,rfl,j.ext⟩
end
end Go.Proofs.YtdalfjkmdekijaaGreat
section
namespace Go.Vc
variable{l:List cF}{k n a:Nat}{x s:cF}{e d:List Nat}{c:Prop}
open Go.Proofs.YtdalfjkmdekijaaGreat
def Bk.ind{Q:Bk->Prop}(h:∀aE r,(∀s∈aE,∀b∈s.bH,Q b)->Q (.mk aE r)):∀b,Q b
 | .mk aE r=>h aE r λs _ b _=>Bk.ind h b
termination_by b=>SizeOf.sizeOf b
decreasing_by
 rename_i a c
 have d:=nT a
 have e:=nT c
 have f:SizeOf.sizeOf s.bH<SizeOf.sizeOf s:=by cases s;simp;omega
 simp;omega
def Ex.ind{Q:Ex->Prop}(h:∀a bM bH,(∀e∈bH,Q e)->Q (.mk a bM bH)):∀e,Q e
 | .mk a bM bH=>h a bM bH λe _=>Ex.ind h e
termination_by e=>SizeOf.sizeOf e
decreasing_by
 rename_i a
 have b:=nT a
 simp;omega
def sw(l:List cF):Nat:=(l.map LC.w).sum
def bw(l:List Bk):Nat:=(l.map Bk.w).sum
def en(l:List Ex):Nat:=(l.map Ex.n).sum
@[simp] theorem uE:sw []=0:=rfl
@[simp] theorem yH:bw []=0:=rfl
@[simp] theorem WI:en []=0:=rfl
def lZ(x:cF)(l:List cF):sw (x::l)=x.w+sw l:=by simp[sw]
def tQ(x:Bk)(l:List Bk):bw (x::l)=x.w+bw l:=by simp[bw]
def NG(x:Ex)(l:List Ex):en (x::l)=x.n+en l:=by simp[en]
def dv(a b:List cF):sw (a++b)=sw a+sw b:=by simp[sw]
def nY(a b:List Bk):bw (a++b)=bw a+bw b:=by simp[bw]
def MH(a b:List Ex):en (a++b)=en a+en b:=by simp[en]
def Bk.pY(s:List cF)(r:Int):(Bk.mk s r).w=1+sw s:=Bk.Y4 _
def Bk.k8(b:Bk):b.w=1+sw b.aE:=Bk.Y4 b
def cF.k8(s:cF):s.w=1+s.args.length+bw s.bH:=rfl
def Ex.RN(o n:Int)(k:List Ex):(Ex.mk o n k).n=1+en k:=by rw[Ex.n];rfl
def Ex.Yr(e:Ex):e.n=1+en e.bH:=by cases e;exact Ex.RN _ _ _
def pp(h:l[k]? =some x):sw (l.take (k+1))=sw (l.take k)+x.w:=by rw[bF h,dv,lZ,uE];rfl
def tR{l:List Bk}{x:Bk}(h:l[k]? =some x):bw (l.take (k+1))=bw (l.take k)+x.w:=by rw[bF h,nY,tQ,yH];rfl
def Jx{l:List Ex}{x:Ex}(h:l[k]? =some x):en (l.take (k+1))=en (l.take k)+x.n:=by rw[bF h,MH,NG,WI];rfl
def Az(l:List cF)(k:Nat):sw (l.take k)<=sw l:=by
 have:=dv (l.take k) (l.drop k);rw[dx]at this;omega
def JS(l:List Bk)(k:Nat):bw (l.take k)<=bw l:=by
 have:=nY (l.take k) (l.drop k);rw[dx]at this;omega
def Q1(l:List Ex)(k:Nat):en (l.take k)<=en l:=by
 have:=MH (l.take k) (l.drop k);rw[dx]at this;omega
def Oe(h:l[k]? =some x):x.w<=sw l:=by
 have:=pp h;have:=Az l (k+1);omega
def uo{l:List Bk}{x:Bk}(h:l[k]? =some x):x.w<=bw l:=by
 have:=tR h;have:=JS l (k+1);omega
def fw:∀l:List cF,l.length<=sw l
 |[]=>aJ
 |x::l=>by have:=fw l;rw[lZ,aY,cF.k8];omega
def Bk.Gc(b:Bk):1<=b.w:=by rw[Bk.k8];omega
def pK:∀l:List Bk,l.length<=bw l
 |[]=>aJ
 |x::l=>by have:=pK l;have:=x.Gc;rw[tQ,aY];omega
def P7:∀l:List Ex,l.length<=en l
 |[]=>aJ
 |x::l=>by have:=P7 l;rw[NG,aY,Ex.Yr];omega
def oE(a:Int):Prop:=0<=a/\a<=11
instance(a:Int):Decidable (oE a):=inferInstanceAs (Decidable (_/\_))
def dn(s:cF):Nat:=if oE s.op then 1 else 0
def dc(l:List cF):Nat:=(l.map dn).sum
@[simp] theorem sA:dc []=0:=rfl
def jW(x:cF)(l:List cF):dc (x::l)=dn x+dc l:=by simp[dc]
def cJ(a b:List cF):dc (a++b)=dc a+dc b:=by simp[dc]
def qb(h:l[k]? =some x):dc (l.take (k+1))=dc (l.take k)+dn x:=by rw[bF h,cJ,jW,sA];rfl
def SZ(l:List cF)(k:Nat):dc (l.take k)<=dc l:=by
 have:=cJ (l.take k) (l.drop k);rw[dx]at this;omega
def X0(x:cF):dn x<=1:=by unfold dn;split<;>omega
def pL:∀l:List cF,dc l<=l.length
 |[]=>aJ
 |x::l=>by have:=pL l;have:=X0 x;rw[jW,aY];omega
def AI(a:List bq)(b bM:Int)(i:Nat):Nat:=if b=8 then(cg a (((cb a bM)[i]?).getD 0)).length else 0
def Ar(b:List bq)(e:List Nat)(a bM:Int)(n:Nat):Prop:=
 if a=0 then n=0/\-999<=bM/\bM<=999
 else if a=1\/a=2\/a=3\/a=4\/a=11 then n=2/\bM=0
 else if a=5 then n=1/\bM=0
 else if a=6 then(0<=bM/\bM<(eI b).length)/\n=(cg b bM).length
 else if a=9 then 0<=bM/\e[bM.toNat]? =some n
 else if a=10 then 0<=bM/\e[bM.toNat]? =some (n+1)
 else True
structure OD(ds:List bq)(d:List Nat)(c:Prop)(a:Nat)(s:cF):Prop where
 op:oE s.op\/c/\14<=s.op/\s.op<=17
 args:∀x∈s.args,0<=x/\x<(a:Int)
 lj:14<=s.op\/s.op=7\/s.op=8->s.args.length=1
 bY:0<=s.bY/\s.bY<=(a:Int)
 Jr:s.op=7->s.bH.length=2
 all:s.op=8->s.bH.length=(cb ds s.bM).length/\0<s.bH.length
 Zi:s.bY≠0->s.op=6
 ar:Ar ds d s.op s.bM s.args.length
def Ar.call{b:List bq}{a bM:Int}(h:Ar b e a bM n)(c:a=9):0<=bM/\bM<(e.length:Int):=by
 subst c;have h:0<=bM/\e[bM.toNat]? =some n:=by simpa[Ar]using h
 have:=az h.2;omega
def Ar.ZR{b:List bq}{a bM:Int}(h:11<a):Ar b e a bM n:=by
 unfold Ar;rw[ae V,ae V,ae V,ae V,ae V,ae V];trivial
def OD.call{b:List bq}{d:List Nat}{c:Prop}{a:Nat}{s:cF}(h:OD b d c a s):s.op=9->0<=s.bM/\s.bM<(d.length:Int):=h.ar.call
inductive WB(ds:List bq)(d:List Nat)(c:Prop):Nat->Bk->Prop
 |mk {a:Nat} {aE:List cF} {r:Int} (dV:∀(i:Nat)(s:cF),aE[i]? =some s->OD ds d c (a+dc (aE.take i)) s)
  (bH:∀(i:Nat)(s:cF)(k:Nat)(b:Bk),aE[i]? =some s->s.bH[k]? =some b->WB ds d c (a+dc (aE.take i)+AI ds s.op s.bM k) b)
  (res:0<=r/\r<((a+dc aE:Nat):Int)):WB ds d c a (.mk aE r)
structure WS(ds:List bq)(d:List Nat)(c:Prop)(a:Nat)(s:cF):Prop where
 dV:OD ds d c a s
 bH:∀(k:Nat)(b:Bk),s.bH[k]? =some b->WB ds d c (a+AI ds s.op s.bM k) b
def WL(b:List bq)(d:List Nat)(c:Prop)(a:Nat)(l:List cF):Prop:=∀(i:Nat)(s:cF),l[i]? =some s->WS b d c (a+dc (l.take i)) s
def WB.bC{e:List bq}{b:Bk}(h:WB e d c a b):WL e d c a b.aE/\0<=b.aT/\b.aT<((a+dc b.aE:Nat):Int):=by
 cases h with
 |mk dV bH j=>exact⟨λi s f=>⟨dV i s f,λk b g=>bH i s k b f g⟩,j⟩
def WB.of{e:List bq}{aE:List cF}{r:Int}(h:WL e d c a aE)(j:0<=r/\r<((a+dc aE:Nat):Int)):WB e d c a (.mk aE r):=
 .mk (λi s b=>(h i s b).dV) (λi s k f b g=>(h i s b).bH k f g) j
def WL.nil(b:List bq)(d:List Nat)(c:Prop)(a:Nat):WL b d c a []:=λi s h=>by simp at h
def WL.append{f:List bq}{g:List cF}(h:WL f d c a l)(j:WL f d c (a+dc l) g):WL f d c a (l++g):=λi s e=>by
 rcases aX i l.length with b|b
 .rw[ay b]at e;rw[mN V];exact h i s e
 .rw[aI b]at e;have:=j _ s e;rw[List.take_append,dD b,cJ,<-dR];exact this
def WL.lj{e:List bq}(h:WS e d c a s):WL e d c a [s]:=λi x b=>by
 have:i=0:=by have:=az b;simp at this;omega
 subst this;simp at b;subst b;simpa using h
def WL.zg{b:List bq}(h:WL b d c a l)(e:WS b d c (a+dc l) s):WL b d c a (l++[s]):=h.append (.lj e)
def WL.take{e:List bq}(h:WL e d c a l)(k:Nat):WL e d c a (l.take k):=λi s b=>by
 rw[mS]at b;split at b
 .rw[Lu,jv V];exact h i s b
 .simp at b
def WL.drop{b:List bq}(h:WL b d c a l)(k:Nat):WL b d c (a+dc (l.take k)) (l.drop k):=λi s e=>by
 rw[rj]at e;have:=h _ s e;rw[List.take_add,cJ,<-dR]at this;exact this
end Go.Vc
end
namespace Go.Proofs.YtdalfjkmdekijaaGreat
open Go.Vc
section
variable{m:E}{d p:O}{b:cr}
def uO(b:cr)(bM:Int)(n:Nat):Prop:=∃q:da,0<=bM/\b.cy[bM.toNat]? =some q/\q.params.length=n
def Uk:cQ 9223372036854775808= -9223372036854775808:=bo
def vG(h:eY m d p b)(bM:Int)(n fX:Nat)(I:n<=9223372036854775807)(H:fX<=1):
 dA cv 180 [.agg #[O.v d,O.v p],vi bM,vi n,vi fX] m (uO b bM (n+fX)):=by
 apply BW
 simp -zeta only[aG,aF]
 intro j
 have i:J m j:=(J.aH m).aR _
 have w:∀k∈[m.size],k<j.size:=by simp[j]
 have K:=h.cy.len
 have L:=h.cy.fA
 refine(ba _ _ _ _).aK (J.aH _) w λk M o f B=>⟨_,rfl,λa=>?_,λa=>?_⟩
 .have a:=o.1 a
  rw[aS V V]at a
  let⟨q,g⟩:=cq b.cy bM.toNat
  let⟨e,x,y,l,D,E,s,g1,g2,z,A⟩:=(gT.ext (i.trans f) h.cy).aQ g
  refine⟨V,V,e,s,fV ?_ (i.trans f)⟩
  have u:=l.len
  have C:=l.fA
  simp only[aO]
  have r:(e.len:Int)=cQ ((n:Int)+(fX:Int))<->e.len=n+fX:=by
   rcases aX (n+fX) 9223372036854775808 with G|F
   .rw[aS V V];omega
   .have c:(n:Int)+(fX:Int)=9223372036854775808:=V;rw[c,Uk];omega
  rw[r,u]
  exact⟨λv=>⟨q,a.1,g,v⟩,λ⟨N,_,c,t⟩=>by rw[g]at c;simp at c;rw[c];exact t⟩
 .refine cw (λ⟨q,e,c,_⟩=>fb o a ?_) (i.trans f)
  have:=az c
  rw[aS V V]
  omega
def kK(b:cr)(p:da)(k:Nat)(i:Instr):Prop:=
 if i.op=0 then i.args.length=0/\-999<=i.bM/\i.bM<=999
 else if i.op=1\/i.op=2\/i.op=3\/i.op=4\/i.op=11 then i.args.length=2/\i.bM=0
 else if i.op=5\/i.op=14\/i.op=15\/i.op=18\/i.op=23 then i.args.length=1/\i.bM=0
 else if i.op=6 then(0<=i.bM/\i.bM<(eI b.bu).length)/\i.args.length=(cg b.bu i.bM).length/\0<=i.bY/\i.bY<=p.ax
 else if i.op=9\/i.op=24 then uO b i.bM i.args.length
 else if i.op=10 then uO b i.bM (i.args.length+1)/\∀q,b.cy[i.bM.toNat]? =some q->q.dg.length=0
 else if i.op=16\/i.op=17 then(1<=i.args.length/\i.args.length<=4)/\i.bM=0
 else if i.op=19 then i.args.length=1/\0<=i.bM/\i.bM<=2
 else if i.op=20 then i.args.length=1/\(k:Int)+1<=i.bM/\i.bM<=(p.bt.length:Int) -1
 else if i.op=22 then i.args.length=0/\(k:Int)+1<=i.bM/\i.bM<=(p.bt.length:Int) -1
 else if i.op=21 then i.args.length=1/\0<(cb b.bu i.bM).length/\Nr i.di (cb b.bu i.bM).length k p.bt.length
 else False
structure iu(b:cr)(p:da)(k:Nat)(i:Instr):Prop where
 args:∀a∈i.args,0<=a/\a<=p.ax -1
 dst:0<=i.dst/\i.dst<=p.ax -1
 UZ:i.dst=0\/jE i.op
 bY:i.bY=0\/i.op=6
 di:i.op=21\/i.di.length=0
 op:kK b p k i
structure OG(m:E)(a l:O)(c:O)(p:da):Prop where
 params:au m a p.params
 dg:au m l p.dg
 bt:dZ m c p.bt
def OG.ext{m d:E}(a:J m d){b l c:O}{p:da}(h:OG m b l c p):OG d b l c p:=⟨h.params.ext a,h.dg.ext a,dZ.ext a h.bt⟩
def DS(ai:eY m d p b)(X:dI b.bu){ab ah S:O}{q:da}(U:OG m ab ah S q)(hr:1<=q.ax/\q.ax<=2000){k:Nat}{i:Instr}(hk:q.bt[k]? =some i):
 dA cv 135 [.agg #[O.v d,O.v p],.agg #[O.v ab,O.v ah,vi q.aT,vi q.ax,O.v S],vi k] m (iu b q k i):=by
 apply yp
 simp -zeta only[aG,aF]
 intro m1 N
 have Z:J m N:=((J.aH m).aR _).aR _
 have aI:=az hk
 have ac:=U.bt.len
 have aC:=U.bt.fA
 let⟨xa,M,P,hj,g0,g1,g2,g3,g4,g5⟩:=(dZ.ext Z U.bt).aQ hk
 refine⟨V,V,_,g0,_,g1,_,g2,_,g3,_,g4,_,g5,?_⟩
 intro m3 z
 have r:J m z:=(Z.aR _).aj Z.size _ _
 have ag:J N z:=((J.aH N).aR _).aj (ad _) _ _
 have v:∀A∈[N.size,m1.size,m.size],A<z.size:=by
  simp[z,m3,N,m1,aD];omega
 clear_value z
 have T:=P.len
 have aH:=hj.len
 have ay:=P.fA
 have er:cQ (q.ax -1)=q.ax -1:=aS V V
 rw[er]
 refine eu (n:=i.args.length) (T▸P.fA) (λaa s=>J z s/\∀x∈i.args.take aa,0<=x/\x<=q.ax -1) ⟨J.aH _,aJ⟩ ?_
 rintro aa m5 aw μ aE ⟨Y,hn⟩ ar
 refine dit (λh1=>?_) λh1=>?_
 .let⟨x,a⟩:=cq i.args aa
  refine⟨V,V,x,by simpa using(ag.trans Y).af (P.aQ a),?_⟩
  exact(ba _ _ _ _).aK Y v λA w e g f=>⟨_,rfl,λc=>cw (λh=>nb e c (h.args x (av a))) (r.trans f),λc=>ar V _ ⟨f,bN a hn (yb e c)⟩⟩
 .have aj:=cU V hn
  refine⟨λs=>J z s/\(0<=i.dst/\i.dst<=q.ax -1)/\(i.dst=0\/jE i.op)/\(i.bY=0\/i.op=6)/\(i.op=21\/i.di.length=0),?_,?_⟩
  .refine(ba _ _ _ _).aK Y v λA w e g f=>⟨_,rfl,λc=>cw (λh=>nb e c h.dst) (r.trans f),λc=>?_⟩
   have R:=yb e c
   have tail:∀s:E,J z s->(i.dst=0\/jE i.op)->
    ((i.bY !=0)=true->((i.op !=6)=true->∃B:Bool,vb false=.bool B/\(B=true<->iu b q k i)/\J m s)/\((i.op !=6)=false->
     ((i.op !=21)=true->((decide ((M.len:Int)>0))=true->∃B:Bool,vb false=.bool B/\(B=true<->iu b q k i)/\J m s)/\((decide ((M.len:Int)>0))=false->J z s/\(0<=i.dst/\i.dst<=q.ax -1)/\(i.dst=0\/jE i.op)/\(i.bY=0\/i.op=6)/\(i.op=21\/i.di.length=0)))/\
     ((i.op !=21)=false->J z s/\(0<=i.dst/\i.dst<=q.ax -1)/\(i.dst=0\/jE i.op)/\(i.bY=0\/i.op=6)/\(i.op=21\/i.di.length=0))))/\
    ((i.bY !=0)=false->
     ((i.op !=21)=true->((decide ((M.len:Int)>0))=true->∃B:Bool,vb false=.bool B/\(B=true<->iu b q k i)/\J m s)/\((decide ((M.len:Int)>0))=false->J z s/\(0<=i.dst/\i.dst<=q.ax -1)/\(i.dst=0\/jE i.op)/\(i.bY=0\/i.op=6)/\(i.op=21\/i.di.length=0)))/\
     ((i.op !=21)=false->J z s/\(0<=i.dst/\i.dst<=q.ax -1)/\(i.dst=0\/jE i.op)/\(i.bY=0\/i.op=6)/\(i.op=21\/i.di.length=0))):=by
    intro s l Q
    have u:(i.bY=0\/i.op=6)->((i.op !=21)=true->((decide ((M.len:Int)>0))=true->∃B:Bool,vb false=.bool B/\(B=true<->iu b q k i)/\J m s)/\((decide ((M.len:Int)>0))=false->J z s/\(0<=i.dst/\i.dst<=q.ax -1)/\(i.dst=0\/jE i.op)/\(i.bY=0\/i.op=6)/\(i.op=21\/i.di.length=0)))/\
     ((i.op !=21)=false->J z s/\(0<=i.dst/\i.dst<=q.ax -1)/\(i.dst=0\/jE i.op)/\(i.bY=0\/i.op=6)/\(i.op=21\/i.di.length=0)):=by
     intro t
     refine⟨λa=>⟨λj=>?_,λj=>?_⟩,λa=>?_⟩
     .simp at a j
      exact cw (λh=>by rcases h.di with o|o<;>omega) (r.trans l)
     .simp at j
      exact⟨l,R,Q,t,Or.inr V⟩
     .simp at a
      exact⟨l,R,Q,t,Or.inl a⟩
    refine⟨λa=>⟨λj=>?_,λj=>u (Or.inr (by simpa using j))⟩,λa=>u (Or.inl (by simpa using a))⟩
    simp at a j
    exact cw (λh=>by rcases h.bY with o|o<;>contradiction) (r.trans l)
   refine⟨λa=>?_,λa=>tail w f (Or.inl (by simpa using a))⟩
   refine(rV _ _).aK f v λA x e j o=>⟨_,rfl,λG=>?_,λG=>tail x o (Or.inr (yb e G))⟩
   simp at a
   exact cw (λh=>by rcases h.UZ with I|I;exact a I;exact nb e G I) (r.trans o)
  .rintro m8 ⟨x,R,Q,am,an⟩
   have y:=r.trans x
   have al:iu b q k i<->kK b q k i:=⟨λh=>h.op,λh=>⟨aj,R,Q,am,an,h⟩⟩
   rw[al]
   have K:eY m8 d p b:=eY.ext y ai
   refine⟨λt=>?_,λt=>?_⟩
   .simp only[aO]at t
    have h:kK b q k i<->i.args.length=0/\-999<=i.bM/\i.bM<=999:=by rw[kK,ao t]
    rw[h]
    refine⟨λg=>?_,λg=>?_⟩
    .simp only[aO]at g
     refine(ba _ _ _ _).aK x v λA H e f c=>⟨_,rfl,fV ?_ (r.trans c)⟩
     rw[e];omega
    .simp only[ap]at g
     exact cw V y
   simp only[ap]at t
   refine⟨λu=>?_,λu=>?_⟩
   .simp only[cD,aO]at u
    have h:kK b q k i<->i.args.length=2/\i.bM=0:=by rw[kK,ae t,ao u]
    rw[h]
    refine⟨λg=>fV ?_ y,λg=>cw ?_ y⟩
    .simp only[aO]at g⊢;omega
    .simp only[ap]at g;omega
   simp only[bW,ap]at u
   replace u:¬(i.op=1\/i.op=2\/i.op=3\/i.op=4\/i.op=11):=V
   refine⟨λw=>?_,λw=>?_⟩
   .simp only[cD,aO]at w
    have h:kK b q k i<->i.args.length=1/\i.bM=0:=by rw[kK,ae t,ae u,ao w]
    rw[h]
    refine⟨λg=>fV ?_ y,λg=>cw ?_ y⟩
    .simp only[aO]at g⊢;omega
    .simp only[ap]at g;omega
   simp only[bW,ap]at w
   replace w:¬(i.op=5\/i.op=14\/i.op=15\/i.op=18\/i.op=23):=V
   refine⟨λC=>?_,λC=>?_⟩
   .simp only[aO]at C
    have h:kK b q k i<->(0<=i.bM/\i.bM<(eI b.bu).length)/\i.args.length=(cg b.bu i.bM).length/\0<=i.bY/\i.bY<=q.ax:=by rw[kK,ae t,ae u,ae w,ao C]
    rw[h]
    refine(lK K.bu X _).aK x v ?_
    rintro _ H ⟨aA,rfl,D,f⟩
    refine⟨f,_,rfl,dit (λc=>?_) λc=>?_⟩
    .have ak:0<=i.bM/\i.bM<(eI b.bu).length:=by
      rcases D with⟨F,L,a,j,o,G⟩|⟨a,_⟩
      .have:=Q2 b.bu (show F+1<=b.bu.length from az j);rw[rL j,nI b.bu _ (ad _)]at this;omega
      .omega
     refine(Fg (bZ.ext f K.bu) X _).aK (x.trans f) v ?_
     rintro _ aq ⟨au,rfl,W,a⟩
     have af:=W.len
     refine⟨a,_,rfl,λj=>?_,λj=>?_⟩
     .simp only[aO]at j
      refine(ba _ _ _ _).aK ((x.trans f).trans a) v λA ax e o G=>⟨_,rfl,fV ?_ (r.trans G)⟩
      rw[e]
      exact⟨λl=>⟨ak,V,l⟩,λl=>l.2.2⟩
     .simp only[ap]at j
      exact cw (λl=>j V) ((y.trans f).trans a)
    .refine cw (λl=>?_) (y.trans f)
     rcases D with⟨F,L,a,j,o,G⟩|⟨_,a⟩
     .omega
     .exact a l.1
   simp only[ap]at C
   refine⟨λD=>?_,λD=>?_⟩
   .simp only[cD,aO]at D
    have h:kK b q k i<->uO b i.bM (i.args.length+0):=by rw[kK,ae t,ae u,ae w,ae C,ao D];rfl
    rw[h]
    have L:=vG K i.bM i.args.length 0 V V
    rw[T]
    refine L.aK x v λA H e f c=>⟨_,rfl,fV e (r.trans c)⟩
   simp only[bW,ap]at D
   replace D:¬(i.op=9\/i.op=24):=V
   refine⟨λF=>?_,λF=>?_⟩
   .simp only[aO]at F
    have h:kK b q k i<->uO b i.bM (i.args.length+1)/\∀q,b.cy[i.bM.toNat]? =some q->q.dg.length=0:=by rw[kK,ae t,ae u,ae w,ae C,ae D,ao F]
    rw[h]
    have L:=vG K i.bM i.args.length 1 V V
    rw[T]
    refine L.aK x v λA H e f c=>⟨_,rfl,λa=>?_,λa=>cw (λl=>fb e a l.1) (r.trans c)⟩
    let⟨q',j,o,G⟩:=(e.1 a)
    let⟨a',B,c',ax,ak,aB,f0,f1,f2,f3,f4⟩:=(gT.ext f K.cy).aQ o
    have:=K.cy.len
    have:=az o
    refine⟨V,V,B,f1,fV ?_ (r.trans c)⟩
    have aA:=ak.len
    simp only[aO]
    refine⟨λl=>⟨⟨q',j,o,G⟩,λaK I=>?_⟩,λl=>?_⟩
    .rw[o]at I;simp at I;subst I;omega
    .have:=l.2 q' o;omega
   simp only[ap]at F
   refine⟨λB=>?_,λB=>?_⟩
   .simp only[cD,aO]at B
    have h:kK b q k i<->(1<=i.args.length/\i.args.length<=4)/\i.bM=0:=by rw[kK,ae t,ae u,ae w,ae C,ae D,ae F,ao B]
    rw[h]
    refine(ba _ _ _ _).aK x v λA H e f c=>⟨_,rfl,λa=>fV ?_ (r.trans c),λa=>cw ?_ (r.trans c)⟩
    .have a:=e.1 a
     simp only[aO];omega
    .have a:=fb e a;omega
   simp only[bW,ap]at B
   replace B:¬(i.op=16\/i.op=17):=V
   refine⟨λG=>?_,λG=>?_⟩
   .simp only[aO]at G
    have h:kK b q k i<->i.args.length=1/\0<=i.bM/\i.bM<=2:=by rw[kK,ae t,ae u,ae w,ae C,ae D,ae F,ae B,ao G]
    rw[h]
    refine⟨λg=>?_,λg=>?_⟩
    .simp only[aO]at g
     refine(ba _ _ _ _).aK x v λA H e f c=>⟨_,rfl,fV ?_ (r.trans c)⟩
     rw[e];omega
    .simp only[ap]at g
     exact cw V y
   simp only[ap]at G
   have ek:cQ ((k:Int)+1)=(k:Int)+1:=aS V V
   have ec:cQ ((S.len:Int) -1)=(q.bt.length:Int) -1:=by rw[aS V V,ac]
   rw[ek,ec]
   refine⟨λI=>?_,λI=>?_⟩
   .simp only[aO]at I
    have h:kK b q k i<->i.args.length=1/\(k:Int)+1<=i.bM/\i.bM<=(q.bt.length:Int) -1:=by rw[kK,ae t,ae u,ae w,ae C,ae D,ae F,ae B,ae G,ao I]
    rw[h]
    refine⟨λg=>?_,λg=>?_⟩
    .simp only[aO]at g
     refine(ba _ _ _ _).aK x v λA H e f c=>⟨_,rfl,fV ?_ (r.trans c)⟩
     rw[e];omega
    .simp only[ap]at g
     exact cw V y
   simp only[ap]at I
   refine⟨λL=>?_,λL=>?_⟩
   .simp only[aO]at L
    have h:kK b q k i<->i.args.length=0/\(k:Int)+1<=i.bM/\i.bM<=(q.bt.length:Int) -1:=by rw[kK,ae t,ae u,ae w,ae C,ae D,ae F,ae B,ae G,ae I,ao L]
    rw[h]
    refine⟨λg=>?_,λg=>?_⟩
    .simp only[aO]at g
     refine(ba _ _ _ _).aK x v λA H e f c=>⟨_,rfl,fV ?_ (r.trans c)⟩
     rw[e];omega
    .simp only[ap]at g
     exact cw V y
   simp only[ap]at L
   refine⟨λg=>?_,λg=>?_⟩
   .simp only[aO]at g
    have h:kK b q k i<->i.args.length=1/\0<(cb b.bu i.bM).length/\Nr i.di (cb b.bu i.bM).length k q.bt.length:=by rw[kK,ae t,ae u,ae w,ae C,ae D,ae F,ae B,ae G,ae I,ae L,ao g]
    rw[h]
    refine(zo K.bu X _).aK x v ?_
    rintro _ H ⟨au,rfl,W,f⟩
    have af:=W.len
    refine⟨f,_,rfl,λc=>?_,λc=>?_⟩
    .simp only[aO]at c
     refine dit (λa=>?_) λa=>?_
     .rw[af,ac]
      refine(DT (hj.ext (ag.trans (x.trans f))) _ _ _ V V).aK (x.trans f) v λA aq e j o=>⟨_,rfl,fV ?_ (r.trans o)⟩
      rw[e]
      exact⟨λl=>⟨V,V,l⟩,λl=>l.2.2⟩
     .exact cw (λl=>V) (y.trans f)
    .simp only[ap]at c
     exact cw (λl=>V) (y.trans f)
   .simp only[ap]at g
    have h:kK b q k i<->False:=by rw[kK,ae t,ae u,ae w,ae C,ae D,ae F,ae B,ae G,ae I,ae L,ae g]
    rw[h]
    exact cw (λl=>l) y
end
section
variable{a:E}{d p:O}{b:cr}
structure JM(ds:List bq)(ps:List da):Prop where
 types:dI ds
 len:1<=ps.length/\ps.length<=4
 df:∀p∈ps,p.params.length<=3/\Eg ds.length p.params/\yA ds.length p.aT
 first:∀p,ps[0]? =some p->p.params.length=0/\p.aT=0
def nV(a:E)(c:List Ce)(p:da):Prop:=∃b,c=[.s b,.i p.aT,.i 0,.i 0,.s .nil]/\au a b p.params
def nV.ext{a d:E}(h:J a d)(b:List Ce)(c:da):nV a b c->nV d b c:=λ⟨f,e,g⟩=>⟨f,e,g.ext h⟩
def Ss.aQ{s:O}{l:List da}(h:eO a 5 (nV a) s l){k:Nat}{x:da}(e:l[k]? =some x):
 ∃b,au a b x.params/\af a s.aC (s.off+k*5)=some (O.v b)/\af a s.aC (s.off+k*5+1)=some (vi x.aT)/\af a s.aC (s.off+k*5+2)=some (vi 0)/\af a s.aC (s.off+k*5+3)=some (vi 0)/\af a s.aC (s.off+k*5+4)=some (O.v .nil):=by
 obtain⟨f,⟨b,rfl,d⟩,c⟩:=h.jD k x e
 exact⟨b,d,c 0 (.s b) rfl,c 1 (.i x.aT) rfl,c 2 (.i 0) rfl,c 3 (.i 0) rfl,c 4 (.s .nil) rfl⟩
def uf{D:O}{k:List bq}{j:List da}(hd:bZ a d k)(y:eO a 5 (nV a) D j):
 dA cv 82 [.agg #[O.v d,O.v D]] a (JM k j):=by
 apply Ax
 simp -zeta only[aG,aF]
 intro q
 have o:J a q:=(J.aH a).aR _
 have z:∀g∈[a.size],g<q.size:=by simp[q]
 have m:=hd.len
 have aa:=y.len
 refine(DW (bZ.ext o hd)).aK (J.aH _) z λg m2 c N Q=>⟨_,rfl,λv=>cw (λb=>nb c v b.types) (o.trans N),λv=>?_⟩
 have T:=yb c v
 refine(ba _ _ _ _).aK Q z λg m3 c Z H=>⟨_,rfl,λw=>cw (λb=>nb c w (oh b.len)) (o.trans H),λw=>?_⟩
 have ab:=yb c w
 refine eu (n:=j.length) V (λB e=>J q e/\∀p∈j.take B,p.params.length<=3/\Eg k.length p.params/\yA k.length p.aT) ⟨H,aJ⟩ ?_
 rintro B C X μ hj ⟨A,K⟩ W
 have f:=o.trans A
 refine dit (λR=>?_) λR=>?_
 .let⟨p,e⟩:=cq j B
  let⟨M,l,s,g1,g2,E,F⟩:=Ss.aQ (y.mono f (nV.ext f)) e
  have S:=l.len
  refine⟨V,V,_,s,_,g1,_,g2,_,E,_,F,?_⟩
  intro L r
  have i:J C r:=((J.aH C).aR _).aj (ad _) _ _
  have I:∀g∈[C.size,a.size],g<r.size:=by
   have:=A.lt (z a.size aJ);have:=i.size;simp[r,L,aD];simp[r,L,aD]at this;omega
  refine dit (λh=>?_) λh=>?_
  .exact cw (λb=>oh ((b.df p (av e)).1)) (f.trans i)
  refine(vm (l.ext i) _).aK (J.aH _) I λg m7 c x P=>⟨_,rfl,λt=>cw (λb=>nb c t (m▸(b.df p (av e)).2.1)) ((f.trans i).trans x),λt=>?_⟩
  have U:=yb c t
  refine(ba _ _ _ _).aK P I λg m8 c Y G=>⟨_,rfl,λu=>?_,λu=>?_⟩
  .refine cw (λb=>nb c u ?_) ((f.trans i).trans G)
   rw[m];exact(b.df p (av e)).2.2
  .refine W V _ ⟨(A.trans i).trans G,bN e K ⟨V,m▸U,?_⟩⟩
   have:=yb c u
   rw[m]at this;exact this
 .have r:=cU V K
  let⟨p,e⟩:=cq j 0
  let⟨M,l,s,g1,g2,E,F⟩:=Ss.aQ (y.mono f (nV.ext f)) e
  have S:=l.len
  refine⟨V,V,_,s,λh=>?_,λh=>?_⟩
  .simp only[aO]at h
   refine⟨V,V,_,g1,fV ?_ f⟩
   simp only[aO]
   refine⟨λx=>⟨T,V,r,λt i=>?_⟩,λb=>(b.first p e).2⟩
   rw[e]at i;simp at i;subst i
   exact⟨V,x⟩
  .simp only[ap]at h
   exact cw (λb=>h (oh ((b.first p e).1))) f
def Cc(M:eY a d p b)(ap:b.cy.length<=4):
 aP cv 83 [.agg #[O.v d,O.v p]] a λal j=>∃L,al=.agg #[O.v d,O.v L]/\eO j 5 (nV j) L b.cy/\J a j:=by
 apply wM
 simp -zeta only[aG,aF]
 intro q k e K l
 have aq:=M.cy.len
 have ah:J a K:=(((J.aH a).aR _).aR _|>.aR _).aR _
 have s3:e.size=a.size+3:=by simp[e,k,q]
 have s2:k.size=a.size+2:=by simp[k,q]
 have s1:q.size=a.size+1:=by simp[q]
 have s5:l.size=a.size+4:=by simp[l,K,aD,s3]
 have ai:J a l:=ah.aj V _ _
 have aa:cB l e.size jU [.s d,.s (.mk k.size 0 0 0)]:=cB.aj (m:=K) (o:=0) (r:=[.s d,.s (.mk k.size 0 0 0)]) (cB.push e _ _)
 have ag:J e l:=((J.aH e).aR _).aj (ad _) _ _
 have ae:gS a l eW 5 (.mk k.size 0 0 0) ([]:List (List Ce)).flatten:=
  (gS.new (((J.aH a).aR _).aR _:J a k) eW 5 [] 0 aJ:gS a e eW 5 (.mk k.size 0 0 0) []).ext ag
 clear_value l
 refine eu (n:=b.cy.length) V (λC j=>J a j/\l.size<=j.size/\∃g w,cB j e.size jU [.s d,.s g]/\gS a j eW 5 g w.flatten/\gU 5 (nV a) w (b.cy.take C)/\g≠.nil/\q.size<g.aC/\g.aC≠e.size/\g.len=C)
  ⟨ai,ad _,_,[],aa,ae,by simpa using gU.nil 5 (nV a),aJ,bS,bS,rfl⟩ ?_
 rintro C z am μ hk ⟨A,ax,g,w,x,P,I,au,ar,af,R⟩ ak
 refine dit (λT=>?_) λT=>?_
 .let⟨D,Q⟩:=cq b.cy C
  let⟨s,c,an,Z,f,hc,S,g1,g2,g3,g4⟩:=M.cy.aQ Q
  refine⟨g,x.cK 1,V,V,s,by simpa using A.af S,V,V,_,by simpa using A.af g2,?_⟩
  intro h
  have B:J z h:=J.push _ _
  refine⟨B.dB (x.cK 1),?_⟩
  have kZ:gN h z.size 0 [.s s,.i D.aT,.i 0,.i 0,.s .nil]:=(cB.push z _ _).jD
  have ac:=x.ext B
  have av:h.size=z.size+1:=by simp[h]
  clear_value h
  refine gS.append (zs:=[.s .nil,.i 0,.i 0,.i 0,.s .nil]) (d:=[.s s,.i D.aT,.i 0,.i 0,.s .nil]) (P.ext B) (A.trans B) rfl kZ (by simp[R];omega) ?_
  intro v t X Y F ao U W
  have E:∀c,c<h.size->c≠g.aC->t[c]? =h[c]? :=λc f G=>U c f (λ_=>G)
  have y:q.size<v.aC/\v.aC≠e.size:=by
   rcases W with⟨_,i⟩|⟨_,i,_⟩|i
   .rw[i]at F;simp at F
   .rw[i];constructor<;>omega
   .rw[i];constructor<;>omega
  have N:cB t e.size jU [.s d,.s g]:=ac.congr (E _ V (λi=>af i.symm))
  refine⟨λc f=>?_,N.fq aJ,?_⟩
  .simp at f
   rcases f with rfl|rfl
   .exact E _ V V
   .exact E _ V V
  intro u
  have aw:u.size=t.size:=by simp[u,aD]
  have ab:cB u e.size jU [.s d,.s v]:=cB.aj (m:=t) (o:=1) (r:=[.s v]) N
  have H:∀c,c≠e.size->u[c]? =t[c]? :=λc f=>bh _ _ _ _ f
  have aj:J a u:=Y.aj V _ _
  clear_value u
  refine⟨λc f=>?_,?_⟩
  .simp at f
   rcases f with rfl|rfl
   .exact H _ V
   .exact H _ V
  refine ak V _ ⟨aj,V,v,w++[[.s s,.i D.aT,.i 0,.i 0,.s .nil]],ab,?_,?_,?_,y.1,y.2,by simp[F,R]⟩
  .rw[xB]
   exact(by simpa using X:gS a t eW 5 v (w.flatten++[[.s s,.i D.aT,.i 0,.i 0,.s .nil]].flatten)).congr (H _ y.2)
  .rw[bF Q]
   exact I.zg rfl ⟨s,rfl,Z⟩
  .intro i
   rw[i]at y;simp at y
 .refine⟨d,x.cK 0,g,x.cK 1,?_⟩
  intro h
  have G:∀c,c≠q.size->h[c]? =z[c]? :=λc f=>bh _ _ _ _ f
  have i:J a h:=A.aj V _ _
  refine⟨g,rfl,?_,i⟩
  rw[cG V]at I
  exact(eO.gG (P.congr (G _ V)) I V V).mono (J.aH _) (nV.ext i)
structure QN(B:Int)(b:cr)(p:da):Prop where
 dg:CP p.params p.dg
 ax:(p.params.length:Int)<=p.ax/\1<=p.ax/\p.ax<=B
 len:1<=p.bt.length/\(p.bt.length:Int)<=B
 df:∀(k:Nat)(i:Instr),p.bt[k]? =some i->iu b p k i
 yU:∀i,p.bt[p.bt.length -1]? =some i->i.op=23\/i.op=24
abbrev PT:=QN 2000
def FT(N:eY a d p b)(T:dI b.bu){C K w:O}{q:da}(m:OG a C K w q):
 dA cv 84 [.agg #[O.v d,O.v p],.agg #[O.v C,O.v K,vi q.aT,vi q.ax,O.v w]] a (PT b q):=by
 apply Av
 simp -zeta only[aG,aF]
 intro L u
 have j:J a u:=((J.aH a).aR _).aR _
 have v:∀o∈[L.size,a.size],o<u.size:=by simp[u,L];omega
 clear_value u
 have aa:=m.params.len
 have ab:=m.bt.len
 refine(ue (m.params.ext j) (m.dg.ext j)).aK (J.aH _) v λo m3 e P R=>⟨_,rfl,λy=>cw (λf=>nb e y f.dg) (j.trans P),λy=>?_⟩
 have G:=yb e y
 refine(ba _ _ _ _).aK R v λo m4 e h4 D=>⟨_,rfl,λz=>?_,λz=>?_⟩
 .refine cw (λf=>nb e z ?_) (j.trans D)
  have:=f.ax
  split<;>omega
 have S:=yb e z
 refine(ba _ _ _ _).aK D v λo m5 e h7 E=>⟨_,rfl,λA=>cw (λf=>nb e A (oh f.len)) (j.trans E),λA=>?_⟩
 have ad:=yb e A
 have B:(q.params.length:Int)<=q.ax/\1<=q.ax/\q.ax<=2000:=by
  split at S<;>omega
 refine eu (n:=q.bt.length) V (λt U=>J u U/\∀(k:Nat)(i:Instr),k<t->q.bt[k]? =some i->iu b q k i) ⟨E,aJ⟩ ?_
 rintro t m6 X μ hj ⟨I,H⟩ W
 have r:=j.trans I
 refine dit (λQ=>?_) λQ=>?_
 .let⟨i,h⟩:=cq q.bt t
  refine(DS (eY.ext r N) T (m.ext r) B.2 h).aK I v λo Y e l g=>⟨_,rfl,λx=>cw (λf=>nb e x (f.df t i h)) (j.trans g),λx=>?_⟩
  refine W V _ ⟨g,λk s M c=>?_⟩
  by_cases F:k=t
  .subst F
   rw[h]at c;simp at c;subst c
   exact yb e x
  .exact H k s V c
 .let⟨i,h⟩:=cq q.bt (q.bt.length -1)
  let⟨xa,xj,ha,ac,x,g1,g2,Y,Z,g5⟩:=(dZ.ext r m.bt).aQ h
  have M:cQ ((w.len:Int) -1)=((q.bt.length -1:Nat):Int):=by rw[aS V V];omega
  rw[M]
  have F:∀(k:Nat)(i:Instr),q.bt[k]? =some i->iu b q k i:=λk s c=>H k s (oh (az c)) c
  refine⟨V,V,_,by simpa using x,λl=>?_,λl=>?_⟩
  .simp only[aO]at l
   refine jt ⟨G,B,V,F,λs c=>?_⟩ r
   rw[h]at c;simp at c;subst c
   exact Or.inl l
  .simp only[ap]at l
   refine⟨V,V,_,by simpa using x,fV ?_ r⟩
   simp only[aO]
   refine⟨λg=>⟨G,B,V,F,λs c=>?_⟩,λf=>?_⟩
   .rw[h]at c;simp at c;subst c
    exact Or.inr g
   .rcases f.yU i h with g|g
    .exact absurd g l
    .exact g
structure qQ(B:Int)(b:cr):Prop where
 pA:JM b.bu b.cy
 df:∀p∈b.cy,QN B b p
 fA:B<=1000000
abbrev Ej:=qQ 2000
def sV(h:eY a d p b):dA cv 41 [.agg #[O.v d,O.v p]] a (Ej b):=by
 apply yo;simp -zeta only[aG,aF];intro g;have e:J a g:=(J.aH a).aR _;have m:∀i∈[a.size],i<g.size:=by simp[g]
 clear_value g;have Q:=h.cy.len;refine dit (λC=>?_) λC=>?_
 .exact cw (λf=>oh f.pA.len) e
 refine(Cc (eY.ext e h) V).aK (J.aH _) m ?_;rintro _ R ⟨y,rfl,G,j⟩;refine⟨j,d,y,rfl,?_⟩;refine(uf (bZ.ext (e.trans j) h.bu) G).aK j m λi S c M t=>⟨_,rfl,λk=>cw (λf=>nb c k f.pA) (e.trans t),λk=>?_⟩;have w:=yb c k;refine eu (n:=b.cy.length) V (λr l=>J g l/\∀s∈b.cy.take r,PT b s) ⟨t,aJ⟩ ?_;rintro r T I μ P ⟨x,v⟩ H
 have q:=e.trans x;refine dit (λD=>?_) λD=>?_
 .let⟨s,o⟩:=cq b.cy r;let⟨K,i,L,E,c,F,z,g1,g2,A,B⟩:=(gT.ext q h.cy).aQ o;refine⟨V,V,_,z,_,g1,_,g2,_,A,_,B,?_⟩;exact(FT (eY.ext q h) w.types ⟨E,c,F⟩).aK x m λi U c N u=>⟨_,rfl,λl=>cw (λf=>nb c l (f.df s (av o))) (e.trans u),λl=>H V _ ⟨u,bN o v (yb c l)⟩⟩
 .exact jt ⟨w,cU V v,bo⟩ q
end
section
variable{m:E}{s:O}{l:List Int}
def eO.UU{α:Type}{c:Nat}{R:List Ce->α->Prop}{l:List α}(h:eO m c R s l){k:Nat}(n:k<=l.length):eO m c R (s.cut 0 k c) (l.take k):=by
 have b:=h.len;have e:=h.cap;have g:=h.fA;cases s with
 |nil=>
  simp at b;have:k=0:=V;subst this;exact⟨by simp[O.cut],by simp[O.cut],by simp[O.cut],aJ⟩
 |CS d o a=>
  simp at b;have:k=0:=V;subst this;exact⟨by simp[O.cut],by simp[O.cut],by simp[O.cut],aJ⟩
 |mk d o p i=>
  simp only[O.dU,O.ND]at b e g;refine⟨by simp[O.cut];omega,by simp[O.cut];omega,by simp[O.cut];omega,λj x a=>?_⟩;have f:j<k:=by have:=az a;simp at this;omega
  rw[mS,ao f]at a;have:=h.jD j x a;simpa[O.cut]using this
def oQ(bu:O)(t:Int)(m:E):dA cv 142 [O.v bu,vi t] m (yA bu.len t):=by
 apply EH;refine⟨λh=>fV ?_ (J.aH _),λh=>cw ?_ (J.aH _)⟩<;>simp at h
 .simp[yA,h]
 .unfold yA;omega
def uW{g:O}(b:au m g l)(bu:O):dA cv 141 [O.v bu,O.v g] m (Eg bu.len l):=by
 apply Ba;have i:=b.len;refine eu (n:=l.length) (i▸b.fA) (λk a=>J m a/\∀t∈l.take k,yA bu.len t) ⟨J.aH _,aJ⟩ ?_;rintro k r I μ q ⟨a,f⟩ o
 refine dit (λh=>?_) λh=>?_
 .let⟨x,c⟩:=cq l k;refine⟨V,V,x,by simpa using a.af (b.aQ c),?_⟩;exact(oQ _ _ _).then λp s e d=>⟨_,rfl,λh=>cw (λj=>nb e h (j x (av c))) (a.trans d),λh=>o V _ ⟨a.trans d,bN c f (yb e h)⟩⟩
 .exact jt (cU V f) a
def qB(a:Int)(m:E)(d:a≠7/\a≠8):dA cv 87 [vi a] m (jE a):=by
 apply uZ;refine⟨λh=>⟨λc=>jt ?_ (J.aH _),λc=>⟨λb=>jt ?_ (J.aH _),λb=>fV ?_ (J.aH _)⟩⟩,λh=>⟨λb=>jt ?_ (J.aH _),λb=>fV ?_ (J.aH _)⟩⟩<;>simp[jE]at* <;>omega
def uX{bu:O}{a:List bq}(hd:bZ m bu a)(s:a.length<=4)(k:∀d∈a,d.cons.length<=3):LA cv 143 [O.v bu] m (vi (eI a).length):=by
 apply Bb;simp -zeta only[aG,aF];have q:=hd.len;refine dE (n:=a.length) V (λj f b=>J m b/\f=(fc a j:Nat)/\fc a j<=3*j) ⟨J.aH _,by cases a<;>rfl,by cases a<;>simp[fc]⟩ ?_;rintro j f t I μ r ⟨c,rfl,p⟩ l
 refine dit (λi=>?_) λi=>?_
 .let⟨d,b⟩:=cq a j;let⟨g,e,h,g1,g2⟩:=(bZ.ext c hd).aQ b;refine⟨V,V,_,h,_,g1,g,g2,?_⟩;intro u v;have o:=k d (av b);refine l V _ _ ⟨(c.aR _).aj c.size _ _,?_,?_⟩
  .rw[aS V (oh e.len),rL b,e.len];rfl
  .rw[rL b];omega
 .refine⟨?_,c⟩;rw[nI a j V]
def QU{a:List bq}(h:dI a):∀d∈a,d.cons.length<=3:=λd hd=>by
 let⟨k,b⟩:=List.mem_iff_getElem?.1 hd;exact kO h b
def Q3:∀(a:List bq)(k:Nat),(eI (a.take k)).length=fc a k
 |[],k=>by simp[eI,Qa]
 |d::a,0=>by simp[eI,fc]
 |d::a,k+1=>by
  have:=Q3 a k;simp only[Mr,eI,lO,aU,fc]at this⊢;omega
def Kj{bu:O}{a:List bq}(hd:bZ m bu a)(c:dI a)(t:Int):aP cv 144 [O.v bu,vi t] m λI b=>∃s,I=O.v s/\au b s (cb a t)/\J m b:=by
 apply EE;have S:=hd.len;have R:=hd.cap;have g:∀(h:¬(1<=t/\t<=a.length)),au m .nil (cb a t):=λh=>by
  unfold cb;rw[ae h];exact⟨rfl,ad _,aJ,aJ⟩
 have:=c.len;refine dit (λh=>?_) λh=>?_
 .exact⟨_,rfl,g V,J.aH _⟩
 refine dit (λx=>?_) λx=>?_
 .exact⟨_,rfl,g V,J.aH _⟩
 have r:cQ (t -1)=((t.toNat -1:Nat):Int):=by rw[aS V V];omega
 rw[r];let⟨d,e⟩:=cq a (t.toNat -1);have u:cb a t=(List.range d.cons.length).map λi=>((fc a (t.toNat -1)+i:Nat):Int):=by
  unfold cb;rw[ao V,e];rfl
 rw[u];have P:=sC c (t.toNat -1);have Q:=kO c e;refine⟨V,V,V,?_⟩;have C:bZ m (bu.cut 0 (t.toNat -1) 3) (a.take (t.toNat -1)):=eO.UU hd V;have f:=uX C bS (λd hd=>QU c d (dq hd));rw[Q3]at f;refine f.then λF p=>⟨_,rfl,?_⟩;let⟨w,D,L,g1,g2⟩:=(bZ.ext p hd).aQ e;have T:=D.len;refine⟨V,V,w,by simpa using g2,?_⟩;refine dE (n:=d.cons.length) V (λj s b=>J m b/\gS m b aA 1 s (((List.range j).map λi=>((fc a (t.toNat -1)+i:Nat):Int)).map Ce.i)/\s.len=j) ⟨p,by simpa using gS.nil m F aA 1,rfl⟩ ?_;rintro j s G K μ U ⟨o,k,l⟩ H
 refine dit (λy=>?_) λy=>?_
 .intro q;have v:cQ (((fc a (t.toNat -1):Nat):Int)+(j:Int))=((fc a (t.toNat -1)+j:Nat):Int):=by rw[aS V V];omega
  have E:q=G.push (.cells (bE [.i (((fc a (t.toNat -1)+j:Nat):Int))]) aA):=by rw[<-v]
  clear_value q;subst E;refine gS.append (zs:=[.i 0]) (d:=[.i ((fc a (t.toNat -1)+j:Nat):Int)]) (k.ext (J.push _ _)) (o.aR _) rfl (cB.push _ _ _).jD (by simp[l];omega) ?_;intro W b z A B M N _;refine H V _ _ ⟨A,?_,by simp[B,l]⟩
  rw[Se,eX,eX];exact z
 .have:j=d.cons.length:=V;subst this;exact⟨_,rfl,au.gG k bS,o⟩
def OY{a:List bq}{i j:Nat}{d:bq}{f:List Int}(h:a[i]? =some d)(b:d.cons[j]? =some f):cg a ((fc a i+j:Nat):Int)=f:=by
 unfold cg;rw[ao V,om,qA a i j d h (az b),b];rfl
def LO{bu:O}{a:List bq}(hd:bZ m bu a)(q:dI a)(c:Int)(X: -1000000<=c/\c<=1000000):aP cv 182 [O.v bu,vi c] m λS f=>∃R s,S=.tuple #[vi R,.agg #[O.v s]]/\au f s (cg a c)/\J m f:=by
 apply Gx;simp -zeta only[aG,aF];intro g;have P:J m g:=(J.aH m).aR _;have ab:m.size<g.size:=by simp[g]
 clear_value g;have Y:=hd.len;have:=q.len;refine dE (n:=a.length) V (λj w f=>J m f/\g.size<=f.size/\w=c -(fc a j:Nat)/\¬(0<=c/\c<fc a j)) ⟨P,ad _,by cases a<;>simp[fc],by cases a<;>simp[fc]⟩ ?_;rintro j w t I μ hj ⟨d,N,rfl,aa⟩ Q
 refine dit (λG=>?_) λG=>?_
 .let⟨x,b⟩:=cq a j;let⟨h,z,D,g1,g2⟩:=(bZ.ext d hd).aQ b;have Z:=z.len;have U:=sC q j;have W:=kO q b;refine⟨V,V,_,D,_,g1,h,g2,?_⟩;intro m3 u;have e:J t u:=((J.aH t).aR _).aj (ad _) _ _;have A:¬(0<=c -(fc a j:Nat)/\c -(fc a j:Nat)<x.cons.length)->I (cQ (c -(fc a j:Nat) -(h.len:Int))) (cQ ((j:Int)+1)) u/\μ (cQ (c -(fc a j:Nat) -(h.len:Int))) (cQ ((j:Int)+1)) u<μ (c -(fc a j:Nat)) j t:=by
   intro hq;refine Q V _ _ ⟨d.trans e,bJ N e.size,?_,?_⟩
   .rw[aS V V,rL b];omega
   .rw[rL b];omega
  refine⟨λi=>⟨λp=>?_,λp=>A ?_⟩,λi=>A ?_⟩
  .simp only[aq]at i p;let⟨T,r⟩:=cq x.cons ((c -(fc a j:Nat)).toNat);let⟨o,hg,y⟩:=(oD.ext e z).aQ r;refine⟨V,V,o,y,?_⟩;intro v;have k:J m v:=(d.trans e).aj (ad _) _ _;refine⟨_,o,rfl,?_,k⟩;have l:cg a c=T:=by
    have:=OY b r;rw[<-this];congr 1;omega
   rw[l];obtain⟨B,H,_,_,E⟩:=hd.aQ b;have K:h=B:=by
    have:=d.af E;rw[g2]at this;exact O.Ix.1 (by simpa using this)
   subst K;let⟨C,L,F⟩:=H.aQ r;have M:o=C:=by
    have:=(d.trans e).af F;rw[y]at this;exact O.Ix.1 (by simpa using this)
   subst M;exact L.ext k
  .simp at i p;omega
  .simp at i;omega
 .intro v;have k:J m v:=d.aj (ad _) _ _;refine⟨_,.nil,rfl,?_,k⟩;have l:cg a c=[]:=by
   unfold cg;split
   .rw[bV (by rw[<-nI a j V];omega)];rfl
   .rfl
  rw[l];exact⟨rfl,ad _,aJ,aJ⟩
def Gy{bu:O}{a:List bq}(hd:bZ m bu a)(h:dI a)(c:Int)(f: -1000000<=c/\c<=1000000):aP cv 145 [O.v bu,vi c] m λv d=>∃s,v=O.v s/\au d s (cg a c)/\J m d:=by
 apply Bc;simp -zeta only[aG,aF];refine(LO hd h c f).mono ?_;rintro _ e ⟨t,s,rfl,g,i⟩;refine⟨t,s,rfl,?_⟩;intro k j;have b:J e j:=((J.aH e).aR _).aj (ad _) _ _;exact⟨s,rfl,g.ext b,i.trans b⟩
def vk(f:au m s l)(g:Nat)(e d:Array Value)(t:GL.elem g=true)(q:Int->Prop)
 (p:∀x∈l,∀a,J m a->dA cv g (e.toList++[vi x]++d.toList) a (q x)):
 aP cv 104 [O.v s,.func (.func g) e d] m λz a=>∃r:Int,z=vi r/\J m a/\
  ((r= -1/\∀x∈l,¬q x)\/∃(k:Nat)(x:Int),r=k/\l[k]? =some x/\q x/\∀y∈l.take k,¬q y):=by
 apply pT s (.func g,e,d)
 have u:=f.len
 refine eu (n:=l.length) (u▸f.fA) (λk a=>J m a/\∀y∈l.take k,¬q y) ⟨J.aH _,aJ⟩ ?_
 rintro k v I μ B ⟨b,i⟩ w
 refine dit (λh=>?_) λh=>?_
 .let⟨x,c⟩:=cq l k
  refine⟨V,V,x,by simpa using b.af (f.aQ c),g,rfl,t,?_⟩
  exact(p x (av c) v b).then λA C o j=>⟨_,rfl,λh=>⟨_,rfl,b.trans j,Or.inr ⟨k,x,rfl,c,o.1 h,i⟩⟩,λh=>w V _ ⟨b.trans j,bN c i (fb o h)⟩⟩
 .exact⟨_,rfl,b,Or.inl ⟨rfl,cU V i⟩⟩
def mw(i:au m s l)(g:Nat)(b a:Array Value)(f:GL.elem g=true)(q:Int->Prop)
 (e:∀x∈l,∀c,J m c->dA cv g (b.toList++[vi x]++a.toList) c (q x)):
 dA cv 59 [O.v s,.func (.func g) b a] m (∃x∈l,q x):=by
 apply oA s (.func g,b,a)
 refine(vk i g b a f q e).mono ?_
 rintro _ p ⟨r,rfl,j,h⟩
 refine⟨_,rfl,fV ?_ j⟩
 simp only[uI,aq]
 rcases h with⟨rfl,h⟩|⟨o,x,rfl,c,d,n⟩
 .exact⟨λk=>V,λ⟨x,c,d⟩=>absurd d (h x c)⟩
 .exact⟨λ_=>⟨x,av c,d⟩,λ_=>V⟩
end
section
variable{k s c d r:O}{b:E}{e:List Nat}{Q:List Int->Prop}{v:List Int}{x:cF}
structure _root_.Go.Vc.eQ where
 params:List Int
 dg:List Int
 aT:Int
 body:Bk
def pc(a:List eQ):List Nat:=a.map λq=>q.params.length
def Kx(a:List eQ):(pc a).length=a.length:=dP _
def Io{a:List eQ}{k:Nat}{q:eQ}(h:a[k]? =some q):(pc a)[k]? =some q.params.length:=by rw[pc,bT,h];rfl
def WZ{a:List eQ}{k:Nat}{q b:eQ}(h:a[k]? =some q)(e:b.params=q.params):pc (a.set k b)=pc a:=by
 unfold pc;rw[tj,e];refine eM λi=>?_;rw[ik];split
 .rename_i c;subst c;have d:=az h;rw[ao (by simpa using d),bT,h];rfl
 .rfl
def iv(m:E)(a:List Ce)(r:eQ):Prop:=∃p l s,a=[.s p,.s l,.i r.aT,.s s,.i r.body.aT]/\au m p r.params/\au m l r.dg/\eG m s r.body.aE
abbrev yC(m:E)(s:O)(l:List eQ):Prop:=eO m 5 (iv m) s l
structure dY(m:E)(d r:O)(ds:List bq)(rs:List eQ):Prop where
 bu:bZ m d ds
 iB:yC m r rs
 types:dI ds
 nv:rs.length<=4
def iv.le{m b:E}(h:Le m b){a:List Ce}{x:eQ}:iv m a x->iv b a x:=λ⟨p,l,s,c,d,e,f⟩=>⟨p,l,s,c,d.le h,e.le h,f.le h⟩
def iv.mono:nG 5 iv:=⟨λh=>iv.le h,λh=>by obtain⟨_,_,_,rfl,_⟩:=h;rfl⟩
def yC.le{m b:E}(a:Le m b){s:O}{l:List eQ}(h:yC m s l):yC b s l:=eO.le h a λ_ _=>iv.le a
def yC.aQ{m:E}{l:List eQ}(h:yC m s l){k:Nat}{x:eQ}(f:l[k]? =some x):
 ∃p t b,au m p x.params/\au m t x.dg/\eG m b x.body.aE/\af m s.aC (s.off+k*5)=some (O.v p)/\af m s.aC (s.off+k*5+1)=some (O.v t)/\af m s.aC (s.off+k*5+2)=some (vi x.aT)/\af m s.aC (s.off+k*5+3)=some (O.v b)/\af m s.aC (s.off+k*5+4)=some (vi x.body.aT):=by
 obtain⟨g,⟨p,t,b,rfl,c,d,e⟩,a⟩:=h.jD k x f
 exact⟨p,t,b,c,d,e,a 0 _ rfl,a 1 _ rfl,a 2 _ rfl,a 3 _ rfl,a 4 _ rfl⟩
def dY.le{m b:E}{d r:O}{a:List bq}{e:List eQ}(h:dY m d r a e)(c:Le m b):dY b d r a e:=⟨h.bu.le c,h.iB.le c,h.types,h.nv⟩
def yW(m:E):Le m (bI [] m):=λb o v h=>eA.2 ⟨aJ,h⟩
def Ey{a:List bq}(h:dI a)(c:Int):(cg a c).length<=3:=by
 unfold cg;split
 .rcases aX c.toNat (eI a).length with b|b
  .let⟨i,d,e,j,k⟩:=um a c.toNat b;have f:=qA a i (c.toNat -fc a i) d e V;rw[show fc a i+(c.toNat -fc a i)=c.toNat by omega]at f;let⟨x,g⟩:=cq d.cons (c.toNat -fc a i);rw[f,g];exact(((h.df i d e).gR V).2.2.2 x (av g)).1
  .rw[bV b];simp
 .simp
def XW{a:List bq}(h:dI a)(t:Int):(cb a t).length<=3:=by
 unfold cb;split
 .cases b:a[t.toNat -1]? with
  |none=>simp
  |some d=>simpa using kO h b
 .simp
def OP{a:List bq}(h:dI a)(b bM:Int)(k:Nat):AI a b bM k<=3:=by
 unfold AI;split
 .exact Ey h _
 .omega
abbrev HY(f:Nat)(a:List Value)(m:E):Prop:=rm f a m λ_=>True
def nW(f:Nat)(a:List Value)(m:E):Prop:=aP cv f a m λv b=>∃c:Bool,v=.bool c/\J m b
def rN{m:E}{n:Int}(h:J m b):∃k:Int,vi n=vi k/\True/\J m b:=⟨n,rfl,trivial,h⟩
def rA{m:E}{a:Bool}(h:J m b):∃k:Bool,vb a=.bool k/\J m b:=⟨a,rfl,h⟩
def _root_.Go.Vc.dA.any{f:Nat}{a:List Value}{m:E}{p:Prop}(h:dA cv f a m p):nW f a m:=h.mono λ_ _⟨b,e,_,x⟩=>⟨b,e,x⟩
section
variable{f:Nat}{g:List Value}{a m:E}{K:Value->E->Prop}{l:List Nat}
def HY.aK(i:HY f g m)(e:J a m)(o:∀c∈l,c<a.size)(k:∀(n:Int) b,J m b->J a b->K (vi n) b):aP cv f g m λv b=>eF l m b/\K v b:=
 i.mono λ_ b⟨n,h,_,d⟩=>⟨d.de λc j=>e.lt (o c j),h▸k n b d (e.trans d)⟩
def nW.aK(i:nW f g m)(e:J a m)(n:∀c∈l,c<a.size)(k:∀(c:Bool) b,J m b->J a b->K (vb c) b):aP cv f g m λv b=>eF l m b/\K v b:=
 i.mono λ_ b⟨o,h,d⟩=>⟨d.de λc j=>e.lt (n c j),h▸k o b d (e.trans d)⟩
def rm.aK{Q:Int->Prop}(i:rm f g m Q)(e:J a m)(o:∀c∈l,c<a.size)(k:∀(n:Int) b,Q n->J m b->J a b->K (vi n) b):aP cv f g m λv b=>eF l m b/\K v b:=
 i.mono λ_ b⟨n,h,q,d⟩=>⟨d.de λc j=>e.lt (o c j),h▸k n b q d (e.trans d)⟩
def Ei.aK(k:Ei f g m e Q)(i:J a m)(q:∀d∈l,d<a.size)(p:∀s c b,au (bI e b) s c->Q c->J m b->J a b->K (O.v s) b):aP cv f g m λv b=>eF l m b/\K v b:=
 k.mono λ_ b⟨s,c,j,n,r,h⟩=>⟨h.de λd o=>i.lt (q d o),j▸p s c b n r h (i.trans h)⟩
def iU.aK(k:iU f g m e Q)(i:J a m)(q:∀d∈l,d<a.size)(p:∀s c b,GI e m b s c->Q c->J m b->J a b->K (O.v s) b):aP cv f g m λv b=>eF l m b/\K v b:=
 k.mono λ_ b⟨s,c,j,n,r,h⟩=>⟨h.de λd o=>i.lt (q d o),j▸p s c b n r h (i.trans h)⟩
end
def _root_.Go.Vc.J.Vj{c m:E}(f:J c m){l:List Nat}(e:∀a∈l,a<c.size)(h:J m b):eF l m b:=h.de λa d=>f.lt (e a d)
def dF{m:E}(D:∀b∈e,b<m.size){bu:O}{a:List bq}(hd:bZ (bI e m) bu a)(f:dI a)(c:Int):Ei 108 [O.v bu,vi c] m e (cg a c=·):=by
 apply qH;have l:bZ m bu a:=hd.le (bA _ _);have F:=hd.len;have:=f.len;refine(lK l f c).mono ?_;rintro _ I ⟨K,rfl,k,h⟩;refine⟨_,rfl,dit (λu=>?_) λu=>?_⟩
 .refine⟨_,_,rfl,?_,rfl,h.aR _⟩;have g:cg a c=[]:=by
   rcases k with⟨i,d,v,_⟩|⟨_,b⟩
   .omega
   .unfold cg;split
    .rw[bV V];rfl
    .rfl
  rw[g];exact⟨rfl,ad _,aJ,aJ⟩
 .rcases k with⟨i,d,rfl,b,A,B⟩|⟨v,_⟩
  .have H:=az b;let⟨s,n,y,g1,g2⟩:=(hd.le (h.cR e)).aQ b;have p:cQ ((i:Int)+1 -1)=i:=by rw[aS V V];omega
   rw[p];have g2:=(eA.1 g2).2;refine⟨V,V,s,by simpa using g2,?_⟩;refine(jN (bZ.ext h l) f V).then λJ g=>⟨_,rfl,g.dB (by simpa using g2),?_⟩;have z:=sC f i;have C:=kO f b;have G:=n.len;let⟨x,o⟩:=cq d.cons ((c -fc a i).toNat);let⟨j,w,t⟩:=oD.aQ (eO.le n (g.cR e) (mg.le (g.cR e))) o;have q:cQ (c -(fc a i:Int))=c -fc a i:=aS V V;rw[q];refine⟨V,V,j,(eA.1 t).2,j,_,rfl,?_,rfl,h.trans g⟩;have r:cg a c=x:=by
    unfold cg;rw[ao V];have:=qA a i (c -fc a i).toNat d b V;rw[show c.toNat=fc a i+(c -fc a i).toNat by omega,this,o];rfl
   rw[r];exact w
  .omega
def gP{m:E}(q:∀o∈e,o<m.size){bu:O}{a:List bq}(hd:bZ m bu a)(c:dI a)(t:Int):Ei 148 [O.v bu,vi t] m e (cb a t=·):=by
 apply tY;intro D;have L:=hd.len;have:=c.len;have w:J m D:=(J.aH m).aR _;refine(ba _ _ _ _).then λo P u i=>⟨_,rfl,λh=>?_,λh=>?_⟩
 .refine⟨_,_,rfl,?_,rfl,w.trans i⟩;have f:cb a t=[]:=by
   unfold cb;rw[ae (oh (nb u h))]
  rw[f];exact⟨rfl,ad _,aJ,aJ⟩
 .have h:=yb u h;have x:cQ (t -1)=((t.toNat -1:Nat):Int):=by rw[aS V V];omega
  rw[x];let⟨d,k⟩:=cq a (t.toNat -1);have y:cb a t=(List.range d.cons.length).map λl=>((fc a (t.toNat -1)+l:Nat):Int):=by
   unfold cb;rw[ao V,k];rfl
  rw[y];have H:=sC c (t.toNat -1);have K:=kO c k;refine dE (n:=d.cons.length) V (λj s b=>J m b/\GI e m b s ((List.range j).map λl=>((fc a (t.toNat -1)+l:Nat):Int))) ⟨w.trans i,(GI.nil e m).ext i⟩ ?_;rintro j s Q I μ N ⟨f,v⟩ F
  let⟨g,C,G,g1,g2⟩:=(bZ.ext f hd).aQ k;have M:=C.len;refine⟨V,V,g,by simpa using g2,dit (λB=>?_) λB=>?_⟩
  .refine(jN (bZ.ext f hd) c V).then λR p=>⟨_,rfl,?_⟩;have z:cQ (((fc a (t.toNat -1):Nat):Int)+(j:Int))=((fc a (t.toNat -1)+j:Nat):Int):=by rw[aS V V];omega
   rw[z];intro S;refine GI.kj (v.ext p) ((f.trans p).fz []) q bS λr b A g _ _=>F V _ _ ⟨g.ext,?_⟩
   rw[Se,eX];exact A
  .have:j=d.cons.length:=V;subst this;exact⟨_,_,rfl,v.done q bS,rfl,f⟩
def my{m:E}{bu:O}{b:List bq}(hd:bZ m bu b)(l:dI b)(t:Int):dA cv 189 [O.v bu,vi t] m (∃d,1<=t/\b[t.toNat -1]? =some d/\d.cons.length=0):=by
 apply Dz;have q:=hd.len;have:=l.len;refine(ba _ _ _ _).then λn r g e=>⟨_,rfl,λh=>?_,λh=>?_⟩
 .have h:=g.1 h;let⟨d,c⟩:=cq b (t.toNat -1);let⟨j,k,p,g1,g2⟩:=(bZ.ext e hd).aQ c;have i:cQ (t -1)=((t.toNat -1:Nat):Int):=by rw[aS V V];omega
  rw[i];refine⟨V,V,j,g2,fV ?_ e⟩;rw[k.len];simp only[aO];exact⟨λh=>⟨d,V,c,V⟩,λ⟨o,_,a,f⟩=>by rw[c]at a;simp at a;subst a;omega⟩
 .refine cw (λ⟨d,a,f,_⟩=>fb g h ⟨a,?_⟩) e;have:=az f;omega
def zj{m:E}{bu:O}{a:List bq}(hd:bZ m bu a)(r:dI a)(u t:Int):
 rm 237 [O.v bu,vi u,vi t] m λk=>k= -1\/∃(l:Nat)(d:bq),k=l+1/\a[l]? =some d/\d.cons.length=0/\d.tn=u/\d.to=t:=by
 apply Dm
 have w:=hd.len
 have:=r.len
 refine eu (n:=a.length) V (λ_ b=>J m b) (J.aH _) ?_
 rintro k s I μ x c v
 refine⟨λh=>?_,λh=>⟨_,rfl,Or.inl rfl,c⟩⟩
 simp only[aq]at h
 let⟨d,j⟩:=cq a k
 let⟨o,q,p,g1,g2⟩:=(bZ.ext c hd).aQ j
 have e:=v V s c
 refine⟨V,V,o,g2,λf=>⟨V,V,_,p,λg=>⟨V,V,_,g1,λi=>?_,λ_=>e⟩,λ_=>e⟩,λ_=>e⟩
 rw[q.len]at f
 simp only[aO]at f g i
 refine⟨_,rfl,Or.inr ⟨k,d,?_,j,V,g,i⟩,c⟩
 rw[aS V V]
def rW{m:E}{i p:O}{f t:List Int}(g:au m c v)(e:au m i f)(l:au m p t):nW 186 [O.v c,O.v i,O.v p] m:=by
 apply HL;have C:=g.len;have r:=e.len;have D:=l.len;have F:=g.fA;refine⟨λ_=>rA (J.aH _),λh=>?_⟩;simp only[ig]at h;refine eu (n:=f.length) (r▸e.fA) (λ_ b=>J m b) (J.aH _) ?_;rintro k H I μ G a y
 refine⟨λh=>?_,λh=>rA a⟩;simp only[aq]at h;let⟨x,o⟩:=cq f k;refine⟨V,V,x,(e.ext a).aQ o,?_⟩;have q:cQ ((c.len:Int) -1)=(v.length:Int) -1:=by rw[aS V V];omega
 rw[q];refine(ba _ _ _ _).then λB K s d=>⟨_,rfl,λ_=>rA (a.trans d),λj=>?_⟩;have j:=yb s j;let⟨z,u⟩:=cq v x.toNat;let⟨A,w⟩:=cq t k;exact⟨V,V,x,(e.ext (a.trans d)).aQ o,V,V,z,(g.ext (a.trans d)).aQ u,V,V,A,(l.ext (a.trans d)).aQ w,λ_=>rA (a.trans d),λ_=>y V _ (a.trans d)⟩
def Mf(a:Int)(m:E):nW 184 [vi a] m:=by
 apply Fo;have r:∀b:Bool,∃k:Bool,vb b=.bool k/\J m m:=λb=>rA (J.aH m);exact⟨λ_=>r _,λ_=>⟨λ_=>r _,λ_=>⟨λ_=>r _,λ_=>⟨λ_=>r _,λ_=>r _⟩⟩⟩⟩
def oC(x:cF)(a k:O):Value:=.agg #[vi x.op,vi x.bM,vi x.bY,O.v a,O.v k]
def vI{m:E}{g:O}(d:au m c v)(x:cF):nW 185 [O.v c,.agg #[vi x.op,vi x.bM,vi x.bY,O.v g,O.v k]] m:=by
 apply Aq;simp -zeta only[aG,aF];intro a;have b:J m a:=J.push _ _;have l:∀f∈[m.size],f<a.size:=by simp[a]
 clear_value a;have o:=d.len;have p:=d.fA;refine⟨λ_=>rA b,λ_=>⟨λ_=>?_,λ_=>rA b⟩⟩;refine(ba _ _ _ _).aK (J.aH a) l λf q j _ e=>⟨_,rfl,λh=>?_,λ_=>rA (b.trans e)⟩;have h:=j.1 h;have i:cQ (x.bY -1)=((x.bY.toNat -1:Nat):Int):=by rw[aS V V];omega
 rw[i];let⟨y,n⟩:=cq v (x.bY.toNat -1);exact⟨V,V,y,(d.ext (b.trans e)).aQ n,rA (b.trans e)⟩
def Bv{m:E}{l:O}{t:List bq}{B:List eQ}(o:dY m d r t B)(i:au m c v)(g:au m l x.args):HY 190 [.agg #[O.v d,O.v r],O.v c,oC x l k] m:=by
 apply vv;simp -zeta only[aG,aF];intro q e;have b:J m e:=(J.push _ _).trans (J.push _ _);have n:∀f∈[q.size,m.size],f<e.size:=by simp[e,q];omega
 clear_value e;have C:=i.len;have D:=i.fA;have F:=g.len;refine⟨λ_=>rN b,λh=>?_⟩;simp only[ig]at h;let⟨y,p⟩:=cq x.args 0;refine⟨V,V,y,(g.ext b).aQ p,?_⟩;have u:cQ ((c.len:Int) -1)=(v.length:Int) -1:=by rw[aS V V];omega
 rw[u];refine(ba _ _ _ _).aK (J.aH e) n λf G w _ j=>⟨_,rfl,λ_=>rN (b.trans j),λh=>?_⟩;have h:=yb w h;have a:=b.trans j;let⟨z,A⟩:=cq v y.toNat;have g1:=(g.ext a).aQ p;have g2:=(i.ext a).aQ A;refine⟨V,V,y,g1,V,V,z,g2,λ_=>rN a,λ_=>⟨λ_=>⟨λ_=>⟨V,V,y,g1,V,V,z,g2,?_⟩,λ_=>rN a⟩,λ_=>rN a⟩⟩;exact(my ((o.le a.le).bu) o.types z).any.aK j n λf H I s=>⟨_,rfl,λ_=>rN (b.trans s),λ_=>rN (b.trans s)⟩
def DL{m:E}{w:O}{H:List bq}{t:List eQ}(g:dY m d r H t)(U:au m c v)(A:au m w x.args):HY 188 [.agg #[O.v d,O.v r],O.v c,oC x w k] m:=by
 apply wL;simp -zeta only[aG,aF];intro j h;have F:J m h:=(J.push _ _).trans (J.push _ _);have n:∀f∈[j.size,m.size],f<h.size:=by simp[h,j];omega
 clear_value h;have h1:=g.iB.len;have h2:=g.nv;have h3:=A.len;have I:cQ ((r.len:Int) -1)=(t.length:Int) -1:=by rw[aS V V];omega
 rw[I];refine(ba _ _ _ _).aK (J.aH h) n λf l S _ u=>⟨_,rfl,λ_=>rN (F.trans u),λy=>?_⟩;have y:=yb S y;have D:=F.trans u;let⟨q,T⟩:=cq t x.bM.toNat;let⟨Z,ac,s,i,c2,c3,L,g1,g2,M,N⟩:=(g.le D.le).iB.aQ T;refine⟨V,V,_,L,_,g1,_,g2,_,M,_,N,?_⟩;intro X b;have G:J l b:=((J.aH l).aR _).aj (ad _) _ _;have o:∀f∈[l.size,j.size,m.size],f<b.size:=by
  have P:=n j.size aJ;have Q:=n m.size aJ;have R:=u.size;have z:b.size=l.size+1:=by simp[b,X,aD]
  simp;omega
 clear_value b;have a:=D.trans G;have C:=U.ext a;have B:=A.ext a;have p:=i.ext G;have P:=i.len;have Q:=i.cap;have R:=i.fA;refine⟨λ_=>(rW C B p).aK (J.aH b) o λf Y e _=>⟨_,rfl,λ_=>rN (a.trans e),λ_=>rN (a.trans e)⟩,λ_=>⟨λ_=>rN a,λz=>⟨λ_=>rN a,λ_=>?_⟩⟩⟩;simp only[ap]at z;have K:cQ ((Z.len:Int) -1)=((q.params.length -1:Nat):Int):=by rw[aS V V];omega
 rw[K];let⟨aa,W⟩:=cq q.params (q.params.length -1);refine⟨V,V,V,(rW C B (eO.UU p V)).aK (J.aH b) o λf Y e _=>⟨_,rfl,λ_=>rN (a.trans e),λ_=>⟨V,V,aa,(p.ext e).aQ W,?_⟩⟩⟩;exact(zj (g.le (a.trans e).le).bu g.types _ _).aK e o λab m6 _ x6 u6=>⟨_,rfl,rN (a.trans u6)⟩
def Wu(a:List bq)(e:List eQ)(b:Bk):Prop:=∀(m:E)(d r c t:O)(v:List Int),dY m d r a e->au m c v->eG m t b.aE->v.length+4*b.w<=10^12->HY 236 [.agg #[O.v d,O.v r],O.v c,.agg #[O.v t,vi b.aT]] m
def I7{m:E}{ab:O}{t:List bq}{Y:List eQ}(g:dY m d r t Y)(U:au m c v)(y:mU m k x.bH)(hb:v.length+4*x.w<=10^12)(ih:∀l∈x.bH,Wu t Y l):HY 187 [.agg #[O.v d,O.v r],O.v c,oC x ab k] m:=by
 apply BK;simp -zeta only[aG,aF];intro X p;have i:J m p:=(J.push _ _).trans (J.push _ _);have o:∀l∈[X.size,m.size],l<p.size:=by simp[p,X];omega
 clear_value p;have ac:=y.len;have hw:=cF.k8 x;refine(gP (e:=[]) aJ (g.le i.le).bu g.types x.bM).aK (J.aH p) o λae cl H w q A _=>⟨_,rfl,?_⟩;subst q;have w:=w.le (bA _ _);have ag:=w.len;have h3:=XW g.types x.bM;refine⟨λL aa=>aa=H/\0<=L/\(x.op=8->L=(cb t x.bM).length),⟨λh=>?_,λh=>⟨rfl,V,λ_=>V⟩⟩,?_⟩
 .simp only[aO]at h;exact⟨rfl,V,λh=>V⟩
 rintro L ah ⟨f,h4,h5⟩;have f:=f.symm;subst f;refine⟨λ_=>rN (i.trans A),λ_=>⟨λ_=>rN (i.trans A),λT=>?_⟩⟩;simp only[ig]at T;subst T;refine dE (n:=x.bH.length) (ac▸y.fA) (λ_ _ b=>J H b) (J.aH _) ?_;rintro j z I R μ hj B ad
 have M:=A.trans B;have s:=i.trans M;refine⟨λh=>?_,λ_=>rN s⟩;simp only[aq]at h;let⟨l,u⟩:=cq x.bH j;have W:=ih l (av u);have af:=uo u;have Z:∀(a:Int)(e:E),J H e->((decide (a<(0:Int)))=true->∃k:Int,vi (-1)=vi k/\True/\J m e)/\((decide (a<(0:Int)))=false->((decide ((j:Int)>(0:Int)))=true->((a !=z)=true->∃k:Int,vi (-1)=vi k/\True/\J m e)/\((a !=z)=false->R a (cQ ((j:Int)+1)) e/\μ a (cQ ((j:Int)+1)) e<μ z j I))/\((decide ((j:Int)>(0:Int)))=false->R a (cQ ((j:Int)+1)) e/\μ a (cQ ((j:Int)+1)) e<μ z j I)):=λa e h=>by
  have f:=rN (n:=-1) ((i.trans A).trans h);have D:=ad V a e h
  exact⟨λ_=>f,λ_=>⟨λ_=>⟨λ_=>f,λ_=>D⟩,λ_=>D⟩⟩
 refine⟨λh=>?_,λh=>?_⟩
 .simp only[aO]at h;have h7:=h5 h;let⟨Q,hy⟩:=cq (cb t x.bM) j;refine⟨V,V,Q,(w.ext B).aQ hy,?_⟩;refine(dF (e:=[]) aJ (g.le (s.le.trans (yW _))).bu g.types Q).aK M o λD fl e hf q x4 u4=>⟨_,rfl,?_⟩;subst q;have h8:=Ey g.types Q;refine(eD (S:=[]) aJ (U.le ((i.trans u4).le.trans (yW _))) hf V).aK u4 o λf el m5 he q x5 N=>⟨_,rfl,?_⟩;subst q;let⟨C,G,F,g1⟩:=(y.le (i.trans N).le).aQ u;refine⟨V,V,_,F,_,g1,?_⟩;exact(W m5 d r f C _ (g.le (i.trans N).le) ((he.done aJ bS).le (bA _ _)) G bS).aK N o λa K P _=>⟨_,rfl,Z a K (((B.trans x4).trans x5).trans P)⟩
 .let⟨C,G,F,g1⟩:=(y.le s.le).aQ u;refine⟨V,V,_,F,_,g1,?_⟩;exact(W I d r c C _ (g.le s.le) (U.ext s) G V).aK M o λa K P _=>⟨_,rfl,Z a K (B.trans P)⟩
def PI{m a:E}(h:J m a)(l:List Int){n:Nat}(c:n=l.length)(b:l.length<=9223372036854775807):au (a.push (.cells (bE (l.map Ce.i)) aA)) (.mk a.size 0 n n) l:=
 (au.lit (S:=[]) aA l aJ rfl c b).le (bA _ _)
def _root_.Go.Vc.eO.J0{α:Type}{n:E}{b:Nat}{R:List Ce->α->Prop}{l:List α}(h:eO n b R s l){i j:Nat}(u:i<=j)(v:j<=l.length):eO n b R (s.cut i j b) ((l.take j).drop i):=by
 have a:=h.len;have m:=h.cap;have y:=h.fA;have g:(s.cut i j b).len=j -i/\(s.cut i j b).len<=(s.cut i j b).cap:=by
  cases s with
  |nil=>simp at a;simp[O.cut];omega
  |CS d o t=>simp at a;simp[O.cut];omega
  |mk d o r f=>simp at a m;simp[O.cut];omega
 refine⟨by simp[g.1];omega,g.2,V,λk x c=>?_⟩;rw[rj,mS]at c;split at c
 .rename_i w;let⟨p,q,e⟩:=h.jD _ x c;refine⟨p,q,?_⟩;cases s with
  |nil=>simp at a;omega
  |CS d o t=>simp at a;omega
  |mk d o r f=>
   simp at a m;have:¬f=i:=V;simp only[O.cut,this,mG,O.fO,O.jg]at e⊢;rw[fZ,<-dR]at e;exact e
 .simp at c
def ny{q:E}{w:O}{P:List bq}{rs:List eQ}(B:dY q d r P rs)(hv:au q c v)(Z:au q w x.args)(hk:mU q k x.bH)(H:v.length+4*x.w<=10^12)(ih:∀g∈x.bH,Wu P rs g):HY 153 [.agg #[O.v d,O.v r],O.v c,oC x w k] q:=by
 apply Ch;simp -zeta only[aG,aF];intro C p;have M:J q p:=(J.push _ _).trans (J.push _ _);have m:∀g∈[C.size,q.size],g<p.size:=by simp[p,C];omega
 clear_value p;have h1:=Z.len;have h2:=Z.cap;have u:∀{n:E},J p n->au n c v:=λh=>hv.ext (M.trans h);have A:∀{n:E},J p n->au n w x.args:=λh=>Z.ext (M.trans h);have N:∀{n:E},J p n->dY n d r P rs:=λh=>B.le (M.trans h).le;have o:∀{n:E}{t:Int},J p n->∃k:Int,vi t=vi k/\True/\J q n:=λh=>rN (M.trans h);have Q:∀{n:E}{t k:Int}{g:Bool},J p n->(g=true->∃k:Int,vi t=vi k/\True/\J q n)/\(g=false->∃a:Int,vi k=vi a/\True/\J q n):=λh=>⟨λ_=>o h,λ_=>o h⟩;refine⟨λX=>J p X,⟨λ_=>(Mf x.op p).aK (J.aH p) m λg n e _=>⟨_,rfl,λ_=>o e,λ_=>(vI (u e) x).aK e m λg f l a=>⟨_,rfl,λ_=>o a,λ_=>⟨λ_=>⟨λ_=>⟨λ_=>o a,λ_=>a⟩,λ_=>a⟩,λ_=>a⟩⟩⟩,λ_=>(vI (u (J.aH _)) x).aK (J.aH p) m λg f a _=>⟨_,rfl,λ_=>o a,λ_=>⟨λ_=>⟨λ_=>⟨λ_=>o a,λ_=>a⟩,λ_=>a⟩,λ_=>a⟩⟩⟩,?_⟩;intro n e;have T:∀{f:E}{R:O}{ak:List Int}(h:J p f),au f R ak->nW 186 [O.v c,O.v w,O.v R] f:=λh ht=>rW (u h) (A h) ht;have Kt:∀{f:E}(h:J p f),aP cv 187 [.agg #[O.v d,O.v r],O.v c,.agg #[vi x.op,vi x.bM,vi x.bY,O.v w,O.v k]] f λv b=>eF [C.size,q.size] f b/\∃t:Int,v=vi t/\∃k:Int,vi t=vi k/\True/\J q b:=λh=>
  (I7 (N h) (u h) (hk.le (M.trans h).le) H ih).aK h m λt L s U=>⟨t,rfl,o U⟩
 refine⟨λ_=>⟨λ_=>(ba _ _ _ _).any.aK e m λg f l a=>⟨_,rfl,Q a⟩,λ_=>o e⟩,λ_=>⟨λ_=>?_,λ_=>⟨λ_=>?_,λ_=>⟨λ_=>?_,λ_=>⟨λ_=>?_,λ_=>⟨λ_=>?_,λ_=>⟨λ_=>(DL (N e) (u e) (A e)).aK e m λt f l a=>⟨_,rfl,o a⟩,λ_=>⟨λ_=>?_,λ_=>⟨λ_=>(Bv (N e) (u e) (A e)).aK e m λt f l a=>⟨_,rfl,o a⟩,λ_=>o e⟩⟩⟩⟩⟩⟩⟩⟩⟩
 .intro f;exact(T (e.aR _) (PI e [0,0] rfl aJ)).aK (e.aR _) m λg f l a=>⟨_,rfl,Q a⟩
 .intro f;exact(T (e.aR _) (PI e [0] rfl aJ)).aK (e.aR _) m λg f l a=>⟨_,rfl,Q a⟩
 .refine(lK (N e).bu B.types x.bM).mono λ_ f⟨R,z,_,l⟩=>?_;subst z;have a:=e.trans l;refine⟨e.Vj m l,_,rfl,λ_=>?_,λ_=>o a⟩;refine(dF (e:=[]) aJ ((N a).bu.le (yW _)) B.types x.bM).aK a m λae G L hf I s U=>⟨_,rfl,aM (s.same C.size (a.lt (m _ aJ))) _,?_⟩;refine(T U (hf.le (bA _ _))).aK U m λg D x5 y=>⟨_,rfl,λ_=>?_,λ_=>o y⟩;refine(lK (N y).bu B.types x.bM).mono λ_ F⟨R,z,_,W⟩=>?_;subst z;exact⟨y.Vj m W,_,rfl,o (y.trans W)⟩
 .intro f;exact(T (e.aR _) (PI e [0] rfl aJ)).aK (e.aR _) m λg f l a=>⟨_,rfl,λ_=>Kt a,λ_=>o a⟩
 .intro f;exact(T (e.aR _) (PI e [x.bM] rfl aJ)).aK (e.aR _) m λg f l a=>⟨_,rfl,λ_=>Kt a,λ_=>o a⟩
 .have h3:=hv.len;have h4:=hv.fA;refine⟨λg X=>J p X/\(g=true->x.args.length=2/\∃y z G,x.args[0]? =some y/\0<=y/\v[y.toNat]? =some z/\1<=z/\P[z.toNat -1]? =some G),⟨λh=>?_,λ_=>⟨e,sx⟩⟩,?_⟩
  .simp only[aO]at h;let⟨y,I⟩:=cq x.args 0;refine⟨V,V,y,(A e).aQ I,?_⟩;have Y:cQ ((c.len:Int) -1)=(v.length:Int) -1:=by rw[aS V V];omega
   rw[Y];refine(ba _ _ _ _).aK (J.aH n) (λg H=>e.lt (m g H)) λg f aa _ l=>⟨_,rfl,λh=>?_,λh=>⟨e.trans l,sx⟩⟩;have h:=aa.1 h;have a:=e.trans l;let⟨z,K⟩:=cq v y.toNat;refine⟨V,V,y,(A a).aQ I,V,V,z,(u a).aQ K,?_⟩;refine(my (N a).bu B.types z).aK (J.aH f) (λg H=>a.lt (m g H)) λg L ab _ s=>⟨_,rfl,a.trans s,λh=>?_⟩;obtain⟨G,h5,h6,_⟩:=ab.1 h;exact⟨V,y,z,G,I,V,K,h5,h6⟩
  .rintro g f ⟨l,ah⟩;refine⟨λh=>?_,λ_=>o l⟩;let⟨h5,y,z,G,I,h6,K,h7,aa⟩:=ah h;let⟨ae,hf,g0,g1,g2⟩:=(N l).bu.aQ aa;have an:=B.bu.len;have h8:=B.types.len;have h9:=az aa;have al:=az K;have Y:cQ (z -1)=((z.toNat -1:Nat):Int):=by rw[aS V V];omega
   have ab:=(A l).aQ I;have ac:=(u l).aQ K;refine⟨V,V,y,ab,V,V,z,ac,?_⟩;rw[Y];refine⟨V,V,_,g0,_,g1,_,g2,?_⟩;intro L;have s:J f L:=J.push _ _;have af:C.size<f.size:=l.lt (m _ aJ);have ag:q.size<f.size:=l.lt (m _ aJ);refine⟨s.dB g0,s.dB g1,s.dB g2,s.dB ac,s.dB ab,aM (s.same _ af) _,aM (s.same _ ag) _,?_⟩;intro D;have x5:J f D:=s.aj (ad _) _ _;have am:D.size=f.size+1:=by simp[D,L,aD]
   clear_value D;refine⟨V,V,V,?_⟩;intro F;have W:J f F:=x5.trans (J.push _ _);have u6:=l.trans W;have aj:∀g∈[f.size,C.size,q.size],g<F.size:=by simp[F];omega
   refine⟨aM ((J.push D _).same _ V) _,?_⟩;have ai:au F (w.cut 1 w.len 1) (x.args.drop 1):=by
    have:=(eO.J0 (A u6) (i:=1) (j:=x.args.length) V (ad _));rw[gY]at this;rw[h1];exact this
   exact(rW (u u6) ai (PI x5 [G.tn] rfl aJ)).aK (J.aH F) aj λg m7 x7 _=>⟨_,rfl,Q (u6.trans x7)⟩
def _root_.Go.Vc.J.nP{c m:E}(h:J c m)(k:J c b){l:List Nat}(e:∀a∈l,a<c.size):eF l m b:=λa d=>by rw[k.same a (e a d),h.same a (e a d)]
def sB(x:cF)(b:Bool)(a:b=true<->0<=x.op/\x.op<=11):dn x=if b=true then 1 else 0:=by
 unfold dn;by_cases h:b=true
 .rw[ao h];exact ao (a.1 h)
 .rw[ae h];exact ae λc=>h (a.2 c)
def mI{I:List bq}{Z:List eQ}:∀a:Bk,Wu I Z a:=by
 refine Bk.ind ?_;intro aE Y W D d r c am v R U t j;simp only[Bk.jG,Bk.iZ,Bk.pY]at*;apply zm;simp -zeta only[aG,aF];intro E e;have y:J D e:=(J.push _ _).trans (J.push _ _);have g:∀a∈[E.size,D.size],a<e.size:=by simp[e,E];omega
 clear_value e;have T:=t.len;refine(lL (S:=[]) aJ (U.le (y.le.trans (yW _))) V).aK (J.aH e) g λs0 _ m2 i K x2 _=>⟨_,rfl,?_⟩;subst K;have C:=Az aE;refine dE (n:=aE.length) (T▸t.fA) (λk s b=>J e b/\∃l,GI [] e b s l/\l.length=v.length+dc (aE.take k)) ⟨x2,_,i,aJ⟩ ?_;rintro k s X aa μ hk ⟨z,l,m,hc⟩ G
 have p:=y.trans z;have ac:=pL (aE.take k);have ag:=pZ k aE;have ah:=fw (aE.take k);have af:=m.len bo;have q:=(m.done aJ (oh (C k))).le (bA _ _);refine⟨λh=>?_,λh=>?_⟩
 .simp only[aq]at h;let⟨x,o⟩:=cq aE k;let⟨ab,kk,O,Q,i,g1,g2,M,N⟩:=(t.le p.le).aQ o;have aj:=pp o;have ai:=C (k+1);have ad:=qb o;refine⟨V,V,_,i,_,g1,_,g2,_,M,_,N,?_⟩;refine(ny (R.le p.le) q O Q V (W x (av o))).aK z g λak F f u=>⟨_,rfl,λ_=>rN (y.trans u),λ_=>⟨V,V,_,f.af i,?_⟩⟩;refine(jz _ _).aK (J.aH F) (λa j=>u.lt (g a j)) λa m5 P _ A=>⟨_,rfl,?_⟩;have hd:=sB x a P;have w:=u.trans A;refine⟨λh=>?_,λh=>?_⟩
  .rw[ao h]at hd;intro m6;refine GI.kj ((m.ext f).ext A) (w.fz []) aJ V λr m7 L B H al=>⟨?_,G V _ _ ⟨B.ext,_,L,bS⟩⟩;exact J.nP (w.aR _) B.ext g
  .rw[ae (by simp[h])]at hd;exact G V _ _ ⟨w,l,(m.ext f).ext A,V⟩
 .refine(ba _ _ _ _).aK (J.aH X) (λa j=>z.lt (g a j)) λa F o _ f=>⟨_,rfl,λ_=>rN (p.trans f),λh=>?_⟩;have h:=yb o h;have w:=q.fA;rw[aS V V]at h;let⟨H,u⟩:=cq l Y.toNat;exact⟨V,V,H,(q.ext f).aQ u,rN (p.trans f)⟩
end
section
variable{b:E}{d e g k:O}{f:List eQ}{c:cF}{h:Nat}
def _root_.Go.Vc.cp{S a:List Nat}{d o:Nat}{l:List Ce}(i:d∈S)(g:∀c∈a,c∈S):Le (bI S b) (bI a (aj b d o l)):=
 oP λc _ e=>⟨λh=>e (g c h),bh _ _ _ _ λf=>e (f▸i)⟩
def ZB(a:Bk):Prop:=∀(b:E)(t:O),eG b t a.aE->∀left:Int,-1<=left->left<=600->rm 284 [.agg #[O.v t,vi a.aT],vi left] b λk=>-1<=k/\k<=600
def HJ:∀j:Bk,ZB j:=by
 refine Bk.ind ?_;intro aE aa K b ab q left A C;simp only[Bk.jG,Bk.iZ]at*;apply Ak;simp -zeta only[aG,aF];intro f;have w:J b f:=J.push _ _;have F:∀j∈[b.size],j<f.size:=by simp[f]
 clear_value f;have I:=q.len;have r:∀{d:E}{a:Int},J f d->-1<=a/\a<=600->∃k:Int,vi a=vi k/\(-1<=k/\k<=600)/\J b d:=λh o=>⟨_,rfl,o,w.trans h⟩;refine dE (n:=aE.length) (I▸q.fA) (λ_ a d=>J f d/\-1<=a/\a<=600) ⟨J.aH _,A,C⟩ ?_;rintro k a M U μ hk ⟨l,o⟩ P
 refine⟨λh=>⟨λ_=>r l V,λB=>?_⟩,λ_=>r l o⟩;simp only[aq]at h;simp only[bD]at B;let⟨c,u⟩:=cq aE k;let⟨g,v,Z,m,X,g1,g2,Y,s⟩:=(q.le (w.trans l).le).aQ u;have D:=m.len;rw[aS (b:=a -1) V V];refine dE (n:=c.bH.length) (D▸m.fA) (λ_ a d=>J M d/\-1<=a/\a<=600) ⟨J.aH _,V,V⟩ ?_;rintro L Q N W μ2 hj ⟨i,p⟩ O;refine⟨V,V,v,i.af s,λh=>?_,λ_=>P V _ _ ⟨l.trans i,p⟩⟩;simp only[aq]at h;let⟨j,t⟩:=cq c.bH L;let⟨R,H,y,z⟩:=(m.le i.le).aQ t;refine⟨V,V,v,i.af s,V,V,_,y,_,z,?_⟩;exact(K c (av u) j (av t) N R H Q p.1 p.2).aK (l.trans i) F λe m4 G T S=>⟨_,rfl,λ_=>r S V,λh=>O V _ _ ⟨i.trans T,G⟩⟩
def Ld{t:O}{c:Bk}(g:eG b t c.aE):HY 266 [.agg #[O.v t,vi c.aT]] b:=by
 apply DP;simp -zeta only[aG,aF];intro a;have d:J b a:=J.push _ _;have f:∀c∈[b.size],c<a.size:=by simp[a]
 clear_value a;exact(HJ c a t (g.le d.le) 600 V V).aK (J.aH a) f λn h _ _ e=>⟨_,rfl,λ_=>rN (d.trans e),λ_=>rN (d.trans e)⟩
def pOf(e:eQ):da:=⟨e.params,[],e.aT,0,[]⟩
def nV.mono:nG 5 nV:=⟨λh⟨g,a,b⟩=>⟨g,a,b.le h⟩,λ⟨g,a,_⟩=>by rw[a];rfl⟩
def Ml{F:List bq}(t:dY b d e F f):aP cv 283 [.agg #[O.v d,O.v e]] b λY g=>∃v,Y=.agg #[O.v d,O.v v]/\eO g 5 (nV g) v (f.map pOf)/\J b g:=by
 apply FG;simp -zeta only[aG,aF];intro j a2 a3 a4 p;have ac:=t.iB.len;have hf:=t.nv;have Z:J b a2:=(J.push _ _).trans (J.push _ _);have W:j.size=b.size+1:=by simp[j]
 have X:a2.size=b.size+2:=by simp[a2,W]
 have s3:a3.size=b.size+3:=by simp[a3,X]
 have A:J a3 p:=(J.push a3 _).aj (ad _) _ _;have L:Gr [a3.size,j.size] a2 p eW 5 nV (.mk a2.size 0 0 0) []:=(Gr.new _ (ad _) _ _ _).ext nV.mono A;have D:cB p a3.size jU [.s d,.s (.mk a2.size 0 0 0)]:=cB.aj (m:=a4) (o:=0) (r:=[.s d,.s (.mk a2.size 0 0 0)]) (cB.push a3 _ _);have aa:J a2 p:=(J.push a2 _).trans A;clear_value p;have N:∀l∈[j.size,b.size],l<a2.size/\l∉([]:List Nat):=bS;refine eu (n:=f.length) V (λk g=>J a2 g/\∃s,Gr [a3.size,j.size] a2 g eW 5 nV s ((f.take k).map pOf)/\cB g a3.size jU [.s d,.s s]) ⟨aa,_,L,D⟩ ?_;rintro k Q ab μ hk ⟨u,s,h,B⟩ S
 have z:=Z.trans u;refine dit (λM=>?_) λM=>?_
 .let⟨T,x⟩:=cq f k;have P:yC (bI (s.aC::[a3.size,j.size]) Q) e f:=t.iB.le ((yW b).trans ((z.fz []).bI aJ λl q=>Or.inr ?_))
  .let⟨y,ae,l,E,c2,c3,G,e1,H,e3,e4⟩:=P.aQ x;refine⟨s,B.cK 1,V,V,y,(eA.1 G).2,V,V,_,(eA.1 H).2,?_⟩;intro R;refine Gr.box (g:=[.s .nil,.i 0,.i 0,.i 0,.s .nil]) (j:=1) (i:=[.s d,.s s]) (w:=pOf T) nV.mono bo h (u.fz []) ⟨y,rfl,E⟩ bS B aJ bo ⟨V,aJ⟩ (λl q=>by have C:=N l q;have I:=h.bn;have w:=u.size;omega) λU g K C I z' q'=>S V _ ⟨I.ext,U,?_,C⟩
   rw[bF x,eX];exact K
  .have:=h.bn;simp at q;omega
 .refine⟨d,B.cK 0,s,B.cK 1,?_⟩;intro R;have x:=h.ne B bo;have y:=h.bn;rw[cG V]at h;refine⟨s,rfl,?_,z.aj V _ _⟩;have w:=h.mZ nV.mono bS bo bS;exact eO.le w ((cp (a:=[]) aJ aJ).trans (bA _ _)) λq c=>nV.mono.le ((cp (a:=[]) aJ aJ).trans (bA _ _))
def wQ{r:List bq}(c:dY b d e r f):nW 265 [.agg #[O.v d,O.v e]] b:=by
 apply sW;simp -zeta only[aG,aF];intro g;have a:J b g:=J.push _ _;have i:∀h∈[b.size],h<g.size:=by simp[g]
 clear_value g;have K:=c.iB.len;have G:=c.nv;refine⟨λ_=>rA a,λ_=>?_⟩;refine(Ml (c.le a.le)).mono λ_ L⟨F,s,w,j⟩=>?_;subst s;refine⟨j.de i,_,_,rfl,?_⟩;refine(uf (c.le (a.trans j).le).bu w).any.aK j i λh M R m=>⟨_,rfl,λ_=>rA (a.trans m),λ_=>?_⟩;refine eu (n:=f.length) V (λ_ l=>J g l) m ?_;rintro k N I μ H l y
 refine⟨λv=>?_,λ_=>rA (a.trans l)⟩;simp only[aq]at v;let⟨Q,x⟩:=cq f k;let⟨z,A,h,p,q,B,t,u,C,D,E⟩:=(c.le (a.trans l).le).iB.aQ x;refine⟨V,V,z,t,V,V,A,u,?_⟩;exact(ue p q).any.aK l i λh P S o=>⟨_,rfl,λ_=>rA (a.trans o),λ_=>y V _ o⟩
def DU{z:List bq}(i:dY b d e z f)(G:∀q∈f,q.params.length+4*q.body.w<=10^12):nW 253 [.agg #[O.v d,O.v e]] b:=by
 apply wR;simp -zeta only[aG,aF];intro c;have m:J b c:=J.push _ _;have t:∀a∈[b.size],a<c.size:=by simp[c]
 clear_value c;have T:=i.iB.len;have R:=i.nv;refine(wQ (i.le m.le)).aK (J.aH c) t λa U x _=>⟨_,rfl,λ_=>rA (m.trans x),λ_=>?_⟩;refine eu (n:=f.length) V (λ_ g=>J c g) x ?_;rintro k l P μ S o L
 refine⟨λF=>?_,λ_=>rA (m.trans o)⟩;simp only[aq]at F;let⟨q,u⟩:=cq f k;have v:=m.trans o;let⟨M,X,a,y,Q,s,A,B,C,D,E⟩:=(i.le v.le).iB.aQ u;refine⟨V,V,_,A,_,B,_,C,_,D,_,E,?_⟩;intro H g;have j:J l g:=(J.push l _).aj (ad _) _ _;have p:∀a∈[l.size,b.size],a<g.size:=by
  have:=o.lt (t b.size aJ);have:g.size=l.size+1:=by simp[g,H,aD]
  simp;omega
 clear_value g;have r:=v.trans j;refine(Ld (s.le j.le)).aK (J.aH g) p λK I h _=>⟨_,rfl,λ_=>rA (r.trans h),λ_=>?_⟩;refine(mI q.body I d e M a q.params (i.le (r.trans h).le) (y.ext (j.trans h)) (s.le (j.trans h).le) (G q (av u))).aK h p λK W N w=>⟨_,rfl,aM (N.same _ (h.lt (p _ aJ))) _,λ_=>rA (r.trans w),λ_=>L V _ ((o.trans j).trans w)⟩
def xh(c:Int)(b:E):nW 205 [vi c] b:=by
 apply rD;have e:∀a:Bool,∃k:Bool,vb a=.bool k/\J b b:=λa=>rA (J.aH b);exact⟨λ_=>e _,λ_=>⟨λ_=>e _,λ_=>⟨λ_=>e _,λ_=>e _⟩⟩⟩
def Sp(f:List eQ)(c:cF):Prop:=c.op=9->0<=c.bM/\c.bM<f.length
def _root_.Go.Vc.OD.bO{b:List bq}{a:Prop}{g:Nat}(h:OD b (pc f) a g c):Sp f c:=λd=>by rw[<-Kx];exact h.call d
structure At(b:E)(d e g k:O)(ds:List bq)(f:List eQ)(c:cF):Prop where
 Qt:dY b d e ds f
 args:au b g c.args
 call:Sp f c
def At.le{b j:E}{d e g k:O}{a:List bq}{f:List eQ}{c:cF}(h:At b d e g k a f c)(i:Le b j):At j d e g k a f c:=⟨h.Qt.le i,h.args.le i,h.call⟩
def dk{o1 o2:Obj}{a c:E}(e:a=b.push o1)(f:c=a.push o2):J b c/\∀d∈[a.size,b.size],d<c.size:=by
 subst e f;exact⟨(J.push _ _).trans (J.push _ _),bS⟩
def nm{o:List bq}(a:At b d e g k o f c)(h:Int):nW 195 [.agg #[O.v d,O.v e],oC c g k,vi h] b:=by
 apply Fw;simp -zeta only[aG,aF];intro s i;let⟨j,q⟩:=dk (a:=s) (c:=i) rfl rfl;clear_value i;have C:=a.Qt.iB.len;refine⟨λl=>?_,λ_=>rA j⟩;simp only[aO]at l;have B:=a.call l;let⟨F,r⟩:=cq f c.bM.toNat;let⟨E,t,m,v,n,w,x,p,y,z,A⟩:=(a.Qt.le j.le).iB.aQ r;exact⟨V,V,t,p,(dj n h).any.aK (J.aH i) q λm D u _=>⟨_,rfl,rA (j.trans u)⟩⟩
def lY{q:O}{s:List bq}(j:At b d e g k s f c){v:List Int}(o:au b q v)(u:∀y∈c.args,0<=y/\y<(v.length:Int))(t:h<c.args.length):nW 191 [.agg #[O.v d,O.v e],O.v q,oC c g k,vi h] b:=by
 apply xT;simp -zeta only[aG,aF];intro x a;let⟨l,n⟩:=dk (a:=x) (c:=a) rfl rfl;clear_value a;have B:=j.args.len;have D:=o.len;let⟨y,p⟩:=dJ t;have C:=u y (av p);let⟨A,w⟩:=cq v y.toNat;refine(xh c.op a).aK (J.aH a) n λr E m _=>⟨_,rfl,λ_=>?_,λ_=>rA (l.trans m)⟩;have i:=l.trans m;refine⟨V,V,y,(j.args.ext i).aQ p,V,V,A,(o.ext i).aQ w,λ_=>?_,λ_=>rA i⟩;exact(nm (j.le i.le) h).aK m n λr F G z=>⟨_,rfl,rA (l.trans z)⟩
def BQ{r:List bq}(a:At b d e g k r f c)(u:h<c.args.length):nW 238 [.agg #[O.v d,O.v e],oC c g k,vi h] b:=by
 apply vD;simp -zeta only[aG,aF];intro y l;let⟨q,v⟩:=dk (a:=y) (c:=l) rfl rfl;clear_value l;have t:=a.args.len;let⟨A,w⟩:=dJ u;refine eu (n:=c.args.length) (t▸a.args.fA) (λ_ i=>J l i) (J.aH _) ?_;rintro o E I μ D j z
 have i:=q.trans j;refine⟨λs=>⟨λ_=>?_,λ_=>?_⟩,λ_=>rA i⟩<;>simp only[aq]at s<;>have m:=z V
 .let⟨B,x⟩:=cq c.args o;refine⟨V,V,B,(a.args.ext i).aQ x,V,V,A,(a.args.ext i).aQ w,λ_=>⟨λ_=>rA i,λ_=>?_⟩,λ_=>m _ j⟩;exact(nm (a.le i.le) o).aK j v λC F G p=>⟨_,rfl,λ_=>rA (q.trans p),λ_=>m _ p⟩
 .exact m _ j
def zR{mL r:O}{t:List bq}(i:At b d e g k t f c){x w:List Int}(v:au b mL x)(u:au b r w)(p:h<c.args.length):nW 192 [.agg #[O.v d,O.v e],oC c g k,vi h,O.v mL,O.v r] b:=by
 apply DA;simp -zeta only[aG,aF];intro z l;let⟨a,j⟩:=dk (a:=z) (c:=l) rfl rfl;clear_value l;have B:=i.args.len;let⟨y,q⟩:=dJ p;refine⟨V,V,y,(i.args.ext a).aQ q,?_⟩;refine(dj (u.ext a) y).any.aK (J.aH l) j λo C n _=>⟨_,rfl,λ_=>rA (a.trans n),λ_=>?_⟩;have s:=a.trans n;refine⟨V,V,y,(i.args.ext s).aQ q,?_⟩;refine(dj (v.ext s) y).any.aK n j λo D F m=>⟨_,rfl,λ_=>rA (a.trans m),λ_=>?_⟩;exact(BQ (i.le (a.trans m).le) p).aK m j λo E G A=>⟨_,rfl,rA (a.trans A)⟩
end
section
def Xx(b:Bk):Prop:=∀(S:List Nat)(m:E),(∀c∈S,c<m.size)->∀(t a:O)(l:List Int)(n:Int)(k:Nat),eG m t b.aE->au (bI S m) a l->k<=b.aE.length->l.length+b.w<=10^12->
 Ei 152 [.agg #[O.v t,vi b.aT],vi n,vi k,O.v a] m S λc=>c.length<=l.length+b.w
def _root_.Go.Vc.WM{σ:Type}{n b:Nat}(l:b<=n)(q:n<=9223372036854775807){m:E}{g:σ}{f:(σ->Int->E->Prop)->(σ->Int->E->Nat)->σ->Int->E->Prop}(Q:Nat->σ->E->Prop)(j:Q b g m)
 (h:∀(k:Nat)(s:σ)(a:E)(I:σ->Int->E->Prop)(μ:σ->Int->E->Nat),b<=k->k<=n->Q k s a->
  (k<n->∀d c,Q (k+1) d c->I d (cQ ((k:Int)+1)) c/\μ d (cQ ((k:Int)+1)) c<μ s k a)->f I μ s k a):
 ∃(I:σ->Int->E->Prop)(μ:σ->Int->E->Nat),I g b m/\∀s i a,I s i a->f I μ s i a:=by
 refine⟨λs i c=>∃k:Nat,i=k/\b<=k/\k<=n/\Q k s c,λ_ i _=>(n -i).toNat,⟨b,rfl,ad _,l,j⟩,?_⟩
 rintro s i a ⟨k,rfl,o,p,r⟩
 refine h k s a _ _ o p r λe d c t=>?_
 rw[kd e q]
 exact⟨⟨k+1,rfl,V,e,t⟩,Cv e⟩
def Dg{S:List Nat}{m:E}(P:∀g∈S,g<m.size){B F G:O}{l:List Int}{x:cF}(K:Int)(q:au m B x.args)(t:mU m F x.bH)(D:au (bI S m) G l)(hb:l.length+x.w<=10^12)(U:∀e∈x.bH,Xx e):
 Ei 183 [oC x B F,vi K,O.v G] m S λa=>a.length<=l.length+x.w:=by
 apply wt
 simp -zeta only[aG,aF]
 intro b
 have f:J m b:=J.push _ _
 have u:∀e∈[m.size],e<b.size:=by simp[b]
 clear_value b
 have Q:=q.len
 have R:=t.len
 have hw:=cF.k8 x
 have H:∀{c:E},J b c->∀g∈S,g<c.size:=λh g C=>aL (P g C) (f.trans h).size
 refine(sQ x.op b).any.aK (J.aH b) u λe m2 o _=>⟨_,rfl,λ_=>⟨_,_,rfl,D.le ((f.trans o).cR S),V,f.trans o⟩,λ_=>?_⟩
 refine dE (n:=x.args.length) (Q▸q.fA) (λv s c=>J b c/\∃a,au (bI S c) s a/\a.length<=l.length+v) ⟨o,l,D.le ((f.trans o).cR S),ad _⟩ ?_
 rintro v s m3 ab μ hj ⟨d,a,j,C⟩ z
 refine dit (λh=>?_) λh=>?_
 .let⟨y,i⟩:=cq x.args v
  have g1:=(q.ext (f.trans d)).aQ i
  refine⟨V,V,y,g1,λ_=>⟨V,V,y,g1,λ_=>⟨V,V,y,g1,?_⟩,λ_=>z V _ _ ⟨d,a,j,V⟩⟩,λ_=>z V _ _ ⟨d,a,j,V⟩⟩
  exact(nk (H d) j y V).aK d u λY w I g2 A p k=>⟨_,rfl,z V _ _ ⟨k,w,g2.done (H d) (oh A.2),oh A.2⟩⟩
 .refine dE (n:=x.bH.length) (R▸t.fA) (λi s c=>J b c/\∃a,au (bI S c) s a/\a.length<=l.length+x.args.length+bw (x.bH.take i)) ⟨d,a,j,bS⟩ ?_
  rintro i Z I I2 μ2 hi ⟨p,w,g2,ae⟩ X
  have k:=f.trans p
  have y:=JS x.bH
  refine⟨λh=>?_,λh=>⟨_,_,rfl,g2,oh (y i),k⟩⟩
  simp only[aq]at h
  let⟨e,r⟩:=cq x.bH i
  let⟨aa,T,L,M⟩:=(t.le k.le).aQ r
  have ac:=tR r
  refine⟨V,V,_,L,_,M,?_⟩
  exact(U e (av r) S I (H p) aa Z w K 0 T g2 (dy _) (oh (y (i+1)))).aK p u λY W m5 N A x5 u5=>⟨_,rfl,X V _ _ ⟨u5,W,N,V⟩⟩
def zh:∀e:Bk,Xx e:=by
 refine Bk.ind ?_;intro aE P K S o B ab aa l L Z i G D W;simp only[Bk.jG,Bk.iZ,Bk.pY]at*;apply Dh;simp -zeta only[aG,aF];intro a;have d:J o a:=J.push _ _;have r:∀e∈[o.size],e<a.size:=by simp[a]
 clear_value a;have I:=i.len;have H:∀{c:E},J a c->∀f∈S,f<c.size:=λh f p=>aL (B f p) (d.trans h).size;refine WM (n:=aE.length) D (I▸i.fA) (λj s c=>J a c/\∃m,au (bI S c) s m/\m.length<=l.length+sw (aE.take j)) ⟨J.aH _,l,G.le (d.cR S),V⟩ ?_;rintro j s v T μ _ X ⟨b,m,g,p⟩ M
 have y:=d.trans b;have t:=Az aE;refine⟨λh=>?_,λh=>?_⟩
 .simp only[aq]at h;let⟨R,k⟩:=cq aE j;let⟨U,kk,C,F,w,g1,g2,x,z⟩:=(i.le y.le).aQ k;have Y:=pp k;refine⟨V,V,_,w,_,g1,_,g2,_,x,_,z,?_⟩;exact(Dg (H b) L C F g (oh (t (j+1))) (K R (av k))).aK b r λN u m3 A q x3 Q=>⟨_,rfl,M V _ _ ⟨Q,u,A,V⟩⟩
 .have A:=t j;have w:∃x k,O.v s=O.v x/\au (bI S v) x k/\k.length<=l.length+(1+sw aE)/\J o v:=⟨_,_,rfl,g,V,y⟩;refine⟨λ_=>⟨λ_=>?_,λ_=>w⟩,λ_=>w⟩;exact(nk (H b) g P V).aK b r λN u C g2 q F z=>⟨_,rfl,_,_,rfl,g2.done (H b) (oh q.2),oh q.2,d.trans z⟩
def CA{S:List Nat}{m:E}(i:∀d∈S,d<m.size){t:O}{b:Bk}(l:eG m t b.aE)(n:Int)(c:b.w<=10^12):Ei 110 [.agg #[O.v t,vi b.aT],vi n] m S λf=>f.length<=b.w:=by
 apply FL;simp -zeta only[aG,aF];intro g a;let⟨e,k⟩:=dk (a:=g) (c:=a) rfl rfl;have h:au (bI S a) (.mk g.size 0 0 0) []:=⟨rfl,ad _,aJ,aJ⟩;clear_value a;exact(zh b S a (λd j=>e.lt (i d j)) t _ _ n 0 (l.le e.le) h (dy _) (by simpa using c)).aK (J.aH a) (λb c=>k b (by simp at c⊢;exact Or.inr c)) λr f j g2 q d _=>⟨_,rfl,_,_,rfl,g2,by simpa using q,e.trans d⟩
section
variable{b:List Nat}{m:E}(e:∀c∈b,c<m.size){d r a k q mL p:O}{s:List bq}{u:List eQ}{x:cF}(h:At m d r a k s u x){v g t:List Int}(o:au m q v)(l:∀y∈x.args,0<=y/\y<(v.length:Int))(f:au m mL g)(j:au m p t)
include e h o l
theorem xQ(M:x.args.length<=10^12):iU 263 [.agg #[O.v d,O.v r],O.v q,oC x a k] m b (oH x.args):=by
 apply tw;simp -zeta only[aG,aF];intro I g P;let⟨s,B⟩:=dk (a:=I) (c:=g) rfl rfl;clear_value g;have H:=h.args.len;refine dE (n:=x.args.length) (H▸h.args.fA) (λj v p=>J g p/\∃f,GI b g p v f/\(∀y∈f,y∈x.args)/\f.length<=j) ⟨J.push _ _,[],GI.nil b g,aJ,ad _⟩ ?_;rintro j v Q K μ N ⟨E,f,t,u,A⟩ D
 have w:=s.trans E;refine dit (λG=>?_) λG=>?_
 .let⟨y,C⟩:=cq x.args j;refine(lY (h.le w.le) (o.ext w) l (h:=j) V).aK E B λL R F p=>⟨_,rfl,λ_=>⟨V,V,y,(h.args.ext (s.trans p)).aQ C,?_⟩,λ_=>D V _ _ ⟨p,f,t.ext F,u,V⟩⟩;intro S;exact GI.kj (t.ext F) (p.fz []) (λc A=>s.lt (e c A)) V λr T g2 z _ _=>⟨J.nP (p.aR _) z.ext B,D V _ _ ⟨z.ext,_,g2,pS u (av C),bS⟩⟩
 .exact⟨v,f,rfl,t.cL (λ_ h=>h) s.size,⟨u,V⟩,w⟩
include f j
theorem Fk(U:x.args.length<=10^12):iU 154 [.agg #[O.v d,O.v r],O.v q,oC x a k,O.v mL,O.v p] m b (oH x.args):=by
 apply xS;simp -zeta only[aG,aF];intro R t X;let⟨u,A⟩:=dk (a:=R) (c:=t) rfl rfl;clear_value t;have Q:=h.args.len;refine dE (n:=x.args.length) (Q▸h.args.fA) (λs C v=>J t v/\∃g,GI b t v C g/\(∀y∈g,y∈x.args)/\g.length<=s) ⟨J.push _ _,[],GI.nil b t,aJ,ad _⟩ ?_;rintro s C Y T μ W ⟨L,g,v,w,I⟩ B
 have D:=u.trans L;refine dit (λP=>?_) λP=>?_
 .let⟨y,K⟩:=cq x.args s;refine(lY (h.le D.le) (o.ext D) l (h:=s) V).aK L A λN Z G E=>⟨_,rfl,λ_=>?_,λ_=>B V _ _ ⟨E,g,v.ext G,w,V⟩⟩;have F:=u.trans E;refine(zR (h.le F.le) (f.ext F) (j.ext F) (h:=s) V).aK E A λN m5 M z=>⟨_,rfl,λ_=>⟨V,V,y,(h.args.ext (u.trans z)).aQ K,?_⟩,λ_=>B V _ _ ⟨z,g,(v.ext G).ext M,w,V⟩⟩;intro S;exact GI.kj ((v.ext G).ext M) (z.fz []) (λc I=>u.lt (e c I)) V λr S g2 H _ _=>⟨J.nP (z.aR _) H.ext A,B V _ _ ⟨H.ext,_,g2,pS w (av K),bS⟩⟩
 .exact⟨C,g,rfl,v.cL (λ_ h=>h) u.size,⟨w,V⟩,D⟩
theorem Ho(T:g.length<=10^12):iU 156 [.agg #[O.v d,O.v r],O.v q,oC x a k,O.v mL,O.v p] m b (oH g):=by
 apply zT;simp -zeta only[aG,aF];intro W w;let⟨s,D⟩:=dk (a:=W) (c:=w) rfl rfl;clear_value w;have af:=h.args.len;have ab:∀{t:E},J w t->∀c∈b,c<t.size:=λh c hc=>aL (e c hc) (s.trans h).size;have X:aP cv 194 [O.v mL,O.v p] w λv t=>eF [W.size,m.size] w t/\∃Y:O,v=O.v Y/\∃z U,O.v Y=O.v z/\GI b m t z U/\oH g U/\J m t:=by
  refine(Mb (S:=[]) aJ (f.le (s.le.trans (yW _))) (j.le (s.le.trans (yW _))) T).aK (J.aH w) D λz u ag B H P _=>⟨_,rfl,z,u,rfl,?_,H,s.trans P⟩;let⟨C,I,g1,g2⟩:=B;exact⟨C,I,g1.cL s.size,g2.mono λ_ _ h=>h⟩
 refine⟨λ_=>X,λ_=>⟨λ_=>X,λ_=>?_⟩⟩;refine(lL (S:=[]) aJ (f.le (s.le.trans (yW _))) T).aK (J.aH w) D λs0 _ ag C ae P _=>⟨_,rfl,?_⟩;subst ae;refine dE (n:=x.args.length) (af▸h.args.fA) (λG z t=>J w t/\∃u,GI b m t z u/\oH g u) ⟨P,g,?_,λ_ h=>h,ad _⟩ ?_
 .let⟨C,I,g1,g2⟩:=C;exact⟨C,I,g1.cL s.size,g2.mono λ_ _ h=>h⟩
 rintro G z m3 ah μ hj ⟨Z,u,B,A⟩ K
 have L:=s.trans Z;refine⟨λR=>?_,λR=>⟨z,u,rfl,B,A,L⟩⟩;simp only[aq]at R;let⟨y,hy⟩:=cq x.args G;refine(lY (h.le L.le) (o.ext L) l (h:=G) V).aK Z D λac m4 Q M=>⟨_,rfl,λ_=>?_,λ_=>K V _ _ ⟨M,u,B.ext Q,A⟩⟩;have N:=s.trans M;refine(zR (h.le N.le) (f.ext N) (j.ext N) (h:=G) V).aK M D λac m5 x5 F=>⟨_,rfl,λ_=>⟨V,V,y,(h.args.ext (s.trans F)).aQ hy,?_⟩,λ_=>K V _ _ ⟨F,u,(B.ext Q).ext x5,A⟩⟩;refine(Ay (S:=b) (ab F) (((B.ext Q).ext x5).done e (oh A.2)) y (oh A.2)).aK F D λr l2 m6 g2 H x6 u6=>⟨_,rfl,K V _ _ ⟨u6,l2,g2.cL (λ_ h=>h) (s.trans F).size,λaa hz=>A.1 aa (H.1 aa hz),bJ H.2 A.2⟩⟩
omit o l
theorem Hp(Z:x.args.length<10^12):iU 157 [.agg #[O.v d,O.v r],oC x a k,O.v mL,O.v p] m b (oH x.args):=by
 apply zU;simp -zeta only[aG,aF];intro W l aa;let⟨g,v⟩:=dk (a:=W) (c:=l) rfl rfl;clear_value l;have S:=h.args.len;have Q:∀{s:E},J l s->∀c∈b,c<s.size:=λh c u=>aL (e c u) (g.trans h).size;refine dE (n:=x.args.length) (S▸h.args.fA) (λz G s=>J l s/\∃i,GI b l s G i/\(∀y∈i,y∈x.args)/\i.length<=z) ⟨J.push _ _,[],GI.nil b l,aJ,ad _⟩ ?_;rintro z G m3 Y μ hj ⟨M,i,o,q,u⟩ A
 have L:=g.trans M;refine dit (λR=>?_) λR=>?_
 .let⟨y,w⟩:=cq x.args z;refine(nm (h.le L.le) z).aK M v λI m4 D B=>⟨_,rfl,λ_=>⟨V,V,y,(h.args.ext (g.trans B)).aQ w,?_⟩,λ_=>A V _ _ ⟨B,i,o.ext D,q,V⟩⟩;refine(dj (f.ext (g.trans B)) y).any.aK B v λI m5 H C=>⟨_,rfl,λ_=>⟨V,V,y,(h.args.ext (g.trans C)).aQ w,?_⟩,λ_=>A V _ _ ⟨C,i,(o.ext D).ext H,q,V⟩⟩;refine(dj (j.ext (g.trans C)) y).any.aK C v λI m6 N t=>⟨_,rfl,λ_=>⟨V,V,y,(h.args.ext (g.trans t)).aQ w,?_⟩,λ_=>A V _ _ ⟨t,i,((o.ext D).ext H).ext N,q,V⟩⟩;refine(nk (Q t) ((((o.ext D).ext H).ext N).done (λc u=>g.lt (e c u)) V) y V).aK t v λr U m7 g2 K x7 X=>⟨_,rfl,A V _ _ ⟨X,U,g2.cL (λ_ h=>h) t.size,λP T=>?_,oh K.2⟩⟩;rcases K.1 P T with F|F
  .exact q P F
  .subst F;exact av w
 .exact⟨G,i,rfl,o.cL (λ_ h=>h) g.size,⟨q,V⟩,L⟩
end
end
section
variable{m d a:E}{c e g:List Nat}{s:O}{l:List Int}{f:Nat}{K:Value->E->Prop}
def pJ{o1 o2 o3:Obj}{a b c:E}(e:a=m.push o1)(f:b=a.push o2)(g:c=b.push o3):J m c/\(∀d∈[b.size,a.size,m.size],d<c.size)/\a.size=m.size+1/\b.size=m.size+2/\c.size=m.size+3:=by
 subst e f g;exact⟨((J.push _ _).trans (J.push _ _)).trans (J.push _ _),bS,aJ,aJ,aJ⟩
def GI.RC{X:List Nat}{n:E}{g:O}{k:List Int}{a:Int}{K:O->E->Prop}(p:GI c d m s l)(i:GI e n m g k)(j:s.aC≠g.aC)(q:Fz X d m)(w:l.length<=10^12)
 (t:∀r b,GI c d b r (l++[a])->GI e n b g k->r.aC≠g.aC->Fz X d b->K r b):jb (m.push (.cells (bE [.i a]) aA)) aA [.i 0] 8 s (.mk m.size 0 1 1) K:=by
 have u:=i.bn
 refine Gr.kj (g:=[.i 0]) tp.mono bo p q rfl V λr b o f z v=>t r b o (i.iI (v _ u.2 (kE j))) ?_ f
 rcases z.2 with h|h
 .rw[h];exact j
 .omega
def GI.any(h:GI c d m s l):GI e d m s l:=by
 let⟨b,a,f,g⟩:=h;exact⟨b,a,f,g.mono λ_ _ h=>h⟩
def eP(a v:Int):cF:=⟨a,0,0,[v],[]⟩
abbrev GS(c:List Nat)(d m:E)(s:O)(l:List cF):Prop:=Gr c d m fN 5 fQ s l
def GS.new(c:List Nat)(m:E):GS c m (m.push (.cells (bE []) fN)) (.mk m.size 0 0 0) []:=Gr.new c (ad _) _ _ _
def GS.kj{c X:List Nat}{d m:E}{s a k:O}{l:List cF}{x:cF}{K:O->E->Prop}(h:GS c d m s l)(i:Fz X d m)(g:au (bI (s.aC::c) m) a x.args)(j:mU (bI (s.aC::c) m) k x.bH)(n:l.length<=10^12)
 (f:∀r b,GS c d b r (l++[x])->Fz X d b->m.size<=b.size/\(r.aC=s.aC\/m.size<=r.aC)->(∀e,e<m.size->e≠s.aC->b[e]? =m[e]?)->K r b):
 jb (m.push (.cells (bE [.i x.op,.i x.bM,.i x.bY,.s a,.s k]) fN)) fN [.i 0,.i 0,.i 0,.s .nil,.s .nil] 72 s (.mk m.size 0 1 1) K:=
 Gr.kj (g:=[.i 0,.i 0,.i 0,.s .nil,.s .nil]) fQ.mono bo h i ⟨a,k,rfl,g,j⟩ V f
def GS.all{c X:List Nat}{d m:E}{s x:O}{l e:List cF}{K:O->E->Prop}(h:GS c d m s l)(g:Fz X d m)(i:eG (bI (s.aC::c) m) x e)(j:l.length+e.length<=10^12)
 (f:∀r a,GS c d a r (l++e)->Fz X d a->m.size<=a.size/\(r.aC=s.aC\/m.size<=r.aC)->(∀b,b<m.size->b≠s.aC->a[b]? =m[b]?)->K r a):
 jb m fN [.i 0,.i 0,.i 0,.s .nil,.s .nil] 72 s x K:=
 Gr.all (g:=[.i 0,.i 0,.i 0,.s .nil,.s .nil]) fQ.mono bo h g i V f
def lU{α:Type}(m:E)(a:Nat)(R:List Ce->α->Prop)(b o c:Nat):eO m a R (.mk b o 0 c) []:=⟨rfl,dy _,aJ,aJ⟩
def iJ(n:∀f∈c,f<m.size)(g v:Int):aP cv 158 [vi g,vi v] m λs d=>∃a k,s=oC (eP g v) a k/\au (bI c d) a [v]/\mU (bI c d) k []/\J m d:=by
 apply Bw;simp -zeta only[aG,aF];intro b e q r;have t:J m b:=J.push _ _;have u:J b e:=J.push _ _;have i:J e q:=J.push _ _;have w:b.size=m.size+1:=by simp[b]
 have p:J m r:=((t.trans u).trans i).aj (ad _) _ _;refine⟨_,_,rfl,?_,lU _ _ _ _ _ _,p⟩;have l:au (bI (m.size::c) e) (.mk b.size 0 1 1) [v]:=au.lit aA [v] (λj o=>by
  rcases List.mem_cons.1 o with h|h
  .omega
  .have:=n j h;omega) rfl rfl aJ
 exact(l.le (i.cR _)).le (cp aZ λf h=>ah _ h)
def QL(f:Nat)(b:List Value)(m:E)(c:List Nat)(Q:List cF->Prop):Prop:=aP cv f b m λv a=>∃s l,v=O.v s/\GS c m a s l/\Q l/\J m a
def QL.aK{h:List Value}{l:List Nat}{Q:List cF->Prop}(k:QL f h m c Q)(i:J a m)(q:∀e∈l,e<a.size)(p:∀s d b,GS c m b s d->Q d->J m b->J a b->K (O.v s) b):aP cv f h m λv b=>eF l m b/\K v b:=
 k.mono λ_ b⟨s,d,j,n,r,g⟩=>⟨g.de λe o=>i.lt (q e o),j▸p s d b n r g (i.trans g)⟩
def eN(w:∀g∈c,g<m.size)(b:Int){p:O}(i:au m p l)(B:l.length<=10^12):QL 112 [vi b,O.v p] m c (l.map (eP b)=·):=by
 apply zD;intro E;have z:=i.len;refine dE (n:=l.length) (z▸i.fA) (λk s d=>J m d/\GS c m d s ((l.take k).map (eP b))) ⟨J.push m _,by simpa using GS.new c m⟩ ?_;rintro k s F I μ C ⟨e,d⟩ A
 refine dit (λh=>?_) λh=>?_
 .let⟨j,o⟩:=cq l k;refine⟨V,V,j,(i.ext e).aQ o,?_⟩;refine(iJ (c:=s.aC::c) (λg y=>?_) b j).mono λN G⟨a,D,r,u,v,q⟩=>?_
  .have:=d.bn;rcases List.mem_cons.1 y with h|h
   .omega
   .exact e.lt (w g h)
  subst r;refine⟨_,_,_,_,_,rfl,?_⟩;intro H;refine GS.kj (x:=eP b j) (d.ext fQ.mono q) ((e.trans q).fz []) u v bS λM K t f P L=>A V _ _ ⟨f.ext,?_⟩
  rw[bF o,eX];exact t
 .rw[cG V]at d;exact⟨s,_,rfl,d,rfl,e⟩
def nH(a:Int):∀l:List Int,sw (l.map (eP a))=2*l.length
 |[]=>rfl
 |v::l=>by rw[cA,lZ,nH a l,cF.k8];simp[eP];omega
def jH{a:Int}(h:14<=a):∀l:List Int,dc (l.map (eP a))=0
 |[]=>rfl
 |v::l=>by
  rw[cA,jW,jH h l];unfold dn;rw[ae (λb:oE (eP a v).op=>by have:=b.2;simp only[eP]at this;omega)]
def CQ{e:List bq}{a:Nat}{c v:Int}(h:14<=c/\c<=17)(f:0<=v/\v<(a:Int)):WS e g True a (eP c v):=
 ⟨⟨Or.inr ⟨trivial,h⟩,λx d=>by simp[eP]at d;subst d;exact f,λ_=>rfl,by simp[eP],λb=>by simp only[eP]at b;omega,λb=>by simp only[eP]at b;omega,λb=>absurd rfl b,.ZR (by simp only[eP];omega)⟩,λk d b=>by simp[eP]at b⟩
def qT{d:List bq}{a:Nat}{b:Int}(h:14<=b/\b<=17)(e:∀v∈l,0<=v/\v<(a:Int)):WL d g True a (l.map (eP b)):=λi s c=>by
 rw[bT,jq]at c;obtain⟨v,f,rfl⟩:=c;rw[<-Nk,jH h.1];exact CQ h (e v (av f))
def mO(f:Nat)(d:List Value)(m:E)(c:List Nat)(Q:Bk->Prop):Prop:=aP cv f d m λv a=>∃s b,v=.agg #[O.v s,vi b.aT]/\eG (bI c a) s b.aE/\Q b/\J m a
def mO.aK{g:List Value}{l:List Nat}{Q:Bk->Prop}(k:mO f g m c Q)(h:J a m)(q:∀d∈l,d<a.size)(p:∀s d b,eG (bI c b) s d.aE->Q d->J m b->J a b->K (.agg #[O.v s,vi d.aT]) b):aP cv f g m λv b=>eF l m b/\K v b:=
 k.mono λ_ b⟨s,d,j,n,r,e⟩=>⟨e.de λi o=>h.lt (q i o),j▸p s d b n r e (h.trans e)⟩
def JJ(f:Nat)(d:List Value)(m:E)(c:List Nat)(Q:cF->Prop):Prop:=aP cv f d m λv b=>∃a k x,v=oC x a k/\au (bI c b) a x.args/\mU (bI c b) k x.bH/\Q x/\J m b
def JJ.aK{e:List Value}{l:List Nat}{Q:cF->Prop}(j:JJ f e m c Q)(g:J a m)(s:∀b∈l,b<a.size)(r:∀p k x b,au (bI c b) p x.args->mU (bI c b) k x.bH->Q x->J m b->J a b->K (oC x p k) b):aP cv f e m λv b=>eF l m b/\K v b:=
 j.mono λ_ b⟨p,k,x,i,n,o,t,d⟩=>⟨d.de λh q=>g.lt (s h q),i▸r p k x b n o t d (g.trans d)⟩
def bR{b:E}(e:∀a∈c,a<m.size)(i:m.size<=b.size){d:Nat}(g:d<b.size):∀a∈d::c,a<b.size:=λa f=>by
 rcases List.mem_cons.1 f with h|h
 .omega
 .have:=e a h;omega
structure Zv(ds:List bq)(g:List Nat)(v lo la:List Int)(b:Bk):Prop where
 bg:∀o∈lo,0<=o/\o<(v.length:Int)
 Xq:lo.length+5*b.w<=500
 Xp:la.length+1000*b.w<=1000000
 vN:v.length+5*b.w<=1000000
 wb:WB ds g False v.length b
def Wv(a:List bq)(d:List eQ)(b:Bk):Prop:=∀(c:List Nat)(m:E),(∀e∈c,e<m.size)->∀(g r j t mL e:O)(v i h:List Int),dY m g r a d->au m j v->eG m t b.aE->au m mL i->au m e h->Zv a (pc d) v i h b->
 mO 111 [.agg #[O.v g,O.v r],O.v j,.agg #[O.v t,vi b.aT],O.v mL,O.v e] m c λf=>WB a (pc d) True v.length f/\f.w+1050<=1100*b.w
structure Zu(ds:List bq)(g:List Nat)(v fl lo la:List Int)(b:Bk):Prop where
 bg:∀o∈lo,0<=o/\o<(v.length:Int)
 fl3:fl.length<=3
 Xq:lo.length+3+5*b.w<=500
 Xp:la.length+1000*b.w<=1000000
 vN:v.length+3+5*b.w<=1000000
 wb:WB ds g False (v.length+fl.length) b
def IQ(hS:∀a∈c,a<m.size){an F aU aN ax mL a4:O}{ds:List bq}{rs:List eQ}{N I lo la:List Int}{i:Bk}(hn:dY m an F ds rs)(hv:au m aU N)(hf:au m aN I)(hs:eG m ax i.aE)(u:au m mL lo)(bc:au m a4 la)
 (hp:Zu ds (pc rs) N I lo la i)(ih:Wv ds rs i):mO 193 [.agg #[O.v an,O.v F],O.v aU,O.v aN,.agg #[O.v ax,vi i.aT],O.v mL,O.v a4] m c λq=>WB ds (pc rs) True (N.length+I.length) q/\q.w<=1100*i.w:=by
 apply Bu
 simp -zeta only[aG,aF]
 intro d p C
 let⟨w,t,s0,s1,s2⟩:=pJ (a:=d) (b:=p) (c:=C) rfl rfl rfl
 clear_value C
 have b6:=hv.len;have bw:=hf.len;have bC:=u.len;have bT:=hp.fl3;have bP:=i.Gc;have bV:=hp.Xq;have b5:=hp.vN;have bU:=hp.Xp
 refine(eD (S:=[]) aJ (hv.le (w.le.trans (yW _))) (hf.le (w.le.trans (yW _))) V).aK (J.aH C) t λaK _ b9 gi g x3 _=>⟨_,rfl,?_⟩
 subst g
 refine(CA (S:=[]) aJ (hs.le (w.trans x3).le) _ V).aK x3 t λbJ ul D hu b4 x4 G=>⟨_,rfl,?_⟩
 intro m5 m6
 have bf:au D bJ ul:=hu.le (bA _ _)
 have bp:J D m6:=(J.push D _).trans (J.push m5 _)
 have u6:=G.trans bp
 have s5:m5.size=D.size+1:=by simp[m5]
 have gm:GI c D m6 (.mk D.size 0 0 0) []:=(GI.nil c D).ext (J.push m5 _)
 have gd:GI c D m6 (.mk m5.size 0 0 0) []:=(GI.nil c m5).cL (λ_ r=>r) V
 clear_value m6
 have z4:=G.size
 refine vX (n:=lo.length) (bC▸u.fA) (λac h sd M=>J D M/\∃T H,GI c D M h T/\GI c D M sd H/\h.aC≠sd.aC/\(∀o∈T,o∈lo)/\(∀o∈H,o∈lo)/\T.length<=ac/\H.length<=ac) ⟨bp,[],[],gm,gd,bS,aJ,aJ,ad _,ad _⟩ ?_
 rintro ac h sd m7 br μ hk ⟨x7,T,H,gm,gd,bd,a0,aZ,cm,cd⟩ bk
 have u7:=G.trans x7
 have v7:=w.trans u7
 refine dit (λr=>?_) λr=>?_
 .let⟨j,hy⟩:=cq lo ac
  have B:=av hy
  have A:∀M,J m7 M->jb (M.push (.cells (bE [.i j]) aA)) aA [.i 0] 8 h (.mk M.size 0 1 1) λL m'=>eF [p.size,d.size,m.size] (M.push (.cells (bE [.i j]) aA)) m'/\br L sd (cQ ((ac:Int)+1)) m'/\μ L sd (cQ ((ac:Int)+1)) m'<μ h sd ac m7:=λM Z=>
   GI.RC (gm.ext Z) (gd.ext Z) bd ((x7.trans Z).fz []) V λF m' z g' k f=>⟨J.nP ((u7.trans Z).aR _) (G.trans f.ext) t,bk V _ _ _ ⟨f.ext,_,_,z,g',k,pS a0 B,aZ,bS,V⟩⟩
  refine⟨V,V,j,(u.ext v7).aQ hy,?_⟩
  refine(dj (bf.ext x7) j).any.aK u7 t λa m8 v b=>⟨_,rfl,λ_=>⟨V,V,j,(u.ext (w.trans b)).aQ hy,A m8 v⟩,λ_=>⟨V,V,j,(u.ext (w.trans b)).aQ hy,?_⟩⟩
  refine(dj (bc.ext (w.trans b)) j).any.aK b t λa y P u9=>⟨_,rfl,λ_=>⟨V,V,j,(u.ext (w.trans u9)).aQ hy,A y (v.trans P)⟩,λ_=>⟨V,V,j,(u.ext (w.trans u9)).aQ hy,?_⟩⟩
  intro a5
  have Z:=v.trans P
  exact GI.RC (gd.ext Z) (gm.ext Z) bd.symm ((x7.trans Z).fz []) V λF m' z g' k f=>⟨J.nP ((u7.trans Z).aR _) (G.trans f.ext) t,bk V _ _ _ ⟨f.ext,_,_,g',z,k.symm,a0,pS aZ B,V,bS⟩⟩
 have cm:T.length<=lo.length:=V
 have cd:H.length<=lo.length:=V
 intro m8
 have bX:=gm.bn
 have bQ:=gd.bn
 refine dE (n:=I.length) (bw▸hf.fA) (λac s M=>J m7 M/\∃l,GI c m7 M s l/\(∀o∈l,0<=o/\o<((N.length+I.length:Nat):Int))/\l.length<=ac) ⟨J.push _ _,[],GI.nil c m7,aJ,ad _⟩ ?_
 rintro bh su y I2 μ2 hj ⟨P,A,gu,ao,cu⟩ a7
 have u9:=u7.trans P
 have v9:=w.trans u9
 refine dit (λh2=>?_) λh2=>?_
 .let⟨j,hy⟩:=cq I bh
  refine⟨V,V,j,(hf.ext v9).aQ hy,λ_=>?_,λ_=>a7 V _ _ ⟨P,A,gu,ao,V⟩⟩
  rw[aS (b:=(aU.len:Int)+bh) V V]
  refine(dj ((bf.ext x7).ext P) _).any.aK u9 t λa a5 ai aT=>⟨_,rfl,λ_=>?_,λ_=>a7 V _ _ ⟨P.trans ai,A,gu.ext ai,ao,V⟩⟩
  intro bi
  refine GI.kj (gu.ext ai) ((P.trans ai).fz []) (λa b=>aL (hS a b) (w.trans u7).size) V λF m' z f al X=>⟨J.nP ((u9.trans ai).aR _) (u7.trans f.ext) t,a7 V _ _ ⟨f.ext,_,z,λo u=>?_,bS⟩⟩
  rcases List.mem_append.1 u with u|u
  .exact ao o u
  .simp at u;omega
 have b3:=gu.bn
 have aY:=gm.ext P
 have bu:∀{M:E},J C M->∀a∈p.size::c,a<M.size:=λr=>bR hS (w.trans r).size (r.lt (t _ aJ))
 have aI:∀{M:E},J C M->h.aC<M.size->∀a∈h.aC::p.size::c,a<M.size:=λr R a b=>by
  rcases List.mem_cons.1 b with g|g
  .omega
  .exact bu r a g
 refine(eN (c:=h.aC::p.size::c) (aI u9 aY.bn.2) 14 ((gu.done (S:=c) (λa b=>aL (hS a b) (w.trans u7).size) V).le (bA _ _)) V).aK u9 t λs1 _ a5 g1 g ai aT=>⟨_,rfl,?_⟩
 subst g
 have a2:h.aC<a5.size:=ai.lt aY.bn.2
 refine(eN (c:=s1.aC::h.aC::p.size::c) (λa b=>?_) 15 ((((gd.done (S:=c) (λa b=>aL (hS a b) (w.trans G).size) V).le (bA _ _)).ext P).ext ai) V).aK aT t λs2 _ bi g2 g aV bH=>⟨_,rfl,?_⟩
 .rcases List.mem_cons.1 b with g|g
  .have:=g1.bn;omega
  .exact aI aT a2 a g
 subst g
 have bW:h.aC<bi.size:=aV.lt a2
 have bZ:=(g1.ext fQ.mono aV).bn
 have e2:=g2.mZ fQ.mono (λb=>by
  have hy:=g2.bn;rcases List.mem_cons.1 b with g|g
  .have:=g1.bn;omega
  .have:=aI aT a2 _ g;omega) bo bS
 refine GS.all (g1.ext fQ.mono aV) ((ai.trans aV).fz []) e2 bS λB L g3 f3 z3 q3=>⟨J.nP bH (u9.trans f3.ext) t,?_⟩
 have ak:J y L:=f3.ext
 have ay:=u9.trans ak
 have ca:=w.trans ay
 have NW:WL ds (pc rs) True (N.length+I.length) (A.map (eP 14)++H.map (eP 15)):=by
  refine(qT V ao).append ?_;rw[jH V];refine qT V λo u=>?_;have:=hp.bg o (aZ o u);omega
 have bm:dc (A.map (eP 14)++H.map (eP 15))=0:=by rw[cJ,jH V,jH V]
 have b_:sw (A.map (eP 14)++H.map (eP 15))<=1006:=by rw[dv,nH,nH];omega
 have ba:GI c D L h T:=(gm.ext P).ext ak
 have bB:B.aC≠h.aC:=g3.Kp ba bo
 have aE:∀{M j:E},J C M->J C j->∀i∈[p.size,d.size,m.size],∀o,af j i o=af M i o:=λr h' i R o=>aM (by rw[h'.same i (t i R),r.same i (t i R)]) o
 have E4:∀{M j:E},J C M->J C j->∀{aq:Prop},aq->af j d.size 0=af M d.size 0/\af j d.size 1=af M d.size 1/\af j m.size 0=af M m.size 0/\af j m.size 1=af M m.size 1/\aq:=λr h' _ hp=>⟨aE r h' _ aJ _,aE r h' _ aJ _,aE r h' _ aJ _,aE r h' _ aJ _,hp⟩
 have F4:∀{M:E},Fz [h.aC] y M->J D M:=λr=>Fz.ext ((((x7.trans P).fz [h.aC]).trans r).CH λi R=>Or.inr (by simp at R;omega))
 have b2:h.aC<y.size:=aY.bn.2
 have z3:=x3.size
 have tail:∀(M:E)(k:Nat)(ss:O)(q:Bk),GS (k::h.aC::p.size::c) y M B (A.map (eP 14)++H.map (eP 15))->Fz [h.aC] y M->y.size<=k->k<M.size->k≠B.aC->eG (bI (k::B.aC::h.aC::p.size::c) M) ss q.aE->WB ds (pc rs) True (N.length+I.length) q/\q.w+1050<=1100*i.w->
  let Q:E:=aj M k 0 [.s ss,.i q.aT]
  jb Q fN [.i 0,.i 0,.i 0,.s .nil,.s .nil] 72 B ss λaw M2=>eF [k,p.size,d.size,m.size] Q M2/\af M2 k 1=af Q k 1/\
   let M3:E:=aj M2 p.size 0 [.s aw,.i q.aT]
   ∃s aa,Value.agg #[O.v aw,vi q.aT]=.agg #[O.v s,vi aa.aT]/\eG (bI c M3) s aa.aE/\(WB ds (pc rs) True (N.length+I.length) aa/\aa.w<=1100*i.w)/\J m M3:=by
  intro M k ss q z ab bv bN be ap a3 Q
  have cb:Q.size=M.size:=aD _ _ _ _
  have hy:=z.bn
  have bD:eG (bI (B.aC::h.aC::p.size::c) Q) ss q.aE:=ap.le (cp aJ λa b=>ah _ b)
  have bO:=Bk.k8 q
  have b0:=fw q.aE
  have hF:=F4 ab
  have zF:=hF.size
  have z9:=ab.size
  have g1:GS (h.aC::p.size::c) y Q B _:=z.re fQ.mono (Y:=[k]) ((Fz.aH [k] M).aj (Or.inl aJ) _ _) aJ (by simpa using kE be) λa b=>Or.inl (ah _ b)
  have f1:Fz [h.aC] y Q:=ab.aj (Or.inr bv) _ _
  have hw:=a3.2
  refine GS.all g1 f1 bD bS λF M2 g2 f al X=>⟨λa b=>?_,aM (X k V be) _,?_⟩
  .simp at b
   refine X a ?_ ?_<;>rcases b with rfl|rfl|rfl|rfl<;>omega
  intro M3
  have bK:J m M2:=Fz.ext (((v9.fz [h.aC]).trans f).CH λi R=>Or.inr (by simp at R;omega))
  have b7:=g2.bn
  have h5:=g2.mZ fQ.mono (λb=>by
   rcases List.mem_cons.1 b with g|g
   .omega
   .rcases List.mem_cons.1 g with g|g
    .omega
    .have:=hS _ g;omega) bo bS
  refine⟨F,.mk _ q.aT,rfl,eG.le (cp aJ λa b=>ah _ (ah _ b)) h5,⟨WB.of (NW.append ?_) ?_,?_⟩,bK.aj V _ _⟩
  .rw[bm];exact a3.1.bC.1
  .rw[cJ,bm,bG];exact a3.1.bC.2
  .rw[Bk.pY,dv];omega
 have bg:∀(M:E)(e:List Nat)(K:O->E->Prop),J L M->GS e y M B (A.map (eP 14)++H.map (eP 15))->h.aC∈e->(∀F j,GI c D j F (T++A)->GS e y j B (A.map (eP 14)++H.map (eP 15))->Fz [h.aC] y j->M.size<=j.size->(∀i,i<M.size->i≠h.aC->j[i]? =M[i]?)->K F j)->jb M aA [.i 0] 8 h su K:=by
  intro M e K hx z bz hK;have bF:au (bI (h.aC::c) M) su A:=by
   refine au.le ((ak.trans hx).cR _) (Gr.mZ (S:=h.aC::c) tp.mono gu.any (λb=>?_) bo V);rcases List.mem_cons.1 b with g|g
   .omega
   .have:=hS _ g;have:=w.size;omega
  exact GI.all (ba.ext hx) ((((x7.trans P).trans ak).trans hx).fz []) (λa b=>aL (hS a b) (w.trans G).size) bF V λF j g' f al X=>hK F j g' (z.ML fQ.mono (Y:=[h.aC]) ⟨al.1,λi R hn=>X i R (by simpa using hn)⟩ (by simpa using bz) (by simpa using bB)) (((ak.trans hx).fz [h.aC]).trans ⟨al.1,λi R hn=>X i R (by simpa using hn)⟩) al.1 X
 have aC:∀(M:E)(e:List Nat)(mn ae:O)(v:List Int),(∀a∈e,a<M.size)->Fz [h.aC] y M->au M mn (T++A)->au M ae v->oH la v->mO 111 [.agg #[O.v an,O.v F],O.v aK,.agg #[O.v ax,vi i.aT],O.v mn,O.v ae] M e λq=>WB ds (pc rs) True (N.length+I.length) q/\q.w+1050<=1100*i.w:=by
  intro M e mn ae v bt ab h1 h2 h3;have hF:=F4 ab;have hm:=(w.trans G).trans hF;have bx:au M aK (N++I):=(((gi.done aJ bS).le (bA _ _)).ext x4).ext hF;have:=ih e M bt an F aK ax mn ae (N++I) (T++A) v (hn.le hm.le) bx (hs.le hm.le) h1 h2 ⟨λo u=>?_,bS,oh h3.2,bS,by simpa using hp.wb⟩
  .simpa using this
  .simp;rcases List.mem_append.1 u with u|u
   .have:=hp.bg o (a0 o u);omega
   .have:=ao o u;omega
 have b8:=ak.size
 have b1:h.aC<L.size:=V
 have bY:B.aC<L.size:=g3.bn.2
 have bb:∀{M:E},J C M->L.size<=M.size->∀a∈B.aC::h.aC::p.size::c,a<M.size:=λr hz a b=>by
  rcases List.mem_cons.1 b with g|g
  .omega
  .exact aI r V a g
 have hO:∀(M:E)(k:Nat)(mn ae:O)(v:List Int),GS (k::h.aC::p.size::c) y M B (A.map (eP 14)++H.map (eP 15))->Fz [h.aC] y M->L.size<=k->k<M.size->au M mn (T++A)->au M ae v->oH la v->
  aP cv 111 [.agg #[O.v an,O.v F],O.v aK,.agg #[O.v ax,vi i.aT],O.v mn,O.v ae] M λrv j=>eF [k,p.size,d.size,m.size] M j/\∃a8:O,∃aR:Int,rv=.agg #[O.v a8,vi aR]/\
   let Q:E:=aj j k 0 [.s a8,.i aR]
   jb Q fN [.i 0,.i 0,.i 0,.s .nil,.s .nil] 72 B a8 λaw M2=>eF [k,p.size,d.size,m.size] Q M2/\af M2 k 1=af Q k 1/\
    let M3:E:=aj M2 p.size 0 [.s aw,.i aR]
    ∃s aa,Value.agg #[O.v aw,vi aR]=.agg #[O.v s,vi aa.aT]/\eG (bI c M3) s aa.aE/\(WB ds (pc rs) True (N.length+I.length) aa/\aa.w<=1100*i.w)/\J m M3:=by
  intro M k mn ae v z ab h1 h2 h3 h4 h5
  have hM:J C M:=G.trans (F4 ab)
  refine(aC M (k::B.aC::h.aC::p.size::c) mn ae v (λa b=>?_) ab h3 h4 h5).aK (J.aH M) (λa b=>?_) λss q j ap hq hx _=>⟨_,_,rfl,tail j k ss q (z.ext fQ.mono hx) (ab.then hx) V (hx.lt h2) V ap hq⟩
  .rcases List.mem_cons.1 b with g|g
   .omega
   .exact bb hM V a g
  .rcases List.mem_cons.1 b with g|g
   .omega
   .exact hM.lt (t a g)
 have aQ:∀(M:E)(o:Obj),GS (h.aC::p.size::c) y M B (A.map (eP 14)++H.map (eP 15))->GS (M.size::h.aC::p.size::c) y (M.push o) B (A.map (eP 14)++H.map (eP 15)):=λM o z=>
  z.re fQ.mono (Y:=[]) ((J.push M o).fz []) aJ aJ λa b=>by
   rcases List.mem_cons.1 b with g|g
   .exact Or.inr V
   .exact Or.inl g
 have bM:Fz [h.aC] y L:=ak.fz _
 have aX:∀(M:E)(aW:List Nat)(K:Value->E->Prop),J C M->(∀a∈aW,a<M.size)->(∀s v j,au j s v->oH la v->J M j->K (O.v s) j)->aP cv 239 [O.v a4,vi (aU.len:Int)] M λN m'=>eF aW M m'/\K N m':=λM aW K hM hL hK=>
  (N6 (S:=[]) aJ (bc.le ((w.trans hM).le.trans (yW _))) _ V).aK (J.aH M) hL λs v j z aq Z _=>hK s v j ((z.done aJ (oh aq.2)).le (bA _ _)) aq Z
 have aH:∀{M:E}{s:O},GI c D M s (T++A)->au M s (T++A):=λz=>(z.done (λa b=>aL (hS a b) (w.trans G).size) bS).le (bA _ _)
 have a1:∀{M:E}{k:Nat},J C M->k<M.size->∀a∈[k,p.size,d.size,m.size],a<M.size:=λr R a b=>by
  rcases List.mem_cons.1 b with g|g
  .omega
  .exact r.lt (t a g)
 refine⟨bg L _ _ (J.aH _) g3 aJ λar aO ga gs W al X=>⟨λa b=>X a (ay.lt (t a b)) (oh (t a b)),E4 ay (G.trans (F4 W)) ⟨?_,?_⟩⟩,?_⟩
 .have ag:=G.trans (F4 W)
  refine aX aO _ _ ag (λa b=>ag.lt (t a b)) λam v aB a_ bl U=>⟨_,rfl,E4 ag (ag.trans U) ⟨?_,?_⟩⟩
  .have az:=ag.trans U
   have bL:=U.size
   refine(aC aB (B.aC::h.aC::p.size::c) ar am v (bb az V) (W.then U) ((aH ga).ext U) a_ bl).aK az t λss q a6 ap hq a9 bn=>⟨_,_,rfl,?_⟩
   intro bj
   have cc:=a9.size
   have bs:=(W.then U).then a9
   exact E4 bn (bn.aR _) (tail bj a6.size ss q (aQ a6 _ ((gs.ext fQ.mono U).ext fQ.mono a9)) (bs.push _) V (by simp[bj]) V (ap.le (sD (J.push a6 _) (ad _))) hq)
  .intro a6
   have bL:=U.size
   have az:=ag.trans U
   exact E4 az (az.aR _) (hO a6 aB.size ar am v (aQ aB _ (gs.ext fQ.mono U)) ((W.then U).push _) V (by simp[a6]) (((aH ga).ext U).ext (J.push _ _)) (a_.ext (J.push _ _)) bl)
 .intro U
  have ag:=G.trans (F4 W)
  have az:J C U:=ag.aR _
  have a6:J aO U:=J.push _ _
  refine E4 ag az (aX U _ _ az (a1 az (by simp[U])) λam v a_ a9 bj aB=>⟨_,rfl,E4 az (az.trans aB) ?_⟩)
  exact hO a_ aO.size ar am v ((aQ aO _ gs).ext fQ.mono aB) ((W.then a6).then aB) V (aB.lt (by simp[U])) (((aH ga).ext a6).ext aB) a9 bj
 .intro U
  have aB:J C U:=ay.aR _
  have bl:J L U:=J.push _ _
  refine E4 ay aB (bg U _ _ bl (aQ L _ g3) aJ λar a9 ga gs W al X=>⟨λa b=>X a (a1 aB (by simp[U]) a b) ?_,E4 aB (G.trans (F4 W)) ?_⟩)
  .rcases List.mem_cons.1 b with g|g
   .omega
   .have:=t a g;omega
  have az:=G.trans (F4 W)
  have bn:U.size=L.size+1:=by simp[U]
  refine aX a9 _ _ az (a1 az V) λam v a_ a6 bj ag=>⟨_,rfl,E4 az (az.trans ag) ?_⟩
  exact hO a_ L.size ar am v (gs.ext fQ.mono ag) (W.then ag) (ad _) (ag.lt V) ((aH ga).ext ag) a6 bj
end
section
variable{c m:E}{k i a:Nat}{s:O}{d g:List Nat}{e:List Int}{x:cF}{f:List eQ}
def VS{a b:E}(h:J a c)(f:Fz [k] c b)(g:a.size<=k):J a b:=Fz.ext (((h.fz [k]).trans f).CH λe d=>Or.inr (by simp at d;omega))
def _root_.Go.Vc.Fz.NM{M b:E}(f:Fz [k] c M)(h:s.aC=k\/c.size<=s.aC)(g:M.size<=b.size)(q:∀a,a<M.size->a≠s.aC->b[a]? =M[a]?):Fz [k] c b:=
 f.rf ⟨g,λa d e=>q a d (by simpa using e)⟩ (Y:=[s.aC]) (λy d=>by simp at d⊢;omega)
def GI.ZF{X:List Nat}{b:E}{x:O}{f:List Int}{K:O->E->Prop}(h:GI d b m s e)(k:Fz X b m)(n:au m x f)(p:e.length+f.length<=10^12)
 (l:∀r a,GI d b a r (e++f)->Fz X b a->(m.size<=a.size/\(r.aC=s.aC\/m.size<=r.aC))->(∀c,c<m.size->c≠s.aC->a[c]? =m[c]?)->K r a):jb m aA [.i 0] 8 s x K:=by
 let⟨o,g,i,j⟩:=n.V0 (b:=1) λ_ _ h=>by rw[h];rfl
 exact Gr.next (g:=[.i 0]) tp.mono bo h k g i j V l
def bP(d:List Nat){b:O}(h:au m b e)(c:e.length<=10^12):iU 50 [O.v b] m d (e=·):=by
 apply mQ;intro i;have a:J m i:=J.push m _;exact GI.ZF (e:=[]) (X:=[]) (GI.nil d m) (a.fz []) (h.ext a) (by simpa using c) λr j g f _ _=>⟨r,e,rfl,by simpa using g,rfl,f.ext⟩
abbrev GB(d:List Nat)(a m:E)(s:O)(e:List Bk):Prop:=Gr d a m cZ 2 qO s e
def GB.new(d:List Nat)(m:E):GB d m (m.push (.cells (bE []) cZ)) (.mk m.size 0 0 0) []:=Gr.new d (ad _) _ _ _
def GB.kj{d X:List Nat}{g m:E}{s a:O}{e:List Bk}{c:Bk}{K:O->E->Prop}(h:GB d g m s e)(k:Fz X g m)(j:eG (bI (s.aC::d) m) a c.aE)(l:e.length<=10^12)
 (i:∀r b,GB d g b r (e++[c])->Fz X g b->m.size<=b.size/\(r.aC=s.aC\/m.size<=r.aC)->(∀f,f<m.size->f≠s.aC->b[f]? =m[f]?)->K r b):
 jb (m.push (.cells (bE [.s a,.i c.aT]) cZ)) cZ [.s .nil,.i 0] 32 s (.mk m.size 0 1 1) K:=
 Gr.kj (g:=[.s .nil,.i 0]) qO.mono bo h k (by cases c;exact qO.of j) V i
def JP{a:List bq}{b bM:Int}{y:Int}(h:b=8)(c:(cb a bM)[i]? =some y):AI a b bM i=(cg a y).length:=by unfold AI;rw[ao h,c];rfl
def JQ{b:List bq}{a bM:Int}(h:a≠8):AI b a bM i=0:=by unfold AI;rw[ae h]
def _root_.Go.Vc.WS.Pb{b:List bq}{f d:Prop}(h:WS b g f a x)(j:f->d){bY:Int}(l:0<=bY/\bY<=(a:Int))(n:bY≠0->x.op=6){bH:List Bk}(i:bH.length=x.bH.length)(m:∀(k:Nat)(c:Bk),bH[k]? =some c->WB b g d (a+AI b x.op x.bM k) c):WS b g d a ⟨x.op,x.bM,bY,x.args,bH⟩:=
 ⟨⟨h.dV.op.imp id λh=>⟨j h.1,h.2⟩,h.dV.args,h.dV.lj,l,λe=>i.trans (h.dV.Jr e),λe=>i▸h.dV.all e,n,h.dV.ar⟩,m⟩
def Hj(hS:∀g∈d,g<m.size){Y U ac a k mL ab:O}{r:List bq}{G lo la:List Int}(D:dY m Y U r f)(hv:au m ac G)(ha:au m a x.args)(R:mU m k x.bH)(ho:au m mL lo)(ax:au m ab la)
 (aA:∀o∈lo,0<=o/\o<(G.length:Int))(Xq:lo.length+5*x.w<=500)(Xp:la.length+1000*x.w<=1000000)(vN:G.length+5*x.w<=1000000)(aa:WS r (pc f) False G.length x)(ih:∀c∈x.bH,Wv r f c):
 JJ 155 [.agg #[O.v Y,O.v U],O.v ac,oC x a k,O.v mL,O.v ab] m d λz=>WS r (pc f) True G.length z/\z.op=x.op/\z.w<=1+x.args.length+1100*bw x.bH:=by
 apply zB
 simp -zeta only[aG,aF]
 intro m0 o p ai
 let⟨q,v,s0,s1,s2⟩:=pJ (a:=m0) (b:=o) (c:=p) rfl rfl rfl
 have am:J p ai:=J.push _ _
 have gk:=GB.new (o.size::d) p
 clear_value p
 have aE:=ha.len;have aw:=R.len;have hw:=cF.k8 x;have aN:=JS x.bH
 refine(gP (e:=[p.size]) (by simp[ai]) (D.le (q.trans am).le).bu D.types x.bM).aK am v λg cl m4 u F x4 u4=>⟨_,rfl,?_⟩
 subst F
 have aQ:=u.len
 refine dE (n:=x.bH.length) (aw▸R.fA) (λj s M=>Fz [p.size] m4 M/\(s.aC=p.size\/m4.size<=s.aC)/\∃e,GB (o.size::d) p M s e/\e.length=j/\(∀(i:Nat)(c:Bk),e[i]? =some c->WB r (pc f) True (G.length+AI r x.op x.bM i) c)/\bw e<=1100*bw (x.bH.take j)) ⟨Fz.aH _ _,Or.inl rfl,[],gk.ext qO.mono x4,rfl,aJ,aJ⟩ ?_
 rintro j s T ao μ hj ⟨N,aB,e,Q,aS,af,ar⟩ aD
 have h:=VS u4 N (ad _)
 have hy:=Q.bn
 refine dit (λt=>?_) λt=>?_
 .intro m6
  have l:J T m6:=J.push _ _
  let⟨c,C⟩:=cq x.bH j
  have aH:=uo C
  have aK:=tR C
  have aq:∀{M:E},J T M->∀g∈s.aC::o.size::d,g<M.size:=λt=>bR (bR hS q.size (v _ aJ)) (h.trans t).size (oh t.size)
  have hO:∀(M:E)(H:O)(P:List Int)(y:O),J T M->au M H P->P.length=AI r x.op x.bM j->eG M y c.aE->
   aP cv 193 [.agg #[O.v Y,O.v U],O.v ac,O.v H,.agg #[O.v y,vi c.aT],O.v mL,O.v ab] M λrv K=>eF [o.size,m0.size,m.size] M K/\∃ak:O,∃al:Int,rv=.agg #[O.v ak,vi al]/\
    let M1:E:=K.push (.cells (bE [.s ak,.i al]) cZ)
    jb M1 cZ [.s O.nil,.i (0:Int)] 32 s (O.mk K.size 0 1 1) λaj L=>eF [o.size,m0.size,m.size] M1 L/\ao aj (cQ ((j:Int)+(1:Int))) L/\μ aj (cQ ((j:Int)+(1:Int))) L<μ s j T:=by
   intro M H P y B hf ae I
   have X:=q.trans (h.trans B)
   have b3:=OP D.types x.op x.bM j
   refine(IQ (c:=s.aC::o.size::d) (aq B) (D.le X.le) (hv.ext X) hf I (ho.ext X) (ax.ext X) ⟨aA,V,V,V,V,ae▸aa.bH j c C⟩ (ih c (av C))).aK (h.trans B) v λss b' K aC F z u'=>⟨_,_,rfl,?_⟩
   refine GB.kj (c:=b') (Q.ext qO.mono (B.trans z)) (u'.fz []) aC (oh (pK x.bH)) λU L g2 f2 z2 q2=>⟨J.nP (u'.aR _) f2.ext v,aD V _ _ ⟨(N.then (B.trans z)).NM aB z2.1 q2,?_,_,g2,bS,λi b2 w=>?_,?_⟩⟩
   .have A:=(N.then (B.trans z)).size
    rcases z2.2 with Z|Z<;>omega
   .rcases aX i e.length with A|A
    .rw[ay A]at w;exact af i b2 w
    .rw[aI A]at w
     have:i -e.length=0:=by have:=az w;simp at this;omega
     rw[this]at w;simp at w;subst w
     have:i=j:=V
     subst this
     rw[<-ae];exact F.1
   .rw[nY,tQ,yH]
    have:=F.2;omega
  refine⟨λA=>?_,λA=>?_⟩
  .simp only[aO]at A
   have aR:=(aa.dV.all A).1
   let⟨an,ag⟩:=cq (cb r x.bM) j
   refine⟨V,V,an,(eA.1 ((u.le ((N.then l).cR aJ)).aQ ag)).2,?_⟩
   have W:=h.trans l
   refine(dF (e:=[]) aJ ((D.le (q.trans W).le).bu.le (yW _)) D.types an).aK W v λH P m7 hf F x7 u7=>⟨_,rfl,?_⟩
   subst F
   let⟨y,I,e0,e1⟩:=(R.le (q.trans u7).le).aQ C
   exact⟨V,V,_,e0,_,e1,hO m7 H _ y (l.trans x7) (hf.le (bA _ _)) (JP A ag).symm I⟩
  .simp only[ap]at A
   let⟨y,I,e0,e1⟩:=(R.le (q.trans (h.trans l)).le).aQ C
   exact⟨V,V,_,e0,_,e1,hO m6 _ [] y l (lU _ _ _ _ _ _) (JQ A).symm I⟩
 .have A:e.length=x.bH.length:=V
  rw[cG V]at ar
  refine(bP (o.size::d) (ha.ext (q.trans h)) V).aK h v λB H m6 y Z l W=>⟨_,rfl,aM (l.same _ (h.lt (v _ aJ))) _,aM (l.same _ (h.lt (v _ aJ))) _,?_⟩
  subst Z
  intro m7
  have C:=(Q.ext qO.mono l).bn
  have w:∀g∈o.size::d,g<p.size:=bR hS q.size V
  refine⟨B,s,⟨x.op,x.bM,0,x.args,e⟩,rfl,(y.done (λg u=>aL (w g u) h.size) V).le (cp aJ λg u=>ah _ u),mU.le (cp aJ λg u=>ah _ u) ((Q.ext qO.mono l).done qO.mono w bo (by have:=pK x.bH;show e.length<=_;omega)),⟨aa.Pb (λt=>t.elim) ⟨V,V⟩ (λt=>absurd rfl t) A af,rfl,?_⟩,(q.trans W).aj V _ _⟩
  rw[cF.k8]
  simp only
  omega
def _root_.Go.Vc.Q4{σ τ ρ:Type}{n:Nat}(u:n<=9223372036854775807){j:σ}{l:τ}{h:ρ}{g:(σ->τ->ρ->Int->E->Prop)->(σ->τ->ρ->Int->E->Nat)->σ->τ->ρ->Int->E->Prop}(Q:Nat->σ->τ->ρ->E->Prop)(p:Q 0 j l h m)
 (o:∀(k:Nat)(s:σ)(t:τ)(r:ρ)(a:E)(I:σ->τ->ρ->Int->E->Prop)(μ:σ->τ->ρ->Int->E->Nat),k<=n->Q k s t r a->
  (k<n->∀d e c b,Q (k+1) d e c b->I d e c (cQ ((k:Int)+1)) b/\μ d e c (cQ ((k:Int)+1)) b<μ s t r k a)->g I μ s t r k a):
 ∃(I:σ->τ->ρ->Int->E->Prop)(μ:σ->τ->ρ->Int->E->Nat),I j l h 0 m/\∀s t r i a,I s t r i a->g I μ s t r i a:=by
 refine⟨λs t r i b=>∃k:Nat,i=k/\k<=n/\Q k s t r b,λ_ _ _ i _=>(n -i).toNat,⟨0,rfl,dy _,p⟩,?_⟩
 rintro s t r i a ⟨k,rfl,q,v⟩
 refine o k s t r a _ _ q v λf d e c b w=>?_
 rw[kd f u]
 exact⟨⟨k+1,rfl,f,w⟩,Cv f⟩
structure CB(ds:List bq)(g:List Nat)(d:List Nat)(m2 M:E)(v lo:List Int)(aE:List cF)(k:Nat)(st inn mn:O):Prop where
 x:J m2 M
 hs:∃e,GS (inn.aC::mn.aC::d) m2 M st e/\WL ds g True v.length e/\dc e=dc (aE.take k)/\sw e<=1100*sw (aE.take k)
 hi:∃e,GI d m2 M inn e/\e.length=v.length+dc (aE.take k)
 hm:∃e,GI d m2 M mn e/\e.length<=lo.length+k/\∀o∈e,0<=o/\o<((v.length+dc (aE.take k):Nat):Int)
 ne:inn.aC≠mn.aC
def ZI{b:List bq}(h:WS b g False a x):dn x=1:=ao (h.dV.op.resolve_right λh=>h.1)
def Fi{U:List bq}:∀c:Bk,Wv U f c:=by
 refine Bk.ind ?_;intro aE v ih d m hS b8 c0 dR c2 mL c6 ai lo la hn hv hs A bM hp;have bf:=hp.wb.bC;simp only[Bk.jG,Bk.iZ]at*;have Xq:=hp.Xq;have Xp:=hp.Xp;have vN:=hp.vN;rw[(Bk.pY aE v)]at Xq Xp vN;apply xR;simp -zeta only[aG,aF];intro m0 o q aI;let⟨F,N,s0,s1,s2⟩:=pJ (a:=m0) (b:=o) (c:=q) rfl rfl rfl;have bn:J q aI:=J.push _ _;have bH:∀am,GS am q aI (.mk q.size 0 0 0) []:=λam=>GS.new am q;have s3:aI.size=q.size+1:=by simp[aI]
 clear_value aI;clear_value q;have bQ:=hs.len;have cN:=Az aE;have dw:=fw aE;refine(bP d (hv.ext (F.trans bn)) V).aK bn N λl _ m4 G p x4 u4=>⟨_,rfl,?_⟩;subst p;refine(bP d (A.ext (F.trans u4)) V).aK u4 N λu _ m5 W p x5 u5=>⟨_,rfl,?_⟩;subst p;have bT:=G.bn;have bU:=W.bn;refine Q4 (n:=aE.length) (bQ▸hs.fA) (λk z l u g=>CB U (pc f) (o.size::d) q g ai lo aE k z l u) ⟨u5,⟨[],((bH _).ext fQ.mono x4).ext fQ.mono x5,WL.nil _ _ _ _,rfl,aJ⟩,⟨ai,((G.ext x5).cL (λ_ h=>h) bn.size).any,aJ⟩,⟨lo,(W.cL (λ_ h=>h) u4.size).any,V,by simpa using hp.bg⟩,V⟩ ?_;clear G W bT bU bH;rintro k z l u B br μ hk ⟨x6,⟨R,gs,aX,Z,dx⟩,⟨li,G,aT⟩,⟨lm,W,dd,bN⟩,dq⟩ a3
 have v6:=F.trans x6;have dh:=G.len bo;have df:=pL (aE.take k);have dm:=pZ k aE;have L:∀j∈o.size::d,j<q.size:=bR hS F.size (N _ aJ);have cx:au B l li:=(G.done L V).le (bA _ _);have cz:au B u lm:=(W.done L V).le (bA _ _);have dJ:=gs.bn;have bT:=G.bn;have bU:=W.bn;have cM:=fw (aE.take k);have di:k<=sw (aE.take k):=by rw[eJ]at cM;omega
 refine dit (λh=>?_) λh=>?_
 .let⟨x,r⟩:=cq aE k;let⟨a,kk,ha,bL,g0,g1,g2,g3,g4⟩:=hs.aQ r;refine⟨V,V,_,v6.af g0,_,v6.af g1,_,v6.af g2,_,v6.af g3,_,v6.af g4,?_⟩;intro m7 C;have x8:J B C:=(J.push B _).aj (ad _) _ _;have s8:C.size=B.size+1:=by simp[C,m7,aD]
  clear_value C;have T:=x6.trans x8;have z6:=x6.size;have t:∀{g:E},C.size<=g.size->∀c∈[B.size,o.size,m0.size,m.size],c<g.size:=λh c hb=>by
   rcases List.mem_cons.1 hb with p|p
   .omega
   .have:=T.lt (N c p);omega
  have dC:=pp r;have dA:=qb r;have dB:=cF.k8 x;have af:WS U (pc f) False li.length x:=by rw[aT];exact bf.1 k x r
  have bK:=ZI af;have dy:=cN (k+1);have de:=pK x.bH;have dp:=fw R;have ae:∀{g:E},J q g->At g b8 c0 a kk U f x:=λh=>⟨hn.le (F.trans h).le,ha.ext (F.trans h),af.dV.bO⟩;have aV:∀{g:E},GI (o.size::d) q g l li->au g l li:=λw=>(w.done L V).le (bA _ _);have bd:∀{g:E},GI (o.size::d) q g u lm->au g u lm:=λw=>(w.done L V).le (bA _ _);have an:∀{g:E}{am:List Nat},C.size<=g.size->(∀j∈am,j<g.size)->∀j∈am++o.size::d,j<g.size:=λh hb j b=>by
   rcases List.mem_append.1 b with h|h
   .exact hb j h
   .have:=L j h;omega
  refine(ny (ae T).Qt (aV (G.ext x8)) (ae T).args (bL.le (F.trans T).le) V λc _=>mI c).aK (J.aH C) (t (ad _)) λty m9 x9 _=>⟨_,rfl,?_⟩;intro aZ;have b2:J C aZ:=x9.aR _;have e0:au (bI [] aZ) (.mk m9.size 0 0 0) []:=lU _ _ _ _ _ _;clear_value aZ;rw[kd (k:=k) (n:=aE.length) V (bQ▸hs.fA)]at a3⊢
  refine(zh (.mk aE v) [] aZ aJ c2 _ _ _ (k+1) (hs.le (F.trans (T.trans b2)).le) e0 (by simp only[Bk.jG];omega) (by simp only[Bk.pY,cE];omega)).aK b2 (t (ad _)) λus ul cR hu cO dS bm=>⟨_,rfl,?_⟩;rw[Bk.pY,cE]at cO;refine(Oc (S:=[]) aJ hu ((bM.ext (F.trans (T.trans bm))).le (yW _)) V).aK bm (t (ad _)) λlt ll cS ba bY c3 aq=>⟨_,rfl,?_⟩;have aH:∀{g:E},GI [] cR g lt ll->au g lt ll:=λw=>(w.done aJ (oh bY.2)).le (bA _ _);have bs:=T.trans aq;have bx:=G.ext (x8.trans aq);have bF:=W.ext (x8.trans aq);have cr:=gs.ext fQ.mono (x8.trans aq);refine(Fk (b:=[]) aJ (ae bs) (aV bx) af.dV.args (bd bF) (aH ba) V).aK (J.aH cS) (t aq.size) λdu dl cT cj bZ ar _=>⟨_,rfl,?_⟩;have c7:=bZ.2;have dU:=aq.size;have dV:=ar.size;have dT:=bm.size;have d_:=c3.size;refine(eN (c:=[z.aC,l.aC,u.aC]++o.size::d) (an V bS) 14 ((cj.done aJ V).le (bA _ _)) V).aK (J.aH cT) (t V) λdP _ a0 ce p aw _=>⟨_,rfl,?_⟩;subst p;have dW:=aw.size;refine GS.all (cr.ext fQ.mono (ar.trans aw)) (((bs.trans ar).trans aw).fz []) (ce.done fQ.mono (an (am:=[z.aC,l.aC,u.aC]) V bS) bo bS) bS λbl bV bv b9 b3 a5=>⟨λj b=>a5 j (t V j b) ?_,?_⟩
  .simp at b;omega
  have aS:J q bV:=b9.ext;have cy:l.aC<a0.size:=V;have cA:u.aC<a0.size:=V;have cB:z.aC≠l.aC:=gs.Kp G bo;have cC:z.aC≠u.aC:=gs.Kp W bo;have dk:=ba.bn;have bz:=(bx.ext (ar.trans aw)).iI (a5 _ cy cB.symm);have bG:=(bF.ext (ar.trans aw)).iI (a5 _ cA cC.symm);have bD:=(ba.ext (ar.trans aw)).iI (a5 _ V V);have dr:bl.aC=z.aC\/a0.size<=bl.aC:=b3.2;have dF:=bv.bn;have dY:=b3.1;refine(Hj (d:=[bl.aC,l.aC,u.aC]++o.size::d) (an V bS) (ae aS).Qt (aV bz) (ae aS).args (bL.le (F.trans aS).le) (bd bG) (aH bD) (by rw[aT];exact bN) V (oh bY.2) V af (ih x (av r))).aK (J.aH bV) (t V) λc_ da x' bW cs ct cZ ax _=>⟨_,_,_,_,_,rfl,?_⟩;let⟨cP,cL,dz⟩:=cZ;have dZ:=ax.size;refine GS.kj (x:=x') (bv.ext fQ.mono ax) ((aS.trans ax).fz []) cs ct bS λaL bg bw b_ b4 a6=>⟨λj b=>?_,?_⟩
  .have:=t (g:=bW) V j b;rw[a6 j this (by simp at b;omega),(J.push bW _).same j this]
  have a8:J q bg:=b_.ext;have bB:=(bz.ext ax).iI (a6 _ V V);have co:=(bG.ext ax).iI (a6 _ V V);have a_:=(bD.ext ax).iI (a6 _ V V);have ds:aL.aC=z.aC\/a0.size<=aL.aC:=by have:=b4.2;omega
  have d0:=b4.1;refine(Ho (b:=[]) aJ (ae a8) (aV bB) af.dV.args (bd co) (aH a_) V).aK (J.aH bg) (t V) λap lf cU gf bj ay _=>⟨_,rfl,?_⟩;have bt:=a8.trans ay;have d3:=ay.size;have cw:∀{g:E},GI [] bg g ap lf->au g ap lf:=λw=>(w.done aJ (oh bj.2)).le (bA _ _);refine(Hp (b:=[]) aJ (ae bt) (cw gf) (aH (a_.ext ay)) V).aK (J.aH cU) (t V) λc1 Q cV gd b0 az _=>⟨_,rfl,?_⟩;have d4:=az.size;have c9:=b0.2;have c8:=bj.2;have dI:=gf.bn;have dH:=gd.bn;have dG:=bw.bn;refine(eN (c:=[aL.aC,ap.aC,l.aC]++o.size::d) (an V bS) 15 ((gd.done aJ V).le (bA _ _)) V).aK (J.aH cV) (t V) λdQ _ cW cg p ak _=>⟨_,rfl,?_⟩;subst p;have b6:=(bt.trans az).trans ak;have d5:=ak.size;have cf:GS ([ap.aC,l.aC]++o.size::d) q cW aL _:=bw.re fQ.mono (Y:=[]) (((ay.trans az).trans ak).fz []) aJ aJ λj b=>by
   simp only[db,dX,aW]at b⊢;rcases b with h|h|h
   .exact Or.inr V
   .exact Or.inl (Or.inl h)
   .exact Or.inl (Or.inr (Or.inr h))
  refine GS.all cf (b6.fz []) (cg.done fQ.mono (an (am:=[aL.aC,ap.aC,l.aC]) V bS) bo bS) bS λH a1 ch ca c4 aK=>⟨λj b=>aK j (t V j b) ?_,?_⟩
  .simp at b;omega
  have b7:J q a1:=ca.ext;have d6:=c4.1;have cm:=((bB.ext ay).ext (az.trans ak)).iI (aK _ V V);have cl:=(gf.ext (az.trans ak)).iI (aK _ V V);have ci:=(gd.ext ak).iI (aK _ V V);have cn:=((a_.ext ay).ext (az.trans ak)).iI (aK _ V V);have bc:au a1 c1 Q:=(ci.done aJ V).le (bA _ _);have cu:=bc.len;have ck:GI (o.size::d) q a1 ap lf:=(cl.cL (λ_ h=>h) a8.size).any;refine dE (n:=Q.length) (cu▸bc.fA) (λ_ s g=>J a1 g/\∃e,GI (o.size::d) q g s e/\GS ([s.aC,l.aC]++o.size::d) q g H (R++dl.map (eP 14)++[x']++Q.map (eP 15))/\oH lf e/\l.aC≠s.aC/\C.size<=s.aC) ⟨J.aH _,lf,ck,ch,⟨λ_ h=>h,ad _⟩,V,V⟩ ?_;rintro i s bh I2 μ2 hi ⟨aA,e,gl,bb,P,cD,dt⟩ cX;have bu:=b7.trans aA;have d7:=aA.size;have cQ:=gl.bn;refine dit (λh2=>?_) λh2=>?_
  .let⟨I,K⟩:=cq Q i;refine⟨V,V,I,(bc.ext aA).aQ K,?_⟩;refine(Ay (S:=[]) aJ (((gl.done L (oh P.2)).le (bA _ _)).le (yW _)) I (oh P.2)).aK (J.aH bh) (t V) λac X ab g2 y D _=>⟨_,rfl,cX V _ _ ⟨aA.trans D,X,(g2.cL (λ_ h=>h) bu.size).any,?_,⟨λaB hz=>P.1 aB (y.1 aB hz),bJ y.2 P.2⟩,?_,?_⟩⟩
   .have aa:=g2.bn;refine bb.re fQ.mono (Y:=[]) (D.fz []) aJ aJ λj b=>?_;simp only[db,dX,aW]at b⊢;rcases b with h|h|h
    .exact Or.inr V
    .exact Or.inl (Or.inr (Or.inl h))
    .exact Or.inl (Or.inr (Or.inr h))
   .have:=g2.bn;omega
   .have:=g2.bn;omega
  intro dL;have bC:=cm.ext aA;refine GI.kj bC (bu.fz []) L V λaa ao ab cb b5 a7=>⟨λj b=>?_,?_⟩
  .have:=t (g:=bh) V j b;rw[a7 j this (by simp at b;omega),(J.push bh _).same j this]
  have a9:J q ao:=cb.ext;have c5:=b5.1;have cI:H.aC≠l.aC:=bb.Kp bC bo;have aC:=gl.iI (a7 _ cQ.2 cD.symm);have bO:=b5.2;have ac:GS ([s.aC,aa.aC]++o.size::d) q ao H _:=bb.re fQ.mono (Y:=[l.aC]) ⟨c5,λj b hn=>a7 j b (by simpa using hn)⟩ aJ (by simpa using cI) λj b=>by
   simp only[db,dX,aW]at b⊢;rcases b with h|h|h
   .exact Or.inl (Or.inl h)
   .rcases bO with p|p
    .exact Or.inl (Or.inr (Or.inl (h.trans p)))
    .exact Or.inr V
   .exact Or.inl (Or.inr (Or.inr h))
  have bi:aa.aC≠s.aC:=by rcases bO with p|p<;>omega
  have I:WL U (pc f) True ai.length (R++dl.map (eP 14)++[x']++Q.map (eP 15))/\dc (R++dl.map (eP 14)++[x']++Q.map (eP 15))=dc (aE.take (k+1))/\sw (R++dl.map (eP 14)++[x']++Q.map (eP 15))+2<=1100*sw (aE.take (k+1)):=by
   have dg:dn x'=1:=by unfold dn at bK⊢;rw[cL];exact bK
   have d1:dc (dl.map (eP 14))=0:=jH V _;have d2:dc (Q.map (eP 15))=0:=jH V _;refine⟨((aX.append (qT V λy A=>?_)).zg ?_).append (qT V λy A=>?_),?_,?_⟩
   .rw[Z,<-aT];exact af.dV.args y (bZ.1 y A)
   .rw[cJ,d1,Z,jo,<-aT];exact cP
   .have:=af.dV.args y (b0.1 y A);rw[cJ,cJ,d1,Z,jW,sA];omega
   .rw[cJ,cJ,cJ,d1,d2,Z,jW,sA];omega
   .rw[dv,dv,dv,nH,nH,lZ,uE];omega
  have be:∀y∈e,0<=y/\y<((ai.length+dc (aE.take (k+1)):Nat):Int):=λy A=>by
   have:=bN y (bj.1 y (P.1 y A));omega
  have bX:∀(g:E),J ao g->br H aa s ((k+1:Nat):Int) g/\μ H aa s ((k+1:Nat):Int) g<μ z l u k B:=λg r=>
   a3 V _ _ _ _ ⟨a9.trans r,⟨_,(ac.re fQ.mono (Y:=[]) (r.fz []) aJ aJ λj b=>Or.inl (by simp only[db,dX,aW]at b⊢;rcases b with h|h|h;exact Or.inr (Or.inl h);exact Or.inl h;exact Or.inr (Or.inr h))),I.1,I.2.1,V⟩,⟨_,ab.ext r,bS⟩,⟨e,aC.ext r,oh P.2,be⟩,bi⟩
  have dK:=ac.bn;have cY:∀(g:E),J ao g->aP cv 158 [vi (15:Int),vi (l.len:Int)] g λrv D=>eF [B.size,o.size,m0.size,m.size] g D/\∃aM:Int,∃aN:Int,∃aO:Int,∃aQ:O,∃aR:O,rv=.agg #[vi aM,vi aN,vi aO,O.v aQ,O.v aR]/\
   let M2:E:=D.push (.cells (bE [.i aM,.i aN,.i aO,.s aQ,.s aR]) fN)
   jb M2 fN [.i (0:Int),.i (0:Int),.i (0:Int),.s O.nil,.s O.nil] 72 H (O.mk D.size 0 1 1) λb1 K=>eF [B.size,o.size,m0.size,m.size] M2 K/\br b1 aa s ((k+1:Nat):Int) K/\μ b1 aa s ((k+1:Nat):Int) K<μ z l u k B:=by
   intro g r
   have zx:=r.size
   have dD:=ab.bn
   refine(iJ (c:=[H.aC,s.aC,aa.aC]++o.size::d) (an V bS) 15 (l.len:Int)).mono λrv D⟨pa,pk,p,X,h2,ag⟩=>?_
   subst p
   have d9:=ag.size
   have aY:=r.trans ag
   refine⟨ag.de (t V),_,_,_,_,_,rfl,?_⟩
   have cG:H.aC≠aa.aC:=ac.Kp ab bo
   have cH:H.aC≠s.aC:=ac.Kp aC bo
   refine GS.kj (x:=eP 15 (l.len:Int)) (ac.ext fQ.mono aY) ((a9.trans aY).fz []) X h2 (PO I.2.2 (fw (R++dl.map (eP 14)++[x']++Q.map (eP 15)))) λr' K w aU aB a4=>⟨λj b=>?_,a3 V _ _ _ _ ⟨aU.ext,⟨_,(w.re fQ.mono (Y:=[]) ((J.aH _).fz []) aJ aJ λj b=>Or.inl (by simp only[db,dX,aW]at b⊢;rcases b with h|h|h;exact Or.inr (Or.inl h);exact Or.inl h;exact Or.inr (Or.inr h))),I.1.zg (CQ V ?_),?_,?_⟩,⟨_,(ab.ext aY).iI (a4 _ V cG.symm),bS⟩,⟨e,(aC.ext aY).iI (a4 _ V cH.symm),oh P.2,be⟩,bi⟩⟩
   .have:=t (g:=D) V j b
    rw[a4 j this (by simp at b;omega),(J.push D _).same j this]
   .rw[I.2.1];omega
   .rw[cJ,I.2.1];simp[jW,dn,eP,oE]
   .rw[dv,lZ,uE]
    have h5:(eP 15 (l.len:Int)).w=2:=by rw[cF.k8];rfl
    have:=I.2.2;omega
  refine⟨λ_=>?_,λh0=>⟨λX=>by rw[h0]at X;simp at X,λ_=>bX ao (J.aH _)⟩⟩;refine(dj (aH (((cn.ext aA).iI (a7 _ V V)))) _).any.aK (J.aH ao) (t V) λc a2 al _=>⟨_,rfl,λ_=>?_,λ_=>⟨λ_=>cY a2 al,λ_=>bX a2 al⟩⟩;intro dM;have cK:H.aC≠s.aC:=ac.Kp aC bo;have d8:=al.size;refine GI.kj (aC.ext al) ((a9.trans al).fz []) L (oh P.2) λdO dN cd cc bp bk=>⟨λj b=>?_,a3 V _ _ _ _ ⟨cc.ext,⟨_,(ac.ext fQ.mono al).re fQ.mono (Y:=[s.aC]) ⟨bp.1,λj b hn=>bk j b (by simpa using hn)⟩ aJ (by simpa using cK) λj b=>?_,I.1,I.2.1,V⟩,⟨_,(ab.ext al).iI (bk _ ?_ bi),bS⟩,⟨_,cd,?_,?_⟩,?_⟩⟩
  .have:=t (g:=a2) V j b;rw[bk j this (by simp at b;omega),(J.push a2 _).same j this]
  .simp only[db,dX,aW]at b⊢;rcases b with h|h|h
   .exact Or.inl (Or.inr (Or.inl h))
   .rcases bp.2 with p|p
    .exact Or.inl (Or.inl (h.trans p))
    .exact Or.inr V
   .exact Or.inl (Or.inr (Or.inr h))
  .have:=ab.bn;omega
  .have:=P.2;simp;omega
  .intro y A;rcases List.mem_append.1 A with A|A
   .exact be y A
   .simp at A;omega
  .have:=ab.bn;rcases bp.2 with p|p<;>omega
 .have aa:k=aE.length:=V;subst aa;rw[gY]at*;have P:∀(g:E)(H:O)(t:List cF),J q g->GS (l.aC::u.aC::o.size::d) q g H t->WL U (pc f) True ai.length t->dc t=dc aE->sw t<=1100*sw aE+2->
   let y:E:=aj g o.size 0 [.s H,.i v]
   ∃s c,Value.agg #[O.v H,vi v]=.agg #[O.v s,vi c.aT]/\eG (bI d y) s c.aE/\(WB U (pc f) True ai.length c/\c.w+1050<=1100*(Bk.mk aE v).w)/\J m y:=by
   intro g H t r w X h2 h3 y
   have ab:=fw t
   have:=w.bn
   refine⟨H,.mk t v,rfl,eG.le (cp aJ λj b=>ah _ b) (w.re fQ.mono (S':=o.size::d) (Y:=[]) (Fz.aH _ _) aJ aJ (λj b=>Or.inl (ah _ (ah _ b)))|>.done fQ.mono L bo bS),⟨WB.of X (by rw[h2];exact bf.2),?_⟩,(F.trans r).aj V _ _⟩
   rw[Bk.pY,Bk.pY];omega
  have lj:∀(g:E),J B g->aP cv 158 [vi (14:Int),vi v] g λrv D=>eF [o.size,m0.size,m.size] g D/\∃aM:Int,∃aN:Int,∃aO:Int,∃aQ:O,∃aR:O,rv=.agg #[vi aM,vi aN,vi aO,O.v aQ,O.v aR]/\
   let M2:E:=D.push (.cells (bE [.i aM,.i aN,.i aO,.s aQ,.s aR]) fN)
   jb M2 fN [.i (0:Int),.i (0:Int),.i (0:Int),.s O.nil,.s O.nil] 72 z (O.mk D.size 0 1 1) λQ K=>eF [o.size,m0.size,m.size] M2 K/\
    let y:E:=aj K o.size 0 [.s Q,.i v]
    ∃s c,Value.agg #[O.v Q,vi v]=.agg #[O.v s,vi c.aT]/\eG (bI d y) s c.aE/\(WB U (pc f) True ai.length c/\c.w+1050<=1100*(Bk.mk aE v).w)/\J m y:=by
   intro g r
   refine(iJ (c:=z.aC::l.aC::u.aC::o.size::d) (λj b=>?_) 14 v).mono λrv D⟨a,kk,p,X,h2,x1⟩=>?_
   .have:=r.size
    simp at b
    rcases b with h|h|h|h|h
    .omega
    .omega
    .omega
    .have:=x6.lt (N o.size aJ);omega
    .have:=hS _ h;have:=v6.size;omega
   subst p
   have ag:=x6.trans (r.trans x1)
   refine⟨J.nP (x6.trans r) ag N,_,_,_,_,_,rfl,?_⟩
   refine GS.kj (x:=eP 14 v) (gs.ext fQ.mono (r.trans x1)) (ag.fz []) X h2 (oh (fw R)) λr' K w aU aB a4=>⟨J.nP (ag.aR _) aU.ext N,P K r' _ aU.ext w (aX.zg (CQ V (by rw[Z];exact bf.2))) ?_ ?_⟩
   .rw[cJ,Z];simp[jW,dn,eP,oE]
   .rw[dv];simp[lZ,cF.k8,eP];omega
  let⟨aB,hz⟩:=cq li v.toNat;refine⟨V,V,aB,cx.aQ hz,λ_=>?_,λ_=>P B z R x6 gs aX Z V⟩;refine(dj (bM.ext v6) v).any.aK x6 N λc m7 I u7=>⟨_,rfl,λ_=>lj m7 I,λ_=>?_⟩;exact(dj (cz.ext I) v).any.aK u7 N λc C x8 T=>⟨_,rfl,λ_=>lj C (I.trans x8),λ_=>P C z R T ((gs.ext fQ.mono I).ext fQ.mono x8) aX Z V⟩
end
structure Zz(ds:List bq)(nr:List Nat)(v lm:List Int)(b:Bk):Prop where
 bg:∀o∈lm,0<=o/\o<(v.length:Int)
 lN:lm.length+5*b.w<=1000000
 vN:v.length+5*b.w<=1000000
 wb:WB ds nr False v.length b
def XH(a:List bq)(d:List eQ)(b:Bk):Prop:=∀(S:List Nat)(m:E),(∀c∈S,c<m.size)->∀(f r h t g:O)(v c:List Int),dY m f r a d->au m h v->eG m t b.aE->au m g c->Zz a (pc d) v c b->
 mO 251 [.agg #[O.v f,O.v r],O.v h,.agg #[O.v t,vi b.aT],O.v g] m S λe=>WB a (pc d) True v.length e/\e.w+20<=40*b.w+2*c.length
def I8{o:List Nat}{m:E}(hS:∀c∈o,c<m.size){ag al ar aZ I:O}{F:List bq}{rs:List eQ}{v:List Int}{x:cF}(hn:dY m ag al F rs)(hv:au m ar v)(ha:au m aZ x.args)(hk:mU m I x.bH)
 (vN:v.length+5*x.w<=1000000)(aN:WS F (pc rs) False v.length x)(ih:∀h∈x.bH,XH F rs h):
 JJ 264 [.agg #[O.v ag,O.v al],O.v ar,oC x aZ I] m o λx'=>WS F (pc rs) True v.length x'/\x'.op=x.op/\x'.w<=1+x.args.length+40*bw x.bH:=by
 apply BL
 simp -zeta only[aG,aF]
 intro D e k a6
 let⟨L,G,s0,s1,s2⟩:=pJ (a:=D) (b:=e) (c:=k) rfl rfl rfl
 have ba:J k a6:=J.push _ _
 have gk:=GB.new (e.size::o) k
 clear_value k
 have bv:=ha.len;have bk:=hk.len;have hw:=cF.k8 x;have bH:=JS x.bH;have bp:=hv.len
 have aK:∀c∈e.size::o,c<k.size:=bR hS L.size (G _ aJ)
 refine(gP (e:=[k.size]) (by simp[a6]) (hn.le (L.trans ba).le).bu hn.types x.bM).aK ba G λc cl m4 d aS x4 u4=>⟨_,rfl,?_⟩
 subst aS
 have bJ:=d.len
 refine dE (n:=x.bH.length) (bk▸hk.fA) (λj s M=>Fz [k.size] m4 M/\(s.aC=k.size\/m4.size<=s.aC)/\∃q,GB (e.size::o) k M s q/\q.length=j/\(∀(aa:Nat)(h:Bk),q[aa]? =some h->WB F (pc rs) True (v.length+AI F x.op x.bM aa) h)/\bw q<=40*bw (x.bH.take j)) ⟨Fz.aH _ _,Or.inl rfl,[],gk.ext qO.mono x4,rfl,aJ,aJ⟩ ?_
 rintro j s X aY μ hj ⟨f5,bm,q,C,bK,a5,a1⟩ bs
 have K:=VS u4 f5 (ad _)
 have hy:=C.bn
 refine dit (λp=>?_) λp=>?_
 .intro m6
  have x6:J X m6:=J.push _ _
  have u6:=K.trans x6
  let⟨h,N⟩:=cq x.bH j
  have bC:=uo N
  have bF:=tR N
  have bx:=OP hn.types x.op x.bM j
  have bB:=pK x.bH
  refine⟨λa0 M=>J X M/\∃B,au M a0 B/\B.length=AI F x.op x.bM j,⟨λh8=>?_,λh8=>?_⟩,?_⟩
  .simp only[aO]at h8
   have g:=(aN.dV.all h8).1
   let⟨y,a⟩:=cq (cb F x.bM) j
   refine⟨V,V,y,(eA.1 ((d.le ((f5.then x6).cR aJ)).aQ a)).2,?_⟩
   refine(dF (e:=[]) aJ ((hn.le (L.trans u6).le).bu.le (yW _)) hn.types y).aK u6 G λa0 B m7 hf aS f i=>⟨_,rfl,x6.trans f,B,hf.le (bA _ _),?_⟩
   subst aS;exact(JP h8 a).symm
  .simp only[ap]at h8
   exact⟨x6,[],lU _ _ _ _ _ _,(JQ h8).symm⟩
  rintro fs m8 ⟨Q,B,hf,a3⟩
  have e8:(ar.len:Int)=((v.length:Nat):Int):=by rw[bp]
  rw[e8]
  refine(qX (S:=[]) aJ (hf.le (yW _)) v.length V).aK (K.trans Q) G λmi ml y gm qm R Z=>⟨_,rfl,?_⟩
  let⟨aV,hs,e0,e1⟩:=hk.aQ N
  have v9:=L.trans Z
  refine⟨V,V,_,v9.af e0,_,v9.af e1,?_⟩
  have z5:=K.size
  have g9:=C.ext qO.mono (Q.trans R)
  have a4:∀{M:E},J y M->au M mi ml:=λp=>((gm.done aJ (oh qm.2)).le (bA _ _)).ext p
  have bL:=qm.2
  have E5:∀{M f:E},J k M->J k f->∀{a7:Prop},a7->af f I.aC (I.off+Int.toNat (j:Int)*2)=af M I.aC (I.off+Int.toNat (j:Int)*2)/\af f I.aC (I.off+Int.toNat (j:Int)*2+1)=af M I.aC (I.off+Int.toNat (j:Int)*2+1)/\
   af f D.size 4=af M D.size 4/\af f m.size 0=af M m.size 0/\af f m.size 1=af M m.size 1/\a7:=λ{M f} p h' _ hp=>by
   have aA:∀h,h<k.size->∀z,af f h z=af M h z:=λh N z=>aM (by rw[h'.same h N,p.same h N]) z
   exact⟨((L.trans h').af e0).trans ((L.trans p).af e0).symm,((L.trans h').af e1).trans ((L.trans p).af e1).symm,aA _ V _,aA _ V _,aA _ V _,hp⟩
  have an:∀{M:E},J X M->∀c∈s.aC::e.size::o,c<M.size:=λp c d=>by
   have:=p.size;rcases List.mem_cons.1 d with g|g
   .omega
   .have:=aK c g;omega
  have W:∀{M:E}{a:Nat},J X M->a<M.size->∀c∈[a,e.size,D.size,m.size],c<M.size:=λp N c d=>by
   rcases List.mem_cons.1 d with g|g
   .omega
   .exact(K.trans p).lt (G c g)
  have tail:∀(M:E)(a:Nat)(P:O)(i:Bk),GB (a::e.size::o) k M s q->J X M->J y M->y.size<=a->a<M.size->eG (bI (a::s.aC::e.size::o) M) P i.aE->WB F (pc rs) True (v.length+B.length) i/\i.w+20<=40*h.w+2*ml.length->
   let l:E:=aj M a 0 [.s P,.i i.aT]
   aP cv 112 [vi (14:Int),O.v mi] l λrv r=>eF [a,e.size,D.size,m.size] l r/\∃ab:O,rv=O.v ab/\af r a 1=af l a 1/\af r a 0=af l a 0/\
    jb r fN [.i (0:Int),.i (0:Int),.i (0:Int),.s O.nil,.s O.nil] 72 ab P λaq w=>eF [a,e.size,D.size,m.size] r w/\af w a 1=af r a 1/\
     let M4:E:=w.push (.cells (bE [.s aq,.i i.aT]) cZ)
     jb M4 cZ [.s O.nil,.i (0:Int)] 32 s (O.mk w.size 0 1 1) λac U=>eF [a,e.size,D.size,m.size] M4 U/\aY ac (cQ ((j:Int)+(1:Int))) U/\μ ac (cQ ((j:Int)+(1:Int))) U<μ s j X:=by
   intro M a P i C H br bj bz ai hq l
   have z1:l.size=M.size:=aD _ _ _ _
   have z9:=(Q.trans R).size
   have bc:J y l:=br.aj bj _ _
   have T:J X l:=(Q.trans R).trans bc
   have bl:s.aC≠a:=V
   have g1:GB (e.size::o) k l s q:=C.re qO.mono (Y:=[a]) ((Fz.aH [a] M).aj (Or.inl aJ) _ _) aJ (by simpa using bl) λc d=>Or.inl (ah _ d)
   have bn:eG (bI (s.aC::e.size::o) l) P i.aE:=ai.le (cp aJ λc d=>ah _ d)
   have bD:=Bk.k8 i;have a1:=fw i.aE
   refine(eN (c:=s.aC::e.size::o) (an T) 14 (a4 bc) V).aK (J.aH l) (W T V) λab _ r aH g am _=>⟨_,rfl,aM (am.same _ V) _,aM (am.same _ V) _,?_⟩
   subst g
   have z2:=am.size
   refine GS.all aH (am.fz []) (bn.le (sD am aH.bn.1)) bS λaq w bf be bO a8=>?_
   have ae:J l w:=be.ext
   have z3:=ae.size
   have bM:=aH.bn
   refine⟨λc d=>a8 c (oh (W T (a:=a) V c d)) (oh (W T (a:=a) V c d)),aM (a8 _ V V) _,?_⟩
   intro M4
   have bh:=bf.done fQ.mono (an T) bo bS
   refine GB.kj (c:=.mk (ml.map (eP 14)++i.aE) i.aT) (g1.ext qO.mono ae) ((((K.trans T).trans ae)).fz []) bh V λac U bg bu bd a9=>⟨λc d=>?_,bs V _ _ ⟨(f5.then (T.trans ae)).NM bm bd.1 a9,?_,_,bg,bS,λaa b2 t=>?_,?_⟩⟩
   .have:=W (T.trans ae) (a:=a) V c d
    rw[a9 c this (by simp at d;omega),(J.push w _).same c this]
   .have h1:=(f5.then (T.trans ae)).size
    rcases bd.2 with g|g<;>omega
   .rcases aX aa q.length with u|u
    .rw[ay u]at t;exact a5 aa b2 t
    .rw[aI u]at t
     have:aa -q.length=0:=by have:=az t;simp at this;omega
     rw[this]at t;simp at t;subst t
     have:aa=j:=V
     subst this
     rw[<-a3]
     refine WB.of ((qT V λz ho=>?_).append ?_) ?_
     .have:=qm.1 z ho;omega
     .rw[jH V];exact hq.1.bC.1
     .rw[cJ,jH V,bG];exact hq.1.bC.2
   .rw[nY,tQ,yH,Bk.pY,dv,nH]
    have:=hq.2;omega
  have a2:∀(M:E)(aE:List Nat)(aB:Value->E->Prop),J y M->(∀c∈aE,c<M.size)->(∀s f,au f s (v++B)->J M f->aB (O.v s) f)->aP cv 106 [O.v ar,O.v fs] M λv m'=>eF aE M m'/\aB v m':=λM aE aB H W hK=>
   (eD (S:=[]) aJ ((hv.ext (v9.trans H)).le (yW _)) ((hf.ext (R.trans H)).le (yW _)) V).aK (J.aH M) W λs ll f C g x _=>hK s f (by subst g;exact(C.done aJ bS).le (bA _ _)) x
  have aC:∀(M:E)(S':List Nat)(u:O),(∀c∈S',c<M.size)->J y M->au M u (v++B)->mO 251 [.agg #[O.v ag,O.v al],O.v u,.agg #[O.v aV,vi h.aT],O.v mi] M S' λi=>WB F (pc rs) True (v.length+B.length) i/\i.w+20<=40*h.w+2*ml.length:=by
   intro M S' u bi H t;have hm:=v9.trans H;have:=ih h (av N) S' M bi ag al u aV mi (v++B) ml (hn.le hm.le) t (hs.le hm.le) (a4 H) ⟨λz ho=>?_,V,bS,by simp;rw[a3];exact aN.bH j h N⟩
   .simpa using this
   .have:=qm.1 z ho;simp;omega
  have hO:∀(M:E)(a:Nat)(u:O),GB (a::e.size::o) k M s q->J y M->y.size<=a->a<M.size->au M u (v++B)->
   aP cv 251 [.agg #[O.v ag,O.v al],O.v u,.agg #[O.v aV,vi h.aT],O.v mi] M λrv f=>eF [a,e.size,D.size,m.size] M f/\∃aT:O,∃aU:Int,rv=.agg #[O.v aT,vi aU]/\
    let l:E:=aj f a 0 [.s aT,.i aU]
    aP cv 112 [vi (14:Int),O.v mi] l λrv r=>eF [a,e.size,D.size,m.size] l r/\∃ab:O,rv=O.v ab/\af r a 1=af l a 1/\af r a 0=af l a 0/\
     jb r fN [.i (0:Int),.i (0:Int),.i (0:Int),.s O.nil,.s O.nil] 72 ab aT λaq w=>eF [a,e.size,D.size,m.size] r w/\af w a 1=af r a 1/\
      let M4:E:=w.push (.cells (bE [.s aq,.i aU]) cZ)
      jb M4 cZ [.s O.nil,.i (0:Int)] 32 s (O.mk w.size 0 1 1) λac U=>eF [a,e.size,D.size,m.size] M4 U/\aY ac (cQ ((j:Int)+(1:Int))) U/\μ ac (cQ ((j:Int)+(1:Int))) U<μ s j X:=by
   intro M a u C H h1 h2 h3
   have x5:=(Q.trans R).trans H
   have z9:=(Q.trans R).size
   refine(aC M (a::s.aC::e.size::o) u (λc d=>?_) H h3).aK (J.aH M) (W x5 h2) λP i f ai hq ao _=>⟨_,_,rfl,tail f a P i (C.ext qO.mono ao) (x5.trans ao) (H.trans ao) h1 (ao.lt h2) ai hq⟩
   rcases List.mem_cons.1 d with g|g
   .omega
   .exact an x5 c g
  have aR:∀(M:E)(z:Obj),GB (e.size::o) k M s q->GB (M.size::e.size::o) k (M.push z) s q:=λM z C=>
   C.re qO.mono (Y:=[]) ((J.push M z).fz []) aJ aJ λc d=>by
    rcases List.mem_cons.1 d with g|g
    .exact Or.inr V
    .exact Or.inl g
  refine⟨a2 y _ _ (J.aH _) (λc d=>Z.lt (G c d)) λu aQ t A=>⟨_,rfl,E5 Z (Z.trans A) ⟨?_,?_⟩⟩,?_⟩
  .have ak:=Z.trans A
   have bt:=A.size
   refine(aC aQ (s.aC::e.size::o) u (an ((Q.trans R).trans A)) A t).aK ak G λP i ax ai hq aw a_=>⟨_,_,rfl,?_⟩
   intro aW
   have bN:=aw.size
   exact E5 a_ (a_.aR _) (tail aW ax.size P i (aR ax _ ((g9.ext qO.mono A).ext qO.mono aw)) ((((Q.trans R).trans A).trans aw).aR _) ((A.trans aw).aR _) V (by simp[aW]) (ai.le (sD (J.push ax _) (ad _))) hq)
  .intro aw
   have ak:=Z.trans A
   have bt:=A.size
   exact E5 ak (ak.aR _) (hO aw aQ.size u (aR aQ _ (g9.ext qO.mono A)) (A.aR _) V (by simp[aw]) (t.ext (J.push _ _)))
  .intro ak
   have aw:J y ak:=J.push _ _
   have aW:J k ak:=Z.trans aw
   refine E5 Z aW (a2 ak _ _ aw (W ((Q.trans R).trans aw) (by simp[ak])) λu a_ t ax=>⟨_,rfl,E5 aW (aW.trans ax) ?_⟩)
   exact hO a_ y.size u ((aR y _ g9).ext qO.mono ax) (aw.trans ax) (ad _) (ax.lt (by simp[ak])) t
 .have f:q.length=x.bH.length:=V
  rw[cG V]at a1
  refine(bP (e.size::o) (ha.ext (L.trans K)) V).aK K G λi l m6 a g x6 u6=>⟨_,rfl,aM (x6.same _ (K.lt (G _ aJ))) _,aM (x6.same _ (K.lt (G _ aJ))) _,?_⟩
  subst g
  intro m7
  refine⟨i,s,⟨x.op,x.bM,0,x.args,q⟩,rfl,(a.done (λc d=>aL (aK c d) K.size) V).le (cp aJ λc d=>ah _ d),mU.le (cp aJ λc d=>ah _ d) ((C.ext qO.mono x6).done qO.mono aK bo (by have:=pK x.bH;show q.length<=_;omega)),⟨aN.Pb (λp=>p.elim) ⟨V,V⟩ (λp=>absurd rfl p) f a5,rfl,?_⟩,(L.trans u6).aj V _ _⟩
  rw[cF.k8]
  simp only
  omega
structure LB(ds:List bq)(nr:List Nat)(S:List Nat)(m2 M:E)(v lm:List Int)(aE:List cF)(k:Nat)(st inn ow:O):Prop where
 x:J m2 M
 hs:∃l,GS (inn.aC::ow.aC::S) m2 M st l/\WL ds nr True v.length l/\dc l=dc (aE.take k)/\sw l+2*k<=40*sw (aE.take k)
 hi:∃l,GI S m2 M inn l/\l.length=v.length+dc (aE.take k)
 ho:∃l,GI S m2 M ow l/\l.length<=lm.length+k/\∀o∈l,0<=o/\o<((v.length+dc (aE.take k):Nat):Int)
 ne:inn.aC≠ow.aC
def Hm{D:List bq}{G:List eQ}:∀p:Bk,XH D G p:=by
 refine Bk.ind ?_;intro aE A ih j C hS bc bM ch cg ce H lm hn hv hs br hp;have aq:=hp.wb.bC;simp only[Bk.jG,Bk.iZ]at*;have lN:=hp.lN;have vN:=hp.vN;rw[(Bk.pY aE A)]at lN vN;apply zS;simp -zeta only[aG,aF];intro m d f ac;let⟨B,u,s0,s1,s2⟩:=pJ (a:=m) (b:=d) (c:=f) rfl rfl rfl;have aL:J f ac:=J.push _ _;have aV:∀I,GS I f ac (.mk f.size 0 0 0) []:=λI=>GS.new I f;have s3:ac.size=f.size+1:=by simp[ac]
 clear_value ac;clear_value f;have bz:=hs.len;have bC:=Az aE;have b1:=fw aE;refine(bP j (hv.ext (B.trans aL)) V).aK aL u λg _ m4 r e x4 u4=>⟨_,rfl,?_⟩;subst e;refine(bP j (br.ext (B.trans u4)) V).aK u4 u λi _ m5 z e x5 u5=>⟨_,rfl,?_⟩;subst e;have a5:=r.bn;have bG:=z.bn;refine Q4 (n:=aE.length) (bz▸hs.fA) (λk t g i a=>LB D (pc G) (d.size::j) f a H lm aE k t g i) ⟨u5,⟨[],((aV _).ext fQ.mono x4).ext fQ.mono x5,WL.nil _ _ _ _,rfl,aJ⟩,⟨H,((r.ext x5).cL (λ_ h=>h) aL.size).any,aJ⟩,⟨lm,(z.cL (λ_ h=>h) u4.size).any,V,by simpa using hp.bg⟩,V⟩ ?_;clear r z a5 bG aV;rintro k t g i s ba μ hk ⟨W,⟨R,K,ar,P,b2⟩,⟨li,r,an⟩,⟨lo,z,bQ,a1⟩,a3⟩ bK
 have v6:=B.trans W;have bV:=r.len bo;have bT:=pL (aE.take k);have bX:=pZ k aE;have L:∀c∈d.size::j,c<f.size:=bR hS B.size (u _ aJ);have cb:=K.bn;have a5:=r.bn;have b_:=z.bn;have bB:=fw (aE.take k);have bW:k<=sw (aE.take k):=by rw[eJ]at bB;omega
 have bY:=fw R;have z6:=W.size;have ak:∀{a:E},GI (d.size::j) f a g li->au a g li:=λq=>(q.done L V).le (bA _ _);have aZ:∀{a:E},GI (d.size::j) f a i lo->au a i lo:=λq=>(q.done L V).le (bA _ _);have N:∀{a:E}{I:List Nat},s.size<=a.size->(∀c∈I,c<a.size)->∀c∈I++d.size::j,c<a.size:=λh hb c b=>by
  rcases List.mem_append.1 b with h|h
  .exact hb c h
  .have:=L c h;omega
 have aX:∀{a:E},J s a->∀c∈[d.size,m.size,C.size],c<a.size:=λh c b=>(W.trans h).lt (u c b);have bt:t.aC≠g.aC:=K.Kp r bo;have a4:t.aC≠i.aC:=K.Kp z bo;refine dit (λh=>?_) λh=>?_
 .let⟨ae,v⟩:=cq aE k;let⟨bb,kk,ha,a0,g0,g1,g2,g3,g4⟩:=hs.aQ v;refine⟨V,V,_,v6.af g0,_,v6.af g1,_,v6.af g2,_,v6.af g3,_,v6.af g4,?_⟩;intro m7 y;have x8:J s y:=(J.push s _).aj (ad _) _ _;have s8:y.size=s.size+1:=by simp[y,m7,aD]
  clear_value y;have u8:=W.trans x8;have w:∀{a:E},y.size<=a.size->∀p∈[s.size,d.size,m.size,C.size],p<a.size:=λh p hb=>by
   rcases List.mem_cons.1 hb with e|e
   .omega
   .have:=u8.lt (u p e);omega
  have b7:=pp v;have b5:=qb v;have b6:=cF.k8 ae;have aa:WS D (pc G) False li.length ae:=by rw[an];exact aq.1 k ae v
  have aY:=ZI aa;have b3:=bC (k+1);have Z:∀{a:E},J f a->At a bc bM bb kk D G ae:=λh=>⟨hn.le (B.trans h).le,ha.ext (B.trans h),aa.dV.bO⟩;refine(ny (Z u8).Qt (ak (r.ext x8)) (Z u8).args (a0.le (B.trans u8).le) V λp _=>mI p).aK (J.aH y) (w (ad _)) λty m9 x9 _=>⟨_,rfl,?_⟩;have X9:=u8.trans x9;have z9:=x9.size;refine(xQ (b:=[]) aJ (Z X9) (ak ((r.ext x8).ext x9)) aa.dV.args V).aK (J.aH m9) (w V) λdu X bH bk a8 aI _=>⟨_,rfl,?_⟩;have bO:=a8.2;have ci:=aI.size;refine(eN (c:=[t.aC,g.aC,i.aC]++d.size::j) (N V bS) 14 ((bk.done aJ V).le (bA _ _)) V).aK (J.aH bH) (w V) λcf _ aw bh e aK _=>⟨_,rfl,?_⟩;subst e;have cj:=aK.size;have aN:J s aw:=(((x8.trans x9).trans aI).trans aK);refine GS.all (K.ext fQ.mono aN) (((X9.trans aI).trans aK).fz []) (bh.done fQ.mono (N (I:=[t.aC,g.aC,i.aC]) V bS) bo bS) bS λaC a6 aR bd a9 ax=>⟨λc b=>ax c (w V c b) ?_,?_⟩
  .simp at b;omega
  have ai:J f a6:=bd.ext;have aS:=(r.ext aN).iI (ax _ V bt.symm);have bl:=(z.ext aN).iI (ax _ V a4.symm);have bZ:aC.aC=t.aC\/aw.size<=aC.aC:=a9.2;have b8:=aR.bn;have cl:=a9.1;refine(I8 (o:=[aC.aC,g.aC,i.aC]++d.size::j) (N V bS) (Z ai).Qt (ak aS) (Z ai).args (a0.le (B.trans ai).le) V aa (ih ae (av v))).aK (J.aH a6) (w V) λca ck U a7 bn bp bL ag _=>⟨_,_,_,_,_,rfl,?_⟩;let⟨bD,bw,b4⟩:=bL;have cm:=ag.size;refine GS.kj (x:=U) (aR.ext fQ.mono ag) ((ai.trans ag).fz []) bn bp bS λF al ao be a_ ay=>⟨λc b=>?_,?_⟩
  .have:=w (a:=a7) V c b;rw[ay c this (by simp at b;omega),(J.push a7 _).same c this]
  have aQ:J f al:=be.ext;have cn:=a_.1;have aT:=(aS.ext ag).iI (ay _ V V);have ap:=(bl.ext ag).iI (ay _ V V);have b0:F.aC=t.aC\/aw.size<=F.aC:=by have:=a_.2;omega
  have B1:WL D (pc G) True H.length (R++X.map (eP 14)++[U])/\dc (R++X.map (eP 14)++[U])=dc (aE.take (k+1))/\sw (R++X.map (eP 14)++[U])+2*(k+1)<=40*sw (aE.take (k+1)):=by
   have bU:dn U=1:=by unfold dn at aY⊢;rw[bw];exact aY
   have d1:dc (X.map (eP 14))=0:=jH V _;refine⟨((ar.append (qT V λo l=>?_)).zg ?_),?_,?_⟩
   .rw[P,<-an];exact aa.dV.args o (a8.1 o l)
   .rw[cJ,d1,P,jo,<-an];exact bD
   .rw[cJ,cJ,d1,P,jW,sA];omega
   .rw[dv,dv,nH,lZ,uE];omega
  have a2:∀o∈lo,0<=o/\o<((H.length+dc (aE.take (k+1)):Nat):Int):=λo l=>by
   have:=a1 o l;omega
  have aU:∀(a:E)(T:O)(ab:List Int),J f a->y.size<=a.size->GS (g.aC::T.aC::d.size::j) f a F (R++X.map (eP 14)++[U])->GI (d.size::j) f a g li->GI (d.size::j) f a T ab->g.aC≠T.aC->ab.length<=lm.length+(k+1)->(∀o∈ab,0<=o/\o<((H.length+dc (aE.take (k+1)):Nat):Int))->
   jb (a.push (.cells (bE [.i ty]) aA)) aA [.i (0:Int)] 8 g (O.mk a.size 0 1 1) λaH M'=>eF [s.size,d.size,m.size,C.size] (a.push (.cells (bE [.i ty]) aA)) M'/\ba F aH T (cQ ((k:Int)+(1:Int))) M'/\μ F aH T (cQ ((k:Int)+(1:Int))) M'<μ t g i k s:=by
   intro a T ab v Q q gI gO bs bm bx
   have b9:=gI.bn;have bF:=gO.bn
   have bv:F.aC≠g.aC:=q.Kp gI bo
   refine GI.kj gI (v.fz []) L V λaH M' bj bg aO aB=>⟨λc b=>?_,bK V _ _ _ _ ⟨bg.ext,⟨_,q.re fQ.mono (Y:=[g.aC]) ⟨aO.1,λc b hn=>aB c b (by simpa using hn)⟩ aJ (by simpa using bv) (λc b=>?_),B1.1,B1.2.1,B1.2.2⟩,⟨_,bj,bS⟩,⟨ab,gO.iI (aB _ bF.2 bs.symm),bm,bx⟩,?_⟩⟩
   .have:=w Q c b
    rw[aB c this (by simp at b;omega),(J.push a _).same c this]
   .simp only[aW]at b⊢
    rcases b with h|h|h
    .rcases aO.2 with e|e
     .exact Or.inl (Or.inl (h.trans e))
     .exact Or.inr V
    .exact Or.inl (Or.inr (Or.inl h))
    .exact Or.inl (Or.inr (Or.inr h))
   .rcases aO.2 with e|e<;>omega
  refine⟨λ_=>?_,λ_=>?_⟩
  .intro cc;have bu:F.aC≠i.aC:=ao.Kp ap bo;refine GI.kj ap (aQ.fz []) L V λbN bJ bi bf am az=>⟨λc b=>?_,?_⟩
   .have:=w (a:=al) V c b;rw[az c this (by simp at b;omega),(J.push al _).same c this]
   intro cd;have co:=am.1;refine aU bJ bN _ bf.ext V (ao.re fQ.mono (Y:=[i.aC]) ⟨am.1,λc b hn=>az c b (by simpa using hn)⟩ aJ (by simpa using bu) λc b=>?_) (aT.iI (az _ V a3)) bi ?_ bS ?_
   .simp only[db,dX,aW]at b⊢;rcases b with h|h|h
    .exact Or.inl (Or.inl h)
    .rcases am.2 with e|e
     .exact Or.inl (Or.inr (Or.inl (h.trans e)))
     .exact Or.inr V
    .exact Or.inl (Or.inr (Or.inr h))
   .rcases am.2 with e|e<;>omega
   .intro o l;rcases List.mem_append.1 l with l|l
    .exact a2 o l
    .simp at l;omega
  .intro am;exact aU al i lo aQ V ao aT ap a3 V a2
 .have ap:k=aE.length:=V;subst ap;rw[gY]at*;have al:∀(a:E)(X:O)(F:List cF),J f a->s.size<=a.size->GS (g.aC::i.aC::d.size::j) f a X F->au a i lo->WL D (pc G) True H.length F->dc F=dc aE->sw F+2*aE.length<=40*sw aE+2->
   aP cv 112 [vi (15:Int),O.v i] a λrv y=>eF [d.size,m.size,C.size] a y/\∃ae:O,rv=O.v ae/\af y m.size 1=af a m.size 1/\
    jb y fN [.i (0:Int),.i (0:Int),.i (0:Int),.s O.nil,.s O.nil] 72 X ae λaa Z=>eF [d.size,m.size,C.size] y Z/\af Z m.size 1=af y m.size 1/\
     let T:E:=aj Z d.size 0 [.s aa,.i A]
     ∃am p,Value.agg #[O.v aa,vi A]=.agg #[O.v am,vi p.aT]/\eG (bI j T) am p.aE/\(WB D (pc G) True H.length p/\p.w+20<=40*(Bk.mk aE A).w+2*lm.length)/\J C T:=by
   intro a X F v Q q l az ai aC
   have hy:=q.bn
   have aB:=fw F
   have ay:m.size<a.size:=v.lt (u _ aJ)
   refine(eN (c:=[X.aC,g.aC,i.aC]++d.size::j) (N Q bS) 15 l V).aK v u λae _ y ao e w u1=>⟨_,rfl,aM (w.same _ ay) _,?_⟩
   subst e
   have z1:=w.size
   have aw:∀c∈[d.size,m.size,C.size],c<y.size:=λc b=>u1.lt (u c b)
   have ax:∀c∈[d.size,m.size,C.size],c<f.size:=u
   refine GS.all (q.ext fQ.mono w) (u1.fz []) (ao.done fQ.mono (N (I:=[X.aC,g.aC,i.aC]) Q bS) bo bS) bS λaa Z g2 ab ag U=>⟨λc b=>U c (aw c b) (oh (ax c b)),aM (U _ V V) _,?_⟩
   intro T
   refine⟨aa,.mk _ A,rfl,eG.le (cp aJ λc b=>ah _ b) ((g2.re fQ.mono (S':=d.size::j) (Y:=[]) (Fz.aH _ _) aJ aJ (λc b=>Or.inl (ah _ (ah _ b)))).done fQ.mono L bo bS),⟨WB.of (az.append (qT V λo l=>?_)) ?_,?_⟩,(B.trans ab.ext).aj V _ _⟩
   .have:=a1 o l;rw[ai];exact this
   .rw[cJ,jH V,ai];exact aq.2
   .rw[Bk.pY,Bk.pY,dv,nH];omega
  let⟨ag,Q⟩:=cq li A.toNat;refine⟨V,V,ag,(ak r).aQ Q,λ_=>?_,λ_=>al s t R W (ad _) K (aZ z) ar P V⟩;refine(iJ (c:=[t.aC,g.aC,i.aC]++d.size::j) (N (ad _) bS) 14 A).mono λrv y⟨pa,pk,e,h1,h2,w⟩=>?_;subst e;refine⟨w.de (aX (J.aH _)),_,_,_,_,_,rfl,?_⟩;have z1:=w.size;refine GS.kj (x:=eP 14 A) (K.ext fQ.mono w) ((W.trans w).fz []) h1 h2 V λr' T q ab ag U=>⟨λc b=>?_,al T r' _ ab.ext V q (aZ ((z.ext w).iI (U _ V a4.symm))) (ar.zg (CQ V (by rw[P];exact aq.2))) ?_ ?_⟩
  .have:=aX w c b;have h5:=u c b;rw[U c this V,(J.push y _).same c this]
  .rw[cJ,P];simp[jW,dn,eP,oE]
  .rw[dv,lZ,uE];have h5:(eP 14 A).w=2:=by rw[cF.k8];rfl
   omega
section
variable{b:List Nat}{f d h:E}{p t l:O}{q:eQ}{s:Int}{g e k W:Nat}{j:List eQ}{c:Prop}
def mg.mono:nG 1 mg:=⟨λh=>mg.le h _ _,λ⟨_,h,_⟩=>by rw[h];rfl⟩
def ij.mono:nG 3 ij:=⟨λh=>ij.le h _ _,λ⟨_,h,_⟩=>by rw[h];rfl⟩
def fD(v:∀c∈b,c<f.size){bu:O}{j:List bq}(hd:bZ f bu j)(w:dI j):aP cv 64 [O.v bu] f λT B=>∃s,T=O.v s/\bZ (bI b B) s j/\J f B:=by
 apply zt;intro N;have ab:=hd.len;have aa:=w.len;have u:Gr b f N jL 3 ij (.mk f.size 0 0 0) []:=Gr.new b (ad _) _ _ _;refine dE (n:=j.length) V (λq s M=>J f M/\Gr b f M jL 3 ij s (j.take q)) ⟨J.push _ _,u⟩ ?_;rintro q s d X μ hk ⟨r,m⟩ R
 have hy:=m.bn;refine dit (λl=>?_) λl=>?_
 .let⟨i,o⟩:=cq j q;let⟨z,A,u,g1,g2⟩:=hd.aQ o;have ac:=A.len;have Z:=kO w o;intro P;have k:Gr (s.aC::b) d P od 1 mg (.mk d.size 0 0 0) []:=Gr.new _ (ad _) _ _ _;refine dE (n:=i.cons.length) V (λy c M=>J d M/\Gr (s.aC::b) d M od 1 mg c (i.cons.take y)) ⟨J.push _ _,k⟩ ?_;rintro y c C Y μ2 hj ⟨t,k⟩ Q;have g:=r.trans t;refine⟨V,V,z,g.af g2,dit (λK=>?_) λK=>?_⟩
  .let⟨E,x⟩:=cq i.cons y;let⟨U,L,H⟩:=A.aQ x;have ae:E.length<=3:=(((w.df q i o).gR V).2.2.2 E (av x)).1;refine⟨V,V,z,g.af g2,V,V,U,g.af H,?_⟩;have af:=k.bn;refine(bP (c.aC::s.aC::b) (L.ext g) V).then λW _ h I e D=>⟨_,rfl,?_⟩;subst e;intro M;refine Gr.kj (g:=[.s .nil]) mg.mono bo (k.ext mg.mono D) ((t.trans D).fz []) ⟨W,rfl,I.done (λe p=>?_) V⟩ bS λS m7 G F _ _=>Q V _ _ ⟨F.ext,by rw[bF x];exact G⟩;have:=t.size;simp only[aW]at p;rcases p with l|l|l
   .omega
   .omega
   .have:=v e l;have:=r.size;omega
  .refine⟨V,V,_,g.af u,V,V,_,g.af g1,?_⟩;intro h;rw[cG V]at k;have D:eO (bI (s.aC::b) C) 1 (mg (bI (s.aC::b) C)) c i.cons:=k.done mg.mono (λe p=>by
    rcases List.mem_cons.1 p with x|x
    .omega
    .have:=v e x;have:=r.size;omega) bo V
   refine Gr.kj (g:=[.i 0,.i 0,.s .nil]) (k:=i) ij.mono bo (m.ext ij.mono t) (g.fz []) ⟨c,rfl,D⟩ bS λS M x p _ _=>R V _ _ ⟨p.ext,by rw[bF o];exact x⟩
 .rw[cG V]at m;exact⟨s,rfl,m.done ij.mono v bo V,r⟩
def xt(H:∀c∈b,c<f.size){B:O}{b1:Int}(I:au f p q.params)(K:au f t q.dg)(u:q.params.length<=100/\q.dg.length<=100):
 aP cv 69 [.agg #[O.v p,O.v t,vi q.aT,O.v B,vi s],.agg #[O.v l,vi b1]] f λP x=>∃k m,P=.agg #[O.v k,O.v m,vi q.aT,O.v l,vi b1]/\au (bI b x) k q.params/\au (bI b x) m q.dg/\J f x:=by
 apply Ck
 simp -zeta only[aG,aF]
 intro L j d
 let⟨r,w,S,T,U⟩:=pJ (a:=L) (b:=j) (c:=d) rfl rfl rfl
 clear_value d
 have z:∀c∈j.size::b,c<d.size:=bR H r.size (w _ aJ)
 have g:∀{M y:E},J d M->J d y->∀i,i<d.size->∀o,af y i o=af M i o:=λF G i u o=>aM (by rw[G.same i u,F.same i u]) o
 refine(bP (j.size::b) (I.ext r) V).aK (J.aH d) w λk _ R C e a _=>⟨_,rfl,g (J.aH _) a _ V _,g (J.aH _) a _ V _,g (J.aH _) a _ V _,g (J.aH _) a _ V _,?_⟩
 subst e
 refine(bP (j.size::b) (K.ext (r.trans a)) V).aK a w λm _ N D e Q n=>⟨_,rfl,g a n _ V _,g a n _ V _,g a n _ V _,?_⟩
 subst e
 intro h
 have A:Le (bI (j.size::b) N) (bI b h):=cp aJ λc v=>ah _ v
 exact⟨k,m,rfl,((C.done z V).le (Q.cR _)).le A,(D.done (λc v=>a.lt (z c v)) V).le A,(r.trans n).aj V _ _⟩
abbrev GR(b:List Nat)(a f:E)(s:O)(l:List eQ):Prop:=Gr b a f jA 5 iv s l
def ve{L:List Nat}{m M:E}{v h:O}{x:List eQ}{r:Bk}{N:O}{K:E->Prop}(W:∀c∈b,c<m.size)(w:∀c∈L,c<M.size/\c≠g/\c≠h.aC)(A:J m M)(y:GR (g::b) m M h x)
 (z:cB M g mC [.s v,.s h])(Z:m.size<=g)(hp:au M p q.params)(ht:au M t q.dg)(aa:eG (bI (h.aC::g::b) M) l r.aE)(X:q.params.length<=100/\q.dg.length<=100)(hl:x.length<=100)
 (U:∀u d,GR (g::b) m d u (x++[⟨q.params,q.dg,q.aT,r⟩])->cB d g mC [.s v,.s u]->J m d->K d):
 aP cv 69 [.agg #[O.v p,O.v t,vi q.aT,O.v N,vi s],.agg #[O.v l,vi r.aT]] M λH k=>eF L M k/\∃B:O,∃C:O,∃D:Int,∃F:O,∃G:Int,H=.agg #[O.v B,O.v C,vi D,O.v F,vi G]/\af k g 1=af M g 1/\
  let n:E:=k.push (.cells (bE [.s B,.s C,.i D,.s F,.i G]) jA)
  af n g 1=af k g 1/\
  jb n jA [.s O.nil,.s O.nil,.i (0:Int),.s O.nil,.i (0:Int)] 88 h (O.mk k.size 0 1 1) λab o=>eF L n o/\fq o g 1 1/\
   let d:E:=aj o g 1 [.s ab]
   eF L o d/\K d:=by
 have hy:=y.bn
 have Y:=z.lt
 have hz:=A.size
 refine(xt (b:=h.aC::g::b) (λc f=>?_) hp ht X).mono λH k⟨p',t',e,R,T,j⟩=>?_
 .simp only[aW]at f
  rcases f with e|e|e
  .omega
  .omega
  .have:=W c e;omega
 subst e
 refine⟨j.de λc f=>(w c f).1,_,_,_,_,_,rfl,aM (j.same _ Y) _,?_⟩
 intro n
 refine Gr.box (g:=[.s .nil,.s .nil,.i 0,.s .nil,.i 0]) (j:=1) (i:=[.s v,.s h]) (w:=⟨q.params,q.dg,q.aT,r⟩) iv.mono bo (y.ext iv.mono j) ((A.trans j).fz []) ⟨p',t',l,rfl,R,T,aa.le (j.cR _)⟩ V (z.ext j) aJ bo ⟨Z,aJ⟩ (λc f=>⟨j.lt (w c f).1,(w c f).2⟩) λu m' Q I P z' q'=>U u m' Q I P.ext
def kC{β:Type}{a c:E}{g:O}{l:Nat}{f:E->List Ce->β->Prop}(q:nG l f)(p:a=d.push (.cells (bE []) e))(i:c=a.push (.cells (bE [.s O.nil,.s O.nil]) k))(j:h=aj c a.size 0 [.s g,.s (O.mk d.size 0 0 0)]):
 J d h/\cB h a.size k [.s g,.s (O.mk d.size 0 0 0)]/\Gr b d h e l f (.mk d.size 0 0 0) []/\a.size=d.size+1/\h.size=d.size+2:=by
 subst p
 have n:J (d.push (.cells (bE []) e)) h:=by subst i j;exact(J.push _ _).aj (ad _) _ _
 refine⟨(J.push d _).trans n,?_,(Gr.new b (ad _) e l f).ext q n,aJ,by subst i j;simp[aD]⟩
 have s:cB c (d.push (.cells (bE []) e)).size k [.s O.nil,.s O.nil]:=by rw[i];exact cB.push _ _ _
 rw[j]
 exact cB.aj (m:=c) (o:=0) (r:=[.s g,.s (.mk d.size 0 0 0)]) s
def ka{β:Type}{p b1 t:Nat}{q:E->List Ce->β->Prop}{m A:O}{F:List bq}(G:nG p q)(hz:0<p)(ac:k≠e)(X:∀c∈b,c<f.size)(Y:f.size<=b1/\b1<d.size)(K:J f d)(ak:g=d.size+1)
 (Z:bZ (bI (b1::b) d) m F)(hn:A.len=t)(al:t<=1000)(ad:J d h)(U:cB h g k [.s m,.s (O.mk d.size 0 0 0)])(aa:Gr (g::b1::b) d h e p q (.mk d.size 0 0 0) [])(y:Nat->β->Prop)
 {C:(Int->E->Prop)->(Int->E->Nat)->Int->E->Prop}{R:O->O->E->Prop}
 (W:∀D N l r,bZ (bI b r) D F->eO (bI b r) p (q (bI b r)) N l->l.length=t->(∀(i:Nat)(x:β),l[i]? =some x->y i x)->J f r->R D N r)
 (T:∀(a:Nat)(M:E)(s:O)(l:List β)(I:Int->E->Prop)(μ:Int->E->Nat),a<t->l.length=a->J d M->Gr (g::b1::b) d M e p q s l->cB M g k [.s m,.s s]->
  (∀v j x,Gr (g::b1::b) d j e p q v (l++[x])->cB j g k [.s m,.s v]->J d j->y a x->I (cQ ((a:Int)+1)) j/\μ (cQ ((a:Int)+1)) j<μ a M)->C I μ a M):
 ∃(w:Int->E->Prop)(μ0:Int->E->Nat),w (0:Int) h/\(∀(i:Int)(M:E),w i M->
  ((decide (i<(A.len:Int)))=true->C w μ0 i M)/\
  ((decide (i<(A.len:Int)))=false->∃o:O,af M g 0=some (O.v o)/\∃u:O,af M g 1=some (O.v u)/\
   let j:E:=aj M b1 0 [.s o,.s u]
   R o u j)):=by
 refine eu (n:=t) V (λa M=>J d M/\∃s l,Gr (g::b1::b) d M e p q s l/\cB M g k [.s m,.s s]/\l.length=a/\∀(i:Nat)(x:β),l[i]? =some x->y i x) ⟨ad,_,[],aa,U,rfl,aJ⟩ ?_
 rintro a M I μ hk ⟨x,s,l,u,B,ab,H⟩ ae
 refine dit (λS=>?_) λS=>?_
 .refine T a M s l I μ V ab x u B λv j ag Q P x' L=>ae V _ ⟨x',v,_,Q,P,bS,λi ai o=>?_⟩
  rcases aX i l.length with z|z
  .rw[ay z]at o;exact H i ai o
  .rw[aI z]at o
   have:i -l.length=0:=by have:=az o;simp at this;omega
   rw[this]at o;simp at o;subst o
   have:i=a:=V
   subst this;exact L
 .refine⟨m,B.cK 0,s,B.cK 1,?_⟩
  intro j
  have L:=u.bn
  have z:=u.ne B ac
  have v:Le (bI (g::b1::b) M) (bI b j):=cp aJ λc o=>ah _ (ah _ o)
  refine W m s l j (Z.le ((x.bI λc o=>?_).trans v)) (eO.le (u.mZ G (λo=>?_) hz V) v λP ag=>G.le v) V H ((K.trans x).aj Y.1 _ _)
  .rcases List.mem_cons.1 o with e|e
   .exact Or.inr V
   .exact Or.inl e
  .simp only[aW]at o
   rcases o with e|e|e
   .exact z e
   .omega
   .have:=X _ e;have:=K.size;omega
def ZD(a:List eQ)(k:Nat)(q:eQ):Prop:=∃p,a[k]? =some p/\q.params=p.params/\q.dg=p.dg/\q.aT=p.aT
structure uK(ds:List bq)(rs:List eQ)(c:Prop)(W:Nat):Prop where
 gR:0<rs.length
 df:∀q∈rs,q.params.length<=3/\q.dg.length<=3/\WB ds (pc rs) c q.params.length q.body/\q.body.w<=W
def qP(h:Nat)(e:List Value)(f:E)(b:List Nat)(g:List bq)(Q:List eQ->Prop):Prop:=aP cv h e f λv a=>∃d r c,v=.agg #[O.v d,O.v r]/\dY (bI b a) d r g c/\Q c/\J f a
def TQ{f:List bq}{a:List Nat}(g:0<a.length)(k:j.length=a.length)(h:∀(i:Nat)(q:eQ),j[i]? =some q->a[i]? =some q.params.length/\q.params.length<=3/\q.dg.length<=3/\WB f a c q.params.length q.body/\q.body.w<=W):uK f j c W:=
 have e:pc j=a:=eM λi=>by
  rcases aX i j.length with d|d
  .let⟨q,b⟩:=cq j i;rw[Io b,(h i q b).1]
  .rw[bV (by rw[Kx];omega),bV V]
 ⟨V,λq b=>by obtain⟨i,d⟩:=List.mem_iff_getElem?.1 b;rw[e];exact(h i q d).2⟩
def GM{b:List bq}{a:List eQ}(d:0<a.length)(e:j.length=a.length)(h:∀(i:Nat)(q:eQ),j[i]? =some q->(pc a)[i]? =some q.params.length/\q.params.length<=3/\q.dg.length<=3/\WB b (pc a) c q.params.length q.body/\q.body.w<=W):uK b j c W:=
 TQ (by rw[Kx];exact d) (by rw[Kx];exact e) h
def HA(H:∀c∈b,c<f.size){E:O}{e dg:List Int}{L:Int}(C:au f p e)(I:au f t dg)(Q:e.length<=100):
 iU 252 [.agg #[O.v p,O.v t,vi L,O.v E,vi s]] f b λl=>(∀o∈l,0<=o/\o<(e.length:Int))/\l.length<=e.length:=by
 apply Ac
 simp -zeta only[aG,aF]
 intro a d
 have w:J f a:=J.push _ _
 have B:∀y∈[f.size],y<a.size:=by simp[a]
 have F:GI b a d (.mk a.size 0 0 0) []:=GI.nil b a
 have N:J a d:=J.push _ _
 clear_value d
 clear_value a
 have S:=C.len
 refine dE (n:=e.length) V (λm r M=>J a M/\∃l,GI b a M r l/\(∀o∈l,0<=o/\o<(e.length:Int))/\l.length<=m) ⟨N,[],F,aJ,ad _⟩ ?_
 rintro m r T P μ R ⟨x,l,j,k,A⟩ q
 have u:=w.trans x
 refine⟨λg=>?_,λg=>⟨r,l,rfl,j.cL (λ_ g=>g) w.size,⟨k,by simp at g;omega⟩,u⟩⟩
 simp only[aq]at g
 let⟨M,K⟩:=cq e m
 refine⟨V,V,M,(C.ext u).aQ K,λ_=>?_,λ_=>q V _ _ ⟨x,l,j,k,V⟩⟩
 refine(dj (I.ext u) m).any.aK x B λy U D v=>⟨_,rfl,λ_=>?_,λ_=>q V _ _ ⟨v,l,j.ext D,k,V⟩⟩
 intro h
 refine GI.kj (j.ext D) (v.fz []) (λc A=>w.lt (H c A)) V λX W G z _ _=>⟨J.nP (v.aR _) z.ext B,q V _ _ ⟨z.ext,_,G,λo i=>?_,bS⟩⟩
 rcases List.mem_append.1 i with i|i
 .exact k o i
 .simp at i;omega
end
section
variable{a:List Nat}{b:E}{d r:O}{c:List eQ}
def Hi(hS:∀e∈a,e<b.size){Z aj t:O}{Q:List bq}{q:eQ}(hn:dY b d r Q c)(W:au b Z q.params)(ht:au b aj q.dg)(hs:eG b t q.body.aE)(aH:q.params.length<=3)(ap:WB Q (pc c) False q.params.length q.body)(hw:q.body.w<=95):
 mO 70 [.agg #[O.v d,O.v r],.agg #[O.v Z,O.v aj,vi q.aT,O.v t,vi q.body.aT]] b a λl=>WB Q (pc c) True q.params.length l/\l.w<=1100*q.body.w:=by
 apply zA
 simp -zeta only[aG,aF]
 intro m0 D H
 let⟨v,h,s0,s1,s2⟩:=pJ (a:=m0) (b:=D) (c:=H) rfl rfl rfl
 clear_value H
 have aI:=W.len
 have T:∀e∈D.size::a,e<H.size:=bR hS v.size (h _ aJ)
 refine(CA (S:=[]) aJ (hs.le v.le) _ V).aK (J.aH H) h λus ul g hu aK P _=>⟨_,rfl,?_⟩
 have ao:au g us ul:=hu.le (bA _ _)
 intro s I
 have az:J g I:=(J.push g _).trans (J.push s _)
 have s4:s.size=g.size+1:=by simp[s]
 have i:GI a g I (.mk g.size 0 0 0) []:=(GI.nil a g).ext (J.push s _)
 have gd:GI a g I (.mk s.size 0 0 0) []:=(GI.nil a s).cL (λ_ R=>R) V
 clear_value I
 have z3:=P.size
 have am:∀e∈a,e<g.size:=λe f=>by have:=hS e f;have:=v.size;omega
 refine vX (n:=q.params.length) V (λk L sd M=>J g M/\∃j p,GI a g M L j/\GI a g M sd p/\L.aC≠sd.aC/\(∀o∈j,0<=o/\o<(q.params.length:Int))/\(∀o∈p,0<=o/\o<(q.params.length:Int))/\j.length<=k/\p.length<=k) ⟨az,[],[],i,gd,bS,aJ,aJ,ad _,ad _⟩ ?_
 rintro k L sd m6 aA μ hk ⟨w,j,p,i,gd,G,B,A,cm,cd⟩ K
 have F:=P.trans w
 have v6:=v.trans F
 refine dit (λR=>?_) λR=>?_
 .let⟨ab,Y⟩:=cq q.params k
  have X:∀{m:List Int},(∀o∈m,0<=o/\o<(q.params.length:Int))->∀o∈m++[(k:Int)],0<=o/\o<(q.params.length:Int):=λh o C=>by
   rcases List.mem_append.1 C with C|C
   .exact h o C
   .simp at C;omega
  refine⟨V,V,ab,(W.ext v6).aQ Y,λ_=>?_,λ_=>K V _ _ _ ⟨w,j,p,i,gd,G,B,A,V,V⟩⟩
  refine(dj (ht.ext v6) k).any.aK F h λaa m7 u u7=>⟨_,rfl,λ_=>?_,λ_=>K V _ _ _ ⟨w.trans u,j,p,i.ext u,gd.ext u,G,B,A,V,V⟩⟩
  refine(dj (ao.ext (w.trans u)) k).any.aK u7 h λaa m8 x8 u8=>⟨_,rfl,λ_=>?_,λ_=>?_⟩
  .have x:=u.trans x8
   intro m9
   exact GI.RC (i.ext x) (gd.ext x) G ((w.trans x).fz []) V λr m' z N U y=>⟨J.nP ((F.trans x).aR _) (P.trans y.ext) h,K V _ _ _ ⟨y.ext,_,_,z,N,U,X B,A,bS,V⟩⟩
  .have x:=u.trans x8
   intro m9
   exact GI.RC (gd.ext x) (i.ext x) G.symm ((w.trans x).fz []) V λr m' z N U y=>⟨J.nP ((F.trans x).aR _) (P.trans y.ext) h,K V _ _ _ ⟨y.ext,_,_,N,z,U.symm,B,X A,V,bS⟩⟩
 intro y
 have ac:J m6 y:=J.push _ _
 have aa:=F.trans ac
 have ab:=v.trans aa
 have e0:au y (.mk m6.size 0 0 0) []:=lU _ _ _ _ _ _
 have ag:∀{M:E}{t:O}{m:List Int},GI a g M t m->m.length<=3->au M t m:=λz h=>(z.done am V).le (bA _ _)
 clear_value y
 have aE:=q.body.Gc
 refine(Fi q.body (D.size::a) y (λe f=>aa.lt (T e f)) d r Z t L _ q.params j [] (hn.le ab.le) (W.ext ab) (hs.le ab.le) ((ag i V).ext ac) e0 ⟨B,V,bS,V,ap⟩).aK aa h λss l C an X ax aw=>⟨_,_,rfl,?_⟩
 intro aq o
 have ae:J C o:=(J.push C _).aj (ad _) _ _
 have aQ:o.size=C.size+1:=by simp[o,aq,aD]
 clear_value o
 have N:=aw.trans ae
 have U:∀e∈[C.size,D.size,m0.size,b.size],e<o.size:=λe f=>by
  rcases List.mem_cons.1 f with x|x
  .omega
  .exact N.lt (h e x)
 have aC:=Bk.k8 l;have aB:=fw l.aE
 have aL:=X.2
 refine(eN (c:=D.size::a) (λe f=>N.lt (T e f)) 15 ((ag gd V).ext ((ac.trans ax).trans ae)) V).aK (J.aH o) U λaP _ aN af x u _=>⟨_,rfl,aM (u.same _ V) _,aM (u.same _ V) _,?_⟩
 subst x
 have aR:=u.size
 have Y:=af.bn
 refine GS.all af (u.fz []) ((an.le (ae.cR _)).le (sD u Y.1)) bS λav ar al ak aS ai=>⟨λe f=>ai e (u.lt (U e f)) (oh (U e f)),aM (ai _ V V) _,?_⟩
 intro aO
 have ay:J b ar:=(v.trans N).trans ak.ext
 refine⟨av,.mk _ l.aT,rfl,eG.le (cp aJ λe f=>ah _ f) (al.done fQ.mono (λe f=>N.lt (T e f)) bo bS),⟨WB.of ((qT V A).append ?_) ?_,?_⟩,ay.aj V _ _⟩
 .rw[jH V];exact X.1.bC.1
 .rw[cJ,jH V,bG];exact X.1.bC.2
 .rw[Bk.pY,dv,nH];omega
def zC(P:∀f∈a,f<b.size){p:List bq}(t:dY b d r p c)(hk:uK p c False 95):qP 36 [.agg #[O.v d,O.v r]] b a p λj=>uK p j True 104500/\j.length=c.length/\∀(k:Nat)(e:eQ),j[k]? =some e->ZD c k e:=by
 apply Ds;simp -zeta only[aG,aF];intro g a2;let⟨C,y⟩:=dk (a:=g) (c:=a2) rfl rfl;have s1:g.size=b.size+1:=by simp[g]
 clear_value a2;have aj:=t.iB.len;have aq:=t.nv;refine(fD (b:=g.size::a) (bR P C.size (y _ aJ)) (t.le C.le).bu t.types).mono λ_ U⟨ad,s,ag,D⟩=>?_;subst s;refine⟨D.de y,_,rfl,?_⟩;intro W am ac;have u2:=C.trans D;let⟨x5,B0,g0,s3,s5⟩:=kC (b:=W.size::g.size::a) iv.mono (d:=U) (a:=W) (c:=am) (h:=ac) rfl rfl rfl;clear_value ac;have z:∀f∈[g.size,b.size],f<U.size:=λf i=>D.lt (y f i);have Q:∀f∈g.size::a,f<U.size:=λf i=>D.lt (bR P C.size (y _ aJ) f i);refine ka (R:=λv0 v1 M=>∃d r j,Value.agg #[O.v v0,O.v v1]=.agg #[O.v d,O.v r]/\dY (bI a M) d r p j/\(uK p j True 104500/\j.length=c.length/\∀(k:Nat)(e:eQ),j[k]? =some e->ZD c k e)/\J b M) (t:=c.length) (f:=b) (b:=a) iv.mono bo bo P ⟨V,z _ aJ⟩ u2 s3 ag aj V x5 B0 g0 (λk e=>((pc c)[k]? =some e.params.length/\e.params.length<=3/\e.dg.length<=3/\WB p (pc c) True e.params.length e.body/\e.body.w<=104500)/\ZD c k e) (λv A T B h1 h2 o u w=>⟨v,A,T,rfl,⟨h1,h2,t.types,V⟩,⟨GM hk.gR o λx e h=>(u x e h).1,o,λk e h=>(u k e h).2⟩,w⟩) λk M st T ao μ ah ap E Z F an=>?_
 let⟨e,A⟩:=cq c k ah;let⟨ab,ai,al,hw⟩:=hk.df e (av A);have u:=u2.trans E;let⟨ar,au,o,X,Y,c3,H,I,K,L,N⟩:=t.iB.aQ A;have G:∀{B:Value}{o w:Nat},af b o w=some B->af M o w=some B:=λh=>u.af h;refine⟨st,F.cK 1,V,V,_,G H,_,G I,_,G K,_,G L,_,G N,V,V,_,G H,_,G I,_,G K,_,G L,_,G N,?_⟩;have hy:=Z.bn;have ae:=F.lt;have zM:=E.size;refine(Hi (a:=st.aC::W.size::g.size::a) (λf i=>?_) (t.le u.le) (X.ext u) (Y.ext u) (c3.le u.le) ab al hw).aK E z λss b' M1 ak aa v u1=>⟨_,_,rfl,?_⟩
 .simp only[aW]at i;rcases i with s|s|s|s
  .omega
  .omega
  .have:=Q f (by simp[s]);omega
  .have:=Q f (by simp[s]);omega
 have x:∀{B:Value}{o w:Nat},af b o w=some B->af M1 o w=af M o w:=λh=>by rw[v.af (G h),G h]
 refine⟨x H,x I,x K,x L,x N,aM (v.same _ (E.lt (z _ aJ))) _,aM (v.same _ ae) _,?_⟩;exact ve (b:=g.size::a) (v:=ad) (x:=T) Q (λf i=>by have h1:=z f i;have h2:=u1.size;omega) u1 (Z.ext iv.mono v) (F.ext v) V (X.ext (u.trans v)) (Y.ext (u.trans v)) ak ⟨V,V⟩ V λs' M' g' B' x'=>an s' M' _ g' B' x' ⟨⟨Io (q:=e) A,ab,ai,aa.1,by have:=aa.2;simp only;omega⟩,e,A,rfl,rfl,rfl⟩
def KP(j:∀e∈a,e<b.size){e:List bq}(l:dY b d r e c)(k:uK e c False 95):qP 36 [.agg #[O.v d,O.v r]] b a e λm=>uK e m True 104500:=
 (zC j l k).mono λ_ _⟨d,r,c,f,g,h,i⟩=>⟨d,r,c,f,g,h.1,i⟩
def Pt(N:∀f∈a,f<b.size){u:List bq}(v:dY b d r u c)(hk:uK u c False 95):qP 226 [.agg #[O.v d,O.v r]] b a u λC=>uK u C True 104500:=by
 apply I9;simp -zeta only[aG,aF];intro s a2;let⟨F,z⟩:=dk (a:=s) (c:=a2) rfl rfl;have s1:s.size=b.size+1:=by simp[s]
 clear_value a2;have al:=v.iB.len;have ax:=v.nv;refine(fD (b:=s.size::a) (bR N F.size (z _ aJ)) (v.le F.le).bu v.types).mono λ_ X⟨ag,h,ah,H⟩=>?_;subst h;refine⟨H.de z,_,rfl,?_⟩;intro B ao ac;have u2:=F.trans H;let⟨x5,B0,g0,s3,s5⟩:=kC (b:=B.size::s.size::a) iv.mono (d:=X) (a:=B) (c:=ao) (h:=ac) rfl rfl rfl;clear_value ac;have Q:∀f∈[s.size,b.size],f<X.size:=λf i=>H.lt (z f i);have P:∀f∈s.size::a,f<X.size:=λf i=>H.lt (bR N F.size (z _ aJ) f i);refine ka (R:=λe g M=>∃d r C,Value.agg #[O.v e,O.v g]=.agg #[O.v d,O.v r]/\dY (bI a M) d r u C/\uK u C True 104500/\J b M) (t:=c.length) (f:=b) (b:=a) iv.mono bo bo N ⟨V,Q _ aJ⟩ u2 s3 ah al V x5 B0 g0 (λU p=>(pc c)[U]? =some p.params.length/\p.params.length<=3/\p.dg.length<=3/\WB u (pc c) True p.params.length p.body/\p.body.w<=104500) (λe o W t h1 y g j k=>⟨e,o,W,rfl,⟨h1,y,v.types,V⟩,GM hk.gR g j,k⟩) λU M st W ar μ ai aw xM aa I ap=>?_
 let⟨p,T⟩:=cq c U ai;let⟨ak,aj,an,hw⟩:=hk.df p (av T);have D:=u2.trans xM;let⟨aq,az,o,K,c2,c3,e0,e1,e2,e3,e4⟩:=v.iB.aQ T;have G:∀{ae:Value}{o w:Nat},af b o w=some ae->af M o w=some ae:=λL=>D.af L;refine⟨V,V,_,G e0,_,G e1,_,G e2,_,G e3,_,G e4,?_⟩;intro m7 k;have hy:=aa.bn;have au:=I.lt;have zM:=xM.size;have x8:J M k:=(J.push M _).aj (ad _) _ _;have s8:k.size=M.size+1:=by simp[k,m7,aD]
 clear_value k;have A:∀f∈[M.size,s.size,b.size],f<k.size:=λf i=>by
  rcases List.mem_cons.1 i with h|h
  .omega
  .have:=Q f h;omega
 have Y:=D.trans x8;have g:∀{M1 M2:E},J k M1->J k M2->∀o,o<k.size->∀w,af M2 o w=af M1 o w:=λL h' o hb w=>aM (by rw[h'.same o hb,L.same o hb]) w;have j:M.size<k.size:=V;have i1:b.size<k.size:=A _ aJ;have i2:B.size<k.size:=V;refine⟨st,(I.ext x8).cK 1,?_⟩;refine(HA (b:=[]) aJ (K.ext Y) (c2.ext Y) V).aK (J.aH k) A λow lo m9 go ho e _=>⟨_,rfl,g (J.aH _) e _ j _,g (J.aH _) e _ j _,g (J.aH _) e _ j _,g (J.aH _) e _ i1 _,g (J.aH _) e _ i1 _,g (J.aH _) e _ j _,g (J.aH _) e _ j _,g (J.aH _) e _ j _,g (J.aH _) e _ j _,g (J.aH _) e _ j _,g (J.aH _) e _ i2 _,?_⟩;have Z:=Y.trans e;have z9:=e.size;have i:=ho.2;refine(Hm p.body (st.aC::B.size::s.size::a) m9 (λf i=>?_) d r aq o ow p.params lo (v.le Z.le) (K.ext Z) (c3.le Z.le) ((go.done aJ V).le (bA _ _)) ⟨ho.1,V,V,an⟩).aK e A λss b' ay am ab aA t=>⟨_,_,rfl,g e t _ j _,g e t _ j _,g e t _ j _,g e t _ j _,g e t _ j _,g e t _ i2 _,?_⟩
 .simp only[aW]at i;rcases i with h|h|h|h
  .omega
  .omega
  .have:=P f (by simp[h]);omega
  .have:=P f (by simp[h]);omega
 have x:=x8.trans t;have aB:=t.size;exact ve (b:=s.size::a) (v:=ag) (x:=W) P (λf i=>by have h1:=A f i;have y:=Q f;simp only[aW]at i y;rcases i with h|h|h|h<;>first|omega|(have:=y (by simp[h]);omega)|simp at h) (xM.trans x) (aa.ext iv.mono x) (I.ext x) V (K.ext (D.trans x)) (c2.ext (D.trans x)) am ⟨V,V⟩ V λs' M' g' y x'=>ap s' M' _ g' y x' ⟨Io (q:=p) T,ak,aj,ab.1,by have:=ab.2;simp only;omega⟩
end
section
variable{x:cF}{l:List cF}{m d M:E}{i f e h:O}{b:List Nat}{c g:List Int}{a:Int}{K:O->E->Prop}
def zP(a k:O)(m:E):dA cv 256 [oC x a k] m (x.op=14\/x.op=15):=by
 apply Fu;simp -zeta only[aG,aF];intro c;have b:J m c:=J.push _ _;refine⟨λh=>jt (Or.inl (by simpa using h)) b,λh=>fV ?_ b⟩;simp only[ap]at h;simp only[aO];omega
def Xi(l:List cF):Prop:=∀x∈l,x.args.length=1
def yz(l:List cF)(o:Int):Prop:=∃x∈l,o∈x.args
def Xi.at(h:Xi l){k:Nat}(a:l[k]? =some x):∃y,x.args[0]? =some y/\yz l y:=by
 have c:=h x (av a);let⟨y,b⟩:=cq x.args 0;exact⟨y,b,x,av a,av b⟩
def N9(p:eG m i l)(B:Xi l)(H:l.length<=10^12)(v:Int):rm 273 [O.v i,vi v] m λb=>-(l.length:Int)<=b/\b<=l.length:=by
 apply Ht;have L:=p.len;refine dE (n:=l.length) V (λk b M=>J m M/\-(k:Int)<=b/\b<=(k:Int)) ⟨J.aH _,V,V⟩ ?_;rintro k b c I μ K ⟨e,E,F⟩ C
 refine⟨λj=>?_,λj=>⟨b,rfl,⟨V,V⟩,e⟩⟩;simp only[aq]at j;let⟨x,q⟩:=cq l k;obtain⟨y,r,_⟩:=B.at q;obtain⟨a,Q,o,_,z,_,_,A,_⟩:=p.aQ q;have G:=o.len;have P:=az r;have s:=e.af z;have G3:=e.af A;have h:=(o.ext e).aQ r;have u:cQ (b+1)=b+1:=aS V V;have w:cQ (b -1)=b -1:=aS V V;rw[u,w];have N:∀d,-((k+1:Nat):Int)<=d->d<=((k+1:Nat):Int)->I d (cQ ((k:Int)+1)) c/\μ d (cQ ((k:Int)+1)) c<μ b k c:=λd a t=>C V _ _ ⟨e,a,t⟩
 have D:(0:Int)<=(k:Int)/\(k:Int)<(i.len:Int)/\∃f:O,af c i.aC (i.off+Int.toNat (k:Int)*5+3)=some (O.v f)/\(0:Int)<=(0:Int)/\(0:Int)<(f.len:Int)/\∃g:Int,af c f.aC (f.off+Int.toNat (0:Int)*1)=some (vi g)/\
  ((g==v)=true->I (b -1) (cQ ((k:Int)+1)) c/\μ (b -1) (cQ ((k:Int)+1)) c<μ b k c)/\((g==v)=false->I b (cQ ((k:Int)+1)) c/\μ b (cQ ((k:Int)+1)) c<μ b k c):=
  ⟨V,V,a,G3,V,V,y,h,λ_=>N _ V V,λ_=>N _ V V⟩
 exact⟨V,V,a,G3,V,V,y,h,λ_=>⟨V,V,_,s,λ_=>N _ V V,λ_=>D⟩,λ_=>D⟩
def Mo(q:∀f∈b,f<m.size)(u:eG m i l)(j:Xi l)(G:l.length<=100000000000):iU 272 [O.v i] m b λc=>(∀o∈c,yz l o)/\c.length<=l.length:=by
 apply FW;intro N;have K:=u.len;refine dE (n:=l.length) V (λk s M=>J m M/\∃c,GI b m M s c/\(∀o∈c,yz l o)/\c.length<=k) ⟨J.push m _,[],GI.nil b m,aJ,ad _⟩ ?_;rintro k s d I μ H ⟨e,c,p,v,t⟩ C
 refine⟨λh=>?_,λh=>⟨s,c,rfl,p,⟨v,V⟩,e⟩⟩;simp only[aq]at h;let⟨x,w⟩:=cq l k;let⟨z,y,A⟩:=j.at w;obtain⟨a,R,r,_,E,_,_,g,_⟩:=u.aQ w;have F:=r.len;have L:=az y;refine⟨V,V,a,e.af g,V,V,z,(r.ext e).aQ y,?_⟩;refine(nk (S:=b) (λf t=>aL (q f t) e.size) (p.done q V) z V).then λQ B P g f D=>⟨_,rfl,C V _ _ ⟨e.trans D,B,g.cL (λ_ h=>h) e.size,λo j=>?_,oh f.2⟩⟩;rcases f.1 o j with h|h
 .exact v o h
 .subst h;exact A
structure uP(b:List Nat)(m d M:E)(f e h:O)(c lr g:List Int):Prop where
 x:J m M
 gd:GI b m M f c
 gr:GI b m M e lr
 gv:GI [] d M h g
 n1:f.aC≠e.aC
 n2:f.aC≠h.aC
 n3:e.aC≠h.aC
def uP.ext{b:List Nat}{m d M i:E}{f e h:O}{c j g:List Int}(T:uP b m d M f e h c j g)(a:J M i):uP b m d i f e h c j g:=
 ⟨T.x.trans a,T.gd.ext a,T.gr.ext a,T.gv.ext a,T.n1,T.n2,T.n3⟩
def uP.ZG{j:List Int}(T:uP b m d M f e h c j g)(s:∀i∈b,i<m.size)(t:c.length<=10^12)(u:∀r i,uP b m d i r e h (c++[a]) j g->K r i):
 jb (M.push (.cells (bE [.i a]) aA)) aA [.i 0] 8 f (.mk M.size 0 1 1) K:=by
 have o:=T.gr.bn;have p:=T.gv.bn;have v:=T.n1;have w:=T.n2
 refine GI.kj T.gd (T.x.fz []) s t λr i n l z q=>u r i ⟨l.ext,n,T.gr.iI (q _ o.2 T.n1.symm),T.gv.iI (q _ p.2 T.n2.symm),?_,?_,T.n3⟩<;>rcases z.2 with k|k<;>omega
def uP.RC{j:List Int}(T:uP b m d M f e h c j g)(s:∀i∈b,i<m.size)(t:j.length<=10^12)(u:∀r i,uP b m d i f r h c (j++[a]) g->K r i):
 jb (M.push (.cells (bE [.i a]) aA)) aA [.i 0] 8 e (.mk M.size 0 1 1) K:=by
 have o:=T.gd.bn;have p:=T.gv.bn;have v:=T.n1;have w:=T.n3
 refine GI.kj T.gr (T.x.fz []) s t λr i n l z q=>u r i ⟨l.ext,T.gd.iI (q _ o.2 T.n1),n,T.gv.iI (q _ p.2 T.n3.symm),?_,T.n2,?_⟩<;>rcases z.2 with k|k<;>omega
def VA(l:List cF)(c:List cF):Prop:=∃b a:List Int,c=b.map (eP 14)++a.map (eP 15)/\(∀o∈b,yz l o)/\(∀o∈a,yz l o)/\b.length+a.length<=l.length*l.length
def xr(v:∀t∈b,t<m.size)(Z:eG m i l)(a:Xi l)(x:l.length<=500000):QL 257 [O.v i] m b (VA l):=by
 apply Cb;intro r d;have P:J m d:=(J.push m _).trans (J.push r _);have s1:r.size=m.size+1:=by simp[r]
 have gd:GI b m d (.mk m.size 0 0 0) []:=(GI.nil b m).ext (J.push r _);have U:GI b m d (.mk r.size 0 0 0) []:=(GI.nil b r).cL (λ_ F=>F) V;clear_value d;have ah:l.length*l.length<=250000000000:=bJ (Up x x) bo;refine(Mo (b:=[]) aJ (Z.le P.le) a V).then λh g m3 D L Q=>⟨_,rfl,?_⟩;have hv:au m3 h g:=(D.done aJ (oh L.2)).le (bA _ _);have am:=hv.len;have al:=L.2;have an:=D.bn;have ap:=P.size;refine vX (n:=g.length) V (λp f e M=>∃c j,uP b m d M f e h c j g/\(∀o∈c,yz l o)/\(∀o∈j,yz l o)/\c.length+j.length<=p*l.length) ⟨[],[],⟨(P.trans Q),gd.ext Q,U.ext Q,D,bS,oh gd.bn,oh U.bn⟩,aJ,aJ,aJ⟩ ?_;rintro p f e m4 ag μ hi ⟨c,j,T,hd,hr,X⟩ ae
 have ac:p*l.length<=l.length*l.length:=dt _ V;have G:∀{M:E}{f e:O}{c j:List Int},uP b m d M f e h c j g->au M h g:=λT=>(T.gv.done aJ V).le (bA _ _);refine dit (λF=>?_) λF=>?_
 .let⟨y,z⟩:=cq g p;have ab:=L.1 y (av z);refine⟨V,V,y,(G T).aQ z,?_⟩;refine(N9 (Z.le T.x.le) a V y).then λw m5 hn s=>⟨_,rfl,?_⟩;have ak:(p+1)*l.length=p*l.length+l.length:=pC _ _;refine⟨λf k M=>k<=w/\(w<=0->k=w)/\(0<w->0<=k)/\∃H,uP b m d M f e h H j g/\(∀o∈H,yz l o)/\H.length+j.length+k.toNat<=p*l.length+w.toNat,λ_ k _=>k.toNat,⟨V,V,V,c,T.ext s,hd,V⟩,?_⟩;rintro af k m6 ⟨n1,n2,n3,I,A,Y,ai⟩;refine dit (λh1=>?_) λh1=>?_
  .refine⟨V,V,y,(G A).aQ z,?_⟩;intro q;have u:cQ (k -1)=k -1:=aS V V;rw[u];exact A.ZG v V λN R B=>⟨⟨V,V,V,_,B,λo a=>by
    rcases List.mem_append.1 a with a|a
    .exact Y o a
    .simp at a;subst a;exact ab,bS⟩,by dsimp only;omega⟩
  .refine⟨λe q M=>k<=q/\q<=0/\∃K,uP b m d M af e h I K g/\(∀o∈K,yz l o)/\I.length+K.length+(-q).toNat<=p*l.length+l.length,λ_ q _=>(-q).toNat,⟨V,V,j,A,hr,V⟩,?_⟩;rintro ao q m8 ⟨p1,p2,ad,C,aa,aj⟩;refine⟨λW=>?_,λW=>ae V _ _ _ ⟨I,ad,C,Y,aa,V⟩⟩;simp only[aq]at W;refine⟨V,V,y,(G C).aQ z,?_⟩;intro m9;have u:cQ (q+1)=q+1:=aS V V;rw[u];exact C.RC v V λN R B=>⟨⟨V,V,_,B,λo a=>by
    rcases List.mem_append.1 a with a|a
    .exact aa o a
    .simp at a;subst a;exact ab,bS⟩,by dsimp only;omega⟩
 .have o:∀t∈b,t<m4.size:=λt X=>by have:=v t X;have:=T.x.size;omega
  refine(eN (c:=b) o 14 ((T.gd.done v V).le (bA _ _)) V).mono λ_ m5⟨s1,C,k,g1,u,s⟩=>?_;subst k;subst u;refine⟨_,rfl,?_⟩;have q:=g1.bn;refine(eN (c:=s1.aC::b) (bR o s.size q.2) 15 (((T.ext s).gr.done v V).le (bA _ _)) V).mono λ_ m6⟨I,H,k,g2,y,w⟩=>?_;subst k;subst y;refine⟨_,rfl,?_⟩;refine GS.all (g1.ext fQ.mono w) ((s.trans w).fz []) (g2.done fQ.mono (bR o s.size q.2) bo bS) bS λN R A z _ _=>⟨N,_,rfl,A.cL fQ.mono (λB x=>Or.inl x) T.x.size,⟨c,j,rfl,hd,hr,?_⟩,T.x.trans z.ext⟩;have:p*l.length<=l.length*l.length:=ac;omega
end
section
variable{a:Nat}{c:List Nat}
def HO(a b:Nat):a*a+b*b<=(a+b)*(a+b):=by
 rw[fZ,Nat.mul_add,Nat.mul_add];omega
def Pw{b:Nat}(h:a<=b):a*a<=b*b:=Up h h
structure CN(ds:List bq)(c:List Nat)(S:List Nat)(m2 M:E)(a:Nat)(aE:List cF)(k:Nat)(st run:O)(lo lr:List cF)(P:Nat):Prop where
 x:J m2 M
 gs:GS (run.aC::S) m2 M st lo
 gr:GS [st.aC] m2 M run lr
 wl:WL ds c True a lo
 Xl:dc lo=dc (aE.take k)
 sws:sw lo<=P*P
 P':P+2*lr.length<=sw (aE.take k)
 lj:Xi lr
 Xs:∀o,yz lr o->0<=o/\o<((a+dc (aE.take k):Nat):Int)
 ne:st.aC≠run.aC
def Pq{f:List bq}{l b:List cF}(h:VA l b)(e:∀o,yz l o->0<=o/\o<(a:Int)):WL f c True a b/\dc b=0/\sw b<=(2*l.length)*(2*l.length):=by
 obtain⟨k,j,rfl,g,i,m⟩:=h;refine⟨(qT V λo d=>e o (g o d)).append ?_,?_,?_⟩
 .rw[jH V];exact qT V λo d=>e o (i o d)
 .rw[cJ,jH V,jH V]
 .rw[dv,nH,nH];have:(2*l.length)*(2*l.length)=4*(l.length*l.length):=by
   rw[Nat.mul_mul_mul_comm]
  omega
def Zt(e:List bq)(c:List Nat)(b:Bk):Prop:=∀(S:List Nat)(m:E),(∀d∈S,d<m.size)->∀(t:O)(a:Nat),eG m t b.aE->WB e c True a b->b.w<=400000->mO 231 [.agg #[O.v t,vi b.aT]] m S λd=>WB e c True a d/\d.w<=b.w*b.w
def Dp{K:List bq}:∀g:Bk,Zt K c g:=by
 refine Bk.ind ?_;intro aE bg ih s I hS bU a hs a_ hw;have aK:=a_.bC;rw[Bk.pY]at hw⊢;simp only[Bk.jG,Bk.iZ]at*;apply wu;simp -zeta only[aG,aF];intro j k R m3;let⟨x1,hl⟩:=dk (a:=j) (c:=k) rfl rfl;have s0:j.size=I.size+1:=by simp[j]
 have s1:k.size=I.size+2:=by simp[k,s0]
 have bk:J k m3:=(J.push k _).trans (J.push R _);have s2:R.size=k.size+1:=by simp[R]
 have a2:∀u,GS u k m3 (.mk k.size 0 0 0) []:=λu=>(GS.new u k).ext fQ.mono (J.push R _);have a1:∀u,GS u k m3 (.mk R.size 0 0 0) []:=λu=>(GS.new u R).cL fQ.mono (λg m=>Or.inl m) V;clear_value m3;clear_value k;have a9:=hs.len;have aH:=Az aE;have bB:=fw aE;have aw:∀e∈j.size::s,e<k.size:=bR hS x1.size (hl _ aJ);refine vX (n:=aE.length) (a9▸hs.fA) (λv G z q=>∃Z t P,CN K c (j.size::s) k q a aE v G z Z t P) ⟨[],[],0,bk,a2 _,a1 _,WL.nil _ _ _ _,rfl,aJ,aJ,λ_ h=>by simp at h,λaf⟨_,h,_⟩=>by simp at h,bS⟩ ?_;rintro v G z y bm μ hk ⟨Z,t,P,C⟩ aL
 have U:=C.x;have T:=x1.trans U;have bL:=C.gs.bn;have bK:=C.gr.bn;have z4:=U.size;have au:=C.P';have bC:=aH v;have bn:P*P<=160000000000:=bJ (Pw (b:=400000) V) bo;have bz:=fw Z;have a7:=C.sws;have aB:=C.ne;have L:∀{q:E}{u:List Nat},y.size<=q.size->(∀e∈u,e<q.size)->∀e∈u++j.size::s,e<q.size:=λh m e f=>by
  rcases List.mem_append.1 f with h|h
  .exact m e h
  .have:=aw e h;omega
 have aC:∀{q:E},J y q->eG q z t:=λh=>eG.le (bA _ _) ((C.gr.ext fQ.mono h).mZ fQ.mono (by simpa using aB.symm) bo V);refine dit (λh=>?_) λh=>?_
 .let⟨d,X⟩:=cq aE v;let⟨pa,pk,ha,ab,g0,g1,g2,g3,g4⟩:=hs.aQ X;refine⟨V,V,_,T.af g0,_,T.af g1,_,T.af g2,_,T.af g3,_,T.af g4,?_⟩;intro m5 F;have x6:J y F:=(J.push y _).aj (ad _) _ _;have s6:F.size=y.size+1:=by simp[F,m5,aD]
  clear_value F;have O:∀{q:E},F.size<=q.size->∀g∈[y.size,j.size,I.size],g<q.size:=λh g m=>by
   rcases List.mem_cons.1 m with i|i
   .omega
   .have:=hl g i;omega
  have bF:=pp X;have bE:=qb X;have ba:=cF.k8 d;have Q:=aK.1 v d X;have bD:=aH (v+1);have bs:=pK d.bH;refine(zP pa pk F).aK (J.aH F) (O (ad _)) λbp m7 a4 x7 _=>⟨_,rfl,λhp=>?_,λhp=>?_⟩
  · -- a pair goes to the run
   have hp:=a4.1 hp;have D:d.args.length=1:=Q.dV.lj V;have N:dn d=0:=ae λh:oE d.op=>by have:=h.2;omega
   have A:=x6.trans x7;intro m8;have r:Le I (bI (z.aC::[G.aC]) m7):=(yW I).trans (((T.trans A).fz []).bI aJ λe f=>by simp at f;have:=x1.size;exact Or.inr V);refine GS.kj (x:=d) (C.gr.ext fQ.mono A) ((U.trans A).fz []) (ha.le r) (ab.le r) V λa0 M' W B l w=>⟨λe f=>?_,aL V _ _ _ ⟨Z,t++[d],P,B.ext,(C.gs.ext fQ.mono A).re fQ.mono (Y:=[z.aC]) ⟨l.1,λe f o=>w e f (by simpa using o)⟩ aJ (by simpa using aB) (λe f=>?_),W,C.wl,by rw[C.Xl];omega,a7,bS,λak o=>?_,λaf H=>?_,?_⟩⟩
   .have:=O (q:=m7) x7.size e f;rw[w e this (by simp at f;omega),(J.push m7 _).same e this]
   .rcases List.mem_cons.1 f with i|i
    .rcases l.2 with p|p
     .exact Or.inl (by rw[i,p];exact aZ)
     .exact Or.inr V
    .exact Or.inl (ah _ i)
   .rcases List.mem_append.1 o with o|o
    .exact C.lj ak o
    .simp at o;subst o;exact D
   .let⟨ak,o,p⟩:=H;have i:dc (aE.take (v+1))=dc (aE.take v):=V;rw[i];rcases List.mem_append.1 o with o|o
    .exact C.Xs af ⟨ak,o,p⟩
    .simp at o;subst o;exact Q.dV.args af p
   .have:=(C.gs.ext fQ.mono A).bn;rcases l.2 with i|i<;>omega
  · -- another step ends the run
   have A:=x6.trans x7;have aS:=A.size;refine(xr (b:=[G.aC,z.aC]++j.size::s) (L aS bS) (aC A) C.lj V).aK (J.aH m7) (O x7.size) λbQ bb bM aW be aO _=>⟨_,rfl,?_⟩;let⟨an,ag,bi⟩:=Pq (f:=K) (c:=c) be C.Xs;have bv:=fw bb;have bV:=aO.size;have z7:=x7.size;have a3:(2*t.length)*(2*t.length)<=160000000000:=bJ (Pw (b:=400000) V) bo;have aQ:=A.trans aO;refine GS.all (C.gs.ext fQ.mono aQ) ((U.trans aQ).fz []) (aW.done fQ.mono (L (u:=[G.aC,z.aC]) aS bS) bo V) V λw l ar aU aR bf=>⟨λe f=>bf e (O V e f) (by simp at f;omega),?_⟩;have ap:J k l:=aU.ext;have bW:=aR.1;have bG:=ar.bn;have br:w.aC=G.aC\/F.size<=w.aC:=by have:=aR.2;omega
   intro p am;have aP:J l p:=J.push l _;have bT:p.size=l.size+1:=by simp[p]
   have bj:J p am:=J.push p _;have aq:=ap.trans aP;have gn:GS [w.aC] k p (.mk l.size 0 0 0) []:=(GS.new _ l).cL fQ.mono (λg m=>Or.inl m) ap.size;have gk:GB ([w.aC,l.size]++j.size::s) p am (.mk p.size 0 0 0) []:=GB.new _ p;have aY:GS ([l.size]++j.size::s) k p w _:=ar.re fQ.mono (Y:=[]) (aP.fz []) aJ aJ λe f=>by
    rcases List.mem_cons.1 f with i|i
    .exact Or.inr V
    .exact Or.inl (ah _ i)
   clear_value am;clear_value p;have al:=ab.len;have bt:=JS d.bH;have bu:bw d.bH<=400000:=V;refine dE (n:=d.bH.length) (al▸ab.fA) (λD bh q=>J p q/\∃r,GB ([w.aC,l.size]++j.size::s) p q bh r/\r.length=D/\(∀(B:Nat)(g:Bk),r[B]? =some g->WB K c True (a+dc (aE.take v)+AI K d.op d.bM B) g)/\bw r<=bw (d.bH.take D)*bw (d.bH.take D)) ⟨bj,[],gk,rfl,aJ,aJ⟩ ?_;rintro D ks ac I2 μ2 hj ⟨aa,r,W,bx,aA,a5⟩ bd;have ai:=x1.trans (aq.trans aa);have bX:=aa.size;have bH:=W.bn;have N:∀g∈[y.size,j.size,I.size],g<ac.size:=O V;refine dit (λh2=>?_) λh2=>?_
   .let⟨g,m⟩:=cq d.bH D;let⟨tb,aV,f0,f1⟩:=ab.aQ m;have a6:=uo m;have aN:=tR m;refine⟨V,V,_,ai.af f0,_,ai.af f1,?_⟩;refine(ih d (av X) g (av m) ([ks.aC,w.aC,l.size]++j.size::s) ac (L V bS) tb _ (aV.le ai.le) (Q.bH D g m) V).aK (J.aH ac) N λss b' a8 aT ax ao _=>⟨_,_,rfl,?_⟩;refine GB.kj (c:=b') (W.ext qO.mono ao) ((aa.trans ao).fz []) aT V λa0 M' g2 f2 z2 q2=>⟨J.nP ((aa.trans ao).aR _) f2.ext (λe f=>oh (O (q:=p) V e f)),bd V _ _ ⟨f2.ext,_,g2,bS,λB b2 H=>?_,?_⟩⟩
    .rcases aX B r.length with aj|aj
     .rw[ay aj]at H;exact aA B b2 H
     .rw[aI aj]at H;have:B -r.length=0:=by have:=az H;simp at this;omega
      rw[this]at H;simp at H;subst H;have:B=D:=V;subst this;exact ax.1
    .rw[nY,tQ,yH,aN];have h3:=HO (bw (d.bH.take D)) g.w;have:=ax.2;omega
   .have a6:r.length=d.bH.length:=V;rw[cG V]at a5;refine(bP ([w.aC,l.size]++j.size::s) (ha.ext ai) V).aK (J.aH ac) N λs' l' bc ga i H _=>⟨_,rfl,aM (H.same _ (N _ aJ)) _,aM (H.same _ (N _ aJ)) _,aM (H.same _ (N _ aJ)) _,?_⟩;subst i;intro bN;have aj:=aa.trans H;have bY:=H.size;have ao:∀e∈[w.aC,l.size]++j.size::s,e<p.size:=L V bS;have a8:w.aC≠l.size:=V;refine GS.kj (x:=⟨d.op,d.bM,d.bY,d.args,r⟩) (aY.ext fQ.mono aj) ((aq.trans aj).fz []) (ga.done (λe f=>oh (ao e f)) V) (mU.le (H.cR _) (W.done qO.mono ao bo (by show r.length<=_;omega))) bS λaN bO a0 aV bl ax=>⟨λe f=>?_,aL V _ _ _ ⟨_,[],P+2*t.length+d.w,aV.ext,a0,?_,((C.wl.append (by rw[C.Xl];exact an)).zg (Q.Pb id Q.dV.bY Q.dV.Zi a6 aA|>λh=>by rw[cJ,C.Xl,ag,jo];exact h)),?_,?_,bS,λ_ h=>by simp at h,λaf⟨_,h,_⟩=>by simp at h,?_⟩⟩
    .have h3:=N e f;rw[ax e V (by simp at f;omega),(J.push bc _).same e V]
    · -- the new run is empty
     have i:=gn.ext fQ.mono aj;let⟨p0,aT,p1,p2⟩:=i;refine⟨p0,aT,p1.congr (ax _ (by have:=aj.size;show l.size<_;omega) (kE a8)),p2.len,p2.size,λB cs ak _ o=>by simp at o⟩
    .rw[cJ,cJ,C.Xl,ag,jW,sA];have i:dn (⟨d.op,d.bM,d.bY,d.args,r⟩:cF)=dn d:=rfl;omega
    .rw[dv,dv,lZ,uE];have h3:=HO P (2*t.length);have h4:=HO (P+2*t.length) d.w;have h5:(⟨d.op,d.bM,d.bY,d.args,r⟩:cF).w=1+d.args.length+bw r:=cF.k8 _;have o:=HO (1+d.args.length) (bw d.bH);have h7:1+d.args.length<=(1+d.args.length)*(1+d.args.length):=Nat.le_mul_of_pos_left _ V;rw[<-ba]at o;omega
    .rcases bl.2 with i|i
     .show aN.aC≠l.size;omega
     .show aN.aC≠l.size;omega
 .have al:v=aE.length:=V;subst al;rw[gY]at au;have hd:dc (aE.take aE.length)=dc aE:=by rw[gY]
  have i:∀g∈[j.size,I.size],g<y.size:=λg m=>U.lt (hl g m);refine(xr (b:=[G.aC,z.aC]++j.size::s) (L (ad _) bS) (aC (J.aH _)) C.lj V).aK (J.aH y) i λO l F r A d _=>⟨_,rfl,aM (d.same _ (i _ aJ)) _,?_⟩;let⟨an,ag,bi⟩:=Pq (f:=K) (c:=c) A C.Xs;have D:=fw l;have a3:(2*t.length)*(2*t.length)<=160000000000:=bJ (Pw (b:=400000) V) bo;have Q:=d.size;refine GS.all (C.gs.ext fQ.mono d) ((U.trans d).fz []) (r.done fQ.mono (L (u:=[G.aC,z.aC]) (ad _) bS) bo V) V λB H w p W o=>⟨λe f=>o e (d.lt (i e f)) (oh (hl e f)),aM (o _ (d.lt (i _ aJ)) V) _,?_⟩;intro N;refine⟨B,.mk (Z++l) bg,rfl,eG.le (cp aJ λe f=>ah _ f) ((w.re fQ.mono (S':=j.size::s) (Y:=[]) (Fz.aH _ _) aJ aJ (λe f=>Or.inl (ah _ f))).done fQ.mono aw bo bS),⟨WB.of (C.wl.append (by rw[C.Xl];exact an)) ?_,?_⟩,(x1.trans p.ext).aj V _ _⟩
  .rw[cJ,C.Xl,ag,hd];exact aK.2
  .rw[Bk.pY,dv];have h3:=HO P (2*t.length);have h4:=Pw au;have h5:=HO 1 (sw aE);omega
end
section
variable{e:List Nat}{c:E}{d f:O}{g:List eQ}{W:Nat}
def Hc(H:∀a∈e,a<c.size){k:List bq}(r:dY c d f k g)(hW:W<=400000)(hk:uK k g True W):qP 174 [.agg #[O.v d,O.v f]] c e k λx=>uK k x True (W*W):=by
 apply zn;simp -zeta only[aG,aF];intro h a2;let⟨A,v⟩:=dk (a:=h) (c:=a2) rfl rfl;have s1:h.size=c.size+1:=by simp[h]
 clear_value a2;have aj:=r.iB.len;have aq:=r.nv;refine(fD (b:=h.size::e) (bR H A.size (v _ aJ)) (r.le A.le).bu r.types).mono λ_ P⟨ac,o,ae,B⟩=>?_;subst o;refine⟨B.de v,_,rfl,?_⟩;intro Q am ab;have u2:=A.trans B;let⟨x5,B0,g0,s3,s5⟩:=kC (b:=Q.size::h.size::e) iv.mono (d:=P) (a:=Q) (c:=am) (h:=ab) rfl rfl rfl;clear_value ab;have w:∀a∈[h.size,c.size],a<P.size:=λa j=>B.lt (v a j);have I:∀a∈h.size::e,a<P.size:=λa j=>B.lt (bR H A.size (v _ aJ) a j);refine ka (R:=λb i M=>∃d f x,Value.agg #[O.v b,O.v i]=.agg #[O.v d,O.v f]/\dY (bI e M) d f k x/\uK k x True (W*W)/\J c M) (t:=g.length) (f:=c) (b:=e) iv.mono bo bo H ⟨V,w _ aJ⟩ u2 s3 ae aj V x5 B0 g0 (λL b=>(pc g)[L]? =some b.params.length/\b.params.length<=3/\b.dg.length<=3/\WB k (pc g) True b.params.length b.body/\b.body.w<=W*W) (λi u N y Z h2 p s t=>⟨i,u,N,rfl,⟨Z,h2,r.types,V⟩,GM hk.gR p s,t⟩) λL M st N ao μ ag ap C Y D an=>?_
 let⟨b,K⟩:=cq g L ag;let⟨ai,ah,al,hw⟩:=hk.df b (av K);have z:=u2.trans C;let⟨ar,au,i,c1,c2,c3,T,U,X,E,F⟩:=r.iB.aQ K;have G:∀{y:Value}{i s:Nat},af c i s=some y->af M i s=some y:=λu=>z.af u;refine⟨st,D.cK 1,V,V,_,G T,_,G U,_,G X,_,G E,_,G F,V,V,_,G E,_,G F,?_⟩;have hy:=Y.bn;have ad:=D.lt;have zM:=C.size;refine(Dp b.body (st.aC::Q.size::h.size::e) M (λa j=>?_) i b.params.length (c3.le z.le) al V).aK C w λss b' M1 ak aa p u1=>⟨_,_,rfl,?_⟩
 .simp only[aW]at j;rcases j with o|o|o|o
  .omega
  .omega
  .have:=I a (by simp[o]);omega
  .have:=I a (by simp[o]);omega
 have t:∀{y:Value}{i s:Nat},af c i s=some y->af M1 i s=af M i s:=λu=>by rw[p.af (G u),G u]
 refine⟨t T,t U,t X,t E,t F,aM (p.same _ (C.lt (w _ aJ))) _,aM (p.same _ ad) _,?_⟩;exact ve (b:=h.size::e) (v:=ac) (x:=N) I (λa j=>by have Z:=w a j;have h2:=u1.size;omega) u1 (Y.ext iv.mono p) (D.ext p) V (c1.ext (z.trans p)) (c2.ext (z.trans p)) ak ⟨V,V⟩ V λs' M' g' Z x'=>an s' M' _ g' Z x' ⟨Io (q:=b) K,ai,ah,aa.1,bJ aa.2 (Pw hw)⟩
def Xz(b:Bk):Prop:=∀(e:List Nat)(c:E),(∀a∈e,a<c.size)->∀t:O,eG c t b.aE->b.w<=10^12->mO 280 [.agg #[O.v t,vi b.aT]] c e (b=·)
def xk(H:∀i∈e,i<c.size){z B:O}{x:cF}(I:au c z x.args)(u:mU c B x.bH)(hw:x.w<=10^12)(P:∀h∈x.bH,Xz h):JJ 287 [oC x z B] c e (x=·):=by
 apply Bt;simp -zeta only[aG,aF];intro d a y;let⟨D,v⟩:=dk (a:=d) (c:=a) rfl rfl;have R:d.size=c.size+1:=by simp[d]
 have s1:a.size=c.size+2:=by simp[a,R]
 have S:J a y:=J.push _ _;have F:GB (d.size::e) a y (.mk a.size 0 0 0) []:=GB.new _ a;clear_value y;clear_value a;have r:∀i∈d.size::e,i<a.size:=bR H D.size (v _ aJ);have K:=u.len;have aa:=cF.k8 x;have Y:=pK x.bH;refine dE (n:=x.bH.length) (K▸u.fA) (λw s M=>J a M/\GB (d.size::e) a M s (x.bH.take w)) ⟨S,F⟩ ?_;rintro w s p U μ hj ⟨m,o⟩ Q
 have l:=D.trans m;have k:∀h∈[d.size,c.size],h<p.size:=λh j=>m.lt (v h j);have N:=o.bn;have T:=m.size;refine dit (λG=>?_) λG=>?_
 .let⟨h,j⟩:=cq x.bH w;let⟨tb,M,A,E⟩:=u.aQ j;have Z:=uo j;refine⟨V,V,_,l.af A,_,l.af E,?_⟩;refine(P h (av j) (s.aC::d.size::e) p (bR r T N.2) tb (M.le l.le) V).aK (J.aH p) k λss X C L q g _=>⟨_,_,rfl,?_⟩;subst q;refine GB.kj (c:=h) (o.ext qO.mono g) ((m.trans g).fz []) L bS λf W g2 t z2 q2=>⟨J.nP ((m.trans g).aR _) t.ext v,Q V _ _ ⟨t.ext,?_⟩⟩;rw[bF j];exact g2
 .rw[cG V]at o;refine(bP (d.size::e) (I.ext l) V).aK (J.aH p) k λM W C E q g _=>⟨_,rfl,aM (g.same _ (k _ aJ)) _,aM (g.same _ (k _ aJ)) _,aM (g.same _ (k _ aJ)) _,?_⟩;subst q;intro L;have A:Le (bI (d.size::e) C) (bI e L):=cp aJ λi t=>ah _ t;exact⟨M,s,x,rfl,(E.done (λi t=>oh (r i t)) V).le A,mU.le A ((o.ext qO.mono g).done qO.mono r bo V),rfl,(l.trans g).aj V _ _⟩
def vo:∀j:Bk,Xz j:=by
 refine Bk.ind ?_;intro aE h ih e c W al z hw;rw[Bk.pY]at hw;simp only[Bk.jG,Bk.iZ]at*;apply qI;simp -zeta only[aG,aF];intro f b d C q;let⟨I,y⟩:=dk (a:=f) (c:=b) rfl rfl;have s0:f.size=c.size+1:=by simp[f]
 have s1:b.size=c.size+2:=by simp[b,s0]
 have s2:d.size=b.size+1:=by simp[d]
 have s3:C.size=d.size+1:=by simp[C]
 have K:J d q:=(J.push d _).aj (ad _) _ _;have ag:J b q:=(J.push b _).trans K;have x:GS (d.size::f.size::e) b q (.mk b.size 0 0 0) []:=(GS.new _ b).ext fQ.mono K;have N:cB q d.size cZ [.s (.mk b.size 0 0 0),.i h]:=cB.aj (m:=C) (o:=0) (r:=[.s (.mk b.size 0 0 0),.i h]) (cB.push d _ _);clear_value q;have F:∀u∈f.size::e,u<b.size:=bR W I.size (y _ aJ);have ae:=z.len;have aj:=fw aE;refine eu (n:=aE.length) (ae▸z.fA) (λA M=>J b M/\∃s,GS (d.size::f.size::e) b M s (aE.take A)/\cB M d.size cZ [.s s,.i h]) ⟨ag,_,x,N⟩ ?_;rintro A D ai μ hk ⟨w,s,l,B⟩ af
 have g:=I.trans w;have ac:∀j∈[f.size,c.size],j<D.size:=λj Y=>w.lt (y j Y);have hy:=l.bn;have z5:=w.size;have E:=B.lt;refine dit (λU=>?_) λU=>?_
 .let⟨H,v⟩:=cq aE A;let⟨pa,pk,X,ab,x,g1,g2,R,T⟩:=z.aQ v;have ak:=Oe v;refine⟨s,B.cK 0,V,V,_,g.af x,_,g.af g1,_,g.af g2,_,g.af R,_,g.af T,?_⟩;refine(xk (e:=s.aC::d.size::f.size::e) (bR (bR F z5 E) (ad _) hy.2) (X.ext g) (ab.le g.le) V (ih H (av v))).aK (J.aH D) ac λM O x' G Z aa k t _=>⟨_,_,_,_,_,rfl,aM (t.same _ E) _,?_⟩;subst k;intro m7;refine Gr.box (g:=[.i 0,.i 0,.i 0,.s .nil,.s .nil]) (j:=0) (i:=[.s s,.i h]) (w:=H) fQ.mono bo (l.ext fQ.mono t) ((w.trans t).fz []) ⟨M,O,rfl,Z,aa⟩ bS (B.ext t) aJ bo ⟨V,aJ⟩ (λu p=>by have L:=y u p;have P:=t.size;omega) λr' m' Q L P z' q'=>af V _ ⟨P.ext,r',?_,L⟩
  rw[bF v];exact Q
 .rw[cG V]at l;refine⟨s,B.cK 0,h,B.cK 1,?_⟩;intro G;have v:=l.ne B bo;have t:Le (bI (d.size::f.size::e) D) (bI e G):=cp aJ λu p=>ah _ (ah _ p);refine⟨s,.mk aE h,rfl,eG.le t (l.mZ fQ.mono (λp=>?_) bo (by show aE.length<=_;omega)),rfl,g.aj V _ _⟩;rcases List.mem_cons.1 p with k|k
  .exact v k
  .have:=F _ k;omega
def Zr(b:Bk):Prop:=∀(c:E)(t:O)(f:Int),eG c t b.aE->nW 288 [.agg #[O.v t,vi b.aT],vi f] c
def IP:∀b:Bk,Zr b:=by
 refine Bk.ind ?_;intro aE Y G c t s m;simp only[Bk.jG,Bk.iZ]at*;apply Bp;simp -zeta only[aG,aF];intro g;have A:J c g:=J.push _ _;have D:∀b∈[c.size],b<g.size:=by simp[g]
 clear_value g;have F:=m.len;refine eu (n:=aE.length) (F▸m.fA) (λ_ M=>J g M) (J.aH _) ?_;rintro k o I μ X r N
 have h:=A.trans r;refine⟨λj=>?_,λ_=>rA h⟩;simp only[aq]at j;let⟨x,v⟩:=cq aE k;let⟨pa,w,U,l,B,g1,g2,T,u⟩:=m.aQ v;have C:=l.len;have L:∃(i:Int->E->Prop)(μ0_1:Int->E->Nat),i (0:Int) o/\(∀(a:Int)(M:E),i a M->
  (0:Int)<=(k:Int)/\(k:Int)<(t.len:Int)/\∃q:O,af M t.aC (t.off+Int.toNat (k:Int)*5+4)=some (O.v q)/\
  ((decide (a<(q.len:Int)))=true->(0:Int)<=(k:Int)/\(k:Int)<(t.len:Int)/\∃d:O,af M t.aC (t.off+Int.toNat (k:Int)*5+4)=some (O.v d)/\
   (0:Int)<=a/\a<(d.len:Int)/\∃y:O,af M d.aC (d.off+Int.toNat a*2)=some (O.v y)/\∃z:Int,af M d.aC (d.off+Int.toNat a*2+1)=some (vi z)/\
   aP cv 288 [.agg #[O.v y,vi z],vi s] M λf e=>eF [c.size] M e/\∃p:Bool,f=vb p/\(p=true->∃b:Bool,vb true=.bool b/\J c e)/\(p=false->i (cQ (a+(1:Int))) e/\μ0_1 (cQ (a+(1:Int))) e<μ0_1 a M))/\
  ((decide (a<(q.len:Int)))=false->I (cQ ((k:Int)+(1:Int))) M/\μ (cQ ((k:Int)+(1:Int))) M<μ k o)):=by
  refine eu (n:=x.bH.length) (C▸l.fA) (λ_ M=>J o M) (J.aH _) ?_
  rintro H M R μ2 W d K
  have a:=h.trans d
  refine⟨V,V,w,a.af u,λj=>?_,λ_=>N V _ (r.trans d)⟩
  simp only[aq]at j
  let⟨b,p⟩:=cq x.bH H
  let⟨tb,z,q,y⟩:=l.aQ p
  refine⟨V,V,w,a.af u,V,V,_,a.af q,_,a.af y,?_⟩
  exact(G x (av v) b (av p) M tb s (z.le a.le)).aK (r.trans d) D λS e Q P=>⟨_,rfl,λ_=>rA (A.trans P),λ_=>K V _ (d.trans Q)⟩
 exact⟨V,V,_,h.af B,λ_=>⟨V,V,_,h.af g1,λ_=>rA h,λ_=>L⟩,λ_=>L⟩
def IZ{o:List bq}(h:dY c d f o g)(i:Int):nW 281 [.agg #[O.v d,O.v f],vi i] c:=by
 apply BH;simp -zeta only[aG,aF];intro a;have k:J c a:=J.push _ _;have s:∀e∈[c.size],e<a.size:=by simp[a]
 clear_value a;have H:=h.iB.len;have G:=h.nv;refine eu (n:=g.length) V (λ_ M=>J a M) (J.aH _) ?_;rintro u v I μ F l w
 have b:=k.trans l;refine⟨λr=>?_,λ_=>rA b⟩;simp only[aq]at r;let⟨x,t⟩:=cq g u;let⟨K,L,e,A,B,m,C,D,E,p,q⟩:=h.iB.aQ t;exact⟨V,V,_,b.af p,_,b.af q,(IP x.body v e i (m.le b.le)).aK l s λz y M j=>⟨_,rfl,λ_=>rA (k.trans j),λ_=>w V _ j⟩⟩
abbrev Zb(e:List Nat)(a c:E)(s:O)(l:List (List Int)):Prop:=Gr e a c qy 1 mg s l
def Fe(Z:∀a∈e,a<c.size){R:List bq}(o:dY c d f R g)(hp:∀y∈g,y.params.length<=3):
 aP cv 261 [.agg #[O.v d,O.v f]] c λae G=>∃s l,ae=O.v s/\oD (bI e G) s l/\l.length=g.length/\(∀a∈l,a.length<=3)/\J c G:=by
 apply xP
 simp -zeta only[aG,aF]
 intro b x
 have N:J c b:=J.push _ _
 have v:∀z∈[c.size],z<b.size:=by simp[b]
 have af:J b x:=J.push _ _
 have W:Zb e b x (.mk b.size 0 0 0) []:=Gr.new e (ad _) _ _ _
 clear_value x
 clear_value b
 have aj:=o.iB.len;have ai:=o.nv
 have C:∀a∈e,a<b.size:=λa u=>N.lt (Z a u)
 refine dE (n:=g.length) V (λk s M=>J b M/\∃l,Zb e b M s l/\l.length=k/\∀a∈l,a.length<=3) ⟨af,[],W,rfl,aJ⟩ ?_
 rintro k s H P μ hk ⟨r,l,t,ag,B⟩ aa
 have q:=N.trans r
 have h:=t.bn
 refine dit (λY=>?_) λY=>?_
 .let⟨y,D⟩:=cq g k
  let⟨ab,ak,z,Q,c2,c3,T,e1,e2,e3,e4⟩:=o.iB.aQ D
  have ah:=hp y (av D)
  have hO:∀(M:E)(i:O)(a:List Int),J H M->au (bI (s.aC::e) M) i a->a.length<=3->jb (M.push (.cells (bE [.s i]) qy)) qy [.s O.nil] 24 s (O.mk M.size 0 1 1) λK m=>eF [c.size] (M.push (.cells (bE [.s i]) qy)) m/\P K (cQ ((k:Int)+(1:Int))) m/\μ K (cQ ((k:Int)+(1:Int))) m<μ s k H:=λM i a w hf u=>
   Gr.kj (g:=[.s .nil]) mg.mono bo (t.ext mg.mono w) ((r.trans w).fz []) ⟨i,rfl,hf⟩ V λr' m U A _ _=>⟨J.nP ((r.trans w).aR _) A.ext v,aa V _ _ ⟨A.ext,_,U,bS,λj h=>by
    rcases List.mem_append.1 h with h|h
    .exact B j h
    .simp at h;subst h;exact u⟩⟩
  refine(IZ (o.le q.le) k).aK r v λa m4 j L=>⟨_,rfl,λ_=>?_,λ_=>⟨V,V,ab,(q.trans j).af T,?_⟩⟩
  .intro p m6
   exact hO p _ [] (j.aR _) (lU _ _ _ _ _ _) aJ
  .refine(qX (S:=[]) aJ (b:=0) ((Q.ext (q.trans j)).le (yW _)) V).aK L v λac F p X I x5 u5=>⟨_,rfl,?_⟩
   intro m6
   have hg:GI (s.aC::e) m4 p ac F:=X.any
   exact hO p _ F (j.trans x5) (hg.done (bR C L.size (oh j.size)) (oh I.2)) (oh I.2)
 .exact⟨s,l,rfl,t.done mg.mono C bo V,V,B,q⟩
def Zs(a:List bq)(g:List eQ)(b:Bk):Prop:=∀(c:E)(d f t:O)(v:Int)(h:Prop)(e:Nat),dY c d f a g->eG c t b.aE->WB a (pc g) h e b->nW 282 [.agg #[O.v d,O.v f],.agg #[O.v t,vi b.aT],vi v] c
def zq{C:List bq}:∀b:Bk,Zs C g b:=by
 refine Bk.ind ?_;intro aE ah ih c d f ai ae m ag E t Z;have aa:=Z.bC.1;simp only[Bk.jG,Bk.iZ]at*;apply ux;simp -zeta only[aG,aF];intro K v;let⟨O,W⟩:=dk (a:=K) (c:=v) rfl rfl;clear_value v;have X:=t.len;refine⟨λ_=>rA O,λ_=>?_⟩;refine eu (n:=aE.length) (X▸t.fA) (λ_ M=>J v M) (J.aH _) ?_;rintro I p af μ hk A ac
 have e:=O.trans A;refine⟨λj=>?_,λ_=>rA e⟩;simp only[aq]at j;let⟨x,u⟩:=cq aE I;let⟨pa,pk,o,r,Q,g1,g2,R,S⟩:=t.aQ u;have F:=aa I x u;have T:=o.len;have U:=r.len;refine⟨V,V,_,e.af Q,_,e.af g1,_,e.af g2,_,e.af R,_,e.af S,?_⟩;intro m3 h;have B:J p h:=(J.push p _).aj (ad _) _ _;have s4:h.size=p.size+1:=by simp[h,m3,aD]
 clear_value h;have s:∀b∈[p.size,K.size,c.size],b<h.size:=λb k=>by
  rcases List.mem_cons.1 k with D|D
  .omega
  .exact(A.trans B).lt (W b D)
 refine eu (n:=x.args.length) (T▸o.fA) (λ_ M=>J h M) (J.aH _) ?_;rintro H L I1 μ1 hj l y;have z:=(e.trans B).trans l;refine⟨λj=>?_,λ_=>?_⟩
 .simp only[aq]at j;let⟨Y,P⟩:=cq x.args H;refine⟨V,V,Y,(o.ext z).aQ P,λ_=>?_,λ_=>y V _ l⟩;refine(xh x.op L).aK l s λm w i G=>⟨_,rfl,λ_=>?_,λ_=>y V _ G⟩;have a:=z.trans i;exact(nm (⟨E.le a.le,o.ext a,F.dV.bO⟩:At w d f pa pk C g x) H).aK G s λm m7 q N=>⟨_,rfl,λ_=>rA (a.trans q),λ_=>y V _ N⟩
 .refine eu (n:=x.bH.length) (U▸r.fA) (λ_ M=>J L M) (J.aH _) ?_;rintro G w I2 μ2 hi i ab;have a:=z.trans i;refine⟨λj=>?_,λ_=>ac V _ (((A.trans B).trans l).trans i)⟩;simp only[aq]at j;let⟨b,k⟩:=cq x.bH G;let⟨tb,Y,M,P⟩:=r.aQ k;refine⟨V,V,_,a.af M,_,a.af P,?_⟩;exact(ih x (av u) b (av k) w d f tb ae m _ (E.le a.le) (Y.le a.le) (F.bH G b k)).aK (l.trans i) s λm m7 q N=>⟨_,rfl,λ_=>rA (a.trans q),λ_=>ab V _ (i.trans q)⟩
def I6(P:∀h∈e,h<c.size){A:List bq}(r:dY c d f A g){h:Prop}(Q:uK A g h W){B:Nat}{q:eQ}(s:g[B]? =some q):iU 262 [.agg #[O.v d,O.v f],vi B] c e λl=>l.length<=q.dg.length:=by
 apply BJ;simp -zeta only[aG,aF];intro a u;have y:J c a:=J.push _ _;have E:∀k∈[c.size],k<a.size:=by simp[a]
 have T:J a u:=J.push _ _;have N:GI e a u (.mk a.size 0 0 0) []:=GI.nil e a;clear_value u;clear_value a;have af:=r.iB.len;have aa:=az s;let⟨ae,ac,R,hw⟩:=Q.df q (av s);let⟨ah,w,k,X,m,I,Z,o,e2,K,L⟩:=r.iB.aQ s;have ag:=m.len;refine dE (n:=q.dg.length) V (λt v M=>J a M/\∃l,GI e a M v l/\l.length<=t) ⟨T,[],N,ad _⟩ ?_;rintro t v S U μ ab ⟨H,l,p,D⟩ G
 have b:=y.trans H;refine⟨V,V,w,b.af o,λi=>?_,λi=>⟨v,l,rfl,p.cL (λ_ i=>i) y.size,V,b⟩⟩;simp only[aq]at i;let⟨z,F⟩:=cq q.dg t;refine⟨V,V,_,b.af K,_,b.af L,V,V,w,b.af o,V,V,z,(m.ext b).aQ F,?_⟩;refine(zq q.body S d f k z h _ (r.le b.le) (I.le b.le) R).aK H E λY m4 j x=>⟨_,rfl,λ_=>⟨V,V,w,(b.trans j).af o,V,V,z,(m.ext (b.trans j)).aQ F,?_⟩,λ_=>G V _ _ ⟨x,l,p.ext j,V⟩⟩;intro m5;exact GI.kj (p.ext j) (x.fz []) (λh D=>y.lt (P h D)) V λf m6 M C _ _=>⟨J.nP (x.aR _) C.ext E,G V _ _ ⟨C.ext,_,M,bS⟩⟩
end
end Go.Proofs.YtdalfjkmdekijaaGreat
