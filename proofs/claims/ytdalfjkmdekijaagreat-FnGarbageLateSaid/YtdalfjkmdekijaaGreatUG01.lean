/- Part of a proof. -/
import Derived.Test.YtdalfjkmdekijaaGreatUG00
set_option linter.all false
set_option maxHeartbeats 8000000
set_option maxRecDepth 100000
namespace Go.Proofs.YtdalfjkmdekijaaGreat
open Go.Vc
section
open Tryz
variable{m:E}{R:Value->E->Prop}
variable{a b c d e f g h p q r u v w x y:O}{i j k l n o s t z A B C D F G H:Int}
def BU(i:Int):=cV m R ⟨[(3,[(4,.I)]),(7,[(6,.I)])],[],[(3,[61]),(7,[65,61])]⟩ [.agg [i,j,k,l,a,b,c]] func93
def FI(a:O):=cV m R ⟨[(13,[(6,.S),(7,.I)])],[],[(13,[57])]⟩ [a,i] func94
def HV(a:O):=cV m R ⟨[(3,[(5,.S),(6,.I)])],[],[]⟩ [a,b] func95
def Jr(i:Int):=cV m R A0 [i] func96
def FV(i:Int):=cV m R ⟨[(4,[(3,.S),(4,.I)])],[],[(4,[30])]⟩ [.agg [i,j,k,l,a,b]] func97
def yN(a:O):=cV m R ⟨[(4,[(39,.I)]),(9,[(64,.I)])],[],[(9,[108])]⟩ [a,b] func98
def nL(p q:Nat×Nat):=cV m R A0 [i,p,q] func99
def nM(p:Nat×Nat):=cV m R A0 [i,p] func100
def pR(b c:O)(d e f g:Int)(h i:O)(a:Fn×Array Value×Array Value):=cV m R A0 [.agg [b,c],.agg [d,e,f,g,h,i],.c (.fv a)] func101
def qZ(a:O):=cV m R A0 [.agg [a,b],.agg [i,j,k,l,c,d]] func102
def yK(a:O):=cV m R ⟨[(6,[(48,.I)])],[(5,[])],[(5,[69]),(6,[69])]⟩ [a,.agg [i,j,b]] func103
def pX(s:O)(f:Fn×Array Value×Array Value):=cV m R ⟨[(2,[(8,.I)])],[],[]⟩ [s,.c (.fv f)] func104
def tv(p:Nat×Nat):=cV m R ⟨[(17,[(16,.S),(17,.S),(18,.I)]),(22,[(20,.I)]),(33,[(23,.I)])],[],[(17,[215,214]),(22,[215,214]),(33,[215,214])]⟩ [p,.agg [a,b],.agg [i,j,k,c,d],e,f] func105
def tY(a:O):=cV m R A0 [a,b] func106
def BD(a:O):=cV m R ⟨[(3,[(5,.S),(6,.I)])],[],[]⟩ [a,i] func107
def qM(a:O):=cV m R A0 [a,i] func108
def Du(i:Int):=cV m R A0 [i] func109
def FW(a:O):=cV m R A0 [.agg [a,i],j] func110
end
section
open Tryz
variable{m:E}{R:Value->E->Prop}
variable{a b c d e f g h p q r u v w x y:O}{i j k l n o s t z A B C D F G H:Int}
def xL(a:O):=cV m R ⟨[(5,[(11,.S),(12,.S),(13,.S),(14,.I)]),(17,[(13,.S),(20,.I)])],[],[(5,[159,156,154]),(17,[164,159,156,154])]⟩ [.agg [a,b],c,.agg [d,i],e,f] func111
def zw(i:Int):=cV m R ⟨[(3,[(5,.S),(6,.I)])],[],[]⟩ [i,a] func112
def tw(p:Nat×Nat):=cV m R ⟨[(13,[(11,.S),(13,.I)]),(22,[(15,.S),(16,.I)])],[(18,[(14,.I)])],[(13,[154,153]),(18,[154,153]),(22,[154,153])]⟩ [p,.agg [a,b],.agg [i,j,c],d] func113
def KT(a:O):=cV m R A0 [a] func114
def DJ(a:O):=cV m R ⟨[(2,[(5,.I)])],[],[]⟩ [a,i] func115
def Dz(i:Int):=cV m R A0 [i] func116
def BO(p:Nat×Nat):=cV m R ⟨[],[(5,[])],[(5,[31,30])]⟩ [p,.agg [a,b]] func117
def BQ(p:Nat×Nat):=cV m R ⟨[(6,[(12,.S),(13,.I)])],[(19,[]),(22,[])],[(6,[144,141]),(19,[151,150,144,141]),(22,[150,144,141])]⟩ [p,.agg [a,b],i,j] func118
def BR(p:Nat×Nat):=aah m R ⟨[(6,[(9,.S),(10,.S),(11,.I)])],[(13,[(14,.P)]),(15,[])],[(6,[102,100]),(13,[109,108,102,100]),(15,[109,108,102,100])]⟩ [p,.agg [a,b],i] func119
def Bw(p:Nat×Nat):=cV m R ⟨[(4,[(8,.S),(9,.I)])],[(10,[])],[(4,[81,79]),(10,[81,79])]⟩ [p,.agg [a,b],i] func120
def Dv(p:Nat×Nat):=cV m R ⟨[(2,[(4,.I)])],[],[(2,[44,40])]⟩ [p,.agg [a,b],c,i,j] func121
def DG(i:Int):=cV m R A0 [.agg [i,j,a]] func122
def Dx(a:O):=cV m R A0 [.agg [a,b],i,j,c,d] func123
def vy(p:Nat×Nat):=cV m R A0 [p] func124
def Bq(a:O):=cV m R ⟨[(3,[(3,.S),(4,.I)])],[],[]⟩ [a] func125
def vh(p:Nat×Nat):=cV m R ⟨[],[(4,[]),(6,[]),(9,[]),(11,[])],[(4,[37]),(6,[37]),(9,[37]),(11,[37])]⟩ [p] func126
def Ag(a:O):=cV m R ⟨[(3,[(4,.I)])],[],[(3,[45,44])]⟩ [.agg [a,b]] func127
def zm(a:O):=cV m R ⟨[(3,[(4,.I)]),(8,[(6,.S),(7,.I)])],[],[(3,[62,61]),(8,[65,62,61])]⟩ [.agg [a,b]] func128
end
section
open Tryz
variable{m:E}{R:Value->E->Prop}
variable{a b c d e f g h p q r u v w x y:O}{i j k l n o s t z A B C D F G H:Int}
def zf(p:Nat×Nat):=cV m R A0 [p,.agg [i,j,k,l,a,b]] func129
def Bg(p:Nat×Nat):=cV m R A0 [p] func130
def xZ(p:Nat×Nat):=cV m R A0 [p,.agg [i,j,k,l,a,b]] func131
def ym(a:O):=cV m R ⟨[(4,[(3,.I)])],[],[]⟩ [a] func132
def Bf(a:O):=cV m R ⟨[(2,[(5,.I)])],[],[]⟩ [a,b] func133
def Am(a:O):=cV m R ⟨[(2,[(5,.I)])],[],[]⟩ [a,b] func134
def yh(a:O):=cV m R ⟨[(4,[(9,.I)])],[(10,[])],[(4,[241,238,237]),(10,[241,238,237])]⟩ [.agg [a,b],.agg [c,d,i,j,e],k] func135
def Dl(a:O):=cV m R ⟨[(2,[(3,.I)])],[],[]⟩ [a] func136
def FE(a:O):=cV m R A0 [a,i] func137
def zd(a:O):=cV m R ⟨[(2,[(5,.I)])],[],[]⟩ [a,b] func138
def Fx(a:O):=cV m R ⟨[(4,[(5,.S),(6,.T),(7,.I)])],[],[]⟩ [a,i] func139
def xC(a:O):=cV m R ⟨[(4,[(14,.I)]),(9,[(56,.I)]),(15,[(76,.I)])],[(8,[])],[(8,[110]),(9,[110]),(15,[110])]⟩ [a] func140
def AY(a:O):=cV m R ⟨[(2,[(9,.I)])],[],[]⟩ [a,b] func141
def EL(a:O):=cV m R A0 [a,i] func142
def AZ(a:O):=cV m R ⟨[(3,[(3,.I),(8,.I)])],[],[]⟩ [a] func143
def EI(a:O):=cV m R ⟨[(6,[(6,.S),(28,.I)])],[],[]⟩ [a,i] func144
def A2(a:O):=cV m R A0 [a,i] func145
def yO(a:O):=cV m R A0 [a,i] func146
end
section
open Tryz
variable{m:E}{R:Value->E->Prop}
variable{a b c d e f g h p q r u v w x y:O}{i j k l n o s t z A B C D F G H:Int}
def wm(p:Nat×Nat):=cV m R A0 [p,i] func147
def tV(a:O):=cV m R ⟨[(5,[(5,.S),(6,.I)])],[],[]⟩ [a,i] func148
def yp(a:O):=cV m R A0 [a,i,j] func149
def Dr(a:O):=cV m R ⟨[(2,[(5,.I)])],[],[]⟩ [a,i] func150
def Bz(a:O):=cV m R ⟨[(3,[(5,.I),(6,.I)])],[],[]⟩ [a,i] func151
def Di(a:O):=cV m R ⟨[(2,[(3,.S),(9,.I)])],[],[(2,[44])]⟩ [.agg [a,i],j,k,b] func152
def Cf(a:O):=cV m R ⟨[],[(3,[]),(30,[(151,.T)])],[(3,[188,186]),(30,[188,186])]⟩ [.agg [a,b],c,.agg [i,j,k,d,e]] func153
def xN(a:O):=cV m R ⟨[(3,[(11,.S),(12,.I)])],[],[(3,[50,48])]⟩ [.agg [a,b],c,.agg [i,j,k,d,e],f,g] func154
def zq(a:O):=cV m R ⟨[(4,[(11,.S),(13,.I)])],[],[(4,[72,69,67])]⟩ [.agg [a,b],c,.agg [i,j,k,d,e],f,g] func155
def zO(a:O):=cV m R ⟨[(5,[(11,.S),(12,.I)])],[],[(5,[62,60])]⟩ [.agg [a,b],c,.agg [i,j,k,d,e],f,g] func156
def zP(a:O):=cV m R ⟨[(3,[(9,.S),(10,.I)])],[],[(3,[55,54])]⟩ [.agg [a,b],.agg [i,j,k,c,d],e,f] func157
def Bv(i:Int):=cV m R A0 [i,j] func158
def vx(p:Nat×Nat):=cV m R A0 [p,.agg [i,j,k,a,b]] func159
def La(p:Nat×Nat):=cV m R A0 [p,.agg [a,b],c,i,j] func160
def Jj(i:Int):=cV m R A0 [i,j,a] func161
def DF(p:Nat×Nat):=cV m R ⟨[(8,[(9,.I)])],[(5,[(7,.P)])],[(5,[51,50,49]),(8,[50,49])]⟩ [p,i] func162
def Ci(i:Int):=cV m R A0 [i] func163
def Jf(p:Nat×Nat):=cV m R A0 [p,.agg [a,b],c,i] func164
end
section
open Tryz
variable{m:E}{R:Value->E->Prop}
variable{a b c d e f g h p q r u v w x y:O}{i j k l n o s t z A B C D F G H:Int}
def zT(i:Int):=cV m R ⟨[(5,[(1,.I),(5,.I)])],[],[(5,[29])]⟩ [.agg [i,j,a],k] func165
def HW(i:Int):=cV m R A0 [i] func166
def FA(i:Int):=cV m R A0 [i] func167
def BT(i:Int):=cV m R ⟨[(3,[(6,.I)])],[],[(3,[42])]⟩ [.agg [i,j,k,a,b,c],d] func168
def DR(a:O):=cV m R ⟨[(4,[(5,.S),(6,.I)])],[(3,[(30,.T)])],[(3,[70,69]),(4,[70,69])]⟩ [.agg [a,b],.agg [i,j,k,l,c,d]] func169
def tz(p:Nat×Nat):=cV m R ⟨[],[(3,[])],[(3,[226,225])]⟩ [p,.agg [i,j,k,a,b,c],.agg [l,n,o,s,d,e],f] func170
def sS(p:Nat×Nat):=cV m R A0 [p,.agg [i,j,k,a,b,c],.agg [l,n,o,s,d,e]] func171
def wj(p:Nat×Nat):=cV m R A0 [p] func172
def I8(p:Nat×Nat):=cV m R ⟨[(9,[(10,.S),(11,.I)])],[],[(9,[108,106,105])]⟩ [p,.agg [a,b]] func173
def zi(a:O):=cV m R ⟨[(3,[(4,.I)])],[],[(3,[38,37])]⟩ [.agg [a,b]] func174
def wH(a:O):=cV m R ⟨[(3,[(4,.I)])],[],[(3,[40,39])]⟩ [.agg [a,b]] func175
def FO(a:O):=cV m R ⟨[(3,[(4,.I)])],[],[(3,[40,39])]⟩ [.agg [a,b]] func176
def Ch(a:O):=cV m R ⟨[(3,[(3,.S),(4,.I)])],[],[]⟩ [a] func177
def qO(i:Int):=cV m R A0 [.agg [i,j,k,l,a,b]] func178
def Aj(a:O):=cV m R ⟨[(6,[(6,.I)]),(12,[(7,.I)])],[],[(6,[105]),(12,[105])]⟩ [a,i] func179
def BV(a:O):=cV m R A0 [.agg [a,b],i,j,k] func180
def yi(a:O):=cV m R ⟨[(4,[(9,.I)])],[],[]⟩ [a,i,j,k] func181
def GJ(a:O):=cV m R ⟨[(2,[(1,.I),(10,.I)])],[],[(2,[43])]⟩ [a,i] func182
end
section
open Tryz
variable{m:E}{R:Value->E->Prop}
variable{a b c d e f g h p q r u v w x y:O}{i j k l n o s t z A B C D F G H:Int}
def wh(i:Int):=cV m R ⟨[(4,[(2,.S),(7,.I)]),(9,[(2,.S),(8,.I)])],[],[(4,[61]),(9,[61])]⟩ [.agg [i,j,k,a,b],l,c] func183
def Fw(i:Int):=cV m R A0 [i] func184
def Al(a:O):=cV m R A0 [a,.agg [i,j,k,b,c]] func185
def HU(a:O):=cV m R ⟨[(4,[(7,.I)])],[],[]⟩ [a,b,c] func186
def BJ(a:O):=cV m R ⟨[(9,[(9,.I),(10,.I)])],[(5,[(8,.I)])],[(5,[76,74]),(9,[76,74])]⟩ [.agg [a,b],c,.agg [i,j,k,d,e]] func187
def wF(a:O):=cV m R A0 [.agg [a,b],c,.agg [i,j,k,d,e]] func188
def DA(a:O):=cV m R A0 [a,i] func189
def vo(a:O):=cV m R A0 [.agg [a,b],c,.agg [i,j,k,d,e]] func190
def xO(a:O):=cV m R A0 [.agg [a,b],c,.agg [i,j,k,d,e],l] func191
def DB(a:O):=cV m R A0 [.agg [a,b],.agg [i,j,k,c,d],l,e,f] func192
def Bt(a:O):=cV m R ⟨[(7,[(16,.S),(17,.S),(18,.I)]),(14,[(19,.S),(20,.I)])],[],[(7,[127,124,121]),(14,[127,124,121])]⟩ [.agg [a,b],c,d,.agg [e,i],f,g] func193
def Fm(a:O):=cV m R ⟨[(3,[(5,.S),(6,.I)])],[],[]⟩ [a,b] func194
def FF(a:O):=cV m R A0 [.agg [a,b],.agg [i,j,k,c,d],l] func195
def Dm(p:Nat×Nat):=cV m R A0 [p,.agg [a,b],c] func196
def Fv(p:Nat×Nat):=cV m R ⟨[(3,[(11,.S),(12,.I)])],[],[(3,[42])]⟩ [p,.agg [a,b],c,d,i] func197
def BA(p:Nat×Nat):=cV m R ⟨[(7,[(13,.S),(14,.I)])],[(4,[(11,.I)])],[(4,[79,75]),(7,[79,75])]⟩ [p,.agg [a,b],c,i,j] func198
def Bm(a:O):=cV m R ⟨[(3,[(5,.S),(6,.I)]),(7,[(7,.T),(8,.I)])],[],[(3,[59]),(7,[59])]⟩ [.agg [a,b],i] func199
def BC(p:Nat×Nat):=cV m R ⟨[(3,[(11,.I)])],[(7,[])],[(3,[130,126]),(7,[130,126])]⟩ [p,.agg [a,b],c,i,j] func200
end
section
open Tryz
variable{m:E}{R:Value->E->Prop}
variable{a b c d e f g h p q r u v w x y:O}{i j k l n o s t z A B C D F G H:Int}
def DN(p:Nat×Nat):=cV m R A0 [p] func201
def yo(a:O):=cV m R ⟨[(3,[(5,.S),(6,.I)])],[],[]⟩ [a,i] func202
def Dp(a:O):=cV m R A0 [.agg [a,b],c,i] func203
def Cc(p:Nat×Nat):=cV m R ⟨[(11,[(9,.S),(11,.I)]),(21,[(15,.S),(16,.I)])],[(6,[(8,.I)]),(8,[(8,.I)]),(17,[(80,.T)])],[(6,[124,122]),(8,[124,122]),(11,[124,122]),(17,[124,122]),(21,[124,122])]⟩ [p,.agg [a,b],i] func204
def rG(i:Int):=cV m R A0 [i] func205
def DE(a:O):=cV m R A0 [.agg [a,b],.agg [i,j,k,l,c,d],n] func206
def vA(a:O):=cV m R ⟨[(2,[(3,.I)])],[],[]⟩ [a] func207
def xH(i:Int):=cV m R ⟨[(2,[(5,.I)])],[],[(2,[26,25])]⟩ [.agg [i,j,k,a,b,c],.agg [l,n,o,s,d,e]] func208
def rU(p:Nat×Nat):=cV m R A0 [p,.agg [i,j,k,a,b,c],.agg [l,n,o,s,d,e]] func209
def rS(p:Nat×Nat):=cV m R ⟨[(2,[(7,.I)])],[],[(2,[51,50])]⟩ [p,.agg [i,j,k,a,b,c],.agg [l,n,o,s,d,e]] func210
def rT(p:Nat×Nat):=cV m R A0 [p,i] func211
def tx(p:Nat×Nat):=cV m R A0 [p,i] func212
def sR(p:Nat×Nat):=cV m R A0 [p,.agg [i,j,k,a,b,c],.agg [l,n,o,s,d,e]] func213
def tC(p:Nat×Nat):=cV m R A0 [p,i,j] func214
def Jn(i:Int):=cV m R A0 [i,j,k] func215
def rm(p:Nat×Nat):=cV m R ⟨[],[(5,[(8,.I)])],[(5,[75,74])]⟩ [p,.agg [i,j,k,a,b,c],.agg [l,n,o,s,d,e],t] func216
def Bp(a:O):=cV m R ⟨[(3,[(3,.I),(4,.I)])],[],[]⟩ [a] func217
def uz(p:Nat×Nat):=cV m R ⟨[],[(10,[(6,.I),(7,.S)])],[(10,[128,127])]⟩ [p,.agg [i,j,k,a,b,c],.agg [l,n,o,s,d,e]] func218
end
section
open Tryz
variable{m:E}{R:Value->E->Prop}
variable{a b c d e f g h p q r u v w x y:O}{i j k l n o s t z A B C D F G H:Int}
def uA(p:Nat×Nat):=cV m R A0 [p,.agg [i,j,k,a,b,c],l] func219
def uB(p:Nat×Nat):=cV m R ⟨[(1,[(4,.I)])],[],[]⟩ [p,a] func220
def om(p:Nat×Nat):=cV m R A0 [p,i] func221
def zy(a:O):=cV m R ⟨[(2,[(5,.S)])],[],[]⟩ [a,b] func222
def rV(p:Nat×Nat):=cV m R ⟨[(4,[(8,.I)])],[],[(4,[111,110])]⟩ [p,.agg [i,j,k,a,b,c],.agg [l,n,o,s,d,e]] func223
def tA(p:Nat×Nat):=cV m R A0 [p,i,j] func224
def zY(p:Nat×Nat):=cV m R A0 [p] func225
def Je(a:O):=cV m R ⟨[(3,[(4,.I)])],[],[(3,[41,40])]⟩ [.agg [a,b]] func226
def wu(a:O):=cV m R ⟨[(5,[(9,.I)])],[],[(5,[67])]⟩ [.agg [a,b],i,j] func227
def vu(p:Nat×Nat):=cV m R ⟨[(1,[(1,.I)])],[],[]⟩ [p,i] func228
def DK(a:O):=cV m R A0 [.agg [a,i],j,.agg [k,l,n,b,c]] func229
def wM(a:O):=cV m R A0 [.agg [a,b],i,.agg [c,j]] func230
def wi(a:O):=cV m R ⟨[(4,[(3,.S),(4,.S),(5,.I)]),(13,[(7,.S),(8,.I)])],[],[(4,[74,73]),(13,[78,74,73])]⟩ [.agg [a,i]] func231
def vD(a:O):=cV m R ⟨[(3,[(2,.I),(8,.I)]),(9,[(10,.S),(12,.I)])],[],[(3,[113,111,110]),(9,[116,113,111,110])]⟩ [.agg [a,b],.agg [c,i],j] func232
def xX(a:O):=cV m R ⟨[(3,[(8,.I)]),(8,[(10,.S),(11,.I)])],[],[(3,[67,65,64]),(8,[70,67,65,64])]⟩ [.agg [a,b],.agg [c,i],d] func233
def Ab(a:O):=cV m R ⟨[(1,[(1,.I),(2,.I)])],[],[]⟩ [a,i,j] func234
def xP(i:Int):=cV m R A0 [i] func235
def zh(a:O):=cV m R ⟨[(3,[(7,.S),(8,.I)])],[],[(3,[57,55])]⟩ [.agg [a,b],c,.agg [d,i]] func236
end
section
open Tryz
variable{m:E}{R:Value->E->Prop}
variable{a b c d e f g h p q r u v w x y:O}{i j k l n o s t z A B C D F G H:Int}
def Dn(a:O):=cV m R ⟨[(2,[(7,.I)])],[],[]⟩ [a,i,j] func237
def vz(a:O):=cV m R ⟨[(2,[(7,.I)])],[],[(2,[46,45])]⟩ [.agg [a,b],.agg [i,j,k,c,d],l] func238
def Hh(a:O):=cV m R ⟨[(3,[(5,.S),(6,.I)])],[],[]⟩ [a,i] func239
def Bn(a:O):=cV m R ⟨[(3,[(5,.S),(6,.I)])],[],[(3,[55])]⟩ [.agg [a,b],i] func240
def rp(p:Nat×Nat):=cV m R ⟨[(2,[(5,.I)]),(6,[(6,.I),(7,.I)])],[],[]⟩ [p,a] func241
def xU(a:O):=cV m R ⟨[(3,[(3,.S),(4,.I)])],[],[]⟩ [a] func242
def BZ(a:O):=cV m R ⟨[(4,[(5,.I)])],[],[]⟩ [a,b] func243
def Hl(i:Int):=cV m R A0 [i] func244
def zB(a:O):=cV m R ⟨[(2,[(3,.I)])],[],[]⟩ [a] func245
def HN(a:O):=cV m R A0 [a,i,j,b] func246
def tD(p:Nat×Nat):=cV m R A0 [p,i] func247
def Jv(a:O):=cV m R ⟨[(2,[(3,.I)])],[],[]⟩ [a] func248
def qQ(p:Nat×Nat):=cV m R ⟨[(3,[(7,.S),(8,.I)])],[],[(3,[42])]⟩ [p,.agg [i,j,k,l,a,b],c] func249
def BL(a:O):=cV m R ⟨[(3,[(4,.I)]),(7,[(5,.S),(6,.I)])],[],[(3,[35,34]),(7,[35,34])]⟩ [.agg [a,b]] func250
def zN(a:O):=cV m R ⟨[(5,[(9,.S),(10,.S),(11,.S),(12,.I)])],[],[(5,[88,86,84])]⟩ [.agg [a,b],c,.agg [d,i],e] func251
def zX(a:O):=cV m R ⟨[(3,[(3,.S),(4,.I)])],[],[(3,[32])]⟩ [.agg [a,b,i,c,j]] func252
def wL(a:O):=cV m R ⟨[(4,[(3,.I)])],[],[(4,[36])]⟩ [.agg [a,b]] func253
def zR(a:O):=cV m R ⟨[(3,[(4,.I)])],[],[(3,[46])]⟩ [.agg [a,b,i,c,j]] func254
end
section
open Tryz
variable{m:E}{R:Value->E->Prop}
variable{a b c d e f g h p q r u v w x y:O}{i j k l n o s t z A B C D F G H:Int}
def wA(p:Nat×Nat):=cV m R ⟨[],[(16,[(8,.T)])],[(16,[94,93])]⟩ [p,.agg [a,b],.agg [i,j,k,c,d]] func255
def FD(i:Int):=cV m R A0 [.agg [i,j,k,a,b]] func256
def Ca(a:O):=cV m R ⟨[(5,[(3,.S),(4,.S),(6,.I)]),(8,[(3,.S),(7,.I)]),(11,[(4,.S),(7,.I)])],[],[]⟩ [a] func257
def DH(a:O):=cV m R ⟨[(8,[(10,.S),(11,.S),(12,.I)])],[],[(8,[96,92])]⟩ [.agg [a,i],j,b,k] func258
def BY(a:O):=cV m R A0 [.agg [a,b],.agg [i,j,k,c,d],l,e] func259
def Ck(a:O):=cV m R ⟨[(3,[(6,.I)])],[],[(3,[49,47])]⟩ [.agg [a,b],c] func260
def xJ(a:O):=cV m R ⟨[(3,[(3,.S),(4,.I)])],[],[(3,[32])]⟩ [.agg [a,b]] func261
def BH(a:O):=cV m R ⟨[(3,[(5,.S),(6,.I)])],[],[(3,[52])]⟩ [.agg [a,b],i] func262
def tr(a:O):=cV m R ⟨[(3,[(7,.S),(8,.I)])],[],[(3,[36,34])]⟩ [.agg [a,b],c,.agg [i,j,k,d,e]] func263
def BK(a:O):=cV m R ⟨[(4,[(7,.S),(9,.I)])],[(9,[(10,.S)])],[(4,[78,77,75]),(9,[78,77,75])]⟩ [.agg [a,b],c,.agg [i,j,k,d,e]] func264
def sV(a:O):=cV m R ⟨[(4,[(3,.I)])],[],[(4,[36])]⟩ [.agg [a,b]] func265
def DQ(a:O):=cV m R A0 [.agg [a,i]] func266
def wy(p:Nat×Nat):=cV m R A0 [p,i,j,k] func267
def wB(p:Nat×Nat):=cV m R A0 [p,i] func268
def wz(p:Nat×Nat):=cV m R ⟨[(6,[(9,.I)])],[(4,[])],[(4,[110,109]),(6,[110,109])]⟩ [p,.agg [a,b],.agg [i,j,k,c,d]] func269
def ux(p:Nat×Nat):=cV m R ⟨[(7,[(9,.I)])],[(3,[])],[(3,[93,92]),(7,[93,92])]⟩ [p,.agg [a,b],.agg [i,j,k,c,d]] func270
def sQ(p:Nat×Nat):=cV m R ⟨[(2,[(7,.I)]),(7,[(8,.I)])],[],[(2,[84,83]),(7,[84,83])]⟩ [p,.agg [a,b],.agg [i,j,k,c,d]] func271
def Gd(a:O):=cV m R ⟨[(3,[(3,.S),(4,.I)])],[],[]⟩ [a] func272
end
section
open Tryz
variable{m:E}{R:Value->E->Prop}
variable{a b c d e f g h p q r u v w x y:O}{i j k l n o s t z A B C D F G H:Int}
def HB(a:O):=cV m R ⟨[(3,[(5,.I),(6,.I)])],[],[]⟩ [a,i] func273
def Ac(a:O):=cV m R ⟨[(2,[(3,.I)])],[],[(2,[21])]⟩ [.agg [a,i]] func274
def Bi(a:O):=cV m R ⟨[(3,[(7,.S),(8,.I)])],[],[(3,[38])]⟩ [.agg [a,i],j,k] func275
def vF(a:O):=cV m R ⟨[(4,[(5,.S),(6,.T),(7,.I)])],[],[]⟩ [a,i] func276
def BW(a:O):=cV m R A0 [.agg [a,i],j,k] func277
def xQ(a:O):=cV m R ⟨[(2,[(3,.I)])],[],[(2,[22])]⟩ [.agg [a,i]] func278
def FU(a:O):=cV m R ⟨[(2,[(9,.I)])],[],[(2,[40])]⟩ [.agg [a,i],j,k,l] func279
def qN(a:O):=cV m R ⟨[(3,[(4,.I)])],[],[(3,[30,29])]⟩ [.agg [a,i]] func280
def BG(a:O):=cV m R ⟨[(2,[(5,.I)])],[],[(2,[23])]⟩ [.agg [a,b],i] func281
def uv(a:O):=cV m R ⟨[(4,[(7,.I)]),(8,[(9,.I)]),(13,[(10,.I)])],[],[(4,[72,71]),(8,[76,72,71]),(13,[76,72,71])]⟩ [.agg [a,b],.agg [c,i],j] func282
def FQ(a:O):=cV m R ⟨[(3,[(4,.I)])],[],[(3,[37,36])]⟩ [.agg [a,b]] func283
def Af(a:O):=cV m R ⟨[(2,[(1,.I),(5,.I)]),(8,[(1,.I),(6,.I)])],[],[(2,[45]),(8,[45])]⟩ [.agg [a,i],j] func284
def xS(p:Nat×Nat):=cV m R ⟨[(9,[(14,.I)])],[],[(9,[89,88])]⟩ [p,.agg [a,b],.agg [i,j,k,c,d],l] func285
def Hm(a:O):=cV m R ⟨[(2,[(7,.I)])],[],[(2,[47])]⟩ [.agg [a,i],j,k] func286
def Br(i:Int):=cV m R ⟨[(3,[(3,.S),(4,.I)])],[],[(3,[35,34])]⟩ [.agg [i,j,k,a,b]] func287
def Bo(a:O):=cV m R ⟨[(2,[(5,.I)]),(7,[(6,.I)])],[],[(2,[55]),(7,[55])]⟩ [.agg [a,i],j] func288
def uy(p:Nat×Nat):=cV m R A0 [p] func289
def vv(p:Nat×Nat):=cV m R ⟨[(2,[(9,.I)])],[],[(2,[51,50])]⟩ [p,.agg [a,b],.agg [c,i],j] func290
end
section
open Tryz
variable{m:E}{R:Value->E->Prop}
variable{a b c d e f g h p q r u v w x y:O}{i j k l n o s t z A B C D F G H:Int}
def xR(p:Nat×Nat):=cV m R ⟨[(2,[(5,.I)])],[],[]⟩ [p,i] func291
end
end Go.Proofs.YtdalfjkmdekijaaGreat
namespace Go.Proofs.YtdalfjkmdekijaaGreat
open Go.Vc
section
variable{m:E}{a:O}{l:List Int}
def aY(n b a:Int)(m:E):dz cq 44 [vi n,vi b,vi a] m (b<=n/\n<=a):=by
 apply Dy;refine⟨λh=>fU ?_ (J.aF _),λh=>cr ?_ (J.aF _)⟩<;>simp at h
 .simp[h]
 .omega
def jy(a:Int)(m:E):dz cq 109 [vi a] m (0<=a/\a<=11):=by
 apply Du;exact(aY _ _ _ _).then λd e c b=>⟨_,rfl,fU c b⟩
def jD(a:Int):Prop:=0<=a/\a<=11/\a≠7/\a≠8\/a=18\/a=19
def rX(e:Int)(m:E):dz cq 96 [vi e] m (jD e):=by
 apply Jr;refine(jy _ _).then λg i d a=>⟨_,rfl,λh=>?_,λh=>?_⟩
 .have h:=d.1 h;refine⟨λb=>⟨λc=>jr ?_ a,λc=>⟨λf=>jr ?_ a,λf=>fU ?_ a⟩⟩,λb=>⟨λc=>jr ?_ a,λc=>fU ?_ a⟩⟩<;>simp[jD]at* <;>omega
 .have h:=fb d h;refine⟨λb=>jr ?_ a,λb=>fU ?_ a⟩<;>simp[jD]at* <;>omega
def dg(e:ap m a l)(d:Int):dz cq 30 [O.v a,vi d] m (d∈l):=by
 apply Ja;have i:=e.len;refine dZ (n:=l.length) (i▸e.fu) (λk b=>J m b/\∀y∈l.take k,y≠d) ⟨J.aF _,aH⟩ ?_;rintro k p I μ o ⟨c,g⟩ j
 refine dit (λh=>?_) λh=>?_
 .let⟨x,f⟩:=cg l k;refine⟨V,V,x,by simpa using c.af (e.aO f),λb=>?_,λb=>?_⟩
  .simp only[aM]at b;exact jr (b▸aq f) c
  .simp only[ao]at b;exact j V _ ⟨c,bM f g b⟩
 .exact cr (λb=>cU V g d b rfl) c
def yv(n:Nat)(t:Int):Prop:=0<=t/\t<=n
def Eh(n:Nat)(l:List Int):Prop:=∀t∈l,yv n t
def vg(c:ap m a l)(bt:O):dz cq 133 [O.v bt,O.v a] m (Eh bt.len l):=by
 apply Bf;have i:=c.len;refine dZ (n:=l.length) (i▸c.fu) (λk b=>J m b/\∀t∈l.take k,yv bt.len t) ⟨J.aF _,aH⟩ ?_;rintro k r I μ q ⟨b,g⟩ o
 refine dit (λh=>?_) λh=>?_
 .let⟨x,d⟩:=cg l k;refine⟨V,V,x,by simpa using b.af (c.aO d),?_⟩;exact(aY _ _ _ _).then λp s f e=>⟨_,rfl,λh=>cr (λj=>nb f h (j x (aq d))) (b.trans e),λh=>o V _ ⟨b.trans e,bM d g (yb f h)⟩⟩
 .exact jr (cU V g) b
def Nw(l:List Int)(c a b:Int):Prop:=(l.length:Int)=c/\∀t∈l,a+1<=t/\t<=b -1
def DU(f:ap m a l)(o b c:Int)(w: -1<=b/\b<9223372036854775807)(e:0<=c/\c<=9223372036854775807):
 dz cq 181 [O.v a,vi o,vi b,vi c] m (Nw l o b c):=by
 apply yi
 have g:=f.len
 refine⟨λh=>?_,λh=>?_⟩
 .simp only[uF]at h
  exact cr (λi=>h (by rw[g];exact i.1)) (J.aF _)
 .simp only[ig]at h
  have u:o=(l.length:Int):=by rw[<-h,g]
  subst u
  have r:cQ (b+1)=b+1:=aQ V V
  have s:cQ (c -1)=c -1:=aQ V V
  rw[r,s]
  refine dZ (n:=l.length) (g▸f.fu) (λk d=>J m d/\∀t∈l.take k,b+1<=t/\t<=c -1) ⟨J.aF _,aH⟩ ?_
  rintro k z I μ y ⟨d,q⟩ t
  refine dit (λh=>?_) λh=>?_
  .let⟨x,j⟩:=cg l k
   refine⟨V,V,x,by simpa using d.af (f.aO j),?_⟩
   exact(aY _ _ _ _).then λv A p e=>⟨_,rfl,λh=>cr (λi=>nb p h (i.2 x (aq j))) (d.trans e),λh=>t V _ ⟨d.trans e,bM j q (yb p h)⟩⟩
  .exact jr ⟨rfl,cU V q⟩ d
def CO(a df:List Int):Prop:=∀(k:Nat)(v:Int),df[k]? =some v->(∃t,0<=v/\a[v.toNat]? =some t/\t≠0)/\(∀u:Int,0<k->df[k -1]? =some u->u<v)
def ub{A df:O}{p:List Int}(g:ap m A p)(f:ap m df l):dz cq 134 [O.v A,O.v df] m (CO p l):=by
 apply Am;have K:=f.len;have L:=g.len;have T:=g.fu;have F:cQ ((A.len:Int) -1)=(p.length:Int) -1:=by rw[aQ V V,L]
 rw[F];have S:=f.fu;refine dZ (n:=l.length) (K▸f.fu) (λk M=>J m M/\∀(j:Nat)(v:Int),j<k->l[j]? =some v->(∃t,0<=v/\p[v.toNat]? =some t/\t≠0)/\(∀u:Int,0<j->l[j -1]? =some u->u<v)) ⟨J.aF _,aH⟩ ?_;rintro k N P μ R ⟨i,w⟩ D
 refine dit (λh=>?_) λh=>?_
 .let⟨x,c⟩:=cg l k;have g1:af N df.az (df.off+Int.toNat k*1)=some (vi x):=by simpa using i.af (f.aO c)
  refine⟨V,V,x,g1,?_⟩;refine(aY _ _ _ _).then λQ U B d=>⟨_,rfl,λh=>?_,λh=>?_⟩
  .refine cr (λg=>nb B h ?_) (i.trans d);obtain⟨⟨t,b,s,_⟩,_⟩:=g k x c;have:=ax s;omega
  .have C:=yb B h;let⟨t,q⟩:=cg p x.toNat;have H:=(i.trans d).af (g.aO q);have o:=i.trans d;refine⟨V,V,x,d.af g1,V,V,t,by simpa using H,λb=>?_,λb=>?_⟩
   .simp only[aM]at b;refine cr (λa=>?_) o;obtain⟨⟨y,_,e,r⟩,_⟩:=a k x c;rw[q]at e;simp at e;exact r (e▸b)
   .simp only[ao]at b;refine dit (λs=>?_) λs=>?_
    .have G:cQ ((k:Int) -1)=((k -1:Nat):Int):=by rw[aQ V V];omega
     let⟨E,z⟩:=cg l (k -1);rw[G];refine⟨V,V,x,d.af g1,V,V,E,by simpa using o.af (f.aO z),dit (λe=>?_) λe=>?_⟩
     .refine cr (λa=>?_) o;have:=(a k x c).2 E V z;omega
     .refine D V _ ⟨o,λj v I a=>?_⟩
      by_cases r:j=k
      .subst r;rw[c]at a;simp at a;subst a;refine⟨⟨t,C.1,q,b⟩,λu _ y=>?_⟩;rw[z]at y;simp at y;subst y;omega
      .exact w j v V a
    .refine D V _ ⟨o,λj v I a=>?_⟩
     by_cases r:j=k
     .subst r;rw[c]at a;simp at a;subst a;exact⟨⟨t,C.1,q,b⟩,λu e _=>V⟩
     .exact w j v V a
 .exact jr (λj v a=>w j v (oh (ax a)) a) i
end
section
variable{m:E}
structure Gp(ds:List bo)(k:Nat)(d:bo):Prop where
 gS:0<d.cons.length->d.cons.length<=3/\d.tj=0/\d.to=0/\∀f∈d.cons,f.length<=3/\Eh ds.length f
 Ro:d.cons.length=0->(∀e∈ds.take k,¬(e.cons.length=0/\e.tj=d.tj/\e.to=d.to))/\yv ds.length d.tj/\yv ds.length d.to
structure dH(ds:List bo):Prop where
 len:ds.length<=4
 de:∀(k:Nat)(d:bo),ds[k]? =some d->Gp ds k d
def FY{bt:O}{h:List bo}(hd:bX m bt h){k:Nat}{d:bo}(H:h[k]? =some d):dz cq 179 [O.v bt,vi k] m (Gp h k d):=by
 apply Aj;simp -zeta only[aE,aD];have X:=ax H;have v:=hd.len;let⟨x,z,K,g1,g2⟩:=hd.aO H;refine⟨V,V,_,by simpa using K,_,by simpa using g1,_,by simpa using g2,?_⟩;intro P s;have c:J m s:=((J.aF m).aP _).ai (ad _) _ _;have A:∀t∈[m.size],t<s.size:=by simp[s,P,aA]
 have M:=z.len;refine dit (λq=>?_) λq=>?_
 .refine dit (λL=>?_) λL=>?_
  .exact cr (λa=>oh ((a.gS V).1)) c
  refine⟨λf=>?_,λf=>?_⟩
  .simp only[uF]at f;exact cr (λa=>f (a.gS V).2.1) c
  simp only[ig]at f;refine⟨λp=>?_,λp=>?_⟩
  .simp only[uF]at p;exact cr (λa=>p (a.gS V).2.2.1) c
  simp only[ig]at p;refine dZ (n:=d.cons.length) (M▸z.fu) (λk B=>J s B/\∀x∈d.cons.take k,x.length<=3/\Eh h.length x) ⟨J.aF _,aH⟩ ?_;rintro j w I μ N ⟨g,r⟩ D
  refine dit (λy=>?_) λy=>?_
  .let⟨C,u⟩:=cg d.cons j;let⟨E,G,F⟩:=(oF.ext (c.trans g) z).aO u;have R:=G.len;refine⟨V,V,E,by simpa using F,dit (λo=>?_) λo=>?_⟩
   .exact cr (λa=>oh (((a.gS V).2.2.2 C (aq u)).1)) (c.trans g)
   .refine⟨V,V,E,by simpa using F,?_⟩;exact(vg G _).aI g A λt Q l i b=>⟨_,rfl,λe=>cr (λa=>nb l e (v▸((a.gS V).2.2.2 C (aq u)).2)) (c.trans b),λe=>D V _ ⟨b,bM u r ⟨V,v▸yb l e⟩⟩⟩
  .exact jr ⟨λ_=>⟨V,f,p,cU V r⟩,λF=>V⟩ (c.trans g)
 .have C:d.cons.length=0:=V;have U:=hd.fu;refine dZ (n:=k) V (λk B=>J s B/\∀f∈h.take k,¬(f.cons.length=0/\f.tj=d.tj/\f.to=d.to)) ⟨J.aF _,aH⟩ ?_;rintro j w I μ N ⟨g,r⟩ D
  refine dit (λy=>?_) λy=>?_
  .let⟨f,u⟩:=cg h j;let⟨E,G,R,S,T⟩:=(bX.ext (c.trans g) hd).aO u;have W:=G.len;have B:¬(f.cons.length=0/\f.tj=d.tj/\f.to=d.to)->I (cQ ((j:Int)+1)) w/\μ (cQ ((j:Int)+1)) w<μ j w:=λp=>D V _ ⟨g,bM u r p⟩
   refine⟨V,V,E,by simpa using T,λo=>?_,λo=>?_⟩
   .simp only[aM]at o;refine⟨V,V,_,by simpa using R,λi=>?_,λi=>?_⟩
    .simp only[aM]at i;refine⟨V,V,_,by simpa using S,λb=>?_,λb=>?_⟩
     .simp only[aM]at b;have L:f∈h.take k:=by
       rw[List.mem_iff_getElem?];exact⟨j,by rw[mV,ak V];exact u⟩
      exact cr (λa=>(a.Ro C).1 f L ⟨V,i,b⟩) (c.trans g)
     .simp only[ao]at b;exact B (λp=>b p.2.2)
    .simp only[ao]at i;exact B (λp=>i p.2.1)
   .simp only[ao]at o;exact B (λp=>o V)
  .have f:j=k:=V;subst f;refine(aY _ _ _ _).aI g A λt Q l i b=>⟨_,rfl,λe=>?_,λe=>cr (λa=>fb l e (v▸(a.Ro C).2.1)) (c.trans b)⟩;have e:=l.1 e;refine(aY _ _ _ _).aI b A λt p l o a=>⟨_,rfl,fU ?_ (c.trans a)⟩;rw[l];rw[v]at e⊢;exact⟨λq=>⟨λF=>V,λ_=>⟨r,e,q⟩⟩,λq=>(q.Ro C).2.2⟩
def DX{bt:O}{a:List bo}(hd:bX m bt a):dz cq 132 [O.v bt] m (dH a):=by
 apply ym;have u:=hd.len;refine dit (λo=>?_) λo=>?_
 .exact cr (λf=>oh f.len) (J.aF _)
 .refine dZ (n:=a.length) V (λq r=>J m r/\∀(j:Nat)(d:bo),j<q->a[j]? =some d->Gp a j d) ⟨J.aF _,aH⟩ ?_;rintro j x I μ w ⟨b,k⟩ s
  refine dit (λp=>?_) λp=>?_
  .let⟨l,e⟩:=cg a j;refine(FY (bX.ext b hd) e).then λt y h g=>⟨_,rfl,λc=>cr (λf=>nb h c (f.de j l e)) (b.trans g),λc=>?_⟩;refine s V _ ⟨b.trans g,λi d v bG=>?_⟩
   by_cases f:i=j
   .subst f;rw[e]at bG;simp at bG;subst bG;exact yb h c
   .exact k i d V bG
  .exact jr ⟨V,λi d bG=>k i d (oh (ax bG)) bG⟩ b
end
section
variable{a:Nat}{m:E}
def fc:List bo->Nat->Nat
 |_,0=>0
 |[],_=>0
 |d::b,a+1=>d.cons.length+fc b a
def eI(a:List bo):List (List Int):=a.flatMap bo.cons
def Qg(a:Nat):fc [] a=0:=by cases a<;>rfl
def rP:∀{b:List bo}{a:Nat}{c:bo},b[a]? =some c->fc b (a+1)=fc b a+c.cons.length
 |[],a,c,h=>by simp at h
 |e::b,0,c,h=>by
  simp at h;subst h;simp only[fc];cases b<;>simp[fc]
 |e::b,a+1,c,h=>by
  have:=rP (b:=b) (a:=a) (c:=c) (by simpa using h);simp only[fc]at this⊢;omega
def nJ:∀(b:List bo)(a:Nat),b.length<=a->fc b a=(eI b).length
 |[],a,_=>by rw[Qg];rfl
 |d::b,0,h=>by simp at h
 |d::b,a+1,h=>by
  have:=nJ b a (by simpa using h);simp only[fc,eI,lO,aT]at this⊢;omega
def Q8:∀(a:List bo){b c:Nat},b<=c->fc a b<=fc a c
 |[],b,c,_=>by simp[Qg]
 |d::a,0,c,_=>by simp[fc]
 |d::a,b+1,0,h=>V
 |d::a,b+1,c+1,h=>by
  have:=Q8 a (b:=b) (c:=c) V;simp only[fc];omega
def kQ{b:List bo}(h:dH b){d:bo}(e:b[a]? =some d):d.cons.length<=3:=by
 rcases iS d.cons.length with c|c
 .omega
 .exact((h.de a d e).gS c).1
def Tw{b:List bo}(h:dH b):∀a,fc b a<=3*a
 |0=>by cases b<;>simp[fc]
 |a+1=>by
  have e:=Tw h a;rcases aU a b.length with c|c
  .let⟨d,hd⟩:=dI c;rw[rP hd];have:=kQ h hd;omega
  .rw[nJ b (a+1) V,<-nJ b a c];omega
def sD{b:List bo}(h:dH b)(a:Nat):fc b a<=12:=by
 rcases aU a b.length with c|c
 .have:=Tw h a;have:=h.len;omega
 .rw[nJ b a c,<-nJ b b.length (ad _)];have:=Tw h b.length;have:=h.len;omega
def qE:∀(a:List bo)(i j:Nat)(d:bo),a[i]? =some d->j<d.cons.length->(eI a)[fc a i+j]? =d.cons[j]?
 |[],i,j,d,h,_=>by simp at h
 |e::a,0,j,d,h,b=>by
  simp at h;subst h;simp only[fc,eI,lO,bE];rw[aw b]
 |e::a,i+1,j,d,h,b=>by
  have:=qE a i j d (by simpa using h) b;simp only[fc,eI,lO]at this⊢;rw[aG V,<-this];congr 1;omega
def ui:∀(a:List bo)(c:Nat),c<(eI a).length->∃i d,a[i]? =some d/\fc a i<=c/\c<fc a i+d.cons.length
 |[],c,h=>by simp[eI]at h
 |e::a,c,h=>by
  rcases aU c e.cons.length with b|b
  .exact⟨0,e,aH,by simp[fc],by simpa[fc]using b⟩
  .let⟨i,d,f,g,j⟩:=ui a (c -e.cons.length) (by simp only[eI,lO,aT]at h⊢;omega);exact⟨i+1,d,by simpa using f,by simp only[fc];omega,by simp only[fc];omega⟩
def jN{bt:O}{b:List bo}(hd:bX m bt b)(d:dH b)(t:a<=b.length):LI cq 151 [O.v bt,vi a] m (vi (fc b a)):=by
 apply Bz;have r:=hd.len;have:=d.len;refine dx (n:=a) V (λj g c=>J m c/\g=(fc b j:Nat)) ⟨J.aF _,by cases b<;>rfl⟩ ?_;rintro j g u I μ s ⟨e,rfl⟩ k
 refine dit (λi=>?_) λi=>?_
 .let⟨l,c⟩:=cg b j;let⟨h,f,o,g1,g2⟩:=(bX.ext e hd).aO c;refine⟨V,V,h,by simpa using g2,?_⟩;refine k V _ _ ⟨e,?_⟩
  have p:=sD d j;have q:=kQ d c;rw[aQ V (oh f.len),rP c,f.len];rfl
 .have:j=a:=V;subst this;exact⟨rfl,e⟩
def pY{bt:O}{a:List bo}(hd:bX m bt a)(c:dH a):LI cq 217 [O.v bt] m (vi (eI a).length):=by
 apply Bp;have q:=hd.len;have:=c.len;refine dx (n:=a.length) V (λj f b=>J m b/\f=(fc a j:Nat)) ⟨J.aF _,by cases a<;>rfl⟩ ?_;rintro j f s I μ r ⟨d,rfl⟩ i
 refine dit (λh=>?_) λh=>?_
 .let⟨k,b⟩:=cg a j;let⟨g,e,l,g1,g2⟩:=(bX.ext d hd).aO b;refine⟨V,V,g,by simpa using g2,?_⟩;refine i V _ _ ⟨d,?_⟩
  have o:=sD c j;have p:=kQ c b;rw[aQ V (oh e.len),rP b,e.len];rfl
 .refine⟨?_,d⟩;rw[nJ a j V]
def XG(a:List bo)(c t:Int):Prop:=
 (∃(i:Nat)(d:bo),t=i+1/\a[i]? =some d/\(fc a i:Int)<=c/\c<fc a i+d.cons.length)\/(t= -1/\¬(0<=c/\c<(eI a).length))
def lK{bt:O}{a:List bo}(hd:bX m bt a)(k:dH a)(c:Int):aN cq 150 [O.v bt,vi c] m λE p=>∃u,E=vi u/\XG a c u/\J m p:=by
 apply Dr;have H:=hd.len;have:=k.len;refine dZ (n:=a.length) V (λj p=>J m p/\∀(i:Nat)(d:bo),i<j->a[i]? =some d->¬((fc a i:Int)<=c/\c<fc a i+d.cons.length)) ⟨J.aF _,aH⟩ ?_;rintro j M I μ L ⟨b,s⟩ D
 refine dit (λz=>?_) λz=>?_
 .let⟨d,h⟩:=cg a j;refine(jN (bX.ext b hd) k V).then λN e=>⟨_,rfl,?_⟩;let⟨l,B,G,g1,g2⟩:=(bX.ext (b.trans e) hd).aO h;refine⟨V,V,l,by simpa using g2,?_⟩;have o:=sD k j;have A:=kQ k h;have C:=B.len;have y:cQ (cQ ((fc a j:Int)+(l.len:Int)) -1)=(fc a j:Int)+d.cons.length -1:=by
   rw[aQ (b:=(fc a j:Int)+(l.len:Int)) V V,aQ V V,C]
  rw[y];refine(aY _ _ _ _).then λF P r q=>⟨_,rfl,λf=>?_,λf=>?_⟩
  .have f:=r.1 f;refine⟨_,rfl,Or.inl ⟨j,d,?_,h,V,V⟩,(b.trans e).trans q⟩;rw[aQ V V]
  .refine D V _ ⟨(b.trans e).trans q,λi v K g=>?_⟩
   by_cases w:i=j
   .subst w;rw[h]at g;simp at g;subst g;intro t;exact fb r f ⟨t.1,V⟩
   .exact s i v V g
 .refine⟨_,rfl,Or.inr ⟨rfl,λt=>?_⟩,b⟩;let⟨i,d,o,e,A⟩:=ui a c.toNat V;exact s i d (oh (ax o)) o ⟨V,V⟩
def bZ(a:List bo)(c:Int):List Int:=if 0<=c then((eI a)[c.toNat]?).getD []else[]
def Fo{bt:O}{a:List bo}(hd:bX m bt a)(d:dH a)(c:Int):aN cq 108 [O.v bt,vi c] m λx l=>∃s,x=O.v s/\ap l s (bZ a c)/\J m l:=by
 apply qM;have E:=hd.len;have:=d.len;refine(lK hd d c).mono ?_;rintro _ H ⟨K,rfl,h,e⟩;refine⟨_,rfl,dit (λu=>?_) λu=>?_⟩
 .refine⟨_,rfl,?_,e.aP _⟩;have g:bZ a c=[]:=by
   rcases h with⟨i,f,v,_⟩|⟨_,b⟩
   .omega
   .unfold bZ;split
    .rw[bT V];rfl
    .rfl
  rw[g];exact⟨rfl,ad _,aH,aH⟩
 .rcases h with⟨i,f,rfl,b,B,C⟩|⟨v,_⟩
  .have G:=ax b;let⟨q,j,z,g1,g2⟩:=(bX.ext e hd).aO b;have n:cQ ((i:Int)+1 -1)=i:=by rw[aQ V V];omega
   rw[n];refine⟨V,V,q,by simpa using g2,?_⟩;refine(jN (bX.ext e hd) d V).then λI g=>⟨_,rfl,g.dA (by simpa using g2),?_⟩;have A:=sD d i;have D:=kQ d b;have F:=j.len;let⟨y,k⟩:=cg f.cons ((c -fc a i).toNat);let⟨r,w,t⟩:=(oF.ext g j).aO k;have o:cQ (c -(fc a i:Int))=c -fc a i:=aQ V V;rw[o];refine⟨V,V,r,t,_,rfl,?_,e.trans g⟩;have p:bZ a c=y:=by
    unfold bZ;rw[ak V];have:=qE a i (c -fc a i).toNat f b V;rw[show c.toNat=fc a i+(c -fc a i).toNat by omega,this,k];rfl
   rw[p];exact w
  .omega
def bY(a:List bo)(t:Int):List Int:=
 if 1<=t/\t<=a.length then((a[t.toNat -1]?).map λd=>(List.range d.cons.length).map λi=>((fc a (t.toNat -1)+i:Nat):Int)).getD []else[]
def zj{bt:O}{a:List bo}(hd:bX m bt a)(c:dH a)(t:Int):aN cq 148 [O.v bt,vi t] m λI b=>∃s,I=O.v s/\ap b s (bY a t)/\J m b:=by
 apply tV;intro r;have S:=hd.len;have:=c.len;have q:J m r:=(J.aF m).aP _;have F:fZ m r ay 1 (.mk m.size 0 0 0) []:=fZ.new (J.aF m) ay 1 [] 0 aH;refine(aY _ _ _ _).then λL W l f=>⟨_,rfl,λh=>?_,λh=>?_⟩
 .refine⟨_,rfl,?_,q.trans f⟩;have e:bY a t=[]:=by
   unfold bY;rw[ae (oh (nb l h))]
  rw[e];exact⟨rfl,ad _,aH,aH⟩
 .have h:=yb l h;have v:cQ (t -1)=((t.toNat -1:Nat):Int):=by rw[aQ V V];omega
  rw[v];let⟨e,g⟩:=cg a (t.toNat -1);have w:bY a t=(List.range e.cons.length).map λi=>((fc a (t.toNat -1)+i:Nat):Int):=by
   unfold bY;rw[ak V,g];rfl
  rw[w];have Q:=sD c (t.toNat -1);have R:=kQ c g;refine dx (n:=e.cons.length) V (λj s b=>J m b/\fZ m b ay 1 s (((List.range j).map λi=>((fc a (t.toNat -1)+i:Nat):Int)).map Ce.i)/\s.len=j) ⟨q.trans f,by simpa using F.ext f,rfl⟩ ?_;rintro j s X K μ U ⟨d,o,p⟩ H
  let⟨y,D,M,g1,g2⟩:=(bX.ext d hd).aO g;have T:=D.len;refine⟨V,V,y,by simpa using g2,dit (λz=>?_) λz=>?_⟩
  .refine(jN (bX.ext d hd) c V).then λG k=>⟨_,rfl,?_⟩;intro u;have x:cQ (((fc a (t.toNat -1):Nat):Int)+(j:Int))=((fc a (t.toNat -1)+j:Nat):Int):=by rw[aQ V V];omega
   have E:u=G.push (.cells (bD [.i (((fc a (t.toNat -1)+j:Nat):Int))]) ay):=by rw[<-x]
   clear_value u;subst E;refine fZ.append (zs:=[.i 0]) (d:=[.i ((fc a (t.toNat -1)+j:Nat):Int)]) ((o.ext k).ext (J.push _ _)) ((d.trans k).aP _) rfl (cz.push _ _ _).jC (by simp[p];omega) ?_;intro Y b A B C N P _;refine H V _ _ ⟨B,?_,by simp[C,p]⟩
   rw[So,eW,eW];exact A
  .have:j=e.cons.length:=V;subst this;exact⟨_,rfl,ap.fP o bN,d⟩
end
section
variable{S:List Nat}{d:E}{s h a g:O}{e j:List Int}{k f:Nat}{x:Int}{Q:List Int->Prop}{K:Value->E->Prop}
def _root_.Go.Vc.ap.cJ{X:List Nat}{a:E}(h:ap (bG S d) s e)(c:Fz X d a)(b:∀g∈X,g∈S)(f:e[k]? =some x):af a s.az (s.off+k*1)=some (vi x):=
 (dY.1 ((h.le (c.cR b)).aO f)).2
def _root_.Go.Vc.ap.Ke{a:E}(h:ap (bG S d) s e)(b:J d a)(c:e[k]? =some x):af a s.az (s.off+k*1)=some (vi x):=
 h.cJ (b.fz []) aH c
def Ek(f:Nat)(b:List Value)(d:E)(S:List Nat)(Q:List Int->Prop):Prop:=aN cq f b d λv a=>∃s e,v=O.v s/\ap (bG S a) s e/\Q e/\J d a
def iU(f:Nat)(b:List Value)(d:E)(S:List Nat)(Q:List Int->Prop):Prop:=aN cq f b d λv a=>∃s e,v=O.v s/\Gr S d a ay 1 tm s e/\Q e/\J d a
def rB(f:Nat)(a:List Value)(d:E)(Q:Int->Prop):Prop:=aN cq f a d λv b=>∃n:Int,v=vi n/\Q n/\J d b
abbrev GI(S:List Nat)(a d:E)(s:O)(e:List Int):Prop:=Gr S a d ay 1 tm s e
def GI.nil(S:List Nat)(d:E):GI S d (d.push (.cells (bD []) ay)) (.mk d.size 0 0 0) []:=Gr.new S (ad _) ay 1 tm
def GI.ku{S X:List Nat}{c d:E}{s:O}{e:List Int}{a:Int}{K:O->E->Prop}(h:GI S c d s e)(f:Fz X c d)(j:∀g∈S,g<c.size)(k:e.length<=10^12)
 (i:∀r b,GI S c b r (e++[a])->Fz X c b->(d.size<=b.size/\(r.az=s.az\/d.size<=r.az))->(∀g,g<d.size->g≠s.az->b[g]? =d[g]?)->K r b):jb (d.push (.cells (bD [.i a]) ay)) ay [.i 0] 8 s (.mk d.size 0 1 1) K:=
 Gr.ku (g:=[.i 0]) tm.mono bh h f rfl V i
def GI.done{S:List Nat}{a d:E}{s:O}{e:List Int}(h:GI S a d s e)(b:∀g∈S,g<a.size)(c:e.length<=10^12):ap (bG S d) s e:=Gr.done tm.mono h b bh V
def GI.all{S X:List Nat}{b d:E}{s x:O}{e c:List Int}{K:O->E->Prop}(h:GI S b d s e)(f:Fz X b d)(k:∀g∈S,g<b.size)(j:ap (bG (s.az::S) d) x c)(l:e.length+c.length<=10^12)
 (i:∀r a,GI S b a r (e++c)->Fz X b a->(d.size<=a.size/\(r.az=s.az\/d.size<=r.az))->(∀g,g<d.size->g≠s.az->a[g]? =d[g]?)->K r a):jb d ay [.i 0] 8 s x K:=
 Gr.all (g:=[.i 0]) tm.mono bh h f j V i
def GI.iy{b a:E}(h:GI S b d s e)(j:a[s.az]? =d[s.az]?):GI S b a s e:=by
 let⟨f,c,g,i⟩:=h;exact⟨f,c,g.congr j,i.mono λ_ _ h=>h⟩
def GI.ext{S:List Nat}{b d a:E}{s:O}{e:List Int}(h:GI S b d s e)(c:J d a):GI S b a s e:=Gr.ext tm.mono h c
def _root_.Go.Vc.Gr.cG{α:Type}{S c:List Nat}{h i d:E}{f b:Nat}{R:E->List Ce->α->Prop}{s:O}{e:List α}(o:nH b R)(k:Gr c i d f b R s e)(p:∀g∈S,g∈c\/d.size<=g)(q:h.size<=i.size):Gr S h d f b R s e:=by
 let⟨l,j,m,n⟩:=k;refine⟨l,j,m.cG q,n.mono λr x=>o.le ((J.aF d).bG λg a=>?_)⟩;rcases List.mem_cons.1 a with a|a
 .exact Or.inl (by rw[a];exact aX)
 .exact(p g a).imp (ah _) id
def GI.cG{S a:List Nat}{b c d:E}{s:O}{e:List Int}(h:GI a c d s e)(f:∀g∈S,g∈a)(j:b.size<=c.size):GI S b d s e:=Gr.cG tm.mono h (λg i=>Or.inl (f g i)) j
def iU.then{b:List Value}(h:iU f b d S Q)(k:∀s e a,GI S d a s e->Q e->J d a->K (O.v s) a):aN cq f b d K:=
 h.mono λ_ a⟨s,e,c,g,i,j⟩=>c▸k s e a g i j
def Ek.then{b:List Value}(h:Ek f b d S Q)(k:∀s e a,ap (bG S a) s e->Q e->J d a->K (O.v s) a):aN cq f b d K:=
 h.mono λ_ a⟨s,e,c,g,i,j⟩=>c▸k s e a g i j
def rB.then{b:List Value}{Q:Int->Prop}(h:rB f b d Q)(i:∀n a,Q n->J d a->K (vi n) a):aN cq f b d K:=
 h.mono λ_ a⟨n,e,c,g⟩=>e▸i n a c g
def sE{a:E}{g:Nat}(h:J d a)(b:d.size<=g):Le (bG S d) (bG (g::S) a):=h.bG λe c=>by
 rcases List.mem_cons.1 c with h|h
 .exact Or.inr (by rw[h];exact b)
 .exact Or.inl h
def lL(c:∀g∈S,g<d.size)(j:ap (bG S d) h e)(i:e.length<=10^12):iU 50 [O.v h] d S (e=·):=by
 apply mS;intro k;have a:J d k:=J.push d _;exact GI.all (e:=[]) (X:=[]) (GI.nil S d) (a.fz []) c (j.le (sE a (ad _))) (by simpa using i) λr m b f _ _=>⟨r,e,rfl,by simpa using b,rfl,f.ext⟩
def oJ(e a:List Int):Prop:=(∀x∈a,x∈e)/\a.length<=e.length
def pV{b:List Int}(h:∀x∈b,x∈e)(c:x∈e):∀y∈b++[x],y∈e:=by
 intro y a;rcases List.mem_append.1 a with a|a
 .exact h y a
 .simp at a;subst a;exact c
def sW(q:∀g∈S,g<d.size)(i:ap (bG S d) h e)(a:Int)(t:e.length<=10^12):iU 53 [O.v h,vi a] d S (e.filter (λx=>!decide (x=a))=·):=by
 apply DZ;intro w;have r:=i.len;refine dx (n:=e.length) (r▸i.fu) (λk s b=>J d b/\GI S d b s ((e.take k).filter λx=>!decide (x=a))) ⟨J.push d _,GI.nil S d⟩ ?_;rintro k s y I μ v ⟨b,c⟩ m
 have u:((e.take k).filter λx=>!decide (x=a)).length<=k:=by have:=il (λx=>!decide (x=a)) (e.take k);simp at this;omega
 refine dit (λp=>?_) λp=>?_
 .let⟨x,j⟩:=cg e k;refine⟨V,V,x,i.Ke b j,λl=>⟨V,V,x,i.Ke b j,?_⟩,λl=>m V _ _ ⟨b,?_⟩⟩
  .intro z;refine GI.ku c (b.fz []) q V λB A o f _ _=>m V _ _ ⟨f.ext,?_⟩
   rw[bC j,Oy];simpa[show x≠a by simpa using l]using o
  .rw[bC j,Oy];simpa[show x=a by simpa using l]using c
 .rw[dk V]at c;exact⟨s,_,rfl,c,rfl,b⟩
def iU.imp{b:List Value}{a:List Int->Prop}(h:iU f b d S Q)(i:∀e,Q e->a e):iU f b d S a:=h.mono λ_ _⟨s,e,c,g,q,x⟩=>⟨s,e,c,g,i e q,x⟩
def Aq(b:∀g∈S,g<d.size)(f:ap (bG S d) h e)(n:Int)(c:e.length<=10^12):iU 53 [O.v h,vi n] d S (oJ e):=
 (sW b f n c).imp λj a=>a▸⟨λx i=>(List.mem_filter.1 i).1,il _ _⟩
def Oc(r:∀g∈S,g<d.size)(c:ap (bG S d) h e)(u:Int)(v:e.length<=10^12):iU 239 [O.v h,vi u] d S (oJ e):=by
 apply Hh;intro z;have t:=c.len;refine dx (n:=e.length) (t▸c.fu) (λk s b=>J d b/\∃a,GI S d b s a/\(∀x∈a,x∈e)/\a.length<=k) ⟨J.push d _,[],GI.nil S d,aH,ad _⟩ ?_;rintro k s A I μ y ⟨b,a,i,j,w⟩ m
 refine dit (λp=>?_) λp=>?_
 .let⟨x,l⟩:=cg e k;refine⟨V,V,x,c.Ke b l,λq=>⟨V,V,x,c.Ke b l,?_⟩,λq=>m V _ _ ⟨b,a,i,j,V⟩⟩;intro B;exact GI.ku i (b.fz []) r V λD C o f _ _=>m V _ _ ⟨f.ext,_,o,pV j (aq l),bN⟩
 .exact⟨s,a,rfl,i,⟨j,V⟩,b⟩
def Mg(u:∀g∈S,g<d.size)(i:ap (bG S d) a e)(v:ap (bG S d) g j)(A:e.length<=10^12):iU 194 [O.v a,O.v g] d S (oJ e):=by
 apply Fm;intro D;have w:=i.len;refine dx (n:=e.length) (w▸i.fu) (λk s b=>J d b/\∃c,GI S d b s c/\(∀x∈c,x∈e)/\c.length<=k) ⟨J.push d _,[],GI.nil S d,aH,ad _⟩ ?_;rintro k s E I μ C ⟨b,c,l,m,B⟩ p
 refine dit (λr=>?_) λr=>?_
 .let⟨x,o⟩:=cg e k;refine⟨V,V,x,i.Ke b o,?_⟩;refine(dg ((v.le (bz _ _)).ext b) x).then λz F _ h=>⟨_,rfl,λt=>⟨V,V,x,i.Ke (b.trans h) o,?_⟩,λt=>p V _ _ ⟨b.trans h,c,l.ext h,m,V⟩⟩;intro y;exact GI.ku (l.ext h) ((b.trans h).fz []) u V λG y q f _ _=>p V _ _ ⟨f.ext,_,q,pV m (aq o),bN⟩
 .exact⟨s,c,rfl,l,⟨m,V⟩,b⟩
def _root_.Go.Vc.vS{σ τ:Type}{n:Nat}(p:n<=9223372036854775807){h:σ}{j:τ}{g:(σ->τ->Int->E->Prop)->(σ->τ->Int->E->Nat)->σ->τ->Int->E->Prop}(Q:Nat->σ->τ->E->Prop)(m:Q 0 h j d)
 (l:∀(k:Nat)(s:σ)(t:τ)(a:E)(I:σ->τ->Int->E->Prop)(μ:σ->τ->Int->E->Nat),k<=n->Q k s t a->
  (k<n->∀c e b,Q (k+1) c e b->I c e (cQ ((k:Int)+1)) b/\μ c e (cQ ((k:Int)+1)) b<μ s t k a)->g I μ s t k a):
 ∃(I:σ->τ->Int->E->Prop)(μ:σ->τ->Int->E->Nat),I h j 0 d/\∀s t i a,I s t i a->g I μ s t i a:=by
 refine⟨λs t i b=>∃k:Nat,i=k/\k<=n/\Q k s t b,λ_ _ i _=>(n -i).toNat,⟨0,rfl,dE _,m⟩,?_⟩
 rintro s t i a ⟨k,rfl,o,q⟩
 refine l k s t a _ _ o q λf c e b r=>?_
 rw[km f p]
 exact⟨⟨k+1,rfl,f,r⟩,Cu f⟩
def WH(e:List Int)(n:Int)(a:List Int):Prop:=(∀x∈a,x∈e\/x=n)/\a.length<=e.length+1
def GQ:List Int->Int->List Int
 |[],n=>[n]
 |x::e,n=>if n<=x then(if n<x then n::x::e else x::e)else x::GQ e n
def EP:∀{e:List Int}{n x:Int},x∈GQ e n<->x=n\/x∈e
 |[],n,x=>by simp[GQ]
 |y::e,n,x=>by
  unfold GQ;split
  .split
   .simp
   .have:n=y:=V;subst this;simp
  .rw[aV,EP,aV];constructor
   .rintro(h|h|h)<;>simp[h]
   .rintro(h|h|h)<;>simp[h]
def JE:∀(e:List Int)(n:Int),(GQ e n).length<=e.length+1
 |[],n=>by simp[GQ]
 |y::e,n=>by
  have:=JE e n;unfold GQ;split
  .split<;>simp
  .simp;omega
def nm(u:∀g∈S,g<d.size)(z:ap (bG S d) h e)(m:Int)(P:e.length<10^12):iU 139 [O.v h,vi m] d S (GQ e m=·):=by
 apply Fx;intro U;have M:=z.len;refine vS (n:=e.length) (M▸z.fu) (λk s b l=>J d l/\∃j,GI S d l s j/\(if b=true then j++e.drop k=GQ e m else j++GQ (e.drop k) m=GQ e m)/\j.length<=k+(if b=true then 1 else 0)) ⟨J.push d _,[],GI.nil S d,aH,aH⟩ ?_;rintro k s b B I μ R ⟨i,j,v,a,q⟩ F
 have Q:j.length<=k+1:=by split at q<;>omega
 refine dit (λw=>?_) λw=>?_
 .let⟨x,C⟩:=cg e k;have G:∀{l:E},J d l->af l h.az (h.off+k*1)=some (vi x):=λw=>z.Ke w C;have K:e.drop k=x::e.drop (k+1):=by
   obtain⟨L,H⟩:=List.getElem?_eq_some_iff.1 C;rw[lC L,H]
  rw[K]at a;have A:∀p:Bool,j.length<=k+(if p=true then 1 else 0)->(if p=true then(j++[x])++e.drop (k+1)=GQ e m else(j++[x])++GQ (e.drop (k+1)) m=GQ e m)->jb (B.push (.cells (bD [.i x]) ay)) ay [.i 0] 8 s (.mk B.size 0 1 1) λr l=>I r p (cQ ((k:Int)+1)) l/\μ r p (cQ ((k:Int)+1)) l<μ s b k B:=λp T hd=>
   GI.ku v (i.fz []) u V λr D o f _ _=>F V _ _ _ ⟨f.ext,_,o,hd,bN⟩
  refine⟨λc=>⟨V,V,x,G i,λt=>⟨V,V,x,G i,λy=>?_,λy=>⟨V,V,x,G i,A true (by split at q<;>simp<;>omega) ?_⟩⟩,λt=>⟨V,V,x,G i,A b q ?_⟩⟩,λc=>⟨V,V,x,G i,A b q ?_⟩⟩
  .have hd:b=false:=by simpa using c
   subst hd;simp only[fq,mH]at a;rw[GQ,ak (by simp at t;omega),ak (by simp at y;omega)]at a;intro N;refine GI.ku v (i.fz []) u V λr D o f _ _=>⟨V,V,x,G f.ext,?_⟩;intro W;refine GI.ku o f u bN λr X o f _ _=>F V _ _ _ ⟨f.ext,_,o,by simpa using a,by simp at q;simp;omega⟩
  .have hd:b=false:=by simpa using c
   subst hd;simp only[fq,mH]at a;rw[GQ,ak (by simp at t;omega),ae (by simp at y;omega)]at a;simpa using a
  .have hd:b=false:=by simpa using c
   subst hd;simp only[fq,mH]at a⊢;rw[GQ,ae (by simp at t;omega)]at a;simpa using a
  .have hd:b=true:=by simpa using c
   subst hd;simpa using a
 .rw[tf V]at a;refine⟨λc=>?_,λc=>?_⟩
  .have hd:b=false:=by simpa using c
   subst hd;intro N;exact GI.ku v (i.fz []) u V λr D o f _ _=>⟨r,_,rfl,o,by simpa[GQ]using a.symm,f.ext⟩
  .have hd:b=true:=by simpa using c
   subst hd;exact⟨s,_,rfl,v,by simpa using a.symm,i⟩
def np(b:∀g∈S,g<d.size)(f:ap (bG S d) h e)(n:Int)(c:e.length<10^12):iU 139 [O.v h,vi n] d S (WH e n):=
 (nm b f n c).imp λj a=>a▸⟨λx i=>(EP.1 i).symm,JE _ _⟩
def rI(y:∀g∈S,g<d.size)(l:ap (bG S d) h e)(B:Int)(C:e.length<=10^12):iU 276 [O.v h,vi B] d S (oJ e):=by
 apply vF;intro F;have z:=l.len;refine vS (n:=e.length) (z▸l.fu) (λk s _ b=>J d b/\∃a,GI S d b s a/\(∀x∈a,x∈e)/\a.length<=k) ⟨J.push d _,[],GI.nil S d,aH,ad _⟩ ?_;rintro k s i o I μ E ⟨c,a,j,m,D⟩ q
 refine dit (λu=>?_) λu=>?_
 .let⟨x,p⟩:=cg e k;have G:=l.Ke c p;have A:jb (o.push (.cells (bD [.i x]) ay)) ay [.i 0] 8 s (.mk o.size 0 1 1) λr b=>I r i (cQ ((k:Int)+1)) b/\μ r i (cQ ((k:Int)+1)) b<μ s i k o:=
   GI.ku j (c.fz []) y V λr H t f _ _=>q V _ _ _ ⟨f.ext,_,t,pV m (aq p),bN⟩
  exact⟨V,V,x,G,λv=>⟨λw=>q V _ _ _ ⟨c,a,j,m,V⟩,λw=>⟨V,V,x,G,A⟩⟩,λv=>⟨V,V,x,G,A⟩⟩
 .exact⟨s,a,rfl,j,⟨m,V⟩,c⟩
def Mu(a g:List Int):List Int:=g.foldl GQ a
def AU:∀{g a:List Int}{x:Int},x∈Mu a g<->x∈a\/x∈g
 |[],a,x=>by simp[Mu]
 |y::g,a,x=>by
  have h:=AU (g:=g) (a:=GQ a y) (x:=x);have e:Mu a (y::g)=Mu (GQ a y) g:=rfl;rw[e,h,EP,aV];constructor
  .rintro((h|h)|h)<;>simp[h]
  .rintro(h|h|h)<;>simp[h]
def wP:∀(g a:List Int),(Mu a g).length<=a.length+g.length
 |[],a=>by simp[Mu]
 |y::g,a=>by
  have:=wP g (GQ a y);have:=JE a y;show(Mu (GQ a y) g).length<=_;simp;omega
def Ly{a g:List Int}(h:g[k]? =some x):Mu a (g.take (k+1))=GQ (Mu a (g.take k)) x:=by
 unfold Mu;rw[bC h,List.foldl_append];rfl
def wJ(c:∀g∈S,g<d.size)(t:ap (bG S d) a e)(i:ap (bG S d) g j)(l:e.length+j.length<=10^12):iU 95 [O.v a,O.v g] d S (Mu e j=·):=by
 apply HV;refine(lL c t V).then λG _ C q o y=>⟨_,rfl,?_⟩;subst o;have u:=i.len;refine dx (n:=j.length) (u▸i.fu) (λk s b=>J d b/\GI S d b s (Mu e (j.take k))) ⟨y,q⟩ ?_;rintro k s D I μ A ⟨b,f⟩ v
 have r:=wP (j.take k) e;simp only[eJ]at r;refine dit (λh=>?_) λh=>?_
 .let⟨x,m⟩:=cg j k;refine⟨V,V,x,i.Ke b m,?_⟩;refine(nm (λg l=>aJ (c g l) b.size) (f.done c V) x V).then λF B E p w z=>⟨_,rfl,v V _ _ ⟨b.trans z,?_⟩⟩;rw[Ly m,w];exact p.cG (λ_ h=>h) b.size
 .rw[dk V]at f;exact⟨s,_,rfl,f,rfl,b⟩
def Oh(f:∀g∈S,g<d.size)(i:ap (bG S d) a e)(k:ap (bG S d) g j)(h:e.length+j.length<=10^12):iU 95 [O.v a,O.v g] d S (λb=>(∀x∈b,x∈e\/x∈j)/\b.length<=e.length+j.length):=
 (wJ f i k h).imp λb c=>c▸⟨λx l=>AU.1 l,wP _ _⟩
def sP(a:Int)(d:E):dz cq 235 [vi a] d (14<=a/\a<=17):=by
 apply xP;exact(aY _ _ _ _).then λg e c b=>⟨_,rfl,fU c b⟩
def eE(c:∀g∈S,g<d.size){fW:O}{a:List Int}(m:ap (bG S d) h e)(n:ap (bG S d) fW a)(l:e.length+a.length<=10^12):iU 106 [O.v h,O.v fW] d S (e++a=·):=by
 apply tY;refine(lL c m V).then λq _ p b j i=>⟨_,rfl,?_⟩;subst j;exact GI.all b (i.fz []) c (n.le (sE i b.bg.1)) l λr o k f _ _=>⟨r,_,rfl,k,rfl,f.ext⟩
def rh(t:∀g∈S,g<d.size)(l:ap (bG S d) h e)(b:Nat)(w:b+e.length<=10^12):iU 107 [O.v h,vi b] d S (λa=>(∀x∈a,(b:Int)<=x/\x<b+e.length)/\a.length<=e.length):=by
 apply BD;intro B;have u:=l.len;refine dx (n:=e.length) (u▸l.fu) (λk s c=>J d c/\∃a,GI S d c s a/\(∀x∈a,(b:Int)<=x/\x<b+e.length)/\a.length<=k) ⟨J.push d _,[],GI.nil S d,aH,ad _⟩ ?_;rintro k s C I μ A ⟨i,a,j,m,z⟩ o
 refine dit (λq=>?_) λq=>?_
 .let⟨x,v⟩:=cg e k;refine⟨V,V,x,l.Ke i v,λr=>?_,λr=>o V _ _ ⟨i,a,j,m,V⟩⟩;rw[aQ (b:=(b:Int)+k) V V];intro D;refine GI.ku j (i.fz []) t V λF E p f _ _=>o V _ _ ⟨f.ext,_,p,?_,bN⟩
  intro y c;rcases List.mem_append.1 c with c|c
  .exact m y c
  .simp at c;omega
 .exact⟨s,a,rfl,j,⟨m,V⟩,i⟩
def lA(o:∀g∈S,g<d.size)(b c:Nat)(q:b+c<=10^12):iU 65 [vi b,vi c] d S (λa=>(∀x∈a,(b:Int)<=x/\x<b+c)/\a.length=c):=by
 apply wD;intro u;refine dx (n:=c) V (λk s e=>J d e/\∃a,GI S d e s a/\(∀x∈a,(b:Int)<=x/\x<b+c)/\a.length=k) ⟨J.push d _,[],GI.nil S d,aH,rfl⟩ ?_;rintro k s v I μ t ⟨j,a,h,i,r⟩ p
 refine dit (λm=>?_) λm=>?_
 .rw[aQ (b:=(b:Int)+k) V V];intro w;refine GI.ku h (j.fz []) o V λA z l f _ _=>p V _ _ ⟨f.ext,_,l,?_,bN⟩
  intro y e;rcases List.mem_append.1 e with e|e
  .exact i y e
  .simp at e;omega
 .exact⟨s,a,rfl,h,⟨i,V⟩,j⟩
def GG(e:List Int):(e.map λx=>[Ce.i x]).flatten=e.map Ce.i:=by induction e<;>simp_all
def GI.set{S X:List Nat}{p d:E}{s:O}{e:List Int}(t:GI S p d s e)(M:Fz X p d){k:Nat}(B:k<e.length)(n:Int):
 fg d s.az (s.off+k*1) 1/\GI S p (ai d s.az (s.off+k*1) [.i n]) s (e.set k n)/\Fz X p (ai d s.az (s.off+k*1) [.i n])/\(∀g,g≠s.az->(ai d s.az (s.off+k*1) [.i n])[g]? =d[g]?):=by
 have R:=t.bg
 have T:=t.len bh
 let⟨v,j,I,h⟩:=t
 have Q:∀g,g≠s.az->(ai d s.az (s.off+k*1) [.i n])[g]? =d[g]? :=λg L=>bd _ _ _ _ L
 let⟨g,D,tail,q,F,u,G,H⟩:=I.aO.resolve_left v
 have N:j.flatten.length=e.length:=by rw[dp h.size,h.len];omega
 have P:j.flatten=e.map Ce.i:=by
  apply eL;intro f;rcases aU f e.length with a|a
  .let⟨x,l⟩:=dI a;let⟨cs,y⟩:=cg j f (by rw[h.len];exact a);have z:cs=[.i x]:=h.de f cs x y l;have w:=iJ (g:=1) h.size y (i:=0) (c:=.i x) (by rw[z];rfl);simp only[cO,jm]at w;rw[w];simp[l]
  .rw[bT V,bT (by simpa using a)]
 have C:s.off+k*1=k:=by rw[q];simp
 have w:s.az=g:=by rw[q];rfl
 refine⟨?_,⟨v,(e.set k n).map λx=>[.i x],⟨?_,Or.inr ⟨g,D,tail,q,F,?_,?_,H⟩⟩,⟨by rw[dO],λcs y=>?_,λU cs x A l=>?_⟩⟩,M.ai (Or.inr R.1) _ _,Q⟩
 .rw[C,w]
  exact u.fg (by simp only[aT,aW,cD];omega)
 .rw[GG,dO,iH];omega
 .have J:=cz.ai (m:=d) (b:=g) (r:=[.i n]) (o:=k) u
  rw[C,w,GG]
  have K:iO (j.flatten++tail) k [.i n]=(e.set k n).map Ce.i++tail:=by
   apply eL;intro f;rw[kV,P];by_cases z:f=k
   .subst z;rw[ak ⟨ad _,aH,bN⟩,aw (by simpa using B)];simp[B]
   .rw[ae bN];rcases aU f e.length with a|a
    .rw[aw (by simpa using a),aw (by simpa using a)];simp only[bR,dT (kG z)]
    .rw[aG (by simpa using a),aG (by simpa using a)];simp
  rw[<-K];exact J
 .rw[<-G,GG]
  simp only[aT,N,dO,iH]
 .simp only[Xj]at y
  obtain⟨x,_,rfl⟩:=y
  rfl
 .simp only[bR,l,lF,CK]at A
  exact A.symm
def ud(k:∀g∈S,g<d.size)(o:ap (bG S d) h e)(m:e.length<=10^12){a:Nat}(l:a<e.length)(n:Int):iU 149 [O.v h,vi a,vi n] d S (e.set a n=·):=by
 apply yp;refine(lL k o m).then λs _ q c b p=>⟨_,rfl,V,?_,?_⟩
 .subst b;have:=c.len bh;omega
 subst b;obtain⟨f,i,j,_⟩:=c.set (p.fz []) l n;exact⟨f,s,_,rfl,i,rfl,j.ext⟩
end
end Go.Proofs.YtdalfjkmdekijaaGreat
section
namespace Go.Vc
variable{l:List cE}{k n a:Nat}{x s:cE}{e d:List Nat}{c:Prop}
open Go.Proofs.YtdalfjkmdekijaaGreat
def Bk.ind{Q:Bk->Prop}(h:∀aC r,(∀s∈aC,∀b∈s.bF,Q b)->Q (.mk aC r)):∀b,Q b
 | .mk aC r=>h aC r λs _ b _=>Bk.ind h b
termination_by b=>SizeOf.sizeOf b
decreasing_by
 rename_i a c
 have d:=nV a
 have e:=nV c
 have f:SizeOf.sizeOf s.bF<SizeOf.sizeOf s:=by cases s;simp;omega
 simp;omega
def Ex.ind{Q:Ex->Prop}(h:∀a bK bF,(∀e∈bF,Q e)->Q (.mk a bK bF)):∀e,Q e
 | .mk a bK bF=>h a bK bF λe _=>Ex.ind h e
termination_by e=>SizeOf.sizeOf e
decreasing_by
 rename_i a
 have b:=nV a
 simp;omega
def sw(l:List cE):Nat:=(l.map LJ.w).sum
def bw(l:List Bk):Nat:=(l.map Bk.w).sum
def en(l:List Ex):Nat:=(l.map Ex.n).sum
@[simp] theorem uC:sw []=0:=rfl
@[simp] theorem yC:bw []=0:=rfl
@[simp] theorem WN:en []=0:=rfl
def lZ(x:cE)(l:List cE):sw (x::l)=x.w+sw l:=by simp[sw]
def tO(x:Bk)(l:List Bk):bw (x::l)=x.w+bw l:=by simp[bw]
def NK(x:Ex)(l:List Ex):en (x::l)=x.n+en l:=by simp[en]
def dt(a b:List cE):sw (a++b)=sw a+sw b:=by simp[sw]
def oc(a b:List Bk):bw (a++b)=bw a+bw b:=by simp[bw]
def MM(a b:List Ex):en (a++b)=en a+en b:=by simp[en]
def Bk.qd(s:List cE)(r:Int):(Bk.mk s r).w=1+sw s:=Bk.Y7 _
def Bk.lg(b:Bk):b.w=1+sw b.aC:=Bk.Y7 b
def cE.lg(s:cE):s.w=1+s.args.length+bw s.bF:=rfl
def Ex.RW(o n:Int)(k:List Ex):(Ex.mk o n k).n=1+en k:=by rw[Ex.n];rfl
def Ex.Yu(e:Ex):e.n=1+en e.bF:=by cases e;exact Ex.RW _ _ _
def pt(h:l[k]? =some x):sw (l.take (k+1))=sw (l.take k)+x.w:=by rw[bC h,dt,lZ,uC];rfl
def tP{l:List Bk}{x:Bk}(h:l[k]? =some x):bw (l.take (k+1))=bw (l.take k)+x.w:=by rw[bC h,oc,tO,yC];rfl
def JC{l:List Ex}{x:Ex}(h:l[k]? =some x):en (l.take (k+1))=en (l.take k)+x.n:=by rw[bC h,MM,NK,WN];rfl
def Au(l:List cE)(k:Nat):sw (l.take k)<=sw l:=by
 have:=dt (l.take k) (l.drop k);rw[dw]at this;omega
def JX(l:List Bk)(k:Nat):bw (l.take k)<=bw l:=by
 have:=oc (l.take k) (l.drop k);rw[dw]at this;omega
def Q7(l:List Ex)(k:Nat):en (l.take k)<=en l:=by
 have:=MM (l.take k) (l.drop k);rw[dw]at this;omega
def Oj(h:l[k]? =some x):x.w<=sw l:=by
 have:=pt h;have:=Au l (k+1);omega
def uj{l:List Bk}{x:Bk}(h:l[k]? =some x):x.w<=bw l:=by
 have:=tP h;have:=JX l (k+1);omega
def fw:∀l:List cE,l.length<=sw l
 |[]=>aH
 |x::l=>by have:=fw l;rw[lZ,aW,cE.lg];omega
def Bk.Gj(b:Bk):1<=b.w:=by rw[Bk.lg];omega
def pL:∀l:List Bk,l.length<=bw l
 |[]=>aH
 |x::l=>by have:=pL l;have:=x.Gj;rw[tO,aW];omega
def Qd:∀l:List Ex,l.length<=en l
 |[]=>aH
 |x::l=>by have:=Qd l;rw[NK,aW,Ex.Yu];omega
def oG(a:Int):Prop:=0<=a/\a<=11
instance(a:Int):Decidable (oG a):=inferInstanceAs (Decidable (_/\_))
def dn(s:cE):Nat:=if oG s.op then 1 else 0
def dc(l:List cE):Nat:=(l.map dn).sum
@[simp] theorem sB:dc []=0:=rfl
def jY(x:cE)(l:List cE):dc (x::l)=dn x+dc l:=by simp[dc]
def cF(a b:List cE):dc (a++b)=dc a+dc b:=by simp[dc]
def ql(h:l[k]? =some x):dc (l.take (k+1))=dc (l.take k)+dn x:=by rw[bC h,cF,jY,sB];rfl
def Te(l:List cE)(k:Nat):dc (l.take k)<=dc l:=by
 have:=cF (l.take k) (l.drop k);rw[dw]at this;omega
def Yc(x:cE):dn x<=1:=by unfold dn;split<;>omega
def pM:∀l:List cE,dc l<=l.length
 |[]=>aH
 |x::l=>by have:=pM l;have:=Yc x;rw[jY,aW];omega
def AE(a:List bo)(b bK:Int)(i:Nat):Nat:=if b=8 then(bZ a (((bY a bK)[i]?).getD 0)).length else 0
def Ar(b:List bo)(e:List Nat)(a bK:Int)(n:Nat):Prop:=
 if a=0 then n=0/\-999<=bK/\bK<=999
 else if a=1\/a=2\/a=3\/a=4\/a=11 then n=2/\bK=0
 else if a=5 then n=1/\bK=0
 else if a=6 then(0<=bK/\bK<(eI b).length)/\n=(bZ b bK).length
 else if a=9 then 0<=bK/\e[bK.toNat]? =some n
 else if a=10 then 0<=bK/\e[bK.toNat]? =some (n+1)
 else True
structure OI(ds:List bo)(d:List Nat)(c:Prop)(a:Nat)(s:cE):Prop where
 op:oG s.op\/c/\14<=s.op/\s.op<=17
 args:∀x∈s.args,0<=x/\x<(a:Int)
 ln:14<=s.op\/s.op=7\/s.op=8->s.args.length=1
 bW:0<=s.bW/\s.bW<=(a:Int)
 Jw:s.op=7->s.bF.length=2
 all:s.op=8->s.bF.length=(bY ds s.bK).length/\0<s.bF.length
 Zl:s.bW≠0->s.op=6
 ar:Ar ds d s.op s.bK s.args.length
def Ar.call{b:List bo}{a bK:Int}(h:Ar b e a bK n)(c:a=9):0<=bK/\bK<(e.length:Int):=by
 subst c;have h:0<=bK/\e[bK.toNat]? =some n:=by simpa[Ar]using h
 have:=ax h.2;omega
def Ar.ZV{b:List bo}{a bK:Int}(h:11<a):Ar b e a bK n:=by
 unfold Ar;rw[ae V,ae V,ae V,ae V,ae V,ae V];trivial
def OI.call{b:List bo}{d:List Nat}{c:Prop}{a:Nat}{s:cE}(h:OI b d c a s):s.op=9->0<=s.bK/\s.bK<(d.length:Int):=h.ar.call
inductive WB(ds:List bo)(d:List Nat)(c:Prop):Nat->Bk->Prop
 |mk {a:Nat} {aC:List cE} {r:Int} (dU:∀(i:Nat)(s:cE),aC[i]? =some s->OI ds d c (a+dc (aC.take i)) s)
  (bF:∀(i:Nat)(s:cE)(k:Nat)(b:Bk),aC[i]? =some s->s.bF[k]? =some b->WB ds d c (a+dc (aC.take i)+AE ds s.op s.bK k) b)
  (res:0<=r/\r<((a+dc aC:Nat):Int)):WB ds d c a (.mk aC r)
structure WS(ds:List bo)(d:List Nat)(c:Prop)(a:Nat)(s:cE):Prop where
 dU:OI ds d c a s
 bF:∀(k:Nat)(b:Bk),s.bF[k]? =some b->WB ds d c (a+AE ds s.op s.bK k) b
def WL(b:List bo)(d:List Nat)(c:Prop)(a:Nat)(l:List cE):Prop:=∀(i:Nat)(s:cE),l[i]? =some s->WS b d c (a+dc (l.take i)) s
def WB.bB{e:List bo}{b:Bk}(h:WB e d c a b):WL e d c a b.aC/\0<=b.aR/\b.aR<((a+dc b.aC:Nat):Int):=by
 cases h with
 |mk dU bF j=>exact⟨λi s f=>⟨dU i s f,λk b g=>bF i s k b f g⟩,j⟩
def WB.of{e:List bo}{aC:List cE}{r:Int}(h:WL e d c a aC)(j:0<=r/\r<((a+dc aC:Nat):Int)):WB e d c a (.mk aC r):=
 .mk (λi s b=>(h i s b).dU) (λi s k f b g=>(h i s b).bF k f g) j
def WL.nil(b:List bo)(d:List Nat)(c:Prop)(a:Nat):WL b d c a []:=λi s h=>by simp at h
def WL.append{f:List bo}{g:List cE}(h:WL f d c a l)(j:WL f d c (a+dc l) g):WL f d c a (l++g):=λi s e=>by
 rcases aU i l.length with b|b
 .rw[aw b]at e;rw[mO V];exact h i s e
 .rw[aG b]at e;have:=j _ s e;rw[List.take_append,dk b,cF,<-dR];exact this
def WL.ln{e:List bo}(h:WS e d c a s):WL e d c a [s]:=λi x b=>by
 have:i=0:=by have:=ax b;simp at this;omega
 subst this;simp at b;subst b;simpa using h
def WL.y9{b:List bo}(h:WL b d c a l)(e:WS b d c (a+dc l) s):WL b d c a (l++[s]):=h.append (.ln e)
def WL.take{e:List bo}(h:WL e d c a l)(k:Nat):WL e d c a (l.take k):=λi s b=>by
 rw[mV]at b;split at b
 .rw[LD,jt V];exact h i s b
 .simp at b
def WL.drop{b:List bo}(h:WL b d c a l)(k:Nat):WL b d c (a+dc (l.take k)) (l.drop k):=λi s e=>by
 rw[ry]at e;have:=h _ s e;rw[List.take_add,cF,<-dR]at this;exact this
end Go.Vc
end
namespace Go.Proofs.YtdalfjkmdekijaaGreat
open Go.Vc
section
variable{m:E}{d p:O}{b:cp}
def uK(b:cp)(bK:Int)(n:Nat):Prop:=∃q:cZ,0<=bK/\b.cv[bK.toNat]? =some q/\q.params.length=n
def Um:cQ 9223372036854775808= -9223372036854775808:=bh
def vC(h:eX m d p b)(bK:Int)(n fW:Nat)(I:n<=9223372036854775807)(H:fW<=1):
 dz cq 180 [.agg #[O.v d,O.v p],vi bK,vi n,vi fW] m (uK b bK (n+fW)):=by
 apply BV
 simp -zeta only[aE,aD]
 intro j
 have i:J m j:=(J.aF m).aP _
 have w:∀k∈[m.size],k<j.size:=by simp[j]
 have K:=h.cv.len
 have L:=h.cv.fu
 refine(aY _ _ _ _).aI (J.aF _) w λk M o f B=>⟨_,rfl,λa=>?_,λa=>?_⟩
 .have a:=o.1 a
  rw[aQ V V]at a
  let⟨q,g⟩:=cg b.cv bK.toNat
  let⟨e,x,y,l,D,E,s,g1,g2,z,A⟩:=(gK.ext (i.trans f) h.cv).aO g
  refine⟨V,V,e,s,fU ?_ (i.trans f)⟩
  have u:=l.len
  have C:=l.fu
  simp only[aM]
  have r:(e.len:Int)=cQ ((n:Int)+(fW:Int))<->e.len=n+fW:=by
   rcases aU (n+fW) 9223372036854775808 with G|F
   .rw[aQ V V];omega
   .have c:(n:Int)+(fW:Int)=9223372036854775808:=V;rw[c,Um];omega
  rw[r,u]
  exact⟨λv=>⟨q,a.1,g,v⟩,λ⟨N,_,c,t⟩=>by rw[g]at c;simp at c;rw[c];exact t⟩
 .refine cr (λ⟨q,e,c,_⟩=>fb o a ?_) (i.trans f)
  have:=ax c
  rw[aQ V V]
  omega
def kM(b:cp)(p:cZ)(k:Nat)(i:Instr):Prop:=
 if i.op=0 then i.args.length=0/\-999<=i.bK/\i.bK<=999
 else if i.op=1\/i.op=2\/i.op=3\/i.op=4\/i.op=11 then i.args.length=2/\i.bK=0
 else if i.op=5\/i.op=14\/i.op=15\/i.op=18\/i.op=23 then i.args.length=1/\i.bK=0
 else if i.op=6 then(0<=i.bK/\i.bK<(eI b.bt).length)/\i.args.length=(bZ b.bt i.bK).length/\0<=i.bW/\i.bW<=p.av
 else if i.op=9\/i.op=24 then uK b i.bK i.args.length
 else if i.op=10 then uK b i.bK (i.args.length+1)/\∀q,b.cv[i.bK.toNat]? =some q->q.df.length=0
 else if i.op=16\/i.op=17 then(1<=i.args.length/\i.args.length<=4)/\i.bK=0
 else if i.op=19 then i.args.length=1/\0<=i.bK/\i.bK<=2
 else if i.op=20 then i.args.length=1/\(k:Int)+1<=i.bK/\i.bK<=(p.bn.length:Int) -1
 else if i.op=22 then i.args.length=0/\(k:Int)+1<=i.bK/\i.bK<=(p.bn.length:Int) -1
 else if i.op=21 then i.args.length=1/\0<(bY b.bt i.bK).length/\Nw i.di (bY b.bt i.bK).length k p.bn.length
 else False
structure iu(b:cp)(p:cZ)(k:Nat)(i:Instr):Prop where
 args:∀a∈i.args,0<=a/\a<=p.av -1
 dst:0<=i.dst/\i.dst<=p.av -1
 U1:i.dst=0\/jD i.op
 bW:i.bW=0\/i.op=6
 di:i.op=21\/i.di.length=0
 op:kM b p k i
structure OL(m:E)(a l:O)(c:O)(p:cZ):Prop where
 params:ap m a p.params
 df:ap m l p.df
 bn:eu m c p.bn
def OL.ext{m d:E}(a:J m d){b l c:O}{p:cZ}(h:OL m b l c p):OL d b l c p:=⟨h.params.ext a,h.df.ext a,eu.ext a h.bn⟩
def DT(ai:eX m d p b)(X:dH b.bt){ab ah S:O}{q:cZ}(U:OL m ab ah S q)(hr:1<=q.av/\q.av<=2000){k:Nat}{i:Instr}(hk:q.bn[k]? =some i):
 dz cq 135 [.agg #[O.v d,O.v p],.agg #[O.v ab,O.v ah,vi q.aR,vi q.av,O.v S],vi k] m (iu b q k i):=by
 apply yh
 simp -zeta only[aE,aD]
 intro m1 N
 have Z:J m N:=((J.aF m).aP _).aP _
 have aJ:=ax hk
 have ac:=U.bn.len
 have aF:=U.bn.fu
 let⟨xa,M,P,hj,g0,g1,g2,g3,g4,g5⟩:=(eu.ext Z U.bn).aO hk
 refine⟨V,V,_,g0,_,g1,_,g2,_,g3,_,g4,_,g5,?_⟩
 intro m3 z
 have r:J m z:=(Z.aP _).ai Z.size _ _
 have ag:J N z:=((J.aF N).aP _).ai (ad _) _ _
 have v:∀A∈[N.size,m1.size,m.size],A<z.size:=by
  simp[z,m3,N,m1,aA];omega
 clear_value z
 have T:=P.len
 have aI:=hj.len
 have az:=P.fu
 have er:cQ (q.av -1)=q.av -1:=aQ V V
 rw[er]
 refine dZ (n:=i.args.length) (T▸P.fu) (λaa s=>J z s/\∀x∈i.args.take aa,0<=x/\x<=q.av -1) ⟨J.aF _,aH⟩ ?_
 rintro aa m5 aw μ aG ⟨Y,hn⟩ au
 refine dit (λh1=>?_) λh1=>?_
 .let⟨x,a⟩:=cg i.args aa
  refine⟨V,V,x,by simpa using(ag.trans Y).af (P.aO a),?_⟩
  exact(aY _ _ _ _).aI Y v λA w e g f=>⟨_,rfl,λc=>cr (λh=>nb e c (h.args x (aq a))) (r.trans f),λc=>au V _ ⟨f,bM a hn (yb e c)⟩⟩
 .have aj:=cU V hn
  refine⟨λs=>J z s/\(0<=i.dst/\i.dst<=q.av -1)/\(i.dst=0\/jD i.op)/\(i.bW=0\/i.op=6)/\(i.op=21\/i.di.length=0),?_,?_⟩
  .refine(aY _ _ _ _).aI Y v λA w e g f=>⟨_,rfl,λc=>cr (λh=>nb e c h.dst) (r.trans f),λc=>?_⟩
   have R:=yb e c
   have tail:∀s:E,J z s->(i.dst=0\/jD i.op)->
    ((i.bW !=0)=true->((i.op !=6)=true->∃B:Bool,vb false=.bool B/\(B=true<->iu b q k i)/\J m s)/\((i.op !=6)=false->
     ((i.op !=21)=true->((decide ((M.len:Int)>0))=true->∃B:Bool,vb false=.bool B/\(B=true<->iu b q k i)/\J m s)/\((decide ((M.len:Int)>0))=false->J z s/\(0<=i.dst/\i.dst<=q.av -1)/\(i.dst=0\/jD i.op)/\(i.bW=0\/i.op=6)/\(i.op=21\/i.di.length=0)))/\
     ((i.op !=21)=false->J z s/\(0<=i.dst/\i.dst<=q.av -1)/\(i.dst=0\/jD i.op)/\(i.bW=0\/i.op=6)/\(i.op=21\/i.di.length=0))))/\
    ((i.bW !=0)=false->
     ((i.op !=21)=true->((decide ((M.len:Int)>0))=true->∃B:Bool,vb false=.bool B/\(B=true<->iu b q k i)/\J m s)/\((decide ((M.len:Int)>0))=false->J z s/\(0<=i.dst/\i.dst<=q.av -1)/\(i.dst=0\/jD i.op)/\(i.bW=0\/i.op=6)/\(i.op=21\/i.di.length=0)))/\
     ((i.op !=21)=false->J z s/\(0<=i.dst/\i.dst<=q.av -1)/\(i.dst=0\/jD i.op)/\(i.bW=0\/i.op=6)/\(i.op=21\/i.di.length=0))):=by
    intro s l Q
    have u:(i.bW=0\/i.op=6)->((i.op !=21)=true->((decide ((M.len:Int)>0))=true->∃B:Bool,vb false=.bool B/\(B=true<->iu b q k i)/\J m s)/\((decide ((M.len:Int)>0))=false->J z s/\(0<=i.dst/\i.dst<=q.av -1)/\(i.dst=0\/jD i.op)/\(i.bW=0\/i.op=6)/\(i.op=21\/i.di.length=0)))/\
     ((i.op !=21)=false->J z s/\(0<=i.dst/\i.dst<=q.av -1)/\(i.dst=0\/jD i.op)/\(i.bW=0\/i.op=6)/\(i.op=21\/i.di.length=0)):=by
     intro t
     refine⟨λa=>⟨λj=>?_,λj=>?_⟩,λa=>?_⟩
     .simp at a j
      exact cr (λh=>by rcases h.di with o|o<;>omega) (r.trans l)
     .simp at j
      exact⟨l,R,Q,t,Or.inr V⟩
     .simp at a
      exact⟨l,R,Q,t,Or.inl a⟩
    refine⟨λa=>⟨λj=>?_,λj=>u (Or.inr (by simpa using j))⟩,λa=>u (Or.inl (by simpa using a))⟩
    simp at a j
    exact cr (λh=>by rcases h.bW with o|o<;>contradiction) (r.trans l)
   refine⟨λa=>?_,λa=>tail w f (Or.inl (by simpa using a))⟩
   refine(rX _ _).aI f v λA x e j o=>⟨_,rfl,λG=>?_,λG=>tail x o (Or.inr (yb e G))⟩
   simp at a
   exact cr (λh=>by rcases h.U1 with I|I;exact a I;exact nb e G I) (r.trans o)
  .rintro m8 ⟨x,R,Q,an,ap⟩
   have y:=r.trans x
   have am:iu b q k i<->kM b q k i:=⟨λh=>h.op,λh=>⟨aj,R,Q,an,ap,h⟩⟩
   rw[am]
   have K:eX m8 d p b:=eX.ext y ai
   refine⟨λt=>?_,λt=>?_⟩
   .simp only[aM]at t
    have h:kM b q k i<->i.args.length=0/\-999<=i.bK/\i.bK<=999:=by rw[kM,ak t]
    rw[h]
    refine⟨λg=>?_,λg=>?_⟩
    .simp only[aM]at g
     refine(aY _ _ _ _).aI x v λA H e f c=>⟨_,rfl,fU ?_ (r.trans c)⟩
     rw[e];omega
    .simp only[ao]at g
     exact cr V y
   simp only[ao]at t
   refine⟨λu=>?_,λu=>?_⟩
   .simp only[cB,aM]at u
    have h:kM b q k i<->i.args.length=2/\i.bK=0:=by rw[kM,ae t,ak u]
    rw[h]
    refine⟨λg=>fU ?_ y,λg=>cr ?_ y⟩
    .simp only[aM]at g⊢;omega
    .simp only[ao]at g;omega
   simp only[bU,ao]at u
   replace u:¬(i.op=1\/i.op=2\/i.op=3\/i.op=4\/i.op=11):=V
   refine⟨λw=>?_,λw=>?_⟩
   .simp only[cB,aM]at w
    have h:kM b q k i<->i.args.length=1/\i.bK=0:=by rw[kM,ae t,ae u,ak w]
    rw[h]
    refine⟨λg=>fU ?_ y,λg=>cr ?_ y⟩
    .simp only[aM]at g⊢;omega
    .simp only[ao]at g;omega
   simp only[bU,ao]at w
   replace w:¬(i.op=5\/i.op=14\/i.op=15\/i.op=18\/i.op=23):=V
   refine⟨λC=>?_,λC=>?_⟩
   .simp only[aM]at C
    have h:kM b q k i<->(0<=i.bK/\i.bK<(eI b.bt).length)/\i.args.length=(bZ b.bt i.bK).length/\0<=i.bW/\i.bW<=q.av:=by rw[kM,ae t,ae u,ae w,ak C]
    rw[h]
    refine(lK K.bt X _).aI x v ?_
    rintro _ H ⟨aB,rfl,D,f⟩
    refine⟨f,_,rfl,dit (λc=>?_) λc=>?_⟩
    .have al:0<=i.bK/\i.bK<(eI b.bt).length:=by
      rcases D with⟨F,L,a,j,o,G⟩|⟨a,_⟩
      .have:=Q8 b.bt (show F+1<=b.bt.length from ax j);rw[rP j,nJ b.bt _ (ad _)]at this;omega
      .omega
     refine(Fo (bX.ext f K.bt) X _).aI (x.trans f) v ?_
     rintro _ ar ⟨av,rfl,W,a⟩
     have af:=W.len
     refine⟨a,_,rfl,λj=>?_,λj=>?_⟩
     .simp only[aM]at j
      refine(aY _ _ _ _).aI ((x.trans f).trans a) v λA ay e o G=>⟨_,rfl,fU ?_ (r.trans G)⟩
      rw[e]
      exact⟨λl=>⟨al,V,l⟩,λl=>l.2.2⟩
     .simp only[ao]at j
      exact cr (λl=>j V) ((y.trans f).trans a)
    .refine cr (λl=>?_) (y.trans f)
     rcases D with⟨F,L,a,j,o,G⟩|⟨_,a⟩
     .omega
     .exact a l.1
   simp only[ao]at C
   refine⟨λD=>?_,λD=>?_⟩
   .simp only[cB,aM]at D
    have h:kM b q k i<->uK b i.bK (i.args.length+0):=by rw[kM,ae t,ae u,ae w,ae C,ak D];rfl
    rw[h]
    have L:=vC K i.bK i.args.length 0 V V
    rw[T]
    refine L.aI x v λA H e f c=>⟨_,rfl,fU e (r.trans c)⟩
   simp only[bU,ao]at D
   replace D:¬(i.op=9\/i.op=24):=V
   refine⟨λF=>?_,λF=>?_⟩
   .simp only[aM]at F
    have h:kM b q k i<->uK b i.bK (i.args.length+1)/\∀q,b.cv[i.bK.toNat]? =some q->q.df.length=0:=by rw[kM,ae t,ae u,ae w,ae C,ae D,ak F]
    rw[h]
    have L:=vC K i.bK i.args.length 1 V V
    rw[T]
    refine L.aI x v λA H e f c=>⟨_,rfl,λa=>?_,λa=>cr (λl=>fb e a l.1) (r.trans c)⟩
    let⟨q',j,o,G⟩:=(e.1 a)
    let⟨a',B,c',ay,al,aC,f0,f1,f2,f3,f4⟩:=(gK.ext f K.cv).aO o
    have:=K.cv.len
    have:=ax o
    refine⟨V,V,B,f1,fU ?_ (r.trans c)⟩
    have aB:=al.len
    simp only[aM]
    refine⟨λl=>⟨⟨q',j,o,G⟩,λaK I=>?_⟩,λl=>?_⟩
    .rw[o]at I;simp at I;subst I;omega
    .have:=l.2 q' o;omega
   simp only[ao]at F
   refine⟨λB=>?_,λB=>?_⟩
   .simp only[cB,aM]at B
    have h:kM b q k i<->(1<=i.args.length/\i.args.length<=4)/\i.bK=0:=by rw[kM,ae t,ae u,ae w,ae C,ae D,ae F,ak B]
    rw[h]
    refine(aY _ _ _ _).aI x v λA H e f c=>⟨_,rfl,λa=>fU ?_ (r.trans c),λa=>cr ?_ (r.trans c)⟩
    .have a:=e.1 a
     simp only[aM];omega
    .have a:=fb e a;omega
   simp only[bU,ao]at B
   replace B:¬(i.op=16\/i.op=17):=V
   refine⟨λG=>?_,λG=>?_⟩
   .simp only[aM]at G
    have h:kM b q k i<->i.args.length=1/\0<=i.bK/\i.bK<=2:=by rw[kM,ae t,ae u,ae w,ae C,ae D,ae F,ae B,ak G]
    rw[h]
    refine⟨λg=>?_,λg=>?_⟩
    .simp only[aM]at g
     refine(aY _ _ _ _).aI x v λA H e f c=>⟨_,rfl,fU ?_ (r.trans c)⟩
     rw[e];omega
    .simp only[ao]at g
     exact cr V y
   simp only[ao]at G
   have ek:cQ ((k:Int)+1)=(k:Int)+1:=aQ V V
   have ec:cQ ((S.len:Int) -1)=(q.bn.length:Int) -1:=by rw[aQ V V,ac]
   rw[ek,ec]
   refine⟨λI=>?_,λI=>?_⟩
   .simp only[aM]at I
    have h:kM b q k i<->i.args.length=1/\(k:Int)+1<=i.bK/\i.bK<=(q.bn.length:Int) -1:=by rw[kM,ae t,ae u,ae w,ae C,ae D,ae F,ae B,ae G,ak I]
    rw[h]
    refine⟨λg=>?_,λg=>?_⟩
    .simp only[aM]at g
     refine(aY _ _ _ _).aI x v λA H e f c=>⟨_,rfl,fU ?_ (r.trans c)⟩
     rw[e];omega
    .simp only[ao]at g
     exact cr V y
   simp only[ao]at I
   refine⟨λL=>?_,λL=>?_⟩
   .simp only[aM]at L
    have h:kM b q k i<->i.args.length=0/\(k:Int)+1<=i.bK/\i.bK<=(q.bn.length:Int) -1:=by rw[kM,ae t,ae u,ae w,ae C,ae D,ae F,ae B,ae G,ae I,ak L]
    rw[h]
    refine⟨λg=>?_,λg=>?_⟩
    .simp only[aM]at g
     refine(aY _ _ _ _).aI x v λA H e f c=>⟨_,rfl,fU ?_ (r.trans c)⟩
     rw[e];omega
    .simp only[ao]at g
     exact cr V y
   simp only[ao]at L
   refine⟨λg=>?_,λg=>?_⟩
   .simp only[aM]at g
    have h:kM b q k i<->i.args.length=1/\0<(bY b.bt i.bK).length/\Nw i.di (bY b.bt i.bK).length k q.bn.length:=by rw[kM,ae t,ae u,ae w,ae C,ae D,ae F,ae B,ae G,ae I,ae L,ak g]
    rw[h]
    refine(zj K.bt X _).aI x v ?_
    rintro _ H ⟨av,rfl,W,f⟩
    have af:=W.len
    refine⟨f,_,rfl,λc=>?_,λc=>?_⟩
    .simp only[aM]at c
     refine dit (λa=>?_) λa=>?_
     .rw[af,ac]
      refine(DU (hj.ext (ag.trans (x.trans f))) _ _ _ V V).aI (x.trans f) v λA ar e j o=>⟨_,rfl,fU ?_ (r.trans o)⟩
      rw[e]
      exact⟨λl=>⟨V,V,l⟩,λl=>l.2.2⟩
     .exact cr (λl=>V) (y.trans f)
    .simp only[ao]at c
     exact cr (λl=>V) (y.trans f)
   .simp only[ao]at g
    have h:kM b q k i<->False:=by rw[kM,ae t,ae u,ae w,ae C,ae D,ae F,ae B,ae G,ae I,ae L,ae g]
    rw[h]
    exact cr (λl=>l) y
end
section
variable{a:E}{d p:O}{b:cp}
structure JQ(ds:List bo)(ps:List cZ):Prop where
 types:dH ds
 len:1<=ps.length/\ps.length<=4
 de:∀p∈ps,p.params.length<=3/\Eh ds.length p.params/\yv ds.length p.aR
 first:∀p,ps[0]? =some p->p.params.length=0/\p.aR=0
def nX(a:E)(c:List Ce)(p:cZ):Prop:=∃b,c=[.s b,.i p.aR,.i 0,.i 0,.s .nil]/\ap a b p.params
def nX.ext{a d:E}(h:J a d)(b:List Ce)(c:cZ):nX a b c->nX d b c:=λ⟨f,e,g⟩=>⟨f,e,g.ext h⟩
def Sz.aO{s:O}{l:List cZ}(h:eN a 5 (nX a) s l){k:Nat}{x:cZ}(e:l[k]? =some x):
 ∃b,ap a b x.params/\af a s.az (s.off+k*5)=some (O.v b)/\af a s.az (s.off+k*5+1)=some (vi x.aR)/\af a s.az (s.off+k*5+2)=some (vi 0)/\af a s.az (s.off+k*5+3)=some (vi 0)/\af a s.az (s.off+k*5+4)=some (O.v .nil):=by
 obtain⟨f,⟨b,rfl,d⟩,c⟩:=h.jC k x e
 exact⟨b,d,c 0 (.s b) rfl,c 1 (.i x.aR) rfl,c 2 (.i 0) rfl,c 3 (.i 0) rfl,c 4 (.s .nil) rfl⟩
def uc{D:O}{k:List bo}{j:List cZ}(hd:bX a d k)(y:eN a 5 (nX a) D j):
 dz cq 82 [.agg #[O.v d,O.v D]] a (JQ k j):=by
 apply Ap
 simp -zeta only[aE,aD]
 intro q
 have o:J a q:=(J.aF a).aP _
 have z:∀g∈[a.size],g<q.size:=by simp[q]
 have m:=hd.len
 have aa:=y.len
 refine(DX (bX.ext o hd)).aI (J.aF _) z λg m2 c N Q=>⟨_,rfl,λv=>cr (λb=>nb c v b.types) (o.trans N),λv=>?_⟩
 have T:=yb c v
 refine(aY _ _ _ _).aI Q z λg m3 c Z H=>⟨_,rfl,λw=>cr (λb=>nb c w (oh b.len)) (o.trans H),λw=>?_⟩
 have ab:=yb c w
 refine dZ (n:=j.length) V (λB e=>J q e/\∀p∈j.take B,p.params.length<=3/\Eh k.length p.params/\yv k.length p.aR) ⟨H,aH⟩ ?_
 rintro B C X μ hj ⟨A,K⟩ W
 have f:=o.trans A
 refine dit (λR=>?_) λR=>?_
 .let⟨p,e⟩:=cg j B
  let⟨M,l,s,g1,g2,E,F⟩:=Sz.aO (y.mono f (nX.ext f)) e
  have S:=l.len
  refine⟨V,V,_,s,_,g1,_,g2,_,E,_,F,?_⟩
  intro L r
  have i:J C r:=((J.aF C).aP _).ai (ad _) _ _
  have I:∀g∈[C.size,a.size],g<r.size:=by
   have:=A.lt (z a.size aH);have:=i.size;simp[r,L,aA];simp[r,L,aA]at this;omega
  refine dit (λh=>?_) λh=>?_
  .exact cr (λb=>oh ((b.de p (aq e)).1)) (f.trans i)
  refine(vg (l.ext i) _).aI (J.aF _) I λg m7 c x P=>⟨_,rfl,λt=>cr (λb=>nb c t (m▸(b.de p (aq e)).2.1)) ((f.trans i).trans x),λt=>?_⟩
  have U:=yb c t
  refine(aY _ _ _ _).aI P I λg m8 c Y G=>⟨_,rfl,λu=>?_,λu=>?_⟩
  .refine cr (λb=>nb c u ?_) ((f.trans i).trans G)
   rw[m];exact(b.de p (aq e)).2.2
  .refine W V _ ⟨(A.trans i).trans G,bM e K ⟨V,m▸U,?_⟩⟩
   have:=yb c u
   rw[m]at this;exact this
 .have r:=cU V K
  let⟨p,e⟩:=cg j 0
  let⟨M,l,s,g1,g2,E,F⟩:=Sz.aO (y.mono f (nX.ext f)) e
  have S:=l.len
  refine⟨V,V,_,s,λh=>?_,λh=>?_⟩
  .simp only[aM]at h
   refine⟨V,V,_,g1,fU ?_ f⟩
   simp only[aM]
   refine⟨λx=>⟨T,V,r,λt i=>?_⟩,λb=>(b.first p e).2⟩
   rw[e]at i;simp at i;subst i
   exact⟨V,x⟩
  .simp only[ao]at h
   exact cr (λb=>h (oh ((b.first p e).1))) f
def Cb(M:eX a d p b)(ap:b.cv.length<=4):
 aN cq 83 [.agg #[O.v d,O.v p]] a λal j=>∃L,al=.agg #[O.v d,O.v L]/\eN j 5 (nX j) L b.cv/\J a j:=by
 apply wG
 simp -zeta only[aE,aD]
 intro q k e K l
 have aq:=M.cv.len
 have ah:J a K:=(((J.aF a).aP _).aP _|>.aP _).aP _
 have s3:e.size=a.size+3:=by simp[e,k,q]
 have s2:k.size=a.size+2:=by simp[k,q]
 have s1:q.size=a.size+1:=by simp[q]
 have s5:l.size=a.size+4:=by simp[l,K,aA,s3]
 have ai:J a l:=ah.ai V _ _
 have aa:cz l e.size jW [.s d,.s (.mk k.size 0 0 0)]:=cz.ai (m:=K) (o:=0) (r:=[.s d,.s (.mk k.size 0 0 0)]) (cz.push e _ _)
 have ag:J e l:=((J.aF e).aP _).ai (ad _) _ _
 have ae:fZ a l eV 5 (.mk k.size 0 0 0) ([]:List (List Ce)).flatten:=
  (fZ.new (((J.aF a).aP _).aP _:J a k) eV 5 [] 0 aH:fZ a e eV 5 (.mk k.size 0 0 0) []).ext ag
 clear_value l
 refine dZ (n:=b.cv.length) V (λC j=>J a j/\l.size<=j.size/\∃g w,cz j e.size jW [.s d,.s g]/\fZ a j eV 5 g w.flatten/\gT 5 (nX a) w (b.cv.take C)/\g≠.nil/\q.size<g.az/\g.az≠e.size/\g.len=C)
  ⟨ai,ad _,_,[],aa,ae,by simpa using gT.nil 5 (nX a),aH,bN,bN,rfl⟩ ?_
 rintro C z am μ hk ⟨A,ax,g,w,x,P,I,au,ar,af,R⟩ ak
 refine dit (λT=>?_) λT=>?_
 .let⟨D,Q⟩:=cg b.cv C
  let⟨s,c,an,Z,f,hc,S,g1,g2,g3,g4⟩:=M.cv.aO Q
  refine⟨g,x.cJ 1,V,V,s,by simpa using A.af S,V,V,_,by simpa using A.af g2,?_⟩
  intro h
  have B:J z h:=J.push _ _
  refine⟨B.dA (x.cJ 1),?_⟩
  have k8:gP h z.size 0 [.s s,.i D.aR,.i 0,.i 0,.s .nil]:=(cz.push z _ _).jC
  have ac:=x.ext B
  have av:h.size=z.size+1:=by simp[h]
  clear_value h
  refine fZ.append (zs:=[.s .nil,.i 0,.i 0,.i 0,.s .nil]) (d:=[.s s,.i D.aR,.i 0,.i 0,.s .nil]) (P.ext B) (A.trans B) rfl k8 (by simp[R];omega) ?_
  intro v t X Y F ao U W
  have E:∀c,c<h.size->c≠g.az->t[c]? =h[c]? :=λc f G=>U c f (λ_=>G)
  have y:q.size<v.az/\v.az≠e.size:=by
   rcases W with⟨_,i⟩|⟨_,i,_⟩|i
   .rw[i]at F;simp at F
   .rw[i];constructor<;>omega
   .rw[i];constructor<;>omega
  have N:cz t e.size jW [.s d,.s g]:=ac.congr (E _ V (λi=>af i.symm))
  refine⟨λc f=>?_,N.fg aH,?_⟩
  .simp at f
   rcases f with rfl|rfl
   .exact E _ V V
   .exact E _ V V
  intro u
  have aw:u.size=t.size:=by simp[u,aA]
  have ab:cz u e.size jW [.s d,.s v]:=cz.ai (m:=t) (o:=1) (r:=[.s v]) N
  have H:∀c,c≠e.size->u[c]? =t[c]? :=λc f=>bd _ _ _ _ f
  have aj:J a u:=Y.ai V _ _
  clear_value u
  refine⟨λc f=>?_,?_⟩
  .simp at f
   rcases f with rfl|rfl
   .exact H _ V
   .exact H _ V
  refine ak V _ ⟨aj,V,v,w++[[.s s,.i D.aR,.i 0,.i 0,.s .nil]],ab,?_,?_,?_,y.1,y.2,by simp[F,R]⟩
  .rw[xt]
   exact(by simpa using X:fZ a t eV 5 v (w.flatten++[[.s s,.i D.aR,.i 0,.i 0,.s .nil]].flatten)).congr (H _ y.2)
  .rw[bC Q]
   exact I.y9 rfl ⟨s,rfl,Z⟩
  .intro i
   rw[i]at y;simp at y
 .refine⟨d,x.cJ 0,g,x.cJ 1,?_⟩
  intro h
  have G:∀c,c≠q.size->h[c]? =z[c]? :=λc f=>bd _ _ _ _ f
  have i:J a h:=A.ai V _ _
  refine⟨g,rfl,?_,i⟩
  rw[cy V]at I
  exact(eN.fP (P.congr (G _ V)) I V V).mono (J.aF _) (nX.ext i)
structure QT(B:Int)(b:cp)(p:cZ):Prop where
 df:CO p.params p.df
 av:(p.params.length:Int)<=p.av/\1<=p.av/\p.av<=B
 len:1<=p.bn.length/\(p.bn.length:Int)<=B
 de:∀(k:Nat)(i:Instr),p.bn[k]? =some i->iu b p k i
 yP:∀i,p.bn[p.bn.length -1]? =some i->i.op=23\/i.op=24
abbrev P1:=QT 2000
def Ga(N:eX a d p b)(T:dH b.bt){C K w:O}{q:cZ}(m:OL a C K w q):
 dz cq 84 [.agg #[O.v d,O.v p],.agg #[O.v C,O.v K,vi q.aR,vi q.av,O.v w]] a (P1 b q):=by
 apply An
 simp -zeta only[aE,aD]
 intro L u
 have j:J a u:=((J.aF a).aP _).aP _
 have v:∀o∈[L.size,a.size],o<u.size:=by simp[u,L];omega
 clear_value u
 have aa:=m.params.len
 have ab:=m.bn.len
 refine(ub (m.params.ext j) (m.df.ext j)).aI (J.aF _) v λo m3 e P R=>⟨_,rfl,λy=>cr (λf=>nb e y f.df) (j.trans P),λy=>?_⟩
 have G:=yb e y
 refine(aY _ _ _ _).aI R v λo m4 e h4 D=>⟨_,rfl,λz=>?_,λz=>?_⟩
 .refine cr (λf=>nb e z ?_) (j.trans D)
  have:=f.av
  split<;>omega
 have S:=yb e z
 refine(aY _ _ _ _).aI D v λo m5 e h7 E=>⟨_,rfl,λA=>cr (λf=>nb e A (oh f.len)) (j.trans E),λA=>?_⟩
 have ad:=yb e A
 have B:(q.params.length:Int)<=q.av/\1<=q.av/\q.av<=2000:=by
  split at S<;>omega
 refine dZ (n:=q.bn.length) V (λt U=>J u U/\∀(k:Nat)(i:Instr),k<t->q.bn[k]? =some i->iu b q k i) ⟨E,aH⟩ ?_
 rintro t m6 X μ hj ⟨I,H⟩ W
 have r:=j.trans I
 refine dit (λQ=>?_) λQ=>?_
 .let⟨i,h⟩:=cg q.bn t
  refine(DT (eX.ext r N) T (m.ext r) B.2 h).aI I v λo Y e l g=>⟨_,rfl,λx=>cr (λf=>nb e x (f.de t i h)) (j.trans g),λx=>?_⟩
  refine W V _ ⟨g,λk s M c=>?_⟩
  by_cases F:k=t
  .subst F
   rw[h]at c;simp at c;subst c
   exact yb e x
  .exact H k s V c
 .let⟨i,h⟩:=cg q.bn (q.bn.length -1)
  let⟨xa,xj,ha,ac,x,g1,g2,Y,Z,g5⟩:=(eu.ext r m.bn).aO h
  have M:cQ ((w.len:Int) -1)=((q.bn.length -1:Nat):Int):=by rw[aQ V V];omega
  rw[M]
  have F:∀(k:Nat)(i:Instr),q.bn[k]? =some i->iu b q k i:=λk s c=>H k s (oh (ax c)) c
  refine⟨V,V,_,by simpa using x,λl=>?_,λl=>?_⟩
  .simp only[aM]at l
   refine jr ⟨G,B,V,F,λs c=>?_⟩ r
   rw[h]at c;simp at c;subst c
   exact Or.inl l
  .simp only[ao]at l
   refine⟨V,V,_,by simpa using x,fU ?_ r⟩
   simp only[aM]
   refine⟨λg=>⟨G,B,V,F,λs c=>?_⟩,λf=>?_⟩
   .rw[h]at c;simp at c;subst c
    exact Or.inr g
   .rcases f.yP i h with g|g
    .exact absurd g l
    .exact g
structure qV(B:Int)(b:cp):Prop where
 pB:JQ b.bt b.cv
 de:∀p∈b.cv,QT B b p
 fu:B<=1000000
abbrev El:=qV 2000
def sU(h:eX a d p b):dz cq 41 [.agg #[O.v d,O.v p]] a (El b):=by
 apply yg;simp -zeta only[aE,aD];intro g;have e:J a g:=(J.aF a).aP _;have m:∀i∈[a.size],i<g.size:=by simp[g]
 clear_value g;have Q:=h.cv.len;refine dit (λC=>?_) λC=>?_
 .exact cr (λf=>oh f.pB.len) e
 refine(Cb (eX.ext e h) V).aI (J.aF _) m ?_;rintro _ R ⟨y,rfl,G,j⟩;refine⟨j,d,y,rfl,?_⟩;refine(uc (bX.ext (e.trans j) h.bt) G).aI j m λi S c M t=>⟨_,rfl,λk=>cr (λf=>nb c k f.pB) (e.trans t),λk=>?_⟩;have w:=yb c k;refine dZ (n:=b.cv.length) V (λr l=>J g l/\∀s∈b.cv.take r,P1 b s) ⟨t,aH⟩ ?_;rintro r T I μ P ⟨x,v⟩ H
 have q:=e.trans x;refine dit (λD=>?_) λD=>?_
 .let⟨s,o⟩:=cg b.cv r;let⟨K,i,L,E,c,F,z,g1,g2,A,B⟩:=(gK.ext q h.cv).aO o;refine⟨V,V,_,z,_,g1,_,g2,_,A,_,B,?_⟩;exact(Ga (eX.ext q h) w.types ⟨E,c,F⟩).aI x m λi U c N u=>⟨_,rfl,λl=>cr (λf=>nb c l (f.de s (aq o))) (e.trans u),λl=>H V _ ⟨u,bM o v (yb c l)⟩⟩
 .exact jr ⟨w,cU V v,bh⟩ q
end
section
variable{m:E}{s:O}{l:List Int}
def eN.UX{α:Type}{c:Nat}{R:List Ce->α->Prop}{l:List α}(h:eN m c R s l){k:Nat}(n:k<=l.length):eN m c R (s.cut 0 k c) (l.take k):=by
 have b:=h.len;have e:=h.cap;have g:=h.fu;cases s with
 |nil=>
  simp at b;have:k=0:=V;subst this;exact⟨by simp[O.cut],by simp[O.cut],by simp[O.cut],aH⟩
 |CT d o a=>
  simp at b;have:k=0:=V;subst this;exact⟨by simp[O.cut],by simp[O.cut],by simp[O.cut],aH⟩
 |mk d o p i=>
  simp only[O.dS,O.NH]at b e g;refine⟨by simp[O.cut];omega,by simp[O.cut];omega,by simp[O.cut];omega,λj x a=>?_⟩;have f:j<k:=by have:=ax a;simp at this;omega
  rw[mV,ak f]at a;have:=h.jC j x a;simpa[O.cut]using this
def oT(bt:O)(t:Int)(m:E):dz cq 142 [O.v bt,vi t] m (yv bt.len t):=by
 apply EL;refine⟨λh=>fU ?_ (J.aF _),λh=>cr ?_ (J.aF _)⟩<;>simp at h
 .simp[yv,h]
 .unfold yv;omega
def uU{g:O}(b:ap m g l)(bt:O):dz cq 141 [O.v bt,O.v g] m (Eh bt.len l):=by
 apply AY;have i:=b.len;refine dZ (n:=l.length) (i▸b.fu) (λk a=>J m a/\∀t∈l.take k,yv bt.len t) ⟨J.aF _,aH⟩ ?_;rintro k r I μ q ⟨a,f⟩ o
 refine dit (λh=>?_) λh=>?_
 .let⟨x,c⟩:=cg l k;refine⟨V,V,x,by simpa using a.af (b.aO c),?_⟩;exact(oT _ _ _).then λp s e d=>⟨_,rfl,λh=>cr (λj=>nb e h (j x (aq c))) (a.trans d),λh=>o V _ ⟨a.trans d,bM c f (yb e h)⟩⟩
 .exact jr (cU V f) a
def qF(a:Int)(m:E)(d:a≠7/\a≠8):dz cq 87 [vi a] m (jD a):=by
 apply uW;refine⟨λh=>⟨λc=>jr ?_ (J.aF _),λc=>⟨λb=>jr ?_ (J.aF _),λb=>fU ?_ (J.aF _)⟩⟩,λh=>⟨λb=>jr ?_ (J.aF _),λb=>fU ?_ (J.aF _)⟩⟩<;>simp[jD]at* <;>omega
def uV{bt:O}{a:List bo}(hd:bX m bt a)(s:a.length<=4)(k:∀d∈a,d.cons.length<=3):LI cq 143 [O.v bt] m (vi (eI a).length):=by
 apply AZ;simp -zeta only[aE,aD];have q:=hd.len;refine dx (n:=a.length) V (λj f b=>J m b/\f=(fc a j:Nat)/\fc a j<=3*j) ⟨J.aF _,by cases a<;>rfl,by cases a<;>simp[fc]⟩ ?_;rintro j f t I μ r ⟨c,rfl,p⟩ l
 refine dit (λi=>?_) λi=>?_
 .let⟨d,b⟩:=cg a j;let⟨g,e,h,g1,g2⟩:=(bX.ext c hd).aO b;refine⟨V,V,_,h,_,g1,g,g2,?_⟩;intro u v;have o:=k d (aq b);refine l V _ _ ⟨(c.aP _).ai c.size _ _,?_,?_⟩
  .rw[aQ V (oh e.len),rP b,e.len];rfl
  .rw[rP b];omega
 .refine⟨?_,c⟩;rw[nJ a j V]
def Q0{a:List bo}(h:dH a):∀d∈a,d.cons.length<=3:=λd hd=>by
 let⟨k,b⟩:=List.mem_iff_getElem?.1 hd;exact kQ h b
def Q9:∀(a:List bo)(k:Nat),(eI (a.take k)).length=fc a k
 |[],k=>by simp[eI,Qg]
 |d::a,0=>by simp[eI,fc]
 |d::a,k+1=>by
  have:=Q9 a k;simp only[Mx,eI,lO,aT,fc]at this⊢;omega
def Kn{bt:O}{a:List bo}(hd:bX m bt a)(c:dH a)(t:Int):aN cq 144 [O.v bt,vi t] m λI b=>∃s,I=O.v s/\ap b s (bY a t)/\J m b:=by
 apply EI;have S:=hd.len;have R:=hd.cap;have g:∀(h:¬(1<=t/\t<=a.length)),ap m .nil (bY a t):=λh=>by
  unfold bY;rw[ae h];exact⟨rfl,ad _,aH,aH⟩
 have:=c.len;refine dit (λh=>?_) λh=>?_
 .exact⟨_,rfl,g V,J.aF _⟩
 refine dit (λx=>?_) λx=>?_
 .exact⟨_,rfl,g V,J.aF _⟩
 have r:cQ (t -1)=((t.toNat -1:Nat):Int):=by rw[aQ V V];omega
 rw[r];let⟨d,e⟩:=cg a (t.toNat -1);have u:bY a t=(List.range d.cons.length).map λi=>((fc a (t.toNat -1)+i:Nat):Int):=by
  unfold bY;rw[ak V,e];rfl
 rw[u];have P:=sD c (t.toNat -1);have Q:=kQ c e;refine⟨V,V,V,?_⟩;have C:bX m (bt.cut 0 (t.toNat -1) 3) (a.take (t.toNat -1)):=eN.UX hd V;have f:=uV C bN (λd hd=>Q0 c d (cX hd));rw[Q9]at f;refine f.then λF p=>⟨_,rfl,?_⟩;let⟨w,D,L,g1,g2⟩:=(bX.ext p hd).aO e;have T:=D.len;refine⟨V,V,w,by simpa using g2,?_⟩;refine dx (n:=d.cons.length) V (λj s b=>J m b/\fZ m b ay 1 s (((List.range j).map λi=>((fc a (t.toNat -1)+i:Nat):Int)).map Ce.i)/\s.len=j) ⟨p,by simpa using fZ.nil m F ay 1,rfl⟩ ?_;rintro j s G K μ U ⟨o,k,l⟩ H
 refine dit (λy=>?_) λy=>?_
 .intro q;have v:cQ (((fc a (t.toNat -1):Nat):Int)+(j:Int))=((fc a (t.toNat -1)+j:Nat):Int):=by rw[aQ V V];omega
  have E:q=G.push (.cells (bD [.i (((fc a (t.toNat -1)+j:Nat):Int))]) ay):=by rw[<-v]
  clear_value q;subst E;refine fZ.append (zs:=[.i 0]) (d:=[.i ((fc a (t.toNat -1)+j:Nat):Int)]) (k.ext (J.push _ _)) (o.aP _) rfl (cz.push _ _ _).jC (by simp[l];omega) ?_;intro W b z A B M N _;refine H V _ _ ⟨A,?_,by simp[B,l]⟩
  rw[So,eW,eW];exact z
 .have:j=d.cons.length:=V;subst this;exact⟨_,rfl,ap.fP k bN,o⟩
def O6{a:List bo}{i j:Nat}{d:bo}{f:List Int}(h:a[i]? =some d)(b:d.cons[j]? =some f):bZ a ((fc a i+j:Nat):Int)=f:=by
 unfold bZ;rw[ak V,ov,qE a i j d h (ax b),b];rfl
def LV{bt:O}{a:List bo}(hd:bX m bt a)(q:dH a)(c:Int)(X: -1000000<=c/\c<=1000000):aN cq 182 [O.v bt,vi c] m λS f=>∃R s,S=.tuple #[vi R,.agg #[O.v s]]/\ap f s (bZ a c)/\J m f:=by
 apply GJ;simp -zeta only[aE,aD];intro g;have P:J m g:=(J.aF m).aP _;have ab:m.size<g.size:=by simp[g]
 clear_value g;have Y:=hd.len;have:=q.len;refine dx (n:=a.length) V (λj w f=>J m f/\g.size<=f.size/\w=c -(fc a j:Nat)/\¬(0<=c/\c<fc a j)) ⟨P,ad _,by cases a<;>simp[fc],by cases a<;>simp[fc]⟩ ?_;rintro j w t I μ hj ⟨d,N,rfl,aa⟩ Q
 refine dit (λG=>?_) λG=>?_
 .let⟨x,b⟩:=cg a j;let⟨h,z,D,g1,g2⟩:=(bX.ext d hd).aO b;have Z:=z.len;have U:=sD q j;have W:=kQ q b;refine⟨V,V,_,D,_,g1,h,g2,?_⟩;intro m3 u;have e:J t u:=((J.aF t).aP _).ai (ad _) _ _;have A:¬(0<=c -(fc a j:Nat)/\c -(fc a j:Nat)<x.cons.length)->I (cQ (c -(fc a j:Nat) -(h.len:Int))) (cQ ((j:Int)+1)) u/\μ (cQ (c -(fc a j:Nat) -(h.len:Int))) (cQ ((j:Int)+1)) u<μ (c -(fc a j:Nat)) j t:=by
   intro hq;refine Q V _ _ ⟨d.trans e,bH N e.size,?_,?_⟩
   .rw[aQ V V,rP b];omega
   .rw[rP b];omega
  refine⟨λi=>⟨λp=>?_,λp=>A ?_⟩,λi=>A ?_⟩
  .simp only[an]at i p;let⟨T,r⟩:=cg x.cons ((c -(fc a j:Nat)).toNat);let⟨o,hg,y⟩:=(oF.ext e z).aO r;refine⟨V,V,o,y,?_⟩;intro v;have k:J m v:=(d.trans e).ai (ad _) _ _;refine⟨_,o,rfl,?_,k⟩;have l:bZ a c=T:=by
    have:=O6 b r;rw[<-this];congr 1;omega
   rw[l];obtain⟨B,H,_,_,E⟩:=hd.aO b;have K:h=B:=by
    have:=d.af E;rw[g2]at this;exact O.IE.1 (by simpa using this)
   subst K;let⟨C,L,F⟩:=H.aO r;have M:o=C:=by
    have:=(d.trans e).af F;rw[y]at this;exact O.IE.1 (by simpa using this)
   subst M;exact L.ext k
  .simp at i p;omega
  .simp at i;omega
 .intro v;have k:J m v:=d.ai (ad _) _ _;refine⟨_,.nil,rfl,?_,k⟩;have l:bZ a c=[]:=by
   unfold bZ;split
   .rw[bT (by rw[<-nJ a j V];omega)];rfl
   .rfl
  rw[l];exact⟨rfl,ad _,aH,aH⟩
def GK{bt:O}{a:List bo}(hd:bX m bt a)(h:dH a)(c:Int)(f: -1000000<=c/\c<=1000000):aN cq 145 [O.v bt,vi c] m λv d=>∃s,v=O.v s/\ap d s (bZ a c)/\J m d:=by
 apply A2;simp -zeta only[aE,aD];refine(LV hd h c f).mono ?_;rintro _ e ⟨t,s,rfl,g,i⟩;refine⟨t,s,rfl,?_⟩;intro k j;have b:J e j:=((J.aF e).aP _).ai (ad _) _ _;exact⟨s,rfl,g.ext b,i.trans b⟩
def vf(f:ap m s l)(g:Nat)(e d:Array Value)(t:GL.elem g=true)(q:Int->Prop)
 (p:∀x∈l,∀a,J m a->dz cq g (e.toList++[vi x]++d.toList) a (q x)):
 aN cq 104 [O.v s,.func (.func g) e d] m λz a=>∃r:Int,z=vi r/\J m a/\
  ((r= -1/\∀x∈l,¬q x)\/∃(k:Nat)(x:Int),r=k/\l[k]? =some x/\q x/\∀y∈l.take k,¬q y):=by
 apply pX s (.func g,e,d)
 have u:=f.len
 refine dZ (n:=l.length) (u▸f.fu) (λk a=>J m a/\∀y∈l.take k,¬q y) ⟨J.aF _,aH⟩ ?_
 rintro k v I μ B ⟨b,i⟩ w
 refine dit (λh=>?_) λh=>?_
 .let⟨x,c⟩:=cg l k
  refine⟨V,V,x,by simpa using b.af (f.aO c),g,rfl,t,?_⟩
  exact(p x (aq c) v b).then λA C o j=>⟨_,rfl,λh=>⟨_,rfl,b.trans j,Or.inr ⟨k,x,rfl,c,o.1 h,i⟩⟩,λh=>w V _ ⟨b.trans j,bM c i (fb o h)⟩⟩
 .exact⟨_,rfl,b,Or.inl ⟨rfl,cU V i⟩⟩
def my(i:ap m s l)(g:Nat)(b a:Array Value)(f:GL.elem g=true)(q:Int->Prop)
 (e:∀x∈l,∀c,J m c->dz cq g (b.toList++[vi x]++a.toList) c (q x)):
 dz cq 59 [O.v s,.func (.func g) b a] m (∃x∈l,q x):=by
 apply oC s (.func g,b,a)
 refine(vf i g b a f q e).mono ?_
 rintro _ p ⟨r,rfl,j,h⟩
 refine⟨_,rfl,fU ?_ j⟩
 simp only[uG,an]
 rcases h with⟨rfl,h⟩|⟨o,x,rfl,c,d,n⟩
 .exact⟨λk=>V,λ⟨x,c,d⟩=>absurd d (h x c)⟩
 .exact⟨λ_=>⟨x,aq c,d⟩,λ_=>V⟩
end
section
variable{k s c d r:O}{b:E}{e:List Nat}{Q:List Int->Prop}{v:List Int}{x:cE}
structure _root_.Go.Vc.eP where
 params:List Int
 df:List Int
 aR:Int
 body:Bk
def pc(a:List eP):List Nat:=a.map λq=>q.params.length
def KC(a:List eP):(pc a).length=a.length:=dO _
def Iw{a:List eP}{k:Nat}{q:eP}(h:a[k]? =some q):(pc a)[k]? =some q.params.length:=by rw[pc,bR,h];rfl
def Xa{a:List eP}{k:Nat}{q b:eP}(h:a[k]? =some q)(e:b.params=q.params):pc (a.set k b)=pc a:=by
 unfold pc;rw[tg,e];refine eL λi=>?_;rw[ik];split
 .rename_i c;subst c;have d:=ax h;rw[ak (by simpa using d),bR,h];rfl
 .rfl
def iv(m:E)(a:List Ce)(r:eP):Prop:=∃p l s,a=[.s p,.s l,.i r.aR,.s s,.i r.body.aR]/\ap m p r.params/\ap m l r.df/\eH m s r.body.aC
abbrev yx(m:E)(s:O)(l:List eP):Prop:=eN m 5 (iv m) s l
structure dX(m:E)(d r:O)(ds:List bo)(rs:List eP):Prop where
 bt:bX m d ds
 iD:yx m r rs
 types:dH ds
 nA:rs.length<=4
def iv.le{m b:E}(h:Le m b){a:List Ce}{x:eP}:iv m a x->iv b a x:=λ⟨p,l,s,c,d,e,f⟩=>⟨p,l,s,c,d.le h,e.le h,f.le h⟩
def iv.mono:nH 5 iv:=⟨λh=>iv.le h,λh=>by obtain⟨_,_,_,rfl,_⟩:=h;rfl⟩
def yx.le{m b:E}(a:Le m b){s:O}{l:List eP}(h:yx m s l):yx b s l:=eN.le h a λ_ _=>iv.le a
def yx.aO{m:E}{l:List eP}(h:yx m s l){k:Nat}{x:eP}(f:l[k]? =some x):
 ∃p t b,ap m p x.params/\ap m t x.df/\eH m b x.body.aC/\af m s.az (s.off+k*5)=some (O.v p)/\af m s.az (s.off+k*5+1)=some (O.v t)/\af m s.az (s.off+k*5+2)=some (vi x.aR)/\af m s.az (s.off+k*5+3)=some (O.v b)/\af m s.az (s.off+k*5+4)=some (vi x.body.aR):=by
 obtain⟨g,⟨p,t,b,rfl,c,d,e⟩,a⟩:=h.jC k x f
 exact⟨p,t,b,c,d,e,a 0 _ rfl,a 1 _ rfl,a 2 _ rfl,a 3 _ rfl,a 4 _ rfl⟩
def dX.le{m b:E}{d r:O}{a:List bo}{e:List eP}(h:dX m d r a e)(c:Le m b):dX b d r a e:=⟨h.bt.le c,h.iD.le c,h.types,h.nA⟩
def yS(m:E):Le m (bG [] m):=λb o v h=>dY.2 ⟨aH,h⟩
def EB{a:List bo}(h:dH a)(c:Int):(bZ a c).length<=3:=by
 unfold bZ;split
 .rcases aU c.toNat (eI a).length with b|b
  .let⟨i,d,e,j,k⟩:=ui a c.toNat b;have f:=qE a i (c.toNat -fc a i) d e V;rw[show fc a i+(c.toNat -fc a i)=c.toNat by omega]at f;let⟨x,g⟩:=cg d.cons (c.toNat -fc a i);rw[f,g];exact(((h.de i d e).gS V).2.2.2 x (aq g)).1
  .rw[bT b];simp
 .simp
def X0{a:List bo}(h:dH a)(t:Int):(bY a t).length<=3:=by
 unfold bY;split
 .cases b:a[t.toNat -1]? with
  |none=>simp
  |some d=>simpa using kQ h b
 .simp
def OU{a:List bo}(h:dH a)(b bK:Int)(k:Nat):AE a b bK k<=3:=by
 unfold AE;split
 .exact EB h _
 .omega
abbrev Ie(f:Nat)(a:List Value)(m:E):Prop:=rB f a m λ_=>True
def nY(f:Nat)(a:List Value)(m:E):Prop:=aN cq f a m λv b=>∃c:Bool,v=.bool c/\J m b
def rN{m:E}{n:Int}(h:J m b):∃k:Int,vi n=vi k/\True/\J m b:=⟨n,rfl,trivial,h⟩
def rA{m:E}{a:Bool}(h:J m b):∃k:Bool,vb a=.bool k/\J m b:=⟨a,rfl,h⟩
def _root_.Go.Vc.dz.any{f:Nat}{a:List Value}{m:E}{p:Prop}(h:dz cq f a m p):nY f a m:=h.mono λ_ _⟨b,e,_,x⟩=>⟨b,e,x⟩
section
variable{f:Nat}{g:List Value}{a m:E}{K:Value->E->Prop}{l:List Nat}
def Ie.aI(i:Ie f g m)(e:J a m)(o:∀c∈l,c<a.size)(k:∀(n:Int) b,J m b->J a b->K (vi n) b):aN cq f g m λv b=>eG l m b/\K v b:=
 i.mono λ_ b⟨n,h,_,d⟩=>⟨d.da λc j=>e.lt (o c j),h▸k n b d (e.trans d)⟩
def nY.aI(i:nY f g m)(e:J a m)(n:∀c∈l,c<a.size)(k:∀(c:Bool) b,J m b->J a b->K (vb c) b):aN cq f g m λv b=>eG l m b/\K v b:=
 i.mono λ_ b⟨o,h,d⟩=>⟨d.da λc j=>e.lt (n c j),h▸k o b d (e.trans d)⟩
def rB.aI{Q:Int->Prop}(i:rB f g m Q)(e:J a m)(o:∀c∈l,c<a.size)(k:∀(n:Int) b,Q n->J m b->J a b->K (vi n) b):aN cq f g m λv b=>eG l m b/\K v b:=
 i.mono λ_ b⟨n,h,q,d⟩=>⟨d.da λc j=>e.lt (o c j),h▸k n b q d (e.trans d)⟩
def Ek.aI(k:Ek f g m e Q)(i:J a m)(q:∀d∈l,d<a.size)(p:∀s c b,ap (bG e b) s c->Q c->J m b->J a b->K (O.v s) b):aN cq f g m λv b=>eG l m b/\K v b:=
 k.mono λ_ b⟨s,c,j,n,r,h⟩=>⟨h.da λd o=>i.lt (q d o),j▸p s c b n r h (i.trans h)⟩
def iU.aI(k:iU f g m e Q)(i:J a m)(q:∀d∈l,d<a.size)(p:∀s c b,GI e m b s c->Q c->J m b->J a b->K (O.v s) b):aN cq f g m λv b=>eG l m b/\K v b:=
 k.mono λ_ b⟨s,c,j,n,r,h⟩=>⟨h.da λd o=>i.lt (q d o),j▸p s c b n r h (i.trans h)⟩
end
def _root_.Go.Vc.J.Vm{c m:E}(f:J c m){l:List Nat}(e:∀a∈l,a<c.size)(h:J m b):eG l m b:=h.da λa d=>f.lt (e a d)
def dC{m:E}(D:∀b∈e,b<m.size){bt:O}{a:List bo}(hd:bX (bG e m) bt a)(f:dH a)(c:Int):Ek 108 [O.v bt,vi c] m e (bZ a c=·):=by
 apply qM;have l:bX m bt a:=hd.le (bz _ _);have F:=hd.len;have:=f.len;refine(lK l f c).mono ?_;rintro _ I ⟨K,rfl,k,h⟩;refine⟨_,rfl,dit (λu=>?_) λu=>?_⟩
 .refine⟨_,_,rfl,?_,rfl,h.aP _⟩;have g:bZ a c=[]:=by
   rcases k with⟨i,d,v,_⟩|⟨_,b⟩
   .omega
   .unfold bZ;split
    .rw[bT V];rfl
    .rfl
  rw[g];exact⟨rfl,ad _,aH,aH⟩
 .rcases k with⟨i,d,rfl,b,A,B⟩|⟨v,_⟩
  .have H:=ax b;let⟨s,n,y,g1,g2⟩:=(hd.le (h.cR e)).aO b;have p:cQ ((i:Int)+1 -1)=i:=by rw[aQ V V];omega
   rw[p];have g2:=(dY.1 g2).2;refine⟨V,V,s,by simpa using g2,?_⟩;refine(jN (bX.ext h l) f V).then λJ g=>⟨_,rfl,g.dA (by simpa using g2),?_⟩;have z:=sD f i;have C:=kQ f b;have G:=n.len;let⟨x,o⟩:=cg d.cons ((c -fc a i).toNat);let⟨j,w,t⟩:=oF.aO (eN.le n (g.cR e) (mf.le (g.cR e))) o;have q:cQ (c -(fc a i:Int))=c -fc a i:=aQ V V;rw[q];refine⟨V,V,j,(dY.1 t).2,j,_,rfl,?_,rfl,h.trans g⟩;have r:bZ a c=x:=by
    unfold bZ;rw[ak V];have:=qE a i (c -fc a i).toNat d b V;rw[show c.toNat=fc a i+(c -fc a i).toNat by omega,this,o];rfl
   rw[r];exact w
  .omega
def gQ{m:E}(q:∀o∈e,o<m.size){bt:O}{a:List bo}(hd:bX m bt a)(c:dH a)(t:Int):Ek 148 [O.v bt,vi t] m e (bY a t=·):=by
 apply tV;intro D;have L:=hd.len;have:=c.len;have w:J m D:=(J.aF m).aP _;refine(aY _ _ _ _).then λo P u i=>⟨_,rfl,λh=>?_,λh=>?_⟩
 .refine⟨_,_,rfl,?_,rfl,w.trans i⟩;have f:bY a t=[]:=by
   unfold bY;rw[ae (oh (nb u h))]
  rw[f];exact⟨rfl,ad _,aH,aH⟩
 .have h:=yb u h;have x:cQ (t -1)=((t.toNat -1:Nat):Int):=by rw[aQ V V];omega
  rw[x];let⟨d,k⟩:=cg a (t.toNat -1);have y:bY a t=(List.range d.cons.length).map λl=>((fc a (t.toNat -1)+l:Nat):Int):=by
   unfold bY;rw[ak V,k];rfl
  rw[y];have H:=sD c (t.toNat -1);have K:=kQ c k;refine dx (n:=d.cons.length) V (λj s b=>J m b/\GI e m b s ((List.range j).map λl=>((fc a (t.toNat -1)+l:Nat):Int))) ⟨w.trans i,(GI.nil e m).ext i⟩ ?_;rintro j s Q I μ N ⟨f,v⟩ F
  let⟨g,C,G,g1,g2⟩:=(bX.ext f hd).aO k;have M:=C.len;refine⟨V,V,g,by simpa using g2,dit (λB=>?_) λB=>?_⟩
  .refine(jN (bX.ext f hd) c V).then λR p=>⟨_,rfl,?_⟩;have z:cQ (((fc a (t.toNat -1):Nat):Int)+(j:Int))=((fc a (t.toNat -1)+j:Nat):Int):=by rw[aQ V V];omega
   rw[z];intro S;refine GI.ku (v.ext p) ((f.trans p).fz []) q bN λr b A g _ _=>F V _ _ ⟨g.ext,?_⟩
   rw[So,eW];exact A
  .have:j=d.cons.length:=V;subst this;exact⟨_,_,rfl,v.done q bN,rfl,f⟩
def mz{m:E}{bt:O}{b:List bo}(hd:bX m bt b)(l:dH b)(t:Int):dz cq 189 [O.v bt,vi t] m (∃d,1<=t/\b[t.toNat -1]? =some d/\d.cons.length=0):=by
 apply DA;have q:=hd.len;have:=l.len;refine(aY _ _ _ _).then λn r g e=>⟨_,rfl,λh=>?_,λh=>?_⟩
 .have h:=g.1 h;let⟨d,c⟩:=cg b (t.toNat -1);let⟨j,k,p,g1,g2⟩:=(bX.ext e hd).aO c;have i:cQ (t -1)=((t.toNat -1:Nat):Int):=by rw[aQ V V];omega
  rw[i];refine⟨V,V,j,g2,fU ?_ e⟩;rw[k.len];simp only[aM];exact⟨λh=>⟨d,V,c,V⟩,λ⟨o,_,a,f⟩=>by rw[c]at a;simp at a;subst a;omega⟩
 .refine cr (λ⟨d,a,f,_⟩=>fb g h ⟨a,?_⟩) e;have:=ax f;omega
def ze{m:E}{bt:O}{a:List bo}(hd:bX m bt a)(r:dH a)(u t:Int):
 rB 237 [O.v bt,vi u,vi t] m λk=>k= -1\/∃(l:Nat)(d:bo),k=l+1/\a[l]? =some d/\d.cons.length=0/\d.tj=u/\d.to=t:=by
 apply Dn
 have w:=hd.len
 have:=r.len
 refine dZ (n:=a.length) V (λ_ b=>J m b) (J.aF _) ?_
 rintro k s I μ x c v
 refine⟨λh=>?_,λh=>⟨_,rfl,Or.inl rfl,c⟩⟩
 simp only[an]at h
 let⟨d,j⟩:=cg a k
 let⟨o,q,p,g1,g2⟩:=(bX.ext c hd).aO j
 have e:=v V s c
 refine⟨V,V,o,g2,λf=>⟨V,V,_,p,λg=>⟨V,V,_,g1,λi=>?_,λ_=>e⟩,λ_=>e⟩,λ_=>e⟩
 rw[q.len]at f
 simp only[aM]at f g i
 refine⟨_,rfl,Or.inr ⟨k,d,?_,j,V,g,i⟩,c⟩
 rw[aQ V V]
def rY{m:E}{i p:O}{f t:List Int}(g:ap m c v)(e:ap m i f)(l:ap m p t):nY 186 [O.v c,O.v i,O.v p] m:=by
 apply HU;have C:=g.len;have r:=e.len;have D:=l.len;have F:=g.fu;refine⟨λ_=>rA (J.aF _),λh=>?_⟩;simp only[ig]at h;refine dZ (n:=f.length) (r▸e.fu) (λ_ b=>J m b) (J.aF _) ?_;rintro k H I μ G a y
 refine⟨λh=>?_,λh=>rA a⟩;simp only[an]at h;let⟨x,o⟩:=cg f k;refine⟨V,V,x,(e.ext a).aO o,?_⟩;have q:cQ ((c.len:Int) -1)=(v.length:Int) -1:=by rw[aQ V V];omega
 rw[q];refine(aY _ _ _ _).then λB K s d=>⟨_,rfl,λ_=>rA (a.trans d),λj=>?_⟩;have j:=yb s j;let⟨z,u⟩:=cg v x.toNat;let⟨A,w⟩:=cg t k;exact⟨V,V,x,(e.ext (a.trans d)).aO o,V,V,z,(g.ext (a.trans d)).aO u,V,V,A,(l.ext (a.trans d)).aO w,λ_=>rA (a.trans d),λ_=>y V _ (a.trans d)⟩
def Mk(a:Int)(m:E):nY 184 [vi a] m:=by
 apply Fw;have r:∀b:Bool,∃k:Bool,vb b=.bool k/\J m m:=λb=>rA (J.aF m);exact⟨λ_=>r _,λ_=>⟨λ_=>r _,λ_=>⟨λ_=>r _,λ_=>⟨λ_=>r _,λ_=>r _⟩⟩⟩⟩
def oE(x:cE)(a k:O):Value:=.agg #[vi x.op,vi x.bK,vi x.bW,O.v a,O.v k]
def vE{m:E}{g:O}(d:ap m c v)(x:cE):nY 185 [O.v c,.agg #[vi x.op,vi x.bK,vi x.bW,O.v g,O.v k]] m:=by
 apply Al;simp -zeta only[aE,aD];intro a;have b:J m a:=J.push _ _;have l:∀f∈[m.size],f<a.size:=by simp[a]
 clear_value a;have o:=d.len;have p:=d.fu;refine⟨λ_=>rA b,λ_=>⟨λ_=>?_,λ_=>rA b⟩⟩;refine(aY _ _ _ _).aI (J.aF a) l λf q j _ e=>⟨_,rfl,λh=>?_,λ_=>rA (b.trans e)⟩;have h:=j.1 h;have i:cQ (x.bW -1)=((x.bW.toNat -1:Nat):Int):=by rw[aQ V V];omega
 rw[i];let⟨y,n⟩:=cg v (x.bW.toNat -1);exact⟨V,V,y,(d.ext (b.trans e)).aO n,rA (b.trans e)⟩
def Bu{m:E}{l:O}{t:List bo}{B:List eP}(o:dX m d r t B)(i:ap m c v)(g:ap m l x.args):Ie 190 [.agg #[O.v d,O.v r],O.v c,oE x l k] m:=by
 apply vo;simp -zeta only[aE,aD];intro q e;have b:J m e:=(J.push _ _).trans (J.push _ _);have n:∀f∈[q.size,m.size],f<e.size:=by simp[e,q];omega
 clear_value e;have C:=i.len;have D:=i.fu;have F:=g.len;refine⟨λ_=>rN b,λh=>?_⟩;simp only[ig]at h;let⟨y,p⟩:=cg x.args 0;refine⟨V,V,y,(g.ext b).aO p,?_⟩;have u:cQ ((c.len:Int) -1)=(v.length:Int) -1:=by rw[aQ V V];omega
 rw[u];refine(aY _ _ _ _).aI (J.aF e) n λf G w _ j=>⟨_,rfl,λ_=>rN (b.trans j),λh=>?_⟩;have h:=yb w h;have a:=b.trans j;let⟨z,A⟩:=cg v y.toNat;have g1:=(g.ext a).aO p;have g2:=(i.ext a).aO A;refine⟨V,V,y,g1,V,V,z,g2,λ_=>rN a,λ_=>⟨λ_=>⟨λ_=>⟨V,V,y,g1,V,V,z,g2,?_⟩,λ_=>rN a⟩,λ_=>rN a⟩⟩;exact(mz ((o.le a.le).bt) o.types z).any.aI j n λf H I s=>⟨_,rfl,λ_=>rN (b.trans s),λ_=>rN (b.trans s)⟩
def DM{m:E}{w:O}{H:List bo}{t:List eP}(g:dX m d r H t)(U:ap m c v)(A:ap m w x.args):Ie 188 [.agg #[O.v d,O.v r],O.v c,oE x w k] m:=by
 apply wF;simp -zeta only[aE,aD];intro j h;have F:J m h:=(J.push _ _).trans (J.push _ _);have n:∀f∈[j.size,m.size],f<h.size:=by simp[h,j];omega
 clear_value h;have h1:=g.iD.len;have h2:=g.nA;have h3:=A.len;have I:cQ ((r.len:Int) -1)=(t.length:Int) -1:=by rw[aQ V V];omega
 rw[I];refine(aY _ _ _ _).aI (J.aF h) n λf l S _ u=>⟨_,rfl,λ_=>rN (F.trans u),λy=>?_⟩;have y:=yb S y;have D:=F.trans u;let⟨q,T⟩:=cg t x.bK.toNat;let⟨Z,ac,s,i,c2,c3,L,g1,g2,M,N⟩:=(g.le D.le).iD.aO T;refine⟨V,V,_,L,_,g1,_,g2,_,M,_,N,?_⟩;intro X b;have G:J l b:=((J.aF l).aP _).ai (ad _) _ _;have o:∀f∈[l.size,j.size,m.size],f<b.size:=by
  have P:=n j.size aH;have Q:=n m.size aH;have R:=u.size;have z:b.size=l.size+1:=by simp[b,X,aA]
  simp;omega
 clear_value b;have a:=D.trans G;have C:=U.ext a;have B:=A.ext a;have p:=i.ext G;have P:=i.len;have Q:=i.cap;have R:=i.fu;refine⟨λ_=>(rY C B p).aI (J.aF b) o λf Y e _=>⟨_,rfl,λ_=>rN (a.trans e),λ_=>rN (a.trans e)⟩,λ_=>⟨λ_=>rN a,λz=>⟨λ_=>rN a,λ_=>?_⟩⟩⟩;simp only[ao]at z;have K:cQ ((Z.len:Int) -1)=((q.params.length -1:Nat):Int):=by rw[aQ V V];omega
 rw[K];let⟨aa,W⟩:=cg q.params (q.params.length -1);refine⟨V,V,V,(rY C B (eN.UX p V)).aI (J.aF b) o λf Y e _=>⟨_,rfl,λ_=>rN (a.trans e),λ_=>⟨V,V,aa,(p.ext e).aO W,?_⟩⟩⟩;exact(ze (g.le (a.trans e).le).bt g.types _ _).aI e o λab m6 _ x6 u6=>⟨_,rfl,rN (a.trans u6)⟩
def Wy(a:List bo)(e:List eP)(b:Bk):Prop:=∀(m:E)(d r c t:O)(v:List Int),dX m d r a e->ap m c v->eH m t b.aC->v.length+4*b.w<=10^12->Ie 236 [.agg #[O.v d,O.v r],O.v c,.agg #[O.v t,vi b.aR]] m
def Jc{m:E}{ab:O}{t:List bo}{Y:List eP}(g:dX m d r t Y)(U:ap m c v)(y:mX m k x.bF)(hb:v.length+4*x.w<=10^12)(ih:∀l∈x.bF,Wy t Y l):Ie 187 [.agg #[O.v d,O.v r],O.v c,oE x ab k] m:=by
 apply BJ;simp -zeta only[aE,aD];intro X p;have i:J m p:=(J.push _ _).trans (J.push _ _);have o:∀l∈[X.size,m.size],l<p.size:=by simp[p,X];omega
 clear_value p;have ac:=y.len;have hw:=cE.lg x;refine(gQ (e:=[]) aH (g.le i.le).bt g.types x.bK).aI (J.aF p) o λae cl H w q A _=>⟨_,rfl,?_⟩;subst q;have w:=w.le (bz _ _);have ag:=w.len;have h3:=X0 g.types x.bK;refine⟨λL aa=>aa=H/\0<=L/\(x.op=8->L=(bY t x.bK).length),⟨λh=>?_,λh=>⟨rfl,V,λ_=>V⟩⟩,?_⟩
 .simp only[aM]at h;exact⟨rfl,V,λh=>V⟩
 rintro L ah ⟨f,h4,h5⟩;have f:=f.symm;subst f;refine⟨λ_=>rN (i.trans A),λ_=>⟨λ_=>rN (i.trans A),λT=>?_⟩⟩;simp only[ig]at T;subst T;refine dx (n:=x.bF.length) (ac▸y.fu) (λ_ _ b=>J H b) (J.aF _) ?_;rintro j z I R μ hj B ad
 have M:=A.trans B;have s:=i.trans M;refine⟨λh=>?_,λ_=>rN s⟩;simp only[an]at h;let⟨l,u⟩:=cg x.bF j;have W:=ih l (aq u);have af:=uj u;have Z:∀(a:Int)(e:E),J H e->((decide (a<(0:Int)))=true->∃k:Int,vi (-1)=vi k/\True/\J m e)/\((decide (a<(0:Int)))=false->((decide ((j:Int)>(0:Int)))=true->((a !=z)=true->∃k:Int,vi (-1)=vi k/\True/\J m e)/\((a !=z)=false->R a (cQ ((j:Int)+1)) e/\μ a (cQ ((j:Int)+1)) e<μ z j I))/\((decide ((j:Int)>(0:Int)))=false->R a (cQ ((j:Int)+1)) e/\μ a (cQ ((j:Int)+1)) e<μ z j I)):=λa e h=>by
  have f:=rN (n:=-1) ((i.trans A).trans h);have D:=ad V a e h
  exact⟨λ_=>f,λ_=>⟨λ_=>⟨λ_=>f,λ_=>D⟩,λ_=>D⟩⟩
 refine⟨λh=>?_,λh=>?_⟩
 .simp only[aM]at h;have h7:=h5 h;let⟨Q,hy⟩:=cg (bY t x.bK) j;refine⟨V,V,Q,(w.ext B).aO hy,?_⟩;refine(dC (e:=[]) aH (g.le (s.le.trans (yS _))).bt g.types Q).aI M o λD fl e hf q x4 u4=>⟨_,rfl,?_⟩;subst q;have h8:=EB g.types Q;refine(eE (S:=[]) aH (U.le ((i.trans u4).le.trans (yS _))) hf V).aI u4 o λf el m5 he q x5 N=>⟨_,rfl,?_⟩;subst q;let⟨C,G,F,g1⟩:=(y.le (i.trans N).le).aO u;refine⟨V,V,_,F,_,g1,?_⟩;exact(W m5 d r f C _ (g.le (i.trans N).le) ((he.done aH bN).le (bz _ _)) G bN).aI N o λa K P _=>⟨_,rfl,Z a K (((B.trans x4).trans x5).trans P)⟩
 .let⟨C,G,F,g1⟩:=(y.le s.le).aO u;refine⟨V,V,_,F,_,g1,?_⟩;exact(W I d r c C _ (g.le s.le) (U.ext s) G V).aI M o λa K P _=>⟨_,rfl,Z a K (B.trans P)⟩
def PQ{m a:E}(h:J m a)(l:List Int){n:Nat}(c:n=l.length)(b:l.length<=9223372036854775807):ap (a.push (.cells (bD (l.map Ce.i)) ay)) (.mk a.size 0 n n) l:=
 (ap.lit (S:=[]) ay l aH rfl c b).le (bz _ _)
def _root_.Go.Vc.eN.J4{α:Type}{n:E}{b:Nat}{R:List Ce->α->Prop}{l:List α}(h:eN n b R s l){i j:Nat}(u:i<=j)(v:j<=l.length):eN n b R (s.cut i j b) ((l.take j).drop i):=by
 have a:=h.len;have m:=h.cap;have y:=h.fu;have g:(s.cut i j b).len=j -i/\(s.cut i j b).len<=(s.cut i j b).cap:=by
  cases s with
  |nil=>simp at a;simp[O.cut];omega
  |CT d o t=>simp at a;simp[O.cut];omega
  |mk d o r f=>simp at a m;simp[O.cut];omega
 refine⟨by simp[g.1];omega,g.2,V,λk x c=>?_⟩;rw[ry,mV]at c;split at c
 .rename_i w;let⟨p,q,e⟩:=h.jC _ x c;refine⟨p,q,?_⟩;cases s with
  |nil=>simp at a;omega
  |CT d o t=>simp at a;omega
  |mk d o r f=>
   simp at a m;have:¬f=i:=V;simp only[O.cut,this,mH,O.fG,O.iY]at e⊢;rw[fY,<-dR]at e;exact e
 .simp at c
def nB{q:E}{w:O}{P:List bo}{rs:List eP}(B:dX q d r P rs)(hv:ap q c v)(Z:ap q w x.args)(hk:mX q k x.bF)(H:v.length+4*x.w<=10^12)(ih:∀g∈x.bF,Wy P rs g):Ie 153 [.agg #[O.v d,O.v r],O.v c,oE x w k] q:=by
 apply Cf;simp -zeta only[aE,aD];intro C p;have M:J q p:=(J.push _ _).trans (J.push _ _);have m:∀g∈[C.size,q.size],g<p.size:=by simp[p,C];omega
 clear_value p;have h1:=Z.len;have h2:=Z.cap;have u:∀{n:E},J p n->ap n c v:=λh=>hv.ext (M.trans h);have A:∀{n:E},J p n->ap n w x.args:=λh=>Z.ext (M.trans h);have N:∀{n:E},J p n->dX n d r P rs:=λh=>B.le (M.trans h).le;have o:∀{n:E}{t:Int},J p n->∃k:Int,vi t=vi k/\True/\J q n:=λh=>rN (M.trans h);have Q:∀{n:E}{t k:Int}{g:Bool},J p n->(g=true->∃k:Int,vi t=vi k/\True/\J q n)/\(g=false->∃a:Int,vi k=vi a/\True/\J q n):=λh=>⟨λ_=>o h,λ_=>o h⟩;refine⟨λX=>J p X,⟨λ_=>(Mk x.op p).aI (J.aF p) m λg n e _=>⟨_,rfl,λ_=>o e,λ_=>(vE (u e) x).aI e m λg f l a=>⟨_,rfl,λ_=>o a,λ_=>⟨λ_=>⟨λ_=>⟨λ_=>o a,λ_=>a⟩,λ_=>a⟩,λ_=>a⟩⟩⟩,λ_=>(vE (u (J.aF _)) x).aI (J.aF p) m λg f a _=>⟨_,rfl,λ_=>o a,λ_=>⟨λ_=>⟨λ_=>⟨λ_=>o a,λ_=>a⟩,λ_=>a⟩,λ_=>a⟩⟩⟩,?_⟩;intro n e;have T:∀{f:E}{R:O}{ak:List Int}(h:J p f),ap f R ak->nY 186 [O.v c,O.v w,O.v R] f:=λh ht=>rY (u h) (A h) ht;have Kt:∀{f:E}(h:J p f),aN cq 187 [.agg #[O.v d,O.v r],O.v c,.agg #[vi x.op,vi x.bK,vi x.bW,O.v w,O.v k]] f λv b=>eG [C.size,q.size] f b/\∃t:Int,v=vi t/\∃k:Int,vi t=vi k/\True/\J q b:=λh=>
  (Jc (N h) (u h) (hk.le (M.trans h).le) H ih).aI h m λt L s U=>⟨t,rfl,o U⟩
 refine⟨λ_=>⟨λ_=>(aY _ _ _ _).any.aI e m λg f l a=>⟨_,rfl,Q a⟩,λ_=>o e⟩,λ_=>⟨λ_=>?_,λ_=>⟨λ_=>?_,λ_=>⟨λ_=>?_,λ_=>⟨λ_=>?_,λ_=>⟨λ_=>?_,λ_=>⟨λ_=>(DM (N e) (u e) (A e)).aI e m λt f l a=>⟨_,rfl,o a⟩,λ_=>⟨λ_=>?_,λ_=>⟨λ_=>(Bu (N e) (u e) (A e)).aI e m λt f l a=>⟨_,rfl,o a⟩,λ_=>o e⟩⟩⟩⟩⟩⟩⟩⟩⟩
 .intro f;exact(T (e.aP _) (PQ e [0,0] rfl aH)).aI (e.aP _) m λg f l a=>⟨_,rfl,Q a⟩
 .intro f;exact(T (e.aP _) (PQ e [0] rfl aH)).aI (e.aP _) m λg f l a=>⟨_,rfl,Q a⟩
 .refine(lK (N e).bt B.types x.bK).mono λ_ f⟨R,z,_,l⟩=>?_;subst z;have a:=e.trans l;refine⟨e.Vm m l,_,rfl,λ_=>?_,λ_=>o a⟩;refine(dC (e:=[]) aH ((N a).bt.le (yS _)) B.types x.bK).aI a m λae G L hf I s U=>⟨_,rfl,aK (s.same C.size (a.lt (m _ aH))) _,?_⟩;refine(T U (hf.le (bz _ _))).aI U m λg D x5 y=>⟨_,rfl,λ_=>?_,λ_=>o y⟩;refine(lK (N y).bt B.types x.bK).mono λ_ F⟨R,z,_,W⟩=>?_;subst z;exact⟨y.Vm m W,_,rfl,o (y.trans W)⟩
 .intro f;exact(T (e.aP _) (PQ e [0] rfl aH)).aI (e.aP _) m λg f l a=>⟨_,rfl,λ_=>Kt a,λ_=>o a⟩
 .intro f;exact(T (e.aP _) (PQ e [x.bK] rfl aH)).aI (e.aP _) m λg f l a=>⟨_,rfl,λ_=>Kt a,λ_=>o a⟩
 .have h3:=hv.len;have h4:=hv.fu;refine⟨λg X=>J p X/\(g=true->x.args.length=2/\∃y z G,x.args[0]? =some y/\0<=y/\v[y.toNat]? =some z/\1<=z/\P[z.toNat -1]? =some G),⟨λh=>?_,λ_=>⟨e,sx⟩⟩,?_⟩
  .simp only[aM]at h;let⟨y,I⟩:=cg x.args 0;refine⟨V,V,y,(A e).aO I,?_⟩;have Y:cQ ((c.len:Int) -1)=(v.length:Int) -1:=by rw[aQ V V];omega
   rw[Y];refine(aY _ _ _ _).aI (J.aF n) (λg H=>e.lt (m g H)) λg f aa _ l=>⟨_,rfl,λh=>?_,λh=>⟨e.trans l,sx⟩⟩;have h:=aa.1 h;have a:=e.trans l;let⟨z,K⟩:=cg v y.toNat;refine⟨V,V,y,(A a).aO I,V,V,z,(u a).aO K,?_⟩;refine(mz (N a).bt B.types z).aI (J.aF f) (λg H=>a.lt (m g H)) λg L ab _ s=>⟨_,rfl,a.trans s,λh=>?_⟩;obtain⟨G,h5,h6,_⟩:=ab.1 h;exact⟨V,y,z,G,I,V,K,h5,h6⟩
  .rintro g f ⟨l,ah⟩;refine⟨λh=>?_,λ_=>o l⟩;let⟨h5,y,z,G,I,h6,K,h7,aa⟩:=ah h;let⟨ae,hf,g0,g1,g2⟩:=(N l).bt.aO aa;have an:=B.bt.len;have h8:=B.types.len;have h9:=ax aa;have al:=ax K;have Y:cQ (z -1)=((z.toNat -1:Nat):Int):=by rw[aQ V V];omega
   have ab:=(A l).aO I;have ac:=(u l).aO K;refine⟨V,V,y,ab,V,V,z,ac,?_⟩;rw[Y];refine⟨V,V,_,g0,_,g1,_,g2,?_⟩;intro L;have s:J f L:=J.push _ _;have af:C.size<f.size:=l.lt (m _ aH);have ag:q.size<f.size:=l.lt (m _ aH);refine⟨s.dA g0,s.dA g1,s.dA g2,s.dA ac,s.dA ab,aK (s.same _ af) _,aK (s.same _ ag) _,?_⟩;intro D;have x5:J f D:=s.ai (ad _) _ _;have am:D.size=f.size+1:=by simp[D,L,aA]
   clear_value D;refine⟨V,V,V,?_⟩;intro F;have W:J f F:=x5.trans (J.push _ _);have u6:=l.trans W;have aj:∀g∈[f.size,C.size,q.size],g<F.size:=by simp[F];omega
   refine⟨aK ((J.push D _).same _ V) _,?_⟩;have ai:ap F (w.cut 1 w.len 1) (x.args.drop 1):=by
    have:=(eN.J4 (A u6) (i:=1) (j:=x.args.length) V (ad _));rw[gX]at this;rw[h1];exact this
   exact(rY (u u6) ai (PQ x5 [G.tj] rfl aH)).aI (J.aF F) aj λg m7 x7 _=>⟨_,rfl,Q (u6.trans x7)⟩
def _root_.Go.Vc.J.nR{c m:E}(h:J c m)(k:J c b){l:List Nat}(e:∀a∈l,a<c.size):eG l m b:=λa d=>by rw[k.same a (e a d),h.same a (e a d)]
def sC(x:cE)(b:Bool)(a:b=true<->0<=x.op/\x.op<=11):dn x=if b=true then 1 else 0:=by
 unfold dn;by_cases h:b=true
 .rw[ak h];exact ak (a.1 h)
 .rw[ae h];exact ae λc=>h (a.2 c)
def mJ{I:List bo}{Z:List eP}:∀a:Bk,Wy I Z a:=by
 refine Bk.ind ?_;intro aC Y W D d r c ao v R U t j;simp only[Bk.jG,Bk.iZ,Bk.qd]at*;apply zh;simp -zeta only[aE,aD];intro E e;have y:J D e:=(J.push _ _).trans (J.push _ _);have g:∀a∈[E.size,D.size],a<e.size:=by simp[e,E];omega
 clear_value e;have T:=t.len;refine(lL (S:=[]) aH (U.le (y.le.trans (yS _))) V).aI (J.aF e) g λs0 _ m2 i K x2 _=>⟨_,rfl,?_⟩;subst K;have C:=Au aC;refine dx (n:=aC.length) (T▸t.fu) (λk s b=>J e b/\∃l,GI [] e b s l/\l.length=v.length+dc (aC.take k)) ⟨x2,_,i,aH⟩ ?_;rintro k s X aa μ hk ⟨z,l,m,hc⟩ G
 have p:=y.trans z;have ac:=pM (aC.take k);have ag:=qe k aC;have ah:=fw (aC.take k);have af:=m.len bh;have q:=(m.done aH (oh (C k))).le (bz _ _);refine⟨λh=>?_,λh=>?_⟩
 .simp only[an]at h;let⟨x,o⟩:=cg aC k;let⟨ab,kk,O,Q,i,g1,g2,M,N⟩:=(t.le p.le).aO o;have aj:=pt o;have ai:=C (k+1);have ad:=ql o;refine⟨V,V,_,i,_,g1,_,g2,_,M,_,N,?_⟩;refine(nB (R.le p.le) q O Q V (W x (aq o))).aI z g λal F f u=>⟨_,rfl,λ_=>rN (y.trans u),λ_=>⟨V,V,_,f.af i,?_⟩⟩;refine(jy _ _).aI (J.aF F) (λa j=>u.lt (g a j)) λa m5 P _ A=>⟨_,rfl,?_⟩;have hd:=sC x a P;have w:=u.trans A;refine⟨λh=>?_,λh=>?_⟩
  .rw[ak h]at hd;intro m6;refine GI.ku ((m.ext f).ext A) (w.fz []) aH V λr m7 L B H am=>⟨?_,G V _ _ ⟨B.ext,_,L,bN⟩⟩;exact J.nR (w.aP _) B.ext g
  .rw[ae (by simp[h])]at hd;exact G V _ _ ⟨w,l,(m.ext f).ext A,V⟩
 .refine(aY _ _ _ _).aI (J.aF X) (λa j=>z.lt (g a j)) λa F o _ f=>⟨_,rfl,λ_=>rN (p.trans f),λh=>?_⟩;have h:=yb o h;have w:=q.fu;rw[aQ V V]at h;let⟨H,u⟩:=cg l Y.toNat;exact⟨V,V,H,(q.ext f).aO u,rN (p.trans f)⟩
end
section
variable{b:E}{d e g k:O}{f:List eP}{c:cE}{h:Nat}
def _root_.Go.Vc.cb{S a:List Nat}{d o:Nat}{l:List Ce}(i:d∈S)(g:∀c∈a,c∈S):Le (bG S b) (bG a (ai b d o l)):=
 oR λc _ e=>⟨λh=>e (g c h),bd _ _ _ _ λf=>e (f▸i)⟩
def ZE(a:Bk):Prop:=∀(b:E)(t:O),eH b t a.aC->∀left:Int,-1<=left->left<=600->rB 284 [.agg #[O.v t,vi a.aR],vi left] b λk=>-1<=k/\k<=600
def HR:∀j:Bk,ZE j:=by
 refine Bk.ind ?_;intro aC aa K b ab q left A C;simp only[Bk.jG,Bk.iZ]at*;apply Af;simp -zeta only[aE,aD];intro f;have w:J b f:=J.push _ _;have F:∀j∈[b.size],j<f.size:=by simp[f]
 clear_value f;have I:=q.len;have r:∀{d:E}{a:Int},J f d->-1<=a/\a<=600->∃k:Int,vi a=vi k/\(-1<=k/\k<=600)/\J b d:=λh o=>⟨_,rfl,o,w.trans h⟩;refine dx (n:=aC.length) (I▸q.fu) (λ_ a d=>J f d/\-1<=a/\a<=600) ⟨J.aF _,A,C⟩ ?_;rintro k a M U μ hk ⟨l,o⟩ P
 refine⟨λh=>⟨λ_=>r l V,λB=>?_⟩,λ_=>r l o⟩;simp only[an]at h;simp only[br]at B;let⟨c,u⟩:=cg aC k;let⟨g,v,Z,m,X,g1,g2,Y,s⟩:=(q.le (w.trans l).le).aO u;have D:=m.len;rw[aQ (b:=a -1) V V];refine dx (n:=c.bF.length) (D▸m.fu) (λ_ a d=>J M d/\-1<=a/\a<=600) ⟨J.aF _,V,V⟩ ?_;rintro L Q N W μ2 hj ⟨i,p⟩ O;refine⟨V,V,v,i.af s,λh=>?_,λ_=>P V _ _ ⟨l.trans i,p⟩⟩;simp only[an]at h;let⟨j,t⟩:=cg c.bF L;let⟨R,H,y,z⟩:=(m.le i.le).aO t;refine⟨V,V,v,i.af s,V,V,_,y,_,z,?_⟩;exact(K c (aq u) j (aq t) N R H Q p.1 p.2).aI (l.trans i) F λe m4 G T S=>⟨_,rfl,λ_=>r S V,λh=>O V _ _ ⟨i.trans T,G⟩⟩
def Lk{t:O}{c:Bk}(g:eH b t c.aC):Ie 266 [.agg #[O.v t,vi c.aR]] b:=by
 apply DQ;simp -zeta only[aE,aD];intro a;have d:J b a:=J.push _ _;have f:∀c∈[b.size],c<a.size:=by simp[a]
 clear_value a;exact(HR c a t (g.le d.le) 600 V V).aI (J.aF a) f λn h _ _ e=>⟨_,rfl,λ_=>rN (d.trans e),λ_=>rN (d.trans e)⟩
def pOf(e:eP):cZ:=⟨e.params,[],e.aR,0,[]⟩
def nX.mono:nH 5 nX:=⟨λh⟨g,a,b⟩=>⟨g,a,b.le h⟩,λ⟨g,a,_⟩=>by rw[a];rfl⟩
def Mr{F:List bo}(t:dX b d e F f):aN cq 283 [.agg #[O.v d,O.v e]] b λY g=>∃v,Y=.agg #[O.v d,O.v v]/\eN g 5 (nX g) v (f.map pOf)/\J b g:=by
 apply FQ;simp -zeta only[aE,aD];intro j a2 a3 a4 p;have ac:=t.iD.len;have hf:=t.nA;have Z:J b a2:=(J.push _ _).trans (J.push _ _);have W:j.size=b.size+1:=by simp[j]
 have X:a2.size=b.size+2:=by simp[a2,W]
 have s3:a3.size=b.size+3:=by simp[a3,X]
 have A:J a3 p:=(J.push a3 _).ai (ad _) _ _;have L:Gr [a3.size,j.size] a2 p eV 5 nX (.mk a2.size 0 0 0) []:=(Gr.new _ (ad _) _ _ _).ext nX.mono A;have D:cz p a3.size jW [.s d,.s (.mk a2.size 0 0 0)]:=cz.ai (m:=a4) (o:=0) (r:=[.s d,.s (.mk a2.size 0 0 0)]) (cz.push a3 _ _);have aa:J a2 p:=(J.push a2 _).trans A;clear_value p;have N:∀l∈[j.size,b.size],l<a2.size/\l∉([]:List Nat):=bN;refine dZ (n:=f.length) V (λk g=>J a2 g/\∃s,Gr [a3.size,j.size] a2 g eV 5 nX s ((f.take k).map pOf)/\cz g a3.size jW [.s d,.s s]) ⟨aa,_,L,D⟩ ?_;rintro k Q ab μ hk ⟨u,s,h,B⟩ S
 have z:=Z.trans u;refine dit (λM=>?_) λM=>?_
 .let⟨T,x⟩:=cg f k;have P:yx (bG (s.az::[a3.size,j.size]) Q) e f:=t.iD.le ((yS b).trans ((z.fz []).bG aH λl q=>Or.inr ?_))
  .let⟨y,ae,l,E,c2,c3,G,e1,H,e3,e4⟩:=P.aO x;refine⟨s,B.cJ 1,V,V,y,(dY.1 G).2,V,V,_,(dY.1 H).2,?_⟩;intro R;refine Gr.box (g:=[.s .nil,.i 0,.i 0,.i 0,.s .nil]) (j:=1) (i:=[.s d,.s s]) (w:=pOf T) nX.mono bh h (u.fz []) ⟨y,rfl,E⟩ bN B aH bh ⟨V,aH⟩ (λl q=>by have C:=N l q;have I:=h.bg;have w:=u.size;omega) λU g K C I z' q'=>S V _ ⟨I.ext,U,?_,C⟩
   rw[bC x,eW];exact K
  .have:=h.bg;simp at q;omega
 .refine⟨d,B.cJ 0,s,B.cJ 1,?_⟩;intro R;have x:=h.ne B bh;have y:=h.bg;rw[cy V]at h;refine⟨s,rfl,?_,z.ai V _ _⟩;have w:=h.ng nX.mono bN bh bN;exact eN.le w ((cb (a:=[]) aH aH).trans (bz _ _)) λq c=>nX.mono.le ((cb (a:=[]) aH aH).trans (bz _ _))
def wK{r:List bo}(c:dX b d e r f):nY 265 [.agg #[O.v d,O.v e]] b:=by
 apply sV;simp -zeta only[aE,aD];intro g;have a:J b g:=J.push _ _;have i:∀h∈[b.size],h<g.size:=by simp[g]
 clear_value g;have K:=c.iD.len;have G:=c.nA;refine⟨λ_=>rA a,λ_=>?_⟩;refine(Mr (c.le a.le)).mono λ_ L⟨F,s,w,j⟩=>?_;subst s;refine⟨j.da i,_,_,rfl,?_⟩;refine(uc (c.le (a.trans j).le).bt w).any.aI j i λh M R m=>⟨_,rfl,λ_=>rA (a.trans m),λ_=>?_⟩;refine dZ (n:=f.length) V (λ_ l=>J g l) m ?_;rintro k N I μ H l y
 refine⟨λv=>?_,λ_=>rA (a.trans l)⟩;simp only[an]at v;let⟨Q,x⟩:=cg f k;let⟨z,A,h,p,q,B,t,u,C,D,E⟩:=(c.le (a.trans l).le).iD.aO x;refine⟨V,V,z,t,V,V,A,u,?_⟩;exact(ub p q).any.aI l i λh P S o=>⟨_,rfl,λ_=>rA (a.trans o),λ_=>y V _ o⟩
def DV{z:List bo}(i:dX b d e z f)(G:∀q∈f,q.params.length+4*q.body.w<=10^12):nY 253 [.agg #[O.v d,O.v e]] b:=by
 apply wL;simp -zeta only[aE,aD];intro c;have m:J b c:=J.push _ _;have t:∀a∈[b.size],a<c.size:=by simp[c]
 clear_value c;have T:=i.iD.len;have R:=i.nA;refine(wK (i.le m.le)).aI (J.aF c) t λa U x _=>⟨_,rfl,λ_=>rA (m.trans x),λ_=>?_⟩;refine dZ (n:=f.length) V (λ_ g=>J c g) x ?_;rintro k l P μ S o L
 refine⟨λF=>?_,λ_=>rA (m.trans o)⟩;simp only[an]at F;let⟨q,u⟩:=cg f k;have v:=m.trans o;let⟨M,X,a,y,Q,s,A,B,C,D,E⟩:=(i.le v.le).iD.aO u;refine⟨V,V,_,A,_,B,_,C,_,D,_,E,?_⟩;intro H g;have j:J l g:=(J.push l _).ai (ad _) _ _;have p:∀a∈[l.size,b.size],a<g.size:=by
  have:=o.lt (t b.size aH);have:g.size=l.size+1:=by simp[g,H,aA]
  simp;omega
 clear_value g;have r:=v.trans j;refine(Lk (s.le j.le)).aI (J.aF g) p λK I h _=>⟨_,rfl,λ_=>rA (r.trans h),λ_=>?_⟩;refine(mJ q.body I d e M a q.params (i.le (r.trans h).le) (y.ext (j.trans h)) (s.le (j.trans h).le) (G q (aq u))).aI h p λK W N w=>⟨_,rfl,aK (N.same _ (h.lt (p _ aH))) _,λ_=>rA (r.trans w),λ_=>L V _ ((o.trans j).trans w)⟩
def wY(c:Int)(b:E):nY 205 [vi c] b:=by
 apply rG;have e:∀a:Bool,∃k:Bool,vb a=.bool k/\J b b:=λa=>rA (J.aF b);exact⟨λ_=>e _,λ_=>⟨λ_=>e _,λ_=>⟨λ_=>e _,λ_=>e _⟩⟩⟩
def Sx(f:List eP)(c:cE):Prop:=c.op=9->0<=c.bK/\c.bK<f.length
def _root_.Go.Vc.OI.bL{b:List bo}{a:Prop}{g:Nat}(h:OI b (pc f) a g c):Sx f c:=λd=>by rw[<-KC];exact h.call d
structure At(b:E)(d e g k:O)(ds:List bo)(f:List eP)(c:cE):Prop where
 Qz:dX b d e ds f
 args:ap b g c.args
 call:Sx f c
def At.le{b j:E}{d e g k:O}{a:List bo}{f:List eP}{c:cE}(h:At b d e g k a f c)(i:Le b j):At j d e g k a f c:=⟨h.Qz.le i,h.args.le i,h.call⟩
def dj{o1 o2:Obj}{a c:E}(e:a=b.push o1)(f:c=a.push o2):J b c/\∀d∈[a.size,b.size],d<c.size:=by
 subst e f;exact⟨(J.push _ _).trans (J.push _ _),bN⟩
def ns{o:List bo}(a:At b d e g k o f c)(h:Int):nY 195 [.agg #[O.v d,O.v e],oE c g k,vi h] b:=by
 apply FF;simp -zeta only[aE,aD];intro s i;let⟨j,q⟩:=dj (a:=s) (c:=i) rfl rfl;clear_value i;have C:=a.Qz.iD.len;refine⟨λl=>?_,λ_=>rA j⟩;simp only[aM]at l;have B:=a.call l;let⟨F,r⟩:=cg f c.bK.toNat;let⟨E,t,m,v,n,w,x,p,y,z,A⟩:=(a.Qz.le j.le).iD.aO r;exact⟨V,V,t,p,(dg n h).any.aI (J.aF i) q λm D u _=>⟨_,rfl,rA (j.trans u)⟩⟩
def lY{q:O}{s:List bo}(j:At b d e g k s f c){v:List Int}(o:ap b q v)(u:∀y∈c.args,0<=y/\y<(v.length:Int))(t:h<c.args.length):nY 191 [.agg #[O.v d,O.v e],O.v q,oE c g k,vi h] b:=by
 apply xO;simp -zeta only[aE,aD];intro x a;let⟨l,n⟩:=dj (a:=x) (c:=a) rfl rfl;clear_value a;have B:=j.args.len;have D:=o.len;let⟨y,p⟩:=dI t;have C:=u y (aq p);let⟨A,w⟩:=cg v y.toNat;refine(wY c.op a).aI (J.aF a) n λr E m _=>⟨_,rfl,λ_=>?_,λ_=>rA (l.trans m)⟩;have i:=l.trans m;refine⟨V,V,y,(j.args.ext i).aO p,V,V,A,(o.ext i).aO w,λ_=>?_,λ_=>rA i⟩;exact(ns (j.le i.le) h).aI m n λr F G z=>⟨_,rfl,rA (l.trans z)⟩
def BP{r:List bo}(a:At b d e g k r f c)(u:h<c.args.length):nY 238 [.agg #[O.v d,O.v e],oE c g k,vi h] b:=by
 apply vz;simp -zeta only[aE,aD];intro y l;let⟨q,v⟩:=dj (a:=y) (c:=l) rfl rfl;clear_value l;have t:=a.args.len;let⟨A,w⟩:=dI u;refine dZ (n:=c.args.length) (t▸a.args.fu) (λ_ i=>J l i) (J.aF _) ?_;rintro o E I μ D j z
 have i:=q.trans j;refine⟨λs=>⟨λ_=>?_,λ_=>?_⟩,λ_=>rA i⟩<;>simp only[an]at s<;>have m:=z V
 .let⟨B,x⟩:=cg c.args o;refine⟨V,V,B,(a.args.ext i).aO x,V,V,A,(a.args.ext i).aO w,λ_=>⟨λ_=>rA i,λ_=>?_⟩,λ_=>m _ j⟩;exact(ns (a.le i.le) o).aI j v λC F G p=>⟨_,rfl,λ_=>rA (q.trans p),λ_=>m _ p⟩
 .exact m _ j
def zL{mM r:O}{t:List bo}(i:At b d e g k t f c){x w:List Int}(v:ap b mM x)(u:ap b r w)(p:h<c.args.length):nY 192 [.agg #[O.v d,O.v e],oE c g k,vi h,O.v mM,O.v r] b:=by
 apply DB;simp -zeta only[aE,aD];intro z l;let⟨a,j⟩:=dj (a:=z) (c:=l) rfl rfl;clear_value l;have B:=i.args.len;let⟨y,q⟩:=dI p;refine⟨V,V,y,(i.args.ext a).aO q,?_⟩;refine(dg (u.ext a) y).any.aI (J.aF l) j λo C n _=>⟨_,rfl,λ_=>rA (a.trans n),λ_=>?_⟩;have s:=a.trans n;refine⟨V,V,y,(i.args.ext s).aO q,?_⟩;refine(dg (v.ext s) y).any.aI n j λo D F m=>⟨_,rfl,λ_=>rA (a.trans m),λ_=>?_⟩;exact(BP (i.le (a.trans m).le) p).aI m j λo E G A=>⟨_,rfl,rA (a.trans A)⟩
end
section
def XA(b:Bk):Prop:=∀(S:List Nat)(m:E),(∀c∈S,c<m.size)->∀(t a:O)(l:List Int)(n:Int)(k:Nat),eH m t b.aC->ap (bG S m) a l->k<=b.aC.length->l.length+b.w<=10^12->
 Ek 152 [.agg #[O.v t,vi b.aR],vi n,vi k,O.v a] m S λc=>c.length<=l.length+b.w
def _root_.Go.Vc.WR{σ:Type}{n b:Nat}(l:b<=n)(q:n<=9223372036854775807){m:E}{g:σ}{f:(σ->Int->E->Prop)->(σ->Int->E->Nat)->σ->Int->E->Prop}(Q:Nat->σ->E->Prop)(j:Q b g m)
 (h:∀(k:Nat)(s:σ)(a:E)(I:σ->Int->E->Prop)(μ:σ->Int->E->Nat),b<=k->k<=n->Q k s a->
  (k<n->∀d c,Q (k+1) d c->I d (cQ ((k:Int)+1)) c/\μ d (cQ ((k:Int)+1)) c<μ s k a)->f I μ s k a):
 ∃(I:σ->Int->E->Prop)(μ:σ->Int->E->Nat),I g b m/\∀s i a,I s i a->f I μ s i a:=by
 refine⟨λs i c=>∃k:Nat,i=k/\b<=k/\k<=n/\Q k s c,λ_ i _=>(n -i).toNat,⟨b,rfl,ad _,l,j⟩,?_⟩
 rintro s i a ⟨k,rfl,o,p,r⟩
 refine h k s a _ _ o p r λe d c t=>?_
 rw[km e q]
 exact⟨⟨k+1,rfl,V,e,t⟩,Cu e⟩
def Dh{S:List Nat}{m:E}(P:∀g∈S,g<m.size){B F G:O}{l:List Int}{x:cE}(K:Int)(q:ap m B x.args)(t:mX m F x.bF)(D:ap (bG S m) G l)(hb:l.length+x.w<=10^12)(U:∀e∈x.bF,XA e):
 Ek 183 [oE x B F,vi K,O.v G] m S λa=>a.length<=l.length+x.w:=by
 apply wh
 simp -zeta only[aE,aD]
 intro b
 have f:J m b:=J.push _ _
 have u:∀e∈[m.size],e<b.size:=by simp[b]
 clear_value b
 have Q:=q.len
 have R:=t.len
 have hw:=cE.lg x
 have H:∀{c:E},J b c->∀g∈S,g<c.size:=λh g C=>aJ (P g C) (f.trans h).size
 refine(sP x.op b).any.aI (J.aF b) u λe m2 o _=>⟨_,rfl,λ_=>⟨_,_,rfl,D.le ((f.trans o).cR S),V,f.trans o⟩,λ_=>?_⟩
 refine dx (n:=x.args.length) (Q▸q.fu) (λv s c=>J b c/\∃a,ap (bG S c) s a/\a.length<=l.length+v) ⟨o,l,D.le ((f.trans o).cR S),ad _⟩ ?_
 rintro v s m3 ab μ hj ⟨d,a,j,C⟩ z
 refine dit (λh=>?_) λh=>?_
 .let⟨y,i⟩:=cg x.args v
  have g1:=(q.ext (f.trans d)).aO i
  refine⟨V,V,y,g1,λ_=>⟨V,V,y,g1,λ_=>⟨V,V,y,g1,?_⟩,λ_=>z V _ _ ⟨d,a,j,V⟩⟩,λ_=>z V _ _ ⟨d,a,j,V⟩⟩
  exact(np (H d) j y V).aI d u λY w I g2 A p k=>⟨_,rfl,z V _ _ ⟨k,w,g2.done (H d) (oh A.2),oh A.2⟩⟩
 .refine dx (n:=x.bF.length) (R▸t.fu) (λi s c=>J b c/\∃a,ap (bG S c) s a/\a.length<=l.length+x.args.length+bw (x.bF.take i)) ⟨d,a,j,bN⟩ ?_
  rintro i Z I I2 μ2 hi ⟨p,w,g2,ae⟩ X
  have k:=f.trans p
  have y:=JX x.bF
  refine⟨λh=>?_,λh=>⟨_,_,rfl,g2,oh (y i),k⟩⟩
  simp only[an]at h
  let⟨e,r⟩:=cg x.bF i
  let⟨aa,T,L,M⟩:=(t.le k.le).aO r
  have ac:=tP r
  refine⟨V,V,_,L,_,M,?_⟩
  exact(U e (aq r) S I (H p) aa Z w K 0 T g2 (dE _) (oh (y (i+1)))).aI p u λY W m5 N A x5 u5=>⟨_,rfl,X V _ _ ⟨u5,W,N,V⟩⟩
def zc:∀e:Bk,XA e:=by
 refine Bk.ind ?_;intro aC P K S o B ab aa l L Z i G D W;simp only[Bk.jG,Bk.iZ,Bk.qd]at*;apply Di;simp -zeta only[aE,aD];intro a;have d:J o a:=J.push _ _;have r:∀e∈[o.size],e<a.size:=by simp[a]
 clear_value a;have I:=i.len;have H:∀{c:E},J a c->∀f∈S,f<c.size:=λh f p=>aJ (B f p) (d.trans h).size;refine WR (n:=aC.length) D (I▸i.fu) (λj s c=>J a c/\∃m,ap (bG S c) s m/\m.length<=l.length+sw (aC.take j)) ⟨J.aF _,l,G.le (d.cR S),V⟩ ?_;rintro j s v T μ _ X ⟨b,m,g,p⟩ M
 have y:=d.trans b;have t:=Au aC;refine⟨λh=>?_,λh=>?_⟩
 .simp only[an]at h;let⟨R,k⟩:=cg aC j;let⟨U,kk,C,F,w,g1,g2,x,z⟩:=(i.le y.le).aO k;have Y:=pt k;refine⟨V,V,_,w,_,g1,_,g2,_,x,_,z,?_⟩;exact(Dh (H b) L C F g (oh (t (j+1))) (K R (aq k))).aI b r λN u m3 A q x3 Q=>⟨_,rfl,M V _ _ ⟨Q,u,A,V⟩⟩
 .have A:=t j;have w:∃x k,O.v s=O.v x/\ap (bG S v) x k/\k.length<=l.length+(1+sw aC)/\J o v:=⟨_,_,rfl,g,V,y⟩;refine⟨λ_=>⟨λ_=>?_,λ_=>w⟩,λ_=>w⟩;exact(np (H b) g P V).aI b r λN u C g2 q F z=>⟨_,rfl,_,_,rfl,g2.done (H b) (oh q.2),oh q.2,d.trans z⟩
def Cz{S:List Nat}{m:E}(i:∀d∈S,d<m.size){t:O}{b:Bk}(l:eH m t b.aC)(n:Int)(c:b.w<=10^12):Ek 110 [.agg #[O.v t,vi b.aR],vi n] m S λf=>f.length<=b.w:=by
 apply FW;simp -zeta only[aE,aD];intro g a;let⟨e,k⟩:=dj (a:=g) (c:=a) rfl rfl;have h:ap (bG S a) (.mk g.size 0 0 0) []:=⟨rfl,ad _,aH,aH⟩;clear_value a;exact(zc b S a (λd j=>e.lt (i d j)) t _ _ n 0 (l.le e.le) h (dE _) (by simpa using c)).aI (J.aF a) (λb c=>k b (by simp at c⊢;exact Or.inr c)) λr f j g2 q d _=>⟨_,rfl,_,_,rfl,g2,by simpa using q,e.trans d⟩
section
variable{b:List Nat}{m:E}(e:∀c∈b,c<m.size){d r a k q mM p:O}{s:List bo}{u:List eP}{x:cE}(h:At m d r a k s u x){v g t:List Int}(o:ap m q v)(l:∀y∈x.args,0<=y/\y<(v.length:Int))(f:ap m mM g)(j:ap m p t)
include e h o l
theorem xK(M:x.args.length<=10^12):iU 263 [.agg #[O.v d,O.v r],O.v q,oE x a k] m b (oJ x.args):=by
 apply tr;simp -zeta only[aE,aD];intro I g P;let⟨s,B⟩:=dj (a:=I) (c:=g) rfl rfl;clear_value g;have H:=h.args.len;refine dx (n:=x.args.length) (H▸h.args.fu) (λj v p=>J g p/\∃f,GI b g p v f/\(∀y∈f,y∈x.args)/\f.length<=j) ⟨J.push _ _,[],GI.nil b g,aH,ad _⟩ ?_;rintro j v Q K μ N ⟨E,f,t,u,A⟩ D
 have w:=s.trans E;refine dit (λG=>?_) λG=>?_
 .let⟨y,C⟩:=cg x.args j;refine(lY (h.le w.le) (o.ext w) l (h:=j) V).aI E B λL R F p=>⟨_,rfl,λ_=>⟨V,V,y,(h.args.ext (s.trans p)).aO C,?_⟩,λ_=>D V _ _ ⟨p,f,t.ext F,u,V⟩⟩;intro S;exact GI.ku (t.ext F) (p.fz []) (λc A=>s.lt (e c A)) V λr T g2 z _ _=>⟨J.nR (p.aP _) z.ext B,D V _ _ ⟨z.ext,_,g2,pV u (aq C),bN⟩⟩
 .exact⟨v,f,rfl,t.cG (λ_ h=>h) s.size,⟨u,V⟩,w⟩
include f j
theorem Ft(U:x.args.length<=10^12):iU 154 [.agg #[O.v d,O.v r],O.v q,oE x a k,O.v mM,O.v p] m b (oJ x.args):=by
 apply xN;simp -zeta only[aE,aD];intro R t X;let⟨u,A⟩:=dj (a:=R) (c:=t) rfl rfl;clear_value t;have Q:=h.args.len;refine dx (n:=x.args.length) (Q▸h.args.fu) (λs C v=>J t v/\∃g,GI b t v C g/\(∀y∈g,y∈x.args)/\g.length<=s) ⟨J.push _ _,[],GI.nil b t,aH,ad _⟩ ?_;rintro s C Y T μ W ⟨L,g,v,w,I⟩ B
 have D:=u.trans L;refine dit (λP=>?_) λP=>?_
 .let⟨y,K⟩:=cg x.args s;refine(lY (h.le D.le) (o.ext D) l (h:=s) V).aI L A λN Z G E=>⟨_,rfl,λ_=>?_,λ_=>B V _ _ ⟨E,g,v.ext G,w,V⟩⟩;have F:=u.trans E;refine(zL (h.le F.le) (f.ext F) (j.ext F) (h:=s) V).aI E A λN m5 M z=>⟨_,rfl,λ_=>⟨V,V,y,(h.args.ext (u.trans z)).aO K,?_⟩,λ_=>B V _ _ ⟨z,g,(v.ext G).ext M,w,V⟩⟩;intro S;exact GI.ku ((v.ext G).ext M) (z.fz []) (λc I=>u.lt (e c I)) V λr S g2 H _ _=>⟨J.nR (z.aP _) H.ext A,B V _ _ ⟨H.ext,_,g2,pV w (aq K),bN⟩⟩
 .exact⟨C,g,rfl,v.cG (λ_ h=>h) u.size,⟨w,V⟩,D⟩
theorem Hw(T:g.length<=10^12):iU 156 [.agg #[O.v d,O.v r],O.v q,oE x a k,O.v mM,O.v p] m b (oJ g):=by
 apply zO;simp -zeta only[aE,aD];intro W w;let⟨s,D⟩:=dj (a:=W) (c:=w) rfl rfl;clear_value w;have af:=h.args.len;have ab:∀{t:E},J w t->∀c∈b,c<t.size:=λh c hc=>aJ (e c hc) (s.trans h).size;have X:aN cq 194 [O.v mM,O.v p] w λv t=>eG [W.size,m.size] w t/\∃Y:O,v=O.v Y/\∃z U,O.v Y=O.v z/\GI b m t z U/\oJ g U/\J m t:=by
  refine(Mg (S:=[]) aH (f.le (s.le.trans (yS _))) (j.le (s.le.trans (yS _))) T).aI (J.aF w) D λz u ag B H P _=>⟨_,rfl,z,u,rfl,?_,H,s.trans P⟩;let⟨C,I,g1,g2⟩:=B;exact⟨C,I,g1.cG s.size,g2.mono λ_ _ h=>h⟩
 refine⟨λ_=>X,λ_=>⟨λ_=>X,λ_=>?_⟩⟩;refine(lL (S:=[]) aH (f.le (s.le.trans (yS _))) T).aI (J.aF w) D λs0 _ ag C ae P _=>⟨_,rfl,?_⟩;subst ae;refine dx (n:=x.args.length) (af▸h.args.fu) (λG z t=>J w t/\∃u,GI b m t z u/\oJ g u) ⟨P,g,?_,λ_ h=>h,ad _⟩ ?_
 .let⟨C,I,g1,g2⟩:=C;exact⟨C,I,g1.cG s.size,g2.mono λ_ _ h=>h⟩
 rintro G z m3 ah μ hj ⟨Z,u,B,A⟩ K
 have L:=s.trans Z;refine⟨λR=>?_,λR=>⟨z,u,rfl,B,A,L⟩⟩;simp only[an]at R;let⟨y,hy⟩:=cg x.args G;refine(lY (h.le L.le) (o.ext L) l (h:=G) V).aI Z D λac m4 Q M=>⟨_,rfl,λ_=>?_,λ_=>K V _ _ ⟨M,u,B.ext Q,A⟩⟩;have N:=s.trans M;refine(zL (h.le N.le) (f.ext N) (j.ext N) (h:=G) V).aI M D λac m5 x5 F=>⟨_,rfl,λ_=>⟨V,V,y,(h.args.ext (s.trans F)).aO hy,?_⟩,λ_=>K V _ _ ⟨F,u,(B.ext Q).ext x5,A⟩⟩;refine(Aq (S:=b) (ab F) (((B.ext Q).ext x5).done e (oh A.2)) y (oh A.2)).aI F D λr l2 m6 g2 H x6 u6=>⟨_,rfl,K V _ _ ⟨u6,l2,g2.cG (λ_ h=>h) (s.trans F).size,λaa hz=>A.1 aa (H.1 aa hz),bH H.2 A.2⟩⟩
omit o l
theorem Hx(Z:x.args.length<10^12):iU 157 [.agg #[O.v d,O.v r],oE x a k,O.v mM,O.v p] m b (oJ x.args):=by
 apply zP;simp -zeta only[aE,aD];intro W l aa;let⟨g,v⟩:=dj (a:=W) (c:=l) rfl rfl;clear_value l;have S:=h.args.len;have Q:∀{s:E},J l s->∀c∈b,c<s.size:=λh c u=>aJ (e c u) (g.trans h).size;refine dx (n:=x.args.length) (S▸h.args.fu) (λz G s=>J l s/\∃i,GI b l s G i/\(∀y∈i,y∈x.args)/\i.length<=z) ⟨J.push _ _,[],GI.nil b l,aH,ad _⟩ ?_;rintro z G m3 Y μ hj ⟨M,i,o,q,u⟩ A
 have L:=g.trans M;refine dit (λR=>?_) λR=>?_
 .let⟨y,w⟩:=cg x.args z;refine(ns (h.le L.le) z).aI M v λI m4 D B=>⟨_,rfl,λ_=>⟨V,V,y,(h.args.ext (g.trans B)).aO w,?_⟩,λ_=>A V _ _ ⟨B,i,o.ext D,q,V⟩⟩;refine(dg (f.ext (g.trans B)) y).any.aI B v λI m5 H C=>⟨_,rfl,λ_=>⟨V,V,y,(h.args.ext (g.trans C)).aO w,?_⟩,λ_=>A V _ _ ⟨C,i,(o.ext D).ext H,q,V⟩⟩;refine(dg (j.ext (g.trans C)) y).any.aI C v λI m6 N t=>⟨_,rfl,λ_=>⟨V,V,y,(h.args.ext (g.trans t)).aO w,?_⟩,λ_=>A V _ _ ⟨t,i,((o.ext D).ext H).ext N,q,V⟩⟩;refine(np (Q t) ((((o.ext D).ext H).ext N).done (λc u=>g.lt (e c u)) V) y V).aI t v λr U m7 g2 K x7 X=>⟨_,rfl,A V _ _ ⟨X,U,g2.cG (λ_ h=>h) t.size,λP T=>?_,oh K.2⟩⟩;rcases K.1 P T with F|F
  .exact q P F
  .subst F;exact aq w
 .exact⟨G,i,rfl,o.cG (λ_ h=>h) g.size,⟨q,V⟩,L⟩
end
end
section
variable{m d a:E}{c e g:List Nat}{s:O}{l:List Int}{f:Nat}{K:Value->E->Prop}
def pK{o1 o2 o3:Obj}{a b c:E}(e:a=m.push o1)(f:b=a.push o2)(g:c=b.push o3):J m c/\(∀d∈[b.size,a.size,m.size],d<c.size)/\a.size=m.size+1/\b.size=m.size+2/\c.size=m.size+3:=by
 subst e f g;exact⟨((J.push _ _).trans (J.push _ _)).trans (J.push _ _),bN,aH,aH,aH⟩
def GI.RK{X:List Nat}{n:E}{g:O}{k:List Int}{a:Int}{K:O->E->Prop}(p:GI c d m s l)(i:GI e n m g k)(j:s.az≠g.az)(q:Fz X d m)(w:l.length<=10^12)
 (t:∀r b,GI c d b r (l++[a])->GI e n b g k->r.az≠g.az->Fz X d b->K r b):jb (m.push (.cells (bD [.i a]) ay)) ay [.i 0] 8 s (.mk m.size 0 1 1) K:=by
 have u:=i.bg
 refine Gr.ku (g:=[.i 0]) tm.mono bh p q rfl V λr b o f z v=>t r b o (i.iy (v _ u.2 (kG j))) ?_ f
 rcases z.2 with h|h
 .rw[h];exact j
 .omega
def GI.any(h:GI c d m s l):GI e d m s l:=by
 let⟨b,a,f,g⟩:=h;exact⟨b,a,f,g.mono λ_ _ h=>h⟩
def eO(a v:Int):cE:=⟨a,0,0,[v],[]⟩
abbrev GS(c:List Nat)(d m:E)(s:O)(l:List cE):Prop:=Gr c d m fL 5 fO s l
def GS.new(c:List Nat)(m:E):GS c m (m.push (.cells (bD []) fL)) (.mk m.size 0 0 0) []:=Gr.new c (ad _) _ _ _
def GS.ku{c X:List Nat}{d m:E}{s a k:O}{l:List cE}{x:cE}{K:O->E->Prop}(h:GS c d m s l)(i:Fz X d m)(g:ap (bG (s.az::c) m) a x.args)(j:mX (bG (s.az::c) m) k x.bF)(n:l.length<=10^12)
 (f:∀r b,GS c d b r (l++[x])->Fz X d b->m.size<=b.size/\(r.az=s.az\/m.size<=r.az)->(∀e,e<m.size->e≠s.az->b[e]? =m[e]?)->K r b):
 jb (m.push (.cells (bD [.i x.op,.i x.bK,.i x.bW,.s a,.s k]) fL)) fL [.i 0,.i 0,.i 0,.s .nil,.s .nil] 72 s (.mk m.size 0 1 1) K:=
 Gr.ku (g:=[.i 0,.i 0,.i 0,.s .nil,.s .nil]) fO.mono bh h i ⟨a,k,rfl,g,j⟩ V f
def GS.all{c X:List Nat}{d m:E}{s x:O}{l e:List cE}{K:O->E->Prop}(h:GS c d m s l)(g:Fz X d m)(i:eH (bG (s.az::c) m) x e)(j:l.length+e.length<=10^12)
 (f:∀r a,GS c d a r (l++e)->Fz X d a->m.size<=a.size/\(r.az=s.az\/m.size<=r.az)->(∀b,b<m.size->b≠s.az->a[b]? =m[b]?)->K r a):
 jb m fL [.i 0,.i 0,.i 0,.s .nil,.s .nil] 72 s x K:=
 Gr.all (g:=[.i 0,.i 0,.i 0,.s .nil,.s .nil]) fO.mono bh h g i V f
def lU{α:Type}(m:E)(a:Nat)(R:List Ce->α->Prop)(b o c:Nat):eN m a R (.mk b o 0 c) []:=⟨rfl,dE _,aH,aH⟩
def iK(n:∀f∈c,f<m.size)(g v:Int):aN cq 158 [vi g,vi v] m λs d=>∃a k,s=oE (eO g v) a k/\ap (bG c d) a [v]/\mX (bG c d) k []/\J m d:=by
 apply Bv;simp -zeta only[aE,aD];intro b e q r;have t:J m b:=J.push _ _;have u:J b e:=J.push _ _;have i:J e q:=J.push _ _;have w:b.size=m.size+1:=by simp[b]
 have p:J m r:=((t.trans u).trans i).ai (ad _) _ _;refine⟨_,_,rfl,?_,lU _ _ _ _ _ _,p⟩;have l:ap (bG (m.size::c) e) (.mk b.size 0 1 1) [v]:=ap.lit ay [v] (λj o=>by
  rcases List.mem_cons.1 o with h|h
  .omega
  .have:=n j h;omega) rfl rfl aH
 exact(l.le (i.cR _)).le (cb aX λf h=>ah _ h)
def QR(f:Nat)(b:List Value)(m:E)(c:List Nat)(Q:List cE->Prop):Prop:=aN cq f b m λv a=>∃s l,v=O.v s/\GS c m a s l/\Q l/\J m a
def QR.aI{h:List Value}{l:List Nat}{Q:List cE->Prop}(k:QR f h m c Q)(i:J a m)(q:∀e∈l,e<a.size)(p:∀s d b,GS c m b s d->Q d->J m b->J a b->K (O.v s) b):aN cq f h m λv b=>eG l m b/\K v b:=
 k.mono λ_ b⟨s,d,j,n,r,g⟩=>⟨g.da λe o=>i.lt (q e o),j▸p s d b n r g (i.trans g)⟩
def eM(w:∀g∈c,g<m.size)(b:Int){p:O}(i:ap m p l)(B:l.length<=10^12):QR 112 [vi b,O.v p] m c (l.map (eO b)=·):=by
 apply zw;intro E;have z:=i.len;refine dx (n:=l.length) (z▸i.fu) (λk s d=>J m d/\GS c m d s ((l.take k).map (eO b))) ⟨J.push m _,by simpa using GS.new c m⟩ ?_;rintro k s F I μ C ⟨e,d⟩ A
 refine dit (λh=>?_) λh=>?_
 .let⟨j,o⟩:=cg l k;refine⟨V,V,j,(i.ext e).aO o,?_⟩;refine(iK (c:=s.az::c) (λg y=>?_) b j).mono λN G⟨a,D,r,u,v,q⟩=>?_
  .have:=d.bg;rcases List.mem_cons.1 y with h|h
   .omega
   .exact e.lt (w g h)
  subst r;refine⟨_,_,_,_,_,rfl,?_⟩;intro H;refine GS.ku (x:=eO b j) (d.ext fO.mono q) ((e.trans q).fz []) u v bN λM K t f P L=>A V _ _ ⟨f.ext,?_⟩
  rw[bC o,eW];exact t
 .rw[cy V]at d;exact⟨s,_,rfl,d,rfl,e⟩
def nI(a:Int):∀l:List Int,sw (l.map (eO a))=2*l.length
 |[]=>rfl
 |v::l=>by rw[cA,lZ,nI a l,cE.lg];simp[eO];omega
def jH{a:Int}(h:14<=a):∀l:List Int,dc (l.map (eO a))=0
 |[]=>rfl
 |v::l=>by
  rw[cA,jY,jH h l];unfold dn;rw[ae (λb:oG (eO a v).op=>by have:=b.2;simp only[eO]at this;omega)]
def CR{e:List bo}{a:Nat}{c v:Int}(h:14<=c/\c<=17)(f:0<=v/\v<(a:Int)):WS e g True a (eO c v):=
 ⟨⟨Or.inr ⟨trivial,h⟩,λx d=>by simp[eO]at d;subst d;exact f,λ_=>rfl,by simp[eO],λb=>by simp only[eO]at b;omega,λb=>by simp only[eO]at b;omega,λb=>absurd rfl b,.ZV (by simp only[eO];omega)⟩,λk d b=>by simp[eO]at b⟩
def qY{d:List bo}{a:Nat}{b:Int}(h:14<=b/\b<=17)(e:∀v∈l,0<=v/\v<(a:Int)):WL d g True a (l.map (eO b)):=λi s c=>by
 rw[bR,jo]at c;obtain⟨v,f,rfl⟩:=c;rw[<-Np,jH h.1];exact CR h (e v (aq f))
def mP(f:Nat)(d:List Value)(m:E)(c:List Nat)(Q:Bk->Prop):Prop:=aN cq f d m λv a=>∃s b,v=.agg #[O.v s,vi b.aR]/\eH (bG c a) s b.aC/\Q b/\J m a
def mP.aI{g:List Value}{l:List Nat}{Q:Bk->Prop}(k:mP f g m c Q)(h:J a m)(q:∀d∈l,d<a.size)(p:∀s d b,eH (bG c b) s d.aC->Q d->J m b->J a b->K (.agg #[O.v s,vi d.aR]) b):aN cq f g m λv b=>eG l m b/\K v b:=
 k.mono λ_ b⟨s,d,j,n,r,e⟩=>⟨e.da λi o=>h.lt (q i o),j▸p s d b n r e (h.trans e)⟩
def JN(f:Nat)(d:List Value)(m:E)(c:List Nat)(Q:cE->Prop):Prop:=aN cq f d m λv b=>∃a k x,v=oE x a k/\ap (bG c b) a x.args/\mX (bG c b) k x.bF/\Q x/\J m b
def JN.aI{e:List Value}{l:List Nat}{Q:cE->Prop}(j:JN f e m c Q)(g:J a m)(s:∀b∈l,b<a.size)(r:∀p k x b,ap (bG c b) p x.args->mX (bG c b) k x.bF->Q x->J m b->J a b->K (oE x p k) b):aN cq f e m λv b=>eG l m b/\K v b:=
 j.mono λ_ b⟨p,k,x,i,n,o,t,d⟩=>⟨d.da λh q=>g.lt (s h q),i▸r p k x b n o t d (g.trans d)⟩
def bQ{b:E}(e:∀a∈c,a<m.size)(i:m.size<=b.size){d:Nat}(g:d<b.size):∀a∈d::c,a<b.size:=λa f=>by
 rcases List.mem_cons.1 f with h|h
 .omega
 .have:=e a h;omega
structure Zy(ds:List bo)(g:List Nat)(v lo la:List Int)(b:Bk):Prop where
 ba:∀o∈lo,0<=o/\o<(v.length:Int)
 Xt:lo.length+5*b.w<=500
 Xs:la.length+1000*b.w<=1000000
 vN:v.length+5*b.w<=1000000
 wb:WB ds g False v.length b
def Wz(a:List bo)(d:List eP)(b:Bk):Prop:=∀(c:List Nat)(m:E),(∀e∈c,e<m.size)->∀(g r j t mM e:O)(v i h:List Int),dX m g r a d->ap m j v->eH m t b.aC->ap m mM i->ap m e h->Zy a (pc d) v i h b->
 mP 111 [.agg #[O.v g,O.v r],O.v j,.agg #[O.v t,vi b.aR],O.v mM,O.v e] m c λf=>WB a (pc d) True v.length f/\f.w+1050<=1100*b.w
structure Zx(ds:List bo)(g:List Nat)(v fl lo la:List Int)(b:Bk):Prop where
 ba:∀o∈lo,0<=o/\o<(v.length:Int)
 fl3:fl.length<=3
 Xt:lo.length+3+5*b.w<=500
 Xs:la.length+1000*b.w<=1000000
 vN:v.length+3+5*b.w<=1000000
 wb:WB ds g False (v.length+fl.length) b
def IY(hS:∀a∈c,a<m.size){an F aU aL ax mM a4:O}{ds:List bo}{rs:List eP}{N I lo la:List Int}{i:Bk}(hn:dX m an F ds rs)(hv:ap m aU N)(hf:ap m aL I)(hs:eH m ax i.aC)(u:ap m mM lo)(bd:ap m a4 la)
 (hp:Zx ds (pc rs) N I lo la i)(ih:Wz ds rs i):mP 193 [.agg #[O.v an,O.v F],O.v aU,O.v aL,.agg #[O.v ax,vi i.aR],O.v mM,O.v a4] m c λq=>WB ds (pc rs) True (N.length+I.length) q/\q.w<=1100*i.w:=by
 apply Bt
 simp -zeta only[aE,aD]
 intro d p C
 let⟨w,t,s0,s1,s2⟩:=pK (a:=d) (b:=p) (c:=C) rfl rfl rfl
 clear_value C
 have b6:=hv.len;have bw:=hf.len;have bC:=u.len;have bT:=hp.fl3;have bR:=i.Gj;have bV:=hp.Xt;have b5:=hp.vN;have bU:=hp.Xs
 refine(eE (S:=[]) aH (hv.le (w.le.trans (yS _))) (hf.le (w.le.trans (yS _))) V).aI (J.aF C) t λaO _ b9 gi g x3 _=>⟨_,rfl,?_⟩
 subst g
 refine(Cz (S:=[]) aH (hs.le (w.trans x3).le) _ V).aI x3 t λbJ ul D hu b4 x4 G=>⟨_,rfl,?_⟩
 intro m5 m6
 have bg:ap D bJ ul:=hu.le (bz _ _)
 have bq:J D m6:=(J.push D _).trans (J.push m5 _)
 have u6:=G.trans bq
 have s5:m5.size=D.size+1:=by simp[m5]
 have gm:GI c D m6 (.mk D.size 0 0 0) []:=(GI.nil c D).ext (J.push m5 _)
 have gd:GI c D m6 (.mk m5.size 0 0 0) []:=(GI.nil c m5).cG (λ_ r=>r) V
 clear_value m6
 have z4:=G.size
 refine vS (n:=lo.length) (bC▸u.fu) (λac h sd M=>J D M/\∃T H,GI c D M h T/\GI c D M sd H/\h.az≠sd.az/\(∀o∈T,o∈lo)/\(∀o∈H,o∈lo)/\T.length<=ac/\H.length<=ac) ⟨bq,[],[],gm,gd,bN,aH,aH,ad _,ad _⟩ ?_
 rintro ac h sd m7 br μ hk ⟨x7,T,H,gm,gd,be,a0,aZ,cm,cd⟩ bl
 have u7:=G.trans x7
 have v7:=w.trans u7
 refine dit (λr=>?_) λr=>?_
 .let⟨j,hy⟩:=cg lo ac
  have B:=aq hy
  have A:∀M,J m7 M->jb (M.push (.cells (bD [.i j]) ay)) ay [.i 0] 8 h (.mk M.size 0 1 1) λL m'=>eG [p.size,d.size,m.size] (M.push (.cells (bD [.i j]) ay)) m'/\br L sd (cQ ((ac:Int)+1)) m'/\μ L sd (cQ ((ac:Int)+1)) m'<μ h sd ac m7:=λM Z=>
   GI.RK (gm.ext Z) (gd.ext Z) be ((x7.trans Z).fz []) V λF m' z g' k f=>⟨J.nR ((u7.trans Z).aP _) (G.trans f.ext) t,bl V _ _ _ ⟨f.ext,_,_,z,g',k,pV a0 B,aZ,bN,V⟩⟩
  refine⟨V,V,j,(u.ext v7).aO hy,?_⟩
  refine(dg (bg.ext x7) j).any.aI u7 t λa m8 v b=>⟨_,rfl,λ_=>⟨V,V,j,(u.ext (w.trans b)).aO hy,A m8 v⟩,λ_=>⟨V,V,j,(u.ext (w.trans b)).aO hy,?_⟩⟩
  refine(dg (bd.ext (w.trans b)) j).any.aI b t λa y P u9=>⟨_,rfl,λ_=>⟨V,V,j,(u.ext (w.trans u9)).aO hy,A y (v.trans P)⟩,λ_=>⟨V,V,j,(u.ext (w.trans u9)).aO hy,?_⟩⟩
  intro a5
  have Z:=v.trans P
  exact GI.RK (gd.ext Z) (gm.ext Z) be.symm ((x7.trans Z).fz []) V λF m' z g' k f=>⟨J.nR ((u7.trans Z).aP _) (G.trans f.ext) t,bl V _ _ _ ⟨f.ext,_,_,g',z,k.symm,a0,pV aZ B,V,bN⟩⟩
 have cm:T.length<=lo.length:=V
 have cd:H.length<=lo.length:=V
 intro m8
 have bX:=gm.bg
 have bS:=gd.bg
 refine dx (n:=I.length) (bw▸hf.fu) (λac s M=>J m7 M/\∃l,GI c m7 M s l/\(∀o∈l,0<=o/\o<((N.length+I.length:Nat):Int))/\l.length<=ac) ⟨J.push _ _,[],GI.nil c m7,aH,ad _⟩ ?_
 rintro bi su y I2 μ2 hj ⟨P,A,gu,ao,cu⟩ a7
 have u9:=u7.trans P
 have v9:=w.trans u9
 refine dit (λh2=>?_) λh2=>?_
 .let⟨j,hy⟩:=cg I bi
  refine⟨V,V,j,(hf.ext v9).aO hy,λ_=>?_,λ_=>a7 V _ _ ⟨P,A,gu,ao,V⟩⟩
  rw[aQ (b:=(aU.len:Int)+bi) V V]
  refine(dg ((bg.ext x7).ext P) _).any.aI u9 t λa a5 aj aT=>⟨_,rfl,λ_=>?_,λ_=>a7 V _ _ ⟨P.trans aj,A,gu.ext aj,ao,V⟩⟩
  intro bj
  refine GI.ku (gu.ext aj) ((P.trans aj).fz []) (λa b=>aJ (hS a b) (w.trans u7).size) V λF m' z f al X=>⟨J.nR ((u9.trans aj).aP _) (u7.trans f.ext) t,a7 V _ _ ⟨f.ext,_,z,λo u=>?_,bN⟩⟩
  rcases List.mem_append.1 u with u|u
  .exact ao o u
  .simp at u;omega
 have b3:=gu.bg
 have aY:=gm.ext P
 have bu:∀{M:E},J C M->∀a∈p.size::c,a<M.size:=λr=>bQ hS (w.trans r).size (r.lt (t _ aH))
 have aM:∀{M:E},J C M->h.az<M.size->∀a∈h.az::p.size::c,a<M.size:=λr R a b=>by
  rcases List.mem_cons.1 b with g|g
  .omega
  .exact bu r a g
 refine(eM (c:=h.az::p.size::c) (aM u9 aY.bg.2) 14 ((gu.done (S:=c) (λa b=>aJ (hS a b) (w.trans u7).size) V).le (bz _ _)) V).aI u9 t λs1 _ a5 g1 g aj aT=>⟨_,rfl,?_⟩
 subst g
 have a2:h.az<a5.size:=aj.lt aY.bg.2
 refine(eM (c:=s1.az::h.az::p.size::c) (λa b=>?_) 15 ((((gd.done (S:=c) (λa b=>aJ (hS a b) (w.trans G).size) V).le (bz _ _)).ext P).ext aj) V).aI aT t λs2 _ bj g2 g aV bI=>⟨_,rfl,?_⟩
 .rcases List.mem_cons.1 b with g|g
  .have:=g1.bg;omega
  .exact aM aT a2 a g
 subst g
 have bW:h.az<bj.size:=aV.lt a2
 have bZ:=(g1.ext fO.mono aV).bg
 have e2:=g2.ng fO.mono (λb=>by
  have hy:=g2.bg;rcases List.mem_cons.1 b with g|g
  .have:=g1.bg;omega
  .have:=aM aT a2 _ g;omega) bh bN
 refine GS.all (g1.ext fO.mono aV) ((aj.trans aV).fz []) e2 bN λB L g3 f3 z3 q3=>⟨J.nR bI (u9.trans f3.ext) t,?_⟩
 have ak:J y L:=f3.ext
 have aB:=u9.trans ak
 have ca:=w.trans aB
 have N4:WL ds (pc rs) True (N.length+I.length) (A.map (eO 14)++H.map (eO 15)):=by
  refine(qY V ao).append ?_;rw[jH V];refine qY V λo u=>?_;have:=hp.ba o (aZ o u);omega
 have bn:dc (A.map (eO 14)++H.map (eO 15))=0:=by rw[cF,jH V,jH V]
 have b_:sw (A.map (eO 14)++H.map (eO 15))<=1006:=by rw[dt,nI,nI];omega
 have bb:GI c D L h T:=(gm.ext P).ext ak
 have bB:B.az≠h.az:=g3.Kw bb bh
 have aG:∀{M j:E},J C M->J C j->∀i∈[p.size,d.size,m.size],∀o,af j i o=af M i o:=λr h' i R o=>aK (by rw[h'.same i (t i R),r.same i (t i R)]) o
 have E4:∀{M j:E},J C M->J C j->∀{au:Prop},au->af j d.size 0=af M d.size 0/\af j d.size 1=af M d.size 1/\af j m.size 0=af M m.size 0/\af j m.size 1=af M m.size 1/\au:=λr h' _ hp=>⟨aG r h' _ aH _,aG r h' _ aH _,aG r h' _ aH _,aG r h' _ aH _,hp⟩
 have F4:∀{M:E},Fz [h.az] y M->J D M:=λr=>Fz.ext ((((x7.trans P).fz [h.az]).trans r).CG λi R=>Or.inr (by simp at R;omega))
 have b2:h.az<y.size:=aY.bg.2
 have z3:=x3.size
 have tail:∀(M:E)(k:Nat)(ss:O)(q:Bk),GS (k::h.az::p.size::c) y M B (A.map (eO 14)++H.map (eO 15))->Fz [h.az] y M->y.size<=k->k<M.size->k≠B.az->eH (bG (k::B.az::h.az::p.size::c) M) ss q.aC->WB ds (pc rs) True (N.length+I.length) q/\q.w+1050<=1100*i.w->
  let Q:E:=ai M k 0 [.s ss,.i q.aR]
  jb Q fL [.i 0,.i 0,.i 0,.s .nil,.s .nil] 72 B ss λaw M2=>eG [k,p.size,d.size,m.size] Q M2/\af M2 k 1=af Q k 1/\
   let M3:E:=ai M2 p.size 0 [.s aw,.i q.aR]
   ∃s aa,Value.agg #[O.v aw,vi q.aR]=.agg #[O.v s,vi aa.aR]/\eH (bG c M3) s aa.aC/\(WB ds (pc rs) True (N.length+I.length) aa/\aa.w<=1100*i.w)/\J m M3:=by
  intro M k ss q z ab bv bO bf ar a3 Q
  have cc:Q.size=M.size:=aA _ _ _ _
  have hy:=z.bg
  have bF:eH (bG (B.az::h.az::p.size::c) Q) ss q.aC:=ar.le (cb aH λa b=>ah _ b)
  have bP:=Bk.lg q
  have b0:=fw q.aC
  have hF:=F4 ab
  have zF:=hF.size
  have z9:=ab.size
  have g1:GS (h.az::p.size::c) y Q B _:=z.re fO.mono (Y:=[k]) ((Fz.aF [k] M).ai (Or.inl aH) _ _) aH (by simpa using kG bf) λa b=>Or.inl (ah _ b)
  have f1:Fz [h.az] y Q:=ab.ai (Or.inr bv) _ _
  have hw:=a3.2
  refine GS.all g1 f1 bF bN λF M2 g2 f al X=>⟨λa b=>?_,aK (X k V bf) _,?_⟩
  .simp at b
   refine X a ?_ ?_<;>rcases b with rfl|rfl|rfl|rfl<;>omega
  intro M3
  have bK:J m M2:=Fz.ext (((v9.fz [h.az]).trans f).CG λi R=>Or.inr (by simp at R;omega))
  have b7:=g2.bg
  have h5:=g2.ng fO.mono (λb=>by
   rcases List.mem_cons.1 b with g|g
   .omega
   .rcases List.mem_cons.1 g with g|g
    .omega
    .have:=hS _ g;omega) bh bN
  refine⟨F,.mk _ q.aR,rfl,eH.le (cb aH λa b=>ah _ (ah _ b)) h5,⟨WB.of (N4.append ?_) ?_,?_⟩,bK.ai V _ _⟩
  .rw[bn];exact a3.1.bB.1
  .rw[cF,bn,bE];exact a3.1.bB.2
  .rw[Bk.qd,dt];omega
 have ba:∀(M:E)(e:List Nat)(K:O->E->Prop),J L M->GS e y M B (A.map (eO 14)++H.map (eO 15))->h.az∈e->(∀F j,GI c D j F (T++A)->GS e y j B (A.map (eO 14)++H.map (eO 15))->Fz [h.az] y j->M.size<=j.size->(∀i,i<M.size->i≠h.az->j[i]? =M[i]?)->K F j)->jb M ay [.i 0] 8 h su K:=by
  intro M e K hx z bA hK;have bH:ap (bG (h.az::c) M) su A:=by
   refine ap.le ((ak.trans hx).cR _) (Gr.ng (S:=h.az::c) tm.mono gu.any (λb=>?_) bh V);rcases List.mem_cons.1 b with g|g
   .omega
   .have:=hS _ g;have:=w.size;omega
  exact GI.all (bb.ext hx) ((((x7.trans P).trans ak).trans hx).fz []) (λa b=>aJ (hS a b) (w.trans G).size) bH V λF j g' f al X=>hK F j g' (z.MR fO.mono (Y:=[h.az]) ⟨al.1,λi R hn=>X i R (by simpa using hn)⟩ (by simpa using bA) (by simpa using bB)) (((ak.trans hx).fz [h.az]).trans ⟨al.1,λi R hn=>X i R (by simpa using hn)⟩) al.1 X
 have az:∀(M:E)(e:List Nat)(mn ae:O)(v:List Int),(∀a∈e,a<M.size)->Fz [h.az] y M->ap M mn (T++A)->ap M ae v->oJ la v->mP 111 [.agg #[O.v an,O.v F],O.v aO,.agg #[O.v ax,vi i.aR],O.v mn,O.v ae] M e λq=>WB ds (pc rs) True (N.length+I.length) q/\q.w+1050<=1100*i.w:=by
  intro M e mn ae v bt ab h1 h2 h3;have hF:=F4 ab;have hm:=(w.trans G).trans hF;have bx:ap M aO (N++I):=(((gi.done aH bN).le (bz _ _)).ext x4).ext hF;have:=ih e M bt an F aO ax mn ae (N++I) (T++A) v (hn.le hm.le) bx (hs.le hm.le) h1 h2 ⟨λo u=>?_,bN,oh h3.2,bN,by simpa using hp.wb⟩
  .simpa using this
  .simp;rcases List.mem_append.1 u with u|u
   .have:=hp.ba o (a0 o u);omega
   .have:=ao o u;omega
 have b8:=ak.size
 have b1:h.az<L.size:=V
 have bY:B.az<L.size:=g3.bg.2
 have bc:∀{M:E},J C M->L.size<=M.size->∀a∈B.az::h.az::p.size::c,a<M.size:=λr hz a b=>by
  rcases List.mem_cons.1 b with g|g
  .omega
  .exact aM r V a g
 have hO:∀(M:E)(k:Nat)(mn ae:O)(v:List Int),GS (k::h.az::p.size::c) y M B (A.map (eO 14)++H.map (eO 15))->Fz [h.az] y M->L.size<=k->k<M.size->ap M mn (T++A)->ap M ae v->oJ la v->
  aN cq 111 [.agg #[O.v an,O.v F],O.v aO,.agg #[O.v ax,vi i.aR],O.v mn,O.v ae] M λrv j=>eG [k,p.size,d.size,m.size] M j/\∃a8:O,∃aS:Int,rv=.agg #[O.v a8,vi aS]/\
   let Q:E:=ai j k 0 [.s a8,.i aS]
   jb Q fL [.i 0,.i 0,.i 0,.s .nil,.s .nil] 72 B a8 λaw M2=>eG [k,p.size,d.size,m.size] Q M2/\af M2 k 1=af Q k 1/\
    let M3:E:=ai M2 p.size 0 [.s aw,.i aS]
    ∃s aa,Value.agg #[O.v aw,vi aS]=.agg #[O.v s,vi aa.aR]/\eH (bG c M3) s aa.aC/\(WB ds (pc rs) True (N.length+I.length) aa/\aa.w<=1100*i.w)/\J m M3:=by
  intro M k mn ae v z ab h1 h2 h3 h4 h5
  have hM:J C M:=G.trans (F4 ab)
  refine(az M (k::B.az::h.az::p.size::c) mn ae v (λa b=>?_) ab h3 h4 h5).aI (J.aF M) (λa b=>?_) λss q j ar hq hx _=>⟨_,_,rfl,tail j k ss q (z.ext fO.mono hx) (ab.then hx) V (hx.lt h2) V ar hq⟩
  .rcases List.mem_cons.1 b with g|g
   .omega
   .exact bc hM V a g
  .rcases List.mem_cons.1 b with g|g
   .omega
   .exact hM.lt (t a g)
 have aR:∀(M:E)(o:Obj),GS (h.az::p.size::c) y M B (A.map (eO 14)++H.map (eO 15))->GS (M.size::h.az::p.size::c) y (M.push o) B (A.map (eO 14)++H.map (eO 15)):=λM o z=>
  z.re fO.mono (Y:=[]) ((J.push M o).fz []) aH aH λa b=>by
   rcases List.mem_cons.1 b with g|g
   .exact Or.inr V
   .exact Or.inl g
 have bM:Fz [h.az] y L:=ak.fz _
 have aX:∀(M:E)(aW:List Nat)(K:Value->E->Prop),J C M->(∀a∈aW,a<M.size)->(∀s v j,ap j s v->oJ la v->J M j->K (O.v s) j)->aN cq 239 [O.v a4,vi (aU.len:Int)] M λN m'=>eG aW M m'/\K N m':=λM aW K hM hL hK=>
  (Oc (S:=[]) aH (bd.le ((w.trans hM).le.trans (yS _))) _ V).aI (J.aF M) hL λs v j z au Z _=>hK s v j ((z.done aH (oh au.2)).le (bz _ _)) au Z
 have aI:∀{M:E}{s:O},GI c D M s (T++A)->ap M s (T++A):=λz=>(z.done (λa b=>aJ (hS a b) (w.trans G).size) bN).le (bz _ _)
 have a1:∀{M:E}{k:Nat},J C M->k<M.size->∀a∈[k,p.size,d.size,m.size],a<M.size:=λr R a b=>by
  rcases List.mem_cons.1 b with g|g
  .omega
  .exact r.lt (t a g)
 refine⟨ba L _ _ (J.aF _) g3 aH λav aP ga gs W al X=>⟨λa b=>X a (aB.lt (t a b)) (oh (t a b)),E4 aB (G.trans (F4 W)) ⟨?_,?_⟩⟩,?_⟩
 .have ag:=G.trans (F4 W)
  refine aX aP _ _ ag (λa b=>ag.lt (t a b)) λam v aF a_ bm U=>⟨_,rfl,E4 ag (ag.trans U) ⟨?_,?_⟩⟩
  .have aC:=ag.trans U
   have bL:=U.size
   refine(az aF (B.az::h.az::p.size::c) av am v (bc aC V) (W.then U) ((aI ga).ext U) a_ bm).aI aC t λss q a6 ar hq a9 bp=>⟨_,_,rfl,?_⟩
   intro bk
   have ce:=a9.size
   have bs:=(W.then U).then a9
   exact E4 bp (bp.aP _) (tail bk a6.size ss q (aR a6 _ ((gs.ext fO.mono U).ext fO.mono a9)) (bs.push _) V (by simp[bk]) V (ar.le (sE (J.push a6 _) (ad _))) hq)
  .intro a6
   have bL:=U.size
   have aC:=ag.trans U
   exact E4 aC (aC.aP _) (hO a6 aF.size av am v (aR aF _ (gs.ext fO.mono U)) ((W.then U).push _) V (by simp[a6]) (((aI ga).ext U).ext (J.push _ _)) (a_.ext (J.push _ _)) bm)
 .intro U
  have ag:=G.trans (F4 W)
  have aC:J C U:=ag.aP _
  have a6:J aP U:=J.push _ _
  refine E4 ag aC (aX U _ _ aC (a1 aC (by simp[U])) λam v a_ a9 bk aF=>⟨_,rfl,E4 aC (aC.trans aF) ?_⟩)
  exact hO a_ aP.size av am v ((aR aP _ gs).ext fO.mono aF) ((W.then a6).then aF) V (aF.lt (by simp[U])) (((aI ga).ext a6).ext aF) a9 bk
 .intro U
  have aF:J C U:=aB.aP _
  have bm:J L U:=J.push _ _
  refine E4 aB aF (ba U _ _ bm (aR L _ g3) aH λav a9 ga gs W al X=>⟨λa b=>X a (a1 aF (by simp[U]) a b) ?_,E4 aF (G.trans (F4 W)) ?_⟩)
  .rcases List.mem_cons.1 b with g|g
   .omega
   .have:=t a g;omega
  have aC:=G.trans (F4 W)
  have bp:U.size=L.size+1:=by simp[U]
  refine aX a9 _ _ aC (a1 aC V) λam v a_ a6 bk ag=>⟨_,rfl,E4 aC (aC.trans ag) ?_⟩
  exact hO a_ L.size av am v (gs.ext fO.mono ag) (W.then ag) (ad _) (ag.lt V) ((aI ga).ext ag) a6 bk
end
section
variable{c m:E}{k i a:Nat}{s:O}{d g:List Nat}{e:List Int}{x:cE}{f:List eP}
def VW{a b:E}(h:J a c)(f:Fz [k] c b)(g:a.size<=k):J a b:=Fz.ext (((h.fz [k]).trans f).CG λe d=>Or.inr (by simp at d;omega))
def _root_.Go.Vc.Fz.NQ{M b:E}(f:Fz [k] c M)(h:s.az=k\/c.size<=s.az)(g:M.size<=b.size)(q:∀a,a<M.size->a≠s.az->b[a]? =M[a]?):Fz [k] c b:=
 f.rq ⟨g,λa d e=>q a d (by simpa using e)⟩ (Y:=[s.az]) (λy d=>by simp at d⊢;omega)
def GI.ZI{X:List Nat}{b:E}{x:O}{f:List Int}{K:O->E->Prop}(h:GI d b m s e)(k:Fz X b m)(n:ap m x f)(p:e.length+f.length<=10^12)
 (l:∀r a,GI d b a r (e++f)->Fz X b a->(m.size<=a.size/\(r.az=s.az\/m.size<=r.az))->(∀c,c<m.size->c≠s.az->a[c]? =m[c]?)->K r a):jb m ay [.i 0] 8 s x K:=by
 let⟨o,g,i,j⟩:=n.V5 (b:=1) λ_ _ h=>by rw[h];rfl
 exact Gr.next (g:=[.i 0]) tm.mono bh h k g i j V l
def bO(d:List Nat){b:O}(h:ap m b e)(c:e.length<=10^12):iU 50 [O.v b] m d (e=·):=by
 apply mS;intro i;have a:J m i:=J.push m _;exact GI.ZI (e:=[]) (X:=[]) (GI.nil d m) (a.fz []) (h.ext a) (by simpa using c) λr j g f _ _=>⟨r,e,rfl,by simpa using g,rfl,f.ext⟩
abbrev GB(d:List Nat)(a m:E)(s:O)(e:List Bk):Prop:=Gr d a m cY 2 qT s e
def GB.new(d:List Nat)(m:E):GB d m (m.push (.cells (bD []) cY)) (.mk m.size 0 0 0) []:=Gr.new d (ad _) _ _ _
def GB.ku{d X:List Nat}{g m:E}{s a:O}{e:List Bk}{c:Bk}{K:O->E->Prop}(h:GB d g m s e)(k:Fz X g m)(j:eH (bG (s.az::d) m) a c.aC)(l:e.length<=10^12)
 (i:∀r b,GB d g b r (e++[c])->Fz X g b->m.size<=b.size/\(r.az=s.az\/m.size<=r.az)->(∀f,f<m.size->f≠s.az->b[f]? =m[f]?)->K r b):
 jb (m.push (.cells (bD [.s a,.i c.aR]) cY)) cY [.s .nil,.i 0] 32 s (.mk m.size 0 1 1) K:=
 Gr.ku (g:=[.s .nil,.i 0]) qT.mono bh h k (by cases c;exact qT.of j) V i
def JU{a:List bo}{b bK:Int}{y:Int}(h:b=8)(c:(bY a bK)[i]? =some y):AE a b bK i=(bZ a y).length:=by unfold AE;rw[ak h,c];rfl
def JV{b:List bo}{a bK:Int}(h:a≠8):AE b a bK i=0:=by unfold AE;rw[ae h]
def _root_.Go.Vc.WS.Pg{b:List bo}{f d:Prop}(h:WS b g f a x)(j:f->d){bW:Int}(l:0<=bW/\bW<=(a:Int))(n:bW≠0->x.op=6){bF:List Bk}(i:bF.length=x.bF.length)(m:∀(k:Nat)(c:Bk),bF[k]? =some c->WB b g d (a+AE b x.op x.bK k) c):WS b g d a ⟨x.op,x.bK,bW,x.args,bF⟩:=
 ⟨⟨h.dU.op.imp id λh=>⟨j h.1,h.2⟩,h.dU.args,h.dU.ln,l,λe=>i.trans (h.dU.Jw e),λe=>i▸h.dU.all e,n,h.dU.ar⟩,m⟩
def Hs(hS:∀g∈d,g<m.size){Y U ac a k mM ab:O}{r:List bo}{G lo la:List Int}(D:dX m Y U r f)(hv:ap m ac G)(ha:ap m a x.args)(R:mX m k x.bF)(ho:ap m mM lo)(az:ap m ab la)
 (aA:∀o∈lo,0<=o/\o<(G.length:Int))(Xt:lo.length+5*x.w<=500)(Xs:la.length+1000*x.w<=1000000)(vN:G.length+5*x.w<=1000000)(aa:WS r (pc f) False G.length x)(ih:∀c∈x.bF,Wz r f c):
 JN 155 [.agg #[O.v Y,O.v U],O.v ac,oE x a k,O.v mM,O.v ab] m d λz=>WS r (pc f) True G.length z/\z.op=x.op/\z.w<=1+x.args.length+1100*bw x.bF:=by
 apply zq
 simp -zeta only[aE,aD]
 intro m0 o p ai
 let⟨q,v,s0,s1,s2⟩:=pK (a:=m0) (b:=o) (c:=p) rfl rfl rfl
 have am:J p ai:=J.push _ _
 have gk:=GB.new (o.size::d) p
 clear_value p
 have aI:=ha.len;have ay:=R.len;have hw:=cE.lg x;have aP:=JX x.bF
 refine(gQ (e:=[p.size]) (by simp[ai]) (D.le (q.trans am).le).bt D.types x.bK).aI am v λg cl m4 u F x4 u4=>⟨_,rfl,?_⟩
 subst F
 have aQ:=u.len
 refine dx (n:=x.bF.length) (ay▸R.fu) (λj s M=>Fz [p.size] m4 M/\(s.az=p.size\/m4.size<=s.az)/\∃e,GB (o.size::d) p M s e/\e.length=j/\(∀(i:Nat)(c:Bk),e[i]? =some c->WB r (pc f) True (G.length+AE r x.op x.bK i) c)/\bw e<=1100*bw (x.bF.take j)) ⟨Fz.aF _ _,Or.inl rfl,[],gk.ext qT.mono x4,rfl,aH,aH⟩ ?_
 rintro j s T ar μ hj ⟨N,aB,e,Q,aS,af,av⟩ aF
 have h:=VW u4 N (ad _)
 have hy:=Q.bg
 refine dit (λt=>?_) λt=>?_
 .intro m6
  have l:J T m6:=J.push _ _
  let⟨c,C⟩:=cg x.bF j
  have aL:=uj C
  have aO:=tP C
  have au:∀{M:E},J T M->∀g∈s.az::o.size::d,g<M.size:=λt=>bQ (bQ hS q.size (v _ aH)) (h.trans t).size (oh t.size)
  have hO:∀(M:E)(H:O)(P:List Int)(y:O),J T M->ap M H P->P.length=AE r x.op x.bK j->eH M y c.aC->
   aN cq 193 [.agg #[O.v Y,O.v U],O.v ac,O.v H,.agg #[O.v y,vi c.aR],O.v mM,O.v ab] M λrv K=>eG [o.size,m0.size,m.size] M K/\∃ak:O,∃al:Int,rv=.agg #[O.v ak,vi al]/\
    let M1:E:=K.push (.cells (bD [.s ak,.i al]) cY)
    jb M1 cY [.s O.nil,.i (0:Int)] 32 s (O.mk K.size 0 1 1) λaj L=>eG [o.size,m0.size,m.size] M1 L/\ar aj (cQ ((j:Int)+(1:Int))) L/\μ aj (cQ ((j:Int)+(1:Int))) L<μ s j T:=by
   intro M H P y B hf ae I
   have X:=q.trans (h.trans B)
   have b3:=OU D.types x.op x.bK j
   refine(IY (c:=s.az::o.size::d) (au B) (D.le X.le) (hv.ext X) hf I (ho.ext X) (az.ext X) ⟨aA,V,V,V,V,ae▸aa.bF j c C⟩ (ih c (aq C))).aI (h.trans B) v λss b' K aC F z u'=>⟨_,_,rfl,?_⟩
   refine GB.ku (c:=b') (Q.ext qT.mono (B.trans z)) (u'.fz []) aC (oh (pL x.bF)) λU L g2 f2 z2 q2=>⟨J.nR (u'.aP _) f2.ext v,aF V _ _ ⟨(N.then (B.trans z)).NQ aB z2.1 q2,?_,_,g2,bN,λi b2 w=>?_,?_⟩⟩
   .have A:=(N.then (B.trans z)).size
    rcases z2.2 with Z|Z<;>omega
   .rcases aU i e.length with A|A
    .rw[aw A]at w;exact af i b2 w
    .rw[aG A]at w
     have:i -e.length=0:=by have:=ax w;simp at this;omega
     rw[this]at w;simp at w;subst w
     have:i=j:=V
     subst this
     rw[<-ae];exact F.1
   .rw[oc,tO,yC]
    have:=F.2;omega
  refine⟨λA=>?_,λA=>?_⟩
  .simp only[aM]at A
   have aR:=(aa.dU.all A).1
   let⟨an,ag⟩:=cg (bY r x.bK) j
   refine⟨V,V,an,(dY.1 ((u.le ((N.then l).cR aH)).aO ag)).2,?_⟩
   have W:=h.trans l
   refine(dC (e:=[]) aH ((D.le (q.trans W).le).bt.le (yS _)) D.types an).aI W v λH P m7 hf F x7 u7=>⟨_,rfl,?_⟩
   subst F
   let⟨y,I,e0,e1⟩:=(R.le (q.trans u7).le).aO C
   exact⟨V,V,_,e0,_,e1,hO m7 H _ y (l.trans x7) (hf.le (bz _ _)) (JU A ag).symm I⟩
  .simp only[ao]at A
   let⟨y,I,e0,e1⟩:=(R.le (q.trans (h.trans l)).le).aO C
   exact⟨V,V,_,e0,_,e1,hO m6 _ [] y l (lU _ _ _ _ _ _) (JV A).symm I⟩
 .have A:e.length=x.bF.length:=V
  rw[cy V]at av
  refine(bO (o.size::d) (ha.ext (q.trans h)) V).aI h v λB H m6 y Z l W=>⟨_,rfl,aK (l.same _ (h.lt (v _ aH))) _,aK (l.same _ (h.lt (v _ aH))) _,?_⟩
  subst Z
  intro m7
  have C:=(Q.ext qT.mono l).bg
  have w:∀g∈o.size::d,g<p.size:=bQ hS q.size V
  refine⟨B,s,⟨x.op,x.bK,0,x.args,e⟩,rfl,(y.done (λg u=>aJ (w g u) h.size) V).le (cb aH λg u=>ah _ u),mX.le (cb aH λg u=>ah _ u) ((Q.ext qT.mono l).done qT.mono w bh (by have:=pL x.bF;show e.length<=_;omega)),⟨aa.Pg (λt=>t.elim) ⟨V,V⟩ (λt=>absurd rfl t) A af,rfl,?_⟩,(q.trans W).ai V _ _⟩
  rw[cE.lg]
  simp only
  omega
def _root_.Go.Vc.Ra{σ τ ρ:Type}{n:Nat}(u:n<=9223372036854775807){j:σ}{l:τ}{h:ρ}{g:(σ->τ->ρ->Int->E->Prop)->(σ->τ->ρ->Int->E->Nat)->σ->τ->ρ->Int->E->Prop}(Q:Nat->σ->τ->ρ->E->Prop)(p:Q 0 j l h m)
 (o:∀(k:Nat)(s:σ)(t:τ)(r:ρ)(a:E)(I:σ->τ->ρ->Int->E->Prop)(μ:σ->τ->ρ->Int->E->Nat),k<=n->Q k s t r a->
  (k<n->∀d e c b,Q (k+1) d e c b->I d e c (cQ ((k:Int)+1)) b/\μ d e c (cQ ((k:Int)+1)) b<μ s t r k a)->g I μ s t r k a):
 ∃(I:σ->τ->ρ->Int->E->Prop)(μ:σ->τ->ρ->Int->E->Nat),I j l h 0 m/\∀s t r i a,I s t r i a->g I μ s t r i a:=by
 refine⟨λs t r i b=>∃k:Nat,i=k/\k<=n/\Q k s t r b,λ_ _ _ i _=>(n -i).toNat,⟨0,rfl,dE _,p⟩,?_⟩
 rintro s t r i a ⟨k,rfl,q,v⟩
 refine o k s t r a _ _ q v λf d e c b w=>?_
 rw[km f u]
 exact⟨⟨k+1,rfl,f,w⟩,Cu f⟩
structure CB(ds:List bo)(g:List Nat)(d:List Nat)(m2 M:E)(v lo:List Int)(aC:List cE)(k:Nat)(st inn mn:O):Prop where
 x:J m2 M
 hs:∃e,GS (inn.az::mn.az::d) m2 M st e/\WL ds g True v.length e/\dc e=dc (aC.take k)/\sw e<=1100*sw (aC.take k)
 hi:∃e,GI d m2 M inn e/\e.length=v.length+dc (aC.take k)
 hm:∃e,GI d m2 M mn e/\e.length<=lo.length+k/\∀o∈e,0<=o/\o<((v.length+dc (aC.take k):Nat):Int)
 ne:inn.az≠mn.az
def ZL{b:List bo}(h:WS b g False a x):dn x=1:=ak (h.dU.op.resolve_right λh=>h.1)
def Fq{U:List bo}:∀c:Bk,Wz U f c:=by
 refine Bk.ind ?_;intro aC v ih d m hS b8 c0 dR c2 mM c6 aj lo la hn hv hs A bM hp;have bf:=hp.wb.bB;simp only[Bk.jG,Bk.iZ]at*;have Xt:=hp.Xt;have Xs:=hp.Xs;have vN:=hp.vN;rw[(Bk.qd aC v)]at Xt Xs vN;apply xL;simp -zeta only[aE,aD];intro m0 o q aJ;let⟨F,N,s0,s1,s2⟩:=pK (a:=m0) (b:=o) (c:=q) rfl rfl rfl;have bp:J q aJ:=J.push _ _;have bJ:∀am,GS am q aJ (.mk q.size 0 0 0) []:=λam=>GS.new am q;have s3:aJ.size=q.size+1:=by simp[aJ]
 clear_value aJ;clear_value q;have bS:=hs.len;have cN:=Au aC;have dw:=fw aC;refine(bO d (hv.ext (F.trans bp)) V).aI bp N λl _ m4 G p x4 u4=>⟨_,rfl,?_⟩;subst p;refine(bO d (A.ext (F.trans u4)) V).aI u4 N λu _ m5 W p x5 u5=>⟨_,rfl,?_⟩;subst p;have bT:=G.bg;have bU:=W.bg;refine Ra (n:=aC.length) (bS▸hs.fu) (λk z l u g=>CB U (pc f) (o.size::d) q g aj lo aC k z l u) ⟨u5,⟨[],((bJ _).ext fO.mono x4).ext fO.mono x5,WL.nil _ _ _ _,rfl,aH⟩,⟨aj,((G.ext x5).cG (λ_ h=>h) bp.size).any,aH⟩,⟨lo,(W.cG (λ_ h=>h) u4.size).any,V,by simpa using hp.ba⟩,V⟩ ?_;clear G W bT bU bJ;rintro k z l u B br μ hk ⟨x6,⟨R,gs,aX,Z,dy⟩,⟨li,G,aT⟩,⟨lm,W,dd,bP⟩,dq⟩ a3
 have v6:=F.trans x6;have di:=G.len bh;have df:=pM (aC.take k);have dm:=qe k aC;have L:∀j∈o.size::d,j<q.size:=bQ hS F.size (N _ aH);have cx:ap B l li:=(G.done L V).le (bz _ _);have cz:ap B u lm:=(W.done L V).le (bz _ _);have dJ:=gs.bg;have bT:=G.bg;have bU:=W.bg;have cM:=fw (aC.take k);have dj:k<=sw (aC.take k):=by rw[eJ]at cM;omega
 refine dit (λh=>?_) λh=>?_
 .let⟨x,r⟩:=cg aC k;let⟨a,kk,ha,bL,g0,g1,g2,g3,g4⟩:=hs.aO r;refine⟨V,V,_,v6.af g0,_,v6.af g1,_,v6.af g2,_,v6.af g3,_,v6.af g4,?_⟩;intro m7 C;have x8:J B C:=(J.push B _).ai (ad _) _ _;have s8:C.size=B.size+1:=by simp[C,m7,aA]
  clear_value C;have T:=x6.trans x8;have z6:=x6.size;have t:∀{g:E},C.size<=g.size->∀c∈[B.size,o.size,m0.size,m.size],c<g.size:=λh c hb=>by
   rcases List.mem_cons.1 hb with p|p
   .omega
   .have:=T.lt (N c p);omega
  have dD:=pt r;have dB:=ql r;have dC:=cE.lg x;have af:WS U (pc f) False li.length x:=by rw[aT];exact bf.1 k x r
  have bK:=ZL af;have dz:=cN (k+1);have de:=pL x.bF;have dp:=fw R;have ae:∀{g:E},J q g->At g b8 c0 a kk U f x:=λh=>⟨hn.le (F.trans h).le,ha.ext (F.trans h),af.dU.bL⟩;have aW:∀{g:E},GI (o.size::d) q g l li->ap g l li:=λw=>(w.done L V).le (bz _ _);have bd:∀{g:E},GI (o.size::d) q g u lm->ap g u lm:=λw=>(w.done L V).le (bz _ _);have an:∀{g:E}{am:List Nat},C.size<=g.size->(∀j∈am,j<g.size)->∀j∈am++o.size::d,j<g.size:=λh hb j b=>by
   rcases List.mem_append.1 b with h|h
   .exact hb j h
   .have:=L j h;omega
  refine(nB (ae T).Qz (aW (G.ext x8)) (ae T).args (bL.le (F.trans T).le) V λc _=>mJ c).aI (J.aF C) (t (ad _)) λty m9 x9 _=>⟨_,rfl,?_⟩;intro aZ;have b2:J C aZ:=x9.aP _;have e0:ap (bG [] aZ) (.mk m9.size 0 0 0) []:=lU _ _ _ _ _ _;clear_value aZ;rw[km (k:=k) (n:=aC.length) V (bS▸hs.fu)]at a3⊢
  refine(zc (.mk aC v) [] aZ aH c2 _ _ _ (k+1) (hs.le (F.trans (T.trans b2)).le) e0 (by simp only[Bk.jG];omega) (by simp only[Bk.qd,cD];omega)).aI b2 (t (ad _)) λus ul cR hu cO dS bn=>⟨_,rfl,?_⟩;rw[Bk.qd,cD]at cO;refine(Oh (S:=[]) aH hu ((bM.ext (F.trans (T.trans bn))).le (yS _)) V).aI bn (t (ad _)) λlt ll cS ba bY c3 au=>⟨_,rfl,?_⟩;have aI:∀{g:E},GI [] cR g lt ll->ap g lt ll:=λw=>(w.done aH (oh bY.2)).le (bz _ _);have bs:=T.trans au;have bx:=G.ext (x8.trans au);have bF:=W.ext (x8.trans au);have cs:=gs.ext fO.mono (x8.trans au);refine(Ft (b:=[]) aH (ae bs) (aW bx) af.dU.args (bd bF) (aI ba) V).aI (J.aF cS) (t au.size) λdu dl cT cl bZ av _=>⟨_,rfl,?_⟩;have c7:=bZ.2;have dU:=au.size;have dV:=av.size;have dT:=bn.size;have d_:=c3.size;refine(eM (c:=[z.az,l.az,u.az]++o.size::d) (an V bN) 14 ((cl.done aH V).le (bz _ _)) V).aI (J.aF cT) (t V) λdP _ a0 cf p aw _=>⟨_,rfl,?_⟩;subst p;have dX:=aw.size;refine GS.all (cs.ext fO.mono (av.trans aw)) (((bs.trans av).trans aw).fz []) (cf.done fO.mono (an (am:=[z.az,l.az,u.az]) V bN) bh bN) bN λbm bV bv b9 b3 a5=>⟨λj b=>a5 j (t V j b) ?_,?_⟩
  .simp at b;omega
  have aS:J q bV:=b9.ext;have cy:l.az<a0.size:=V;have cA:u.az<a0.size:=V;have cB:z.az≠l.az:=gs.Kw G bh;have cC:z.az≠u.az:=gs.Kw W bh;have dk:=ba.bg;have bA:=(bx.ext (av.trans aw)).iy (a5 _ cy cB.symm);have bI:=(bF.ext (av.trans aw)).iy (a5 _ cA cC.symm);have bE:=(ba.ext (av.trans aw)).iy (a5 _ V V);have dr:bm.az=z.az\/a0.size<=bm.az:=b3.2;have dF:=bv.bg;have dY:=b3.1;refine(Hs (d:=[bm.az,l.az,u.az]++o.size::d) (an V bN) (ae aS).Qz (aW bA) (ae aS).args (bL.le (F.trans aS).le) (bd bI) (aI bE) (by rw[aT];exact bP) V (oh bY.2) V af (ih x (aq r))).aI (J.aF bV) (t V) λc_ da x' bW ct cu cZ ax _=>⟨_,_,_,_,_,rfl,?_⟩;let⟨cP,cL,dA⟩:=cZ;have dZ:=ax.size;refine GS.ku (x:=x') (bv.ext fO.mono ax) ((aS.trans ax).fz []) ct cu bN λaL bg bw b_ b4 a6=>⟨λj b=>?_,?_⟩
  .have:=t (g:=bW) V j b;rw[a6 j this (by simp at b;omega),(J.push bW _).same j this]
  have a8:J q bg:=b_.ext;have bB:=(bA.ext ax).iy (a6 _ V V);have cr:=(bI.ext ax).iy (a6 _ V V);have a_:=(bE.ext ax).iy (a6 _ V V);have ds:aL.az=z.az\/a0.size<=aL.az:=by have:=b4.2;omega
  have d0:=b4.1;refine(Hw (b:=[]) aH (ae a8) (aW bB) af.dU.args (bd cr) (aI a_) V).aI (J.aF bg) (t V) λar lf cU gf bk ay _=>⟨_,rfl,?_⟩;have bt:=a8.trans ay;have d3:=ay.size;have cw:∀{g:E},GI [] bg g ar lf->ap g ar lf:=λw=>(w.done aH (oh bk.2)).le (bz _ _);refine(Hx (b:=[]) aH (ae bt) (cw gf) (aI (a_.ext ay)) V).aI (J.aF cU) (t V) λc1 Q cV gd b0 az _=>⟨_,rfl,?_⟩;have d4:=az.size;have c9:=b0.2;have c8:=bk.2;have dI:=gf.bg;have dH:=gd.bg;have dG:=bw.bg;refine(eM (c:=[aL.az,ar.az,l.az]++o.size::d) (an V bN) 15 ((gd.done aH V).le (bz _ _)) V).aI (J.aF cV) (t V) λdQ _ cW ci p ak _=>⟨_,rfl,?_⟩;subst p;have b6:=(bt.trans az).trans ak;have d5:=ak.size;have ch:GS ([ar.az,l.az]++o.size::d) q cW aL _:=bw.re fO.mono (Y:=[]) (((ay.trans az).trans ak).fz []) aH aH λj b=>by
   simp only[db,dW,aV]at b⊢;rcases b with h|h|h
   .exact Or.inr V
   .exact Or.inl (Or.inl h)
   .exact Or.inl (Or.inr (Or.inr h))
  refine GS.all ch (b6.fz []) (ci.done fO.mono (an (am:=[aL.az,ar.az,l.az]) V bN) bh bN) bN λH a1 cj ca c4 aK=>⟨λj b=>aK j (t V j b) ?_,?_⟩
  .simp at b;omega
  have b7:J q a1:=ca.ext;have d6:=c4.1;have co:=((bB.ext ay).ext (az.trans ak)).iy (aK _ V V);have cn:=(gf.ext (az.trans ak)).iy (aK _ V V);have ck:=(gd.ext ak).iy (aK _ V V);have cp:=((a_.ext ay).ext (az.trans ak)).iy (aK _ V V);have bc:ap a1 c1 Q:=(ck.done aH V).le (bz _ _);have cv:=bc.len;have cm:GI (o.size::d) q a1 ar lf:=(cn.cG (λ_ h=>h) a8.size).any;refine dx (n:=Q.length) (cv▸bc.fu) (λ_ s g=>J a1 g/\∃e,GI (o.size::d) q g s e/\GS ([s.az,l.az]++o.size::d) q g H (R++dl.map (eO 14)++[x']++Q.map (eO 15))/\oJ lf e/\l.az≠s.az/\C.size<=s.az) ⟨J.aF _,lf,cm,cj,⟨λ_ h=>h,ad _⟩,V,V⟩ ?_;rintro i s bi I2 μ2 hi ⟨aB,e,gl,bb,P,cG,dv⟩ cX;have bu:=b7.trans aB;have d7:=aB.size;have cQ:=gl.bg;refine dit (λh2=>?_) λh2=>?_
  .let⟨I,K⟩:=cg Q i;refine⟨V,V,I,(bc.ext aB).aO K,?_⟩;refine(Aq (S:=[]) aH (((gl.done L (oh P.2)).le (bz _ _)).le (yS _)) I (oh P.2)).aI (J.aF bi) (t V) λac X ab g2 y D _=>⟨_,rfl,cX V _ _ ⟨aB.trans D,X,(g2.cG (λ_ h=>h) bu.size).any,?_,⟨λaF hz=>P.1 aF (y.1 aF hz),bH y.2 P.2⟩,?_,?_⟩⟩
   .have aa:=g2.bg;refine bb.re fO.mono (Y:=[]) (D.fz []) aH aH λj b=>?_;simp only[db,dW,aV]at b⊢;rcases b with h|h|h
    .exact Or.inr V
    .exact Or.inl (Or.inr (Or.inl h))
    .exact Or.inl (Or.inr (Or.inr h))
   .have:=g2.bg;omega
   .have:=g2.bg;omega
  intro dL;have bC:=co.ext aB;refine GI.ku bC (bu.fz []) L V λaa ao ab cc b5 a7=>⟨λj b=>?_,?_⟩
  .have:=t (g:=bi) V j b;rw[a7 j this (by simp at b;omega),(J.push bi _).same j this]
  have a9:J q ao:=cc.ext;have c5:=b5.1;have cJ:H.az≠l.az:=bb.Kw bC bh;have aG:=gl.iy (a7 _ cQ.2 cG.symm);have bR:=b5.2;have ac:GS ([s.az,aa.az]++o.size::d) q ao H _:=bb.re fO.mono (Y:=[l.az]) ⟨c5,λj b hn=>a7 j b (by simpa using hn)⟩ aH (by simpa using cJ) λj b=>by
   simp only[db,dW,aV]at b⊢;rcases b with h|h|h
   .exact Or.inl (Or.inl h)
   .rcases bR with p|p
    .exact Or.inl (Or.inr (Or.inl (h.trans p)))
    .exact Or.inr V
   .exact Or.inl (Or.inr (Or.inr h))
  have bj:aa.az≠s.az:=by rcases bR with p|p<;>omega
  have I:WL U (pc f) True aj.length (R++dl.map (eO 14)++[x']++Q.map (eO 15))/\dc (R++dl.map (eO 14)++[x']++Q.map (eO 15))=dc (aC.take (k+1))/\sw (R++dl.map (eO 14)++[x']++Q.map (eO 15))+2<=1100*sw (aC.take (k+1)):=by
   have dh:dn x'=1:=by unfold dn at bK⊢;rw[cL];exact bK
   have d1:dc (dl.map (eO 14))=0:=jH V _;have d2:dc (Q.map (eO 15))=0:=jH V _;refine⟨((aX.append (qY V λy A=>?_)).y9 ?_).append (qY V λy A=>?_),?_,?_⟩
   .rw[Z,<-aT];exact af.dU.args y (bZ.1 y A)
   .rw[cF,d1,Z,jm,<-aT];exact cP
   .have:=af.dU.args y (b0.1 y A);rw[cF,cF,d1,Z,jY,sB];omega
   .rw[cF,cF,cF,d1,d2,Z,jY,sB];omega
   .rw[dt,dt,dt,nI,nI,lZ,uC];omega
  have be:∀y∈e,0<=y/\y<((aj.length+dc (aC.take (k+1)):Nat):Int):=λy A=>by
   have:=bP y (bk.1 y (P.1 y A));omega
  have bX:∀(g:E),J ao g->br H aa s ((k+1:Nat):Int) g/\μ H aa s ((k+1:Nat):Int) g<μ z l u k B:=λg r=>
   a3 V _ _ _ _ ⟨a9.trans r,⟨_,(ac.re fO.mono (Y:=[]) (r.fz []) aH aH λj b=>Or.inl (by simp only[db,dW,aV]at b⊢;rcases b with h|h|h;exact Or.inr (Or.inl h);exact Or.inl h;exact Or.inr (Or.inr h))),I.1,I.2.1,V⟩,⟨_,ab.ext r,bN⟩,⟨e,aG.ext r,oh P.2,be⟩,bj⟩
  have dK:=ac.bg;have cY:∀(g:E),J ao g->aN cq 158 [vi (15:Int),vi (l.len:Int)] g λrv D=>eG [B.size,o.size,m0.size,m.size] g D/\∃aM:Int,∃aO:Int,∃aP:Int,∃aQ:O,∃aR:O,rv=.agg #[vi aM,vi aO,vi aP,O.v aQ,O.v aR]/\
   let M2:E:=D.push (.cells (bD [.i aM,.i aO,.i aP,.s aQ,.s aR]) fL)
   jb M2 fL [.i (0:Int),.i (0:Int),.i (0:Int),.s O.nil,.s O.nil] 72 H (O.mk D.size 0 1 1) λb1 K=>eG [B.size,o.size,m0.size,m.size] M2 K/\br b1 aa s ((k+1:Nat):Int) K/\μ b1 aa s ((k+1:Nat):Int) K<μ z l u k B:=by
   intro g r
   have zx:=r.size
   have dE:=ab.bg
   refine(iK (c:=[H.az,s.az,aa.az]++o.size::d) (an V bN) 15 (l.len:Int)).mono λrv D⟨pa,pk,p,X,h2,ag⟩=>?_
   subst p
   have d9:=ag.size
   have aY:=r.trans ag
   refine⟨ag.da (t V),_,_,_,_,_,rfl,?_⟩
   have cH:H.az≠aa.az:=ac.Kw ab bh
   have cI:H.az≠s.az:=ac.Kw aG bh
   refine GS.ku (x:=eO 15 (l.len:Int)) (ac.ext fO.mono aY) ((a9.trans aY).fz []) X h2 (Pk I.2.2 (fw (R++dl.map (eO 14)++[x']++Q.map (eO 15)))) λr' K w aU aF a4=>⟨λj b=>?_,a3 V _ _ _ _ ⟨aU.ext,⟨_,(w.re fO.mono (Y:=[]) ((J.aF _).fz []) aH aH λj b=>Or.inl (by simp only[db,dW,aV]at b⊢;rcases b with h|h|h;exact Or.inr (Or.inl h);exact Or.inl h;exact Or.inr (Or.inr h))),I.1.y9 (CR V ?_),?_,?_⟩,⟨_,(ab.ext aY).iy (a4 _ V cH.symm),bN⟩,⟨e,(aG.ext aY).iy (a4 _ V cI.symm),oh P.2,be⟩,bj⟩⟩
   .have:=t (g:=D) V j b
    rw[a4 j this (by simp at b;omega),(J.push D _).same j this]
   .rw[I.2.1];omega
   .rw[cF,I.2.1];simp[jY,dn,eO,oG]
   .rw[dt,lZ,uC]
    have h5:(eO 15 (l.len:Int)).w=2:=by rw[cE.lg];rfl
    have:=I.2.2;omega
  refine⟨λ_=>?_,λh0=>⟨λX=>by rw[h0]at X;simp at X,λ_=>bX ao (J.aF _)⟩⟩;refine(dg (aI (((cp.ext aB).iy (a7 _ V V)))) _).any.aI (J.aF ao) (t V) λc a2 al _=>⟨_,rfl,λ_=>?_,λ_=>⟨λ_=>cY a2 al,λ_=>bX a2 al⟩⟩;intro dM;have cK:H.az≠s.az:=ac.Kw aG bh;have d8:=al.size;refine GI.ku (aG.ext al) ((a9.trans al).fz []) L (oh P.2) λdO dN ce cd bq bl=>⟨λj b=>?_,a3 V _ _ _ _ ⟨cd.ext,⟨_,(ac.ext fO.mono al).re fO.mono (Y:=[s.az]) ⟨bq.1,λj b hn=>bl j b (by simpa using hn)⟩ aH (by simpa using cK) λj b=>?_,I.1,I.2.1,V⟩,⟨_,(ab.ext al).iy (bl _ ?_ bj),bN⟩,⟨_,ce,?_,?_⟩,?_⟩⟩
  .have:=t (g:=a2) V j b;rw[bl j this (by simp at b;omega),(J.push a2 _).same j this]
  .simp only[db,dW,aV]at b⊢;rcases b with h|h|h
   .exact Or.inl (Or.inr (Or.inl h))
   .rcases bq.2 with p|p
    .exact Or.inl (Or.inl (h.trans p))
    .exact Or.inr V
   .exact Or.inl (Or.inr (Or.inr h))
  .have:=ab.bg;omega
  .have:=P.2;simp;omega
  .intro y A;rcases List.mem_append.1 A with A|A
   .exact be y A
   .simp at A;omega
  .have:=ab.bg;rcases bq.2 with p|p<;>omega
 .have aa:k=aC.length:=V;subst aa;rw[gX]at*;have P:∀(g:E)(H:O)(t:List cE),J q g->GS (l.az::u.az::o.size::d) q g H t->WL U (pc f) True aj.length t->dc t=dc aC->sw t<=1100*sw aC+2->
   let y:E:=ai g o.size 0 [.s H,.i v]
   ∃s c,Value.agg #[O.v H,vi v]=.agg #[O.v s,vi c.aR]/\eH (bG d y) s c.aC/\(WB U (pc f) True aj.length c/\c.w+1050<=1100*(Bk.mk aC v).w)/\J m y:=by
   intro g H t r w X h2 h3 y
   have ab:=fw t
   have:=w.bg
   refine⟨H,.mk t v,rfl,eH.le (cb aH λj b=>ah _ b) (w.re fO.mono (S':=o.size::d) (Y:=[]) (Fz.aF _ _) aH aH (λj b=>Or.inl (ah _ (ah _ b)))|>.done fO.mono L bh bN),⟨WB.of X (by rw[h2];exact bf.2),?_⟩,(F.trans r).ai V _ _⟩
   rw[Bk.qd,Bk.qd];omega
  have ln:∀(g:E),J B g->aN cq 158 [vi (14:Int),vi v] g λrv D=>eG [o.size,m0.size,m.size] g D/\∃aM:Int,∃aO:Int,∃aP:Int,∃aQ:O,∃aR:O,rv=.agg #[vi aM,vi aO,vi aP,O.v aQ,O.v aR]/\
   let M2:E:=D.push (.cells (bD [.i aM,.i aO,.i aP,.s aQ,.s aR]) fL)
   jb M2 fL [.i (0:Int),.i (0:Int),.i (0:Int),.s O.nil,.s O.nil] 72 z (O.mk D.size 0 1 1) λQ K=>eG [o.size,m0.size,m.size] M2 K/\
    let y:E:=ai K o.size 0 [.s Q,.i v]
    ∃s c,Value.agg #[O.v Q,vi v]=.agg #[O.v s,vi c.aR]/\eH (bG d y) s c.aC/\(WB U (pc f) True aj.length c/\c.w+1050<=1100*(Bk.mk aC v).w)/\J m y:=by
   intro g r
   refine(iK (c:=z.az::l.az::u.az::o.size::d) (λj b=>?_) 14 v).mono λrv D⟨a,kk,p,X,h2,x1⟩=>?_
   .have:=r.size
    simp at b
    rcases b with h|h|h|h|h
    .omega
    .omega
    .omega
    .have:=x6.lt (N o.size aH);omega
    .have:=hS _ h;have:=v6.size;omega
   subst p
   have ag:=x6.trans (r.trans x1)
   refine⟨J.nR (x6.trans r) ag N,_,_,_,_,_,rfl,?_⟩
   refine GS.ku (x:=eO 14 v) (gs.ext fO.mono (r.trans x1)) (ag.fz []) X h2 (oh (fw R)) λr' K w aU aF a4=>⟨J.nR (ag.aP _) aU.ext N,P K r' _ aU.ext w (aX.y9 (CR V (by rw[Z];exact bf.2))) ?_ ?_⟩
   .rw[cF,Z];simp[jY,dn,eO,oG]
   .rw[dt];simp[lZ,cE.lg,eO];omega
  let⟨aF,hz⟩:=cg li v.toNat;refine⟨V,V,aF,cx.aO hz,λ_=>?_,λ_=>P B z R x6 gs aX Z V⟩;refine(dg (bM.ext v6) v).any.aI x6 N λc m7 I u7=>⟨_,rfl,λ_=>ln m7 I,λ_=>?_⟩;exact(dg (cz.ext I) v).any.aI u7 N λc C x8 T=>⟨_,rfl,λ_=>ln C (I.trans x8),λ_=>P C z R T ((gs.ext fO.mono I).ext fO.mono x8) aX Z V⟩
end
structure ZC(ds:List bo)(nr:List Nat)(v lm:List Int)(b:Bk):Prop where
 ba:∀o∈lm,0<=o/\o<(v.length:Int)
 lN:lm.length+5*b.w<=1000000
 vN:v.length+5*b.w<=1000000
 wb:WB ds nr False v.length b
def XK(a:List bo)(d:List eP)(b:Bk):Prop:=∀(S:List Nat)(m:E),(∀c∈S,c<m.size)->∀(f r h t g:O)(v c:List Int),dX m f r a d->ap m h v->eH m t b.aC->ap m g c->ZC a (pc d) v c b->
 mP 251 [.agg #[O.v f,O.v r],O.v h,.agg #[O.v t,vi b.aR],O.v g] m S λe=>WB a (pc d) True v.length e/\e.w+20<=40*b.w+2*c.length
def Jd{o:List Nat}{m:E}(hS:∀c∈o,c<m.size){ag al av aZ I:O}{F:List bo}{rs:List eP}{v:List Int}{x:cE}(hn:dX m ag al F rs)(hv:ap m av v)(ha:ap m aZ x.args)(hk:mX m I x.bF)
 (vN:v.length+5*x.w<=1000000)(aP:WS F (pc rs) False v.length x)(ih:∀h∈x.bF,XK F rs h):
 JN 264 [.agg #[O.v ag,O.v al],O.v av,oE x aZ I] m o λx'=>WS F (pc rs) True v.length x'/\x'.op=x.op/\x'.w<=1+x.args.length+40*bw x.bF:=by
 apply BK
 simp -zeta only[aE,aD]
 intro D e k a6
 let⟨L,G,s0,s1,s2⟩:=pK (a:=D) (b:=e) (c:=k) rfl rfl rfl
 have ba:J k a6:=J.push _ _
 have gk:=GB.new (e.size::o) k
 clear_value k
 have bv:=ha.len;have bl:=hk.len;have hw:=cE.lg x;have bI:=JX x.bF;have bq:=hv.len
 have aO:∀c∈e.size::o,c<k.size:=bQ hS L.size (G _ aH)
 refine(gQ (e:=[k.size]) (by simp[a6]) (hn.le (L.trans ba).le).bt hn.types x.bK).aI ba G λc cl m4 d aS x4 u4=>⟨_,rfl,?_⟩
 subst aS
 have bJ:=d.len
 refine dx (n:=x.bF.length) (bl▸hk.fu) (λj s M=>Fz [k.size] m4 M/\(s.az=k.size\/m4.size<=s.az)/\∃q,GB (e.size::o) k M s q/\q.length=j/\(∀(aa:Nat)(h:Bk),q[aa]? =some h->WB F (pc rs) True (v.length+AE F x.op x.bK aa) h)/\bw q<=40*bw (x.bF.take j)) ⟨Fz.aF _ _,Or.inl rfl,[],gk.ext qT.mono x4,rfl,aH,aH⟩ ?_
 rintro j s X aY μ hj ⟨f5,bn,q,C,bK,a5,a1⟩ bs
 have K:=VW u4 f5 (ad _)
 have hy:=C.bg
 refine dit (λp=>?_) λp=>?_
 .intro m6
  have x6:J X m6:=J.push _ _
  have u6:=K.trans x6
  let⟨h,N⟩:=cg x.bF j
  have bC:=uj N
  have bH:=tP N
  have bx:=OU hn.types x.op x.bK j
  have bB:=pL x.bF
  refine⟨λa0 M=>J X M/\∃B,ap M a0 B/\B.length=AE F x.op x.bK j,⟨λh8=>?_,λh8=>?_⟩,?_⟩
  .simp only[aM]at h8
   have g:=(aP.dU.all h8).1
   let⟨y,a⟩:=cg (bY F x.bK) j
   refine⟨V,V,y,(dY.1 ((d.le ((f5.then x6).cR aH)).aO a)).2,?_⟩
   refine(dC (e:=[]) aH ((hn.le (L.trans u6).le).bt.le (yS _)) hn.types y).aI u6 G λa0 B m7 hf aS f i=>⟨_,rfl,x6.trans f,B,hf.le (bz _ _),?_⟩
   subst aS;exact(JU h8 a).symm
  .simp only[ao]at h8
   exact⟨x6,[],lU _ _ _ _ _ _,(JV h8).symm⟩
  rintro fs m8 ⟨Q,B,hf,a3⟩
  have e8:(av.len:Int)=((v.length:Nat):Int):=by rw[bq]
  rw[e8]
  refine(rh (S:=[]) aH (hf.le (yS _)) v.length V).aI (K.trans Q) G λmi ml y gm qm R Z=>⟨_,rfl,?_⟩
  let⟨aW,hs,e0,e1⟩:=hk.aO N
  have v9:=L.trans Z
  refine⟨V,V,_,v9.af e0,_,v9.af e1,?_⟩
  have z5:=K.size
  have g9:=C.ext qT.mono (Q.trans R)
  have a4:∀{M:E},J y M->ap M mi ml:=λp=>((gm.done aH (oh qm.2)).le (bz _ _)).ext p
  have bL:=qm.2
  have E5:∀{M f:E},J k M->J k f->∀{a7:Prop},a7->af f I.az (I.off+Int.toNat (j:Int)*2)=af M I.az (I.off+Int.toNat (j:Int)*2)/\af f I.az (I.off+Int.toNat (j:Int)*2+1)=af M I.az (I.off+Int.toNat (j:Int)*2+1)/\
   af f D.size 4=af M D.size 4/\af f m.size 0=af M m.size 0/\af f m.size 1=af M m.size 1/\a7:=λ{M f} p h' _ hp=>by
   have aC:∀h,h<k.size->∀z,af f h z=af M h z:=λh N z=>aK (by rw[h'.same h N,p.same h N]) z
   exact⟨((L.trans h').af e0).trans ((L.trans p).af e0).symm,((L.trans h').af e1).trans ((L.trans p).af e1).symm,aC _ V _,aC _ V _,aC _ V _,hp⟩
  have an:∀{M:E},J X M->∀c∈s.az::e.size::o,c<M.size:=λp c d=>by
   have:=p.size;rcases List.mem_cons.1 d with g|g
   .omega
   .have:=aO c g;omega
  have W:∀{M:E}{a:Nat},J X M->a<M.size->∀c∈[a,e.size,D.size,m.size],c<M.size:=λp N c d=>by
   rcases List.mem_cons.1 d with g|g
   .omega
   .exact(K.trans p).lt (G c g)
  have tail:∀(M:E)(a:Nat)(P:O)(i:Bk),GB (a::e.size::o) k M s q->J X M->J y M->y.size<=a->a<M.size->eH (bG (a::s.az::e.size::o) M) P i.aC->WB F (pc rs) True (v.length+B.length) i/\i.w+20<=40*h.w+2*ml.length->
   let l:E:=ai M a 0 [.s P,.i i.aR]
   aN cq 112 [vi (14:Int),O.v mi] l λrv r=>eG [a,e.size,D.size,m.size] l r/\∃ab:O,rv=O.v ab/\af r a 1=af l a 1/\af r a 0=af l a 0/\
    jb r fL [.i (0:Int),.i (0:Int),.i (0:Int),.s O.nil,.s O.nil] 72 ab P λau w=>eG [a,e.size,D.size,m.size] r w/\af w a 1=af r a 1/\
     let M4:E:=w.push (.cells (bD [.s au,.i i.aR]) cY)
     jb M4 cY [.s O.nil,.i (0:Int)] 32 s (O.mk w.size 0 1 1) λac U=>eG [a,e.size,D.size,m.size] M4 U/\aY ac (cQ ((j:Int)+(1:Int))) U/\μ ac (cQ ((j:Int)+(1:Int))) U<μ s j X:=by
   intro M a P i C H br bk bA aj hq l
   have z1:l.size=M.size:=aA _ _ _ _
   have z9:=(Q.trans R).size
   have bc:J y l:=br.ai bk _ _
   have T:J X l:=(Q.trans R).trans bc
   have bm:s.az≠a:=V
   have g1:GB (e.size::o) k l s q:=C.re qT.mono (Y:=[a]) ((Fz.aF [a] M).ai (Or.inl aH) _ _) aH (by simpa using bm) λc d=>Or.inl (ah _ d)
   have bp:eH (bG (s.az::e.size::o) l) P i.aC:=aj.le (cb aH λc d=>ah _ d)
   have bF:=Bk.lg i;have a1:=fw i.aC
   refine(eM (c:=s.az::e.size::o) (an T) 14 (a4 bc) V).aI (J.aF l) (W T V) λab _ r aL g am _=>⟨_,rfl,aK (am.same _ V) _,aK (am.same _ V) _,?_⟩
   subst g
   have z2:=am.size
   refine GS.all aL (am.fz []) (bp.le (sE am aL.bg.1)) bN λau w bf be bR a8=>?_
   have ae:J l w:=be.ext
   have z3:=ae.size
   have bM:=aL.bg
   refine⟨λc d=>a8 c (oh (W T (a:=a) V c d)) (oh (W T (a:=a) V c d)),aK (a8 _ V V) _,?_⟩
   intro M4
   have bi:=bf.done fO.mono (an T) bh bN
   refine GB.ku (c:=.mk (ml.map (eO 14)++i.aC) i.aR) (g1.ext qT.mono ae) ((((K.trans T).trans ae)).fz []) bi V λac U bg bu bd a9=>⟨λc d=>?_,bs V _ _ ⟨(f5.then (T.trans ae)).NQ bn bd.1 a9,?_,_,bg,bN,λaa b2 t=>?_,?_⟩⟩
   .have:=W (T.trans ae) (a:=a) V c d
    rw[a9 c this (by simp at d;omega),(J.push w _).same c this]
   .have h1:=(f5.then (T.trans ae)).size
    rcases bd.2 with g|g<;>omega
   .rcases aU aa q.length with u|u
    .rw[aw u]at t;exact a5 aa b2 t
    .rw[aG u]at t
     have:aa -q.length=0:=by have:=ax t;simp at this;omega
     rw[this]at t;simp at t;subst t
     have:aa=j:=V
     subst this
     rw[<-a3]
     refine WB.of ((qY V λz ho=>?_).append ?_) ?_
     .have:=qm.1 z ho;omega
     .rw[jH V];exact hq.1.bB.1
     .rw[cF,jH V,bE];exact hq.1.bB.2
   .rw[oc,tO,yC,Bk.qd,dt,nI]
    have:=hq.2;omega
  have a2:∀(M:E)(aI:List Nat)(aF:Value->E->Prop),J y M->(∀c∈aI,c<M.size)->(∀s f,ap f s (v++B)->J M f->aF (O.v s) f)->aN cq 106 [O.v av,O.v fs] M λv m'=>eG aI M m'/\aF v m':=λM aI aF H W hK=>
   (eE (S:=[]) aH ((hv.ext (v9.trans H)).le (yS _)) ((hf.ext (R.trans H)).le (yS _)) V).aI (J.aF M) W λs ll f C g x _=>hK s f (by subst g;exact(C.done aH bN).le (bz _ _)) x
  have az:∀(M:E)(S':List Nat)(u:O),(∀c∈S',c<M.size)->J y M->ap M u (v++B)->mP 251 [.agg #[O.v ag,O.v al],O.v u,.agg #[O.v aW,vi h.aR],O.v mi] M S' λi=>WB F (pc rs) True (v.length+B.length) i/\i.w+20<=40*h.w+2*ml.length:=by
   intro M S' u bj H t;have hm:=v9.trans H;have:=ih h (aq N) S' M bj ag al u aW mi (v++B) ml (hn.le hm.le) t (hs.le hm.le) (a4 H) ⟨λz ho=>?_,V,bN,by simp;rw[a3];exact aP.bF j h N⟩
   .simpa using this
   .have:=qm.1 z ho;simp;omega
  have hO:∀(M:E)(a:Nat)(u:O),GB (a::e.size::o) k M s q->J y M->y.size<=a->a<M.size->ap M u (v++B)->
   aN cq 251 [.agg #[O.v ag,O.v al],O.v u,.agg #[O.v aW,vi h.aR],O.v mi] M λrv f=>eG [a,e.size,D.size,m.size] M f/\∃aT:O,∃aV:Int,rv=.agg #[O.v aT,vi aV]/\
    let l:E:=ai f a 0 [.s aT,.i aV]
    aN cq 112 [vi (14:Int),O.v mi] l λrv r=>eG [a,e.size,D.size,m.size] l r/\∃ab:O,rv=O.v ab/\af r a 1=af l a 1/\af r a 0=af l a 0/\
     jb r fL [.i (0:Int),.i (0:Int),.i (0:Int),.s O.nil,.s O.nil] 72 ab aT λau w=>eG [a,e.size,D.size,m.size] r w/\af w a 1=af r a 1/\
      let M4:E:=w.push (.cells (bD [.s au,.i aV]) cY)
      jb M4 cY [.s O.nil,.i (0:Int)] 32 s (O.mk w.size 0 1 1) λac U=>eG [a,e.size,D.size,m.size] M4 U/\aY ac (cQ ((j:Int)+(1:Int))) U/\μ ac (cQ ((j:Int)+(1:Int))) U<μ s j X:=by
   intro M a u C H h1 h2 h3
   have x5:=(Q.trans R).trans H
   have z9:=(Q.trans R).size
   refine(az M (a::s.az::e.size::o) u (λc d=>?_) H h3).aI (J.aF M) (W x5 h2) λP i f aj hq ar _=>⟨_,_,rfl,tail f a P i (C.ext qT.mono ar) (x5.trans ar) (H.trans ar) h1 (ar.lt h2) aj hq⟩
   rcases List.mem_cons.1 d with g|g
   .omega
   .exact an x5 c g
  have aR:∀(M:E)(z:Obj),GB (e.size::o) k M s q->GB (M.size::e.size::o) k (M.push z) s q:=λM z C=>
   C.re qT.mono (Y:=[]) ((J.push M z).fz []) aH aH λc d=>by
    rcases List.mem_cons.1 d with g|g
    .exact Or.inr V
    .exact Or.inl g
  refine⟨a2 y _ _ (J.aF _) (λc d=>Z.lt (G c d)) λu aQ t A=>⟨_,rfl,E5 Z (Z.trans A) ⟨?_,?_⟩⟩,?_⟩
  .have ak:=Z.trans A
   have bt:=A.size
   refine(az aQ (s.az::e.size::o) u (an ((Q.trans R).trans A)) A t).aI ak G λP i aB aj hq ay a_=>⟨_,_,rfl,?_⟩
   intro aX
   have bP:=ay.size
   exact E5 a_ (a_.aP _) (tail aX aB.size P i (aR aB _ ((g9.ext qT.mono A).ext qT.mono ay)) ((((Q.trans R).trans A).trans ay).aP _) ((A.trans ay).aP _) V (by simp[aX]) (aj.le (sE (J.push aB _) (ad _))) hq)
  .intro ay
   have ak:=Z.trans A
   have bt:=A.size
   exact E5 ak (ak.aP _) (hO ay aQ.size u (aR aQ _ (g9.ext qT.mono A)) (A.aP _) V (by simp[ay]) (t.ext (J.push _ _)))
  .intro ak
   have ay:J y ak:=J.push _ _
   have aX:J k ak:=Z.trans ay
   refine E5 Z aX (a2 ak _ _ ay (W ((Q.trans R).trans ay) (by simp[ak])) λu a_ t aB=>⟨_,rfl,E5 aX (aX.trans aB) ?_⟩)
   exact hO a_ y.size u ((aR y _ g9).ext qT.mono aB) (ay.trans aB) (ad _) (aB.lt (by simp[ak])) t
 .have f:q.length=x.bF.length:=V
  rw[cy V]at a1
  refine(bO (e.size::o) (ha.ext (L.trans K)) V).aI K G λi l m6 a g x6 u6=>⟨_,rfl,aK (x6.same _ (K.lt (G _ aH))) _,aK (x6.same _ (K.lt (G _ aH))) _,?_⟩
  subst g
  intro m7
  refine⟨i,s,⟨x.op,x.bK,0,x.args,q⟩,rfl,(a.done (λc d=>aJ (aO c d) K.size) V).le (cb aH λc d=>ah _ d),mX.le (cb aH λc d=>ah _ d) ((C.ext qT.mono x6).done qT.mono aO bh (by have:=pL x.bF;show q.length<=_;omega)),⟨aP.Pg (λp=>p.elim) ⟨V,V⟩ (λp=>absurd rfl p) f a5,rfl,?_⟩,(L.trans u6).ai V _ _⟩
  rw[cE.lg]
  simp only
  omega
structure LB(ds:List bo)(nr:List Nat)(S:List Nat)(m2 M:E)(v lm:List Int)(aC:List cE)(k:Nat)(st inn ow:O):Prop where
 x:J m2 M
 hs:∃l,GS (inn.az::ow.az::S) m2 M st l/\WL ds nr True v.length l/\dc l=dc (aC.take k)/\sw l+2*k<=40*sw (aC.take k)
 hi:∃l,GI S m2 M inn l/\l.length=v.length+dc (aC.take k)
 ho:∃l,GI S m2 M ow l/\l.length<=lm.length+k/\∀o∈l,0<=o/\o<((v.length+dc (aC.take k):Nat):Int)
 ne:inn.az≠ow.az
def Hv{D:List bo}{G:List eP}:∀p:Bk,XK D G p:=by
 refine Bk.ind ?_;intro aC A ih j C hS bc bM cj ci cf H lm hn hv hs br hp;have au:=hp.wb.bB;simp only[Bk.jG,Bk.iZ]at*;have lN:=hp.lN;have vN:=hp.vN;rw[(Bk.qd aC A)]at lN vN;apply zN;simp -zeta only[aE,aD];intro m d f ac;let⟨B,u,s0,s1,s2⟩:=pK (a:=m) (b:=d) (c:=f) rfl rfl rfl;have aM:J f ac:=J.push _ _;have aW:∀I,GS I f ac (.mk f.size 0 0 0) []:=λI=>GS.new I f;have s3:ac.size=f.size+1:=by simp[ac]
 clear_value ac;clear_value f;have bA:=hs.len;have bC:=Au aC;have b1:=fw aC;refine(bO j (hv.ext (B.trans aM)) V).aI aM u λg _ m4 r e x4 u4=>⟨_,rfl,?_⟩;subst e;refine(bO j (br.ext (B.trans u4)) V).aI u4 u λi _ m5 z e x5 u5=>⟨_,rfl,?_⟩;subst e;have a5:=r.bg;have bH:=z.bg;refine Ra (n:=aC.length) (bA▸hs.fu) (λk t g i a=>LB D (pc G) (d.size::j) f a H lm aC k t g i) ⟨u5,⟨[],((aW _).ext fO.mono x4).ext fO.mono x5,WL.nil _ _ _ _,rfl,aH⟩,⟨H,((r.ext x5).cG (λ_ h=>h) aM.size).any,aH⟩,⟨lm,(z.cG (λ_ h=>h) u4.size).any,V,by simpa using hp.ba⟩,V⟩ ?_;clear r z a5 bH aW;rintro k t g i s ba μ hk ⟨W,⟨R,K,av,P,b2⟩,⟨li,r,an⟩,⟨lo,z,bS,a1⟩,a3⟩ bK
 have v6:=B.trans W;have bV:=r.len bh;have bT:=pM (aC.take k);have bX:=qe k aC;have L:∀c∈d.size::j,c<f.size:=bQ hS B.size (u _ aH);have cc:=K.bg;have a5:=r.bg;have b_:=z.bg;have bB:=fw (aC.take k);have bW:k<=sw (aC.take k):=by rw[eJ]at bB;omega
 have bY:=fw R;have z6:=W.size;have ak:∀{a:E},GI (d.size::j) f a g li->ap a g li:=λq=>(q.done L V).le (bz _ _);have aZ:∀{a:E},GI (d.size::j) f a i lo->ap a i lo:=λq=>(q.done L V).le (bz _ _);have N:∀{a:E}{I:List Nat},s.size<=a.size->(∀c∈I,c<a.size)->∀c∈I++d.size::j,c<a.size:=λh hb c b=>by
  rcases List.mem_append.1 b with h|h
  .exact hb c h
  .have:=L c h;omega
 have aX:∀{a:E},J s a->∀c∈[d.size,m.size,C.size],c<a.size:=λh c b=>(W.trans h).lt (u c b);have bt:t.az≠g.az:=K.Kw r bh;have a4:t.az≠i.az:=K.Kw z bh;refine dit (λh=>?_) λh=>?_
 .let⟨ae,v⟩:=cg aC k;let⟨bb,kk,ha,a0,g0,g1,g2,g3,g4⟩:=hs.aO v;refine⟨V,V,_,v6.af g0,_,v6.af g1,_,v6.af g2,_,v6.af g3,_,v6.af g4,?_⟩;intro m7 y;have x8:J s y:=(J.push s _).ai (ad _) _ _;have s8:y.size=s.size+1:=by simp[y,m7,aA]
  clear_value y;have u8:=W.trans x8;have w:∀{a:E},y.size<=a.size->∀p∈[s.size,d.size,m.size,C.size],p<a.size:=λh p hb=>by
   rcases List.mem_cons.1 hb with e|e
   .omega
   .have:=u8.lt (u p e);omega
  have b7:=pt v;have b5:=ql v;have b6:=cE.lg ae;have aa:WS D (pc G) False li.length ae:=by rw[an];exact au.1 k ae v
  have aY:=ZL aa;have b3:=bC (k+1);have Z:∀{a:E},J f a->At a bc bM bb kk D G ae:=λh=>⟨hn.le (B.trans h).le,ha.ext (B.trans h),aa.dU.bL⟩;refine(nB (Z u8).Qz (ak (r.ext x8)) (Z u8).args (a0.le (B.trans u8).le) V λp _=>mJ p).aI (J.aF y) (w (ad _)) λty m9 x9 _=>⟨_,rfl,?_⟩;have X9:=u8.trans x9;have z9:=x9.size;refine(xK (b:=[]) aH (Z X9) (ak ((r.ext x8).ext x9)) aa.dU.args V).aI (J.aF m9) (w V) λdu X bI bl a8 aJ _=>⟨_,rfl,?_⟩;have bR:=a8.2;have cl:=aJ.size;refine(eM (c:=[t.az,g.az,i.az]++d.size::j) (N V bN) 14 ((bl.done aH V).le (bz _ _)) V).aI (J.aF bI) (w V) λch _ aw bi e aL _=>⟨_,rfl,?_⟩;subst e;have cm:=aL.size;have aO:J s aw:=(((x8.trans x9).trans aJ).trans aL);refine GS.all (K.ext fO.mono aO) (((X9.trans aJ).trans aL).fz []) (bi.done fO.mono (N (I:=[t.az,g.az,i.az]) V bN) bh bN) bN λaG a6 aR bd a9 ax=>⟨λc b=>ax c (w V c b) ?_,?_⟩
  .simp at b;omega
  have aj:J f a6:=bd.ext;have aS:=(r.ext aO).iy (ax _ V bt.symm);have bm:=(z.ext aO).iy (ax _ V a4.symm);have bZ:aG.az=t.az\/aw.size<=aG.az:=a9.2;have b8:=aR.bg;have cn:=a9.1;refine(Jd (o:=[aG.az,g.az,i.az]++d.size::j) (N V bN) (Z aj).Qz (ak aS) (Z aj).args (a0.le (B.trans aj).le) V aa (ih ae (aq v))).aI (J.aF a6) (w V) λca ck U a7 bp bq bL ag _=>⟨_,_,_,_,_,rfl,?_⟩;let⟨bE,bw,b4⟩:=bL;have co:=ag.size;refine GS.ku (x:=U) (aR.ext fO.mono ag) ((aj.trans ag).fz []) bp bq bN λF al ao be a_ az=>⟨λc b=>?_,?_⟩
  .have:=w (a:=a7) V c b;rw[az c this (by simp at b;omega),(J.push a7 _).same c this]
  have aQ:J f al:=be.ext;have cp:=a_.1;have aT:=(aS.ext ag).iy (az _ V V);have ar:=(bm.ext ag).iy (az _ V V);have b0:F.az=t.az\/aw.size<=F.az:=by have:=a_.2;omega
  have B1:WL D (pc G) True H.length (R++X.map (eO 14)++[U])/\dc (R++X.map (eO 14)++[U])=dc (aC.take (k+1))/\sw (R++X.map (eO 14)++[U])+2*(k+1)<=40*sw (aC.take (k+1)):=by
   have bU:dn U=1:=by unfold dn at aY⊢;rw[bw];exact aY
   have d1:dc (X.map (eO 14))=0:=jH V _;refine⟨((av.append (qY V λo l=>?_)).y9 ?_),?_,?_⟩
   .rw[P,<-an];exact aa.dU.args o (a8.1 o l)
   .rw[cF,d1,P,jm,<-an];exact bE
   .rw[cF,cF,d1,P,jY,sB];omega
   .rw[dt,dt,nI,lZ,uC];omega
  have a2:∀o∈lo,0<=o/\o<((H.length+dc (aC.take (k+1)):Nat):Int):=λo l=>by
   have:=a1 o l;omega
  have aU:∀(a:E)(T:O)(ab:List Int),J f a->y.size<=a.size->GS (g.az::T.az::d.size::j) f a F (R++X.map (eO 14)++[U])->GI (d.size::j) f a g li->GI (d.size::j) f a T ab->g.az≠T.az->ab.length<=lm.length+(k+1)->(∀o∈ab,0<=o/\o<((H.length+dc (aC.take (k+1)):Nat):Int))->
   jb (a.push (.cells (bD [.i ty]) ay)) ay [.i (0:Int)] 8 g (O.mk a.size 0 1 1) λaI M'=>eG [s.size,d.size,m.size,C.size] (a.push (.cells (bD [.i ty]) ay)) M'/\ba F aI T (cQ ((k:Int)+(1:Int))) M'/\μ F aI T (cQ ((k:Int)+(1:Int))) M'<μ t g i k s:=by
   intro a T ab v Q q gI gO bs bn bx
   have b9:=gI.bg;have bF:=gO.bg
   have bv:F.az≠g.az:=q.Kw gI bh
   refine GI.ku gI (v.fz []) L V λaI M' bk bg aP aF=>⟨λc b=>?_,bK V _ _ _ _ ⟨bg.ext,⟨_,q.re fO.mono (Y:=[g.az]) ⟨aP.1,λc b hn=>aF c b (by simpa using hn)⟩ aH (by simpa using bv) (λc b=>?_),B1.1,B1.2.1,B1.2.2⟩,⟨_,bk,bN⟩,⟨ab,gO.iy (aF _ bF.2 bs.symm),bn,bx⟩,?_⟩⟩
   .have:=w Q c b
    rw[aF c this (by simp at b;omega),(J.push a _).same c this]
   .simp only[aV]at b⊢
    rcases b with h|h|h
    .rcases aP.2 with e|e
     .exact Or.inl (Or.inl (h.trans e))
     .exact Or.inr V
    .exact Or.inl (Or.inr (Or.inl h))
    .exact Or.inl (Or.inr (Or.inr h))
   .rcases aP.2 with e|e<;>omega
  refine⟨λ_=>?_,λ_=>?_⟩
  .intro cd;have bu:F.az≠i.az:=ao.Kw ar bh;refine GI.ku ar (aQ.fz []) L V λbP bJ bj bf am aB=>⟨λc b=>?_,?_⟩
   .have:=w (a:=al) V c b;rw[aB c this (by simp at b;omega),(J.push al _).same c this]
   intro ce;have cr:=am.1;refine aU bJ bP _ bf.ext V (ao.re fO.mono (Y:=[i.az]) ⟨am.1,λc b hn=>aB c b (by simpa using hn)⟩ aH (by simpa using bu) λc b=>?_) (aT.iy (aB _ V a3)) bj ?_ bN ?_
   .simp only[db,dW,aV]at b⊢;rcases b with h|h|h
    .exact Or.inl (Or.inl h)
    .rcases am.2 with e|e
     .exact Or.inl (Or.inr (Or.inl (h.trans e)))
     .exact Or.inr V
    .exact Or.inl (Or.inr (Or.inr h))
   .rcases am.2 with e|e<;>omega
   .intro o l;rcases List.mem_append.1 l with l|l
    .exact a2 o l
    .simp at l;omega
  .intro am;exact aU al i lo aQ V ao aT ar a3 V a2
 .have ar:k=aC.length:=V;subst ar;rw[gX]at*;have al:∀(a:E)(X:O)(F:List cE),J f a->s.size<=a.size->GS (g.az::i.az::d.size::j) f a X F->ap a i lo->WL D (pc G) True H.length F->dc F=dc aC->sw F+2*aC.length<=40*sw aC+2->
   aN cq 112 [vi (15:Int),O.v i] a λrv y=>eG [d.size,m.size,C.size] a y/\∃ae:O,rv=O.v ae/\af y m.size 1=af a m.size 1/\
    jb y fL [.i (0:Int),.i (0:Int),.i (0:Int),.s O.nil,.s O.nil] 72 X ae λaa Z=>eG [d.size,m.size,C.size] y Z/\af Z m.size 1=af y m.size 1/\
     let T:E:=ai Z d.size 0 [.s aa,.i A]
     ∃am p,Value.agg #[O.v aa,vi A]=.agg #[O.v am,vi p.aR]/\eH (bG j T) am p.aC/\(WB D (pc G) True H.length p/\p.w+20<=40*(Bk.mk aC A).w+2*lm.length)/\J C T:=by
   intro a X F v Q q l aB aj aG
   have hy:=q.bg
   have aF:=fw F
   have az:m.size<a.size:=v.lt (u _ aH)
   refine(eM (c:=[X.az,g.az,i.az]++d.size::j) (N Q bN) 15 l V).aI v u λae _ y ao e w u1=>⟨_,rfl,aK (w.same _ az) _,?_⟩
   subst e
   have z1:=w.size
   have aw:∀c∈[d.size,m.size,C.size],c<y.size:=λc b=>u1.lt (u c b)
   have ax:∀c∈[d.size,m.size,C.size],c<f.size:=u
   refine GS.all (q.ext fO.mono w) (u1.fz []) (ao.done fO.mono (N (I:=[X.az,g.az,i.az]) Q bN) bh bN) bN λaa Z g2 ab ag U=>⟨λc b=>U c (aw c b) (oh (ax c b)),aK (U _ V V) _,?_⟩
   intro T
   refine⟨aa,.mk _ A,rfl,eH.le (cb aH λc b=>ah _ b) ((g2.re fO.mono (S':=d.size::j) (Y:=[]) (Fz.aF _ _) aH aH (λc b=>Or.inl (ah _ (ah _ b)))).done fO.mono L bh bN),⟨WB.of (aB.append (qY V λo l=>?_)) ?_,?_⟩,(B.trans ab.ext).ai V _ _⟩
   .have:=a1 o l;rw[aj];exact this
   .rw[cF,jH V,aj];exact au.2
   .rw[Bk.qd,Bk.qd,dt,nI];omega
  let⟨ag,Q⟩:=cg li A.toNat;refine⟨V,V,ag,(ak r).aO Q,λ_=>?_,λ_=>al s t R W (ad _) K (aZ z) av P V⟩;refine(iK (c:=[t.az,g.az,i.az]++d.size::j) (N (ad _) bN) 14 A).mono λrv y⟨pa,pk,e,h1,h2,w⟩=>?_;subst e;refine⟨w.da (aX (J.aF _)),_,_,_,_,_,rfl,?_⟩;have z1:=w.size;refine GS.ku (x:=eO 14 A) (K.ext fO.mono w) ((W.trans w).fz []) h1 h2 V λr' T q ab ag U=>⟨λc b=>?_,al T r' _ ab.ext V q (aZ ((z.ext w).iy (U _ V a4.symm))) (av.y9 (CR V (by rw[P];exact au.2))) ?_ ?_⟩
  .have:=aX w c b;have h5:=u c b;rw[U c this V,(J.push y _).same c this]
  .rw[cF,P];simp[jY,dn,eO,oG]
  .rw[dt,lZ,uC];have h5:(eO 14 A).w=2:=by rw[cE.lg];rfl
   omega
section
variable{b:List Nat}{f d h:E}{p t l:O}{q:eP}{s:Int}{g e k W:Nat}{j:List eP}{c:Prop}
def mf.mono:nH 1 mf:=⟨λh=>mf.le h _ _,λ⟨_,h,_⟩=>by rw[h];rfl⟩
def ij.mono:nH 3 ij:=⟨λh=>ij.le h _ _,λ⟨_,h,_⟩=>by rw[h];rfl⟩
def fD(v:∀c∈b,c<f.size){bt:O}{j:List bo}(hd:bX f bt j)(w:dH j):aN cq 64 [O.v bt] f λT B=>∃s,T=O.v s/\bX (bG b B) s j/\J f B:=by
 apply zl;intro N;have ab:=hd.len;have aa:=w.len;have u:Gr b f N jL 3 ij (.mk f.size 0 0 0) []:=Gr.new b (ad _) _ _ _;refine dx (n:=j.length) V (λq s M=>J f M/\Gr b f M jL 3 ij s (j.take q)) ⟨J.push _ _,u⟩ ?_;rintro q s d X μ hk ⟨r,m⟩ R
 have hy:=m.bg;refine dit (λl=>?_) λl=>?_
 .let⟨i,o⟩:=cg j q;let⟨z,A,u,g1,g2⟩:=hd.aO o;have ac:=A.len;have Z:=kQ w o;intro P;have k:Gr (s.az::b) d P ou 1 mf (.mk d.size 0 0 0) []:=Gr.new _ (ad _) _ _ _;refine dx (n:=i.cons.length) V (λy c M=>J d M/\Gr (s.az::b) d M ou 1 mf c (i.cons.take y)) ⟨J.push _ _,k⟩ ?_;rintro y c C Y μ2 hj ⟨t,k⟩ Q;have g:=r.trans t;refine⟨V,V,z,g.af g2,dit (λK=>?_) λK=>?_⟩
  .let⟨E,x⟩:=cg i.cons y;let⟨U,L,H⟩:=A.aO x;have ae:E.length<=3:=(((w.de q i o).gS V).2.2.2 E (aq x)).1;refine⟨V,V,z,g.af g2,V,V,U,g.af H,?_⟩;have af:=k.bg;refine(bO (c.az::s.az::b) (L.ext g) V).then λW _ h I e D=>⟨_,rfl,?_⟩;subst e;intro M;refine Gr.ku (g:=[.s .nil]) mf.mono bh (k.ext mf.mono D) ((t.trans D).fz []) ⟨W,rfl,I.done (λe p=>?_) V⟩ bN λS m7 G F _ _=>Q V _ _ ⟨F.ext,by rw[bC x];exact G⟩;have:=t.size;simp only[aV]at p;rcases p with l|l|l
   .omega
   .omega
   .have:=v e l;have:=r.size;omega
  .refine⟨V,V,_,g.af u,V,V,_,g.af g1,?_⟩;intro h;rw[cy V]at k;have D:eN (bG (s.az::b) C) 1 (mf (bG (s.az::b) C)) c i.cons:=k.done mf.mono (λe p=>by
    rcases List.mem_cons.1 p with x|x
    .omega
    .have:=v e x;have:=r.size;omega) bh V
   refine Gr.ku (g:=[.i 0,.i 0,.s .nil]) (k:=i) ij.mono bh (m.ext ij.mono t) (g.fz []) ⟨c,rfl,D⟩ bN λS M x p _ _=>R V _ _ ⟨p.ext,by rw[bC o];exact x⟩
 .rw[cy V]at m;exact⟨s,rfl,m.done ij.mono v bh V,r⟩
def xf(H:∀c∈b,c<f.size){B:O}{b1:Int}(I:ap f p q.params)(K:ap f t q.df)(u:q.params.length<=100/\q.df.length<=100):
 aN cq 69 [.agg #[O.v p,O.v t,vi q.aR,O.v B,vi s],.agg #[O.v l,vi b1]] f λP x=>∃k m,P=.agg #[O.v k,O.v m,vi q.aR,O.v l,vi b1]/\ap (bG b x) k q.params/\ap (bG b x) m q.df/\J f x:=by
 apply Cj
 simp -zeta only[aE,aD]
 intro L j d
 let⟨r,w,S,T,U⟩:=pK (a:=L) (b:=j) (c:=d) rfl rfl rfl
 clear_value d
 have z:∀c∈j.size::b,c<d.size:=bQ H r.size (w _ aH)
 have g:∀{M y:E},J d M->J d y->∀i,i<d.size->∀o,af y i o=af M i o:=λF G i u o=>aK (by rw[G.same i u,F.same i u]) o
 refine(bO (j.size::b) (I.ext r) V).aI (J.aF d) w λk _ R C e a _=>⟨_,rfl,g (J.aF _) a _ V _,g (J.aF _) a _ V _,g (J.aF _) a _ V _,g (J.aF _) a _ V _,?_⟩
 subst e
 refine(bO (j.size::b) (K.ext (r.trans a)) V).aI a w λm _ N D e Q n=>⟨_,rfl,g a n _ V _,g a n _ V _,g a n _ V _,?_⟩
 subst e
 intro h
 have A:Le (bG (j.size::b) N) (bG b h):=cb aH λc v=>ah _ v
 exact⟨k,m,rfl,((C.done z V).le (Q.cR _)).le A,(D.done (λc v=>a.lt (z c v)) V).le A,(r.trans n).ai V _ _⟩
abbrev GR(b:List Nat)(a f:E)(s:O)(l:List eP):Prop:=Gr b a f jz 5 iv s l
def uY{L:List Nat}{m M:E}{v h:O}{x:List eP}{r:Bk}{N:O}{K:E->Prop}(W:∀c∈b,c<m.size)(w:∀c∈L,c<M.size/\c≠g/\c≠h.az)(A:J m M)(y:GR (g::b) m M h x)
 (z:cz M g mD [.s v,.s h])(Z:m.size<=g)(hp:ap M p q.params)(ht:ap M t q.df)(aa:eH (bG (h.az::g::b) M) l r.aC)(X:q.params.length<=100/\q.df.length<=100)(hl:x.length<=100)
 (U:∀u d,GR (g::b) m d u (x++[⟨q.params,q.df,q.aR,r⟩])->cz d g mD [.s v,.s u]->J m d->K d):
 aN cq 69 [.agg #[O.v p,O.v t,vi q.aR,O.v N,vi s],.agg #[O.v l,vi r.aR]] M λH k=>eG L M k/\∃B:O,∃C:O,∃D:Int,∃F:O,∃G:Int,H=.agg #[O.v B,O.v C,vi D,O.v F,vi G]/\af k g 1=af M g 1/\
  let n:E:=k.push (.cells (bD [.s B,.s C,.i D,.s F,.i G]) jz)
  af n g 1=af k g 1/\
  jb n jz [.s O.nil,.s O.nil,.i (0:Int),.s O.nil,.i (0:Int)] 88 h (O.mk k.size 0 1 1) λab o=>eG L n o/\fg o g 1 1/\
   let d:E:=ai o g 1 [.s ab]
   eG L o d/\K d:=by
 have hy:=y.bg
 have Y:=z.lt
 have hz:=A.size
 refine(xf (b:=h.az::g::b) (λc f=>?_) hp ht X).mono λH k⟨p',t',e,R,T,j⟩=>?_
 .simp only[aV]at f
  rcases f with e|e|e
  .omega
  .omega
  .have:=W c e;omega
 subst e
 refine⟨j.da λc f=>(w c f).1,_,_,_,_,_,rfl,aK (j.same _ Y) _,?_⟩
 intro n
 refine Gr.box (g:=[.s .nil,.s .nil,.i 0,.s .nil,.i 0]) (j:=1) (i:=[.s v,.s h]) (w:=⟨q.params,q.df,q.aR,r⟩) iv.mono bh (y.ext iv.mono j) ((A.trans j).fz []) ⟨p',t',l,rfl,R,T,aa.le (j.cR _)⟩ V (z.ext j) aH bh ⟨Z,aH⟩ (λc f=>⟨j.lt (w c f).1,(w c f).2⟩) λu m' Q I P z' q'=>U u m' Q I P.ext
def kD{β:Type}{a c:E}{g:O}{l:Nat}{f:E->List Ce->β->Prop}(q:nH l f)(p:a=d.push (.cells (bD []) e))(i:c=a.push (.cells (bD [.s O.nil,.s O.nil]) k))(j:h=ai c a.size 0 [.s g,.s (O.mk d.size 0 0 0)]):
 J d h/\cz h a.size k [.s g,.s (O.mk d.size 0 0 0)]/\Gr b d h e l f (.mk d.size 0 0 0) []/\a.size=d.size+1/\h.size=d.size+2:=by
 subst p
 have n:J (d.push (.cells (bD []) e)) h:=by subst i j;exact(J.push _ _).ai (ad _) _ _
 refine⟨(J.push d _).trans n,?_,(Gr.new b (ad _) e l f).ext q n,aH,by subst i j;simp[aA]⟩
 have s:cz c (d.push (.cells (bD []) e)).size k [.s O.nil,.s O.nil]:=by rw[i];exact cz.push _ _ _
 rw[j]
 exact cz.ai (m:=c) (o:=0) (r:=[.s g,.s (.mk d.size 0 0 0)]) s
def kj{β:Type}{p b1 t:Nat}{q:E->List Ce->β->Prop}{m A:O}{F:List bo}(G:nH p q)(hz:0<p)(ac:k≠e)(X:∀c∈b,c<f.size)(Y:f.size<=b1/\b1<d.size)(K:J f d)(ak:g=d.size+1)
 (Z:bX (bG (b1::b) d) m F)(hn:A.len=t)(al:t<=1000)(ad:J d h)(U:cz h g k [.s m,.s (O.mk d.size 0 0 0)])(aa:Gr (g::b1::b) d h e p q (.mk d.size 0 0 0) [])(y:Nat->β->Prop)
 {C:(Int->E->Prop)->(Int->E->Nat)->Int->E->Prop}{R:O->O->E->Prop}
 (W:∀D N l r,bX (bG b r) D F->eN (bG b r) p (q (bG b r)) N l->l.length=t->(∀(i:Nat)(x:β),l[i]? =some x->y i x)->J f r->R D N r)
 (T:∀(a:Nat)(M:E)(s:O)(l:List β)(I:Int->E->Prop)(μ:Int->E->Nat),a<t->l.length=a->J d M->Gr (g::b1::b) d M e p q s l->cz M g k [.s m,.s s]->
  (∀v j x,Gr (g::b1::b) d j e p q v (l++[x])->cz j g k [.s m,.s v]->J d j->y a x->I (cQ ((a:Int)+1)) j/\μ (cQ ((a:Int)+1)) j<μ a M)->C I μ a M):
 ∃(w:Int->E->Prop)(μ0:Int->E->Nat),w (0:Int) h/\(∀(i:Int)(M:E),w i M->
  ((decide (i<(A.len:Int)))=true->C w μ0 i M)/\
  ((decide (i<(A.len:Int)))=false->∃o:O,af M g 0=some (O.v o)/\∃u:O,af M g 1=some (O.v u)/\
   let j:E:=ai M b1 0 [.s o,.s u]
   R o u j)):=by
 refine dZ (n:=t) V (λa M=>J d M/\∃s l,Gr (g::b1::b) d M e p q s l/\cz M g k [.s m,.s s]/\l.length=a/\∀(i:Nat)(x:β),l[i]? =some x->y i x) ⟨ad,_,[],aa,U,rfl,aH⟩ ?_
 rintro a M I μ hk ⟨x,s,l,u,B,ab,H⟩ ae
 refine dit (λS=>?_) λS=>?_
 .refine T a M s l I μ V ab x u B λv j ag Q P x' L=>ae V _ ⟨x',v,_,Q,P,bN,λi aj o=>?_⟩
  rcases aU i l.length with z|z
  .rw[aw z]at o;exact H i aj o
  .rw[aG z]at o
   have:i -l.length=0:=by have:=ax o;simp at this;omega
   rw[this]at o;simp at o;subst o
   have:i=a:=V
   subst this;exact L
 .refine⟨m,B.cJ 0,s,B.cJ 1,?_⟩
  intro j
  have L:=u.bg
  have z:=u.ne B ac
  have v:Le (bG (g::b1::b) M) (bG b j):=cb aH λc o=>ah _ (ah _ o)
  refine W m s l j (Z.le ((x.bG λc o=>?_).trans v)) (eN.le (u.ng G (λo=>?_) hz V) v λP ag=>G.le v) V H ((K.trans x).ai Y.1 _ _)
  .rcases List.mem_cons.1 o with e|e
   .exact Or.inr V
   .exact Or.inl e
  .simp only[aV]at o
   rcases o with e|e|e
   .exact z e
   .omega
   .have:=X _ e;have:=K.size;omega
def ZG(a:List eP)(k:Nat)(q:eP):Prop:=∃p,a[k]? =some p/\q.params=p.params/\q.df=p.df/\q.aR=p.aR
structure uI(ds:List bo)(rs:List eP)(c:Prop)(W:Nat):Prop where
 gS:0<rs.length
 de:∀q∈rs,q.params.length<=3/\q.df.length<=3/\WB ds (pc rs) c q.params.length q.body/\q.body.w<=W
def qU(h:Nat)(e:List Value)(f:E)(b:List Nat)(g:List bo)(Q:List eP->Prop):Prop:=aN cq h e f λv a=>∃d r c,v=.agg #[O.v d,O.v r]/\dX (bG b a) d r g c/\Q c/\J f a
def TS{f:List bo}{a:List Nat}(g:0<a.length)(k:j.length=a.length)(h:∀(i:Nat)(q:eP),j[i]? =some q->a[i]? =some q.params.length/\q.params.length<=3/\q.df.length<=3/\WB f a c q.params.length q.body/\q.body.w<=W):uI f j c W:=
 have e:pc j=a:=eL λi=>by
  rcases aU i j.length with d|d
  .let⟨q,b⟩:=cg j i;rw[Iw b,(h i q b).1]
  .rw[bT (by rw[KC];omega),bT V]
 ⟨V,λq b=>by obtain⟨i,d⟩:=List.mem_iff_getElem?.1 b;rw[e];exact(h i q d).2⟩
def GY{b:List bo}{a:List eP}(d:0<a.length)(e:j.length=a.length)(h:∀(i:Nat)(q:eP),j[i]? =some q->(pc a)[i]? =some q.params.length/\q.params.length<=3/\q.df.length<=3/\WB b (pc a) c q.params.length q.body/\q.body.w<=W):uI b j c W:=
 TS (by rw[KC];exact d) (by rw[KC];exact e) h
def HL(H:∀c∈b,c<f.size){E:O}{e df:List Int}{L:Int}(C:ap f p e)(I:ap f t df)(Q:e.length<=100):
 iU 252 [.agg #[O.v p,O.v t,vi L,O.v E,vi s]] f b λl=>(∀o∈l,0<=o/\o<(e.length:Int))/\l.length<=e.length:=by
 apply zX
 simp -zeta only[aE,aD]
 intro a d
 have w:J f a:=J.push _ _
 have B:∀y∈[f.size],y<a.size:=by simp[a]
 have F:GI b a d (.mk a.size 0 0 0) []:=GI.nil b a
 have N:J a d:=J.push _ _
 clear_value d
 clear_value a
 have S:=C.len
 refine dx (n:=e.length) V (λm r M=>J a M/\∃l,GI b a M r l/\(∀o∈l,0<=o/\o<(e.length:Int))/\l.length<=m) ⟨N,[],F,aH,ad _⟩ ?_
 rintro m r T P μ R ⟨x,l,j,k,A⟩ q
 have u:=w.trans x
 refine⟨λg=>?_,λg=>⟨r,l,rfl,j.cG (λ_ g=>g) w.size,⟨k,by simp at g;omega⟩,u⟩⟩
 simp only[an]at g
 let⟨M,K⟩:=cg e m
 refine⟨V,V,M,(C.ext u).aO K,λ_=>?_,λ_=>q V _ _ ⟨x,l,j,k,V⟩⟩
 refine(dg (I.ext u) m).any.aI x B λy U D v=>⟨_,rfl,λ_=>?_,λ_=>q V _ _ ⟨v,l,j.ext D,k,V⟩⟩
 intro h
 refine GI.ku (j.ext D) (v.fz []) (λc A=>w.lt (H c A)) V λX W G z _ _=>⟨J.nR (v.aP _) z.ext B,q V _ _ ⟨z.ext,_,G,λo i=>?_,bN⟩⟩
 rcases List.mem_append.1 i with i|i
 .exact k o i
 .simp at i;omega
end
section
variable{a:List Nat}{b:E}{d r:O}{c:List eP}
def Hr(hS:∀e∈a,e<b.size){Z aj t:O}{Q:List bo}{q:eP}(hn:dX b d r Q c)(W:ap b Z q.params)(ht:ap b aj q.df)(hs:eH b t q.body.aC)(aI:q.params.length<=3)(aq:WB Q (pc c) False q.params.length q.body)(hw:q.body.w<=95):
 mP 70 [.agg #[O.v d,O.v r],.agg #[O.v Z,O.v aj,vi q.aR,O.v t,vi q.body.aR]] b a λl=>WB Q (pc c) True q.params.length l/\l.w<=1100*q.body.w:=by
 apply zo
 simp -zeta only[aE,aD]
 intro m0 D H
 let⟨v,h,s0,s1,s2⟩:=pK (a:=m0) (b:=D) (c:=H) rfl rfl rfl
 clear_value H
 have aJ:=W.len
 have T:∀e∈D.size::a,e<H.size:=bQ hS v.size (h _ aH)
 refine(Cz (S:=[]) aH (hs.le v.le) _ V).aI (J.aF H) h λus ul g hu aL P _=>⟨_,rfl,?_⟩
 have ao:ap g us ul:=hu.le (bz _ _)
 intro s I
 have az:J g I:=(J.push g _).trans (J.push s _)
 have s4:s.size=g.size+1:=by simp[s]
 have i:GI a g I (.mk g.size 0 0 0) []:=(GI.nil a g).ext (J.push s _)
 have gd:GI a g I (.mk s.size 0 0 0) []:=(GI.nil a s).cG (λ_ R=>R) V
 clear_value I
 have z3:=P.size
 have am:∀e∈a,e<g.size:=λe f=>by have:=hS e f;have:=v.size;omega
 refine vS (n:=q.params.length) V (λk L sd M=>J g M/\∃j p,GI a g M L j/\GI a g M sd p/\L.az≠sd.az/\(∀o∈j,0<=o/\o<(q.params.length:Int))/\(∀o∈p,0<=o/\o<(q.params.length:Int))/\j.length<=k/\p.length<=k) ⟨az,[],[],i,gd,bN,aH,aH,ad _,ad _⟩ ?_
 rintro k L sd m6 aB μ hk ⟨w,j,p,i,gd,G,B,A,cm,cd⟩ K
 have F:=P.trans w
 have v6:=v.trans F
 refine dit (λR=>?_) λR=>?_
 .let⟨ab,Y⟩:=cg q.params k
  have X:∀{m:List Int},(∀o∈m,0<=o/\o<(q.params.length:Int))->∀o∈m++[(k:Int)],0<=o/\o<(q.params.length:Int):=λh o C=>by
   rcases List.mem_append.1 C with C|C
   .exact h o C
   .simp at C;omega
  refine⟨V,V,ab,(W.ext v6).aO Y,λ_=>?_,λ_=>K V _ _ _ ⟨w,j,p,i,gd,G,B,A,V,V⟩⟩
  refine(dg (ht.ext v6) k).any.aI F h λaa m7 u u7=>⟨_,rfl,λ_=>?_,λ_=>K V _ _ _ ⟨w.trans u,j,p,i.ext u,gd.ext u,G,B,A,V,V⟩⟩
  refine(dg (ao.ext (w.trans u)) k).any.aI u7 h λaa m8 x8 u8=>⟨_,rfl,λ_=>?_,λ_=>?_⟩
  .have x:=u.trans x8
   intro m9
   exact GI.RK (i.ext x) (gd.ext x) G ((w.trans x).fz []) V λr m' z N U y=>⟨J.nR ((F.trans x).aP _) (P.trans y.ext) h,K V _ _ _ ⟨y.ext,_,_,z,N,U,X B,A,bN,V⟩⟩
  .have x:=u.trans x8
   intro m9
   exact GI.RK (gd.ext x) (i.ext x) G.symm ((w.trans x).fz []) V λr m' z N U y=>⟨J.nR ((F.trans x).aP _) (P.trans y.ext) h,K V _ _ _ ⟨y.ext,_,_,N,z,U.symm,B,X A,V,bN⟩⟩
 intro y
 have ac:J m6 y:=J.push _ _
 have aa:=F.trans ac
 have ab:=v.trans aa
 have e0:ap y (.mk m6.size 0 0 0) []:=lU _ _ _ _ _ _
 have ag:∀{M:E}{t:O}{m:List Int},GI a g M t m->m.length<=3->ap M t m:=λz h=>(z.done am V).le (bz _ _)
 clear_value y
 have aG:=q.body.Gj
 refine(Fq q.body (D.size::a) y (λe f=>aa.lt (T e f)) d r Z t L _ q.params j [] (hn.le ab.le) (W.ext ab) (hs.le ab.le) ((ag i V).ext ac) e0 ⟨B,V,bN,V,aq⟩).aI aa h λss l C an X ax aw=>⟨_,_,rfl,?_⟩
 intro ar o
 have ae:J C o:=(J.push C _).ai (ad _) _ _
 have aQ:o.size=C.size+1:=by simp[o,ar,aA]
 clear_value o
 have N:=aw.trans ae
 have U:∀e∈[C.size,D.size,m0.size,b.size],e<o.size:=λe f=>by
  rcases List.mem_cons.1 f with x|x
  .omega
  .exact N.lt (h e x)
 have aF:=Bk.lg l;have aC:=fw l.aC
 have aM:=X.2
 refine(eM (c:=D.size::a) (λe f=>N.lt (T e f)) 15 ((ag gd V).ext ((ac.trans ax).trans ae)) V).aI (J.aF o) U λaP _ aN af x u _=>⟨_,rfl,aK (u.same _ V) _,aK (u.same _ V) _,?_⟩
 subst x
 have aR:=u.size
 have Y:=af.bg
 refine GS.all af (u.fz []) ((an.le (ae.cR _)).le (sE u Y.1)) bN λav au al ak aS ai=>⟨λe f=>ai e (u.lt (U e f)) (oh (U e f)),aK (ai _ V V) _,?_⟩
 intro aO
 have ay:J b au:=(v.trans N).trans ak.ext
 refine⟨av,.mk _ l.aR,rfl,eH.le (cb aH λe f=>ah _ f) (al.done fO.mono (λe f=>N.lt (T e f)) bh bN),⟨WB.of ((qY V A).append ?_) ?_,?_⟩,ay.ai V _ _⟩
 .rw[jH V];exact X.1.bB.1
 .rw[cF,jH V,bE];exact X.1.bB.2
 .rw[Bk.qd,dt,nI];omega
def zt(P:∀f∈a,f<b.size){p:List bo}(t:dX b d r p c)(hk:uI p c False 95):qU 36 [.agg #[O.v d,O.v r]] b a p λj=>uI p j True 104500/\j.length=c.length/\∀(k:Nat)(e:eP),j[k]? =some e->ZG c k e:=by
 apply Dt;simp -zeta only[aE,aD];intro g a2;let⟨C,y⟩:=dj (a:=g) (c:=a2) rfl rfl;have s1:g.size=b.size+1:=by simp[g]
 clear_value a2;have aj:=t.iD.len;have ar:=t.nA;refine(fD (b:=g.size::a) (bQ P C.size (y _ aH)) (t.le C.le).bt t.types).mono λ_ U⟨ad,s,ag,D⟩=>?_;subst s;refine⟨D.da y,_,rfl,?_⟩;intro W am ac;have u2:=C.trans D;let⟨x5,B0,g0,s3,s5⟩:=kD (b:=W.size::g.size::a) iv.mono (d:=U) (a:=W) (c:=am) (h:=ac) rfl rfl rfl;clear_value ac;have z:∀f∈[g.size,b.size],f<U.size:=λf i=>D.lt (y f i);have Q:∀f∈g.size::a,f<U.size:=λf i=>D.lt (bQ P C.size (y _ aH) f i);refine kj (R:=λv0 v1 M=>∃d r j,Value.agg #[O.v v0,O.v v1]=.agg #[O.v d,O.v r]/\dX (bG a M) d r p j/\(uI p j True 104500/\j.length=c.length/\∀(k:Nat)(e:eP),j[k]? =some e->ZG c k e)/\J b M) (t:=c.length) (f:=b) (b:=a) iv.mono bh bh P ⟨V,z _ aH⟩ u2 s3 ag aj V x5 B0 g0 (λk e=>((pc c)[k]? =some e.params.length/\e.params.length<=3/\e.df.length<=3/\WB p (pc c) True e.params.length e.body/\e.body.w<=104500)/\ZG c k e) (λv A T B h1 h2 o u w=>⟨v,A,T,rfl,⟨h1,h2,t.types,V⟩,⟨GY hk.gS o λx e h=>(u x e h).1,o,λk e h=>(u k e h).2⟩,w⟩) λk M st T ao μ ah ap E Z F an=>?_
 let⟨e,A⟩:=cg c k ah;let⟨ab,ai,al,hw⟩:=hk.de e (aq A);have u:=u2.trans E;let⟨au,av,o,X,Y,c3,H,I,K,L,N⟩:=t.iD.aO A;have G:∀{B:Value}{o w:Nat},af b o w=some B->af M o w=some B:=λh=>u.af h;refine⟨st,F.cJ 1,V,V,_,G H,_,G I,_,G K,_,G L,_,G N,V,V,_,G H,_,G I,_,G K,_,G L,_,G N,?_⟩;have hy:=Z.bg;have ae:=F.lt;have zM:=E.size;refine(Hr (a:=st.az::W.size::g.size::a) (λf i=>?_) (t.le u.le) (X.ext u) (Y.ext u) (c3.le u.le) ab al hw).aI E z λss b' M1 ak aa v u1=>⟨_,_,rfl,?_⟩
 .simp only[aV]at i;rcases i with s|s|s|s
  .omega
  .omega
  .have:=Q f (by simp[s]);omega
  .have:=Q f (by simp[s]);omega
 have x:∀{B:Value}{o w:Nat},af b o w=some B->af M1 o w=af M o w:=λh=>by rw[v.af (G h),G h]
 refine⟨x H,x I,x K,x L,x N,aK (v.same _ (E.lt (z _ aH))) _,aK (v.same _ ae) _,?_⟩;exact uY (b:=g.size::a) (v:=ad) (x:=T) Q (λf i=>by have h1:=z f i;have h2:=u1.size;omega) u1 (Z.ext iv.mono v) (F.ext v) V (X.ext (u.trans v)) (Y.ext (u.trans v)) ak ⟨V,V⟩ V λs' M' g' B' x'=>an s' M' _ g' B' x' ⟨⟨Iw (q:=e) A,ab,ai,aa.1,by have:=aa.2;simp only;omega⟩,e,A,rfl,rfl,rfl⟩
def KV(j:∀e∈a,e<b.size){e:List bo}(l:dX b d r e c)(k:uI e c False 95):qU 36 [.agg #[O.v d,O.v r]] b a e λm=>uI e m True 104500:=
 (zt j l k).mono λ_ _⟨d,r,c,f,g,h,i⟩=>⟨d,r,c,f,g,h.1,i⟩
def PA(N:∀f∈a,f<b.size){u:List bo}(v:dX b d r u c)(hk:uI u c False 95):qU 226 [.agg #[O.v d,O.v r]] b a u λC=>uI u C True 104500:=by
 apply Je;simp -zeta only[aE,aD];intro s a2;let⟨F,z⟩:=dj (a:=s) (c:=a2) rfl rfl;have s1:s.size=b.size+1:=by simp[s]
 clear_value a2;have al:=v.iD.len;have ax:=v.nA;refine(fD (b:=s.size::a) (bQ N F.size (z _ aH)) (v.le F.le).bt v.types).mono λ_ X⟨ag,h,ah,H⟩=>?_;subst h;refine⟨H.da z,_,rfl,?_⟩;intro B ao ac;have u2:=F.trans H;let⟨x5,B0,g0,s3,s5⟩:=kD (b:=B.size::s.size::a) iv.mono (d:=X) (a:=B) (c:=ao) (h:=ac) rfl rfl rfl;clear_value ac;have Q:∀f∈[s.size,b.size],f<X.size:=λf i=>H.lt (z f i);have P:∀f∈s.size::a,f<X.size:=λf i=>H.lt (bQ N F.size (z _ aH) f i);refine kj (R:=λe g M=>∃d r C,Value.agg #[O.v e,O.v g]=.agg #[O.v d,O.v r]/\dX (bG a M) d r u C/\uI u C True 104500/\J b M) (t:=c.length) (f:=b) (b:=a) iv.mono bh bh N ⟨V,Q _ aH⟩ u2 s3 ah al V x5 B0 g0 (λU p=>(pc c)[U]? =some p.params.length/\p.params.length<=3/\p.df.length<=3/\WB u (pc c) True p.params.length p.body/\p.body.w<=104500) (λe o W t h1 y g j k=>⟨e,o,W,rfl,⟨h1,y,v.types,V⟩,GY hk.gS g j,k⟩) λU M st W au μ ai aw xM aa I ap=>?_
 let⟨p,T⟩:=cg c U ai;let⟨ak,aj,an,hw⟩:=hk.de p (aq T);have D:=u2.trans xM;let⟨ar,az,o,K,c2,c3,e0,e1,e2,e3,e4⟩:=v.iD.aO T;have G:∀{ae:Value}{o w:Nat},af b o w=some ae->af M o w=some ae:=λL=>D.af L;refine⟨V,V,_,G e0,_,G e1,_,G e2,_,G e3,_,G e4,?_⟩;intro m7 k;have hy:=aa.bg;have av:=I.lt;have zM:=xM.size;have x8:J M k:=(J.push M _).ai (ad _) _ _;have s8:k.size=M.size+1:=by simp[k,m7,aA]
 clear_value k;have A:∀f∈[M.size,s.size,b.size],f<k.size:=λf i=>by
  rcases List.mem_cons.1 i with h|h
  .omega
  .have:=Q f h;omega
 have Y:=D.trans x8;have g:∀{M1 M2:E},J k M1->J k M2->∀o,o<k.size->∀w,af M2 o w=af M1 o w:=λL h' o hb w=>aK (by rw[h'.same o hb,L.same o hb]) w;have j:M.size<k.size:=V;have i1:b.size<k.size:=A _ aH;have i2:B.size<k.size:=V;refine⟨st,(I.ext x8).cJ 1,?_⟩;refine(HL (b:=[]) aH (K.ext Y) (c2.ext Y) V).aI (J.aF k) A λow lo m9 go ho e _=>⟨_,rfl,g (J.aF _) e _ j _,g (J.aF _) e _ j _,g (J.aF _) e _ j _,g (J.aF _) e _ i1 _,g (J.aF _) e _ i1 _,g (J.aF _) e _ j _,g (J.aF _) e _ j _,g (J.aF _) e _ j _,g (J.aF _) e _ j _,g (J.aF _) e _ j _,g (J.aF _) e _ i2 _,?_⟩;have Z:=Y.trans e;have z9:=e.size;have i:=ho.2;refine(Hv p.body (st.az::B.size::s.size::a) m9 (λf i=>?_) d r ar o ow p.params lo (v.le Z.le) (K.ext Z) (c3.le Z.le) ((go.done aH V).le (bz _ _)) ⟨ho.1,V,V,an⟩).aI e A λss b' ay am ab aB t=>⟨_,_,rfl,g e t _ j _,g e t _ j _,g e t _ j _,g e t _ j _,g e t _ j _,g e t _ i2 _,?_⟩
 .simp only[aV]at i;rcases i with h|h|h|h
  .omega
  .omega
  .have:=P f (by simp[h]);omega
  .have:=P f (by simp[h]);omega
 have x:=x8.trans t;have aC:=t.size;exact uY (b:=s.size::a) (v:=ag) (x:=W) P (λf i=>by have h1:=A f i;have y:=Q f;simp only[aV]at i y;rcases i with h|h|h|h<;>first|omega|(have:=y (by simp[h]);omega)|simp at h) (xM.trans x) (aa.ext iv.mono x) (I.ext x) V (K.ext (D.trans x)) (c2.ext (D.trans x)) am ⟨V,V⟩ V λs' M' g' y x'=>ap s' M' _ g' y x' ⟨Iw (q:=p) T,ak,aj,ab.1,by have:=ab.2;simp only;omega⟩
end
section
variable{x:cE}{l:List cE}{m d M:E}{i f e h:O}{b:List Nat}{c g:List Int}{a:Int}{K:O->E->Prop}
def zJ(a k:O)(m:E):dz cq 256 [oE x a k] m (x.op=14\/x.op=15):=by
 apply FD;simp -zeta only[aE,aD];intro c;have b:J m c:=J.push _ _;refine⟨λh=>jr (Or.inl (by simpa using h)) b,λh=>fU ?_ b⟩;simp only[ao]at h;simp only[aM];omega
def Xl(l:List cE):Prop:=∀x∈l,x.args.length=1
def yu(l:List cE)(o:Int):Prop:=∃x∈l,o∈x.args
def Xl.at(h:Xl l){k:Nat}(a:l[k]? =some x):∃y,x.args[0]? =some y/\yu l y:=by
 have c:=h x (aq a);let⟨y,b⟩:=cg x.args 0;exact⟨y,b,x,aq a,aq b⟩
def Oe(p:eH m i l)(B:Xl l)(H:l.length<=10^12)(v:Int):rB 273 [O.v i,vi v] m λb=>-(l.length:Int)<=b/\b<=l.length:=by
 apply HB;have L:=p.len;refine dx (n:=l.length) V (λk b M=>J m M/\-(k:Int)<=b/\b<=(k:Int)) ⟨J.aF _,V,V⟩ ?_;rintro k b c I μ K ⟨e,E,F⟩ C
 refine⟨λj=>?_,λj=>⟨b,rfl,⟨V,V⟩,e⟩⟩;simp only[an]at j;let⟨x,q⟩:=cg l k;obtain⟨y,r,_⟩:=B.at q;obtain⟨a,Q,o,_,z,_,_,A,_⟩:=p.aO q;have G:=o.len;have P:=ax r;have s:=e.af z;have G3:=e.af A;have h:=(o.ext e).aO r;have u:cQ (b+1)=b+1:=aQ V V;have w:cQ (b -1)=b -1:=aQ V V;rw[u,w];have N:∀d,-((k+1:Nat):Int)<=d->d<=((k+1:Nat):Int)->I d (cQ ((k:Int)+1)) c/\μ d (cQ ((k:Int)+1)) c<μ b k c:=λd a t=>C V _ _ ⟨e,a,t⟩
 have D:(0:Int)<=(k:Int)/\(k:Int)<(i.len:Int)/\∃f:O,af c i.az (i.off+Int.toNat (k:Int)*5+3)=some (O.v f)/\(0:Int)<=(0:Int)/\(0:Int)<(f.len:Int)/\∃g:Int,af c f.az (f.off+Int.toNat (0:Int)*1)=some (vi g)/\
  ((g==v)=true->I (b -1) (cQ ((k:Int)+1)) c/\μ (b -1) (cQ ((k:Int)+1)) c<μ b k c)/\((g==v)=false->I b (cQ ((k:Int)+1)) c/\μ b (cQ ((k:Int)+1)) c<μ b k c):=
  ⟨V,V,a,G3,V,V,y,h,λ_=>N _ V V,λ_=>N _ V V⟩
 exact⟨V,V,a,G3,V,V,y,h,λ_=>⟨V,V,_,s,λ_=>N _ V V,λ_=>D⟩,λ_=>D⟩
def Mt(q:∀f∈b,f<m.size)(u:eH m i l)(j:Xl l)(G:l.length<=100000000000):iU 272 [O.v i] m b λc=>(∀o∈c,yu l o)/\c.length<=l.length:=by
 apply Gd;intro N;have K:=u.len;refine dx (n:=l.length) V (λk s M=>J m M/\∃c,GI b m M s c/\(∀o∈c,yu l o)/\c.length<=k) ⟨J.push m _,[],GI.nil b m,aH,ad _⟩ ?_;rintro k s d I μ H ⟨e,c,p,v,t⟩ C
 refine⟨λh=>?_,λh=>⟨s,c,rfl,p,⟨v,V⟩,e⟩⟩;simp only[an]at h;let⟨x,w⟩:=cg l k;let⟨z,y,A⟩:=j.at w;obtain⟨a,R,r,_,E,_,_,g,_⟩:=u.aO w;have F:=r.len;have L:=ax y;refine⟨V,V,a,e.af g,V,V,z,(r.ext e).aO y,?_⟩;refine(np (S:=b) (λf t=>aJ (q f t) e.size) (p.done q V) z V).then λQ B P g f D=>⟨_,rfl,C V _ _ ⟨e.trans D,B,g.cG (λ_ h=>h) e.size,λo j=>?_,oh f.2⟩⟩;rcases f.1 o j with h|h
 .exact v o h
 .subst h;exact A
structure uL(b:List Nat)(m d M:E)(f e h:O)(c lr g:List Int):Prop where
 x:J m M
 gd:GI b m M f c
 gr:GI b m M e lr
 gv:GI [] d M h g
 n1:f.az≠e.az
 n2:f.az≠h.az
 n3:e.az≠h.az
def uL.ext{b:List Nat}{m d M i:E}{f e h:O}{c j g:List Int}(T:uL b m d M f e h c j g)(a:J M i):uL b m d i f e h c j g:=
 ⟨T.x.trans a,T.gd.ext a,T.gr.ext a,T.gv.ext a,T.n1,T.n2,T.n3⟩
def uL.ZJ{j:List Int}(T:uL b m d M f e h c j g)(s:∀i∈b,i<m.size)(t:c.length<=10^12)(u:∀r i,uL b m d i r e h (c++[a]) j g->K r i):
 jb (M.push (.cells (bD [.i a]) ay)) ay [.i 0] 8 f (.mk M.size 0 1 1) K:=by
 have o:=T.gr.bg;have p:=T.gv.bg;have v:=T.n1;have w:=T.n2
 refine GI.ku T.gd (T.x.fz []) s t λr i n l z q=>u r i ⟨l.ext,n,T.gr.iy (q _ o.2 T.n1.symm),T.gv.iy (q _ p.2 T.n2.symm),?_,?_,T.n3⟩<;>rcases z.2 with k|k<;>omega
def uL.RK{j:List Int}(T:uL b m d M f e h c j g)(s:∀i∈b,i<m.size)(t:j.length<=10^12)(u:∀r i,uL b m d i f r h c (j++[a]) g->K r i):
 jb (M.push (.cells (bD [.i a]) ay)) ay [.i 0] 8 e (.mk M.size 0 1 1) K:=by
 have o:=T.gd.bg;have p:=T.gv.bg;have v:=T.n1;have w:=T.n3
 refine GI.ku T.gr (T.x.fz []) s t λr i n l z q=>u r i ⟨l.ext,T.gd.iy (q _ o.2 T.n1),n,T.gv.iy (q _ p.2 T.n3.symm),?_,T.n2,?_⟩<;>rcases z.2 with k|k<;>omega
def VE(l:List cE)(c:List cE):Prop:=∃b a:List Int,c=b.map (eO 14)++a.map (eO 15)/\(∀o∈b,yu l o)/\(∀o∈a,yu l o)/\b.length+a.length<=l.length*l.length
def xe(v:∀t∈b,t<m.size)(Z:eH m i l)(a:Xl l)(x:l.length<=500000):QR 257 [O.v i] m b (VE l):=by
 apply Ca;intro r d;have P:J m d:=(J.push m _).trans (J.push r _);have s1:r.size=m.size+1:=by simp[r]
 have gd:GI b m d (.mk m.size 0 0 0) []:=(GI.nil b m).ext (J.push r _);have U:GI b m d (.mk r.size 0 0 0) []:=(GI.nil b r).cG (λ_ F=>F) V;clear_value d;have ah:l.length*l.length<=250000000000:=bH (Ur x x) bh;refine(Mt (b:=[]) aH (Z.le P.le) a V).then λh g m3 D L Q=>⟨_,rfl,?_⟩;have hv:ap m3 h g:=(D.done aH (oh L.2)).le (bz _ _);have am:=hv.len;have al:=L.2;have ao:=D.bg;have au:=P.size;refine vS (n:=g.length) V (λp f e M=>∃c j,uL b m d M f e h c j g/\(∀o∈c,yu l o)/\(∀o∈j,yu l o)/\c.length+j.length<=p*l.length) ⟨[],[],⟨(P.trans Q),gd.ext Q,U.ext Q,D,bN,oh gd.bg,oh U.bg⟩,aH,aH,aH⟩ ?_;rintro p f e m4 ag μ hi ⟨c,j,T,hd,hr,X⟩ ae
 have ac:p*l.length<=l.length*l.length:=dq _ V;have G:∀{M:E}{f e:O}{c j:List Int},uL b m d M f e h c j g->ap M h g:=λT=>(T.gv.done aH V).le (bz _ _);refine dit (λF=>?_) λF=>?_
 .let⟨y,z⟩:=cg g p;have ab:=L.1 y (aq z);refine⟨V,V,y,(G T).aO z,?_⟩;refine(Oe (Z.le T.x.le) a V y).then λw m5 hn s=>⟨_,rfl,?_⟩;have ak:(p+1)*l.length=p*l.length+l.length:=pD _ _;refine⟨λf k M=>k<=w/\(w<=0->k=w)/\(0<w->0<=k)/\∃H,uL b m d M f e h H j g/\(∀o∈H,yu l o)/\H.length+j.length+k.toNat<=p*l.length+w.toNat,λ_ k _=>k.toNat,⟨V,V,V,c,T.ext s,hd,V⟩,?_⟩;rintro af k m6 ⟨n1,n2,n3,I,A,Y,ai⟩;refine dit (λh1=>?_) λh1=>?_
  .refine⟨V,V,y,(G A).aO z,?_⟩;intro q;have u:cQ (k -1)=k -1:=aQ V V;rw[u];exact A.ZJ v V λN R B=>⟨⟨V,V,V,_,B,λo a=>by
    rcases List.mem_append.1 a with a|a
    .exact Y o a
    .simp at a;subst a;exact ab,bN⟩,by dsimp only;omega⟩
  .refine⟨λe q M=>k<=q/\q<=0/\∃K,uL b m d M af e h I K g/\(∀o∈K,yu l o)/\I.length+K.length+(-q).toNat<=p*l.length+l.length,λ_ q _=>(-q).toNat,⟨V,V,j,A,hr,V⟩,?_⟩;rintro ar q m8 ⟨p1,p2,ad,C,aa,aj⟩;refine⟨λW=>?_,λW=>ae V _ _ _ ⟨I,ad,C,Y,aa,V⟩⟩;simp only[an]at W;refine⟨V,V,y,(G C).aO z,?_⟩;intro m9;have u:cQ (q+1)=q+1:=aQ V V;rw[u];exact C.RK v V λN R B=>⟨⟨V,V,_,B,λo a=>by
    rcases List.mem_append.1 a with a|a
    .exact aa o a
    .simp at a;subst a;exact ab,bN⟩,by dsimp only;omega⟩
 .have o:∀t∈b,t<m4.size:=λt X=>by have:=v t X;have:=T.x.size;omega
  refine(eM (c:=b) o 14 ((T.gd.done v V).le (bz _ _)) V).mono λ_ m5⟨s1,C,k,g1,u,s⟩=>?_;subst k;subst u;refine⟨_,rfl,?_⟩;have q:=g1.bg;refine(eM (c:=s1.az::b) (bQ o s.size q.2) 15 (((T.ext s).gr.done v V).le (bz _ _)) V).mono λ_ m6⟨I,H,k,g2,y,w⟩=>?_;subst k;subst y;refine⟨_,rfl,?_⟩;refine GS.all (g1.ext fO.mono w) ((s.trans w).fz []) (g2.done fO.mono (bQ o s.size q.2) bh bN) bN λN R A z _ _=>⟨N,_,rfl,A.cG fO.mono (λB x=>Or.inl x) T.x.size,⟨c,j,rfl,hd,hr,?_⟩,T.x.trans z.ext⟩;have:p*l.length<=l.length*l.length:=ac;omega
end
section
variable{a:Nat}{c:List Nat}
def HY(a b:Nat):a*a+b*b<=(a+b)*(a+b):=by
 rw[fY,Nat.mul_add,Nat.mul_add];omega
def PD{b:Nat}(h:a<=b):a*a<=b*b:=Ur h h
structure CN(ds:List bo)(c:List Nat)(S:List Nat)(m2 M:E)(a:Nat)(aC:List cE)(k:Nat)(st run:O)(lo lr:List cE)(P:Nat):Prop where
 x:J m2 M
 gs:GS (run.az::S) m2 M st lo
 gr:GS [st.az] m2 M run lr
 wl:WL ds c True a lo
 Xo:dc lo=dc (aC.take k)
 sws:sw lo<=P*P
 P':P+2*lr.length<=sw (aC.take k)
 ln:Xl lr
 Xv:∀o,yu lr o->0<=o/\o<((a+dc (aC.take k):Nat):Int)
 ne:st.az≠run.az
def Px{f:List bo}{l b:List cE}(h:VE l b)(e:∀o,yu l o->0<=o/\o<(a:Int)):WL f c True a b/\dc b=0/\sw b<=(2*l.length)*(2*l.length):=by
 obtain⟨k,j,rfl,g,i,m⟩:=h;refine⟨(qY V λo d=>e o (g o d)).append ?_,?_,?_⟩
 .rw[jH V];exact qY V λo d=>e o (i o d)
 .rw[cF,jH V,jH V]
 .rw[dt,nI,nI];have:(2*l.length)*(2*l.length)=4*(l.length*l.length):=by
   rw[Nat.mul_mul_mul_comm]
  omega
def Zw(e:List bo)(c:List Nat)(b:Bk):Prop:=∀(S:List Nat)(m:E),(∀d∈S,d<m.size)->∀(t:O)(a:Nat),eH m t b.aC->WB e c True a b->b.w<=400000->mP 231 [.agg #[O.v t,vi b.aR]] m S λd=>WB e c True a d/\d.w<=b.w*b.w
def Dq{K:List bo}:∀g:Bk,Zw K c g:=by
 refine Bk.ind ?_;intro aC bg ih s I hS bU a hs a_ hw;have aL:=a_.bB;rw[Bk.qd]at hw⊢;simp only[Bk.jG,Bk.iZ]at*;apply wi;simp -zeta only[aE,aD];intro j k R m3;let⟨x1,hl⟩:=dj (a:=j) (c:=k) rfl rfl;have s0:j.size=I.size+1:=by simp[j]
 have s1:k.size=I.size+2:=by simp[k,s0]
 have bl:J k m3:=(J.push k _).trans (J.push R _);have s2:R.size=k.size+1:=by simp[R]
 have a2:∀u,GS u k m3 (.mk k.size 0 0 0) []:=λu=>(GS.new u k).ext fO.mono (J.push R _);have a1:∀u,GS u k m3 (.mk R.size 0 0 0) []:=λu=>(GS.new u R).cG fO.mono (λg m=>Or.inl m) V;clear_value m3;clear_value k;have a9:=hs.len;have aJ:=Au aC;have bB:=fw aC;have ay:∀e∈j.size::s,e<k.size:=bQ hS x1.size (hl _ aH);refine vS (n:=aC.length) (a9▸hs.fu) (λv G z q=>∃Z t P,CN K c (j.size::s) k q a aC v G z Z t P) ⟨[],[],0,bl,a2 _,a1 _,WL.nil _ _ _ _,rfl,aH,aH,λ_ h=>by simp at h,λaf⟨_,h,_⟩=>by simp at h,bN⟩ ?_;rintro v G z y bn μ hk ⟨Z,t,P,C⟩ aM
 have U:=C.x;have T:=x1.trans U;have bL:=C.gs.bg;have bK:=C.gr.bg;have z4:=U.size;have av:=C.P';have bC:=aJ v;have bq:P*P<=160000000000:=bH (PD (b:=400000) V) bh;have bA:=fw Z;have a7:=C.sws;have aF:=C.ne;have L:∀{q:E}{u:List Nat},y.size<=q.size->(∀e∈u,e<q.size)->∀e∈u++j.size::s,e<q.size:=λh m e f=>by
  rcases List.mem_append.1 f with h|h
  .exact m e h
  .have:=ay e h;omega
 have aI:∀{q:E},J y q->eH q z t:=λh=>eH.le (bz _ _) ((C.gr.ext fO.mono h).ng fO.mono (by simpa using aF.symm) bh V);refine dit (λh=>?_) λh=>?_
 .let⟨d,X⟩:=cg aC v;let⟨pa,pk,ha,ab,g0,g1,g2,g3,g4⟩:=hs.aO X;refine⟨V,V,_,T.af g0,_,T.af g1,_,T.af g2,_,T.af g3,_,T.af g4,?_⟩;intro m5 F;have x6:J y F:=(J.push y _).ai (ad _) _ _;have s6:F.size=y.size+1:=by simp[F,m5,aA]
  clear_value F;have O:∀{q:E},F.size<=q.size->∀g∈[y.size,j.size,I.size],g<q.size:=λh g m=>by
   rcases List.mem_cons.1 m with i|i
   .omega
   .have:=hl g i;omega
  have bF:=pt X;have bE:=ql X;have ba:=cE.lg d;have Q:=aL.1 v d X;have bD:=aJ (v+1);have bs:=pL d.bF;refine(zJ pa pk F).aI (J.aF F) (O (ad _)) λbp m7 a4 x7 _=>⟨_,rfl,λhp=>?_,λhp=>?_⟩
  · -- a pair goes to the run
   have hp:=a4.1 hp;have D:d.args.length=1:=Q.dU.ln V;have N:dn d=0:=ae λh:oG d.op=>by have:=h.2;omega
   have A:=x6.trans x7;intro m8;have r:Le I (bG (z.az::[G.az]) m7):=(yS I).trans (((T.trans A).fz []).bG aH λe f=>by simp at f;have:=x1.size;exact Or.inr V);refine GS.ku (x:=d) (C.gr.ext fO.mono A) ((U.trans A).fz []) (ha.le r) (ab.le r) V λa0 M' W B l w=>⟨λe f=>?_,aM V _ _ _ ⟨Z,t++[d],P,B.ext,(C.gs.ext fO.mono A).re fO.mono (Y:=[z.az]) ⟨l.1,λe f o=>w e f (by simpa using o)⟩ aH (by simpa using aF) (λe f=>?_),W,C.wl,by rw[C.Xo];omega,a7,bN,λak o=>?_,λaf H=>?_,?_⟩⟩
   .have:=O (q:=m7) x7.size e f;rw[w e this (by simp at f;omega),(J.push m7 _).same e this]
   .rcases List.mem_cons.1 f with i|i
    .rcases l.2 with p|p
     .exact Or.inl (by rw[i,p];exact aX)
     .exact Or.inr V
    .exact Or.inl (ah _ i)
   .rcases List.mem_append.1 o with o|o
    .exact C.ln ak o
    .simp at o;subst o;exact D
   .let⟨ak,o,p⟩:=H;have i:dc (aC.take (v+1))=dc (aC.take v):=V;rw[i];rcases List.mem_append.1 o with o|o
    .exact C.Xv af ⟨ak,o,p⟩
    .simp at o;subst o;exact Q.dU.args af p
   .have:=(C.gs.ext fO.mono A).bg;rcases l.2 with i|i<;>omega
  · -- another step ends the run
   have A:=x6.trans x7;have aS:=A.size;refine(xe (b:=[G.az,z.az]++j.size::s) (L aS bN) (aI A) C.ln V).aI (J.aF m7) (O x7.size) λbS bb bM aY be aO _=>⟨_,rfl,?_⟩;let⟨an,ag,bj⟩:=Px (f:=K) (c:=c) be C.Xv;have bv:=fw bb;have bV:=aO.size;have z7:=x7.size;have a3:(2*t.length)*(2*t.length)<=160000000000:=bH (PD (b:=400000) V) bh;have aQ:=A.trans aO;refine GS.all (C.gs.ext fO.mono aQ) ((U.trans aQ).fz []) (aY.done fO.mono (L (u:=[G.az,z.az]) aS bN) bh V) V λw l au aV aR bf=>⟨λe f=>bf e (O V e f) (by simp at f;omega),?_⟩;have ap:J k l:=aV.ext;have bW:=aR.1;have bI:=au.bg;have br:w.az=G.az\/F.size<=w.az:=by have:=aR.2;omega
   intro p am;have aP:J l p:=J.push l _;have bT:p.size=l.size+1:=by simp[p]
   have bk:J p am:=J.push p _;have ar:=ap.trans aP;have gn:GS [w.az] k p (.mk l.size 0 0 0) []:=(GS.new _ l).cG fO.mono (λg m=>Or.inl m) ap.size;have gk:GB ([w.az,l.size]++j.size::s) p am (.mk p.size 0 0 0) []:=GB.new _ p;have aZ:GS ([l.size]++j.size::s) k p w _:=au.re fO.mono (Y:=[]) (aP.fz []) aH aH λe f=>by
    rcases List.mem_cons.1 f with i|i
    .exact Or.inr V
    .exact Or.inl (ah _ i)
   clear_value am;clear_value p;have al:=ab.len;have bt:=JX d.bF;have bu:bw d.bF<=400000:=V;refine dx (n:=d.bF.length) (al▸ab.fu) (λD bi q=>J p q/\∃r,GB ([w.az,l.size]++j.size::s) p q bi r/\r.length=D/\(∀(B:Nat)(g:Bk),r[B]? =some g->WB K c True (a+dc (aC.take v)+AE K d.op d.bK B) g)/\bw r<=bw (d.bF.take D)*bw (d.bF.take D)) ⟨bk,[],gk,rfl,aH,aH⟩ ?_;rintro D ks ac I2 μ2 hj ⟨aa,r,W,bx,aB,a5⟩ bd;have ai:=x1.trans (ar.trans aa);have bX:=aa.size;have bJ:=W.bg;have N:∀g∈[y.size,j.size,I.size],g<ac.size:=O V;refine dit (λh2=>?_) λh2=>?_
   .let⟨g,m⟩:=cg d.bF D;let⟨tb,aW,f0,f1⟩:=ab.aO m;have a6:=uj m;have aN:=tP m;refine⟨V,V,_,ai.af f0,_,ai.af f1,?_⟩;refine(ih d (aq X) g (aq m) ([ks.az,w.az,l.size]++j.size::s) ac (L V bN) tb _ (aW.le ai.le) (Q.bF D g m) V).aI (J.aF ac) N λss b' a8 aT az ao _=>⟨_,_,rfl,?_⟩;refine GB.ku (c:=b') (W.ext qT.mono ao) ((aa.trans ao).fz []) aT V λa0 M' g2 f2 z2 q2=>⟨J.nR ((aa.trans ao).aP _) f2.ext (λe f=>oh (O (q:=p) V e f)),bd V _ _ ⟨f2.ext,_,g2,bN,λB b2 H=>?_,?_⟩⟩
    .rcases aU B r.length with aj|aj
     .rw[aw aj]at H;exact aB B b2 H
     .rw[aG aj]at H;have:B -r.length=0:=by have:=ax H;simp at this;omega
      rw[this]at H;simp at H;subst H;have:B=D:=V;subst this;exact az.1
    .rw[oc,tO,yC,aN];have h3:=HY (bw (d.bF.take D)) g.w;have:=az.2;omega
   .have a6:r.length=d.bF.length:=V;rw[cy V]at a5;refine(bO ([w.az,l.size]++j.size::s) (ha.ext ai) V).aI (J.aF ac) N λs' l' bc ga i H _=>⟨_,rfl,aK (H.same _ (N _ aH)) _,aK (H.same _ (N _ aH)) _,aK (H.same _ (N _ aH)) _,?_⟩;subst i;intro bP;have aj:=aa.trans H;have bY:=H.size;have ao:∀e∈[w.az,l.size]++j.size::s,e<p.size:=L V bN;have a8:w.az≠l.size:=V;refine GS.ku (x:=⟨d.op,d.bK,d.bW,d.args,r⟩) (aZ.ext fO.mono aj) ((ar.trans aj).fz []) (ga.done (λe f=>oh (ao e f)) V) (mX.le (H.cR _) (W.done qT.mono ao bh (by show r.length<=_;omega))) bN λaN bR a0 aW bm az=>⟨λe f=>?_,aM V _ _ _ ⟨_,[],P+2*t.length+d.w,aW.ext,a0,?_,((C.wl.append (by rw[C.Xo];exact an)).y9 (Q.Pg id Q.dU.bW Q.dU.Zl a6 aB|>λh=>by rw[cF,C.Xo,ag,jm];exact h)),?_,?_,bN,λ_ h=>by simp at h,λaf⟨_,h,_⟩=>by simp at h,?_⟩⟩
    .have h3:=N e f;rw[az e V (by simp at f;omega),(J.push bc _).same e V]
    · -- the new run is empty
     have i:=gn.ext fO.mono aj;let⟨p0,aT,p1,p2⟩:=i;refine⟨p0,aT,p1.congr (az _ (by have:=aj.size;show l.size<_;omega) (kG a8)),p2.len,p2.size,λB cs ak _ o=>by simp at o⟩
    .rw[cF,cF,C.Xo,ag,jY,sB];have i:dn (⟨d.op,d.bK,d.bW,d.args,r⟩:cE)=dn d:=rfl;omega
    .rw[dt,dt,lZ,uC];have h3:=HY P (2*t.length);have h4:=HY (P+2*t.length) d.w;have h5:(⟨d.op,d.bK,d.bW,d.args,r⟩:cE).w=1+d.args.length+bw r:=cE.lg _;have o:=HY (1+d.args.length) (bw d.bF);have h7:1+d.args.length<=(1+d.args.length)*(1+d.args.length):=Nat.le_mul_of_pos_left _ V;rw[<-ba]at o;omega
    .rcases bm.2 with i|i
     .show aN.az≠l.size;omega
     .show aN.az≠l.size;omega
 .have al:v=aC.length:=V;subst al;rw[gX]at av;have hd:dc (aC.take aC.length)=dc aC:=by rw[gX]
  have i:∀g∈[j.size,I.size],g<y.size:=λg m=>U.lt (hl g m);refine(xe (b:=[G.az,z.az]++j.size::s) (L (ad _) bN) (aI (J.aF _)) C.ln V).aI (J.aF y) i λO l F r A d _=>⟨_,rfl,aK (d.same _ (i _ aH)) _,?_⟩;let⟨an,ag,bj⟩:=Px (f:=K) (c:=c) A C.Xv;have D:=fw l;have a3:(2*t.length)*(2*t.length)<=160000000000:=bH (PD (b:=400000) V) bh;have Q:=d.size;refine GS.all (C.gs.ext fO.mono d) ((U.trans d).fz []) (r.done fO.mono (L (u:=[G.az,z.az]) (ad _) bN) bh V) V λB H w p W o=>⟨λe f=>o e (d.lt (i e f)) (oh (hl e f)),aK (o _ (d.lt (i _ aH)) V) _,?_⟩;intro N;refine⟨B,.mk (Z++l) bg,rfl,eH.le (cb aH λe f=>ah _ f) ((w.re fO.mono (S':=j.size::s) (Y:=[]) (Fz.aF _ _) aH aH (λe f=>Or.inl (ah _ f))).done fO.mono ay bh bN),⟨WB.of (C.wl.append (by rw[C.Xo];exact an)) ?_,?_⟩,(x1.trans p.ext).ai V _ _⟩
  .rw[cF,C.Xo,ag,hd];exact aL.2
  .rw[Bk.qd,dt];have h3:=HY P (2*t.length);have h4:=PD av;have h5:=HY 1 (sw aC);omega
end
section
variable{e:List Nat}{c:E}{d f:O}{g:List eP}{W:Nat}
def Hk(H:∀a∈e,a<c.size){k:List bo}(r:dX c d f k g)(hW:W<=400000)(hk:uI k g True W):qU 174 [.agg #[O.v d,O.v f]] c e k λx=>uI k x True (W*W):=by
 apply zi;simp -zeta only[aE,aD];intro h a2;let⟨A,v⟩:=dj (a:=h) (c:=a2) rfl rfl;have s1:h.size=c.size+1:=by simp[h]
 clear_value a2;have aj:=r.iD.len;have ar:=r.nA;refine(fD (b:=h.size::e) (bQ H A.size (v _ aH)) (r.le A.le).bt r.types).mono λ_ P⟨ac,o,ae,B⟩=>?_;subst o;refine⟨B.da v,_,rfl,?_⟩;intro Q am ab;have u2:=A.trans B;let⟨x5,B0,g0,s3,s5⟩:=kD (b:=Q.size::h.size::e) iv.mono (d:=P) (a:=Q) (c:=am) (h:=ab) rfl rfl rfl;clear_value ab;have w:∀a∈[h.size,c.size],a<P.size:=λa j=>B.lt (v a j);have I:∀a∈h.size::e,a<P.size:=λa j=>B.lt (bQ H A.size (v _ aH) a j);refine kj (R:=λb i M=>∃d f x,Value.agg #[O.v b,O.v i]=.agg #[O.v d,O.v f]/\dX (bG e M) d f k x/\uI k x True (W*W)/\J c M) (t:=g.length) (f:=c) (b:=e) iv.mono bh bh H ⟨V,w _ aH⟩ u2 s3 ae aj V x5 B0 g0 (λL b=>(pc g)[L]? =some b.params.length/\b.params.length<=3/\b.df.length<=3/\WB k (pc g) True b.params.length b.body/\b.body.w<=W*W) (λi u N y Z h2 p s t=>⟨i,u,N,rfl,⟨Z,h2,r.types,V⟩,GY hk.gS p s,t⟩) λL M st N ao μ ag ap C Y D an=>?_
 let⟨b,K⟩:=cg g L ag;let⟨ai,ah,al,hw⟩:=hk.de b (aq K);have z:=u2.trans C;let⟨au,av,i,c1,c2,c3,T,U,X,E,F⟩:=r.iD.aO K;have G:∀{y:Value}{i s:Nat},af c i s=some y->af M i s=some y:=λu=>z.af u;refine⟨st,D.cJ 1,V,V,_,G T,_,G U,_,G X,_,G E,_,G F,V,V,_,G E,_,G F,?_⟩;have hy:=Y.bg;have ad:=D.lt;have zM:=C.size;refine(Dq b.body (st.az::Q.size::h.size::e) M (λa j=>?_) i b.params.length (c3.le z.le) al V).aI C w λss b' M1 ak aa p u1=>⟨_,_,rfl,?_⟩
 .simp only[aV]at j;rcases j with o|o|o|o
  .omega
  .omega
  .have:=I a (by simp[o]);omega
  .have:=I a (by simp[o]);omega
 have t:∀{y:Value}{i s:Nat},af c i s=some y->af M1 i s=af M i s:=λu=>by rw[p.af (G u),G u]
 refine⟨t T,t U,t X,t E,t F,aK (p.same _ (C.lt (w _ aH))) _,aK (p.same _ ad) _,?_⟩;exact uY (b:=h.size::e) (v:=ac) (x:=N) I (λa j=>by have Z:=w a j;have h2:=u1.size;omega) u1 (Y.ext iv.mono p) (D.ext p) V (c1.ext (z.trans p)) (c2.ext (z.trans p)) ak ⟨V,V⟩ V λs' M' g' Z x'=>an s' M' _ g' Z x' ⟨Iw (q:=b) K,ai,ah,aa.1,bH aa.2 (PD hw)⟩
def XC(b:Bk):Prop:=∀(e:List Nat)(c:E),(∀a∈e,a<c.size)->∀t:O,eH c t b.aC->b.w<=10^12->mP 280 [.agg #[O.v t,vi b.aR]] c e (b=·)
def wZ(H:∀i∈e,i<c.size){z B:O}{x:cE}(I:ap c z x.args)(u:mX c B x.bF)(hw:x.w<=10^12)(P:∀h∈x.bF,XC h):JN 287 [oE x z B] c e (x=·):=by
 apply Br;simp -zeta only[aE,aD];intro d a y;let⟨D,v⟩:=dj (a:=d) (c:=a) rfl rfl;have R:d.size=c.size+1:=by simp[d]
 have s1:a.size=c.size+2:=by simp[a,R]
 have S:J a y:=J.push _ _;have F:GB (d.size::e) a y (.mk a.size 0 0 0) []:=GB.new _ a;clear_value y;clear_value a;have r:∀i∈d.size::e,i<a.size:=bQ H D.size (v _ aH);have K:=u.len;have aa:=cE.lg x;have Y:=pL x.bF;refine dx (n:=x.bF.length) (K▸u.fu) (λw s M=>J a M/\GB (d.size::e) a M s (x.bF.take w)) ⟨S,F⟩ ?_;rintro w s p U μ hj ⟨m,o⟩ Q
 have l:=D.trans m;have k:∀h∈[d.size,c.size],h<p.size:=λh j=>m.lt (v h j);have N:=o.bg;have T:=m.size;refine dit (λG=>?_) λG=>?_
 .let⟨h,j⟩:=cg x.bF w;let⟨tb,M,A,E⟩:=u.aO j;have Z:=uj j;refine⟨V,V,_,l.af A,_,l.af E,?_⟩;refine(P h (aq j) (s.az::d.size::e) p (bQ r T N.2) tb (M.le l.le) V).aI (J.aF p) k λss X C L q g _=>⟨_,_,rfl,?_⟩;subst q;refine GB.ku (c:=h) (o.ext qT.mono g) ((m.trans g).fz []) L bN λf W g2 t z2 q2=>⟨J.nR ((m.trans g).aP _) t.ext v,Q V _ _ ⟨t.ext,?_⟩⟩;rw[bC j];exact g2
 .rw[cy V]at o;refine(bO (d.size::e) (I.ext l) V).aI (J.aF p) k λM W C E q g _=>⟨_,rfl,aK (g.same _ (k _ aH)) _,aK (g.same _ (k _ aH)) _,aK (g.same _ (k _ aH)) _,?_⟩;subst q;intro L;have A:Le (bG (d.size::e) C) (bG e L):=cb aH λi t=>ah _ t;exact⟨M,s,x,rfl,(E.done (λi t=>oh (r i t)) V).le A,mX.le A ((o.ext qT.mono g).done qT.mono r bh V),rfl,(l.trans g).ai V _ _⟩
def vj:∀j:Bk,XC j:=by
 refine Bk.ind ?_;intro aC h ih e c W al z hw;rw[Bk.qd]at hw;simp only[Bk.jG,Bk.iZ]at*;apply qN;simp -zeta only[aE,aD];intro f b d C q;let⟨I,y⟩:=dj (a:=f) (c:=b) rfl rfl;have s0:f.size=c.size+1:=by simp[f]
 have s1:b.size=c.size+2:=by simp[b,s0]
 have s2:d.size=b.size+1:=by simp[d]
 have s3:C.size=d.size+1:=by simp[C]
 have K:J d q:=(J.push d _).ai (ad _) _ _;have ag:J b q:=(J.push b _).trans K;have x:GS (d.size::f.size::e) b q (.mk b.size 0 0 0) []:=(GS.new _ b).ext fO.mono K;have N:cz q d.size cY [.s (.mk b.size 0 0 0),.i h]:=cz.ai (m:=C) (o:=0) (r:=[.s (.mk b.size 0 0 0),.i h]) (cz.push d _ _);clear_value q;have F:∀u∈f.size::e,u<b.size:=bQ W I.size (y _ aH);have ae:=z.len;have aj:=fw aC;refine dZ (n:=aC.length) (ae▸z.fu) (λA M=>J b M/\∃s,GS (d.size::f.size::e) b M s (aC.take A)/\cz M d.size cY [.s s,.i h]) ⟨ag,_,x,N⟩ ?_;rintro A D ai μ hk ⟨w,s,l,B⟩ af
 have g:=I.trans w;have ac:∀j∈[f.size,c.size],j<D.size:=λj Y=>w.lt (y j Y);have hy:=l.bg;have z5:=w.size;have E:=B.lt;refine dit (λU=>?_) λU=>?_
 .let⟨H,v⟩:=cg aC A;let⟨pa,pk,X,ab,x,g1,g2,R,T⟩:=z.aO v;have ak:=Oj v;refine⟨s,B.cJ 0,V,V,_,g.af x,_,g.af g1,_,g.af g2,_,g.af R,_,g.af T,?_⟩;refine(wZ (e:=s.az::d.size::f.size::e) (bQ (bQ F z5 E) (ad _) hy.2) (X.ext g) (ab.le g.le) V (ih H (aq v))).aI (J.aF D) ac λM O x' G Z aa k t _=>⟨_,_,_,_,_,rfl,aK (t.same _ E) _,?_⟩;subst k;intro m7;refine Gr.box (g:=[.i 0,.i 0,.i 0,.s .nil,.s .nil]) (j:=0) (i:=[.s s,.i h]) (w:=H) fO.mono bh (l.ext fO.mono t) ((w.trans t).fz []) ⟨M,O,rfl,Z,aa⟩ bN (B.ext t) aH bh ⟨V,aH⟩ (λu p=>by have L:=y u p;have P:=t.size;omega) λr' m' Q L P z' q'=>af V _ ⟨P.ext,r',?_,L⟩
  rw[bC v];exact Q
 .rw[cy V]at l;refine⟨s,B.cJ 0,h,B.cJ 1,?_⟩;intro G;have v:=l.ne B bh;have t:Le (bG (d.size::f.size::e) D) (bG e G):=cb aH λu p=>ah _ (ah _ p);refine⟨s,.mk aC h,rfl,eH.le t (l.ng fO.mono (λp=>?_) bh (by show aC.length<=_;omega)),rfl,g.ai V _ _⟩;rcases List.mem_cons.1 p with k|k
  .exact v k
  .have:=F _ k;omega
def Zu(b:Bk):Prop:=∀(c:E)(t:O)(f:Int),eH c t b.aC->nY 288 [.agg #[O.v t,vi b.aR],vi f] c
def IW:∀b:Bk,Zu b:=by
 refine Bk.ind ?_;intro aC Y G c t s m;simp only[Bk.jG,Bk.iZ]at*;apply Bo;simp -zeta only[aE,aD];intro g;have A:J c g:=J.push _ _;have D:∀b∈[c.size],b<g.size:=by simp[g]
 clear_value g;have F:=m.len;refine dZ (n:=aC.length) (F▸m.fu) (λ_ M=>J g M) (J.aF _) ?_;rintro k o I μ X r N
 have h:=A.trans r;refine⟨λj=>?_,λ_=>rA h⟩;simp only[an]at j;let⟨x,v⟩:=cg aC k;let⟨pa,w,U,l,B,g1,g2,T,u⟩:=m.aO v;have C:=l.len;have L:∃(i:Int->E->Prop)(μ0_1:Int->E->Nat),i (0:Int) o/\(∀(a:Int)(M:E),i a M->
  (0:Int)<=(k:Int)/\(k:Int)<(t.len:Int)/\∃q:O,af M t.az (t.off+Int.toNat (k:Int)*5+4)=some (O.v q)/\
  ((decide (a<(q.len:Int)))=true->(0:Int)<=(k:Int)/\(k:Int)<(t.len:Int)/\∃d:O,af M t.az (t.off+Int.toNat (k:Int)*5+4)=some (O.v d)/\
   (0:Int)<=a/\a<(d.len:Int)/\∃y:O,af M d.az (d.off+Int.toNat a*2)=some (O.v y)/\∃z:Int,af M d.az (d.off+Int.toNat a*2+1)=some (vi z)/\
   aN cq 288 [.agg #[O.v y,vi z],vi s] M λf e=>eG [c.size] M e/\∃p:Bool,f=vb p/\(p=true->∃b:Bool,vb true=.bool b/\J c e)/\(p=false->i (cQ (a+(1:Int))) e/\μ0_1 (cQ (a+(1:Int))) e<μ0_1 a M))/\
  ((decide (a<(q.len:Int)))=false->I (cQ ((k:Int)+(1:Int))) M/\μ (cQ ((k:Int)+(1:Int))) M<μ k o)):=by
  refine dZ (n:=x.bF.length) (C▸l.fu) (λ_ M=>J o M) (J.aF _) ?_
  rintro H M R μ2 W d K
  have a:=h.trans d
  refine⟨V,V,w,a.af u,λj=>?_,λ_=>N V _ (r.trans d)⟩
  simp only[an]at j
  let⟨b,p⟩:=cg x.bF H
  let⟨tb,z,q,y⟩:=l.aO p
  refine⟨V,V,w,a.af u,V,V,_,a.af q,_,a.af y,?_⟩
  exact(G x (aq v) b (aq p) M tb s (z.le a.le)).aI (r.trans d) D λS e Q P=>⟨_,rfl,λ_=>rA (A.trans P),λ_=>K V _ (d.trans Q)⟩
 exact⟨V,V,_,h.af B,λ_=>⟨V,V,_,h.af g1,λ_=>rA h,λ_=>L⟩,λ_=>L⟩
def I9{o:List bo}(h:dX c d f o g)(i:Int):nY 281 [.agg #[O.v d,O.v f],vi i] c:=by
 apply BG;simp -zeta only[aE,aD];intro a;have k:J c a:=J.push _ _;have s:∀e∈[c.size],e<a.size:=by simp[a]
 clear_value a;have H:=h.iD.len;have G:=h.nA;refine dZ (n:=g.length) V (λ_ M=>J a M) (J.aF _) ?_;rintro u v I μ F l w
 have b:=k.trans l;refine⟨λr=>?_,λ_=>rA b⟩;simp only[an]at r;let⟨x,t⟩:=cg g u;let⟨K,L,e,A,B,m,C,D,E,p,q⟩:=h.iD.aO t;exact⟨V,V,_,b.af p,_,b.af q,(IW x.body v e i (m.le b.le)).aI l s λz y M j=>⟨_,rfl,λ_=>rA (k.trans j),λ_=>w V _ j⟩⟩
abbrev Ze(e:List Nat)(a c:E)(s:O)(l:List (List Int)):Prop:=Gr e a c qD 1 mf s l
def Fl(Z:∀a∈e,a<c.size){R:List bo}(o:dX c d f R g)(hp:∀y∈g,y.params.length<=3):
 aN cq 261 [.agg #[O.v d,O.v f]] c λae G=>∃s l,ae=O.v s/\oF (bG e G) s l/\l.length=g.length/\(∀a∈l,a.length<=3)/\J c G:=by
 apply xJ
 simp -zeta only[aE,aD]
 intro b x
 have N:J c b:=J.push _ _
 have v:∀z∈[c.size],z<b.size:=by simp[b]
 have af:J b x:=J.push _ _
 have W:Ze e b x (.mk b.size 0 0 0) []:=Gr.new e (ad _) _ _ _
 clear_value x
 clear_value b
 have aj:=o.iD.len;have ai:=o.nA
 have C:∀a∈e,a<b.size:=λa u=>N.lt (Z a u)
 refine dx (n:=g.length) V (λk s M=>J b M/\∃l,Ze e b M s l/\l.length=k/\∀a∈l,a.length<=3) ⟨af,[],W,rfl,aH⟩ ?_
 rintro k s H P μ hk ⟨r,l,t,ag,B⟩ aa
 have q:=N.trans r
 have h:=t.bg
 refine dit (λY=>?_) λY=>?_
 .let⟨y,D⟩:=cg g k
  let⟨ab,ak,z,Q,c2,c3,T,e1,e2,e3,e4⟩:=o.iD.aO D
  have ah:=hp y (aq D)
  have hO:∀(M:E)(i:O)(a:List Int),J H M->ap (bG (s.az::e) M) i a->a.length<=3->jb (M.push (.cells (bD [.s i]) qD)) qD [.s O.nil] 24 s (O.mk M.size 0 1 1) λK m=>eG [c.size] (M.push (.cells (bD [.s i]) qD)) m/\P K (cQ ((k:Int)+(1:Int))) m/\μ K (cQ ((k:Int)+(1:Int))) m<μ s k H:=λM i a w hf u=>
   Gr.ku (g:=[.s .nil]) mf.mono bh (t.ext mf.mono w) ((r.trans w).fz []) ⟨i,rfl,hf⟩ V λr' m U A _ _=>⟨J.nR ((r.trans w).aP _) A.ext v,aa V _ _ ⟨A.ext,_,U,bN,λj h=>by
    rcases List.mem_append.1 h with h|h
    .exact B j h
    .simp at h;subst h;exact u⟩⟩
  refine(I9 (o.le q.le) k).aI r v λa m4 j L=>⟨_,rfl,λ_=>?_,λ_=>⟨V,V,ab,(q.trans j).af T,?_⟩⟩
  .intro p m6
   exact hO p _ [] (j.aP _) (lU _ _ _ _ _ _) aH
  .refine(rh (S:=[]) aH (b:=0) ((Q.ext (q.trans j)).le (yS _)) V).aI L v λac F p X I x5 u5=>⟨_,rfl,?_⟩
   intro m6
   have hg:GI (s.az::e) m4 p ac F:=X.any
   exact hO p _ F (j.trans x5) (hg.done (bQ C L.size (oh j.size)) (oh I.2)) (oh I.2)
 .exact⟨s,l,rfl,t.done mf.mono C bh V,V,B,q⟩
def Zv(a:List bo)(g:List eP)(b:Bk):Prop:=∀(c:E)(d f t:O)(v:Int)(h:Prop)(e:Nat),dX c d f a g->eH c t b.aC->WB a (pc g) h e b->nY 282 [.agg #[O.v d,O.v f],.agg #[O.v t,vi b.aR],vi v] c
def zk{C:List bo}:∀b:Bk,Zv C g b:=by
 refine Bk.ind ?_;intro aC ah ih c d f ai ae m ag E t Z;have aa:=Z.bB.1;simp only[Bk.jG,Bk.iZ]at*;apply uv;simp -zeta only[aE,aD];intro K v;let⟨O,W⟩:=dj (a:=K) (c:=v) rfl rfl;clear_value v;have X:=t.len;refine⟨λ_=>rA O,λ_=>?_⟩;refine dZ (n:=aC.length) (X▸t.fu) (λ_ M=>J v M) (J.aF _) ?_;rintro I p af μ hk A ac
 have e:=O.trans A;refine⟨λj=>?_,λ_=>rA e⟩;simp only[an]at j;let⟨x,u⟩:=cg aC I;let⟨pa,pk,o,r,Q,g1,g2,R,S⟩:=t.aO u;have F:=aa I x u;have T:=o.len;have U:=r.len;refine⟨V,V,_,e.af Q,_,e.af g1,_,e.af g2,_,e.af R,_,e.af S,?_⟩;intro m3 h;have B:J p h:=(J.push p _).ai (ad _) _ _;have s4:h.size=p.size+1:=by simp[h,m3,aA]
 clear_value h;have s:∀b∈[p.size,K.size,c.size],b<h.size:=λb k=>by
  rcases List.mem_cons.1 k with D|D
  .omega
  .exact(A.trans B).lt (W b D)
 refine dZ (n:=x.args.length) (T▸o.fu) (λ_ M=>J h M) (J.aF _) ?_;rintro H L I1 μ1 hj l y;have z:=(e.trans B).trans l;refine⟨λj=>?_,λ_=>?_⟩
 .simp only[an]at j;let⟨Y,P⟩:=cg x.args H;refine⟨V,V,Y,(o.ext z).aO P,λ_=>?_,λ_=>y V _ l⟩;refine(wY x.op L).aI l s λm w i G=>⟨_,rfl,λ_=>?_,λ_=>y V _ G⟩;have a:=z.trans i;exact(ns (⟨E.le a.le,o.ext a,F.dU.bL⟩:At w d f pa pk C g x) H).aI G s λm m7 q N=>⟨_,rfl,λ_=>rA (a.trans q),λ_=>y V _ N⟩
 .refine dZ (n:=x.bF.length) (U▸r.fu) (λ_ M=>J L M) (J.aF _) ?_;rintro G w I2 μ2 hi i ab;have a:=z.trans i;refine⟨λj=>?_,λ_=>ac V _ (((A.trans B).trans l).trans i)⟩;simp only[an]at j;let⟨b,k⟩:=cg x.bF G;let⟨tb,Y,M,P⟩:=r.aO k;refine⟨V,V,_,a.af M,_,a.af P,?_⟩;exact(ih x (aq u) b (aq k) w d f tb ae m _ (E.le a.le) (Y.le a.le) (F.bF G b k)).aI (l.trans i) s λm m7 q N=>⟨_,rfl,λ_=>rA (a.trans q),λ_=>ab V _ (i.trans q)⟩
def Jb(P:∀h∈e,h<c.size){A:List bo}(r:dX c d f A g){h:Prop}(Q:uI A g h W){B:Nat}{q:eP}(s:g[B]? =some q):iU 262 [.agg #[O.v d,O.v f],vi B] c e λl=>l.length<=q.df.length:=by
 apply BH;simp -zeta only[aE,aD];intro a u;have y:J c a:=J.push _ _;have E:∀k∈[c.size],k<a.size:=by simp[a]
 have T:J a u:=J.push _ _;have N:GI e a u (.mk a.size 0 0 0) []:=GI.nil e a;clear_value u;clear_value a;have af:=r.iD.len;have aa:=ax s;let⟨ae,ac,R,hw⟩:=Q.de q (aq s);let⟨ah,w,k,X,m,I,Z,o,e2,K,L⟩:=r.iD.aO s;have ag:=m.len;refine dx (n:=q.df.length) V (λt v M=>J a M/\∃l,GI e a M v l/\l.length<=t) ⟨T,[],N,ad _⟩ ?_;rintro t v S U μ ab ⟨H,l,p,D⟩ G
 have b:=y.trans H;refine⟨V,V,w,b.af o,λi=>?_,λi=>⟨v,l,rfl,p.cG (λ_ i=>i) y.size,V,b⟩⟩;simp only[an]at i;let⟨z,F⟩:=cg q.df t;refine⟨V,V,_,b.af K,_,b.af L,V,V,w,b.af o,V,V,z,(m.ext b).aO F,?_⟩;refine(zk q.body S d f k z h _ (r.le b.le) (I.le b.le) R).aI H E λY m4 j x=>⟨_,rfl,λ_=>⟨V,V,w,(b.trans j).af o,V,V,z,(m.ext (b.trans j)).aO F,?_⟩,λ_=>G V _ _ ⟨x,l,p.ext j,V⟩⟩;intro m5;exact GI.ku (p.ext j) (x.fz []) (λh D=>y.lt (P h D)) V λf m6 M C _ _=>⟨J.nR (x.aP _) C.ext E,G V _ _ ⟨C.ext,_,M,bN⟩⟩
end
end Go.Proofs.YtdalfjkmdekijaaGreat
