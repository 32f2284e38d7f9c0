/- Part of a proof. -/
import Derived.Test.YtkicoahejfbjhaaGreatSA02
set_option linter.all false
set_option maxHeartbeats 8000000
set_option maxRecDepth 100000
namespace Go.Proofs.YtkicoahejfbjhaaGreat
open Go.Vc
section
open Tryz
variable{m:E}{R:Value->E->Prop}
variable{a b c d e f g h p q r u v w x y:O}{i j k l n o s t z A B C D F G H:Int}
def FH(a:O):=cY m R ⟨[(6,[(6,.S),(28,.I)])],[],[]⟩ [a,i] func113
def vI(p:Nat×Nat):=cY m R ⟨[(9,[(63,.I)])],[(7,[(9,.I)])],[(7,[111]),(9,[114,111])]⟩ [p,i,a,.agg [j,k,l,n,b,c]] func114
def uS(a:Nat×Nat)(w:Int)(eA:Bool):=cY m R ⟨[(13,[(69,.I)])],[(5,[])],[]⟩ [a,w,.c (.t eA)] func115
def sD(p:Nat×Nat):=cY m R A0 [p,i] func116
def Bm(a:O):=cY m R ⟨[(6,[(5,.I)])],[],[(6,[59])]⟩ [a,.agg [i,j,b]] func117
def GG(a:O):=cY m R ⟨[(3,[(4,.I)]),(6,[(5,.I)])],[],[]⟩ [a] func118
def AL(a:O):=cY m R ⟨[(4,[(4,.I),(5,.T)]),(7,[(4,.I),(5,.T),(6,.I)])],[],[]⟩ [a] func119
def Bt(a:O):=cY m R ⟨[(2,[(5,.I)])],[],[(2,[53])]⟩ [a,.agg [i,j,k,b,c,d]] func120
def AN(i:Int):=cY m R A0 [i] func121
def CT(i:Int):=cY m R ⟨[(3,[(4,.I)]),(7,[(6,.I)])],[],[(3,[61]),(7,[65,61])]⟩ [.agg [i,j,k,l,a,b,c]] func122
def rZ(i:Int):=cY m R A0 [i] func123
def EC(a:O):=cY m R A0 [.agg [a,b],.agg [i,j,k,l,c,d],n] func124
def wu(a:O):=cY m R ⟨[(2,[(3,.I)])],[],[]⟩ [a] func125
def J5(i:Int):=cY m R A0 [i] func126
def yF(i:Int):=cY m R ⟨[(2,[(5,.I)])],[],[(2,[26,25])]⟩ [.agg [i,j,k,a,b,c],.agg [l,n,o,s,d,e]] func127
def sK(p:Nat×Nat):=cY m R A0 [p,.agg [i,j,k,a,b,c],.agg [l,n,o,s,d,e]] func128
def sI(p:Nat×Nat):=cY m R ⟨[(2,[(7,.I)])],[],[(2,[51,50])]⟩ [p,.agg [i,j,k,a,b,c],.agg [l,n,o,s,d,e]] func129
def Ei(a:O):=cY m R ⟨[(2,[(3,.I)])],[],[]⟩ [a] func130
end
section
open Tryz
variable{m:E}{R:Value->E->Prop}
variable{a b c d e f g h p q r u v w x y:O}{i j k l n o s t z A B C D F G H:Int}
def sJ(p:Nat×Nat):=cY m R A0 [p,i] func131
def Gx(a:O):=cY m R A0 [a,i] func132
def uc(p:Nat×Nat):=cY m R A0 [p,i] func133
def tC(p:Nat×Nat):=cY m R A0 [p,.agg [i,j,k,a,b,c],.agg [l,n,o,s,d,e]] func134
def JP(a:O):=cY m R ⟨[(2,[(5,.I)])],[],[]⟩ [a,i] func135
def uB(a:O):=cY m R ⟨[(5,[(5,.S),(6,.I)])],[],[]⟩ [a,i] func136
def uf(p:Nat×Nat):=cY m R A0 [p,i,j] func137
def J2(i:Int):=cY m R A0 [i,j,k] func138
def rS(p:Nat×Nat):=cY m R ⟨[],[(5,[(8,.I)])],[(5,[75,74])]⟩ [p,.agg [i,j,k,a,b,c],.agg [l,n,o,s,d,e],t] func139
def Cu(a:O):=cY m R ⟨[(3,[(3,.I),(4,.I)])],[],[]⟩ [a] func140
def vf(p:Nat×Nat):=cY m R ⟨[],[(10,[(6,.I),(7,.S)])],[(10,[128,127])]⟩ [p,.agg [i,j,k,a,b,c],.agg [l,n,o,s,d,e]] func141
def vg(p:Nat×Nat):=cY m R A0 [p,.agg [i,j,k,a,b,c],l] func142
def vh(p:Nat×Nat):=cY m R ⟨[(1,[(4,.I)])],[],[]⟩ [p,a] func143
def oR(p:Nat×Nat):=cY m R A0 [p,i] func144
def AE(a:O):=cY m R ⟨[(2,[(5,.S)])],[],[]⟩ [a,b] func145
def sL(p:Nat×Nat):=cY m R ⟨[(4,[(8,.I)])],[],[(4,[111,110])]⟩ [p,.agg [i,j,k,a,b,c],.agg [l,n,o,s,d,e]] func146
def ue(p:Nat×Nat):=cY m R A0 [p,i,j] func147
def CD(a:O):=cY m R ⟨[(3,[(5,.I),(6,.I)])],[],[]⟩ [a,i] func148
end
section
open Tryz
variable{m:E}{R:Value->E->Prop}
variable{a b c d e f g h p q r u v w x y:O}{i j k l n o s t z A B C D F G H:Int}
def zR(a:O):=cY m R ⟨[(4,[(39,.I)]),(9,[(64,.I)])],[],[(9,[108])]⟩ [a,b] func149
def oB(p q:Nat×Nat):=cY m R A0 [i,p,q] func150
def oC(p:Nat×Nat):=cY m R A0 [i,p] func151
def qx(b c:O)(d e f g:Int)(h i:O)(a:Fn×Array Value×Array Value):=cY m R A0 [.agg [b,c],.agg [d,e,f,g,h,i],.c (.fv a)] func152
def rP(a:O):=cY m R A0 [.agg [a,b],.agg [i,j,k,l,c,d]] func153
def zL(a:O):=cY m R ⟨[(6,[(48,.I)])],[(5,[])],[(5,[69]),(6,[69])]⟩ [a,.agg [i,j,b]] func154
def FO(a:O):=cY m R A0 [a,i] func155
def qB(s:O)(f:Fn×Array Value×Array Value):=cY m R ⟨[(2,[(8,.I)])],[],[]⟩ [s,.c (.fv f)] func156
def zd(a:O):=cY m R ⟨[(4,[(3,.I)])],[],[]⟩ [a] func157
def Cm(a:O):=cY m R ⟨[(2,[(5,.I)])],[],[]⟩ [a,b] func158
def Bq(a:O):=cY m R ⟨[(2,[(5,.I)])],[],[]⟩ [a,b] func159
def y8(a:O):=cY m R ⟨[(4,[(9,.I)])],[(10,[])],[(4,[241,238,237]),(10,[241,238,237])]⟩ [.agg [a,b],.agg [c,d,i,j,e],k] func160
def Eu(a:O):=cY m R A0 [.agg [a,b],i,j,c,d] func161
def Et(a:O):=cY m R ⟨[(3,[(4,.I)])],[],[(3,[75,74])]⟩ [.agg [a,b]] func164
def vY(p:Nat×Nat):=cY m R ⟨[],[(4,[]),(6,[]),(9,[]),(11,[])],[(4,[37]),(6,[37]),(9,[37]),(11,[37])]⟩ [p] func165
def Bj(a:O):=cY m R ⟨[(3,[(4,.I)])],[],[(3,[45,44])]⟩ [.agg [a,b]] func166
end
section
open Tryz
variable{m:E}{R:Value->E->Prop}
variable{a b p d e f g h r u v w x y z B:O}{i j k l q o s t C D F G H I J K:Int}
def Ax(a:O):=cY m R ⟨[(3,[(4,.I)]),(8,[(6,.S),(7,.I)])],[],[(3,[62,61]),(8,[65,62,61])]⟩ [.agg [a,b]] func167
def Ao(p:Nat×Nat):=cY m R A0 [p,.agg [i,j,k,l,a,b]] func168
def Cn(p:Nat×Nat):=cY m R A0 [p] func169
def yV(p:Nat×Nat):=cY m R A0 [p,.agg [i,j,k,l,a,b]] func170
def rp(a:O):=cY m R A0 [a,i] func171
def zK(i:Int):=cY m R A0 [i] func172
def nG(e:Nat×Nat)(i:Int)(n:Int)(c:O)(m:E)(R:Value->E->Prop):Prop:=
 let k:E:=m.push (.cells (bt [.i i,.i n,.s c]) 48)
 Mt m.size m.size (
 ((i==(1:Int))=true->
 R (vb true) k)/\
 ((i==(1:Int))=false->
 let v:E:=k.push (.map #[] 0)
 Mt m.size m.size (
 ∃(o:Int->E->Prop)(μ0:Int->E->Nat),
 o (0:Int) v/\
 (∀(b:Int)(f:E),o b f->
 ((decide (b<(c.len:Int)))=true->
 (0:Int)<=b/\b<(c.len:Int)/\
 ∃t:Int,af f c.D (c.off+Int.toNat b*1)=some (vi t)/\
 ∃u:O,af f e.1 (e.2+3+5)=some (O.v u)/\
 aN cg 155 [O.v u,vi t] f λw g=>
 eF [m.size] f g/\
 ∃d:Int,∃q:Bool,w=.tuple #[vi d,vb q]/\
 (q=true->
 ∃l,Dq g k.size l/\
 ∃s,Dq g k.size s/\
 ∀a:E,Dq a k.size (JD s d (cT ((uW l d)+(1:Int))))->a.size=g.size->(∀j,j≠k.size->a[j]? =g[j]?)->
 eF [m.size] g a/\
 ∃h:O,af a e.1 (e.2+3+5)=some (O.v h)/\
 (0:Int)<=d/\d<(h.len:Int)/\
 ∃r:Int,af a h.D (h.off+Int.toNat d*3)=some (vi r)/\
 ∃p,Dq a k.size p/\
 af a h.D (h.off+Int.toNat d*3)=af a h.D (h.off+Int.toNat d*3)/\
 af a e.1 (e.2+3+5)=af a e.1 (e.2+3+5)/\
 ((decide ((cT (r+(uW p d)))>(999999:Int)))=true->
 R (vb false) a)/\
 ((decide ((cT (r+(uW p d)))>(999999:Int)))=false->
 WW (SV.box m.size 48 [.i i,.i n,.s c]) (SV.box m.size 48 [.i i,.i n,.s c]) (
 o (cT (b+(1:Int))) a/\μ0 (cT (b+(1:Int))) a<μ0 b f)))/\
 (q=false->
 WW (SV.box m.size 48 [.i i,.i n,.s c]) (SV.box m.size 48 [.i i,.i n,.s c]) (
 o (cT (b+(1:Int))) g/\μ0 (cT (b+(1:Int))) g<μ0 b f)))/\
 ((decide (b<(c.len:Int)))=false->
 R (vb true) f)))))
def sF(a:Nat×Nat)(b:Int)(d:Int)(e:O)(m:E)(R:Value->E->Prop)(f:nG a b d e m R):aN cg 173 [vp a.1 a.2,.agg #[vi b,vi d,O.v e]] m R:=
 xL (o:=⟨[(5,[(17,.I)])],[],[(5,[54])]⟩) (d:=51) (r:=[.tmp 4]) (a:=[.c (.p a.1 a.2),.agg [.i b,.i d,.s e]]) OU Zm Zn Tryz.func173 (m:=Og Tryz.f173) (by kernel_rfl) (by kernel_rfl) (by kernel_rfl) (by kernel_rfl) aL (by kernel_rfl) (Eq.mp (by kernel_rfl) f)
def tx(a:O):=cY m R ⟨[(4,[(13,.I)])],[],[]⟩ [a,b] func174
def yx(a:O):=cY m R ⟨[(3,[(3,.S),(8,.I)])],[],[]⟩ [a] func175
def JA(i:Int):=cY m R A0 [i,j,k] func176
def yv(p:Nat×Nat):=cY m R A0 [p,i,a] func177
def zP(p:Nat×Nat):=cY m R ⟨[(1,[(2,.I)])],[],[]⟩ [p] func178
def Gz(a:O):=cY m R A0 [a,i] func179
def Am(a:O):=cY m R ⟨[(2,[(5,.I)])],[],[]⟩ [a,b] func180
def Er(i:Int):=cY m R A0 [i] func181
def rT(p:Nat×Nat):=cY m R ⟨[(2,[(5,.I)]),(6,[(6,.I),(7,.I)])],[],[]⟩ [p,a] func182
def yR(a:O):=cY m R ⟨[(3,[(3,.S),(4,.I)])],[],[]⟩ [a] func183
def CX(a:O):=cY m R ⟨[(4,[(5,.I)])],[],[]⟩ [a,b] func184
end
section
open Tryz
variable{m:E}{R:Value->E->Prop}
variable{a b c d e f g h p q r u v w x y:O}{i j k l n o s t z A B C D F G H:Int}
def EY(i:Int):=cY m R ⟨[(3,[(5,.S),(6,.I)])],[],[(3,[28])]⟩ [.agg [i,j,k,a,b,c],d] func185
def If(i:Int):=cY m R A0 [i] func186
def AF(a:O):=cY m R ⟨[(2,[(3,.I)])],[],[]⟩ [a] func187
def IG(a:O):=cY m R A0 [a,i,j,b] func188
def uE(a:O):=cY m R A0 [a,b] func189
def ug(p:Nat×Nat):=cY m R A0 [p,i] func190
def J9(a:O):=cY m R ⟨[(2,[(3,.I)])],[],[]⟩ [a] func191
def rC(p:Nat×Nat):=cY m R ⟨[(3,[(7,.S),(8,.I)])],[],[(3,[42])]⟩ [p,.agg [i,j,k,l,a,b],c] func192
def IP(i:Int):=cY m R A0 [i] func193
def yp(a:O):=cY m R ⟨[(4,[(14,.I)]),(9,[(56,.I)]),(15,[(76,.I)])],[(8,[])],[(8,[110]),(9,[110]),(15,[110])]⟩ [a] func194
def Cc(a:O):=cY m R ⟨[(2,[(9,.I)])],[],[]⟩ [a,b] func195
def FL(a:O):=cY m R A0 [a,i] func196
def Ch(a:O):=cY m R A0 [a,i] func197
def zS(a:O):=cY m R A0 [a,i] func198
def Bn(a:O):=cY m R ⟨[(6,[(6,.I)]),(12,[(7,.I)])],[],[(6,[105]),(12,[105])]⟩ [a,i] func199
def En(a:O):=cY m R ⟨[(2,[(5,.I)])],[],[]⟩ [a,i] func200
def rq(a:O):=cY m R A0 [a,i] func201
def CU(a:O):=cY m R A0 [.agg [a,b],i,j,k] func202
end
section
open Tryz
variable{m:E}{R:Value->E->Prop}
variable{a b c d e f g h p q r u v w x y:O}{i j k l n o s t z A B C D F G H:Int}
def y9(a:O):=cY m R ⟨[(4,[(9,.I)])],[],[]⟩ [a,i,j,k] func203
def Aw(a:O):=cY m R ⟨[(3,[(3,.S),(4,.I)]),(7,[(5,.S),(6,.I)])],[],[]⟩ [a] func204
def xw(i:Int):=cY m R ⟨[(3,[(5,.S),(6,.I)])],[],[]⟩ [i,j] func205
def va(p:Nat×Nat):=cY m R ⟨[(2,[(3,.S),(4,.S),(10,.I)])],[(17,[])],[(2,[104,103]),(17,[108,104,103])]⟩ [p,.agg [a,b],.agg [c,i],d,e] func206
def xf(p:Nat×Nat):=cY m R A0 [p,.agg [i,j,k,l,a,b]] func207
def GH(a:O):=cY m R ⟨[(3,[(5,.I),(6,.I)]),(7,[(5,.I),(7,.I)])],[],[]⟩ [a,i] func208
def xc(p:Nat×Nat):=cY m R A0 [p] func209
def JN(p:Nat×Nat):=cY m R ⟨[(9,[(10,.S),(11,.I)])],[],[(9,[108,106,105])]⟩ [p,.agg [a,b]] func210
def Ar(a:O):=cY m R ⟨[(3,[(4,.I)])],[],[(3,[38,37])]⟩ [.agg [a,b]] func211
def xE(a:O):=cY m R ⟨[(3,[(4,.I)])],[],[(3,[40,39])]⟩ [.agg [a,b]] func212
def GK(a:O):=cY m R ⟨[(3,[(4,.I)])],[],[(3,[40,39])]⟩ [.agg [a,b]] func213
def Dc(a:O):=cY m R ⟨[(3,[(3,.S),(4,.I)])],[],[]⟩ [a] func214
def ry(i:Int):=cY m R A0 [.agg [i,j,k,l,a,b]] func215
def AG(p:Nat×Nat):=cY m R A0 [p] func216
def Lv(a:O):=cY m R A0 [a] func217
def lU(s:O)(f:Fn×Array Value×Array Value):=cY m R ⟨[(2,[(8,.I)])],[],[]⟩ [s,.c (.fv f)] func218
def vH(i:Int):=cY m R A0 [.agg [i,j,a]] func219
def HA(a:O):=cY m R ⟨[(2,[(1,.I),(10,.I)])],[],[(2,[43])]⟩ [a,i] func220
end
end Go.Proofs.YtkicoahejfbjhaaGreat
