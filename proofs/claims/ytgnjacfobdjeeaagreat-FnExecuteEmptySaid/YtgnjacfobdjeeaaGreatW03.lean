/- Part of a proof, joined by a program. -/
import Derived.Test.YtgnjacfobdjeeaaGreatW02
set_option linter.unusedVariables false
set_option linter.unusedSimpArgs false
set_option linter.defProp false
set_option linter.constructorNameAsVariable false
set_option maxHeartbeats 8000000
set_option maxRecDepth 100000
namespace Go.Proofs.YtgnjacfobdjeeaaGreat
open Go.Vc
section
variable{m:I}{R:Value->I->Prop}
def sB(a f:Nat×Nat)(b c d e:Int)(g h:O):=cX m R A0 [cP a,cP f,.agg [.i b,.i c,.i d,.i e,.s g,.s h]] Tryz.func95
def qV(a f:Nat×Nat)(b c d e:Int)(g h:O):=cX m R ⟨[(14,[(10,.S),(74,.I)])],[],[(14,[125,121])]⟩ [cP a,cP f,.agg [.i b,.i c,.i d,.i e,.s g,.s h]] Tryz.func96
def sX(a f:Nat×Nat)(b c d e:Int)(g h:O):=cX m R A0 [cP a,cP f,.agg [.i b,.i c,.i d,.i e,.s g,.s h]] Tryz.func97
def zt(f:Nat×Nat)(MM w aR:Int):=cX m R A0 [cP f,cI MM,cI w,cI aR] Tryz.func98
def rJ(a f:Nat×Nat)(b c d e:Int)(g h:O):=cX m R A0 [cP a,cP f,.agg [.i b,.i c,.i d,.i e,.s g,.s h]] Tryz.func99
def uJ(a:Nat×Nat)(jQ:Int)(aL:O):=cX m R A0 [cP a,cI jQ,cS aL] Tryz.func100
def wM(f:Nat×Nat)(u:O):=cX m R ⟨[(3,[(13,.I)])],[],[]⟩ [cP f,cS u] Tryz.func101
def zB(h:Nat×Nat)(w:Int):=cX m R ⟨[(1,[(4,.S)])],[],[]⟩ [cP h,cI w] Tryz.func102
def vD(a f:Nat×Nat)(b c d e:Int)(g h:O):=cX m R ⟨[(5,[(39,.I)])],[],[(5,[58])]⟩ [cP a,cP f,.agg [.i b,.i c,.i d,.i e,.s g,.s h]] Tryz.func103
def vH(w:Int):=cX m R A0 [cI w] Tryz.func104
def tp(s:O)(v:Int):=cX m R ⟨[(2,[(8,.I)])],[],[]⟩ [cS s,cI v] Tryz.func105
def Fc(aT:O)(t:Int):=cX m R ⟨[(6,[(6,.S),(28,.I)])],[],[]⟩ [cS aT,cI t] Tryz.func106
def vC(b:Nat×Nat)(eP:Int)(a:O)(c d e f:Int)(g h:O):=cX m R ⟨[(9,[(63,.I)])],[(7,[(9,.I)])],[(7,[111]),(9,[114,111])]⟩ [cP b,cI eP,cS a,.agg [.i c,.i d,.i e,.i f,.s g,.s h]] Tryz.func107
def uK(a:Nat×Nat)(w:Int)(dW:Bool):=cX m R ⟨[(13,[(69,.I)])],[(5,[])],[]⟩ [cP a,cI w,.c (.t dW)] Tryz.func108
def sA(a:Nat×Nat)(w:Int):=cX m R A0 [cP a,cI w] Tryz.func109
def yU(aT:O):=cX m R ⟨[(4,[(3,.I)])],[],[]⟩ [cS aT] Tryz.func110
def BK(aT a:O):=cX m R ⟨[(2,[(5,.I)])],[],[]⟩ [cS aT,cS a] Tryz.func111
def AT(a cJ:O):=cX m R ⟨[(2,[(5,.I)])],[],[]⟩ [cS a,cS cJ] Tryz.func112
end
section
variable{m:I}{R:Value->I->Prop}
def yS(b c d e:O)(f g:Int)(h:O)(a:Int):=cX m R ⟨[(4,[(9,.I)])],[(10,[])],[(4,[241,238,237]),(10,[241,238,237])]⟩ [.agg [.s b,.s c],.agg [.s d,.s e,.i f,.i g,.s h],cI a] Tryz.func113
def DX(c d:O)(a b:Int)(cv aR:O):=cX m R A0 [.agg [.s c,.s d],cI a,cI b,cS cv,cS aR] Tryz.func114
def sJ(r:Nat×Nat)(a:O):=cX m R A0 [cP r,cS a] Tryz.func115
def Aq(w:Int):=cX m R A0 [cI w] Tryz.func121
def zy(h:O)(a b:Int)(c:O):=cX m R ⟨[(6,[(48,.I)])],[(5,[])],[(5,[69]),(6,[69])]⟩ [cS h,.agg [.i a,.i b,.s c]] Tryz.func122
def Fi(h:O)(w:Int):=cX m R A0 [cS h,cI w] Tryz.func123
def ql(s:O)(f:Fn×Array Value×Array Value):=cX m R ⟨[(2,[(8,.I)])],[],[]⟩ [cS s,.c (.fv f)] Tryz.func124
def FQ(a:Int):=cX m R A0 [cI a] Tryz.func125
def Cq(a b c:Int)(d e f bS:O):=cX m R ⟨[(3,[(6,.I)])],[],[(3,[42])]⟩ [.agg [.i a,.i b,.i c,.s d,.s e,.s f],cS bS] Tryz.func126
def Ep(g h:O)(a b c d:Int)(e f:O):=cX m R ⟨[(4,[(5,.S),(6,.I)])],[(3,[(30,.T)])],[(3,[70,69]),(4,[70,69])]⟩ [.agg [.s g,.s h],.agg [.i a,.i b,.i c,.i d,.s e,.s f]] Tryz.func127
def tV(n:Nat×Nat)(a b c:Int)(d e f:O)(g h i j:Int)(k l aR:O):=cX m R ⟨[],[(3,[])],[(3,[226,225])]⟩ [cP n,.agg [.i a,.i b,.i c,.s d,.s e,.s f],.agg [.i g,.i h,.i i,.i j,.s k,.s l],cS aR] Tryz.func128
def tw(n:Nat×Nat)(a b c:Int)(d e f:O)(g h i j:Int)(k l:O):=cX m R A0 [cP n,.agg [.i a,.i b,.i c,.s d,.s e,.s f],.agg [.i g,.i h,.i i,.i j,.s k,.s l]] Tryz.func129
end
section
variable{m:I}{R:Value->I->Prop}
def mQ(s:O):=cX m R A0 [cS s] Tryz.func132
def DW(a b:O):=cX m R ⟨[(3,[(4,.I)])],[],[(3,[75,74])]⟩ [.agg [.s a,.s b]] Tryz.func133
def vT(r:Nat×Nat):=cX m R ⟨[],[(4,[]),(6,[]),(9,[]),(11,[])],[(4,[37]),(6,[37]),(9,[37]),(11,[37])]⟩ [cP r] Tryz.func134
def AO(a b:O):=cX m R ⟨[(3,[(4,.I)])],[],[(3,[45,44])]⟩ [.agg [.s a,.s b]] Tryz.func135
def Af(a b:O):=cX m R ⟨[(3,[(4,.I)]),(8,[(6,.S),(7,.I)])],[],[(3,[62,61]),(8,[65,62,61])]⟩ [.agg [.s a,.s b]] Tryz.func136
def zY(r:Nat×Nat)(a b c d:Int)(e f:O):=cX m R A0 [cP r,.agg [.i a,.i b,.i c,.i d,.s e,.s f]] Tryz.func137
def BL(r:Nat×Nat):=cX m R A0 [cP r] Tryz.func138
def yP(r:Nat×Nat)(a b c d:Int)(e f:O):=cX m R A0 [cP r,.agg [.i a,.i b,.i c,.i d,.s e,.s f]] Tryz.func139
def yi(aT:O):=cX m R ⟨[(4,[(14,.I)]),(9,[(56,.I)]),(15,[(76,.I)])],[(8,[])],[(8,[110]),(9,[110]),(15,[110])]⟩ [cS aT] Tryz.func140
def BA(aT a:O):=cX m R ⟨[(2,[(9,.I)])],[],[]⟩ [cS aT,cS a] Tryz.func141
def Fh(aT:O)(t:Int):=cX m R A0 [cS aT,cI t] Tryz.func142
def BE(aT:O)(c:Int):=cX m R A0 [cS aT,cI c] Tryz.func143
def rc(s:O)(v:Int):=cX m R A0 [cS s,cI v] Tryz.func144
def zw(n:Int):=cX m R A0 [cI n] Tryz.func145
def nG(e:Nat×Nat)(i:Int)(k:Int)(c:O)(m:I)(R:Value->I->Prop):Prop:=
 let j:I:=m.push (.cells (bG [.i i,.i k,.s c]) 47)
 LA m.size m.size (
 ((i==(1:Int))=true->
 R (vb true) j)/\
 ((i==(1:Int))=false->
 let v:I:=j.push (.map #[] 0)
 LA m.size m.size (
 ∃(l:Int->I->Prop)(μ0:Int->I->Nat),
 l (0:Int) v/\
 (∀(b:Int)(f:I),l b f->
 ((decide (b<(c.len:Int)))=true->
 (0:Int)<=b/\b<(c.len:Int)/\
 ∃t:Int,af f c.F (c.off+Int.toNat b*1)=some (vi t)/\
 ∃u:O,af f e.1 (e.2+3+5)=some (O.v u)/\
 aO cw 123 [O.v u,vi t] f λw g=>
 eE [m.size] f g/\
 ∃d:Int,∃p:Bool,w=.tuple #[vi d,vb p]/\
 (p=true->
 ∃r,CP g j.size r/\
 ∃s,CP g j.size s/\
 ∀a:I,CP a j.size (IU s d (cW ((uQ r d)+(1:Int))))->a.size=g.size->(∀n,n≠j.size->a[n]? =g[n]?)->
 eE [m.size] g a/\
 ∃h:O,af a e.1 (e.2+3+5)=some (O.v h)/\
 (0:Int)<=d/\d<(h.len:Int)/\
 ∃q:Int,af a h.F (h.off+Int.toNat d*3)=some (vi q)/\
 ∃o,CP a j.size o/\
 af a h.F (h.off+Int.toNat d*3)=af a h.F (h.off+Int.toNat d*3)/\
 af a e.1 (e.2+3+5)=af a e.1 (e.2+3+5)/\
 ((decide ((cW (q+(uQ o d)))>(999999:Int)))=true->
 R (vb false) a)/\
 ((decide ((cW (q+(uQ o d)))>(999999:Int)))=false->
 Wd (SV.box m.size 47 [.i i,.i k,.s c]) (SV.box m.size 47 [.i i,.i k,.s c]) (
 l (cW (b+(1:Int))) a/\μ0 (cW (b+(1:Int))) a<μ0 b f)))/\
 (p=false->
 Wd (SV.box m.size 47 [.i i,.i k,.s c]) (SV.box m.size 47 [.i i,.i k,.s c]) (
 l (cW (b+(1:Int))) g/\μ0 (cW (b+(1:Int))) g<μ0 b f)))/\
 ((decide (b<(c.len:Int)))=false->
 R (vb true) f)))))
def sC(a:Nat×Nat)(b:Int)(d:Int)(e:O)(m:I)(R:Value->I->Prop)(f:nG a b d e m R):aO cw 146 [vp a.1 a.2,.agg #[vi b,vi d,O.v e]] m R:=
 xF (o:=⟨[(5,[(17,.I)])],[],[(5,[54])]⟩) (d:=51) (r:=[.tmp 4]) (a:=[.c (.p a.1 a.2),.agg [.i b,.i d,.s e]]) NY YK YL Tryz.func146 (m:=Nl Tryz.f146) (by kernel_rfl) (by kernel_rfl) (by kernel_rfl) (by kernel_rfl) D (by kernel_rfl) (Eq.mp (by kernel_rfl) f)
def tn(a b:O):=cX m R ⟨[(4,[(13,.I)])],[],[]⟩ [cS a,cS b] Tryz.func147
def yr(cv:O):=cX m R ⟨[(3,[(3,.S),(8,.I)])],[],[]⟩ [cS cv] Tryz.func148
end
section
variable{m:I}{R:Value->I->Prop}
def IP(c a b:Int):=cX m R A0 [cI c,cI a,cI b] Tryz.func149
def yo(h:Nat×Nat)(jQ:Int)(aL:O):=cX m R A0 [cP h,cI jQ,cS aL] Tryz.func150
def zC(h:Nat×Nat):=cX m R ⟨[(1,[(2,.I)])],[],[]⟩ [cP h] Tryz.func151
def AQ(aT:O)(a:Int):=cX m R ⟨[(6,[(6,.I)]),(12,[(7,.I)])],[],[(6,[105]),(12,[105])]⟩ [cS aT,cI a] Tryz.func152
def Ju(a:Int):=cX m R A0 [cI a] Tryz.func153
def DP(aT:O)(c:Int):=cX m R ⟨[(2,[(5,.I)])],[],[]⟩ [cS aT,cI c] Tryz.func154
def rf(aT:O)(c:Int):=cX m R A0 [cS aT,cI c] Tryz.func155
def Cr(b c:O)(bN a iV:Int):=cX m R A0 [.agg [.s b,.s c],cI bN,cI a,cI iV] Tryz.func156
def uv(aT:O)(t:Int):=cX m R ⟨[(5,[(5,.S),(6,.I)])],[],[]⟩ [cS aT,cI t] Tryz.func157
def yT(c:O)(d a b:Int):=cX m R ⟨[(4,[(9,.I)])],[],[]⟩ [cS c,cI d,cI a,cI b] Tryz.func158
def HY(n:Int):=cX m R A0 [cI n] Tryz.func159
def DK(a:O):=cX m R ⟨[(2,[(3,.I)])],[],[]⟩ [cS a] Tryz.func161
def FR(h:O)(w:Int):=cX m R A0 [cS h,cI w] Tryz.func163
def zG(h:O)(w:Int):=cX m R A0 [cS h,cI w] Tryz.func165
def rW(a:Int):=cX m R A0 [cI a] Tryz.func166
end
section
variable{m:I}{R:Value->I->Prop}
def Ed(g h:O)(a b c d:Int)(e f:O)(k:Int):=cX m R A0 [.agg [.s g,.s h],.agg [.i a,.i b,.i c,.i d,.s e,.s f],cI k] Tryz.func167
def wj(a:O):=cX m R ⟨[(2,[(3,.I)])],[],[]⟩ [cS a] Tryz.func168
def yA(a b c:Int)(d e f:O)(g h i j:Int)(k l:O):=cX m R ⟨[(2,[(5,.I)])],[],[(2,[26,25])]⟩ [.agg [.i a,.i b,.i c,.s d,.s e,.s f],.agg [.i g,.i h,.i i,.i j,.s k,.s l]] Tryz.func169
def sH(n:Nat×Nat)(a b c:Int)(d e f:O)(g h i j:Int)(k l:O):=cX m R A0 [cP n,.agg [.i a,.i b,.i c,.s d,.s e,.s f],.agg [.i g,.i h,.i i,.i j,.s k,.s l]] Tryz.func170
def sF(n:Nat×Nat)(a b c:Int)(d e f:O)(g h i j:Int)(k l:O):=cX m R ⟨[(2,[(7,.I)])],[],[(2,[51,50])]⟩ [cP n,.agg [.i a,.i b,.i c,.s d,.s e,.s f],.agg [.i g,.i h,.i i,.i j,.s k,.s l]] Tryz.func171
def sG(a:Nat×Nat)(w:Int):=cX m R A0 [cP a,cI w] Tryz.func172
def tU(a:Nat×Nat)(w:Int):=cX m R A0 [cP a,cI w] Tryz.func173
def tv(n:Nat×Nat)(a b c:Int)(d e f:O)(g h i j:Int)(k l:O):=cX m R A0 [cP n,.agg [.i a,.i b,.i c,.s d,.s e,.s f],.agg [.i g,.i h,.i i,.i j,.s k,.s l]] Tryz.func174
def Je(a:O)(n:Int):=cX m R ⟨[(2,[(5,.I)])],[],[]⟩ [cS a,cI n] Tryz.func175
def tX(a:Nat×Nat)(r w:Int):=cX m R A0 [cP a,cI r,cI w] Tryz.func176
def Jr(c a b:Int):=cX m R A0 [cI c,cI a,cI b] Tryz.func177
def rP(n:Nat×Nat)(a b c:Int)(d e f:O)(g h i j:Int)(k l:O)(jQ:Int):=cX m R ⟨[],[(5,[(8,.I)])],[(5,[75,74])]⟩ [cP n,.agg [.i a,.i b,.i c,.s d,.s e,.s f],.agg [.i g,.i h,.i i,.i j,.s k,.s l],cI jQ] Tryz.func178
def BU(aT:O):=cX m R ⟨[(3,[(3,.I),(4,.I)])],[],[]⟩ [cS aT] Tryz.func179
def uX(n:Nat×Nat)(a b c:Int)(d e f:O)(g h i j:Int)(k l:O):=cX m R ⟨[],[(10,[(6,.I),(7,.S)])],[(10,[128,127])]⟩ [cP n,.agg [.i a,.i b,.i c,.s d,.s e,.s f],.agg [.i g,.i h,.i i,.i j,.s k,.s l]] Tryz.func180
def uY(g:Nat×Nat)(a b c:Int)(d e f:O)(w:Int):=cX m R A0 [cP g,.agg [.i a,.i b,.i c,.s d,.s e,.s f],cI w] Tryz.func181
def uZ(a:Nat×Nat)(cv:O):=cX m R ⟨[(1,[(4,.I)])],[],[]⟩ [cP a,cS cv] Tryz.func182
def oQ(b:Nat×Nat)(a:Int):=cX m R A0 [cP b,cI a] Tryz.func183
def Aj(h cv:O):=cX m R ⟨[(2,[(5,.S)])],[],[]⟩ [cS h,cS cv] Tryz.func184
end
end Go.Proofs.YtgnjacfobdjeeaaGreat
