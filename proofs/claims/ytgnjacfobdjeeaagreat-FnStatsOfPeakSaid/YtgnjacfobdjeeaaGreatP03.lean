/- Part of a proof, joined by a program. -/
import Derived.Test.YtgnjacfobdjeeaaGreatP02
set_option linter.unusedVariables false
set_option linter.unusedSimpArgs false
set_option linter.defProp false
set_option linter.constructorNameAsVariable false
set_option maxHeartbeats 8000000
set_option maxRecDepth 100000
namespace Go.Proofs.YtgnjacfobdjeeaaGreat
open Go.Vc
section
variable{m:J}{R:Value->J->Prop}
def yu(b c d e:O)(f g:Int)(h:O)(a:Int):=cY m R ⟨[(4,[(9,.I)])],[(10,[])],[(4,[241,238,237]),(10,[241,238,237])]⟩ [.agg [.s b,.s c],.agg [.s d,.s e,.i f,.i g,.s h],cI a] Tryz.func113
def Dj(c d:O)(a b:Int)(cy aQ:O):=cY m R A0 [.agg [.s c,.s d],cI a,cI b,cS cy,cS aQ] Tryz.func114
def rW(r:Nat×Nat)(a:O):=cY m R A0 [cP r,cS a] Tryz.func115
def zR(w:Int):=cY m R A0 [cI w] Tryz.func121
def Ev(h:O)(w:Int):=cY m R A0 [cS h,cI w] Tryz.func123
def pR(s:O)(f:Fn×Array Value×Array Value):=cY m R ⟨[(2,[(8,.I)])],[],[]⟩ [cS s,.c (.fv f)] Tryz.func124
def EV(a:Int):=cY m R A0 [cI a] Tryz.func125
def BP(a b c:Int)(d e f bS:O):=cY m R ⟨[(3,[(6,.I)])],[],[(3,[42])]⟩ [.agg [.i a,.i b,.i c,.s d,.s e,.s f],cS bS] Tryz.func126
def DF(g h:O)(a b c d:Int)(e f:O):=cY m R ⟨[(4,[(5,.S),(6,.I)])],[(3,[(30,.T)])],[(3,[70,69]),(4,[70,69])]⟩ [.agg [.s g,.s h],.agg [.i a,.i b,.i c,.i d,.s e,.s f]] Tryz.func127
def tD(n:Nat×Nat)(a b c:Int)(d e f:O)(g h i j:Int)(k l aQ:O):=cY m R ⟨[],[(3,[])],[(3,[226,225])]⟩ [cP n,.agg [.i a,.i b,.i c,.s d,.s e,.s f],.agg [.i g,.i h,.i i,.i j,.s k,.s l],cS aQ] Tryz.func128
def sU(n:Nat×Nat)(a b c:Int)(d e f:O)(g h i j:Int)(k l:O):=cY m R A0 [cP n,.agg [.i a,.i b,.i c,.s d,.s e,.s f],.agg [.i g,.i h,.i i,.i j,.s k,.s l]] Tryz.func129
def zW(h:O):=cY m R ⟨[(3,[(3,.I),(4,.I)])],[],[]⟩ [cS h] Tryz.func130
end
section
variable{m:J}{R:Value->J->Prop}
def uB(h:O)(a:Int):=cY m R ⟨[(3,[(5,.I),(6,.I)])],[],[]⟩ [cS h,cI a] Tryz.func131
def Di(a b:O):=cY m R ⟨[(3,[(4,.I)])],[],[(3,[75,74])]⟩ [.agg [.s a,.s b]] Tryz.func133
def vz(r:Nat×Nat):=cY m R ⟨[],[(4,[]),(6,[]),(9,[]),(11,[])],[(4,[37]),(6,[37]),(9,[37]),(11,[37])]⟩ [cP r] Tryz.func134
def Al(a b:O):=cY m R ⟨[(3,[(4,.I)])],[],[(3,[45,44])]⟩ [.agg [.s a,.s b]] Tryz.func135
def zE(a b:O):=cY m R ⟨[(3,[(4,.I)]),(8,[(6,.S),(7,.I)])],[],[(3,[62,61]),(8,[65,62,61])]⟩ [.agg [.s a,.s b]] Tryz.func136
def zt(r:Nat×Nat)(a b c d:Int)(e f:O):=cY m R A0 [cP r,.agg [.i a,.i b,.i c,.i d,.s e,.s f]] Tryz.func137
def Bi(r:Nat×Nat):=cY m R A0 [cP r] Tryz.func138
def yo(r:Nat×Nat)(a b c d:Int)(e f:O):=cY m R A0 [cP r,.agg [.i a,.i b,.i c,.i d,.s e,.s f]] Tryz.func139
def xJ(aT:O):=cY m R ⟨[(4,[(14,.I)]),(9,[(56,.I)]),(15,[(76,.I)])],[(8,[])],[(8,[110]),(9,[110]),(15,[110])]⟩ [cS aT] Tryz.func140
def Bb(aT a:O):=cY m R ⟨[(2,[(9,.I)])],[],[]⟩ [cS aT,cS a] Tryz.func141
def Eu(aT:O)(t:Int):=cY m R A0 [cS aT,cI t] Tryz.func142
def Bd(aT:O)(c:Int):=cY m R A0 [cS aT,cI c] Tryz.func143
def qG(s:O)(v:Int):=cY m R A0 [cS s,cI v] Tryz.func144
def yW(n:Int):=cY m R A0 [cI n] Tryz.func145
def nt(e:Nat×Nat)(i:Int)(k:Int)(c:O)(m:J)(R:Value->J->Prop):Prop:=
 let j:J:=m.push (.cells (bC [.i i,.i k,.s c]) 47)
 qP m.size m.size (
 ((i==(1:Int))=true->
 R (vb true) j)/\
 ((i==(1:Int))=false->
 let v:J:=j.push (.map #[] 0)
 qP m.size m.size (
 ∃(l:Int->J->Prop)(μ0:Int->J->Nat),
 l (0:Int) v/\
 (∀(b:Int)(f:J),l b f->
 ((decide (b<(c.len:Int)))=true->
 (0:Int)<=b/\b<(c.len:Int)/\
 ∃t:Int,af f c.E (c.off+Int.toNat b*1)=some (vi t)/\
 ∃u:O,af f e.1 (e.2+3+5)=some (O.v u)/\
 aL cp 123 [O.v u,vi t] f λw g=>
 dR [m.size] f g/\
 ∃d:Int,∃p:Bool,w=.tuple #[vi d,vb p]/\
 (p=true->
 ∃r,Cr g j.size r/\
 ∃s,Cr g j.size s/\
 ∀a:J,Cr a j.size (HW s d (cR ((uv r d)+(1:Int))))->a.size=g.size->(∀n,n≠j.size->a[n]? =g[n]?)->
 dR [m.size] g a/\
 ∃h:O,af a e.1 (e.2+3+5)=some (O.v h)/\
 (0:Int)<=d/\d<(h.len:Int)/\
 ∃q:Int,af a h.E (h.off+Int.toNat d*3)=some (vi q)/\
 ∃o,Cr a j.size o/\
 af a h.E (h.off+Int.toNat d*3)=af a h.E (h.off+Int.toNat d*3)/\
 af a e.1 (e.2+3+5)=af a e.1 (e.2+3+5)/\
 ((decide ((cR (q+(uv o d)))>(999999:Int)))=true->
 R (vb false) a)/\
 ((decide ((cR (q+(uv o d)))>(999999:Int)))=false->
 HM (SV.box m.size 47 [.i i,.i k,.s c]) (SV.box m.size 47 [.i i,.i k,.s c]) (
 l (cR (b+(1:Int))) a/\μ0 (cR (b+(1:Int))) a<μ0 b f)))/\
 (p=false->
 HM (SV.box m.size 47 [.i i,.i k,.s c]) (SV.box m.size 47 [.i i,.i k,.s c]) (
 l (cR (b+(1:Int))) g/\μ0 (cR (b+(1:Int))) g<μ0 b f)))/\
 ((decide (b<(c.len:Int)))=false->
 R (vb true) f)))))
def rP(a:Nat×Nat)(b:Int)(d:Int)(e:O)(m:J)(R:Value->J->Prop)(f:nt a b d e m R):aL cp 146 [vp a.1 a.2,.agg #[vi b,vi d,O.v e]] m R:=
 pV (o:=⟨[(5,[(17,.I)])],[],[(5,[54])]⟩) (d:=51) (r:=[.tmp 4]) (a:=[.c (.p a.1 a.2),.agg [.i b,.i d,.s e]]) Kq VO VT Tryz.func146 (m:=FH Tryz.f146) (by kernel_rfl) (by kernel_rfl) (by kernel_rfl) (by kernel_rfl) aJ (by kernel_rfl) (Eq.mp (by kernel_rfl) f)
def sP(a b:O):=cY m R ⟨[(4,[(13,.I)])],[],[]⟩ [cS a,cS b] Tryz.func147
def xN(cy:O):=cY m R ⟨[(3,[(3,.S),(8,.I)])],[],[]⟩ [cS cy] Tryz.func148
end
section
variable{m:J}{R:Value->J->Prop}
def HR(c a b:Int):=cY m R A0 [cI c,cI a,cI b] Tryz.func149
def xK(h:Nat×Nat)(kd:Int)(aR:O):=cY m R A0 [cP h,cI kd,cS aR] Tryz.func150
def yY(h:Nat×Nat):=cY m R ⟨[(1,[(2,.I)])],[],[]⟩ [cP h] Tryz.func151
def An(aT:O)(a:Int):=cY m R ⟨[(6,[(6,.I)]),(12,[(7,.I)])],[],[(6,[105]),(12,[105])]⟩ [cS aT,cI a] Tryz.func152
def ID(a:Int):=cY m R A0 [cI a] Tryz.func153
def Dd(aT:O)(c:Int):=cY m R ⟨[(2,[(5,.I)])],[],[]⟩ [cS aT,cI c] Tryz.func154
def qH(aT:O)(c:Int):=cY m R A0 [cS aT,cI c] Tryz.func155
def BQ(b c:O)(bL a jB:Int):=cY m R A0 [.agg [.s b,.s c],cI bL,cI a,cI jB] Tryz.func156
def tT(aT:O)(t:Int):=cY m R ⟨[(5,[(5,.S),(6,.I)])],[],[]⟩ [cS aT,cI t] Tryz.func157
def yv(c:O)(d a b:Int):=cY m R ⟨[(4,[(9,.I)])],[],[]⟩ [cS c,cI d,cI a,cI b] Tryz.func158
def Hb(n:Int):=cY m R A0 [cI n] Tryz.func159
def C8(a:O):=cY m R ⟨[(2,[(3,.I)])],[],[]⟩ [cS a] Tryz.func161
def EW(h:O)(w:Int):=cY m R A0 [cS h,cI w] Tryz.func163
def ru(a:Int):=cY m R A0 [cI a] Tryz.func166
end
section
variable{m:J}{R:Value->J->Prop}
def Dr(g h:O)(a b c d:Int)(e f:O)(k:Int):=cY m R A0 [.agg [.s g,.s h],.agg [.i a,.i b,.i c,.i d,.s e,.s f],cI k] Tryz.func167
def vM(a:O):=cY m R ⟨[(2,[(3,.I)])],[],[]⟩ [cS a] Tryz.func168
def xS(a b c:Int)(d e f:O)(g h i j:Int)(k l:O):=cY m R ⟨[(2,[(5,.I)])],[],[(2,[26,25])]⟩ [.agg [.i a,.i b,.i c,.s d,.s e,.s f],.agg [.i g,.i h,.i i,.i j,.s k,.s l]] Tryz.func169
def rU(n:Nat×Nat)(a b c:Int)(d e f:O)(g h i j:Int)(k l:O):=cY m R A0 [cP n,.agg [.i a,.i b,.i c,.s d,.s e,.s f],.agg [.i g,.i h,.i i,.i j,.s k,.s l]] Tryz.func170
def rS(n:Nat×Nat)(a b c:Int)(d e f:O)(g h i j:Int)(k l:O):=cY m R ⟨[(2,[(7,.I)])],[],[(2,[51,50])]⟩ [cP n,.agg [.i a,.i b,.i c,.s d,.s e,.s f],.agg [.i g,.i h,.i i,.i j,.s k,.s l]] Tryz.func171
def rT(a:Nat×Nat)(w:Int):=cY m R A0 [cP a,cI w] Tryz.func172
def tC(a:Nat×Nat)(w:Int):=cY m R A0 [cP a,cI w] Tryz.func173
def sT(n:Nat×Nat)(a b c:Int)(d e f:O)(g h i j:Int)(k l:O):=cY m R A0 [cP n,.agg [.i a,.i b,.i c,.s d,.s e,.s f],.agg [.i g,.i h,.i i,.i j,.s k,.s l]] Tryz.func174
def Ik(a:O)(n:Int):=cY m R ⟨[(2,[(5,.I)])],[],[]⟩ [cS a,cI n] Tryz.func175
def tF(a:Nat×Nat)(r w:Int):=cY m R A0 [cP a,cI r,cI w] Tryz.func176
def Iz(c a b:Int):=cY m R A0 [cI c,cI a,cI b] Tryz.func177
def qY(n:Nat×Nat)(a b c:Int)(d e f:O)(g h i j:Int)(k l:O)(kd:Int):=cY m R ⟨[],[(5,[(8,.I)])],[(5,[75,74])]⟩ [cP n,.agg [.i a,.i b,.i c,.s d,.s e,.s f],.agg [.i g,.i h,.i i,.i j,.s k,.s l],cI kd] Tryz.func178
def Bq(aT:O):=cY m R ⟨[(3,[(3,.I),(4,.I)])],[],[]⟩ [cS aT] Tryz.func179
def uE(n:Nat×Nat)(a b c:Int)(d e f:O)(g h i j:Int)(k l:O):=cY m R ⟨[],[(10,[(6,.I),(7,.S)])],[(10,[128,127])]⟩ [cP n,.agg [.i a,.i b,.i c,.s d,.s e,.s f],.agg [.i g,.i h,.i i,.i j,.s k,.s l]] Tryz.func180
def uF(g:Nat×Nat)(a b c:Int)(d e f:O)(w:Int):=cY m R A0 [cP g,.agg [.i a,.i b,.i c,.s d,.s e,.s f],cI w] Tryz.func181
def uG(a:Nat×Nat)(cy:O):=cY m R ⟨[(1,[(4,.I)])],[],[]⟩ [cP a,cS cy] Tryz.func182
def oB(b:Nat×Nat)(a:Int):=cY m R A0 [cP b,cI a] Tryz.func183
def zJ(h cy:O):=cY m R ⟨[(2,[(5,.S)])],[],[]⟩ [cS h,cS cy] Tryz.func184
end
section
variable{m:J}{R:Value->J->Prop}
def rV(n:Nat×Nat)(a b c:Int)(d e f:O)(g h i j:Int)(k l:O):=cY m R ⟨[(4,[(8,.I)])],[],[(4,[111,110])]⟩ [cP n,.agg [.i a,.i b,.i c,.s d,.s e,.s f],.agg [.i g,.i h,.i i,.i j,.s k,.s l]] Tryz.func185
def tE(a:Nat×Nat)(r w:Int):=cY m R A0 [cP a,cI r,cI w] Tryz.func186
def By(aT:O)(a:Int):=cY m R ⟨[(3,[(5,.I),(6,.I)])],[],[]⟩ [cS aT,cI a] Tryz.func187
def zD(aT:O):=cY m R ⟨[(3,[(3,.S),(4,.I)]),(7,[(5,.S),(6,.I)])],[],[]⟩ [cS aT] Tryz.func188
def wO(first a:Int):=cY m R ⟨[(3,[(5,.S),(6,.I)])],[],[]⟩ [cI first,cI a] Tryz.func189
def uA(e:Nat×Nat)(c d a:O)(b:Int)(cons first:O):=cY m R ⟨[(2,[(3,.S),(4,.S),(10,.I)])],[(17,[])],[(2,[104,103]),(17,[108,104,103])]⟩ [cP e,.agg [.s c,.s d],.agg [.s a,.i b],cS cons,cS first] Tryz.func190
def wH(e:Nat×Nat)(a b c d:Int)(f g:O):=cY m R A0 [cP e,.agg [.i a,.i b,.i c,.i d,.s f,.s g]] Tryz.func191
def Fa(cJ:O)(a:Int):=cY m R ⟨[(3,[(5,.I),(6,.I)]),(7,[(5,.I),(7,.I)])],[],[]⟩ [cS cJ,cI a] Tryz.func192
def wF(r:Nat×Nat):=cY m R A0 [cP r] Tryz.func193
def Ii(r:Nat×Nat)(a b:O):=cY m R ⟨[(9,[(10,.S),(11,.I)])],[],[(9,[108,106,105])]⟩ [cP r,.agg [.s a,.s b]] Tryz.func194
def zA(a b:O):=cY m R ⟨[(3,[(4,.I)])],[],[(3,[38,37])]⟩ [.agg [.s a,.s b]] Tryz.func195
def wT(a b:O):=cY m R ⟨[(3,[(4,.I)])],[],[(3,[40,39])]⟩ [.agg [.s a,.s b]] Tryz.func196
def Fc(a b:O):=cY m R ⟨[(3,[(4,.I)])],[],[(3,[40,39])]⟩ [.agg [.s a,.s b]] Tryz.func197
def Cc(cJ:O):=cY m R ⟨[(3,[(3,.S),(4,.I)])],[],[]⟩ [cS cJ] Tryz.func198
def qJ(a b c d:Int)(e f:O):=cY m R A0 [.agg [.i a,.i b,.i c,.i d,.s e,.s f]] Tryz.func199
def zL(r:Nat×Nat):=cY m R A0 [cP r] Tryz.func200
def J4(aR:O):=cY m R A0 [cS aR] Tryz.func201
def FQ(aT:O)(c:Int):=cY m R ⟨[(2,[(1,.I),(10,.I)])],[],[(2,[43])]⟩ [cS aT,cI c] Tryz.func202
end
end Go.Proofs.YtgnjacfobdjeeaaGreat
