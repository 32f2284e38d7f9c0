/- Part of a proof, joined by a program. -/
import Derived.Test.YtakpkjhmbbfniaaGreatU02
set_option linter.unusedVariables false
set_option linter.unusedSimpArgs false
set_option linter.defProp false
set_option linter.constructorNameAsVariable false
set_option maxHeartbeats 8000000
set_option maxRecDepth 100000
namespace Go.Proofs.YtakpkjhmbbfniaaGreat
open Go.Vc
section
variable{m:I}{R:Value->I->Prop}
def DP(a b c:Int)(d e:O):=cT m R A0 [.agg [.i a,.i b,.i c,.s d,.s e]] Tryz.func165
def Ap(a:O):=cT m R ⟨[(5,[(3,.S),(4,.S),(6,.I)]),(8,[(3,.S),(7,.I)]),(11,[(4,.S),(7,.I)])],[],[]⟩ [cS a] Tryz.func166
def Cd(a:O)(b x:Int)(aI:O)(c:Int):=cT m R ⟨[(8,[(10,.S),(11,.S),(12,.I)])],[],[(8,[96,92])]⟩ [.agg [.s a,.i b],cI x,cS aI,cI c] Tryz.func167
def An(b c:O)(d e f:Int)(g h:O)(a:Int)(ju:O):=cT m R A0 [.agg [.s b,.s c],.agg [.i d,.i e,.i f,.s g,.s h],cI a,cS ju] Tryz.func168
def pV(a:Nat×Nat)(dg:O):=cT m R ⟨[(2,[(5,.I)]),(6,[(6,.I),(7,.I)])],[],[]⟩ [cP a,cS dg] Tryz.func169
def wz(dg:O):=cT m R ⟨[(3,[(3,.S),(4,.I)])],[],[]⟩ [cS dg] Tryz.func170
def Ao(a b:O):=cT m R ⟨[(4,[(5,.I)])],[],[]⟩ [cS a,cS b] Tryz.func171
def Cx(a b c:Int)(d e f av:O):=cT m R ⟨[(3,[(5,.S),(6,.I)])],[],[(3,[28])]⟩ [.agg [.i a,.i b,.i c,.s d,.s e,.s f],cS av] Tryz.func172
def Ff(n:Int):=cT m R A0 [cI n] Tryz.func173
def xZ(h:O):=cT m R ⟨[(2,[(3,.I)])],[],[]⟩ [cS h] Tryz.func174
def FH(h:O)(a lA:Int)(aI:O):=cT m R A0 [cS h,cI a,cI lA,cS aI] Tryz.func175
def sC(a:Nat×Nat)(w:Int):=cT m R A0 [cP a,cI w] Tryz.func176
def HA(h:O):=cT m R ⟨[(2,[(3,.I)])],[],[]⟩ [cS h] Tryz.func177
def pH(g:Nat×Nat)(a b c d:Int)(e f dg:O):=cT m R ⟨[(3,[(7,.S),(8,.I)])],[],[(3,[42])]⟩ [cP g,.agg [.i a,.i b,.i c,.i d,.s e,.s f],cS dg] Tryz.func178
def wy(d e:O)(a b:Int)(c GK:O)(f:Int):=cT m R A0 [.agg [.s d,.s e],.agg [.i a,.i b,.s c],cS GK,cI f] Tryz.func179
def Jt(a:O)(aR:Int):=cT m R A0 [cS a,cI aR] Tryz.func180
def Dz(r:Nat×Nat)(a b:O)(f:Int):=cT m R ⟨[],[(7,[(34,.T)]),(9,[(51,.T)]),(11,[(77,.T)]),(15,[])],[(7,[131,127,125]),(9,[131,127,125]),(11,[131,127,125]),(15,[127,125])]⟩ [cP r,.agg [.s a,.s b],cI f] Tryz.func181
def Az(a b cV:O):=cT m R ⟨[(3,[(6,.I)])],[],[(3,[49,47])]⟩ [.agg [.s a,.s b],cS cV] Tryz.func182
end
section
variable{m:I}{R:Value->I->Prop}
def wg(a b:O):=cT m R ⟨[(3,[(3,.S),(4,.I)])],[],[(3,[32])]⟩ [.agg [.s a,.s b]] Tryz.func183
def Ab(a b:O)(f:Int):=cT m R ⟨[(3,[(5,.S),(6,.I)])],[],[(3,[52])]⟩ [.agg [.s a,.s b],cI f] Tryz.func184
def Ea(a:O)(b n:Int):=cT m R A0 [.agg [.s a,.i b],cI n] Tryz.func185
def wi(d e g b:O)(c:Int)(f a:O):=cT m R ⟨[(5,[(11,.S),(12,.S),(13,.S),(14,.I)]),(17,[(13,.S),(20,.I)])],[],[(5,[159,156,154]),(17,[164,159,156,154])]⟩ [.agg [.s d,.s e],cS g,.agg [.s b,.i c],cS f,cS a] Tryz.func186
def xX(b:Int)(a:O):=cT m R ⟨[(3,[(5,.S),(6,.I)])],[],[]⟩ [cI b,cS a] Tryz.func187
def Av(a b h:O)(c d e:Int)(f g:O):=cT m R ⟨[],[(3,[]),(30,[(151,.T)])],[(3,[188,186]),(30,[188,186])]⟩ [.agg [.s a,.s b],cS h,.agg [.i c,.i d,.i e,.s f,.s g]] Tryz.func188
def se(a b h:O)(c d e:Int)(f g:O):=cT m R ⟨[(3,[(7,.S),(8,.I)])],[],[(3,[36,34])]⟩ [.agg [.s a,.s b],cS h,.agg [.i c,.i d,.i e,.s f,.s g]] Tryz.func189
def Ad(a b h:O)(c d e:Int)(f g:O):=cT m R ⟨[(4,[(7,.S),(9,.I)])],[(9,[(10,.S)])],[(4,[78,77,75]),(9,[78,77,75])]⟩ [.agg [.s a,.s b],cS h,.agg [.i c,.i d,.i e,.s f,.s g]] Tryz.func190
def rH(a b:O):=cT m R ⟨[(4,[(3,.I)])],[],[(4,[36])]⟩ [.agg [.s a,.s b]] Tryz.func191
def Cn(a:O)(b:Int):=cT m R A0 [.agg [.s a,.i b]] Tryz.func192
def xO(c d e a:O)(b:Int):=cT m R ⟨[(3,[(7,.S),(8,.I)])],[],[(3,[57,55])]⟩ [.agg [.s c,.s d],cS e,.agg [.s a,.i b]] Tryz.func193
def va(l:Nat×Nat)(t aV a:Int):=cT m R A0 [cP l,cI t,cI aV,cI a] Tryz.func194
def vf(l:Nat×Nat)(v:Int):=cT m R A0 [cP l,cI v] Tryz.func195
def vd(l:Nat×Nat)(a b:O)(c d e:Int)(f g:O):=cT m R ⟨[(6,[(9,.I)])],[(4,[])],[(4,[110,109]),(6,[110,109])]⟩ [cP l,.agg [.s a,.s b],.agg [.i c,.i d,.i e,.s f,.s g]] Tryz.func196
def tn(l:Nat×Nat)(a b:O)(c d e:Int)(f g:O):=cT m R ⟨[(7,[(9,.I)])],[(3,[])],[(3,[93,92]),(7,[93,92])]⟩ [cP l,.agg [.s a,.s b],.agg [.i c,.i d,.i e,.s f,.s g]] Tryz.func197
def rB(l:Nat×Nat)(a b:O)(c d e:Int)(f g:O):=cT m R ⟨[(2,[(7,.I)]),(7,[(8,.I)])],[],[(2,[84,83]),(7,[84,83])]⟩ [cP l,.agg [.s a,.s b],.agg [.i c,.i d,.i e,.s f,.s g]] Tryz.func198
def Eh(a:O):=cT m R ⟨[(3,[(3,.S),(4,.I)])],[],[]⟩ [cS a] Tryz.func199
def Fw(a:O)(v:Int):=cT m R ⟨[(3,[(5,.I),(6,.I)])],[],[]⟩ [cS a,cI v] Tryz.func200
end
section
variable{m:I}{R:Value->I->Prop}
def yG(a:O)(b:Int):=cT m R ⟨[(2,[(3,.I)])],[],[(2,[21])]⟩ [.agg [.s a,.i b]] Tryz.func201
def zH(a:O)(b c d:Int):=cT m R ⟨[(3,[(7,.S),(8,.I)])],[],[(3,[38])]⟩ [.agg [.s a,.i b],cI c,cI d] Tryz.func202
def ux(a:O)(n:Int):=cT m R ⟨[(4,[(5,.S),(6,.T),(7,.I)])],[],[]⟩ [cS a,cI n] Tryz.func203
def Am(a:O)(b x c:Int):=cT m R A0 [.agg [.s a,.i b],cI x,cI c] Tryz.func204
def wq(a:O)(b:Int):=cT m R ⟨[(2,[(3,.I)])],[],[(2,[22])]⟩ [.agg [.s a,.i b]] Tryz.func205
def D0(a:O)(b c d x:Int):=cT m R ⟨[(2,[(9,.I)])],[],[(2,[40])]⟩ [.agg [.s a,.i b],cI c,cI d,cI x] Tryz.func206
def DL(a:O)(n:Int):=cT m R ⟨[(4,[(5,.S),(6,.T),(7,.I)])],[],[]⟩ [cS a,cI n] Tryz.func207
def sj(l:Nat×Nat)(d e:O)(a b:Int)(c GK:O):=cT m R ⟨[(13,[(11,.S),(13,.I)]),(22,[(15,.S),(16,.I)])],[(18,[(14,.I)])],[(13,[154,153]),(18,[154,153]),(22,[154,153])]⟩ [cP l,.agg [.s d,.s e],.agg [.i a,.i b,.s c],cS GK] Tryz.func208
def Ch(a:O)(n:Int):=cT m R ⟨[(2,[(5,.I)])],[],[]⟩ [cS a,cI n] Tryz.func209
def BV(n:Int):=cT m R A0 [cI n] Tryz.func210
def Af(r:Nat×Nat)(a b:O):=cT m R ⟨[],[(5,[])],[(5,[31,30])]⟩ [cP r,.agg [.s a,.s b]] Tryz.func211
def Ah(r:Nat×Nat)(b c:O)(f a:Int):=cT m R ⟨[(6,[(12,.S),(13,.I)])],[(19,[]),(22,[])],[(6,[144,141]),(19,[151,150,144,141]),(22,[150,144,141])]⟩ [cP r,.agg [.s b,.s c],cI f,cI a] Tryz.func212
def Ai(r:Nat×Nat)(a b:O)(f:Int):=Xm m R ⟨[(6,[(9,.S),(10,.S),(11,.I)])],[(13,[(14,.P)]),(15,[])],[(6,[102,100]),(13,[109,108,102,100]),(15,[109,108,102,100])]⟩ [cP r,.agg [.s a,.s b],cI f] Tryz.func213
def zT(r:Nat×Nat)(a b:O)(f:Int):=cT m R ⟨[(4,[(8,.S),(9,.I)])],[(10,[])],[(4,[81,79]),(10,[81,79])]⟩ [cP r,.agg [.s a,.s b],cI f] Tryz.func214
def BP(r:Nat×Nat)(b c d:O)(t a:Int):=cT m R ⟨[(2,[(4,.I)])],[],[(2,[44,40])]⟩ [cP r,.agg [.s b,.s c],cS d,cI t,cI a] Tryz.func215
def Cc(a b:Int)(c:O):=cT m R A0 [.agg [.i a,.i b,.s c]] Tryz.func216
def pE(a:O)(b:Int):=cT m R ⟨[(3,[(4,.I)])],[],[(3,[30,29])]⟩ [.agg [.s a,.i b]] Tryz.func217
def Aa(a b:O)(f:Int):=cT m R ⟨[(2,[(5,.I)])],[],[(2,[23])]⟩ [.agg [.s a,.s b],cI f] Tryz.func218
end
section
variable{m:I}{R:Value->I->Prop}
def tj(c d a:O)(b v:Int):=cT m R ⟨[(4,[(7,.I)]),(8,[(9,.I)]),(13,[(10,.I)])],[],[(4,[72,71]),(8,[76,72,71]),(13,[76,72,71])]⟩ [.agg [.s c,.s d],.agg [.s a,.i b],cI v] Tryz.func219
def BA(a:O)(b n c:Int)(d:O):=cT m R ⟨[(2,[(3,.S),(9,.I)])],[],[(2,[44])]⟩ [.agg [.s a,.i b],cI n,cI c,cS d] Tryz.func220
def FR(a b:O):=cT m R ⟨[(3,[(5,.S),(6,.I)])],[],[]⟩ [cS a,cS b] Tryz.func221
def wj(b c j:O)(e f g:Int)(h i d a:O):=cT m R ⟨[(3,[(11,.S),(12,.I)])],[],[(3,[50,48])]⟩ [.agg [.s b,.s c],cS j,.agg [.i e,.i f,.i g,.s h,.s i],cS d,cS a] Tryz.func222
def xW(b c j:O)(e f g:Int)(h i d a:O):=cT m R ⟨[(4,[(11,.S),(13,.I)])],[],[(4,[72,69,67])]⟩ [.agg [.s b,.s c],cS j,.agg [.i e,.i f,.i g,.s h,.s i],cS d,cS a] Tryz.func223
def yr(b c j:O)(e f g:Int)(h i d a:O):=cT m R ⟨[(5,[(11,.S),(12,.I)])],[],[(5,[62,60])]⟩ [.agg [.s b,.s c],cS j,.agg [.i e,.i f,.i g,.s h,.s i],cS d,cS a] Tryz.func224
def yu(b c:O)(e f g:Int)(h i d a:O):=cT m R ⟨[(3,[(9,.S),(10,.I)])],[],[(3,[55,54])]⟩ [.agg [.s b,.s c],.agg [.i e,.i f,.i g,.s h,.s i],cS d,cS a] Tryz.func225
def Cw(a:O)(n:Int):=cT m R ⟨[(3,[(5,.S),(6,.I)])],[],[]⟩ [cS a,cI n] Tryz.func226
def DK(a:Int):=cT m R A0 [cI a] Tryz.func227
def yP(f:O)(a b c:Int)(d e:O):=cT m R A0 [cS f,.agg [.i a,.i b,.i c,.s d,.s e]] Tryz.func228
def FQ(c a b:O):=cT m R ⟨[(4,[(7,.I)])],[],[]⟩ [cS c,cS a,cS b] Tryz.func229
def Ac(a b h:O)(c d e:Int)(f g:O):=cT m R ⟨[(9,[(9,.I),(10,.I)])],[(5,[(8,.I)])],[(5,[76,74]),(9,[76,74])]⟩ [.agg [.s a,.s b],cS h,.agg [.i c,.i d,.i e,.s f,.s g]] Tryz.func230
def vk(a b h:O)(c d e:Int)(f g:O):=cT m R A0 [.agg [.s a,.s b],cS h,.agg [.i c,.i d,.i e,.s f,.s g]] Tryz.func231
def BW(aY:O)(t:Int):=cT m R A0 [cS aY,cI t] Tryz.func232
def ue(a b h:O)(c d e:Int)(f g:O):=cT m R A0 [.agg [.s a,.s b],cS h,.agg [.i c,.i d,.i e,.s f,.s g]] Tryz.func233
def wm(a b h:O)(c d e:Int)(f g:O)(i:Int):=cT m R A0 [.agg [.s a,.s b],cS h,.agg [.i c,.i d,.i e,.s f,.s g],cI i] Tryz.func234
def DX(a b:O):=cT m R ⟨[(3,[(4,.I)])],[],[(3,[37,36])]⟩ [.agg [.s a,.s b]] Tryz.func235
def yJ(a:O)(b left:Int):=cT m R ⟨[(2,[(1,.I),(5,.I)]),(8,[(1,.I),(6,.I)])],[],[(2,[45]),(8,[45])]⟩ [.agg [.s a,.i b],cI left] Tryz.func236
end
end Go.Proofs.YtakpkjhmbbfniaaGreat
