/- Part of a proof, joined by a program. -/
import Derived.Test.YtgnjacfobdjeeaaGreatW02
set_option linter.unusedVariables false
set_option linter.unusedSimpArgs false
set_option linter.defProp false
set_option linter.constructorNameAsVariable false
set_option maxHeartbeats 8000000
set_option maxRecDepth 100000
namespace Go.Proofs.YtgnjacfobdjeeaaGreat
open Go.Vc
section
variable{m:I}{R:Value->I->Prop}
def sI(n:Nat×Nat)(a b c:Int)(d e f:O)(g h i j:Int)(k l:O):=cX m R ⟨[(4,[(8,.I)])],[],[(4,[111,110])]⟩ [cP n,.agg [.i a,.i b,.i c,.s d,.s e,.s f],.agg [.i g,.i h,.i i,.i j,.s k,.s l]] Tryz.func185
def tW(a:Nat×Nat)(r w:Int):=cX m R A0 [cP a,cI r,cI w] Tryz.func186
def Cb(aT:O)(a:Int):=cX m R ⟨[(3,[(5,.I),(6,.I)])],[],[]⟩ [cS aT,cI a] Tryz.func187
def Ae(aT:O):=cX m R ⟨[(3,[(3,.S),(4,.I)]),(7,[(5,.S),(6,.I)])],[],[]⟩ [cS aT] Tryz.func188
def xl(first a:Int):=cX m R ⟨[(3,[(5,.S),(6,.I)])],[],[]⟩ [cI first,cI a] Tryz.func189
def uU(e:Nat×Nat)(c d a:O)(b:Int)(cons first:O):=cX m R ⟨[(2,[(3,.S),(4,.S),(10,.I)])],[(17,[])],[(2,[104,103]),(17,[108,104,103])]⟩ [cP e,.agg [.s c,.s d],.agg [.s a,.i b],cS cons,cS first] Tryz.func190
def wY(e:Nat×Nat)(a b c d:Int)(f g:O):=cX m R A0 [cP e,.agg [.i a,.i b,.i c,.i d,.s f,.s g]] Tryz.func191
def FX(cL:O)(a:Int):=cX m R ⟨[(3,[(5,.I),(6,.I)]),(7,[(5,.I),(7,.I)])],[],[]⟩ [cS cL,cI a] Tryz.func192
def wW(r:Nat×Nat):=cX m R A0 [cP r] Tryz.func193
def Jc(r:Nat×Nat)(a b:O):=cX m R ⟨[(9,[(10,.S),(11,.I)])],[],[(9,[108,106,105])]⟩ [cP r,.agg [.s a,.s b]] Tryz.func194
def Ab(a b:O):=cX m R ⟨[(3,[(4,.I)])],[],[(3,[38,37])]⟩ [.agg [.s a,.s b]] Tryz.func195
def xw(a b:O):=cX m R ⟨[(3,[(4,.I)])],[],[(3,[40,39])]⟩ [.agg [.s a,.s b]] Tryz.func196
def FZ(a b:O):=cX m R ⟨[(3,[(4,.I)])],[],[(3,[40,39])]⟩ [.agg [.s a,.s b]] Tryz.func197
def CC(cL:O):=cX m R ⟨[(3,[(3,.S),(4,.I)])],[],[]⟩ [cS cL] Tryz.func198
def rj(a b c d:Int)(e f:O):=cX m R A0 [.agg [.i a,.i b,.i c,.i d,.s e,.s f]] Tryz.func199
def Al(r:Nat×Nat):=cX m R A0 [cP r] Tryz.func200
def KM(aL:O):=cX m R A0 [cS aL] Tryz.func201
def GO(aT:O)(c:Int):=cX m R ⟨[(2,[(1,.I),(10,.I)])],[],[(2,[43])]⟩ [cS aT,cI c] Tryz.func202
end
section
variable{m:I}{R:Value->I->Prop}
def lR(s:O)(f:Fn×Array Value×Array Value):=cX m R ⟨[(2,[(8,.I)])],[],[]⟩ [cS s,.c (.fv f)] Tryz.func203
def vB(a b:Int)(c:O):=cX m R A0 [.agg [.i a,.i b,.s c]] Tryz.func204
def DT(a:Int):=cX m R A0 [cI a] Tryz.func205
def rQ(a:Nat×Nat)(cv:O):=cX m R ⟨[(2,[(5,.I)]),(6,[(6,.I),(7,.I)])],[],[]⟩ [cP a,cS cv] Tryz.func206
def yL(cv:O):=cX m R ⟨[(3,[(3,.S),(4,.I)])],[],[]⟩ [cS cv] Tryz.func207
def Cu(a b:O):=cX m R ⟨[(4,[(5,.I)])],[],[]⟩ [cS a,cS b] Tryz.func208
def Ez(a b c:Int)(d e f u:O):=cX m R ⟨[(3,[(5,.S),(6,.I)])],[],[(3,[28])]⟩ [.agg [.i a,.i b,.i c,.s d,.s e,.s f],cS u] Tryz.func209
def Hs(n:Int):=cX m R A0 [cI n] Tryz.func210
def Ak(h:O):=cX m R ⟨[(2,[(3,.I)])],[],[]⟩ [cS h] Tryz.func211
def HO(h:O)(a jQ:Int)(aL:O):=cX m R A0 [cS h,cI a,cI jQ,cS aL] Tryz.func212
def uy(a iV:O):=cX m R A0 [cS a,cS iV] Tryz.func213
def tY(a:Nat×Nat)(w:Int):=cX m R A0 [cP a,cI w] Tryz.func214
def Jz(h:O):=cX m R ⟨[(2,[(3,.I)])],[],[]⟩ [cS h] Tryz.func215
def rm(g:Nat×Nat)(a b c d:Int)(e f cv:O):=cX m R ⟨[(3,[(7,.S),(8,.I)])],[],[(3,[42])]⟩ [cP g,.agg [.i a,.i b,.i c,.i d,.s e,.s f],cS cv] Tryz.func216
def tS(e:Nat×Nat)(a b:O)(c d f:Int)(g h cons first:O):=cX m R ⟨[(17,[(16,.S),(17,.S),(18,.I)]),(22,[(20,.I)]),(33,[(23,.I)])],[],[(17,[215,214]),(22,[215,214]),(33,[215,214])]⟩ [cP e,.agg [.s a,.s b],.agg [.i c,.i d,.i f,.s g,.s h],cS cons,cS first] Tryz.func217
def Cf(a:O)(first:Int):=cX m R ⟨[(3,[(5,.S),(6,.I)])],[],[]⟩ [cS a,cI first] Tryz.func218
def AH(r:Nat×Nat):=cX m R A0 [cP r] Tryz.func219
def DS(a b:O):=cX m R ⟨[(3,[(4,.I)])],[],[(3,[38,37])]⟩ [.agg [.s a,.s b]] Tryz.func220
end
end Go.Proofs.YtgnjacfobdjeeaaGreat
