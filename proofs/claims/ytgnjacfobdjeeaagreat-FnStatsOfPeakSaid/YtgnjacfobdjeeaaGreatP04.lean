/- Part of a proof, joined by a program. -/
import Derived.Test.YtgnjacfobdjeeaaGreatP02
set_option linter.unusedVariables false
set_option linter.unusedSimpArgs false
set_option linter.defProp false
set_option linter.constructorNameAsVariable false
set_option maxHeartbeats 8000000
set_option maxRecDepth 100000
namespace Go.Proofs.YtgnjacfobdjeeaaGreat
open Go.Vc
section
variable{m:J}{R:Value->J->Prop}
def lD(s:O)(f:Fn×Array Value×Array Value):=cY m R ⟨[(2,[(8,.I)])],[],[]⟩ [cS s,.c (.fv f)] Tryz.func203
def vf(a b:Int)(c:O):=cY m R A0 [.agg [.i a,.i b,.s c]] Tryz.func204
def Dg(a:Int):=cY m R A0 [cI a] Tryz.func205
def qZ(a:Nat×Nat)(cy:O):=cY m R ⟨[(2,[(5,.I)]),(6,[(6,.I),(7,.I)])],[],[]⟩ [cP a,cS cy] Tryz.func206
def yh(cy:O):=cY m R ⟨[(3,[(3,.S),(4,.I)])],[],[]⟩ [cS cy] Tryz.func207
def BU(a b:O):=cY m R ⟨[(4,[(5,.I)])],[],[]⟩ [cS a,cS b] Tryz.func208
def DN(a b c:Int)(d e f ao:O):=cY m R ⟨[(3,[(5,.S),(6,.I)])],[],[(3,[28])]⟩ [.agg [.i a,.i b,.i c,.s d,.s e,.s f],cS ao] Tryz.func209
def Gs(n:Int):=cY m R A0 [cI n] Tryz.func210
def zK(h:O):=cY m R ⟨[(2,[(3,.I)])],[],[]⟩ [cS h] Tryz.func211
def GX(h:O)(a kd:Int)(aR:O):=cY m R A0 [cS h,cI a,cI kd,cS aR] Tryz.func212
def tW(a jB:O):=cY m R A0 [cS a,cS jB] Tryz.func213
def tG(a:Nat×Nat)(w:Int):=cY m R A0 [cP a,cI w] Tryz.func214
def IJ(h:O):=cY m R ⟨[(2,[(3,.I)])],[],[]⟩ [cS h] Tryz.func215
def qL(g:Nat×Nat)(a b c d:Int)(e f cy:O):=cY m R ⟨[(3,[(7,.S),(8,.I)])],[],[(3,[42])]⟩ [cP g,.agg [.i a,.i b,.i c,.i d,.s e,.s f],cS cy] Tryz.func216
def tA(e:Nat×Nat)(a b:O)(c d f:Int)(g h cons first:O):=cY m R ⟨[(17,[(16,.S),(17,.S),(18,.I)]),(22,[(20,.I)]),(33,[(23,.I)])],[],[(17,[215,214]),(22,[215,214]),(33,[215,214])]⟩ [cP e,.agg [.s a,.s b],.agg [.i c,.i d,.i f,.s g,.s h],cS cons,cS first] Tryz.func217
def BC(a:O)(first:Int):=cY m R ⟨[(3,[(5,.S),(6,.I)])],[],[]⟩ [cS a,cI first] Tryz.func218
def Ae(r:Nat×Nat):=cY m R A0 [cP r] Tryz.func219
def Df(a b:O):=cY m R ⟨[(3,[(4,.I)])],[],[(3,[38,37])]⟩ [.agg [.s a,.s b]] Tryz.func220
end
end Go.Proofs.YtgnjacfobdjeeaaGreat
