/- Part of a proof. -/
import Derived.Test.YtkicoahejfbjhaaGreatSA02
set_option linter.all false
set_option maxHeartbeats 8000000
set_option maxRecDepth 100000
namespace Go.Proofs.YtkicoahejfbjhaaGreat
open Go.Vc
section
open Tryz
variable{m:E}{R:Value->E->Prop}
variable{a b c d e f g h p q r u v w x y:O}{i j k l n o s t z A B C D F G H:Int}
def ua(p:Nat×Nat):=cY m R ⟨[(17,[(16,.S),(17,.S),(18,.I)]),(22,[(20,.I)]),(33,[(23,.I)])],[],[(17,[215,214]),(22,[215,214]),(33,[215,214])]⟩ [p,.agg [a,b],.agg [i,j,k,c,d],e,f] func221
def CG(a:O):=cY m R ⟨[(3,[(5,.S),(6,.I)])],[],[]⟩ [a,i] func222
def Bb(p:Nat×Nat):=cY m R A0 [p] func223
def Ep(a:O):=cY m R ⟨[(3,[(4,.I)])],[],[(3,[38,37])]⟩ [.agg [a,b]] func224
def JT(a:O):=cY m R ⟨[(3,[(4,.I)])],[],[(3,[41,40])]⟩ [.agg [a,b]] func225
def xk(a:O):=cY m R ⟨[(5,[(9,.I)])],[],[(5,[67])]⟩ [.agg [a,b],i,j] func226
def wi(p:Nat×Nat):=cY m R ⟨[(1,[(1,.I)])],[],[]⟩ [p,i] func227
def EI(a:O):=cY m R A0 [.agg [a,i],j,.agg [k,l,n,b,c]] func228
def Cz(i:Int):=cY m R A0 [i,j] func229
def xI(a:O):=cY m R A0 [.agg [a,b],i,.agg [c,j]] func230
def De(a:O):=cY m R A0 [.agg [a,b,i,c,j],.agg [d,k]] func231
def wZ(a:O):=cY m R ⟨[(4,[(3,.S),(4,.S),(5,.I)]),(13,[(7,.S),(8,.I)])],[],[(4,[74,73]),(13,[78,74,73])]⟩ [.agg [a,i]] func232
def wz(a:O):=cY m R ⟨[(3,[(2,.I),(8,.I)]),(9,[(10,.S),(12,.I)])],[],[(3,[113,111,110]),(9,[116,113,111,110])]⟩ [.agg [a,b],.agg [c,i],j] func233
def yT(a:O):=cY m R ⟨[(3,[(8,.I)]),(8,[(10,.S),(11,.I)])],[],[(3,[67,65,64]),(8,[70,67,65,64])]⟩ [.agg [a,b],.agg [c,i],d] func234
def Be(a:O):=cY m R ⟨[(1,[(1,.I),(2,.I)])],[],[]⟩ [a,i,j] func235
def xe(p:Nat×Nat):=cY m R A0 [p,i] func236
def zf(a:O):=cY m R A0 [a,i,j] func237
def A2(a:O):=cY m R ⟨[(3,[(4,.I)])],[(8,[(7,.P)])],[(3,[51,50]),(8,[54,51,50])]⟩ [.agg [a,b]] func238
end
end Go.Proofs.YtkicoahejfbjhaaGreat
