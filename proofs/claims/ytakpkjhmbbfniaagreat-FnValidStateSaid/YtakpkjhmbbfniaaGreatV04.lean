/- Part of a proof, joined by a program. -/
import Derived.Test.YtakpkjhmbbfniaaGreatV02
set_option linter.unusedVariables false
set_option linter.unusedSimpArgs false
set_option linter.defProp false
set_option maxHeartbeats 8000000
set_option maxRecDepth 100000
namespace Go.Proofs.YtakpkjhmbbfniaaGreat
open Go.Vc
section
set_option linter.unusedVariables false
set_option linter.defProp false
variable{m:ah}{R:Value->ah->Prop}
def tR(ik il qC:Sl)(nF m0:Int):=bV m R ⟨[(3,[(2,.I),(8,.I)]),(9,[(10,.S),(12,.I)])],[],[(3,[113,111,110]),(9,[116,113,111,110])]⟩ [.agg [.s ik,.s il],.agg [.s qC,.i nF],.c (.i m0)] Tryz.func129
def wL(ik il qC:Sl)(nF:Int)(ic:Sl):=bV m R ⟨[(3,[(8,.I)]),(8,[(10,.S),(11,.I)])],[],[(3,[67,65,64]),(8,[70,67,65,64])]⟩ [.agg [.s ik,.s il],.agg [.s qC,.i nF],.c (.s ic)] Tryz.func130
def yu(bP:Sl)(at0 Rz:Int):=bV m R ⟨[(1,[(1,.I),(2,.I)])],[],[]⟩ [.c (.s bP),.c (.i at0),.c (.i Rz)] Tryz.func131
def Av(aI:Sl)(at0:Int):=bV m R ⟨[(3,[(5,.I),(6,.I)])],[],[]⟩ [.c (.s aI),.c (.i at0)] Tryz.func132
def pS(op:Int):=bV m R ⟨[],[],[]⟩ [.c (.i op)] Tryz.func133
def Cp(iT iU:Sl)(Dt Du Dv Dw:Int)(Dx Dy:Sl)(k:Int):=bV m R ⟨[],[],[]⟩ [.agg [.s iT,.s iU],.agg [.i Dt,.i Du,.i Dv,.i Dw,.s Dx,.s Dy],.c (.i k)] Tryz.func134
def tS(list:Sl):=bV m R ⟨[(2,[(3,.I)])],[],[]⟩ [.c (.s list)] Tryz.func135
def wM(Fp Fq Fs:Int)(Ft Fu Fv:Sl)(Dt Du Dv Dw:Int)(Dx Dy:Sl):=bV m R ⟨[(2,[(5,.I)])],[],[(2,[26,25])]⟩ [.agg [.i Fp,.i Fq,.i Fs,.s Ft,.s Fu,.s Fv],.agg [.i Dt,.i Du,.i Dv,.i Dw,.s Dx,.s Dy]] Tryz.func136
def qe(m0:Nat×Nat)(Fp Fq Fs:Int)(Ft Fu Fv:Sl)(Dt Du Dv Dw:Int)(Dx Dy:Sl):=bV m R ⟨[],[],[]⟩ [.c (.p m0.1 m0.2),.agg [.i Fp,.i Fq,.i Fs,.s Ft,.s Fu,.s Fv],.agg [.i Dt,.i Du,.i Dv,.i Dw,.s Dx,.s Dy]] Tryz.func137
def qj(m0:Nat×Nat)(Fp Fq Fs:Int)(Ft Fu Fv:Sl)(Dt Du Dv Dw:Int)(Dx Dy:Sl):=bV m R ⟨[(2,[(7,.I)])],[],[(2,[51,50])]⟩ [.c (.p m0.1 m0.2),.agg [.i Fp,.i Fq,.i Fs,.s Ft,.s Fu,.s Fv],.agg [.i Dt,.i Du,.i Dv,.i Dw,.s Dx,.s Dy]] Tryz.func138
def ql(m0:Nat×Nat)(w:Int):=bV m R ⟨[],[],[]⟩ [.c (.p m0.1 m0.2),.c (.i w)] Tryz.func139
def rT(m0:Nat×Nat)(w:Int):=bV m R ⟨[],[],[]⟩ [.c (.p m0.1 m0.2),.c (.i w)] Tryz.func140
def qI(m0:Nat×Nat)(Fp Fq Fs:Int)(Ft Fu Fv:Sl)(Dt Du Dv Dw:Int)(Dx Dy:Sl):=bV m R ⟨[],[],[]⟩ [.c (.p m0.1 m0.2),.agg [.i Fp,.i Fq,.i Fs,.s Ft,.s Fu,.s Fv],.agg [.i Dt,.i Du,.i Dv,.i Dw,.s Dx,.s Dy]] Tryz.func141
def Iw(list:Sl)(n:Int):=bV m R ⟨[(2,[(5,.I)])],[],[]⟩ [.c (.s list),.c (.i n)] Tryz.func142
def rU(m0:Nat×Nat)(r w:Int):=bV m R ⟨[],[],[]⟩ [.c (.p m0.1 m0.2),.c (.i r),.c (.i w)] Tryz.func143
def Ix(op a b:Int):=bV m R ⟨[],[],[]⟩ [.c (.i op),.c (.i a),.c (.i b)] Tryz.func144
def pC(m0:Nat×Nat)(Fp Fq Fs:Int)(Ft Fu Fv:Sl)(Dt Du Dv Dw:Int)(Dx Dy:Sl)(jW:Int):=bV m R ⟨[],[(5,[(8,.I)])],[(5,[75,74])]⟩ [.c (.p m0.1 m0.2),.agg [.i Fp,.i Fq,.i Fs,.s Ft,.s Fu,.s Fv],.agg [.i Dt,.i Du,.i Dv,.i Dw,.s Dx,.s Dy],.c (.i jW)] Tryz.func145
def Aw(aI:Sl):=bV m R ⟨[(3,[(3,.I),(4,.I)])],[],[]⟩ [.c (.s aI)] Tryz.func146
end
end Go.Proofs.YtakpkjhmbbfniaaGreat
