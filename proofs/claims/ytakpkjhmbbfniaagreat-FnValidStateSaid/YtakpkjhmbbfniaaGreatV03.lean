/- Part of a proof, joined by a program. -/
import Derived.Test.YtakpkjhmbbfniaaGreatV02
set_option linter.unusedVariables false
set_option linter.unusedSimpArgs false
set_option linter.defProp false
set_option maxHeartbeats 8000000
set_option maxRecDepth 100000
namespace Go.Proofs.YtakpkjhmbbfniaaGreat
open Go.Vc
section
set_option linter.unusedVariables false
set_option linter.defProp false
variable{m:ah}{R:Value->ah->Prop}
def xX(h:Sl):=bV m R ⟨[(4,[(4,.I),(5,.T)]),(7,[(4,.I),(5,.T),(6,.I)])],[],[]⟩ [.c (.s h)] Tryz.func57
def xY(h:Sl)(Fp Fq Fs:Int)(Ft Fu Fv:Sl):=bV m R ⟨[(2,[(5,.I)])],[],[(2,[53])]⟩ [.c (.s h),.agg [.i Fp,.i Fq,.i Fs,.s Ft,.s Fu,.s Fv]] Tryz.func58
def xZ(w:Int):=bV m R ⟨[],[],[]⟩ [.c (.i w)] Tryz.func59
def Ag(jv jw jY jZ:Int)(j7 OT OU:Sl):=bV m R ⟨[(3,[(4,.I)]),(7,[(6,.I)])],[],[(3,[61]),(7,[65,61])]⟩ [.agg [.i jv,.i jw,.i jY,.i jZ,.s j7,.s OT,.s OU]] Tryz.func60
def Ch(ik il:Sl):=bV m R ⟨[(3,[(4,.I)])],[],[(3,[75,74])]⟩ [.agg [.s ik,.s il]] Tryz.func61
def tO(r:Nat×Nat):=bV m R ⟨[],[(4,[]),(6,[]),(9,[]),(11,[])],[(4,[37]),(6,[37]),(9,[37]),(11,[37])]⟩ [.c (.p r.1 r.2)] Tryz.func62
def yd(iT iU:Sl):=bV m R ⟨[(3,[(4,.I)])],[],[(3,[45,44])]⟩ [.agg [.s iT,.s iU]] Tryz.func63
def ye(iT iU:Sl):=bV m R ⟨[(3,[(4,.I)]),(8,[(6,.S),(7,.I)])],[],[(3,[62,61]),(8,[65,62,61])]⟩ [.agg [.s iT,.s iU]] Tryz.func64
def yf(r:Nat×Nat)(Dt Du Dv Dw:Int)(Dx Dy:Sl):=bV m R ⟨[],[],[]⟩ [.c (.p r.1 r.2),.agg [.i Dt,.i Du,.i Dv,.i Dw,.s Dx,.s Dy]] Tryz.func65
def Ah(r:Nat×Nat):=bV m R ⟨[],[],[]⟩ [.c (.p r.1 r.2)] Tryz.func66
def wG(r:Nat×Nat)(Dt Du Dv Dw:Int)(Dx Dy:Sl):=bV m R ⟨[],[],[]⟩ [.c (.p r.1 r.2),.agg [.i Dt,.i Du,.i Dv,.i Dw,.s Dx,.s Dy]] Tryz.func67
def wH(aI:Sl):=bV m R ⟨[(4,[(3,.I)])],[],[]⟩ [.c (.s aI)] Tryz.func68
def Ai(aI list:Sl):=bV m R ⟨[(2,[(5,.I)])],[],[]⟩ [.c (.s aI),.c (.s list)] Tryz.func69
def yg(params bX:Sl):=bV m R ⟨[(2,[(5,.I)])],[],[]⟩ [.c (.s params),.c (.s bX)] Tryz.func70
def wI(iT iU sg sj:Sl)(p_2 p_3:Int)(p_4:Sl)(at0:Int):=bV m R ⟨[(4,[(9,.I)])],[(10,[])],[(4,[241,238,237]),(10,[241,238,237])]⟩ [.agg [.s iT,.s iU],.agg [.s sg,.s sj,.i p_2,.i p_3,.s p_4],.c (.i at0)] Tryz.func71
def kZ(list:Sl):=bV m R ⟨[],[],[]⟩ [.c (.s list)] Tryz.func72
def Ci(iT iU:Sl)(at0 dst:Int)(cp aL:Sl):=bV m R ⟨[],[],[]⟩ [.agg [.s iT,.s iU],.c (.i at0),.c (.i dst),.c (.s cp),.c (.s aL)] Tryz.func73
def tP(m0:Nat×Nat):=bV m R ⟨[],[],[]⟩ [.c (.p m0.1 m0.2)] Tryz.func74
end
section
set_option linter.unusedVariables false
set_option linter.defProp false
variable{m:ah}{R:Value->ah->Prop}
def Aj(h:Sl):=bV m R ⟨[(3,[(3,.S),(4,.I)])],[],[]⟩ [.c (.s h)] Tryz.func75
def wJ(aI:Sl):=bV m R ⟨[(4,[(14,.I)]),(9,[(56,.I)]),(15,[(76,.I)])],[(8,[])],[(8,[110]),(9,[110]),(15,[110])]⟩ [.c (.s aI)] Tryz.func76
def Ak(aI list:Sl):=bV m R ⟨[(2,[(9,.I)])],[],[]⟩ [.c (.s aI),.c (.s list)] Tryz.func77
def DU(aI:Sl)(t:Int):=bV m R ⟨[],[],[]⟩ [.c (.s aI),.c (.i t)] Tryz.func78
def Al(aI:Sl):=bV m R ⟨[(3,[(3,.I),(8,.I)])],[],[]⟩ [.c (.s aI)] Tryz.func79
def DV(aI:Sl)(t:Int):=bV m R ⟨[(6,[(6,.S),(28,.I)])],[],[]⟩ [.c (.s aI),.c (.i t)] Tryz.func80
def Am(aI:Sl)(c:Int):=bV m R ⟨[],[],[]⟩ [.c (.s aI),.c (.i c)] Tryz.func81
def yh(h:Sl)(w:Int):=bV m R ⟨[],[],[]⟩ [.c (.s h),.c (.i w)] Tryz.func82
def Cj(list:Sl):=bV m R ⟨[(2,[(3,.I)])],[],[]⟩ [.c (.s list)] Tryz.func83
def DW(h:Sl)(w:Int):=bV m R ⟨[],[],[]⟩ [.c (.s h),.c (.i w)] Tryz.func84
def DX(h:Sl)(w:Int):=bV m R ⟨[],[],[]⟩ [.c (.s h),.c (.i w)] Tryz.func85
def yi(marked cp:Sl):=bV m R ⟨[(2,[(5,.I)])],[],[]⟩ [.c (.s marked),.c (.s cp)] Tryz.func86
def yl(aI:Sl):=bV m R ⟨[(3,[(3,.S),(4,.I)]),(7,[(5,.S),(6,.I)])],[],[]⟩ [.c (.s aI)] Tryz.func87
def uY(first many:Int):=bV m R ⟨[(3,[(5,.S),(6,.I)])],[],[]⟩ [.c (.i first),.c (.i many)] Tryz.func88
def tg(e:Nat×Nat)(ik il qC:Sl)(nF:Int)(cons first:Sl):=bV m R ⟨[(2,[(3,.S),(4,.S),(10,.I)])],[(17,[])],[(2,[104,103]),(17,[108,104,103])]⟩ [.c (.p e.1 e.2),.agg [.s ik,.s il],.agg [.s qC,.i nF],.c (.s cons),.c (.s first)] Tryz.func89
def uZ(e:Nat×Nat)(Dt Du Dv Dw:Int)(Dx Dy:Sl):=bV m R ⟨[],[],[]⟩ [.c (.p e.1 e.2),.agg [.i Dt,.i Du,.i Dv,.i Dw,.s Dx,.s Dy]] Tryz.func90
def DY(bP:Sl)(least:Int):=bV m R ⟨[(3,[(5,.I),(6,.I)]),(7,[(5,.I),(7,.I)])],[],[]⟩ [.c (.s bP),.c (.i least)] Tryz.func91
def va(r:Nat×Nat):=bV m R ⟨[],[],[]⟩ [.c (.p r.1 r.2)] Tryz.func92
end
section
set_option linter.unusedVariables false
set_option linter.defProp false
variable{m:ah}{R:Value->ah->Prop}
def It(r:Nat×Nat)(ik il:Sl):=bV m R ⟨[(9,[(10,.S),(11,.I)])],[],[(9,[108,106,105])]⟩ [.c (.p r.1 r.2),.agg [.s ik,.s il]] Tryz.func93
def ym(ik il:Sl):=bV m R ⟨[(3,[(4,.I)])],[],[(3,[38,37])]⟩ [.agg [.s ik,.s il]] Tryz.func94
def vd(ik il:Sl):=bV m R ⟨[(3,[(4,.I)])],[],[(3,[40,39])]⟩ [.agg [.s ik,.s il]] Tryz.func95
def DZ(ik il:Sl):=bV m R ⟨[(3,[(4,.I)])],[],[(3,[40,39])]⟩ [.agg [.s ik,.s il]] Tryz.func96
def An(bP:Sl):=bV m R ⟨[(3,[(3,.S),(4,.I)])],[],[]⟩ [.c (.s bP)] Tryz.func97
def oR(Dt Du Dv Dw:Int)(Dx Dy:Sl):=bV m R ⟨[],[],[]⟩ [.agg [.i Dt,.i Du,.i Dv,.i Dw,.s Dx,.s Dy]] Tryz.func98
def Iu(op:Int):=bV m R ⟨[],[],[]⟩ [.c (.i op)] Tryz.func99
def yo(r:Nat×Nat):=bV m R ⟨[],[],[]⟩ [.c (.p r.1 r.2)] Tryz.func100
def J0(aB:Sl):=bV m R ⟨[],[],[]⟩ [.c (.s aB)] Tryz.func101
def yp(aI:Sl)(at0:Int):=bV m R ⟨[(6,[(6,.I)]),(12,[(7,.I)])],[],[(6,[105]),(12,[105])]⟩ [.c (.s aI),.c (.i at0)] Tryz.func102
def Ck(aI:Sl)(c:Int):=bV m R ⟨[(2,[(5,.I)])],[],[]⟩ [.c (.s aI),.c (.i c)] Tryz.func103
def oT(aI:Sl)(c:Int):=bV m R ⟨[],[],[]⟩ [.c (.s aI),.c (.i c)] Tryz.func104
def Ao(iT iU:Sl)(bh args dY:Int):=bV m R ⟨[],[],[]⟩ [.agg [.s iT,.s iU],.c (.i bh),.c (.i args),.c (.i dY)] Tryz.func105
def sE(aI:Sl)(t:Int):=bV m R ⟨[(5,[(5,.S),(6,.I)])],[],[]⟩ [.c (.s aI),.c (.i t)] Tryz.func106
def wK(list:Sl)(many at0 Lk:Int):=bV m R ⟨[(4,[(9,.I)])],[],[]⟩ [.c (.s list),.c (.i many),.c (.i at0),.c (.i Lk)] Tryz.func107
def Gb(n:Int):=bV m R ⟨[],[],[]⟩ [.c (.i n)] Tryz.func108
def D0(op:Int):=bV m R ⟨[],[],[]⟩ [.c (.i op)] Tryz.func109
def Ap(Fp Fq Fs:Int)(Ft Fu Fv cz:Sl):=bV m R ⟨[(3,[(6,.I)])],[],[(3,[42])]⟩ [.agg [.i Fp,.i Fq,.i Fs,.s Ft,.s Fu,.s Fv],.c (.s cz)] Tryz.func110
end
section
set_option linter.unusedVariables false
set_option linter.defProp false
variable{m:ah}{R:Value->ah->Prop}
def Cl(iT iU:Sl)(Dt Du Dv Dw:Int)(Dx Dy:Sl):=bV m R ⟨[(4,[(5,.S),(6,.I)])],[(3,[(30,.T)])],[(3,[70,69]),(4,[70,69])]⟩ [.agg [.s iT,.s iU],.agg [.i Dt,.i Du,.i Dv,.i Dw,.s Dx,.s Dy]] Tryz.func111
def rR(m0:Nat×Nat)(Fp Fq Fs:Int)(Ft Fu Fv:Sl)(Dt Du Dv Dw:Int)(Dx Dy aL:Sl):=bV m R ⟨[],[(3,[])],[(3,[226,225])]⟩ [.c (.p m0.1 m0.2),.agg [.i Fp,.i Fq,.i Fs,.s Ft,.s Fu,.s Fv],.agg [.i Dt,.i Du,.i Dv,.i Dw,.s Dx,.s Dy],.c (.s aL)] Tryz.func112
def qH(m0:Nat×Nat)(Fp Fq Fs:Int)(Ft Fu Fv:Sl)(Dt Du Dv Dw:Int)(Dx Dy:Sl):=bV m R ⟨[],[],[]⟩ [.c (.p m0.1 m0.2),.agg [.i Fp,.i Fq,.i Fs,.s Ft,.s Fu,.s Fv],.agg [.i Dt,.i Du,.i Dv,.i Dw,.s Dx,.s Dy]] Tryz.func113
def Gc(aI:Sl)(c:Int):=bV m R ⟨[(2,[(1,.I),(10,.I)])],[],[(2,[43])]⟩ [.c (.s aI),.c (.i c)] Tryz.func114
def rS(e:Nat×Nat)(ik il:Sl)(jv jw jY:Int)(jZ j7 cons first:Sl):=bV m R ⟨[(17,[(16,.S),(17,.S),(18,.I)]),(22,[(20,.I)]),(33,[(23,.I)])],[],[(17,[215,214]),(22,[215,214]),(33,[215,214])]⟩ [.c (.p e.1 e.2),.agg [.s ik,.s il],.agg [.i jv,.i jw,.i jY,.s jZ,.s j7],.c (.s cons),.c (.s first)] Tryz.func115
def sF(list dY:Sl):=bV m R ⟨[],[],[]⟩ [.c (.s list),.c (.s dY)] Tryz.func116
def Aq(types:Sl)(first:Int):=bV m R ⟨[(3,[(5,.S),(6,.I)])],[],[]⟩ [.c (.s types),.c (.i first)] Tryz.func117
def Cm(op:Int):=bV m R ⟨[],[],[]⟩ [.c (.i op)] Tryz.func118
def yr(r:Nat×Nat):=bV m R ⟨[],[],[]⟩ [.c (.p r.1 r.2)] Tryz.func119
def Cn(ik il:Sl):=bV m R ⟨[(3,[(4,.I)])],[],[(3,[38,37])]⟩ [.agg [.s ik,.s il]] Tryz.func120
def Iv(ik il:Sl):=bV m R ⟨[(3,[(4,.I)])],[],[(3,[41,40])]⟩ [.agg [.s ik,.s il]] Tryz.func121
def ve(ik il:Sl)(f k:Int):=bV m R ⟨[(5,[(9,.I)])],[],[(5,[67])]⟩ [.agg [.s ik,.s il],.c (.i f),.c (.i k)] Tryz.func122
def tQ(l:Nat×Nat)(v:Int):=bV m R ⟨[(1,[(1,.I)])],[],[]⟩ [.c (.p l.1 l.2),.c (.i v)] Tryz.func123
def Co(qC:Sl)(nF at0 jv jw jY:Int)(jZ j7:Sl):=bV m R ⟨[],[],[]⟩ [.agg [.s qC,.i nF],.c (.i at0),.agg [.i jv,.i jw,.i jY,.s jZ,.s j7]] Tryz.func124
def Ar(op v:Int):=bV m R ⟨[],[],[]⟩ [.c (.i op),.c (.i v)] Tryz.func125
def vf(ik il:Sl)(f:Int)(qC:Sl)(nF:Int):=bV m R ⟨[],[],[]⟩ [.agg [.s ik,.s il],.c (.i f),.agg [.s qC,.i nF]] Tryz.func126
def Au(Bl zC:Sl)(NC:Int)(Jg:Sl)(Ll:Int)(qC:Sl)(nF:Int):=bV m R ⟨[],[],[]⟩ [.agg [.s Bl,.s zC,.i NC,.s Jg,.i Ll],.agg [.s qC,.i nF]] Tryz.func127
def vg(qC:Sl)(nF:Int):=bV m R ⟨[(4,[(3,.S),(4,.S),(5,.I)]),(13,[(7,.S),(8,.I)])],[],[(4,[74,73]),(13,[78,74,73])]⟩ [.agg [.s qC,.i nF]] Tryz.func128
end
end Go.Proofs.YtakpkjhmbbfniaaGreat
