/- Part of a proof, joined by a program. -/
import Derived.Test.YtakpkjhmbbfniaaGreatV02
set_option linter.unusedVariables false
set_option linter.unusedSimpArgs false
set_option linter.defProp false
set_option maxHeartbeats 8000000
set_option maxRecDepth 100000
namespace Go.Proofs.YtakpkjhmbbfniaaGreat
open Go.Vc
section
set_option linter.unusedVariables false
set_option linter.defProp false
variable{m:ah}{R:Value->ah->Prop}
def Ea(jv jw jY:Int)(jZ j7:Sl):=bV m R ⟨[],[],[]⟩ [.agg [.i jv,.i jw,.i jY,.s jZ,.s j7]] Tryz.func165
def Ay(run:Sl):=bV m R ⟨[(5,[(3,.S),(4,.S),(6,.I)]),(8,[(3,.S),(7,.I)]),(11,[(4,.S),(7,.I)])],[],[]⟩ [.c (.s run)] Tryz.func166
def Cq(qC:Sl)(nF x:Int)(aB:Sl)(m0:Int):=bV m R ⟨[(8,[(10,.S),(11,.S),(12,.I)])],[],[(8,[96,92])]⟩ [.agg [.s qC,.i nF],.c (.i x),.c (.s aB),.c (.i m0)] Tryz.func167
def Az(ik il:Sl)(jv jw jY:Int)(jZ j7:Sl)(at0:Int)(ic:Sl):=bV m R ⟨[],[],[]⟩ [.agg [.s ik,.s il],.agg [.i jv,.i jw,.i jY,.s jZ,.s j7],.c (.i at0),.c (.s ic)] Tryz.func168
def pD(m0:Nat×Nat)(cp:Sl):=bV m R ⟨[(2,[(5,.I)]),(6,[(6,.I),(7,.I)])],[],[]⟩ [.c (.p m0.1 m0.2),.c (.s cp)] Tryz.func169
def wO(cp:Sl):=bV m R ⟨[(3,[(3,.S),(4,.I)])],[],[]⟩ [.c (.s cp)] Tryz.func170
def AA(a b:Sl):=bV m R ⟨[(4,[(5,.I)])],[],[]⟩ [.c (.s a),.c (.s b)] Tryz.func171
def Cr(Fp Fq Fs:Int)(Ft Fu Fv an:Sl):=bV m R ⟨[(3,[(5,.S),(6,.I)])],[],[(3,[28])]⟩ [.agg [.i Fp,.i Fq,.i Fs,.s Ft,.s Fu,.s Fv],.c (.s an)] Tryz.func172
def Gd(n:Int):=bV m R ⟨[],[],[]⟩ [.c (.i n)] Tryz.func173
def yB(h:Sl):=bV m R ⟨[(2,[(3,.I)])],[],[]⟩ [.c (.s h)] Tryz.func174
def Ge(h:Sl)(at0 jW:Int)(aB:Sl):=bV m R ⟨[],[],[]⟩ [.c (.s h),.c (.i at0),.c (.i jW),.c (.s aB)] Tryz.func175
def rW(m0:Nat×Nat)(w:Int):=bV m R ⟨[],[],[]⟩ [.c (.p m0.1 m0.2),.c (.i w)] Tryz.func176
def Iy(h:Sl):=bV m R ⟨[(2,[(3,.I)])],[],[]⟩ [.c (.s h)] Tryz.func177
def oU(m0:Nat×Nat)(Dt Du Dv Dw:Int)(Dx Dy cp:Sl):=bV m R ⟨[(3,[(7,.S),(8,.I)])],[],[(3,[42])]⟩ [.c (.p m0.1 m0.2),.agg [.i Dt,.i Du,.i Dv,.i Dw,.s Dx,.s Dy],.c (.s cp)] Tryz.func178
def wP(sg sj:Sl)(e_0 e_1:Int)(e_2 Iz:Sl)(scope:Int):=bV m R ⟨[],[],[]⟩ [.agg [.s sg,.s sj],.agg [.i e_0,.i e_1,.s e_2],.c (.s Iz),.c (.i scope)] Tryz.func179
def J1(params:Sl)(aH:Int):=bV m R ⟨[],[],[]⟩ [.c (.s params),.c (.i aH)] Tryz.func180
def Eb(r:Nat×Nat)(sg sj:Sl)(f:Int):=bV m R ⟨[],[(7,[(34,.T)]),(9,[(51,.T)]),(11,[(77,.T)]),(15,[])],[(7,[131,127,125]),(9,[131,127,125]),(11,[131,127,125]),(15,[127,125])]⟩ [.c (.p r.1 r.2),.agg [.s sg,.s sj],.c (.i f)] Tryz.func181
def AB(ik il bX:Sl):=bV m R ⟨[(3,[(6,.I)])],[],[(3,[49,47])]⟩ [.agg [.s ik,.s il],.c (.s bX)] Tryz.func182
end
section
set_option linter.unusedVariables false
set_option linter.defProp false
variable{m:ah}{R:Value->ah->Prop}
def wQ(ik il:Sl):=bV m R ⟨[(3,[(3,.S),(4,.I)])],[],[(3,[32])]⟩ [.agg [.s ik,.s il]] Tryz.func183
def AE(ik il:Sl)(f:Int):=bV m R ⟨[(3,[(5,.S),(6,.I)])],[],[(3,[52])]⟩ [.agg [.s ik,.s il],.c (.i f)] Tryz.func184
def Ec(qC:Sl)(nF n:Int):=bV m R ⟨[],[],[]⟩ [.agg [.s qC,.i nF],.c (.i n)] Tryz.func185
def wR(ik il vars qC:Sl)(nF:Int)(owned after:Sl):=bV m R ⟨[(5,[(11,.S),(12,.S),(13,.S),(14,.I)]),(17,[(13,.S),(20,.I)])],[],[(5,[159,156,154]),(17,[164,159,156,154])]⟩ [.agg [.s ik,.s il],.c (.s vars),.agg [.s qC,.i nF],.c (.s owned),.c (.s after)] Tryz.func186
def yC(op:Int)(list:Sl):=bV m R ⟨[(3,[(5,.S),(6,.I)])],[],[]⟩ [.c (.i op),.c (.s list)] Tryz.func187
def AF(ik il vars:Sl)(jv jw jY:Int)(jZ j7:Sl):=bV m R ⟨[],[(3,[]),(30,[(151,.T)])],[(3,[188,186]),(30,[188,186])]⟩ [.agg [.s ik,.s il],.c (.s vars),.agg [.i jv,.i jw,.i jY,.s jZ,.s j7]] Tryz.func188
def rX(ik il vars:Sl)(jv jw jY:Int)(jZ j7:Sl):=bV m R ⟨[(3,[(7,.S),(8,.I)])],[],[(3,[36,34])]⟩ [.agg [.s ik,.s il],.c (.s vars),.agg [.i jv,.i jw,.i jY,.s jZ,.s j7]] Tryz.func189
def AG(ik il vars:Sl)(jv jw jY:Int)(jZ j7:Sl):=bV m R ⟨[(4,[(7,.S),(9,.I)])],[(9,[(10,.S)])],[(4,[78,77,75]),(9,[78,77,75])]⟩ [.agg [.s ik,.s il],.c (.s vars),.agg [.i jv,.i jw,.i jY,.s jZ,.s j7]] Tryz.func190
def qJ(ik il:Sl):=bV m R ⟨[(4,[(3,.I)])],[],[(4,[36])]⟩ [.agg [.s ik,.s il]] Tryz.func191
def Cs(qC:Sl)(nF:Int):=bV m R ⟨[],[],[]⟩ [.agg [.s qC,.i nF]] Tryz.func192
def yD(ik il vars qC:Sl)(nF:Int):=bV m R ⟨[(3,[(7,.S),(8,.I)])],[],[(3,[57,55])]⟩ [.agg [.s ik,.s il],.c (.s vars),.agg [.s qC,.i nF]] Tryz.func193
def vn(l:Nat×Nat)(t aL parent:Int):=bV m R ⟨[],[],[]⟩ [.c (.p l.1 l.2),.c (.i t),.c (.i aL),.c (.i parent)] Tryz.func194
def vo(l:Nat×Nat)(v:Int):=bV m R ⟨[],[],[]⟩ [.c (.p l.1 l.2),.c (.i v)] Tryz.func195
def vr(l:Nat×Nat)(ik il:Sl)(jv jw jY:Int)(jZ j7:Sl):=bV m R ⟨[(6,[(9,.I)])],[(4,[])],[(4,[110,109]),(6,[110,109])]⟩ [.c (.p l.1 l.2),.agg [.s ik,.s il],.agg [.i jv,.i jw,.i jY,.s jZ,.s j7]] Tryz.func196
def tn(l:Nat×Nat)(ik il:Sl)(jv jw jY:Int)(jZ j7:Sl):=bV m R ⟨[(7,[(9,.I)])],[(3,[])],[(3,[93,92]),(7,[93,92])]⟩ [.c (.p l.1 l.2),.agg [.s ik,.s il],.agg [.i jv,.i jw,.i jY,.s jZ,.s j7]] Tryz.func197
def qK(l:Nat×Nat)(ik il:Sl)(jv jw jY:Int)(jZ j7:Sl):=bV m R ⟨[(2,[(7,.I)]),(7,[(8,.I)])],[],[(2,[84,83]),(7,[84,83])]⟩ [.c (.p l.1 l.2),.agg [.s ik,.s il],.agg [.i jv,.i jw,.i jY,.s jZ,.s j7]] Tryz.func198
def Ed(run:Sl):=bV m R ⟨[(3,[(3,.S),(4,.I)])],[],[]⟩ [.c (.s run)] Tryz.func199
def Gf(run:Sl)(v:Int):=bV m R ⟨[(3,[(5,.I),(6,.I)])],[],[]⟩ [.c (.s run),.c (.i v)] Tryz.func200
end
section
set_option linter.unusedVariables false
set_option linter.defProp false
variable{m:ah}{R:Value->ah->Prop}
def yE(qC:Sl)(nF:Int):=bV m R ⟨[(2,[(3,.I)])],[],[(2,[21])]⟩ [.agg [.s qC,.i nF]] Tryz.func201
def AH(qC:Sl)(nF many op:Int):=bV m R ⟨[(3,[(7,.S),(8,.I)])],[],[(3,[38])]⟩ [.agg [.s qC,.i nF],.c (.i many),.c (.i op)] Tryz.func202
def tT(list:Sl)(n:Int):=bV m R ⟨[(4,[(5,.S),(6,.T),(7,.I)])],[],[]⟩ [.c (.s list),.c (.i n)] Tryz.func203
def AI(qC:Sl)(nF x many:Int):=bV m R ⟨[],[],[]⟩ [.agg [.s qC,.i nF],.c (.i x),.c (.i many)] Tryz.func204
def wS(qC:Sl)(nF:Int):=bV m R ⟨[(2,[(3,.I)])],[],[(2,[22])]⟩ [.agg [.s qC,.i nF]] Tryz.func205
def Ee(qC:Sl)(nF many op x:Int):=bV m R ⟨[(2,[(9,.I)])],[],[(2,[40])]⟩ [.agg [.s qC,.i nF],.c (.i many),.c (.i op),.c (.i x)] Tryz.func206
def Ef(list:Sl)(n:Int):=bV m R ⟨[(4,[(5,.S),(6,.T),(7,.I)])],[],[]⟩ [.c (.s list),.c (.i n)] Tryz.func207
def rY(l:Nat×Nat)(sg sj:Sl)(e_0 e_1:Int)(e_2 Iz:Sl):=bV m R ⟨[(13,[(11,.S),(13,.I)]),(22,[(15,.S),(16,.I)])],[(18,[(14,.I)])],[(13,[154,153]),(18,[154,153]),(22,[154,153])]⟩ [.c (.p l.1 l.2),.agg [.s sg,.s sj],.agg [.i e_0,.i e_1,.s e_2],.c (.s Iz)] Tryz.func208
def Ct(list:Sl)(n:Int):=bV m R ⟨[(2,[(5,.I)])],[],[]⟩ [.c (.s list),.c (.i n)] Tryz.func209
def Cu(n:Int):=bV m R ⟨[],[],[]⟩ [.c (.i n)] Tryz.func210
def AJ(r:Nat×Nat)(sg sj:Sl):=bV m R ⟨[],[(5,[])],[(5,[31,30])]⟩ [.c (.p r.1 r.2),.agg [.s sg,.s sj]] Tryz.func211
def AK(r:Nat×Nat)(sg sj:Sl)(f at0:Int):=bV m R ⟨[(6,[(12,.S),(13,.I)])],[(19,[]),(22,[])],[(6,[144,141]),(19,[151,150,144,141]),(22,[150,144,141])]⟩ [.c (.p r.1 r.2),.agg [.s sg,.s sj],.c (.i f),.c (.i at0)] Tryz.func212
def AL(r:Nat×Nat)(sg sj:Sl)(f:Int):=aoQ m R ⟨[(6,[(9,.S),(10,.S),(11,.I)])],[(13,[(14,.P)]),(15,[])],[(6,[102,100]),(13,[109,108,102,100]),(15,[109,108,102,100])]⟩ [.c (.p r.1 r.2),.agg [.s sg,.s sj],.c (.i f)] Tryz.func213
def AM(r:Nat×Nat)(sg sj:Sl)(f:Int):=bV m R ⟨[(4,[(8,.S),(9,.I)])],[(10,[])],[(4,[81,79]),(10,[81,79])]⟩ [.c (.p r.1 r.2),.agg [.s sg,.s sj],.c (.i f)] Tryz.func214
def Cv(r:Nat×Nat)(sg sj vars:Sl)(t vO:Int):=bV m R ⟨[(2,[(4,.I)])],[],[(2,[44,40])]⟩ [.c (.p r.1 r.2),.agg [.s sg,.s sj],.c (.s vars),.c (.i t),.c (.i vO)] Tryz.func215
def Cw(e_0 e_1:Int)(e_2:Sl):=bV m R ⟨[],[],[]⟩ [.agg [.i e_0,.i e_1,.s e_2]] Tryz.func216
def oV(qC:Sl)(nF:Int):=bV m R ⟨[(3,[(4,.I)])],[],[(3,[30,29])]⟩ [.agg [.s qC,.i nF]] Tryz.func217
def AN(ik il:Sl)(f:Int):=bV m R ⟨[(2,[(5,.I)])],[],[(2,[23])]⟩ [.agg [.s ik,.s il],.c (.i f)] Tryz.func218
end
section
set_option linter.unusedVariables false
set_option linter.defProp false
variable{m:ah}{R:Value->ah->Prop}
def tp(ik il qC:Sl)(nF v:Int):=bV m R ⟨[(4,[(7,.I)]),(8,[(9,.I)]),(13,[(10,.I)])],[],[(4,[72,71]),(8,[76,72,71]),(13,[76,72,71])]⟩ [.agg [.s ik,.s il],.agg [.s qC,.i nF],.c (.i v)] Tryz.func219
def Cx(qC:Sl)(nF n Qz:Int)(list:Sl):=bV m R ⟨[(2,[(3,.S),(9,.I)])],[],[(2,[44])]⟩ [.agg [.s qC,.i nF],.c (.i n),.c (.i Qz),.c (.s list)] Tryz.func220
def Gg(a b:Sl):=bV m R ⟨[(3,[(5,.S),(6,.I)])],[],[]⟩ [.c (.s a),.c (.s b)] Tryz.func221
def wT(ik il vars:Sl)(jv jw jY:Int)(jZ j7 owned dV:Sl):=bV m R ⟨[(3,[(11,.S),(12,.I)])],[],[(3,[50,48])]⟩ [.agg [.s ik,.s il],.c (.s vars),.agg [.i jv,.i jw,.i jY,.s jZ,.s j7],.c (.s owned),.c (.s dV)] Tryz.func222
def yF(ik il vars:Sl)(jv jw jY:Int)(jZ j7 owned dV:Sl):=bV m R ⟨[(4,[(11,.S),(13,.I)])],[],[(4,[72,69,67])]⟩ [.agg [.s ik,.s il],.c (.s vars),.agg [.i jv,.i jw,.i jY,.s jZ,.s j7],.c (.s owned),.c (.s dV)] Tryz.func223
def yG(ik il vars:Sl)(jv jw jY:Int)(jZ j7 owned dV:Sl):=bV m R ⟨[(5,[(11,.S),(12,.I)])],[],[(5,[62,60])]⟩ [.agg [.s ik,.s il],.c (.s vars),.agg [.i jv,.i jw,.i jY,.s jZ,.s j7],.c (.s owned),.c (.s dV)] Tryz.func224
def yH(ik il:Sl)(jv jw jY:Int)(jZ j7 owned dV:Sl):=bV m R ⟨[(3,[(9,.S),(10,.I)])],[],[(3,[55,54])]⟩ [.agg [.s ik,.s il],.agg [.i jv,.i jw,.i jY,.s jZ,.s j7],.c (.s owned),.c (.s dV)] Tryz.func225
def Cy(list:Sl)(n:Int):=bV m R ⟨[(3,[(5,.S),(6,.I)])],[],[]⟩ [.c (.s list),.c (.i n)] Tryz.func226
def Eg(op:Int):=bV m R ⟨[],[],[]⟩ [.c (.i op)] Tryz.func227
def yI(vars:Sl)(jv jw jY:Int)(jZ j7:Sl):=bV m R ⟨[],[],[]⟩ [.c (.s vars),.agg [.i jv,.i jw,.i jY,.s jZ,.s j7]] Tryz.func228
def Gh(vars args types:Sl):=bV m R ⟨[(4,[(7,.I)])],[],[]⟩ [.c (.s vars),.c (.s args),.c (.s types)] Tryz.func229
def AO(ik il vars:Sl)(jv jw jY:Int)(jZ j7:Sl):=bV m R ⟨[(9,[(9,.I),(10,.I)])],[(5,[(8,.I)])],[(5,[76,74]),(9,[76,74])]⟩ [.agg [.s ik,.s il],.c (.s vars),.agg [.i jv,.i jw,.i jY,.s jZ,.s j7]] Tryz.func230
def vt(ik il vars:Sl)(jv jw jY:Int)(jZ j7:Sl):=bV m R ⟨[],[],[]⟩ [.agg [.s ik,.s il],.c (.s vars),.agg [.i jv,.i jw,.i jY,.s jZ,.s j7]] Tryz.func231
def Cz(aI:Sl)(t:Int):=bV m R ⟨[],[],[]⟩ [.c (.s aI),.c (.i t)] Tryz.func232
def tU(ik il vars:Sl)(jv jw jY:Int)(jZ j7:Sl):=bV m R ⟨[],[],[]⟩ [.agg [.s ik,.s il],.c (.s vars),.agg [.i jv,.i jw,.i jY,.s jZ,.s j7]] Tryz.func233
def wU(ik il vars:Sl)(jv jw jY:Int)(jZ j7:Sl)(i:Int):=bV m R ⟨[],[],[]⟩ [.agg [.s ik,.s il],.c (.s vars),.agg [.i jv,.i jw,.i jY,.s jZ,.s j7],.c (.i i)] Tryz.func234
def Eh(ik il:Sl):=bV m R ⟨[(3,[(4,.I)])],[],[(3,[37,36])]⟩ [.agg [.s ik,.s il]] Tryz.func235
def yJ(qC:Sl)(nF left:Int):=bV m R ⟨[(2,[(1,.I),(5,.I)]),(8,[(1,.I),(6,.I)])],[],[(2,[45]),(8,[45])]⟩ [.agg [.s qC,.i nF],.c (.i left)] Tryz.func236
end
end Go.Proofs.YtakpkjhmbbfniaaGreat
