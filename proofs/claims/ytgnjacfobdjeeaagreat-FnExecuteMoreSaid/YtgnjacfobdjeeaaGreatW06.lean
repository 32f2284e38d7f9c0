/- Part of a proof, joined by a program. -/
import Derived.Test.YtgnjacfobdjeeaaGreatW02
set_option linter.unusedVariables false
set_option linter.unusedSimpArgs false
set_option linter.defProp false
set_option linter.constructorNameAsVariable false
set_option maxHeartbeats 8000000
set_option maxRecDepth 100000
namespace Go.Proofs.YtgnjacfobdjeeaaGreat
open Go.Vc
section
variable{m:I}{R:Value->I->Prop}
def AG(a b:O)(c:Int)(d:O)(e:Int):=cX m R ⟨[(3,[(3,.S),(4,.I)])],[],[(3,[32])]⟩ [.agg [.s a,.s b,.i c,.s d,.i e]] Tryz.func239
def xA(a b:O):=cX m R ⟨[(4,[(3,.I)])],[],[(4,[36])]⟩ [.agg [.s a,.s b]] Tryz.func240
def Ax(a b:O)(c:Int)(d:O)(e:Int):=cX m R ⟨[(3,[(4,.I)])],[],[(3,[46])]⟩ [.agg [.s a,.s b,.i c,.s d,.i e]] Tryz.func241
def xg(l:Nat×Nat)(a b:O)(c d e:Int)(f g:O):=cX m R ⟨[],[(16,[(8,.T)])],[(16,[94,93])]⟩ [cP l,.agg [.s a,.s b],.agg [.i c,.i d,.i e,.s f,.s g]] Tryz.func242
def FT(a b c:Int)(d e:O):=cX m R A0 [.agg [.i a,.i b,.i c,.s d,.s e]] Tryz.func243
def Cv(a:O):=cX m R ⟨[(5,[(3,.S),(4,.S),(6,.I)]),(8,[(3,.S),(7,.I)]),(11,[(4,.S),(7,.I)])],[],[]⟩ [cS a] Tryz.func244
def Eg(a:O)(b x:Int)(aL:O)(c:Int):=cX m R ⟨[(8,[(10,.S),(11,.S),(12,.I)])],[],[(8,[96,92])]⟩ [.agg [.s a,.i b],cI x,cS aL,cI c] Tryz.func245
def Ct(b c:O)(d e f:Int)(g h:O)(a:Int)(kj:O):=cX m R A0 [.agg [.s b,.s c],.agg [.i d,.i e,.i f,.s g,.s h],cI a,cS kj] Tryz.func246
def yK(d e:O)(a b:Int)(c IK:O)(f:Int):=cX m R A0 [.agg [.s d,.s e],.agg [.i a,.i b,.s c],cS IK,cI f] Tryz.func247
def K6(a:O)(aV:Int):=cX m R A0 [cS a,cI aV] Tryz.func248
def FC(r:Nat×Nat)(a b:O)(f:Int):=cX m R ⟨[],[(7,[(34,.T)]),(9,[(51,.T)]),(11,[(77,.T)]),(15,[])],[(7,[131,127,125]),(9,[131,127,125]),(11,[131,127,125]),(15,[127,125])]⟩ [cP r,.agg [.s a,.s b],cI f] Tryz.func249
def CF(a b cJ:O):=cX m R ⟨[(3,[(6,.I)])],[],[(3,[49,47])]⟩ [.agg [.s a,.s b],cS cJ] Tryz.func250
def yB(a b:O):=cX m R ⟨[(3,[(3,.S),(4,.I)])],[],[(3,[32])]⟩ [.agg [.s a,.s b]] Tryz.func251
def Ci(a b:O)(f:Int):=cX m R ⟨[(3,[(5,.S),(6,.I)])],[],[(3,[52])]⟩ [.agg [.s a,.s b],cI f] Tryz.func252
def Gd(a:O)(b n:Int):=cX m R A0 [.agg [.s a,.i b],cI n] Tryz.func253
def yD(d e g b:O)(c:Int)(f a:O):=cX m R ⟨[(5,[(11,.S),(12,.S),(13,.S),(14,.I)]),(17,[(13,.S),(20,.I)])],[],[(5,[159,156,154]),(17,[164,159,156,154])]⟩ [.agg [.s d,.s e],cS g,.agg [.s b,.i c],cS f,cS a] Tryz.func254
def Ai(b:Int)(a:O):=cX m R ⟨[(3,[(5,.S),(6,.I)])],[],[]⟩ [cI b,cS a] Tryz.func255
def CA(a b h:O)(c d e:Int)(f g:O):=cX m R ⟨[],[(3,[]),(30,[(151,.T)])],[(3,[188,186]),(30,[188,186])]⟩ [.agg [.s a,.s b],cS h,.agg [.i c,.i d,.i e,.s f,.s g]] Tryz.func256
end
section
variable{m:I}{R:Value->I->Prop}
def tR(a b h:O)(c d e:Int)(f g:O):=cX m R ⟨[(3,[(7,.S),(8,.I)])],[],[(3,[36,34])]⟩ [.agg [.s a,.s b],cS h,.agg [.i c,.i d,.i e,.s f,.s g]] Tryz.func257
def Ck(a b h:O)(c d e:Int)(f g:O):=cX m R ⟨[(4,[(7,.S),(9,.I)])],[(9,[(10,.S)])],[(4,[78,77,75]),(9,[78,77,75])]⟩ [.agg [.s a,.s b],cS h,.agg [.i c,.i d,.i e,.s f,.s g]] Tryz.func258
def tz(a b:O):=cX m R ⟨[(4,[(3,.I)])],[],[(4,[36])]⟩ [.agg [.s a,.s b]] Tryz.func259
def Eo(a:O)(b:Int):=cX m R A0 [.agg [.s a,.i b]] Tryz.func260
def Aa(c d e a:O)(b:Int):=cX m R ⟨[(3,[(7,.S),(8,.I)])],[],[(3,[57,55])]⟩ [.agg [.s c,.s d],cS e,.agg [.s a,.i b]] Tryz.func261
def xe(l:Nat×Nat)(t aR a:Int):=cX m R A0 [cP l,cI t,cI aR,cI a] Tryz.func262
def xh(l:Nat×Nat)(v:Int):=cX m R A0 [cP l,cI v] Tryz.func263
def xf(l:Nat×Nat)(a b:O)(c d e:Int)(f g:O):=cX m R ⟨[(6,[(9,.I)])],[(4,[])],[(4,[110,109]),(6,[110,109])]⟩ [cP l,.agg [.s a,.s b],.agg [.i c,.i d,.i e,.s f,.s g]] Tryz.func264
def uV(l:Nat×Nat)(a b:O)(c d e:Int)(f g:O):=cX m R ⟨[(7,[(9,.I)])],[(3,[])],[(3,[93,92]),(7,[93,92])]⟩ [cP l,.agg [.s a,.s b],.agg [.i c,.i d,.i e,.s f,.s g]] Tryz.func265
def tr(l:Nat×Nat)(a b:O)(c d e:Int)(f g:O):=cX m R ⟨[(2,[(7,.I)]),(7,[(8,.I)])],[],[(2,[84,83]),(7,[84,83])]⟩ [cP l,.agg [.s a,.s b],.agg [.i c,.i d,.i e,.s f,.s g]] Tryz.func266
def Gh(a:O):=cX m R ⟨[(3,[(3,.S),(4,.I)])],[],[]⟩ [cS a] Tryz.func267
def HG(a:O)(v:Int):=cX m R ⟨[(3,[(5,.I),(6,.I)])],[],[]⟩ [cS a,cI v] Tryz.func268
def AK(a:O)(b:Int):=cX m R ⟨[(2,[(3,.I)])],[],[(2,[21])]⟩ [.agg [.s a,.i b]] Tryz.func269
def BO(a:O)(b c d:Int):=cX m R ⟨[(3,[(7,.S),(8,.I)])],[],[(3,[38])]⟩ [.agg [.s a,.i b],cI c,cI d] Tryz.func270
def wu(a:O)(n:Int):=cX m R ⟨[(4,[(5,.S),(6,.T),(7,.I)])],[],[]⟩ [cS a,cI n] Tryz.func271
def Cs(a:O)(b x c:Int):=cX m R A0 [.agg [.s a,.i b],cI x,cI c] Tryz.func272
def yH(a:O)(b:Int):=cX m R ⟨[(2,[(3,.I)])],[],[(2,[22])]⟩ [.agg [.s a,.i b]] Tryz.func273
def Gc(a:O)(b c d x:Int):=cX m R ⟨[(2,[(9,.I)])],[],[(2,[40])]⟩ [.agg [.s a,.i b],cI c,cI d,cI x] Tryz.func274
end
section
variable{m:I}{R:Value->I->Prop}
def FO(a:O)(n:Int):=cX m R ⟨[(4,[(5,.S),(6,.T),(7,.I)])],[],[]⟩ [cS a,cI n] Tryz.func275
def tT(l:Nat×Nat)(d e:O)(a b:Int)(c IK:O):=cX m R ⟨[(13,[(11,.S),(13,.I)]),(22,[(15,.S),(16,.I)])],[(18,[(14,.I)])],[(13,[154,153]),(18,[154,153]),(22,[154,153])]⟩ [cP l,.agg [.s d,.s e],.agg [.i a,.i b,.s c],cS IK] Tryz.func276
def Ei(a:O)(n:Int):=cX m R ⟨[(2,[(5,.I)])],[],[]⟩ [cS a,cI n] Tryz.func277
def D0(n:Int):=cX m R A0 [cI n] Tryz.func278
def Cm(r:Nat×Nat)(a b:O):=cX m R ⟨[],[(5,[])],[(5,[31,30])]⟩ [cP r,.agg [.s a,.s b]] Tryz.func279
def Co(r:Nat×Nat)(b c:O)(f a:Int):=cX m R ⟨[(6,[(12,.S),(13,.I)])],[(19,[]),(22,[])],[(6,[144,141]),(19,[151,150,144,141]),(22,[150,144,141])]⟩ [cP r,.agg [.s b,.s c],cI f,cI a] Tryz.func280
def Cp(r:Nat×Nat)(a b:O)(f:Int):=ZZ m R ⟨[(6,[(9,.S),(10,.S),(11,.I)])],[(13,[(14,.P)]),(15,[])],[(6,[102,100]),(13,[109,108,102,100]),(15,[109,108,102,100])]⟩ [cP r,.agg [.s a,.s b],cI f] Tryz.func281
def Ca(r:Nat×Nat)(a b:O)(f:Int):=cX m R ⟨[(4,[(8,.S),(9,.I)])],[(10,[])],[(4,[81,79]),(10,[81,79])]⟩ [cP r,.agg [.s a,.s b],cI f] Tryz.func282
def DV(r:Nat×Nat)(b c d:O)(t a:Int):=cX m R ⟨[(2,[(4,.I)])],[],[(2,[44,40])]⟩ [cP r,.agg [.s b,.s c],cS d,cI t,cI a] Tryz.func283
def Ef(a b:Int)(c:O):=cX m R A0 [.agg [.i a,.i b,.s c]] Tryz.func284
def rh(a:O)(b:Int):=cX m R ⟨[(3,[(4,.I)])],[],[(3,[30,29])]⟩ [.agg [.s a,.i b]] Tryz.func285
def Ch(a b:O)(f:Int):=cX m R ⟨[(2,[(5,.I)])],[],[(2,[23])]⟩ [.agg [.s a,.s b],cI f] Tryz.func286
def uT(c d a:O)(b v:Int):=cX m R ⟨[(4,[(7,.I)]),(8,[(9,.I)]),(13,[(10,.I)])],[],[(4,[72,71]),(8,[76,72,71]),(13,[76,72,71])]⟩ [.agg [.s c,.s d],.agg [.s a,.i b],cI v] Tryz.func287
def DI(a:O)(b n c:Int)(d:O):=cX m R ⟨[(2,[(3,.S),(9,.I)])],[],[(2,[44])]⟩ [.agg [.s a,.i b],cI n,cI c,cS d] Tryz.func288
def HW(a b:O):=cX m R ⟨[(3,[(5,.S),(6,.I)])],[],[]⟩ [cS a,cS b] Tryz.func289
def yE(b c j:O)(e f g:Int)(h i d a:O):=cX m R ⟨[(3,[(11,.S),(12,.I)])],[],[(3,[50,48])]⟩ [.agg [.s b,.s c],cS j,.agg [.i e,.i f,.i g,.s h,.s i],cS d,cS a] Tryz.func290
def Ah(b c j:O)(e f g:Int)(h i d a:O):=cX m R ⟨[(4,[(11,.S),(13,.I)])],[],[(4,[72,69,67])]⟩ [.agg [.s b,.s c],cS j,.agg [.i e,.i f,.i g,.s h,.s i],cS d,cS a] Tryz.func291
def Av(b c j:O)(e f g:Int)(h i d a:O):=cX m R ⟨[(5,[(11,.S),(12,.I)])],[],[(5,[62,60])]⟩ [.agg [.s b,.s c],cS j,.agg [.i e,.i f,.i g,.s h,.s i],cS d,cS a] Tryz.func292
end
section
variable{m:I}{R:Value->I->Prop}
def Aw(b c:O)(e f g:Int)(h i d a:O):=cX m R ⟨[(3,[(9,.S),(10,.I)])],[],[(3,[55,54])]⟩ [.agg [.s b,.s c],.agg [.i e,.i f,.i g,.s h,.s i],cS d,cS a] Tryz.func293
def Ey(a:O)(n:Int):=cX m R ⟨[(3,[(5,.S),(6,.I)])],[],[]⟩ [cS a,cI n] Tryz.func294
def FL(a:Int):=cX m R A0 [cI a] Tryz.func295
def AR(f:O)(a b c:Int)(d e:O):=cX m R A0 [cS f,.agg [.i a,.i b,.i c,.s d,.s e]] Tryz.func296
def HV(c a b:O):=cX m R ⟨[(4,[(7,.I)])],[],[]⟩ [cS c,cS a,cS b] Tryz.func297
def Cj(a b h:O)(c d e:Int)(f g:O):=cX m R ⟨[(9,[(9,.I),(10,.I)])],[(5,[(8,.I)])],[(5,[76,74]),(9,[76,74])]⟩ [.agg [.s a,.s b],cS h,.agg [.i c,.i d,.i e,.s f,.s g]] Tryz.func298
def xr(a b h:O)(c d e:Int)(f g:O):=cX m R A0 [.agg [.s a,.s b],cS h,.agg [.i c,.i d,.i e,.s f,.s g]] Tryz.func299
def Ea(aT:O)(t:Int):=cX m R A0 [cS aT,cI t] Tryz.func300
def vY(a b h:O)(c d e:Int)(f g:O):=cX m R A0 [.agg [.s a,.s b],cS h,.agg [.i c,.i d,.i e,.s f,.s g]] Tryz.func301
def yF(a b h:O)(c d e:Int)(f g:O)(i:Int):=cX m R A0 [.agg [.s a,.s b],cS h,.agg [.i c,.i d,.i e,.s f,.s g],cI i] Tryz.func302
def Ga(a b:O):=cX m R ⟨[(3,[(4,.I)])],[],[(3,[37,36])]⟩ [.agg [.s a,.s b]] Tryz.func303
def AN(a:O)(b left:Int):=cX m R ⟨[(2,[(1,.I),(5,.I)]),(8,[(1,.I),(6,.I)])],[],[(2,[45]),(8,[45])]⟩ [.agg [.s a,.i b],cI left] Tryz.func304
def yJ(l:Nat×Nat)(b c:O)(d e f:Int)(g h:O)(a:Int):=cX m R ⟨[(9,[(14,.I)])],[],[(9,[89,88])]⟩ [cP l,.agg [.s b,.s c],.agg [.i d,.i e,.i f,.s g,.s h],cI a] Tryz.func305
def FU(a b:O)(c d e:Int)(f g:O)(i:Int):=cX m R A0 [.agg [.s a,.s b],.agg [.i c,.i d,.i e,.s f,.s g],cI i] Tryz.func306
def Ht(a:O)(b c d:Int):=cX m R ⟨[(2,[(7,.I)])],[],[(2,[47])]⟩ [.agg [.s a,.i b],cI c,cI d] Tryz.func307
def yG(a:Int):=cX m R A0 [cI a] Tryz.func308
def wg(l:Nat×Nat)(a b c:Int)(d e:O):=cX m R A0 [cP l,.agg [.i a,.i b,.i c,.s d,.s e]] Tryz.func309
def KV(r:Nat×Nat)(b c d:O)(t a:Int):=cX m R A0 [cP r,.agg [.s b,.s c],cS d,cI t,cI a] Tryz.func310
end
end Go.Proofs.YtgnjacfobdjeeaaGreat
