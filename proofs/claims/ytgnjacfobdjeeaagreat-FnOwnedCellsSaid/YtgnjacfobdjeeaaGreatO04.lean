/- Part of a proof, joined by a program. -/
import Derived.Test.YtgnjacfobdjeeaaGreatO02
set_option linter.unusedVariables false
set_option linter.unusedSimpArgs false
set_option linter.defProp false
set_option linter.constructorNameAsVariable false
set_option maxHeartbeats 8000000
set_option maxRecDepth 100000
namespace Go.Proofs.YtgnjacfobdjeeaaGreat
open Go.Vc
section
variable{m:I}{R:Value->I->Prop}
def Hu(a b:O):=cQ m R ⟨[(3,[(4,.I)])],[],[(3,[41,40])]⟩ [.agg [.s a,.s b]] Tryz.func221
def va(a b:O)(f k:Int):=cQ m R ⟨[(5,[(9,.I)])],[],[(5,[67])]⟩ [.agg [.s a,.s b],cI f,cI k] Tryz.func222
def ug(l:Nat×Nat)(v:Int):=cQ m R ⟨[(1,[(1,.I)])],[],[]⟩ [cP l,cI v] Tryz.func223
def Cj(b:O)(c a d e f:Int)(g h:O):=cQ m R A0 [.agg [.s b,.i c],cI a,.agg [.i d,.i e,.i f,.s g,.s h]] Tryz.func224
def zV(a v:Int):=cQ m R A0 [cI a,cI v] Tryz.func225
def vw(c d:O)(f:Int)(a:O)(b:Int):=cQ m R A0 [.agg [.s c,.s d],cI f,.agg [.s a,.i b]] Tryz.func226
def AB(c d:O)(e:Int)(f:O)(g:Int)(a:O)(b:Int):=cQ m R A0 [.agg [.s c,.s d,.i e,.s f,.i g],.agg [.s a,.i b]] Tryz.func227
def uU(a:O)(b:Int):=cQ m R ⟨[(4,[(3,.S),(4,.S),(5,.I)]),(13,[(7,.S),(8,.I)])],[],[(4,[74,73]),(13,[78,74,73])]⟩ [.agg [.s a,.i b]] Tryz.func228
def uw(d e a:O)(b c:Int):=cQ m R ⟨[(3,[(2,.I),(8,.I)]),(9,[(10,.S),(12,.I)])],[],[(3,[113,111,110]),(9,[116,113,111,110])]⟩ [.agg [.s d,.s e],.agg [.s a,.i b],cI c] Tryz.func229
def wD(c d a:O)(b:Int)(jy:O):=cQ m R ⟨[(3,[(8,.I)]),(8,[(10,.S),(11,.I)])],[],[(3,[67,65,64]),(8,[70,67,65,64])]⟩ [.agg [.s c,.s d],.agg [.s a,.i b],cS jy] Tryz.func230
def yI(cE:O)(a OA:Int):=cQ m R ⟨[(1,[(1,.I),(2,.I)])],[],[]⟩ [cS cE,cI a,cI OA] Tryz.func231
def uW(e:Nat×Nat)(a:Int):=cQ m R A0 [cP e,cI a] Tryz.func232
def wP(b:O)(a n:Int):=cQ m R A0 [cS b,cI a,cI n] Tryz.func233
def yD(a b:O):=cQ m R ⟨[(3,[(4,.I)])],[(8,[(7,.P)])],[(3,[51,50]),(8,[54,51,50])]⟩ [.agg [.s a,.s b]] Tryz.func234
def ql(r:Nat×Nat)(m:I)(R:Value->I->Prop):Prop:=
 let N:I:=m.push (.cells (br [.s O.nil,.s O.nil]) 101)
 aN bY 200 [vp r.1 r.2] N λcb b=>
 dV [m.size] N b/\
 ∃o:O,cb=O.v o/\
 let b8:I:=b.push (.cells (br [.s O.nil,.s O.nil]) 101)
 LN b.size b.size (
 let ab:I:=aj b8 b.size 0 [.s o,.s O.nil]
 let ai:I:=ab.push (.cells (br [.i (1:Int)]) 3)
 aN bY 248 [O.v (O.mk ab.size 0 1 1),vi (0:Int)] ai λcm F=>
 dV [b.size,m.size] ai F/\
 ∃ap:O,∃aI:Int,∃a0:Int,∃bg:Int,∃bz:O,cm=.agg #[O.v ap,vi aI,vi a0,vi bg,O.v bz]/\
 let an:I:=F.push (.cells (br [.i (1:Int),.i (1:Int)]) 3)
 aN bY 248 [O.v (O.mk F.size 0 2 2),vi (1:Int)] an λct H=>
 dV [b.size,m.size] an H/\
 ∃aq:O,∃aS:Int,∃a9:Int,∃bh:Int,∃bA:O,ct=.agg #[O.v aq,vi aS,vi a9,vi bh,O.v bA]/\
 let ao:I:=H.push (.cells (br [.i (1:Int)]) 3)
 aN bY 248 [O.v (O.mk H.size 0 1 1),vi (1:Int)] ao λcu J=>
 dV [b.size,m.size] ao J/\
 ∃aA:O,∃aT:Int,∃a_:Int,∃bp:Int,∃bI:O,cu=.agg #[O.v aA,vi aT,vi a_,vi bp,O.v bI]/\
 let P:I:=J.push (.cells (br [.i (1:Int),.i (0:Int)]) 3)
 aN bY 248 [O.v (O.mk J.size 0 2 2),vi (1:Int)] P λcv t=>
 dV [b.size,m.size] P t/\
 ∃aB:O,∃aU:Int,∃ba:Int,∃bq:Int,∃bJ:O,cv=.agg #[O.v aB,vi aU,vi ba,vi bq,O.v bJ]/\
 let Q:I:=t.push (.cells (br [.i (2:Int),.i (1:Int)]) 3)
 aN bY 248 [O.v (O.mk t.size 0 2 2),vi (1:Int)] Q λcw u=>
 dV [b.size,m.size] Q u/\
 ∃aC:O,∃aV:Int,∃bb:Int,∃bs:Int,∃bK:O,cw=.agg #[O.v aC,vi aV,vi bb,vi bs,O.v bK]/\
 let S:I:=u.push (.cells (br [.i (1:Int),.i (1:Int)]) 3)
 aN bY 248 [O.v (O.mk u.size 0 2 2),vi (0:Int)] S λcx a=>
 dV [b.size,m.size] S a/\
 ∃aD:O,∃aW:Int,∃bc:Int,∃bt:Int,∃bL:O,cx=.agg #[O.v aD,vi aW,vi bc,vi bt,O.v bL]/\
 let T:I:=a.push (.cells (br [.s ap,.i aI,.i a0,.i bg,.s bz,.s aq,.i aS,.i a9,.i bh,.s bA,.s aA,.i aT,.i a_,.i bp,.s bI,.s aB,.i aU,.i ba,.i bq,.s bJ,.s aC,.i aV,.i bb,.i bs,.s bK,.s aD,.i aW,.i bc,.i bt,.s bL]) 156)
 let U:I:=T.push (.cells (br [.i (3:Int)]) 3)
 aN bY 248 [O.v (O.mk T.size 0 1 1),vi (0:Int)] U λcc v=>
 dV [b.size,m.size] U v/\
 ∃aE:O,∃aX:Int,∃bd:Int,∃bu:Int,∃bM:O,cc=.agg #[O.v aE,vi aX,vi bd,vi bu,O.v bM]/\
 let V:I:=v.push (.cells (br [.i (0:Int)]) 3)
 aN bY 248 [O.v (O.mk v.size 0 1 1),vi (1:Int)] V λcd w=>
 dV [b.size,m.size] V w/\
 ∃aF:O,∃aY:Int,∃be:Int,∃bv:Int,∃bN:O,cd=.agg #[O.v aF,vi aY,vi be,vi bv,O.v bN]/\
 let W:I:=w.push (.cells (br [.i (0:Int),.i (1:Int)]) 3)
 aN bY 248 [O.v (O.mk w.size 0 2 2),vi (1:Int)] W λce x=>
 dV [b.size,m.size] W x/\
 ∃aG:O,∃aZ:Int,∃bf:Int,∃bw:Int,∃bO:O,ce=.agg #[O.v aG,vi aZ,vi bf,vi bw,O.v bO]/\
 let X:I:=x.push (.cells (br [.i (3:Int),.i (0:Int)]) 3)
 aN bY 248 [O.v (O.mk x.size 0 2 2),vi (3:Int)] X λcf y=>
 dV [b.size,m.size] X y/\
 ∃aH:O,∃aJ:Int,∃a1:Int,∃bx:Int,∃bP:O,cf=.agg #[O.v aH,vi aJ,vi a1,vi bx,O.v bP]/\
 let Y:I:=y.push (.cells (br [.i (3:Int)]) 3)
 aN bY 248 [O.v (O.mk y.size 0 1 1),vi (1:Int)] Y λcg z=>
 dV [b.size,m.size] Y z/\
 ∃ar:O,∃aK:Int,∃a2:Int,∃bi:Int,∃bB:O,cg=.agg #[O.v ar,vi aK,vi a2,vi bi,O.v bB]/\
 let Z:I:=z.push (.cells (br [.i (1:Int),.i (3:Int),.i (0:Int)]) 3)
 aN bY 248 [O.v (O.mk z.size 0 3 3),vi (0:Int)] Z λch d=>
 dV [b.size,m.size] Z d/\
 ∃au:O,∃aL:Int,∃a3:Int,∃bj:Int,∃bC:O,ch=.agg #[O.v au,vi aL,vi a3,vi bj,O.v bC]/\
 let aa:I:=d.push (.cells (br [.s aE,.i aX,.i bd,.i bu,.s bM,.s aF,.i aY,.i be,.i bv,.s bN,.s aG,.i aZ,.i bf,.i bw,.s bO,.s aH,.i aJ,.i a1,.i bx,.s bP,.s ar,.i aK,.i a2,.i bi,.s bB,.s au,.i aL,.i a3,.i bj,.s bC]) 156)
 let ac:I:=aa.push (.cells (br [.i (0:Int)]) 3)
 aN bY 248 [O.v (O.mk aa.size 0 1 1),vi (0:Int)] ac λci A=>
 dV [b.size,m.size] ac A/\
 ∃av:O,∃aM:Int,∃a4:Int,∃bk:Int,∃bD:O,ci=.agg #[O.v av,vi aM,vi a4,vi bk,O.v bD]/\
 let ad:I:=A.push (.cells (br [.i (0:Int),.i (0:Int)]) 3)
 aN bY 248 [O.v (O.mk A.size 0 2 2),vi (0:Int)] ad λcj B=>
 dV [b.size,m.size] ad B/\
 ∃aw:O,∃aO:Int,∃a5:Int,∃bl:Int,∃bE:O,cj=.agg #[O.v aw,vi aO,vi a5,vi bl,O.v bE]/\
 let ae:I:=B.push (.cells (br [.i (1:Int),.i (0:Int)]) 3)
 aN bY 248 [O.v (O.mk B.size 0 2 2),vi (0:Int)] ae λck C=>
 dV [b.size,m.size] ae C/\
 ∃ax:O,∃aP:Int,∃a6:Int,∃bm:Int,∃bF:O,ck=.agg #[O.v ax,vi aP,vi a6,vi bm,O.v bF]/\
 let af:I:=C.push (.cells (br [.i (0:Int)]) 3)
 aN bY 248 [O.v (O.mk C.size 0 1 1),vi (1:Int)] af λcl j=>
 dV [b.size,m.size] af j/\
 ∃ay:O,∃aQ:Int,∃a7:Int,∃bn:Int,∃bG:O,cl=.agg #[O.v ay,vi aQ,vi a7,vi bn,O.v bG]/\
 let ag:I:=j.push (.cells (br [.s av,.i aM,.i a4,.i bk,.s bD,.s aw,.i aO,.i a5,.i bl,.s bE,.s ax,.i aP,.i a6,.i bm,.s bF,.s ay,.i aQ,.i a7,.i bn,.s bG]) 156)
 let ah:I:=ag.push (.cells (br []) 3)
 aN bY 248 [O.v (O.mk ag.size 0 0 0),vi (0:Int)] ah λcn E=>
 dV [b.size,m.size] ah E/\
 ∃az:O,∃aR:Int,∃a8:Int,∃bo:Int,∃bH:O,cn=.agg #[O.v az,vi aR,vi a8,vi bo,O.v bH]/\
 aN bY 81 [vp r.1 r.2,vi ((O.mk a.size 0 6 6).len:Int)] E λco k=>
 dV [b.size,m.size] E k/\
 ∃e:Int,co=vi e/\
 (0:Int)<=e/\e<((O.mk a.size 0 6 6).len:Int)/\
 ∃bR:O,D k ((O.mk a.size 0 6 6).F) ((O.mk a.size 0 6 6).off+Int.toNat e*5)=some (O.v bR)/\
 ∃bS:Int,D k ((O.mk a.size 0 6 6).F) ((O.mk a.size 0 6 6).off+Int.toNat e*5+1)=some (vi bS)/\
 ∃bT:Int,D k ((O.mk a.size 0 6 6).F) ((O.mk a.size 0 6 6).off+Int.toNat e*5+2)=some (vi bT)/\
 ∃bU:Int,D k ((O.mk a.size 0 6 6).F) ((O.mk a.size 0 6 6).off+Int.toNat e*5+3)=some (vi bU)/\
 ∃bV:O,D k ((O.mk a.size 0 6 6).F) ((O.mk a.size 0 6 6).off+Int.toNat e*5+4)=some (O.v bV)/\
 aN bY 81 [vp r.1 r.2,vi ((O.mk d.size 0 6 6).len:Int)] k λcp f=>
 dV [b.size,m.size] k f/\
 ∃h:Int,cp=vi h/\
 D f ((O.mk a.size 0 6 6).F) ((O.mk a.size 0 6 6).off+Int.toNat e*5)=D k ((O.mk a.size 0 6 6).F) ((O.mk a.size 0 6 6).off+Int.toNat e*5)/\
 D f ((O.mk a.size 0 6 6).F) ((O.mk a.size 0 6 6).off+Int.toNat e*5+1)=D k ((O.mk a.size 0 6 6).F) ((O.mk a.size 0 6 6).off+Int.toNat e*5+1)/\
 D f ((O.mk a.size 0 6 6).F) ((O.mk a.size 0 6 6).off+Int.toNat e*5+2)=D k ((O.mk a.size 0 6 6).F) ((O.mk a.size 0 6 6).off+Int.toNat e*5+2)/\
 D f ((O.mk a.size 0 6 6).F) ((O.mk a.size 0 6 6).off+Int.toNat e*5+3)=D k ((O.mk a.size 0 6 6).F) ((O.mk a.size 0 6 6).off+Int.toNat e*5+3)/\
 D f ((O.mk a.size 0 6 6).F) ((O.mk a.size 0 6 6).off+Int.toNat e*5+4)=D k ((O.mk a.size 0 6 6).F) ((O.mk a.size 0 6 6).off+Int.toNat e*5+4)/\
 (0:Int)<=h/\h<((O.mk d.size 0 6 6).len:Int)/\
 ∃bW:O,D f ((O.mk d.size 0 6 6).F) ((O.mk d.size 0 6 6).off+Int.toNat h*5)=some (O.v bW)/\
 ∃bX:Int,D f ((O.mk d.size 0 6 6).F) ((O.mk d.size 0 6 6).off+Int.toNat h*5+1)=some (vi bX)/\
 ∃bZ:Int,D f ((O.mk d.size 0 6 6).F) ((O.mk d.size 0 6 6).off+Int.toNat h*5+2)=some (vi bZ)/\
 ∃b0:Int,D f ((O.mk d.size 0 6 6).F) ((O.mk d.size 0 6 6).off+Int.toNat h*5+3)=some (vi b0)/\
 ∃b1:O,D f ((O.mk d.size 0 6 6).F) ((O.mk d.size 0 6 6).off+Int.toNat h*5+4)=some (O.v b1)/\
 aN bY 81 [vp r.1 r.2,vi ((O.mk j.size 0 4 4).len:Int)] f λcq c=>
 dV [b.size,m.size] f c/\
 ∃n:Int,cq=vi n/\
 D c ((O.mk d.size 0 6 6).F) ((O.mk d.size 0 6 6).off+Int.toNat h*5)=D f ((O.mk d.size 0 6 6).F) ((O.mk d.size 0 6 6).off+Int.toNat h*5)/\
 D c ((O.mk d.size 0 6 6).F) ((O.mk d.size 0 6 6).off+Int.toNat h*5+1)=D f ((O.mk d.size 0 6 6).F) ((O.mk d.size 0 6 6).off+Int.toNat h*5+1)/\
 D c ((O.mk d.size 0 6 6).F) ((O.mk d.size 0 6 6).off+Int.toNat h*5+2)=D f ((O.mk d.size 0 6 6).F) ((O.mk d.size 0 6 6).off+Int.toNat h*5+2)/\
 D c ((O.mk d.size 0 6 6).F) ((O.mk d.size 0 6 6).off+Int.toNat h*5+3)=D f ((O.mk d.size 0 6 6).F) ((O.mk d.size 0 6 6).off+Int.toNat h*5+3)/\
 D c ((O.mk d.size 0 6 6).F) ((O.mk d.size 0 6 6).off+Int.toNat h*5+4)=D f ((O.mk d.size 0 6 6).F) ((O.mk d.size 0 6 6).off+Int.toNat h*5+4)/\
 D c ((O.mk a.size 0 6 6).F) ((O.mk a.size 0 6 6).off+Int.toNat e*5)=D f ((O.mk a.size 0 6 6).F) ((O.mk a.size 0 6 6).off+Int.toNat e*5)/\
 D c ((O.mk a.size 0 6 6).F) ((O.mk a.size 0 6 6).off+Int.toNat e*5+1)=D f ((O.mk a.size 0 6 6).F) ((O.mk a.size 0 6 6).off+Int.toNat e*5+1)/\
 D c ((O.mk a.size 0 6 6).F) ((O.mk a.size 0 6 6).off+Int.toNat e*5+2)=D f ((O.mk a.size 0 6 6).F) ((O.mk a.size 0 6 6).off+Int.toNat e*5+2)/\
 D c ((O.mk a.size 0 6 6).F) ((O.mk a.size 0 6 6).off+Int.toNat e*5+3)=D f ((O.mk a.size 0 6 6).F) ((O.mk a.size 0 6 6).off+Int.toNat e*5+3)/\
 D c ((O.mk a.size 0 6 6).F) ((O.mk a.size 0 6 6).off+Int.toNat e*5+4)=D f ((O.mk a.size 0 6 6).F) ((O.mk a.size 0 6 6).off+Int.toNat e*5+4)/\
 (0:Int)<=n/\n<((O.mk j.size 0 4 4).len:Int)/\
 ∃b2:O,D c ((O.mk j.size 0 4 4).F) ((O.mk j.size 0 4 4).off+Int.toNat n*5)=some (O.v b2)/\
 ∃b3:Int,D c ((O.mk j.size 0 4 4).F) ((O.mk j.size 0 4 4).off+Int.toNat n*5+1)=some (vi b3)/\
 ∃b4:Int,D c ((O.mk j.size 0 4 4).F) ((O.mk j.size 0 4 4).off+Int.toNat n*5+2)=some (vi b4)/\
 ∃b5:Int,D c ((O.mk j.size 0 4 4).F) ((O.mk j.size 0 4 4).off+Int.toNat n*5+3)=some (vi b5)/\
 ∃b6:O,D c ((O.mk j.size 0 4 4).F) ((O.mk j.size 0 4 4).off+Int.toNat n*5+4)=some (O.v b6)/\
 let b9:I:=c.push (.cells (br [.s az,.i aR,.i a8,.i bo,.s bH,.s bR,.i bS,.i bT,.i bU,.s bV,.s bW,.i bX,.i bZ,.i b0,.s b1,.s b2,.i b3,.i b4,.i b5,.s b6]) 156)
 LN b.size b.size (
 let ak:I:=aj b9 b.size 1 [.s (O.mk c.size 0 4 4)]
 let al:I:=ak.push (.cells (br [.i (4:Int),.i (4:Int),.i (3:Int),.i (2:Int),.i (4:Int)]) 3)
 aN bY 84 [vp r.1 r.2,O.v (O.mk ak.size 0 5 5)] al λcr am=>
 dV [b.size,m.size] al am/\
 ∃g:Int,cr=vi g/\
 LN b.size b.size (
 (0:Int)<=(0:Int)/\(0:Int)<=g/\g<=((O.mk c.size 0 4 4).cap:Int)/\
 LN b.size b.size (
 let b_:I:=aj am b.size 1 [.s (O.cut (O.mk c.size 0 4 4) (Int.toNat (0:Int)) (Int.toNat g) 5)]
 ∃(s:Int->I->Prop)(μ0:Int->I->Nat),
 s (cK (g -(1:Int))) b_/\
 (∀(i:Int)(p:I),s i p->
 ((decide (i>=(0:Int)))=true->
 LN b.size b.size (
 aN bY 249 [vp r.1 r.2,.agg #[O.v o,O.v (O.cut (O.mk c.size 0 4 4) (Int.toNat (0:Int)) (Int.toNat g) 5)],vi i] p λcs l=>
 dV [b.size,m.size] p l/\
 ∃K:Int,∃L:Int,∃M:O,cs=.agg #[vi K,vi L,O.v M]/\
 let ca:I:=l.push (.cells (br [.i (0:Int),.i (0:Int),.s O.nil]) 154)
 LN l.size l.size (
 let q:I:=aj ca l.size 0 [.i K,.i L,.s M]
 LN b.size b.size (
 LN b.size b.size (
 (0:Int)<=i/\i<((O.cut (O.mk c.size 0 4 4) (Int.toNat (0:Int)) (Int.toNat g) 5).len:Int)/\
 ∃b7:O,D q ((O.cut (O.mk c.size 0 4 4) (Int.toNat (0:Int)) (Int.toNat g) 5).F) ((O.cut (O.mk c.size 0 4 4) (Int.toNat (0:Int)) (Int.toNat g) 5).off+Int.toNat i*5)=some (O.v b7)/\
 LN b.size b.size (
 (0:Int)<=i/\i<((O.cut (O.mk c.size 0 4 4) (Int.toNat (0:Int)) (Int.toNat g) 5).len:Int)/\
 ∃bQ:Int,D q ((O.cut (O.mk c.size 0 4 4) (Int.toNat (0:Int)) (Int.toNat g) 5).F) ((O.cut (O.mk c.size 0 4 4) (Int.toNat (0:Int)) (Int.toNat g) 5).off+Int.toNat i*5+1)=some (vi bQ)/\
 LN l.size l.size (
 (0:Int)<=i/\i<((O.cut (O.mk c.size 0 4 4) (Int.toNat (0:Int)) (Int.toNat g) 5).len:Int)/\
 fm q ((O.cut (O.mk c.size 0 4 4) (Int.toNat (0:Int)) (Int.toNat g) 5).F) ((O.cut (O.mk c.size 0 4 4) (Int.toNat (0:Int)) (Int.toNat g) 5).off+Int.toNat i*5) 5/\
 let G:I:=aj q ((O.cut (O.mk c.size 0 4 4) (Int.toNat (0:Int)) (Int.toNat g) 5).F) ((O.cut (O.mk c.size 0 4 4) (Int.toNat (0:Int)) (Int.toNat g) 5).off+Int.toNat i*5) [.s b7,.i bQ,.i K,.i L,.s M]
 dV [l.size,b.size,m.size] q G/\
 Vt (SV.box b.size 101 [.s o,.s (O.cut (O.mk c.size 0 4 4) (Int.toNat (0:Int)) (Int.toNat g) 5)]) (SV.box b.size 101 [.s o,.s (O.cut (O.mk c.size 0 4 4) (Int.toNat (0:Int)) (Int.toNat g) 5)]) (
 Vt (SV.box m.size 101 [.s O.nil,.s O.nil]) (SV.box m.size 101 [.s O.nil,.s O.nil]) (
 s (cK (i -(1:Int))) G/\μ0 (cK (i -(1:Int))) G<μ0 i p)))))))))/\
 ((decide (i>=(0:Int)))=false->
 LN b.size b.size (
 LN m.size m.size (
 let l:I:=aj p m.size 0 [.s o,.s (O.cut (O.mk c.size 0 4 4) (Int.toNat (0:Int)) (Int.toNat g) 5)]
 LN m.size m.size (
 R (.agg #[O.v o,O.v (O.cut (O.mk c.size 0 4 4) (Int.toNat (0:Int)) (Int.toNat g) 5)]) l)))))))))
def uZ(r:Nat×Nat)(m:I)(R:Value->I->Prop)(a:ql r m R):aN bY 235 [vp r.1 r.2] m R:=
 CD (o:=⟨[(9,[(8,.I)])],[],[(9,[113,112])]⟩) (d:=110) (r:=[.cell 2 101]) (a:=[.c (.p r.1 r.2)]) OK Xk XB Tryz.func235 (m:=NZ Tryz.f235) (by kernel_rfl) (by kernel_rfl) (by kernel_rfl) (by kernel_rfl) E (by kernel_rfl) (Eq.mp (by kernel_rfl) a)
def Ah(a b:O):=cQ m R ⟨[(3,[(4,.I)]),(7,[(5,.S),(6,.I)])],[],[(3,[35,34]),(7,[35,34])]⟩ [.agg [.s a,.s b]] Tryz.func236
def xY(a b c d:O)(e:Int)(f:O)(g:Int):=cQ m R ⟨[(5,[(6,.S),(7,.S),(8,.I)])],[],[(5,[69,68,67])]⟩ [.agg [.s a,.s b],.agg [.s c,.s d,.i e,.s f,.i g]] Tryz.func237
def yv(d e f a:O)(b:Int)(c:O):=cQ m R ⟨[(5,[(9,.S),(10,.S),(11,.S),(12,.I)])],[],[(5,[88,86,84])]⟩ [.agg [.s d,.s e],cS f,.agg [.s a,.i b],cS c] Tryz.func238
end
end Go.Proofs.YtgnjacfobdjeeaaGreat
