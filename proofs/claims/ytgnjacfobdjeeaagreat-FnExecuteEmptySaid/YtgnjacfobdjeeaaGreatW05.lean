/- Part of a proof, joined by a program. -/
import Derived.Test.YtgnjacfobdjeeaaGreatW02
set_option linter.unusedVariables false
set_option linter.unusedSimpArgs false
set_option linter.defProp false
set_option linter.constructorNameAsVariable false
set_option maxHeartbeats 8000000
set_option maxRecDepth 100000
namespace Go.Proofs.YtgnjacfobdjeeaaGreat
open Go.Vc
section
variable{m:I}{R:Value->I->Prop}
def Ji(a b:O):=cX m R ⟨[(3,[(4,.I)])],[],[(3,[41,40])]⟩ [.agg [.s a,.s b]] Tryz.func221
def xc(a b:O)(f k:Int):=cX m R ⟨[(5,[(9,.I)])],[],[(5,[67])]⟩ [.agg [.s a,.s b],cI f,cI k] Tryz.func222
def wa(l:Nat×Nat)(v:Int):=cX m R ⟨[(1,[(1,.I)])],[],[]⟩ [cP l,cI v] Tryz.func223
def Ej(b:O)(c a d e f:Int)(g h:O):=cX m R A0 [.agg [.s b,.i c],cI a,.agg [.i d,.i e,.i f,.s g,.s h]] Tryz.func224
def BZ(a v:Int):=cX m R A0 [cI a,cI v] Tryz.func225
def xB(c d:O)(f:Int)(a:O)(b:Int):=cX m R A0 [.agg [.s c,.s d],cI f,.agg [.s a,.i b]] Tryz.func226
def CE(c d:O)(e:Int)(f:O)(g:Int)(a:O)(b:Int):=cX m R A0 [.agg [.s c,.s d,.i e,.s f,.i g],.agg [.s a,.i b]] Tryz.func227
def wV(a:O)(b:Int):=cX m R ⟨[(4,[(3,.S),(4,.S),(5,.I)]),(13,[(7,.S),(8,.I)])],[],[(4,[74,73]),(13,[78,74,73])]⟩ [.agg [.s a,.i b]] Tryz.func228
def wo(d e a:O)(b c:Int):=cX m R ⟨[(3,[(2,.I),(8,.I)]),(9,[(10,.S),(12,.I)])],[],[(3,[113,111,110]),(9,[116,113,111,110])]⟩ [.agg [.s d,.s e],.agg [.s a,.i b],cI c] Tryz.func229
def yN(c d a:O)(b:Int)(kj:O):=cX m R ⟨[(3,[(8,.I)]),(8,[(10,.S),(11,.I)])],[],[(3,[67,65,64]),(8,[70,67,65,64])]⟩ [.agg [.s c,.s d],.agg [.s a,.i b],cS kj] Tryz.func230
def AJ(cL:O)(a MM:Int):=cX m R ⟨[(1,[(1,.I),(2,.I)])],[],[]⟩ [cS cL,cI a,cI MM] Tryz.func231
def wX(e:Nat×Nat)(a:Int):=cX m R A0 [cP e,cI a] Tryz.func232
def yW(b:O)(a n:Int):=cX m R A0 [cS b,cI a,cI n] Tryz.func233
def AE(a b:O):=cX m R ⟨[(3,[(4,.I)])],[(8,[(7,.P)])],[(3,[51,50]),(8,[54,51,50])]⟩ [.agg [.s a,.s b]] Tryz.func234
def rX(r:Nat×Nat)(m:I)(R:Value->I->Prop):Prop:=
 let M:I:=m.push (.cells (bG [.s O.nil,.s O.nil]) 101)
 aO cw 200 [vp r.1 r.2] M λca b=>
 eE [m.size] M b/\
 ∃o:O,ca=O.v o/\
 let b7:I:=b.push (.cells (bG [.s O.nil,.s O.nil]) 101)
 LA b.size b.size (
 let aa:I:=ai b7 b.size 0 [.s o,.s O.nil]
 let aj:I:=aa.push (.cells (bG [.i (1:Int)]) 3)
 aO cw 248 [O.v (O.mk aa.size 0 1 1),vi (0:Int)] aj λcl E=>
 eE [b.size,m.size] aj E/\
 ∃ap:O,∃aI:Int,∃a0:Int,∃bg:Int,∃bx:O,cl=.agg #[O.v ap,vi aI,vi a0,vi bg,O.v bx]/\
 let an:I:=E.push (.cells (bG [.i (1:Int),.i (1:Int)]) 3)
 aO cw 248 [O.v (O.mk E.size 0 2 2),vi (1:Int)] an λcs G=>
 eE [b.size,m.size] an G/\
 ∃aq:O,∃aS:Int,∃a9:Int,∃bh:Int,∃bz:O,cs=.agg #[O.v aq,vi aS,vi a9,vi bh,O.v bz]/\
 let ao:I:=G.push (.cells (bG [.i (1:Int)]) 3)
 aO cw 248 [O.v (O.mk G.size 0 1 1),vi (1:Int)] ao λct H=>
 eE [b.size,m.size] ao H/\
 ∃aA:O,∃aT:Int,∃a_:Int,∃bp:Int,∃bI:O,ct=.agg #[O.v aA,vi aT,vi a_,vi bp,O.v bI]/\
 let N:I:=H.push (.cells (bG [.i (1:Int),.i (0:Int)]) 3)
 aO cw 248 [O.v (O.mk H.size 0 2 2),vi (1:Int)] N λcu t=>
 eE [b.size,m.size] N t/\
 ∃aB:O,∃aU:Int,∃ba:Int,∃bq:Int,∃bJ:O,cu=.agg #[O.v aB,vi aU,vi ba,vi bq,O.v bJ]/\
 let P:I:=t.push (.cells (bG [.i (2:Int),.i (1:Int)]) 3)
 aO cw 248 [O.v (O.mk t.size 0 2 2),vi (1:Int)] P λcv u=>
 eE [b.size,m.size] P u/\
 ∃aC:O,∃aV:Int,∃bb:Int,∃br:Int,∃bK:O,cv=.agg #[O.v aC,vi aV,vi bb,vi br,O.v bK]/\
 let Q:I:=u.push (.cells (bG [.i (1:Int),.i (1:Int)]) 3)
 aO cw 248 [O.v (O.mk u.size 0 2 2),vi (0:Int)] Q λcx a=>
 eE [b.size,m.size] Q a/\
 ∃aD:O,∃aW:Int,∃bc:Int,∃bs:Int,∃bL:O,cx=.agg #[O.v aD,vi aW,vi bc,vi bs,O.v bL]/\
 let S:I:=a.push (.cells (bG [.s ap,.i aI,.i a0,.i bg,.s bx,.s aq,.i aS,.i a9,.i bh,.s bz,.s aA,.i aT,.i a_,.i bp,.s bI,.s aB,.i aU,.i ba,.i bq,.s bJ,.s aC,.i aV,.i bb,.i br,.s bK,.s aD,.i aW,.i bc,.i bs,.s bL]) 156)
 let T:I:=S.push (.cells (bG [.i (3:Int)]) 3)
 aO cw 248 [O.v (O.mk S.size 0 1 1),vi (0:Int)] T λcb v=>
 eE [b.size,m.size] T v/\
 ∃aE:O,∃aX:Int,∃bd:Int,∃bt:Int,∃bM:O,cb=.agg #[O.v aE,vi aX,vi bd,vi bt,O.v bM]/\
 let U:I:=v.push (.cells (bG [.i (0:Int)]) 3)
 aO cw 248 [O.v (O.mk v.size 0 1 1),vi (1:Int)] U λcc w=>
 eE [b.size,m.size] U w/\
 ∃aF:O,∃aY:Int,∃be:Int,∃bu:Int,∃bN:O,cc=.agg #[O.v aF,vi aY,vi be,vi bu,O.v bN]/\
 let V:I:=w.push (.cells (bG [.i (0:Int),.i (1:Int)]) 3)
 aO cw 248 [O.v (O.mk w.size 0 2 2),vi (1:Int)] V λcd x=>
 eE [b.size,m.size] V x/\
 ∃aG:O,∃aZ:Int,∃bf:Int,∃bv:Int,∃bO:O,cd=.agg #[O.v aG,vi aZ,vi bf,vi bv,O.v bO]/\
 let W:I:=x.push (.cells (bG [.i (3:Int),.i (0:Int)]) 3)
 aO cw 248 [O.v (O.mk x.size 0 2 2),vi (3:Int)] W λce y=>
 eE [b.size,m.size] W y/\
 ∃aH:O,∃aJ:Int,∃a1:Int,∃bw:Int,∃bP:O,ce=.agg #[O.v aH,vi aJ,vi a1,vi bw,O.v bP]/\
 let X:I:=y.push (.cells (bG [.i (3:Int)]) 3)
 aO cw 248 [O.v (O.mk y.size 0 1 1),vi (1:Int)] X λcf z=>
 eE [b.size,m.size] X z/\
 ∃ar:O,∃aK:Int,∃a2:Int,∃bi:Int,∃bA:O,cf=.agg #[O.v ar,vi aK,vi a2,vi bi,O.v bA]/\
 let Y:I:=z.push (.cells (bG [.i (1:Int),.i (3:Int),.i (0:Int)]) 3)
 aO cw 248 [O.v (O.mk z.size 0 3 3),vi (0:Int)] Y λcg d=>
 eE [b.size,m.size] Y d/\
 ∃au:O,∃aL:Int,∃a3:Int,∃bj:Int,∃bB:O,cg=.agg #[O.v au,vi aL,vi a3,vi bj,O.v bB]/\
 let Z:I:=d.push (.cells (bG [.s aE,.i aX,.i bd,.i bt,.s bM,.s aF,.i aY,.i be,.i bu,.s bN,.s aG,.i aZ,.i bf,.i bv,.s bO,.s aH,.i aJ,.i a1,.i bw,.s bP,.s ar,.i aK,.i a2,.i bi,.s bA,.s au,.i aL,.i a3,.i bj,.s bB]) 156)
 let ab:I:=Z.push (.cells (bG [.i (0:Int)]) 3)
 aO cw 248 [O.v (O.mk Z.size 0 1 1),vi (0:Int)] ab λch A=>
 eE [b.size,m.size] ab A/\
 ∃av:O,∃aM:Int,∃a4:Int,∃bk:Int,∃bC:O,ch=.agg #[O.v av,vi aM,vi a4,vi bk,O.v bC]/\
 let ac:I:=A.push (.cells (bG [.i (0:Int),.i (0:Int)]) 3)
 aO cw 248 [O.v (O.mk A.size 0 2 2),vi (0:Int)] ac λci B=>
 eE [b.size,m.size] ac B/\
 ∃aw:O,∃aN:Int,∃a5:Int,∃bl:Int,∃bD:O,ci=.agg #[O.v aw,vi aN,vi a5,vi bl,O.v bD]/\
 let ad:I:=B.push (.cells (bG [.i (1:Int),.i (0:Int)]) 3)
 aO cw 248 [O.v (O.mk B.size 0 2 2),vi (0:Int)] ad λcj C=>
 eE [b.size,m.size] ad C/\
 ∃ax:O,∃aP:Int,∃a6:Int,∃bm:Int,∃bE:O,cj=.agg #[O.v ax,vi aP,vi a6,vi bm,O.v bE]/\
 let ae:I:=C.push (.cells (bG [.i (0:Int)]) 3)
 aO cw 248 [O.v (O.mk C.size 0 1 1),vi (1:Int)] ae λck j=>
 eE [b.size,m.size] ae j/\
 ∃ay:O,∃aQ:Int,∃a7:Int,∃bn:Int,∃bF:O,ck=.agg #[O.v ay,vi aQ,vi a7,vi bn,O.v bF]/\
 let ag:I:=j.push (.cells (bG [.s av,.i aM,.i a4,.i bk,.s bC,.s aw,.i aN,.i a5,.i bl,.s bD,.s ax,.i aP,.i a6,.i bm,.s bE,.s ay,.i aQ,.i a7,.i bn,.s bF]) 156)
 let ah:I:=ag.push (.cells (bG []) 3)
 aO cw 248 [O.v (O.mk ag.size 0 0 0),vi (0:Int)] ah λcm D=>
 eE [b.size,m.size] ah D/\
 ∃az:O,∃aR:Int,∃a8:Int,∃bo:Int,∃bH:O,cm=.agg #[O.v az,vi aR,vi a8,vi bo,O.v bH]/\
 aO cw 81 [vp r.1 r.2,vi ((O.mk a.size 0 6 6).len:Int)] D λcn k=>
 eE [b.size,m.size] D k/\
 ∃e:Int,cn=vi e/\
 (0:Int)<=e/\e<((O.mk a.size 0 6 6).len:Int)/\
 ∃bR:O,af k ((O.mk a.size 0 6 6).F) ((O.mk a.size 0 6 6).off+Int.toNat e*5)=some (O.v bR)/\
 ∃bS:Int,af k ((O.mk a.size 0 6 6).F) ((O.mk a.size 0 6 6).off+Int.toNat e*5+1)=some (vi bS)/\
 ∃bT:Int,af k ((O.mk a.size 0 6 6).F) ((O.mk a.size 0 6 6).off+Int.toNat e*5+2)=some (vi bT)/\
 ∃bU:Int,af k ((O.mk a.size 0 6 6).F) ((O.mk a.size 0 6 6).off+Int.toNat e*5+3)=some (vi bU)/\
 ∃bV:O,af k ((O.mk a.size 0 6 6).F) ((O.mk a.size 0 6 6).off+Int.toNat e*5+4)=some (O.v bV)/\
 aO cw 81 [vp r.1 r.2,vi ((O.mk d.size 0 6 6).len:Int)] k λco f=>
 eE [b.size,m.size] k f/\
 ∃h:Int,co=vi h/\
 af f ((O.mk a.size 0 6 6).F) ((O.mk a.size 0 6 6).off+Int.toNat e*5)=af k ((O.mk a.size 0 6 6).F) ((O.mk a.size 0 6 6).off+Int.toNat e*5)/\
 af f ((O.mk a.size 0 6 6).F) ((O.mk a.size 0 6 6).off+Int.toNat e*5+1)=af k ((O.mk a.size 0 6 6).F) ((O.mk a.size 0 6 6).off+Int.toNat e*5+1)/\
 af f ((O.mk a.size 0 6 6).F) ((O.mk a.size 0 6 6).off+Int.toNat e*5+2)=af k ((O.mk a.size 0 6 6).F) ((O.mk a.size 0 6 6).off+Int.toNat e*5+2)/\
 af f ((O.mk a.size 0 6 6).F) ((O.mk a.size 0 6 6).off+Int.toNat e*5+3)=af k ((O.mk a.size 0 6 6).F) ((O.mk a.size 0 6 6).off+Int.toNat e*5+3)/\
 af f ((O.mk a.size 0 6 6).F) ((O.mk a.size 0 6 6).off+Int.toNat e*5+4)=af k ((O.mk a.size 0 6 6).F) ((O.mk a.size 0 6 6).off+Int.toNat e*5+4)/\
 (0:Int)<=h/\h<((O.mk d.size 0 6 6).len:Int)/\
 ∃bW:O,af f ((O.mk d.size 0 6 6).F) ((O.mk d.size 0 6 6).off+Int.toNat h*5)=some (O.v bW)/\
 ∃bX:Int,af f ((O.mk d.size 0 6 6).F) ((O.mk d.size 0 6 6).off+Int.toNat h*5+1)=some (vi bX)/\
 ∃bY:Int,af f ((O.mk d.size 0 6 6).F) ((O.mk d.size 0 6 6).off+Int.toNat h*5+2)=some (vi bY)/\
 ∃bZ:Int,af f ((O.mk d.size 0 6 6).F) ((O.mk d.size 0 6 6).off+Int.toNat h*5+3)=some (vi bZ)/\
 ∃b0:O,af f ((O.mk d.size 0 6 6).F) ((O.mk d.size 0 6 6).off+Int.toNat h*5+4)=some (O.v b0)/\
 aO cw 81 [vp r.1 r.2,vi ((O.mk j.size 0 4 4).len:Int)] f λcp c=>
 eE [b.size,m.size] f c/\
 ∃n:Int,cp=vi n/\
 af c ((O.mk d.size 0 6 6).F) ((O.mk d.size 0 6 6).off+Int.toNat h*5)=af f ((O.mk d.size 0 6 6).F) ((O.mk d.size 0 6 6).off+Int.toNat h*5)/\
 af c ((O.mk d.size 0 6 6).F) ((O.mk d.size 0 6 6).off+Int.toNat h*5+1)=af f ((O.mk d.size 0 6 6).F) ((O.mk d.size 0 6 6).off+Int.toNat h*5+1)/\
 af c ((O.mk d.size 0 6 6).F) ((O.mk d.size 0 6 6).off+Int.toNat h*5+2)=af f ((O.mk d.size 0 6 6).F) ((O.mk d.size 0 6 6).off+Int.toNat h*5+2)/\
 af c ((O.mk d.size 0 6 6).F) ((O.mk d.size 0 6 6).off+Int.toNat h*5+3)=af f ((O.mk d.size 0 6 6).F) ((O.mk d.size 0 6 6).off+Int.toNat h*5+3)/\
 af c ((O.mk d.size 0 6 6).F) ((O.mk d.size 0 6 6).off+Int.toNat h*5+4)=af f ((O.mk d.size 0 6 6).F) ((O.mk d.size 0 6 6).off+Int.toNat h*5+4)/\
 af c ((O.mk a.size 0 6 6).F) ((O.mk a.size 0 6 6).off+Int.toNat e*5)=af f ((O.mk a.size 0 6 6).F) ((O.mk a.size 0 6 6).off+Int.toNat e*5)/\
 af c ((O.mk a.size 0 6 6).F) ((O.mk a.size 0 6 6).off+Int.toNat e*5+1)=af f ((O.mk a.size 0 6 6).F) ((O.mk a.size 0 6 6).off+Int.toNat e*5+1)/\
 af c ((O.mk a.size 0 6 6).F) ((O.mk a.size 0 6 6).off+Int.toNat e*5+2)=af f ((O.mk a.size 0 6 6).F) ((O.mk a.size 0 6 6).off+Int.toNat e*5+2)/\
 af c ((O.mk a.size 0 6 6).F) ((O.mk a.size 0 6 6).off+Int.toNat e*5+3)=af f ((O.mk a.size 0 6 6).F) ((O.mk a.size 0 6 6).off+Int.toNat e*5+3)/\
 af c ((O.mk a.size 0 6 6).F) ((O.mk a.size 0 6 6).off+Int.toNat e*5+4)=af f ((O.mk a.size 0 6 6).F) ((O.mk a.size 0 6 6).off+Int.toNat e*5+4)/\
 (0:Int)<=n/\n<((O.mk j.size 0 4 4).len:Int)/\
 ∃b1:O,af c ((O.mk j.size 0 4 4).F) ((O.mk j.size 0 4 4).off+Int.toNat n*5)=some (O.v b1)/\
 ∃b2:Int,af c ((O.mk j.size 0 4 4).F) ((O.mk j.size 0 4 4).off+Int.toNat n*5+1)=some (vi b2)/\
 ∃b3:Int,af c ((O.mk j.size 0 4 4).F) ((O.mk j.size 0 4 4).off+Int.toNat n*5+2)=some (vi b3)/\
 ∃b4:Int,af c ((O.mk j.size 0 4 4).F) ((O.mk j.size 0 4 4).off+Int.toNat n*5+3)=some (vi b4)/\
 ∃b5:O,af c ((O.mk j.size 0 4 4).F) ((O.mk j.size 0 4 4).off+Int.toNat n*5+4)=some (O.v b5)/\
 let b8:I:=c.push (.cells (bG [.s az,.i aR,.i a8,.i bo,.s bH,.s bR,.i bS,.i bT,.i bU,.s bV,.s bW,.i bX,.i bY,.i bZ,.s b0,.s b1,.i b2,.i b3,.i b4,.s b5]) 156)
 LA b.size b.size (
 let ak:I:=ai b8 b.size 1 [.s (O.mk c.size 0 4 4)]
 let al:I:=ak.push (.cells (bG [.i (4:Int),.i (4:Int),.i (3:Int),.i (2:Int),.i (4:Int)]) 3)
 aO cw 84 [vp r.1 r.2,O.v (O.mk ak.size 0 5 5)] al λcq am=>
 eE [b.size,m.size] al am/\
 ∃g:Int,cq=vi g/\
 LA b.size b.size (
 (0:Int)<=(0:Int)/\(0:Int)<=g/\g<=((O.mk c.size 0 4 4).cap:Int)/\
 LA b.size b.size (
 let b9:I:=ai am b.size 1 [.s (O.cut (O.mk c.size 0 4 4) (Int.toNat (0:Int)) (Int.toNat g) 5)]
 ∃(s:Int->I->Prop)(μ0:Int->I->Nat),
 s (cW (g -(1:Int))) b9/\
 (∀(i:Int)(p:I),s i p->
 ((decide (i>=(0:Int)))=true->
 LA b.size b.size (
 aO cw 249 [vp r.1 r.2,.agg #[O.v o,O.v (O.cut (O.mk c.size 0 4 4) (Int.toNat (0:Int)) (Int.toNat g) 5)],vi i] p λcr l=>
 eE [b.size,m.size] p l/\
 ∃J:Int,∃K:Int,∃L:O,cr=.agg #[vi J,vi K,O.v L]/\
 let b_:I:=l.push (.cells (bG [.i (0:Int),.i (0:Int),.s O.nil]) 154)
 LA l.size l.size (
 let q:I:=ai b_ l.size 0 [.i J,.i K,.s L]
 LA b.size b.size (
 LA b.size b.size (
 (0:Int)<=i/\i<((O.cut (O.mk c.size 0 4 4) (Int.toNat (0:Int)) (Int.toNat g) 5).len:Int)/\
 ∃b6:O,af q ((O.cut (O.mk c.size 0 4 4) (Int.toNat (0:Int)) (Int.toNat g) 5).F) ((O.cut (O.mk c.size 0 4 4) (Int.toNat (0:Int)) (Int.toNat g) 5).off+Int.toNat i*5)=some (O.v b6)/\
 LA b.size b.size (
 (0:Int)<=i/\i<((O.cut (O.mk c.size 0 4 4) (Int.toNat (0:Int)) (Int.toNat g) 5).len:Int)/\
 ∃bQ:Int,af q ((O.cut (O.mk c.size 0 4 4) (Int.toNat (0:Int)) (Int.toNat g) 5).F) ((O.cut (O.mk c.size 0 4 4) (Int.toNat (0:Int)) (Int.toNat g) 5).off+Int.toNat i*5+1)=some (vi bQ)/\
 LA l.size l.size (
 (0:Int)<=i/\i<((O.cut (O.mk c.size 0 4 4) (Int.toNat (0:Int)) (Int.toNat g) 5).len:Int)/\
 fH q ((O.cut (O.mk c.size 0 4 4) (Int.toNat (0:Int)) (Int.toNat g) 5).F) ((O.cut (O.mk c.size 0 4 4) (Int.toNat (0:Int)) (Int.toNat g) 5).off+Int.toNat i*5) 5/\
 let F:I:=ai q ((O.cut (O.mk c.size 0 4 4) (Int.toNat (0:Int)) (Int.toNat g) 5).F) ((O.cut (O.mk c.size 0 4 4) (Int.toNat (0:Int)) (Int.toNat g) 5).off+Int.toNat i*5) [.s b6,.i bQ,.i J,.i K,.s L]
 eE [l.size,b.size,m.size] q F/\
 Wd (SV.box b.size 101 [.s o,.s (O.cut (O.mk c.size 0 4 4) (Int.toNat (0:Int)) (Int.toNat g) 5)]) (SV.box b.size 101 [.s o,.s (O.cut (O.mk c.size 0 4 4) (Int.toNat (0:Int)) (Int.toNat g) 5)]) (
 Wd (SV.box m.size 101 [.s O.nil,.s O.nil]) (SV.box m.size 101 [.s O.nil,.s O.nil]) (
 s (cW (i -(1:Int))) F/\μ0 (cW (i -(1:Int))) F<μ0 i p)))))))))/\
 ((decide (i>=(0:Int)))=false->
 LA b.size b.size (
 LA m.size m.size (
 let l:I:=ai p m.size 0 [.s o,.s (O.cut (O.mk c.size 0 4 4) (Int.toNat (0:Int)) (Int.toNat g) 5)]
 LA m.size m.size (
 R (.agg #[O.v o,O.v (O.cut (O.mk c.size 0 4 4) (Int.toNat (0:Int)) (Int.toNat g) 5)]) l)))))))))
def wZ(r:Nat×Nat)(m:I)(R:Value->I->Prop)(a:rX r m R):aO cw 235 [vp r.1 r.2] m R:=
 xF (o:=⟨[(9,[(8,.I)])],[],[(9,[113,112])]⟩) (d:=110) (r:=[.cell 2 101]) (a:=[.c (.p r.1 r.2)]) NY YK YL Tryz.func235 (m:=Nl Tryz.f235) (by kernel_rfl) (by kernel_rfl) (by kernel_rfl) (by kernel_rfl) D (by kernel_rfl) (Eq.mp (by kernel_rfl) a)
def Cl(a b:O):=cX m R ⟨[(3,[(4,.I)]),(7,[(5,.S),(6,.I)])],[],[(3,[35,34]),(7,[35,34])]⟩ [.agg [.s a,.s b]] Tryz.func236
def Ag(a b c d:O)(e:Int)(f:O)(g:Int):=cX m R ⟨[(5,[(6,.S),(7,.S),(8,.I)])],[],[(5,[69,68,67])]⟩ [.agg [.s a,.s b],.agg [.s c,.s d,.i e,.s f,.i g]] Tryz.func237
def Au(d e f a:O)(b:Int)(c:O):=cX m R ⟨[(5,[(9,.S),(10,.S),(11,.S),(12,.I)])],[],[(5,[88,86,84])]⟩ [.agg [.s d,.s e],cS f,.agg [.s a,.i b],cS c] Tryz.func238
end
end Go.Proofs.YtgnjacfobdjeeaaGreat
