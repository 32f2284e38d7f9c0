/- Part of a proof, joined by a program. -/
import Derived.Test.YtgnjacfobdjeeaaGreatP02
set_option linter.unusedVariables false
set_option linter.unusedSimpArgs false
set_option linter.defProp false
set_option linter.constructorNameAsVariable false
set_option maxHeartbeats 8000000
set_option maxRecDepth 100000
namespace Go.Proofs.YtgnjacfobdjeeaaGreat
open Go.Vc
section
variable{m:J}{R:Value->J->Prop}
def Ip(a b:O):=cY m R ⟨[(3,[(4,.I)])],[],[(3,[41,40])]⟩ [.agg [.s a,.s b]] Tryz.func221
def wJ(a b:O)(f k:Int):=cY m R ⟨[(5,[(9,.I)])],[],[(5,[67])]⟩ [.agg [.s a,.s b],cI f,cI k] Tryz.func222
def vG(l:Nat×Nat)(v:Int):=cY m R ⟨[(1,[(1,.I)])],[],[]⟩ [cP l,cI v] Tryz.func223
def Dx(b:O)(c a d e f:Int)(g h:O):=cY m R A0 [.agg [.s b,.i c],cI a,.agg [.i d,.i e,.i f,.s g,.s h]] Tryz.func224
def Bv(a v:Int):=cY m R A0 [cI a,cI v] Tryz.func225
def wX(c d:O)(f:Int)(a:O)(b:Int):=cY m R A0 [.agg [.s c,.s d],cI f,.agg [.s a,.i b]] Tryz.func226
def Cf(c d:O)(e:Int)(f:O)(g:Int)(a:O)(b:Int):=cY m R A0 [.agg [.s c,.s d,.i e,.s f,.i g],.agg [.s a,.i b]] Tryz.func227
def wE(a:O)(b:Int):=cY m R ⟨[(4,[(3,.S),(4,.S),(5,.I)]),(13,[(7,.S),(8,.I)])],[],[(4,[74,73]),(13,[78,74,73])]⟩ [.agg [.s a,.i b]] Tryz.func228
def vP(d e a:O)(b c:Int):=cY m R ⟨[(3,[(2,.I),(8,.I)]),(9,[(10,.S),(12,.I)])],[],[(3,[113,111,110]),(9,[116,113,111,110])]⟩ [.agg [.s d,.s e],.agg [.s a,.i b],cI c] Tryz.func229
def yl(c d a:O)(b:Int)(kD:O):=cY m R ⟨[(3,[(8,.I)]),(8,[(10,.S),(11,.I)])],[],[(3,[67,65,64]),(8,[70,67,65,64])]⟩ [.agg [.s c,.s d],.agg [.s a,.i b],cS kD] Tryz.func230
def Ag(cJ:O)(a Nr:Int):=cY m R ⟨[(1,[(1,.I),(2,.I)])],[],[]⟩ [cS cJ,cI a,cI Nr] Tryz.func231
def wG(e:Nat×Nat)(a:Int):=cY m R A0 [cP e,cI a] Tryz.func232
def yy(b:O)(a n:Int):=cY m R A0 [cS b,cI a,cI n] Tryz.func233
def Ac(a b:O):=cY m R ⟨[(3,[(4,.I)])],[(8,[(7,.P)])],[(3,[51,50]),(8,[54,51,50])]⟩ [.agg [.s a,.s b]] Tryz.func234
def ry(r:Nat×Nat)(m:J)(R:Value->J->Prop):Prop:=
 let M:J:=m.push (.cells (bC [.s O.nil,.s O.nil]) 101)
 aL cp 200 [vp r.1 r.2] M λca b=>
 dR [m.size] M b/\
 ∃o:O,ca=O.v o/\
 let b7:J:=b.push (.cells (bC [.s O.nil,.s O.nil]) 101)
 qP b.size b.size (
 let aa:J:=ah b7 b.size 0 [.s o,.s O.nil]
 let aj:J:=aa.push (.cells (bC [.i (1:Int)]) 3)
 aL cp 248 [O.v (O.mk aa.size 0 1 1),vi (0:Int)] aj λcl E=>
 dR [b.size,m.size] aj E/\
 ∃ap:O,∃aI:Int,∃a0:Int,∃bg:Int,∃bx:O,cl=.agg #[O.v ap,vi aI,vi a0,vi bg,O.v bx]/\
 let an:J:=E.push (.cells (bC [.i (1:Int),.i (1:Int)]) 3)
 aL cp 248 [O.v (O.mk E.size 0 2 2),vi (1:Int)] an λct G=>
 dR [b.size,m.size] an G/\
 ∃aq:O,∃aS:Int,∃a9:Int,∃bh:Int,∃bz:O,ct=.agg #[O.v aq,vi aS,vi a9,vi bh,O.v bz]/\
 let ao:J:=G.push (.cells (bC [.i (1:Int)]) 3)
 aL cp 248 [O.v (O.mk G.size 0 1 1),vi (1:Int)] ao λcu H=>
 dR [b.size,m.size] ao H/\
 ∃aA:O,∃aT:Int,∃a_:Int,∃bp:Int,∃bI:O,cu=.agg #[O.v aA,vi aT,vi a_,vi bp,O.v bI]/\
 let N:J:=H.push (.cells (bC [.i (1:Int),.i (0:Int)]) 3)
 aL cp 248 [O.v (O.mk H.size 0 2 2),vi (1:Int)] N λcv t=>
 dR [b.size,m.size] N t/\
 ∃aB:O,∃aU:Int,∃ba:Int,∃bq:Int,∃bJ:O,cv=.agg #[O.v aB,vi aU,vi ba,vi bq,O.v bJ]/\
 let P:J:=t.push (.cells (bC [.i (2:Int),.i (1:Int)]) 3)
 aL cp 248 [O.v (O.mk t.size 0 2 2),vi (1:Int)] P λcw u=>
 dR [b.size,m.size] P u/\
 ∃aC:O,∃aV:Int,∃bb:Int,∃br:Int,∃bK:O,cw=.agg #[O.v aC,vi aV,vi bb,vi br,O.v bK]/\
 let Q:J:=u.push (.cells (bC [.i (1:Int),.i (1:Int)]) 3)
 aL cp 248 [O.v (O.mk u.size 0 2 2),vi (0:Int)] Q λcx a=>
 dR [b.size,m.size] Q a/\
 ∃aD:O,∃aW:Int,∃bc:Int,∃bs:Int,∃bL:O,cx=.agg #[O.v aD,vi aW,vi bc,vi bs,O.v bL]/\
 let S:J:=a.push (.cells (bC [.s ap,.i aI,.i a0,.i bg,.s bx,.s aq,.i aS,.i a9,.i bh,.s bz,.s aA,.i aT,.i a_,.i bp,.s bI,.s aB,.i aU,.i ba,.i bq,.s bJ,.s aC,.i aV,.i bb,.i br,.s bK,.s aD,.i aW,.i bc,.i bs,.s bL]) 156)
 let T:J:=S.push (.cells (bC [.i (3:Int)]) 3)
 aL cp 248 [O.v (O.mk S.size 0 1 1),vi (0:Int)] T λcb v=>
 dR [b.size,m.size] T v/\
 ∃aE:O,∃aX:Int,∃bd:Int,∃bt:Int,∃bM:O,cb=.agg #[O.v aE,vi aX,vi bd,vi bt,O.v bM]/\
 let U:J:=v.push (.cells (bC [.i (0:Int)]) 3)
 aL cp 248 [O.v (O.mk v.size 0 1 1),vi (1:Int)] U λcc w=>
 dR [b.size,m.size] U w/\
 ∃aF:O,∃aY:Int,∃be:Int,∃bu:Int,∃bN:O,cc=.agg #[O.v aF,vi aY,vi be,vi bu,O.v bN]/\
 let V:J:=w.push (.cells (bC [.i (0:Int),.i (1:Int)]) 3)
 aL cp 248 [O.v (O.mk w.size 0 2 2),vi (1:Int)] V λcd x=>
 dR [b.size,m.size] V x/\
 ∃aG:O,∃aZ:Int,∃bf:Int,∃bv:Int,∃bO:O,cd=.agg #[O.v aG,vi aZ,vi bf,vi bv,O.v bO]/\
 let W:J:=x.push (.cells (bC [.i (3:Int),.i (0:Int)]) 3)
 aL cp 248 [O.v (O.mk x.size 0 2 2),vi (3:Int)] W λce y=>
 dR [b.size,m.size] W y/\
 ∃aH:O,∃aJ:Int,∃a1:Int,∃bw:Int,∃bP:O,ce=.agg #[O.v aH,vi aJ,vi a1,vi bw,O.v bP]/\
 let X:J:=y.push (.cells (bC [.i (3:Int)]) 3)
 aL cp 248 [O.v (O.mk y.size 0 1 1),vi (1:Int)] X λcf z=>
 dR [b.size,m.size] X z/\
 ∃ar:O,∃aK:Int,∃a2:Int,∃bi:Int,∃bA:O,cf=.agg #[O.v ar,vi aK,vi a2,vi bi,O.v bA]/\
 let Y:J:=z.push (.cells (bC [.i (1:Int),.i (3:Int),.i (0:Int)]) 3)
 aL cp 248 [O.v (O.mk z.size 0 3 3),vi (0:Int)] Y λcg d=>
 dR [b.size,m.size] Y d/\
 ∃au:O,∃aM:Int,∃a3:Int,∃bj:Int,∃bB:O,cg=.agg #[O.v au,vi aM,vi a3,vi bj,O.v bB]/\
 let Z:J:=d.push (.cells (bC [.s aE,.i aX,.i bd,.i bt,.s bM,.s aF,.i aY,.i be,.i bu,.s bN,.s aG,.i aZ,.i bf,.i bv,.s bO,.s aH,.i aJ,.i a1,.i bw,.s bP,.s ar,.i aK,.i a2,.i bi,.s bA,.s au,.i aM,.i a3,.i bj,.s bB]) 156)
 let ab:J:=Z.push (.cells (bC [.i (0:Int)]) 3)
 aL cp 248 [O.v (O.mk Z.size 0 1 1),vi (0:Int)] ab λch A=>
 dR [b.size,m.size] ab A/\
 ∃av:O,∃aN:Int,∃a4:Int,∃bk:Int,∃bD:O,ch=.agg #[O.v av,vi aN,vi a4,vi bk,O.v bD]/\
 let ac:J:=A.push (.cells (bC [.i (0:Int),.i (0:Int)]) 3)
 aL cp 248 [O.v (O.mk A.size 0 2 2),vi (0:Int)] ac λci B=>
 dR [b.size,m.size] ac B/\
 ∃aw:O,∃aO:Int,∃a5:Int,∃bl:Int,∃bE:O,ci=.agg #[O.v aw,vi aO,vi a5,vi bl,O.v bE]/\
 let ad:J:=B.push (.cells (bC [.i (1:Int),.i (0:Int)]) 3)
 aL cp 248 [O.v (O.mk B.size 0 2 2),vi (0:Int)] ad λcj C=>
 dR [b.size,m.size] ad C/\
 ∃ax:O,∃aP:Int,∃a6:Int,∃bm:Int,∃bF:O,cj=.agg #[O.v ax,vi aP,vi a6,vi bm,O.v bF]/\
 let ae:J:=C.push (.cells (bC [.i (0:Int)]) 3)
 aL cp 248 [O.v (O.mk C.size 0 1 1),vi (1:Int)] ae λck j=>
 dR [b.size,m.size] ae j/\
 ∃ay:O,∃aQ:Int,∃a7:Int,∃bn:Int,∃bG:O,ck=.agg #[O.v ay,vi aQ,vi a7,vi bn,O.v bG]/\
 let ag:J:=j.push (.cells (bC [.s av,.i aN,.i a4,.i bk,.s bD,.s aw,.i aO,.i a5,.i bl,.s bE,.s ax,.i aP,.i a6,.i bm,.s bF,.s ay,.i aQ,.i a7,.i bn,.s bG]) 156)
 let ai:J:=ag.push (.cells (bC []) 3)
 aL cp 248 [O.v (O.mk ag.size 0 0 0),vi (0:Int)] ai λcm D=>
 dR [b.size,m.size] ai D/\
 ∃az:O,∃aR:Int,∃a8:Int,∃bo:Int,∃bH:O,cm=.agg #[O.v az,vi aR,vi a8,vi bo,O.v bH]/\
 aL cp 81 [vp r.1 r.2,vi ((O.mk a.size 0 6 6).len:Int)] D λcn k=>
 dR [b.size,m.size] D k/\
 ∃e:Int,cn=vi e/\
 (0:Int)<=e/\e<((O.mk a.size 0 6 6).len:Int)/\
 ∃bR:O,af k ((O.mk a.size 0 6 6).E) ((O.mk a.size 0 6 6).off+Int.toNat e*5)=some (O.v bR)/\
 ∃bS:Int,af k ((O.mk a.size 0 6 6).E) ((O.mk a.size 0 6 6).off+Int.toNat e*5+1)=some (vi bS)/\
 ∃bT:Int,af k ((O.mk a.size 0 6 6).E) ((O.mk a.size 0 6 6).off+Int.toNat e*5+2)=some (vi bT)/\
 ∃bU:Int,af k ((O.mk a.size 0 6 6).E) ((O.mk a.size 0 6 6).off+Int.toNat e*5+3)=some (vi bU)/\
 ∃bV:O,af k ((O.mk a.size 0 6 6).E) ((O.mk a.size 0 6 6).off+Int.toNat e*5+4)=some (O.v bV)/\
 aL cp 81 [vp r.1 r.2,vi ((O.mk d.size 0 6 6).len:Int)] k λco f=>
 dR [b.size,m.size] k f/\
 ∃h:Int,co=vi h/\
 af f ((O.mk a.size 0 6 6).E) ((O.mk a.size 0 6 6).off+Int.toNat e*5)=af k ((O.mk a.size 0 6 6).E) ((O.mk a.size 0 6 6).off+Int.toNat e*5)/\
 af f ((O.mk a.size 0 6 6).E) ((O.mk a.size 0 6 6).off+Int.toNat e*5+1)=af k ((O.mk a.size 0 6 6).E) ((O.mk a.size 0 6 6).off+Int.toNat e*5+1)/\
 af f ((O.mk a.size 0 6 6).E) ((O.mk a.size 0 6 6).off+Int.toNat e*5+2)=af k ((O.mk a.size 0 6 6).E) ((O.mk a.size 0 6 6).off+Int.toNat e*5+2)/\
 af f ((O.mk a.size 0 6 6).E) ((O.mk a.size 0 6 6).off+Int.toNat e*5+3)=af k ((O.mk a.size 0 6 6).E) ((O.mk a.size 0 6 6).off+Int.toNat e*5+3)/\
 af f ((O.mk a.size 0 6 6).E) ((O.mk a.size 0 6 6).off+Int.toNat e*5+4)=af k ((O.mk a.size 0 6 6).E) ((O.mk a.size 0 6 6).off+Int.toNat e*5+4)/\
 (0:Int)<=h/\h<((O.mk d.size 0 6 6).len:Int)/\
 ∃bW:O,af f ((O.mk d.size 0 6 6).E) ((O.mk d.size 0 6 6).off+Int.toNat h*5)=some (O.v bW)/\
 ∃bX:Int,af f ((O.mk d.size 0 6 6).E) ((O.mk d.size 0 6 6).off+Int.toNat h*5+1)=some (vi bX)/\
 ∃bY:Int,af f ((O.mk d.size 0 6 6).E) ((O.mk d.size 0 6 6).off+Int.toNat h*5+2)=some (vi bY)/\
 ∃bZ:Int,af f ((O.mk d.size 0 6 6).E) ((O.mk d.size 0 6 6).off+Int.toNat h*5+3)=some (vi bZ)/\
 ∃b0:O,af f ((O.mk d.size 0 6 6).E) ((O.mk d.size 0 6 6).off+Int.toNat h*5+4)=some (O.v b0)/\
 aL cp 81 [vp r.1 r.2,vi ((O.mk j.size 0 4 4).len:Int)] f λcq c=>
 dR [b.size,m.size] f c/\
 ∃n:Int,cq=vi n/\
 af c ((O.mk d.size 0 6 6).E) ((O.mk d.size 0 6 6).off+Int.toNat h*5)=af f ((O.mk d.size 0 6 6).E) ((O.mk d.size 0 6 6).off+Int.toNat h*5)/\
 af c ((O.mk d.size 0 6 6).E) ((O.mk d.size 0 6 6).off+Int.toNat h*5+1)=af f ((O.mk d.size 0 6 6).E) ((O.mk d.size 0 6 6).off+Int.toNat h*5+1)/\
 af c ((O.mk d.size 0 6 6).E) ((O.mk d.size 0 6 6).off+Int.toNat h*5+2)=af f ((O.mk d.size 0 6 6).E) ((O.mk d.size 0 6 6).off+Int.toNat h*5+2)/\
 af c ((O.mk d.size 0 6 6).E) ((O.mk d.size 0 6 6).off+Int.toNat h*5+3)=af f ((O.mk d.size 0 6 6).E) ((O.mk d.size 0 6 6).off+Int.toNat h*5+3)/\
 af c ((O.mk d.size 0 6 6).E) ((O.mk d.size 0 6 6).off+Int.toNat h*5+4)=af f ((O.mk d.size 0 6 6).E) ((O.mk d.size 0 6 6).off+Int.toNat h*5+4)/\
 af c ((O.mk a.size 0 6 6).E) ((O.mk a.size 0 6 6).off+Int.toNat e*5)=af f ((O.mk a.size 0 6 6).E) ((O.mk a.size 0 6 6).off+Int.toNat e*5)/\
 af c ((O.mk a.size 0 6 6).E) ((O.mk a.size 0 6 6).off+Int.toNat e*5+1)=af f ((O.mk a.size 0 6 6).E) ((O.mk a.size 0 6 6).off+Int.toNat e*5+1)/\
 af c ((O.mk a.size 0 6 6).E) ((O.mk a.size 0 6 6).off+Int.toNat e*5+2)=af f ((O.mk a.size 0 6 6).E) ((O.mk a.size 0 6 6).off+Int.toNat e*5+2)/\
 af c ((O.mk a.size 0 6 6).E) ((O.mk a.size 0 6 6).off+Int.toNat e*5+3)=af f ((O.mk a.size 0 6 6).E) ((O.mk a.size 0 6 6).off+Int.toNat e*5+3)/\
 af c ((O.mk a.size 0 6 6).E) ((O.mk a.size 0 6 6).off+Int.toNat e*5+4)=af f ((O.mk a.size 0 6 6).E) ((O.mk a.size 0 6 6).off+Int.toNat e*5+4)/\
 (0:Int)<=n/\n<((O.mk j.size 0 4 4).len:Int)/\
 ∃b1:O,af c ((O.mk j.size 0 4 4).E) ((O.mk j.size 0 4 4).off+Int.toNat n*5)=some (O.v b1)/\
 ∃b2:Int,af c ((O.mk j.size 0 4 4).E) ((O.mk j.size 0 4 4).off+Int.toNat n*5+1)=some (vi b2)/\
 ∃b3:Int,af c ((O.mk j.size 0 4 4).E) ((O.mk j.size 0 4 4).off+Int.toNat n*5+2)=some (vi b3)/\
 ∃b4:Int,af c ((O.mk j.size 0 4 4).E) ((O.mk j.size 0 4 4).off+Int.toNat n*5+3)=some (vi b4)/\
 ∃b5:O,af c ((O.mk j.size 0 4 4).E) ((O.mk j.size 0 4 4).off+Int.toNat n*5+4)=some (O.v b5)/\
 let b8:J:=c.push (.cells (bC [.s az,.i aR,.i a8,.i bo,.s bH,.s bR,.i bS,.i bT,.i bU,.s bV,.s bW,.i bX,.i bY,.i bZ,.s b0,.s b1,.i b2,.i b3,.i b4,.s b5]) 156)
 qP b.size b.size (
 let ak:J:=ah b8 b.size 1 [.s (O.mk c.size 0 4 4)]
 let al:J:=ak.push (.cells (bC [.i (4:Int),.i (4:Int),.i (3:Int),.i (2:Int),.i (4:Int)]) 3)
 aL cp 84 [vp r.1 r.2,O.v (O.mk ak.size 0 5 5)] al λcr am=>
 dR [b.size,m.size] al am/\
 ∃g:Int,cr=vi g/\
 qP b.size b.size (
 (0:Int)<=(0:Int)/\(0:Int)<=g/\g<=((O.mk c.size 0 4 4).cap:Int)/\
 qP b.size b.size (
 let b9:J:=ah am b.size 1 [.s (O.cut (O.mk c.size 0 4 4) (Int.toNat (0:Int)) (Int.toNat g) 5)]
 ∃(s:Int->J->Prop)(μ0:Int->J->Nat),
 s (cR (g -(1:Int))) b9/\
 (∀(i:Int)(p:J),s i p->
 ((decide (i>=(0:Int)))=true->
 qP b.size b.size (
 aL cp 249 [vp r.1 r.2,.agg #[O.v o,O.v (O.cut (O.mk c.size 0 4 4) (Int.toNat (0:Int)) (Int.toNat g) 5)],vi i] p λcs l=>
 dR [b.size,m.size] p l/\
 ∃I:Int,∃K:Int,∃L:O,cs=.agg #[vi I,vi K,O.v L]/\
 let b_:J:=l.push (.cells (bC [.i (0:Int),.i (0:Int),.s O.nil]) 154)
 qP l.size l.size (
 let q:J:=ah b_ l.size 0 [.i I,.i K,.s L]
 qP b.size b.size (
 qP b.size b.size (
 (0:Int)<=i/\i<((O.cut (O.mk c.size 0 4 4) (Int.toNat (0:Int)) (Int.toNat g) 5).len:Int)/\
 ∃b6:O,af q ((O.cut (O.mk c.size 0 4 4) (Int.toNat (0:Int)) (Int.toNat g) 5).E) ((O.cut (O.mk c.size 0 4 4) (Int.toNat (0:Int)) (Int.toNat g) 5).off+Int.toNat i*5)=some (O.v b6)/\
 qP b.size b.size (
 (0:Int)<=i/\i<((O.cut (O.mk c.size 0 4 4) (Int.toNat (0:Int)) (Int.toNat g) 5).len:Int)/\
 ∃bQ:Int,af q ((O.cut (O.mk c.size 0 4 4) (Int.toNat (0:Int)) (Int.toNat g) 5).E) ((O.cut (O.mk c.size 0 4 4) (Int.toNat (0:Int)) (Int.toNat g) 5).off+Int.toNat i*5+1)=some (vi bQ)/\
 qP l.size l.size (
 (0:Int)<=i/\i<((O.cut (O.mk c.size 0 4 4) (Int.toNat (0:Int)) (Int.toNat g) 5).len:Int)/\
 dZ q ((O.cut (O.mk c.size 0 4 4) (Int.toNat (0:Int)) (Int.toNat g) 5).E) ((O.cut (O.mk c.size 0 4 4) (Int.toNat (0:Int)) (Int.toNat g) 5).off+Int.toNat i*5) 5/\
 let F:J:=ah q ((O.cut (O.mk c.size 0 4 4) (Int.toNat (0:Int)) (Int.toNat g) 5).E) ((O.cut (O.mk c.size 0 4 4) (Int.toNat (0:Int)) (Int.toNat g) 5).off+Int.toNat i*5) [.s b6,.i bQ,.i I,.i K,.s L]
 dR [l.size,b.size,m.size] q F/\
 HM (SV.box b.size 101 [.s o,.s (O.cut (O.mk c.size 0 4 4) (Int.toNat (0:Int)) (Int.toNat g) 5)]) (SV.box b.size 101 [.s o,.s (O.cut (O.mk c.size 0 4 4) (Int.toNat (0:Int)) (Int.toNat g) 5)]) (
 HM (SV.box m.size 101 [.s O.nil,.s O.nil]) (SV.box m.size 101 [.s O.nil,.s O.nil]) (
 s (cR (i -(1:Int))) F/\μ0 (cR (i -(1:Int))) F<μ0 i p)))))))))/\
 ((decide (i>=(0:Int)))=false->
 qP b.size b.size (
 qP m.size m.size (
 let l:J:=ah p m.size 0 [.s o,.s (O.cut (O.mk c.size 0 4 4) (Int.toNat (0:Int)) (Int.toNat g) 5)]
 qP m.size m.size (
 R (.agg #[O.v o,O.v (O.cut (O.mk c.size 0 4 4) (Int.toNat (0:Int)) (Int.toNat g) 5)]) l)))))))))
def wI(r:Nat×Nat)(m:J)(R:Value->J->Prop)(a:ry r m R):aL cp 235 [vp r.1 r.2] m R:=
 pV (o:=⟨[(9,[(8,.I)])],[],[(9,[113,112])]⟩) (d:=110) (r:=[.cell 2 101]) (a:=[.c (.p r.1 r.2)]) Kq VO VT Tryz.func235 (m:=FH Tryz.f235) (by kernel_rfl) (by kernel_rfl) (by kernel_rfl) (by kernel_rfl) aJ (by kernel_rfl) (Eq.mp (by kernel_rfl) a)
def BJ(a b:O):=cY m R ⟨[(3,[(4,.I)]),(7,[(5,.S),(6,.I)])],[],[(3,[35,34]),(7,[35,34])]⟩ [.agg [.s a,.s b]] Tryz.func236
def zG(a b c d:O)(e:Int)(f:O)(g:Int):=cY m R ⟨[(5,[(6,.S),(7,.S),(8,.I)])],[],[(5,[69,68,67])]⟩ [.agg [.s a,.s b],.agg [.s c,.s d,.i e,.s f,.i g]] Tryz.func237
def zT(d e f a:O)(b:Int)(c:O):=cY m R ⟨[(5,[(9,.S),(10,.S),(11,.S),(12,.I)])],[],[(5,[88,86,84])]⟩ [.agg [.s d,.s e],cS f,.agg [.s a,.i b],cS c] Tryz.func238
end
end Go.Proofs.YtgnjacfobdjeeaaGreat
