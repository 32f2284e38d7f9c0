/- Part of a proof. -/
import Derived.Test.YtghjegjkpepmpaaGreatSO00
set_option linter.all false
set_option maxHeartbeats 8000000
set_option maxRecDepth 100000
namespace Go.Proofs.YtghjegjkpepmpaaGreat
open Go.Vc
section
open Tryz
variable{m:E}{R:Value->E->Prop}
variable{a b p d e f g h r u v w x y z B:O}{i j k l q o s t C D F G H I J K:Int}
def zl(a:O):=db m R ⟨[(3,[(8,.I)]),(8,[(10,.S),(11,.I)])],[],[(3,[67,65,64]),(8,[70,67,65,64])]⟩ [.agg [a,b],.agg [p,i],d] func201
def BA(a:O):=db m R ⟨[(1,[(1,.I),(2,.I)])],[],[]⟩ [a,i,j] func202
def H9(a:O):=db m R ⟨[(2,[(1,.I),(10,.I)])],[],[(2,[43])]⟩ [a,i] func203
def xK(p:Nat×Nat):=db m R A0 [p,i] func204
def zC(a:O):=db m R A0 [a,i,j] func205
def Bu(a:O):=db m R ⟨[(3,[(4,.I)])],[(8,[(7,.P)])],[(3,[51,50]),(8,[54,51,50])]⟩ [.agg [a,b]] func206
def sL(r:Nat×Nat)(m:E)(R:Value->E->Prop):Prop:=
 let M:E:=m.push (.cells (bz [.s O.nil,.s O.nil]) 95)
 aO cp 174 [vp r.1 r.2] M λca b=>
 eF [m.size] M b/\
 ∃o:O,ca=O.v o/\
 let b7:E:=b.push (.cells (bz [.s O.nil,.s O.nil]) 95)
 nI b.size b.size (
 let aa:E:=ai b7 b.size 0 [.s o,.s O.nil]
 let aj:E:=aa.push (.cells (bz [.i (1:Int)]) 3)
 aO cp 220 [O.v (O.mk aa.size 0 1 1),vi (0:Int)] aj λcl F=>
 eF [b.size,m.size] aj F/\
 ∃ap:O,∃aI:Int,∃a0:Int,∃bg:Int,∃bx:O,cl=.agg #[O.v ap,vi aI,vi a0,vi bg,O.v bx]/\
 let an:E:=F.push (.cells (bz [.i (1:Int),.i (1:Int)]) 3)
 aO cp 220 [O.v (O.mk F.size 0 2 2),vi (1:Int)] an λct H=>
 eF [b.size,m.size] an H/\
 ∃aq:O,∃aS:Int,∃a9:Int,∃bh:Int,∃bA:O,ct=.agg #[O.v aq,vi aS,vi a9,vi bh,O.v bA]/\
 let ao:E:=H.push (.cells (bz [.i (1:Int)]) 3)
 aO cp 220 [O.v (O.mk H.size 0 1 1),vi (1:Int)] ao λcu I=>
 eF [b.size,m.size] ao I/\
 ∃aA:O,∃aT:Int,∃a_:Int,∃bp:Int,∃bI:O,cu=.agg #[O.v aA,vi aT,vi a_,vi bp,O.v bI]/\
 let N:E:=I.push (.cells (bz [.i (1:Int),.i (0:Int)]) 3)
 aO cp 220 [O.v (O.mk I.size 0 2 2),vi (1:Int)] N λcv t=>
 eF [b.size,m.size] N t/\
 ∃aB:O,∃aU:Int,∃ba:Int,∃bq:Int,∃bJ:O,cv=.agg #[O.v aB,vi aU,vi ba,vi bq,O.v bJ]/\
 let P:E:=t.push (.cells (bz [.i (2:Int),.i (1:Int)]) 3)
 aO cp 220 [O.v (O.mk t.size 0 2 2),vi (1:Int)] P λcw u=>
 eF [b.size,m.size] P u/\
 ∃aC:O,∃aV:Int,∃bb:Int,∃br:Int,∃bK:O,cw=.agg #[O.v aC,vi aV,vi bb,vi br,O.v bK]/\
 let Q:E:=u.push (.cells (bz [.i (1:Int),.i (1:Int)]) 3)
 aO cp 220 [O.v (O.mk u.size 0 2 2),vi (0:Int)] Q λcx a=>
 eF [b.size,m.size] Q a/\
 ∃aD:O,∃aW:Int,∃bc:Int,∃bs:Int,∃bL:O,cx=.agg #[O.v aD,vi aW,vi bc,vi bs,O.v bL]/\
 let S:E:=a.push (.cells (bz [.s ap,.i aI,.i a0,.i bg,.s bx,.s aq,.i aS,.i a9,.i bh,.s bA,.s aA,.i aT,.i a_,.i bp,.s bI,.s aB,.i aU,.i ba,.i bq,.s bJ,.s aC,.i aV,.i bb,.i br,.s bK,.s aD,.i aW,.i bc,.i bs,.s bL]) 151)
 let T:E:=S.push (.cells (bz [.i (3:Int)]) 3)
 aO cp 220 [O.v (O.mk S.size 0 1 1),vi (0:Int)] T λcb v=>
 eF [b.size,m.size] T v/\
 ∃aE:O,∃aX:Int,∃bd:Int,∃bt:Int,∃bM:O,cb=.agg #[O.v aE,vi aX,vi bd,vi bt,O.v bM]/\
 let U:E:=v.push (.cells (bz [.i (0:Int)]) 3)
 aO cp 220 [O.v (O.mk v.size 0 1 1),vi (1:Int)] U λcc w=>
 eF [b.size,m.size] U w/\
 ∃aF:O,∃aY:Int,∃be:Int,∃bu:Int,∃bN:O,cc=.agg #[O.v aF,vi aY,vi be,vi bu,O.v bN]/\
 let V:E:=w.push (.cells (bz [.i (0:Int),.i (1:Int)]) 3)
 aO cp 220 [O.v (O.mk w.size 0 2 2),vi (1:Int)] V λcd x=>
 eF [b.size,m.size] V x/\
 ∃aG:O,∃aZ:Int,∃bf:Int,∃bv:Int,∃bO:O,cd=.agg #[O.v aG,vi aZ,vi bf,vi bv,O.v bO]/\
 let W:E:=x.push (.cells (bz [.i (3:Int),.i (0:Int)]) 3)
 aO cp 220 [O.v (O.mk x.size 0 2 2),vi (3:Int)] W λce y=>
 eF [b.size,m.size] W y/\
 ∃aH:O,∃aJ:Int,∃a1:Int,∃bw:Int,∃bP:O,ce=.agg #[O.v aH,vi aJ,vi a1,vi bw,O.v bP]/\
 let X:E:=y.push (.cells (bz [.i (3:Int)]) 3)
 aO cp 220 [O.v (O.mk y.size 0 1 1),vi (1:Int)] X λcf z=>
 eF [b.size,m.size] X z/\
 ∃ar:O,∃aK:Int,∃a2:Int,∃bi:Int,∃bB:O,cf=.agg #[O.v ar,vi aK,vi a2,vi bi,O.v bB]/\
 let Y:E:=z.push (.cells (bz [.i (1:Int),.i (3:Int),.i (0:Int)]) 3)
 aO cp 220 [O.v (O.mk z.size 0 3 3),vi (0:Int)] Y λcg d=>
 eF [b.size,m.size] Y d/\
 ∃au:O,∃aL:Int,∃a3:Int,∃bj:Int,∃bC:O,cg=.agg #[O.v au,vi aL,vi a3,vi bj,O.v bC]/\
 let Z:E:=d.push (.cells (bz [.s aE,.i aX,.i bd,.i bt,.s bM,.s aF,.i aY,.i be,.i bu,.s bN,.s aG,.i aZ,.i bf,.i bv,.s bO,.s aH,.i aJ,.i a1,.i bw,.s bP,.s ar,.i aK,.i a2,.i bi,.s bB,.s au,.i aL,.i a3,.i bj,.s bC]) 151)
 let ab:E:=Z.push (.cells (bz [.i (0:Int)]) 3)
 aO cp 220 [O.v (O.mk Z.size 0 1 1),vi (0:Int)] ab λch A=>
 eF [b.size,m.size] ab A/\
 ∃av:O,∃aM:Int,∃a4:Int,∃bk:Int,∃bD:O,ch=.agg #[O.v av,vi aM,vi a4,vi bk,O.v bD]/\
 let ac:E:=A.push (.cells (bz [.i (0:Int),.i (0:Int)]) 3)
 aO cp 220 [O.v (O.mk A.size 0 2 2),vi (0:Int)] ac λci B=>
 eF [b.size,m.size] ac B/\
 ∃aw:O,∃aN:Int,∃a5:Int,∃bl:Int,∃bE:O,ci=.agg #[O.v aw,vi aN,vi a5,vi bl,O.v bE]/\
 let ad:E:=B.push (.cells (bz [.i (1:Int),.i (0:Int)]) 3)
 aO cp 220 [O.v (O.mk B.size 0 2 2),vi (0:Int)] ad λcj C=>
 eF [b.size,m.size] ad C/\
 ∃ax:O,∃aP:Int,∃a6:Int,∃bm:Int,∃bF:O,cj=.agg #[O.v ax,vi aP,vi a6,vi bm,O.v bF]/\
 let ae:E:=C.push (.cells (bz [.i (0:Int)]) 3)
 aO cp 220 [O.v (O.mk C.size 0 1 1),vi (1:Int)] ae λck j=>
 eF [b.size,m.size] ae j/\
 ∃ay:O,∃aQ:Int,∃a7:Int,∃bn:Int,∃bG:O,ck=.agg #[O.v ay,vi aQ,vi a7,vi bn,O.v bG]/\
 let ag:E:=j.push (.cells (bz [.s av,.i aM,.i a4,.i bk,.s bD,.s aw,.i aN,.i a5,.i bl,.s bE,.s ax,.i aP,.i a6,.i bm,.s bF,.s ay,.i aQ,.i a7,.i bn,.s bG]) 151)
 let ah:E:=ag.push (.cells (bz []) 3)
 aO cp 220 [O.v (O.mk ag.size 0 0 0),vi (0:Int)] ah λcm D=>
 eF [b.size,m.size] ah D/\
 ∃az:O,∃aR:Int,∃a8:Int,∃bo:Int,∃bH:O,cm=.agg #[O.v az,vi aR,vi a8,vi bo,O.v bH]/\
 aO cp 47 [vp r.1 r.2,vi ((O.mk a.size 0 6 6).len:Int)] D λcn k=>
 eF [b.size,m.size] D k/\
 ∃e:Int,cn=vi e/\
 (0:Int)<=e/\e<((O.mk a.size 0 6 6).len:Int)/\
 ∃bR:O,af k ((O.mk a.size 0 6 6).D) ((O.mk a.size 0 6 6).off+Int.toNat e*5)=some (O.v bR)/\
 ∃bS:Int,af k ((O.mk a.size 0 6 6).D) ((O.mk a.size 0 6 6).off+Int.toNat e*5+1)=some (vi bS)/\
 ∃bT:Int,af k ((O.mk a.size 0 6 6).D) ((O.mk a.size 0 6 6).off+Int.toNat e*5+2)=some (vi bT)/\
 ∃bU:Int,af k ((O.mk a.size 0 6 6).D) ((O.mk a.size 0 6 6).off+Int.toNat e*5+3)=some (vi bU)/\
 ∃bV:O,af k ((O.mk a.size 0 6 6).D) ((O.mk a.size 0 6 6).off+Int.toNat e*5+4)=some (O.v bV)/\
 aO cp 47 [vp r.1 r.2,vi ((O.mk d.size 0 6 6).len:Int)] k λco g=>
 eF [b.size,m.size] k g/\
 ∃i:Int,co=vi i/\
 af g ((O.mk a.size 0 6 6).D) ((O.mk a.size 0 6 6).off+Int.toNat e*5)=af k ((O.mk a.size 0 6 6).D) ((O.mk a.size 0 6 6).off+Int.toNat e*5)/\
 af g ((O.mk a.size 0 6 6).D) ((O.mk a.size 0 6 6).off+Int.toNat e*5+1)=af k ((O.mk a.size 0 6 6).D) ((O.mk a.size 0 6 6).off+Int.toNat e*5+1)/\
 af g ((O.mk a.size 0 6 6).D) ((O.mk a.size 0 6 6).off+Int.toNat e*5+2)=af k ((O.mk a.size 0 6 6).D) ((O.mk a.size 0 6 6).off+Int.toNat e*5+2)/\
 af g ((O.mk a.size 0 6 6).D) ((O.mk a.size 0 6 6).off+Int.toNat e*5+3)=af k ((O.mk a.size 0 6 6).D) ((O.mk a.size 0 6 6).off+Int.toNat e*5+3)/\
 af g ((O.mk a.size 0 6 6).D) ((O.mk a.size 0 6 6).off+Int.toNat e*5+4)=af k ((O.mk a.size 0 6 6).D) ((O.mk a.size 0 6 6).off+Int.toNat e*5+4)/\
 (0:Int)<=i/\i<((O.mk d.size 0 6 6).len:Int)/\
 ∃bW:O,af g ((O.mk d.size 0 6 6).D) ((O.mk d.size 0 6 6).off+Int.toNat i*5)=some (O.v bW)/\
 ∃bX:Int,af g ((O.mk d.size 0 6 6).D) ((O.mk d.size 0 6 6).off+Int.toNat i*5+1)=some (vi bX)/\
 ∃bY:Int,af g ((O.mk d.size 0 6 6).D) ((O.mk d.size 0 6 6).off+Int.toNat i*5+2)=some (vi bY)/\
 ∃bZ:Int,af g ((O.mk d.size 0 6 6).D) ((O.mk d.size 0 6 6).off+Int.toNat i*5+3)=some (vi bZ)/\
 ∃b0:O,af g ((O.mk d.size 0 6 6).D) ((O.mk d.size 0 6 6).off+Int.toNat i*5+4)=some (O.v b0)/\
 aO cp 47 [vp r.1 r.2,vi ((O.mk j.size 0 4 4).len:Int)] g λcq c=>
 eF [b.size,m.size] g c/\
 ∃n:Int,cq=vi n/\
 af c ((O.mk d.size 0 6 6).D) ((O.mk d.size 0 6 6).off+Int.toNat i*5)=af g ((O.mk d.size 0 6 6).D) ((O.mk d.size 0 6 6).off+Int.toNat i*5)/\
 af c ((O.mk d.size 0 6 6).D) ((O.mk d.size 0 6 6).off+Int.toNat i*5+1)=af g ((O.mk d.size 0 6 6).D) ((O.mk d.size 0 6 6).off+Int.toNat i*5+1)/\
 af c ((O.mk d.size 0 6 6).D) ((O.mk d.size 0 6 6).off+Int.toNat i*5+2)=af g ((O.mk d.size 0 6 6).D) ((O.mk d.size 0 6 6).off+Int.toNat i*5+2)/\
 af c ((O.mk d.size 0 6 6).D) ((O.mk d.size 0 6 6).off+Int.toNat i*5+3)=af g ((O.mk d.size 0 6 6).D) ((O.mk d.size 0 6 6).off+Int.toNat i*5+3)/\
 af c ((O.mk d.size 0 6 6).D) ((O.mk d.size 0 6 6).off+Int.toNat i*5+4)=af g ((O.mk d.size 0 6 6).D) ((O.mk d.size 0 6 6).off+Int.toNat i*5+4)/\
 af c ((O.mk a.size 0 6 6).D) ((O.mk a.size 0 6 6).off+Int.toNat e*5)=af g ((O.mk a.size 0 6 6).D) ((O.mk a.size 0 6 6).off+Int.toNat e*5)/\
 af c ((O.mk a.size 0 6 6).D) ((O.mk a.size 0 6 6).off+Int.toNat e*5+1)=af g ((O.mk a.size 0 6 6).D) ((O.mk a.size 0 6 6).off+Int.toNat e*5+1)/\
 af c ((O.mk a.size 0 6 6).D) ((O.mk a.size 0 6 6).off+Int.toNat e*5+2)=af g ((O.mk a.size 0 6 6).D) ((O.mk a.size 0 6 6).off+Int.toNat e*5+2)/\
 af c ((O.mk a.size 0 6 6).D) ((O.mk a.size 0 6 6).off+Int.toNat e*5+3)=af g ((O.mk a.size 0 6 6).D) ((O.mk a.size 0 6 6).off+Int.toNat e*5+3)/\
 af c ((O.mk a.size 0 6 6).D) ((O.mk a.size 0 6 6).off+Int.toNat e*5+4)=af g ((O.mk a.size 0 6 6).D) ((O.mk a.size 0 6 6).off+Int.toNat e*5+4)/\
 (0:Int)<=n/\n<((O.mk j.size 0 4 4).len:Int)/\
 ∃b1:O,af c ((O.mk j.size 0 4 4).D) ((O.mk j.size 0 4 4).off+Int.toNat n*5)=some (O.v b1)/\
 ∃b2:Int,af c ((O.mk j.size 0 4 4).D) ((O.mk j.size 0 4 4).off+Int.toNat n*5+1)=some (vi b2)/\
 ∃b3:Int,af c ((O.mk j.size 0 4 4).D) ((O.mk j.size 0 4 4).off+Int.toNat n*5+2)=some (vi b3)/\
 ∃b4:Int,af c ((O.mk j.size 0 4 4).D) ((O.mk j.size 0 4 4).off+Int.toNat n*5+3)=some (vi b4)/\
 ∃b5:O,af c ((O.mk j.size 0 4 4).D) ((O.mk j.size 0 4 4).off+Int.toNat n*5+4)=some (O.v b5)/\
 let b8:E:=c.push (.cells (bz [.s az,.i aR,.i a8,.i bo,.s bH,.s bR,.i bS,.i bT,.i bU,.s bV,.s bW,.i bX,.i bY,.i bZ,.s b0,.s b1,.i b2,.i b3,.i b4,.s b5]) 151)
 nI b.size b.size (
 let ak:E:=ai b8 b.size 1 [.s (O.mk c.size 0 4 4)]
 let al:E:=ak.push (.cells (bz [.i (4:Int),.i (4:Int),.i (3:Int),.i (2:Int),.i (4:Int)]) 3)
 aO cp 53 [vp r.1 r.2,O.v (O.mk ak.size 0 5 5)] al λcr am=>
 eF [b.size,m.size] al am/\
 ∃h:Int,cr=vi h/\
 nI b.size b.size (
 (0:Int)<=(0:Int)/\(0:Int)<=h/\h<=((O.mk c.size 0 4 4).cap:Int)/\
 nI b.size b.size (
 let b9:E:=ai am b.size 1 [.s (O.cut (O.mk c.size 0 4 4) (Int.toNat (0:Int)) (Int.toNat h) 5)]
 ∃(s:Int->E->Prop)(μ0:Int->E->Nat),
 s (cG (h -(1:Int))) b9/\
 (∀(f:Int)(p:E),s f p->
 ((decide (f>=(0:Int)))=true->
 nI b.size b.size (
 aO cp 221 [vp r.1 r.2,.agg #[O.v o,O.v (O.cut (O.mk c.size 0 4 4) (Int.toNat (0:Int)) (Int.toNat h) 5)],vi f] p λcs l=>
 eF [b.size,m.size] p l/\
 ∃J:Int,∃K:Int,∃L:O,cs=.agg #[vi J,vi K,O.v L]/\
 let b_:E:=l.push (.cells (bz [.i (0:Int),.i (0:Int),.s O.nil]) 149)
 nI l.size l.size (
 let q:E:=ai b_ l.size 0 [.i J,.i K,.s L]
 nI b.size b.size (
 nI b.size b.size (
 (0:Int)<=f/\f<((O.cut (O.mk c.size 0 4 4) (Int.toNat (0:Int)) (Int.toNat h) 5).len:Int)/\
 ∃b6:O,af q ((O.cut (O.mk c.size 0 4 4) (Int.toNat (0:Int)) (Int.toNat h) 5).D) ((O.cut (O.mk c.size 0 4 4) (Int.toNat (0:Int)) (Int.toNat h) 5).off+Int.toNat f*5)=some (O.v b6)/\
 nI b.size b.size (
 (0:Int)<=f/\f<((O.cut (O.mk c.size 0 4 4) (Int.toNat (0:Int)) (Int.toNat h) 5).len:Int)/\
 ∃bQ:Int,af q ((O.cut (O.mk c.size 0 4 4) (Int.toNat (0:Int)) (Int.toNat h) 5).D) ((O.cut (O.mk c.size 0 4 4) (Int.toNat (0:Int)) (Int.toNat h) 5).off+Int.toNat f*5+1)=some (vi bQ)/\
 nI l.size l.size (
 (0:Int)<=f/\f<((O.cut (O.mk c.size 0 4 4) (Int.toNat (0:Int)) (Int.toNat h) 5).len:Int)/\
 fO q ((O.cut (O.mk c.size 0 4 4) (Int.toNat (0:Int)) (Int.toNat h) 5).D) ((O.cut (O.mk c.size 0 4 4) (Int.toNat (0:Int)) (Int.toNat h) 5).off+Int.toNat f*5) 5/\
 let G:E:=ai q ((O.cut (O.mk c.size 0 4 4) (Int.toNat (0:Int)) (Int.toNat h) 5).D) ((O.cut (O.mk c.size 0 4 4) (Int.toNat (0:Int)) (Int.toNat h) 5).off+Int.toNat f*5) [.s b6,.i bQ,.i J,.i K,.s L]
 eF [l.size,b.size,m.size] q G/\
 pE (SV.box b.size 95 [.s o,.s (O.cut (O.mk c.size 0 4 4) (Int.toNat (0:Int)) (Int.toNat h) 5)]) (SV.box b.size 95 [.s o,.s (O.cut (O.mk c.size 0 4 4) (Int.toNat (0:Int)) (Int.toNat h) 5)]) (
 pE (SV.box m.size 95 [.s O.nil,.s O.nil]) (SV.box m.size 95 [.s O.nil,.s O.nil]) (
 s (cG (f -(1:Int))) G/\μ0 (cG (f -(1:Int))) G<μ0 f p)))))))))/\
 ((decide (f>=(0:Int)))=false->
 nI b.size b.size (
 nI m.size m.size (
 let l:E:=ai p m.size 0 [.s o,.s (O.cut (O.mk c.size 0 4 4) (Int.toNat (0:Int)) (Int.toNat h) 5)]
 nI m.size m.size (
 R (.agg #[O.v o,O.v (O.cut (O.mk c.size 0 4 4) (Int.toNat (0:Int)) (Int.toNat h) 5)]) l)))))))))
def xO(r:Nat×Nat)(m:E)(R:Value->E->Prop)(a:sL r m R):aO cp 207 [vp r.1 r.2] m R:=
 uh (o:=⟨[(9,[(8,.I)])],[],[(9,[113,112])]⟩) (d:=110) (r:=[.cell 2 95]) (a:=[.c (.p r.1 r.2)]) MF YJ YO Tryz.func207 (m:=KR Tryz.f207) (by kernel_rfl) (by kernel_rfl) (by kernel_rfl) (by kernel_rfl) aN (by kernel_rfl) (Eq.mp (by kernel_rfl) a)
def Dg(a:O):=db m R ⟨[(3,[(4,.I)]),(7,[(5,.S),(6,.I)])],[],[(3,[35,34]),(7,[35,34])]⟩ [.agg [a,b]] func208
def AX(a:O):=db m R ⟨[(5,[(6,.S),(7,.S),(8,.I)])],[],[(5,[69,68,67])]⟩ [.agg [a,b],.agg [p,d,i,e,j]] func209
def Bl(a:O):=db m R ⟨[(5,[(9,.S),(10,.S),(11,.S),(12,.I)])],[],[(5,[88,86,84])]⟩ [.agg [a,b],p,.agg [d,i],e] func210
def Bv(a:O):=db m R ⟨[(3,[(3,.S),(4,.I)])],[],[(3,[32])]⟩ [.agg [a,b,i,p,j]] func211
def yg(a:O):=db m R ⟨[(4,[(3,.I)])],[],[(4,[36])]⟩ [.agg [a,b]] func212
def Bo(a:O):=db m R ⟨[(3,[(4,.I)])],[],[(3,[46])]⟩ [.agg [a,b,i,p,j]] func213
def xS(c:Nat×Nat):=db m R ⟨[],[(16,[(8,.T)])],[(16,[94,93])]⟩ [c,.agg [a,b],.agg [i,j,k,p,d]] func214
def Hc(i:Int):=db m R A0 [.agg [i,j,k,a,b]] func215
def Ds(a:O):=db m R ⟨[(5,[(3,.S),(4,.S),(6,.I)]),(8,[(3,.S),(7,.I)]),(11,[(4,.S),(7,.I)])],[],[]⟩ [a] func216
def Fb(a:O):=db m R ⟨[(8,[(10,.S),(11,.S),(12,.I)])],[],[(8,[96,92])]⟩ [.agg [a,i],j,b,k] func217
def Dq(a:O):=db m R A0 [.agg [a,b],.agg [i,j,k,p,d],l,e] func218
end
section
open Tryz
variable{m:E}{R:Value->E->Prop}
variable{a b c d e f g h p q r u v w x y:O}{i j k l n o s t z A B C D F G H:Int}
def zi(a:O):=db m R A0 [.agg [a,b],.agg [i,j,c],d,k] func219
def Mx(a:O):=db m R A0 [a,i] func220
def GM(p:Nat×Nat):=db m R ⟨[],[(7,[(34,.T)]),(9,[(51,.T)]),(11,[(77,.T)]),(15,[])],[(7,[131,127,125]),(9,[131,127,125]),(11,[131,127,125]),(15,[127,125])]⟩ [p,.agg [a,b],i] func221
def DA(a:O):=db m R ⟨[(3,[(6,.I)])],[],[(3,[49,47])]⟩ [.agg [a,b],c] func222
def yZ(a:O):=db m R ⟨[(3,[(3,.S),(4,.I)])],[],[(3,[32])]⟩ [.agg [a,b]] func223
def Dd(a:O):=db m R ⟨[(3,[(5,.S),(6,.I)])],[],[(3,[52])]⟩ [.agg [a,b],i] func224
def Hq(a:O):=db m R A0 [.agg [a,i],j] func225
def y9(a:O):=db m R ⟨[(5,[(11,.S),(12,.S),(13,.S),(14,.I)]),(17,[(13,.S),(20,.I)])],[],[(5,[159,156,154]),(17,[164,159,156,154])]⟩ [.agg [a,b],c,.agg [d,i],e,f] func226
def AZ(i:Int):=db m R ⟨[(3,[(5,.S),(6,.I)])],[],[]⟩ [i,a] func227
def Dw(a:O):=db m R ⟨[],[(3,[]),(30,[(151,.T)])],[(3,[188,186]),(30,[188,186])]⟩ [.agg [a,b],c,.agg [i,j,k,d,e]] func228
def uB(a:O):=db m R ⟨[(3,[(7,.S),(8,.I)])],[],[(3,[36,34])]⟩ [.agg [a,b],c,.agg [i,j,k,d,e]] func229
def Df(a:O):=db m R ⟨[(4,[(7,.S),(9,.I)])],[(9,[(10,.S)])],[(4,[78,77,75]),(9,[78,77,75])]⟩ [.agg [a,b],c,.agg [i,j,k,d,e]] func230
def ua(a:O):=db m R ⟨[(4,[(3,.I)])],[],[(4,[36])]⟩ [.agg [a,b]] func231
def Fk(a:O):=db m R A0 [.agg [a,i]] func232
def AN(a:O):=db m R ⟨[(3,[(7,.S),(8,.I)])],[],[(3,[57,55])]⟩ [.agg [a,b],c,.agg [d,i]] func233
def xQ(p:Nat×Nat):=db m R A0 [p,i,j,k] func234
def xT(p:Nat×Nat):=db m R A0 [p,i] func235
def xR(p:Nat×Nat):=db m R ⟨[(6,[(9,.I)])],[(4,[])],[(4,[110,109]),(6,[110,109])]⟩ [p,.agg [a,b],.agg [i,j,k,c,d]] func236
end
section
open Tryz
variable{m:E}{R:Value->E->Prop}
variable{a b c d e f g h p q r u v w x y:O}{i j k l n o s t z A B C D F G H:Int}
def vE(p:Nat×Nat):=db m R ⟨[(7,[(9,.I)])],[(3,[])],[(3,[93,92]),(7,[93,92])]⟩ [p,.agg [a,b],.agg [i,j,k,c,d]] func237
def tV(p:Nat×Nat):=db m R ⟨[(2,[(7,.I)]),(7,[(8,.I)])],[],[(2,[84,83]),(7,[84,83])]⟩ [p,.agg [a,b],.agg [i,j,k,c,d]] func238
def Hx(a:O):=db m R ⟨[(3,[(3,.S),(4,.I)])],[],[]⟩ [a] func239
def IV(a:O):=db m R ⟨[(3,[(5,.I),(6,.I)])],[],[]⟩ [a,i] func240
def BC(a:O):=db m R ⟨[(2,[(3,.I)])],[],[(2,[21])]⟩ [.agg [a,i]] func241
def CK(a:O):=db m R ⟨[(3,[(7,.S),(8,.I)])],[],[(3,[38])]⟩ [.agg [a,i],j,k] func242
def wX(a:O):=db m R ⟨[(4,[(5,.S),(6,.T),(7,.I)])],[],[]⟩ [a,i] func243
def Dp(a:O):=db m R A0 [.agg [a,i],j,k] func244
def zf(a:O):=db m R ⟨[(2,[(3,.I)])],[],[(2,[22])]⟩ [.agg [a,i]] func245
def Ho(a:O):=db m R ⟨[(2,[(9,.I)])],[],[(2,[40])]⟩ [.agg [a,i],j,k,l] func246
def G8(a:O):=db m R ⟨[(4,[(5,.S),(6,.T),(7,.I)])],[],[]⟩ [a,i] func247
def uD(p:Nat×Nat):=db m R ⟨[(13,[(11,.S),(13,.I)]),(22,[(15,.S),(16,.I)])],[(18,[(14,.I)])],[(13,[154,153]),(18,[154,153]),(22,[154,153])]⟩ [p,.agg [a,b],.agg [i,j,c],d] func248
def Fe(a:O):=db m R ⟨[(2,[(5,.I)])],[],[]⟩ [a,i] func249
def EV(i:Int):=db m R A0 [i] func250
def Dh(p:Nat×Nat):=db m R ⟨[],[(5,[])],[(5,[31,30])]⟩ [p,.agg [a,b]] func251
def Dj(p:Nat×Nat):=db m R ⟨[(6,[(12,.S),(13,.I)])],[(19,[]),(22,[])],[(6,[144,141]),(19,[151,150,144,141]),(22,[150,144,141])]⟩ [p,.agg [a,b],i,j] func252
def Dk(p:Nat×Nat):=aai m R ⟨[(6,[(9,.S),(10,.S),(11,.I)])],[(13,[(14,.P)]),(15,[])],[(6,[102,100]),(13,[109,108,102,100]),(15,[109,108,102,100])]⟩ [p,.agg [a,b],i] func253
def CW(p:Nat×Nat):=db m R ⟨[(4,[(8,.S),(9,.I)])],[(10,[])],[(4,[81,79]),(10,[81,79])]⟩ [p,.agg [a,b],i] func254
end
section
open Tryz
variable{m:E}{R:Value->E->Prop}
variable{a b c d e f g h p q r u v w x y:O}{i j k l n o s t z A B C D F G H:Int}
def EP(p:Nat×Nat):=db m R ⟨[(2,[(4,.I)])],[],[(2,[44,40])]⟩ [p,.agg [a,b],c,i,j] func255
def Fa(i:Int):=db m R A0 [.agg [i,j,a]] func256
def rS(a:O):=db m R ⟨[(3,[(4,.I)])],[],[(3,[30,29])]⟩ [.agg [a,i]] func257
def Dc(a:O):=db m R ⟨[(2,[(5,.I)])],[],[(2,[23])]⟩ [.agg [a,b],i] func258
def vC(a:O):=db m R ⟨[(4,[(7,.I)]),(8,[(9,.I)]),(13,[(10,.I)])],[],[(4,[72,71]),(8,[76,72,71]),(13,[76,72,71])]⟩ [.agg [a,b],.agg [c,i],j] func259
def ED(a:O):=db m R ⟨[(2,[(3,.S),(9,.I)])],[],[(2,[44])]⟩ [.agg [a,i],j,k,b] func260
def Ji(a:O):=db m R ⟨[(3,[(5,.S),(6,.I)])],[],[]⟩ [a,b] func261
def zc(a:O):=db m R ⟨[(3,[(11,.S),(12,.I)])],[],[(3,[50,48])]⟩ [.agg [a,b],c,.agg [i,j,k,d,e],f,g] func262
def AY(a:O):=db m R ⟨[(4,[(11,.S),(13,.I)])],[],[(4,[72,69,67])]⟩ [.agg [a,b],c,.agg [i,j,k,d,e],f,g] func263
def Bm(a:O):=db m R ⟨[(5,[(11,.S),(12,.I)])],[],[(5,[62,60])]⟩ [.agg [a,b],c,.agg [i,j,k,d,e],f,g] func264
def Bn(a:O):=db m R ⟨[(3,[(9,.S),(10,.I)])],[],[(3,[55,54])]⟩ [.agg [a,b],.agg [i,j,k,c,d],e,f] func265
def Fv(a:O):=db m R ⟨[(3,[(5,.S),(6,.I)])],[],[]⟩ [a,i] func266
def G6(i:Int):=db m R A0 [i] func267
def BO(a:O):=db m R A0 [a,.agg [i,j,k,b,c]] func268
def Jh(a:O):=db m R ⟨[(4,[(7,.I)])],[],[]⟩ [a,b,c] func269
def De(a:O):=db m R ⟨[(9,[(9,.I),(10,.I)])],[(5,[(8,.I)])],[(5,[76,74]),(9,[76,74])]⟩ [.agg [a,b],c,.agg [i,j,k,d,e]] func270
def xX(a:O):=db m R A0 [.agg [a,b],c,.agg [i,j,k,d,e]] func271
def EW(a:O):=db m R A0 [a,i] func272
end
section
open Tryz
variable{m:E}{R:Value->E->Prop}
variable{a b c d e f g h p q r u v w x y:O}{i j k l n o s t z A B C D F G H:Int}
def wL(a:O):=db m R A0 [.agg [a,b],c,.agg [i,j,k,d,e]] func273
def zd(a:O):=db m R A0 [.agg [a,b],c,.agg [i,j,k,d,e],l] func274
def Hk(a:O):=db m R ⟨[(3,[(4,.I)])],[],[(3,[37,36])]⟩ [.agg [a,b]] func275
def BG(a:O):=db m R ⟨[(2,[(1,.I),(5,.I)]),(8,[(1,.I),(6,.I)])],[],[(2,[45]),(8,[45])]⟩ [.agg [a,i],j] func276
def zh(p:Nat×Nat):=db m R ⟨[(9,[(14,.I)])],[],[(9,[89,88])]⟩ [p,.agg [a,b],.agg [i,j,k,c,d],l] func277
def He(a:O):=db m R A0 [.agg [a,b],.agg [i,j,k,c,d],l] func278
def IE(a:O):=db m R ⟨[(2,[(7,.I)])],[],[(2,[47])]⟩ [.agg [a,i],j,k] func279
def ze(i:Int):=db m R A0 [i] func280
def wQ(p:Nat×Nat):=db m R A0 [p,.agg [i,j,k,a,b]] func281
def Mp(p:Nat×Nat):=db m R A0 [p,.agg [a,b],c,i,j] func282
def Ki(i:Int):=db m R A0 [i,j,a] func283
def E8(p:Nat×Nat):=db m R ⟨[(8,[(9,.I)])],[(5,[(7,.P)])],[(5,[51,50,49]),(8,[50,49])]⟩ [p,i] func284
def Dy(i:Int):=db m R A0 [i] func285
def Ke(p:Nat×Nat):=db m R A0 [p,.agg [a,b],c,i] func286
def Bq(i:Int):=db m R ⟨[(5,[(1,.I),(5,.I)])],[],[(5,[29])]⟩ [.agg [i,j,a],k] func287
def CS(i:Int):=db m R ⟨[(3,[(3,.S),(4,.I)])],[],[(3,[35,34])]⟩ [.agg [i,j,k,a,b]] func288
def CP(a:O):=db m R ⟨[(2,[(5,.I)]),(7,[(6,.I)])],[],[(2,[55]),(7,[55])]⟩ [.agg [a,i],j] func289
def xH(i:Int):=db m R ⟨[(4,[(2,.S),(7,.I)]),(9,[(2,.S),(8,.I)])],[],[(4,[61]),(9,[61])]⟩ [.agg [i,j,k,a,b],l,c] func290
end
section
open Tryz
variable{m:E}{R:Value->E->Prop}
variable{a b c d e f g h p q r u v w x y:O}{i j k l n o s t z A B C D F G H:Int}
def EX(a:O):=db m R A0 [.agg [a,b],.agg [i,j,k,c,d],l,e,f] func291
def CT(a:O):=db m R ⟨[(7,[(16,.S),(17,.S),(18,.I)]),(14,[(19,.S),(20,.I)])],[],[(7,[127,124,121]),(14,[127,124,121])]⟩ [.agg [a,b],c,d,.agg [e,i],f,g] func292
def GO(a:O):=db m R ⟨[(3,[(5,.S),(6,.I)])],[],[]⟩ [a,b] func293
def EI(a:O):=db m R ⟨[(2,[(7,.I)])],[],[]⟩ [a,i,j] func294
def vF(p:Nat×Nat):=db m R A0 [p] func295
def wO(p:Nat×Nat):=db m R ⟨[(2,[(9,.I)])],[],[(2,[51,50])]⟩ [p,.agg [a,b],.agg [c,i],j] func296
def EH(p:Nat×Nat):=db m R A0 [p,.agg [a,b],c] func297
def GZ(p:Nat×Nat):=db m R ⟨[(3,[(11,.S),(12,.I)])],[],[(3,[42])]⟩ [p,.agg [a,b],c,d,i] func298
def CZ(p:Nat×Nat):=db m R ⟨[(7,[(13,.S),(14,.I)])],[(4,[(11,.I)])],[(4,[79,75]),(7,[79,75])]⟩ [p,.agg [a,b],c,i,j] func299
def CM(a:O):=db m R ⟨[(3,[(5,.S),(6,.I)]),(7,[(7,.T),(8,.I)])],[],[(3,[59]),(7,[59])]⟩ [.agg [a,b],i] func300
def C0(p:Nat×Nat):=db m R ⟨[(3,[(11,.I)])],[(7,[])],[(3,[130,126]),(7,[130,126])]⟩ [p,.agg [a,b],c,i,j] func301
def Fh(p:Nat×Nat):=db m R A0 [p] func302
def zB(a:O):=db m R ⟨[(3,[(5,.S),(6,.I)])],[],[]⟩ [a,i] func303
def EJ(a:O):=db m R A0 [.agg [a,b],c,i] func304
def Du(p:Nat×Nat):=db m R ⟨[(11,[(9,.S),(11,.I)]),(21,[(15,.S),(16,.I)])],[(6,[(8,.I)]),(8,[(8,.I)]),(17,[(80,.T)])],[(6,[124,122]),(8,[124,122]),(11,[124,122]),(17,[124,122]),(21,[124,122])]⟩ [p,.agg [a,b],i] func305
def wS(a:O):=db m R ⟨[(2,[(7,.I)])],[],[(2,[46,45])]⟩ [.agg [a,b],.agg [i,j,k,c,d],l] func306
def Iy(a:O):=db m R ⟨[(3,[(5,.S),(6,.I)])],[],[]⟩ [a,i] func307
def zg(p:Nat×Nat):=db m R ⟨[(2,[(5,.I)])],[],[]⟩ [p,i] func308
end
section
open Tryz
variable{m:E}{R:Value->E->Prop}
variable{a b c d e f g h p q r u v w x y:O}{i j k l n o s t z A B C D F G H:Int}
def CO(a:O):=db m R ⟨[(3,[(5,.S),(6,.I)])],[],[(3,[55])]⟩ [.agg [a,b],i] func309
end
end Go.Proofs.YtghjegjkpepmpaaGreat
namespace Go.Proofs.YtghjegjkpepmpaaGreat
open Go.Vc
section
variable{m:E}{a:O}{l:List Int}
def bd(n b a:Int)(m:E):dy cp 31 [vi n,vi b,vi a] m (b<=n/\n<=a):=by
 apply EU;refine⟨λh=>eW ?_ (J.aA _),λh=>bX ?_ (J.aA _)⟩<;>simp at h
 .simp[h]
 .omega
def jW(a:Int)(m:E):dy cp 149 [vi a] m (0<=a/\a<=11):=by
 apply EO;exact(bd _ _ _ _).then λd e c b=>⟨_,rfl,eW c b⟩
def mg(a:Int):Prop:=0<=a/\a<=11/\a≠7/\a≠8\/a=18\/a=19
def xY(e:Int)(m:E):dy cp 95 [vi e] m (mg e):=by
 apply Kp;refine(jW _ _).then λg i d a=>⟨_,rfl,λh=>?_,λh=>?_⟩
 .have h:=d.1 h;refine⟨λb=>⟨λc=>iY ?_ a,λc=>⟨λf=>iY ?_ a,λf=>eW ?_ a⟩⟩,λb=>⟨λc=>iY ?_ a,λc=>eW ?_ a⟩⟩<;>simp[mg]at* <;>omega
 .have h:=fb d h;refine⟨λb=>iY ?_ a,λb=>eW ?_ a⟩<;>simp[mg]at* <;>omega
def dA(e:ap m a l)(d:Int):dy cp 104 [O.v a,vi d] m (d∈l):=by
 apply J9;have i:=e.len;refine dW (n:=l.length) (i▸e.gX) (λk b=>J m b/\∀y∈l.take k,y≠d) ⟨J.aA _,aN⟩ ?_;rintro k p I μ o ⟨c,g⟩ j
 refine dit (λh=>?_) λh=>?_
 .let⟨x,f⟩:=cL l k;refine⟨V,V,x,by simpa using c.af (e.aF f),λb=>?_,λb=>?_⟩
  .simp only[aG]at b;exact iY (b▸aq f) c
  .simp only[aj]at b;exact j V _ ⟨c,bE f g b⟩
 .exact bX (λb=>dh V g d b rfl) c
def zK(n:Nat)(t:Int):Prop:=0<=t/\t<=n
def FE(n:Nat)(l:List Int):Prop:=∀t∈l,zK n t
def wF(c:ap m a l)(br:O):dy cp 126 [O.v br,O.v a] m (FE br.len l):=by
 apply CH;have i:=c.len;refine dW (n:=l.length) (i▸c.gX) (λk b=>J m b/\∀t∈l.take k,zK br.len t) ⟨J.aA _,aN⟩ ?_;rintro k r I μ q ⟨b,g⟩ o
 refine dit (λh=>?_) λh=>?_
 .let⟨x,d⟩:=cL l k;refine⟨V,V,x,by simpa using b.af (c.aF d),?_⟩;exact(bd _ _ _ _).then λp s f e=>⟨_,rfl,λh=>bX (λj=>nb f h (j x (aq d))) (b.trans e),λh=>o V _ ⟨b.trans e,bE d g (yb f h)⟩⟩
 .exact iY (dh V g) b
def OA(l:List Int)(c a b:Int):Prop:=(l.length:Int)=c/\∀t∈l,a+1<=t/\t<=b -1
def Fp(f:ap m a l)(o b c:Int)(w: -1<=b/\b<9223372036854775807)(e:0<=c/\c<=9223372036854775807):
 dy cp 180 [O.v a,vi o,vi b,vi c] m (OA l o b c):=by
 apply zw
 have g:=f.len
 refine⟨λh=>?_,λh=>?_⟩
 .simp only[qA]at h
  exact bX (λi=>h (by rw[g];exact i.1)) (J.aA _)
 .simp only[iU]at h
  have u:o=(l.length:Int):=by rw[<-h,g]
  subst u
  have r:cG (b+1)=b+1:=aR V V
  have s:cG (c -1)=c -1:=aR V V
  rw[r,s]
  refine dW (n:=l.length) (g▸f.gX) (λk d=>J m d/\∀t∈l.take k,b+1<=t/\t<=c -1) ⟨J.aA _,aN⟩ ?_
  rintro k z I μ y ⟨d,q⟩ t
  refine dit (λh=>?_) λh=>?_
  .let⟨x,j⟩:=cL l k
   refine⟨V,V,x,by simpa using d.af (f.aF j),?_⟩
   exact(bd _ _ _ _).then λv A p e=>⟨_,rfl,λh=>bX (λi=>nb p h (i.2 x (aq j))) (d.trans e),λh=>t V _ ⟨d.trans e,bE j q (yb p h)⟩⟩
  .exact iY ⟨rfl,dh V q⟩ d
def Ec(a cY:List Int):Prop:=∀(k:Nat)(v:Int),cY[k]? =some v->(∃t,0<=v/\a[v.toNat]? =some t/\t≠0)/\(∀u:Int,0<k->cY[k -1]? =some u->u<v)
def vg{A cY:O}{p:List Int}(g:ap m A p)(f:ap m cY l):dy cp 127 [O.v A,O.v cY] m (Ec p l):=by
 apply BP;have K:=f.len;have L:=g.len;have T:=g.gX;have F:cG ((A.len:Int) -1)=(p.length:Int) -1:=by rw[aR V V,L]
 rw[F];have S:=f.gX;refine dW (n:=l.length) (K▸f.gX) (λk M=>J m M/\∀(j:Nat)(v:Int),j<k->l[j]? =some v->(∃t,0<=v/\p[v.toNat]? =some t/\t≠0)/\(∀u:Int,0<j->l[j -1]? =some u->u<v)) ⟨J.aA _,aN⟩ ?_;rintro k N P μ R ⟨i,w⟩ D
 refine dit (λh=>?_) λh=>?_
 .let⟨x,c⟩:=cL l k;have g1:af N cY.D (cY.off+Int.toNat k*1)=some (vi x):=by simpa using i.af (f.aF c)
  refine⟨V,V,x,g1,?_⟩;refine(bd _ _ _ _).then λQ U B d=>⟨_,rfl,λh=>?_,λh=>?_⟩
  .refine bX (λg=>nb B h ?_) (i.trans d);obtain⟨⟨t,b,s,_⟩,_⟩:=g k x c;have:=aw s;omega
  .have C:=yb B h;let⟨t,q⟩:=cL p x.toNat;have H:=(i.trans d).af (g.aF q);have o:=i.trans d;refine⟨V,V,x,d.af g1,V,V,t,by simpa using H,λb=>?_,λb=>?_⟩
   .simp only[aG]at b;refine bX (λa=>?_) o;obtain⟨⟨y,_,e,r⟩,_⟩:=a k x c;rw[q]at e;simp at e;exact r (e▸b)
   .simp only[aj]at b;refine dit (λs=>?_) λs=>?_
    .have G:cG ((k:Int) -1)=((k -1:Nat):Int):=by rw[aR V V];omega
     let⟨E,z⟩:=cL l (k -1);rw[G];refine⟨V,V,x,d.af g1,V,V,E,by simpa using o.af (f.aF z),dit (λe=>?_) λe=>?_⟩
     .refine bX (λa=>?_) o;have:=(a k x c).2 E V z;omega
     .refine D V _ ⟨o,λj v I a=>?_⟩
      by_cases r:j=k
      .subst r;rw[c]at a;simp at a;subst a;refine⟨⟨t,C.1,q,b⟩,λu _ y=>?_⟩;rw[z]at y;simp at y;subst y;omega
      .exact w j v V a
    .refine D V _ ⟨o,λj v I a=>?_⟩
     by_cases r:j=k
     .subst r;rw[c]at a;simp at a;subst a;exact⟨⟨t,C.1,q,b⟩,λu e _=>V⟩
     .exact w j v V a
 .exact iY (λj v a=>w j v (oh (aw a)) a) i
end
section
variable{m:E}
structure HK(ds:List bB)(k:Nat)(d:bB):Prop where
 jm:0<d.cons.length->d.cons.length<=3/\d.tq=0/\d.to=0/\∀f∈d.cons,f.length<=3/\FE ds.length f
 Si:d.cons.length=0->(∀e∈ds.take k,¬(e.cons.length=0/\e.tq=d.tq/\e.to=d.to))/\zK ds.length d.tq/\zK ds.length d.to
structure dV(ds:List bB):Prop where
 len:ds.length<=4
 dD:∀(k:Nat)(d:bB),ds[k]? =some d->HK ds k d
def Hs{br:O}{h:List bB}(hd:cz m br h){k:Nat}{d:bB}(H:h[k]? =some d):dy cp 176 [O.v br,vi k] m (HK h k d):=by
 apply BL;simp -zeta only[aD,aC];have X:=aw H;have v:=hd.len;let⟨x,z,K,g1,g2⟩:=hd.aF H;refine⟨V,V,_,by simpa using K,_,by simpa using g1,_,by simpa using g2,?_⟩;intro P s;have c:J m s:=((J.aA m).aL _).ai (ad _) _ _;have A:∀t∈[m.size],t<s.size:=by simp[s,P,ax]
 have M:=z.len;refine dit (λq=>?_) λq=>?_
 .refine dit (λL=>?_) λL=>?_
  .exact bX (λa=>oh ((a.jm V).1)) c
  refine⟨λf=>?_,λf=>?_⟩
  .simp only[qA]at f;exact bX (λa=>f (a.jm V).2.1) c
  simp only[iU]at f;refine⟨λp=>?_,λp=>?_⟩
  .simp only[qA]at p;exact bX (λa=>p (a.jm V).2.2.1) c
  simp only[iU]at p;refine dW (n:=d.cons.length) (M▸z.gX) (λk B=>J s B/\∀x∈d.cons.take k,x.length<=3/\FE h.length x) ⟨J.aA _,aN⟩ ?_;rintro j w I μ N ⟨g,r⟩ D
  refine dit (λy=>?_) λy=>?_
  .let⟨C,u⟩:=cL d.cons j;let⟨E,G,F⟩:=(pF.ext (c.trans g) z).aF u;have R:=G.len;refine⟨V,V,E,by simpa using F,dit (λo=>?_) λo=>?_⟩
   .exact bX (λa=>oh (((a.jm V).2.2.2 C (aq u)).1)) (c.trans g)
   .refine⟨V,V,E,by simpa using F,?_⟩;exact(wF G _).aJ g A λt Q l i b=>⟨_,rfl,λe=>bX (λa=>nb l e (v▸((a.jm V).2.2.2 C (aq u)).2)) (c.trans b),λe=>D V _ ⟨b,bE u r ⟨V,v▸yb l e⟩⟩⟩
  .exact iY ⟨λ_=>⟨V,f,p,dh V r⟩,λF=>V⟩ (c.trans g)
 .have C:d.cons.length=0:=V;have U:=hd.gX;refine dW (n:=k) V (λk B=>J s B/\∀f∈h.take k,¬(f.cons.length=0/\f.tq=d.tq/\f.to=d.to)) ⟨J.aA _,aN⟩ ?_;rintro j w I μ N ⟨g,r⟩ D
  refine dit (λy=>?_) λy=>?_
  .let⟨f,u⟩:=cL h j;let⟨E,G,R,S,T⟩:=(cz.ext (c.trans g) hd).aF u;have W:=G.len;have B:¬(f.cons.length=0/\f.tq=d.tq/\f.to=d.to)->I (cG ((j:Int)+1)) w/\μ (cG ((j:Int)+1)) w<μ j w:=λp=>D V _ ⟨g,bE u r p⟩
   refine⟨V,V,E,by simpa using T,λo=>?_,λo=>?_⟩
   .simp only[aG]at o;refine⟨V,V,_,by simpa using R,λi=>?_,λi=>?_⟩
    .simp only[aG]at i;refine⟨V,V,_,by simpa using S,λb=>?_,λb=>?_⟩
     .simp only[aG]at b;have L:f∈h.take k:=by
       rw[List.mem_iff_getElem?];exact⟨j,by rw[lT,ao V];exact u⟩
      exact bX (λa=>(a.Si C).1 f L ⟨V,i,b⟩) (c.trans g)
     .simp only[aj]at b;exact B (λp=>b p.2.2)
    .simp only[aj]at i;exact B (λp=>i p.2.1)
   .simp only[aj]at o;exact B (λp=>o V)
  .have f:j=k:=V;subst f;refine(bd _ _ _ _).aJ g A λt Q l i b=>⟨_,rfl,λe=>?_,λe=>bX (λa=>fb l e (v▸(a.Si C).2.1)) (c.trans b)⟩;have e:=l.1 e;refine(bd _ _ _ _).aJ b A λt p l o a=>⟨_,rfl,eW ?_ (c.trans a)⟩;rw[l];rw[v]at e⊢;exact⟨λq=>⟨λF=>V,λ_=>⟨r,e,q⟩⟩,λq=>(q.Si C).2.2⟩
def Ft{br:O}{a:List bB}(hd:cz m br a):dy cp 125 [O.v br] m (dV a):=by
 apply zA;have u:=hd.len;refine dit (λo=>?_) λo=>?_
 .exact bX (λf=>oh f.len) (J.aA _)
 .refine dW (n:=a.length) V (λq r=>J m r/\∀(j:Nat)(d:bB),j<q->a[j]? =some d->HK a j d) ⟨J.aA _,aN⟩ ?_;rintro j x I μ w ⟨b,k⟩ s
  refine dit (λp=>?_) λp=>?_
  .let⟨l,e⟩:=cL a j;refine(Hs (cz.ext b hd) e).then λt y h g=>⟨_,rfl,λc=>bX (λf=>nb h c (f.dD j l e)) (b.trans g),λc=>?_⟩;refine s V _ ⟨b.trans g,λi d v bI=>?_⟩
   by_cases f:i=j
   .subst f;rw[e]at bI;simp at bI;subst bI;exact yb h c
   .exact k i d V bI
  .exact iY ⟨V,λi d bI=>k i d (oh (aw bI)) bI⟩ b
end
section
variable{a:Nat}{m:E}
def fc:List bB->Nat->Nat
 |_,0=>0
 |[],_=>0
 |d::b,a+1=>d.cons.length+fc b a
def eU(a:List bB):List (List Int):=a.flatMap bB.cons
def Q7(a:Nat):fc [] a=0:=by cases a<;>rfl
def sS:∀{b:List bB}{a:Nat}{c:bB},b[a]? =some c->fc b (a+1)=fc b a+c.cons.length
 |[],a,c,h=>by simp at h
 |e::b,0,c,h=>by
  simp at h;subst h;simp only[fc];cases b<;>simp[fc]
 |e::b,a+1,c,h=>by
  have:=sS (b:=b) (a:=a) (c:=c) (by simpa using h);simp only[fc]at this⊢;omega
def nk:∀(b:List bB)(a:Nat),b.length<=a->fc b a=(eU b).length
 |[],a,_=>by rw[Q7];rfl
 |d::b,0,h=>by simp at h
 |d::b,a+1,h=>by
  have:=nk b a (by simpa using h);simp only[fc,eU,mL,bh]at this⊢;omega
def R1:∀(a:List bB){b c:Nat},b<=c->fc a b<=fc a c
 |[],b,c,_=>by simp[Q7]
 |d::a,0,c,_=>by simp[fc]
 |d::a,b+1,0,h=>V
 |d::a,b+1,c+1,h=>by
  have:=R1 a (b:=b) (c:=c) V;simp only[fc];omega
def lO{b:List bB}(h:dV b){d:bB}(e:b[a]? =some d):d.cons.length<=3:=by
 rcases ku d.cons.length with c|c
 .omega
 .exact((h.dD a d e).jm c).1
def Uf{b:List bB}(h:dV b):∀a,fc b a<=3*a
 |0=>by cases b<;>simp[fc]
 |a+1=>by
  have e:=Uf h a;rcases aX a b.length with c|c
  .let⟨d,hd⟩:=dG c;rw[sS hd];have:=lO h hd;omega
  .rw[nk b (a+1) V,<-nk b a c];omega
def rE{b:List bB}(h:dV b)(a:Nat):fc b a<=12:=by
 rcases aX a b.length with c|c
 .have:=Uf h a;have:=h.len;omega
 .rw[nk b a c,<-nk b b.length (ad _)];have:=Uf h b.length;have:=h.len;omega
def rD:∀(a:List bB)(i j:Nat)(d:bB),a[i]? =some d->j<d.cons.length->(eU a)[fc a i+j]? =d.cons[j]?
 |[],i,j,d,h,_=>by simp at h
 |e::a,0,j,d,h,b=>by
  simp at h;subst h;simp only[fc,eU,mL,bW];rw[az b]
 |e::a,i+1,j,d,h,b=>by
  have:=rD a i j d (by simpa using h) b;simp only[fc,eU,mL]at this⊢;rw[aK V,<-this];congr 1;omega
def vt:∀(a:List bB)(c:Nat),c<(eU a).length->∃i d,a[i]? =some d/\fc a i<=c/\c<fc a i+d.cons.length
 |[],c,h=>by simp[eU]at h
 |e::a,c,h=>by
  rcases aX c e.cons.length with b|b
  .exact⟨0,e,aN,by simp[fc],by simpa[fc]using b⟩
  .let⟨i,d,f,g,j⟩:=vt a (c -e.cons.length) (by simp only[eU,mL,bh]at h⊢;omega);exact⟨i+1,d,by simpa using f,by simp only[fc];omega,by simp only[fc];omega⟩
def kD{br:O}{b:List bB}(hd:cz m br b)(d:dV b)(t:a<=b.length):HL cp 117 [O.v br,vi a] m (vi (fc b a)):=by
 apply CY;have r:=hd.len;have:=d.len;refine eB (n:=a) V (λj g c=>J m c/\g=(fc b j:Nat)) ⟨J.aA _,by cases b<;>rfl⟩ ?_;rintro j g u I μ s ⟨e,rfl⟩ k
 refine dit (λi=>?_) λi=>?_
 .let⟨l,c⟩:=cL b j;let⟨h,f,o,g1,g2⟩:=(cz.ext e hd).aF c;refine⟨V,V,h,by simpa using g2,?_⟩;refine k V _ _ ⟨e,?_⟩
  have p:=rE d j;have q:=lO d c;rw[aR V (oh f.len),sS c,f.len];rfl
 .have:j=a:=V;subst this;exact⟨rfl,e⟩
def qS{br:O}{a:List bB}(hd:cz m br a)(c:dV a):HL cp 109 [O.v br] m (vi (eU a).length):=by
 apply CQ;have q:=hd.len;have:=c.len;refine eB (n:=a.length) V (λj f b=>J m b/\f=(fc a j:Nat)) ⟨J.aA _,by cases a<;>rfl⟩ ?_;rintro j f s I μ r ⟨d,rfl⟩ i
 refine dit (λh=>?_) λh=>?_
 .let⟨k,b⟩:=cL a j;let⟨g,e,l,g1,g2⟩:=(cz.ext d hd).aF b;refine⟨V,V,g,by simpa using g2,?_⟩;refine i V _ _ ⟨d,?_⟩
  have o:=rE c j;have p:=lO c b;rw[aR V (oh e.len),sS b,e.len];rfl
 .refine⟨?_,d⟩;rw[nk a j V]
def Ye(a:List bB)(c t:Int):Prop:=
 (∃(i:Nat)(d:bB),t=i+1/\a[i]? =some d/\(fc a i:Int)<=c/\c<fc a i+d.cons.length)\/(t= -1/\¬(0<=c/\c<(eU a).length))
def mG{br:O}{a:List bB}(hd:cz m br a)(k:dV a)(c:Int):aO cp 177 [O.v br,vi c] m λE p=>∃u,E=vi u/\Ye a c u/\J m p:=by
 apply EL;have H:=hd.len;have:=k.len;refine dW (n:=a.length) V (λj p=>J m p/\∀(i:Nat)(d:bB),i<j->a[i]? =some d->¬((fc a i:Int)<=c/\c<fc a i+d.cons.length)) ⟨J.aA _,aN⟩ ?_;rintro j M I μ L ⟨b,s⟩ D
 refine dit (λz=>?_) λz=>?_
 .let⟨d,h⟩:=cL a j;refine(kD (cz.ext b hd) k V).then λN e=>⟨_,rfl,?_⟩;let⟨l,B,G,g1,g2⟩:=(cz.ext (b.trans e) hd).aF h;refine⟨V,V,l,by simpa using g2,?_⟩;have o:=rE k j;have A:=lO k h;have C:=B.len;have y:cG (cG ((fc a j:Int)+(l.len:Int)) -1)=(fc a j:Int)+d.cons.length -1:=by
   rw[aR (b:=(fc a j:Int)+(l.len:Int)) V V,aR V V,C]
  rw[y];refine(bd _ _ _ _).then λF P r q=>⟨_,rfl,λf=>?_,λf=>?_⟩
  .have f:=r.1 f;refine⟨_,rfl,Or.inl ⟨j,d,?_,h,V,V⟩,(b.trans e).trans q⟩;rw[aR V V]
  .refine D V _ ⟨(b.trans e).trans q,λi v K g=>?_⟩
   by_cases w:i=j
   .subst w;rw[h]at g;simp at g;subst g;intro t;exact fb r f ⟨t.1,V⟩
   .exact s i v V g
 .refine⟨_,rfl,Or.inr ⟨rfl,λt=>?_⟩,b⟩;let⟨i,d,o,e,A⟩:=vt a c.toNat V;exact s i d (oh (aw o)) o ⟨V,V⟩
def cJ(a:List bB)(c:Int):List Int:=if 0<=c then((eU a)[c.toNat]?).getD []else[]
def GQ{br:O}{a:List bB}(hd:cz m br a)(d:dV a)(c:Int):aO cp 178 [O.v br,vi c] m λx l=>∃s,x=O.v s/\ap l s (cJ a c)/\J m l:=by
 apply rR;have E:=hd.len;have:=d.len;refine(mG hd d c).mono ?_;rintro _ H ⟨K,rfl,h,e⟩;refine⟨_,rfl,dit (λu=>?_) λu=>?_⟩
 .refine⟨_,rfl,?_,e.aL _⟩;have g:cJ a c=[]:=by
   rcases h with⟨i,f,v,_⟩|⟨_,b⟩
   .omega
   .unfold cJ;split
    .rw[cT V];rfl
    .rfl
  rw[g];exact⟨rfl,ad _,aN,aN⟩
 .rcases h with⟨i,f,rfl,b,B,C⟩|⟨v,_⟩
  .have G:=aw b;let⟨q,j,z,g1,g2⟩:=(cz.ext e hd).aF b;have n:cG ((i:Int)+1 -1)=i:=by rw[aR V V];omega
   rw[n];refine⟨V,V,q,by simpa using g2,?_⟩;refine(kD (cz.ext e hd) d V).then λI g=>⟨_,rfl,g.dg (by simpa using g2),?_⟩;have A:=rE d i;have D:=lO d b;have F:=j.len;let⟨y,k⟩:=cL f.cons ((c -fc a i).toNat);let⟨r,w,t⟩:=(pF.ext g j).aF k;have o:cG (c -(fc a i:Int))=c -fc a i:=aR V V;rw[o];refine⟨V,V,r,t,_,rfl,?_,e.trans g⟩;have p:cJ a c=y:=by
    unfold cJ;rw[ao V];have:=rD a i (c -fc a i).toNat f b V;rw[show c.toNat=fc a i+(c -fc a i).toNat by omega,this,k];rfl
   rw[p];exact w
  .omega
def cB(a:List bB)(t:Int):List Int:=
 if 1<=t/\t<=a.length then((a[t.toNat -1]?).map λd=>(List.range d.cons.length).map λi=>((fc a (t.toNat -1)+i:Nat):Int)).getD []else[]
def AP{br:O}{a:List bB}(hd:cz m br a)(c:dV a)(t:Int):aO cp 105 [O.v br,vi t] m λI b=>∃s,I=O.v s/\ap b s (cB a t)/\J m b:=by
 apply uY;intro r;have S:=hd.len;have:=c.len;have q:J m r:=(J.aA m).aL _;have F:ig m r aB 1 (.mk m.size 0 0 0) []:=ig.new (J.aA m) aB 1 [] 0 aN;refine(bd _ _ _ _).then λL W l f=>⟨_,rfl,λh=>?_,λh=>?_⟩
 .refine⟨_,rfl,?_,q.trans f⟩;have e:cB a t=[]:=by
   unfold cB;rw[ae (oh (nb l h))]
  rw[e];exact⟨rfl,ad _,aN,aN⟩
 .have h:=yb l h;have v:cG (t -1)=((t.toNat -1:Nat):Int):=by rw[aR V V];omega
  rw[v];let⟨e,g⟩:=cL a (t.toNat -1);have w:cB a t=(List.range e.cons.length).map λi=>((fc a (t.toNat -1)+i:Nat):Int):=by
   unfold cB;rw[ao V,g];rfl
  rw[w];have Q:=rE c (t.toNat -1);have R:=lO c g;refine eB (n:=e.cons.length) V (λj s b=>J m b/\ig m b aB 1 s (((List.range j).map λi=>((fc a (t.toNat -1)+i:Nat):Int)).map Ce.i)/\s.len=j) ⟨q.trans f,by simpa using F.ext f,rfl⟩ ?_;rintro j s X K μ U ⟨d,o,p⟩ H
  let⟨y,D,M,g1,g2⟩:=(cz.ext d hd).aF g;have T:=D.len;refine⟨V,V,y,by simpa using g2,dit (λz=>?_) λz=>?_⟩
  .refine(kD (cz.ext d hd) c V).then λG k=>⟨_,rfl,?_⟩;intro u;have x:cG (((fc a (t.toNat -1):Nat):Int)+(j:Int))=((fc a (t.toNat -1)+j:Nat):Int):=by rw[aR V V];omega
   have E:u=G.push (.cells (bz [.i (((fc a (t.toNat -1)+j:Nat):Int))]) aB):=by rw[<-x]
   clear_value u;subst E;refine ig.append (zs:=[.i 0]) (d:=[.i ((fc a (t.toNat -1)+j:Nat):Int)]) ((o.ext k).ext (J.push _ _)) ((d.trans k).aL _) rfl (cK.push _ _ _).iL (by simp[p];omega) ?_;intro Y b A B C N P _;refine H V _ _ ⟨B,?_,by simp[C,p]⟩
   rw[Tk,fA,fA];exact A
  .have:j=e.cons.length:=V;subst this;exact⟨_,rfl,ap.gC o bG,d⟩
end
section
variable{S:List Nat}{d:E}{s j a h:O}{e g p:List Int}{k f:Nat}{x:Int}{Q:List Int->Prop}{K:Value->E->Prop}
def _root_.Go.Vc.ap.cq{X:List Nat}{a:E}(b:ap (bI S d) s e)(f:Fz X d a)(c:∀h∈X,h∈S)(g:e[k]? =some x):af a s.D (s.off+k*1)=some (vi x):=
 (eS.1 ((b.le (f.dj c)).aF g)).2
def _root_.Go.Vc.ap.MW{a:E}(h:ap (bI S d) s e)(b:J d a)(c:e[k]? =some x):af a s.D (s.off+k*1)=some (vi x):=
 h.cq (b.fz []) aN c
def FG(f:Nat)(b:List Value)(d:E)(S:List Nat)(Q:List Int->Prop):Prop:=aO cp f b d λv a=>∃s e,v=O.v s/\ap (bI S a) s e/\Q e/\J d a
def lE(f:Nat)(b:List Value)(d:E)(S:List Nat)(Q:List Int->Prop):Prop:=aO cp f b d λv a=>∃s e,v=O.v s/\Gr S d a aB 1 uv s e/\Q e/\J d a
def tr(f:Nat)(a:List Value)(d:E)(Q:Int->Prop):Prop:=aO cp f a d λv b=>∃n:Int,v=vi n/\Q n/\J d b
abbrev GI(S:List Nat)(a d:E)(s:O)(e:List Int):Prop:=Gr S a d aB 1 uv s e
def GI.nil(S:List Nat)(d:E):GI S d (d.push (.cells (bz []) aB)) (.mk d.size 0 0 0) []:=Gr.new S (ad _) aB 1 uv
def GI.kY{S X:List Nat}{c d:E}{s:O}{e:List Int}{a:Int}{K:O->E->Prop}(f:GI S c d s e)(g:Fz X c d)(j:∀h∈S,h<c.size)(k:e.length<=10^12)
 (i:∀r b,GI S c b r (e++[a])->Fz X c b->(d.size<=b.size/\(r.D=s.D\/d.size<=r.D))->(∀h,h<d.size->h≠s.D->b[h]? =d[h]?)->K r b):jT (d.push (.cells (bz [.i a]) aB)) aB [.i 0] 8 s (.mk d.size 0 1 1) K:=
 Gr.kY (g:=[.i 0]) uv.mono bn f g rfl V i
def GI.done{S:List Nat}{a d:E}{s:O}{e:List Int}(b:GI S a d s e)(c:∀h∈S,h<a.size)(f:e.length<=10^12):ap (bI S d) s e:=Gr.done uv.mono b c bn V
def GI.all{S X:List Nat}{b d:E}{s x:O}{e g:List Int}{K:O->E->Prop}(c:GI S b d s e)(f:Fz X b d)(k:∀h∈S,h<b.size)(j:ap (bI (s.D::S) d) x g)(l:e.length+g.length<=10^12)
 (i:∀r a,GI S b a r (e++g)->Fz X b a->(d.size<=a.size/\(r.D=s.D\/d.size<=r.D))->(∀h,h<d.size->h≠s.D->a[h]? =d[h]?)->K r a):jT d aB [.i 0] 8 s x K:=
 Gr.all (g:=[.i 0]) uv.mono bn c f j V i
def GI.jG{b a:E}(h:GI S b d s e)(j:a[s.D]? =d[s.D]?):GI S b a s e:=by
 let⟨f,c,g,i⟩:=h;exact⟨f,c,g.congr j,i.mono λ_ _ h=>h⟩
def GI.ext{S:List Nat}{b d a:E}{s:O}{e:List Int}(h:GI S b d s e)(c:J d a):GI S b a s e:=Gr.ext uv.mono h c
def _root_.Go.Vc.Gr.cA{α:Type}{S c:List Nat}{g i d:E}{f b:Nat}{R:E->List Ce->α->Prop}{s:O}{e:List α}(o:oO b R)(k:Gr c i d f b R s e)(p:∀h∈S,h∈c\/d.size<=h)(q:g.size<=i.size):Gr S g d f b R s e:=by
 let⟨l,j,m,n⟩:=k;refine⟨l,j,m.cA q,n.mono λr x=>o.le ((J.aA d).bI λh a=>?_)⟩;rcases List.mem_cons.1 a with a|a
 .exact Or.inl (by rw[a];exact aZ)
 .exact(p h a).imp (ah _) id
def GI.cA{S a:List Nat}{b c d:E}{s:O}{e:List Int}(f:GI a c d s e)(g:∀h∈S,h∈a)(j:b.size<=c.size):GI S b d s e:=Gr.cA uv.mono f (λh i=>Or.inl (g h i)) j
def lE.then{b:List Value}(h:lE f b d S Q)(k:∀s e a,GI S d a s e->Q e->J d a->K (O.v s) a):aO cp f b d K:=
 h.mono λ_ a⟨s,e,c,g,i,j⟩=>c▸k s e a g i j
def FG.then{b:List Value}(h:FG f b d S Q)(k:∀s e a,ap (bI S a) s e->Q e->J d a->K (O.v s) a):aO cp f b d K:=
 h.mono λ_ a⟨s,e,c,g,i,j⟩=>c▸k s e a g i j
def tr.then{b:List Value}{Q:Int->Prop}(h:tr f b d Q)(i:∀n a,Q n->J d a->K (vi n) a):aO cp f b d K:=
 h.mono λ_ a⟨n,e,c,g⟩=>e▸i n a c g
def tC{b:E}{h:Nat}(a:J d b)(c:d.size<=h):Le (bI S d) (bI (h::S) b):=a.bI λf e=>by
 rcases List.mem_cons.1 e with a|a
 .exact Or.inr (by rw[a];exact c)
 .exact Or.inl a
def mH(b:∀h∈S,h<d.size)(i:ap (bI S d) j e)(c:e.length<=10^12):lE 37 [O.v j] d S (e=·):=by
 apply nO;intro k;have a:J d k:=J.push d _;exact GI.all (e:=[]) (X:=[]) (GI.nil S d) (a.fz []) b (i.le (tC a (ad _))) (by simpa using c) λr m g f _ _=>⟨r,e,rfl,by simpa using g,rfl,f.ext⟩
def pI(e g:List Int):Prop:=(∀x∈g,x∈e)/\g.length<=e.length
def pv(h:∀x∈g,x∈e)(b:x∈e):∀y∈g++[x],y∈e:=by
 intro y a;rcases List.mem_append.1 a with a|a
 .exact h y a
 .simp at a;subst a;exact b
def BU(r:∀h∈S,h<d.size)(b:ap (bI S d) j e)(u:Int)(v:e.length<=10^12):lE 266 [O.v j,vi u] d S (pI e):=by
 apply Fv;intro z;have t:=b.len;refine eB (n:=e.length) (t▸b.gX) (λk s a=>J d a/\∃g,GI S d a s g/\(∀x∈g,x∈e)/\g.length<=k) ⟨J.push d _,[],GI.nil S d,aN,ad _⟩ ?_;rintro k s A I μ y ⟨a,g,c,i,w⟩ m
 refine dit (λp=>?_) λp=>?_
 .let⟨x,l⟩:=cL e k;refine⟨V,V,x,b.MW a l,λq=>⟨V,V,x,b.MW a l,?_⟩,λq=>m V _ _ ⟨a,g,c,i,V⟩⟩;intro B;exact GI.kY c (a.fz []) r V λD C o f _ _=>m V _ _ ⟨f.ext,_,o,pv i (aq l),bG⟩
 .exact⟨s,g,rfl,c,⟨i,V⟩,a⟩
def Pe(r:∀h∈S,h<d.size)(b:ap (bI S d) j e)(u:Int)(v:e.length<=10^12):lE 307 [O.v j,vi u] d S (pI e):=by
 apply Iy;intro z;have t:=b.len;refine eB (n:=e.length) (t▸b.gX) (λk s a=>J d a/\∃g,GI S d a s g/\(∀x∈g,x∈e)/\g.length<=k) ⟨J.push d _,[],GI.nil S d,aN,ad _⟩ ?_;rintro k s A I μ y ⟨a,g,c,i,w⟩ m
 refine dit (λp=>?_) λp=>?_
 .let⟨x,l⟩:=cL e k;refine⟨V,V,x,b.MW a l,λq=>⟨V,V,x,b.MW a l,?_⟩,λq=>m V _ _ ⟨a,g,c,i,V⟩⟩;intro B;exact GI.kY c (a.fz []) r V λD C o f _ _=>m V _ _ ⟨f.ext,_,o,pv i (aq l),bG⟩
 .exact⟨s,g,rfl,c,⟨i,V⟩,a⟩
def Nn(u:∀h∈S,h<d.size)(i:ap (bI S d) a e)(v:ap (bI S d) h p)(A:e.length<=10^12):lE 293 [O.v a,O.v h] d S (pI e):=by
 apply GO;intro D;have w:=i.len;refine eB (n:=e.length) (w▸i.gX) (λk s b=>J d b/\∃g,GI S d b s g/\(∀x∈g,x∈e)/\g.length<=k) ⟨J.push d _,[],GI.nil S d,aN,ad _⟩ ?_;rintro k s E I μ C ⟨b,g,j,l,B⟩ o
 refine dit (λr=>?_) λr=>?_
 .let⟨x,m⟩:=cL e k;refine⟨V,V,x,i.MW b m,?_⟩;refine(dA ((v.le (bD _ _)).ext b) x).then λz F _ c=>⟨_,rfl,λt=>⟨V,V,x,i.MW (b.trans c) m,?_⟩,λt=>o V _ _ ⟨b.trans c,g,j.ext c,l,V⟩⟩;intro y;exact GI.kY (j.ext c) ((b.trans c).fz []) u V λG y q f _ _=>o V _ _ ⟨f.ext,_,q,pv l (aq m),bG⟩
 .exact⟨s,g,rfl,j,⟨l,V⟩,b⟩
def _root_.Go.Vc.xt{σ τ:Type}{n:Nat}(p:n<=9223372036854775807){h:σ}{j:τ}{g:(σ->τ->Int->E->Prop)->(σ->τ->Int->E->Nat)->σ->τ->Int->E->Prop}(Q:Nat->σ->τ->E->Prop)(m:Q 0 h j d)
 (l:∀(k:Nat)(s:σ)(t:τ)(a:E)(I:σ->τ->Int->E->Prop)(μ:σ->τ->Int->E->Nat),k<=n->Q k s t a->
  (k<n->∀c e b,Q (k+1) c e b->I c e (cG ((k:Int)+1)) b/\μ c e (cG ((k:Int)+1)) b<μ s t k a)->g I μ s t k a):
 ∃(I:σ->τ->Int->E->Prop)(μ:σ->τ->Int->E->Nat),I h j 0 d/\∀s t i a,I s t i a->g I μ s t i a:=by
 refine⟨λs t i b=>∃k:Nat,i=k/\k<=n/\Q k s t b,λ_ _ i _=>(n -i).toNat,⟨0,rfl,dQ _,m⟩,?_⟩
 rintro s t i a ⟨k,rfl,o,q⟩
 refine l k s t a _ _ o q λf c e b r=>?_
 rw[kQ f p]
 exact⟨⟨k+1,rfl,f,r⟩,DM f⟩
def Xf(e:List Int)(n:Int)(g:List Int):Prop:=(∀x∈g,x∈e\/x=n)/\g.length<=e.length+1
def Cm{n:Int}(h:∀x∈g,x∈e\/x=n)(b:x∈e\/x=n):∀y∈g++[x],y∈e\/y=n:=by
 intro y a;rcases List.mem_append.1 a with a|a
 .exact h y a
 .simp at a;subst a;exact b
def mN(o:∀h∈S,h<d.size)(w:ap (bI S d) j e)(t:Int)(M:e.length<10^12):lE 247 [O.v j,vi t] d S (Xf e t):=by
 apply G8;intro Q;have K:=w.len;refine xt (n:=e.length) (K▸w.gX) (λk s c b=>J d b/\∃g,GI S d b s g/\(∀x∈g,x∈e\/x=t)/\g.length<=k+(if c=true then 1 else 0)) ⟨J.push d _,[],GI.nil S d,aN,ad _⟩ ?_;rintro k s c y I μ P ⟨a,g,p,q,v⟩ D
 have N:g.length<=k+1:=by split at v<;>omega
 refine dit (λu=>?_) λu=>?_
 .let⟨x,z⟩:=cL e k;have G:∀{b:E},J d b->af b j.D (j.off+k*1)=some (vi x):=λu=>w.MW u z;have B:x∈e\/x=t:=Or.inl (aq z);have A:∀m:Bool,(g++[x]).length<=k+1+(if m=true then 1 else 0)->jT (y.push (.cells (bz [.i x]) aB)) aB [.i 0] 8 s (.mk y.size 0 1 1) λr b=>I r m (cG ((k:Int)+1)) b/\μ r m (cG ((k:Int)+1)) b<μ s c k y:=λm hd=>
   GI.kY p (a.fz []) o V λr C i f _ _=>D V _ _ _ ⟨f.ext,_,i,Cm q B,hd⟩
  refine⟨λl=>⟨V,V,x,G a,λF=>⟨V,V,x,G a,λH=>?_,λH=>⟨V,V,x,G a,A true bG⟩⟩,λF=>⟨V,V,x,G a,A c ?_⟩⟩,λl=>⟨V,V,x,G a,A c ?_⟩⟩
  .have hd:c=false:=by simpa using l
   subst hd;simp at v;intro L;refine GI.kY p (a.fz []) o V λr C i f _ _=>⟨V,V,x,G f.ext,?_⟩;intro R;exact GI.kY i f o bG λr T i f _ _=>D V _ _ _ ⟨f.ext,_,i,Cm (Cm q (Or.inr rfl)) B,bG⟩
  .simp only[bh,be,eY];omega
  .simp only[bh,be,eY];omega
 .refine⟨λl=>?_,λl=>⟨s,g,rfl,p,⟨q,V⟩,a⟩⟩;have hd:c=false:=by simpa using l
  subst hd;simp at v;intro L;exact GI.kY p (a.fz []) o V λr C i f _ _=>⟨r,_,rfl,i,⟨Cm q (Or.inr rfl),bG⟩,f.ext⟩
def sM(y:∀h∈S,h<d.size)(l:ap (bI S d) j e)(B:Int)(C:e.length<=10^12):lE 243 [O.v j,vi B] d S (pI e):=by
 apply wX;intro F;have z:=l.len;refine xt (n:=e.length) (z▸l.gX) (λk s _ a=>J d a/\∃g,GI S d a s g/\(∀x∈g,x∈e)/\g.length<=k) ⟨J.push d _,[],GI.nil S d,aN,ad _⟩ ?_;rintro k s c o I μ E ⟨b,g,i,m,D⟩ q
 refine dit (λu=>?_) λu=>?_
 .let⟨x,p⟩:=cL e k;have G:=l.MW b p;have A:jT (o.push (.cells (bz [.i x]) aB)) aB [.i 0] 8 s (.mk o.size 0 1 1) λr a=>I r c (cG ((k:Int)+1)) a/\μ r c (cG ((k:Int)+1)) a<μ s c k o:=
   GI.kY i (b.fz []) y V λr H t f _ _=>q V _ _ _ ⟨f.ext,_,t,pv m (aq p),bG⟩
  exact⟨V,V,x,G,λv=>⟨λw=>q V _ _ _ ⟨b,g,i,m,V⟩,λw=>⟨V,V,x,G,A⟩⟩,λv=>⟨V,V,x,G,A⟩⟩
 .exact⟨s,g,rfl,i,⟨m,V⟩,b⟩
def Pj(f:∀h∈S,h<d.size)(v:ap (bI S d) a e)(i:ap (bI S d) h p)(j:e.length+p.length<=10^12):lE 261 [O.v a,O.v h] d S (λg=>(∀x∈g,x∈e\/x∈p)/\g.length<=e.length+p.length):=by
 apply Ji;refine(mH f v V).then λM _ G u r C=>⟨_,rfl,?_⟩;subst r;have w:=i.len;refine eB (n:=p.length) (w▸i.gX) (λk s b=>J d b/\∃g,GI S d b s g/\(∀x∈g,x∈e\/x∈p)/\g.length<=e.length+k) ⟨C,_,u,λx c=>Or.inl c,ad _⟩ ?_;rintro k s H I μ F ⟨c,g,l,m,E⟩ B
 refine dit (λb=>?_) λb=>?_
 .let⟨x,o⟩:=cL p k;refine⟨V,V,x,i.MW c o,?_⟩;refine(mN (λh j=>aP (f h j) c.size) (l.done f V) x V).then λL A K t q D=>⟨_,rfl,B V _ _ ⟨c.trans D,A,t.cA (λ_ b=>b) c.size,λy z=>?_,oh q.2⟩⟩;rcases q.1 y z with b|b
  .exact m y b
  .subst b;exact Or.inr (aq o)
 .exact⟨s,g,rfl,l,⟨m,V⟩,c⟩
def tU(a:Int)(d:E):dy cp 280 [vi a] d (14<=a/\a<=17):=by
 apply ze;exact(bd _ _ _ _).then λh e c b=>⟨_,rfl,eW c b⟩
def eP(c:∀h∈S,h<d.size){iu:O}{a:List Int}(m:ap (bI S d) j e)(n:ap (bI S d) iu a)(l:e.length+a.length<=10^12):lE 157 [O.v j,O.v iu] d S (e++a=·):=by
 apply vd;refine(mH c m V).then λq _ p b i g=>⟨_,rfl,?_⟩;subst i;exact GI.all b (g.fz []) c (n.le (tC g b.bq.1)) l λr o k f _ _=>⟨r,_,rfl,k,rfl,f.ext⟩
def sB(t:∀h∈S,h<d.size)(l:ap (bI S d) j e)(a:Nat)(w:a+e.length<=10^12):lE 189 [O.v j,vi a] d S (λg=>(∀x∈g,(a:Int)<=x/\x<a+e.length)/\g.length<=e.length):=by
 apply Da;intro B;have u:=l.len;refine eB (n:=e.length) (u▸l.gX) (λk s b=>J d b/\∃g,GI S d b s g/\(∀x∈g,(a:Int)<=x/\x<a+e.length)/\g.length<=k) ⟨J.push d _,[],GI.nil S d,aN,ad _⟩ ?_;rintro k s C I μ A ⟨c,g,i,m,z⟩ o
 refine dit (λq=>?_) λq=>?_
 .let⟨x,v⟩:=cL e k;refine⟨V,V,x,l.MW c v,λr=>?_,λr=>o V _ _ ⟨c,g,i,m,V⟩⟩;rw[aR (b:=(a:Int)+k) V V];intro D;refine GI.kY i (c.fz []) t V λF E p f _ _=>o V _ _ ⟨f.ext,_,p,?_,bG⟩
  intro y b;rcases List.mem_append.1 b with b|b
  .exact m y b
  .simp at b;omega
 .exact⟨s,g,rfl,i,⟨m,V⟩,c⟩
def mw(o:∀h∈S,h<d.size)(a b:Nat)(q:a+b<=10^12):lE 163 [vi a,vi b] d S (λg=>(∀x∈g,(a:Int)<=x/\x<a+b)/\g.length=b):=by
 apply xV;intro u;refine eB (n:=b) V (λk s c=>J d c/\∃g,GI S d c s g/\(∀x∈g,(a:Int)<=x/\x<a+b)/\g.length=k) ⟨J.push d _,[],GI.nil S d,aN,rfl⟩ ?_;rintro k s v I μ t ⟨j,g,e,i,r⟩ p
 refine dit (λm=>?_) λm=>?_
 .rw[aR (b:=(a:Int)+k) V V];intro w;refine GI.kY e (j.fz []) o V λA z l f _ _=>p V _ _ ⟨f.ext,_,l,?_,bG⟩
  intro y c;rcases List.mem_append.1 c with c|c
  .exact i y c
  .simp at c;omega
 .exact⟨s,g,rfl,e,⟨i,V⟩,j⟩
def HY(e:List Int):(e.map λx=>[Ce.i x]).flatten=e.map Ce.i:=by induction e<;>simp_all
def GI.set{S X:List Nat}{p d:E}{s:O}{e:List Int}(t:GI S p d s e)(M:Fz X p d){k:Nat}(B:k<e.length)(n:Int):
 fO d s.D (s.off+k*1) 1/\GI S p (ai d s.D (s.off+k*1) [.i n]) s (e.set k n)/\Fz X p (ai d s.D (s.off+k*1) [.i n])/\(∀h,h≠s.D->(ai d s.D (s.off+k*1) [.i n])[h]? =d[h]?):=by
 have R:=t.bq
 have T:=t.len bn
 let⟨v,j,I,g⟩:=t
 have Q:∀h,h≠s.D->(ai d s.D (s.off+k*1) [.i n])[h]? =d[h]? :=λh L=>bg _ _ _ _ L
 let⟨h,D,tail,q,F,u,G,H⟩:=I.aF.resolve_left v
 have N:j.flatten.length=e.length:=by rw[cy g.size,g.len];omega
 have P:j.flatten=e.map Ce.i:=by
  apply ic;intro f;rcases aX f e.length with a|a
  .let⟨x,l⟩:=dG a;let⟨cs,y⟩:=cL j f (by rw[g.len];exact a);have z:cs=[.i x]:=g.dD f cs x y l;have w:=fY (g:=1) g.size y (i:=0) (c:=.i x) (by rw[z];rfl);simp only[eT,jN]at w;rw[w];simp[l]
  .rw[cT V,cT (by simpa using a)]
 have C:s.off+k*1=k:=by rw[q];simp
 have w:s.D=h:=by rw[q];rfl
 refine⟨?_,⟨v,(e.set k n).map λx=>[.i x],⟨?_,Or.inr ⟨h,D,tail,q,F,?_,?_,H⟩⟩,⟨by rw[eu],λcs y=>?_,λU cs x A l=>?_⟩⟩,M.ai (Or.inr R.1) _ _,Q⟩
 .rw[C,w]
  exact u.fO (by simp only[bh,be,eY];omega)
 .rw[HY,eu,ez];omega
 .have J:=cK.ai (m:=d) (b:=h) (r:=[.i n]) (o:=k) u
  rw[C,w,HY]
  have K:jt (j.flatten++tail) k [.i n]=(e.set k n).map Ce.i++tail:=by
   apply ic;intro f;rw[wD,P];by_cases z:f=k
   .subst z;rw[ao ⟨ad _,aN,bG⟩,az (by simpa using B)];simp[B]
   .rw[ae bG];rcases aX f e.length with a|a
    .rw[az (by simpa using a),az (by simpa using a)];simp only[cN,cx (kT z)]
    .rw[aK (by simpa using a),aK (by simpa using a)];simp
  rw[<-K];exact J
 .rw[<-G,HY]
  simp only[bh,N,eu,ez]
 .simp only[XG]at y
  obtain⟨x,_,rfl⟩:=y
  rfl
 .simp only[cN,l,oC,DZ]at A
  exact A.symm
def vj(k:∀h∈S,h<d.size)(o:ap (bI S d) j e)(m:e.length<=10^12){a:Nat}(l:a<e.length)(n:Int):lE 205 [O.v j,vi a,vi n] d S (e.set a n=·):=by
 apply zC;refine(mH k o m).then λs _ q g b p=>⟨_,rfl,V,?_,?_⟩
 .subst b;have:=g.len bn;omega
 subst b;obtain⟨c,f,i,_⟩:=g.set (p.fz []) l n;exact⟨c,s,_,rfl,f,rfl,i.ext⟩
end
end Go.Proofs.YtghjegjkpepmpaaGreat
section
namespace Go.Vc
variable{l:List cZ}{k d a:Nat}{x s:cZ}{c:Prop}
open Go.Proofs.YtghjegjkpepmpaaGreat
def Bk.ind{Q:Bk->Prop}(h:∀aE r,(∀s∈aE,∀b∈s.bF,Q b)->Q (.mk aE r)):∀b,Q b
 | .mk aE r=>h aE r λs _ b _=>Bk.ind h b
termination_by b=>SizeOf.sizeOf b
decreasing_by
 rename_i a c
 have d:=oY a
 have e:=oY c
 have f:SizeOf.sizeOf s.bF<SizeOf.sizeOf s:=by cases s;simp;omega
 simp;omega
def Ex.ind{Q:Ex->Prop}(h:∀a bS bF,(∀e∈bF,Q e)->Q (.mk a bS bF)):∀e,Q e
 | .mk a bS bF=>h a bS bF λe _=>Ex.ind h e
termination_by e=>SizeOf.sizeOf e
decreasing_by
 rename_i a
 have b:=oY a
 simp;omega
def sw(l:List cZ):Nat:=(l.map MR.w).sum
def bw(l:List Bk):Nat:=(l.map Bk.w).sum
def en(l:List Ex):Nat:=(l.map Ex.n).sum
@[simp] theorem vJ:sw []=0:=rfl
@[simp] theorem zT:bw []=0:=rfl
@[simp] theorem Xn:en []=0:=rfl
def mW(x:cZ)(l:List cZ):sw (x::l)=x.w+sw l:=by simp[sw]
def uO(x:Bk)(l:List Bk):bw (x::l)=x.w+bw l:=by simp[bw]
def ON(x:Ex)(l:List Ex):en (x::l)=x.n+en l:=by simp[en]
def dH(a b:List cZ):sw (a++b)=sw a+sw b:=by simp[sw]
def pp(a b:List Bk):bw (a++b)=bw a+bw b:=by simp[bw]
def NS(a b:List Ex):en (a++b)=en a+en b:=by simp[en]
def Bk.qW(s:List cZ)(r:Int):(Bk.mk s r).w=1+sw s:=Bk.Zt _
def Bk.mJ(b:Bk):b.w=1+sw b.aE:=Bk.Zt b
def cZ.mJ(s:cZ):s.w=1+s.args.length+bw s.bF:=rfl
def Ex.SU(o n:Int)(k:List Ex):(Ex.mk o n k).n=1+en k:=by rw[Ex.n];rfl
def Ex.YP(e:Ex):e.n=1+en e.bF:=by cases e;exact Ex.SU _ _ _
def qu(h:l[k]? =some x):sw (l.take (k+1))=sw (l.take k)+x.w:=by rw[aV h,dH,mW,vJ];rfl
def uP{l:List Bk}{x:Bk}(h:l[k]? =some x):bw (l.take (k+1))=bw (l.take k)+x.w:=by rw[aV h,pp,uO,zT];rfl
def Ky{l:List Ex}{x:Ex}(h:l[k]? =some x):en (l.take (k+1))=en (l.take k)+x.n:=by rw[aV h,NS,ON,Xn];rfl
def BV(l:List cZ)(k:Nat):sw (l.take k)<=sw l:=by
 have:=dH (l.take k) (l.drop k);rw[dv]at this;omega
def KV(l:List Bk)(k:Nat):bw (l.take k)<=bw l:=by
 have:=pp (l.take k) (l.drop k);rw[dv]at this;omega
def RZ(l:List Ex)(k:Nat):en (l.take k)<=en l:=by
 have:=NS (l.take k) (l.drop k);rw[dv]at this;omega
def Pl(h:l[k]? =some x):x.w<=sw l:=by
 have:=qu h;have:=BV l (k+1);omega
def xk{l:List Bk}{x:Bk}(h:l[k]? =some x):x.w<=bw l:=by
 have:=uP h;have:=KV l (k+1);omega
def gB:∀l:List cZ,l.length<=sw l
 |[]=>aN
 |x::l=>by have:=gB l;rw[mW,be,cZ.mJ];omega
def Bk.HD(b:Bk):1<=b.w:=by rw[Bk.mJ];omega
def qG:∀l:List Bk,l.length<=bw l
 |[]=>aN
 |x::l=>by have:=qG l;have:=x.HD;rw[uO,be];omega
def Q4:∀l:List Ex,l.length<=en l
 |[]=>aN
 |x::l=>by have:=Q4 l;rw[ON,be,Ex.YP];omega
def pG(a:Int):Prop:=0<=a/\a<=11
instance(a:Int):Decidable (pG a):=inferInstanceAs (Decidable (_/\_))
def dn(s:cZ):Nat:=if pG s.op then 1 else 0
def dc(l:List cZ):Nat:=(l.map dn).sum
@[simp] theorem tA:dc []=0:=rfl
def k8(x:cZ)(l:List cZ):dc (x::l)=dn x+dc l:=by simp[dc]
def da(a b:List cZ):dc (a++b)=dc a+dc b:=by simp[dc]
def rf(h:l[k]? =some x):dc (l.take (k+1))=dc (l.take k)+dn x:=by rw[aV h,da,k8,tA];rfl
def TU(l:List cZ)(k:Nat):dc (l.take k)<=dc l:=by
 have:=da (l.take k) (l.drop k);rw[dv]at this;omega
def Yv(x:cZ):dn x<=1:=by unfold dn;split<;>omega
def tz:∀l:List cZ,dc l<=l.length
 |[]=>aN
 |x::l=>by have:=tz l;have:=Yv x;rw[k8,be];omega
def Ch(a:List bB)(b bS:Int)(i:Nat):Nat:=if b=8 then(cJ a (((cB a bS)[i]?).getD 0)).length else 0
structure U0(ds:List bB)(d:Nat)(c:Prop)(a:Nat)(s:cZ):Prop where
 op:pG s.op\/c/\14<=s.op/\s.op<=17
 args:∀x∈s.args,0<=x/\x<(a:Int)
 lY:14<=s.op\/s.op=7\/s.op=8->s.args.length=1
 cg:0<=s.cg/\s.cg<=(a:Int)
 Kw:s.op=7->s.bF.length=2
 all:s.op=8->s.bF.length=(cB ds s.bS).length/\0<s.bF.length
 call:s.op=9->0<=s.bS/\s.bS<(d:Int)
inductive WB(ds:List bB)(d:Nat)(c:Prop):Nat->Bk->Prop
 |mk {a:Nat} {aE:List cZ} {r:Int} (fj:∀(i:Nat)(s:cZ),aE[i]? =some s->U0 ds d c (a+dc (aE.take i)) s)
  (bF:∀(i:Nat)(s:cZ)(k:Nat)(b:Bk),aE[i]? =some s->s.bF[k]? =some b->WB ds d c (a+dc (aE.take i)+Ch ds s.op s.bS k) b)
  (res:0<=r/\r<((a+dc aE:Nat):Int)):WB ds d c a (.mk aE r)
structure WS(ds:List bB)(d:Nat)(c:Prop)(a:Nat)(s:cZ):Prop where
 fj:U0 ds d c a s
 bF:∀(k:Nat)(b:Bk),s.bF[k]? =some b->WB ds d c (a+Ch ds s.op s.bS k) b
def WL(b:List bB)(d:Nat)(c:Prop)(a:Nat)(l:List cZ):Prop:=∀(i:Nat)(s:cZ),l[i]? =some s->WS b d c (a+dc (l.take i)) s
def WB.aU{e:List bB}{b:Bk}(h:WB e d c a b):WL e d c a b.aE/\0<=b.aT/\b.aT<((a+dc b.aE:Nat):Int):=by
 cases h with
 |mk fj bF j=>exact⟨λi s f=>⟨fj i s f,λk b g=>bF i s k b f g⟩,j⟩
def WB.of{e:List bB}{aE:List cZ}{r:Int}(h:WL e d c a aE)(j:0<=r/\r<((a+dc aE:Nat):Int)):WB e d c a (.mk aE r):=
 .mk (λi s b=>(h i s b).fj) (λi s k f b g=>(h i s b).bF k f g) j
def WL.nil(b:List bB)(d:Nat)(c:Prop)(a:Nat):WL b d c a []:=λi s h=>by simp at h
def WL.append{f:List bB}{g:List cZ}(h:WL f d c a l)(j:WL f d c (a+dc l) g):WL f d c a (l++g):=λi s e=>by
 rcases aX i l.length with b|b
 .rw[az b]at e;rw[nJ V];exact h i s e
 .rw[aK b]at e;have:=j _ s e;rw[List.take_append,nQ b,da,<-dq];exact this
def WL.lY{e:List bB}(h:WS e d c a s):WL e d c a [s]:=λi x b=>by
 have:i=0:=by have:=aw b;simp at this;omega
 subst this;simp at b;subst b;simpa using h
def WL.yV{b:List bB}(h:WL b d c a l)(e:WS b d c (a+dc l) s):WL b d c a (l++[s]):=h.append (.lY e)
def WL.take{e:List bB}(h:WL e d c a l)(k:Nat):WL e d c a (l.take k):=λi s b=>by
 rw[lT]at b;split at b
 .rw[MN,ju V];exact h i s b
 .simp at b
def WL.drop{b:List bB}(h:WL b d c a l)(k:Nat):WL b d c (a+dc (l.take k)) (l.drop k):=λi s e=>by
 rw[sH]at e;have:=h _ s e;rw[List.take_add,da,<-dq]at this;exact this
end Go.Vc
end
namespace Go.Proofs.YtghjegjkpepmpaaGreat
open Go.Vc
section
variable{m:E}{d p:O}{b:cV}
def vU(b:cV)(bS:Int)(n:Nat):Prop:=∃q:dC,0<=bS/\b.cE[bS.toNat]? =some q/\q.params.length=n
def UJ:cG 9223372036854775808= -9223372036854775808:=bn
def wU(h:fC m d p b)(bS:Int)(n iu:Nat)(I:n<=9223372036854775807)(H:iu<=1):
 dy cp 179 [.agg #[O.v d,O.v p],vi bS,vi n,vi iu] m (vU b bS (n+iu)):=by
 apply Dn
 simp -zeta only[aD,aC]
 intro j
 have i:J m j:=(J.aA m).aL _
 have w:∀k∈[m.size],k<j.size:=by simp[j]
 have K:=h.cE.len
 have L:=h.cE.gX
 refine(bd _ _ _ _).aJ (J.aA _) w λk M o f B=>⟨_,rfl,λa=>?_,λa=>?_⟩
 .have a:=o.1 a
  rw[aR V V]at a
  let⟨q,g⟩:=cL b.cE bS.toNat
  let⟨e,x,y,l,D,E,s,g1,g2,z,A⟩:=(iC.ext (i.trans f) h.cE).aF g
  refine⟨V,V,e,s,eW ?_ (i.trans f)⟩
  have u:=l.len
  have C:=l.gX
  simp only[aG]
  have r:(e.len:Int)=cG ((n:Int)+(iu:Int))<->e.len=n+iu:=by
   rcases aX (n+iu) 9223372036854775808 with G|F
   .rw[aR V V];omega
   .have c:(n:Int)+(iu:Int)=9223372036854775808:=V;rw[c,UJ];omega
  rw[r,u]
  exact⟨λv=>⟨q,a.1,g,v⟩,λ⟨N,_,c,t⟩=>by rw[g]at c;simp at c;rw[c];exact t⟩
 .refine bX (λ⟨q,e,c,_⟩=>fb o a ?_) (i.trans f)
  have:=aw c
  rw[aR V V]
  omega
def mf(b:cV)(p:dC)(k:Nat)(i:Instr):Prop:=
 if i.op=0 then i.args.length=0/\-999<=i.bS/\i.bS<=999
 else if i.op=1\/i.op=2\/i.op=3\/i.op=4\/i.op=11 then i.args.length=2/\i.bS=0
 else if i.op=5\/i.op=14\/i.op=15\/i.op=18\/i.op=23 then i.args.length=1/\i.bS=0
 else if i.op=6 then(0<=i.bS/\i.bS<(eU b.br).length)/\i.args.length=(cJ b.br i.bS).length/\0<=i.cg/\i.cg<=p.ak
 else if i.op=9\/i.op=24 then vU b i.bS i.args.length
 else if i.op=10 then vU b i.bS (i.args.length+1)/\∀q,b.cE[i.bS.toNat]? =some q->q.cY.length=0
 else if i.op=16\/i.op=17 then(1<=i.args.length/\i.args.length<=4)/\i.bS=0
 else if i.op=19 then i.args.length=1/\0<=i.bS/\i.bS<=2
 else if i.op=20 then i.args.length=1/\(k:Int)+1<=i.bS/\i.bS<=(p.dk.length:Int) -1
 else if i.op=22 then i.args.length=0/\(k:Int)+1<=i.bS/\i.bS<=(p.dk.length:Int) -1
 else if i.op=21 then i.args.length=1/\0<(cB b.br i.bS).length/\OA i.eN (cB b.br i.bS).length k p.dk.length
 else False
structure iZ(b:cV)(p:dC)(k:Nat)(i:Instr):Prop where
 args:∀a∈i.args,0<=a/\a<=p.ak -1
 dst:0<=i.dst/\i.dst<=p.ak -1
 Yw:i.dst=0\/mg i.op
 cg:i.cg=0\/i.op=6
 eN:i.op=21\/i.eN.length=0
 op:mf b p k i
structure PC(m:E)(a l:O)(c:O)(p:dC):Prop where
 params:ap m a p.params
 cY:ap m l p.cY
 dk:ft m c p.dk
def PC.ext{m d:E}(a:J m d){b l c:O}{p:dC}(h:PC m b l c p):PC d b l c p:=⟨h.params.ext a,h.cY.ext a,ft.ext a h.dk⟩
def Fo(ai:fC m d p b)(X:dV b.br){ab ah S:O}{q:dC}(U:PC m ab ah S q)(hr:1<=q.ak/\q.ak<=2000){k:Nat}{i:Instr}(hk:q.dk[k]? =some i):
 dy cp 128 [.agg #[O.v d,O.v p],.agg #[O.v ab,O.v ah,vi q.aT,vi q.ak,O.v S],vi k] m (iZ b q k i):=by
 apply zt
 simp -zeta only[aD,aC]
 intro m1 N
 have Z:J m N:=((J.aA m).aL _).aL _
 have aJ:=aw hk
 have ac:=U.dk.len
 have aF:=U.dk.gX
 let⟨xa,M,P,hj,g0,g1,g2,g3,g4,g5⟩:=(ft.ext Z U.dk).aF hk
 refine⟨V,V,_,g0,_,g1,_,g2,_,g3,_,g4,_,g5,?_⟩
 intro m3 z
 have r:J m z:=(Z.aL _).ai Z.size _ _
 have ag:J N z:=((J.aA N).aL _).ai (ad _) _ _
 have v:∀A∈[N.size,m1.size,m.size],A<z.size:=by
  simp[z,m3,N,m1,ax];omega
 clear_value z
 have T:=P.len
 have aI:=hj.len
 have aA:=P.gX
 have er:cG (q.ak -1)=q.ak -1:=aR V V
 rw[er]
 refine dW (n:=i.args.length) (T▸P.gX) (λaa s=>J z s/\∀x∈i.args.take aa,0<=x/\x<=q.ak -1) ⟨J.aA _,aN⟩ ?_
 rintro aa m5 ay μ aH ⟨Y,hn⟩ au
 refine dit (λh1=>?_) λh1=>?_
 .let⟨x,a⟩:=cL i.args aa
  refine⟨V,V,x,by simpa using(ag.trans Y).af (P.aF a),?_⟩
  exact(bd _ _ _ _).aJ Y v λA w e g f=>⟨_,rfl,λc=>bX (λh=>nb e c (h.args x (aq a))) (r.trans f),λc=>au V _ ⟨f,bE a hn (yb e c)⟩⟩
 .have ak:=dh V hn
  refine⟨λs=>J z s/\(0<=i.dst/\i.dst<=q.ak -1)/\(i.dst=0\/mg i.op)/\(i.cg=0\/i.op=6)/\(i.op=21\/i.eN.length=0),?_,?_⟩
  .refine(bd _ _ _ _).aJ Y v λA w e g f=>⟨_,rfl,λc=>bX (λh=>nb e c h.dst) (r.trans f),λc=>?_⟩
   have R:=yb e c
   have tail:∀s:E,J z s->(i.dst=0\/mg i.op)->
    ((i.cg !=0)=true->((i.op !=6)=true->∃B:Bool,vb false=.bool B/\(B=true<->iZ b q k i)/\J m s)/\((i.op !=6)=false->
     ((i.op !=21)=true->((decide ((M.len:Int)>0))=true->∃B:Bool,vb false=.bool B/\(B=true<->iZ b q k i)/\J m s)/\((decide ((M.len:Int)>0))=false->J z s/\(0<=i.dst/\i.dst<=q.ak -1)/\(i.dst=0\/mg i.op)/\(i.cg=0\/i.op=6)/\(i.op=21\/i.eN.length=0)))/\
     ((i.op !=21)=false->J z s/\(0<=i.dst/\i.dst<=q.ak -1)/\(i.dst=0\/mg i.op)/\(i.cg=0\/i.op=6)/\(i.op=21\/i.eN.length=0))))/\
    ((i.cg !=0)=false->
     ((i.op !=21)=true->((decide ((M.len:Int)>0))=true->∃B:Bool,vb false=.bool B/\(B=true<->iZ b q k i)/\J m s)/\((decide ((M.len:Int)>0))=false->J z s/\(0<=i.dst/\i.dst<=q.ak -1)/\(i.dst=0\/mg i.op)/\(i.cg=0\/i.op=6)/\(i.op=21\/i.eN.length=0)))/\
     ((i.op !=21)=false->J z s/\(0<=i.dst/\i.dst<=q.ak -1)/\(i.dst=0\/mg i.op)/\(i.cg=0\/i.op=6)/\(i.op=21\/i.eN.length=0))):=by
    intro s l Q
    have u:(i.cg=0\/i.op=6)->((i.op !=21)=true->((decide ((M.len:Int)>0))=true->∃B:Bool,vb false=.bool B/\(B=true<->iZ b q k i)/\J m s)/\((decide ((M.len:Int)>0))=false->J z s/\(0<=i.dst/\i.dst<=q.ak -1)/\(i.dst=0\/mg i.op)/\(i.cg=0\/i.op=6)/\(i.op=21\/i.eN.length=0)))/\
     ((i.op !=21)=false->J z s/\(0<=i.dst/\i.dst<=q.ak -1)/\(i.dst=0\/mg i.op)/\(i.cg=0\/i.op=6)/\(i.op=21\/i.eN.length=0)):=by
     intro t
     refine⟨λa=>⟨λj=>?_,λj=>?_⟩,λa=>?_⟩
     .simp at a j
      exact bX (λh=>by rcases h.eN with o|o<;>omega) (r.trans l)
     .simp at j
      exact⟨l,R,Q,t,Or.inr V⟩
     .simp at a
      exact⟨l,R,Q,t,Or.inl a⟩
    refine⟨λa=>⟨λj=>?_,λj=>u (Or.inr (by simpa using j))⟩,λa=>u (Or.inl (by simpa using a))⟩
    simp at a j
    exact bX (λh=>by rcases h.cg with o|o<;>contradiction) (r.trans l)
   refine⟨λa=>?_,λa=>tail w f (Or.inl (by simpa using a))⟩
   refine(xY _ _).aJ f v λA x e j o=>⟨_,rfl,λG=>?_,λG=>tail x o (Or.inr (yb e G))⟩
   simp at a
   exact bX (λh=>by rcases h.Yw with I|I;exact a I;exact nb e G I) (r.trans o)
  .rintro m8 ⟨x,R,Q,an,ap⟩
   have y:=r.trans x
   have am:iZ b q k i<->mf b q k i:=⟨λh=>h.op,λh=>⟨ak,R,Q,an,ap,h⟩⟩
   rw[am]
   have K:fC m8 d p b:=fC.ext y ai
   refine⟨λt=>?_,λt=>?_⟩
   .simp only[aG]at t
    have h:mf b q k i<->i.args.length=0/\-999<=i.bS/\i.bS<=999:=by rw[mf,ao t]
    rw[h]
    refine⟨λg=>?_,λg=>?_⟩
    .simp only[aG]at g
     refine(bd _ _ _ _).aJ x v λA H e f c=>⟨_,rfl,eW ?_ (r.trans c)⟩
     rw[e];omega
    .simp only[aj]at g
     exact bX V y
   simp only[aj]at t
   refine⟨λu=>?_,λu=>?_⟩
   .simp only[bT,aG]at u
    have h:mf b q k i<->i.args.length=2/\i.bS=0:=by rw[mf,ae t,ao u]
    rw[h]
    refine⟨λg=>eW ?_ y,λg=>bX ?_ y⟩
    .simp only[aG]at g⊢;omega
    .simp only[aj]at g;omega
   simp only[bu,aj]at u
   replace u:¬(i.op=1\/i.op=2\/i.op=3\/i.op=4\/i.op=11):=V
   refine⟨λw=>?_,λw=>?_⟩
   .simp only[bT,aG]at w
    have h:mf b q k i<->i.args.length=1/\i.bS=0:=by rw[mf,ae t,ae u,ao w]
    rw[h]
    refine⟨λg=>eW ?_ y,λg=>bX ?_ y⟩
    .simp only[aG]at g⊢;omega
    .simp only[aj]at g;omega
   simp only[bu,aj]at w
   replace w:¬(i.op=5\/i.op=14\/i.op=15\/i.op=18\/i.op=23):=V
   refine⟨λC=>?_,λC=>?_⟩
   .simp only[aG]at C
    have h:mf b q k i<->(0<=i.bS/\i.bS<(eU b.br).length)/\i.args.length=(cJ b.br i.bS).length/\0<=i.cg/\i.cg<=q.ak:=by rw[mf,ae t,ae u,ae w,ao C]
    rw[h]
    refine(mG K.br X _).aJ x v ?_
    rintro _ H ⟨aB,rfl,D,f⟩
    refine⟨f,_,rfl,dit (λc=>?_) λc=>?_⟩
    .have al:0<=i.bS/\i.bS<(eU b.br).length:=by
      rcases D with⟨F,L,a,j,o,G⟩|⟨a,_⟩
      .have:=R1 b.br (show F+1<=b.br.length from aw j);rw[sS j,nk b.br _ (ad _)]at this;omega
      .omega
     refine(GQ (cz.ext f K.br) X _).aJ (x.trans f) v ?_
     rintro _ ar ⟨av,rfl,W,a⟩
     have af:=W.len
     refine⟨a,_,rfl,λj=>?_,λj=>?_⟩
     .simp only[aG]at j
      refine(bd _ _ _ _).aJ ((x.trans f).trans a) v λA az e o G=>⟨_,rfl,eW ?_ (r.trans G)⟩
      rw[e]
      exact⟨λl=>⟨al,V,l⟩,λl=>l.2.2⟩
     .simp only[aj]at j
      exact bX (λl=>j V) ((y.trans f).trans a)
    .refine bX (λl=>?_) (y.trans f)
     rcases D with⟨F,L,a,j,o,G⟩|⟨_,a⟩
     .omega
     .exact a l.1
   simp only[aj]at C
   refine⟨λD=>?_,λD=>?_⟩
   .simp only[bT,aG]at D
    have h:mf b q k i<->vU b i.bS (i.args.length+0):=by rw[mf,ae t,ae u,ae w,ae C,ao D];rfl
    rw[h]
    have L:=wU K i.bS i.args.length 0 V V
    rw[T]
    refine L.aJ x v λA H e f c=>⟨_,rfl,eW e (r.trans c)⟩
   simp only[bu,aj]at D
   replace D:¬(i.op=9\/i.op=24):=V
   refine⟨λF=>?_,λF=>?_⟩
   .simp only[aG]at F
    have h:mf b q k i<->vU b i.bS (i.args.length+1)/\∀q,b.cE[i.bS.toNat]? =some q->q.cY.length=0:=by rw[mf,ae t,ae u,ae w,ae C,ae D,ao F]
    rw[h]
    have L:=wU K i.bS i.args.length 1 V V
    rw[T]
    refine L.aJ x v λA H e f c=>⟨_,rfl,λa=>?_,λa=>bX (λl=>fb e a l.1) (r.trans c)⟩
    let⟨q',j,o,G⟩:=(e.1 a)
    let⟨a',B,c',az,al,aE,f0,f1,f2,f3,f4⟩:=(iC.ext f K.cE).aF o
    have:=K.cE.len
    have:=aw o
    refine⟨V,V,B,f1,eW ?_ (r.trans c)⟩
    have aB:=al.len
    simp only[aG]
    refine⟨λl=>⟨⟨q',j,o,G⟩,λaK I=>?_⟩,λl=>?_⟩
    .rw[o]at I;simp at I;subst I;omega
    .have:=l.2 q' o;omega
   simp only[aj]at F
   refine⟨λB=>?_,λB=>?_⟩
   .simp only[bT,aG]at B
    have h:mf b q k i<->(1<=i.args.length/\i.args.length<=4)/\i.bS=0:=by rw[mf,ae t,ae u,ae w,ae C,ae D,ae F,ao B]
    rw[h]
    refine(bd _ _ _ _).aJ x v λA H e f c=>⟨_,rfl,λa=>eW ?_ (r.trans c),λa=>bX ?_ (r.trans c)⟩
    .have a:=e.1 a
     simp only[aG];omega
    .have a:=fb e a;omega
   simp only[bu,aj]at B
   replace B:¬(i.op=16\/i.op=17):=V
   refine⟨λG=>?_,λG=>?_⟩
   .simp only[aG]at G
    have h:mf b q k i<->i.args.length=1/\0<=i.bS/\i.bS<=2:=by rw[mf,ae t,ae u,ae w,ae C,ae D,ae F,ae B,ao G]
    rw[h]
    refine⟨λg=>?_,λg=>?_⟩
    .simp only[aG]at g
     refine(bd _ _ _ _).aJ x v λA H e f c=>⟨_,rfl,eW ?_ (r.trans c)⟩
     rw[e];omega
    .simp only[aj]at g
     exact bX V y
   simp only[aj]at G
   have ek:cG ((k:Int)+1)=(k:Int)+1:=aR V V
   have ec:cG ((S.len:Int) -1)=(q.dk.length:Int) -1:=by rw[aR V V,ac]
   rw[ek,ec]
   refine⟨λI=>?_,λI=>?_⟩
   .simp only[aG]at I
    have h:mf b q k i<->i.args.length=1/\(k:Int)+1<=i.bS/\i.bS<=(q.dk.length:Int) -1:=by rw[mf,ae t,ae u,ae w,ae C,ae D,ae F,ae B,ae G,ao I]
    rw[h]
    refine⟨λg=>?_,λg=>?_⟩
    .simp only[aG]at g
     refine(bd _ _ _ _).aJ x v λA H e f c=>⟨_,rfl,eW ?_ (r.trans c)⟩
     rw[e];omega
    .simp only[aj]at g
     exact bX V y
   simp only[aj]at I
   refine⟨λL=>?_,λL=>?_⟩
   .simp only[aG]at L
    have h:mf b q k i<->i.args.length=0/\(k:Int)+1<=i.bS/\i.bS<=(q.dk.length:Int) -1:=by rw[mf,ae t,ae u,ae w,ae C,ae D,ae F,ae B,ae G,ae I,ao L]
    rw[h]
    refine⟨λg=>?_,λg=>?_⟩
    .simp only[aG]at g
     refine(bd _ _ _ _).aJ x v λA H e f c=>⟨_,rfl,eW ?_ (r.trans c)⟩
     rw[e];omega
    .simp only[aj]at g
     exact bX V y
   simp only[aj]at L
   refine⟨λg=>?_,λg=>?_⟩
   .simp only[aG]at g
    have h:mf b q k i<->i.args.length=1/\0<(cB b.br i.bS).length/\OA i.eN (cB b.br i.bS).length k q.dk.length:=by rw[mf,ae t,ae u,ae w,ae C,ae D,ae F,ae B,ae G,ae I,ae L,ao g]
    rw[h]
    refine(AP K.br X _).aJ x v ?_
    rintro _ H ⟨av,rfl,W,f⟩
    have af:=W.len
    refine⟨f,_,rfl,λc=>?_,λc=>?_⟩
    .simp only[aG]at c
     refine dit (λa=>?_) λa=>?_
     .rw[af,ac]
      refine(Fp (hj.ext (ag.trans (x.trans f))) _ _ _ V V).aJ (x.trans f) v λA ar e j o=>⟨_,rfl,eW ?_ (r.trans o)⟩
      rw[e]
      exact⟨λl=>⟨V,V,l⟩,λl=>l.2.2⟩
     .exact bX (λl=>V) (y.trans f)
    .simp only[aj]at c
     exact bX (λl=>V) (y.trans f)
   .simp only[aj]at g
    have h:mf b q k i<->False:=by rw[mf,ae t,ae u,ae w,ae C,ae D,ae F,ae B,ae G,ae I,ae L,ae g]
    rw[h]
    exact bX (λl=>l) y
end
section
variable{a:E}{d p:O}{b:cV}
structure KL(ds:List bB)(ps:List dC):Prop where
 types:dV ds
 len:1<=ps.length/\ps.length<=4
 dD:∀p∈ps,p.params.length<=3/\FE ds.length p.params/\zK ds.length p.aT
 first:∀p,ps[0]? =some p->p.params.length=0/\p.aT=0
def oZ(a:E)(c:List Ce)(p:dC):Prop:=∃b,c=[.s b,.i p.aT,.i 0,.i 0,.s .nil]/\ap a b p.params
def oZ.ext{a d:E}(h:J a d)(b:List Ce)(c:dC):oZ a b c->oZ d b c:=λ⟨f,e,g⟩=>⟨f,e,g.ext h⟩
def Tv.aF{s:O}{l:List dC}(h:eV a 5 (oZ a) s l){k:Nat}{x:dC}(e:l[k]? =some x):
 ∃b,ap a b x.params/\af a s.D (s.off+k*5)=some (O.v b)/\af a s.D (s.off+k*5+1)=some (vi x.aT)/\af a s.D (s.off+k*5+2)=some (vi 0)/\af a s.D (s.off+k*5+3)=some (vi 0)/\af a s.D (s.off+k*5+4)=some (O.v .nil):=by
 obtain⟨f,⟨b,rfl,d⟩,c⟩:=h.iL k x e
 exact⟨b,d,c 0 (.s b) rfl,c 1 (.i x.aT) rfl,c 2 (.i 0) rfl,c 3 (.i 0) rfl,c 4 (.s .nil) rfl⟩
def vh{D:O}{k:List bB}{j:List dC}(hd:cz a d k)(y:eV a 5 (oZ a) D j):
 dy cp 50 [.agg #[O.v d,O.v D]] a (KL k j):=by
 apply BT
 simp -zeta only[aD,aC]
 intro q
 have o:J a q:=(J.aA a).aL _
 have z:∀g∈[a.size],g<q.size:=by simp[q]
 have m:=hd.len
 have aa:=y.len
 refine(Ft (cz.ext o hd)).aJ (J.aA _) z λg m2 c N Q=>⟨_,rfl,λv=>bX (λb=>nb c v b.types) (o.trans N),λv=>?_⟩
 have T:=yb c v
 refine(bd _ _ _ _).aJ Q z λg m3 c Z H=>⟨_,rfl,λw=>bX (λb=>nb c w (oh b.len)) (o.trans H),λw=>?_⟩
 have ab:=yb c w
 refine dW (n:=j.length) V (λB e=>J q e/\∀p∈j.take B,p.params.length<=3/\FE k.length p.params/\zK k.length p.aT) ⟨H,aN⟩ ?_
 rintro B C X μ hj ⟨A,K⟩ W
 have f:=o.trans A
 refine dit (λR=>?_) λR=>?_
 .let⟨p,e⟩:=cL j B
  let⟨M,l,s,g1,g2,E,F⟩:=Tv.aF (y.mono f (oZ.ext f)) e
  have S:=l.len
  refine⟨V,V,_,s,_,g1,_,g2,_,E,_,F,?_⟩
  intro L r
  have i:J C r:=((J.aA C).aL _).ai (ad _) _ _
  have I:∀g∈[C.size,a.size],g<r.size:=by
   have:=A.lt (z a.size aN);have:=i.size;simp[r,L,ax];simp[r,L,ax]at this;omega
  refine dit (λh=>?_) λh=>?_
  .exact bX (λb=>oh ((b.dD p (aq e)).1)) (f.trans i)
  refine(wF (l.ext i) _).aJ (J.aA _) I λg m7 c x P=>⟨_,rfl,λt=>bX (λb=>nb c t (m▸(b.dD p (aq e)).2.1)) ((f.trans i).trans x),λt=>?_⟩
  have U:=yb c t
  refine(bd _ _ _ _).aJ P I λg m8 c Y G=>⟨_,rfl,λu=>?_,λu=>?_⟩
  .refine bX (λb=>nb c u ?_) ((f.trans i).trans G)
   rw[m];exact(b.dD p (aq e)).2.2
  .refine W V _ ⟨(A.trans i).trans G,bE e K ⟨V,m▸U,?_⟩⟩
   have:=yb c u
   rw[m]at this;exact this
 .have r:=dh V K
  let⟨p,e⟩:=cL j 0
  let⟨M,l,s,g1,g2,E,F⟩:=Tv.aF (y.mono f (oZ.ext f)) e
  have S:=l.len
  refine⟨V,V,_,s,λh=>?_,λh=>?_⟩
  .simp only[aG]at h
   refine⟨V,V,_,g1,eW ?_ f⟩
   simp only[aG]
   refine⟨λx=>⟨T,V,r,λt i=>?_⟩,λb=>(b.first p e).2⟩
   rw[e]at i;simp at i;subst i
   exact⟨V,x⟩
  .simp only[aj]at h
   exact bX (λb=>h (oh ((b.first p e).1))) f
def Dt(M:fC a d p b)(ap:b.cE.length<=4):
 aO cp 51 [.agg #[O.v d,O.v p]] a λal j=>∃L,al=.agg #[O.v d,O.v L]/\eV j 5 (oZ j) L b.cE/\J a j:=by
 apply xZ
 simp -zeta only[aD,aC]
 intro q k e K l
 have aq:=M.cE.len
 have ah:J a K:=(((J.aA a).aL _).aL _|>.aL _).aL _
 have s3:e.size=a.size+3:=by simp[e,k,q]
 have s2:k.size=a.size+2:=by simp[k,q]
 have s1:q.size=a.size+1:=by simp[q]
 have s5:l.size=a.size+4:=by simp[l,K,ax,s3]
 have ai:J a l:=ah.ai V _ _
 have aa:cK l e.size kX [.s d,.s (.mk k.size 0 0 0)]:=cK.ai (m:=K) (o:=0) (r:=[.s d,.s (.mk k.size 0 0 0)]) (cK.push e _ _)
 have ag:J e l:=((J.aA e).aL _).ai (ad _) _ _
 have ae:ig a l fx 5 (.mk k.size 0 0 0) ([]:List (List Ce)).flatten:=
  (ig.new (((J.aA a).aL _).aL _:J a k) fx 5 [] 0 aN:ig a e fx 5 (.mk k.size 0 0 0) []).ext ag
 clear_value l
 refine dW (n:=b.cE.length) V (λC j=>J a j/\l.size<=j.size/\∃g w,cK j e.size kX [.s d,.s g]/\ig a j fx 5 g w.flatten/\gV 5 (oZ a) w (b.cE.take C)/\g≠.nil/\q.size<g.D/\g.D≠e.size/\g.len=C)
  ⟨ai,ad _,_,[],aa,ae,by simpa using gV.nil 5 (oZ a),aN,bG,bG,rfl⟩ ?_
 rintro C z am μ hk ⟨A,ay,g,w,x,P,I,au,ar,af,R⟩ ak
 refine dit (λT=>?_) λT=>?_
 .let⟨D,Q⟩:=cL b.cE C
  let⟨s,c,an,Z,f,hc,S,g1,g2,g3,g4⟩:=M.cE.aF Q
  refine⟨g,x.cq 1,V,V,s,by simpa using A.af S,V,V,_,by simpa using A.af g2,?_⟩
  intro h
  have B:J z h:=J.push _ _
  refine⟨B.dg (x.cq 1),?_⟩
  have jD:fS h z.size 0 [.s s,.i D.aT,.i 0,.i 0,.s .nil]:=(cK.push z _ _).iL
  have ac:=x.ext B
  have av:h.size=z.size+1:=by simp[h]
  clear_value h
  refine ig.append (zs:=[.s .nil,.i 0,.i 0,.i 0,.s .nil]) (d:=[.s s,.i D.aT,.i 0,.i 0,.s .nil]) (P.ext B) (A.trans B) rfl jD (by simp[R];omega) ?_
  intro v t X Y F ao U W
  have E:∀c,c<h.size->c≠g.D->t[c]? =h[c]? :=λc f G=>U c f (λ_=>G)
  have y:q.size<v.D/\v.D≠e.size:=by
   rcases W with⟨_,i⟩|⟨_,i,_⟩|i
   .rw[i]at F;simp at F
   .rw[i];constructor<;>omega
   .rw[i];constructor<;>omega
  have N:cK t e.size kX [.s d,.s g]:=ac.congr (E _ V (λi=>af i.symm))
  refine⟨λc f=>?_,N.fO aN,?_⟩
  .simp at f
   rcases f with rfl|rfl
   .exact E _ V V
   .exact E _ V V
  intro u
  have aw:u.size=t.size:=by simp[u,ax]
  have ab:cK u e.size kX [.s d,.s v]:=cK.ai (m:=t) (o:=1) (r:=[.s v]) N
  have H:∀c,c≠e.size->u[c]? =t[c]? :=λc f=>bg _ _ _ _ f
  have aj:J a u:=Y.ai V _ _
  clear_value u
  refine⟨λc f=>?_,?_⟩
  .simp at f
   rcases f with rfl|rfl
   .exact H _ V
   .exact H _ V
  refine ak V _ ⟨aj,V,v,w++[[.s s,.i D.aT,.i 0,.i 0,.s .nil]],ab,?_,?_,?_,y.1,y.2,by simp[F,R]⟩
  .rw[qX]
   exact(by simpa using X:ig a t fx 5 v (w.flatten++[[.s s,.i D.aT,.i 0,.i 0,.s .nil]].flatten)).congr (H _ y.2)
  .rw[aV Q]
   exact I.yV rfl ⟨s,rfl,Z⟩
  .intro i
   rw[i]at y;simp at y
 .refine⟨d,x.cq 0,g,x.cq 1,?_⟩
  intro h
  have G:∀c,c≠q.size->h[c]? =z[c]? :=λc f=>bg _ _ _ _ f
  have i:J a h:=A.ai V _ _
  refine⟨g,rfl,?_,i⟩
  rw[bZ V]at I
  exact(eV.gC (P.congr (G _ V)) I V V).mono (J.aA _) (oZ.ext i)
structure HP(b:cV)(p:dC):Prop where
 cY:Ec p.params p.cY
 ak:(p.params.length:Int)<=p.ak/\1<=p.ak/\p.ak<=2000
 len:1<=p.dk.length/\p.dk.length<=2000
 dD:∀(k:Nat)(i:Instr),p.dk[k]? =some i->iZ b p k i
 Ng:∀i,p.dk[p.dk.length -1]? =some i->i.op=23\/i.op=24
def Hu(N:fC a d p b)(T:dV b.br){C K w:O}{q:dC}(m:PC a C K w q):
 dy cp 52 [.agg #[O.v d,O.v p],.agg #[O.v C,O.v K,vi q.aT,vi q.ak,O.v w]] a (HP b q):=by
 apply BQ
 simp -zeta only[aD,aC]
 intro L u
 have j:J a u:=((J.aA a).aL _).aL _
 have v:∀o∈[L.size,a.size],o<u.size:=by simp[u,L];omega
 clear_value u
 have aa:=m.params.len
 have ab:=m.dk.len
 refine(vg (m.params.ext j) (m.cY.ext j)).aJ (J.aA _) v λo m3 e P R=>⟨_,rfl,λy=>bX (λf=>nb e y f.cY) (j.trans P),λy=>?_⟩
 have G:=yb e y
 refine(bd _ _ _ _).aJ R v λo m4 e h4 D=>⟨_,rfl,λz=>?_,λz=>?_⟩
 .refine bX (λf=>nb e z ?_) (j.trans D)
  have:=f.ak
  split<;>omega
 have S:=yb e z
 refine(bd _ _ _ _).aJ D v λo m5 e h7 E=>⟨_,rfl,λA=>bX (λf=>nb e A (oh f.len)) (j.trans E),λA=>?_⟩
 have ad:=yb e A
 have B:(q.params.length:Int)<=q.ak/\1<=q.ak/\q.ak<=2000:=by
  split at S<;>omega
 refine dW (n:=q.dk.length) V (λt U=>J u U/\∀(k:Nat)(i:Instr),k<t->q.dk[k]? =some i->iZ b q k i) ⟨E,aN⟩ ?_
 rintro t m6 X μ hj ⟨I,H⟩ W
 have r:=j.trans I
 refine dit (λQ=>?_) λQ=>?_
 .let⟨i,h⟩:=cL q.dk t
  refine(Fo (fC.ext r N) T (m.ext r) B.2 h).aJ I v λo Y e l g=>⟨_,rfl,λx=>bX (λf=>nb e x (f.dD t i h)) (j.trans g),λx=>?_⟩
  refine W V _ ⟨g,λk s M c=>?_⟩
  by_cases F:k=t
  .subst F
   rw[h]at c;simp at c;subst c
   exact yb e x
  .exact H k s V c
 .let⟨i,h⟩:=cL q.dk (q.dk.length -1)
  let⟨xa,xj,ha,ac,x,g1,g2,Y,Z,g5⟩:=(ft.ext r m.dk).aF h
  have M:cG ((w.len:Int) -1)=((q.dk.length -1:Nat):Int):=by rw[aR V V];omega
  rw[M]
  have F:∀(k:Nat)(i:Instr),q.dk[k]? =some i->iZ b q k i:=λk s c=>H k s (oh (aw c)) c
  refine⟨V,V,_,by simpa using x,λl=>?_,λl=>?_⟩
  .simp only[aG]at l
   refine iY ⟨G,B,V,F,λs c=>?_⟩ r
   rw[h]at c;simp at c;subst c
   exact Or.inl l
  .simp only[aj]at l
   refine⟨V,V,_,by simpa using x,eW ?_ r⟩
   simp only[aG]
   refine⟨λg=>⟨G,B,V,F,λs c=>?_⟩,λf=>?_⟩
   .rw[h]at c;simp at c;subst c
    exact Or.inr g
   .rcases f.Ng i h with g|g
    .exact absurd g l
    .exact g
structure nF(b:cV):Prop where
 ov:KL b.br b.cE
 dD:∀p∈b.cE,HP b p
def tZ(h:fC a d p b):dy cp 21 [.agg #[O.v d,O.v p]] a (nF b):=by
 apply zr;simp -zeta only[aD,aC];intro g;have e:J a g:=(J.aA a).aL _;have m:∀i∈[a.size],i<g.size:=by simp[g]
 clear_value g;have Q:=h.cE.len;refine dit (λC=>?_) λC=>?_
 .exact bX (λf=>oh f.ov.len) e
 refine(Dt (fC.ext e h) V).aJ (J.aA _) m ?_;rintro _ R ⟨y,rfl,G,j⟩;refine⟨j,d,y,rfl,?_⟩;refine(vh (cz.ext (e.trans j) h.br) G).aJ j m λi S c M t=>⟨_,rfl,λk=>bX (λf=>nb c k f.ov) (e.trans t),λk=>?_⟩;have w:=yb c k;refine dW (n:=b.cE.length) V (λr l=>J g l/\∀s∈b.cE.take r,HP b s) ⟨t,aN⟩ ?_;rintro r T I μ P ⟨x,v⟩ H
 have q:=e.trans x;refine dit (λD=>?_) λD=>?_
 .let⟨s,o⟩:=cL b.cE r;let⟨K,i,L,E,c,F,z,g1,g2,A,B⟩:=(iC.ext q h.cE).aF o;refine⟨V,V,_,z,_,g1,_,g2,_,A,_,B,?_⟩;exact(Hu (fC.ext q h) w.types ⟨E,c,F⟩).aJ x m λi U c N u=>⟨_,rfl,λl=>bX (λf=>nb c l (f.dD s (aq o))) (e.trans u),λl=>H V _ ⟨u,bE o v (yb c l)⟩⟩
 .exact iY ⟨w,dh V v⟩ q
end
section
variable{m:E}{s:O}{l:List Int}
def eV.TS{α:Type}{c:Nat}{R:List Ce->α->Prop}{l:List α}(h:eV m c R s l){k:Nat}(n:k<=l.length):eV m c R (s.cut 0 k c) (l.take k):=by
 have b:=h.len;have e:=h.cap;have g:=h.gX;cases s with
 |nil=>
  simp at b;have:k=0:=V;subst this;exact⟨by simp[O.cut],by simp[O.cut],by simp[O.cut],aN⟩
 |zX d o a=>
  simp at b;have:k=0:=V;subst this;exact⟨by simp[O.cut],by simp[O.cut],by simp[O.cut],aN⟩
 |mk d o p i=>
  simp only[O.gL,O.OI]at b e g;refine⟨by simp[O.cut];omega,by simp[O.cut];omega,by simp[O.cut];omega,λj x a=>?_⟩;have f:j<k:=by have:=aw a;simp at this;omega
  rw[lT,ao f]at a;have:=h.iL j x a;simpa[O.cut]using this
def pS(br:O)(t:Int)(m:E):dy cp 183 [O.v br,vi t] m (zK br.len t):=by
 apply Gl;refine⟨λh=>eW ?_ (J.aA _),λh=>bX ?_ (J.aA _)⟩<;>simp at h
 .simp[zK,h]
 .unfold zK;omega
def wc{g:O}(b:ap m g l)(br:O):dy cp 182 [O.v br,O.v g] m (FE br.len l):=by
 apply Cz;have i:=b.len;refine dW (n:=l.length) (i▸b.gX) (λk a=>J m a/\∀t∈l.take k,zK br.len t) ⟨J.aA _,aN⟩ ?_;rintro k r I μ q ⟨a,f⟩ o
 refine dit (λh=>?_) λh=>?_
 .let⟨x,c⟩:=cL l k;refine⟨V,V,x,by simpa using a.af (b.aF c),?_⟩;exact(pS _ _ _).then λp s e d=>⟨_,rfl,λh=>bX (λj=>nb e h (j x (aq c))) (a.trans d),λh=>o V _ ⟨a.trans d,bE c f (yb e h)⟩⟩
 .exact iY (dh V f) a
def rJ(a:Int)(m:E)(d:a≠7/\a≠8):dy cp 67 [vi a] m (mg a):=by
 apply wq;refine⟨λh=>⟨λc=>iY ?_ (J.aA _),λc=>⟨λb=>iY ?_ (J.aA _),λb=>eW ?_ (J.aA _)⟩⟩,λh=>⟨λb=>iY ?_ (J.aA _),λb=>eW ?_ (J.aA _)⟩⟩<;>simp[mg]at* <;>omega
def qN{br:O}{a:List bB}(hd:cz m br a)(s:a.length<=4)(k:∀d∈a,d.cons.length<=3):HL cp 11 [O.v br] m (vi (eU a).length):=by
 apply CC;simp -zeta only[aD,aC];have q:=hd.len;refine eB (n:=a.length) V (λj f b=>J m b/\f=(fc a j:Nat)/\fc a j<=3*j) ⟨J.aA _,by cases a<;>rfl,by cases a<;>simp[fc]⟩ ?_;rintro j f t I μ r ⟨c,rfl,p⟩ l
 refine dit (λi=>?_) λi=>?_
 .let⟨d,b⟩:=cL a j;let⟨g,e,h,g1,g2⟩:=(cz.ext c hd).aF b;refine⟨V,V,_,h,_,g1,g,g2,?_⟩;intro u v;have o:=k d (aq b);refine l V _ _ ⟨(c.aL _).ai c.size _ _,?_,?_⟩
  .rw[aR V (oh e.len),sS b,e.len];rfl
  .rw[sS b];omega
 .refine⟨?_,c⟩;rw[nk a j V]
def OK{a:List bB}(h:dV a):∀d∈a,d.cons.length<=3:=λd hd=>by
 let⟨k,b⟩:=List.mem_iff_getElem?.1 hd;exact lO h b
def R8:∀(a:List bB)(k:Nat),(eU (a.take k)).length=fc a k
 |[],k=>by simp[eU,Q7]
 |d::a,0=>by simp[eU,fc]
 |d::a,k+1=>by
  have:=R8 a k;simp only[NC,eU,mL,bh,fc]at this⊢;omega
def tE{br:O}{a:List bB}(hd:cz m br a)(c:dV a)(t:Int):aO cp 82 [O.v br,vi t] m λI b=>∃s,I=O.v s/\ap b s (cB a t)/\J m b:=by
 apply Gh;have S:=hd.len;have R:=hd.cap;have g:∀(h:¬(1<=t/\t<=a.length)),ap m .nil (cB a t):=λh=>by
  unfold cB;rw[ae h];exact⟨rfl,ad _,aN,aN⟩
 have:=c.len;refine dit (λh=>?_) λh=>?_
 .exact⟨_,rfl,g V,J.aA _⟩
 refine dit (λx=>?_) λx=>?_
 .exact⟨_,rfl,g V,J.aA _⟩
 have r:cG (t -1)=((t.toNat -1:Nat):Int):=by rw[aR V V];omega
 rw[r];let⟨d,e⟩:=cL a (t.toNat -1);have u:cB a t=(List.range d.cons.length).map λi=>((fc a (t.toNat -1)+i:Nat):Int):=by
  unfold cB;rw[ao V,e];rfl
 rw[u];have P:=rE c (t.toNat -1);have Q:=lO c e;refine⟨V,V,V,?_⟩;have C:cz m (br.cut 0 (t.toNat -1) 3) (a.take (t.toNat -1)):=eV.TS hd V;have f:=qN C bG (λd hd=>OK c d (dF hd));rw[R8]at f;refine f.then λF p=>⟨_,rfl,?_⟩;let⟨w,D,L,g1,g2⟩:=(cz.ext p hd).aF e;have T:=D.len;refine⟨V,V,w,by simpa using g2,?_⟩;refine eB (n:=d.cons.length) V (λj s b=>J m b/\ig m b aB 1 s (((List.range j).map λi=>((fc a (t.toNat -1)+i:Nat):Int)).map Ce.i)/\s.len=j) ⟨p,by simpa using ig.nil m F aB 1,rfl⟩ ?_;rintro j s G K μ U ⟨o,k,l⟩ H
 refine dit (λy=>?_) λy=>?_
 .intro q;have v:cG (((fc a (t.toNat -1):Nat):Int)+(j:Int))=((fc a (t.toNat -1)+j:Nat):Int):=by rw[aR V V];omega
  have E:q=G.push (.cells (bz [.i (((fc a (t.toNat -1)+j:Nat):Int))]) aB):=by rw[<-v]
  clear_value q;subst E;refine ig.append (zs:=[.i 0]) (d:=[.i ((fc a (t.toNat -1)+j:Nat):Int)]) (k.ext (J.push _ _)) (o.aL _) rfl (cK.push _ _ _).iL (by simp[l];omega) ?_;intro W b z A B M N _;refine H V _ _ ⟨A,?_,by simp[B,l]⟩
  rw[Tk,fA,fA];exact z
 .have:j=d.cons.length:=V;subst this;exact⟨_,rfl,ap.gC k bG,o⟩
def PW{a:List bB}{i j:Nat}{d:bB}{f:List Int}(h:a[i]? =some d)(b:d.cons[j]? =some f):cJ a ((fc a i+j:Nat):Int)=f:=by
 unfold cJ;rw[ao V,um,rD a i j d h (aw b),b];rfl
def Na{br:O}{a:List bB}(hd:cz m br a)(q:dV a)(c:Int)(X: -1000000<=c/\c<=1000000):aO cp 203 [O.v br,vi c] m λS f=>∃R s,S=.tuple #[vi R,.agg #[O.v s]]/\ap f s (cJ a c)/\J m f:=by
 apply H9;simp -zeta only[aD,aC];intro g;have P:J m g:=(J.aA m).aL _;have ab:m.size<g.size:=by simp[g]
 clear_value g;have Y:=hd.len;have:=q.len;refine eB (n:=a.length) V (λj w f=>J m f/\g.size<=f.size/\w=c -(fc a j:Nat)/\¬(0<=c/\c<fc a j)) ⟨P,ad _,by cases a<;>simp[fc],by cases a<;>simp[fc]⟩ ?_;rintro j w t I μ hj ⟨d,N,rfl,aa⟩ Q
 refine dit (λG=>?_) λG=>?_
 .let⟨x,b⟩:=cL a j;let⟨h,z,D,g1,g2⟩:=(cz.ext d hd).aF b;have Z:=z.len;have U:=rE q j;have W:=lO q b;refine⟨V,V,_,D,_,g1,h,g2,?_⟩;intro m3 u;have e:J t u:=((J.aA t).aL _).ai (ad _) _ _;have A:¬(0<=c -(fc a j:Nat)/\c -(fc a j:Nat)<x.cons.length)->I (cG (c -(fc a j:Nat) -(h.len:Int))) (cG ((j:Int)+1)) u/\μ (cG (c -(fc a j:Nat) -(h.len:Int))) (cG ((j:Int)+1)) u<μ (c -(fc a j:Nat)) j t:=by
   intro hq;refine Q V _ _ ⟨d.trans e,bJ N e.size,?_,?_⟩
   .rw[aR V V,sS b];omega
   .rw[sS b];omega
  refine⟨λi=>⟨λp=>?_,λp=>A ?_⟩,λi=>A ?_⟩
  .simp only[ar]at i p;let⟨T,r⟩:=cL x.cons ((c -(fc a j:Nat)).toNat);let⟨o,hg,y⟩:=(pF.ext e z).aF r;refine⟨V,V,o,y,?_⟩;intro v;have k:J m v:=(d.trans e).ai (ad _) _ _;refine⟨_,o,rfl,?_,k⟩;have l:cJ a c=T:=by
    have:=PW b r;rw[<-this];congr 1;omega
   rw[l];obtain⟨B,H,_,_,E⟩:=hd.aF b;have K:h=B:=by
    have:=d.af E;rw[g2]at this;exact O.BY.1 (by simpa using this)
   subst K;let⟨C,L,F⟩:=H.aF r;have M:o=C:=by
    have:=(d.trans e).af F;rw[y]at this;exact O.BY.1 (by simpa using this)
   subst M;exact L.ext k
  .simp at i p;omega
  .simp at i;omega
 .intro v;have k:J m v:=d.ai (ad _) _ _;refine⟨_,.nil,rfl,?_,k⟩;have l:cJ a c=[]:=by
   unfold cJ;split
   .rw[cT (by rw[<-nk a j V];omega)];rfl
   .rfl
  rw[l];exact⟨rfl,ad _,aN,aN⟩
def Ia{br:O}{a:List bB}(hd:cz m br a)(h:dV a)(c:Int)(f: -1000000<=c/\c<=1000000):aO cp 184 [O.v br,vi c] m λv d=>∃s,v=O.v s/\ap d s (cJ a c)/\J m d:=by
 apply CD;simp -zeta only[aD,aC];refine(Na hd h c f).mono ?_;rintro _ e ⟨t,s,rfl,g,i⟩;refine⟨t,s,rfl,?_⟩;intro k j;have b:J e j:=((J.aA e).aL _).ai (ad _) _ _;exact⟨s,rfl,g.ext b,i.trans b⟩
def wE(f:ap m s l)(g:Nat)(e d:Array Value)(t:GL.elem g=true)(q:Int->Prop)
 (p:∀x∈l,∀a,J m a->dy cp g (e.toList++[vi x]++d.toList) a (q x)):
 aO cp 137 [O.v s,.func (.func g) e d] m λz a=>∃r:Int,z=vi r/\J m a/\
  ((r= -1/\∀x∈l,¬q x)\/∃(k:Nat)(x:Int),r=k/\l[k]? =some x/\q x/\∀y∈l.take k,¬q y):=by
 apply qR s (.func g,e,d)
 have u:=f.len
 refine dW (n:=l.length) (u▸f.gX) (λk a=>J m a/\∀y∈l.take k,¬q y) ⟨J.aA _,aN⟩ ?_
 rintro k v I μ B ⟨b,i⟩ w
 refine dit (λh=>?_) λh=>?_
 .let⟨x,c⟩:=cL l k
  refine⟨V,V,x,by simpa using b.af (f.aF c),g,rfl,t,?_⟩
  exact(p x (aq c) v b).then λA C o j=>⟨_,rfl,λh=>⟨_,rfl,b.trans j,Or.inr ⟨k,x,rfl,c,o.1 h,i⟩⟩,λh=>w V _ ⟨b.trans j,bE c i (fb o h)⟩⟩
 .exact⟨_,rfl,b,Or.inl ⟨rfl,dh V i⟩⟩
def ji(i:ap m s l)(g:Nat)(b a:Array Value)(f:GL.elem g=true)(q:Int->Prop)
 (e:∀x∈l,∀c,J m c->dy cp g (b.toList++[vi x]++a.toList) c (q x)):
 dy cp 61 [O.v s,.func (.func g) b a] m (∃x∈l,q x):=by
 apply pC s (.func g,b,a)
 refine(wE i g b a f q e).mono ?_
 rintro _ p ⟨r,rfl,j,h⟩
 refine⟨_,rfl,eW ?_ j⟩
 simp only[oK,ar]
 rcases h with⟨rfl,h⟩|⟨o,x,rfl,c,d,n⟩
 .exact⟨λk=>V,λ⟨x,c,d⟩=>absurd d (h x c)⟩
 .exact⟨λ_=>⟨x,aq c,d⟩,λ_=>V⟩
end
section
variable{s c k d r:O}{b:E}{e:List Nat}{Q:List Int->Prop}{v:List Int}{x:cZ}
structure _root_.Go.Vc.gU where
 params:List Int
 cY:List Int
 aT:Int
 body:Bk
def jc(m:E)(a:List Ce)(r:gU):Prop:=∃p l s,a=[.s p,.s l,.i r.aT,.s s,.i r.body.aT]/\ap m p r.params/\ap m l r.cY/\eR m s r.body.aE
abbrev zL(m:E)(s:O)(l:List gU):Prop:=eV m 5 (jc m) s l
structure eM(m:E)(d r:O)(ds:List bB)(rs:List gU):Prop where
 br:cz m d ds
 jg:zL m r rs
 types:dV ds
 oQ:rs.length<=4
def jc.le{m b:E}(h:Le m b){a:List Ce}{x:gU}:jc m a x->jc b a x:=λ⟨p,l,s,c,d,e,f⟩=>⟨p,l,s,c,d.le h,e.le h,f.le h⟩
def jc.mono:oO 5 jc:=⟨λh=>jc.le h,λh=>by obtain⟨_,_,_,rfl,_⟩:=h;rfl⟩
def zL.le{m b:E}(a:Le m b){s:O}{l:List gU}(h:zL m s l):zL b s l:=eV.le h a λ_ _=>jc.le a
def zL.aF{m:E}{l:List gU}(h:zL m s l){k:Nat}{x:gU}(f:l[k]? =some x):
 ∃p t b,ap m p x.params/\ap m t x.cY/\eR m b x.body.aE/\af m s.D (s.off+k*5)=some (O.v p)/\af m s.D (s.off+k*5+1)=some (O.v t)/\af m s.D (s.off+k*5+2)=some (vi x.aT)/\af m s.D (s.off+k*5+3)=some (O.v b)/\af m s.D (s.off+k*5+4)=some (vi x.body.aT):=by
 obtain⟨g,⟨p,t,b,rfl,c,d,e⟩,a⟩:=h.iL k x f
 exact⟨p,t,b,c,d,e,a 0 _ rfl,a 1 _ rfl,a 2 _ rfl,a 3 _ rfl,a 4 _ rfl⟩
def eM.le{m b:E}{d r:O}{a:List bB}{e:List gU}(h:eM m d r a e)(c:Le m b):eM b d r a e:=⟨h.br.le c,h.jg.le c,h.types,h.oQ⟩
def Ap(m:E):Le m (bI [] m):=λb o v h=>eS.2 ⟨aN,h⟩
def FZ{a:List bB}(h:dV a)(c:Int):(cJ a c).length<=3:=by
 unfold cJ;split
 .rcases aX c.toNat (eU a).length with b|b
  .let⟨i,d,e,j,k⟩:=vt a c.toNat b;have f:=rD a i (c.toNat -fc a i) d e V;rw[show fc a i+(c.toNat -fc a i)=c.toNat by omega]at f;let⟨x,g⟩:=cL d.cons (c.toNat -fc a i);rw[f,g];exact(((h.dD i d e).jm V).2.2.2 x (aq g)).1
  .rw[cT b];simp
 .simp
def Yt{a:List bB}(h:dV a)(t:Int):(cB a t).length<=3:=by
 unfold cB;split
 .cases b:a[t.toNat -1]? with
  |none=>simp
  |some d=>simpa using lO h b
 .simp
def QX{a:List bB}(h:dV a)(b bS:Int)(k:Nat):Ch a b bS k<=3:=by
 unfold Ch;split
 .exact FZ h _
 .omega
abbrev FH(f:Nat)(a:List Value)(m:E):Prop:=tr f a m λ_=>True
def pb(f:Nat)(a:List Value)(m:E):Prop:=aO cp f a m λv b=>∃c:Bool,v=.bool c/\J m b
def rN{m:E}{n:Int}(h:J m b):∃k:Int,vi n=vi k/\True/\J m b:=⟨n,rfl,trivial,h⟩
def rA{m:E}{a:Bool}(h:J m b):∃k:Bool,vb a=.bool k/\J m b:=⟨a,rfl,h⟩
def _root_.Go.Vc.dy.any{f:Nat}{a:List Value}{m:E}{p:Prop}(h:dy cp f a m p):pb f a m:=h.mono λ_ _⟨b,e,_,x⟩=>⟨b,e,x⟩
section
variable{f:Nat}{g:List Value}{a m:E}{K:Value->E->Prop}{l:List Nat}
def FH.aJ(i:FH f g m)(e:J a m)(o:∀c∈l,c<a.size)(k:∀(n:Int) b,J m b->J a b->K (vi n) b):aO cp f g m λv b=>eF l m b/\K v b:=
 i.mono λ_ b⟨n,h,_,d⟩=>⟨d.dz λc j=>e.lt (o c j),h▸k n b d (e.trans d)⟩
def pb.aJ(i:pb f g m)(e:J a m)(n:∀c∈l,c<a.size)(k:∀(c:Bool) b,J m b->J a b->K (vb c) b):aO cp f g m λv b=>eF l m b/\K v b:=
 i.mono λ_ b⟨o,h,d⟩=>⟨d.dz λc j=>e.lt (n c j),h▸k o b d (e.trans d)⟩
def tr.aJ{Q:Int->Prop}(i:tr f g m Q)(e:J a m)(o:∀c∈l,c<a.size)(k:∀(n:Int) b,Q n->J m b->J a b->K (vi n) b):aO cp f g m λv b=>eF l m b/\K v b:=
 i.mono λ_ b⟨n,h,q,d⟩=>⟨d.dz λc j=>e.lt (o c j),h▸k n b q d (e.trans d)⟩
def FG.aJ(k:FG f g m e Q)(i:J a m)(q:∀d∈l,d<a.size)(p:∀s c b,ap (bI e b) s c->Q c->J m b->J a b->K (O.v s) b):aO cp f g m λv b=>eF l m b/\K v b:=
 k.mono λ_ b⟨s,c,j,n,r,h⟩=>⟨h.dz λd o=>i.lt (q d o),j▸p s c b n r h (i.trans h)⟩
def lE.aJ(k:lE f g m e Q)(i:J a m)(q:∀d∈l,d<a.size)(p:∀s c b,GI e m b s c->Q c->J m b->J a b->K (O.v s) b):aO cp f g m λv b=>eF l m b/\K v b:=
 k.mono λ_ b⟨s,c,j,n,r,h⟩=>⟨h.dz λd o=>i.lt (q d o),j▸p s c b n r h (i.trans h)⟩
end
def _root_.Go.Vc.J.VA{c m:E}(f:J c m){l:List Nat}(e:∀a∈l,a<c.size)(h:J m b):eF l m b:=h.dz λa d=>f.lt (e a d)
def dN{m:E}(D:∀b∈e,b<m.size){br:O}{a:List bB}(hd:cz (bI e m) br a)(f:dV a)(c:Int):FG 178 [O.v br,vi c] m e (cJ a c=·):=by
 apply rR;have l:cz m br a:=hd.le (bD _ _);have F:=hd.len;have:=f.len;refine(mG l f c).mono ?_;rintro _ I ⟨K,rfl,k,h⟩;refine⟨_,rfl,dit (λu=>?_) λu=>?_⟩
 .refine⟨_,_,rfl,?_,rfl,h.aL _⟩;have g:cJ a c=[]:=by
   rcases k with⟨i,d,v,_⟩|⟨_,b⟩
   .omega
   .unfold cJ;split
    .rw[cT V];rfl
    .rfl
  rw[g];exact⟨rfl,ad _,aN,aN⟩
 .rcases k with⟨i,d,rfl,b,A,B⟩|⟨v,_⟩
  .have H:=aw b;let⟨s,n,y,g1,g2⟩:=(hd.le (h.dj e)).aF b;have p:cG ((i:Int)+1 -1)=i:=by rw[aR V V];omega
   rw[p];have g2:=(eS.1 g2).2;refine⟨V,V,s,by simpa using g2,?_⟩;refine(kD (cz.ext h l) f V).then λJ g=>⟨_,rfl,g.dg (by simpa using g2),?_⟩;have z:=rE f i;have C:=lO f b;have G:=n.len;let⟨x,o⟩:=cL d.cons ((c -fc a i).toNat);let⟨j,w,t⟩:=pF.aF (eV.le n (g.dj e) (nh.le (g.dj e))) o;have q:cG (c -(fc a i:Int))=c -fc a i:=aR V V;rw[q];refine⟨V,V,j,(eS.1 t).2,j,_,rfl,?_,rfl,h.trans g⟩;have r:cJ a c=x:=by
    unfold cJ;rw[ao V];have:=rD a i (c -fc a i).toNat d b V;rw[show c.toNat=fc a i+(c -fc a i).toNat by omega,this,o];rfl
   rw[r];exact w
  .omega
def iH{m:E}(q:∀o∈e,o<m.size){br:O}{a:List bB}(hd:cz m br a)(c:dV a)(t:Int):FG 105 [O.v br,vi t] m e (cB a t=·):=by
 apply uY;intro D;have L:=hd.len;have:=c.len;have w:J m D:=(J.aA m).aL _;refine(bd _ _ _ _).then λo P u i=>⟨_,rfl,λh=>?_,λh=>?_⟩
 .refine⟨_,_,rfl,?_,rfl,w.trans i⟩;have f:cB a t=[]:=by
   unfold cB;rw[ae (oh (nb u h))]
  rw[f];exact⟨rfl,ad _,aN,aN⟩
 .have h:=yb u h;have x:cG (t -1)=((t.toNat -1:Nat):Int):=by rw[aR V V];omega
  rw[x];let⟨d,k⟩:=cL a (t.toNat -1);have y:cB a t=(List.range d.cons.length).map λl=>((fc a (t.toNat -1)+l:Nat):Int):=by
   unfold cB;rw[ao V,k];rfl
  rw[y];have H:=rE c (t.toNat -1);have K:=lO c k;refine eB (n:=d.cons.length) V (λj s b=>J m b/\GI e m b s ((List.range j).map λl=>((fc a (t.toNat -1)+l:Nat):Int))) ⟨w.trans i,(GI.nil e m).ext i⟩ ?_;rintro j s Q I μ N ⟨f,v⟩ F
  let⟨g,C,G,g1,g2⟩:=(cz.ext f hd).aF k;have M:=C.len;refine⟨V,V,g,by simpa using g2,dit (λB=>?_) λB=>?_⟩
  .refine(kD (cz.ext f hd) c V).then λR p=>⟨_,rfl,?_⟩;have z:cG (((fc a (t.toNat -1):Nat):Int)+(j:Int))=((fc a (t.toNat -1)+j:Nat):Int):=by rw[aR V V];omega
   rw[z];intro S;refine GI.kY (v.ext p) ((f.trans p).fz []) q bG λr b A g _ _=>F V _ _ ⟨g.ext,?_⟩
   rw[Tk,fA];exact A
  .have:j=d.cons.length:=V;subst this;exact⟨_,_,rfl,v.done q bG,rfl,f⟩
def nv{m:E}{br:O}{b:List bB}(hd:cz m br b)(l:dV b)(t:Int):dy cp 272 [O.v br,vi t] m (∃d,1<=t/\b[t.toNat -1]? =some d/\d.cons.length=0):=by
 apply EW;have q:=hd.len;have:=l.len;refine(bd _ _ _ _).then λn r g e=>⟨_,rfl,λh=>?_,λh=>?_⟩
 .have h:=g.1 h;let⟨d,c⟩:=cL b (t.toNat -1);let⟨j,k,p,g1,g2⟩:=(cz.ext e hd).aF c;have i:cG (t -1)=((t.toNat -1:Nat):Int):=by rw[aR V V];omega
  rw[i];refine⟨V,V,j,g2,eW ?_ e⟩;rw[k.len];simp only[aG];exact⟨λh=>⟨d,V,c,V⟩,λ⟨o,_,a,f⟩=>by rw[c]at a;simp at a;subst a;omega⟩
 .refine bX (λ⟨d,a,f,_⟩=>fb g h ⟨a,?_⟩) e;have:=aw f;omega
def AK{m:E}{br:O}{a:List bB}(hd:cz m br a)(r:dV a)(u t:Int):
 tr 294 [O.v br,vi u,vi t] m λk=>k= -1\/∃(l:Nat)(d:bB),k=l+1/\a[l]? =some d/\d.cons.length=0/\d.tq=u/\d.to=t:=by
 apply EI
 have w:=hd.len
 have:=r.len
 refine dW (n:=a.length) V (λ_ b=>J m b) (J.aA _) ?_
 rintro k s I μ x c v
 refine⟨λh=>?_,λh=>⟨_,rfl,Or.inl rfl,c⟩⟩
 simp only[ar]at h
 let⟨d,j⟩:=cL a k
 let⟨o,q,p,g1,g2⟩:=(cz.ext c hd).aF j
 have e:=v V s c
 refine⟨V,V,o,g2,λf=>⟨V,V,_,p,λg=>⟨V,V,_,g1,λi=>?_,λ_=>e⟩,λ_=>e⟩,λ_=>e⟩
 rw[q.len]at f
 simp only[aG]at f g i
 refine⟨_,rfl,Or.inr ⟨k,d,?_,j,V,g,i⟩,c⟩
 rw[aR V V]
def tg{m:E}{i p:O}{f t:List Int}(g:ap m c v)(e:ap m i f)(l:ap m p t):pb 269 [O.v c,O.v i,O.v p] m:=by
 apply Jh;have C:=g.len;have r:=e.len;have D:=l.len;have F:=g.gX;refine⟨λ_=>rA (J.aA _),λh=>?_⟩;simp only[iU]at h;refine dW (n:=f.length) (r▸e.gX) (λ_ b=>J m b) (J.aA _) ?_;rintro k H I μ G a y
 refine⟨λh=>?_,λh=>rA a⟩;simp only[ar]at h;let⟨x,o⟩:=cL f k;refine⟨V,V,x,(e.ext a).aF o,?_⟩;have q:cG ((c.len:Int) -1)=(v.length:Int) -1:=by rw[aR V V];omega
 rw[q];refine(bd _ _ _ _).then λB K s d=>⟨_,rfl,λ_=>rA (a.trans d),λj=>?_⟩;have j:=yb s j;let⟨z,u⟩:=cL v x.toNat;let⟨A,w⟩:=cL t k;exact⟨V,V,x,(e.ext (a.trans d)).aF o,V,V,z,(g.ext (a.trans d)).aF u,V,V,A,(l.ext (a.trans d)).aF w,λ_=>rA (a.trans d),λ_=>y V _ (a.trans d)⟩
def Nr(a:Int)(m:E):pb 267 [vi a] m:=by
 apply G6;have r:∀b:Bool,∃k:Bool,vb b=.bool k/\J m m:=λb=>rA (J.aA m);exact⟨λ_=>r _,λ_=>⟨λ_=>r _,λ_=>⟨λ_=>r _,λ_=>⟨λ_=>r _,λ_=>r _⟩⟩⟩⟩
def pD(x:cZ)(a k:O):Value:=.agg #[vi x.op,vi x.bS,vi x.cg,O.v a,O.v k]
def wW{m:E}{g:O}(d:ap m c v)(x:cZ):pb 268 [O.v c,.agg #[vi x.op,vi x.bS,vi x.cg,O.v g,O.v k]] m:=by
 apply BO;simp -zeta only[aD,aC];intro a;have b:J m a:=J.push _ _;have l:∀f∈[m.size],f<a.size:=by simp[a]
 clear_value a;have o:=d.len;have p:=d.gX;refine⟨λ_=>rA b,λ_=>⟨λ_=>?_,λ_=>rA b⟩⟩;refine(bd _ _ _ _).aJ (J.aA a) l λf q j _ e=>⟨_,rfl,λh=>?_,λ_=>rA (b.trans e)⟩;have h:=j.1 h;have i:cG (x.cg -1)=((x.cg.toNat -1:Nat):Int):=by rw[aR V V];omega
 rw[i];let⟨y,n⟩:=cL v (x.cg.toNat -1);exact⟨V,V,y,(d.ext (b.trans e)).aF n,rA (b.trans e)⟩
def CU{m:E}{l:O}{t:List bB}{B:List gU}(o:eM m d r t B)(i:ap m c v)(g:ap m l x.args):FH 273 [.agg #[O.v d,O.v r],O.v c,pD x l k] m:=by
 apply wL;simp -zeta only[aD,aC];intro q e;have b:J m e:=(J.push _ _).trans (J.push _ _);have n:∀f∈[q.size,m.size],f<e.size:=by simp[e,q];omega
 clear_value e;have C:=i.len;have D:=i.gX;have F:=g.len;refine⟨λ_=>rN b,λh=>?_⟩;simp only[iU]at h;let⟨y,p⟩:=cL x.args 0;refine⟨V,V,y,(g.ext b).aF p,?_⟩;have u:cG ((c.len:Int) -1)=(v.length:Int) -1:=by rw[aR V V];omega
 rw[u];refine(bd _ _ _ _).aJ (J.aA e) n λf G w _ j=>⟨_,rfl,λ_=>rN (b.trans j),λh=>?_⟩;have h:=yb w h;have a:=b.trans j;let⟨z,A⟩:=cL v y.toNat;have g1:=(g.ext a).aF p;have g2:=(i.ext a).aF A;refine⟨V,V,y,g1,V,V,z,g2,λ_=>rN a,λ_=>⟨λ_=>⟨λ_=>⟨V,V,y,g1,V,V,z,g2,?_⟩,λ_=>rN a⟩,λ_=>rN a⟩⟩;exact(nv ((o.le a.le).br) o.types z).any.aJ j n λf H I s=>⟨_,rfl,λ_=>rN (b.trans s),λ_=>rN (b.trans s)⟩
def Fg{m:E}{w:O}{H:List bB}{t:List gU}(g:eM m d r H t)(U:ap m c v)(A:ap m w x.args):FH 271 [.agg #[O.v d,O.v r],O.v c,pD x w k] m:=by
 apply xX;simp -zeta only[aD,aC];intro j h;have F:J m h:=(J.push _ _).trans (J.push _ _);have n:∀f∈[j.size,m.size],f<h.size:=by simp[h,j];omega
 clear_value h;have h1:=g.jg.len;have h2:=g.oQ;have h3:=A.len;have I:cG ((r.len:Int) -1)=(t.length:Int) -1:=by rw[aR V V];omega
 rw[I];refine(bd _ _ _ _).aJ (J.aA h) n λf l S _ u=>⟨_,rfl,λ_=>rN (F.trans u),λy=>?_⟩;have y:=yb S y;have D:=F.trans u;let⟨q,T⟩:=cL t x.bS.toNat;let⟨Z,ac,s,i,c2,c3,L,g1,g2,M,N⟩:=(g.le D.le).jg.aF T;refine⟨V,V,_,L,_,g1,_,g2,_,M,_,N,?_⟩;intro X b;have G:J l b:=((J.aA l).aL _).ai (ad _) _ _;have o:∀f∈[l.size,j.size,m.size],f<b.size:=by
  have P:=n j.size aN;have Q:=n m.size aN;have R:=u.size;have z:b.size=l.size+1:=by simp[b,X,ax]
  simp;omega
 clear_value b;have a:=D.trans G;have C:=U.ext a;have B:=A.ext a;have p:=i.ext G;have P:=i.len;have Q:=i.cap;have R:=i.gX;refine⟨λ_=>(tg C B p).aJ (J.aA b) o λf Y e _=>⟨_,rfl,λ_=>rN (a.trans e),λ_=>rN (a.trans e)⟩,λ_=>⟨λ_=>rN a,λz=>⟨λ_=>rN a,λ_=>?_⟩⟩⟩;simp only[aj]at z;have K:cG ((Z.len:Int) -1)=((q.params.length -1:Nat):Int):=by rw[aR V V];omega
 rw[K];let⟨aa,W⟩:=cL q.params (q.params.length -1);refine⟨V,V,V,(tg C B (eV.TS p V)).aJ (J.aA b) o λf Y e _=>⟨_,rfl,λ_=>rN (a.trans e),λ_=>⟨V,V,aa,(p.ext e).aF W,?_⟩⟩⟩;exact(AK (g.le (a.trans e).le).br g.types _ _).aJ e o λab m6 _ x6 u6=>⟨_,rfl,rN (a.trans u6)⟩
def WZ(a:List bB)(e:List gU)(b:Bk):Prop:=∀(m:E)(d r c t:O)(v:List Int),eM m d r a e->ap m c v->eR m t b.aE->v.length+4*b.w<=10^12->FH 233 [.agg #[O.v d,O.v r],O.v c,.agg #[O.v t,vi b.aT]] m
def Kb{m:E}{ab:O}{t:List bB}{Y:List gU}(g:eM m d r t Y)(U:ap m c v)(y:nT m k x.bF)(hb:v.length+4*x.w<=10^12)(ih:∀l∈x.bF,WZ t Y l):FH 270 [.agg #[O.v d,O.v r],O.v c,pD x ab k] m:=by
 apply De;simp -zeta only[aD,aC];intro X p;have i:J m p:=(J.push _ _).trans (J.push _ _);have o:∀l∈[X.size,m.size],l<p.size:=by simp[p,X];omega
 clear_value p;have ac:=y.len;have hw:=cZ.mJ x;refine(iH (e:=[]) aN (g.le i.le).br g.types x.bS).aJ (J.aA p) o λae cl H w q A _=>⟨_,rfl,?_⟩;subst q;have w:=w.le (bD _ _);have ag:=w.len;have h3:=Yt g.types x.bS;refine⟨λL aa=>aa=H/\0<=L/\(x.op=8->L=(cB t x.bS).length),⟨λh=>?_,λh=>⟨rfl,V,λ_=>V⟩⟩,?_⟩
 .simp only[aG]at h;exact⟨rfl,V,λh=>V⟩
 rintro L ah ⟨f,h4,h5⟩;have f:=f.symm;subst f;refine⟨λ_=>rN (i.trans A),λ_=>⟨λ_=>rN (i.trans A),λT=>?_⟩⟩;simp only[iU]at T;subst T;refine eB (n:=x.bF.length) (ac▸y.gX) (λ_ _ b=>J H b) (J.aA _) ?_;rintro j z I R μ hj B ad
 have M:=A.trans B;have s:=i.trans M;refine⟨λh=>?_,λ_=>rN s⟩;simp only[ar]at h;let⟨l,u⟩:=cL x.bF j;have W:=ih l (aq u);have af:=xk u;have Z:∀(a:Int)(e:E),J H e->((decide (a<(0:Int)))=true->∃k:Int,vi (-1)=vi k/\True/\J m e)/\((decide (a<(0:Int)))=false->((decide ((j:Int)>(0:Int)))=true->((a !=z)=true->∃k:Int,vi (-1)=vi k/\True/\J m e)/\((a !=z)=false->R a (cG ((j:Int)+1)) e/\μ a (cG ((j:Int)+1)) e<μ z j I))/\((decide ((j:Int)>(0:Int)))=false->R a (cG ((j:Int)+1)) e/\μ a (cG ((j:Int)+1)) e<μ z j I)):=λa e h=>by
  have f:=rN (n:=-1) ((i.trans A).trans h);have D:=ad V a e h
  exact⟨λ_=>f,λ_=>⟨λ_=>⟨λ_=>f,λ_=>D⟩,λ_=>D⟩⟩
 refine⟨λh=>?_,λh=>?_⟩
 .simp only[aG]at h;have h7:=h5 h;let⟨Q,hy⟩:=cL (cB t x.bS) j;refine⟨V,V,Q,(w.ext B).aF hy,?_⟩;refine(dN (e:=[]) aN (g.le (s.le.trans (Ap _))).br g.types Q).aJ M o λD fl e hf q x4 u4=>⟨_,rfl,?_⟩;subst q;have h8:=FZ g.types Q;refine(eP (S:=[]) aN (U.le ((i.trans u4).le.trans (Ap _))) hf V).aJ u4 o λf el m5 he q x5 N=>⟨_,rfl,?_⟩;subst q;let⟨C,G,F,g1⟩:=(y.le (i.trans N).le).aF u;refine⟨V,V,_,F,_,g1,?_⟩;exact(W m5 d r f C _ (g.le (i.trans N).le) ((he.done aN bG).le (bD _ _)) G bG).aJ N o λa K P _=>⟨_,rfl,Z a K (((B.trans x4).trans x5).trans P)⟩
 .let⟨C,G,F,g1⟩:=(y.le s.le).aF u;refine⟨V,V,_,F,_,g1,?_⟩;exact(W I d r c C _ (g.le s.le) (U.ext s) G V).aJ M o λa K P _=>⟨_,rfl,Z a K (B.trans P)⟩
def QF{m a:E}(h:J m a)(l:List Int){n:Nat}(c:n=l.length)(b:l.length<=9223372036854775807):ap (a.push (.cells (bz (l.map Ce.i)) aB)) (.mk a.size 0 n n) l:=
 (ap.lit (S:=[]) aB l aN rfl c b).le (bD _ _)
def _root_.Go.Vc.eV.La{α:Type}{n:E}{b:Nat}{R:List Ce->α->Prop}{l:List α}(h:eV n b R s l){i j:Nat}(u:i<=j)(v:j<=l.length):eV n b R (s.cut i j b) ((l.take j).drop i):=by
 have a:=h.len;have m:=h.cap;have y:=h.gX;have g:(s.cut i j b).len=j -i/\(s.cut i j b).len<=(s.cut i j b).cap:=by
  cases s with
  |nil=>simp at a;simp[O.cut];omega
  |zX d o t=>simp at a;simp[O.cut];omega
  |mk d o r f=>simp at a m;simp[O.cut];omega
 refine⟨by simp[g.1];omega,g.2,V,λk x c=>?_⟩;rw[sH,lT]at c;split at c
 .rename_i w;let⟨p,q,e⟩:=h.iL _ x c;refine⟨p,q,?_⟩;cases s with
  |nil=>simp at a;omega
  |zX d o t=>simp at a;omega
  |mk d o r f=>
   simp at a m;have:¬f=i:=V;simp only[O.cut,this,rY,O.jJ,O.nt]at e⊢;rw[gT,<-dq]at e;exact e
 .simp at c
def oF{q:E}{w:O}{P:List bB}{rs:List gU}(B:eM q d r P rs)(hv:ap q c v)(Z:ap q w x.args)(hk:nT q k x.bF)(H:v.length+4*x.w<=10^12)(ih:∀g∈x.bF,WZ P rs g):FH 228 [.agg #[O.v d,O.v r],O.v c,pD x w k] q:=by
 apply Dw;simp -zeta only[aD,aC];intro C p;have M:J q p:=(J.push _ _).trans (J.push _ _);have m:∀g∈[C.size,q.size],g<p.size:=by simp[p,C];omega
 clear_value p;have h1:=Z.len;have h2:=Z.cap;have u:∀{n:E},J p n->ap n c v:=λh=>hv.ext (M.trans h);have A:∀{n:E},J p n->ap n w x.args:=λh=>Z.ext (M.trans h);have N:∀{n:E},J p n->eM n d r P rs:=λh=>B.le (M.trans h).le;have o:∀{n:E}{t:Int},J p n->∃k:Int,vi t=vi k/\True/\J q n:=λh=>rN (M.trans h);have Q:∀{n:E}{t k:Int}{g:Bool},J p n->(g=true->∃k:Int,vi t=vi k/\True/\J q n)/\(g=false->∃a:Int,vi k=vi a/\True/\J q n):=λh=>⟨λ_=>o h,λ_=>o h⟩;refine⟨λX=>J p X,⟨λ_=>(Nr x.op p).aJ (J.aA p) m λg n e _=>⟨_,rfl,λ_=>o e,λ_=>(wW (u e) x).aJ e m λg f l a=>⟨_,rfl,λ_=>o a,λ_=>⟨λ_=>⟨λ_=>⟨λ_=>o a,λ_=>a⟩,λ_=>a⟩,λ_=>a⟩⟩⟩,λ_=>(wW (u (J.aA _)) x).aJ (J.aA p) m λg f a _=>⟨_,rfl,λ_=>o a,λ_=>⟨λ_=>⟨λ_=>⟨λ_=>o a,λ_=>a⟩,λ_=>a⟩,λ_=>a⟩⟩⟩,?_⟩;intro n e;have T:∀{f:E}{R:O}{ak:List Int}(h:J p f),ap f R ak->pb 269 [O.v c,O.v w,O.v R] f:=λh ht=>tg (u h) (A h) ht;have Kt:∀{f:E}(h:J p f),aO cp 270 [.agg #[O.v d,O.v r],O.v c,.agg #[vi x.op,vi x.bS,vi x.cg,O.v w,O.v k]] f λv b=>eF [C.size,q.size] f b/\∃t:Int,v=vi t/\∃k:Int,vi t=vi k/\True/\J q b:=λh=>
  (Kb (N h) (u h) (hk.le (M.trans h).le) H ih).aJ h m λt L s U=>⟨t,rfl,o U⟩
 refine⟨λ_=>⟨λ_=>(bd _ _ _ _).any.aJ e m λg f l a=>⟨_,rfl,Q a⟩,λ_=>o e⟩,λ_=>⟨λ_=>?_,λ_=>⟨λ_=>?_,λ_=>⟨λ_=>?_,λ_=>⟨λ_=>?_,λ_=>⟨λ_=>?_,λ_=>⟨λ_=>(Fg (N e) (u e) (A e)).aJ e m λt f l a=>⟨_,rfl,o a⟩,λ_=>⟨λ_=>?_,λ_=>⟨λ_=>(CU (N e) (u e) (A e)).aJ e m λt f l a=>⟨_,rfl,o a⟩,λ_=>o e⟩⟩⟩⟩⟩⟩⟩⟩⟩
 .intro f;exact(T (e.aL _) (QF e [0,0] rfl aN)).aJ (e.aL _) m λg f l a=>⟨_,rfl,Q a⟩
 .intro f;exact(T (e.aL _) (QF e [0] rfl aN)).aJ (e.aL _) m λg f l a=>⟨_,rfl,Q a⟩
 .refine(mG (N e).br B.types x.bS).mono λ_ f⟨R,z,_,l⟩=>?_;subst z;have a:=e.trans l;refine⟨e.VA m l,_,rfl,λ_=>?_,λ_=>o a⟩;refine(dN (e:=[]) aN ((N a).br.le (Ap _)) B.types x.bS).aJ a m λae G L hf I s U=>⟨_,rfl,aI (s.same C.size (a.lt (m _ aN))) _,?_⟩;refine(T U (hf.le (bD _ _))).aJ U m λg D x5 y=>⟨_,rfl,λ_=>?_,λ_=>o y⟩;refine(mG (N y).br B.types x.bS).mono λ_ F⟨R,z,_,W⟩=>?_;subst z;exact⟨y.VA m W,_,rfl,o (y.trans W)⟩
 .intro f;exact(T (e.aL _) (QF e [0] rfl aN)).aJ (e.aL _) m λg f l a=>⟨_,rfl,λ_=>Kt a,λ_=>o a⟩
 .intro f;exact(T (e.aL _) (QF e [x.bS] rfl aN)).aJ (e.aL _) m λg f l a=>⟨_,rfl,λ_=>Kt a,λ_=>o a⟩
 .have h3:=hv.len;have h4:=hv.gX;refine⟨λg X=>J p X/\(g=true->x.args.length=2/\∃y z G,x.args[0]? =some y/\0<=y/\v[y.toNat]? =some z/\1<=z/\P[z.toNat -1]? =some G),⟨λh=>?_,λ_=>⟨e,sx⟩⟩,?_⟩
  .simp only[aG]at h;let⟨y,I⟩:=cL x.args 0;refine⟨V,V,y,(A e).aF I,?_⟩;have Y:cG ((c.len:Int) -1)=(v.length:Int) -1:=by rw[aR V V];omega
   rw[Y];refine(bd _ _ _ _).aJ (J.aA n) (λg H=>e.lt (m g H)) λg f aa _ l=>⟨_,rfl,λh=>?_,λh=>⟨e.trans l,sx⟩⟩;have h:=aa.1 h;have a:=e.trans l;let⟨z,K⟩:=cL v y.toNat;refine⟨V,V,y,(A a).aF I,V,V,z,(u a).aF K,?_⟩;refine(nv (N a).br B.types z).aJ (J.aA f) (λg H=>a.lt (m g H)) λg L ab _ s=>⟨_,rfl,a.trans s,λh=>?_⟩;obtain⟨G,h5,h6,_⟩:=ab.1 h;exact⟨V,y,z,G,I,V,K,h5,h6⟩
  .rintro g f ⟨l,ah⟩;refine⟨λh=>?_,λ_=>o l⟩;let⟨h5,y,z,G,I,h6,K,h7,aa⟩:=ah h;let⟨ae,hf,g0,g1,g2⟩:=(N l).br.aF aa;have an:=B.br.len;have h8:=B.types.len;have h9:=aw aa;have al:=aw K;have Y:cG (z -1)=((z.toNat -1:Nat):Int):=by rw[aR V V];omega
   have ab:=(A l).aF I;have ac:=(u l).aF K;refine⟨V,V,y,ab,V,V,z,ac,?_⟩;rw[Y];refine⟨V,V,_,g0,_,g1,_,g2,?_⟩;intro L;have s:J f L:=J.push _ _;have af:C.size<f.size:=l.lt (m _ aN);have ag:q.size<f.size:=l.lt (m _ aN);refine⟨s.dg g0,s.dg g1,s.dg g2,s.dg ac,s.dg ab,aI (s.same _ af) _,aI (s.same _ ag) _,?_⟩;intro D;have x5:J f D:=s.ai (ad _) _ _;have am:D.size=f.size+1:=by simp[D,L,ax]
   clear_value D;refine⟨V,V,V,?_⟩;intro F;have W:J f F:=x5.trans (J.push _ _);have u6:=l.trans W;have aj:∀g∈[f.size,C.size,q.size],g<F.size:=by simp[F];omega
   refine⟨aI ((J.push D _).same _ V) _,?_⟩;have ai:ap F (w.cut 1 w.len 1) (x.args.drop 1):=by
    have:=(eV.La (A u6) (i:=1) (j:=x.args.length) V (ad _));rw[fB]at this;rw[h1];exact this
   exact(tg (u u6) ai (QF x5 [G.tq] rfl aN)).aJ (J.aA F) aj λg m7 x7 _=>⟨_,rfl,Q (u6.trans x7)⟩
def _root_.Go.Vc.J.oV{c m:E}(h:J c m)(k:J c b){l:List Nat}(e:∀a∈l,a<c.size):eF l m b:=λa d=>by rw[k.same a (e a d),h.same a (e a d)]
def tB(x:cZ)(b:Bool)(a:b=true<->0<=x.op/\x.op<=11):dn x=if b=true then 1 else 0:=by
 unfold dn;by_cases h:b=true
 .rw[ao h];exact ao (a.1 h)
 .rw[ae h];exact ae λc=>h (a.2 c)
def nG{I:List bB}{Z:List gU}:∀a:Bk,WZ I Z a:=by
 refine Bk.ind ?_;intro aE Y W D d r c am v R U t j;simp only[Bk.j8,Bk.jE,Bk.qW]at*;apply AN;simp -zeta only[aD,aC];intro E e;have y:J D e:=(J.push _ _).trans (J.push _ _);have g:∀a∈[E.size,D.size],a<e.size:=by simp[e,E];omega
 clear_value e;have T:=t.len;refine(mH (S:=[]) aN (U.le (y.le.trans (Ap _))) V).aJ (J.aA e) g λs0 _ m2 i K x2 _=>⟨_,rfl,?_⟩;subst K;have C:=BV aE;refine eB (n:=aE.length) (T▸t.gX) (λk s b=>J e b/\∃l,GI [] e b s l/\l.length=v.length+dc (aE.take k)) ⟨x2,_,i,aN⟩ ?_;rintro k s X aa μ hk ⟨z,l,m,hc⟩ G
 have p:=y.trans z;have ac:=tz (aE.take k);have ag:=qY k aE;have ah:=gB (aE.take k);have af:=m.len bn;have q:=(m.done aN (oh (C k))).le (bD _ _);refine⟨λh=>?_,λh=>?_⟩
 .simp only[ar]at h;let⟨x,o⟩:=cL aE k;let⟨ab,kk,O,Q,i,g1,g2,M,N⟩:=(t.le p.le).aF o;have aj:=qu o;have ai:=C (k+1);have ad:=rf o;refine⟨V,V,_,i,_,g1,_,g2,_,M,_,N,?_⟩;refine(oF (R.le p.le) q O Q V (W x (aq o))).aJ z g λak F f u=>⟨_,rfl,λ_=>rN (y.trans u),λ_=>⟨V,V,_,f.af i,?_⟩⟩;refine(jW _ _).aJ (J.aA F) (λa j=>u.lt (g a j)) λa m5 P _ A=>⟨_,rfl,?_⟩;have hd:=tB x a P;have w:=u.trans A;refine⟨λh=>?_,λh=>?_⟩
  .rw[ao h]at hd;intro m6;refine GI.kY ((m.ext f).ext A) (w.fz []) aN V λr m7 L B H al=>⟨?_,G V _ _ ⟨B.ext,_,L,bG⟩⟩;exact J.oV (w.aL _) B.ext g
  .rw[ae (by simp[h])]at hd;exact G V _ _ ⟨w,l,(m.ext f).ext A,V⟩
 .refine(bd _ _ _ _).aJ (J.aA X) (λa j=>z.lt (g a j)) λa F o _ f=>⟨_,rfl,λ_=>rN (p.trans f),λh=>?_⟩;have h:=yb o h;have w:=q.gX;rw[aR V V]at h;let⟨H,u⟩:=cL l Y.toNat;exact⟨V,V,H,(q.ext f).aF u,rN (p.trans f)⟩
end
section
variable{b:E}{d e g k:O}{f:List gU}{c:cZ}{h:Nat}
def _root_.Go.Vc.cD{S a:List Nat}{d o:Nat}{l:List Ce}(i:d∈S)(g:∀c∈a,c∈S):Le (bI S b) (bI a (ai b d o l)):=
 pR λc _ e=>⟨λh=>e (g c h),bg _ _ _ _ λf=>e (f▸i)⟩
def ZY(a:Bk):Prop:=∀(b:E)(t:O),eR b t a.aE->∀left:Int,-1<=left->left<=600->tr 276 [.agg #[O.v t,vi a.aT],vi left] b λk=>-1<=k/\k<=600
def Jf:∀j:Bk,ZY j:=by
 refine Bk.ind ?_;intro aE aa K b ab q left A C;simp only[Bk.j8,Bk.jE]at*;apply BG;simp -zeta only[aD,aC];intro f;have w:J b f:=J.push _ _;have F:∀j∈[b.size],j<f.size:=by simp[f]
 clear_value f;have I:=q.len;have r:∀{d:E}{a:Int},J f d->-1<=a/\a<=600->∃k:Int,vi a=vi k/\(-1<=k/\k<=600)/\J b d:=λh o=>⟨_,rfl,o,w.trans h⟩;refine eB (n:=aE.length) (I▸q.gX) (λ_ a d=>J f d/\-1<=a/\a<=600) ⟨J.aA _,A,C⟩ ?_;rintro k a M U μ hk ⟨l,o⟩ P
 refine⟨λh=>⟨λ_=>r l V,λB=>?_⟩,λ_=>r l o⟩;simp only[ar]at h;simp only[bO]at B;let⟨c,u⟩:=cL aE k;let⟨g,v,Z,m,X,g1,g2,Y,s⟩:=(q.le (w.trans l).le).aF u;have D:=m.len;rw[aR (b:=a -1) V V];refine eB (n:=c.bF.length) (D▸m.gX) (λ_ a d=>J M d/\-1<=a/\a<=600) ⟨J.aA _,V,V⟩ ?_;rintro L Q N W μ2 hj ⟨i,p⟩ O;refine⟨V,V,v,i.af s,λh=>?_,λ_=>P V _ _ ⟨l.trans i,p⟩⟩;simp only[ar]at h;let⟨j,t⟩:=cL c.bF L;let⟨R,H,y,z⟩:=(m.le i.le).aF t;refine⟨V,V,v,i.af s,V,V,_,y,_,z,?_⟩;exact(K c (aq u) j (aq t) N R H Q p.1 p.2).aJ (l.trans i) F λe m4 G T S=>⟨_,rfl,λ_=>r S V,λh=>O V _ _ ⟨i.trans T,G⟩⟩
def My{t:O}{c:Bk}(g:eR b t c.aE):FH 232 [.agg #[O.v t,vi c.aT]] b:=by
 apply Fk;simp -zeta only[aD,aC];intro a;have d:J b a:=J.push _ _;have f:∀c∈[b.size],c<a.size:=by simp[a]
 clear_value a;exact(Jf c a t (g.le d.le) 600 V V).aJ (J.aA a) f λn h _ _ e=>⟨_,rfl,λ_=>rN (d.trans e),λ_=>rN (d.trans e)⟩
def pOf(e:gU):dC:=⟨e.params,[],e.aT,0,[]⟩
def oZ.mono:oO 5 oZ:=⟨λh⟨g,a,b⟩=>⟨g,a,b.le h⟩,λ⟨g,a,_⟩=>by rw[a];rfl⟩
def Nx{F:List bB}(t:eM b d e F f):aO cp 275 [.agg #[O.v d,O.v e]] b λY g=>∃v,Y=.agg #[O.v d,O.v v]/\eV g 5 (oZ g) v (f.map pOf)/\J b g:=by
 apply Hk;simp -zeta only[aD,aC];intro j a2 a3 a4 p;have ac:=t.jg.len;have hf:=t.oQ;have Z:J b a2:=(J.push _ _).trans (J.push _ _);have W:j.size=b.size+1:=by simp[j]
 have X:a2.size=b.size+2:=by simp[a2,W]
 have s3:a3.size=b.size+3:=by simp[a3,X]
 have A:J a3 p:=(J.push a3 _).ai (ad _) _ _;have L:Gr [a3.size,j.size] a2 p fx 5 oZ (.mk a2.size 0 0 0) []:=(Gr.new _ (ad _) _ _ _).ext oZ.mono A;have D:cK p a3.size kX [.s d,.s (.mk a2.size 0 0 0)]:=cK.ai (m:=a4) (o:=0) (r:=[.s d,.s (.mk a2.size 0 0 0)]) (cK.push a3 _ _);have aa:J a2 p:=(J.push a2 _).trans A;clear_value p;have N:∀l∈[j.size,b.size],l<a2.size/\l∉([]:List Nat):=bG;refine dW (n:=f.length) V (λk g=>J a2 g/\∃s,Gr [a3.size,j.size] a2 g fx 5 oZ s ((f.take k).map pOf)/\cK g a3.size kX [.s d,.s s]) ⟨aa,_,L,D⟩ ?_;rintro k Q ab μ hk ⟨u,s,h,B⟩ S
 have z:=Z.trans u;refine dit (λM=>?_) λM=>?_
 .let⟨T,x⟩:=cL f k;have P:zL (bI (s.D::[a3.size,j.size]) Q) e f:=t.jg.le ((Ap b).trans ((z.fz []).bI aN λl q=>Or.inr ?_))
  .let⟨y,ae,l,E,c2,c3,G,e1,H,e3,e4⟩:=P.aF x;refine⟨s,B.cq 1,V,V,y,(eS.1 G).2,V,V,_,(eS.1 H).2,?_⟩;intro R;refine Gr.box (g:=[.s .nil,.i 0,.i 0,.i 0,.s .nil]) (j:=1) (i:=[.s d,.s s]) (w:=pOf T) oZ.mono bn h (u.fz []) ⟨y,rfl,E⟩ bG B aN bn ⟨V,aN⟩ (λl q=>by have C:=N l q;have I:=h.bq;have w:=u.size;omega) λU g K C I z' q'=>S V _ ⟨I.ext,U,?_,C⟩
   rw[aV x,fA];exact K
  .have:=h.bq;simp at q;omega
 .refine⟨d,B.cq 0,s,B.cq 1,?_⟩;intro R;have x:=h.ne B bn;have y:=h.bq;rw[bZ V]at h;refine⟨s,rfl,?_,z.ai V _ _⟩;have w:=h.nV oZ.mono bG bn bG;exact eV.le w ((cD (a:=[]) aN aN).trans (bD _ _)) λq c=>oZ.mono.le ((cD (a:=[]) aN aN).trans (bD _ _))
def yf{r:List bB}(c:eM b d e r f):pb 231 [.agg #[O.v d,O.v e]] b:=by
 apply ua;simp -zeta only[aD,aC];intro g;have a:J b g:=J.push _ _;have i:∀h∈[b.size],h<g.size:=by simp[g]
 clear_value g;have K:=c.jg.len;have G:=c.oQ;refine⟨λ_=>rA a,λ_=>?_⟩;refine(Nx (c.le a.le)).mono λ_ L⟨F,s,w,j⟩=>?_;subst s;refine⟨j.dz i,_,_,rfl,?_⟩;refine(vh (c.le (a.trans j).le).br w).any.aJ j i λh M R m=>⟨_,rfl,λ_=>rA (a.trans m),λ_=>?_⟩;refine dW (n:=f.length) V (λ_ l=>J g l) m ?_;rintro k N I μ H l y
 refine⟨λv=>?_,λ_=>rA (a.trans l)⟩;simp only[ar]at v;let⟨Q,x⟩:=cL f k;let⟨z,A,h,p,q,B,t,u,C,D,E⟩:=(c.le (a.trans l).le).jg.aF x;refine⟨V,V,z,t,V,V,A,u,?_⟩;exact(vg p q).any.aJ l i λh P S o=>⟨_,rfl,λ_=>rA (a.trans o),λ_=>y V _ o⟩
def Fq{z:List bB}(i:eM b d e z f)(G:∀q∈f,q.params.length+4*q.body.w<=10^12):pb 212 [.agg #[O.v d,O.v e]] b:=by
 apply yg;simp -zeta only[aD,aC];intro c;have m:J b c:=J.push _ _;have t:∀a∈[b.size],a<c.size:=by simp[c]
 clear_value c;have T:=i.jg.len;have R:=i.oQ;refine(yf (i.le m.le)).aJ (J.aA c) t λa U x _=>⟨_,rfl,λ_=>rA (m.trans x),λ_=>?_⟩;refine dW (n:=f.length) V (λ_ g=>J c g) x ?_;rintro k l P μ S o L
 refine⟨λF=>?_,λ_=>rA (m.trans o)⟩;simp only[ar]at F;let⟨q,u⟩:=cL f k;have v:=m.trans o;let⟨M,X,a,y,Q,s,A,B,C,D,E⟩:=(i.le v.le).jg.aF u;refine⟨V,V,_,A,_,B,_,C,_,D,_,E,?_⟩;intro H g;have j:J l g:=(J.push l _).ai (ad _) _ _;have p:∀a∈[l.size,b.size],a<g.size:=by
  have:=o.lt (t b.size aN);have:g.size=l.size+1:=by simp[g,H,ax]
  simp;omega
 clear_value g;have r:=v.trans j;refine(My (s.le j.le)).aJ (J.aA g) p λK I h _=>⟨_,rfl,λ_=>rA (r.trans h),λ_=>?_⟩;refine(nG q.body I d e M a q.params (i.le (r.trans h).le) (y.ext (j.trans h)) (s.le (j.trans h).le) (G q (aq u))).aJ h p λK W N w=>⟨_,rfl,aI (N.same _ (h.lt (p _ aN))) _,λ_=>rA (r.trans w),λ_=>L V _ ((o.trans j).trans w)⟩
def yz(c:Int)(b:E):pb 92 [vi c] b:=by
 apply sK;have e:∀a:Bool,∃k:Bool,vb a=.bool k/\J b b:=λa=>rA (J.aA b);exact⟨λ_=>e _,λ_=>⟨λ_=>e _,λ_=>⟨λ_=>e _,λ_=>e _⟩⟩⟩
def W3(f:List gU)(c:cZ):Prop:=c.op=9->0<=c.bS/\c.bS<f.length
structure At(b:E)(d e g k:O)(ds:List bB)(f:List gU)(c:cZ):Prop where
 Rk:eM b d e ds f
 args:ap b g c.args
 call:W3 f c
def At.le{b j:E}{d e g k:O}{a:List bB}{f:List gU}{c:cZ}(h:At b d e g k a f c)(i:Le b j):At j d e g k a f c:=⟨h.Rk.le i,h.args.le i,h.call⟩
def dI{o1 o2:Obj}{a c:E}(e:a=b.push o1)(f:c=a.push o2):J b c/\∀d∈[a.size,b.size],d<c.size:=by
 subst e f;exact⟨(J.push _ _).trans (J.push _ _),bG⟩
def oA{o:List bB}(a:At b d e g k o f c)(h:Int):pb 278 [.agg #[O.v d,O.v e],pD c g k,vi h] b:=by
 apply He;simp -zeta only[aD,aC];intro s i;let⟨j,q⟩:=dI (a:=s) (c:=i) rfl rfl;clear_value i;have C:=a.Rk.jg.len;refine⟨λl=>?_,λ_=>rA j⟩;simp only[aG]at l;have B:=a.call l;let⟨F,r⟩:=cL f c.bS.toNat;let⟨E,t,m,v,n,w,x,p,y,z,A⟩:=(a.Rk.le j.le).jg.aF r;exact⟨V,V,t,p,(dA n h).any.aJ (J.aA i) q λm D u _=>⟨_,rfl,rA (j.trans u)⟩⟩
def mV{q:O}{s:List bB}(j:At b d e g k s f c){v:List Int}(o:ap b q v)(u:∀y∈c.args,0<=y/\y<(v.length:Int))(t:h<c.args.length):pb 274 [.agg #[O.v d,O.v e],O.v q,pD c g k,vi h] b:=by
 apply zd;simp -zeta only[aD,aC];intro x a;let⟨l,n⟩:=dI (a:=x) (c:=a) rfl rfl;clear_value a;have B:=j.args.len;have D:=o.len;let⟨y,p⟩:=dG t;have C:=u y (aq p);let⟨A,w⟩:=cL v y.toNat;refine(yz c.op a).aJ (J.aA a) n λr E m _=>⟨_,rfl,λ_=>?_,λ_=>rA (l.trans m)⟩;have i:=l.trans m;refine⟨V,V,y,(j.args.ext i).aF p,V,V,A,(o.ext i).aF w,λ_=>?_,λ_=>rA i⟩;exact(oA (j.le i.le) h).aJ m n λr F G z=>⟨_,rfl,rA (l.trans z)⟩
def Di{r:List bB}(a:At b d e g k r f c)(u:h<c.args.length):pb 306 [.agg #[O.v d,O.v e],pD c g k,vi h] b:=by
 apply wS;simp -zeta only[aD,aC];intro y l;let⟨q,v⟩:=dI (a:=y) (c:=l) rfl rfl;clear_value l;have t:=a.args.len;let⟨A,w⟩:=dG u;refine dW (n:=c.args.length) (t▸a.args.gX) (λ_ i=>J l i) (J.aA _) ?_;rintro o E I μ D j z
 have i:=q.trans j;refine⟨λs=>⟨λ_=>?_,λ_=>?_⟩,λ_=>rA i⟩<;>simp only[ar]at s<;>have m:=z V
 .let⟨B,x⟩:=cL c.args o;refine⟨V,V,B,(a.args.ext i).aF x,V,V,A,(a.args.ext i).aF w,λ_=>⟨λ_=>rA i,λ_=>?_⟩,λ_=>m _ j⟩;exact(oA (a.le i.le) o).aJ j v λC F G p=>⟨_,rfl,λ_=>rA (q.trans p),λ_=>m _ p⟩
 .exact m _ j
def Bj{s r:O}{u:List bB}(i:At b d e g k u f c){z x:List Int}(w:ap b s z)(v:ap b r x)(p:h<c.args.length):pb 291 [.agg #[O.v d,O.v e],pD c g k,vi h,O.v s,O.v r] b:=by
 apply EX;simp -zeta only[aD,aC];intro A l;let⟨a,j⟩:=dI (a:=A) (c:=l) rfl rfl;clear_value l;have C:=i.args.len;let⟨y,q⟩:=dG p;refine⟨V,V,y,(i.args.ext a).aF q,?_⟩;refine(dA (v.ext a) y).any.aJ (J.aA l) j λo D n _=>⟨_,rfl,λ_=>rA (a.trans n),λ_=>?_⟩;have t:=a.trans n;refine⟨V,V,y,(i.args.ext t).aF q,?_⟩;refine(dA (w.ext t) y).any.aJ n j λo E G m=>⟨_,rfl,λ_=>rA (a.trans m),λ_=>?_⟩;exact(Di (i.le (a.trans m).le) p).aJ m j λo F H B=>⟨_,rfl,rA (a.trans B)⟩
end
section
def Ya(b:Bk):Prop:=∀(S:List Nat)(m:E),(∀c∈S,c<m.size)->∀(t a:O)(l:List Int)(n:Int)(k:Nat),eR m t b.aE->ap (bI S m) a l->k<=b.aE.length->l.length+b.w<=10^12->
 FG 260 [.agg #[O.v t,vi b.aT],vi n,vi k,O.v a] m S λc=>c.length<=l.length+b.w
def _root_.Go.Vc.Xo{σ:Type}{n b:Nat}(l:b<=n)(q:n<=9223372036854775807){m:E}{g:σ}{f:(σ->Int->E->Prop)->(σ->Int->E->Nat)->σ->Int->E->Prop}(Q:Nat->σ->E->Prop)(j:Q b g m)
 (h:∀(k:Nat)(s:σ)(a:E)(I:σ->Int->E->Prop)(μ:σ->Int->E->Nat),b<=k->k<=n->Q k s a->
  (k<n->∀d c,Q (k+1) d c->I d (cG ((k:Int)+1)) c/\μ d (cG ((k:Int)+1)) c<μ s k a)->f I μ s k a):
 ∃(I:σ->Int->E->Prop)(μ:σ->Int->E->Nat),I g b m/\∀s i a,I s i a->f I μ s i a:=by
 refine⟨λs i c=>∃k:Nat,i=k/\b<=k/\k<=n/\Q k s c,λ_ i _=>(n -i).toNat,⟨b,rfl,ad _,l,j⟩,?_⟩
 rintro s i a ⟨k,rfl,o,p,r⟩
 refine h k s a _ _ o p r λe d c t=>?_
 rw[kQ e q]
 exact⟨⟨k+1,rfl,V,e,t⟩,DM e⟩
def EC{S:List Nat}{m:E}(P:∀g∈S,g<m.size){B F G:O}{l:List Int}{x:cZ}(K:Int)(q:ap m B x.args)(t:nT m F x.bF)(D:ap (bI S m) G l)(hb:l.length+x.w<=10^12)(U:∀e∈x.bF,Ya e):
 FG 290 [pD x B F,vi K,O.v G] m S λa=>a.length<=l.length+x.w:=by
 apply xH
 simp -zeta only[aD,aC]
 intro b
 have f:J m b:=J.push _ _
 have u:∀e∈[m.size],e<b.size:=by simp[b]
 clear_value b
 have Q:=q.len
 have R:=t.len
 have hw:=cZ.mJ x
 have H:∀{c:E},J b c->∀g∈S,g<c.size:=λh g C=>aP (P g C) (f.trans h).size
 refine(tU x.op b).any.aJ (J.aA b) u λe m2 o _=>⟨_,rfl,λ_=>⟨_,_,rfl,D.le ((f.trans o).dj S),V,f.trans o⟩,λ_=>?_⟩
 refine eB (n:=x.args.length) (Q▸q.gX) (λv s c=>J b c/\∃a,ap (bI S c) s a/\a.length<=l.length+v) ⟨o,l,D.le ((f.trans o).dj S),ad _⟩ ?_
 rintro v s m3 ab μ hj ⟨d,a,j,C⟩ z
 refine dit (λh=>?_) λh=>?_
 .let⟨y,i⟩:=cL x.args v
  have g1:=(q.ext (f.trans d)).aF i
  refine⟨V,V,y,g1,λ_=>⟨V,V,y,g1,λ_=>⟨V,V,y,g1,?_⟩,λ_=>z V _ _ ⟨d,a,j,V⟩⟩,λ_=>z V _ _ ⟨d,a,j,V⟩⟩
  exact(mN (H d) j y V).aJ d u λY w I g2 A p k=>⟨_,rfl,z V _ _ ⟨k,w,g2.done (H d) (oh A.2),oh A.2⟩⟩
 .refine eB (n:=x.bF.length) (R▸t.gX) (λi s c=>J b c/\∃a,ap (bI S c) s a/\a.length<=l.length+x.args.length+bw (x.bF.take i)) ⟨d,a,j,bG⟩ ?_
  rintro i Z I I2 μ2 hi ⟨p,w,g2,ae⟩ X
  have k:=f.trans p
  have y:=KV x.bF
  refine⟨λh=>?_,λh=>⟨_,_,rfl,g2,oh (y i),k⟩⟩
  simp only[ar]at h
  let⟨e,r⟩:=cL x.bF i
  let⟨aa,T,L,M⟩:=(t.le k.le).aF r
  have ac:=uP r
  refine⟨V,V,_,L,_,M,?_⟩
  exact(U e (aq r) S I (H p) aa Z w K 0 T g2 (dQ _) (oh (y (i+1)))).aJ p u λY W m5 N A x5 u5=>⟨_,rfl,X V _ _ ⟨u5,W,N,V⟩⟩
def AI:∀e:Bk,Ya e:=by
 refine Bk.ind ?_;intro aE P K S o B ab aa l L Z i G D W;simp only[Bk.j8,Bk.jE,Bk.qW]at*;apply ED;simp -zeta only[aD,aC];intro a;have d:J o a:=J.push _ _;have r:∀e∈[o.size],e<a.size:=by simp[a]
 clear_value a;have I:=i.len;have H:∀{c:E},J a c->∀f∈S,f<c.size:=λh f p=>aP (B f p) (d.trans h).size;refine Xo (n:=aE.length) D (I▸i.gX) (λj s c=>J a c/\∃m,ap (bI S c) s m/\m.length<=l.length+sw (aE.take j)) ⟨J.aA _,l,G.le (d.dj S),V⟩ ?_;rintro j s v T μ _ X ⟨b,m,g,p⟩ M
 have y:=d.trans b;have t:=BV aE;refine⟨λh=>?_,λh=>?_⟩
 .simp only[ar]at h;let⟨R,k⟩:=cL aE j;let⟨U,kk,C,F,w,g1,g2,x,z⟩:=(i.le y.le).aF k;have Y:=qu k;refine⟨V,V,_,w,_,g1,_,g2,_,x,_,z,?_⟩;exact(EC (H b) L C F g (oh (t (j+1))) (K R (aq k))).aJ b r λN u m3 A q x3 Q=>⟨_,rfl,M V _ _ ⟨Q,u,A,V⟩⟩
 .have A:=t j;have w:∃x k,O.v s=O.v x/\ap (bI S v) x k/\k.length<=l.length+(1+sw aE)/\J o v:=⟨_,_,rfl,g,V,y⟩;refine⟨λ_=>⟨λ_=>?_,λ_=>w⟩,λ_=>w⟩;exact(mN (H b) g P V).aJ b r λN u C g2 q F z=>⟨_,rfl,_,_,rfl,g2.done (H b) (oh q.2),oh q.2,d.trans z⟩
def DS{S:List Nat}{m:E}(i:∀d∈S,d<m.size){t:O}{b:Bk}(l:eR m t b.aE)(n:Int)(c:b.w<=10^12):FG 225 [.agg #[O.v t,vi b.aT],vi n] m S λf=>f.length<=b.w:=by
 apply Hq;simp -zeta only[aD,aC];intro g a;let⟨e,k⟩:=dI (a:=g) (c:=a) rfl rfl;have h:ap (bI S a) (.mk g.size 0 0 0) []:=⟨rfl,ad _,aN,aN⟩;clear_value a;exact(AI b S a (λd j=>e.lt (i d j)) t _ _ n 0 (l.le e.le) h (dQ _) (by simpa using c)).aJ (J.aA a) (λb c=>k b (by simp at c⊢;exact Or.inr c)) λr f j g2 q d _=>⟨_,rfl,_,_,rfl,g2,by simpa using q,e.trans d⟩
section
variable{b:List Nat}{m:E}(e:∀c∈b,c<m.size){d r a k s q p:O}{t:List bB}{w:List gU}{x:cZ}(h:At m d r a k t w x){v g u:List Int}(o:ap m s v)(l:∀y∈x.args,0<=y/\y<(v.length:Int))(f:ap m q g)(j:ap m p u)
include e h o l
theorem y8(M:x.args.length<=10^12):lE 229 [.agg #[O.v d,O.v r],O.v s,pD x a k] m b (pI x.args):=by
 apply uB;simp -zeta only[aD,aC];intro I g P;let⟨q,B⟩:=dI (a:=I) (c:=g) rfl rfl;clear_value g;have H:=h.args.len;refine eB (n:=x.args.length) (H▸h.args.gX) (λj v p=>J g p/\∃f,GI b g p v f/\(∀y∈f,y∈x.args)/\f.length<=j) ⟨J.push _ _,[],GI.nil b g,aN,ad _⟩ ?_;rintro j v Q K μ N ⟨E,f,t,u,A⟩ D
 have w:=q.trans E;refine dit (λG=>?_) λG=>?_
 .let⟨y,C⟩:=cL x.args j;refine(mV (h.le w.le) (o.ext w) l (h:=j) V).aJ E B λL R F p=>⟨_,rfl,λ_=>⟨V,V,y,(h.args.ext (q.trans p)).aF C,?_⟩,λ_=>D V _ _ ⟨p,f,t.ext F,u,V⟩⟩;intro S;exact GI.kY (t.ext F) (p.fz []) (λc A=>q.lt (e c A)) V λr T g2 z _ _=>⟨J.oV (p.aL _) z.ext B,D V _ _ ⟨z.ext,_,g2,pv u (aq C),bG⟩⟩
 .exact⟨v,f,rfl,t.cA (λ_ h=>h) q.size,⟨u,V⟩,w⟩
include f j
theorem GX(W:x.args.length<=10^12):lE 262 [.agg #[O.v d,O.v r],O.v s,pD x a k,O.v q,O.v p] m b (pI x.args):=by
 apply zc;simp -zeta only[aD,aC];intro S u Y;let⟨v,B⟩:=dI (a:=S) (c:=u) rfl rfl;clear_value u;have R:=h.args.len;refine eB (n:=x.args.length) (R▸h.args.gX) (λt D w=>J u w/\∃g,GI b u w D g/\(∀y∈g,y∈x.args)/\g.length<=t) ⟨J.push _ _,[],GI.nil b u,aN,ad _⟩ ?_;rintro t D Z U μ X ⟨M,g,w,z,K⟩ C
 have E:=v.trans M;refine dit (λQ=>?_) λQ=>?_
 .let⟨y,L⟩:=cL x.args t;refine(mV (h.le E.le) (o.ext E) l (h:=t) V).aJ M B λP m4 H F=>⟨_,rfl,λ_=>?_,λ_=>C V _ _ ⟨F,g,w.ext H,z,V⟩⟩;have G:=v.trans F;refine(Bj (h.le G.le) (f.ext G) (j.ext G) (h:=t) V).aJ F B λP m5 N A=>⟨_,rfl,λ_=>⟨V,V,y,(h.args.ext (v.trans A)).aF L,?_⟩,λ_=>C V _ _ ⟨A,g,(w.ext H).ext N,z,V⟩⟩;intro T;exact GI.kY ((w.ext H).ext N) (A.fz []) (λc K=>v.lt (e c K)) V λr T g2 I _ _=>⟨J.oV (A.aL _) I.ext B,C V _ _ ⟨I.ext,_,g2,pv z (aq L),bG⟩⟩
 .exact⟨D,g,rfl,w.cA (λ_ h=>h) v.size,⟨z,V⟩,E⟩
theorem IP(U:g.length<=10^12):lE 264 [.agg #[O.v d,O.v r],O.v s,pD x a k,O.v q,O.v p] m b (pI g):=by
 apply Bm;simp -zeta only[aD,aC];intro Y z;let⟨t,F⟩:=dI (a:=Y) (c:=z) rfl rfl;clear_value z;have af:=h.args.len;have ab:∀{u:E},J z u->∀c∈b,c<u.size:=λh c hc=>aP (e c hc) (t.trans h).size;have X:aO cp 293 [O.v q,O.v p] z λv u=>eF [Y.size,m.size] z u/\∃Z:O,v=O.v Z/\∃A W,O.v Z=O.v A/\GI b m u A W/\pI g W/\J m u:=by
  refine(Nn (S:=[]) aN (f.le (t.le.trans (Ap _))) (j.le (t.le.trans (Ap _))) U).aJ (J.aA z) F λA w ag C I Q _=>⟨_,rfl,A,w,rfl,?_,I,t.trans Q⟩;let⟨D,K,g1,g2⟩:=C;exact⟨D,K,g1.cA t.size,g2.mono λ_ _ h=>h⟩
 refine⟨λ_=>X,λ_=>⟨λ_=>X,λ_=>?_⟩⟩;refine(mH (S:=[]) aN (f.le (t.le.trans (Ap _))) U).aJ (J.aA z) F λs0 _ ag D ae Q _=>⟨_,rfl,?_⟩;subst ae;refine eB (n:=x.args.length) (af▸h.args.gX) (λH A u=>J z u/\∃w,GI b m u A w/\pI g w) ⟨Q,g,?_,λ_ h=>h,ad _⟩ ?_
 .let⟨D,K,g1,g2⟩:=D;exact⟨D,K,g1.cA t.size,g2.mono λ_ _ h=>h⟩
 rintro H A m3 ah μ hj ⟨x3,w,C,B⟩ L
 have M:=t.trans x3;refine⟨λT=>?_,λT=>⟨A,w,rfl,C,B,M⟩⟩;simp only[ar]at T;let⟨y,hy⟩:=cL x.args H;refine(mV (h.le M.le) (o.ext M) l (h:=H) V).aJ x3 F λac m4 R N=>⟨_,rfl,λ_=>?_,λ_=>L V _ _ ⟨N,w,C.ext R,B⟩⟩;have P:=t.trans N;refine(Bj (h.le P.le) (f.ext P) (j.ext P) (h:=H) V).aJ N F λac m5 x5 G=>⟨_,rfl,λ_=>⟨V,V,y,(h.args.ext (t.trans G)).aF hy,?_⟩,λ_=>L V _ _ ⟨G,w,(C.ext R).ext x5,B⟩⟩;refine(BU (S:=b) (ab G) (((C.ext R).ext x5).done e (oh B.2)) y (oh B.2)).aJ G F λr l2 m6 g2 I x6 u6=>⟨_,rfl,L V _ _ ⟨u6,l2,g2.cA (λ_ h=>h) (t.trans G).size,λaa hz=>B.1 aa (I.1 aa hz),bJ I.2 B.2⟩⟩
omit o l
theorem IQ(hb:x.args.length<10^12):lE 265 [.agg #[O.v d,O.v r],pD x a k,O.v q,O.v p] m b (pI x.args):=by
 apply Bn;simp -zeta only[aD,aC];intro X l aa;let⟨g,w⟩:=dI (a:=X) (c:=l) rfl rfl;clear_value l;have T:=h.args.len;have R:∀{t:E},J l t->∀c∈b,c<t.size:=λh c v=>aP (e c v) (g.trans h).size;refine eB (n:=x.args.length) (T▸h.args.gX) (λA H t=>J l t/\∃i,GI b l t H i/\(∀y∈i,y∈x.args)/\i.length<=A) ⟨J.push _ _,[],GI.nil b l,aN,ad _⟩ ?_;rintro A H m3 Z μ hj ⟨N,i,o,s,v⟩ B
 have M:=g.trans N;refine dit (λS=>?_) λS=>?_
 .let⟨y,z⟩:=cL x.args A;refine(oA (h.le M.le) A).aJ N w λK m4 F C=>⟨_,rfl,λ_=>⟨V,V,y,(h.args.ext (g.trans C)).aF z,?_⟩,λ_=>B V _ _ ⟨C,i,o.ext F,s,V⟩⟩;refine(dA (f.ext (g.trans C)) y).any.aJ C w λK m5 I D=>⟨_,rfl,λ_=>⟨V,V,y,(h.args.ext (g.trans D)).aF z,?_⟩,λ_=>B V _ _ ⟨D,i,(o.ext F).ext I,s,V⟩⟩;refine(dA (j.ext (g.trans D)) y).any.aJ D w λK m6 P u=>⟨_,rfl,λ_=>⟨V,V,y,(h.args.ext (g.trans u)).aF z,?_⟩,λ_=>B V _ _ ⟨u,i,((o.ext F).ext I).ext P,s,V⟩⟩;refine(mN (R u) ((((o.ext F).ext I).ext P).done (λc v=>g.lt (e c v)) V) y V).aJ u w λr W m7 g2 L x7 Y=>⟨_,rfl,B V _ _ ⟨Y,W,g2.cA (λ_ h=>h) u.size,λQ U=>?_,oh L.2⟩⟩;rcases L.1 Q U with G|G
  .exact s Q G
  .subst G;exact aq z
 .exact⟨H,i,rfl,o.cA (λ_ h=>h) g.size,⟨s,V⟩,M⟩
end
end
section
variable{m d a:E}{c e:List Nat}{s:O}{l:List Int}{f g:Nat}{K:Value->E->Prop}
def qF{o1 o2 o3:Obj}{a b c:E}(e:a=m.push o1)(f:b=a.push o2)(g:c=b.push o3):J m c/\(∀d∈[b.size,a.size,m.size],d<c.size)/\a.size=m.size+1/\b.size=m.size+2/\c.size=m.size+3:=by
 subst e f g;exact⟨((J.push _ _).trans (J.push _ _)).trans (J.push _ _),bG,aN,aN,aN⟩
def GI.SE{X:List Nat}{n:E}{g:O}{k:List Int}{a:Int}{K:O->E->Prop}(p:GI c d m s l)(i:GI e n m g k)(j:s.D≠g.D)(q:Fz X d m)(w:l.length<=10^12)
 (t:∀r b,GI c d b r (l++[a])->GI e n b g k->r.D≠g.D->Fz X d b->K r b):jT (m.push (.cells (bz [.i a]) aB)) aB [.i 0] 8 s (.mk m.size 0 1 1) K:=by
 have u:=i.bq
 refine Gr.kY (g:=[.i 0]) uv.mono bn p q rfl V λr b o f z v=>t r b o (i.jG (v _ u.2 (kT j))) ?_ f
 rcases z.2 with h|h
 .rw[h];exact j
 .omega
def GI.any(h:GI c d m s l):GI e d m s l:=by
 let⟨b,a,f,g⟩:=h;exact⟨b,a,f,g.mono λ_ _ h=>h⟩
def fg(a v:Int):cZ:=⟨a,0,0,[v],[]⟩
abbrev GS(c:List Nat)(d m:E)(s:O)(l:List cZ):Prop:=Gr c d m gE 5 gK s l
def GS.new(c:List Nat)(m:E):GS c m (m.push (.cells (bz []) gE)) (.mk m.size 0 0 0) []:=Gr.new c (ad _) _ _ _
def GS.kY{c X:List Nat}{d m:E}{s a k:O}{l:List cZ}{x:cZ}{K:O->E->Prop}(h:GS c d m s l)(i:Fz X d m)(g:ap (bI (s.D::c) m) a x.args)(j:nT (bI (s.D::c) m) k x.bF)(n:l.length<=10^12)
 (f:∀r b,GS c d b r (l++[x])->Fz X d b->m.size<=b.size/\(r.D=s.D\/m.size<=r.D)->(∀e,e<m.size->e≠s.D->b[e]? =m[e]?)->K r b):
 jT (m.push (.cells (bz [.i x.op,.i x.bS,.i x.cg,.s a,.s k]) gE)) gE [.i 0,.i 0,.i 0,.s .nil,.s .nil] 72 s (.mk m.size 0 1 1) K:=
 Gr.kY (g:=[.i 0,.i 0,.i 0,.s .nil,.s .nil]) gK.mono bn h i ⟨a,k,rfl,g,j⟩ V f
def GS.all{c X:List Nat}{d m:E}{s x:O}{l e:List cZ}{K:O->E->Prop}(h:GS c d m s l)(g:Fz X d m)(i:eR (bI (s.D::c) m) x e)(j:l.length+e.length<=10^12)
 (f:∀r a,GS c d a r (l++e)->Fz X d a->m.size<=a.size/\(r.D=s.D\/m.size<=r.D)->(∀b,b<m.size->b≠s.D->a[b]? =m[b]?)->K r a):
 jT m gE [.i 0,.i 0,.i 0,.s .nil,.s .nil] 72 s x K:=
 Gr.all (g:=[.i 0,.i 0,.i 0,.s .nil,.s .nil]) gK.mono bn h g i V f
def mR{α:Type}(m:E)(a:Nat)(R:List Ce->α->Prop)(b o c:Nat):eV m a R (.mk b o 0 c) []:=⟨rfl,dQ _,aN,aN⟩
def jx(n:∀f∈c,f<m.size)(g v:Int):aO cp 196 [vi g,vi v] m λs d=>∃a k,s=pD (fg g v) a k/\ap (bI c d) a [v]/\nT (bI c d) k []/\J m d:=by
 apply CV;simp -zeta only[aD,aC];intro b e q r;have t:J m b:=J.push _ _;have u:J b e:=J.push _ _;have i:J e q:=J.push _ _;have w:b.size=m.size+1:=by simp[b]
 have p:J m r:=((t.trans u).trans i).ai (ad _) _ _;refine⟨_,_,rfl,?_,mR _ _ _ _ _ _,p⟩;have l:ap (bI (m.size::c) e) (.mk b.size 0 1 1) [v]:=ap.lit aB [v] (λj o=>by
  rcases List.mem_cons.1 o with h|h
  .omega
  .have:=n j h;omega) rfl rfl aN
 exact(l.le (i.dj _)).le (cD aZ λf h=>ah _ h)
def RH(f:Nat)(b:List Value)(m:E)(c:List Nat)(Q:List cZ->Prop):Prop:=aO cp f b m λv a=>∃s l,v=O.v s/\GS c m a s l/\Q l/\J m a
def RH.aJ{h:List Value}{l:List Nat}{Q:List cZ->Prop}(k:RH f h m c Q)(i:J a m)(q:∀e∈l,e<a.size)(p:∀s d b,GS c m b s d->Q d->J m b->J a b->K (O.v s) b):aO cp f h m λv b=>eF l m b/\K v b:=
 k.mono λ_ b⟨s,d,j,n,r,g⟩=>⟨g.dz λe o=>i.lt (q e o),j▸p s d b n r g (i.trans g)⟩
def fe(w:∀g∈c,g<m.size)(b:Int){p:O}(i:ap m p l)(B:l.length<=10^12):RH 227 [vi b,O.v p] m c (l.map (fg b)=·):=by
 apply AZ;intro E;have z:=i.len;refine eB (n:=l.length) (z▸i.gX) (λk s d=>J m d/\GS c m d s ((l.take k).map (fg b))) ⟨J.push m _,by simpa using GS.new c m⟩ ?_;rintro k s F I μ C ⟨e,d⟩ A
 refine dit (λh=>?_) λh=>?_
 .let⟨j,o⟩:=cL l k;refine⟨V,V,j,(i.ext e).aF o,?_⟩;refine(jx (c:=s.D::c) (λg y=>?_) b j).mono λN G⟨a,D,r,u,v,q⟩=>?_
  .have:=d.bq;rcases List.mem_cons.1 y with h|h
   .omega
   .exact e.lt (w g h)
  subst r;refine⟨_,_,_,_,_,rfl,?_⟩;intro H;refine GS.kY (x:=fg b j) (d.ext gK.mono q) ((e.trans q).fz []) u v bG λM K t f P L=>A V _ _ ⟨f.ext,?_⟩
  rw[aV o,fA];exact t
 .rw[bZ V]at d;exact⟨s,_,rfl,d,rfl,e⟩
def oP(a:Int):∀l:List Int,sw (l.map (fg a))=2*l.length
 |[]=>rfl
 |v::l=>by rw[cO,mW,oP a l,cZ.mJ];simp[fg];omega
def j9{a:Int}(h:14<=a):∀l:List Int,dc (l.map (fg a))=0
 |[]=>rfl
 |v::l=>by
  rw[cO,k8,j9 h l];unfold dn;rw[ae (λb:pG (fg a v).op=>by have:=b.2;simp only[fg]at this;omega)]
def Ee{e:List bB}{a:Nat}{c v:Int}(h:14<=c/\c<=17)(f:0<=v/\v<(a:Int)):WS e g True a (fg c v):=
 ⟨⟨Or.inr ⟨trivial,h⟩,λx d=>by simp[fg]at d;subst d;exact f,λ_=>rfl,by simp[fg],λb=>by simp only[fg]at b;omega,λb=>by simp only[fg]at b;omega,λb=>by simp only[fg]at b;omega⟩,λk d b=>by simp[fg]at b⟩
def sk{d:List bB}{a:Nat}{b:Int}(h:14<=b/\b<=17)(e:∀v∈l,0<=v/\v<(a:Int)):WL d g True a (l.map (fg b)):=λi s c=>by
 rw[cN,jO]at c;obtain⟨v,f,rfl⟩:=c;rw[<-Ou,j9 h.1];exact Ee h (e v (aq f))
def nK(f:Nat)(d:List Value)(m:E)(c:List Nat)(Q:Bk->Prop):Prop:=aO cp f d m λv a=>∃s b,v=.agg #[O.v s,vi b.aT]/\eR (bI c a) s b.aE/\Q b/\J m a
def nK.aJ{g:List Value}{l:List Nat}{Q:Bk->Prop}(k:nK f g m c Q)(h:J a m)(q:∀d∈l,d<a.size)(p:∀s d b,eR (bI c b) s d.aE->Q d->J m b->J a b->K (.agg #[O.v s,vi d.aT]) b):aO cp f g m λv b=>eF l m b/\K v b:=
 k.mono λ_ b⟨s,d,j,n,r,e⟩=>⟨e.dz λi o=>h.lt (q i o),j▸p s d b n r e (h.trans e)⟩
def KI(f:Nat)(d:List Value)(m:E)(c:List Nat)(Q:cZ->Prop):Prop:=aO cp f d m λv b=>∃a k x,v=pD x a k/\ap (bI c b) a x.args/\nT (bI c b) k x.bF/\Q x/\J m b
def KI.aJ{e:List Value}{l:List Nat}{Q:cZ->Prop}(j:KI f e m c Q)(g:J a m)(s:∀b∈l,b<a.size)(r:∀p k x b,ap (bI c b) p x.args->nT (bI c b) k x.bF->Q x->J m b->J a b->K (pD x p k) b):aO cp f e m λv b=>eF l m b/\K v b:=
 j.mono λ_ b⟨p,k,x,i,n,o,t,d⟩=>⟨d.dz λh q=>g.lt (s h q),i▸r p k x b n o t d (g.trans d)⟩
def bR{b:E}(e:∀a∈c,a<m.size)(i:m.size<=b.size){d:Nat}(g:d<b.size):∀a∈d::c,a<b.size:=λa f=>by
 rcases List.mem_cons.1 f with h|h
 .omega
 .have:=e a h;omega
structure ZQ(ds:List bB)(g:Nat)(v lo la:List Int)(b:Bk):Prop where
 aS:∀o∈lo,0<=o/\o<(v.length:Int)
 XU:lo.length+5*b.w<=500
 XT:la.length+1000*b.w<=1000000
 vN:v.length+5*b.w<=1000000
 wb:WB ds g False v.length b
def W0(a:List bB)(d:List gU)(b:Bk):Prop:=∀(c:List Nat)(m:E),(∀e∈c,e<m.size)->∀(g r k t j e:O)(v i h:List Int),eM m g r a d->ap m k v->eR m t b.aE->ap m j i->ap m e h->ZQ a d.length v i h b->
 nK 226 [.agg #[O.v g,O.v r],O.v k,.agg #[O.v t,vi b.aT],O.v j,O.v e] m c λf=>WB a d.length True v.length f/\f.w+1050<=1100*b.w
structure ZP(ds:List bB)(g:Nat)(v fl lo la:List Int)(b:Bk):Prop where
 aS:∀o∈lo,0<=o/\o<(v.length:Int)
 fl3:fl.length<=3
 XU:lo.length+3+5*b.w<=500
 XT:la.length+1000*b.w<=1000000
 vN:v.length+3+5*b.w<=1000000
 wb:WB ds g False (v.length+fl.length) b
def J2(hS:∀a∈c,a<m.size){ao G aV aH az bl a5:O}{ds:List bB}{rs:List gU}{P L lo la:List Int}{i:Bk}(hn:eM m ao G ds rs)(hv:ap m aV P)(hf:ap m aH L)(hs:eR m az i.aE)(u:ap m bl lo)(bd:ap m a5 la)
 (hp:ZP ds rs.length P L lo la i)(ih:W0 ds rs i):nK 292 [.agg #[O.v ao,O.v G],O.v aV,O.v aH,.agg #[O.v az,vi i.aT],O.v bl,O.v a5] m c λq=>WB ds rs.length True (P.length+L.length) q/\q.w<=1100*i.w:=by
 apply CT
 simp -zeta only[aD,aC]
 intro d p C
 let⟨w,t,s0,s1,s2⟩:=qF (a:=d) (b:=p) (c:=C) rfl rfl rfl
 clear_value C
 have b7:=hv.len;have bw:=hf.len;have bE:=u.len;have bT:=hp.fl3;have bQ:=i.HD;have bV:=hp.XU;have b6:=hp.vN;have bU:=hp.XT
 refine(eP (S:=[]) aN (hv.le (w.le.trans (Ap _))) (hf.le (w.le.trans (Ap _))) V).aJ (J.aA C) t λaL _ b_ gi g x3 _=>⟨_,rfl,?_⟩
 subst g
 refine(DS (S:=[]) aN (hs.le (w.trans x3).le) _ V).aJ x3 t λbK ul F hu b5 x4 H=>⟨_,rfl,?_⟩
 intro m5 m6
 have bg:ap F bK ul:=hu.le (bD _ _)
 have bq:J F m6:=(J.push F _).trans (J.push m5 _)
 have u6:=H.trans bq
 have s5:m5.size=F.size+1:=by simp[m5]
 have gm:GI c F m6 (.mk F.size 0 0 0) []:=(GI.nil c F).ext (J.push m5 _)
 have gd:GI c F m6 (.mk m5.size 0 0 0) []:=(GI.nil c m5).cA (λ_ r=>r) V
 clear_value m6
 have z4:=H.size
 refine xt (n:=lo.length) (bE▸u.gX) (λae h sd M=>J F M/\∃U I,GI c F M h U/\GI c F M sd I/\h.D≠sd.D/\(∀o∈U,o∈lo)/\(∀o∈I,o∈lo)/\U.length<=ae/\I.length<=ae) ⟨bq,[],[],gm,gd,bG,aN,aN,ad _,ad _⟩ ?_
 rintro ae h sd m7 br μ hk ⟨x7,U,I,gm,gd,be,a1,a0,cm,cd⟩ bk
 have u7:=H.trans x7
 have v7:=w.trans u7
 refine dit (λr=>?_) λr=>?_
 .let⟨j,hy⟩:=cL lo ae
  have B:=aq hy
  have A:∀M,J m7 M->jT (M.push (.cells (bz [.i j]) aB)) aB [.i 0] 8 h (.mk M.size 0 1 1) λN m'=>eF [p.size,d.size,m.size] (M.push (.cells (bz [.i j]) aB)) m'/\br N sd (cG ((ae:Int)+1)) m'/\μ N sd (cG ((ae:Int)+1)) m'<μ h sd ae m7:=λM aa=>
   GI.SE (gm.ext aa) (gd.ext aa) be ((x7.trans aa).fz []) V λG m' z g' k f=>⟨J.oV ((u7.trans aa).aL _) (H.trans f.ext) t,bk V _ _ _ ⟨f.ext,_,_,z,g',k,pv a1 B,a0,bG,V⟩⟩
  refine⟨V,V,j,(u.ext v7).aF hy,?_⟩
  refine(dA (bg.ext x7) j).any.aJ u7 t λa m8 v b=>⟨_,rfl,λ_=>⟨V,V,j,(u.ext (w.trans b)).aF hy,A m8 v⟩,λ_=>⟨V,V,j,(u.ext (w.trans b)).aF hy,?_⟩⟩
  refine(dA (bd.ext (w.trans b)) j).any.aJ b t λa y Q u9=>⟨_,rfl,λ_=>⟨V,V,j,(u.ext (w.trans u9)).aF hy,A y (v.trans Q)⟩,λ_=>⟨V,V,j,(u.ext (w.trans u9)).aF hy,?_⟩⟩
  intro a6
  have aa:=v.trans Q
  exact GI.SE (gd.ext aa) (gm.ext aa) be.symm ((x7.trans aa).fz []) V λG m' z g' k f=>⟨J.oV ((u7.trans aa).aL _) (H.trans f.ext) t,bk V _ _ _ ⟨f.ext,_,_,g',z,k.symm,a1,pv a0 B,V,bG⟩⟩
 have cm:U.length<=lo.length:=V
 have cd:I.length<=lo.length:=V
 intro m8
 have bY:=gm.bq
 have bS:=gd.bq
 refine eB (n:=L.length) (bw▸hf.gX) (λae s M=>J m7 M/\∃l,GI c m7 M s l/\(∀o∈l,0<=o/\o<((P.length+L.length:Nat):Int))/\l.length<=ae) ⟨J.push _ _,[],GI.nil c m7,aN,ad _⟩ ?_
 rintro bh su y I2 μ2 hj ⟨Q,A,gu,ar,cu⟩ a8
 have u9:=u7.trans Q
 have v9:=w.trans u9
 refine dit (λh2=>?_) λh2=>?_
 .let⟨j,hy⟩:=cL L bh
  refine⟨V,V,j,(hf.ext v9).aF hy,λ_=>?_,λ_=>a8 V _ _ ⟨Q,A,gu,ar,V⟩⟩
  rw[aR (b:=(aV.len:Int)+bh) V V]
  refine(dA ((bg.ext x7).ext Q) _).any.aJ u9 t λa a6 ak aU=>⟨_,rfl,λ_=>?_,λ_=>a8 V _ _ ⟨Q.trans ak,A,gu.ext ak,ar,V⟩⟩
  intro bi
  refine GI.kY (gu.ext ak) ((Q.trans ak).fz []) (λa b=>aP (hS a b) (w.trans u7).size) V λG m' z f am Z=>⟨J.oV ((u9.trans ak).aL _) (u7.trans f.ext) t,a8 V _ _ ⟨f.ext,_,z,λo u=>?_,bG⟩⟩
  rcases List.mem_append.1 u with u|u
  .exact ar o u
  .simp at u;omega
 have b4:=gu.bq
 have aZ:=gm.ext Q
 have bu:∀{M:E},J C M->∀a∈p.size::c,a<M.size:=λr=>bR hS (w.trans r).size (r.lt (t _ aN))
 have aK:∀{M:E},J C M->h.D<M.size->∀a∈h.D::p.size::c,a<M.size:=λr T a b=>by
  rcases List.mem_cons.1 b with g|g
  .omega
  .exact bu r a g
 refine(fe (c:=h.D::p.size::c) (aK u9 aZ.bq.2) 14 ((gu.done (S:=c) (λa b=>aP (hS a b) (w.trans u7).size) V).le (bD _ _)) V).aJ u9 t λs1 _ a6 g1 g ak aU=>⟨_,rfl,?_⟩
 subst g
 have a3:h.D<a6.size:=ak.lt aZ.bq.2
 refine(fe (c:=s1.D::h.D::p.size::c) (λa b=>?_) 15 ((((gd.done (S:=c) (λa b=>aP (hS a b) (w.trans H).size) V).le (bD _ _)).ext Q).ext ak) V).aJ aU t λs2 _ bi g2 g aW bJ=>⟨_,rfl,?_⟩
 .rcases List.mem_cons.1 b with g|g
  .have:=g1.bq;omega
  .exact aK aU a3 a g
 subst g
 have bX:h.D<bi.size:=aW.lt a3
 have b0:=(g1.ext gK.mono aW).bq
 have e2:=g2.nV gK.mono (λb=>by
  have hy:=g2.bq;rcases List.mem_cons.1 b with g|g
  .have:=g1.bq;omega
  .have:=aK aU a3 _ g;omega) bn bG
 refine GS.all (g1.ext gK.mono aW) ((ak.trans aW).fz []) e2 bG λB N g3 f3 z3 q3=>⟨J.oV bJ (u9.trans f3.ext) t,?_⟩
 have al:J y N:=f3.ext
 have aA:=u9.trans al
 have cb:=w.trans aA
 have Nj:WL ds rs.length True (P.length+L.length) (A.map (fg 14)++I.map (fg 15)):=by
  refine(sk V ar).append ?_;rw[j9 V];refine sk V λo u=>?_;have:=hp.aS o (a0 o u);omega
 have bo:dc (A.map (fg 14)++I.map (fg 15))=0:=by rw[da,j9 V,j9 V]
 have ca:sw (A.map (fg 14)++I.map (fg 15))<=1006:=by rw[dH,oP,oP];omega
 have bb:GI c F N h U:=(gm.ext Q).ext al
 have bC:B.D≠h.D:=g3.LG bb bn
 have aG:∀{M j:E},J C M->J C j->∀i∈[p.size,d.size,m.size],∀o,af j i o=af M i o:=λr h' i T o=>aI (by rw[h'.same i (t i T),r.same i (t i T)]) o
 have E4:∀{M j:E},J C M->J C j->∀{av:Prop},av->af j d.size 0=af M d.size 0/\af j d.size 1=af M d.size 1/\af j m.size 0=af M m.size 0/\af j m.size 1=af M m.size 1/\av:=λr h' _ hp=>⟨aG r h' _ aN _,aG r h' _ aN _,aG r h' _ aN _,aG r h' _ aN _,hp⟩
 have F4:∀{M:E},Fz [h.D] y M->J F M:=λr=>Fz.ext ((((x7.trans Q).fz [h.D]).trans r).DW λi T=>Or.inr (by simp at T;omega))
 have b3:h.D<y.size:=aZ.bq.2
 have z3:=x3.size
 have tail:∀(M:E)(k:Nat)(ss:O)(q:Bk),GS (k::h.D::p.size::c) y M B (A.map (fg 14)++I.map (fg 15))->Fz [h.D] y M->y.size<=k->k<M.size->k≠B.D->eR (bI (k::B.D::h.D::p.size::c) M) ss q.aE->WB ds rs.length True (P.length+L.length) q/\q.w+1050<=1100*i.w->
  let R:E:=ai M k 0 [.s ss,.i q.aT]
  jT R gE [.i 0,.i 0,.i 0,.s .nil,.s .nil] 72 B ss λay M2=>eF [k,p.size,d.size,m.size] R M2/\af M2 k 1=af R k 1/\
   let M3:E:=ai M2 p.size 0 [.s ay,.i q.aT]
   ∃s ab,Value.agg #[O.v ay,vi q.aT]=.agg #[O.v s,vi ab.aT]/\eR (bI c M3) s ab.aE/\(WB ds rs.length True (P.length+L.length) ab/\ab.w<=1100*i.w)/\J m M3:=by
  intro M k ss q z ac bv bO bf au a4 R
  have cc:R.size=M.size:=ax _ _ _ _
  have hy:=z.bq
  have bF:eR (bI (B.D::h.D::p.size::c) R) ss q.aE:=au.le (cD aN λa b=>ah _ b)
  have bP:=Bk.mJ q
  have b1:=gB q.aE
  have hF:=F4 ac
  have zF:=hF.size
  have z9:=ac.size
  have g1:GS (h.D::p.size::c) y R B _:=z.re gK.mono (Y:=[k]) ((Fz.aA [k] M).ai (Or.inl aN) _ _) aN (by simpa using kT bf) λa b=>Or.inl (ah _ b)
  have f1:Fz [h.D] y R:=ac.ai (Or.inr bv) _ _
  have hw:=a4.2
  refine GS.all g1 f1 bF bG λG M2 g2 f am Z=>⟨λa b=>?_,aI (Z k V bf) _,?_⟩
  .simp at b
   refine Z a ?_ ?_<;>rcases b with rfl|rfl|rfl|rfl<;>omega
  intro M3
  have bL:J m M2:=Fz.ext (((v9.fz [h.D]).trans f).DW λi T=>Or.inr (by simp at T;omega))
  have b8:=g2.bq
  have h5:=g2.nV gK.mono (λb=>by
   rcases List.mem_cons.1 b with g|g
   .omega
   .rcases List.mem_cons.1 g with g|g
    .omega
    .have:=hS _ g;omega) bn bG
  refine⟨G,.mk _ q.aT,rfl,eR.le (cD aN λa b=>ah _ (ah _ b)) h5,⟨WB.of (Nj.append ?_) ?_,?_⟩,bL.ai V _ _⟩
  .rw[bo];exact a4.1.aU.1
  .rw[da,bo,bW];exact a4.1.aU.2
  .rw[Bk.qW,dH];omega
 have aS:∀(M:E)(e:List Nat)(K:O->E->Prop),J N M->GS e y M B (A.map (fg 14)++I.map (fg 15))->h.D∈e->(∀G j,GI c F j G (U++A)->GS e y j B (A.map (fg 14)++I.map (fg 15))->Fz [h.D] y j->M.size<=j.size->(∀i,i<M.size->i≠h.D->j[i]? =M[i]?)->K G j)->jT M aB [.i 0] 8 h su K:=by
  intro M e K hx z bA hK;have bH:ap (bI (h.D::c) M) su A:=by
   refine ap.le ((al.trans hx).dj _) (Gr.nV (S:=h.D::c) uv.mono gu.any (λb=>?_) bn V);rcases List.mem_cons.1 b with g|g
   .omega
   .have:=hS _ g;have:=w.size;omega
  exact GI.all (bb.ext hx) ((((x7.trans Q).trans al).trans hx).fz []) (λa b=>aP (hS a b) (w.trans H).size) bH V λG j g' f am Z=>hK G j g' (z.NV gK.mono (Y:=[h.D]) ⟨am.1,λi T hn=>Z i T (by simpa using hn)⟩ (by simpa using bA) (by simpa using bC)) (((al.trans hx).fz [h.D]).trans ⟨am.1,λi T hn=>Z i T (by simpa using hn)⟩) am.1 Z
 have D:∀(M:E)(e:List Nat)(mn ag:O)(v:List Int),(∀a∈e,a<M.size)->Fz [h.D] y M->ap M mn (U++A)->ap M ag v->pI la v->nK 226 [.agg #[O.v ao,O.v G],O.v aL,.agg #[O.v az,vi i.aT],O.v mn,O.v ag] M e λq=>WB ds rs.length True (P.length+L.length) q/\q.w+1050<=1100*i.w:=by
  intro M e mn ag v bt ac h1 h2 h3;have hF:=F4 ac;have hm:=(w.trans H).trans hF;have bx:ap M aL (P++L):=(((gi.done aN bG).le (bD _ _)).ext x4).ext hF;have:=ih e M bt ao G aL az mn ag (P++L) (U++A) v (hn.le hm.le) bx (hs.le hm.le) h1 h2 ⟨λo u=>?_,bG,oh h3.2,bG,by simpa using hp.wb⟩
  .simpa using this
  .simp;rcases List.mem_append.1 u with u|u
   .have:=hp.aS o (a1 o u);omega
   .have:=ar o u;omega
 have b9:=al.size
 have b2:h.D<N.size:=V
 have bZ:B.D<N.size:=g3.bq.2
 have bc:∀{M:E},J C M->N.size<=M.size->∀a∈B.D::h.D::p.size::c,a<M.size:=λr hz a b=>by
  rcases List.mem_cons.1 b with g|g
  .omega
  .exact aK r V a g
 have iS:∀(M:E)(k:Nat)(mn ag:O)(v:List Int),GS (k::h.D::p.size::c) y M B (A.map (fg 14)++I.map (fg 15))->Fz [h.D] y M->N.size<=k->k<M.size->ap M mn (U++A)->ap M ag v->pI la v->
  aO cp 226 [.agg #[O.v ao,O.v G],O.v aL,.agg #[O.v az,vi i.aT],O.v mn,O.v ag] M λrv j=>eF [k,p.size,d.size,m.size] M j/\∃a9:O,∃aT:Int,rv=.agg #[O.v a9,vi aT]/\
   let R:E:=ai j k 0 [.s a9,.i aT]
   jT R gE [.i 0,.i 0,.i 0,.s .nil,.s .nil] 72 B a9 λay M2=>eF [k,p.size,d.size,m.size] R M2/\af M2 k 1=af R k 1/\
    let M3:E:=ai M2 p.size 0 [.s ay,.i aT]
    ∃s ab,Value.agg #[O.v ay,vi aT]=.agg #[O.v s,vi ab.aT]/\eR (bI c M3) s ab.aE/\(WB ds rs.length True (P.length+L.length) ab/\ab.w<=1100*i.w)/\J m M3:=by
  intro M k mn ag v z ac h1 h2 h3 h4 h5
  have hM:J C M:=H.trans (F4 ac)
  refine(D M (k::B.D::h.D::p.size::c) mn ag v (λa b=>?_) ac h3 h4 h5).aJ (J.aA M) (λa b=>?_) λss q j au hq hx _=>⟨_,_,rfl,tail j k ss q (z.ext gK.mono hx) (ac.then hx) V (hx.lt h2) V au hq⟩
  .rcases List.mem_cons.1 b with g|g
   .omega
   .exact bc hM V a g
  .rcases List.mem_cons.1 b with g|g
   .omega
   .exact hM.lt (t a g)
 have aQ:∀(M:E)(o:Obj),GS (h.D::p.size::c) y M B (A.map (fg 14)++I.map (fg 15))->GS (M.size::h.D::p.size::c) y (M.push o) B (A.map (fg 14)++I.map (fg 15)):=λM o z=>
  z.re gK.mono (Y:=[]) ((J.push M o).fz []) aN aN λa b=>by
   rcases List.mem_cons.1 b with g|g
   .exact Or.inr V
   .exact Or.inl g
 have bN:Fz [h.D] y N:=al.fz _
 have aY:∀(M:E)(aX:List Nat)(K:Value->E->Prop),J C M->(∀a∈aX,a<M.size)->(∀s v j,ap j s v->pI la v->J M j->K (O.v s) j)->aO cp 307 [O.v a5,vi (aV.len:Int)] M λP m'=>eF aX M m'/\K P m':=λM aX K hM hL hK=>
  (Pe (S:=[]) aN (bd.le ((w.trans hM).le.trans (Ap _))) _ V).aJ (J.aA M) hL λs v j z av aa _=>hK s v j ((z.done aN (oh av.2)).le (bD _ _)) av aa
 have aJ:∀{M:E}{s:O},GI c F M s (U++A)->ap M s (U++A):=λz=>(z.done (λa b=>aP (hS a b) (w.trans H).size) bG).le (bD _ _)
 have a2:∀{M:E}{k:Nat},J C M->k<M.size->∀a∈[k,p.size,d.size,m.size],a<M.size:=λr T a b=>by
  rcases List.mem_cons.1 b with g|g
  .omega
  .exact r.lt (t a g)
 refine⟨aS N _ _ (J.aA _) g3 aN λaw aM ga gs X am Z=>⟨λa b=>Z a (aA.lt (t a b)) (oh (t a b)),E4 aA (H.trans (F4 X)) ⟨?_,?_⟩⟩,?_⟩
 .have aj:=H.trans (F4 X)
  refine aY aM _ _ aj (λa b=>aj.lt (t a b)) λan v aF ba bm W=>⟨_,rfl,E4 aj (aj.trans W) ⟨?_,?_⟩⟩
  .have aE:=aj.trans W
   have bM:=W.size
   refine(D aF (B.D::h.D::p.size::c) aw an v (bc aE V) (X.then W) ((aJ ga).ext W) ba bm).aJ aE t λss q a7 au hq a_ bp=>⟨_,_,rfl,?_⟩
   intro bj
   have ce:=a_.size
   have bs:=(X.then W).then a_
   exact E4 bp (bp.aL _) (tail bj a7.size ss q (aQ a7 _ ((gs.ext gK.mono W).ext gK.mono a_)) (bs.push _) V (by simp[bj]) V (au.le (tC (J.push a7 _) (ad _))) hq)
  .intro a7
   have bM:=W.size
   have aE:=aj.trans W
   exact E4 aE (aE.aL _) (iS a7 aF.size aw an v (aQ aF _ (gs.ext gK.mono W)) ((X.then W).push _) V (by simp[a7]) (((aJ ga).ext W).ext (J.push _ _)) (ba.ext (J.push _ _)) bm)
 .intro W
  have aj:=H.trans (F4 X)
  have aE:J C W:=aj.aL _
  have a7:J aM W:=J.push _ _
  refine E4 aj aE (aY W _ _ aE (a2 aE (by simp[W])) λan v ba a_ bj aF=>⟨_,rfl,E4 aE (aE.trans aF) ?_⟩)
  exact iS ba aM.size aw an v ((aQ aM _ gs).ext gK.mono aF) ((X.then a7).then aF) V (aF.lt (by simp[W])) (((aJ ga).ext a7).ext aF) a_ bj
 .intro W
  have aF:J C W:=aA.aL _
  have bm:J N W:=J.push _ _
  refine E4 aA aF (aS W _ _ bm (aQ N _ g3) aN λaw a_ ga gs X am Z=>⟨λa b=>Z a (a2 aF (by simp[W]) a b) ?_,E4 aF (H.trans (F4 X)) ?_⟩)
  .rcases List.mem_cons.1 b with g|g
   .omega
   .have:=t a g;omega
  have aE:=H.trans (F4 X)
  have bp:W.size=N.size+1:=by simp[W]
  refine aY a_ _ _ aE (a2 aE V) λan v ba a7 bj aj=>⟨_,rfl,E4 aE (aE.trans aj) ?_⟩
  exact iS ba N.size aw an v (gs.ext gK.mono aj) (X.then aj) (ad _) (aj.lt V) ((aJ ga).ext aj) a7 bj
end
section
variable{c m:E}{k i g a:Nat}{s:O}{d:List Nat}{e:List Int}{x:cZ}{f:List gU}
def V7{a b:E}(h:J a c)(f:Fz [k] c b)(g:a.size<=k):J a b:=Fz.ext (((h.fz [k]).trans f).DW λe d=>Or.inr (by simp at d;omega))
def _root_.Go.Vc.Fz.OU{M b:E}(f:Fz [k] c M)(h:s.D=k\/c.size<=s.D)(g:M.size<=b.size)(q:∀a,a<M.size->a≠s.D->b[a]? =M[a]?):Fz [k] c b:=
 f.sG ⟨g,λa d e=>q a d (by simpa using e)⟩ (Y:=[s.D]) (λy d=>by simp at d⊢;omega)
def GI.Z1{X:List Nat}{b:E}{x:O}{f:List Int}{K:O->E->Prop}(h:GI d b m s e)(k:Fz X b m)(n:ap m x f)(p:e.length+f.length<=10^12)
 (l:∀r a,GI d b a r (e++f)->Fz X b a->(m.size<=a.size/\(r.D=s.D\/m.size<=r.D))->(∀c,c<m.size->c≠s.D->a[c]? =m[c]?)->K r a):jT m aB [.i 0] 8 s x K:=by
 let⟨o,g,i,j⟩:=n.Wk (b:=1) λ_ _ h=>by rw[h];rfl
 exact Gr.next (g:=[.i 0]) uv.mono bn h k g i j V l
def bQ(d:List Nat){b:O}(h:ap m b e)(c:e.length<=10^12):lE 37 [O.v b] m d (e=·):=by
 apply nO;intro i;have a:J m i:=J.push m _;exact GI.Z1 (e:=[]) (X:=[]) (GI.nil d m) (a.fz []) (h.ext a) (by simpa using c) λr j g f _ _=>⟨r,e,rfl,by simpa using g,rfl,f.ext⟩
abbrev GB(d:List Nat)(a m:E)(s:O)(e:List Bk):Prop:=Gr d a m dp 2 rZ s e
def GB.new(d:List Nat)(m:E):GB d m (m.push (.cells (bz []) dp)) (.mk m.size 0 0 0) []:=Gr.new d (ad _) _ _ _
def GB.kY{d X:List Nat}{g m:E}{s a:O}{e:List Bk}{c:Bk}{K:O->E->Prop}(h:GB d g m s e)(k:Fz X g m)(j:eR (bI (s.D::d) m) a c.aE)(l:e.length<=10^12)
 (i:∀r b,GB d g b r (e++[c])->Fz X g b->m.size<=b.size/\(r.D=s.D\/m.size<=r.D)->(∀f,f<m.size->f≠s.D->b[f]? =m[f]?)->K r b):
 jT (m.push (.cells (bz [.s a,.i c.aT]) dp)) dp [.s .nil,.i 0] 32 s (.mk m.size 0 1 1) K:=
 Gr.kY (g:=[.s .nil,.i 0]) rZ.mono bn h k (by cases c;exact rZ.of j) V i
def KP{a:List bB}{b bS:Int}{y:Int}(h:b=8)(c:(cB a bS)[i]? =some y):Ch a b bS i=(cJ a y).length:=by unfold Ch;rw[ao h,c];rfl
def KQ{b:List bB}{a bS:Int}(h:a≠8):Ch b a bS i=0:=by unfold Ch;rw[ae h]
def _root_.Go.Vc.WS.P9{b:List bB}{f d:Prop}(h:WS b g f a x)(j:f->d){cg:Int}(l:0<=cg/\cg<=(a:Int)){bF:List Bk}(i:bF.length=x.bF.length)(m:∀(k:Nat)(c:Bk),bF[k]? =some c->WB b g d (a+Ch b x.op x.bS k) c):WS b g d a ⟨x.op,x.bS,cg,x.args,bF⟩:=
 ⟨⟨h.fj.op.imp id λh=>⟨j h.1,h.2⟩,h.fj.args,h.fj.lY,l,λe=>i.trans (h.fj.Kw e),λe=>i▸h.fj.all e,h.fj.call⟩,m⟩
def IJ(hS:∀g∈d,g<m.size){Y U ae a k ac ab:O}{r:List bB}{G lo la:List Int}(D:eM m Y U r f)(hv:ap m ae G)(ha:ap m a x.args)(R:nT m k x.bF)(ho:ap m ac lo)(aA:ap m ab la)
 (aB:∀o∈lo,0<=o/\o<(G.length:Int))(XU:lo.length+5*x.w<=500)(XT:la.length+1000*x.w<=1000000)(vN:G.length+5*x.w<=1000000)(aa:WS r f.length False G.length x)(ih:∀c∈x.bF,W0 r f c):
 KI 263 [.agg #[O.v Y,O.v U],O.v ae,pD x a k,O.v ac,O.v ab] m d λy=>WS r f.length True G.length y/\y.op=x.op/\y.w<=1+x.args.length+1100*bw x.bF:=by
 apply AY
 simp -zeta only[aD,aC]
 intro m0 o p ak
 let⟨q,u,s0,s1,s2⟩:=qF (a:=m0) (b:=o) (c:=p) rfl rfl rfl
 have ao:J p ak:=J.push _ _
 have gk:=GB.new (o.size::d) p
 clear_value p
 have aJ:=ha.len;have ay:=R.len;have hw:=cZ.mJ x;have aQ:=KV x.bF
 refine(iH (e:=[p.size]) (by simp[ak]) (D.le (q.trans ao).le).br D.types x.bS).aJ ao u λg cl m4 t F x4 u4=>⟨_,rfl,?_⟩
 subst F
 have aR:=t.len
 refine eB (n:=x.bF.length) (ay▸R.gX) (λj s M=>Fz [p.size] m4 M/\(s.D=p.size\/m4.size<=s.D)/\∃e,GB (o.size::d) p M s e/\e.length=j/\(∀(i:Nat)(c:Bk),e[i]? =some c->WB r f.length True (G.length+Ch r x.op x.bS i) c)/\bw e<=1100*bw (x.bF.take j)) ⟨Fz.aA _ _,Or.inl rfl,[],gk.ext rZ.mono x4,rfl,aN,aN⟩ ?_
 rintro j s T au μ hj ⟨N,aE,e,Q,aT,ag,ax⟩ aH
 have h:=V7 u4 N (ad _)
 have hy:=Q.bq
 refine dit (λz=>?_) λz=>?_
 .intro m6
  have l:J T m6:=J.push _ _
  let⟨c,C⟩:=cL x.bF j
  have aL:=xk C
  have aM:=uP C
  have av:∀{M:E},J T M->∀g∈s.D::o.size::d,g<M.size:=λz=>bR (bR hS q.size (u _ aN)) (h.trans z).size (oh z.size)
  have iS:∀(M:E)(H:O)(P:List Int)(w:O),J T M->ap M H P->P.length=Ch r x.op x.bS j->eR M w c.aE->
   aO cp 292 [.agg #[O.v Y,O.v U],O.v ae,O.v H,.agg #[O.v w,vi c.aT],O.v ac,O.v ab] M λrv K=>eF [o.size,m0.size,m.size] M K/\∃am:O,∃an:Int,rv=.agg #[O.v am,vi an]/\
    let M1:E:=K.push (.cells (bz [.s am,.i an]) dp)
    jT M1 dp [.s O.nil,.i (0:Int)] 32 s (O.mk K.size 0 1 1) λal L=>eF [o.size,m0.size,m.size] M1 L/\au al (cG ((j:Int)+(1:Int))) L/\μ al (cG ((j:Int)+(1:Int))) L<μ s j T:=by
   intro M H P w B hf af I
   have X:=q.trans (h.trans B)
   have b3:=QX D.types x.op x.bS j
   refine(J2 (c:=s.D::o.size::d) (av B) (D.le X.le) (hv.ext X) hf I (ho.ext X) (aA.ext X) ⟨aB,V,V,V,V,af▸aa.bF j c C⟩ (ih c (aq C))).aJ (h.trans B) u λss b' K aF F y u'=>⟨_,_,rfl,?_⟩
   refine GB.kY (c:=b') (Q.ext rZ.mono (B.trans y)) (u'.fz []) aF (oh (qG x.bF)) λU L g2 f2 z2 q2=>⟨J.oV (u'.aL _) f2.ext u,aH V _ _ ⟨(N.then (B.trans y)).OU aE z2.1 q2,?_,_,g2,bG,λi b2 v=>?_,?_⟩⟩
   .have A:=(N.then (B.trans y)).size
    rcases z2.2 with Z|Z<;>omega
   .rcases aX i e.length with A|A
    .rw[az A]at v;exact ag i b2 v
    .rw[aK A]at v
     have:i -e.length=0:=by have:=aw v;simp at this;omega
     rw[this]at v;simp at v;subst v
     have:i=j:=V
     subst this
     rw[<-af];exact F.1
   .rw[pp,uO,zT]
    have:=F.2;omega
  refine⟨λA=>?_,λA=>?_⟩
  .simp only[aG]at A
   have aS:=(aa.fj.all A).1
   let⟨ar,ai⟩:=cL (cB r x.bS) j
   refine⟨V,V,ar,(eS.1 ((t.le ((N.then l).dj aN)).aF ai)).2,?_⟩
   have W:=h.trans l
   refine(dN (e:=[]) aN ((D.le (q.trans W).le).br.le (Ap _)) D.types ar).aJ W u λH P m7 hf F x7 u7=>⟨_,rfl,?_⟩
   subst F
   let⟨w,I,e0,e1⟩:=(R.le (q.trans u7).le).aF C
   exact⟨V,V,_,e0,_,e1,iS m7 H _ w (l.trans x7) (hf.le (bD _ _)) (KP A ai).symm I⟩
  .simp only[aj]at A
   let⟨w,I,e0,e1⟩:=(R.le (q.trans (h.trans l)).le).aF C
   exact⟨V,V,_,e0,_,e1,iS m6 _ [] w l (mR _ _ _ _ _ _) (KQ A).symm I⟩
 .have A:e.length=x.bF.length:=V
  rw[bZ V]at ax
  refine(bQ (o.size::d) (ha.ext (q.trans h)) V).aJ h u λB H m6 w Z l W=>⟨_,rfl,aI (l.same _ (h.lt (u _ aN))) _,aI (l.same _ (h.lt (u _ aN))) _,?_⟩
  subst Z
  intro m7
  have C:=(Q.ext rZ.mono l).bq
  have v:∀g∈o.size::d,g<p.size:=bR hS q.size V
  refine⟨B,s,⟨x.op,x.bS,0,x.args,e⟩,rfl,(w.done (λg t=>aP (v g t) h.size) V).le (cD aN λg t=>ah _ t),nT.le (cD aN λg t=>ah _ t) ((Q.ext rZ.mono l).done rZ.mono v bn (by have:=qG x.bF;show e.length<=_;omega)),⟨aa.P9 (λz=>z.elim) ⟨V,V⟩ A ag,rfl,?_⟩,(q.trans W).ai V _ _⟩
  rw[cZ.mJ]
  simp only
  omega
def _root_.Go.Vc.R9{σ τ ρ:Type}{n:Nat}(u:n<=9223372036854775807){j:σ}{l:τ}{h:ρ}{g:(σ->τ->ρ->Int->E->Prop)->(σ->τ->ρ->Int->E->Nat)->σ->τ->ρ->Int->E->Prop}(Q:Nat->σ->τ->ρ->E->Prop)(p:Q 0 j l h m)
 (o:∀(k:Nat)(s:σ)(t:τ)(r:ρ)(a:E)(I:σ->τ->ρ->Int->E->Prop)(μ:σ->τ->ρ->Int->E->Nat),k<=n->Q k s t r a->
  (k<n->∀d e c b,Q (k+1) d e c b->I d e c (cG ((k:Int)+1)) b/\μ d e c (cG ((k:Int)+1)) b<μ s t r k a)->g I μ s t r k a):
 ∃(I:σ->τ->ρ->Int->E->Prop)(μ:σ->τ->ρ->Int->E->Nat),I j l h 0 m/\∀s t r i a,I s t r i a->g I μ s t r i a:=by
 refine⟨λs t r i b=>∃k:Nat,i=k/\k<=n/\Q k s t r b,λ_ _ _ i _=>(n -i).toNat,⟨0,rfl,dQ _,p⟩,?_⟩
 rintro s t r i a ⟨k,rfl,q,v⟩
 refine o k s t r a _ _ q v λf d e c b w=>?_
 rw[kQ f u]
 exact⟨⟨k+1,rfl,f,w⟩,DM f⟩
structure CB(ds:List bB)(g:Nat)(d:List Nat)(m2 M:E)(v lo:List Int)(aE:List cZ)(k:Nat)(st inn mn:O):Prop where
 x:J m2 M
 hs:∃e,GS (inn.D::mn.D::d) m2 M st e/\WL ds g True v.length e/\dc e=dc (aE.take k)/\sw e<=1100*sw (aE.take k)
 hi:∃e,GI d m2 M inn e/\e.length=v.length+dc (aE.take k)
 hm:∃e,GI d m2 M mn e/\e.length<=lo.length+k/\∀o∈e,0<=o/\o<((v.length+dc (aE.take k):Nat):Int)
 ne:inn.D≠mn.D
def Z5{b:List bB}(h:WS b g False a x):dn x=1:=ao (h.fj.op.resolve_right λh=>h.1)
def GU{U:List bB}:∀c:Bk,W0 U f c:=by
 refine Bk.ind ?_;intro aE v ih d m hS b8 cX dQ c0 dM c4 aj lo la hn hv hs A bN hp;have bf:=hp.wb.aU;simp only[Bk.j8,Bk.jE]at*;have XU:=hp.XU;have XT:=hp.XT;have vN:=hp.vN;rw[(Bk.qW aE v)]at XU XT vN;apply y9;simp -zeta only[aD,aC];intro m0 o q aI;let⟨F,N,s0,s1,s2⟩:=qF (a:=m0) (b:=o) (c:=q) rfl rfl rfl;have bo:J q aI:=J.push _ _;have bK:∀am,GS am q aI (.mk q.size 0 0 0) []:=λam=>GS.new am q;have s3:aI.size=q.size+1:=by simp[aI]
 clear_value aI;clear_value q;have bS:=hs.len;have cJ:=BV aE;have ds:=gB aE;refine(bQ d (hv.ext (F.trans bo)) V).aJ bo N λl _ m4 G p x4 u4=>⟨_,rfl,?_⟩;subst p;refine(bQ d (A.ext (F.trans u4)) V).aJ u4 N λu _ m5 W p x5 u5=>⟨_,rfl,?_⟩;subst p;have bT:=G.bq;have bU:=W.bq;refine R9 (n:=aE.length) (bS▸hs.gX) (λk z l u g=>CB U f.length (o.size::d) q g aj lo aE k z l u) ⟨u5,⟨[],((bK _).ext gK.mono x4).ext gK.mono x5,WL.nil _ _ _ _,rfl,aN⟩,⟨aj,((G.ext x5).cA (λ_ h=>h) bo.size).any,aN⟩,⟨lo,(W.cA (λ_ h=>h) u4.size).any,V,by simpa using hp.aS⟩,V⟩ ?_;clear G W bT bU bK;rintro k z l u B bq μ hk ⟨x6,⟨R,gs,aX,Z,dt⟩,⟨li,G,aT⟩,⟨lm,W,c_,bO⟩,dm⟩ a3
 have v6:=F.trans x6;have dg:=G.len bn;have dd:=tz (aE.take k);have dj:=qY k aE;have L:∀j∈o.size::d,j<q.size:=bR hS F.size (N _ aN);have cv:ap B l li:=(G.done L V).le (bD _ _);have cx:ap B u lm:=(W.done L V).le (bD _ _);have dG:=gs.bq;have bT:=G.bq;have bU:=W.bq;have cI:=gB (aE.take k);have dh:k<=sw (aE.take k):=by rw[gQ]at cI;omega
 refine dit (λh=>?_) λh=>?_
 .let⟨x,r⟩:=cL aE k;let⟨a,kk,ha,bM,g0,g1,g2,g3,g4⟩:=hs.aF r;refine⟨V,V,_,v6.af g0,_,v6.af g1,_,v6.af g2,_,v6.af g3,_,v6.af g4,?_⟩;intro m7 C;have x8:J B C:=(J.push B _).ai (ad _) _ _;have s8:C.size=B.size+1:=by simp[C,m7,ax]
  clear_value C;have T:=x6.trans x8;have z6:=x6.size;have t:∀{g:E},C.size<=g.size->∀c∈[B.size,o.size,m0.size,m.size],c<g.size:=λh c hb=>by
   rcases List.mem_cons.1 hb with p|p
   .omega
   .have:=T.lt (N c p);omega
  have dz:=qu r;have dx:=rf r;have dy:=cZ.mJ x;have af:WS U f.length False li.length x:=by rw[aT];exact bf.1 k x r
  have bL:=Z5 af;have dv:=cJ (k+1);have db:=qG x.bF;have dk:=gB R;have ae:∀{g:E},J q g->At g b8 cX a kk U f x:=λh=>⟨hn.le (F.trans h).le,ha.ext (F.trans h),af.fj.call⟩;have aV:∀{g:E},GI (o.size::d) q g l li->ap g l li:=λw=>(w.done L V).le (bD _ _);have bd:∀{g:E},GI (o.size::d) q g u lm->ap g u lm:=λw=>(w.done L V).le (bD _ _);have an:∀{g:E}{am:List Nat},C.size<=g.size->(∀j∈am,j<g.size)->∀j∈am++o.size::d,j<g.size:=λh hb j b=>by
   rcases List.mem_append.1 b with h|h
   .exact hb j h
   .have:=L j h;omega
  refine(oF (ae T).Rk (aV (G.ext x8)) (ae T).args (bM.le (F.trans T).le) V λc _=>nG c).aJ (J.aA C) (t (ad _)) λty m9 x9 _=>⟨_,rfl,?_⟩;intro aZ;have b2:J C aZ:=x9.aL _;have e0:ap (bI [] aZ) (.mk m9.size 0 0 0) []:=mR _ _ _ _ _ _;clear_value aZ;rw[kQ (k:=k) (n:=aE.length) V (bS▸hs.gX)]at a3⊢
  refine(AI (.mk aE v) [] aZ aN c0 _ _ _ (k+1) (hs.le (F.trans (T.trans b2)).le) e0 (by simp only[Bk.j8];omega) (by simp only[Bk.qW,eY];omega)).aJ b2 (t (ad _)) λus ul cO hu cK dR bm=>⟨_,rfl,?_⟩;rw[Bk.qW,eY]at cK;refine(Pj (S:=[]) aN hu ((bN.ext (F.trans (T.trans bm))).le (Ap _)) V).aJ bm (t (ad _)) λlt ll cP ba bY c1 au=>⟨_,rfl,?_⟩;have aH:∀{g:E},GI [] cO g lt ll->ap g lt ll:=λw=>(w.done aN (oh bY.2)).le (bD _ _);have br:=T.trans au;have bw:=G.ext (x8.trans au);have bF:=W.ext (x8.trans au);have cq:=gs.ext gK.mono (x8.trans au);refine(GX (b:=[]) aN (ae br) (aV bw) af.fj.args (bd bF) (aH ba) V).aJ (J.aA cP) (t au.size) λdu dl cQ cj bZ av _=>⟨_,rfl,?_⟩;have c5:=bZ.2;have dT:=au.size;have dU:=av.size;have dS:=bm.size;have d8:=c1.size;refine(fe (c:=[z.D,l.D,u.D]++o.size::d) (an V bG) 14 ((cj.done aN V).le (bD _ _)) V).aJ (J.aA cQ) (t V) λdO _ a0 ce p aw _=>⟨_,rfl,?_⟩;subst p;have dV:=aw.size;refine GS.all (cq.ext gK.mono (av.trans aw)) (((br.trans av).trans aw).fz []) (ce.done gK.mono (an (am:=[z.D,l.D,u.D]) V bG) bn bG) bG λbl bV bu b9 b3 a5=>⟨λj b=>a5 j (t V j b) ?_,?_⟩
  .simp at b;omega
  have aS:J q bV:=b9.ext;have cw:l.D<a0.size:=V;have cy:u.D<a0.size:=V;have cz:z.D≠l.D:=gs.LG G bn;have cA:z.D≠u.D:=gs.LG W bn;have di:=ba.bq;have bx:=(bw.ext (av.trans aw)).jG (a5 _ cw cz.symm);have bH:=(bF.ext (av.trans aw)).jG (a5 _ cy cA.symm);have bE:=(ba.ext (av.trans aw)).jG (a5 _ V V);have dp:bl.D=z.D\/a0.size<=bl.D:=b3.2;have dC:=bu.bq;have dW:=b3.1;refine(IJ (d:=[bl.D,l.D,u.D]++o.size::d) (an V bG) (ae aS).Rk (aV bx) (ae aS).args (bM.le (F.trans aS).le) (bd bH) (aH bE) (by rw[aT];exact bO) V (oh bY.2) V af (ih x (aq r))).aJ (J.aA bV) (t V) λc8 c9 x' bW cr cs cW ay _=>⟨_,_,_,_,_,rfl,?_⟩;let⟨cM,cH,dw⟩:=cW;have dX:=ay.size;refine GS.kY (x:=x') (bu.ext gK.mono ay) ((aS.trans ay).fz []) cr cs bG λaK bg bv b_ b4 a6=>⟨λj b=>?_,?_⟩
  .have:=t (g:=bW) V j b;rw[a6 j this (by simp at b;omega),(J.push bW _).same j this]
  have a8:J q bg:=b_.ext;have bA:=(bx.ext ay).jG (a6 _ V V);have co:=(bH.ext ay).jG (a6 _ V V);have a_:=(bE.ext ay).jG (a6 _ V V);have dq:aK.D=z.D\/a0.size<=aK.D:=by have:=b4.2;omega
  have dY:=b4.1;refine(IP (b:=[]) aN (ae a8) (aV bA) af.fj.args (bd co) (aH a_) V).aJ (J.aA bg) (t V) λar lf cR gf bj az _=>⟨_,rfl,?_⟩;have bs:=a8.trans az;have dZ:=az.size;have cu:∀{g:E},GI [] bg g ar lf->ap g ar lf:=λw=>(w.done aN (oh bj.2)).le (bD _ _);refine(IQ (b:=[]) aN (ae bs) (cu gf) (aH (a_.ext az)) V).aJ (J.aA cR) (t V) λcY Q cS gd b0 aA _=>⟨_,rfl,?_⟩;have d0:=aA.size;have c7:=b0.2;have c6:=bj.2;have dF:=gf.bq;have dE:=gd.bq;have dD:=bv.bq;refine(fe (c:=[aK.D,ar.D,l.D]++o.size::d) (an V bG) 15 ((gd.done aN V).le (bD _ _)) V).aJ (J.aA cS) (t V) λdP _ cT cg p ak _=>⟨_,rfl,?_⟩;subst p;have b6:=(bs.trans aA).trans ak;have d3:=ak.size;have cf:GS ([ar.D,l.D]++o.size::d) q cT aK _:=bv.re gK.mono (Y:=[]) (((az.trans aA).trans ak).fz []) aN aN λj b=>by
   simp only[df,eH,aW]at b⊢;rcases b with h|h|h
   .exact Or.inr V
   .exact Or.inl (Or.inl h)
   .exact Or.inl (Or.inr (Or.inr h))
  refine GS.all cf (b6.fz []) (cg.done gK.mono (an (am:=[aK.D,ar.D,l.D]) V bG) bn bG) bG λH a1 ch ca c2 aJ=>⟨λj b=>aJ j (t V j b) ?_,?_⟩
  .simp at b;omega
  have b7:J q a1:=ca.ext;have d4:=c2.1;have cm:=((bA.ext az).ext (aA.trans ak)).jG (aJ _ V V);have cl:=(gf.ext (aA.trans ak)).jG (aJ _ V V);have ci:=(gd.ext ak).jG (aJ _ V V);have cn:=((a_.ext az).ext (aA.trans ak)).jG (aJ _ V V);have bc:ap a1 cY Q:=(ci.done aN V).le (bD _ _);have ct:=bc.len;have ck:GI (o.size::d) q a1 ar lf:=(cl.cA (λ_ h=>h) a8.size).any;refine eB (n:=Q.length) (ct▸bc.gX) (λ_ s g=>J a1 g/\∃e,GI (o.size::d) q g s e/\GS ([s.D,l.D]++o.size::d) q g H (R++dl.map (fg 14)++[x']++Q.map (fg 15))/\pI lf e/\l.D≠s.D/\C.size<=s.D) ⟨J.aA _,lf,ck,ch,⟨λ_ h=>h,ad _⟩,V,V⟩ ?_;rintro i s bh I2 μ2 hi ⟨aB,e,gl,bb,P,cB,dr⟩ cU;have bt:=b7.trans aB;have d5:=aB.size;have cN:=gl.bq;refine dit (λh2=>?_) λh2=>?_
  .let⟨I,K⟩:=cL Q i;refine⟨V,V,I,(bc.ext aB).aF K,?_⟩;refine(BU (S:=[]) aN (((gl.done L (oh P.2)).le (bD _ _)).le (Ap _)) I (oh P.2)).aJ (J.aA bh) (t V) λac X ab g2 y D _=>⟨_,rfl,cU V _ _ ⟨aB.trans D,X,(g2.cA (λ_ h=>h) bt.size).any,?_,⟨λaF hz=>P.1 aF (y.1 aF hz),bJ y.2 P.2⟩,?_,?_⟩⟩
   .have aa:=g2.bq;refine bb.re gK.mono (Y:=[]) (D.fz []) aN aN λj b=>?_;simp only[df,eH,aW]at b⊢;rcases b with h|h|h
    .exact Or.inr V
    .exact Or.inl (Or.inr (Or.inl h))
    .exact Or.inl (Or.inr (Or.inr h))
   .have:=g2.bq;omega
   .have:=g2.bq;omega
  intro dJ;have bC:=cm.ext aB;refine GI.kY bC (bt.fz []) L V λaa ao ab cb b5 a7=>⟨λj b=>?_,?_⟩
  .have:=t (g:=bh) V j b;rw[a7 j this (by simp at b;omega),(J.push bh _).same j this]
  have a9:J q ao:=cb.ext;have c3:=b5.1;have cF:H.D≠l.D:=bb.LG bC bn;have aG:=gl.jG (a7 _ cN.2 cB.symm);have bP:=b5.2;have ac:GS ([s.D,aa.D]++o.size::d) q ao H _:=bb.re gK.mono (Y:=[l.D]) ⟨c3,λj b hn=>a7 j b (by simpa using hn)⟩ aN (by simpa using cF) λj b=>by
   simp only[df,eH,aW]at b⊢;rcases b with h|h|h
   .exact Or.inl (Or.inl h)
   .rcases bP with p|p
    .exact Or.inl (Or.inr (Or.inl (h.trans p)))
    .exact Or.inr V
   .exact Or.inl (Or.inr (Or.inr h))
  have bi:aa.D≠s.D:=by rcases bP with p|p<;>omega
  have I:WL U f.length True aj.length (R++dl.map (fg 14)++[x']++Q.map (fg 15))/\dc (R++dl.map (fg 14)++[x']++Q.map (fg 15))=dc (aE.take (k+1))/\sw (R++dl.map (fg 14)++[x']++Q.map (fg 15))+2<=1100*sw (aE.take (k+1)):=by
   have de:dn x'=1:=by unfold dn at bL⊢;rw[cH];exact bL
   have d1:dc (dl.map (fg 14))=0:=j9 V _;have d2:dc (Q.map (fg 15))=0:=j9 V _;refine⟨((aX.append (sk V λy A=>?_)).yV ?_).append (sk V λy A=>?_),?_,?_⟩
   .rw[Z,<-aT];exact af.fj.args y (bZ.1 y A)
   .rw[da,d1,Z,jN,<-aT];exact cM
   .have:=af.fj.args y (b0.1 y A);rw[da,da,d1,Z,k8,tA];omega
   .rw[da,da,da,d1,d2,Z,k8,tA];omega
   .rw[dH,dH,dH,oP,oP,mW,vJ];omega
  have be:∀y∈e,0<=y/\y<((aj.length+dc (aE.take (k+1)):Nat):Int):=λy A=>by
   have:=bO y (bj.1 y (P.1 y A));omega
  have bX:∀(g:E),J ao g->bq H aa s ((k+1:Nat):Int) g/\μ H aa s ((k+1:Nat):Int) g<μ z l u k B:=λg r=>
   a3 V _ _ _ _ ⟨a9.trans r,⟨_,(ac.re gK.mono (Y:=[]) (r.fz []) aN aN λj b=>Or.inl (by simp only[df,eH,aW]at b⊢;rcases b with h|h|h;exact Or.inr (Or.inl h);exact Or.inl h;exact Or.inr (Or.inr h))),I.1,I.2.1,V⟩,⟨_,ab.ext r,bG⟩,⟨e,aG.ext r,oh P.2,be⟩,bi⟩
  have dI:=ac.bq;have cV:∀(g:E),J ao g->aO cp 196 [vi (15:Int),vi (l.len:Int)] g λrv D=>eF [B.size,o.size,m0.size,m.size] g D/\∃aL:Int,∃aM:Int,∃aP:Int,∃aQ:O,∃aR:O,rv=.agg #[vi aL,vi aM,vi aP,O.v aQ,O.v aR]/\
   let M2:E:=D.push (.cells (bz [.i aL,.i aM,.i aP,.s aQ,.s aR]) gE)
   jT M2 gE [.i (0:Int),.i (0:Int),.i (0:Int),.s O.nil,.s O.nil] 72 H (O.mk D.size 0 1 1) λb1 K=>eF [B.size,o.size,m0.size,m.size] M2 K/\bq b1 aa s ((k+1:Nat):Int) K/\μ b1 aa s ((k+1:Nat):Int) K<μ z l u k B:=by
   intro g r
   have zx:=r.size
   have dB:=ab.bq
   refine(jx (c:=[H.D,s.D,aa.D]++o.size::d) (an V bG) 15 (l.len:Int)).mono λrv D⟨pa,pk,p,X,h2,ag⟩=>?_
   subst p
   have d7:=ag.size
   have aY:=r.trans ag
   refine⟨ag.dz (t V),_,_,_,_,_,rfl,?_⟩
   have cC:H.D≠aa.D:=ac.LG ab bn
   have cE:H.D≠s.D:=ac.LG aG bn
   refine GS.kY (x:=fg 15 (l.len:Int)) (ac.ext gK.mono aY) ((a9.trans aY).fz []) X h2 (O6 I.2.2 (gB (R++dl.map (fg 14)++[x']++Q.map (fg 15)))) λr' K w aU aF a4=>⟨λj b=>?_,a3 V _ _ _ _ ⟨aU.ext,⟨_,(w.re gK.mono (Y:=[]) ((J.aA _).fz []) aN aN λj b=>Or.inl (by simp only[df,eH,aW]at b⊢;rcases b with h|h|h;exact Or.inr (Or.inl h);exact Or.inl h;exact Or.inr (Or.inr h))),I.1.yV (Ee V ?_),?_,?_⟩,⟨_,(ab.ext aY).jG (a4 _ V cC.symm),bG⟩,⟨e,(aG.ext aY).jG (a4 _ V cE.symm),oh P.2,be⟩,bi⟩⟩
   .have:=t (g:=D) V j b
    rw[a4 j this (by simp at b;omega),(J.push D _).same j this]
   .rw[I.2.1];omega
   .rw[da,I.2.1];simp[k8,dn,fg,pG]
   .rw[dH,mW,vJ]
    have h5:(fg 15 (l.len:Int)).w=2:=by rw[cZ.mJ];rfl
    have:=I.2.2;omega
  refine⟨λ_=>?_,λh0=>⟨λX=>by rw[h0]at X;simp at X,λ_=>bX ao (J.aA _)⟩⟩;refine(dA (aH (((cn.ext aB).jG (a7 _ V V)))) _).any.aJ (J.aA ao) (t V) λc a2 al _=>⟨_,rfl,λ_=>?_,λ_=>⟨λ_=>cV a2 al,λ_=>bX a2 al⟩⟩;intro dK;have cG:H.D≠s.D:=ac.LG aG bn;have d6:=al.size;refine GI.kY (aG.ext al) ((a9.trans al).fz []) L (oh P.2) λdN dL cd cc bp bk=>⟨λj b=>?_,a3 V _ _ _ _ ⟨cc.ext,⟨_,(ac.ext gK.mono al).re gK.mono (Y:=[s.D]) ⟨bp.1,λj b hn=>bk j b (by simpa using hn)⟩ aN (by simpa using cG) λj b=>?_,I.1,I.2.1,V⟩,⟨_,(ab.ext al).jG (bk _ ?_ bi),bG⟩,⟨_,cd,?_,?_⟩,?_⟩⟩
  .have:=t (g:=a2) V j b;rw[bk j this (by simp at b;omega),(J.push a2 _).same j this]
  .simp only[df,eH,aW]at b⊢;rcases b with h|h|h
   .exact Or.inl (Or.inr (Or.inl h))
   .rcases bp.2 with p|p
    .exact Or.inl (Or.inl (h.trans p))
    .exact Or.inr V
   .exact Or.inl (Or.inr (Or.inr h))
  .have:=ab.bq;omega
  .have:=P.2;simp;omega
  .intro y A;rcases List.mem_append.1 A with A|A
   .exact be y A
   .simp at A;omega
  .have:=ab.bq;rcases bp.2 with p|p<;>omega
 .have aa:k=aE.length:=V;subst aa;rw[fB]at*;have P:∀(g:E)(H:O)(t:List cZ),J q g->GS (l.D::u.D::o.size::d) q g H t->WL U f.length True aj.length t->dc t=dc aE->sw t<=1100*sw aE+2->
   let y:E:=ai g o.size 0 [.s H,.i v]
   ∃s c,Value.agg #[O.v H,vi v]=.agg #[O.v s,vi c.aT]/\eR (bI d y) s c.aE/\(WB U f.length True aj.length c/\c.w+1050<=1100*(Bk.mk aE v).w)/\J m y:=by
   intro g H t r w X h2 h3 y
   have ab:=gB t
   have:=w.bq
   refine⟨H,.mk t v,rfl,eR.le (cD aN λj b=>ah _ b) (w.re gK.mono (S':=o.size::d) (Y:=[]) (Fz.aA _ _) aN aN (λj b=>Or.inl (ah _ (ah _ b)))|>.done gK.mono L bn bG),⟨WB.of X (by rw[h2];exact bf.2),?_⟩,(F.trans r).ai V _ _⟩
   rw[Bk.qW,Bk.qW];omega
  have lY:∀(g:E),J B g->aO cp 196 [vi (14:Int),vi v] g λrv D=>eF [o.size,m0.size,m.size] g D/\∃aL:Int,∃aM:Int,∃aP:Int,∃aQ:O,∃aR:O,rv=.agg #[vi aL,vi aM,vi aP,O.v aQ,O.v aR]/\
   let M2:E:=D.push (.cells (bz [.i aL,.i aM,.i aP,.s aQ,.s aR]) gE)
   jT M2 gE [.i (0:Int),.i (0:Int),.i (0:Int),.s O.nil,.s O.nil] 72 z (O.mk D.size 0 1 1) λQ K=>eF [o.size,m0.size,m.size] M2 K/\
    let y:E:=ai K o.size 0 [.s Q,.i v]
    ∃s c,Value.agg #[O.v Q,vi v]=.agg #[O.v s,vi c.aT]/\eR (bI d y) s c.aE/\(WB U f.length True aj.length c/\c.w+1050<=1100*(Bk.mk aE v).w)/\J m y:=by
   intro g r
   refine(jx (c:=z.D::l.D::u.D::o.size::d) (λj b=>?_) 14 v).mono λrv D⟨a,kk,p,X,h2,x1⟩=>?_
   .have:=r.size
    simp at b
    rcases b with h|h|h|h|h
    .omega
    .omega
    .omega
    .have:=x6.lt (N o.size aN);omega
    .have:=hS _ h;have:=v6.size;omega
   subst p
   have ag:=x6.trans (r.trans x1)
   refine⟨J.oV (x6.trans r) ag N,_,_,_,_,_,rfl,?_⟩
   refine GS.kY (x:=fg 14 v) (gs.ext gK.mono (r.trans x1)) (ag.fz []) X h2 (oh (gB R)) λr' K w aU aF a4=>⟨J.oV (ag.aL _) aU.ext N,P K r' _ aU.ext w (aX.yV (Ee V (by rw[Z];exact bf.2))) ?_ ?_⟩
   .rw[da,Z];simp[k8,dn,fg,pG]
   .rw[dH];simp[mW,cZ.mJ,fg];omega
  let⟨aF,hz⟩:=cL li v.toNat;refine⟨V,V,aF,cv.aF hz,λ_=>?_,λ_=>P B z R x6 gs aX Z V⟩;refine(dA (bN.ext v6) v).any.aJ x6 N λc m7 I u7=>⟨_,rfl,λ_=>lY m7 I,λ_=>?_⟩;exact(dA (cx.ext I) v).any.aJ u7 N λc C x8 T=>⟨_,rfl,λ_=>lY C (I.trans x8),λ_=>P C z R T ((gs.ext gK.mono I).ext gK.mono x8) aX Z V⟩
end
structure ZW(ds:List bB)(nr:Nat)(v lm:List Int)(b:Bk):Prop where
 aS:∀o∈lm,0<=o/\o<(v.length:Int)
 lN:lm.length+5*b.w<=1000000
 vN:v.length+5*b.w<=1000000
 wb:WB ds nr False v.length b
def Yh(a:List bB)(d:List gU)(b:Bk):Prop:=∀(S:List Nat)(m:E),(∀c∈S,c<m.size)->∀(f r h t g:O)(v c:List Int),eM m f r a d->ap m h v->eR m t b.aE->ap m g c->ZW a d.length v c b->
 nK 210 [.agg #[O.v f,O.v r],O.v h,.agg #[O.v t,vi b.aT],O.v g] m S λe=>WB a d.length True v.length e/\e.w+20<=40*b.w+2*c.length
def Kc{o:List Nat}{m:E}(hS:∀c∈o,c<m.size){ag am av aY K:O}{G:List bB}{rs:List gU}{v:List Int}{x:cZ}(hn:eM m ag am G rs)(hv:ap m av v)(ha:ap m aY x.args)(hk:nT m K x.bF)
 (vN:v.length+5*x.w<=1000000)(aL:WS G rs.length False v.length x)(ih:∀h∈x.bF,Yh G rs h):
 KI 230 [.agg #[O.v ag,O.v am],O.v av,pD x aY K] m o λx'=>WS G rs.length True v.length x'/\x'.op=x.op/\x'.w<=1+x.args.length+40*bw x.bF:=by
 apply Df
 simp -zeta only[aD,aC]
 intro F e k a5
 let⟨N,H,s0,s1,s2⟩:=qF (a:=F) (b:=e) (c:=k) rfl rfl rfl
 have a_:J k a5:=J.push _ _
 have gk:=GB.new (e.size::o) k
 clear_value k
 have bs:=ha.len;have bj:=hk.len;have hw:=cZ.mJ x;have bE:=KV x.bF;have bo:=hv.len
 have aJ:∀c∈e.size::o,c<k.size:=bR hS N.size (H _ aN)
 refine(iH (e:=[k.size]) (by simp[a5]) (hn.le (N.trans a_).le).br hn.types x.bS).aJ a_ H λc cl m4 d aR x4 u4=>⟨_,rfl,?_⟩
 subst aR
 have bF:=d.len
 refine eB (n:=x.bF.length) (bj▸hk.gX) (λj s M=>Fz [k.size] m4 M/\(s.D=k.size\/m4.size<=s.D)/\∃p,GB (e.size::o) k M s p/\p.length=j/\(∀(aa:Nat)(h:Bk),p[aa]? =some h->WB G rs.length True (v.length+Ch G x.op x.bS aa) h)/\bw p<=40*bw (x.bF.take j)) ⟨Fz.aA _ _,Or.inl rfl,[],gk.ext rZ.mono x4,rfl,aN,aN⟩ ?_
 rintro j s Z aW μ hj ⟨f5,bl,p,C,bH,a4,a0⟩ bq
 have L:=V7 u4 f5 (ad _)
 have hy:=C.bq
 refine dit (λu=>?_) λu=>?_
 .intro m6
  have x6:J Z m6:=J.push _ _
  have u6:=L.trans x6
  let⟨h,P⟩:=cL x.bF j
  have bx:=xk P
  have bC:=uP P
  have bt:=QX hn.types x.op x.bS j
  have bv:=qG x.bF
  refine⟨λaZ M=>J Z M/\∃B,ap M aZ B/\B.length=Ch G x.op x.bS j,⟨λh8=>?_,λh8=>?_⟩,?_⟩
  .simp only[aG]at h8
   have g:=(aL.fj.all h8).1
   let⟨y,a⟩:=cL (cB G x.bS) j
   refine⟨V,V,y,(eS.1 ((d.le ((f5.then x6).dj aN)).aF a)).2,?_⟩
   refine(dN (e:=[]) aN ((hn.le (N.trans u6).le).br.le (Ap _)) hn.types y).aJ u6 H λaZ B m7 hf aR f i=>⟨_,rfl,x6.trans f,B,hf.le (bD _ _),?_⟩
   subst aR;exact(KP h8 a).symm
  .simp only[aj]at h8
   exact⟨x6,[],mR _ _ _ _ _ _,(KQ h8).symm⟩
  rintro fs m8 ⟨R,B,hf,a2⟩
  have e8:(av.len:Int)=((v.length:Nat):Int):=by rw[bo]
  rw[e8]
  refine(sB (S:=[]) aN (hf.le (Ap _)) v.length V).aJ (L.trans R) H λmi ml y gm qm T u9=>⟨_,rfl,?_⟩
  let⟨aU,hs,e0,e1⟩:=hk.aF P
  have v9:=N.trans u9
  refine⟨V,V,_,v9.af e0,_,v9.af e1,?_⟩
  have z5:=L.size
  have g9:=C.ext rZ.mono (R.trans T)
  have a3:∀{M:E},J y M->ap M mi ml:=λu=>((gm.done aN (oh qm.2)).le (bD _ _)).ext u
  have bJ:=qm.2
  have E5:∀{M f:E},J k M->J k f->∀{a6:Prop},a6->af f K.D (K.off+Int.toNat (j:Int)*2)=af M K.D (K.off+Int.toNat (j:Int)*2)/\af f K.D (K.off+Int.toNat (j:Int)*2+1)=af M K.D (K.off+Int.toNat (j:Int)*2+1)/\
   af f F.size 4=af M F.size 4/\af f m.size 0=af M m.size 0/\af f m.size 1=af M m.size 1/\a6:=λ{M f} u h' _ hp=>by
   have aB:∀h,h<k.size->∀z,af f h z=af M h z:=λh P z=>aI (by rw[h'.same h P,u.same h P]) z
   exact⟨((N.trans h').af e0).trans ((N.trans u).af e0).symm,((N.trans h').af e1).trans ((N.trans u).af e1).symm,aB _ V _,aB _ V _,aB _ V _,hp⟩
  have ao:∀{M:E},J Z M->∀c∈s.D::e.size::o,c<M.size:=λu c d=>by
   have:=u.size;rcases List.mem_cons.1 d with g|g
   .omega
   .have:=aJ c g;omega
  have X:∀{M:E}{a:Nat},J Z M->a<M.size->∀c∈[a,e.size,F.size,m.size],c<M.size:=λu P c d=>by
   rcases List.mem_cons.1 d with g|g
   .omega
   .exact(L.trans u).lt (H c g)
  have tail:∀(M:E)(a:Nat)(Q:O)(i:Bk),GB (a::e.size::o) k M s p->J Z M->J y M->y.size<=a->a<M.size->eR (bI (a::s.D::e.size::o) M) Q i.aE->WB G rs.length True (v.length+B.length) i/\i.w+20<=40*h.w+2*ml.length->
   let l:E:=ai M a 0 [.s Q,.i i.aT]
   aO cp 227 [vi (14:Int),O.v mi] l λrv q=>eF [a,e.size,F.size,m.size] l q/\∃ab:O,rv=O.v ab/\af q a 1=af l a 1/\af q a 0=af l a 0/\
    jT q gE [.i (0:Int),.i (0:Int),.i (0:Int),.s O.nil,.s O.nil] 72 ab Q λau w=>eF [a,e.size,F.size,m.size] q w/\af w a 1=af q a 1/\
     let M4:E:=w.push (.cells (bz [.s au,.i i.aT]) dp)
     jT M4 dp [.s O.nil,.i (0:Int)] 32 s (O.mk w.size 0 1 1) λac W=>eF [a,e.size,F.size,m.size] M4 W/\aW ac (cG ((j:Int)+(1:Int))) W/\μ ac (cG ((j:Int)+(1:Int))) W<μ s j Z:=by
   intro M a Q i C I bp bi bu ak hq l
   have z1:l.size=M.size:=ax _ _ _ _
   have z9:=(R.trans T).size
   have ba:J y l:=bp.ai bi _ _
   have U:J Z l:=(R.trans T).trans ba
   have bk:s.D≠a:=V
   have g1:GB (e.size::o) k l s p:=C.re rZ.mono (Y:=[a]) ((Fz.aA [a] M).ai (Or.inl aN) _ _) aN (by simpa using bk) λc d=>Or.inl (ah _ d)
   have bm:eR (bI (s.D::e.size::o) l) Q i.aE:=ak.le (cD aN λc d=>ah _ d)
   have bA:=Bk.mJ i;have a0:=gB i.aE
   refine(fe (c:=s.D::e.size::o) (ao U) 14 (a3 ba) V).aJ (J.aA l) (X U V) λab _ q aH g an _=>⟨_,rfl,aI (an.same _ V) _,aI (an.same _ V) _,?_⟩
   subst g
   have z2:=an.size
   refine GS.all aH (an.fz []) (bm.le (tC an aH.bq.1)) bG λau w be bd bM a7=>?_
   have ae:J l w:=bd.ext
   have z3:=ae.size
   have bK:=aH.bq
   refine⟨λc d=>a7 c (oh (X U (a:=a) V c d)) (oh (X U (a:=a) V c d)),aI (a7 _ V V) _,?_⟩
   intro M4
   have bg:=be.done gK.mono (ao U) bn bG
   refine GB.kY (c:=.mk (ml.map (fg 14)++i.aE) i.aT) (g1.ext rZ.mono ae) ((((L.trans U).trans ae)).fz []) bg V λac W bf br bc a8=>⟨λc d=>?_,bq V _ _ ⟨(f5.then (U.trans ae)).OU bl bc.1 a8,?_,_,bf,bG,λaa b2 r=>?_,?_⟩⟩
   .have:=X (U.trans ae) (a:=a) V c d
    rw[a8 c this (by simp at d;omega),(J.push w _).same c this]
   .have h1:=(f5.then (U.trans ae)).size
    rcases bc.2 with g|g<;>omega
   .rcases aX aa p.length with t|t
    .rw[az t]at r;exact a4 aa b2 r
    .rw[aK t]at r
     have:aa -p.length=0:=by have:=aw r;simp at this;omega
     rw[this]at r;simp at r;subst r
     have:aa=j:=V
     subst this
     rw[<-a2]
     refine WB.of ((sk V λz ho=>?_).append ?_) ?_
     .have:=qm.1 z ho;omega
     .rw[j9 V];exact hq.1.aU.1
     .rw[da,j9 V,bW];exact hq.1.aU.2
   .rw[pp,uO,zT,Bk.qW,dH,oP]
    have:=hq.2;omega
  have a1:∀(M:E)(aF:List Nat)(aE:Value->E->Prop),J y M->(∀c∈aF,c<M.size)->(∀s f,ap f s (v++B)->J M f->aE (O.v s) f)->aO cp 157 [O.v av,O.v fs] M λv m'=>eF aF M m'/\aE v m':=λM aF aE I X hK=>
   (eP (S:=[]) aN ((hv.ext (v9.trans I)).le (Ap _)) ((hf.ext (T.trans I)).le (Ap _)) V).aJ (J.aA M) X λs ll f C g x _=>hK s f (by subst g;exact(C.done aN bG).le (bD _ _)) x
  have D:∀(M:E)(S':List Nat)(t:O),(∀c∈S',c<M.size)->J y M->ap M t (v++B)->nK 210 [.agg #[O.v ag,O.v am],O.v t,.agg #[O.v aU,vi h.aT],O.v mi] M S' λi=>WB G rs.length True (v.length+B.length) i/\i.w+20<=40*h.w+2*ml.length:=by
   intro M S' t bh I r;have hm:=v9.trans I;have:=ih h (aq P) S' M bh ag am t aU mi (v++B) ml (hn.le hm.le) r (hs.le hm.le) (a3 I) ⟨λz ho=>?_,V,bG,by simp;rw[a2];exact aL.bF j h P⟩
   .simpa using this
   .have:=qm.1 z ho;simp;omega
  have iS:∀(M:E)(a:Nat)(t:O),GB (a::e.size::o) k M s p->J y M->y.size<=a->a<M.size->ap M t (v++B)->
   aO cp 210 [.agg #[O.v ag,O.v am],O.v t,.agg #[O.v aU,vi h.aT],O.v mi] M λrv f=>eF [a,e.size,F.size,m.size] M f/\∃aS:O,∃aT:Int,rv=.agg #[O.v aS,vi aT]/\
    let l:E:=ai f a 0 [.s aS,.i aT]
    aO cp 227 [vi (14:Int),O.v mi] l λrv q=>eF [a,e.size,F.size,m.size] l q/\∃ab:O,rv=O.v ab/\af q a 1=af l a 1/\af q a 0=af l a 0/\
     jT q gE [.i (0:Int),.i (0:Int),.i (0:Int),.s O.nil,.s O.nil] 72 ab aS λau w=>eF [a,e.size,F.size,m.size] q w/\af w a 1=af q a 1/\
      let M4:E:=w.push (.cells (bz [.s au,.i aT]) dp)
      jT M4 dp [.s O.nil,.i (0:Int)] 32 s (O.mk w.size 0 1 1) λac W=>eF [a,e.size,F.size,m.size] M4 W/\aW ac (cG ((j:Int)+(1:Int))) W/\μ ac (cG ((j:Int)+(1:Int))) W<μ s j Z:=by
   intro M a t C I h1 h2 h3
   have x5:=(R.trans T).trans I
   have z9:=(R.trans T).size
   refine(D M (a::s.D::e.size::o) t (λc d=>?_) I h3).aJ (J.aA M) (X x5 h2) λQ i f ak hq ar _=>⟨_,_,rfl,tail f a Q i (C.ext rZ.mono ar) (x5.trans ar) (I.trans ar) h1 (ar.lt h2) ak hq⟩
   rcases List.mem_cons.1 d with g|g
   .omega
   .exact ao x5 c g
  have aQ:∀(M:E)(z:Obj),GB (e.size::o) k M s p->GB (M.size::e.size::o) k (M.push z) s p:=λM z C=>
   C.re rZ.mono (Y:=[]) ((J.push M z).fz []) aN aN λc d=>by
    rcases List.mem_cons.1 d with g|g
    .exact Or.inr V
    .exact Or.inl g
  refine⟨a1 y _ _ (J.aA _) (λc d=>u9.lt (H c d)) λt aM r A=>⟨_,rfl,E5 u9 (u9.trans A) ⟨?_,?_⟩⟩,?_⟩
  .have al:=u9.trans A
   have vQ:=A.size
   refine(D aM (s.D::e.size::o) t (ao ((R.trans T).trans A)) A r).aJ al H λQ i aA ak hq ay a9=>⟨_,_,rfl,?_⟩
   intro aV
   have bL:=ay.size
   exact E5 a9 (a9.aL _) (tail aV aA.size Q i (aQ aA _ ((g9.ext rZ.mono A).ext rZ.mono ay)) ((((R.trans T).trans A).trans ay).aL _) ((A.trans ay).aL _) V (by simp[aV]) (ak.le (tC (J.push aA _) (ad _))) hq)
  .intro ay
   have al:=u9.trans A
   have vQ:=A.size
   exact E5 al (al.aL _) (iS ay aM.size t (aQ aM _ (g9.ext rZ.mono A)) (A.aL _) V (by simp[ay]) (r.ext (J.push _ _)))
  .intro al
   have ay:J y al:=J.push _ _
   have aV:J k al:=u9.trans ay
   refine E5 u9 aV (a1 al _ _ ay (X ((R.trans T).trans ay) (by simp[al])) λt a9 r aA=>⟨_,rfl,E5 aV (aV.trans aA) ?_⟩)
   exact iS a9 y.size t ((aQ y _ g9).ext rZ.mono aA) (ay.trans aA) (ad _) (aA.lt (by simp[al])) r
 .have f:p.length=x.bF.length:=V
  rw[bZ V]at a0
  refine(bQ (e.size::o) (ha.ext (N.trans L)) V).aJ L H λi l m6 a g x6 u6=>⟨_,rfl,aI (x6.same _ (L.lt (H _ aN))) _,aI (x6.same _ (L.lt (H _ aN))) _,?_⟩
  subst g
  intro m7
  refine⟨i,s,⟨x.op,x.bS,0,x.args,p⟩,rfl,(a.done (λc d=>aP (aJ c d) L.size) V).le (cD aN λc d=>ah _ d),nT.le (cD aN λc d=>ah _ d) ((C.ext rZ.mono x6).done rZ.mono aJ bn (by have:=qG x.bF;show p.length<=_;omega)),⟨aL.P9 (λu=>u.elim) ⟨V,V⟩ f a4,rfl,?_⟩,(N.trans u6).ai V _ _⟩
  rw[cZ.mJ]
  simp only
  omega
structure LB(ds:List bB)(nr:Nat)(S:List Nat)(m2 M:E)(v lm:List Int)(aE:List cZ)(k:Nat)(st inn ow:O):Prop where
 x:J m2 M
 hs:∃l,GS (inn.D::ow.D::S) m2 M st l/\WL ds nr True v.length l/\dc l=dc (aE.take k)/\sw l+2*k<=40*sw (aE.take k)
 hi:∃l,GI S m2 M inn l/\l.length=v.length+dc (aE.take k)
 ho:∃l,GI S m2 M ow l/\l.length<=lm.length+k/\∀o∈l,0<=o/\o<((v.length+dc (aE.take k):Nat):Int)
 ne:inn.D≠ow.D
def IN{D:List bB}{G:List gU}:∀p:Bk,Yh D G p:=by
 refine Bk.ind ?_;intro aE A ih j C hS bc bN ch cg ce H lm hn hv hs bq hp;have au:=hp.wb.aU;simp only[Bk.j8,Bk.jE]at*;have lN:=hp.lN;have vN:=hp.vN;rw[(Bk.qW aE A)]at lN vN;apply Bl;simp -zeta only[aD,aC];intro m d f ac;let⟨B,u,s0,s1,s2⟩:=qF (a:=m) (b:=d) (c:=f) rfl rfl rfl;have aL:J f ac:=J.push _ _;have aV:∀I,GS I f ac (.mk f.size 0 0 0) []:=λI=>GS.new I f;have s3:ac.size=f.size+1:=by simp[ac]
 clear_value ac;clear_value f;have bx:=hs.len;have bC:=BV aE;have b1:=gB aE;refine(bQ j (hv.ext (B.trans aL)) V).aJ aL u λg _ m4 r e x4 u4=>⟨_,rfl,?_⟩;subst e;refine(bQ j (bq.ext (B.trans u4)) V).aJ u4 u λi _ m5 z e x5 u5=>⟨_,rfl,?_⟩;subst e;have a5:=r.bq;have bH:=z.bq;refine R9 (n:=aE.length) (bx▸hs.gX) (λk t g i a=>LB D G.length (d.size::j) f a H lm aE k t g i) ⟨u5,⟨[],((aV _).ext gK.mono x4).ext gK.mono x5,WL.nil _ _ _ _,rfl,aN⟩,⟨H,((r.ext x5).cA (λ_ h=>h) aL.size).any,aN⟩,⟨lm,(z.cA (λ_ h=>h) u4.size).any,V,by simpa using hp.aS⟩,V⟩ ?_;clear r z a5 bH aV;rintro k t g i s ba μ hk ⟨W,⟨R,K,av,P,b2⟩,⟨li,r,an⟩,⟨lo,z,bS,a1⟩,a3⟩ bL
 have v6:=B.trans W;have bV:=r.len bn;have bT:=tz (aE.take k);have bX:=qY k aE;have L:∀c∈d.size::j,c<f.size:=bR hS B.size (u _ aN);have cb:=K.bq;have a5:=r.bq;have b_:=z.bq;have bA:=gB (aE.take k);have bW:k<=sw (aE.take k):=by rw[gQ]at bA;omega
 have bY:=gB R;have z6:=W.size;have ak:∀{a:E},GI (d.size::j) f a g li->ap a g li:=λq=>(q.done L V).le (bD _ _);have aZ:∀{a:E},GI (d.size::j) f a i lo->ap a i lo:=λq=>(q.done L V).le (bD _ _);have N:∀{a:E}{I:List Nat},s.size<=a.size->(∀c∈I,c<a.size)->∀c∈I++d.size::j,c<a.size:=λh hb c b=>by
  rcases List.mem_append.1 b with h|h
  .exact hb c h
  .have:=L c h;omega
 have aX:∀{a:E},J s a->∀c∈[d.size,m.size,C.size],c<a.size:=λh c b=>(W.trans h).lt (u c b);have bs:t.D≠g.D:=K.LG r bn;have a4:t.D≠i.D:=K.LG z bn;refine dit (λh=>?_) λh=>?_
 .let⟨ae,v⟩:=cL aE k;let⟨bb,kk,ha,a0,g0,g1,g2,g3,g4⟩:=hs.aF v;refine⟨V,V,_,v6.af g0,_,v6.af g1,_,v6.af g2,_,v6.af g3,_,v6.af g4,?_⟩;intro m7 y;have x8:J s y:=(J.push s _).ai (ad _) _ _;have s8:y.size=s.size+1:=by simp[y,m7,ax]
  clear_value y;have u8:=W.trans x8;have w:∀{a:E},y.size<=a.size->∀p∈[s.size,d.size,m.size,C.size],p<a.size:=λh p hb=>by
   rcases List.mem_cons.1 hb with e|e
   .omega
   .have:=u8.lt (u p e);omega
  have b7:=qu v;have b5:=rf v;have b6:=cZ.mJ ae;have aa:WS D G.length False li.length ae:=by rw[an];exact au.1 k ae v
  have aY:=Z5 aa;have b3:=bC (k+1);have Z:∀{a:E},J f a->At a bc bN bb kk D G ae:=λh=>⟨hn.le (B.trans h).le,ha.ext (B.trans h),aa.fj.call⟩;refine(oF (Z u8).Rk (ak (r.ext x8)) (Z u8).args (a0.le (B.trans u8).le) V λp _=>nG p).aJ (J.aA y) (w (ad _)) λty m9 x9 _=>⟨_,rfl,?_⟩;have X9:=u8.trans x9;have z9:=x9.size;refine(y8 (b:=[]) aN (Z X9) (ak ((r.ext x8).ext x9)) aa.fj.args V).aJ (J.aA m9) (w V) λdu X bJ bk a8 aJ _=>⟨_,rfl,?_⟩;have bP:=a8.2;have vQ:=aJ.size;refine(fe (c:=[t.D,g.D,i.D]++d.size::j) (N V bG) 14 ((bk.done aN V).le (bD _ _)) V).aJ (J.aA bJ) (w V) λcf _ aw bh e aK _=>⟨_,rfl,?_⟩;subst e;have ci:=aK.size;have aM:J s aw:=(((x8.trans x9).trans aJ).trans aK);refine GS.all (K.ext gK.mono aM) (((X9.trans aJ).trans aK).fz []) (bh.done gK.mono (N (I:=[t.D,g.D,i.D]) V bG) bn bG) bG λaG a6 aR bd a9 ay=>⟨λc b=>ay c (w V c b) ?_,?_⟩
  .simp at b;omega
  have aj:J f a6:=bd.ext;have aS:=(r.ext aM).jG (ay _ V bs.symm);have bl:=(z.ext aM).jG (ay _ V a4.symm);have bZ:aG.D=t.D\/aw.size<=aG.D:=a9.2;have b8:=aR.bq;have cj:=a9.1;refine(Kc (o:=[aG.D,g.D,i.D]++d.size::j) (N V bG) (Z aj).Rk (ak aS) (Z aj).args (a0.le (B.trans aj).le) V aa (ih ae (aq v))).aJ (J.aA a6) (w V) λca ck U a7 bo bp bM ag _=>⟨_,_,_,_,_,rfl,?_⟩;let⟨bE,bv,b4⟩:=bM;have cl:=ag.size;refine GS.kY (x:=U) (aR.ext gK.mono ag) ((aj.trans ag).fz []) bo bp bG λF al ao be a_ az=>⟨λc b=>?_,?_⟩
  .have:=w (a:=a7) V c b;rw[az c this (by simp at b;omega),(J.push a7 _).same c this]
  have aQ:J f al:=be.ext;have cm:=a_.1;have aT:=(aS.ext ag).jG (az _ V V);have ar:=(bl.ext ag).jG (az _ V V);have b0:F.D=t.D\/aw.size<=F.D:=by have:=a_.2;omega
  have B1:WL D G.length True H.length (R++X.map (fg 14)++[U])/\dc (R++X.map (fg 14)++[U])=dc (aE.take (k+1))/\sw (R++X.map (fg 14)++[U])+2*(k+1)<=40*sw (aE.take (k+1)):=by
   have bU:dn U=1:=by unfold dn at aY⊢;rw[bv];exact aY
   have d1:dc (X.map (fg 14))=0:=j9 V _;refine⟨((av.append (sk V λo l=>?_)).yV ?_),?_,?_⟩
   .rw[P,<-an];exact aa.fj.args o (a8.1 o l)
   .rw[da,d1,P,jN,<-an];exact bE
   .rw[da,da,d1,P,k8,tA];omega
   .rw[dH,dH,oP,mW,vJ];omega
  have a2:∀o∈lo,0<=o/\o<((H.length+dc (aE.take (k+1)):Nat):Int):=λo l=>by
   have:=a1 o l;omega
  have aU:∀(a:E)(T:O)(ab:List Int),J f a->y.size<=a.size->GS (g.D::T.D::d.size::j) f a F (R++X.map (fg 14)++[U])->GI (d.size::j) f a g li->GI (d.size::j) f a T ab->g.D≠T.D->ab.length<=lm.length+(k+1)->(∀o∈ab,0<=o/\o<((H.length+dc (aE.take (k+1)):Nat):Int))->
   jT (a.push (.cells (bz [.i ty]) aB)) aB [.i (0:Int)] 8 g (O.mk a.size 0 1 1) λaH M'=>eF [s.size,d.size,m.size,C.size] (a.push (.cells (bz [.i ty]) aB)) M'/\ba F aH T (cG ((k:Int)+(1:Int))) M'/\μ F aH T (cG ((k:Int)+(1:Int))) M'<μ t g i k s:=by
   intro a T ab v Q q gI gO br bm bw
   have b9:=gI.bq;have bF:=gO.bq
   have bu:F.D≠g.D:=q.LG gI bn
   refine GI.kY gI (v.fz []) L V λaH M' bj bg aP aF=>⟨λc b=>?_,bL V _ _ _ _ ⟨bg.ext,⟨_,q.re gK.mono (Y:=[g.D]) ⟨aP.1,λc b hn=>aF c b (by simpa using hn)⟩ aN (by simpa using bu) (λc b=>?_),B1.1,B1.2.1,B1.2.2⟩,⟨_,bj,bG⟩,⟨ab,gO.jG (aF _ bF.2 br.symm),bm,bw⟩,?_⟩⟩
   .have:=w Q c b
    rw[aF c this (by simp at b;omega),(J.push a _).same c this]
   .simp only[aW]at b⊢
    rcases b with h|h|h
    .rcases aP.2 with e|e
     .exact Or.inl (Or.inl (h.trans e))
     .exact Or.inr V
    .exact Or.inl (Or.inr (Or.inl h))
    .exact Or.inl (Or.inr (Or.inr h))
   .rcases aP.2 with e|e<;>omega
  refine⟨λ_=>?_,λ_=>?_⟩
  .intro cc;have bt:F.D≠i.D:=ao.LG ar bn;refine GI.kY ar (aQ.fz []) L V λbO bK bi bf am aA=>⟨λc b=>?_,?_⟩
   .have:=w (a:=al) V c b;rw[aA c this (by simp at b;omega),(J.push al _).same c this]
   intro cd;have cn:=am.1;refine aU bK bO _ bf.ext V (ao.re gK.mono (Y:=[i.D]) ⟨am.1,λc b hn=>aA c b (by simpa using hn)⟩ aN (by simpa using bt) λc b=>?_) (aT.jG (aA _ V a3)) bi ?_ bG ?_
   .simp only[df,eH,aW]at b⊢;rcases b with h|h|h
    .exact Or.inl (Or.inl h)
    .rcases am.2 with e|e
     .exact Or.inl (Or.inr (Or.inl (h.trans e)))
     .exact Or.inr V
    .exact Or.inl (Or.inr (Or.inr h))
   .rcases am.2 with e|e<;>omega
   .intro o l;rcases List.mem_append.1 l with l|l
    .exact a2 o l
    .simp at l;omega
  .intro am;exact aU al i lo aQ V ao aT ar a3 V a2
 .have ar:k=aE.length:=V;subst ar;rw[fB]at*;have al:∀(a:E)(X:O)(F:List cZ),J f a->s.size<=a.size->GS (g.D::i.D::d.size::j) f a X F->ap a i lo->WL D G.length True H.length F->dc F=dc aE->sw F+2*aE.length<=40*sw aE+2->
   aO cp 227 [vi (15:Int),O.v i] a λrv y=>eF [d.size,m.size,C.size] a y/\∃ae:O,rv=O.v ae/\af y m.size 1=af a m.size 1/\
    jT y gE [.i (0:Int),.i (0:Int),.i (0:Int),.s O.nil,.s O.nil] 72 X ae λaa Z=>eF [d.size,m.size,C.size] y Z/\af Z m.size 1=af y m.size 1/\
     let T:E:=ai Z d.size 0 [.s aa,.i A]
     ∃am p,Value.agg #[O.v aa,vi A]=.agg #[O.v am,vi p.aT]/\eR (bI j T) am p.aE/\(WB D G.length True H.length p/\p.w+20<=40*(Bk.mk aE A).w+2*lm.length)/\J C T:=by
   intro a X F v Q q l aA aj aG
   have hy:=q.bq
   have aF:=gB F
   have az:m.size<a.size:=v.lt (u _ aN)
   refine(fe (c:=[X.D,g.D,i.D]++d.size::j) (N Q bG) 15 l V).aJ v u λae _ y ao e w u1=>⟨_,rfl,aI (w.same _ az) _,?_⟩
   subst e
   have z1:=w.size
   have aw:∀c∈[d.size,m.size,C.size],c<y.size:=λc b=>u1.lt (u c b)
   have ay:∀c∈[d.size,m.size,C.size],c<f.size:=u
   refine GS.all (q.ext gK.mono w) (u1.fz []) (ao.done gK.mono (N (I:=[X.D,g.D,i.D]) Q bG) bn bG) bG λaa Z g2 ab ag U=>⟨λc b=>U c (aw c b) (oh (ay c b)),aI (U _ V V) _,?_⟩
   intro T
   refine⟨aa,.mk _ A,rfl,eR.le (cD aN λc b=>ah _ b) ((g2.re gK.mono (S':=d.size::j) (Y:=[]) (Fz.aA _ _) aN aN (λc b=>Or.inl (ah _ (ah _ b)))).done gK.mono L bn bG),⟨WB.of (aA.append (sk V λo l=>?_)) ?_,?_⟩,(B.trans ab.ext).ai V _ _⟩
   .have:=a1 o l;rw[aj];exact this
   .rw[da,j9 V,aj];exact au.2
   .rw[Bk.qW,Bk.qW,dH,oP];omega
  let⟨ag,Q⟩:=cL li A.toNat;refine⟨V,V,ag,(ak r).aF Q,λ_=>?_,λ_=>al s t R W (ad _) K (aZ z) av P V⟩;refine(jx (c:=[t.D,g.D,i.D]++d.size::j) (N (ad _) bG) 14 A).mono λrv y⟨pa,pk,e,h1,h2,w⟩=>?_;subst e;refine⟨w.dz (aX (J.aA _)),_,_,_,_,_,rfl,?_⟩;have z1:=w.size;refine GS.kY (x:=fg 14 A) (K.ext gK.mono w) ((W.trans w).fz []) h1 h2 V λr' T q ab ag U=>⟨λc b=>?_,al T r' _ ab.ext V q (aZ ((z.ext w).jG (U _ V a4.symm))) (av.yV (Ee V (by rw[P];exact au.2))) ?_ ?_⟩
  .have:=aX w c b;have h5:=u c b;rw[U c this V,(J.push y _).same c this]
  .rw[da,P];simp[k8,dn,fg,pG]
  .rw[dH,mW,vJ];have h5:(fg 14 A).w=2:=by rw[cZ.mJ];rfl
   omega
section
variable{b:List Nat}{f d h:E}{p t k:O}{q:gU}{l:Int}{g e j:Nat}
def nh.mono:oO 1 nh:=⟨λh=>nh.le h _ _,λ⟨_,h,_⟩=>by rw[h];rfl⟩
def iV.mono:oO 3 iV:=⟨λh=>iV.le h _ _,λ⟨_,h,_⟩=>by rw[h];rfl⟩
def fX(v:∀c∈b,c<f.size){br:O}{j:List bB}(hd:cz f br j)(w:dV j):aO cp 162 [O.v br] f λT B=>∃s,T=O.v s/\cz (bI b B) s j/\J f B:=by
 apply AT;intro N;have ab:=hd.len;have aa:=w.len;have u:Gr b f N kj 3 iV (.mk f.size 0 0 0) []:=Gr.new b (ad _) _ _ _;refine eB (n:=j.length) V (λq s M=>J f M/\Gr b f M kj 3 iV s (j.take q)) ⟨J.push _ _,u⟩ ?_;rintro q s d X μ hk ⟨r,m⟩ R
 have hy:=m.bq;refine dit (λl=>?_) λl=>?_
 .let⟨i,o⟩:=cL j q;let⟨z,A,u,g1,g2⟩:=hd.aF o;have ac:=A.len;have Z:=lO w o;intro P;have k:Gr (s.D::b) d P pA 1 nh (.mk d.size 0 0 0) []:=Gr.new _ (ad _) _ _ _;refine eB (n:=i.cons.length) V (λy c M=>J d M/\Gr (s.D::b) d M pA 1 nh c (i.cons.take y)) ⟨J.push _ _,k⟩ ?_;rintro y c C Y μ2 hj ⟨t,k⟩ Q;have g:=r.trans t;refine⟨V,V,z,g.af g2,dit (λK=>?_) λK=>?_⟩
  .let⟨E,x⟩:=cL i.cons y;let⟨U,L,H⟩:=A.aF x;have ae:E.length<=3:=(((w.dD q i o).jm V).2.2.2 E (aq x)).1;refine⟨V,V,z,g.af g2,V,V,U,g.af H,?_⟩;have af:=k.bq;refine(bQ (c.D::s.D::b) (L.ext g) V).then λW _ h I e D=>⟨_,rfl,?_⟩;subst e;intro M;refine Gr.kY (g:=[.s .nil]) nh.mono bn (k.ext nh.mono D) ((t.trans D).fz []) ⟨W,rfl,I.done (λe p=>?_) V⟩ bG λS m7 G F _ _=>Q V _ _ ⟨F.ext,by rw[aV x];exact G⟩;have:=t.size;simp only[aW]at p;rcases p with l|l|l
   .omega
   .omega
   .have:=v e l;have:=r.size;omega
  .refine⟨V,V,_,g.af u,V,V,_,g.af g1,?_⟩;intro h;rw[bZ V]at k;have D:eV (bI (s.D::b) C) 1 (nh (bI (s.D::b) C)) c i.cons:=k.done nh.mono (λe p=>by
    rcases List.mem_cons.1 p with x|x
    .omega
    .have:=v e x;have:=r.size;omega) bn V
   refine Gr.kY (g:=[.i 0,.i 0,.s .nil]) (k:=i) iV.mono bn (m.ext iV.mono t) (g.fz []) ⟨c,rfl,D⟩ bG λS M x p _ _=>R V _ _ ⟨p.ext,by rw[aV o];exact x⟩
 .rw[bZ V]at m;exact⟨s,rfl,m.done iV.mono v bn V,r⟩
def yD(H:∀i∈b,i<f.size){B:O}{b1:Int}(I:ap f p q.params)(K:ap f t q.cY)(u:q.params.length<=100/\q.cY.length<=100):
 aO cp 198 [.agg #[O.v p,O.v t,vi q.aT,O.v B,vi l],.agg #[O.v k,vi b1]] f λP x=>∃m n,P=.agg #[O.v m,O.v n,vi q.aT,O.v k,vi b1]/\ap (bI b x) m q.params/\ap (bI b x) n q.cY/\J f x:=by
 apply Dz
 simp -zeta only[aD,aC]
 intro L j d
 let⟨s,w,S,T,U⟩:=qF (a:=L) (b:=j) (c:=d) rfl rfl rfl
 clear_value d
 have z:∀i∈j.size::b,i<d.size:=bR H s.size (w _ aN)
 have c:∀{M y:E},J d M->J d y->∀g,g<d.size->∀o,af y g o=af M g o:=λF G g u o=>aI (by rw[G.same g u,F.same g u]) o
 refine(bQ (j.size::b) (I.ext s) V).aJ (J.aA d) w λm _ R C e a _=>⟨_,rfl,c (J.aA _) a _ V _,c (J.aA _) a _ V _,c (J.aA _) a _ V _,c (J.aA _) a _ V _,?_⟩
 subst e
 refine(bQ (j.size::b) (K.ext (s.trans a)) V).aJ a w λn _ N D e Q r=>⟨_,rfl,c a r _ V _,c a r _ V _,c a r _ V _,?_⟩
 subst e
 intro h
 have A:Le (bI (j.size::b) N) (bI b h):=cD aN λi v=>ah _ v
 exact⟨m,n,rfl,((C.done z V).le (Q.dj _)).le A,(D.done (λi v=>a.lt (z i v)) V).le A,(s.trans r).ai V _ _⟩
abbrev GR(b:List Nat)(a f:E)(s:O)(l:List gU):Prop:=Gr b a f jX 5 jc s l
def wz{L:List Nat}{m M:E}{v s:O}{x:List gU}{r:Bk}{N:O}{K:E->Prop}(W:∀c∈b,c<m.size)(w:∀c∈L,c<M.size/\c≠g/\c≠s.D)(A:J m M)(y:GR (g::b) m M s x)
 (z:cK M g nB [.s v,.s s])(Z:m.size<=g)(hp:ap M p q.params)(ht:ap M t q.cY)(aa:eR (bI (s.D::g::b) M) k r.aE)(X:q.params.length<=100/\q.cY.length<=100)(hl:x.length<=100)
 (U:∀u d,GR (g::b) m d u (x++[⟨q.params,q.cY,q.aT,r⟩])->cK d g nB [.s v,.s u]->J m d->K d):
 aO cp 198 [.agg #[O.v p,O.v t,vi q.aT,O.v N,vi l],.agg #[O.v k,vi r.aT]] M λH j=>eF L M j/\∃B:O,∃C:O,∃D:Int,∃F:O,∃G:Int,H=.agg #[O.v B,O.v C,vi D,O.v F,vi G]/\af j g 1=af M g 1/\
  let n:E:=j.push (.cells (bz [.s B,.s C,.i D,.s F,.i G]) jX)
  af n g 1=af j g 1/\
  jT n jX [.s O.nil,.s O.nil,.i (0:Int),.s O.nil,.i (0:Int)] 88 s (O.mk j.size 0 1 1) λab o=>eF L n o/\fO o g 1 1/\
   let d:E:=ai o g 1 [.s ab]
   eF L o d/\K d:=by
 have hy:=y.bq
 have Y:=z.lt
 have hz:=A.size
 refine(yD (b:=s.D::g::b) (λc f=>?_) hp ht X).mono λH j⟨p',t',e,R,T,h⟩=>?_
 .simp only[aW]at f
  rcases f with e|e|e
  .omega
  .omega
  .have:=W c e;omega
 subst e
 refine⟨h.dz λc f=>(w c f).1,_,_,_,_,_,rfl,aI (h.same _ Y) _,?_⟩
 intro n
 refine Gr.box (g:=[.s .nil,.s .nil,.i 0,.s .nil,.i 0]) (j:=1) (i:=[.s v,.s s]) (w:=⟨q.params,q.cY,q.aT,r⟩) jc.mono bn (y.ext jc.mono h) ((A.trans h).fz []) ⟨p',t',k,rfl,R,T,aa.le (h.dj _)⟩ V (z.ext h) aN bn ⟨Z,aN⟩ (λc f=>⟨h.lt (w c f).1,(w c f).2⟩) λu m' Q I P z' q'=>U u m' Q I P.ext
def lC{β:Type}{a c:E}{g:O}{l:Nat}{f:E->List Ce->β->Prop}(q:oO l f)(p:a=d.push (.cells (bz []) e))(i:c=a.push (.cells (bz [.s O.nil,.s O.nil]) j))(k:h=ai c a.size 0 [.s g,.s (O.mk d.size 0 0 0)]):
 J d h/\cK h a.size j [.s g,.s (O.mk d.size 0 0 0)]/\Gr b d h e l f (.mk d.size 0 0 0) []/\a.size=d.size+1/\h.size=d.size+2:=by
 subst p
 have n:J (d.push (.cells (bz []) e)) h:=by subst i k;exact(J.push _ _).ai (ad _) _ _
 refine⟨(J.push d _).trans n,?_,(Gr.new b (ad _) e l f).ext q n,aN,by subst i k;simp[ax]⟩
 have s:cK c (d.push (.cells (bz []) e)).size j [.s O.nil,.s O.nil]:=by rw[i];exact cK.push _ _ _
 rw[k]
 exact cK.ai (m:=c) (o:=0) (r:=[.s g,.s (.mk d.size 0 0 0)]) s
def lz{β:Type}{o b1 r:Nat}{p:E->List Ce->β->Prop}{c A:O}{F:List bB}(G:oO o p)(hz:0<o)(ac:j≠e)(X:∀w∈b,w<f.size)(Y:f.size<=b1/\b1<d.size)(K:J f d)(ak:g=d.size+1)
 (Z:cz (bI (b1::b) d) c F)(hn:A.len=r)(al:r<=1000)(ad:J d h)(U:cK h g j [.s c,.s (O.mk d.size 0 0 0)])(aa:Gr (g::b1::b) d h e o p (.mk d.size 0 0 0) [])(y:Nat->β->Prop)
 {C:(Int->E->Prop)->(Int->E->Nat)->Int->E->Prop}{R:O->O->E->Prop}
 (W:∀D N l q,cz (bI b q) D F->eV (bI b q) o (p (bI b q)) N l->l.length=r->(∀(i:Nat)(x:β),l[i]? =some x->y i x)->J f q->R D N q)
 (T:∀(k:Nat)(M:E)(s:O)(l:List β)(I:Int->E->Prop)(μ:Int->E->Nat),k<r->l.length=k->J d M->Gr (g::b1::b) d M e o p s l->cK M g j [.s c,.s s]->
  (∀u a x,Gr (g::b1::b) d a e o p u (l++[x])->cK a g j [.s c,.s u]->J d a->y k x->I (cG ((k:Int)+1)) a/\μ (cG ((k:Int)+1)) a<μ k M)->C I μ k M):
 ∃(v:Int->E->Prop)(μ0:Int->E->Nat),v (0:Int) h/\(∀(i:Int)(M:E),v i M->
  ((decide (i<(A.len:Int)))=true->C v μ0 i M)/\
  ((decide (i<(A.len:Int)))=false->∃m:O,af M g 0=some (O.v m)/\∃t:O,af M g 1=some (O.v t)/\
   let a:E:=ai M b1 0 [.s m,.s t]
   R m t a)):=by
 refine dW (n:=r) V (λk M=>J d M/\∃s l,Gr (g::b1::b) d M e o p s l/\cK M g j [.s c,.s s]/\l.length=k/\∀(i:Nat)(x:β),l[i]? =some x->y i x) ⟨ad,_,[],aa,U,rfl,aN⟩ ?_
 rintro k M I μ hk ⟨x,s,l,t,B,ab,H⟩ ae
 refine dit (λS=>?_) λS=>?_
 .refine T k M s l I μ V ab x t B λu a ag Q P x' L=>ae V _ ⟨x',u,_,Q,P,bG,λi aj m=>?_⟩
  rcases aX i l.length with z|z
  .rw[az z]at m;exact H i aj m
  .rw[aK z]at m
   have:i -l.length=0:=by have:=aw m;simp at this;omega
   rw[this]at m;simp at m;subst m
   have:i=k:=V
   subst this;exact L
 .refine⟨c,B.cq 0,s,B.cq 1,?_⟩
  intro a
  have L:=t.bq
  have z:=t.ne B ac
  have u:Le (bI (g::b1::b) M) (bI b a):=cD aN λw m=>ah _ (ah _ m)
  refine W c s l a (Z.le ((x.bI λw m=>?_).trans u)) (eV.le (t.nV G (λm=>?_) hz V) u λP ag=>G.le u) V H ((K.trans x).ai Y.1 _ _)
  .rcases List.mem_cons.1 m with e|e
   .exact Or.inr V
   .exact Or.inl e
  .simp only[aW]at m
   rcases m with e|e|e
   .exact z e
   .omega
   .have:=X _ e;have:=K.size;omega
structure yH(ds:List bB)(rs:List gU)(c:Prop)(W:Nat):Prop where
 jm:0<rs.length
 dD:∀q∈rs,q.params.length<=3/\q.cY.length<=3/\WB ds rs.length c q.params.length q.body/\q.body.w<=W
def vr(h:Nat)(e:List Value)(f:E)(b:List Nat)(g:List bB)(Q:List gU->Prop):Prop:=aO cp h e f λv a=>∃d r c,v=.agg #[O.v d,O.v r]/\eM (bI b a) d r g c/\Q c/\J f a
def Ik{d:List bB}{a b:List gU}{c:Prop}{W:Nat}(j:0<a.length)(f:b.length=a.length)(h:∀(i:Nat)(q:gU),b[i]? =some q->q.params.length<=3/\q.cY.length<=3/\WB d a.length c q.params.length q.body/\q.body.w<=W):yH d b c W:=
 ⟨V,λq g=>by obtain⟨i,e⟩:=List.mem_iff_getElem?.1 g;rw[f];exact h i q e⟩
def I9(G:∀i∈b,i<f.size){D:O}{e cY:List Int}{K:Int}(B:ap f p e)(H:ap f t cY)(P:e.length<=100):
 lE 211 [.agg #[O.v p,O.v t,vi K,O.v D,vi l]] f b λa=>(∀o∈a,0<=o/\o<(e.length:Int))/\a.length<=e.length:=by
 apply Bv
 simp -zeta only[aD,aC]
 intro c d
 have v:J f c:=J.push _ _
 have A:∀x∈[f.size],x<c.size:=by simp[c]
 have E:GI b c d (.mk c.size 0 0 0) []:=GI.nil b c
 have L:J c d:=J.push _ _
 clear_value d
 clear_value c
 have R:=B.len
 refine eB (n:=e.length) V (λm s M=>J c M/\∃a,GI b c M s a/\(∀o∈a,0<=o/\o<(e.length:Int))/\a.length<=m) ⟨L,[],E,aN,ad _⟩ ?_
 rintro m s S N μ Q ⟨w,a,j,k,z⟩ q
 have r:=v.trans w
 refine⟨λg=>?_,λg=>⟨s,a,rfl,j.cA (λ_ g=>g) v.size,⟨k,by simp at g;omega⟩,r⟩⟩
 simp only[ar]at g
 let⟨M,I⟩:=cL e m
 refine⟨V,V,M,(B.ext r).aF I,λ_=>?_,λ_=>q V _ _ ⟨w,a,j,k,V⟩⟩
 refine(dA (H.ext r) m).any.aJ w A λx T C u=>⟨_,rfl,λ_=>?_,λ_=>q V _ _ ⟨u,a,j.ext C,k,V⟩⟩
 intro h
 refine GI.kY (j.ext C) (u.fz []) (λi z=>v.lt (G i z)) V λW U F y _ _=>⟨J.oV (u.aL _) y.ext A,q V _ _ ⟨y.ext,_,F,λo i=>?_,bG⟩⟩
 rcases List.mem_append.1 i with i|i
 .exact k o i
 .simp at i;omega
end
section
variable{a:List Nat}{b:E}{d r:O}{c:List gU}
def II(hS:∀e∈a,e<b.size){Z aj t:O}{Q:List bB}{q:gU}(hn:eM b d r Q c)(W:ap b Z q.params)(ht:ap b aj q.cY)(hs:eR b t q.body.aE)(aH:q.params.length<=3)(aq:WB Q c.length False q.params.length q.body)(hw:q.body.w<=95):
 nK 209 [.agg #[O.v d,O.v r],.agg #[O.v Z,O.v aj,vi q.aT,O.v t,vi q.body.aT]] b a λl=>WB Q c.length True q.params.length l/\l.w<=1100*q.body.w:=by
 apply AX
 simp -zeta only[aD,aC]
 intro m0 D H
 let⟨v,h,s0,s1,s2⟩:=qF (a:=m0) (b:=D) (c:=H) rfl rfl rfl
 clear_value H
 have aJ:=W.len
 have T:∀e∈D.size::a,e<H.size:=bR hS v.size (h _ aN)
 refine(DS (S:=[]) aN (hs.le v.le) _ V).aJ (J.aA H) h λus ul g hu aK P _=>⟨_,rfl,?_⟩
 have ao:ap g us ul:=hu.le (bD _ _)
 intro s I
 have aA:J g I:=(J.push g _).trans (J.push s _)
 have s4:s.size=g.size+1:=by simp[s]
 have i:GI a g I (.mk g.size 0 0 0) []:=(GI.nil a g).ext (J.push s _)
 have gd:GI a g I (.mk s.size 0 0 0) []:=(GI.nil a s).cA (λ_ R=>R) V
 clear_value I
 have z3:=P.size
 have am:∀e∈a,e<g.size:=λe f=>by have:=hS e f;have:=v.size;omega
 refine xt (n:=q.params.length) V (λk L sd M=>J g M/\∃j p,GI a g M L j/\GI a g M sd p/\L.D≠sd.D/\(∀o∈j,0<=o/\o<(q.params.length:Int))/\(∀o∈p,0<=o/\o<(q.params.length:Int))/\j.length<=k/\p.length<=k) ⟨aA,[],[],i,gd,bG,aN,aN,ad _,ad _⟩ ?_
 rintro k L sd m6 aB μ hk ⟨w,j,p,i,gd,G,B,A,cm,cd⟩ K
 have F:=P.trans w
 have v6:=v.trans F
 refine dit (λR=>?_) λR=>?_
 .let⟨ab,Y⟩:=cL q.params k
  have X:∀{m:List Int},(∀o∈m,0<=o/\o<(q.params.length:Int))->∀o∈m++[(k:Int)],0<=o/\o<(q.params.length:Int):=λh o C=>by
   rcases List.mem_append.1 C with C|C
   .exact h o C
   .simp at C;omega
  refine⟨V,V,ab,(W.ext v6).aF Y,λ_=>?_,λ_=>K V _ _ _ ⟨w,j,p,i,gd,G,B,A,V,V⟩⟩
  refine(dA (ht.ext v6) k).any.aJ F h λaa m7 u u7=>⟨_,rfl,λ_=>?_,λ_=>K V _ _ _ ⟨w.trans u,j,p,i.ext u,gd.ext u,G,B,A,V,V⟩⟩
  refine(dA (ao.ext (w.trans u)) k).any.aJ u7 h λaa m8 x8 u8=>⟨_,rfl,λ_=>?_,λ_=>?_⟩
  .have x:=u.trans x8
   intro m9
   exact GI.SE (i.ext x) (gd.ext x) G ((w.trans x).fz []) V λr m' z N U y=>⟨J.oV ((F.trans x).aL _) (P.trans y.ext) h,K V _ _ _ ⟨y.ext,_,_,z,N,U,X B,A,bG,V⟩⟩
  .have x:=u.trans x8
   intro m9
   exact GI.SE (gd.ext x) (i.ext x) G.symm ((w.trans x).fz []) V λr m' z N U y=>⟨J.oV ((F.trans x).aL _) (P.trans y.ext) h,K V _ _ _ ⟨y.ext,_,_,N,z,U.symm,B,X A,V,bG⟩⟩
 intro y
 have ac:J m6 y:=J.push _ _
 have aa:=F.trans ac
 have ab:=v.trans aa
 have e0:ap y (.mk m6.size 0 0 0) []:=mR _ _ _ _ _ _
 have ag:∀{M:E}{t:O}{m:List Int},GI a g M t m->m.length<=3->ap M t m:=λz h=>(z.done am V).le (bD _ _)
 clear_value y
 have aG:=q.body.HD
 refine(GU q.body (D.size::a) y (λe f=>aa.lt (T e f)) d r Z t L _ q.params j [] (hn.le ab.le) (W.ext ab) (hs.le ab.le) ((ag i V).ext ac) e0 ⟨B,V,bG,V,aq⟩).aJ aa h λss l C an X ay aw=>⟨_,_,rfl,?_⟩
 intro ar o
 have ae:J C o:=(J.push C _).ai (ad _) _ _
 have aQ:o.size=C.size+1:=by simp[o,ar,ax]
 clear_value o
 have N:=aw.trans ae
 have U:∀e∈[C.size,D.size,m0.size,b.size],e<o.size:=λe f=>by
  rcases List.mem_cons.1 f with x|x
  .omega
  .exact N.lt (h e x)
 have aF:=Bk.mJ l;have aE:=gB l.aE
 have aL:=X.2
 refine(fe (c:=D.size::a) (λe f=>N.lt (T e f)) 15 ((ag gd V).ext ((ac.trans ay).trans ae)) V).aJ (J.aA o) U λaP _ aM af x u _=>⟨_,rfl,aI (u.same _ V) _,aI (u.same _ V) _,?_⟩
 subst x
 have aR:=u.size
 have Y:=af.bq
 refine GS.all af (u.fz []) ((an.le (ae.dj _)).le (tC u Y.1)) bG λav au al ak aS ai=>⟨λe f=>ai e (u.lt (U e f)) (oh (U e f)),aI (ai _ V V) _,?_⟩
 intro aO
 have az:J b au:=(v.trans N).trans ak.ext
 refine⟨av,.mk _ l.aT,rfl,eR.le (cD aN λe f=>ah _ f) (al.done gK.mono (λe f=>N.lt (T e f)) bn bG),⟨WB.of ((sk V A).append ?_) ?_,?_⟩,az.ai V _ _⟩
 .rw[j9 V];exact X.1.aU.1
 .rw[da,j9 V,bW];exact X.1.aU.2
 .rw[Bk.qW,dH,oP];omega
def Mh(K:∀e∈a,e<b.size){i:List bB}(k:eM b d r i c)(hk:yH i c False 95):vr 191 [.agg #[O.v d,O.v r]] b a i λx=>yH i x True 104500:=by
 apply EN;simp -zeta only[aD,aC];intro f a2;let⟨z,v⟩:=dI (a:=f) (c:=a2) rfl rfl;have s1:f.size=b.size+1:=by simp[f]
 clear_value a2;have ai:=k.jg.len;have ar:=k.oQ;refine(fX (b:=f.size::a) (bR K z.size (v _ aN)) (k.le z.le).br k.types).mono λ_ P⟨ac,j,ae,A⟩=>?_;subst j;refine⟨A.dz v,_,rfl,?_⟩;intro Q am ab;have u2:=z.trans A;let⟨x5,B0,g0,s3,s5⟩:=lC (b:=Q.size::f.size::a) jc.mono (d:=P) (a:=Q) (c:=am) (h:=ab) rfl rfl rfl;clear_value ab;have w:∀e∈[f.size,b.size],e<P.size:=λe g=>A.lt (v e g);have L:∀e∈f.size::a,e<P.size:=λe g=>A.lt (bR K z.size (v _ aN) e g);refine lz (R:=λh o M=>∃d r x,Value.agg #[O.v h,O.v o]=.agg #[O.v d,O.v r]/\eM (bI a M) d r i x/\yH i x True 104500/\J b M) (r:=c.length) (f:=b) (b:=a) jc.mono bn bn K ⟨V,w _ aN⟩ u2 s3 ae ai V x5 B0 g0 (λ_ q=>q.params.length<=3/\q.cY.length<=3/\WB i c.length True q.params.length q.body/\q.body.w<=104500) (λh t N u X Y o p s=>⟨h,t,N,rfl,⟨X,Y,k.types,V⟩,Ik hk.jm o p,s⟩) λal M st N ao μ ag ap B W C an=>?_
 let⟨q,hq⟩:=cL c al ag;let⟨aa,ah,ak,hw⟩:=hk.dD q (aq hq);have o:=u2.trans B;let⟨au,av,h,T,U,c3,D,E,F,H,I⟩:=k.jg.aF hq;have G:∀{y:Value}{h s:Nat},af b h s=some y->af M h s=some y:=λu=>o.af u;refine⟨st,C.cq 1,V,V,_,G D,_,G E,_,G F,_,G H,_,G I,V,V,_,G D,_,G E,_,G F,_,G H,_,G I,?_⟩;have hy:=W.bq;have ad:=C.lt;have zM:=B.size;refine(II (a:=st.D::Q.size::f.size::a) (λe g=>?_) (k.le o.le) (T.ext o) (U.ext o) (c3.le o.le) aa ak hw).aJ B w λss b' M1 aj Z p u1=>⟨_,_,rfl,?_⟩
 .simp only[aW]at g;rcases g with j|j|j|j
  .omega
  .omega
  .have:=L e (by simp[j]);omega
  .have:=L e (by simp[j]);omega
 have t:∀{y:Value}{h s:Nat},af b h s=some y->af M1 h s=af M h s:=λu=>by rw[p.af (G u),G u]
 refine⟨t D,t E,t F,t H,t I,aI (p.same _ (B.lt (w _ aN))) _,aI (p.same _ ad) _,?_⟩;exact wz (b:=f.size::a) (v:=ac) (x:=N) L (λe g=>by have X:=w e g;have Y:=u1.size;omega) u1 (W.ext jc.mono p) (C.ext p) V (T.ext (o.trans p)) (U.ext (o.trans p)) aj ⟨V,V⟩ V λs' Y g' X x'=>an s' Y _ g' X x' ⟨aa,ah,Z.1,by have:=Z.2;simp only;omega⟩
def Qr(L:∀f∈a,f<b.size){t:List bB}(u:eM b d r t c)(hk:yH t c False 95):vr 192 [.agg #[O.v d,O.v r]] b a t λB=>yH t B True 104500:=by
 apply Kd;simp -zeta only[aD,aC];intro p a2;let⟨D,y⟩:=dI (a:=p) (c:=a2) rfl rfl;have s1:p.size=b.size+1:=by simp[p]
 clear_value a2;have al:=u.jg.len;have az:=u.oQ;refine(fX (b:=p.size::a) (bR L D.size (y _ aN)) (u.le D.le).br u.types).mono λ_ T⟨ag,h,ah,F⟩=>?_;subst h;refine⟨F.dz y,_,rfl,?_⟩;intro A ap ac;have u2:=D.trans F;let⟨x5,B0,g0,s3,s5⟩:=lC (b:=A.size::p.size::a) jc.mono (d:=T) (a:=A) (c:=ap) (h:=ac) rfl rfl rfl;clear_value ac;have P:∀f∈[p.size,b.size],f<T.size:=λf i=>F.lt (y f i);have N:∀f∈p.size::a,f<T.size:=λf i=>F.lt (bR L D.size (y _ aN) f i);refine lz (R:=λe g M=>∃d r B,Value.agg #[O.v e,O.v g]=.agg #[O.v d,O.v r]/\eM (bI a M) d r t B/\yH t B True 104500/\J b M) (r:=c.length) (f:=b) (b:=a) jc.mono bn bn L ⟨V,P _ aN⟩ u2 s3 ah al V x5 B0 g0 (λ_ q=>q.params.length<=3/\q.cY.length<=3/\WB t c.length True q.params.length q.body/\q.body.w<=104500) (λe o Q s h1 w g j k=>⟨e,o,Q,rfl,⟨h1,w,u.types,V⟩,Ik hk.jm g j,k⟩) λao M st Q av μ ai ay Y aa H ar=>?_
 let⟨q,hq⟩:=cL c ao ai;let⟨ak,aj,an,hw⟩:=hk.dD q (aq hq);have C:=u2.trans Y;let⟨au,aB,o,I,c2,c3,e0,e1,e2,e3,e4⟩:=u.jg.aF hq;have G:∀{ae:Value}{o v:Nat},af b o v=some ae->af M o v=some ae:=λK=>C.af K;refine⟨V,V,_,G e0,_,G e1,_,G e2,_,G e3,_,G e4,?_⟩;intro m7 k;have hy:=aa.bq;have aw:=H.lt;have zM:=Y.size;have X:J M k:=(J.push M _).ai (ad _) _ _;have s8:k.size=M.size+1:=by simp[k,m7,ax]
 clear_value k;have z:∀f∈[M.size,p.size,b.size],f<k.size:=λf i=>by
  rcases List.mem_cons.1 i with h|h
  .omega
  .have:=P f h;omega
 have U:=C.trans X;have g:∀{Z M2:E},J k Z->J k M2->∀o,o<k.size->∀v,af M2 o v=af Z o v:=λK h' o hb v=>aI (by rw[h'.same o hb,K.same o hb]) v;have j:M.size<k.size:=V;have i1:b.size<k.size:=z _ aN;have i2:A.size<k.size:=V;refine⟨st,(H.ext X).cq 1,?_⟩;refine(I9 (b:=[]) aN (I.ext U) (c2.ext U) V).aJ (J.aA k) z λow lo m9 go ho e _=>⟨_,rfl,g (J.aA _) e _ j _,g (J.aA _) e _ j _,g (J.aA _) e _ j _,g (J.aA _) e _ i1 _,g (J.aA _) e _ i1 _,g (J.aA _) e _ j _,g (J.aA _) e _ j _,g (J.aA _) e _ j _,g (J.aA _) e _ j _,g (J.aA _) e _ j _,g (J.aA _) e _ i2 _,?_⟩;have W:=U.trans e;have z9:=e.size;have i:=ho.2;refine(IN q.body (st.D::A.size::p.size::a) m9 (λf i=>?_) d r au o ow q.params lo (u.le W.le) (I.ext W) (c3.le W.le) ((go.done aN V).le (bD _ _)) ⟨ho.1,V,V,an⟩).aJ e z λss b' aA am ab aE s=>⟨_,_,rfl,g e s _ j _,g e s _ j _,g e s _ j _,g e s _ j _,g e s _ j _,g e s _ i2 _,?_⟩
 .simp only[aW]at i;rcases i with h|h|h|h
  .omega
  .omega
  .have:=N f (by simp[h]);omega
  .have:=N f (by simp[h]);omega
 have x:=X.trans s;have vQ:=s.size;exact wz (b:=p.size::a) (v:=ag) (x:=Q) N (λf i=>by have h1:=z f i;have w:=P f;simp only[aW]at i w;rcases i with h|h|h|h<;>first|omega|(have:=w (by simp[h]);omega)|simp at h) (Y.trans x) (aa.ext jc.mono x) (H.ext x) V (I.ext (C.trans x)) (c2.ext (C.trans x)) am ⟨V,V⟩ V λs' M' g' w x'=>ar s' M' _ g' w x' ⟨ak,aj,ab.1,by have:=ab.2;simp only;omega⟩
end
section
variable{x:cZ}{l:List cZ}{m d M:E}{i f e h:O}{b:List Nat}{c g:List Int}{a:Int}{K:O->E->Prop}
def Bh(a k:O)(m:E):dy cp 215 [pD x a k] m (x.op=14\/x.op=15):=by
 apply Hc;simp -zeta only[aD,aC];intro c;have b:J m c:=J.push _ _;refine⟨λh=>iY (Or.inl (by simpa using h)) b,λh=>eW ?_ b⟩;simp only[aj]at h;simp only[aG];omega
def XJ(l:List cZ):Prop:=∀x∈l,x.args.length=1
def zJ(l:List cZ)(o:Int):Prop:=∃x∈l,o∈x.args
def XJ.at(h:XJ l){k:Nat}(a:l[k]? =some x):∃y,x.args[0]? =some y/\zJ l y:=by
 have c:=h x (aq a);let⟨y,b⟩:=cL x.args 0;exact⟨y,b,x,aq a,aq b⟩
def Pg(p:eR m i l)(B:XJ l)(H:l.length<=10^12)(v:Int):tr 240 [O.v i,vi v] m λb=>-(l.length:Int)<=b/\b<=l.length:=by
 apply IV;have L:=p.len;refine eB (n:=l.length) V (λk b M=>J m M/\-(k:Int)<=b/\b<=(k:Int)) ⟨J.aA _,V,V⟩ ?_;rintro k b c I μ K ⟨e,E,F⟩ C
 refine⟨λj=>?_,λj=>⟨b,rfl,⟨V,V⟩,e⟩⟩;simp only[ar]at j;let⟨x,q⟩:=cL l k;obtain⟨y,r,_⟩:=B.at q;obtain⟨a,Q,o,_,z,_,_,A,_⟩:=p.aF q;have G:=o.len;have P:=aw r;have s:=e.af z;have G3:=e.af A;have h:=(o.ext e).aF r;have u:cG (b+1)=b+1:=aR V V;have w:cG (b -1)=b -1:=aR V V;rw[u,w];have N:∀d,-((k+1:Nat):Int)<=d->d<=((k+1:Nat):Int)->I d (cG ((k:Int)+1)) c/\μ d (cG ((k:Int)+1)) c<μ b k c:=λd a t=>C V _ _ ⟨e,a,t⟩
 have D:(0:Int)<=(k:Int)/\(k:Int)<(i.len:Int)/\∃f:O,af c i.D (i.off+Int.toNat (k:Int)*5+3)=some (O.v f)/\(0:Int)<=(0:Int)/\(0:Int)<(f.len:Int)/\∃g:Int,af c f.D (f.off+Int.toNat (0:Int)*1)=some (vi g)/\
  ((g==v)=true->I (b -1) (cG ((k:Int)+1)) c/\μ (b -1) (cG ((k:Int)+1)) c<μ b k c)/\((g==v)=false->I b (cG ((k:Int)+1)) c/\μ b (cG ((k:Int)+1)) c<μ b k c):=
  ⟨V,V,a,G3,V,V,y,h,λ_=>N _ V V,λ_=>N _ V V⟩
 exact⟨V,V,a,G3,V,V,y,h,λ_=>⟨V,V,_,s,λ_=>N _ V V,λ_=>D⟩,λ_=>D⟩
def Ny(q:∀f∈b,f<m.size)(u:eR m i l)(j:XJ l)(G:l.length<=100000000000):lE 239 [O.v i] m b λc=>(∀o∈c,zJ l o)/\c.length<=l.length:=by
 apply Hx;intro N;have K:=u.len;refine eB (n:=l.length) V (λk s M=>J m M/\∃c,GI b m M s c/\(∀o∈c,zJ l o)/\c.length<=k) ⟨J.push m _,[],GI.nil b m,aN,ad _⟩ ?_;rintro k s d I μ H ⟨e,c,p,v,t⟩ C
 refine⟨λh=>?_,λh=>⟨s,c,rfl,p,⟨v,V⟩,e⟩⟩;simp only[ar]at h;let⟨x,w⟩:=cL l k;let⟨z,y,A⟩:=j.at w;obtain⟨a,R,r,_,E,_,_,g,_⟩:=u.aF w;have F:=r.len;have L:=aw y;refine⟨V,V,a,e.af g,V,V,z,(r.ext e).aF y,?_⟩;refine(mN (S:=b) (λf t=>aP (q f t) e.size) (p.done q V) z V).then λQ B P g f D=>⟨_,rfl,C V _ _ ⟨e.trans D,B,g.cA (λ_ h=>h) e.size,λo j=>?_,oh f.2⟩⟩;rcases f.1 o j with h|h
 .exact v o h
 .subst h;exact A
structure vV(b:List Nat)(m d M:E)(f e h:O)(c lr g:List Int):Prop where
 x:J m M
 gd:GI b m M f c
 gr:GI b m M e lr
 gv:GI [] d M h g
 n1:f.D≠e.D
 n2:f.D≠h.D
 n3:e.D≠h.D
def vV.ext{b:List Nat}{m d M i:E}{f e h:O}{c j g:List Int}(T:vV b m d M f e h c j g)(a:J M i):vV b m d i f e h c j g:=
 ⟨T.x.trans a,T.gd.ext a,T.gr.ext a,T.gv.ext a,T.n1,T.n2,T.n3⟩
def vV.Z2{j:List Int}(T:vV b m d M f e h c j g)(s:∀i∈b,i<m.size)(t:c.length<=10^12)(u:∀r i,vV b m d i r e h (c++[a]) j g->K r i):
 jT (M.push (.cells (bz [.i a]) aB)) aB [.i 0] 8 f (.mk M.size 0 1 1) K:=by
 have o:=T.gr.bq;have p:=T.gv.bq;have v:=T.n1;have w:=T.n2
 refine GI.kY T.gd (T.x.fz []) s t λr i n l z q=>u r i ⟨l.ext,n,T.gr.jG (q _ o.2 T.n1.symm),T.gv.jG (q _ p.2 T.n2.symm),?_,?_,T.n3⟩<;>rcases z.2 with k|k<;>omega
def vV.SE{j:List Int}(T:vV b m d M f e h c j g)(s:∀i∈b,i<m.size)(t:j.length<=10^12)(u:∀r i,vV b m d i f r h c (j++[a]) g->K r i):
 jT (M.push (.cells (bz [.i a]) aB)) aB [.i 0] 8 e (.mk M.size 0 1 1) K:=by
 have o:=T.gd.bq;have p:=T.gv.bq;have v:=T.n1;have w:=T.n3
 refine GI.kY T.gr (T.x.fz []) s t λr i n l z q=>u r i ⟨l.ext,T.gd.jG (q _ o.2 T.n1),n,T.gv.jG (q _ p.2 T.n3.symm),?_,T.n2,?_⟩<;>rcases z.2 with k|k<;>omega
def VO(l:List cZ)(c:List cZ):Prop:=∃b a:List Int,c=b.map (fg 14)++a.map (fg 15)/\(∀o∈b,zJ l o)/\(∀o∈a,zJ l o)/\b.length+a.length<=l.length*l.length
def yC(v:∀t∈b,t<m.size)(Z:eR m i l)(a:XJ l)(x:l.length<=500000):RH 216 [O.v i] m b (VO l):=by
 apply Ds;intro r d;have P:J m d:=(J.push m _).trans (J.push r _);have s1:r.size=m.size+1:=by simp[r]
 have gd:GI b m d (.mk m.size 0 0 0) []:=(GI.nil b m).ext (J.push r _);have U:GI b m d (.mk r.size 0 0 0) []:=(GI.nil b r).cA (λ_ F=>F) V;clear_value d;have ah:l.length*l.length<=250000000000:=bJ (MO x x) bn;refine(Ny (b:=[]) aN (Z.le P.le) a V).then λh g m3 D L Q=>⟨_,rfl,?_⟩;have hv:ap m3 h g:=(D.done aN (oh L.2)).le (bD _ _);have am:=hv.len;have al:=L.2;have an:=D.bq;have au:=P.size;refine xt (n:=g.length) V (λp f e M=>∃c j,vV b m d M f e h c j g/\(∀o∈c,zJ l o)/\(∀o∈j,zJ l o)/\c.length+j.length<=p*l.length) ⟨[],[],⟨(P.trans Q),gd.ext Q,U.ext Q,D,bG,oh gd.bq,oh U.bq⟩,aN,aN,aN⟩ ?_;rintro p f e m4 ag μ hi ⟨c,j,T,hd,hr,X⟩ ae
 have ac:p*l.length<=l.length*l.length:=dm _ V;have G:∀{M:E}{f e:O}{c j:List Int},vV b m d M f e h c j g->ap M h g:=λT=>(T.gv.done aN V).le (bD _ _);refine dit (λF=>?_) λF=>?_
 .let⟨y,z⟩:=cL g p;have ab:=L.1 y (aq z);refine⟨V,V,y,(G T).aF z,?_⟩;refine(Pg (Z.le T.x.le) a V y).then λw m5 hn s=>⟨_,rfl,?_⟩;have ak:(p+1)*l.length=p*l.length+l.length:=qB _ _;refine⟨λf k M=>k<=w/\(w<=0->k=w)/\(0<w->0<=k)/\∃H,vV b m d M f e h H j g/\(∀o∈H,zJ l o)/\H.length+j.length+k.toNat<=p*l.length+w.toNat,λ_ k _=>k.toNat,⟨V,V,V,c,T.ext s,hd,V⟩,?_⟩;rintro af k m6 ⟨n1,n2,n3,I,A,Y,ai⟩;refine dit (λh1=>?_) λh1=>?_
  .refine⟨V,V,y,(G A).aF z,?_⟩;intro q;have u:cG (k -1)=k -1:=aR V V;rw[u];exact A.Z2 v V λN R B=>⟨⟨V,V,V,_,B,λo a=>by
    rcases List.mem_append.1 a with a|a
    .exact Y o a
    .simp at a;subst a;exact ab,bG⟩,by dsimp only;omega⟩
  .refine⟨λe q M=>k<=q/\q<=0/\∃K,vV b m d M af e h I K g/\(∀o∈K,zJ l o)/\I.length+K.length+(-q).toNat<=p*l.length+l.length,λ_ q _=>(-q).toNat,⟨V,V,j,A,hr,V⟩,?_⟩;rintro ao q m8 ⟨p1,p2,ad,C,aa,aj⟩;refine⟨λW=>?_,λW=>ae V _ _ _ ⟨I,ad,C,Y,aa,V⟩⟩;simp only[ar]at W;refine⟨V,V,y,(G C).aF z,?_⟩;intro m9;have u:cG (q+1)=q+1:=aR V V;rw[u];exact C.SE v V λN R B=>⟨⟨V,V,_,B,λo a=>by
    rcases List.mem_append.1 a with a|a
    .exact aa o a
    .simp at a;subst a;exact ab,bG⟩,by dsimp only;omega⟩
 .have o:∀t∈b,t<m4.size:=λt X=>by have:=v t X;have:=T.x.size;omega
  refine(fe (c:=b) o 14 ((T.gd.done v V).le (bD _ _)) V).mono λ_ m5⟨s1,C,k,g1,u,s⟩=>?_;subst k;subst u;refine⟨_,rfl,?_⟩;have q:=g1.bq;refine(fe (c:=s1.D::b) (bR o s.size q.2) 15 (((T.ext s).gr.done v V).le (bD _ _)) V).mono λ_ m6⟨I,H,k,g2,y,w⟩=>?_;subst k;subst y;refine⟨_,rfl,?_⟩;refine GS.all (g1.ext gK.mono w) ((s.trans w).fz []) (g2.done gK.mono (bR o s.size q.2) bn bG) bG λN R A z _ _=>⟨N,_,rfl,A.cA gK.mono (λB x=>Or.inl x) T.x.size,⟨c,j,rfl,hd,hr,?_⟩,T.x.trans z.ext⟩;have:p*l.length<=l.length*l.length:=ac;omega
end
end Go.Proofs.YtghjegjkpepmpaaGreat
