/- Part of a proof. -/
import Derived.Test.YtkicoahejfbjhaaGreatSA02
set_option linter.all false
set_option maxHeartbeats 8000000
set_option maxRecDepth 100000
namespace Go.Proofs.YtkicoahejfbjhaaGreat
open Go.Vc
section
open Tryz
variable{m:E}{R:Value->E->Prop}
variable{a b p d e f g h r u v w x y z B:O}{i j k l q o s t C D F G H I J K:Int}
def sa(r:Nat×Nat)(m:E)(R:Value->E->Prop):Prop:=
 let M:E:=m.push (.cells (bt [.s O.nil,.s O.nil]) 124)
 aN cg 216 [vp r.1 r.2] M λca b=>
 eF [m.size] M b/\
 ∃o:O,ca=O.v o/\
 let b7:E:=b.push (.cells (bt [.s O.nil,.s O.nil]) 124)
 Mt b.size b.size (
 let aa:E:=ah b7 b.size 0 [.s o,.s O.nil]
 let aj:E:=aa.push (.cells (bt [.i (1:Int)]) 3)
 aN cg 252 [O.v (O.mk aa.size 0 1 1),vi (0:Int)] aj λcm F=>
 eF [b.size,m.size] aj F/\
 ∃ap:O,∃aI:Int,∃a0:Int,∃bg:Int,∃bz:O,cm=.agg #[O.v ap,vi aI,vi a0,vi bg,O.v bz]/\
 let an:E:=F.push (.cells (bt [.i (1:Int),.i (1:Int)]) 3)
 aN cg 252 [O.v (O.mk F.size 0 2 2),vi (1:Int)] an λct H=>
 eF [b.size,m.size] an H/\
 ∃aq:O,∃aS:Int,∃a9:Int,∃bh:Int,∃bA:O,ct=.agg #[O.v aq,vi aS,vi a9,vi bh,O.v bA]/\
 let ao:E:=H.push (.cells (bt [.i (1:Int)]) 3)
 aN cg 252 [O.v (O.mk H.size 0 1 1),vi (1:Int)] ao λcu I=>
 eF [b.size,m.size] ao I/\
 ∃aA:O,∃aT:Int,∃a_:Int,∃bp:Int,∃bI:O,cu=.agg #[O.v aA,vi aT,vi a_,vi bp,O.v bI]/\
 let N:E:=I.push (.cells (bt [.i (1:Int),.i (0:Int)]) 3)
 aN cg 252 [O.v (O.mk I.size 0 2 2),vi (1:Int)] N λcv t=>
 eF [b.size,m.size] N t/\
 ∃aB:O,∃aU:Int,∃ba:Int,∃bq:Int,∃bJ:O,cv=.agg #[O.v aB,vi aU,vi ba,vi bq,O.v bJ]/\
 let P:E:=t.push (.cells (bt [.i (2:Int),.i (1:Int)]) 3)
 aN cg 252 [O.v (O.mk t.size 0 2 2),vi (1:Int)] P λcw u=>
 eF [b.size,m.size] P u/\
 ∃aC:O,∃aV:Int,∃bb:Int,∃br:Int,∃bK:O,cw=.agg #[O.v aC,vi aV,vi bb,vi br,O.v bK]/\
 let Q:E:=u.push (.cells (bt [.i (1:Int),.i (1:Int)]) 3)
 aN cg 252 [O.v (O.mk u.size 0 2 2),vi (0:Int)] Q λcx a=>
 eF [b.size,m.size] Q a/\
 ∃aD:O,∃aW:Int,∃bc:Int,∃bs:Int,∃bL:O,cx=.agg #[O.v aD,vi aW,vi bc,vi bs,O.v bL]/\
 let S:E:=a.push (.cells (bt [.s ap,.i aI,.i a0,.i bg,.s bz,.s aq,.i aS,.i a9,.i bh,.s bA,.s aA,.i aT,.i a_,.i bp,.s bI,.s aB,.i aU,.i ba,.i bq,.s bJ,.s aC,.i aV,.i bb,.i br,.s bK,.s aD,.i aW,.i bc,.i bs,.s bL]) 175)
 let T:E:=S.push (.cells (bt [.i (3:Int)]) 3)
 aN cg 252 [O.v (O.mk S.size 0 1 1),vi (0:Int)] T λcb v=>
 eF [b.size,m.size] T v/\
 ∃aE:O,∃aX:Int,∃bd:Int,∃bu:Int,∃bM:O,cb=.agg #[O.v aE,vi aX,vi bd,vi bu,O.v bM]/\
 let U:E:=v.push (.cells (bt [.i (0:Int)]) 3)
 aN cg 252 [O.v (O.mk v.size 0 1 1),vi (1:Int)] U λcc w=>
 eF [b.size,m.size] U w/\
 ∃aF:O,∃aY:Int,∃be:Int,∃bv:Int,∃bN:O,cc=.agg #[O.v aF,vi aY,vi be,vi bv,O.v bN]/\
 let V:E:=w.push (.cells (bt [.i (0:Int),.i (1:Int)]) 3)
 aN cg 252 [O.v (O.mk w.size 0 2 2),vi (1:Int)] V λcd x=>
 eF [b.size,m.size] V x/\
 ∃aG:O,∃aZ:Int,∃bf:Int,∃bw:Int,∃bO:O,cd=.agg #[O.v aG,vi aZ,vi bf,vi bw,O.v bO]/\
 let W:E:=x.push (.cells (bt [.i (3:Int),.i (0:Int)]) 3)
 aN cg 252 [O.v (O.mk x.size 0 2 2),vi (3:Int)] W λce y=>
 eF [b.size,m.size] W y/\
 ∃aH:O,∃aJ:Int,∃a1:Int,∃bx:Int,∃bP:O,ce=.agg #[O.v aH,vi aJ,vi a1,vi bx,O.v bP]/\
 let X:E:=y.push (.cells (bt [.i (3:Int)]) 3)
 aN cg 252 [O.v (O.mk y.size 0 1 1),vi (1:Int)] X λcf z=>
 eF [b.size,m.size] X z/\
 ∃ar:O,∃aK:Int,∃a2:Int,∃bi:Int,∃bB:O,cf=.agg #[O.v ar,vi aK,vi a2,vi bi,O.v bB]/\
 let Y:E:=z.push (.cells (bt [.i (1:Int),.i (3:Int),.i (0:Int)]) 3)
 aN cg 252 [O.v (O.mk z.size 0 3 3),vi (0:Int)] Y λch d=>
 eF [b.size,m.size] Y d/\
 ∃au:O,∃aL:Int,∃a3:Int,∃bj:Int,∃bC:O,ch=.agg #[O.v au,vi aL,vi a3,vi bj,O.v bC]/\
 let Z:E:=d.push (.cells (bt [.s aE,.i aX,.i bd,.i bu,.s bM,.s aF,.i aY,.i be,.i bv,.s bN,.s aG,.i aZ,.i bf,.i bw,.s bO,.s aH,.i aJ,.i a1,.i bx,.s bP,.s ar,.i aK,.i a2,.i bi,.s bB,.s au,.i aL,.i a3,.i bj,.s bC]) 175)
 let ab:E:=Z.push (.cells (bt [.i (0:Int)]) 3)
 aN cg 252 [O.v (O.mk Z.size 0 1 1),vi (0:Int)] ab λci A=>
 eF [b.size,m.size] ab A/\
 ∃av:O,∃aM:Int,∃a4:Int,∃bk:Int,∃bD:O,ci=.agg #[O.v av,vi aM,vi a4,vi bk,O.v bD]/\
 let ac:E:=A.push (.cells (bt [.i (0:Int),.i (0:Int)]) 3)
 aN cg 252 [O.v (O.mk A.size 0 2 2),vi (0:Int)] ac λcj B=>
 eF [b.size,m.size] ac B/\
 ∃aw:O,∃aO:Int,∃a5:Int,∃bl:Int,∃bE:O,cj=.agg #[O.v aw,vi aO,vi a5,vi bl,O.v bE]/\
 let ad:E:=B.push (.cells (bt [.i (1:Int),.i (0:Int)]) 3)
 aN cg 252 [O.v (O.mk B.size 0 2 2),vi (0:Int)] ad λck C=>
 eF [b.size,m.size] ad C/\
 ∃ax:O,∃aP:Int,∃a6:Int,∃bm:Int,∃bF:O,ck=.agg #[O.v ax,vi aP,vi a6,vi bm,O.v bF]/\
 let ae:E:=C.push (.cells (bt [.i (0:Int)]) 3)
 aN cg 252 [O.v (O.mk C.size 0 1 1),vi (1:Int)] ae λcl j=>
 eF [b.size,m.size] ae j/\
 ∃ay:O,∃aQ:Int,∃a7:Int,∃bn:Int,∃bG:O,cl=.agg #[O.v ay,vi aQ,vi a7,vi bn,O.v bG]/\
 let ag:E:=j.push (.cells (bt [.s av,.i aM,.i a4,.i bk,.s bD,.s aw,.i aO,.i a5,.i bl,.s bE,.s ax,.i aP,.i a6,.i bm,.s bF,.s ay,.i aQ,.i a7,.i bn,.s bG]) 175)
 let ai:E:=ag.push (.cells (bt []) 3)
 aN cg 252 [O.v (O.mk ag.size 0 0 0),vi (0:Int)] ai λcn D=>
 eF [b.size,m.size] ai D/\
 ∃az:O,∃aR:Int,∃a8:Int,∃bo:Int,∃bH:O,cn=.agg #[O.v az,vi aR,vi a8,vi bo,O.v bH]/\
 aN cg 44 [vp r.1 r.2,vi ((O.mk a.size 0 6 6).len:Int)] D λco k=>
 eF [b.size,m.size] D k/\
 ∃e:Int,co=vi e/\
 (0:Int)<=e/\e<((O.mk a.size 0 6 6).len:Int)/\
 ∃bR:O,af k ((O.mk a.size 0 6 6).D) ((O.mk a.size 0 6 6).off+Int.toNat e*5)=some (O.v bR)/\
 ∃bS:Int,af k ((O.mk a.size 0 6 6).D) ((O.mk a.size 0 6 6).off+Int.toNat e*5+1)=some (vi bS)/\
 ∃bT:Int,af k ((O.mk a.size 0 6 6).D) ((O.mk a.size 0 6 6).off+Int.toNat e*5+2)=some (vi bT)/\
 ∃bU:Int,af k ((O.mk a.size 0 6 6).D) ((O.mk a.size 0 6 6).off+Int.toNat e*5+3)=some (vi bU)/\
 ∃bV:O,af k ((O.mk a.size 0 6 6).D) ((O.mk a.size 0 6 6).off+Int.toNat e*5+4)=some (O.v bV)/\
 aN cg 44 [vp r.1 r.2,vi ((O.mk d.size 0 6 6).len:Int)] k λcp g=>
 eF [b.size,m.size] k g/\
 ∃i:Int,cp=vi i/\
 af g ((O.mk a.size 0 6 6).D) ((O.mk a.size 0 6 6).off+Int.toNat e*5)=af k ((O.mk a.size 0 6 6).D) ((O.mk a.size 0 6 6).off+Int.toNat e*5)/\
 af g ((O.mk a.size 0 6 6).D) ((O.mk a.size 0 6 6).off+Int.toNat e*5+1)=af k ((O.mk a.size 0 6 6).D) ((O.mk a.size 0 6 6).off+Int.toNat e*5+1)/\
 af g ((O.mk a.size 0 6 6).D) ((O.mk a.size 0 6 6).off+Int.toNat e*5+2)=af k ((O.mk a.size 0 6 6).D) ((O.mk a.size 0 6 6).off+Int.toNat e*5+2)/\
 af g ((O.mk a.size 0 6 6).D) ((O.mk a.size 0 6 6).off+Int.toNat e*5+3)=af k ((O.mk a.size 0 6 6).D) ((O.mk a.size 0 6 6).off+Int.toNat e*5+3)/\
 af g ((O.mk a.size 0 6 6).D) ((O.mk a.size 0 6 6).off+Int.toNat e*5+4)=af k ((O.mk a.size 0 6 6).D) ((O.mk a.size 0 6 6).off+Int.toNat e*5+4)/\
 (0:Int)<=i/\i<((O.mk d.size 0 6 6).len:Int)/\
 ∃bW:O,af g ((O.mk d.size 0 6 6).D) ((O.mk d.size 0 6 6).off+Int.toNat i*5)=some (O.v bW)/\
 ∃bX:Int,af g ((O.mk d.size 0 6 6).D) ((O.mk d.size 0 6 6).off+Int.toNat i*5+1)=some (vi bX)/\
 ∃bY:Int,af g ((O.mk d.size 0 6 6).D) ((O.mk d.size 0 6 6).off+Int.toNat i*5+2)=some (vi bY)/\
 ∃bZ:Int,af g ((O.mk d.size 0 6 6).D) ((O.mk d.size 0 6 6).off+Int.toNat i*5+3)=some (vi bZ)/\
 ∃b0:O,af g ((O.mk d.size 0 6 6).D) ((O.mk d.size 0 6 6).off+Int.toNat i*5+4)=some (O.v b0)/\
 aN cg 44 [vp r.1 r.2,vi ((O.mk j.size 0 4 4).len:Int)] g λcq c=>
 eF [b.size,m.size] g c/\
 ∃n:Int,cq=vi n/\
 af c ((O.mk d.size 0 6 6).D) ((O.mk d.size 0 6 6).off+Int.toNat i*5)=af g ((O.mk d.size 0 6 6).D) ((O.mk d.size 0 6 6).off+Int.toNat i*5)/\
 af c ((O.mk d.size 0 6 6).D) ((O.mk d.size 0 6 6).off+Int.toNat i*5+1)=af g ((O.mk d.size 0 6 6).D) ((O.mk d.size 0 6 6).off+Int.toNat i*5+1)/\
 af c ((O.mk d.size 0 6 6).D) ((O.mk d.size 0 6 6).off+Int.toNat i*5+2)=af g ((O.mk d.size 0 6 6).D) ((O.mk d.size 0 6 6).off+Int.toNat i*5+2)/\
 af c ((O.mk d.size 0 6 6).D) ((O.mk d.size 0 6 6).off+Int.toNat i*5+3)=af g ((O.mk d.size 0 6 6).D) ((O.mk d.size 0 6 6).off+Int.toNat i*5+3)/\
 af c ((O.mk d.size 0 6 6).D) ((O.mk d.size 0 6 6).off+Int.toNat i*5+4)=af g ((O.mk d.size 0 6 6).D) ((O.mk d.size 0 6 6).off+Int.toNat i*5+4)/\
 af c ((O.mk a.size 0 6 6).D) ((O.mk a.size 0 6 6).off+Int.toNat e*5)=af g ((O.mk a.size 0 6 6).D) ((O.mk a.size 0 6 6).off+Int.toNat e*5)/\
 af c ((O.mk a.size 0 6 6).D) ((O.mk a.size 0 6 6).off+Int.toNat e*5+1)=af g ((O.mk a.size 0 6 6).D) ((O.mk a.size 0 6 6).off+Int.toNat e*5+1)/\
 af c ((O.mk a.size 0 6 6).D) ((O.mk a.size 0 6 6).off+Int.toNat e*5+2)=af g ((O.mk a.size 0 6 6).D) ((O.mk a.size 0 6 6).off+Int.toNat e*5+2)/\
 af c ((O.mk a.size 0 6 6).D) ((O.mk a.size 0 6 6).off+Int.toNat e*5+3)=af g ((O.mk a.size 0 6 6).D) ((O.mk a.size 0 6 6).off+Int.toNat e*5+3)/\
 af c ((O.mk a.size 0 6 6).D) ((O.mk a.size 0 6 6).off+Int.toNat e*5+4)=af g ((O.mk a.size 0 6 6).D) ((O.mk a.size 0 6 6).off+Int.toNat e*5+4)/\
 (0:Int)<=n/\n<((O.mk j.size 0 4 4).len:Int)/\
 ∃b1:O,af c ((O.mk j.size 0 4 4).D) ((O.mk j.size 0 4 4).off+Int.toNat n*5)=some (O.v b1)/\
 ∃b2:Int,af c ((O.mk j.size 0 4 4).D) ((O.mk j.size 0 4 4).off+Int.toNat n*5+1)=some (vi b2)/\
 ∃b3:Int,af c ((O.mk j.size 0 4 4).D) ((O.mk j.size 0 4 4).off+Int.toNat n*5+2)=some (vi b3)/\
 ∃b4:Int,af c ((O.mk j.size 0 4 4).D) ((O.mk j.size 0 4 4).off+Int.toNat n*5+3)=some (vi b4)/\
 ∃b5:O,af c ((O.mk j.size 0 4 4).D) ((O.mk j.size 0 4 4).off+Int.toNat n*5+4)=some (O.v b5)/\
 let b8:E:=c.push (.cells (bt [.s az,.i aR,.i a8,.i bo,.s bH,.s bR,.i bS,.i bT,.i bU,.s bV,.s bW,.i bX,.i bY,.i bZ,.s b0,.s b1,.i b2,.i b3,.i b4,.s b5]) 175)
 Mt b.size b.size (
 let ak:E:=ah b8 b.size 1 [.s (O.mk c.size 0 4 4)]
 let al:E:=ak.push (.cells (bt [.i (4:Int),.i (4:Int),.i (3:Int),.i (2:Int),.i (4:Int)]) 3)
 aN cg 43 [vp r.1 r.2,O.v (O.mk ak.size 0 5 5)] al λcr am=>
 eF [b.size,m.size] al am/\
 ∃h:Int,cr=vi h/\
 Mt b.size b.size (
 (0:Int)<=(0:Int)/\(0:Int)<=h/\h<=((O.mk c.size 0 4 4).cap:Int)/\
 Mt b.size b.size (
 let b9:E:=ah am b.size 1 [.s (O.cut (O.mk c.size 0 4 4) (Int.toNat (0:Int)) (Int.toNat h) 5)]
 ∃(s:Int->E->Prop)(μ0:Int->E->Nat),
 s (cT (h -(1:Int))) b9/\
 (∀(f:Int)(p:E),s f p->
 ((decide (f>=(0:Int)))=true->
 Mt b.size b.size (
 aN cg 253 [vp r.1 r.2,.agg #[O.v o,O.v (O.cut (O.mk c.size 0 4 4) (Int.toNat (0:Int)) (Int.toNat h) 5)],vi f] p λcs l=>
 eF [b.size,m.size] p l/\
 ∃J:Int,∃K:Int,∃L:O,cs=.agg #[vi J,vi K,O.v L]/\
 let b_:E:=l.push (.cells (bt [.i (0:Int),.i (0:Int),.s O.nil]) 173)
 Mt l.size l.size (
 let q:E:=ah b_ l.size 0 [.i J,.i K,.s L]
 Mt b.size b.size (
 Mt b.size b.size (
 (0:Int)<=f/\f<((O.cut (O.mk c.size 0 4 4) (Int.toNat (0:Int)) (Int.toNat h) 5).len:Int)/\
 ∃b6:O,af q ((O.cut (O.mk c.size 0 4 4) (Int.toNat (0:Int)) (Int.toNat h) 5).D) ((O.cut (O.mk c.size 0 4 4) (Int.toNat (0:Int)) (Int.toNat h) 5).off+Int.toNat f*5)=some (O.v b6)/\
 Mt b.size b.size (
 (0:Int)<=f/\f<((O.cut (O.mk c.size 0 4 4) (Int.toNat (0:Int)) (Int.toNat h) 5).len:Int)/\
 ∃bQ:Int,af q ((O.cut (O.mk c.size 0 4 4) (Int.toNat (0:Int)) (Int.toNat h) 5).D) ((O.cut (O.mk c.size 0 4 4) (Int.toNat (0:Int)) (Int.toNat h) 5).off+Int.toNat f*5+1)=some (vi bQ)/\
 Mt l.size l.size (
 (0:Int)<=f/\f<((O.cut (O.mk c.size 0 4 4) (Int.toNat (0:Int)) (Int.toNat h) 5).len:Int)/\
 fJ q ((O.cut (O.mk c.size 0 4 4) (Int.toNat (0:Int)) (Int.toNat h) 5).D) ((O.cut (O.mk c.size 0 4 4) (Int.toNat (0:Int)) (Int.toNat h) 5).off+Int.toNat f*5) 5/\
 let G:E:=ah q ((O.cut (O.mk c.size 0 4 4) (Int.toNat (0:Int)) (Int.toNat h) 5).D) ((O.cut (O.mk c.size 0 4 4) (Int.toNat (0:Int)) (Int.toNat h) 5).off+Int.toNat f*5) [.s b6,.i bQ,.i J,.i K,.s L]
 eF [l.size,b.size,m.size] q G/\
 WW (SV.box b.size 124 [.s o,.s (O.cut (O.mk c.size 0 4 4) (Int.toNat (0:Int)) (Int.toNat h) 5)]) (SV.box b.size 124 [.s o,.s (O.cut (O.mk c.size 0 4 4) (Int.toNat (0:Int)) (Int.toNat h) 5)]) (
 WW (SV.box m.size 124 [.s O.nil,.s O.nil]) (SV.box m.size 124 [.s O.nil,.s O.nil]) (
 s (cT (f -(1:Int))) G/\μ0 (cT (f -(1:Int))) G<μ0 f p)))))))))/\
 ((decide (f>=(0:Int)))=false->
 Mt b.size b.size (
 Mt m.size m.size (
 let l:E:=ah p m.size 0 [.s o,.s (O.cut (O.mk c.size 0 4 4) (Int.toNat (0:Int)) (Int.toNat h) 5)]
 Mt m.size m.size (
 R (.agg #[O.v o,O.v (O.cut (O.mk c.size 0 4 4) (Int.toNat (0:Int)) (Int.toNat h) 5)]) l)))))))))
def xh(r:Nat×Nat)(m:E)(R:Value->E->Prop)(a:sa r m R):aN cg 239 [vp r.1 r.2] m R:=
 xL (o:=⟨[(9,[(8,.I)])],[],[(9,[113,112])]⟩) (d:=110) (r:=[.cell 2 124]) (a:=[.c (.p r.1 r.2)]) OU Zm Zn Tryz.func239 (m:=Og Tryz.f239) (by kernel_rfl) (by kernel_rfl) (by kernel_rfl) (by kernel_rfl) aL (by kernel_rfl) (Eq.mp (by kernel_rfl) a)
def CM(a:O):=cY m R ⟨[(3,[(4,.I)]),(7,[(5,.S),(6,.I)])],[],[(3,[35,34]),(7,[35,34])]⟩ [.agg [a,b]] func240
def Az(a:O):=cY m R ⟨[(5,[(6,.S),(7,.S),(8,.I)])],[],[(5,[69,68,67])]⟩ [.agg [a,b],.agg [p,d,i,e,j]] func241
def AP(a:O):=cY m R ⟨[(5,[(9,.S),(10,.S),(11,.S),(12,.I)])],[],[(5,[88,86,84])]⟩ [.agg [a,b],p,.agg [d,i],e] func242
def Ba(a:O):=cY m R ⟨[(3,[(3,.S),(4,.I)])],[],[(3,[32])]⟩ [.agg [a,b,i,p,j]] func243
def xH(a:O):=cY m R ⟨[(4,[(3,.I)])],[],[(4,[36])]⟩ [.agg [a,b]] func244
def AU(a:O):=cY m R ⟨[(3,[(4,.I)])],[],[(3,[46])]⟩ [.agg [a,b,i,p,j]] func245
def xr(c:Nat×Nat):=cY m R ⟨[],[(16,[(8,.T)])],[(16,[94,93])]⟩ [c,.agg [a,b],.agg [i,j,k,p,d]] func246
def Gy(i:Int):=cY m R A0 [.agg [i,j,k,a,b]] func247
def CY(a:O):=cY m R ⟨[(5,[(3,.S),(4,.S),(6,.I)]),(8,[(3,.S),(7,.I)]),(11,[(4,.S),(7,.I)])],[],[]⟩ [a] func248
def EF(a:O):=cY m R ⟨[(8,[(10,.S),(11,.S),(12,.I)])],[],[(8,[96,92])]⟩ [.agg [a,i],j,b,k] func249
def CW(a:O):=cY m R A0 [.agg [a,b],.agg [i,j,k,p,d],l,e] func250
def yQ(a:O):=cY m R A0 [.agg [a,b],.agg [i,j,p],d,k] func251
def LU(a:O):=cY m R A0 [a,i] func252
def Gi(p:Nat×Nat):=cY m R ⟨[],[(7,[(34,.T)]),(9,[(51,.T)]),(11,[(77,.T)]),(15,[])],[(7,[131,127,125]),(9,[131,127,125]),(11,[131,127,125]),(15,[127,125])]⟩ [p,.agg [a,b],i] func253
def Df(a:O):=cY m R ⟨[(3,[(6,.I)])],[],[(3,[49,47])]⟩ [.agg [a,b],p] func254
def yH(a:O):=cY m R ⟨[(3,[(3,.S),(4,.I)])],[],[(3,[32])]⟩ [.agg [a,b]] func255
def CJ(a:O):=cY m R ⟨[(3,[(5,.S),(6,.I)])],[],[(3,[52])]⟩ [.agg [a,b],i] func256
end
end Go.Proofs.YtkicoahejfbjhaaGreat
