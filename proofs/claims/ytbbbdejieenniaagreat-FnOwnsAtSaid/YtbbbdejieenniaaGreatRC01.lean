/- Part of a proof. -/
import Derived.Test.YtbbbdejieenniaaGreatRC00
set_option linter.all false
set_option maxHeartbeats 8000000
set_option maxRecDepth 100000
namespace Go.Proofs.YtbbbdejieenniaaGreat
open Go.Vc
section
open Tryz
variable{m:bh}{R:aj}
variable{a b p d e f g h r u v w x y z B:E}{i j k l q o s t C D F G H I J K:Int}
def vG(a b:Int)(c:Bool)(d e f:Int):=eN m R A0 [.agg [a,b,.t c,d,e,f]] func238
def vH(i:Int):=eN m R A0 [i] func239
def BH(p:ai):=eN m R A0 [p,i] func240
def DC(a:E):=eN m R A0 [a,i,j] func241
def Fo(a:E):=eN m R ⟨[(3,[(4,.I)])],[(8,[(7,.P)])],[(3,[51,50]),(8,[54,51,50])]⟩ [.agg [a,b]] func242
def wi(r:ai)(m:bh)(R:aj):Prop:=
 let M:bh:=m.push (.cells (db [.s E.nil,.s E.nil]) 109)
 bK dO 200 [vp r.1 r.2] M λcb a=>
 gS [m.size] M a/\
 ∃o,cb=E.v o/\
 let b8:bh:=a.push (.cells (db [.s E.nil,.s E.nil]) 109)
 OW a.size a.size (
 let Z:bh:=aV b8 a.size 0 [.s o,.s E.nil]
 let ag:bh:=Z.push (.cells (db [.i 1]) 3)
 bK dO 257 [E.v (E.mk Z.size 0 1 1),vi 0] ag λcm F=>
 gS [a.size,m.size] ag F/\
 ∃ao aH a0 bg bz,cm=.agg #[E.v ao,vi aH,vi a0,vi bg,E.v bz]/\
 let am:bh:=F.push (.cells (db [.i 1,.i 1]) 3)
 bK dO 257 [E.v (E.mk F.size 0 2 2),vi 1] am λct H=>
 gS [a.size,m.size] am H/\
 ∃ap aQ a9 bi bA,ct=.agg #[E.v ap,vi aQ,vi a9,vi bi,E.v bA]/\
 let an:bh:=H.push (.cells (db [.i 1]) 3)
 bK dO 257 [E.v (E.mk H.size 0 1 1),vi 1] an λcu I=>
 gS [a.size,m.size] an I/\
 ∃az aR a_ bq bI,cu=.agg #[E.v az,vi aR,vi a_,vi bq,E.v bI]/\
 let N:bh:=I.push (.cells (db [.i 1,.i 0]) 3)
 bK dO 257 [E.v (E.mk I.size 0 2 2),vi 1] N λcv t=>
 gS [a.size,m.size] N t/\
 ∃aA aT ba br bJ,cv=.agg #[E.v aA,vi aT,vi ba,vi br,E.v bJ]/\
 let O:bh:=t.push (.cells (db [.i 2,.i 1]) 3)
 bK dO 257 [E.v (E.mk t.size 0 2 2),vi 1] O λcw u=>
 gS [a.size,m.size] O u/\
 ∃aB aU bb bs bL,cw=.agg #[E.v aB,vi aU,vi bb,vi bs,E.v bL]/\
 let P:bh:=u.push (.cells (db [.i 1,.i 1]) 3)
 bK dO 257 [E.v (E.mk u.size 0 2 2),vi 0] P λcx c=>
 gS [a.size,m.size] P c/\
 ∃aC aW bc bt bM,cx=.agg #[E.v aC,vi aW,vi bc,vi bt,E.v bM]/\
 let Q:bh:=c.push (.cells (db [.s ao,.i aH,.i a0,.i bg,.s bz,.s ap,.i aQ,.i a9,.i bi,.s bA,.s az,.i aR,.i a_,.i bq,.s bI,.s aA,.i aT,.i ba,.i br,.s bJ,.s aB,.i aU,.i bb,.i bs,.s bL,.s aC,.i aW,.i bc,.i bt,.s bM]) 164)
 let S:bh:=Q.push (.cells (db [.i 3]) 3)
 bK dO 257 [E.v (E.mk Q.size 0 1 1),vi 0] S λcc v=>
 gS [a.size,m.size] S v/\
 ∃aD aX bd bu bN,cc=.agg #[E.v aD,vi aX,vi bd,vi bu,E.v bN]/\
 let T:bh:=v.push (.cells (db [.i 0]) 3)
 bK dO 257 [E.v (E.mk v.size 0 1 1),vi 1] T λcd w=>
 gS [a.size,m.size] T w/\
 ∃aE aY be bv bO,cd=.agg #[E.v aE,vi aY,vi be,vi bv,E.v bO]/\
 let U:bh:=w.push (.cells (db [.i 0,.i 1]) 3)
 bK dO 257 [E.v (E.mk w.size 0 2 2),vi 1] U λce x=>
 gS [a.size,m.size] U x/\
 ∃aF aZ bf bw bP,ce=.agg #[E.v aF,vi aZ,vi bf,vi bw,E.v bP]/\
 let V:bh:=x.push (.cells (db [.i 3,.i 0]) 3)
 bK dO 257 [E.v (E.mk x.size 0 2 2),vi 3] V λcf y=>
 gS [a.size,m.size] V y/\
 ∃aG aI a1 bx bQ,cf=.agg #[E.v aG,vi aI,vi a1,vi bx,E.v bQ]/\
 let W:bh:=y.push (.cells (db [.i 3]) 3)
 bK dO 257 [E.v (E.mk y.size 0 1 1),vi 1] W λcg z=>
 gS [a.size,m.size] W z/\
 ∃aq aJ a2 bj bB,cg=.agg #[E.v aq,vi aJ,vi a2,vi bj,E.v bB]/\
 let X:bh:=z.push (.cells (db [.i 1,.i 3,.i 0]) 3)
 bK dO 257 [E.v (E.mk z.size 0 3 3),vi 0] X λch g=>
 gS [a.size,m.size] X g/\
 ∃ar aK a3 bk bC,ch=.agg #[E.v ar,vi aK,vi a3,vi bk,E.v bC]/\
 let Y:bh:=g.push (.cells (db [.s aD,.i aX,.i bd,.i bu,.s bN,.s aE,.i aY,.i be,.i bv,.s bO,.s aF,.i aZ,.i bf,.i bw,.s bP,.s aG,.i aI,.i a1,.i bx,.s bQ,.s aq,.i aJ,.i a2,.i bj,.s bB,.s ar,.i aK,.i a3,.i bk,.s bC]) 164)
 let aa:bh:=Y.push (.cells (db [.i 0]) 3)
 bK dO 257 [E.v (E.mk Y.size 0 1 1),vi 0] aa λci A=>
 gS [a.size,m.size] aa A/\
 ∃au aL a4 bl bD,ci=.agg #[E.v au,vi aL,vi a4,vi bl,E.v bD]/\
 let ab:bh:=A.push (.cells (db [.i 0,.i 0]) 3)
 bK dO 257 [E.v (E.mk A.size 0 2 2),vi 0] ab λcj B=>
 gS [a.size,m.size] ab B/\
 ∃av aM a5 bm bE,cj=.agg #[E.v av,vi aM,vi a5,vi bm,E.v bE]/\
 let ac:bh:=B.push (.cells (db [.i 1,.i 0]) 3)
 bK dO 257 [E.v (E.mk B.size 0 2 2),vi 0] ac λck C=>
 gS [a.size,m.size] ac C/\
 ∃aw aN a6 bn bF,ck=.agg #[E.v aw,vi aN,vi a6,vi bn,E.v bF]/\
 let ad:bh:=C.push (.cells (db [.i 0]) 3)
 bK dO 257 [E.v (E.mk C.size 0 1 1),vi 1] ad λcl k=>
 gS [a.size,m.size] ad k/\
 ∃ax aO a7 bo bG,cl=.agg #[E.v ax,vi aO,vi a7,vi bo,E.v bG]/\
 let ae:bh:=k.push (.cells (db [.s au,.i aL,.i a4,.i bl,.s bD,.s av,.i aM,.i a5,.i bm,.s bE,.s aw,.i aN,.i a6,.i bn,.s bF,.s ax,.i aO,.i a7,.i bo,.s bG]) 164)
 let af:bh:=ae.push (.cells (db []) 3)
 bK dO 257 [E.v (E.mk ae.size 0 0 0),vi 0] af λcn D=>
 gS [a.size,m.size] af D/\
 ∃ay aP a8 bp bH,cn=.agg #[E.v ay,vi aP,vi a8,vi bp,E.v bH]/\
 bK dO 74 [vp r.1 r.2,vi ((E.mk c.size 0 6 6).len:Int)] D λco i=>
 gS [a.size,m.size] D i/\
 ∃d,co=vi d/\
 0<=d/\d<((E.mk c.size 0 6 6).len:Int)/\
 ∃bS,aS i c.size (0+Int.toNat d*5)=some (E.v bS)/\
 ∃bT,aS i c.size (0+Int.toNat d*5+1)=some (vi bT)/\
 ∃bU,aS i c.size (0+Int.toNat d*5+2)=some (vi bU)/\
 ∃bV,aS i c.size (0+Int.toNat d*5+3)=some (vi bV)/\
 ∃bW,aS i c.size (0+Int.toNat d*5+4)=some (E.v bW)/\
 bK dO 74 [vp r.1 r.2,vi ((E.mk g.size 0 6 6).len:Int)] i λcp e=>
 gS [a.size,m.size] i e/\
 ∃h,cp=vi h/\
 aS e c.size (0+Int.toNat d*5)=aS i c.size (0+Int.toNat d*5)/\
 aS e c.size (0+Int.toNat d*5+1)=aS i c.size (0+Int.toNat d*5+1)/\
 aS e c.size (0+Int.toNat d*5+2)=aS i c.size (0+Int.toNat d*5+2)/\
 aS e c.size (0+Int.toNat d*5+3)=aS i c.size (0+Int.toNat d*5+3)/\
 aS e c.size (0+Int.toNat d*5+4)=aS i c.size (0+Int.toNat d*5+4)/\
 0<=h/\h<((E.mk g.size 0 6 6).len:Int)/\
 ∃bX,aS e g.size (0+Int.toNat h*5)=some (E.v bX)/\
 ∃bY,aS e g.size (0+Int.toNat h*5+1)=some (vi bY)/\
 ∃bZ,aS e g.size (0+Int.toNat h*5+2)=some (vi bZ)/\
 ∃b0,aS e g.size (0+Int.toNat h*5+3)=some (vi b0)/\
 ∃b1,aS e g.size (0+Int.toNat h*5+4)=some (E.v b1)/\
 bK dO 74 [vp r.1 r.2,vi ((E.mk k.size 0 4 4).len:Int)] e λcq b=>
 gS [a.size,m.size] e b/\
 ∃n,cq=vi n/\
 aS b g.size (0+Int.toNat h*5)=aS e g.size (0+Int.toNat h*5)/\
 aS b g.size (0+Int.toNat h*5+1)=aS e g.size (0+Int.toNat h*5+1)/\
 aS b g.size (0+Int.toNat h*5+2)=aS e g.size (0+Int.toNat h*5+2)/\
 aS b g.size (0+Int.toNat h*5+3)=aS e g.size (0+Int.toNat h*5+3)/\
 aS b g.size (0+Int.toNat h*5+4)=aS e g.size (0+Int.toNat h*5+4)/\
 aS b c.size (0+Int.toNat d*5)=aS e c.size (0+Int.toNat d*5)/\
 aS b c.size (0+Int.toNat d*5+1)=aS e c.size (0+Int.toNat d*5+1)/\
 aS b c.size (0+Int.toNat d*5+2)=aS e c.size (0+Int.toNat d*5+2)/\
 aS b c.size (0+Int.toNat d*5+3)=aS e c.size (0+Int.toNat d*5+3)/\
 aS b c.size (0+Int.toNat d*5+4)=aS e c.size (0+Int.toNat d*5+4)/\
 0<=n/\n<((E.mk k.size 0 4 4).len:Int)/\
 ∃b2,aS b k.size (0+Int.toNat n*5)=some (E.v b2)/\
 ∃b3,aS b k.size (0+Int.toNat n*5+1)=some (vi b3)/\
 ∃b4,aS b k.size (0+Int.toNat n*5+2)=some (vi b4)/\
 ∃b5,aS b k.size (0+Int.toNat n*5+3)=some (vi b5)/\
 ∃b6,aS b k.size (0+Int.toNat n*5+4)=some (E.v b6)/\
 let b9:bh:=b.push (.cells (db [.s ay,.i aP,.i a8,.i bp,.s bH,.s bS,.i bT,.i bU,.i bV,.s bW,.s bX,.i bY,.i bZ,.i b0,.s b1,.s b2,.i b3,.i b4,.i b5,.s b6]) 164)
 OW a.size a.size (
 let ah:bh:=aV b9 a.size 1 [.s (E.mk b.size 0 4 4)]
 let ak:bh:=ah.push (.cells (db [.i 4,.i 4,.i 3,.i 2,.i 4]) 3)
 bK dO 77 [vp r.1 r.2,E.v (E.mk ah.size 0 5 5)] ak λcr al=>
 gS [a.size,m.size] ak al/\
 ∃j,cr=vi j/\
 OW a.size a.size (
 (0:Int)<=0/\0<=j/\j<=((E.mk b.size 0 4 4).cap:Int)/\
 OW a.size a.size (
 let b_:bh:=aV al a.size 1 [.s (E.cut (E.mk b.size 0 4 4) 0 (Int.toNat j) 5)]
 ∃(s:Int->bh->Prop)(μ0:Int->bh->Nat),
 s (eI (j -1)) b_/\
 (∀(f:Int)(p:bh),s f p->
 (decide (f>=0)=true->
 OW a.size a.size (
 bK dO 258 [vp r.1 r.2,.agg #[E.v o,E.v (E.cut (E.mk b.size 0 4 4) 0 (Int.toNat j) 5)],vi f] p λcs l=>
 gS [a.size,m.size] p l/\
 ∃J K L,cs=.agg #[vi J,vi K,E.v L]/\
 let ca:bh:=l.push (.cells (db [.i 0,.i 0,.s E.nil]) 162)
 OW l.size l.size (
 let q:bh:=aV ca l.size 0 [.i J,.i K,.s L]
 OW a.size a.size (
 OW a.size a.size (
 0<=f/\f<((E.cut (E.mk b.size 0 4 4) 0 (Int.toNat j) 5).len:Int)/\
 ∃b7,aS q b.size (0+Int.toNat f*5)=some (E.v b7)/\
 OW a.size a.size (
 0<=f/\f<((E.cut (E.mk b.size 0 4 4) 0 (Int.toNat j) 5).len:Int)/\
 ∃bR,aS q b.size (0+Int.toNat f*5+1)=some (vi bR)/\
 OW l.size l.size (
 0<=f/\f<((E.cut (E.mk b.size 0 4 4) 0 (Int.toNat j) 5).len:Int)/\
 jb q b.size (0+Int.toNat f*5) 5/\
 let G:bh:=aV q b.size (0+Int.toNat f*5) [.s b7,.i bR,.i J,.i K,.s L]
 gS [l.size,a.size,m.size] q G/\
 eqS (SV.box a.size 109 [.s o,.s (E.cut (E.mk b.size 0 4 4) 0 (Int.toNat j) 5)]) (SV.box a.size 109 [.s o,.s (E.cut (E.mk b.size 0 4 4) 0 (Int.toNat j) 5)]) (
 eqS (SV.box m.size 109 [.s E.nil,.s E.nil]) (SV.box m.size 109 [.s E.nil,.s E.nil]) (
 s (eI (f -1)) G/\μ0 (eI (f -1)) G<μ0 f p)))))))))/\
 (decide (f>=0)=false->
 OW a.size a.size (
 OW m.size m.size (
 let l:bh:=aV p m.size 0 [.s o,.s (E.cut (E.mk b.size 0 4 4) 0 (Int.toNat j) 5)]
 OW m.size m.size (
 R (.agg #[E.v o,E.v (E.cut (E.mk b.size 0 4 4) 0 (Int.toNat j) 5)]) l)))))))))
def BK(r:ai)(m:bh)(R:aj)(a:wi r m R):bK dO 243 [vp r.1 r.2] m R:=
 xY (o:=⟨[(9,[(8,.I)])],[],[(9,[113,112])]⟩) (d:=110) (r:=[.cell 2 109]) (a:=[.c (.p r.1 r.2)]) Q0 gok mix Tryz.func243 (m:=Pw Tryz.f243) (by kernel_rfl) (by kernel_rfl) (by kernel_rfl) (by kernel_rfl) bO (by kernel_rfl) (Eq.mp (by kernel_rfl) a)
def Hj(a:E):=eN m R ⟨[(3,[(4,.I)]),(7,[(5,.S),(6,.I)])],[],[(3,[35,34]),(7,[35,34])]⟩ [.agg [a,b]] func244
def ET(a:E):=eN m R ⟨[(5,[(6,.S),(7,.S),(8,.I)])],[],[(5,[69,68,67])]⟩ [.agg [a,b],.agg [p,d,i,e,j]] func245
def Ff(a:E):=eN m R ⟨[(5,[(9,.S),(10,.S),(11,.S),(12,.I)])],[],[(5,[88,86,84])]⟩ [.agg [a,b],p,.agg [d,i],e] func246
def Fs(a:E):=eN m R ⟨[(3,[(3,.S),(4,.I)])],[],[(3,[32])]⟩ [.agg [a,b,i,p,j]] func247
def Cc(a:E):=eN m R ⟨[(4,[(3,.I)])],[],[(4,[36])]⟩ [.agg [a,b]] func248
def Fi(a:E):=eN m R ⟨[(3,[(4,.I)])],[],[(3,[46])]⟩ [.agg [a,b,i,p,j]] func249
def BP(c:ai):=eN m R ⟨[],[(16,[(8,.T)])],[(16,[94,93])]⟩ [c,.agg [a,b],.agg [i,j,k,p,d]] func250
def Lb(i:Int):=eN m R A0 [.agg [i,j,k,a,b]] func251
def Hu(a:E):=eN m R ⟨[(5,[(3,.S),(4,.S),(6,.I)]),(8,[(3,.S),(7,.I)]),(11,[(4,.S),(7,.I)])],[],[]⟩ [a] func252
def Ju(a:E):=eN m R ⟨[(8,[(10,.S),(11,.S),(12,.I)])],[],[(8,[96,92])]⟩ [.agg [a,i],j,b,k] func253
def Hs(a:E):=eN m R A0 [.agg [a,b],.agg [i,j,k,p,d],l,e] func254
def ns(s:E)(f:Fn×Array Value×Array Value):=eN m R ⟨[(2,[(8,.I)])],[],[]⟩ [s,.c (.fv f)] func255
def Dq(a:E):=eN m R A0 [.agg [a,b],.agg [i,j,p],d,k] func256
def QU(a:E):=eN m R A0 [a,i] func257
def KO(p:ai):=eN m R ⟨[],[(7,[(34,.T)]),(9,[(51,.T)]),(11,[(77,.T)]),(15,[])],[(7,[131,127,125]),(9,[131,127,125]),(11,[131,127,125]),(15,[127,125])]⟩ [p,.agg [a,b],i] func258
def HF(a:E):=eN m R ⟨[(3,[(6,.I)])],[],[(3,[49,47])]⟩ [.agg [a,b],p] func259
def Dg(a:E):=eN m R ⟨[(3,[(3,.S),(4,.I)])],[],[(3,[32])]⟩ [.agg [a,b]] func260
def Hg(a:E):=eN m R ⟨[(3,[(5,.S),(6,.I)])],[],[(3,[52])]⟩ [.agg [a,b],i] func261
def Lm(a:E):=eN m R A0 [.agg [a,i],j] func262
def Di(a:E):=eN m R ⟨[(5,[(11,.S),(12,.S),(13,.S),(14,.I)]),(17,[(13,.S),(20,.I)])],[],[(5,[159,156,154]),(17,[164,159,156,154])]⟩ [.agg [a,b],p,.agg [d,i],e,f] func263
def EV(i:Int):=eN m R ⟨[(3,[(5,.S),(6,.I)])],[],[]⟩ [i,a] func264
def Hz(a:E):=eN m R ⟨[],[(3,[]),(30,[(151,.T)])],[(3,[188,186]),(30,[188,186])]⟩ [.agg [a,b],p,.agg [i,j,k,d,e]] func265
def yw(a:E):=eN m R ⟨[(3,[(7,.S),(8,.I)])],[],[(3,[36,34])]⟩ [.agg [a,b],p,.agg [i,j,k,d,e]] func266
def Hi(a:E):=eN m R ⟨[(4,[(7,.S),(9,.I)])],[(9,[(10,.S)])],[(4,[78,77,75]),(9,[78,77,75])]⟩ [.agg [a,b],p,.agg [i,j,k,d,e]] func267
def xP(a:E):=eN m R ⟨[(4,[(3,.I)])],[],[(4,[36])]⟩ [.agg [a,b]] func268
def JC(a:E):=eN m R A0 [.agg [a,i]] func269
def EM(a:E):=eN m R ⟨[(3,[(7,.S),(8,.I)])],[],[(3,[57,55])]⟩ [.agg [a,b],p,.agg [d,i]] func270
def BN(p:ai):=eN m R A0 [p,i,j,k] func271
def BQ(p:ai):=eN m R A0 [p,i] func272
def BO(c:ai):=eN m R ⟨[(6,[(9,.I)])],[(4,[])],[(4,[110,109]),(6,[110,109])]⟩ [c,.agg [a,b],.agg [i,j,k,p,d]] func273
def zB(c:ai):=eN m R ⟨[(7,[(9,.I)])],[(3,[])],[(3,[93,92]),(7,[93,92])]⟩ [c,.agg [a,b],.agg [i,j,k,p,d]] func274
def xJ(c:ai):=eN m R ⟨[(2,[(7,.I)]),(7,[(8,.I)])],[],[(2,[84,83]),(7,[84,83])]⟩ [c,.agg [a,b],.agg [i,j,k,p,d]] func275
def Lr(a:E):=eN m R ⟨[(3,[(3,.S),(4,.I)])],[],[]⟩ [a] func276
def MM(a:E):=eN m R ⟨[(3,[(5,.I),(6,.I)])],[],[]⟩ [a,i] func277
def Fw(a:E):=eN m R ⟨[(2,[(3,.I)])],[],[(2,[21])]⟩ [.agg [a,i]] func278
def GQ(a:E):=eN m R ⟨[(3,[(7,.S),(8,.I)])],[],[(3,[38])]⟩ [.agg [a,i],j,k] func279
def AN(a:E):=eN m R ⟨[(4,[(5,.S),(6,.T),(7,.I)])],[],[]⟩ [a,i] func280
def Hr(a:E):=eN m R A0 [.agg [a,i],j,k] func281
def Dm(a:E):=eN m R ⟨[(2,[(3,.I)])],[],[(2,[22])]⟩ [.agg [a,i]] func282
def Ll(a:E):=eN m R ⟨[(2,[(9,.I)])],[],[(2,[40])]⟩ [.agg [a,i],j,k,l] func283
def KY(a:E):=eN m R ⟨[(4,[(5,.S),(6,.T),(7,.I)])],[],[]⟩ [a,i] func284
def yy(c:ai):=eN m R ⟨[(13,[(11,.S),(13,.I)]),(22,[(15,.S),(16,.I)])],[(18,[(14,.I)])],[(13,[154,153]),(18,[154,153]),(22,[154,153])]⟩ [c,.agg [a,b],.agg [i,j,p],d] func285
def Jw(a:E):=eN m R ⟨[(2,[(5,.I)])],[],[]⟩ [a,i] func286
def Jn(i:Int):=eN m R A0 [i] func287
def Hk(p:ai):=eN m R ⟨[],[(5,[])],[(5,[31,30])]⟩ [p,.agg [a,b]] func288
def Hm(p:ai):=eN m R ⟨[(6,[(12,.S),(13,.I)])],[(19,[]),(22,[])],[(6,[144,141]),(19,[151,150,144,141]),(22,[150,144,141])]⟩ [p,.agg [a,b],i,j] func289
def Ho(p:ai):=afp m R ⟨[(6,[(9,.S),(10,.S),(11,.I)])],[(13,[(14,.P)]),(15,[])],[(6,[102,100]),(13,[109,108,102,100]),(15,[109,108,102,100])]⟩ [p,.agg [a,b],i] func290
def Ha(p:ai):=eN m R ⟨[(4,[(8,.S),(9,.I)])],[(10,[])],[(4,[81,79]),(10,[81,79])]⟩ [p,.agg [a,b],i] func291
def Ji(c:ai):=eN m R ⟨[(2,[(4,.I)])],[],[(2,[44,40])]⟩ [c,.agg [a,b],p,i,j] func292
def Jt(i:Int):=eN m R A0 [.agg [i,j,a]] func293
def vk(a:E):=eN m R ⟨[(3,[(4,.I)])],[],[(3,[30,29])]⟩ [.agg [a,i]] func294
def Hf(a:E):=eN m R ⟨[(2,[(5,.I)])],[],[(2,[23])]⟩ [.agg [a,b],i] func295
def zy(a:E):=eN m R ⟨[(4,[(7,.I)]),(8,[(9,.I)]),(13,[(10,.I)])],[],[(4,[72,71]),(8,[76,72,71]),(13,[76,72,71])]⟩ [.agg [a,b],.agg [p,i],j] func296
def I6(a:E):=eN m R ⟨[(2,[(3,.S),(9,.I)])],[],[(2,[44])]⟩ [.agg [a,i],j,k,b] func297
def Nb(a:E):=eN m R ⟨[(3,[(5,.S),(6,.I)])],[],[]⟩ [a,b] func298
def Dj(a:E):=eN m R ⟨[(3,[(11,.S),(12,.I)])],[],[(3,[50,48])]⟩ [.agg [a,b],p,.agg [i,j,k,d,e],f,g] func299
def EU(a:E):=eN m R ⟨[(4,[(11,.S),(13,.I)])],[],[(4,[72,69,67])]⟩ [.agg [a,b],p,.agg [i,j,k,d,e],f,g] func300
def Fg(a:E):=eN m R ⟨[(5,[(11,.S),(12,.I)])],[],[(5,[62,60])]⟩ [.agg [a,b],p,.agg [i,j,k,d,e],f,g] func301
def Fh(a:E):=eN m R ⟨[(3,[(9,.S),(10,.I)])],[],[(3,[55,54])]⟩ [.agg [a,b],.agg [i,j,k,p,d],e,f] func302
def JK(a:E):=eN m R ⟨[(3,[(5,.S),(6,.I)])],[],[]⟩ [a,i] func303
def KX(i:Int):=eN m R A0 [i] func304
def FG(a:E):=eN m R A0 [a,.agg [i,j,k,b,p]] func305
def Na(a:E):=eN m R ⟨[(4,[(7,.I)])],[],[]⟩ [a,b,p] func306
def Hh(a:E):=eN m R ⟨[(9,[(9,.I),(10,.I)])],[(5,[(8,.I)])],[(5,[76,74]),(9,[76,74])]⟩ [.agg [a,b],p,.agg [i,j,k,d,e]] func307
def BV(a:E):=eN m R A0 [.agg [a,b],p,.agg [i,j,k,d,e]] func308
def Jo(a:E):=eN m R A0 [a,i] func309
def Ay(a:E):=eN m R A0 [.agg [a,b],p,.agg [i,j,k,d,e]] func310
def Dk(a:E):=eN m R A0 [.agg [a,b],p,.agg [i,j,k,d,e],l] func311
def Lj(a:E):=eN m R ⟨[(3,[(4,.I)])],[],[(3,[37,36])]⟩ [.agg [a,b]] func312
def FA(a:E):=eN m R ⟨[(2,[(1,.I),(5,.I)]),(8,[(1,.I),(6,.I)])],[],[(2,[45]),(8,[45])]⟩ [.agg [a,i],j] func313
def Dp(c:ai):=eN m R ⟨[(9,[(14,.I)])],[],[(9,[89,88])]⟩ [c,.agg [a,b],.agg [i,j,k,p,d],l] func314
def Lc(a:E):=eN m R A0 [.agg [a,b],.agg [i,j,k,p,d],l] func315
def MB(a:E):=eN m R ⟨[(2,[(7,.I)])],[],[(2,[47])]⟩ [.agg [a,i],j,k] func316
def Dl(i:Int):=eN m R A0 [i] func317
def AF(p:ai):=eN m R A0 [p,.agg [i,j,k,a,b]] func318
def QO(c:ai):=eN m R A0 [c,.agg [a,b],p,i,j] func319
def OE(i:Int):=eN m R A0 [i,j,a] func320
def Js(p:ai):=eN m R ⟨[(8,[(9,.I)])],[(5,[(7,.P)])],[(5,[51,50,49]),(8,[50,49])]⟩ [p,i] func321
def HB(i:Int):=eN m R A0 [i] func322
def OA(c:ai):=eN m R A0 [c,.agg [a,b],p,i] func323
def Fk(i:Int):=eN m R ⟨[(5,[(1,.I),(5,.I)])],[],[(5,[29])]⟩ [.agg [i,j,a],k] func324
def G5(i:Int):=eN m R ⟨[(3,[(3,.S),(4,.I)])],[],[(3,[35,34])]⟩ [.agg [i,j,k,a,b]] func325
def GY(a:E):=eN m R ⟨[(2,[(5,.I)]),(7,[(6,.I)])],[],[(2,[55]),(7,[55])]⟩ [.agg [a,i],j] func326
def BD(i:Int):=eN m R ⟨[(4,[(2,.S),(7,.I)]),(9,[(2,.S),(8,.I)])],[],[(4,[61]),(9,[61])]⟩ [.agg [i,j,k,a,b],l,p] func327
def Jp(a:E):=eN m R A0 [.agg [a,b],.agg [i,j,k,p,d],l,e,f] func328
def G6(a:E):=eN m R ⟨[(7,[(16,.S),(17,.S),(18,.I)]),(14,[(19,.S),(20,.I)])],[],[(7,[127,124,121]),(14,[127,124,121])]⟩ [.agg [a,b],p,d,.agg [e,i],f,g] func329
def KQ(a:E):=eN m R ⟨[(3,[(5,.S),(6,.I)])],[],[]⟩ [a,b] func330
def Ja(a:E):=eN m R ⟨[(2,[(7,.I)])],[],[]⟩ [a,i,j] func331
def zC(p:ai):=eN m R A0 [p] func332
def AB(c:ai):=eN m R ⟨[(2,[(9,.I)])],[],[(2,[51,50])]⟩ [c,.agg [a,b],.agg [p,i],j] func333
def I9(c:ai):=eN m R A0 [c,.agg [a,b],p] func334
def KW(c:ai):=eN m R ⟨[(3,[(11,.S),(12,.I)])],[],[(3,[42])]⟩ [c,.agg [a,b],p,d,i] func335
def Hc(c:ai):=eN m R ⟨[(7,[(13,.S),(14,.I)])],[(4,[(11,.I)])],[(4,[79,75]),(7,[79,75])]⟩ [c,.agg [a,b],p,i,j] func336
def GW(a:E):=eN m R ⟨[(3,[(5,.S),(6,.I)]),(7,[(7,.T),(8,.I)])],[],[(3,[59]),(7,[59])]⟩ [.agg [a,b],i] func337
def Hd(c:ai):=eN m R ⟨[(3,[(11,.I)])],[(7,[])],[(3,[130,126]),(7,[130,126])]⟩ [c,.agg [a,b],p,i,j] func338
def Jz(p:ai):=eN m R A0 [p] func339
def DB(a:E):=eN m R ⟨[(3,[(5,.S),(6,.I)])],[],[]⟩ [a,i] func340
def Jb(a:E):=eN m R A0 [.agg [a,b],p,i] func341
def Hw(p:ai):=eN m R ⟨[(11,[(9,.S),(11,.I)]),(21,[(15,.S),(16,.I)])],[(6,[(8,.I)]),(8,[(8,.I)]),(17,[(80,.T)])],[(6,[124,122]),(8,[124,122]),(11,[124,122]),(17,[124,122]),(21,[124,122])]⟩ [p,.agg [a,b],i] func342
def AH(a:E):=eN m R ⟨[(2,[(7,.I)])],[],[(2,[46,45])]⟩ [.agg [a,b],.agg [i,j,k,p,d],l] func343
def Mw(a:E):=eN m R ⟨[(3,[(5,.S),(6,.I)])],[],[]⟩ [a,i] func344
def Dn(p:ai):=eN m R ⟨[(2,[(5,.I)])],[],[]⟩ [p,i] func345
def GX(a:E):=eN m R ⟨[(3,[(5,.S),(6,.I)])],[],[(3,[55])]⟩ [.agg [a,b],i] func346
end
end Go.Proofs.YtbbbdejieenniaaGreat
namespace Go.Proofs.YtbbbdejieenniaaGreat
open Go.Vc
section
variable{m:bh}{a:E}{l:ab}
def dj{n b a:Int}:fX dO 29 [vi n,vi b,vi a] m (b<=n/\n<=a):=by
 apply Jm;constructor<;>grind [D.cT]
def mN(a:Int)(m:bh):fX dO 205 [vi a] m (0<=a/\a<=11):=by
 apply Jg;exact(dj).cg λd e c b=>⟨_,O,kX c b⟩
def lL(a:Int):Prop:=0<=a/\a<=11/\a≠7/\a≠8\/a=18\/a=19
def BW(a:Int)(m:bh):fX dO 147 [vi a] m (lL a):=by
 apply OM;refine(mN _ _).cg λb e d c=>⟨_,O,λh=>?_,λh=>?_⟩
 .grind [lL]
 .grind [lL]
def fH(c:be m a l)(d:Int):fX dO 174 [a.v,vi d] m (d∈l):=by
 apply Ov;have g:=c.aT;refine gP (n:=l.length) (g▸c.kM) (λk b=>D m b/\∀y∈l.take k,y≠d) ⟨cY,bO⟩ ?_;rintro k p I μ o ⟨e,i⟩ j
 refine⟨λh=>?_,λh=>?_⟩
 .simp only[bg]at h;let⟨x,f⟩:=dU l k;refine⟨V,V,x,by simpa using e.aS (c.bt f),λb=>?_,λb=>?_⟩
  .grind [aZ]
  .simp only[ba]at b;exact j V _ ⟨e,dK f i b⟩
 .grind [decide_eq_false_iff_not]
def zL(n:Nat)(t:Int):Prop:=0<=t/\t<=n
def HI(n:Nat)(l:ab):Prop:=∀t∈l,zL n t
def Aq(c:be m a l){bT:E}:fX dO 104 [bT.v,a.v] m (HI bT.len l):=by
 apply GM;have i:=c.aT;refine gP (n:=l.length) (i▸c.kM) (λk b=>D m b/\∀t∈l.take k,zL bT.len t) ⟨cY,bO⟩ ?_;rintro k r I μ q ⟨b,g⟩ o
 refine dit (λh=>?_) λh=>?_
 .let⟨x,d⟩:=dU l k;refine⟨V,V,x,by simpa using b.aS (c.bt d),?_⟩;exact(dj).cg λp s f e=>⟨_,O,λh=>fy (λj=>nb f h (j x (aZ d))) (b.J e),λh=>o V _ ⟨b.J e,dK d g (yb f h)⟩⟩
 .exact oO (gH V g) b
def JV(l:ab)(c a b:Int):Prop:=(l.length:Int)=c/\∀t∈l,a+1<=t/\t<=b -1
def JG(f:be m a l){j b c:Int}(w: -1<=b/\b<9223372036854775807)(e:0<=c/\c<=9223372036854775807):
 fX dO 152 [a.v,vi j,vi b,vi c] m (JV l j b c):=by
 apply Dz
 have p:=f.aT
 refine⟨λh=>?_,λh=>?_⟩
 .simp only[TW]at h
  exact fy (λg=>h (by rw[p];exact g.1)) cY
 .simp only[nX]at h
  have u:j=(l.length:Int):=cB
  subst u
  have r:eI (b+1)=b+1:=by grind [de]
  have s:eI (c -1)=c -1:=by grind [de]
  rw[r,s]
  refine gP (n:=l.length) (p▸f.kM) (λk d=>D m d/\∀t∈l.take k,b+1<=t/\t<=c -1) ⟨cY,bO⟩ ?_
  rintro k z I μ y ⟨d,q⟩ t
  refine dit (λh=>?_) λh=>?_
  .let⟨x,i⟩:=dU l k
   refine⟨V,V,x,by simpa using d.aS (f.bt i),?_⟩
   exact(dj).cg λv A o e=>⟨_,O,λh=>fy (λg=>nb o h (g.2 x (aZ i))) (d.J e),λh=>t V _ ⟨d.J e,dK i q (yb o h)⟩⟩
  .exact oO ⟨O,gH V q⟩ d
def Im(a df:ab):Prop:=∀(k:Nat)(v:Int),df[k]? =some v->(∃t,0<=v/\a[v.toNat]? =some t/\t≠0)/\(∀u:Int,0<k->df[k -1]? =some u->u<v)
def yZ{A df:E}{p:ab}(g:be m A p)(f:be m df l):fX dO 105 [E.v A,E.v df] m (Im p l):=by
 apply FH;have L:=f.aT;have M:=g.aT;have U:=g.kM;have H:eI ((A.len:Int) -1)=(p.length:Int) -1:=by rw[de V V,M]
 rw[H];have T:=f.kM;refine gP (n:=l.length) (L▸f.kM) (λk N=>D m N/\∀(j:Nat)(v:Int),j<k->l[j]? =some v->(∃t,0<=v/\p[v.toNat]? =some t/\t≠0)/\(∀u:Int,0<j->l[j -1]? =some u->u<v)) ⟨cY,bO⟩ ?_;rintro k P Q μ S ⟨i,w⟩ F
 refine dit (λh=>?_) λh=>?_
 .let⟨x,c⟩:=dU l k;have g1:aS P df.bu (df.off+Int.toNat k*1)=some (vi x):=by simpa using i.aS (f.bt c)
  refine⟨V,V,x,g1,?_⟩;refine(dj).cg λR W B d=>⟨_,O,λh=>?_,λh=>?_⟩
  .refine fy (λg=>nb B h ?_) (i.J d);obtain⟨⟨t,b,s,_⟩,_⟩:=g k x c;have:=br s;omega
  .have C:=yb B h;let⟨t,q⟩:=dU p x.toNat;have J:=(i.J d).aS (g.bt q);have o:=i.J d;refine⟨V,V,x,d.aS g1,V,V,t,sp J,λb=>?_,λb=>?_⟩
   .simp only[bP]at b;refine fy (λa=>?_) o;obtain⟨⟨y,_,e,r⟩,_⟩:=a k x c;rw[q]at e;simp at e;exact r (e▸b)
   .simp only[ba]at b;refine dit (λs=>?_) λs=>?_
    .have I:eI ((k:Int) -1)=((k -1:Nat):Int):=by rw[de V V];omega
     let⟨G,z⟩:=dU l (k -1);rw[I];refine⟨V,V,x,d.aS g1,V,V,G,by simpa using o.aS (f.bt z),dit (λe=>?_) λe=>?_⟩
     .refine fy (λa=>?_) o;have:=(a k x c).2 G V z;omega
     .refine F V _ ⟨o,λj v K a=>?_⟩
      by_cases r:j=k
      .subst r;rw[c]at a;simp at a;subst a;refine⟨⟨t,C.1,q,b⟩,λu _ y=>?_⟩;rw[z]at y;simp at y;subst y;omega
      .exact w j v V a
    .refine F V _ ⟨o,λj v K a=>?_⟩
     by_cases r:j=k
     .subst r;rw[c]at a;simp at a;subst a;exact⟨⟨t,C.1,q,b⟩,λu e _=>V⟩
     .exact w j v V a
 .exact oO (λj v a=>w j v (oh (br a)) a) i
end
section
variable{m:bh}
@[grind cases] structure zf (ds:af) (k:Nat) (d:cR):Prop where
 ju:0<d.eB.length->d.eB.length<=3/\d.qe=0/\d.to=0/\∀f∈d.eB,f.length<=3/\HI ds.length f
 Qf:d.eB.length=0->(∀e∈ds.take k,¬(e.eB.length=0/\e.qe=d.qe/\e.to=d.to))/\zL ds.length d.qe/\zL ds.length d.to
@[grind cases] structure eT (ds:af):Prop where
 aT:ds.length<=4
 eR:∀(k:Nat)(d:cR),ds[k]? =some d->zf ds k d
def Ln{bT:E}{h:af}(hd:dE m bT h){k:Nat}{d:cR}(K:h[k]? =some d):fX dO 146 [bT.v,vi k] m (zf h k d):=by
 apply FF;simp -zeta only[dR];have Y:=br K;have v:=hd.aT;let⟨x,z,L,g1,g2⟩:=hd.bt K;refine⟨V,V,_,sp L,_,sp g1,_,sp g2,?_⟩;intro Q s;have c:=py s;have A:∀t∈[m.size],t<s.size:=by simp[s,Q,bD]
 have N:=z.aT;refine dit (λq=>?_) λq=>?_
 .refine dit (λM=>?_) λM=>?_
  .exact fy (λa=>oh ((a.ju V).1)) c
  refine⟨λf=>?_,λf=>?_⟩
  .simp only[TW]at f;exact fy (λa=>f (a.ju V).2.1) c
  simp only[nX]at f;refine⟨λp=>?_,λp=>?_⟩
  .simp only[TW]at p;exact fy (λa=>p (a.ju V).2.2.1) c
  simp only[nX]at p;refine gP (n:=d.eB.length) (N▸z.kM) (λk B=>D s B/\∀x∈d.eB.take k,x.length<=3/\HI h.length x) ⟨cY,bO⟩ ?_;rintro j w I μ P ⟨g,r⟩ F
  refine dit (λy=>?_) λy=>?_
  .let⟨C,u⟩:=dU d.eB j;let⟨G,J,H⟩:=(tq.ext (c.J g) z).bt u;have S:=J.aT;refine⟨V,V,G,sp H,dit (λo=>?_) λo=>?_⟩
   .exact fy (λa=>oh (((a.ju V).2.2.2 C (aZ u)).1)) (c.J g)
   .refine⟨V,V,G,sp H,?_⟩;exact(Aq J).bL g A λt R l i b=>⟨_,O,λe=>fy (λa=>nb l e (v▸((a.ju V).2.2.2 C (aZ u)).2)) (c.J b),λe=>F V _ ⟨b,dK u r ⟨V,v▸yb l e⟩⟩⟩
  .exact oO ⟨λ_=>⟨V,f,p,gH V r⟩,λH=>V⟩ (c.J g)
 .have C:d.eB.length=0:=V;have W:=hd.kM;refine gP (n:=k) V (λk B=>D s B/\∀f∈h.take k,¬(f.eB.length=0/\f.qe=d.qe/\f.to=d.to)) ⟨cY,bO⟩ ?_;rintro j w I μ P ⟨g,r⟩ F
  refine dit (λy=>?_) λy=>?_
  .let⟨f,u⟩:=dU h j;let⟨G,J,S,T,U⟩:=(dE.ext (c.J g) hd).bt u;have X:=J.aT;have B:¬(f.eB.length=0/\f.qe=d.qe/\f.to=d.to)->I (eI ((j:Int)+1)) w/\μ (eI ((j:Int)+1)) w<μ j w:=λp=>F V _ ⟨g,dK u r p⟩
   refine⟨V,V,G,sp U,λo=>?_,λo=>?_⟩
   .simp only[bP]at o;refine⟨V,V,_,sp S,λi=>?_,λi=>?_⟩
    .simp only[bP]at i;refine⟨V,V,_,sp T,λb=>?_,λb=>?_⟩
     .simp only[bP]at b;have M:f∈h.take k:=by
       rw[cH];exact⟨j,by rw[lP,bn V];exact u⟩
      exact fy (λa=>(a.Qf C).1 f M ⟨V,i,b⟩) (c.J g)
     .simp only[ba]at b;exact B (λp=>b p.2.2)
    .simp only[ba]at i;exact B (λp=>i p.2.1)
   .simp only[ba]at o;exact B (λp=>o V)
  .have f:j=k:=V;subst f;refine(dj).bL g A λt R l i b=>⟨_,O,λe=>?_,λe=>fy (λa=>fb l e (v▸(a.Qf C).2.1)) (c.J b)⟩;have e:=l.1 e;refine(dj).bL b A λt p l o a=>⟨_,O,kX ?_ (c.J a)⟩;rw[l];rw[v]at e⊢;exact⟨λq=>⟨λH=>V,λ_=>⟨r,e,q⟩⟩,λq=>(q.Qf C).2.2⟩
def JI{bT:E}{a:af}(hd:dE m bT a):fX dO 103 [bT.v] m (eT a):=by
 apply DA;have u:=hd.aT;refine dit (λo=>?_) λo=>?_
 .exact fy (λf=>oh f.aT) cY
 .refine gP (n:=a.length) V (λq r=>D m r/\∀(j:Nat)(d:cR),j<q->a[j]? =some d->zf a j d) ⟨cY,bO⟩ ?_;rintro j x I μ w ⟨b,k⟩ s
  refine dit (λp=>?_) λp=>?_
  .let⟨l,e⟩:=dU a j;refine(Ln (dE.ext b hd) e).cg λt y h g=>⟨_,O,λc=>fy (λf=>nb h c (f.eR j l e)) (b.J g),λc=>?_⟩;refine s V _ ⟨b.J g,λi d v dA=>?_⟩
   by_cases f:i=j
   .subst f;rw[e]at dA;simp at dA;subst dA;exact yb h c
   .exact k i d V dA
  .exact oO ⟨V,λi d dA=>k i d (oh (br dA)) dA⟩ b
end
section
variable{a:Nat}{m:bh}
def fc:af->Nat->Nat
 |_,0=>0
 |[],_=>0
 |d::b,a+1=>d.eB.length+fc b a
def gR(a:af):List ab:=a.flatMap cR.eB
def Wb(a:Nat):fc [] a=0:=by cases a<;>rfl
theorem wz:∀{c:af}{a:Nat}{b:cR},c[a]? =some b->fc c (a+1)=fc c a+b.eB.length
 |[],a,b,h=>by simp at h
 |e::c,0,b,h=>by
  grind [fc]
 |e::c,a+1,b,h=>by
  have:=wz (c:=c) (a:=a) (b:=b) cB;grind [fc]
theorem qI:∀(b:af)(a:Nat),b.length<=a->fc b a=(gR b).length
 |[],a,_=>by rw[Wb];rfl
 |d::b,0,h=>by simp at h
 |d::b,a+1,h=>by
  have:=qI b a cB;grind [fc,gR,List.length_append]
def J9:∀(a:af){b c:Nat},b<=c->fc a b<=fc a c
 |[],b,c,_=>by simp[Wb]
 |d::a,0,c,_=>by simp[fc]
 |d::a,b+1,0,h=>V
 |d::a,b+1,c+1,h=>by
  have:=J9 a (b:=b) (c:=c) V;simp only[fc];omega
theorem nK{b:af}(h:eT b){d:cR}(c:b[a]? =some d):d.eB.length<=3:=by
 grind [Nat.eq_zero_or_pos,List.length,eT.eR,zf.ju]
theorem ZB{b:af}(h:eT b):∀a,fc b a<=3*a
 |0=>by cases b<;>simp[fc]
 |a+1=>by
  have e:=ZB h a;rcases dJ a b.length with c|c
  .let⟨d,hd⟩:=gD c;grind [wz,nK]
  .grind [qI]
theorem tE{b:af}(h:eT b)(a:Nat):fc b a<=12:=by
 rcases dJ a b.length with c|c
 .grind [ZB,eT.aT]
 .rw[qI b a c,<-qI b b.length bY];have:=ZB h b.length;have:=h.aT;omega
def uV:∀(a:af)(i j:Nat)(d:cR),a[i]? =some d->j<d.eB.length->(gR a)[fc a i+j]? =d.eB[j]?
 |[],i,j,d,h,_=>by simp at h
 |e::a,0,j,d,h,b=>by
  grind [fc,gR,List.getElem?_append_left]
 |e::a,i+1,j,d,h,b=>by
  have:=uV a i j d cB b;grind [fc,gR,List.getElem?_append_right]
def zi:∀(a:af)(c:Nat),c<(gR a).length->∃i d,a[i]? =some d/\fc a i<=c/\c<fc a i+d.eB.length
 |[],c,h=>by simp[gR]at h
 |e::a,c,h=>by
  rcases dJ c e.eB.length with b|b
  .exact⟨0,e,bO,by simp[fc],by simpa[fc]using b⟩
  .let⟨i,d,f,g,j⟩:=zi a (c -e.eB.length) (by simp only[gR,Vw,dH]at h⊢;omega);exact⟨i+1,d,sp f,by simp only[fc];omega,by simp only[fc];omega⟩
def nk{bT:E}{b:af}(hd:dE m bT b)(d:eT b)(t:a<=b.length):DK dO 186 [bT.v,vi a] m (vi (fc b a)):=by
 apply Hb;have r:=hd.aT;have:=d.aT;refine gL (n:=a) V (λj g c=>D m c/\g=(fc b j:Nat)) ⟨cY,by cases b<;>rfl⟩ ?_;rintro j g u I μ s ⟨e,rfl⟩ k
 refine dit (λi=>?_) λi=>?_
 .let⟨l,c⟩:=dU b j;let⟨h,f,o,g1,g2⟩:=(dE.ext e hd).bt c;refine⟨V,V,h,sp g2,?_⟩;refine k V _ _ ⟨e,?_⟩
  have p:=tE d j;have q:=nK d c;rw[de V (oh f.aT),wz c,f.aT];rfl
 .have:j=a:=V;subst this;exact⟨O,e⟩
def uC{bT:E}{a:af}(hd:dE m bT a)(c:eT a):DK dO 178 [bT.v] m (vi (gR a).length):=by
 apply GZ;have q:=hd.aT;have:=c.aT;refine gL (n:=a.length) V (λj f b=>D m b/\f=(fc a j:Nat)) ⟨cY,by cases a<;>rfl⟩ ?_;rintro j f s I μ r ⟨d,rfl⟩ i
 refine dit (λh=>?_) λh=>?_
 .let⟨k,b⟩:=dU a j;let⟨g,e,l,g1,g2⟩:=(dE.ext d hd).bt b;refine⟨V,V,g,sp g2,?_⟩;refine i V _ _ ⟨d,?_⟩
  have o:=tE c j;have p:=nK c b;rw[de V (oh e.aT),wz b,e.aT];rfl
 .refine⟨?_,d⟩;rw[qI a j V]
def adr(a:af)(c t:Int):Prop:=
 (∃(i:Nat)(d:cR),t=i+1/\a[i]? =some d/\(fc a i:Int)<=c/\c<fc a i+d.eB.length)\/(t= -1/\¬(0<=c/\c<(gR a).length))
def pM{bT:E}{a:af}(hd:dE m bT a)(k:eT a)(c:Int):bK dO 148 [bT.v,vi c] m λG p=>∃u,G=vi u/\adr a c u/\D m p:=by
 apply Jd;have K:=hd.aT;have:=k.aT;refine gP (n:=a.length) V (λj p=>D m p/\∀(i:Nat)(d:cR),i<j->a[i]? =some d->¬((fc a i:Int)<=c/\c<fc a i+d.eB.length)) ⟨cY,bO⟩ ?_;rintro j N I μ M ⟨b,s⟩ F
 refine dit (λz=>?_) λz=>?_
 .let⟨d,h⟩:=dU a j;refine(nk (dE.ext b hd) k V).cg λP e=>⟨_,O,?_⟩;let⟨l,B,J,g1,g2⟩:=(dE.ext (b.J e) hd).bt h;refine⟨V,V,l,sp g2,?_⟩;have o:=tE k j;have A:=nK k h;have C:=B.aT;have y:eI (eI ((fc a j:Int)+(l.len:Int)) -1)=(fc a j:Int)+d.eB.length -1:=by
   rw[de (b:=(fc a j:Int)+(l.len:Int)) V V,iz,C]
  rw[y];refine(dj).cg λH Q r q=>⟨_,O,λf=>?_,λf=>?_⟩
  .have f:=r.1 f;refine⟨_,O,bC ⟨j,d,?_,h,V,V⟩,(b.J e).J q⟩;rw[iz]
  .refine F V _ ⟨(b.J e).J q,λi v L g=>?_⟩
   by_cases w:i=j
   .subst w;rw[h]at g;simp at g;subst g;intro t;exact fb r f ⟨t.1,V⟩
   .exact s i v V g
 .refine⟨_,O,bR ⟨O,λt=>?_⟩,b⟩;let⟨i,d,o,e,A⟩:=zi a c.toNat V;exact s i d (oh (br o)) o ⟨V,V⟩
def cW(a:af)(c:Int):ab:=if 0<=c then((gR a)[c.toNat]?).getD []else[]
def KR{bT:E}{a:af}(hd:dE m bT a)(d:eT a){c:Int}:bK dO 149 [bT.v,vi c] m λx l=>∃s,x=s.v/\be l s (cW a c)/\D m l:=by
 apply vj;have G:=hd.aT;have:=d.aT;refine(pM hd d c).aP ?_;rintro _ J ⟨L,rfl,h,e⟩;refine⟨_,O,dit (λu=>?_) λu=>?_⟩
 .refine⟨_,O,?_,e.bZ _⟩;have g:cW a c=[]:=by
   rcases h with⟨i,f,v,_⟩|⟨_,b⟩
   .omega
   .unfold cW;split
    .rw[lp V];rfl
    .rfl
  rw[g];exact⟨O,bY,bO,bO⟩
 .rcases h with⟨i,f,rfl,b,B,C⟩|⟨v,_⟩
  .have I:=br b;let⟨q,j,z,g1,g2⟩:=(dE.ext e hd).bt b;have n:eI ((i:Int)+1 -1)=i:=by rw[iz];omega
   rw[n];refine⟨V,V,q,sp g2,?_⟩;refine(nk (dE.ext e hd) d V).cg λK g=>⟨_,O,g.cZ (sp g2),?_⟩;have A:=tE d i;have F:=nK d b;have H:=j.aT;let⟨y,k⟩:=dU f.eB ((c -fc a i).toNat);let⟨r,w,t⟩:=(tq.ext g j).bt k;have o:eI (c -(fc a i:Int))=c -fc a i:=iz;rw[o];refine⟨V,V,r,t,_,O,?_,e.J g⟩;have p:cW a c=y:=by
    unfold cW;rw[bn V];have:=uV a i (c -fc a i).toNat f b V;rw[show c.toNat=fc a i+(c -fc a i).toNat by omega,this,k];rfl
   rw[p];exact w
  .omega
def cX(a:af)(t:Int):ab:=
 if 1<=t/\t<=a.length then((a[t.toNat -1]?).map λd=>(List.range d.eB.length).map λi=>((fc a (t.toNat -1)+i:Nat):Int)).getD []else[]
def EO{bT:E}{a:af}(hd:dE m bT a)(c:eT a){t:Int}:bK dO 151 [bT.v,vi t] m λK b=>∃s,K=s.v/\be b s (cX a t)/\D m b:=by
 apply yT;intro r;have T:=hd.aT;have:=c.aT;have q:=px r;have H:jw m r bB 1 (.mk m.size 0 0 0) []:=jw.bF (D.cT m) bB 1 [] 0 bO;refine(dj).cg λM X l f=>⟨_,O,λh=>?_,λh=>?_⟩
 .refine⟨_,O,?_,q.J f⟩;have e:cX a t=[]:=by
   unfold cX;rw[aW (oh (nb l h))]
  rw[e];exact⟨O,bY,bO,bO⟩
 .have h:=yb l h;have v:eI (t -1)=((t.toNat -1:Nat):Int):=by rw[iz];omega
  rw[v];let⟨e,g⟩:=dU a (t.toNat -1);have w:cX a t=(List.range e.eB.length).map λi=>((fc a (t.toNat -1)+i:Nat):Int):=by
   unfold cX;rw[bn V,g];rfl
  rw[w];have R:=tE c (t.toNat -1);have S:=nK c g;refine gL (n:=e.eB.length) V (λj s b=>D m b/\jw m b bB 1 s (((List.range j).map λi=>((fc a (t.toNat -1)+i:Nat):Int)).map Ce.i)/\s.len=j) ⟨q.J f,by simpa using H.ext f,O⟩ ?_;rintro j s Y L μ W ⟨d,o,p⟩ J
  let⟨y,F,N,g1,g2⟩:=(dE.ext d hd).bt g;have U:=F.aT;refine⟨V,V,y,sp g2,dit (λz=>?_) λz=>?_⟩
  .refine(nk (dE.ext d hd) c V).cg λI k=>⟨_,O,?_⟩;intro u;have x:eI (((fc a (t.toNat -1):Nat):Int)+(j:Int))=((fc a (t.toNat -1)+j:Nat):Int):=by rw[iz];omega
   have G:u=I.push (.cells (db [.i (((fc a (t.toNat -1)+j:Nat):Int))]) bB):=by rw[<-x]
   clear_value u;subst G;refine jw.fw (c:=[.i 0]) (i:=[.i ((fc a (t.toNat -1)+j:Nat):Int)]) ((o.ext k).ext (D.push _ _)) ((d.J k).bZ _) O (dF.push _ _ _).kY (by simp[p];omega) ?_;intro Z b A B C P Q _;refine J V _ _ ⟨B,?_,by simp[C,p]⟩
   rw[List.range_succ,lH,lH];exact A
  .have:j=e.eB.length:=V;subst this;exact⟨_,O,be.jA o eX,d⟩
end
section
variable{S X:ad}{d p:bh}{s q a h:E}{e g u:ab}{k f:Nat}{x j:Int}{t:ap}{Q:ab->Prop}{K:aj}
def _root_.Go.Vc.be.dx{a:bh}(b:be (dA S d) s e)(f:Fz X d a)(c:∀h∈X,h∈S)(g:e[k]? =some x):aS a s.bu (s.off+k*1)=some (vi x):=
 (iO.1 ((b.le (f.fj c)).bt g)).2
def _root_.Go.Vc.be.Rn{a:bh}(h:be (dA S d) s e)(b:D d a)(c:e[k]? =some x):aS a s.bu (s.off+k*1)=some (vi x):=
 h.dx (b.fz []) bO c
def JT(f:Nat)(t:ap)(d:bh)(S:ad)(Q:ab->Prop):Prop:=bK dO f t d λv a=>∃s e,v=s.v/\be (dA S a) s e/\Q e/\D d a
def oA(f:Nat)(t:ap)(d:bh)(S:ad)(Q:ab->Prop):Prop:=bK dO f t d λv a=>∃s e,v=s.v/\Gr S d a bB 1 yi s e/\Q e/\D d a
def wU(f:Nat)(t:ap)(d:bh)(Q:Int->Prop):Prop:=bK dO f t d λv a=>∃j:Int,v=vi j/\Q j/\D d a
abbrev GI(S:ad)(p d:bh)(s:E)(e:ab):Prop:=Gr S p d bB 1 yi s e
def GI.gN(S:ad)(d:bh):GI S d (d.push (.cells (db []) bB)) (.mk d.size 0 0 0) []:=by grind [Gr.bF,yi]
def GI.nE{S X:ad}{p d:bh}{s:E}{e:ab}{a:Int}{K:E->bh->Prop}(c:GI S p d s e)(f:Fz X p d)(i:e.length<=10^12)
 (g:∀r b,GI S p b r (e++[a])->Fz X p b->(d.size<=b.size/\(r.bu=s.bu\/d.size<=r.bu))->(∀h,h<d.size->h≠s.bu->b[h]? =d[h]?)->K r b):mj (d.push (.cells (db [.i a]) bB)) bB [.i 0] 8 s (.mk d.size 0 1 1) K:=
 Gr.nE (h:=[.i 0]) yi.aP cD c f O V g
theorem GI.cy{S:ad}{p d:bh}{s:E}{e:ab}(a:GI S p d s e)(b:∀h∈S,h<p.size)(c:e.length<=10^12):be (dA S d) s e:=Gr.cy yi.aP a b cD V
def GI.lY{S X:ad}{p d:bh}{s x:E}{e g:ab}{K:E->bh->Prop}(b:GI S p d s e)(c:Fz X p d)(i:be (dA (s.bu::S) d) x g)(j:e.length+g.length<=10^12)
 (f:∀r a,GI S p a r (e++g)->Fz X p a->(d.size<=a.size/\(r.bu=s.bu\/d.size<=r.bu))->(∀h,h<d.size->h≠s.bu->a[h]? =d[h]?)->K r a):mj d bB [.i 0] 8 s x K:=
 Gr.lY (h:=[.i 0]) yi.aP cD b c i V f
def GI.lZ{a:bh}(h:GI S p d s e)(i:a[s.bu]? =d[s.bu]?):GI S p a s e:=by
 let⟨c,b,f,g⟩:=h;exact⟨c,b,f.congr i,g.aP λ_ _ h=>h⟩
def GI.ext{S:ad}{p d a:bh}{s:E}{e:ab}(h:GI S p d s e)(b:D d a):GI S p a s e:=Gr.ext yi.aP h b
theorem _root_.Go.Vc.Gr.cV{α:Type}{S b:ad}{p f d:bh}{c a:Nat}{R:bh->ae->α->Prop}{s:E}{e:List α}(i:sD a R)(g:Gr b f d c a R s e)(j:∀h∈S,h∈b\/d.size<=h)(k:p.size<=f.size):Gr S p d c a R s e:=by
 constructor<;>grind [jw.cV,iy.aP,D.cT,D.dA,List.mem_cons_self,List.mem_cons_of_mem]
def GI.cV{S a:ad}{p b d:bh}{s:E}{e:ab}(c:GI a b d s e)(f:∀h∈S,h∈a)(g:p.size<=b.size):GI S p d s e:=by grind [Gr.cV,yi.aP]
def oA.cg(h:oA f t d S Q)(j:∀s e a,GI S d a s e->Q e->D d a->K s.v a):bK dO f t d K:=
 h.aP λ_ a⟨s,e,b,c,g,i⟩=>b▸j s e a c g i
def JT.cg(h:JT f t d S Q)(j:∀s e a,be (dA S a) s e->Q e->D d a->K s.v a):bK dO f t d K:=
 h.aP λ_ a⟨s,e,b,c,g,i⟩=>b▸j s e a c g i
def wU.cg{Q:Int->Prop}(h:wU f t d Q)(g:∀j a,Q j->D d a->K (vi j) a):bK dO f t d K:=
 h.aP λ_ a⟨j,e,b,c⟩=>e▸g j a b c
def xg{a:bh}{h:Nat}(b:D d a)(e:d.size<=h):Le (dA S d) (dA (h::S) a):=b.dA λc f=>by
 grind
def pN(j:∀h∈S,h<d.size)(c:be (dA S d) q e)(b:e.length<=10^12):oA 55 [q.v] d S (e=·):=by
 apply rH;intro i;have a:=px i;exact GI.lY (e:=[]) (X:=[]) (GI.gN S d) (a.fz []) (c.le (xg a bY)) (sp b) λr k g f _ _=>⟨r,e,O,sp g,O,f.ext⟩
def tx(e g:ab):Prop:=(∀x∈g,x∈e)/\g.length<=e.length
def sX(h:∀x∈g,x∈e)(a:x∈e):∀y∈g++[x],y∈e:=by
 grind
def FK(u:∀h∈S,h<d.size)(b:be (dA S d) q e)(j:Int)(v:e.length<=10^12):oA 303 [q.v,vi j] d S (tx e):=by
 apply JK;intro z;have t:=b.aT;refine gL (n:=e.length) (t▸b.kM) (λk s a=>D d a/\∃g,GI S d a s g/\(∀x∈g,x∈e)/\g.length<=k) ⟨D.push d _,[],GI.gN S d,bO,bY⟩ ?_;rintro k s A I μ y ⟨a,g,c,i,w⟩ m
 refine dit (λp=>?_) λp=>?_
 .let⟨x,l⟩:=dU e k;refine⟨V,V,x,b.Rn a l,λr=>⟨V,V,x,b.Rn a l,?_⟩,λr=>m V _ _ ⟨a,g,c,i,V⟩⟩;intro B;exact GI.nE c (a.fz []) V λE C o f _ _=>m V _ _ ⟨f.ext,_,o,sX i (aZ l),eX⟩
 .exact⟨s,g,O,c,⟨i,V⟩,a⟩
def TC(u:∀h∈S,h<d.size)(b:be (dA S d) q e)(v:e.length<=10^12):oA 344 [q.v,vi j] d S (tx e):=by
 apply Mw;intro z;have t:=b.aT;refine gL (n:=e.length) (t▸b.kM) (λk s a=>D d a/\∃g,GI S d a s g/\(∀x∈g,x∈e)/\g.length<=k) ⟨D.push d _,[],GI.gN S d,bO,bY⟩ ?_;rintro k s A I μ y ⟨a,g,c,i,w⟩ m
 refine dit (λp=>?_) λp=>?_
 .let⟨x,l⟩:=dU e k;refine⟨V,V,x,b.Rn a l,λr=>⟨V,V,x,b.Rn a l,?_⟩,λr=>m V _ _ ⟨a,g,c,i,V⟩⟩;intro B;exact GI.nE c (a.fz []) V λE C o f _ _=>m V _ _ ⟨f.ext,_,o,sX i (aZ l),eX⟩
 .exact⟨s,g,O,c,⟨i,V⟩,a⟩
def RB(z:∀h∈S,h<d.size)(i:be (dA S d) a e)(t:be (dA S d) h u)(A:e.length<=10^12):oA 330 [a.v,h.v] d S (tx e):=by
 apply KQ;intro E;have v:=i.aT;refine gL (n:=e.length) (v▸i.kM) (λk s b=>D d b/\∃g,GI S d b s g/\(∀x∈g,x∈e)/\g.length<=k) ⟨D.push d _,[],GI.gN S d,bO,bY⟩ ?_;rintro k s F I μ C ⟨b,g,j,l,B⟩ o
 refine dit (λq=>?_) λq=>?_
 .let⟨x,m⟩:=dU e k;refine⟨V,V,x,i.Rn b m,?_⟩;refine(fH ((t.le fL).ext b) x).cg λy G _ c=>⟨_,O,λr=>⟨V,V,x,i.Rn (b.J c) m,?_⟩,λr=>o V _ _ ⟨b.J c,g,j.ext c,l,V⟩⟩;intro w;exact GI.nE (j.ext c) ((b.J c).fz []) V λH w p f _ _=>o V _ _ ⟨f.ext,_,p,sX l (aZ m),eX⟩
 .exact⟨s,g,O,j,⟨l,V⟩,b⟩
def _root_.Go.Vc.Be{σ τ:Type}{j:Nat}(n:j<=9223372036854775807){g:σ}{h:τ}{f:(σ->τ->Int->bh->Prop)->(σ->τ->Int->bh->Nat)->σ->τ->Int->bh->Prop}(Q:Nat->σ->τ->bh->Prop)(l:Q 0 g h d)
 (m:∀(k:Nat)(s:σ)(t:τ)(a:bh)(I:σ->τ->Int->bh->Prop)(μ:σ->τ->Int->bh->Nat),k<=j->Q k s t a->
  (k<j->∀c e b,Q (k+1) c e b->I c e (eI ((k:Int)+1)) b/\μ c e (eI ((k:Int)+1)) b<μ s t k a)->f I μ s t k a):
 ∃(I:σ->τ->Int->bh->Prop)(μ:σ->τ->Int->bh->Nat),I g h 0 d/\∀s t i a,I s t i a->f I μ s t i a:=by
 refine⟨λs t i b=>∃k:Nat,i=k/\k<=j/\Q k s t b,λ_ _ i _=>(j -i).toNat,⟨0,O,iD _,l⟩,?_⟩
 grind [nt,Qb]
def acP(e:ab)(j:Int)(g:ab):Prop:=(∀x∈g,x∈e\/x=j)/\g.length<=e.length+1
def Gd(h:∀x∈g,x∈e\/x=j)(a:x∈e\/x=j):∀y∈g++[x],y∈e\/y=j:=by
 grind
def pU(K:∀h∈S,h<d.size)(v:be (dA S d) q e)(j:Int)(L:e.length<10^12):oA 284 [q.v,vi j] d S (acP e j):=by
 apply KY;intro P;have H:=v.aT;refine Be (j:=e.length) (H▸v.kM) (λk s c b=>D d b/\∃g,GI S d b s g/\(∀x∈g,x∈e\/x=j)/\g.length<=k+(if c=true then 1 else 0)) ⟨D.push d _,[],GI.gN S d,bO,bY⟩ ?_;rintro k s c w I μ N ⟨a,g,o,p,u⟩ C
 have M:g.length<=k+1:=by split at u<;>omega
 refine dit (λt=>?_) λt=>?_
 .let⟨x,y⟩:=dU e k;have G:∀{b:bh},D d b->aS b q.bu (q.off+k*1)=some (vi x):=λt=>v.Rn t y;have z:x∈e\/x=j:=bC (aZ y);have A:∀m:Bool,(g++[x]).length<=k+1+(if m=true then 1 else 0)->mj (w.push (.cells (db [.i x]) bB)) bB [.i 0] 8 s (.mk w.size 0 1 1) λr b=>I r m (eI ((k:Int)+1)) b/\μ r m (eI ((k:Int)+1)) b<μ s c k w:=λm hd=>
   GI.nE o (a.fz []) V λr B i f _ _=>C V _ _ _ ⟨f.ext,_,i,Gd p z,hd⟩
  refine⟨λl=>⟨V,V,x,G a,λE=>⟨V,V,x,G a,λF=>?_,λF=>⟨V,V,x,G a,A true eX⟩⟩,λE=>⟨V,V,x,G a,A c ?_⟩⟩,λl=>⟨V,V,x,G a,A c ?_⟩⟩
  .have hd:c=false:=sp l;subst hd;simp at u;intro J;refine GI.nE o (a.fz []) V λr B i f _ _=>⟨V,V,x,G f.ext,?_⟩;intro Q;exact GI.nE i f eX λr R i f _ _=>C V _ _ _ ⟨f.ext,_,i,Gd (Gd p (bR O)) z,eX⟩
  .simp only[dH,dy,kT];omega
  .simp only[dH,dy,kT];omega
 .refine⟨λl=>?_,λl=>⟨s,g,O,o,⟨p,V⟩,a⟩⟩;have hd:c=false:=sp l;subst hd;simp at u;intro J;exact GI.nE o (a.fz []) V λr B i f _ _=>⟨r,_,O,i,⟨Gd p (bR O),eX⟩,f.ext⟩
def wj(B:∀h∈S,h<d.size)(l:be (dA S d) q e)(j:Int)(C:e.length<=10^12):oA 280 [q.v,vi j] d S (tx e):=by
 apply AN;intro H;have z:=l.aT;refine Be (j:=e.length) (z▸l.kM) (λk s _ a=>D d a/\∃g,GI S d a s g/\(∀x∈g,x∈e)/\g.length<=k) ⟨D.push d _,[],GI.gN S d,bO,bY⟩ ?_;rintro k s c o I μ F ⟨b,g,i,m,E⟩ t
 refine dit (λv=>?_) λv=>?_
 .let⟨x,p⟩:=dU e k;have G:=l.Rn b p;have A:mj (o.push (.cells (db [.i x]) bB)) bB [.i 0] 8 s (.mk o.size 0 1 1) λr a=>I r c (eI ((k:Int)+1)) a/\μ r c (eI ((k:Int)+1)) a<μ s c k o:=
   GI.nE i (b.fz []) V λr J u f _ _=>t V _ _ _ ⟨f.ext,_,u,sX m (aZ p),eX⟩
  exact⟨V,V,x,G,λw=>⟨λy=>t V _ _ _ ⟨b,g,i,m,V⟩,λy=>⟨V,V,x,G,A⟩⟩,λw=>⟨V,V,x,G,A⟩⟩
 .exact⟨s,g,O,i,⟨m,V⟩,b⟩
def TH(f:∀h∈S,h<d.size)(v:be (dA S d) a e)(i:be (dA S d) h u)(j:e.length+u.length<=10^12):oA 298 [a.v,h.v] d S (λg=>(∀x∈g,x∈e\/x∈u)/\g.length<=e.length+u.length):=by
 apply Nb;refine(pN f v V).cg λM _ H t p C=>⟨_,O,?_⟩;subst p;have w:=i.aT;refine gL (n:=u.length) (w▸i.kM) (λk s b=>D d b/\∃g,GI S d b s g/\(∀x∈g,x∈e\/x∈u)/\g.length<=e.length+k) ⟨C,_,t,λx c=>bC c,bY⟩ ?_;rintro k s J I μ G ⟨c,g,l,m,F⟩ B
 refine dit (λb=>?_) λb=>?_
 .let⟨x,o⟩:=dU u k;refine⟨V,V,x,i.Rn c o,?_⟩;refine(pU (λh j=>cr (f h j) c.aQ) (l.cy f V) x V).cg λL A K r q E=>⟨_,O,B V _ _ ⟨c.J E,A,r.cV (λ_ b=>b) c.aQ,λy z=>?_,oh q.2⟩⟩;rcases q.1 y z with b|b
  .exact m y b
  .subst b;exact bR (aZ o)
 .exact⟨s,g,O,l,⟨m,V⟩,c⟩
def xI(a:Int)(d:bh):fX dO 317 [vi a] d (14<=a/\a<=17):=by
 apply Dl;exact(dj).cg λh e c b=>⟨_,O,kX c b⟩
def iL(j:∀h∈S,h<d.size){nj:E}{a:ab}(l:be (dA S d) q e)(m:be (dA S d) nj a)(k:e.length+a.length<=10^12):oA 215 [q.v,nj.v] d S (e++a=·):=by
 apply yW;refine(pN j l V).cg λp _ o b g c=>⟨_,O,?_⟩;subst g;exact GI.lY b (c.fz []) (m.le (xg c b.cJ.1)) k λr n i f _ _=>⟨r,_,O,i,O,f.ext⟩
def vM(v:∀h∈S,h<d.size)(i:be (dA S d) q e)(j:Nat)(w:j+e.length<=10^12):oA 221 [q.v,vi j] d S (λg=>(∀x∈g,(j:Int)<=x/\x<j+e.length)/\g.length<=e.length):=by
 apply He;intro B;have t:=i.aT;refine gL (n:=e.length) (t▸i.kM) (λk s a=>D d a/\∃g,GI S d a s g/\(∀x∈g,(j:Int)<=x/\x<j+e.length)/\g.length<=k) ⟨D.push d _,[],GI.gN S d,bO,bY⟩ ?_;rintro k s C I μ A ⟨b,g,c,l,z⟩ m
 refine dit (λp=>?_) λp=>?_
 .let⟨x,u⟩:=dU e k;refine⟨V,V,x,i.Rn b u,λr=>?_,λr=>m V _ _ ⟨b,g,c,l,V⟩⟩;rw[de (b:=(j:Int)+k) V V];intro E;refine GI.nE c (b.fz []) V λG F o f _ _=>m V _ _ ⟨f.ext,_,o,?_,eX⟩
  intro y a;rcases bU.1 a with a|a
  .exact l y a
  .simp at a;omega
 .exact⟨s,g,O,c,⟨l,V⟩,b⟩
def pE(p:∀h∈S,h<d.size)(j a:Nat)(q:j+a<=10^12):oA 189 [vi j,vi a] d S (λg=>(∀x∈g,(j:Int)<=x/\x<j+a)/\g.length=a):=by
 apply BT;intro u;refine gL (n:=a) V (λk s b=>D d b/\∃g,GI S d b s g/\(∀x∈g,(j:Int)<=x/\x<j+a)/\g.length=k) ⟨D.push d _,[],GI.gN S d,bO,O⟩ ?_;rintro k s v I μ t ⟨i,g,c,e,r⟩ o
 refine dit (λm=>?_) λm=>?_
 .rw[de (b:=(j:Int)+k) V V];intro w;refine GI.nE c (i.fz []) V λA z l f _ _=>o V _ _ ⟨f.ext,_,l,?_,eX⟩
  intro y b;rcases bU.1 b with b|b
  .exact e y b
  .simp at b;omega
 .exact⟨s,g,O,c,⟨e,V⟩,i⟩
theorem LP(e:ab):(e.map λx=>[Ce.i x]).flatten=e.map Ce.i:=by induction e<;>simp_all
def GI.dX(n:GI S p d s e)(F:Fz X p d)(N:k<e.length)(j:Int):
 jb d s.bu (s.off+k*1) 1/\GI S p (aV d s.bu (s.off+k*1) [.i j]) s (e.set k j)/\Fz X p (aV d s.bu (s.off+k*1) [.i j])/\(∀h,h≠s.bu->(aV d s.bu (s.off+k*1) [.i j])[h]? =d[h]?):=by
 have J:=n.cJ
 have O:=n.aT cD
 let⟨t,a,B,f⟩:=n
 have H:∀h,h≠s.bu->(aV d s.bu (s.off+k*1) [.i j])[h]? =d[h]? :=by grind [cq]
 let⟨h,w,tail,l,y,z,K,A⟩:=B.bt.resolve_left t
 have M:a.flatten.length=e.length:=by rw[dS f.aQ,f.aT];omega
 have G:a.flatten=e.map Ce.i:=by
  apply fq;intro g;rcases dJ g e.length with v|v
  .let⟨x,q⟩:=gD v;let⟨cs,u⟩:=dU a g cB;have C:cs=[.i x]:=f.eR g cs x u q;have D:=js (f:=1) f.aQ u (i:=0) (c:=.i x) cB;grind
  .grind [List.getElem?_eq_none]
 have I:s.off+k*1=k:=by rw[l];simp
 have E:s.bu=h:=by rw[l];rfl
 refine⟨?_,⟨t,(e.set k j).map λx=>[.i x],⟨?_,bR ⟨h,w,tail,l,y,?_,?_,A⟩⟩,⟨by rw[jW],λcs L=>?_,λP cs x u q=>?_⟩⟩,F.aV (bR J.1) _ _,H⟩
 .grind [dF.jb,List.length_append,List.length_cons,List.length_nil]
 .grind [LP,List.length_map,List.length_set]
 .have C:=dF.aV (m:=d) (b:=h) (r:=[.i j]) (o:=k) z
  rw[I,E,LP]
  have D:kH (a.flatten++tail) k [.i j]=(e.set k j).map Ce.i++tail:=by
   apply fq;intro g;rw[KL,G];grind [List.getElem?_append_left,Nat.lt_or_ge,List.length,List.getElem?_set_ne,List.getElem?_append_right]
  rw[<-D];exact C
 .grind [LP,List.length_append,List.length_map,List.length_set]
 .grind
 .simp only[eJ,q,vx,VB]at u
  exact u.symm
def y9(k:∀h∈S,h<d.size)(n:be (dA S d) q e)(m:e.length<=10^12){a:Nat}(l:a<e.length)(j:Int):oA 241 [q.v,vi a,vi j] d S (e.set a j=·):=by
 apply DC;refine(pN k n m).cg λs _ p g b o=>⟨_,O,V,?_,?_⟩
 .subst b;have:=g.aT cD;omega
 subst b;obtain⟨c,f,i,_⟩:=g.dX (o.fz []) l j;exact⟨c,s,_,O,f,O,i.ext⟩
end
end Go.Proofs.YtbbbdejieenniaaGreat
namespace Go.Vc
section
variable{l:au}{k d a:Nat}{x s:eM}{c:Prop}
open Go.Proofs.YtbbbdejieenniaaGreat
def Bk.ind{Q:Bk->Prop}(h:∀bA r,(∀s∈bA,∀b∈s.dv,Q b)->Q (.mk bA r)):∀b,Q b
 | .mk bA r=>h bA r λs _ b _=>Bk.ind h b
termination_by b=>SizeOf.sizeOf b
decreasing_by
 rename_i a c
 have d:=sQ a
 have e:=sQ c
 have f:SizeOf.sizeOf s.dv<SizeOf.sizeOf s:=by cases s;simp;omega
 simp;omega
def Ex.ind{Q:Ex->Prop}(h:∀a cE dv,(∀e∈dv,Q e)->Q (.mk a cE dv)):∀e,Q e
 | .mk a cE dv=>h a cE dv λe _=>Ex.ind h e
termination_by e=>SizeOf.sizeOf e
decreasing_by
 rename_i a
 have b:=sQ a
 simp;omega
def sw(l:au):Nat:=(l.map Rh.w).sum
def bw(l:aF):Nat:=(l.map Bk.w).sum
def en(l:ax):Nat:=(l.map Ex.n).sum
@[simp] theorem zH:sw []=0:=rfl
@[simp] theorem DW:bw []=0:=rfl
@[simp] theorem acY:en []=0:=rfl
theorem qu(x:eM)(l:au):sw (x::l)=x.w+sw l:=by simp[sw]
theorem yK(x:Bk)(l:aF):bw (x::l)=x.w+bw l:=by simp[bw]
def SY(x:Ex)(l:ax):en (x::l)=x.n+en l:=by simp[en]
theorem gF(a b:au):sw (a++b)=sw a+sw b:=by simp[sw]
theorem sU(a b:aF):bw (a++b)=bw a+bw b:=by simp[bw]
theorem Sf(a b:ax):en (a++b)=en a+en b:=by simp[en]
theorem Bk.vt(s:au)(r:Int):(Bk.mk s r).w=1+sw s:=Bk.aeK _
def Bk.pP(b:Bk):b.w=1+sw b.bA:=Bk.aeK b
theorem eM.pP(s:eM):s.w=1+s.aO.length+bw s.dv:=rfl
def Ex.Yv{o n:Int}{k:ax}:(Ex.mk o n k).n=1+en k:=by rw[Ex.n];rfl
def Ex.ad0(e:Ex):e.n=1+en e.dv:=by cases e;exact Ex.Yv
def ua(h:l[k]? =some x):sw (l.take (k+1))=sw (l.take k)+x.w:=by rw[bX h,gF,qu,zH];rfl
def yL{l:aF}{x:Bk}(h:l[k]? =some x):bw (l.take (k+1))=bw (l.take k)+x.w:=by rw[bX h,sU,yK,DW];rfl
theorem OV{l:ax}{x:Ex}(h:l[k]? =some x):en (l.take (k+1))=en (l.take k)+x.n:=by rw[bX h,Sf,SY,acY];rfl
def FL(l:au)(k:Nat):sw (l.take k)<=sw l:=by
 grind [gF,List.take,List.drop,List.take_append_drop]
def Xh(l:aF)(k:Nat):bw (l.take k)<=bw l:=by
 grind [sU,List.take,List.drop,List.take_append_drop]
def Xr(l:ax)(k:Nat):en (l.take k)<=en l:=by
 grind [Sf,List.take,List.drop,List.take_append_drop]
def TM(h:l[k]? =some x):x.w<=sw l:=by
 have:=ua h;have:=FL l (k+1);omega
def Ba{l:aF}{x:Bk}(h:l[k]? =some x):x.w<=bw l:=by
 have:=yL h;have:=Xh l (k+1);omega
def jQ:∀l:au,l.length<=sw l
 |[]=>bO
 |x::l=>by have:=jQ l;rw[qu,dy,eM.pP];omega
def Bk.NO(b:Bk):1<=b.w:=by rw[Bk.pP];omega
def wZ:∀l:aF,l.length<=bw l
 |[]=>bO
 |x::l=>by have:=wZ l;have:=x.NO;rw[yK,dy];omega
def V9:∀l:ax,l.length<=en l
 |[]=>bO
 |x::l=>by have:=V9 l;rw[SY,dy,Ex.ad0];omega
def tr(a:Int):Prop:=0<=a/\a<=11
instance(a:Int):Decidable (tr a):=inferInstanceAs (Decidable (_/\_))
def dn(s:eM):Nat:=if tr s.op then 1 else 0
def dc(l:au):Nat:=(l.map dn).sum
@[simp] theorem xf:dc []=0:=rfl
theorem nM(x:eM)(l:au):dc (x::l)=dn x+dc l:=by simp[dc]
theorem fg(a b:au):dc (a++b)=dc a+dc b:=by simp[dc]
def uK(h:l[k]? =some x):dc (l.take (k+1))=dc (l.take k)+dn x:=by rw[bX h,fg,nM,xf];rfl
def Zm(l:au)(k:Nat):dc (l.take k)<=dc l:=by
 grind [fg,List.take,List.drop,List.take_append_drop]
def adG(x:eM):dn x<=1:=by grind [dn]
def xe:∀l:au,dc l<=l.length
 |[]=>bO
 |x::l=>by have:=xe l;have:=adG x;rw[nM,dy];omega
def FY(a:af)(b cE:Int)(i:Nat):Nat:=if b=8 then(cW a (((cX a cE)[i]?).getD 0)).length else 0
@[grind cases] structure Ya (ds:af) (nr:Nat) (c:Prop) (a:Nat) (s:eM):Prop where
 op:tr s.op\/c/\14<=s.op/\s.op<=17
 aO:∀x∈s.aO,0<=x/\x<(a:Int)
 mM:14<=s.op\/s.op=7\/s.op=8->s.aO.length=1
 dh:0<=s.dh/\s.dh<=(a:Int)
 Nj:s.op=7->s.dv.length=2
 lY:s.op=8->s.dv.length=(cX ds s.cE).length/\0<s.dv.length
 jE:s.op=9->0<=s.cE/\s.cE<(nr:Int)
inductive WB(ds:af)(d:Nat)(c:Prop):Nat->Bk->Prop
 |mk {a:Nat} {bA:au} {r:Int} (iY:∀(i:Nat)(s:eM),bA[i]? =some s->Ya ds d c (a+dc (bA.take i)) s)
  (dv:∀(i:Nat)(s:eM)(k:Nat)(b:Bk),bA[i]? =some s->s.dv[k]? =some b->WB ds d c (a+dc (bA.take i)+FY ds s.op s.cE k) b)
  (res:0<=r/\r<((a+dc bA:Nat):Int)):WB ds d c a (.mk bA r)
@[grind cases] structure WS (ds:af) (nr:Nat) (c:Prop) (a:Nat) (s:eM):Prop where
 iY:Ya ds nr c a s
 dv:∀(k:Nat)(b:Bk),s.dv[k]? =some b->WB ds nr c (a+FY ds s.op s.cE k) b
def WL(b:af)(d:Nat)(c:Prop)(a:Nat)(l:au):Prop:=∀(i:Nat)(s:eM),l[i]? =some s->WS b d c (a+dc (l.take i)) s
def WB.cw{e:af}{b:Bk}(h:WB e d c a b):WL e d c a b.bA/\0<=b.bQ/\b.bQ<((a+dc b.bA:Nat):Int):=by
 cases h with
 |mk iY dv j=>exact⟨λi s f=>⟨iY i s f,λk b g=>dv i s k b f g⟩,j⟩
def WB.of{e:af}{bA:au}{r:Int}(h:WL e d c a bA)(j:0<=r/\r<((a+dc bA:Nat):Int)):WB e d c a (.mk bA r):=
 .mk (λi s b=>(h i s b).iY) (λi s k f b g=>(h i s b).dv k f g) j
def WL.gN{b:af}:WL b d c a []:=λi s h=>by simp at h
theorem WL.fw{e:af}{g:au}(h:WL e d c a l)(j:WL e d c (a+dc l) g):WL e d c a (l++g):=λi s b=>by
 rcases dJ i l.length with f|f
 .rw[dY f]at b;rw[rC V];exact h i s b
 .rw[dP f]at b;have:=j _ s b;grind [List.take_append,List.take_of_length_le,fg,Nat.add_assoc]
theorem WL.mM{e:af}(h:WS e d c a s):WL e d c a [s]:=λi x b=>by
 have:i=0:=by have:=br b;simp at this;omega
 subst this;simp at b;subst b;simpa using h
theorem WL.Dd{b:af}(h:WL b d c a l)(e:WS b d c (a+dc l) s):WL b d c a (l++[s]):=h.fw (.mM e)
theorem WL.Nh{e:af}(h:WL e d c a l)(k:Nat):WL e d c a (l.take k):=λi s b=>by
 rw[lP]at b;split at b
 .rw[aao,mH V];exact h i s b
 .simp at b
theorem WL.Bc{b:af}(h:WL b d c a l)(k:Nat):WL b d c (a+dc (l.take k)) (l.drop k):=λi s e=>by
 rw[rJ]at e;have:=h _ s e;grind [fg,Nat.add_assoc]
end
end Go.Vc
namespace Go.Proofs.YtbbbdejieenniaaGreat
open Go.Vc
section
variable{m:bh}{d p:E}{b:da}
def rQ(b:da)(cE:Int)(n:Nat):Prop:=∃q:eE,0<=cE/\b.di[cE.toNat]? =some q/\q.aY.length=n
theorem aai:eI 9223372036854775808= -9223372036854775808:=cD
def AJ(h:gY m d p b)(cE:Int)(n nj:Nat)(G:n<=9223372036854775807)(F:nj<=1):
 fX dO 150 [.agg #[d.v,p.v],vi cE,vi n,vi nj] m (rQ b cE (n+nj)):=by
 apply Hq
 simp -zeta only[dR]
 intro j
 have i:=px j
 have w:∀k∈[m.size],k<j.size:=by simp[j]
 have H:=h.di.aT
 have I:=h.di.kM
 refine(dj).bL cY w λk J o f B=>⟨_,O,λa=>?_,λa=>?_⟩
 .have a:=o.1 a
  rw[iz]at a
  let⟨q,g⟩:=dU b.di cE.toNat
  let⟨e,x,y,l,D,E,s,g1,g2,z,A⟩:=(mh.ext (i.J f) h.di).bt g
  refine⟨V,V,e,s,kX ?_ (i.J f)⟩
  have u:=l.aT
  have C:=l.kM
  simp only[bP]
  have r:(e.len:Int)=eI ((n:Int)+(nj:Int))<->e.len=n+nj:=by
   grind [Nat.lt_or_ge,de,aai]
  rw[r,u]
  exact⟨λv=>⟨q,a.1,g,v⟩,λ⟨K,_,c,t⟩=>by rw[g]at c;simp at c;rw[c];exact t⟩
 .refine fy (λ⟨q,e,c,_⟩=>fb o a ?_) (i.J f)
  have:=br c
  grind [de]
def mJ(b:da)(p:eE)(k:Nat)(i:Instr):Prop:=
 if i.op=0 then i.aO.length=0/\-999<=i.cE/\i.cE<=999
 else if i.op=1\/i.op=2\/i.op=3\/i.op=4\/i.op=11 then i.aO.length=2/\i.cE=0
 else if i.op=5\/i.op=14\/i.op=15\/i.op=18\/i.op=23 then i.aO.length=1/\i.cE=0
 else if i.op=6 then(0<=i.cE/\i.cE<(gR b.bT).length)/\i.aO.length=(cW b.bT i.cE).length/\0<=i.dh/\i.dh<=p.aU
 else if i.op=9\/i.op=24 then rQ b i.cE i.aO.length
 else if i.op=10 then rQ b i.cE (i.aO.length+1)/\∀q,b.di[i.cE.toNat]? =some q->q.df.length=0
 else if i.op=16\/i.op=17 then(1<=i.aO.length/\i.aO.length<=4)/\i.cE=0
 else if i.op=19 then i.aO.length=1/\0<=i.cE/\i.cE<=2
 else if i.op=20 then i.aO.length=1/\(k:Int)+1<=i.cE/\i.cE<=(p.eA.length:Int) -1
 else if i.op=22 then i.aO.length=0/\(k:Int)+1<=i.cE/\i.cE<=(p.eA.length:Int) -1
 else if i.op=21 then i.aO.length=1/\0<(cX b.bT i.cE).length/\JV i.gE (cX b.bT i.cE).length k p.eA.length
 else False
@[grind cases] structure iP (im:da) (p:eE) (k:Nat) (i:Instr):Prop where
 aO:∀a∈i.aO,0<=a/\a<=p.aU -1
 bH:0<=i.bH/\i.bH<=p.aU -1
 afd:i.bH=0\/lL i.op
 dh:i.dh=0\/i.op=6
 gE:i.op=21\/i.gE.length=0
 op:mJ im p k i
@[grind cases] structure Ub (m:bh) (a l:E) (c:E) (p:eE):Prop where
 aY:be m a p.aY
 df:be m l p.df
 eA:je m c p.eA
def Ub.ext{m d:bh}(a:D m d){b l c:E}{p:eE}(h:Ub m b l c p):Ub d b l c p:=⟨h.aY.ext a,h.df.ext a,je.ext a h.eA⟩
def JF(ae:gY m d p b)(R:eT b.bT){X ad F:E}{q:eE}(P:Ub m X ad F q)(hr:1<=q.aU/\q.aU<=2000){k:Nat}{i:Instr}(hk:q.eA[k]? =some i):
 fX dO 106 [.agg #[d.v,p.v],.agg #[X.v,ad.v,vi q.bQ,vi q.aU,F.v],vi k] m (iP b q k i):=by
 apply Dy
 simp -zeta only[dR]
 intro m1 W
 have T:D m W:=((D.cT m).bZ _).bZ _
 have ay:=br hk
 have ah:=P.eA.aT
 have av:=P.eA.kM
 let⟨xa,A,C,hj,g0,g1,g2,g3,g4,g5⟩:=(je.ext T P.eA).bt hk
 refine⟨V,V,_,g0,_,g1,_,g2,_,g3,_,g4,_,g5,?_⟩
 intro m3 v
 have l:D m v:=(T.bZ _).aV T.aQ _ _
 have ab:D W v:=by grind [D.cT,D.bZ,D.aV]
 have j:∀r∈[W.size,m1.size,m.size],r<v.size:=by
  grind [bD]
 have N:=C.aT
 have ax:=hj.aT
 have aq:=C.kM
 have er:eI (q.aU -1)=q.aU -1:=by grind [de]
 rw[er]
 refine gP (n:=i.aO.length) (N▸C.kM) (λU h=>D v h/\∀x∈i.aO.take U,0<=x/\x<=q.aU -1) ⟨cY,bO⟩ ?_
 rintro U m5 ao μ aw ⟨S,hn⟩ am
 refine dit (λh1=>?_) λh1=>?_
 .let⟨x,f⟩:=dU i.aO U
  refine⟨V,V,x,by simpa using(ab.J S).aS (C.bt f),?_⟩
  exact(dj).bL S j λr z e t c=>⟨_,O,λa=>fy (λg=>nb e a (g.aO x (aZ f))) (l.J c),λa=>am V _ ⟨c,dK f hn (yb e a)⟩⟩
 .have af:=gH V hn
  refine⟨λh=>D v h/\(0<=i.bH/\i.bH<=q.aU -1)/\(i.bH=0\/lL i.op)/\(i.dh=0\/i.op=6)/\(i.op=21\/i.gE.length=0),?_,?_⟩
  .refine(dj).bL S j λr z e t c=>⟨_,O,λa=>fy (λg=>nb e a g.bH) (l.J c),λa=>?_⟩
   have Z:=yb e a
   have tail:∀h:bh,D v h->(i.bH=0\/lL i.op)->
    ((i.dh !=0)=true->((i.op !=6)=true->∃s:Bool,vb false=.bool s/\(s=true<->iP b q k i)/\D m h)/\((i.op !=6)=false->
     ((i.op !=21)=true->((decide ((A.len:Int)>0))=true->∃s:Bool,vb false=.bool s/\(s=true<->iP b q k i)/\D m h)/\((decide ((A.len:Int)>0))=false->D v h/\(0<=i.bH/\i.bH<=q.aU -1)/\(i.bH=0\/lL i.op)/\(i.dh=0\/i.op=6)/\(i.op=21\/i.gE.length=0)))/\
     ((i.op !=21)=false->D v h/\(0<=i.bH/\i.bH<=q.aU -1)/\(i.bH=0\/lL i.op)/\(i.dh=0\/i.op=6)/\(i.op=21\/i.gE.length=0))))/\
    ((i.dh !=0)=false->
     ((i.op !=21)=true->((decide ((A.len:Int)>0))=true->∃s:Bool,vb false=.bool s/\(s=true<->iP b q k i)/\D m h)/\((decide ((A.len:Int)>0))=false->D v h/\(0<=i.bH/\i.bH<=q.aU -1)/\(i.bH=0\/lL i.op)/\(i.dh=0\/i.op=6)/\(i.op=21\/i.gE.length=0)))/\
     ((i.op !=21)=false->D v h/\(0<=i.bH/\i.bH<=q.aU -1)/\(i.bH=0\/lL i.op)/\(i.dh=0\/i.op=6)/\(i.op=21\/i.gE.length=0))):=by
    intro h G Y
    have o:(i.dh=0\/i.op=6)->((i.op !=21)=true->((decide ((A.len:Int)>0))=true->∃s:Bool,vb false=.bool s/\(s=true<->iP b q k i)/\D m h)/\((decide ((A.len:Int)>0))=false->D v h/\(0<=i.bH/\i.bH<=q.aU -1)/\(i.bH=0\/lL i.op)/\(i.dh=0\/i.op=6)/\(i.op=21\/i.gE.length=0)))/\
     ((i.op !=21)=false->D v h/\(0<=i.bH/\i.bH<=q.aU -1)/\(i.bH=0\/lL i.op)/\(i.dh=0\/i.op=6)/\(i.op=21\/i.gE.length=0)):=by
     intro B
     refine⟨λf=>⟨λu=>?_,λu=>?_⟩,λf=>?_⟩
     .grind [iP.gE,D.J]
     .grind
     .grind
    refine⟨λf=>⟨λu=>?_,λu=>o (bR cB)⟩,λf=>o (bC cB)⟩
    grind [iP.dh,D.J]
   refine⟨λf=>?_,λf=>tail z c (bC cB)⟩
   refine(BW _ _).bL c j λr x e u w=>⟨_,O,λy=>?_,λy=>tail x w (bR (yb e y))⟩
   grind [iP.afd,D.J]
  .rintro m8 ⟨o,Z,Y,aj,ak⟩
   have ac:=l.J o
   have ai:iP b q k i<->mJ b q k i:=⟨λg=>g.op,λg=>⟨af,Z,Y,aj,ak,g⟩⟩
   rw[ai]
   have z:gY m8 d p b:=gY.ext ac ae
   refine⟨λG=>?_,λG=>?_⟩
   .simp only[bP]at G
    have g:mJ b q k i<->i.aO.length=0/\-999<=i.cE/\i.cE<=999:=by grind [mJ]
    rw[g]
    refine⟨λt=>?_,λt=>?_⟩
    .simp only[bP]at t
     refine(dj).bL o j λr x e c a=>⟨_,O,kX ?_ (l.J a)⟩
     rw[e];omega
    grind [beq_eq_false_iff_ne]
   simp only[ba]at G
   refine⟨λH=>?_,λH=>?_⟩
   .grind [mJ,List.length,beq_eq_false_iff_ne]
   simp only[cU,ba]at H
   replace H:¬(i.op=1\/i.op=2\/i.op=3\/i.op=4\/i.op=11):=V
   refine⟨λI=>?_,λI=>?_⟩
   .grind [mJ,List.length,beq_eq_false_iff_ne]
   simp only[cU,ba]at I
   replace I:¬(i.op=5\/i.op=14\/i.op=15\/i.op=18\/i.op=23):=V
   refine⟨λJ=>?_,λJ=>?_⟩
   .simp only[bP]at J
    have g:mJ b q k i<->(0<=i.cE/\i.cE<(gR b.bT).length)/\i.aO.length=(cW b.bT i.cE).length/\0<=i.dh/\i.dh<=q.aU:=by grind [mJ]
    rw[g]
    refine(pM z.bT R _).bL o j ?_
    rintro _ x ⟨ap,rfl,B,c⟩
    refine⟨c,_,O,dit (λa=>?_) λa=>?_⟩
    .have M:0<=i.cE/\i.cE<(gR b.bT).length:=by
      rcases B with⟨K,L,f,u,w,y⟩|⟨f,_⟩
      .have:=J9 b.bT (show K+1<=b.bT.length from br u);grind [wz,qI]
      .omega
     refine(KR (dE.ext c z.bT) R).bL (o.J c) j ?_
     rintro _ al ⟨an,rfl,Q,f⟩
     have aa:=Q.aT
     refine⟨f,_,O,λu=>?_,λu=>?_⟩
     .simp only[bP]at u
      refine(dj).bL ((o.J c).J f) j λr ag e w y=>⟨_,O,kX ?_ (l.J y)⟩
      grind
     grind [beq_eq_false_iff_ne,D.J]
    .refine fy (λM=>?_) (ac.J c)
     rcases B with⟨K,L,f,u,w,y⟩|⟨_,f⟩
     .omega
     .exact f M.1
   simp only[ba]at J
   refine⟨λB=>?_,λB=>?_⟩
   .simp only[eG,bP]at B
    have g:mJ b q k i<->rQ b i.cE (i.aO.length+0):=by grind [mJ]
    rw[g]
    have L:=AJ z i.cE i.aO.length 0 V V
    rw[N]
    refine L.bL o j λr x e c a=>⟨_,O,kX e (l.J a)⟩
   simp only[cU,ba]at B
   replace B:¬(i.op=9\/i.op=24):=V
   refine⟨λK=>?_,λK=>?_⟩
   .simp only[bP]at K
    have g:mJ b q k i<->rQ b i.cE (i.aO.length+1)/\∀q,b.di[i.cE.toNat]? =some q->q.df.length=0:=by grind [mJ]
    rw[g]
    have L:=AJ z i.cE i.aO.length 1 V V
    rw[N]
    refine L.bL o j λr x e c a=>⟨_,O,λf=>?_,λf=>fy (λM=>fb e f M.1) (l.J a)⟩
    let⟨q',u,w,y⟩:=(e.1 f)
    let⟨a',s,c',ap,ag,au,f0,M,f2,f3,f4⟩:=(mh.ext c z.di).bt w
    have:=z.di.aT
    have:=br w
    refine⟨V,V,s,M,kX ?_ (l.J a)⟩
    have ar:=ag.aT
    grind
   simp only[ba]at K
   refine⟨λs=>?_,λs=>?_⟩
   .simp only[eG,bP]at s
    have g:mJ b q k i<->(1<=i.aO.length/\i.aO.length<=4)/\i.cE=0:=by grind [mJ]
    rw[g]
    refine(dj).bL o j λr x e c a=>⟨_,O,λf=>kX ?_ (l.J a),λf=>fy ?_ (l.J a)⟩
    .grind
    grind
   simp only[cU,ba]at s
   replace s:¬(i.op=16\/i.op=17):=V
   refine⟨λy=>?_,λy=>?_⟩
   .simp only[bP]at y
    have g:mJ b q k i<->i.aO.length=1/\0<=i.cE/\i.cE<=2:=by grind [mJ]
    rw[g]
    refine⟨λt=>?_,λt=>?_⟩
    .simp only[bP]at t
     refine(dj).bL o j λr x e c a=>⟨_,O,kX ?_ (l.J a)⟩
     rw[e];omega
    grind [beq_eq_false_iff_ne]
   simp only[ba]at y
   have ek:eI ((k:Int)+1)=(k:Int)+1:=by grind [de]
   have ec:eI ((F.len:Int) -1)=(q.eA.length:Int) -1:=by grind [de]
   rw[ek,ec]
   refine⟨λL=>?_,λL=>?_⟩
   .simp only[bP]at L
    have g:mJ b q k i<->i.aO.length=1/\(k:Int)+1<=i.cE/\i.cE<=(q.eA.length:Int) -1:=by grind [mJ]
    rw[g]
    refine⟨λt=>?_,λt=>?_⟩
    .simp only[bP]at t
     refine(dj).bL o j λr x e c a=>⟨_,O,kX ?_ (l.J a)⟩
     rw[e];omega
    grind [beq_eq_false_iff_ne]
   simp only[ba]at L
   refine⟨λM=>?_,λM=>?_⟩
   .simp only[bP]at M
    have g:mJ b q k i<->i.aO.length=0/\(k:Int)+1<=i.cE/\i.cE<=(q.eA.length:Int) -1:=by grind [mJ]
    rw[g]
    refine⟨λt=>?_,λt=>?_⟩
    .simp only[bP]at t
     refine(dj).bL o j λr x e c a=>⟨_,O,kX ?_ (l.J a)⟩
     rw[e];omega
    grind [beq_eq_false_iff_ne]
   simp only[ba]at M
   refine⟨λt=>?_,λt=>?_⟩
   .simp only[bP]at t
    have g:mJ b q k i<->i.aO.length=1/\0<(cX b.bT i.cE).length/\JV i.gE (cX b.bT i.cE).length k q.eA.length:=by grind [mJ]
    rw[g]
    refine(EO z.bT R).bL o j ?_
    rintro _ x ⟨an,rfl,Q,c⟩
    have aa:=Q.aT
    refine⟨c,_,O,λa=>?_,λa=>?_⟩
    .simp only[bP]at a
     refine⟨λf=>?_,λf=>?_⟩
     .simp only[bg]at f
      rw[aa,ah]
      refine(JG (hj.ext (ab.J (o.J c))) V V).bL (o.J c) j λr al e u w=>⟨_,O,kX ?_ (l.J w)⟩
      grind
     grind [decide_eq_false_iff_not,D.J]
    grind [beq_eq_false_iff_ne,D.J]
   grind [beq_eq_false_iff_ne,mJ,False]
end
section
variable{a:bh}{d p:E}{b:da}
@[grind cases] structure nD (ds:af) (ps:av):Prop where
 dm:eT ds
 aT:1<=ps.length/\ps.length<=4
 eR:∀p∈ps,p.aY.length<=3/\HI ds.length p.aY/\zL ds.length p.bQ
 first:∀p,ps[0]? =some p->p.aY.length=0/\p.bQ=0
def sR(a:bh)(c:ae)(p:eE):Prop:=∃b,c=[.s b,.i p.bQ,.i 0,.i 0,.s .nil]/\be a b p.aY
def sR.ext{a d:bh}(h:D a d)(b:ae)(c:eE):sR a b c->sR d b c:=λ⟨f,e,g⟩=>⟨f,e,g.ext h⟩
theorem YX.bt{s:E}{l:av}(h:fW a 5 (sR a) s l){k:Nat}{x:eE}(e:l[k]? =some x):
 ∃b,be a b x.aY/\aS a s.bu (s.off+k*5)=some b.v/\aS a s.bu (s.off+k*5+1)=some (vi x.bQ)/\aS a s.bu (s.off+k*5+2)=some (vi 0)/\aS a s.bu (s.off+k*5+3)=some (vi 0)/\aS a s.bu (s.off+k*5+4)=some (E.v .nil):=by
 obtain⟨f,⟨b,rfl,d⟩,c⟩:=h.kY k x e
 exact⟨b,d,c 0 (.s b) O,c 1 (.i x.bQ) O,c 2 (.i 0) O,c 3 (.i 0) O,c 4 (.s .nil) O⟩
def y8{y:E}{j:af}{h:av}(hd:dE a d j)(w:fW a 5 (sR a) y h):
 fX dO 52 [.agg #[d.v,y.v]] a (nD j h):=by
 apply FJ
 simp -zeta only[dR]
 intro q
 have m:=px q
 have G:∀e∈[a.size],e<q.size:=by simp[q]
 have l:=hd.aT
 have aa:=w.aT
 refine(JI (dE.ext m hd)).bL cY G λe m2 b N Q=>⟨_,O,λu=>fy (λc=>nb b u c.dm) (m.J N),λu=>?_⟩
 have T:=yb b u
 refine(dj).bL Q G λe m3 b Z C=>⟨_,O,λv=>fy (λc=>nb b v (oh c.aT)) (m.J C),λv=>?_⟩
 have ab:=yb b v
 refine gP (n:=h.length) V (λx f=>D q f/\∀p∈h.take x,p.aY.length<=3/\HI j.length p.aY/\zL j.length p.bQ) ⟨C,bO⟩ ?_
 rintro x K X μ hj ⟨J,I⟩ W
 have g:=m.J J
 refine dit (λR=>?_) λR=>?_
 .let⟨p,f⟩:=dU h x
  let⟨M,k,r,g1,g2,z,A⟩:=YX.bt (w.aP g (sR.ext g)) f
  have S:=k.aT
  refine⟨V,V,_,r,_,g1,_,g2,_,z,_,A,?_⟩
  intro m5 L
  have o:D K L:=by grind [D.cT,D.bZ,D.aV]
  have H:∀e∈[K.size,a.size],e<L.size:=by
   grind [D.lt,Array.size,D.aQ,bD]
  refine⟨λi=>?_,λi=>?_⟩
  .grind [nD.eR,aZ,D.J]
  simp only[dk]at i
  refine(Aq (k.ext o)).bL cY H λe m7 b F P=>⟨_,O,λs=>fy (λc=>nb b s (l▸(c.eR p (aZ f)).2.1)) ((g.J o).J F),λs=>?_⟩
  have U:=yb b s
  refine(dj).bL P H λe m8 b Y B=>⟨_,O,λt=>?_,λt=>?_⟩
  .refine fy (λc=>nb b t ?_) ((g.J o).J B)
   rw[l];exact(c.eR p (aZ f)).2.2
  .refine W V _ ⟨(J.J o).J B,dK f I ⟨V,l▸U,?_⟩⟩
   have:=yb b t
   rw[l]at this;exact this
 .have o:=gH V I
  let⟨p,f⟩:=dU h 0
  let⟨M,k,r,g1,g2,z,A⟩:=YX.bt (w.aP g (sR.ext g)) f
  have S:=k.aT
  refine⟨V,V,_,r,λi=>?_,λi=>?_⟩
  .simp only[bP]at i
   refine⟨V,V,_,g1,kX ?_ g⟩
   simp only[bP]
   refine⟨λF=>⟨T,V,o,λt s=>?_⟩,λc=>(c.first p f).2⟩
   grind
  grind [beq_eq_false_iff_ne,nD.first]
def Hv(N:gY a d p b)(ap:b.di.length<=4):
 bK dO 53 [.agg #[E.v d,E.v p]] a λal i=>∃M,al=.agg #[E.v d,E.v M]/\fW i 5 (sR i) M b.di/\D a i:=by
 apply BY
 simp -zeta only[kJ,nO]
 intro s j g K l
 have aq:=N.di.aT
 have ah:D a K:=(((D.cT a).bZ _).bZ _|>.bZ _).bZ _
 have s3:g.size=a.size+3:=by simp[g,j,s]
 have s2:j.size=a.size+2:=by simp[j,s]
 have s1:=pz s
 have s5:l.size=a.size+4:=by simp[l,K,bD,s3]
 have ai:D a l:=ah.aV V _ _
 have aa:dF l g.size nI [.s d,.s (.mk j.size 0 0 0)]:=dF.aV (m:=K) (o:=0) (r:=[.s d,.s (.mk j.size 0 0 0)]) (dF.push g _ _)
 have ag:=py l
 have ad:jw a l jf 5 (.mk j.size 0 0 0) ([]:List ae).flatten:=
  (jw.bF (((D.cT a).bZ _).bZ _:D a j) jf 5 [] 0 bO:jw a g jf 5 (.mk j.size 0 0 0) []).ext ag
 refine gP (n:=b.di.length) V (λB i=>D a i/\l.size<=i.size/\∃f v,dF i g.size nI [.s d,.s f]/\jw a i jf 5 f v.flatten/\iy 5 (sR a) v (b.di.take B)/\f≠.nil/\s.size<f.bu/\f.bu≠g.size/\f.len=B)
  ⟨ai,bY,_,[],aa,ad,by simpa using iy.gN 5 (sR a),bO,eX,eX,O⟩ ?_
 rintro B L am μ hk ⟨z,ax,f,v,w,Q,J,au,ar,af,S⟩ ak
 refine dit (λU=>?_) λU=>?_
 .let⟨C,R⟩:=dU b.di B
  let⟨q,c,an,ha,e,hc,T,g1,g2,g3,g4⟩:=N.di.bt R
  refine⟨f,w.dx 1,V,V,q,by simpa using z.aS T,V,V,_,by simpa using z.aS g2,?_⟩
  intro k
  have A:=px k
  refine⟨A.cZ (w.dx 1),?_⟩
  have mu:jF k L.size 0 [.s q,.i C.bQ,.i 0,.i 0,.s .nil]:=(dF.push L _ _).kY
  have ac:=w.ext A
  have av:=pz k
  refine jw.fw (c:=[.s .nil,.i 0,.i 0,.i 0,.s .nil]) (i:=[.s q,.i C.bQ,.i 0,.i 0,.s .nil]) (Q.ext A) (z.J A) O mu (by simp[S];omega) ?_
  intro u t Y Z G ao W X
  have F:∀c,c<k.size->c≠f.bu->t[c]? =k[c]? :=λc e H=>W c e (λ_=>H)
  have x:s.size<u.bu/\u.bu≠g.size:=by
   rcases X with⟨_,h⟩|⟨_,h,_⟩|h
   .rw[h]at G;simp at G
   .rw[h];constructor<;>omega
   .rw[h];constructor<;>omega
  have P:dF t g.size nI [.s d,.s f]:=ac.congr (F _ V (λh=>af h.symm))
  refine⟨λc e=>?_,P.jb bO,?_⟩
  .simp at e
   rcases e with rfl|rfl
   .exact F _ V V
   .exact F _ V V
  intro y
  have aw:y.size=t.size:=by simp[y,bD]
  have ab:dF y g.size nI [.s d,.s u]:=dF.aV (m:=t) (o:=1) (r:=[.s u]) P
  have I:∀c,c≠g.size->y[c]? =t[c]? :=λc e=>cq _ _ _ _ e
  have aj:D a y:=Z.aV V _ _
  refine⟨λc e=>?_,?_⟩
  .simp at e
   rcases e with rfl|rfl
   .exact I _ V
   .exact I _ V
  refine ak V _ ⟨aj,V,u,v++[[.s q,.i C.bQ,.i 0,.i 0,.s .nil]],ab,?_,?_,?_,x.1,x.2,by simp[G,S]⟩
  .rw[uH]
   exact(by simpa using Y:jw a t jf 5 u (v.flatten++[[.s q,.i C.bQ,.i 0,.i 0,.s .nil]].flatten)).congr (I _ x.2)
  .rw[bX R]
   exact J.Dd O ⟨q,O,ha⟩
  .intro h
   rw[h]at x;simp at x
 .refine⟨d,w.dx 0,f,w.dx 1,?_⟩
  intro k
  have H:∀c,c≠s.size->k[c]? =L[c]? :=λc e=>cq _ _ _ _ e
  have h:D a k:=z.aV V _ _
  refine⟨f,O,?_,h⟩
  rw[eQ V]at J
  exact(fW.jA (Q.congr (H _ V)) J V V).aP cY (sR.ext h)
@[grind cases] structure pd (im:da) (p:eE):Prop where
 df:Im p.aY p.df
 aU:(p.aY.length:Int)<=p.aU/\1<=p.aU/\p.aU<=2000
 aT:1<=p.eA.length/\p.eA.length<=2000
 eR:∀(k:Nat)(i:Instr),p.eA[k]? =some i->iP im p k i
 Od:∀i,p.eA[p.eA.length -1]? =some i->i.op=23\/i.op=24
def Lp(I:gY a d p b)(Q:eT b.bT){x G s:E}{q:eE}(f:Ub a x G s q):
 fX dO 54 [.agg #[d.v,p.v],.agg #[x.v,G.v,vi q.bQ,vi q.aU,s.v]] a (pd b q):=by
 apply FI
 simp -zeta only[dR]
 intro T w
 have g:D a w:=((D.cT a).bZ _).bZ _
 have o:∀h∈[T.size,a.size],h<w.size:=cB
 have aa:=f.aY.aT
 have ab:=f.eA.aT
 refine(yZ (f.aY.ext g) (f.df.ext g)).bL cY o λh m3 c J L=>⟨_,O,λt=>fy (λe=>nb c t e.df) (g.J J),λt=>?_⟩
 have C:=yb c t
 refine(dj).bL L o λh m4 c Z M=>⟨_,O,λN=>?_,λN=>?_⟩
 .grind [D.J,pd.aU]
 refine(dj).bL M o λh m5 c h7 A=>⟨_,O,λu=>fy (λe=>nb c u (oh e.aT)) (g.J A),λu=>?_⟩
 have ad:=yb c u
 have v:(q.aY.length:Int)<=q.aU/\1<=q.aU/\q.aU<=2000:=by
  grind
 refine gP (n:=q.eA.length) V (λr S=>D w S/\∀(k:Nat)(i:Instr),k<r->q.eA[k]? =some i->iP b q k i) ⟨A,bO⟩ ?_
 rintro r m6 U μ hj ⟨F,hn⟩ ae
 have j:=g.J F
 refine dit (λK=>?_) λK=>?_
 .let⟨i,m⟩:=dU q.eA r
  refine(JF (gY.ext j I) Q (f.ext j) v.2 m).bL F o λh B c l z=>⟨_,O,λy=>fy (λe=>nb c y (e.eR r i m)) (g.J z),λy=>?_⟩
  grind
 .let⟨i,m⟩:=dU q.eA (q.eA.length -1)
  let⟨xa,xj,ha,ac,y,g1,g2,W,X,Y⟩:=(je.ext j f.eA).bt m
  have H:eI ((s.len:Int) -1)=((q.eA.length -1:Nat):Int):=by grind [de]
  rw[H]
  have B:∀(k:Nat)(i:Instr),q.eA[k]? =some i->iP b q k i:=by grind [br]
  refine⟨V,V,_,sp y,λl=>?_,λl=>?_⟩
  .simp only[bP]at l
   refine oO ⟨C,v,V,B,λR P=>?_⟩ j
   grind
  .simp only[ba]at l
   refine⟨V,V,_,sp y,kX ?_ j⟩
   simp only[bP]
   refine⟨λz=>⟨C,v,V,B,λR P=>?_⟩,λe=>?_⟩
   .grind
   grind [pd.Od]
@[grind cases] structure iB (im:da):Prop where
 mT:nD im.bT im.di
 eR:∀p∈im.di,pd im p
def JE(h:gY a d p b):fX dO 28 [.agg #[E.v d,E.v p]] a (iB b):=by
 apply Dx;simp -zeta only[kJ,nO];intro i;have e:=px i;have m:∀g∈[a.size],g<i.size:=by simp[i]
 have R:=h.di.aT;refine dit (λC=>?_) λC=>?_
 .exact fy (λf=>oh f.mT.aT) e
 refine(Hv (gY.ext e h) V).bL cY m ?_;rintro _ S ⟨y,rfl,I,j⟩;refine⟨j,d,y,O,?_⟩;refine(y8 (dE.ext (e.J j) h.bT) I).bL j m λg T c N t=>⟨_,O,λk=>fy (λf=>nb c k f.mT) (e.J t),λk=>?_⟩;have w:=yb c k;refine gP (n:=b.di.length) V (λr l=>D i l/\∀s∈b.di.take r,pd b s) ⟨t,bO⟩ ?_;rintro r U K μ Q ⟨x,v⟩ J
 have q:=e.J x;refine dit (λF=>?_) λF=>?_
 .let⟨s,o⟩:=dU b.di r;let⟨L,g,M,G,c,H,z,g1,g2,A,B⟩:=(mh.ext q h.di).bt o;refine⟨V,V,_,z,_,g1,_,g2,_,A,_,B,?_⟩;exact(Lp (gY.ext q h) w.dm ⟨G,c,H⟩).bL x m λg W c P u=>⟨_,O,λl=>fy (λf=>nb c l (f.eR s (aZ o))) (e.J u),λl=>J V _ ⟨u,dK o v (yb c l)⟩⟩
 .exact oO ⟨w,gH V v⟩ q
end
section
variable{m:bh}{s:E}{t c:Int}{l:ab}
theorem fW.SW{α:Type}{d:Nat}{R:ae->α->Prop}{l:List α}(h:fW m d R s l){k:Nat}(n:k<=l.length):fW m d R (s.cut 0 k d) (l.take k):=by
 have b:=h.aT;have f:=h.ms;have i:=h.kM;cases s with
 |nil=>
  simp at b;have:k=0:=V;subst this;exact⟨by simp[E.cut],by simp[E.cut],by simp[E.cut],bO⟩
 |DG e o sp=>
  simp at b;have:k=0:=V;subst this;exact⟨by simp[E.cut],by simp[E.cut],by simp[E.cut],bO⟩
 |mk e o p c=>
  simp only[E.ku,E.SN]at b f i;refine⟨by simp[E.cut];omega,by simp[E.cut];omega,by simp[E.cut];omega,λj x a=>?_⟩;have g:j<k:=by have:=br a;simp at this;omega
  rw[lP,bn g]at a;have:=h.kY j x a;simpa[E.cut]using this
def tH{bT:E}:fX dO 71 [bT.v,vi t] m (zL bT.len t):=by
 apply Ko;constructor<;>grind [D.cT,zL]
def zW{g:E}(b:be m g l){bT:E}:fX dO 72 [bT.v,g.v] m (HI bT.len l):=by
 apply Gx;have i:=b.aT;refine gP (n:=l.length) (i▸b.kM) (λk a=>D m a/\∀t∈l.take k,zL bT.len t) ⟨cY,bO⟩ ?_;rintro k r I μ q ⟨a,f⟩ o
 refine dit (λh=>?_) λh=>?_
 .let⟨x,c⟩:=dU l k;refine⟨V,V,x,by simpa using a.aS (b.bt c),?_⟩;exact(tH).cg λp s e d=>⟨_,O,λh=>fy (λj=>nb e h (j x (aZ c))) (a.J d),λh=>o V _ ⟨a.J d,dK c f (yb e h)⟩⟩
 .exact oO (gH V f) a
def qL(a:Int)(m:bh)(b:a≠7/\a≠8):fX dO 79 [vi a] m (lL a):=by
 apply Af;constructor<;>grind [D.cT,lL]
def rh{bT:E}{a:af}(hd:dE m bT a)(s:a.length<=4)(k:∀d∈a,d.eB.length<=3):DK dO 25 [E.v bT] m (vi (gR a).length):=by
 apply Gz;simp -zeta only[kJ];have q:=hd.aT;refine gL (n:=a.length) V (λj f b=>D m b/\f=(fc a j:Nat)/\fc a j<=3*j) ⟨cY,by cases a<;>rfl,by cases a<;>simp[fc]⟩ ?_;rintro j f t I μ r ⟨c,rfl,p⟩ l
 refine dit (λi=>?_) λi=>?_
 .let⟨d,b⟩:=dU a j;let⟨g,e,h,g1,g2⟩:=(dE.ext c hd).bt b;refine⟨V,V,_,h,_,g1,g,g2,?_⟩;intro u v;have o:=k d (aZ b);refine l V _ _ ⟨(c.bZ _).aV c.aQ _ _,?_,?_⟩
  .rw[de V (oh e.aT),wz b,e.aT];rfl
  .rw[wz b];omega
 .refine⟨?_,c⟩;rw[qI a j V]
def OT{a:af}(h:eT a):∀d∈a,d.eB.length<=3:=λd hd=>by
 grind [List.mem_iff_getElem?,nK]
def Xs:∀(a:af)(k:Nat),(gR (a.take k)).length=fc a k
 |[],k=>by simp[gR,Wb]
 |d::a,0=>by simp[gR,fc]
 |d::a,k+1=>by
  have:=Xs a k;grind [gR,List.length_append,fc]
def Cn{bT:E}{a:af}(hd:dE m bT a)(e:eT a)(t:Int):bK dO 43 [E.v bT,vi t] m λK b=>∃s,K=E.v s/\jw m b bB 1 s ((cX a t).map Ce.i)/\(cX a t).length<=3/\D m b:=by
 apply Kk;have T:=hd.aT;have S:=hd.ms;have c:∀(h:¬(1<=t/\t<=a.length)),jw m m bB 1 .nil ((cX a t).map Ce.i)/\(cX a t).length<=3:=λh=>by
  unfold cX;rw[aW h];exact⟨jw.gN _ _ _ _,bO⟩
 have:=e.aT;refine dit (λh=>?_) λh=>?_
 .exact⟨_,O,(c V).1,(c V).2,cY⟩
 refine dit (λx=>?_) λx=>?_
 .exact⟨_,O,(c V).1,(c V).2,cY⟩
 have r:eI (t -1)=((t.toNat -1:Nat):Int):=by rw[de V V];omega
 rw[r];let⟨d,f⟩:=dU a (t.toNat -1);have u:cX a t=(List.range d.eB.length).map λi=>((fc a (t.toNat -1)+i:Nat):Int):=by
  unfold cX;rw[bn V,f];rfl
 rw[u];have Q:=tE e (t.toNat -1);have R:=nK e f;refine⟨V,V,V,?_⟩;have C:dE m (bT.cut 0 (t.toNat -1) 3) (a.take (t.toNat -1)):=fW.SW hd V;have g:=rh C eX (λd hd=>OT e d (gW hd));rw[Xs]at g;refine g.cg λH p=>⟨_,O,?_⟩;let⟨w,F,M,g1,g2⟩:=(dE.ext p hd).bt f;have U:=F.aT;refine⟨V,V,w,sp g2,?_⟩;refine gL (n:=d.eB.length) V (λj s b=>D m b/\jw m b bB 1 s (((List.range j).map λi=>((fc a (t.toNat -1)+i:Nat):Int)).map Ce.i)/\s.len=j) ⟨p,by simpa using jw.gN m H bB 1,O⟩ ?_;rintro j s I L μ W ⟨o,k,l⟩ J
 refine dit (λy=>?_) λy=>?_
 .intro q;have v:eI (((fc a (t.toNat -1):Nat):Int)+(j:Int))=((fc a (t.toNat -1)+j:Nat):Int):=by rw[de V V];omega
  have G:q=I.push (.cells (db [.i (((fc a (t.toNat -1)+j:Nat):Int))]) bB):=by rw[<-v]
  clear_value q;subst G;refine jw.fw (c:=[.i 0]) (i:=[.i ((fc a (t.toNat -1)+j:Nat):Int)]) (k.ext (D.push _ _)) (o.bZ _) O (dF.push _ _ _).kY (by simp[l];omega) ?_;intro X b z A B N P _;refine J V _ _ ⟨A,?_,by simp[B,l]⟩
  rw[List.range_succ,lH,lH];exact z
 .have:j=d.eB.length:=V;subst this;exact⟨_,O,k,eX,o⟩
def xh{bT:E}{a:af}(hd:dE m bT a)(f:eT a)(t:Int):bK dO 43 [bT.v,vi t] m λv b=>∃s,v=s.v/\be b s (cX a t)/\D m b:=
 (Cn hd f t).aP λ_ _⟨s,c,d,g,e⟩=>⟨s,c,be.jA d V,e⟩
def UA{a:af}{i j:Nat}{d:cR}{f:ab}(h:a[i]? =some d)(b:d.eB[j]? =some f):cW a ((fc a i+j:Nat):Int)=f:=by
 unfold cW;rw[bn V,fR,uV a i j d h (br b),b];rfl
def Ir{a:af}(h:c∈cX a t):1<=t/\t<=a.length/\(fc a (t.toNat -1):Int)<=c/\c<fc a t.toNat:=by
 unfold cX at h;split at h
 .rename_i e;let⟨x,b⟩:=dU a (t.toNat -1);rw[b]at h;obtain⟨i,d,rfl⟩:=gK.1 h;have:=wz b;grind
 .simp at h
theorem Un{b:af}{a:Int}(h:c∈cX b t)(e:c∈cX b a):t=a:=by
 let⟨f,a2,a3,a4⟩:=Ir h;let⟨b1,b2,b3,b4⟩:=Ir e;rcases Nat.lt_trichotomy t.toNat a.toNat with d|d|d
 .have:=J9 b (b:=t.toNat) (c:=a.toNat -1) V;omega
 .omega
 .have:=J9 b (b:=a.toNat) (c:=t.toNat -1) V;omega
def HV{bT:E}{a:af}(hd:dE m bT a)(o:eT a)(c:Int)(Z: -1000000<=c/\c<=1000000):bK dO 202 [bT.v,vi c] m λS e=>∃t s,S=.tuple #[vi t,.agg #[s.v]]/\be e s (cW a c)/\D m e/\(0<=t->c∈cX a t)/\(∀w,c∈cX a w->0<=t):=by
 apply LU;simp -zeta only[dR];intro r;have Q:=px r;clear_value r;have aa:=hd.aT;have:=o.aT;refine gL (n:=a.length) V (λb x e=>D m e/\r.size<=e.size/\x=c -(fc a b:Nat)/\¬(0<=c/\c<fc a b)) ⟨Q,bY,by cases a<;>simp[fc],by cases a<;>simp[fc]⟩ ?_;rintro b x B I μ hj ⟨P,ae,rfl,N⟩ ag
 refine dit (λJ=>?_) λJ=>?_
 .let⟨y,d⟩:=dU a b;let⟨f,z,G,g1,g2⟩:=(dE.ext P hd).bt d;have ab:=z.aT;have X:=tE o b;have Y:=nK o d;refine⟨V,V,_,G,_,g1,f,g2,?_⟩;intro m3 u;have R:D B u:=by grind [D.cT,D.bZ,D.aV]
  have A:¬(0<=c -(fc a b:Nat)/\c -(fc a b:Nat)<y.eB.length)->I (eI (c -(fc a b:Nat) -(f.len:Int))) (eI ((b:Int)+1)) u/\μ (eI (c -(fc a b:Nat) -(f.len:Int))) (eI ((b:Int)+1)) u<μ (c -(fc a b:Nat)) b B:=by
   grind [D.J,D.aQ,de,wz]
  refine⟨λg=>⟨λl=>?_,λl=>A ?_⟩,λg=>A ?_⟩
  .simp only[bg]at g l;let⟨T,p⟩:=dU y.eB ((c -(fc a b:Nat)).toNat);let⟨k,hg,H⟩:=(tq.ext R z).bt p;refine⟨V,V,k,H,?_⟩;intro v;have q:D m v:=by grind [D.J,D.aV]
   have M:c∈cX a (eI ((b:Int)+1)):=by
    rw[Pc V];unfold cX;rw[bn V,show((b+1:Nat):Int).toNat -1=b by omega,d];grind [fc]
   refine⟨_,k,O,?_,q,λ_=>M,λ_ _=>by rw[Pc V];omega⟩;have h:cW a c=T:=by
    have:=UA d p;grind
   rw[h];obtain⟨C,K,_,_,U⟩:=hd.bt d;have L:f=C:=by
    grind [D.aS,E.Lz]
   subst L;let⟨F,ac,W⟩:=K.bt p;have ad:k=F:=by
    grind [D.J,D.aS,E.Lz]
   grind [be.ext]
  .simp at g l;omega
  .simp at g;omega
 .intro v;have q:D m v:=by grind [D.aV]
  refine⟨_,.nil,O,?_,q,λd=>absurd d cD,λw f=>absurd ?_ N⟩;rotate_left
  .let⟨b1,b2,b3,b4⟩:=Ir f;have:=J9 a (b:=w.toNat) (c:=b) V;omega
  have h:cW a c=[]:=by
   grind [cW,List.getElem?_eq_none,qI]
  rw[h];exact⟨O,bY,bO,bO⟩
theorem Rr{bT:E}{a:af}(hd:dE m bT a)(h:eT a)(c:Int)(g: -1000000<=c/\c<=1000000):bK dO 202 [bT.v,vi c] m λv b=>∃t s,v=.tuple #[vi t,.agg #[s.v]]/\be b s (cW a c)/\D m b:=
 (HV hd h c g).aP λ_ _⟨t,s,d,e,f,_⟩=>⟨t,s,d,e,f⟩
def ux{bT:E}{a:af}(hd:dE m bT a)(e:eT a)(d: -1000000<=c/\c<=1000000):bK dO 137 [E.v bT,vi c] m λv b=>∃s,v=E.v s/\be b s (cW a c)/\D m b:=by
 apply GD;grind [kJ,nO,Rr,bK.aP,D,D.cT,D.bZ,D.aV,be.ext,D.J]
def Ap(f:be m s l)(g:Nat)(e d:Array Value)(t:GL.elem g=true)(q:Int->Prop)
 (p:∀x∈l,∀a,D m a->fX dO g (e.toList++[vi x]++d.toList) a (q x)):
 bK dO 136 [s.v,.func (.func g) e d] m λz a=>∃r:Int,z=vi r/\D m a/\
  ((r= -1/\∀x∈l,¬q x)\/∃(k:Nat)(x:Int),r=k/\l[k]? =some x/\q x/\∀y∈l.take k,¬q y):=by
 apply uB s (.func g,e,d)
 have u:=f.aT
 refine gP (n:=l.length) (u▸f.kM) (λk a=>D m a/\∀y∈l.take k,¬q y) ⟨cY,bO⟩ ?_
 rintro k v I μ B ⟨b,o⟩ w
 refine⟨λh=>?_,λh=>?_⟩
 .simp only[bg]at h
  let⟨x,c⟩:=dU l k
  refine⟨V,V,x,by simpa using b.aS (f.bt c),g,O,t,?_⟩
  exact(p x (aZ c) v b).cg λA C j i=>⟨_,O,λh=>⟨_,O,b.J i,bR ⟨k,x,O,c,j.1 h,o⟩⟩,λh=>w V _ ⟨b.J i,dK c o (fb j h)⟩⟩
 .grind [decide_eq_false_iff_not]
def jU(f:be m s l)(g:Nat)(b a:Array Value)(e:GL.elem g=true)(q:Int->Prop)
 (d:∀x∈l,∀c,D m c->fX dO g (b.toList++[vi x]++a.toList) c (q x)):
 fX dO 81 [s.v,.func (.func g) b a] m (∃x∈l,q x):=by
 apply tm s (.func g,b,a)
 refine(Ap f g b a e q d).aP ?_
 grind [ge_iff_le,aZ]
end
section
variable{s c k d r:E}{b:bh}{e:ad}{Q:ab->Prop}{v:ab}{x:eM}
structure _root_.Go.Vc.j7 where
 aY:ab
 df:ab
 bQ:Int
 eY:Bk
def ly(m:bh)(a:ae)(r:j7):Prop:=∃p l s,a=[.s p,.s l,.i r.bQ,.s s,.i r.eY.bQ]/\be m p r.aY/\be m l r.df/\iN m s r.eY.bA
abbrev DN(m:bh)(s:E)(l:List j7):Prop:=fW m 5 (ly m) s l
@[grind cases] structure iF (m:bh) (d r:E) (ds:af) (rs:List j7):Prop where
 bT:dE m d ds
 lI:DN m r rs
 dm:eT ds
 p7:rs.length<=4
theorem ly.le{m b:bh}(h:Le m b){a:ae}{x:j7}:ly m a x->ly b a x:=λ⟨p,l,s,c,d,e,f⟩=>⟨p,l,s,c,d.le h,e.le h,f.le h⟩
def ly.aP:sD 5 ly:=⟨λh=>ly.le h,λh=>by obtain⟨_,_,_,rfl,_⟩:=h;rfl⟩
def DN.le{m b:bh}(a:Le m b){s:E}{l:List j7}(h:DN m s l):DN b s l:=by grind [fW.le,ly.le]
theorem DN.bt{m:bh}{l:List j7}(h:DN m s l){k:Nat}{x:j7}(f:l[k]? =some x):
 ∃p t b,be m p x.aY/\be m t x.df/\iN m b x.eY.bA/\aS m s.bu (s.off+k*5)=some p.v/\aS m s.bu (s.off+k*5+1)=some t.v/\aS m s.bu (s.off+k*5+2)=some (vi x.bQ)/\aS m s.bu (s.off+k*5+3)=some b.v/\aS m s.bu (s.off+k*5+4)=some (vi x.eY.bQ):=by
 obtain⟨g,⟨p,t,b,rfl,c,d,e⟩,a⟩:=h.kY k x f
 exact⟨p,t,b,c,d,e,a 0 _ O,a 1 _ O,a 2 _ O,a 3 _ O,a 4 _ O⟩
theorem iF.le{m b:bh}{d r:E}{a:af}{e:List j7}(h:iF m d r a e)(c:Le m b):iF b d r a e:=⟨h.bT.le c,h.lI.le c,h.dm,h.p7⟩
def Ev{m:bh}:Le m (dA [] m):=λb o v h=>iO.2 ⟨bO,h⟩
theorem Kb{a:af}(h:eT a)(c:Int):(cW a c).length<=3:=by
 unfold cW;split
 .rcases dJ c.toNat (gR a).length with b|b
  .let⟨i,d,e,f,g⟩:=zi a c.toNat b;have j:=uV a i (c.toNat -fc a i) d e V;grind [fc,dU,eT.eR,zf.ju,aZ]
  grind [List.getElem?_eq_none]
 .simp
def adE{a:af}(h:eT a)(t:Int):(cX a t).length<=3:=by
 grind [cX,nK]
def VW{a:af}(h:eT a)(b cE:Int)(k:Nat):FY a b cE k<=3:=by
 grind [FY,Kb]
abbrev JU(f:Nat)(a:ap)(m:bh):Prop:=wU f a m λ_=>True
def sS(f:Nat)(a:ap)(m:bh):Prop:=bK dO f a m λv b=>∃c:Bool,v=.bool c/\D m b
def rN{m:bh}{n:Int}(h:D m b):∃k:Int,vi n=vi k/\True/\D m b:=⟨n,O,trivial,h⟩
def rA{m:bh}{a:Bool}(h:D m b):∃k:Bool,vb a=.bool k/\D m b:=⟨a,O,h⟩
def _root_.Go.Vc.fX.jY{f:Nat}{a:ap}{m:bh}{p:Prop}(h:fX dO f a m p):sS f a m:=h.aP λ_ _⟨b,e,_,x⟩=>⟨b,e,x⟩
section
variable{f:Nat}{g:ap}{a m:bh}{K:aj}{l:ad}
def JU.bL(i:JU f g m)(e:D a m)(o:∀c∈l,c<a.size)(k:∀(n:Int) b,D m b->D a b->K (vi n) b):bK dO f g m λv b=>gS l m b/\K v b:=
 i.aP λ_ b⟨n,h,_,d⟩=>⟨d.eW λc j=>e.lt (o c j),h▸k n b d (e.J d)⟩
def sS.bL(i:sS f g m)(e:D a m)(n:∀c∈l,c<a.size)(k:∀(c:Bool) b,D m b->D a b->K (vb c) b):bK dO f g m λv b=>gS l m b/\K v b:=
 i.aP λ_ b⟨o,h,d⟩=>⟨d.eW λc j=>e.lt (n c j),h▸k o b d (e.J d)⟩
def wU.bL{Q:Int->Prop}(i:wU f g m Q)(e:D a m)(o:∀c∈l,c<a.size)(k:∀(n:Int) b,Q n->D m b->D a b->K (vi n) b):bK dO f g m λv b=>gS l m b/\K v b:=
 i.aP λ_ b⟨n,h,q,d⟩=>⟨d.eW λc j=>e.lt (o c j),h▸k n b q d (e.J d)⟩
def JT.bL(k:JT f g m e Q)(i:D a m)(q:∀d∈l,d<a.size)(p:∀s c b,be (dA e b) s c->Q c->D m b->D a b->K s.v b):bK dO f g m λv b=>gS l m b/\K v b:=
 k.aP λ_ b⟨s,c,j,n,r,h⟩=>⟨h.eW λd o=>i.lt (q d o),j▸p s c b n r h (i.J h)⟩
def oA.bL(k:oA f g m e Q)(i:D a m)(q:∀d∈l,d<a.size)(p:∀s c b,GI e m b s c->Q c->D m b->D a b->K s.v b):bK dO f g m λv b=>gS l m b/\K v b:=
 k.aP λ_ b⟨s,c,j,n,r,h⟩=>⟨h.eW λd o=>i.lt (q d o),j▸p s c b n r h (i.J h)⟩
end
def _root_.Go.Vc.D.aaX{a m:bh}(e:D a m){l:ad}(d:∀c∈l,c<a.size)(h:D m b):gS l m b:=by grind [D.eW,D.lt]
def fV{m:bh}{bT:E}{a:af}(hd:dE (dA e m) bT a)(f:eT a)(c:Int):JT 149 [bT.v,vi c] m e (cW a c=·):=by
 apply vj;have l:dE m bT a:=hd.le fL;have D:=hd.aT;have:=f.aT;refine(pM l f c).aP ?_;rintro _ H ⟨J,rfl,k,h⟩;refine⟨_,O,dit (λt=>?_) λt=>?_⟩
 .refine⟨_,_,O,?_,O,h.bZ _⟩;have g:cW a c=[]:=by
   rcases k with⟨i,d,u,_⟩|⟨_,b⟩
   .omega
   .grind [cW]
  rw[g];exact⟨O,bY,bO,bO⟩
 .rcases k with⟨i,d,rfl,b,A,B⟩|⟨u,_⟩
  .have G:=br b;let⟨r,n,y,g1,g2⟩:=(hd.le (h.fj (S:=e))).bt b;have o:eI ((i:Int)+1 -1)=i:=by grind [de]
   rw[o];have g2:=(iO.1 g2).2;refine⟨V,V,r,sp g2,?_⟩;refine(nk (dE.ext h l) f V).cg λI g=>⟨_,O,g.cZ (sp g2),?_⟩;have z:=tE f i;have C:=nK f b;have F:=n.aT;let⟨x,w⟩:=dU d.eB ((c -fc a i).toNat);let⟨j,v,s⟩:=tq.bt (fW.le n (g.fj (S:=e)) (qD.le (g.fj (S:=e)))) w;have p:eI (c -(fc a i:Int))=c -fc a i:=by grind [de]
   rw[p];refine⟨V,V,j,(iO.1 s).2,j,_,O,?_,O,h.J g⟩;have q:cW a c=x:=by
    unfold cW;rw[bn V];have:=uV a i (c -fc a i).toNat d b V;grind
   rw[q];exact v
  .omega
def kO{m:bh}(K:∀l∈e,l<m.size){bT:E}{a:af}(hd:dE m bT a)(c:eT a)(t:Int):JT 151 [bT.v,vi t] m e (cX a t=·):=by
 apply yT;intro B;have L:=hd.aT;have:=c.aT;have u:=px B;refine(dj).cg λl P y g=>⟨_,O,λh=>?_,λh=>?_⟩
 .refine⟨_,_,O,?_,O,u.J g⟩;have f:cX a t=[]:=by
   grind [cX]
  rw[f];exact⟨O,bY,bO,bO⟩
 .have h:=yb y h;have v:eI (t -1)=((t.toNat -1:Nat):Int):=by grind [de]
  rw[v];let⟨d,q⟩:=dU a (t.toNat -1);have w:cX a t=(List.range d.eB.length).map λk=>((fc a (t.toNat -1)+k:Nat):Int):=by
   grind [cX]
  rw[w];have H:=tE c (t.toNat -1);have J:=nK c q;refine gL (n:=d.eB.length) V (λj s b=>D m b/\GI e m b s ((List.range j).map λk=>((fc a (t.toNat -1)+k:Nat):Int))) ⟨u.J g,(GI.gN e m).ext g⟩ ?_;rintro j s Q I μ N ⟨i,A⟩ C
  let⟨f,z,G,g1,g2⟩:=(dE.ext i hd).bt q;have M:=z.aT;refine⟨V,V,f,sp g2,λo=>?_,λo=>?_⟩
  .simp only[bg]at o;refine(nk (dE.ext i hd) c V).cg λR p=>⟨_,O,?_⟩;have x:eI (((fc a (t.toNat -1):Nat):Int)+(j:Int))=((fc a (t.toNat -1)+j:Nat):Int):=by grind [de]
   rw[x];intro S;refine GI.nE (A.ext p) ((i.J p).fz []) cB λr b F f _ _=>C V _ _ ⟨f.ext,?_⟩
   grind [List.range_succ]
  grind [GI.cy]
def qQ{m:bh}{bT:E}{a:af}(hd:dE m bT a)(e:eT a)(t:Int):fX dO 309 [bT.v,vi t] m (∃d,1<=t/\a[t.toNat -1]? =some d/\d.eB.length=0):=by
 apply Jo;have l:=hd.aT;have:=e.aT;refine(dj).cg λg o b f=>⟨_,O,λh=>?_,λh=>?_⟩
 .have h:=b.1 h;let⟨d,c⟩:=dU a (t.toNat -1);let⟨j,n,k,g1,g2⟩:=(dE.ext f hd).bt c;have i:eI (t -1)=((t.toNat -1:Nat):Int):=by grind [de]
  grind
 .grind
def EJ{m:bh}{bT:E}{a:af}(hd:dE m bT a)(f:eT a)(u t:Int):
 wU 331 [bT.v,vi u,vi t] m λk=>k= -1\/∃(i:Nat)(d:cR),k=i+1/\a[i]? =some d/\d.eB.length=0/\d.qe=u/\d.to=t:=by
 apply Ja
 have p:=hd.aT
 have:=f.aT
 refine gP (n:=a.length) V (λ_ b=>D m b) cY ?_
 rintro k g I μ r c j
 refine⟨λh=>?_,λh=>⟨_,O,bC O,c⟩⟩
 simp only[bg]at h
 let⟨d,e⟩:=dU a k
 let⟨l,q,o,g1,g2⟩:=(dE.ext c hd).bt e
 have s:=j V g c
 constructor<;>grind [de]
theorem wP{m:bh}{i p:E}{f t:ab}(g:be m c v)(e:be m i f)(l:be m p t):sS 306 [c.v,i.v,p.v] m:=by
 apply Na;have C:=g.aT;have r:=e.aT;have F:=l.aT;have G:=g.kM;refine⟨λ_=>rA cY,λh=>?_⟩;simp only[nX]at h;refine gP (n:=f.length) (r▸e.kM) (λ_ b=>D m b) cY ?_;rintro k J I μ H a y
 refine⟨λh=>?_,λh=>rA a⟩;simp only[bg]at h;let⟨x,o⟩:=dU f k;refine⟨V,V,x,(e.ext a).bt o,?_⟩;have q:eI ((c.len:Int) -1)=(v.length:Int) -1:=by grind [de]
 rw[q];refine(dj).cg λB K s d=>⟨_,O,λ_=>rA (a.J d),λj=>?_⟩;have j:=yb s j;let⟨z,u⟩:=dU v x.toNat;let⟨A,w⟩:=dU t k;exact⟨V,V,x,(e.ext (a.J d)).bt o,V,V,z,(g.ext (a.J d)).bt u,V,V,A,(l.ext (a.J d)).bt w,λ_=>rA (a.J d),λ_=>y V _ (a.J d)⟩
def RF(a:Int)(m:bh):sS 304 [vi a] m:=by
 apply KX;have r:∀b:Bool,∃k:Bool,vb b=.bool k/\D m m:=by grind [D.cT]
 exact⟨λ_=>r _,λ_=>⟨λ_=>r _,λ_=>⟨λ_=>r _,λ_=>⟨λ_=>r _,λ_=>r _⟩⟩⟩⟩
def tn(x:eM)(a k:E):Value:=.agg #[vi x.op,vi x.cE,vi x.dh,a.v,k.v]
def AM{m:bh}{g:E}(d:be m c v)(x:eM):sS 305 [c.v,.agg #[vi x.op,vi x.cE,vi x.dh,g.v,k.v]] m:=by
 apply FG;simp -zeta only[dR];intro b;have a:=px b;have l:∀f∈[m.size],f<b.size:=by simp[b]
 have o:=d.aT;have p:=d.kM;refine⟨λ_=>rA a,λ_=>⟨λ_=>?_,λ_=>rA a⟩⟩;refine(dj).bL (D.cT b) l λf q j _ e=>⟨_,O,λh=>?_,λ_=>rA (a.J e)⟩;have h:=j.1 h;have i:eI (x.dh -1)=((x.dh.toNat -1:Nat):Int):=by grind [de]
 rw[i];let⟨y,n⟩:=dU v (x.dh.toNat -1);exact⟨V,V,y,(d.ext (a.J e)).bt n,rA (a.J e)⟩
def G8{m:bh}{l:E}{s:af}{B:List j7}(o:iF m d r s B)(g:be m c v)(f:be m l x.aO):JU 310 [.agg #[d.v,r.v],c.v,tn x l k] m:=by
 apply Ay;simp -zeta only[dR];intro A i;have b:D m i:=by grind [D.push,D.J]
 have n:∀e∈[A.size,m.size],e<i.size:=cB;have C:=g.aT;have F:=g.kM;have G:=f.aT;refine⟨λ_=>rN b,λh=>?_⟩;simp only[nX]at h;let⟨y,p⟩:=dU x.aO 0;refine⟨V,V,y,(f.ext b).bt p,?_⟩;have t:eI ((c.len:Int) -1)=(v.length:Int) -1:=by grind [de]
 rw[t];refine(dj).bL (D.cT i) n λe H u _ j=>⟨_,O,λ_=>rN (b.J j),λh=>?_⟩;have h:=yb u h;have a:=b.J j;let⟨z,w⟩:=dU v y.toNat;have g1:=(f.ext a).bt p;have g2:=(g.ext a).bt w;refine⟨V,V,y,g1,V,V,z,g2,λ_=>rN a,λ_=>⟨λ_=>⟨λ_=>⟨V,V,y,g1,V,V,z,g2,?_⟩,λ_=>rN a⟩,λ_=>rN a⟩⟩;exact(qQ ((o.le a.le).bT) o.dm z).jY.bL j n λe I J q=>⟨_,O,λ_=>rN (b.J q),λ_=>rN (b.J q)⟩
def Jy{m:bh}{o:E}{F:af}{n:List j7}(f:iF m d r F n)(R:be m c v)(M:be m o x.aO):JU 308 [.agg #[d.v,r.v],c.v,tn x o k] m:=by
 apply BV;simp -zeta only[dR];intro w j;have A:D m j:=by grind [D.push,D.J]
 have P:∀e∈[w.size,m.size],e<j.size:=cB;have h1:=f.lI.aT;have h2:=f.p7;have G:eI ((r.len:Int) -1)=(n.length:Int) -1:=by grind [de]
 rw[G];refine(dj).bL (D.cT j) P λe y N _ B=>⟨_,O,λ_=>rN (A.J B),λp=>?_⟩;have p:=yb N p;have z:=A.J B;let⟨q,Q⟩:=dU n x.cE.toNat;let⟨U,ab,s,g,Y,Z,I,g1,g2,J,K⟩:=(f.le z.le).lI.bt Q;refine⟨V,V,_,I,_,g1,_,g2,_,J,_,K,?_⟩;intro m3 h;have C:D y h:=by grind [D.cT,D.bZ,D.aV]
 have i:∀e∈[y.size,w.size,m.size],e<h.size:=by
  grind [bD]
 have a:=z.J C;have u:=R.ext a;have t:=M.ext a;have l:=g.ext C;have h5:=g.aT;have h6:=g.ms;have h7:=g.kM;refine⟨λ_=>(wP u t l).bL (D.cT h) i λe T b _=>⟨_,O,λ_=>rN (a.J b),λ_=>rN (a.J b)⟩,λ_=>⟨λ_=>rN a,λL=>⟨λ_=>rN a,λ_=>?_⟩⟩⟩;simp only[ba]at L;have H:eI ((U.len:Int) -1)=((q.aY.length -1:Nat):Int):=by grind [de]
 rw[H];let⟨X,S⟩:=dU q.aY (q.aY.length -1);refine⟨V,V,V,(wP u t (fW.SW l V)).bL (D.cT h) i λe T b _=>⟨_,O,λ_=>rN (a.J b),λ_=>⟨V,V,X,(l.ext b).bt S,?_⟩⟩⟩;exact(EJ (f.le (a.J b).le).bT f.dm _ _).bL b i λaa m6 _ x6 W=>⟨_,O,rN (a.J W)⟩
def acF(a:af)(e:List j7)(b:Bk):Prop:=∀(m:bh)(d r c t:E)(v:ab),iF m d r a e->be m c v->iN m t b.bA->v.length+4*b.w<=10^12->JU 270 [.agg #[d.v,r.v],c.v,.agg #[t.v,vi b.bQ]] m
def Ox{m:bh}{aa:E}{s:af}{W:List j7}(f:iF m d r s W)(T:be m c v)(w:rO m k x.dv)(hb:v.length+4*x.w<=10^12)(ih:∀i∈x.dv,acF s W i):JU 307 [.agg #[d.v,r.v],c.v,tn x aa k] m:=by
 apply Hh;simp -zeta only[dR];intro m0 F;have g:D m F:=by grind [D.push,D.J]
 have o:∀i∈[m0.size,m.size],i<F.size:=cB;have ab:=w.aT;have hw:=eM.pP x;refine(kO (e:=[]) bO (f.le g.le).bT f.dm x.cE).bL (D.cT F) o λac cl G u q M _=>⟨_,O,?_⟩;subst q;have u:=u.le fL;have ag:=u.aT;have h3:=adE f.dm x.cE;refine⟨λJ Z=>Z=G/\0<=J/\(x.op=8->J=(cX s x.cE).length),⟨λh=>?_,λh=>⟨O,V,λ_=>V⟩⟩,?_⟩
 .grind
 rintro J ah ⟨l,h4,h5⟩;have l:=l.symm;subst l;refine⟨λ_=>rN (g.J M),λ_=>⟨λ_=>rN (g.J M),λR=>?_⟩⟩;simp only[nX]at R;subst R;refine gL (n:=x.dv.length) (ab▸w.kM) (λ_ _ b=>D G b) cY ?_;rintro j y H Q μ hj z ai
 have K:=M.J z;have p:=g.J K;refine⟨λh=>?_,λ_=>rN p⟩;simp only[bg]at h;let⟨i,t⟩:=dU x.dv j;have U:=ih i (aZ t);have ae:=Ba t;have X:∀(a:Int)(e:bh),D G e->((decide (a<(0:Int)))=true->∃k:Int,vi (-1)=vi k/\True/\D m e)/\((decide (a<(0:Int)))=false->((decide ((j:Int)>(0:Int)))=true->((a !=y)=true->∃k:Int,vi (-1)=vi k/\True/\D m e)/\((a !=y)=false->Q a (eI ((j:Int)+1)) e/\μ a (eI ((j:Int)+1)) e<μ y j H))/\((decide ((j:Int)>(0:Int)))=false->Q a (eI ((j:Int)+1)) e/\μ a (eI ((j:Int)+1)) e<μ y j H)):=λa e h=>by
  grind [D.J]
 refine⟨λh=>?_,λh=>?_⟩
 .simp only[bP]at h;have h7:=h5 h;let⟨P,hy⟩:=dU (cX s x.cE) j;refine⟨V,V,P,(u.ext z).bt hy,?_⟩;refine(fV (e:=[]) (f.le (p.le.J Ev)).bT f.dm P).bL K o λad fl e hf q x4 Y=>⟨_,O,?_⟩;subst q;have h8:=Kb f.dm P;refine(iL (S:=[]) bO (T.le ((g.J Y).le.J Ev)) hf V).bL Y o λl el m5 he q x5 L=>⟨_,O,?_⟩;subst q;let⟨A,C,B,g1⟩:=(w.le (g.J L).le).bt t;refine⟨V,V,_,B,_,g1,?_⟩;exact(U m5 d r l A _ (f.le (g.J L).le) ((he.cy bO cB).le fL) C cB).bL L o λa I N _=>⟨_,O,X a I (((z.J x4).J x5).J N)⟩
 .let⟨A,C,B,g1⟩:=(w.le p.le).bt t;refine⟨V,V,_,B,_,g1,?_⟩;exact(U H d r c A _ (f.le p.le) (T.ext p) C V).bL K o λa I N _=>⟨_,O,X a I (z.J N)⟩
def Vs{b:bh}(a:ab){n:Nat}(d:n=a.length)(c:a.length<=9223372036854775807):be (b.push (.cells (db (a.map Ce.i)) bB)) (.mk b.size 0 n n) a:=
 (be.kd (S:=[]) bB (l:=a) bO O d c).le fL
theorem _root_.Go.Vc.fW.PD{α:Type}{n:bh}{b:Nat}{R:ae->α->Prop}{l:List α}(h:fW n b R s l){i j:Nat}(t:i<=j)(u:j<=l.length):fW n b R (s.cut i j b) ((l.take j).drop i):=by
 have a:=h.aT;have m:=h.ms;have w:=h.kM;have g:(s.cut i j b).len=j -i/\(s.cut i j b).len<=(s.cut i j b).cap:=by
  cases s with
  |nil=>simp at a;simp[E.cut];omega
  |DG d o sp=>simp at a;simp[E.cut];omega
  |mk d o r f=>simp at a m;simp[E.cut];omega
 refine⟨by simp[g.1];omega,g.2,V,λk x c=>?_⟩;rw[rJ,lP]at c;split at c
 .rename_i v;let⟨p,q,e⟩:=h.kY _ x c;refine⟨p,q,?_⟩;cases s with
  |nil=>simp at a;omega
  |DG d o sp=>simp at a;omega
  |mk d o r f=>
   simp at a m;have:¬f=i:=V;simp only[E.cut,this,nv,E.lT,E.vL]at e⊢;rw[oB,<-iv]at e;exact e
 .simp at c
def sA{n:bh}{t:E}{F:af}{Z:List j7}(u:iF n d r F Z)(Y:be n c v)(X:be n t x.aO)(hk:rO n k x.dv)(w:v.length+4*x.w<=10^12)(ih:∀g∈x.dv,acF F Z g):JU 265 [.agg #[d.v,r.v],c.v,tn x t k] n:=by
 apply Hz;simp -zeta only[dR];intro B o;have P:D n o:=by grind [D.push,D.J]
 have j:∀g∈[B.size,n.size],g<o.size:=cB;have h1:=X.aT;have h2:=X.ms;have s:∀{l:bh},D o l->be l c v:=λh=>Y.ext (P.J h);have A:∀{l:bh},D o l->be l t x.aO:=λh=>X.ext (P.J h);have N:∀{l:bh},D o l->iF l d r F Z:=λh=>u.le (P.J h).le;have m:∀{l:bh}{q:Int},D o l->∃k:Int,vi q=vi k/\True/\D n l:=by grind [D.J]
 have K:∀{l:bh}{q k:Int}{g:Bool},D o l->(g=true->∃k:Int,vi q=vi k/\True/\D n l)/\(g=false->∃a:Int,vi k=vi a/\True/\D n l):=λh=>⟨λ_=>m h,λ_=>m h⟩;refine⟨λR=>D o R,⟨λ_=>(RF x.op o).bL (D.cT o) j λg l e _=>⟨_,O,λ_=>m e,λ_=>(AM (s e) x).bL e j λg f i a=>⟨_,O,λ_=>m a,λ_=>⟨λ_=>⟨λ_=>⟨λ_=>m a,λ_=>a⟩,λ_=>a⟩,λ_=>a⟩⟩⟩,λ_=>(AM (s cY) x).bL (D.cT o) j λg f a _=>⟨_,O,λ_=>m a,λ_=>⟨λ_=>⟨λ_=>⟨λ_=>m a,λ_=>a⟩,λ_=>a⟩,λ_=>a⟩⟩⟩,?_⟩;intro l e;have T:∀{f:bh}{L:E}{al:ab}(h:D o f),be f L al->sS 306 [c.v,t.v,L.v] f:=by grind [wP]
 have Kt:∀{f:bh}(h:D o f),bK dO 307 [.agg #[d.v,r.v],c.v,.agg #[vi x.op,vi x.cE,vi x.dh,t.v,k.v]] f λv b=>gS [B.size,n.size] f b/\∃q:Int,v=vi q/\∃k:Int,vi q=vi k/\True/\D n b:=λh=>
  (Ox (N h) (s h) (hk.le (P.J h).le) w ih).bL h j λq I p M=>⟨q,O,m M⟩
 refine⟨λ_=>⟨λ_=>(dj).jY.bL e j λg f i a=>⟨_,O,K a⟩,λ_=>m e⟩,λ_=>⟨λ_=>?_,λ_=>⟨λ_=>?_,λ_=>⟨λ_=>?_,λ_=>⟨λ_=>?_,λ_=>⟨λ_=>?_,λ_=>⟨λ_=>(Jy (N e) (s e) (A e)).bL e j λq f i a=>⟨_,O,m a⟩,λ_=>⟨λ_=>?_,λ_=>⟨λ_=>(G8 (N e) (s e) (A e)).bL e j λq f i a=>⟨_,O,m a⟩,λ_=>m e⟩⟩⟩⟩⟩⟩⟩⟩⟩
 .intro f;exact(T (e.bZ _) (Vs [0,0] O bO)).bL (e.bZ _) j λg f i a=>⟨_,O,K a⟩
 .intro f;exact(T (e.bZ _) (Vs [0] O bO)).bL (e.bZ _) j λg f i a=>⟨_,O,K a⟩
 .refine(pM (N e).bT u.dm x.cE).aP λ_ f⟨L,z,_,i⟩=>?_;subst z;have a:=e.J i;refine⟨e.aaX j i,_,O,λ_=>?_,λ_=>m a⟩;refine(fV (e:=[]) ((N a).bT.le Ev) u.dm x.cE).bL a j λae G I hf H p M=>⟨_,O,bE (p.bG B.size (a.lt (j _ bO))) _,?_⟩;refine(T M (hf.le fL)).bL M j λg J x5 y=>⟨_,O,λ_=>?_,λ_=>m y⟩;refine(pM (N y).bT u.dm x.cE).aP λ_ C⟨L,z,_,Q⟩=>?_;subst z;exact⟨y.aaX j Q,_,O,m (y.J Q)⟩
 .intro f;exact(T (e.bZ _) (Vs [0] O bO)).bL (e.bZ _) j λg f i a=>⟨_,O,λ_=>Kt a,λ_=>m a⟩
 .intro f;exact(T (e.bZ _) (Vs [x.cE] O bO)).bL (e.bZ _) j λg f i a=>⟨_,O,λ_=>Kt a,λ_=>m a⟩
 .have h3:=Y.aT;have h4:=Y.kM;refine⟨λg R=>D o R/\(g=true->x.aO.length=2/\∃y z U,x.aO[0]? =some y/\0<=y/\v[y.toNat]? =some z/\1<=z/\F[z.toNat -1]? =some U),⟨λh=>?_,λ_=>⟨e,sx⟩⟩,?_⟩
  .simp only[bP]at h;let⟨y,G⟩:=dU x.aO 0;refine⟨V,V,y,(A e).bt G,?_⟩;have W:eI ((c.len:Int) -1)=(v.length:Int) -1:=by grind [de]
   rw[W];refine(dj).bL (D.cT l) (λg w=>e.lt (j g w)) λg f aa _ i=>⟨_,O,λh=>?_,λh=>⟨e.J i,sx⟩⟩;have h:=aa.1 h;have a:=e.J i;let⟨z,H⟩:=dU v y.toNat;refine⟨V,V,y,(A a).bt G,V,V,z,(s a).bt H,?_⟩;refine(qQ (N a).bT u.dm z).bL (D.cT f) (λg w=>a.lt (j g w)) λg I ac _ p=>⟨_,O,a.J p,λh=>?_⟩;grind
  .rintro g f ⟨i,ai⟩;refine⟨λh=>?_,λ_=>m i⟩;let⟨h5,y,z,U,G,h6,H,h7,aa⟩:=ai h;let⟨ae,hf,g0,g1,g2⟩:=(N i).bT.bt aa;have ao:=u.bT.aT;have h8:=u.dm.aT;have h9:=br aa;have am:=br H;have W:eI (z -1)=((z.toNat -1:Nat):Int):=by grind [de]
   have ac:=(A i).bt G;have ad:=(s i).bt H;refine⟨V,V,y,ac,V,V,z,ad,?_⟩;rw[W];refine⟨V,V,_,g0,_,g1,_,g2,?_⟩;intro I;have p:=px I;have ag:B.size<f.size:=i.lt (j _ bO);have ah:n.size<f.size:=cB;refine⟨p.cZ g0,p.cZ g1,p.cZ g2,p.cZ ad,p.cZ ac,bE (p.bG _ ag) _,bE (p.bG _ ah) _,?_⟩;intro J;have x5:D f J:=by grind [D.aV]
   have an:J.size=f.size+1:=by grind [bD]
   refine⟨V,V,V,?_⟩;intro C;have Q:D f C:=x5.J (D.push _ _);have u6:=i.J Q;have ak:∀g∈[f.size,B.size,n.size],g<C.size:=cB;refine⟨bE ((D.push J _).bG _ V) _,?_⟩;have aj:be C (t.cut 1 t.len 1) (x.aO.drop 1):=by
    grind [fW.PD,List.take_length]
   exact(wP (s u6) aj (Vs [U.qe] O bO)).bL (D.cT C) ak λg m7 x7 _=>⟨_,O,K (u6.J x7)⟩
def _root_.Go.Vc.D.sM{c m:bh}(h:D c m)(k:D c b){l:ad}(e:∀a∈l,a<c.size):gS l m b:=λa d=>by rw[k.bG a (e a d),h.bG a (e a d)]
def zR(x:eM)(b:Bool)(a:b=true<->0<=x.op/\x.op<=11):dn x=if b=true then 1 else 0:=by
 unfold dn;by_cases h:b=true
 .rw[bn h];exact bn (a.1 h)
 .rw[aW h];exact aW λc=>h (a.2 c)
def rl{I:af}{rs:List j7}:∀a:Bk,acF I rs a:=by
 refine Bk.ind ?_;intro bA Z W E d r c al v R U t j;simp only[Bk.mV,Bk.lV,Bk.vt]at*;apply EM;simp -zeta only[dR];intro X g;have y:D E g:=by grind [D.push,D.J]
 have f:∀a∈[X.size,E.size],a<g.size:=cB;have T:=t.aT;refine(pN (S:=[]) bO (U.le (y.le.J Ev)) V).bL (D.cT g) f λs0 _ m2 i J x2 _=>⟨_,O,?_⟩;subst J;have C:=FL bA;refine gL (n:=bA.length) (T▸t.kM) (λk s b=>D g b/\∃l,GI [] g b s l/\l.length=v.length+dc (bA.take k)) ⟨x2,_,i,bO⟩ ?_;rintro k s Y aa μ hk ⟨z,l,m,hc⟩ G
 have p:=y.J z;have ac:=xe (bA.take k);have ag:=jQ (bA.take k);have ae:=m.aT cD;have q:=(m.cy bO (oh (C k))).le fL;refine⟨λh=>?_,λh=>?_⟩
 .simp only[bg]at h;let⟨x,o⟩:=dU bA k;let⟨ab,kk,N,Q,i,g1,g2,L,M⟩:=(t.le p.le).bt o;have ai:=ua o;have ah:=C (k+1);have ad:=uK o;refine⟨V,V,_,i,_,g1,_,g2,_,L,_,M,?_⟩;refine(sA (R.le p.le) q N Q V (W x (aZ o))).bL z f λaj F e u=>⟨_,O,λ_=>rN (y.J u),λ_=>⟨V,V,_,e.aS i,?_⟩⟩;refine(mN _ _).bL (D.cT F) (λa j=>u.lt (f a j)) λa m5 P _ A=>⟨_,O,?_⟩;have hd:=zR x a P;have w:=u.J A;refine⟨λh=>?_,λh=>?_⟩
  .rw[bn h]at hd;intro m6;refine GI.nE ((m.ext e).ext A) (w.fz []) V λr m7 K B H ak=>⟨?_,G V _ _ ⟨B.ext,_,K,eX⟩⟩;exact D.sM (w.bZ _) B.ext f
  .rw[aW (by simp[h])]at hd;exact G V _ _ ⟨w,l,(m.ext e).ext A,V⟩
 .refine(dj).bL (D.cT Y) (λa j=>z.lt (f a j)) λa F o _ e=>⟨_,O,λ_=>rN (p.J e),λh=>?_⟩;have h:=yb o h;have w:=q.kM;rw[iz]at h;let⟨H,u⟩:=dU l Z.toNat;exact⟨V,V,H,(q.ext e).bt u,rN (p.J e)⟩
end
section
variable{b:bh}{d e g k:E}{f:List j7}{c:eM}{h:Nat}
theorem _root_.Go.Vc.dV{S a:ad}{c o:Nat}{l:ae}(f:c∈S)(e:∀d∈a,d∈S):Le (dA S b) (dA a (aV b c o l)):=
 by grind [tF,cq]
def ae6(a:Bk):Prop:=∀(b:bh)(t:E),iN b t a.bA->∀left:Int,-1<=left->left<=600->wU 313 [.agg #[t.v,vi a.bQ],vi left] b λk=>-1<=k/\k<=600
def MY:∀h:Bk,ae6 h:=by
 refine Bk.ind ?_;intro bA aa I b ab p left y A;simp only[Bk.mV,Bk.lV]at*;apply FA;simp -zeta only[dR];intro i;have S:=px i;have C:∀h∈[b.size],h<i.size:=by simp[i]
 have H:=p.aT;have q:∀{d:bh}{a:Int},D i d->-1<=a/\a<=600->∃k:Int,vi a=vi k/\(-1<=k/\k<=600)/\D b d:=by grind [D.J]
 refine gL (n:=bA.length) (H▸p.kM) (λ_ a d=>D i d/\-1<=a/\a<=600) ⟨cY,y,A⟩ ?_;rintro k a K U μ hk ⟨j,E⟩ N
 refine⟨λl=>⟨λ_=>q j V,λz=>?_⟩,λ_=>q j E⟩;simp only[bg]at l;simp only[dk]at z;let⟨c,t⟩:=dU bA k;let⟨g,u,Z,m,X,g1,g2,Y,r⟩:=(p.le (S.J j).le).bt t;have B:=m.aT;rw[de (b:=a -1) V V];refine gL (n:=c.dv.length) (B▸m.kM) (λ_ a d=>D K d/\-1<=a/\a<=600) ⟨cY,V,V⟩ ?_;rintro J P L W μ2 hj ⟨f,o⟩ M;refine⟨V,V,u,f.aS r,λl=>?_,λ_=>N V _ _ ⟨j.J f,o⟩⟩;simp only[bg]at l;let⟨h,s⟩:=dU c.dv J;let⟨Q,G,v,w⟩:=(m.le f.le).bt s;refine⟨V,V,u,f.aS r,V,V,_,v,_,w,?_⟩;exact(I c (aZ t) h (aZ s) L Q G P o.1 o.2).bL (j.J f) C λe m4 F T R=>⟨_,O,λ_=>q R V,λl=>M V _ _ ⟨f.J T,F⟩⟩
def QV{t:E}{a:Bk}(g:iN b t a.bA):JU 269 [.agg #[t.v,vi a.bQ]] b:=by
 apply JC;simp -zeta only[dR];intro c;have d:=px c;have f:∀a∈[b.size],a<c.size:=by simp[c]
 exact(MY a c t (g.le d.le) 600 V V).bL (D.cT c) f λn h _ _ e=>⟨_,O,λ_=>rN (d.J e),λ_=>rN (d.J e)⟩
def pOf(e:j7):eE:=⟨e.aY,[],e.bQ,0,[]⟩
def sR.aP:sD 5 sR:=⟨λh⟨g,a,b⟩=>⟨g,a,b.le h⟩,λ⟨g,a,_⟩=>by rw[a];rfl⟩
def RL{G:af}(t:iF b d e G f):bK dO 312 [.agg #[d.v,e.v]] b λY g=>∃v,Y=.agg #[d.v,v.v]/\fW g 5 (sR g) v (f.map pOf)/\D b g:=by
 apply Lj;simp -zeta only[dR];intro l a2 a3 a4 p;have ac:=t.lI.aT;have hf:=t.p7;have Z:D b a2:=(D.push _ _).J (D.push _ _);have W:=pz l;have X:a2.size=b.size+2:=by simp[a2,W]
 have s3:a3.size=b.size+3:=by simp[a3,X]
 have A:=py p;have L:Gr [a3.size,l.size] a2 p jf 5 sR (.mk a2.size 0 0 0) []:=(Gr.bF _ bY).ext sR.aP A;have E:dF p a3.size nI [.s d,.s (.mk a2.size 0 0 0)]:=dF.aV (m:=a4) (o:=0) (r:=[.s d,.s (.mk a2.size 0 0 0)]) (dF.push a3 _ _);have aa:D a2 p:=(D.push a2 _).J A;have N:∀j∈[l.size,b.size],j<a2.size/\j∉([]:ad):=eX;refine gP (n:=f.length) V (λk g=>D a2 g/\∃s,Gr [a3.size,l.size] a2 g jf 5 sR s ((f.take k).map pOf)/\dF g a3.size nI [.s d,.s s]) ⟨aa,_,L,E⟩ ?_;rintro k Q ab μ hk ⟨u,s,h,B⟩ S
 have z:=Z.J u;refine dit (λM=>?_) λM=>?_
 .let⟨T,x⟩:=dU f k;have P:DN (dA (s.bu::[a3.size,l.size]) Q) e f:=t.lI.le ((Ev (m:=b)).J ((z.fz []).dA bO λj q=>bR ?_))
  .let⟨y,ae,j,F,c2,c3,H,e1,I,e3,e4⟩:=P.bt x;refine⟨s,B.dx 1,V,V,y,(iO.1 H).2,V,V,_,(iO.1 I).2,?_⟩;intro R;refine Gr.bV (h:=[.s .nil,.i 0,.i 0,.i 0,.s .nil]) (j:=1) (o:=[.s d,.s s]) (v:=pOf T) sR.aP cD h (u.fz []) ⟨y,O,F⟩ eX B bO cD ⟨V,bO⟩ (λj q=>by have C:=N j q;have J:=h.cJ;have w:=u.aQ;omega) λU g K C J z' q'=>S V _ ⟨J.ext,U,?_,C⟩
   rw[bX x,lH];exact K
  .have:=h.cJ;simp at q;omega
 .refine⟨d,B.dx 0,s,B.dx 1,?_⟩;intro R;have x:=h.ne B cD;have y:=h.cJ;rw[eQ V]at h;refine⟨s,O,?_,z.aV V _ _⟩;have w:=h.rS sR.aP eX cD eX;exact fW.le w ((dV (a:=[]) bO bO).J fL) λq c=>sR.aP.le ((dV (a:=[]) bO bO).J fL)
def Cb{r:af}(c:iF b d e r f):sS 268 [.agg #[d.v,e.v]] b:=by
 apply xP;simp -zeta only[dR];intro h;have a:=px h;have i:∀g∈[b.size],g<h.size:=by simp[h]
 have K:=c.lI.aT;have H:=c.p7;refine⟨λ_=>rA a,λ_=>?_⟩;refine(RL (c.le a.le)).aP λ_ L⟨G,s,w,j⟩=>?_;subst s;refine⟨j.eW i,_,_,O,?_⟩;refine(y8 (c.le (a.J j).le).bT w).jY.bL j i λg M R m=>⟨_,O,λ_=>rA (a.J m),λ_=>?_⟩;refine gP (n:=f.length) V (λ_ l=>D h l) m ?_;rintro k N I μ J l y
 refine⟨λv=>?_,λ_=>rA (a.J l)⟩;simp only[bg]at v;let⟨Q,x⟩:=dU f k;let⟨z,A,g,p,q,B,t,u,C,E,F⟩:=(c.le (a.J l).le).lI.bt x;refine⟨V,V,z,t,V,V,A,u,?_⟩;exact(yZ p q).jY.bL l i λg P S o=>⟨_,O,λ_=>rA (a.J o),λ_=>y V _ o⟩
def JH{z:af}(g:iF b d e z f)(H:∀q∈f,q.aY.length+4*q.eY.w<=10^12):sS 248 [.agg #[d.v,e.v]] b:=by
 apply Cc;simp -zeta only[dR];intro h;have l:=px h;have s:∀a∈[b.size],a<h.size:=by simp[h]
 have T:=g.lI.aT;have R:=g.p7;refine(Cb (g.le l.le)).bL (D.cT h) s λa U x _=>⟨_,O,λ_=>rA (l.J x),λ_=>?_⟩;refine gP (n:=f.length) V (λ_ c=>D h c) x ?_;rintro k u P μ S m L
 refine⟨λG=>?_,λ_=>rA (l.J m)⟩;simp only[bg]at G;let⟨q,t⟩:=dU f k;have v:=l.J m;let⟨M,X,a,y,Q,r,A,B,C,E,F⟩:=(g.le v.le).lI.bt t;refine⟨V,V,_,A,_,B,_,C,_,E,_,F,?_⟩;intro I i;have j:=py i;have o:∀a∈[u.size,b.size],a<i.size:=by
  have:=m.lt (s b.size bO);have:i.size=u.size+1:=by simp[i,I,bD]
  simp;omega
 have p:=v.J j;refine(QV (r.le j.le)).bL (D.cT i) o λK J c _=>⟨_,O,λ_=>rA (p.J c),λ_=>?_⟩;refine(rl q.eY J d e M a q.aY (g.le (p.J c).le) (y.ext (j.J c)) (r.le (j.J c).le) (H q (aZ t))).bL c o λK W N w=>⟨_,O,bE (N.bG _ (c.lt (o _ bO))) _,λ_=>rA (p.J w),λ_=>L V _ ((m.J j).J w)⟩
def Cu(c:Int)(b:bh):sS 163 [vi c] b:=by
 apply wh;have e:∀a:Bool,∃k:Bool,vb a=.bool k/\D b b:=λa=>rA (D.cT b);exact⟨λ_=>e _,λ_=>⟨λ_=>e _,λ_=>⟨λ_=>e _,λ_=>e _⟩⟩⟩
def acH(f:List j7)(c:eM):Prop:=c.op=9->0<=c.cE/\c.cE<f.length
@[grind cases] structure At (m:bh) (d r a k:E) (ds:af) (rs:List j7) (x:eM):Prop where
 Wu:iF m d r ds rs
 aO:be m a x.aO
 jE:acH rs x
def At.le{b j:bh}{d e g k:E}{a:af}{f:List j7}{c:eM}(h:At b d e g k a f c)(i:Le b j):At j d e g k a f c:=⟨h.Wu.le i,h.aO.le i,h.jE⟩
theorem fU{o1 o2:Obj}{a c:bh}(e:a=b.push o1)(f:c=a.push o2):D b c/\∀d∈[a.size,b.size],d<c.size:=by
 grind [D.push,D.J]
def se{o:af}(a:At b d e g k o f c)(h:Int):sS 315 [.agg #[d.v,e.v],tn c g k,vi h] b:=by
 apply Lc;simp -zeta only[dR];intro s l;let⟨i,q⟩:=fU (a:=s) (c:=l) O O;have C:=a.Wu.lI.aT;refine⟨λj=>?_,λ_=>rA i⟩;simp only[bP]at j;have B:=a.jE j;let⟨G,r⟩:=dU f c.cE.toNat;let⟨F,t,m,v,n,w,x,p,y,z,A⟩:=(a.Wu.le i.le).lI.bt r;exact⟨V,V,t,p,(fH n h).jY.bL (D.cT l) q λm E u _=>⟨_,O,rA (i.J u)⟩⟩
def qt{q:E}{s:af}(i:At b d e g k s f c){v:ab}(o:be b q v)(u:∀y∈c.aO,0<=y/\y<(v.length:Int))(t:h<c.aO.length):sS 311 [.agg #[d.v,e.v],q.v,tn c g k,vi h] b:=by
 apply Dk;simp -zeta only[dR];intro x j;let⟨l,n⟩:=fU (a:=x) (c:=j) O O;have B:=i.aO.aT;have F:=o.aT;let⟨y,p⟩:=gD t;have C:=u y (aZ p);let⟨A,w⟩:=dU v y.toNat;refine(Cu c.op j).bL (D.cT j) n λr G m _=>⟨_,O,λ_=>?_,λ_=>rA (l.J m)⟩;have a:=l.J m;refine⟨V,V,y,(i.aO.ext a).bt p,V,V,A,(o.ext a).bt w,λ_=>?_,λ_=>rA a⟩;exact(se (i.le a.le) h).bL m n λr H I z=>⟨_,O,rA (l.J z)⟩
def Hl{r:af}(a:At b d e g k r f c)(u:h<c.aO.length):sS 343 [.agg #[d.v,e.v],tn c g k,vi h] b:=by
 apply AH;simp -zeta only[dR];intro y o;let⟨q,v⟩:=fU (a:=y) (c:=o) O O;have t:=a.aO.aT;let⟨A,w⟩:=gD u;refine gP (n:=c.aO.length) (t▸a.aO.kM) (λ_ i=>D o i) cY ?_;rintro m F I μ E j z
 have i:=q.J j;refine⟨λs=>⟨λ_=>?_,λ_=>?_⟩,λ_=>rA i⟩<;>simp only[bg]at s<;>have l:=z V
 .let⟨B,x⟩:=dU c.aO m;refine⟨V,V,B,(a.aO.ext i).bt x,V,V,A,(a.aO.ext i).bt w,λ_=>⟨λ_=>rA i,λ_=>?_⟩,λ_=>l _ j⟩;exact(se (a.le i.le) m).bL j v λC G H p=>⟨_,O,λ_=>rA (q.J p),λ_=>l _ p⟩
 .exact l _ j
def Fe{oY q:E}{t:af}(i:At b d e g k t f c){x w:ab}(v:be b oY x)(u:be b q w)(o:h<c.aO.length):sS 328 [.agg #[d.v,e.v],tn c g k,vi h,oY.v,q.v] b:=by
 apply Jp;simp -zeta only[dR];intro z r;let⟨a,j⟩:=fU (a:=z) (c:=r) O O;have B:=i.aO.aT;let⟨y,p⟩:=gD o;refine⟨V,V,y,(i.aO.ext a).bt p,?_⟩;refine(fH (u.ext a) y).jY.bL (D.cT r) j λn C m _=>⟨_,O,λ_=>rA (a.J m),λ_=>?_⟩;have s:=a.J m;refine⟨V,V,y,(i.aO.ext s).bt p,?_⟩;refine(fH (v.ext s) y).jY.bL m j λn F H l=>⟨_,O,λ_=>rA (a.J l),λ_=>?_⟩;exact(Hl (i.le (a.J l).le) o).bL l j λn G I A=>⟨_,O,rA (a.J A)⟩
end
section
def adn(a:Bk):Prop:=∀(b:ad)(m:bh),(∀c∈b,c<m.size)->∀(t d:E)(l:ab)(n:Int)(k:Nat),iN m t a.bA->be (dA b m) d l->k<=a.bA.length->l.length+a.w<=10^12->
 JT 297 [.agg #[t.v,vi a.bQ],vi n,vi k,d.v] m b λe=>e.length<=l.length+a.w
def _root_.Go.Vc.ac1{σ:Type}{n a:Nat}(j:a<=n)(l:n<=9223372036854775807){m:bh}{f:σ}{e:(σ->Int->bh->Prop)->(σ->Int->bh->Nat)->σ->Int->bh->Prop}(Q:Nat->σ->bh->Prop)(g:Q a f m)
 (h:∀(k:Nat)(s:σ)(b:bh)(I:σ->Int->bh->Prop)(μ:σ->Int->bh->Nat),a<=k->k<=n->Q k s b->
  (k<n->∀d c,Q (k+1) d c->I d (eI ((k:Int)+1)) c/\μ d (eI ((k:Int)+1)) c<μ s k b)->e I μ s k b):
 ∃(I:σ->Int->bh->Prop)(μ:σ->Int->bh->Nat),I f a m/\∀s i b,I s i b->e I μ s i b:=by
 refine⟨λs i c=>∃k:Nat,i=k/\a<=k/\k<=n/\Q k s c,λ_ i _=>(n -i).toNat,⟨a,O,bY,j,g⟩,?_⟩
 grind [nt,Qb]
def I5{b:ad}{m:bh}(e:∀c∈b,c<m.size){a k L:E}{l:ab}{x:eM}(N:Int)(w:be m a x.aO)(A:rO m k x.dv)(K:be (dA b m) L l)(hb:l.length+x.w<=10^12)(X:∀j∈x.dv,adn j):
 JT 327 [tn x a k,vi N,L.v] m b λd=>d.length<=l.length+x.w:=by
 apply BD
 simp -zeta only[dR]
 intro g
 have p:=px g
 have B:∀j∈[m.size],j<g.size:=by simp[g]
 have T:=w.aT
 have U:=A.aT
 have hw:=eM.pP x
 have H:∀{f:bh},D g f->∀c∈b,c<f.size:=by grind [D.J,D.aQ]
 refine(xI x.op g).jY.bL (D.cT g) B λj m2 u _=>⟨_,O,λ_=>⟨_,_,O,K.le ((p.J u).fj (S:=b)),V,p.J u⟩,λ_=>?_⟩
 refine gL (n:=x.aO.length) (T▸w.kM) (λC s f=>D g f/\∃d,be (dA b f) s d/\d.length<=l.length+C) ⟨u,l,K.le ((p.J u).fj (S:=b)),bY⟩ ?_
 rintro C s m3 ac μ hj ⟨i,d,q,hc⟩ G
 refine dit (λh=>?_) λh=>?_
 .let⟨y,o⟩:=dU x.aO C
  have g1:=(w.ext (p.J i)).bt o
  refine⟨V,V,y,g1,λ_=>⟨V,V,y,g1,λ_=>⟨V,V,y,g1,?_⟩,λ_=>G V _ _ ⟨i,d,q,V⟩⟩,λ_=>G V _ _ ⟨i,d,q,V⟩⟩
  exact(pU (H i) q y V).bL i B λr F M g2 I v t=>⟨_,O,G V _ _ ⟨t,F,g2.cy (H i) (oh I.2),oh I.2⟩⟩
 .refine gL (n:=x.dv.length) (U▸A.kM) (λo s f=>D g f/\∃d,be (dA b f) s d/\d.length<=l.length+x.aO.length+bw (x.dv.take o)) ⟨i,d,q,eX⟩ ?_
  rintro o s2 M I2 μ2 hi ⟨v,F,g2,af⟩ Z
  have t:=p.J v
  have J:=Xh x.dv
  refine⟨λh=>?_,λh=>⟨_,_,O,g2,oh (J o),t⟩⟩
  simp only[bg]at h
  let⟨j,z⟩:=dU x.dv o
  let⟨aa,W,P,Q⟩:=(A.le t.le).bt z
  have ae:=yL z
  refine⟨V,V,_,P,_,Q,?_⟩
  exact(X j (aZ z) b M (H v) aa s2 F N 0 W g2 (iD _) (oh (J (o+1)))).bL v B λr Y m5 R I x5 u5=>⟨_,O,Z V _ _ ⟨u5,Y,R,V⟩⟩
def EI:∀i:Bk,adn i:=by
 refine Bk.ind ?_;intro bA P L b m e ab aa o M Z k J G U;simp only[Bk.mV,Bk.lV,Bk.vt]at*;apply I6;simp -zeta only[dR];intro g;have t:=px g;have v:∀i∈[m.size],i<g.size:=by simp[g]
 have K:=k.aT;have H:∀{f:bh},D g f->∀c∈b,c<f.size:=by grind [D.J,D.aQ]
 refine ac1 (n:=bA.length) G (K▸k.kM) (λj s f=>D g f/\∃p,be (dA b f) s p/\p.length<=o.length+sw (bA.take j)) ⟨cY,o,J.le (t.fj (S:=b)),V⟩ ?_;rintro j s z T μ _ X ⟨d,p,u,W⟩ N
 have Q:=t.J d;have w:=FL bA;refine⟨λh=>?_,λh=>?_⟩
 .simp only[bg]at h;let⟨x,l⟩:=dU bA j;let⟨a,kk,F,I,A,g1,g2,B,C⟩:=(k.le Q.le).bt l;have Y:=ua l;refine⟨V,V,_,A,_,g1,_,g2,_,B,_,C,?_⟩;exact(I5 (H d) M F I u (oh (w (j+1))) (L x (aZ l))).bL d v λr y m3 E q x3 R=>⟨_,O,N V _ _ ⟨R,y,E,V⟩⟩
 .have E:=w j;have A:∃B l,s.v=B.v/\be (dA b z) B l/\l.length<=o.length+(1+sw bA)/\D m z:=cB;refine⟨λ_=>⟨λ_=>?_,λ_=>A⟩,λ_=>A⟩;exact(pU (H d) u P V).bL d v λr y F g2 q I C=>⟨_,O,_,_,O,g2.cy (H d) (oh q.2),oh q.2,t.J C⟩
def Ie{b:ad}{m:bh}(e:∀c∈b,c<m.size){t:E}{a:Bk}(o:iN m t a.bA){n:Int}(j:a.w<=10^12):JT 262 [.agg #[t.v,vi a.bQ],vi n] m b λg=>g.length<=a.w:=by
 apply Lm;simp -zeta only[dR];intro h d;let⟨f,l⟩:=fU (a:=h) (c:=d) O O;have i:be (dA b d) (.mk h.size 0 0 0) []:=⟨O,bY,bO,bO⟩;exact(EI a b d (λc k=>f.lt (e c k)) t _ _ n 0 (o.le f.le) i (iD _) cB).bL (D.cT d) (λa j=>l a cB) λr g p g2 q k _=>⟨_,O,_,_,O,g2,sp q,f.J k⟩
variable{b:ad}{m:bh}(e:∀c∈b,c<m.size){d r a k q oY p:E}{s:af}{u:List j7}{x:eM}(h:At m d r a k s u x){v g t:ab}(o:be m q v)(l:∀y∈x.aO,0<=y/\y<(v.length:Int))(f:be m oY g)(j:be m p t)
include e h o l
theorem Dh(J:x.aO.length<=10^12):oA 266 [.agg #[d.v,r.v],q.v,tn x a k] m b (tx x.aO):=by
 apply yw;simp -zeta only[dR];intro G e M;let⟨u,w⟩:=fU (a:=G) (c:=e) O O;have F:=h.aO.aT;refine gL (n:=x.aO.length) (F▸h.aO.kM) (λj s f=>D e f/\∃c,GI b e f s c/\(∀y∈c,y∈x.aO)/\c.length<=j) ⟨D.push _ _,[],GI.gN b e,bO,bY⟩ ?_;rintro j s N I μ L ⟨B,c,g,p,K⟩ A
 have t:=u.J B;refine dit (λE=>?_) λE=>?_
 .let⟨y,z⟩:=dU x.aO j;refine(qt (h.le t.le) (o.ext t) l (h:=j) V).bL B w λH P C f=>⟨_,O,λ_=>⟨V,V,y,(h.aO.ext (u.J f)).bt z,?_⟩,λ_=>A V _ _ ⟨f,c,g.ext C,p,V⟩⟩;intro Q;exact GI.nE (g.ext C) (f.fz []) V λr R g2 v _ _=>⟨D.sM (f.bZ _) v.ext w,A V _ _ ⟨v.ext,_,g2,sX p (aZ z),eX⟩⟩
 .exact⟨s,c,O,g.cV (λ_ h=>h) u.aQ,⟨p,V⟩,t⟩
include f j
theorem KU(R:x.aO.length<=10^12):oA 299 [.agg #[d.v,r.v],q.v,tn x a k,oY.v,p.v] m b (tx x.aO):=by
 apply Dj;simp -zeta only[dR];intro N t U;let⟨v,w⟩:=fU (a:=N) (c:=t) O O;have M:=h.aO.aT;refine gL (n:=x.aO.length) (M▸h.aO.kM) (λe A g=>D t g/\∃c,GI b t g A c/\(∀y∈c,y∈x.aO)/\c.length<=e) ⟨D.push _ _,[],GI.gN b t,bO,bY⟩ ?_;rintro e A W Q μ T ⟨I,c,g,s,S⟩ z
 have B:=v.J I;refine dit (λL=>?_) λL=>?_
 .let⟨y,H⟩:=dU x.aO e;refine(qt (h.le B.le) (o.ext B) l (h:=e) V).bL I w λK X F C=>⟨_,O,λ_=>?_,λ_=>z V _ _ ⟨C,c,g.ext F,s,V⟩⟩;have E:=v.J C;refine(Fe (h.le E.le) (f.ext E) (j.ext E) (h:=e) V).bL C w λK Y J u=>⟨_,O,λ_=>⟨V,V,y,(h.aO.ext (v.J u)).bt H,?_⟩,λ_=>z V _ _ ⟨u,c,(g.ext F).ext J,s,V⟩⟩;intro P;exact GI.nE ((g.ext F).ext J) (u.fz []) V λr P g2 G _ _=>⟨D.sM (u.bZ _) G.ext w,z V _ _ ⟨G.ext,_,g2,sX s (aZ H),eX⟩⟩
 .exact⟨A,c,O,g.cV (λ_ h=>h) v.aQ,⟨s,V⟩,B⟩
theorem MI(T:g.length<=10^12):oA 301 [.agg #[d.v,r.v],q.v,tn x a k,oY.v,p.v] m b (tx g):=by
 apply Fg;simp -zeta only[dR];intro W A;let⟨s,F⟩:=fU (a:=W) (c:=A) O O;have ae:=h.aO.aT;have ab:∀{t:bh},D A t->∀c∈b,c<t.size:=by grind [D.J,D.aQ]
 have X:bK dO 330 [oY.v,p.v] A λv t=>gS [W.size,m.size] A t/\∃Y:E,v=Y.v/\∃w U,Y.v=w.v/\GI b m t w U/\tx g U/\D m t:=by
  refine(RB (S:=[]) bO (f.le (s.le.J Ev)) (j.le (s.le.J Ev)) T).bL (D.cT A) F λw u af B I P _=>⟨_,O,w,u,O,?_,I,s.J P⟩;let⟨C,J,g1,g2⟩:=B;exact⟨C,J,g1.cV s.aQ,g2.aP λ_ _ h=>h⟩
 refine⟨λ_=>X,λ_=>⟨λ_=>X,λ_=>?_⟩⟩;refine(pN (S:=[]) bO (f.le (s.le.J Ev)) T).bL (D.cT A) F λs0 _ af C ad P _=>⟨_,O,?_⟩;subst ad;refine gL (n:=x.aO.length) (ae▸h.aO.kM) (λH w t=>D A t/\∃u,GI b m t w u/\tx g u) ⟨P,g,?_,λ_ h=>h,bY⟩ ?_
 .let⟨C,J,g1,g2⟩:=C;exact⟨C,J,g1.cV s.aQ,g2.aP λ_ _ h=>h⟩
 rintro H w m3 ag μ hj ⟨Z,u,B,z⟩ K
 have L:=s.J Z;refine⟨λR=>?_,λR=>⟨w,u,O,B,z,L⟩⟩;simp only[bg]at R;let⟨y,hy⟩:=dU x.aO H;refine(qt (h.le L.le) (o.ext L) l (h:=H) V).bL Z F λac m4 Q M=>⟨_,O,λ_=>?_,λ_=>K V _ _ ⟨M,u,B.ext Q,z⟩⟩;have N:=s.J M;refine(Fe (h.le N.le) (f.ext N) (j.ext N) (h:=H) V).bL M F λac m5 x5 G=>⟨_,O,λ_=>⟨V,V,y,(h.aO.ext (s.J G)).bt hy,?_⟩,λ_=>K V _ _ ⟨G,u,(B.ext Q).ext x5,z⟩⟩;refine(FK (S:=b) (ab G) (((B.ext Q).ext x5).cy e (oh z.2)) y (oh z.2)).bL G F λr l2 m6 g2 I x6 u6=>⟨_,O,K V _ _ ⟨u6,l2,g2.cV (λ_ h=>h) (s.J G).aQ,λaa hz=>z.1 aa (I.1 aa hz),fC I.2 z.2⟩⟩
omit o l
theorem MJ(Y:x.aO.length<10^12):oA 302 [.agg #[d.v,r.v],tn x a k,oY.v,p.v] m b (tx x.aO):=by
 apply Fh;simp -zeta only[dR];intro U s aa;let⟨i,u⟩:=fU (a:=U) (c:=s) O O;have R:=h.aO.aT;have P:∀{q:bh},D s q->∀c∈b,c<q.size:=by grind [D.J,D.aQ]
 refine gL (n:=x.aO.length) (R▸h.aO.kM) (λv E q=>D s q/\∃g,GI b s q E g/\(∀y∈g,y∈x.aO)/\g.length<=v) ⟨D.push _ _,[],GI.gN b s,bO,bY⟩ ?_;rintro v E m3 X μ Z ⟨L,g,l,o,I⟩ w
 have K:=i.J L;refine dit (λQ=>?_) λQ=>?_
 .let⟨y,C⟩:=dU x.aO v;refine(se (h.le K.le) v).bL L u λG m4 B z=>⟨_,O,λ_=>⟨V,V,y,(h.aO.ext (i.J z)).bt C,?_⟩,λ_=>w V _ _ ⟨z,g,l.ext B,o,V⟩⟩;refine(fH (f.ext (i.J z)) y).jY.bL z u λG m5 F A=>⟨_,O,λ_=>⟨V,V,y,(h.aO.ext (i.J A)).bt C,?_⟩,λ_=>w V _ _ ⟨A,g,(l.ext B).ext F,o,V⟩⟩;refine(fH (j.ext (i.J A)) y).jY.bL A u λG m6 M t=>⟨_,O,λ_=>⟨V,V,y,(h.aO.ext (i.J t)).bt C,?_⟩,λ_=>w V _ _ ⟨t,g,((l.ext B).ext F).ext M,o,V⟩⟩;refine(pU (P t) ((((l.ext B).ext F).ext M).cy (λc I=>i.lt (e c I)) V) y V).bL t u λr T m7 g2 J x7 W=>⟨_,O,w V _ _ ⟨W,T,g2.cV (λ_ h=>h) t.aQ,λN S=>?_,oh J.2⟩⟩;rcases J.1 N S with H|H
  .exact o N H
  grind [aZ]
 .exact⟨E,g,O,l.cV (λ_ h=>h) i.aQ,⟨o,V⟩,K⟩
end
section
variable{m e a:bh}{c g:ad}{s:E}{d:ab}{b f i:Nat}{h:ap}{K:aj}
def uj{o1 o2 o3:Obj}{a c d:bh}(e:a=m.push o1)(f:c=a.push o2)(g:d=c.push o3):D m d/\(∀b∈[c.size,a.size,m.size],b<d.size)/\a.size=m.size+1/\c.size=m.size+2/\d.size=m.size+3:=by
 grind [D.push,D.J]
def GI.Yh{X:ad}{k:bh}{h:E}{j:ab}{a:Int}{K:E->bh->Prop}(n:GI c e m s d)(i:GI g k m h j)(q:s.bu≠h.bu)(o:Fz X e m)(v:d.length<=10^12)
 (p:∀r b,GI c e b r (d++[a])->GI g k b h j->r.bu≠h.bu->Fz X e b->K r b):mj (m.push (.cells (db [.i a]) bB)) bB [.i 0] 8 s (.mk m.size 0 1 1) K:=by
 have t:=i.cJ
 refine Gr.nE (h:=[.i 0]) yi.aP cD n o O V λr b l f z u=>p r b l (i.lZ (u _ t.2 (tf q))) ?_ f
 grind
def GI.jY(h:GI c e m s d):GI g e m s d:=by
 let⟨b,a,f,i⟩:=h;exact⟨b,a,f,i.aP λ_ _ h=>h⟩
def iX(a v:Int):eM:=⟨a,0,0,[v],[]⟩
abbrev GS(c:ad)(e m:bh)(s:E)(d:au):Prop:=Gr c e m jP 5 j9 s d
theorem GS.bF(c:ad)(m:bh):GS c m (m.push (.cells (db []) jP)) (.mk m.size 0 0 0) []:=by grind [Gr.bF]
def GS.nE{c X:ad}{e m:bh}{s a k:E}{d:au}{x:eM}{K:E->bh->Prop}(h:GS c e m s d)(j:Fz X e m)(i:be (dA (s.bu::c) m) a x.aO)(l:rO (dA (s.bu::c) m) k x.dv)(n:d.length<=10^12)
 (g:∀r f,GS c e f r (d++[x])->Fz X e f->m.size<=f.size/\(r.bu=s.bu\/m.size<=r.bu)->(∀b,b<m.size->b≠s.bu->f[b]? =m[b]?)->K r f):
 mj (m.push (.cells (db [.i x.op,.i x.cE,.i x.dh,.s a,.s k]) jP)) jP [.i 0,.i 0,.i 0,.s .nil,.s .nil] 72 s (.mk m.size 0 1 1) K:=
 Gr.nE (h:=[.i 0,.i 0,.i 0,.s .nil,.s .nil]) j9.aP cD h j ⟨a,k,O,i,l⟩ V g
def GS.lY{c X:ad}{e m:bh}{s x:E}{d f:au}{K:E->bh->Prop}(h:GS c e m s d)(i:Fz X e m)(j:iN (dA (s.bu::c) m) x f)(k:d.length+f.length<=10^12)
 (g:∀r a,GS c e a r (d++f)->Fz X e a->m.size<=a.size/\(r.bu=s.bu\/m.size<=r.bu)->(∀b,b<m.size->b≠s.bu->a[b]? =m[b]?)->K r a):
 mj m jP [.i 0,.i 0,.i 0,.s .nil,.s .nil] 72 s x K:=
 Gr.lY (h:=[.i 0,.i 0,.i 0,.s .nil,.s .nil]) j9.aP cD h i j V g
theorem pX{α:Type}{a:Nat}{R:ae->α->Prop}{o c:Nat}:fW m a R (.mk b o 0 c) []:=⟨O,iD _,bO,bO⟩
def lJ(o:∀e∈c,e<m.size)(i v:Int):bK dO 228 [vi i,vi v] m λt d=>∃a k,t=tn (iX i v) a k/\be (dA c d) a [v]/\rO (dA c d) k []/\D m d:=by
 apply G9;simp -zeta only[dR];intro f g r s;obtain⟨u,x⟩:=pu f;have w:=px g;have j:=px r;have q:D m s:=((u.J w).J j).aV bY _ _;refine⟨_,_,O,?_,pX,q⟩;have n:be (dA (m.size::c) g) (.mk f.size 0 1 1) [v]:=be.kd bB (l:=[v]) (λb p=>by
  rcases bo.1 p with h|h
  .omega
  .have:=o b h;omega) O O bO
 exact(n.le j.fj).le (dV cK λe h=>aX _ h)
def Xb(f:Nat)(h:ap)(m:bh)(c:ad)(Q:au->Prop):Prop:=bK dO f h m λv a=>∃s d,v=s.v/\GS c m a s d/\Q d/\D m a
def Xb.bL{d:ad}{Q:au->Prop}(l:Xb f h m c Q)(j:D a m)(q:∀b∈d,b<a.size)(p:∀s g e,GS c m e s g->Q g->D m e->D a e->K s.v e):bK dO f h m λv e=>gS d m e/\K v e:=
 l.aP λ_ e⟨s,g,k,n,r,i⟩=>⟨i.eW λb o=>j.lt (q b o),k▸p s g e n r i (j.J i)⟩
def iR(z:∀h∈c,h<m.size)(b:Int){l:E}(e:be m l d)(A:d.length<=10^12):Xb 264 [vi b,l.v] m c (d.map (iX b)=·):=by
 apply EV;intro G;have u:=e.aT;refine gL (n:=d.length) (u▸e.kM) (λk s g=>D m g/\GS c m g s ((d.take k).map (iX b))) ⟨D.push m _,by simpa using GS.bF c m⟩ ?_;rintro k s H I μ C ⟨j,t⟩ w
 refine⟨λi=>?_,λi=>?_⟩
 .simp only[bg]at i;let⟨g,v⟩:=dU d k;refine⟨V,V,g,(e.ext j).bt v,?_⟩;refine(lJ (c:=s.bu::c) (λh B=>?_) b g).aP λP J⟨a,F,p,q,r,o⟩=>?_
  .grind [Gr.cJ]
  subst p;refine⟨_,_,_,_,_,O,?_⟩;intro K;refine GS.nE (x:=iX b g) (t.ext j9.aP o) ((j.J o).fz []) q r cB λN L y f Q M=>w V _ _ ⟨f.ext,?_⟩
  grind [bX]
 .grind
theorem um(a:Int):∀d:ab,sw (d.map (iX a))=2*d.length
 |[]=>O
 |v::d=>by rw[eK,qu,um a d,eM.pP];simp[iX];omega
theorem nF{a:Int}(h:14<=a):∀d:ab,dc (d.map (iX a))=0
 |[]=>O
 |v::d=>by
  rw[eK,nM,nF h d];grind [dn,tr,iX]
theorem It{f:af}{a:Nat}{d v:Int}(h:14<=d/\d<=17)(g:0<=v/\v<(a:Int)):WS f i True a (iX d v):=
 ⟨⟨bR ⟨trivial,h⟩,λx e=>by simp[iX]at e;subst e;exact g,λ_=>O,by simp[iX],λc=>by simp only[iX]at c;omega,λc=>by simp only[iX]at c;omega,λc=>by simp only[iX]at c;omega⟩,λk b c=>by simp[iX]at c⟩
theorem vD{c:af}{a:Nat}{b:Int}(h:14<=b/\b<=17)(e:∀v∈d,0<=v/\v<(a:Int)):WL c i True a (d.map (iX b)):=λg s f=>by
 grind [Option.map_eq_some_iff,List.map_take,nF,It,aZ]
def rD(f:Nat)(h:ap)(m:bh)(c:ad)(Q:Bk->Prop):Prop:=bK dO f h m λv a=>∃s b,v=.agg #[s.v,vi b.bQ]/\iN (dA c a) s b.bA/\Q b/\D m a
def rD.bL{d:ad}{Q:Bk->Prop}(l:rD f h m c Q)(i:D a m)(q:∀b∈d,b<a.size)(p:∀s b e,iN (dA c e) s b.bA->Q b->D m e->D a e->K (.agg #[s.v,vi b.bQ]) e):bK dO f h m λv e=>gS d m e/\K v e:=
 l.aP λ_ e⟨s,b,k,n,r,g⟩=>⟨g.eW λj o=>i.lt (q j o),k▸p s b e n r g (i.J g)⟩
def Ph(f:Nat)(h:ap)(m:bh)(c:ad)(Q:eM->Prop):Prop:=bK dO f h m λv b=>∃a k x,v=tn x a k/\be (dA c b) a x.aO/\rO (dA c b) k x.dv/\Q x/\D m b
def Ph.bL{d:ad}{Q:eM->Prop}(n:Ph f h m c Q)(i:D a m)(t:∀b∈d,b<a.size)(s:∀p k x e,be (dA c e) p x.aO->rO (dA c e) k x.dv->Q x->D m e->D a e->K (tn x p k) e):bK dO f h m λv e=>gS d m e/\K v e:=
 n.aP λ_ e⟨p,k,x,l,o,q,u,g⟩=>⟨g.eW λj r=>i.lt (t j r),l▸s p k x e o q u g (i.J g)⟩
theorem dD{d:bh}(e:∀a∈c,a<m.size)(h:m.size<=d.size)(f:b<d.size):∀a∈b::c,a<d.size:=λa g=>by
 grind
@[grind cases] structure aeY (ds:af) (nr:Nat) (v lo la:ab) (b:Bk):Prop where
 bI:∀o∈lo,0<=o/\o<(v.length:Int)
 lo5:lo.length+5*b.w<=500
 laN:la.length+1000*b.w<=1000000
 vN:v.length+5*b.w<=1000000
 wb:WB ds nr False v.length b
def acG(a:af)(d:List j7)(b:Bk):Prop:=∀(c:ad)(m:bh),(∀e∈c,e<m.size)->∀(g r j t oY e:E)(v i h:ab),iF m g r a d->be m j v->iN m t b.bA->be m oY i->be m e h->aeY a d.length v i h b->
 rD 263 [.agg #[g.v,r.v],j.v,.agg #[t.v,vi b.bQ],oY.v,e.v] m c λf=>WB a d.length True v.length f/\f.w+1050<=1100*b.w
@[grind cases] structure aeX (ds:af) (nr:Nat) (v fl lo la:ab) (b:Bk):Prop where
 bI:∀o∈lo,0<=o/\o<(v.length:Int)
 fl3:fl.length<=3
 lo5:lo.length+3+5*b.w<=500
 laN:la.length+1000*b.w<=1000000
 vN:v.length+3+5*b.w<=1000000
 wb:WB ds nr False (v.length+fl.length) b
def Ok(hS:∀a∈c,a<m.size){ao C aH bJ aw oY aO:E}{ds:af}{rs:List j7}{L I lo la:ab}{b:Bk}(hn:iF m ao C ds rs)(hv:be m aH L)(hf:be m bJ I)(hs:iN m aw b.bA)(u:be m oY lo)(a3:be m aO la)
 (hp:aeX ds rs.length L I lo la b)(ih:acG ds rs b):rD 329 [.agg #[ao.v,C.v],aH.v,bJ.v,.agg #[aw.v,vi b.bQ],oY.v,aO.v] m c λq=>WB ds rs.length True (L.length+I.length) q/\q.w<=1100*b.w:=by
 apply G6
 simp -zeta only[dR]
 intro e p G
 let⟨B,t,s0,s1,s2⟩:=uj (a:=e) (c:=p) (d:=G) O O O
 have b2:=hv.aT;have bl:=hf.aT;have bq:=u.aT;have bM:=hp.fl3;have bH:=b.NO;have bP:=hp.lo5;have b1:=hp.vN;have bN:=hp.laN
 refine(iL (S:=[]) bO (hv.le (B.le.J Ev)) (hf.le (B.le.J Ev)) V).bL (D.cT G) t λaC _ b5 gi i x3 _=>⟨_,O,?_⟩
 subst i
 refine(Ie (b:=[]) bO (hs.le (B.J x3).le) V).bL x3 t λbw ul H hu b0 x4 J=>⟨_,O,?_⟩
 intro m5 m6
 have a7:be H bw ul:=hu.le fL
 have bz:D H m6:=(D.push H _).J (D.push m5 _)
 have s5:=pz m5
 have gm:GI c H m6 (.mk H.size 0 0 0) []:=(GI.gN c H).ext (D.push m5 _)
 have gd:GI c H m6 (.mk m5.size 0 0 0) []:=(GI.gN c m5).cV (λ_ r=>r) V
 have z4:=J.aQ
 refine Be (j:=lo.length) (bq▸u.kM) (λae j sd M=>D H M/\∃R F,GI c H M j R/\GI c H M sd F/\j.bu≠sd.bu/\(∀o∈R,o∈lo)/\(∀o∈F,o∈lo)/\R.length<=ae/\F.length<=ae) ⟨bz,[],[],gm,gd,eX,bO,bO,bY,bY⟩ ?_
 rintro ae j sd m7 bf μ hk ⟨x7,R,F,gm,gd,a5,aM,aL,cm,cd⟩ ba
 have u7:=J.J x7
 have v7:=B.J u7
 refine dit (λr=>?_) λr=>?_
 .let⟨h,Z⟩:=dU lo ae
  have y:=aZ Z
  have A:∀M,D m7 M->mj (M.push (.cells (db [.i h]) bB)) bB [.i 0] 8 j (.mk M.size 0 1 1) λP m'=>gS [p.size,e.size,m.size] (M.push (.cells (db [.i h]) bB)) m'/\bf P sd (eI ((ae:Int)+1)) m'/\μ P sd (eI ((ae:Int)+1)) m'<μ j sd ae m7:=λM X=>
   GI.Yh (gm.ext X) (gd.ext X) a5 ((x7.J X).fz []) V λC m' w g' l f=>⟨D.sM ((u7.J X).bZ _) (J.J f.ext) t,ba V _ _ _ ⟨f.ext,_,_,w,g',l,sX aM y,aL,eX,V⟩⟩
  refine⟨V,V,h,(u.ext v7).bt Z,?_⟩
  refine(fH (a7.ext x7) h).jY.bL u7 t λa m8 v k=>⟨_,O,λ_=>⟨V,V,h,(u.ext (B.J k)).bt Z,A m8 v⟩,λ_=>⟨V,V,h,(u.ext (B.J k)).bt Z,?_⟩⟩
  refine(fH (a3.ext (B.J k)) h).jY.bL k t λa z N u9=>⟨_,O,λ_=>⟨V,V,h,(u.ext (B.J u9)).bt Z,A z (v.J N)⟩,λ_=>⟨V,V,h,(u.ext (B.J u9)).bt Z,?_⟩⟩
  intro aP
  have X:=v.J N
  exact GI.Yh (gd.ext X) (gm.ext X) a5.symm ((x7.J X).fz []) V λC m' w g' l f=>⟨D.sM ((u7.J X).bZ _) (J.J f.ext) t,ba V _ _ _ ⟨f.ext,_,_,g',w,l.symm,aM,sX aL y,V,eX⟩⟩
 have cm:R.length<=lo.length:=V
 have cd:F.length<=lo.length:=V
 intro m8
 have bQ:=gm.cJ
 have bL:=gd.cJ
 refine gL (n:=I.length) (bl▸hf.kM) (λae s M=>D m7 M/\∃d,GI c m7 M s d/\(∀o∈d,0<=o/\o<((L.length+I.length:Nat):Int))/\d.length<=ae) ⟨D.push _ _,[],GI.gN c m7,bO,bY⟩ ?_
 rintro a9 su z I2 μ2 hj ⟨N,y,gu,ap,cu⟩ aT
 have u9:=u7.J N
 have v9:=B.J u9
 refine dit (λh2=>?_) λh2=>?_
 .let⟨h,Z⟩:=dU I a9
  refine⟨V,V,h,(hf.ext v9).bt Z,λ_=>?_,λ_=>aT V _ _ ⟨N,y,gu,ap,V⟩⟩
  rw[de (b:=(aH.len:Int)+a9) V V]
  refine(fH ((a7.ext x7).ext N) _).jY.bL u9 t λa aP ai aF=>⟨_,O,λ_=>?_,λ_=>aT V _ _ ⟨N.J ai,y,gu.ext ai,ap,V⟩⟩
  intro bt
  refine GI.nE (gu.ext ai) ((N.J ai).fz []) V λC m' w f al W=>⟨D.sM ((u9.J ai).bZ _) (u7.J f.ext) t,aT V _ _ ⟨f.ext,_,w,λo u=>?_,eX⟩⟩
  rcases bU.1 u with u|u
  .exact ap o u
  .simp at u;omega
 have bZ:=gu.cJ
 have aK:=gm.ext N
 have bj:∀{M:bh},D G M->∀a∈p.size::c,a<M.size:=λr=>dD hS (B.J r).aQ (r.lt (t _ bO))
 have aB:∀{M:bh},D G M->j.bu<M.size->∀a∈j.bu::p.size::c,a<M.size:=λr Q a h=>by
  rcases bo.1 h with i|i
  .omega
  .exact bj r a i
 refine(iR (c:=j.bu::p.size::c) (aB u9 aK.cJ.2) 14 ((gu.cy (S:=c) (λa h=>cr (hS a h) (B.J u7).aQ) V).le fL) V).bL u9 t λs1 _ aP g1 i ai aF=>⟨_,O,?_⟩
 subst i
 have a4:j.bu<aP.size:=ai.lt aK.cJ.2
 refine(iR (c:=s1.bu::j.bu::p.size::c) (λa h=>?_) 15 ((((gd.cy (S:=c) (λa h=>cr (hS a h) (B.J J).aQ) V).le fL).ext N).ext ai) V).bL aF t λs2 _ bt g2 i aW bv=>⟨_,O,?_⟩
 .rcases bo.1 h with i|i
  .have:=g1.cJ;omega
  .exact aB aF a4 a i
 subst i
 have bT:=(g1.ext j9.aP aW).cJ
 have e2:=g2.rS j9.aP (λh=>by
  have Z:=g2.cJ;rcases bo.1 h with i|i
  .have:=g1.cJ;omega
  .have:=aB aF a4 _ i;omega) cD eX
 refine GS.lY (g1.ext j9.aP aW) ((ai.J aW).fz []) e2 eX λA aa g3 f3 z3 q3=>⟨D.sM bv (u9.J f3.ext) t,?_⟩
 have an:D z aa:=f3.ext
 have aG:=u9.J an
 have Q9:WL ds rs.length True (L.length+I.length) (y.map (iX 14)++F.map (iX 15)):=by
  refine(vD V ap).fw ?_;rw[nF V];refine vD V λo u=>?_;have:=hp.bI o (aL o u);omega
 have bc:dc (y.map (iX 14)++F.map (iX 15))=0:=by rw[fg,nF V,nF V]
 have b6:sw (y.map (iX 14)++F.map (iX 15))<=1006:=by rw[gF,um,um];omega
 have a1:GI c H aa j R:=(gm.ext N).ext an
 have bp:A.bu≠j.bu:=g3.Qc a1 cD
 have az:∀{M k:bh},D G M->D G k->∀b∈[p.size,e.size,m.size],∀o,aS k b o=aS M b o:=λr h' b Q o=>bE (by rw[h'.bG b (t b Q),r.bG b (t b Q)]) o
 have E4:∀{M k:bh},D G M->D G k->∀{ar:Prop},ar->aS k e.size 0=aS M e.size 0/\aS k e.size 1=aS M e.size 1/\aS k m.size 0=aS M m.size 0/\aS k m.size 1=aS M m.size 1/\ar:=λr h' _ hp=>⟨az r h' _ bO _,az r h' _ bO _,az r h' _ bO _,az r h' _ bO _,hp⟩
 have F4:∀{M:bh},Fz [j.bu] z M->D H M:=λr=>Fz.ext ((((x7.J N).fz [j.bu]).J r).Ih λb Q=>bR (by simp at Q;omega))
 have bX:j.bu<z.size:=aK.cJ.2
 have z3:=x3.aQ
 have tail:∀(M:bh)(l:Nat)(ss:E)(q:Bk),GS (l::j.bu::p.size::c) z M A (y.map (iX 14)++F.map (iX 15))->Fz [j.bu] z M->z.size<=l->l<M.size->l≠A.bu->iN (dA (l::A.bu::j.bu::p.size::c) M) ss q.bA->WB ds rs.length True (L.length+I.length) q/\q.w+1050<=1100*b.w->
  let P:bh:=aV M l 0 [.s ss,.i q.bQ]
  mj P jP [.i 0,.i 0,.i 0,.s .nil,.s .nil] 72 A ss λav M2=>gS [l,p.size,e.size,m.size] P M2/\aS M2 l 1=aS P l 1/\
   let M3:bh:=aV M2 p.size 0 [.s av,.i q.bQ]
   ∃s ac,Value.agg #[av.v,vi q.bQ]=.agg #[s.v,vi ac.bQ]/\iN (dA c M3) s ac.bA/\(WB ds rs.length True (L.length+I.length) ac/\ac.w<=1100*b.w)/\D m M3:=by
  intro M l ss q w ak bk bF a6 aq a8 P
  have b7:P.size=M.size:=bD _ _ _ _
  have Z:=w.cJ
  have br:iN (dA (A.bu::j.bu::p.size::c) P) ss q.bA:=aq.le (dV bO λa h=>aX _ h)
  have bG:=Bk.pP q
  have bV:=jQ q.bA
  have hF:=F4 ak
  have zF:=hF.aQ
  have g1:GS (j.bu::p.size::c) z P A _:=w.re j9.aP (Y:=[l]) ((Fz.cT [l] M).aV (bC bO) _ _) bO (by simpa using tf a6) λa h=>bC (aX _ h)
  have f1:Fz [j.bu] z P:=ak.aV (bR bk) _ _
  refine GS.lY g1 f1 br eX λC M2 g2 f al W=>⟨λa h=>?_,bE (W l V a6) _,?_⟩
  .simp at h
   refine W a ?_ ?_<;>rcases h with rfl|rfl|rfl|rfl<;>omega
  intro M3
  have bx:D m M2:=Fz.ext (((v9.fz [j.bu]).J f).Ih λb Q=>bR (by simp at Q;omega))
  have b3:=g2.cJ
  have h5:=g2.rS j9.aP (λh=>by
   rcases bo.1 h with i|i
   .omega
   .rcases bo.1 i with i|i
    .omega
    .have:=hS _ i;omega) cD eX
  refine⟨C,.mk _ q.bQ,O,iN.le (dV bO λa h=>aX _ (aX _ h)) h5,⟨WB.of (Q9.fw ?_) ?_,?_⟩,bx.aV V _ _⟩
  .rw[bc];exact a8.1.cw.1
  .rw[fg,bc,eV];exact a8.1.cw.2
  .rw[Bk.vt,gF];omega
 have bI:∀(M:bh)(g:ad)(K:E->bh->Prop),D aa M->GS g z M A (y.map (iX 14)++F.map (iX 15))->j.bu∈g->(∀C k,GI c H k C (R++y)->GS g z k A (y.map (iX 14)++F.map (iX 15))->Fz [j.bu] z k->M.size<=k.size->(∀b,b<M.size->b≠j.bu->k[b]? =M[b]?)->K C k)->mj M bB [.i 0] 8 j su K:=by
  intro M g K hx w bn hK;have bs:be (dA (j.bu::c) M) su y:=by
   refine be.le ((an.J hx).fj) (Gr.rS (S:=j.bu::c) yi.aP gu.jY (λh=>?_) cD V);rcases bo.1 h with i|i
   .omega
   .have:=hS _ i;have:=B.aQ;omega
  exact GI.lY (a1.ext hx) ((((x7.J N).J an).J hx).fz []) bs V λC k g' f al W=>hK C k g' (w.Si j9.aP (Y:=[j.bu]) ⟨al.1,λb Q hn=>W b Q (sp hn)⟩ (sp bn) (sp bp)) (((an.J hx).fz [j.bu]).J ⟨al.1,λb Q hn=>W b Q (sp hn)⟩) al.1 W
 have bu:∀(M:bh)(g:ad)(mn ag:E)(v:ab),(∀a∈g,a<M.size)->Fz [j.bu] z M->be M mn (R++y)->be M ag v->tx la v->rD 263 [.agg #[ao.v,C.v],aC.v,.agg #[aw.v,vi b.bQ],mn.v,ag.v] M g λq=>WB ds rs.length True (L.length+I.length) q/\q.w+1050<=1100*b.w:=by
  intro M g mn ag v bi ak h1 h2 h3;have hF:=F4 ak;have hm:=(B.J J).J hF;have bm:be M aC (L++I):=(((gi.cy bO eX).le fL).ext x4).ext hF;have:=ih g M bi ao C aC aw mn ag (L++I) (R++y) v (hn.le hm.le) bm (hs.le hm.le) h1 h2 ⟨λo u=>?_,eX,oh h3.2,eX,sp hp.wb⟩
  .simpa using this
  .simp;rcases bU.1 u with u|u
   .have:=hp.bI o (aM o u);omega
   .have:=ap o u;omega
 have b4:=an.aQ
 have bW:j.bu<aa.size:=V
 have bS:A.bu<aa.size:=g3.cJ.2
 have a2:∀{M:bh},D G M->aa.size<=M.size->∀a∈A.bu::j.bu::p.size::c,a<M.size:=λr hz a h=>by
  rcases bo.1 h with i|i
  .omega
  .exact aB r V a i
 have kG:∀(M:bh)(l:Nat)(mn ag:E)(v:ab),GS (l::j.bu::p.size::c) z M A (y.map (iX 14)++F.map (iX 15))->Fz [j.bu] z M->aa.size<=l->l<M.size->be M mn (R++y)->be M ag v->tx la v->
  bK dO 263 [.agg #[ao.v,C.v],aC.v,.agg #[aw.v,vi b.bQ],mn.v,ag.v] M λrv k=>gS [l,p.size,e.size,m.size] M k/\∃aU:E,∃aE:Int,rv=.agg #[aU.v,vi aE]/\
   let P:bh:=aV k l 0 [.s aU,.i aE]
   mj P jP [.i 0,.i 0,.i 0,.s .nil,.s .nil] 72 A aU λav M2=>gS [l,p.size,e.size,m.size] P M2/\aS M2 l 1=aS P l 1/\
    let M3:bh:=aV M2 p.size 0 [.s av,.i aE]
    ∃s ac,Value.agg #[av.v,vi aE]=.agg #[s.v,vi ac.bQ]/\iN (dA c M3) s ac.bA/\(WB ds rs.length True (L.length+I.length) ac/\ac.w<=1100*b.w)/\D m M3:=by
  intro M l mn ag v w ak h1 h2 h3 h4 h5
  have hM:D G M:=J.J (F4 ak)
  refine(bu M (l::A.bu::j.bu::p.size::c) mn ag v (λa h=>?_) ak h3 h4 h5).bL (D.cT M) (λa h=>?_) λss q k aq hq hx _=>⟨_,_,O,tail k l ss q (w.ext j9.aP hx) (ak.cg hx) V (hx.lt h2) V aq hq⟩
  .rcases bo.1 h with i|i
   .omega
   .exact a2 hM V a i
  .rcases bo.1 h with i|i
   .omega
   .exact hM.lt (t a i)
 have aD:∀(M:bh)(o:Obj),GS (j.bu::p.size::c) z M A (y.map (iX 14)++F.map (iX 15))->GS (M.size::j.bu::p.size::c) z (M.push o) A (y.map (iX 14)++F.map (iX 15)):=λM o w=>
  w.re j9.aP (Y:=[]) ((D.push M o).fz []) bO bO λa h=>by
   rcases bo.1 h with i|i
   .exact bR V
   .exact bC i
 have aJ:∀(M:bh)(aI:ad)(K:aj),D G M->(∀a∈aI,a<M.size)->(∀s v k,be k s v->tx la v->D M k->K s.v k)->bK dO 344 [aO.v,vi (aH.len:Int)] M λL m'=>gS aI M m'/\K L m':=λM aI K hM hL hK=>
  (TC (S:=[]) bO (a3.le ((B.J hM).le.J Ev)) V).bL (D.cT M) hL λs v k w ar X _=>hK s v k ((w.cy bO (oh ar.2)).le fL) ar X
 have aA:∀{M:bh}{s:E},GI c H M s (R++y)->be M s (R++y):=λw=>(w.cy (λa h=>cr (hS a h) (B.J J).aQ) eX).le fL
 have aN:∀{M:bh}{l:Nat},D G M->l<M.size->∀a∈[l,p.size,e.size,m.size],a<M.size:=λr Q a h=>by
  rcases bo.1 h with i|i
  .omega
  .exact r.lt (t a i)
 refine⟨bI aa _ _ cY g3 bO λau aQ ga gs U al W=>⟨λa h=>W a (aG.lt (t a h)) (oh (t a h)),E4 aG (J.J (F4 U)) ⟨?_,?_⟩⟩,?_⟩
 .have ah:=J.J (F4 U)
  refine aJ aQ _ _ ah (λa h=>ah.lt (t a h)) λam v ay a0 bb T=>⟨_,O,E4 ah (ah.J T) ⟨?_,?_⟩⟩
  .have ax:=ah.J T
   have bA:=T.aQ
   refine(bu ay (A.bu::j.bu::p.size::c) au am v (a2 ax V) (U.cg T) ((aA ga).ext T) a0 bb).bL ax t λss q aR aq hq aY bd=>⟨_,_,O,?_⟩
   intro a_
   have b8:=aY.aQ
   have bg:=(U.cg T).cg aY
   exact E4 bd (bd.bZ _) (tail a_ aR.size ss q (aD aR _ ((gs.ext j9.aP T).ext j9.aP aY)) (bg.push _) V (by simp[a_]) V (aq.le (xg (D.push aR _) bY)) hq)
  .intro aR
   have bA:=T.aQ
   have ax:=ah.J T
   exact E4 ax (ax.bZ _) (kG aR ay.size au am v (aD ay _ (gs.ext j9.aP T)) ((U.cg T).push _) V (by simp[aR]) (((aA ga).ext T).ext (D.push _ _)) (a0.ext (D.push _ _)) bb)
 .intro T
  have ah:=J.J (F4 U)
  have ax:D G T:=ah.bZ _
  have aR:=px T
  refine E4 ah ax (aJ T _ _ ax (aN ax (by simp[T])) λam v a0 aY a_ ay=>⟨_,O,E4 ax (ax.J ay) ?_⟩)
  exact kG a0 aQ.size au am v ((aD aQ _ gs).ext j9.aP ay) ((U.cg aR).cg ay) V (ay.lt (by simp[T])) (((aA ga).ext aR).ext ay) aY a_
 .intro T
  have ay:D G T:=aG.bZ _
  have bb:=px T
  refine E4 aG ay (bI T _ _ bb (aD aa _ g3) bO λau aY ga gs U al W=>⟨λa h=>W a (aN ay (by simp[T]) a h) ?_,E4 ay (J.J (F4 U)) ?_⟩)
  .rcases bo.1 h with i|i
   .omega
   .have:=t a i;omega
  have ax:=J.J (F4 U)
  have bd:=pz T
  refine aJ aY _ _ ax (aN ax V) λam v a0 aR a_ ah=>⟨_,O,E4 ax (ax.J ah) ?_⟩
  exact kG a0 aa.size au am v (gs.ext j9.aP ah) (U.cg ah) bY (ah.lt V) ((aA ga).ext ah) aR a_
end
section
variable{c m:bh}{k i h a:Nat}{s:E}{e:ad}{f:ab}{d:eM}{g:List j7}
def abF{a b:bh}(h:D a c)(f:Fz [k] c b)(d:a.size<=k):D a b:=by constructor<;>grind [Fz.ext,D.fz,Fz.J,Fz.Ih]
def _root_.Go.Vc.Fz.Wn{M b:bh}(f:Fz [k] c M)(d:s.bu=k\/c.size<=s.bu)(e:M.size<=b.size)(q:∀a,a<M.size->a≠s.bu->b[a]? =M[a]?):Fz [k] c b:=
 by constructor<;>grind [Fz.vS,E.bu]
def GI.ae8{X:ad}{b:bh}{d:E}{g:ab}{K:E->bh->Prop}(h:GI e b m s f)(l:Fz X b m)(o:be m d g)(q:f.length+g.length<=10^12)
 (n:∀r a,GI e b a r (f++g)->Fz X b a->(m.size<=a.size/\(r.bu=s.bu\/m.size<=r.bu))->(∀c,c<m.size->c≠s.bu->a[c]? =m[c]?)->K r a):mj m bB [.i 0] 8 s d K:=by
 let⟨p,i,j,k⟩:=o.abO (b:=1) λ_ _ h=>by rw[h];rfl
 exact Gr.xz (h:=[.i 0]) yi.aP cD h l i j k V n
def dB(e:ad){b:E}(d:be m b f)(i:f.length<=10^12):oA 55 [b.v] m e (f=·):=by
 apply rH;intro h;have a:=px h;exact GI.ae8 (f:=[]) (X:=[]) (GI.gN e m) (a.fz []) (d.ext a) cB λr j g c _ _=>⟨r,f,O,sp g,O,c.ext⟩
abbrev GB(e:ad)(a m:bh)(s:E)(f:aF):Prop:=Gr e a m fm 2 vw s f
def GB.bF{e:ad}(m:bh):GB e m (m.push (.cells (db []) fm)) (.mk m.size 0 0 0) []:=by grind [Gr.bF]
def GB.nE{e X:ad}{g m:bh}{s a:E}{f:aF}{c:Bk}{K:E->bh->Prop}(h:GB e g m s f)(k:Fz X g m)(j:iN (dA (s.bu::e) m) a c.bA)(l:f.length<=10^12)
 (i:∀r b,GB e g b r (f++[c])->Fz X g b->m.size<=b.size/\(r.bu=s.bu\/m.size<=r.bu)->(∀d,d<m.size->d≠s.bu->b[d]? =m[d]?)->K r b):
 mj (m.push (.cells (db [.s a,.i c.bQ]) fm)) fm [.s .nil,.i 0] 32 s (.mk m.size 0 1 1) K:=
 Gr.nE (h:=[.s .nil,.i 0]) vw.aP cD h k (by cases c;exact vw.of j) V i
theorem Pu{a:af}{b cE:Int}{y:Int}(h:b=8)(c:(cX a cE)[i]? =some y):FY a b cE i=(cW a y).length:=by grind [FY]
def Pv{b:af}{a cE:Int}(h:a≠8):FY b a cE i=0:=by grind [FY]
def _root_.Go.Vc.WS.UM{e:af}{i f:Prop}(b:WS e h i a d)(l:i->f){dh:Int}(m:0<=dh/\dh<=(a:Int)){dv:aF}(j:dv.length=d.dv.length)(n:∀(k:Nat)(c:Bk),dv[k]? =some c->WB e h f (a+FY e d.op d.cE k) c):WS e h f a ⟨d.op,d.cE,dh,d.aO,dv⟩:=
 ⟨⟨b.iY.op.imp id λb=>⟨l b.1,b.2⟩,b.iY.aO,b.iY.mM,m,λg=>j.trans (b.iY.Nj g),λg=>j▸b.iY.lY g,b.iY.jE⟩,n⟩
def MF(hS:∀h∈e,h<m.size){U Q ad a k oY ac:E}{r:af}{B lo la:ab}(A:iF m U Q r g)(hv:be m ad B)(ha:be m a d.aO)(N:rO m k d.dv)(ho:be m oY lo)(ar:be m ac la)
 (au:∀o∈lo,0<=o/\o<(B.length:Int))(aG:lo.length+5*d.w<=500)(aF:la.length+1000*d.w<=1000000)(vN:B.length+5*d.w<=1000000)(aa:WS r g.length False B.length d)(ih:∀c∈d.dv,acG r g c):
 Ph 300 [.agg #[U.v,Q.v],ad.v,tn d a k,oY.v,ac.v] m e λC=>WS r g.length True B.length C/\C.op=d.op/\C.w<=1+d.aO.length+1100*bw d.dv:=by
 apply EU
 simp -zeta only[dR]
 intro m0 o v ag
 let⟨p,u,s0,s1,s2⟩:=uj (a:=m0) (c:=o) (d:=v) O O O
 have ak:=px ag
 have gk:=GB.bF (e:=o.size::e) v
 have az:=ha.aT;have aq:=N.aT;have hw:=eM.pP d
 refine(kO (e:=[v.size]) (by simp[ag]) (A.le (p.J ak).le).bT A.dm d.cE).bL ak u λh cl m4 t P x4 u4=>⟨_,O,?_⟩
 subst P
 have aC:=t.aT
 refine gL (n:=d.dv.length) (aq▸N.kM) (λj s M=>Fz [v.size] m4 M/\(s.bu=v.size\/m4.size<=s.bu)/\∃f,GB (o.size::e) v M s f/\f.length=j/\(∀(i:Nat)(c:Bk),f[i]? =some c->WB r g.length True (B.length+FY r d.op d.cE i) c)/\bw f<=1100*bw (d.dv.take j)) ⟨nP,bC O,[],gk.ext vw.aP x4,O,bO,bO⟩ ?_
 rintro j s m5 am μ hj ⟨Y,av,f,Z,aE,ax,ao⟩ ay
 have l:=abF u4 Y bY
 have hy:=Z.cJ
 refine dit (λx=>?_) λx=>?_
 .intro m6
  have q:=px m6
  let⟨c,z⟩:=dU d.dv j
  have aA:=Ba z
  have aB:=yL z
  have an:∀{M:bh},D m5 M->∀h∈s.bu::o.size::e,h<M.size:=λx=>dD (dD hS p.aQ (u _ bO)) (l.J x).aQ (oh x.aQ)
  have kG:∀(M:bh)(F:E)(L:ab)(w:E),D m5 M->be M F L->L.length=FY r d.op d.cE j->iN M w c.bA->
   bK dO 329 [.agg #[U.v,Q.v],ad.v,F.v,.agg #[w.v,vi c.bQ],oY.v,ac.v] M λrv J=>gS [o.size,m0.size,m.size] M J/\∃ai:E,∃aj:Int,rv=.agg #[ai.v,vi aj]/\
    let M1:bh:=J.push (.cells (db [.s ai,.i aj]) fm)
    mj M1 fm [.s E.nil,.i (0:Int)] 32 s (E.mk J.size 0 1 1) λah K=>gS [o.size,m0.size,m.size] M1 K/\am ah (eI ((j:Int)+(1:Int))) K/\μ ah (eI ((j:Int)+(1:Int))) K<μ s j m5:=by
   intro M F L w G hf ap I
   have T:=p.J (l.J G)
   have b3:=VW A.dm d.op d.cE j
   refine(Ok (c:=s.bu::o.size::e) (an G) (A.le T.le) (hv.ext T) hf I (ho.ext T) (ar.ext T) ⟨au,V,V,V,V,ap▸aa.dv j c z⟩ (ih c (aZ z))).bL (l.J G) u λss b' J aw P C u'=>⟨_,_,O,?_⟩
   refine GB.nE (c:=b') (Z.ext vw.aP (G.J C)) (u'.fz []) aw (oh (wZ d.dv)) λQ K g2 f2 z2 q2=>⟨D.sM (u'.bZ _) f2.ext u,ay V _ _ ⟨(Y.cg (G.J C)).Wn av z2.1 q2,?_,_,g2,eX,λi b2 H=>?_,?_⟩⟩
   .grind
   .rcases dJ i f.length with y|y
    .grind
    .rw[dP y]at H
     have:i -f.length=0:=by have:=br H;simp at this;omega
     rw[this]at H;simp at H;subst H
     have:i=j:=V
     grind
   .grind [sU,yK,DW]
  refine⟨λy=>?_,λy=>?_⟩
  .simp only[bP]at y
   have aD:=(aa.iY.lY y).1
   let⟨al,ae⟩:=dU (cX r d.cE) j
   refine⟨V,V,al,(iO.1 ((t.le ((Y.cg q).fj bO)).bt ae)).2,?_⟩
   have R:=l.J q
   refine(fV (e:=[]) ((A.le (p.J R).le).bT.le Ev) A.dm al).bL R u λF L m7 hf P x7 u7=>⟨_,O,?_⟩
   subst P
   let⟨w,I,W,X⟩:=(N.le (p.J u7).le).bt z
   exact⟨V,V,_,W,_,X,kG m7 F _ w (q.J x7) (hf.le fL) (Pu y ae).symm I⟩
  .simp only[ba]at y
   let⟨w,I,W,X⟩:=(N.le (p.J (l.J q)).le).bt z
   exact⟨V,V,_,W,_,X,kG m6 _ [] w q pX (Pv y).symm I⟩
 .have F:f.length=d.dv.length:=V
  rw[eQ V]at ao
  refine(dB (o.size::e) (ha.ext (p.J l)) V).bL l u λG H m6 z y q R=>⟨_,O,bE (q.bG _ (l.lt (u _ bO))) _,bE (q.bG _ (l.lt (u _ bO))) _,?_⟩
  subst y
  intro m7
  have w:∀h∈o.size::e,h<v.size:=dD hS p.aQ V
  refine⟨G,s,⟨d.op,d.cE,0,d.aO,f⟩,O,(z.cy (λh t=>cr (w h t) l.aQ) V).le (dV bO λh t=>aX _ t),rO.le (dV bO λh t=>aX _ t) ((Z.ext vw.aP q).cy vw.aP w cD cB),⟨aa.UM (λx=>x.elim) ⟨V,V⟩ F ax,O,?_⟩,(p.J R).aV V _ _⟩
  grind [eM.pP]
def _root_.Go.Vc.Xt{σ τ ρ:Type}{n:Nat}(p:n<=9223372036854775807){h:σ}{j:τ}{g:ρ}{f:(σ->τ->ρ->Int->bh->Prop)->(σ->τ->ρ->Int->bh->Nat)->σ->τ->ρ->Int->bh->Prop}(Q:Nat->σ->τ->ρ->bh->Prop)(l:Q 0 h j g m)
 (o:∀(k:Nat)(s:σ)(t:τ)(r:ρ)(a:bh)(I:σ->τ->ρ->Int->bh->Prop)(μ:σ->τ->ρ->Int->bh->Nat),k<=n->Q k s t r a->
  (k<n->∀d e c b,Q (k+1) d e c b->I d e c (eI ((k:Int)+1)) b/\μ d e c (eI ((k:Int)+1)) b<μ s t r k a)->f I μ s t r k a):
 ∃(I:σ->τ->ρ->Int->bh->Prop)(μ:σ->τ->ρ->Int->bh->Nat),I h j g 0 m/\∀s t r i a,I s t r i a->f I μ s t r i a:=by
 refine⟨λs t r i b=>∃k:Nat,i=k/\k<=n/\Q k s t r b,λ_ _ _ i _=>(n -i).toNat,⟨0,O,iD _,l⟩,?_⟩
 grind [nt,Qb]
@[grind cases] structure CB (ds:af) (nr:Nat) (S:ad) (m2 M:bh) (v lo:ab) (bA:au) (k:Nat) (st inn mn:E):Prop where
 x:D m2 M
 hs:∃l,GS (inn.bu::mn.bu::S) m2 M st l/\WL ds nr True v.length l/\dc l=dc (bA.take k)/\sw l<=1100*sw (bA.take k)
 hi:∃l,GI S m2 M inn l/\l.length=v.length+dc (bA.take k)
 hm:∃l,GI S m2 M mn l/\l.length<=lo.length+k/\∀o∈l,0<=o/\o<((v.length+dc (bA.take k):Nat):Int)
 ne:inn.bu≠mn.bu
theorem dn1{c:af}(b:WS c h False a d):dn d=1:=bn (b.iY.op.resolve_right λb=>b.1)
def KS{U:af}:∀c:Bk,acG U g c:=by
 refine Bk.ind ?_;intro bA w ih e m hS b2 cS dK cU oY cZ aj lo la hn hv hs B bF hp;have a9:=hp.wb.cw;simp only[Bk.mV,Bk.lV]at*;have cI:=hp.lo5;have cH:=hp.laN;have vN:=hp.vN;rw[(Bk.vt bA w)]at cI cH vN;apply Di;simp -zeta only[dR];intro m0 p t bP;let⟨F,K,s0,s1,s2⟩:=uj (a:=m0) (c:=p) (d:=t) O O O;obtain⟨bj,s3⟩:=pu bP;have bB:∀am,GS am t bP (.mk t.size 0 0 0) []:=λam=>GS.bF am t;have bI:=hs.aT;have cC:=FL bA;have dj:=jQ bA;refine(dB e (hv.ext (F.J bj)) V).bL bj K λo _ m4 G q x4 u4=>⟨_,O,?_⟩;subst q;refine(dB e (B.ext (F.J u4)) V).bL u4 K λv _ m5 W q x5 u5=>⟨_,O,?_⟩;subst q;have bJ:=G.cJ;have bL:=W.cJ;refine Xt (n:=bA.length) (bI▸hs.kM) (λk A o v j=>CB U g.length (p.size::e) t j aj lo bA k A o v) ⟨u5,⟨[],((bB _).ext j9.aP x4).ext j9.aP x5,WL.gN,O,bO⟩,⟨aj,((G.ext x5).cV (λ_ h=>h) bj.aQ).jY,bO⟩,⟨lo,(W.cV (λ_ h=>h) u4.aQ).jY,V,sp hp.bI⟩,V⟩ ?_;clear G W bJ bL bB;rintro k A o v Q bl μ hk ⟨x6,⟨P,gs,aO,Z,dk⟩,⟨li,G,aL⟩,⟨lm,W,c5,bG⟩,df⟩ aT
 have v6:=F.J x6;have c9:=G.aT cD;have c7:=xe (bA.take k);have dd:=RO k bA;have ae:∀l∈p.size::e,l<t.size:=dD hS F.aQ (K _ bO);have co:be Q o li:=(G.cy ae V).le fL;have cq:be Q v lm:=(W.cy ae V).le fL;have dz:=gs.cJ;have bJ:=G.cJ;have bL:=W.cJ;have cB:=jQ (bA.take k);have c_:k<=sw (bA.take k):=by rw[qW]at cB;omega
 refine dit (λh=>?_) λh=>?_
 .let⟨d,r⟩:=dU bA k;let⟨a,kk,ha,bE,g0,g1,g2,g3,g4⟩:=hs.bt r;refine⟨V,V,_,v6.aS g0,_,v6.aS g1,_,v6.aS g2,_,v6.aS g3,_,v6.aS g4,?_⟩;intro m7 R;obtain⟨x8,s8⟩:=pv R;have T:=x6.J x8;have u:∀{j:bh},R.size<=j.size->∀c∈[Q.size,p.size,m0.size,m.size],c<j.size:=λh c hb=>by
   rcases bo.1 hb with q|q
   .omega
   .have:=T.lt (K c q);omega
  have ds:=ua r;have dq:=uK r;have dr:=eM.pP d;have ah:WS U g.length False li.length d:=by rw[aL];exact a9.1 k d r
  have bD:=dn1 ah;have dm:=cC (k+1);have c6:=wZ d.dv;have de:=jQ P;have ag:∀{j:bh},D t j->At j b2 cS a kk U g d:=λh=>⟨hn.le (F.J h).le,ha.ext (F.J h),ah.iY.jE⟩;have aN:∀{j:bh},GI (p.size::e) t j o li->be j o li:=λy=>(y.cy ae V).le fL;have a7:∀{j:bh},GI (p.size::e) t j v lm->be j v lm:=λy=>(y.cy ae V).le fL;have an:∀{j:bh}{am:ad},R.size<=j.size->(∀l∈am,l<j.size)->∀l∈am++p.size::e,l<j.size:=λh hb l b=>by
   rcases bU.1 b with h|h
   .exact hb l h
   .have:=ae l h;omega
  refine(sA (ag T).Wu (aN (G.ext x8)) (ag T).aO (bE.le (F.J T).le) V λc _=>rl c).bL (D.cT R) (u bY) λty m9 x9 _=>⟨_,O,?_⟩;intro a_;have bX:D R a_:=x9.bZ _;have e0:be (dA [] a_) (.mk m9.size 0 0 0) []:=pX;rw[nt (k:=k) (n:=bA.length) V (bI▸hs.kM)]at aT⊢
  refine(EI (.mk bA w) [] a_ bO cU _ _ _ (k+1) (hs.le (F.J (T.J bX)).le) e0 (by simp only[Bk.mV];omega) (by simp only[Bk.vt,kT];omega)).bL bX (u bY) λus ul cJ hu cE dL bi=>⟨_,O,?_⟩;rw[Bk.vt,kT]at cE;refine(TH (S:=[]) bO hu ((bF.ext (F.J (T.J bi))).le Ev) V).bL bi (u bY) λlt ll cK a4 bS dM aq=>⟨_,O,?_⟩;have aB:∀{j:bh},GI [] cJ j lt ll->be j lt ll:=λy=>(y.cy bO (oh bS.2)).le fL;have bm:=T.J aq;have bs:=G.ext (x8.J aq);have bx:=W.ext (x8.J aq);have cj:=gs.ext j9.aP (x8.J aq);refine(KU (b:=[]) bO (ag bm) (aN bs) ah.iY.aO (a7 bx) (aB a4) V).bL (D.cT cK) (u aq.aQ) λdu dl cL cd bT ar _=>⟨_,O,?_⟩;have c0:=bT.2;have dP:=aq.aQ;have dQ:=ar.aQ;have dN:=bi.aQ;refine(iR (c:=[A.bu,o.bu,v.bu]++p.size::e) (an V eX) 14 ((cd.cy bO V).le fL) V).bL (D.cT cL) (u V) λdI _ aQ b9 q av _=>⟨_,O,?_⟩;subst q;have dS:=av.aQ;refine GS.lY (cj.ext j9.aP (ar.J av)) (((bm.J ar).J av).fz []) (b9.cy j9.aP (an (am:=[A.bu,o.bu,v.bu]) V eX) cD eX) eX λbg bM bq b3 cV aW=>⟨λl b=>aW l (u V l b) ?_,?_⟩
  .simp at b;omega
  have aK:D t bM:=b3.ext;have cp:o.bu<aQ.size:=V;have cr:v.bu<aQ.size:=V;have cs:A.bu≠o.bu:=gs.Qc G cD;have ct:A.bu≠v.bu:=gs.Qc W cD;have da:=a4.cJ;have bt:=(bs.ext (ar.J av)).lZ (aW _ cp cs.symm);have bz:=(bx.ext (ar.J av)).lZ (aW _ cr ct.symm);have bw:=(a4.ext (ar.J av)).lZ (aW _ V V);have dg:bg.bu=A.bu\/aQ.size<=bg.bu:=cV.2;have dv:=bq.cJ;refine(MF (e:=[bg.bu,o.bu,v.bu]++p.size::e) (an V eX) (ag aK).Wu (aN bt) (ag aK).aO (bE.le (F.J aK).le) (a7 bz) (aB bw) (by rw[aL];exact bG) V (oh bS.2) V ah (ih d (aZ r))).bL (D.cT bM) (u V) λc3 c4 x' bN ck cl cR aw _=>⟨_,_,_,_,_,O,?_⟩;let⟨cF,cA,dp⟩:=cR;have dT:=aw.aQ;refine GS.nE (x:=x') (bq.ext j9.aP aw) ((aK.J aw).fz []) ck cl eX λaD ba br b4 cW aY=>⟨λl b=>?_,?_⟩
  .have:=u (j:=bN) V l b;rw[aY l this (by simp at b;omega),(D.push bN _).bG l this]
  have a1:D t ba:=b4.ext;have bu:=(bt.ext aw).lZ (aY _ V V);have ci:=(bz.ext aw).lZ (aY _ V V);have a3:=(bw.ext aw).lZ (aY _ V V);have dh:aD.bu=A.bu\/aQ.size<=aD.bu:=by have:=cW.2;omega
  refine(MI (b:=[]) bO (ag a1) (aN bu) ah.iY.aO (a7 ci) (aB a3) V).bL (D.cT ba) (u V) λap lf cM gf bd ax _=>⟨_,O,?_⟩;have bn:=a1.J ax;have dW:=ax.aQ;have cn:∀{j:bh},GI [] ba j ap lf->be j ap lf:=λy=>(y.cy bO (oh bd.2)).le fL;refine(MJ (b:=[]) bO (ag bn) (cn gf) (aB (a3.ext ax)) V).bL (D.cT cM) (u V) λcT N cN gd bV aJ _=>⟨_,O,?_⟩;have c2:=bV.2;have c1:=bd.2;have dy:=gf.cJ;have dx:=gd.cJ;have dw:=br.cJ;refine(iR (c:=[aD.bu,ap.bu,o.bu]++p.size::e) (an V eX) 15 ((gd.cy bO V).le fL) V).bL (D.cT cN) (u V) λdJ _ cO ca q ak _=>⟨_,O,?_⟩;subst q;have b0:=(bn.J aJ).J ak;have dX:=ak.aQ;have b_:GS ([ap.bu,o.bu]++p.size::e) t cO aD _:=br.re j9.aP (Y:=[]) (((ax.J aJ).J ak).fz []) bO bO λl b=>by
   simp only[eS,iA,bo]at b⊢;rcases b with h|h|h
   .exact bR V
   .exact bC (bC h)
   .exact bC (bR (bR h))
  refine GS.lY b_ (b0.fz []) (ca.cy j9.aP (an (am:=[aD.bu,ap.bu,o.bu]) V eX) cD eX) eX λH aR cb b5 dY aC=>⟨λl b=>aC l (u V l b) ?_,?_⟩
  .simp at b;omega
  have b1:D t aR:=b5.ext;have cg:=((bu.ext ax).ext (aJ.J ak)).lZ (aC _ V V);have cf:=(gf.ext (aJ.J ak)).lZ (aC _ V V);have cc:=(gd.ext ak).lZ (aC _ V V);have ch:=((a3.ext ax).ext (aJ.J ak)).lZ (aC _ V V);have a6:be aR cT N:=(cc.cy bO V).le fL;have cm:=a6.aT;have ce:GI (p.size::e) t aR ap lf:=(cf.cV (λ_ h=>h) a1.aQ).jY;refine gL (n:=N.length) (cm▸a6.kM) (λ_ s j=>D aR j/\∃f,GI (p.size::e) t j s f/\GS ([s.bu,o.bu]++p.size::e) t j H (P++dl.map (iX 14)++[x']++N.map (iX 15))/\tx lf f/\o.bu≠s.bu/\R.size<=s.bu) ⟨cY,lf,ce,cb,⟨λ_ h=>h,bY⟩,V,V⟩ ?_;rintro i s bb I2 μ2 hi ⟨ay,f,gl,a5,L,cu,di⟩ cP;have bp:=b1.J ay;have dZ:=ay.aQ;have cG:=gl.cJ;refine dit (λh2=>?_) λh2=>?_
  .let⟨I,J⟩:=dU N i;refine⟨V,V,I,(a6.ext ay).bt J,?_⟩;refine(FK (S:=[]) bO (((gl.cy ae (oh L.2)).le fL).le Ev) I (oh L.2)).bL (D.cT bb) (u V) λac X ab g2 z C _=>⟨_,O,cP V _ _ ⟨ay.J C,X,(g2.cV (λ_ h=>h) bp.aQ).jY,?_,⟨λaz hz=>L.1 az (z.1 az hz),fC z.2 L.2⟩,?_,?_⟩⟩
   .have aa:=g2.cJ;refine a5.re j9.aP (Y:=[]) (C.fz []) bO bO λl b=>?_;simp only[eS,iA,bo]at b⊢;rcases b with h|h|h
    .exact bR V
    .exact bC (bR (bC h))
    .exact bC (bR (bR h))
   .have:=g2.cJ;omega
   .have:=g2.cJ;omega
  intro dE;have bv:=cg.ext ay;refine GI.nE bv (bp.fz []) V λaa ao ab b6 bZ a0=>⟨λl b=>?_,?_⟩
  .have:=u (j:=bb) V l b;rw[a0 l this (by simp at b;omega),(D.push bb _).bG l this]
  have a2:D t ao:=b6.ext;have cX:=bZ.1;have cx:H.bu≠o.bu:=a5.Qc bv cD;have aA:=gl.lZ (a0 _ cG.2 cu.symm);have bH:=bZ.2;have ac:GS ([s.bu,aa.bu]++p.size::e) t ao H _:=a5.re j9.aP (Y:=[o.bu]) ⟨cX,λl b hn=>a0 l b (sp hn)⟩ bO (sp cx) λl b=>by
   simp only[eS,iA,bo]at b⊢;rcases b with h|h|h
   .exact bC (bC h)
   .rcases bH with q|q
    .exact bC (bR (bC (h.trans q)))
    .exact bR V
   .exact bC (bR (bR h))
  have bc:aa.bu≠s.bu:=by rcases bH with q|q<;>omega
  have I:WL U g.length True aj.length (P++dl.map (iX 14)++[x']++N.map (iX 15))/\dc (P++dl.map (iX 14)++[x']++N.map (iX 15))=dc (bA.take (k+1))/\sw (P++dl.map (iX 14)++[x']++N.map (iX 15))+2<=1100*sw (bA.take (k+1)):=by
   have c8:dn x'=1:=by unfold dn at bD⊢;rw[cA];exact bD
   have d1:dc (dl.map (iX 14))=0:=nF V _;have d2:dc (N.map (iX 15))=0:=nF V _;refine⟨((aO.fw (vD V λz B=>?_)).Dd ?_).fw (vD V λz B=>?_),?_,?_⟩
   .rw[Z,<-aL];exact ah.iY.aO z (bT.1 z B)
   .rw[fg,d1,Z,uh,<-aL];exact cF
   .have:=ah.iY.aO z (bV.1 z B);rw[fg,fg,d1,Z,nM,xf];omega
   .rw[fg,fg,fg,d1,d2,Z,nM,xf];omega
   .rw[gF,gF,gF,um,um,qu,zH];omega
  have a8:∀z∈f,0<=z/\z<((aj.length+dc (bA.take (k+1)):Nat):Int):=λz B=>by
   have:=bG z (bd.1 z (L.1 z B));omega
  have bQ:∀(j:bh),D ao j->bl H aa s ((k+1:Nat):Int) j/\μ H aa s ((k+1:Nat):Int) j<μ A o v k Q:=λj r=>
   aT V _ _ _ _ ⟨a2.J r,⟨_,(ac.re j9.aP (Y:=[]) (r.fz []) bO bO λl b=>bC (by simp only[eS,iA,bo]at b⊢;rcases b with h|h|h;exact bR (bC h);exact bC h;exact bR (bR h))),I.1,I.2.1,V⟩,⟨_,ab.ext r,eX⟩,⟨f,aA.ext r,oh L.2,a8⟩,bc⟩
  have dC:=ac.cJ;have cQ:∀(j:bh),D ao j->bK dO 228 [vi (15:Int),vi (o.len:Int)] j λrv C=>gS [Q.size,p.size,m0.size,m.size] j C/\∃aE:Int,∃aF:Int,∃aG:Int,∃aH:E,∃aI:E,rv=.agg #[vi aE,vi aF,vi aG,aH.v,aI.v]/\
   let M2:bh:=C.push (.cells (db [.i aE,.i aF,.i aG,.s aH,.s aI]) jP)
   mj M2 jP [.i (0:Int),.i (0:Int),.i (0:Int),.s E.nil,.s E.nil] 72 H (E.mk C.size 0 1 1) λbW J=>gS [Q.size,p.size,m0.size,m.size] M2 J/\bl bW aa s ((k+1:Nat):Int) J/\μ bW aa s ((k+1:Nat):Int) J<μ A o v k Q:=by
   intro j r
   have zx:=r.aQ
   have dt:=ab.cJ
   refine(lJ (c:=[H.bu,s.bu,aa.bu]++p.size::e) (an V eX) 15 (o.len:Int)).aP λrv C⟨pa,pk,q,X,h2,ai⟩=>?_
   subst q
   have d3:=ai.aQ
   have aP:=r.J ai
   refine⟨ai.eW (u V),_,_,_,_,_,O,?_⟩
   have cv:H.bu≠aa.bu:=ac.Qc ab cD
   have cw:H.bu≠s.bu:=ac.Qc aA cD
   refine GS.nE (x:=iX 15 (o.len:Int)) (ac.ext j9.aP aP) ((a2.J aP).fz []) X h2 (VE I.2.2 (jQ (P++dl.map (iX 14)++[x']++N.map (iX 15)))) λr' J y aM az aU=>⟨λl b=>?_,aT V _ _ _ _ ⟨aM.ext,⟨_,(y.re j9.aP (Y:=[]) (cY.fz []) bO bO λl b=>bC (by simp only[eS,iA,bo]at b⊢;rcases b with h|h|h;exact bR (bC h);exact bC h;exact bR (bR h))),I.1.Dd (It V ?_),?_,?_⟩,⟨_,(ab.ext aP).lZ (aU _ V cv.symm),eX⟩,⟨f,(aA.ext aP).lZ (aU _ V cw.symm),oh L.2,a8⟩,bc⟩⟩
   .have:=u (j:=C) V l b
    rw[aU l this (by simp at b;omega),(D.push C _).bG l this]
   .rw[I.2.1];omega
   .rw[fg,I.2.1];simp[nM,dn,iX,tr]
   .rw[gF,qu,zH]
    have h5:(iX 15 (o.len:Int)).w=2:=by rw[eM.pP];rfl
    have:=I.2.2;omega
  refine⟨λ_=>?_,λh0=>⟨λX=>by rw[h0]at X;simp at X,λ_=>bQ ao cY⟩⟩;refine(fH (aB (((ch.ext ay).lZ (a0 _ V V)))) _).jY.bL (D.cT ao) (u V) λc aS al _=>⟨_,O,λ_=>?_,λ_=>⟨λ_=>cQ aS al,λ_=>bQ aS al⟩⟩;intro dF;have cz:H.bu≠s.bu:=ac.Qc aA cD;have d0:=al.aQ;refine GI.nE (aA.ext al) ((a2.J al).fz []) (oh L.2) λdH dG b8 b7 bk bf=>⟨λl b=>?_,aT V _ _ _ _ ⟨b7.ext,⟨_,(ac.ext j9.aP al).re j9.aP (Y:=[s.bu]) ⟨bk.1,λl b hn=>bf l b (sp hn)⟩ bO (sp cz) λl b=>?_,I.1,I.2.1,V⟩,⟨_,(ab.ext al).lZ (bf _ ?_ bc),eX⟩,⟨_,b8,?_,?_⟩,?_⟩⟩
  .have:=u (j:=aS) V l b;rw[bf l this (by simp at b;omega),(D.push aS _).bG l this]
  .simp only[eS,iA,bo]at b⊢;rcases b with h|h|h
   .exact bC (bR (bC h))
   .rcases bk.2 with q|q
    .exact bC (bC (h.trans q))
    .exact bR V
   .exact bC (bR (bR h))
  .have:=ab.cJ;omega
  .have:=L.2;simp;omega
  .intro z B;rcases bU.1 B with B|B
   .exact a8 z B
   .simp at B;omega
  .have:=ab.cJ;rcases bk.2 with q|q<;>omega
 .have aa:k=bA.length:=V;subst aa;rw[fu]at*;have L:∀(j:bh)(H:E)(u:au),D t j->GS (o.bu::v.bu::p.size::e) t j H u->WL U g.length True aj.length u->dc u=dc bA->sw u<=1100*sw bA+2->
   let z:bh:=aV j p.size 0 [.s H,.i w]
   ∃s c,Value.agg #[H.v,vi w]=.agg #[s.v,vi c.bQ]/\iN (dA e z) s c.bA/\(WB U g.length True aj.length c/\c.w+1050<=1100*(Bk.mk bA w).w)/\D m z:=by
   intro j H u r y X h2 h3 z
   have ab:=jQ u
   have:=y.cJ
   refine⟨H,.mk u w,O,iN.le (dV bO λl b=>aX _ b) (y.re j9.aP (S':=p.size::e) (Y:=[]) nP bO bO (λl b=>bC (aX _ (aX _ b)))|>.cy j9.aP ae cD eX),⟨WB.of X (by rw[h2];exact a9.2),?_⟩,(F.J r).aV V _ _⟩
   rw[Bk.vt,Bk.vt];omega
  have mM:∀(j:bh),D Q j->bK dO 228 [vi (14:Int),vi w] j λrv C=>gS [p.size,m0.size,m.size] j C/\∃aE:Int,∃aF:Int,∃aG:Int,∃aH:E,∃aI:E,rv=.agg #[vi aE,vi aF,vi aG,aH.v,aI.v]/\
   let M2:bh:=C.push (.cells (db [.i aE,.i aF,.i aG,.s aH,.s aI]) jP)
   mj M2 jP [.i (0:Int),.i (0:Int),.i (0:Int),.s E.nil,.s E.nil] 72 A (E.mk C.size 0 1 1) λN J=>gS [p.size,m0.size,m.size] M2 J/\
    let z:bh:=aV J p.size 0 [.s N,.i w]
    ∃s c,Value.agg #[N.v,vi w]=.agg #[s.v,vi c.bQ]/\iN (dA e z) s c.bA/\(WB U g.length True aj.length c/\c.w+1050<=1100*(Bk.mk bA w).w)/\D m z:=by
   intro j r
   refine(lJ (c:=A.bu::o.bu::v.bu::p.size::e) (λl b=>?_) 14 w).aP λrv C⟨a,kk,q,X,h2,x1⟩=>?_
   .have:=r.aQ
    simp at b
    rcases b with h|h|h|h|h
    .omega
    .omega
    .omega
    .have:=x6.lt (K p.size bO);omega
    .have:=hS _ h;have:=v6.aQ;omega
   subst q
   have ai:=x6.J (r.J x1)
   refine⟨D.sM (x6.J r) ai K,_,_,_,_,_,O,?_⟩
   refine GS.nE (x:=iX 14 w) (gs.ext j9.aP (r.J x1)) (ai.fz []) X h2 (oh (jQ P)) λr' J y aM az aU=>⟨D.sM (ai.bZ _) aM.ext K,L J r' _ aM.ext y (aO.Dd (It V (by rw[Z];exact a9.2))) ?_ ?_⟩
   .rw[fg,Z];simp[nM,dn,iX,tr]
   .rw[gF];simp[qu,eM.pP,iX];omega
  let⟨az,hz⟩:=dU li w.toNat;refine⟨V,V,az,co.bt hz,λ_=>?_,λ_=>L Q A P x6 gs aO Z V⟩;refine(fH (bF.ext v6) w).jY.bL x6 K λc m7 I u7=>⟨_,O,λ_=>mM m7 I,λ_=>?_⟩;exact(fH (cq.ext I) w).jY.bL u7 K λc R x8 T=>⟨_,O,λ_=>mM R (I.J x8),λ_=>L R A P T ((gs.ext j9.aP I).ext j9.aP x8) aO Z V⟩
end
@[grind cases] structure ae3 (ds:af) (nr:Nat) (v lm:ab) (b:Bk):Prop where
 bI:∀o∈lm,0<=o/\o<(v.length:Int)
 lN:lm.length+5*b.w<=1000000
 vN:v.length+5*b.w<=1000000
 wb:WB ds nr False v.length b
def adu(a:af)(d:List j7)(b:Bk):Prop:=∀(S:ad)(m:bh),(∀c∈S,c<m.size)->∀(f r h t g:E)(v c:ab),iF m f r a d->be m h v->iN m t b.bA->be m g c->ae3 a d.length v c b->
 rD 246 [.agg #[f.v,r.v],h.v,.agg #[t.v,vi b.bQ],g.v] m S λe=>WB a d.length True v.length e/\e.w+20<=40*b.w+2*c.length
def Oy{h:ad}{m:bh}(hS:∀c∈h,c<m.size){ag ak aq aI F:E}{A:af}{W:List j7}{v:ab}{x:eM}(hn:iF m ag ak A W)(hv:be m aq v)(ha:be m aI x.aO)(hk:rO m F x.dv)
 (vN:v.length+5*x.w<=1000000)(aA:WS A W.length False v.length x)(ih:∀k∈x.dv,adu A W k):
 Ph 267 [.agg #[ag.v,ak.v],aq.v,tn x aI F] m h λx'=>WS A W.length True v.length x'/\x'.op=x.op/\x'.w<=1+x.aO.length+40*bw x.dv:=by
 apply Hi
 simp -zeta only[dR]
 intro w e l aP
 let⟨H,N,s0,s1,s2⟩:=uj (a:=w) (c:=e) (d:=l) O O O
 have aW:=px aP
 have gk:=GB.bF (e:=e.size::h) l
 have bi:=ha.aT;have a6:=hk.aT;have hw:=eM.pP x;have a9:=hv.aT
 have aK:∀c∈e.size::h,c<l.size:=by grind [dD,D.aQ]
 refine(kO (e:=[l.size]) (by simp[aP]) (hn.le (H.J aW).le).bT hn.dm x.cE).bL aW N λc cl m4 d aR x4 u4=>⟨_,O,?_⟩
 subst aR
 have bp:=d.aT
 refine gL (a6▸hk.kM) (λj s M=>Fz [l.size] m4 M/\(s.bu=l.size\/m4.size<=s.bu)/\∃p,GB (e.size::h) l M s p/\p.length=j/\(∀(aa:Nat)(k:Bk),p[aa]? =some k->WB A W.length True (v.length+FY A x.op x.cE aa) k)/\bw p<=40*bw (x.dv.take j)) ⟨nP,bC O,[],gk.ext vw.aP x4,O,bO,bO⟩ ?_
 rintro j s m5 aH μ hj ⟨f5,a7,p,u,bq,a_,aL⟩ bc
 have Q:=abF u4 f5 bY
 have hy:=u.cJ
 refine dit (λB=>?_) λB=>?_
 .intro m6
  have T:=px m6
  have u6:=Q.J T
  let⟨k,Z⟩:=dU x.dv j
  have bm:=Ba Z
  have bo:=yL Z
  have bj:=VW hn.dm x.op x.cE j
  have bl:=wZ x.dv
  refine⟨λaJ M=>D m5 M/\∃t,be M aJ t/\t.length=FY A x.op x.cE j,⟨λh8=>?_,λh8=>?_⟩,?_⟩
  .simp only[bP]at h8
   have g:=(aA.iY.lY h8).1
   let⟨y,a⟩:=dU (cX A x.cE) j
   refine⟨V,V,y,(iO.1 ((d.le ((f5.cg T).fj bO)).bt a)).2,?_⟩
   refine(fV ((hn.le (H.J u6).le).bT.le Ev) hn.dm y).bL u6 N λaJ t m7 hf aR f i=>⟨_,O,T.J f,t,hf.le fL,?_⟩
   grind [Pu]
  .simp only[ba]at h8
   exact⟨T,[],pX,(Pv h8).symm⟩
  rintro fs m8 ⟨I,t,hf,aN⟩
  have e8:(aq.len:Int)=((v.length:Nat):Int):=by rw[a9]
  rw[e8]
  refine(vM bO (hf.le Ev) v.length V).bL (Q.J I) N λmi ml y gm qm J R=>⟨_,O,?_⟩
  let⟨aF,hs,e0,e1⟩:=hk.bt Z
  have v9:=H.J R
  refine⟨V,V,_,v9.aS e0,_,v9.aS e1,?_⟩
  have g9:=u.ext vw.aP (I.J J)
  have aO:∀{M:bh},D y M->be M mi ml:=λB=>((gm.cy bO (oh qm.2)).le fL).ext B
  have E5:∀{M f:bh},D l M->D l f->∀{aQ:Prop},aQ->aS f F.bu (F.off+Int.toNat (j:Int)*2)=aS M F.bu (F.off+Int.toNat (j:Int)*2)/\aS f F.bu (F.off+Int.toNat (j:Int)*2+1)=aS M F.bu (F.off+Int.toNat (j:Int)*2+1)/\
   aS f w.size 4=aS M w.size 4/\aS f m.size 0=aS M m.size 0/\aS f m.size 1=aS M m.size 1/\aQ:=λ{M f} B h' _ hp=>by
   have av:∀k,k<l.size->∀P,aS f k P=aS M k P:=by grind [bE,D.bG]
   exact⟨((H.J h').aS e0).trans ((H.J B).aS e0).symm,((H.J h').aS e1).trans ((H.J B).aS e1).symm,av _ V _,av _ V _,av _ V _,hp⟩
  have az:∀{M:bh},D m5 M->∀c∈s.bu::e.size::h,c<M.size:=λB c d=>by
   grind [D.aQ]
  have L:∀{M:bh}{a:Nat},D m5 M->a<M.size->∀c∈[a,e.size,w.size,m.size],c<M.size:=λB Z c d=>by
   grind [D.J,D.lt]
  have tail:∀(M:bh)(a:Nat)(G:E)(g:Bk),GB (a::e.size::h) l M s p->D m5 M->D y M->y.size<=a->a<M.size->iN (dA (a::s.bu::e.size::h) M) G g.bA->WB A W.length True (v.length+t.length) g/\g.w+20<=40*k.w+2*ml.length->
   let i:=aV M a 0 [.s G,.i g.bQ]
   bK dO 264 [vi 14,mi.v] i λrv n=>gS [a,e.size,w.size,m.size] i n/\∃ac:E,rv=ac.v/\aS n a 1=aS i a 1/\aS n a 0=aS i a 0/\
    mj n jP [.i 0,.i 0,.i 0,.s E.nil,.s E.nil] 72 ac G λap z=>gS [a,e.size,w.size,m.size] n z/\aS z a 1=aS n a 1/\
     let X:=z.push (.cells (db [.s ap,.i g.bQ]) fm)
     mj X fm [.s E.nil,.i 0] 32 s (E.mk z.size 0 1 1) λae K=>gS [a,e.size,w.size,m.size] X K/\aH ae (eI ((j:Int)+1)) K/\μ ae (eI ((j:Int)+1)) K<μ s j m5:=by
   intro M a G g u C bb a5 bk ai hq i
   have z1:i.size=M.size:=bD _ _ _ _
   have z9:=(I.J J).aQ
   have aY:D y i:=bb.aV a5 _ _
   have U:=(I.J J).J aY
   have bs:s.bu≠a:=V
   have g1:GB (e.size::h) l i s p:=u.re vw.aP (Y:=[a]) ((Fz.cT [a] M).aV (bC bO) _ _) bO cB λc d=>bC (aX _ d)
   have a8:iN (dA (s.bu::e.size::h) i) G g.bA:=ai.le (dV bO λc d=>aX _ d)
   have bn:=Bk.pP g;have aL:=jQ g.bA
   refine(iR (az U) 14 (aO aY) V).bL (D.cT i) (L U V) λac _ n ay ah al _=>⟨_,O,bE (al.bG _ V) _,bE (al.bG _ V) _,?_⟩
   subst ah
   have z2:=al.aQ
   refine GS.lY ay (al.fz []) (a8.le (xg al ay.cJ.1)) cB λap z a1 a0 bx aT=>?_
   have am:=a0.ext
   have z3:=am.aQ
   have bt:=ay.cJ
   refine⟨λc d=>aT c (oh (L U V c d)) (oh (L U V c d)),bE (aT _ V V) _,?_⟩
   intro X
   have a3:=a1.cy j9.aP (az U) cD cB
   refine GB.nE (c:=.mk (ml.map (iX 14)++g.bA) g.bQ) (g1.ext vw.aP am) ((((Q.J U).J am)).fz []) a3 V λae K a2 bg bf bd=>⟨λc d=>?_,bc V _ _ ⟨(f5.cg (U.J am)).Wn a7 bf.1 bd,?_,_,a2,eX,λaa b2 q=>?_,?_⟩⟩
   .have:=L (U.J am) V c d
    grind [D.push,D.bG]
   .grind [Fz.cg,D.J,Fz.aQ]
   .rcases dJ aa p.length with o|o
    .grind [List.getElem?_append_left]
    .rw[dP o]at q
     have:aa -p.length=0:=by have:=br q;simp at this;omega
     rw[this]at q;simp at q;subst q
     have:aa=j:=V
     subst this
     rw[<-aN]
     refine WB.of ((vD V λP ho=>?_).fw ?_) ?_
     .grind
     .rw[nF V];exact hq.1.cw.1
     .rw[fg,nF V,eV];exact hq.1.cw.2
   .grind [sU,yK,DW,Bk.vt,gF,um]
  have aM:∀(M:bh)(ax:ad)(aw:aj),D y M->(∀c∈ax,c<M.size)->(∀s f,be f s (v++t)->D M f->aw s.v f)->bK dO 215 [aq.v,fs.v] M λv m'=>gS ax M m'/\aw v m':=λM ax aw C L hK=>
   (iL bO ((hv.ext (v9.J C)).le Ev) ((hf.ext (J.J C)).le Ev) V).bL (D.cT M) L λs ll f u ah x _=>hK s f (by subst ah;exact(u.cy bO cB).le fL) x
  have bu:∀(M:bh)(S':ad)(o:E),(∀c∈S',c<M.size)->D y M->be M o (v++t)->rD 246 [.agg #[ag.v,ak.v],o.v,.agg #[aF.v,vi k.bQ],mi.v] M S' λg=>WB A W.length True (v.length+t.length) g/\g.w+20<=40*k.w+2*ml.length:=by
   intro M S' o a4 C q;have hm:=v9.J C;have:=ih k (aZ Z) S' M a4 ag ak o aF mi (v++t) ml (hn.le hm.le) q (hs.le hm.le) (aO C) ⟨λP ho=>?_,V,eX,by simp;rw[aN];exact aA.dv j k Z⟩
   .simpa using this
   .grind
  have kG:∀(M:bh)(a:Nat)(o:E),GB (a::e.size::h) l M s p->D y M->y.size<=a->a<M.size->be M o (v++t)->
   bK dO 246 [.agg #[ag.v,ak.v],o.v,.agg #[aF.v,vi k.bQ],mi.v] M λrv f=>gS [a,e.size,w.size,m.size] M f/\∃aD:E,∃aE:Int,rv=.agg #[aD.v,vi aE]/\
    let i:=aV f a 0 [.s aD,.i aE]
    bK dO 264 [vi 14,mi.v] i λrv n=>gS [a,e.size,w.size,m.size] i n/\∃ac:E,rv=ac.v/\aS n a 1=aS i a 1/\aS n a 0=aS i a 0/\
     mj n jP [.i 0,.i 0,.i 0,.s E.nil,.s E.nil] 72 ac aD λap z=>gS [a,e.size,w.size,m.size] n z/\aS z a 1=aS n a 1/\
      let X:=z.push (.cells (db [.s ap,.i aE]) fm)
      mj X fm [.s E.nil,.i 0] 32 s (E.mk z.size 0 1 1) λae K=>gS [a,e.size,w.size,m.size] X K/\aH ae (eI ((j:Int)+1)) K/\μ ae (eI ((j:Int)+1)) K<μ s j m5:=by
   intro M a o u C h1 h2 h3
   have x5:=(I.J J).J C
   have z9:=(I.J J).aQ
   refine(bu M (a::s.bu::e.size::h) o (λc d=>?_) C h3).bL (D.cT M) (L x5 h2) λG g f ai hq an _=>⟨_,_,O,tail f a G g (u.ext vw.aP an) (x5.J an) (C.J an) h1 (an.lt h2) ai hq⟩
   grind
  have aC:∀(M:bh)(P:Obj),GB (e.size::h) l M s p->GB (M.size::e.size::h) l (M.push P) s p:=λM P u=>
   u.re vw.aP ((D.push M P).fz []) bO bO λc d=>by
    grind
  refine⟨aM y _ _ cY (λc d=>R.lt (N c d)) λo aB q r=>⟨_,O,E5 R (R.J r) ⟨?_,?_⟩⟩,?_⟩
  .have ao:=R.J r
   have AU:=r.aQ
   refine(bu aB (s.bu::e.size::h) o (az ((I.J J).J r)) r q).bL ao N λG g au ai hq ar aU=>⟨_,_,O,?_⟩
   intro aG
   have bv:=ar.aQ
   exact E5 aU (aU.bZ _) (tail aG au.size G g (aC au _ ((g9.ext vw.aP r).ext vw.aP ar)) ((((I.J J).J r).J ar).bZ _) ((r.J ar).bZ _) V (by simp[aG]) (ai.le (xg (D.push au _) bY)) hq)
  .intro ar
   have ao:=R.J r
   have AU:=r.aQ
   exact E5 ao (ao.bZ _) (kG ar aB.size o (aC aB _ (g9.ext vw.aP r)) (r.bZ _) V (by simp[ar]) (q.ext (D.push _ _)))
  .intro ao
   have ar:=px ao
   have aG:=R.J ar
   refine E5 R aG (aM ao _ _ ar (L ((I.J J).J ar) (by simp[ao])) λo aU q au=>⟨_,O,E5 aG (aG.J au) ?_⟩)
   exact kG aU y.size o ((aC y _ g9).ext vw.aP au) (ar.J au) bY (au.lt (by simp[ao])) q
 .have f:p.length=x.dv.length:=V
  rw[eQ V]at aL
  refine(dB (e.size::h) (ha.ext (H.J Q)) V).bL Q N λg i m6 a ah T u6=>⟨_,O,bE (T.bG _ (Q.lt (N _ bO))) _,bE (T.bG _ (Q.lt (N _ bO))) _,?_⟩
  subst ah
  intro m7
  refine⟨g,s,⟨x.op,x.cE,0,x.aO,p⟩,O,(a.cy (λc d=>cr (aK c d) Q.aQ) V).le (dV bO λc d=>aX _ d),rO.le (dV bO λc d=>aX _ d) ((u.ext vw.aP T).cy vw.aP aK cD cB),⟨aA.UM (λB=>B.elim) ⟨V,V⟩ f a_,O,?_⟩,(H.J u6).aV V _ _⟩
  grind [eM.pP]
@[grind cases] structure LB (ds:af) (nr:Nat) (S:ad) (m2 M:bh) (v lm:ab) (bA:au) (k:Nat) (st inn ow:E):Prop where
 x:D m2 M
 hs:∃l,GS (inn.bu::ow.bu::S) m2 M st l/\WL ds nr True v.length l/\dc l=dc (bA.take k)/\sw l+2*k<=40*sw (bA.take k)
 hi:∃l,GI S m2 M inn l/\l.length=v.length+dc (bA.take k)
 ho:∃l,GI S m2 M ow l/\l.length<=lm.length+k/\∀o∈l,0<=o/\o<((v.length+dc (bA.take k):Nat):Int)
 ne:inn.bu≠ow.bu
def MH{B:af}{C:List j7}:∀i:Bk,adu B C i:=by
 refine Bk.ind ?_;intro bA u ih f z hS aO bv cd cc b_ F lm hn hv hs ba hp;have bl:=hp.wb.cw;simp only[Bk.mV,Bk.lV]at*;have lN:=hp.lN;have vN:=hp.vN;rw[(Bk.vt bA u)]at lN vN;apply Ff;simp -zeta only[dR];intro h b g aE;let⟨A,hl,s0,s1,s2⟩:=uj (a:=h) (c:=b) (d:=g) O O O;obtain⟨ar,s3⟩:=pu aE;have ay:∀aa,GS aa g aE (.mk g.size 0 0 0) []:=by grind [GS.bF]
 have bj:=hs.aT;have bk:=FL bA;have bT:=jQ bA;refine(dB f (hv.ext (A.J ar)) V).bL ar hl λd _ m4 p s x4 u4=>⟨_,O,?_⟩;subst s;refine(dB f (ba.ext (A.J u4)) V).bL u4 hl λe _ m5 y s x5 u5=>⟨_,O,?_⟩;subst s;have aC:=p.cJ;have bp:=y.cJ;refine Xt (n:=bA.length) (bj▸hs.kM) (λk l d e M=>LB B C.length (b.size::f) g M F lm bA k l d e) ⟨u5,⟨[],((ay _).ext j9.aP x4).ext j9.aP x5,WL.gN,O,bO⟩,⟨F,((p.ext x5).cV (λ_ q=>q) ar.aQ).jY,bO⟩,⟨lm,(y.cV (λ_ q=>q) u4.aQ).jY,V,sp hp.bI⟩,V⟩ ?_;clear p y aC bp ay;rintro k l d e r aL μ hk ⟨Z,⟨I,gs,aj,ae,bW⟩,⟨Q,p,ah⟩,⟨lo,y,bF,bN⟩,bc⟩ bt
 have U:=A.J Z;have bJ:=p.aT cD;have bG:=xe (bA.take k);have bM:=RO k bA;have ai:∀c∈b.size::f,c<g.size:=by grind [dD,D.aQ]
 have b6:=gs.cJ;have aC:=p.cJ;have b5:=y.cJ;have bV:=jQ (bA.take k);have bL:k<=sw (bA.take k):=by grind [List.length_take]
 have bP:=jQ I;have z6:=Z.aQ;have ag:∀{M:bh},GI (b.size::f) g M d Q->be M d Q:=λm=>(m.cy ai V).le fL;have az:∀{M:bh},GI (b.size::f) g M e lo->be M e lo:=λm=>(m.cy ai V).le fL;have G:∀{M:bh}{aa:ad},r.size<=M.size->(∀c∈aa,c<M.size)->∀c∈aa++b.size::f,c<M.size:=λq hb c a=>by
  grind
 have a6:∀{M:bh},D r M->∀c∈[b.size,h.size,z.size],c<M.size:=by grind [D.J,D.lt]
 have bd:l.bu≠d.bu:=by grind [Gr.Qc]
 have aB:l.bu≠e.bu:=by grind [Gr.Qc]
 refine dit (λq=>?_) λq=>?_
 .let⟨W,t⟩:=dU bA k;let⟨aN,kk,ha,aA,g0,g1,g2,g3,g4⟩:=hs.bt t;refine⟨V,V,_,U.aS g0,_,U.aS g1,_,U.aS g2,_,U.aS g3,_,U.aS g4,?_⟩;intro m7 T;have x8:D r T:=by grind [D.push,D.aV]
  have s8:T.size=r.size+1:=by grind [bD]
  have u8:=Z.J x8;have w:∀{M:bh},T.size<=M.size->∀i∈[r.size,b.size,h.size,z.size],i<M.size:=λq i hb=>by
   grind [D.lt]
  have b2:=ua t;have b0:=uK t;have b1:=eM.pP W;have P:WS B C.length False Q.length W:=by rw[ah];exact bl.1 k W t
  have bH:=dn1 P;have bX:=bk (k+1);have N:∀{M:bh},D g M->At M aO bv aN kk B C W:=λq=>⟨hn.le (A.J q).le,ha.ext (A.J q),P.iY.jE⟩;refine(sA (N u8).Wu (ag (p.ext x8)) (N u8).aO (aA.le (A.J u8).le) V λi _=>rl i).bL (D.cT T) (w bY) λty m9 x9 _=>⟨_,O,?_⟩;have X9:=u8.J x9;have z9:=x9.aQ;refine(Dh (b:=[]) bO (N X9) (ag ((p.ext x8).ext x9)) P.iY.aO V).bL (D.cT m9) (w V) λdu L bq a1 aF ap _=>⟨_,O,?_⟩;have bz:=aF.2;have AU:=ap.aQ;refine(iR (c:=[l.bu,d.bu,e.bu]++b.size::f) (G V eX) 14 ((a1.cy bO V).le fL) V).bL (D.cT bq) (w V) λcb _ ak aU s aq _=>⟨_,O,?_⟩;subst s;have ce:=aq.aQ;have av:D r ak:=(((x8.J x9).J ap).J aq);refine GS.lY (gs.ext j9.aP av) (((X9.J ap).J aq).fz []) (aU.cy j9.aP (G (aa:=[l.bu,d.bu,e.bu]) V eX) cD cB) cB λan aD aw aP aI al=>⟨λc a=>al c (w V c a) ?_,?_⟩
  .simp at a;omega
  have ac:D g aD:=aP.ext;have ax:=(p.ext av).lZ (al _ V bd.symm);have a3:=(y.ext av).lZ (al _ V aB.symm);have bR:an.bu=l.bu\/ak.size<=an.bu:=aI.2;have b3:=aw.cJ;have cf:=aI.1;refine(Oy (h:=[an.bu,d.bu,e.bu]++b.size::f) (G V eX) (N ac).Wu (ag ax) (N ac).aO (aA.le (A.J ac).le) V P (ih W (aZ t))).bL (D.cT aD) (w V) λca ck K b7 a8 a9 bu X _=>⟨_,_,_,_,_,O,?_⟩;let⟨bm,bQ,bZ⟩:=bu;have cg:=X.aQ;refine GS.nE (x:=K) (aw.ext j9.aP X) ((ac.J X).fz []) a8 a9 eX λv br aW aQ aJ aG=>⟨λc a=>?_,?_⟩
  .grind [D.push,D.bG]
  have aM:D g br:=aQ.ext;have ch:=aJ.1;have a2:=(ax.ext X).lZ (aG _ V V);have a4:=(a3.ext X).lZ (aG _ V V);have bS:v.bu=l.bu\/ak.size<=v.bu:=by have:=aJ.2;omega
  have B1:WL B C.length True F.length (I++L.map (iX 14)++[K])/\dc (I++L.map (iX 14)++[K])=dc (bA.take (k+1))/\sw (I++L.map (iX 14)++[K])+2*(k+1)<=40*sw (bA.take (k+1)):=by
   have bI:dn K=1:=by grind [dn]
   have d1:dc (L.map (iX 14))=0:=by grind [nF]
   refine⟨((aj.fw (vD V λo j=>?_)).Dd ?_),?_,?_⟩
   .rw[ae,<-ah];exact P.iY.aO o (aF.1 o j)
   .rw[fg,d1,ae,uh,<-ah];exact bm
   .grind [fg,nM,xf]
   .grind [gF,um,qu,zH]
  have a_:∀o∈lo,0<=o/\o<((F.length+dc (bA.take (k+1)):Nat):Int):=λo j=>by
   grind
  have a5:∀(M:bh)(J:E)(R:ab),D g M->T.size<=M.size->GS (d.bu::J.bu::b.size::f) g M v (I++L.map (iX 14)++[K])->GI (b.size::f) g M d Q->GI (b.size::f) g M J R->d.bu≠J.bu->R.length<=lm.length+(k+1)->(∀o∈R,0<=o/\o<((F.length+dc (bA.take (k+1)):Nat):Int))->
   mj (M.push (.cells (db [.i ty]) bB)) bB [.i (0:Int)] 8 d (E.mk M.size 0 1 1) λao M'=>gS [r.size,b.size,h.size,z.size] (M.push (.cells (db [.i ty]) bB)) M'/\aL v ao J (eI ((k:Int)+(1:Int))) M'/\μ v ao J (eI ((k:Int)+(1:Int))) M'<μ l d e k r:=by
   intro M J R t H m gI gO bb a7 bi
   have b4:=gI.cJ;have bn:=gO.cJ
   have bg:v.bu≠d.bu:=by grind [Gr.Qc]
   refine GI.nE gI (t.fz []) V λao M' a0 aT bx am=>⟨λc a=>?_,bt V _ _ _ _ ⟨aT.ext,⟨_,m.re j9.aP (Y:=[d.bu]) ⟨bx.1,λc a hn=>am c a cB⟩ bO (sp bg) (λc a=>?_),B1.1,B1.2.1,B1.2.2⟩,⟨_,a0,eX⟩,⟨R,gO.lZ (am _ bn.2 bb.symm),a7,bi⟩,?_⟩⟩
   .have:=w H c a
    rw[am c this (by simp at a;omega),(D.push M _).bG c this]
   .grind
   .grind
  refine⟨λ_=>?_,λ_=>?_⟩
  .intro b8;have bf:v.bu≠e.bu:=by grind [Gr.Qc]
   refine GI.nE a4 (aM.fz []) V λbw bs aY aR aK aH=>⟨λc a=>?_,?_⟩
   .grind [D.push,D.bG]
   intro b9;have ci:=aK.1;refine a5 bs bw _ aR.ext V (aW.re j9.aP (Y:=[e.bu]) ⟨aK.1,λc a hn=>aH c a cB⟩ bO (sp bf) λc a=>?_) (a2.lZ (aH _ V bc)) aY ?_ eX ?_
   .simp only[bo]at a⊢;grind
   .grind
   .intro o j;rcases bU.1 j with j|j
    .exact a_ o j
    .simp at j;omega
  grind
 .have am:k=bA.length:=V;subst am;rw[fu]at*;have ac:∀(M:bh)(L:E)(J:au),D g M->r.size<=M.size->GS (d.bu::e.bu::b.size::f) g M L J->be M e lo->WL B C.length True F.length J->dc J=dc bA->sw J+2*bA.length<=40*sw bA+2->
   bK dO 264 [vi (15:Int),e.v] M λrv w=>gS [b.size,h.size,z.size] M w/\∃W:E,rv=W.v/\aS w h.size 1=aS M h.size 1/\
    mj w jP [.i (0:Int),.i (0:Int),.i (0:Int),.s E.nil,.s E.nil] 72 L W λR N=>gS [b.size,h.size,z.size] w N/\aS N h.size 1=aS w h.size 1/\
     let K:bh:=aV N b.size 0 [.s R,.i u]
     ∃ak i,Value.agg #[R.v,vi u]=.agg #[ak.v,vi i.bQ]/\iN (dA f K) ak i.bA/\(WB B C.length True F.length i/\i.w+20<=40*(Bk.mk bA u).w+2*lm.length)/\D z K:=by
   intro M L J t H m j aq av ax
   have hy:=m.cJ
   have aw:=jQ J
   have ap:h.size<M.size:=by grind [D.lt]
   refine(iR (c:=[L.bu,d.bu,e.bu]++b.size::f) (G H cB) 15 j V).bL t hl λW _ w al s v u1=>⟨_,O,bE (v.bG _ ap) _,?_⟩
   subst s
   have z1:=v.aQ
   have an:∀c∈[b.size,h.size,z.size],c<w.size:=by grind [D.lt]
   have ao:∀c∈[b.size,h.size,z.size],c<g.size:=hl
   refine GS.lY (m.ext j9.aP v) (u1.fz []) (al.cy j9.aP (G (aa:=[L.bu,d.bu,e.bu]) H eX) cD cB) cB λR N g2 T X P=>⟨λc a=>P c (an c a) (oh (ao c a)),bE (P _ V V) _,?_⟩
   intro K
   refine⟨R,.mk _ u,O,iN.le (dV bO λc a=>aX _ a) ((g2.re j9.aP (S':=b.size::f) (Y:=[]) nP bO bO (λc a=>bC (aX _ (aX _ a)))).cy j9.aP ai cD eX),⟨WB.of (aq.fw (vD V λo j=>?_)) ?_,?_⟩,(A.J T.ext).aV V _ _⟩
   .grind
   .grind [fg,nF]
   .grind [Bk.vt,gF,um]
  let⟨X,H⟩:=dU Q u.toNat;refine⟨V,V,X,(ag p).bt H,λ_=>?_,λ_=>ac r l I Z bY gs (az y) aj ae V⟩;refine(lJ (c:=[l.bu,d.bu,e.bu]++b.size::f) (G bY cB) 14 u).aP λrv w⟨pa,pk,s,h1,h2,v⟩=>?_;subst s;refine⟨v.eW (a6 cY),_,_,_,_,_,O,?_⟩;have z1:=v.aQ;refine GS.nE (x:=iX 14 u) (gs.ext j9.aP v) ((Z.J v).fz []) h1 h2 V λr' K m T X P=>⟨λc a=>?_,ac K r' _ T.ext V m (az ((y.ext v).lZ (P _ V aB.symm))) (aj.Dd (It V cB)) ?_ ?_⟩
  .grind [D.push,D.bG]
  .rw[fg,ae];simp[nM,dn,iX,tr]
  .rw[gF,qu,zH];have h5:(iX 14 u).w=2:=by rw[eM.pP];rfl
   omega
section
variable{b:ad}{f d j:bh}{p t l:E}{q:j7}{s:Int}{g h k:Nat}
def qD.aP:sD 1 qD:=⟨λh=>qD.le h _ _,λ⟨_,h,_⟩=>by rw[h];rfl⟩
theorem k8.aP:sD 3 k8:=⟨λh=>k8.le h _ _,λ⟨_,h,_⟩=>by rw[h];rfl⟩
def jJ(v:∀c∈b,c<f.size){bT:E}{i:af}(hd:dE f bT i)(w:eT i):bK dO 188 [bT.v] f λU B=>∃s,U=s.v/\dE (dA b B) s i/\D f B:=by
 apply EQ;intro N;have ac:=hd.aT;have ab:=w.aT;have u:Gr b f N mZ 3 k8 (.mk f.size 0 0 0) []:=Gr.bF b bY;refine gL (n:=i.length) V (λq s M=>D f M/\Gr b f M mZ 3 k8 s (i.take q)) ⟨D.push _ _,u⟩ ?_;rintro q s d Y μ hk ⟨r,m⟩ S
 have hy:=m.cJ;refine dit (λl=>?_) λl=>?_
 .let⟨g,o⟩:=dU i q;let⟨z,A,u,g1,g2⟩:=hd.bt o;have ad:=A.aT;have aa:=nK w o;intro P;have k:Gr (s.bu::b) d P ta 1 qD (.mk d.size 0 0 0) []:=Gr.bF _ bY;refine gL (n:=g.eB.length) V (λy c M=>D d M/\Gr (s.bu::b) d M ta 1 qD c (g.eB.take y)) ⟨D.push _ _,k⟩ ?_;rintro y c C Z μ2 hj ⟨t,k⟩ R;have e:=r.J t;refine⟨V,V,z,e.aS g2,dit (λL=>?_) λL=>?_⟩
  .let⟨G,x⟩:=dU g.eB y;let⟨W,M,J⟩:=A.bt x;have ae:G.length<=3:=(((w.eR q g o).ju V).2.2.2 G (aZ x)).1;refine⟨V,V,z,e.aS g2,V,V,W,e.aS J,?_⟩;have ag:=k.cJ;refine(dB (c.bu::s.bu::b) (M.ext e) V).cg λX _ j K h F=>⟨_,O,?_⟩;subst h;intro Q;refine Gr.nE (h:=[.s .nil]) qD.aP cD (k.ext qD.aP F) ((t.J F).fz []) ⟨X,O,K.cy (λh p=>?_) V⟩ eX λT m7 I H _ _=>R V _ _ ⟨H.ext,by rw[bX x];exact I⟩;have:=t.aQ;simp only[bo]at p;rcases p with l|l|l
   .omega
   .omega
   .have:=v h l;have:=r.aQ;omega
  .refine⟨V,V,_,e.aS u,V,V,_,e.aS g1,?_⟩;intro j;rw[eQ V]at k;have F:fW (dA (s.bu::b) C) 1 (qD (dA (s.bu::b) C)) c g.eB:=k.cy qD.aP (λh p=>by
    rcases bo.1 p with x|x
    .omega
    .have:=v h x;have:=r.aQ;omega) cD V
   refine Gr.nE (h:=[.i 0,.i 0,.s .nil]) (m:=g) k8.aP cD (m.ext k8.aP t) (e.fz []) ⟨c,O,F⟩ eX λT Q x p _ _=>S V _ _ ⟨p.ext,by rw[bX o];exact x⟩
 .rw[eQ V]at m;exact⟨s,O,m.cy k8.aP v cD V,r⟩
def Cy(I:∀g∈b,g<f.size){B:E}{b1:Int}(J:be f p q.aY)(K:be f t q.df)(u:q.aY.length<=100/\q.df.length<=100):
 bK dO 230 [.agg #[p.v,t.v,vi q.bQ,B.v,vi s],.agg #[l.v,vi b1]] f λP x=>∃k m,P=.agg #[k.v,m.v,vi q.bQ,l.v,vi b1]/\be (dA b x) k q.aY/\be (dA b x) m q.df/\D f x:=by
 apply HD
 simp -zeta only[dR]
 intro L i d
 let⟨r,w,S,T,U⟩:=uj (a:=L) (c:=i) (d:=d) O O O
 clear_value d
 have z:∀g∈i.size::b,g<d.size:=dD I r.aQ (w _ bO)
 have c:∀{M y:bh},D d M->D d y->∀e,e<d.size->∀o,aS y e o=aS M e o:=λG H e u o=>bE (by rw[H.bG e u,G.bG e u]) o
 refine(dB (i.size::b) (J.ext r) V).bL (D.cT d) w λk _ R C h a _=>⟨_,O,c cY a _ V _,c cY a _ V _,c cY a _ V _,c cY a _ V _,?_⟩
 subst h
 refine(dB (i.size::b) (K.ext (r.J a)) V).bL a w λm _ N F h Q n=>⟨_,O,c a n _ V _,c a n _ V _,c a n _ V _,?_⟩
 subst h
 intro j
 have A:Le (dA (i.size::b) N) (dA b j):=dV bO λg v=>aX _ v
 exact⟨k,m,O,((C.cy z V).le Q.fj).le A,(F.cy (λg v=>a.lt (z g v)) V).le A,(r.J n).aV V _ _⟩
abbrev GR(b:ad)(a f:bh)(s:E)(l:List j7):Prop:=Gr b a f mO 5 ly s l
def Ak{L:ad}{m M:bh}{v f:E}{x:List j7}{r:Bk}{J:E}{K:bh->Prop}(U:∀c∈b,c<m.size)(w:∀c∈L,c<M.size/\c≠g/\c≠f.bu)(hx:D m M)(y:GR (g::b) m M f x)
 (z:dF M g qU [.s v,.s f])(Y:m.size<=g)(Z:be M p q.aY)(ht:be M t q.df)(aa:iN (dA (f.bu::g::b) M) l r.bA)(W:q.aY.length<=100/\q.df.length<=100)(hl:x.length<=100)
 (T:∀u d,GR (g::b) m d u (x++[⟨q.aY,q.df,q.bQ,r⟩])->dF d g qU [.s v,.s u]->D m d->K d):
 bK dO 230 [.agg #[p.v,t.v,vi q.bQ,J.v,vi s],.agg #[l.v,vi r.bQ]] M λH k=>gS L M k/\∃A:E,∃B:E,∃C:Int,∃F:E,∃G:Int,H=.agg #[A.v,B.v,vi C,F.v,vi G]/\aS k g 1=aS M g 1/\
  let n:bh:=k.push (.cells (db [.s A,.s B,.i C,.s F,.i G]) mO)
  aS n g 1=aS k g 1/\
  mj n mO [.s E.nil,.s E.nil,.i (0:Int),.s E.nil,.i (0:Int)] 88 f (E.mk k.size 0 1 1) λab o=>gS L n o/\jb o g 1 1/\
   let d:bh:=aV o g 1 [.s ab]
   gS L o d/\K d:=by
 have hy:=y.cJ
 have X:=z.lt
 refine(Cy (b:=f.bu::g::b) (λc e=>?_) Z ht W).aP λH k⟨p',t',h,Q,R,j⟩=>?_
 .simp only[bo]at e
  rcases e with h|h|h
  .omega
  .omega
  .have:=U c h;omega
 subst h
 refine⟨j.eW λc e=>(w c e).1,_,_,_,_,_,O,bE (j.bG _ X) _,?_⟩
 intro n
 refine Gr.bV (h:=[.s .nil,.s .nil,.i 0,.s .nil,.i 0]) (j:=1) (o:=[.s v,.s f]) (v:=⟨q.aY,q.df,q.bQ,r⟩) ly.aP cD (y.ext ly.aP j) ((hx.J j).fz []) ⟨p',t',l,O,Q,R,aa.le j.fj⟩ V (z.ext j) bO cD ⟨Y,bO⟩ (λc e=>⟨j.lt (w c e).1,(w c e).2⟩) λu m' P I N z' q'=>T u m' P I N.ext
def om{β:Type}{a c:bh}{g:E}{i:Nat}{f:bh->ae->β->Prop}(s:sD i f)(p:a=d.push (.cells (db []) h))(q:c=a.push (.cells (db [.s E.nil,.s E.nil]) k))(l:j=aV c a.size 0 [.s g,.s (E.mk d.size 0 0 0)]):
 D d j/\dF j a.size k [.s g,.s (E.mk d.size 0 0 0)]/\Gr b d j h i f (.mk d.size 0 0 0) []/\a.size=d.size+1/\j.size=d.size+2:=by
 subst p
 have n:D (d.push (.cells (db []) h)) j:=by grind [D.push,D.aV]
 refine⟨(D.push d _).J n,?_,(Gr.bF b bY (b:=h) (c:=i) (R:=f)).ext s n,bO,by subst q l;simp[bD]⟩
 have t:dF c (d.push (.cells (db []) h)).size k [.s E.nil,.s E.nil]:=by grind [dF.push]
 rw[l]
 exact dF.aV (m:=c) (o:=0) (r:=[.s g,.s (.mk d.size 0 0 0)]) t
def nV{β:Type}{m b1 q:Nat}{o:bh->ae->β->Prop}{e z:E}{F:af}(G:sD m o)(hz:0<m)(X:k≠h)(hS:∀v∈b,v<f.size)(Q:f.size<=b1/\b1<d.size)(Y:D f d)(ac:g=d.size+1)
 (S:dE (dA (b1::b) d) e F)(hn:z.len=q)(ad:q<=1000)(Z:D d j)(N:dF j g k [.s e,.s (E.mk d.size 0 0 0)])(U:Gr (g::b1::b) d j h m o (.mk d.size 0 0 0) [])(w:Nat->β->Prop)
 {A:(Int->bh->Prop)->(Int->bh->Nat)->Int->bh->Prop}{R:E->E->bh->Prop}
 (P:∀C H l p,dE (dA b p) C F->fW (dA b p) m (o (dA b p)) H l->l.length=q->(∀(i:Nat)(x:β),l[i]? =some x->w i x)->D f p->R C H p)
 (L:∀(c:Nat)(M:bh)(s:E)(l:List β)(I:Int->bh->Prop)(μ:Int->bh->Nat),c<q->l.length=c->D d M->Gr (g::b1::b) d M h m o s l->dF M g k [.s e,.s s]->
  (∀t a x,Gr (g::b1::b) d a h m o t (l++[x])->dF a g k [.s e,.s t]->D d a->w c x->I (eI ((c:Int)+1)) a/\μ (eI ((c:Int)+1)) a<μ c M)->A I μ c M):
 ∃(u:Int->bh->Prop)(μ0:Int->bh->Nat),u (0:Int) j/\(∀(i:Int)(M:bh),u i M->
  ((decide (i<(z.len:Int)))=true->A u μ0 i M)/\
  ((decide (i<(z.len:Int)))=false->∃r:E,aS M g 0=some r.v/\∃y:E,aS M g 1=some y.v/\
   let a:bh:=aV M b1 0 [.s r,.s y]
   R r y a)):=by
 refine gP (n:=q) V (λc M=>D d M/\∃s l,Gr (g::b1::b) d M h m o s l/\dF M g k [.s e,.s s]/\l.length=c/\∀(i:Nat)(x:β),l[i]? =some x->w i x) ⟨Z,_,[],U,N,O,bO⟩ ?_
 rintro c M I μ hk ⟨x,s,l,r,B,W,T⟩ aa
 refine dit (λK=>?_) λK=>?_
 .refine L c M s l I μ V W x r B λt a ab J y x' hy=>aa V _ ⟨x',t,_,J,y,eX,λi ag hi=>?_⟩
  grind [Nat.lt_or_ge,List.length,List.getElem?_append_left,List.getElem?_append_right,br]
 .refine⟨e,B.dx 0,s,B.dx 1,?_⟩
  intro a
  have hy:=r.cJ
  have ag:=r.ne B X
  have y:Le (dA (g::b1::b) M) (dA b a):=dV bO λv t=>aX _ (aX _ t)
  refine P e s l a (S.le ((x.dA λv t=>?_).J y)) (fW.le (r.rS G (λt=>?_) hz V) y λJ ab=>G.le y) V T ((Y.J x).aV Q.1 _ _)
  .grind
  grind [D.aQ]
@[grind cases] structure CF (ds:af) (rs:List j7) (c:Prop) (W:Nat):Prop where
 ju:0<rs.length
 eR:∀q∈rs,q.aY.length<=3/\q.df.length<=3/\WB ds rs.length c q.aY.length q.eY/\q.eY.w<=W
def zg(h:Nat)(e:ap)(f:bh)(b:ad)(g:af)(Q:List j7->Prop):Prop:=bK dO h e f λv a=>∃d r c,v=.agg #[d.v,r.v]/\iF (dA b a) d r g c/\Q c/\D f a
def Mg{d:af}{a b:List j7}{c:Prop}{W:Nat}(e:0<a.length)(f:b.length=a.length)(h:∀(i:Nat)(q:j7),b[i]? =some q->q.aY.length<=3/\q.df.length<=3/\WB d a.length c q.aY.length q.eY/\q.eY.w<=W):CF d b c W:=
 by constructor<;>grind [List.mem_iff_getElem?]
def MT(N:∀c∈b,c<f.size){C:E}{c df:ab}{J:Int}(z:be f p c)(H:be f t df)(P:c.length<=100):
 oA 247 [.agg #[p.v,t.v,vi J,C.v,vi s]] f b λl=>(∀o∈l,0<=o/\o<(c.length:Int))/\l.length<=c.length:=by
 apply Fs
 simp -zeta only[dR]
 intro a d
 have A:=px a
 have y:∀w∈[f.size],w<a.size:=by simp[a]
 have F:GI b a d (.mk a.size 0 0 0) []:=GI.gN b a
 have K:=px d
 clear_value d
 clear_value a
 have S:=z.aT
 refine gL (n:=c.length) V (λk q M=>D a M/\∃l,GI b a M q l/\(∀o∈l,0<=o/\o<(c.length:Int))/\l.length<=k) ⟨K,[],F,bO,bY⟩ ?_
 rintro k q T M μ R ⟨v,l,g,i,Q⟩ m
 have r:=A.J v
 refine⟨λh=>?_,λh=>⟨q,l,O,g.cV (λ_ h=>h) A.aQ,⟨i,by simp at h;omega⟩,r⟩⟩
 simp only[bg]at h
 let⟨L,I⟩:=dU c k
 refine⟨V,V,L,(z.ext r).bt I,λ_=>?_,λ_=>m V _ _ ⟨v,l,g,i,V⟩⟩
 refine(fH (H.ext r) k).jY.bL v y λw U B u=>⟨_,O,λ_=>?_,λ_=>m V _ _ ⟨u,l,g.ext B,i,V⟩⟩
 intro j
 refine GI.nE (g.ext B) (u.fz []) V λX W G x _ _=>⟨D.sM (u.bZ _) x.ext y,m V _ _ ⟨x.ext,_,G,λo e=>?_,eX⟩⟩
 rcases bU.1 e with e|e
 .exact i o e
 .simp at e;omega
end
section
variable{a:ad}{m:bh}{d r:E}{b:List j7}
def ME(hS:∀c∈a,c<m.size){Y ai s:E}{L:af}{q:j7}(hn:iF m d r L b)(R:be m Y q.aY)(ht:be m ai q.df)(hs:iN m s q.eY.bA)(aB:q.aY.length<=3)(ao:WB L b.length False q.aY.length q.eY)(hw:q.eY.w<=95):
 rD 245 [.agg #[E.v d,E.v r],.agg #[E.v Y,E.v ai,vi q.bQ,E.v s,vi q.eY.bQ]] m a λj=>WB L b.length True q.aY.length j/\j.w<=1100*q.eY.w:=by
 apply ET
 simp -zeta only[kJ,nO]
 intro m0 H U
 let⟨t,g,s0,s1,s2⟩:=uj (a:=m0) (c:=H) (d:=U) O O O
 have aC:=R.aT
 have Q:∀c∈H.size::a,c<U.size:=dD hS t.aQ (g _ bO)
 refine(Ie (b:=[]) bO (hs.le t.le) V).bL (D.cT U) g λus ul f hu aD K _=>⟨_,O,?_⟩
 have an:be f us ul:=hu.le fL
 intro C W
 have aw:D f W:=(D.push f _).J (D.push C _)
 have s4:=pz C
 have h:GI a f W (.mk f.size 0 0 0) []:=(GI.gN a f).ext (D.push C _)
 have gd:GI a f W (.mk C.size 0 0 0) []:=(GI.gN a C).cV (λ_ P=>P) V
 have z3:=K.aQ
 have al:∀c∈a,c<f.size:=λc e=>by have:=hS c e;have:=t.aQ;omega
 refine Be (j:=q.aY.length) V (λk J Z M=>D f M/\∃i p,GI a f M J i/\GI a f M Z p/\J.bu≠Z.bu/\(∀o∈i,0<=o/\o<(q.aY.length:Int))/\(∀o∈p,0<=o/\o<(q.aY.length:Int))/\i.length<=k/\p.length<=k) ⟨aw,[],[],h,gd,eX,bO,bO,bY,bY⟩ ?_
 rintro k J Z m6 ax μ hk ⟨u,i,p,h,gd,G,A,z,cm,cd⟩ I
 have F:=K.J u
 have v6:=t.J F
 refine dit (λP=>?_) λP=>?_
 .let⟨ac,T⟩:=dU q.aY k
  have sn:∀{l:ab},(∀o∈l,0<=o/\o<(q.aY.length:Int))->∀o∈l++[(k:Int)],0<=o/\o<(q.aY.length:Int):=λg o B=>by
   rcases bU.1 B with B|B
   .exact g o B
   .simp at B;omega
  refine⟨V,V,ac,(R.ext v6).bt T,λ_=>?_,λ_=>I V _ _ _ ⟨u,i,p,h,gd,G,A,z,V,V⟩⟩
  refine(fH (ht.ext v6) k).jY.bL F g λaa m7 v u7=>⟨_,O,λ_=>?_,λ_=>I V _ _ _ ⟨u.J v,i,p,h.ext v,gd.ext v,G,A,z,V,V⟩⟩
  refine(fH (an.ext (u.J v)) k).jY.bL u7 g λaa m8 x8 u8=>⟨_,O,λ_=>?_,λ_=>?_⟩
  .have x:=v.J x8
   intro m9
   exact GI.Yh (h.ext x) (gd.ext x) G ((u.J x).fz []) V λr m' y N X w=>⟨D.sM ((F.J x).bZ _) (K.J w.ext) g,I V _ _ _ ⟨w.ext,_,_,y,N,X,sn A,z,eX,V⟩⟩
  .have x:=v.J x8
   intro m9
   exact GI.Yh (gd.ext x) (h.ext x) G.symm ((u.J x).fz []) V λr m' y N X w=>⟨D.sM ((F.J x).bZ _) (K.J w.ext) g,I V _ _ _ ⟨w.ext,_,_,N,y,X.symm,A,sn z,V,eX⟩⟩
 intro B
 have ac:=px B
 have X:=F.J ac
 have aa:=t.J X
 have e0:be B (.mk m6.size 0 0 0) []:=pX
 have ag:∀{M:bh}{s:E}{l:ab},GI a f M s l->l.length<=3->be M s l:=λy g=>(y.cy al V).le fL
 have aA:=q.eY.NO
 refine(KS q.eY (H.size::a) B (λc e=>X.lt (Q c e)) d r Y s J _ q.aY i [] (hn.le aa.le) (R.ext aa) (hs.le aa.le) ((ag h V).ext ac) e0 ⟨A,V,eX,V,ao⟩).bL X g λss j ap am hq au ar=>⟨_,_,O,?_⟩
 intro aE N
 obtain⟨ad,aJ⟩:=pv N
 have w:=ar.J ad
 have x:∀c∈[ap.size,H.size,m0.size,m.size],c<N.size:=λc e=>by
  rcases bo.1 e with v|v
  .omega
  .exact w.lt (g c v)
 have az:=Bk.pP j;have ay:=jQ j.bA
 refine(iR (λc e=>w.lt (Q c e)) 15 ((ag gd V).ext ((ac.J au).J ad)) V).bL (D.cT N) x λaI _ aF ae v o _=>⟨_,O,bE (o.bG _ V) _,bE (o.bG _ V) _,?_⟩
 subst v
 have aK:=o.aQ
 have T:=ae.cJ
 refine GS.lY ae (o.fz []) ((am.le ad.fj).le (xg o T.1)) eX λaq aG ak aj aL ah=>⟨λc e=>ah c (o.lt (x c e)) (oh (x c e)),bE (ah _ V V) _,?_⟩
 intro aH
 have av:=(t.J w).J aj.ext
 refine⟨aq,.mk _ j.bQ,O,iN.le (dV bO λc e=>aX _ e) (ak.cy j9.aP (λc e=>w.lt (Q c e)) cD eX),⟨WB.of ((vD V z).fw ?_) ?_,?_⟩,av.aV V _ _⟩
 .rw[nF V];exact hq.1.cw.1
 .rw[fg,nF V,eV];exact hq.1.cw.2
 .rw[Bk.vt,gF,um];omega
def QH(z:∀c∈a,c<m.size){g:af}(h:iF m d r g b)(Q:CF g b False 95):zg 223 [.agg #[d.v,r.v]] m a g λp=>CF g p True 104500:=by
 apply Jf;simp -zeta only[dR];intro e a2;let⟨s,A⟩:=fU (a:=e) (c:=a2) O O;have s1:=pz e;have ai:=h.lI.aT;have ar:=h.p7;refine(jJ (b:=e.size::a) (dD z s.aQ (A _ bO)) (h.le s.le).bT h.dm).aP λ_ C⟨dd,aa,ae,F⟩=>?_;subst aa;refine⟨F.eW A,_,O,?_⟩;intro E am an;have Z:=s.J F;let⟨x5,B0,g0,s3,s5⟩:=om (b:=E.size::e.size::a) ly.aP (d:=C) (a:=E) (c:=am) (j:=an) O O O;have n:∀c∈[e.size,m.size],c<C.size:=by grind [D.lt]
 have ad:∀c∈e.size::a,c<C.size:=λc l=>F.lt (dD z s.aQ (A _ bO) c l);refine nV (R:=λf i M=>∃d r p,Value.agg #[f.v,i.v]=.agg #[d.v,r.v]/\iF (dA a M) d r g p/\CF g p True 104500/\D m M) ly.aP cD cD z ⟨V,n _ bO⟩ Z s3 ae ai V x5 B0 g0 (λ_ q=>q.aY.length<=3/\q.df.length<=3/\WB g b.length True q.aY.length q.eY/\q.eY.w<=104500) (λf o W t L N i j k=>⟨f,o,W,O,⟨L,N,h.dm,V⟩,Mg Q.ju i j,k⟩) λal M X W ap μ ag aq H K B ao=>?_
 let⟨q,U⟩:=dU b al ag;let⟨T,ah,ak,hw⟩:=Q.eR q (aZ U);have i:=Z.J H;let⟨au,av,f,I,J,c3,t,u,w,x,y⟩:=h.lI.bt U;have G:∀{v:Value}{f o:Nat},aS m f o=some v->aS M f o=some v:=λab=>i.aS ab;refine⟨X,B.dx 1,V,V,_,G t,_,G u,_,G w,_,G x,_,G y,V,V,_,G t,_,G u,_,G w,_,G x,_,G y,?_⟩;have hy:=K.cJ;have ac:=B.lt;refine(ME (a:=X.bu::E.size::e.size::a) (λc l=>?_) (h.le i.le) (I.ext i) (J.ext i) (c3.le i.le) T ak hw).bL H n λss b' M1 aj P j Y=>⟨_,_,O,?_⟩
 .grind
 have k:∀{v:Value}{f o:Nat},aS m f o=some v->aS M1 f o=aS M f o:=by grind [D.aS]
 refine⟨k t,k u,k w,k x,k y,bE (j.bG _ (H.lt (n _ bO))) _,bE (j.bG _ ac) _,?_⟩;exact Ak ad (λc l=>by have L:=n c l;have N:=Y.aQ;omega) Y (K.ext ly.aP j) (B.ext j) V (I.ext (i.J j)) (J.ext (i.J j)) aj ⟨V,V⟩ V λs' N g' L x'=>ao s' N _ g' L x' ⟨T,ah,P.1,by have:=P.2;simp only;omega⟩
def Vd(z:∀e∈a,e<m.size){l:af}(o:iF m d r l b)(X:CF l b False 95):zg 224 [.agg #[d.v,r.v]] m a l λu=>CF l u True 104500:=by
 apply Oz;simp -zeta only[dR];intro h a2;let⟨w,A⟩:=fU (a:=h) (c:=a2) O O;have s1:=pz h;have aj:=o.lI.aT;have aw:=o.p7;refine(jJ (b:=h.size::a) (dD z w.aQ (A _ bO)) (o.le w.le).bT o.dm).aP λ_ F⟨dd,n,ae,J⟩=>?_;subst n;refine⟨J.eW A,_,O,?_⟩;intro t an ao;have u2:=w.J J;let⟨x5,B0,g0,s3,s5⟩:=om (b:=t.size::h.size::a) ly.aP (d:=F) (a:=t) (c:=an) (j:=ao) O O O;have Y:∀e∈[h.size,m.size],e<F.size:=by grind [D.lt]
 have ad:∀e∈h.size::a,e<F.size:=λe j=>J.lt (dD z w.aQ (A _ bO) e j);refine nV (R:=λc f M=>∃d r u,Value.agg #[c.v,f.v]=.agg #[d.v,r.v]/\iF (dA a M) d r l u/\CF l u True 104500/\D m M) ly.aP cD cD z ⟨V,Y _ bO⟩ u2 s3 ae aj V x5 B0 g0 (λ_ q=>q.aY.length<=3/\q.df.length<=3/\WB l b.length True q.aY.length q.eY/\q.eY.w<=104500) (λc k aa p U s f g i=>⟨c,k,aa,O,⟨U,s,o.dm,V⟩,Mg X.ju f g,i⟩) λam M st aa ar μ ag av L T B ap=>?_
 let⟨q,hq⟩:=dU b am ag;let⟨ai,ah,al,hw⟩:=X.eR q (aZ hq);have v:=u2.J L;let⟨aq,ay,i,y,Q,c3,e0,e1,e2,e3,e4⟩:=o.lI.bt hq;have G:∀{ab:Value}{i p:Nat},aS m i p=some ab->aS M i p=some ab:=λac=>v.aS ac;refine⟨V,V,_,G e0,_,G e1,_,G e2,_,G e3,_,G e4,?_⟩;intro m7 g;have hy:=T.cJ;have au:=B.lt;have zM:=L.aQ;have K:D M g:=by grind [D.push,D.aV]
 have s8:g.size=M.size+1:=by grind [bD]
 clear_value g;have C:∀e∈[M.size,h.size,m.size],e<g.size:=λe j=>by
  grind
 have H:=v.J K;have E:∀{N P:bh},D g N->D g P->∀i,i<g.size->∀p,aS P i p=aS N i p:=by grind [bE,D.bG]
 have f:M.size<g.size:=V;have i1:m.size<g.size:=cB;have i2:t.size<g.size:=V;refine⟨st,(B.ext K).dx 1,?_⟩;refine(MT (b:=[]) bO (y.ext H) (Q.ext H) V).bL (D.cT g) C λow lo m9 go Z c _=>⟨_,O,E cY c _ f _,E cY c _ f _,E cY c _ f _,E cY c _ i1 _,E cY c _ i1 _,E cY c _ f _,E cY c _ f _,E cY c _ f _,E cY c _ f _,E cY c _ f _,E cY c _ i2 _,?_⟩;have I:=H.J c;have z9:=c.aQ;have j:=Z.2;refine(MH q.eY (st.bu::t.size::h.size::a) m9 (λe j=>?_) d r aq i ow q.aY lo (o.le I.le) (y.ext I) (c3.le I.le) ((go.cy bO V).le fL) ⟨Z.1,V,V,al⟩).bL c C λss b' ax ak W az k=>⟨_,_,O,E c k _ f _,E c k _ f _,E c k _ f _,E c k _ f _,E c k _ f _,E c k _ i2 _,?_⟩
 .grind
 have x:=K.J k;have AU:=k.aQ;exact Ak ad (λe j=>by have U:=C e j;have s:=Y e;simp only[bo]at j s;rcases j with n|n|n|n<;>first|omega|(have:=s (by simp[n]);omega)|simp at n) (L.J x) (T.ext ly.aP x) (B.ext x) V (y.ext (v.J x)) (Q.ext (v.J x)) ak ⟨V,V⟩ V λs' U g' s x'=>ap s' U _ g' s x' ⟨ai,ah,W.1,by have:=W.2;simp only;omega⟩
end
section
variable{x:eM}{l:au}{m e M:bh}{i f d h:E}{b:ad}{c g:ab}{a:Int}{K:E->bh->Prop}
def Fb(a k:E)(m:bh):fX dO 251 [tn x a k] m (x.op=14\/x.op=15):=by
 apply Lb;simp -zeta only[dR];intro c;have b:=px c;refine⟨λh=>oO (bC (sp h)) b,λh=>kX ?_ b⟩;simp only[ba]at h;simp only[bP];omega
def One(l:au):Prop:=∀x∈l,x.aO.length=1
def DL(l:au)(o:Int):Prop:=∃x∈l,o∈x.aO
def One.at(h:One l){k:Nat}(a:l[k]? =some x):∃y,x.aO[0]? =some y/\DL l y:=by
 have c:=h x (aZ a);let⟨y,b⟩:=dU x.aO 0;exact⟨y,b,x,aZ a,aZ b⟩
def TE(q:iN m i l)(B:One l)(H:l.length<=10^12)(v:Int):wU 277 [i.v,vi v] m λb=>-(l.length:Int)<=b/\b<=l.length:=by
 apply MM;have K:=q.aT;refine gL (n:=l.length) V (λk b M=>D m M/\-(k:Int)<=b/\b<=(k:Int)) ⟨cY,V,V⟩ ?_;rintro k b c I μ J ⟨f,C,F⟩ P
 refine⟨λo=>?_,λo=>⟨b,O,⟨V,V⟩,f⟩⟩;simp only[bg]at o;let⟨x,r⟩:=dU l k;obtain⟨y,s,_⟩:=B.at r;obtain⟨a,Q,p,_,z,_,_,A,_⟩:=q.bt r;have G:=p.aT;have L:=br s;have t:=f.aS z;have G3:=f.aS A;have j:=(p.ext f).bt s;have u:eI (b+1)=b+1:=by grind [de]
 have w:eI (b -1)=b -1:=by grind [de]
 rw[u,w];have N:∀d,-((k+1:Nat):Int)<=d->d<=((k+1:Nat):Int)->I d (eI ((k:Int)+1)) c/\μ d (eI ((k:Int)+1)) c<μ b k c:=cB;have h:(0:Int)<=(k:Int)/\(k:Int)<(i.len:Int)/\∃e:E,aS c i.bu (i.off+Int.toNat (k:Int)*5+3)=some e.v/\(0:Int)<=(0:Int)/\(0:Int)<(e.len:Int)/\∃g:Int,aS c e.bu (e.off+Int.toNat (0:Int)*1)=some (vi g)/\
  ((g==v)=true->I (b -1) (eI ((k:Int)+1)) c/\μ (b -1) (eI ((k:Int)+1)) c<μ b k c)/\((g==v)=false->I b (eI ((k:Int)+1)) c/\μ b (eI ((k:Int)+1)) c<μ b k c):=
  ⟨V,V,a,G3,V,V,y,j,λ_=>N _ V V,λ_=>N _ V V⟩
 exact⟨V,V,a,G3,V,V,y,j,λ_=>⟨V,V,_,t,λ_=>N _ V V,λ_=>h⟩,λ_=>h⟩
def RN(q:∀f∈b,f<m.size)(u:iN m i l)(j:One l)(H:l.length<=100000000000):oA 276 [i.v] m b λc=>(∀o∈c,DL l o)/\c.length<=l.length:=by
 apply Lr;intro N;have K:=u.aT;refine gL (n:=l.length) V (λk s M=>D m M/\∃c,GI b m M s c/\(∀o∈c,DL l o)/\c.length<=k) ⟨D.push m _,[],GI.gN b m,bO,bY⟩ ?_;rintro k s e I μ J ⟨d,c,p,v,t⟩ C
 refine⟨λh=>?_,λh=>⟨s,c,O,p,⟨v,V⟩,d⟩⟩;simp only[bg]at h;let⟨x,w⟩:=dU l k;let⟨z,y,A⟩:=j.at w;obtain⟨a,R,r,_,F,_,_,g,_⟩:=u.bt w;have G:=r.aT;have L:=br y;refine⟨V,V,a,d.aS g,V,V,z,(r.ext d).bt y,?_⟩;refine(pU (S:=b) (λf t=>cr (q f t) d.aQ) (p.cy q V) z V).cg λQ B P g f E=>⟨_,O,C V _ _ ⟨d.J E,B,g.cV (λ_ h=>h) d.aQ,λo j=>?_,oh f.2⟩⟩;rcases f.1 o j with h|h
 .exact v o h
 .subst h;exact A
@[grind cases] structure zP (S:ad) (m m2 M:bh) (sd sr vs:E) (ld lr vl:ab):Prop where
 x:D m M
 gd:GI S m M sd ld
 gr:GI S m M sr lr
 gv:GI [] m2 M vs vl
 n1:sd.bu≠sr.bu
 n2:sd.bu≠vs.bu
 n3:sr.bu≠vs.bu
def zP.ext{b:ad}{m e M i:bh}{f d h:E}{c j g:ab}(T:zP b m e M f d h c j g)(a:D M i):zP b m e i f d h c j g:=
 ⟨T.x.J a,T.gd.ext a,T.gr.ext a,T.gv.ext a,T.n1,T.n2,T.n3⟩
def zP.ae9{j:ab}(T:zP b m e M f d h c j g)(u:∀i∈b,i<m.size)(s:c.length<=10^12)(t:∀r i,zP b m e i r d h (c++[a]) j g->K r i):
 mj (M.push (.cells (db [.i a]) bB)) bB [.i 0] 8 f (.mk M.size 0 1 1) K:=by
 have o:=T.gr.cJ;have p:=T.gv.cJ;have v:=T.n1;have w:=T.n2
 refine GI.nE T.gd (T.x.fz []) s λr i n l z q=>t r i ⟨l.ext,n,T.gr.lZ (q _ o.2 T.n1.symm),T.gv.lZ (q _ p.2 T.n2.symm),?_,?_,T.n3⟩<;>rcases z.2 with k|k<;>omega
def zP.Yh{j:ab}(T:zP b m e M f d h c j g)(u:∀i∈b,i<m.size)(s:j.length<=10^12)(t:∀r i,zP b m e i f r h c (j++[a]) g->K r i):
 mj (M.push (.cells (db [.i a]) bB)) bB [.i 0] 8 d (.mk M.size 0 1 1) K:=by
 have o:=T.gd.cJ;have p:=T.gv.cJ;have v:=T.n1;have w:=T.n3
 refine GI.nE T.gr (T.x.fz []) s λr i n l z q=>t r i ⟨l.ext,T.gd.lZ (q _ o.2 T.n1),n,T.gv.lZ (q _ p.2 T.n3.symm),?_,T.n2,?_⟩<;>rcases z.2 with k|k<;>omega
def abm(l:au)(c:au):Prop:=∃b a:ab,c=b.map (iX 14)++a.map (iX 15)/\(∀o∈b,DL l o)/\(∀o∈a,DL l o)/\b.length+a.length<=l.length*l.length
def Cx(u:∀s∈b,s<m.size)(X:iN m i l)(a:One l)(x:l.length<=500000):Xb 252 [i.v] m b (abm l):=by
 apply Hu;intro v e;have ad:D m e:=(D.push m _).J (D.push v _);have s1:=pz v;have gd:GI b m e (.mk m.size 0 0 0) []:=(GI.gN b m).ext (D.push v _);have Q:GI b m e (.mk v.size 0 0 0) []:=(GI.gN b v).cV (λ_ G=>G) V;have aj:l.length*l.length<=250000000000:=fC (Q8 x x) cD;refine(RN (b:=[]) bO (X.le ad.le) a V).cg λh g m3 F ac N=>⟨_,O,?_⟩;have hv:be m3 h g:=(F.cy bO (oh ac.2)).le fL;have an:=hv.aT;have ao:=F.cJ;refine Be (j:=g.length) V (λp f d M=>∃c j,zP b m e M f d h c j g/\(∀o∈c,DL l o)/\(∀o∈j,DL l o)/\c.length+j.length<=p*l.length) ⟨[],[],⟨(ad.J N),gd.ext N,Q.ext N,F,eX,oh gd.cJ,oh Q.cJ⟩,bO,bO,bO⟩ ?_;rintro p f d m4 ai μ hi ⟨c,j,T,hd,Y,U⟩ ag
 have ae:p*l.length<=l.length*l.length:=fD _ V;have H:∀{M:bh}{f d:E}{c j:ab},zP b m e M f d h c j g->be M h g:=λT=>(T.gv.cy bO V).le fL;refine dit (λG=>?_) λG=>?_
 .let⟨y,z⟩:=dU g p;have aa:=ac.1 y (aZ z);refine⟨V,V,y,(H T).bt z,?_⟩;refine(TE (X.le T.x.le) a V y).cg λw m5 hn r=>⟨_,O,?_⟩;have am:(p+1)*l.length=p*l.length+l.length:=DF _ _;refine⟨λf k M=>k<=w/\(w<=0->k=w)/\(0<w->0<=k)/\∃I,zP b m e M f d h I j g/\(∀o∈I,DL l o)/\I.length+j.length+k.toNat<=p*l.length+w.toNat,λ_ k _=>k.toNat,⟨V,V,V,c,T.ext r,hd,V⟩,?_⟩;rintro ah k m6 ⟨n1,n2,n3,J,A,W,ak⟩;refine dit (λh1=>?_) λh1=>?_
  .refine⟨V,V,y,(H A).bt z,?_⟩;intro q;have t:eI (k -1)=k -1:=iz;rw[t];exact A.ae9 u V λL P B=>⟨⟨V,V,V,_,B,λo a=>by
    rcases bU.1 a with a|a
    .exact W o a
    .simp at a;subst a;exact aa,eX⟩,by dsimp only;omega⟩
  .refine⟨λd q M=>k<=q/\q<=0/\∃K,zP b m e M ah d h J K g/\(∀o∈K,DL l o)/\J.length+K.length+(-q).toNat<=p*l.length+l.length,λ_ q _=>(-q).toNat,⟨V,V,j,A,Y,V⟩,?_⟩;rintro ap q m8 ⟨p1,p2,af,C,Z,al⟩;refine⟨λR=>?_,λR=>ag V _ _ _ ⟨J,af,C,W,Z,V⟩⟩;simp only[bg]at R;refine⟨V,V,y,(H C).bt z,?_⟩;intro m9;have t:eI (q+1)=q+1:=iz;rw[t];exact C.Yh u V λL P B=>⟨⟨V,V,_,B,λo a=>by
    rcases bU.1 a with a|a
    .exact Z o a
    .simp at a;subst a;exact aa,eX⟩,by dsimp only;omega⟩
 .have o:∀s∈b,s<m4.size:=λs U=>by have:=u s U;have:=T.x.aQ;omega
  refine(iR (c:=b) o 14 ((T.gd.cy u V).le fL) V).aP λ_ m5⟨s1,C,k,g1,t,r⟩=>?_;subst k;subst t;refine⟨_,O,?_⟩;have q:=g1.cJ;refine(iR (c:=s1.bu::b) (dD o r.aQ q.2) 15 (((T.ext r).gr.cy u V).le fL) V).aP λ_ m6⟨J,I,k,g2,y,w⟩=>?_;subst k;subst y;refine⟨_,O,?_⟩;refine GS.lY (g1.ext j9.aP w) ((r.J w).fz []) (g2.cy j9.aP (dD o r.aQ q.2) cD eX) eX λL P A z _ _=>⟨L,_,O,A.cV j9.aP (λB x=>bC x) T.x.aQ,⟨c,j,O,hd,Y,?_⟩,T.x.J z.ext⟩;have:p*l.length<=l.length*l.length:=ae;omega
end
section
variable{a c:Nat}
def Nd(a b:Nat):a*a+b*b<=(a+b)*(a+b):=by
 grind [Nat.add_mul,Nat.mul_add]
def Vg{b:Nat}(h:a<=b):a*a<=b*b:=Q8 h h
@[grind cases] structure CN (ds:af) (nr:Nat) (S:ad) (m2 M:bh) (a:Nat) (bA:au) (k:Nat) (st run:E) (lo lr:au) (P:Nat):Prop where
 x:D m2 M
 gs:GS (run.bu::S) m2 M st lo
 gr:GS [st.bu] m2 M run lr
 wl:WL ds nr True a lo
 dcs:dc lo=dc (bA.take k)
 sws:sw lo<=P*P
 P':P+2*lr.length<=sw (bA.take k)
 mM:One lr
 rng:∀o,DL lr o->0<=o/\o<((a+dc (bA.take k):Nat):Int)
 ne:st.bu≠run.bu
def U8{d:af}{l b:au}(h:abm l b)(g:∀o,DL l o->0<=o/\o<(a:Int)):WL d c True a b/\dc b=0/\sw b<=(2*l.length)*(2*l.length):=by
 obtain⟨j,i,rfl,e,k,m⟩:=h;refine⟨(vD V λo f=>g o (e o f)).fw ?_,?_,?_⟩
 .grind [nF,vD]
 .grind [fg,nF]
 .grind [gF,um,List.length,Nat.mul_mul_mul_comm]
def aeW(e:af)(c:Nat)(b:Bk):Prop:=∀(S:ad)(m:bh),(∀d∈S,d<m.size)->∀(t:E)(a:Nat),iN m t b.bA->WB e c True a b->b.w<=400000->rD 231 [.agg #[t.v,vi b.bQ]] m S λd=>WB e c True a d/\d.w<=b.w*b.w
def Jc{I:af}:∀g:Bk,aeW I c g:=by
 refine Bk.ind ?_;intro bA a3 ih l K hS bH a hs aS hw;have aT:=aS.cw;rw[Bk.vt]at hw⊢;simp only[Bk.mV,Bk.lV]at*;apply BE;simp -zeta only[dR];intro i q ae m3;let⟨x1,hl⟩:=fU (a:=i) (c:=q) O O;have s0:=pz i;have s1:q.size=K.size+2:=cB;have a8:D q m3:=by grind [D.push,D.J]
 have s2:=pz ae;have aI:∀u,GS u q m3 (.mk q.size 0 0 0) []:=λu=>(GS.bF u q).ext j9.aP (D.push ae _);have aH:∀u,GS u q m3 (.mk ae.size 0 0 0) []:=λu=>(GS.bF u ae).cV j9.aP (λg s=>bC s) V;have aR:=hs.aT;have au:=FL bA;have aK:∀e∈i.size::l,e<q.size:=by grind [dD,D.aQ]
 refine Be (j:=bA.length) (aR▸hs.kM) (λv F z j=>∃X p P,CN I c (i.size::l) q j a bA v F z X p P) ⟨[],[],0,a8,aI _,aH _,WL.gN,O,bO,bO,λ_ h=>by simp at h,λag⟨_,h,_⟩=>by simp at h,eX⟩ ?_;rintro v F z B a_ μ hk ⟨X,p,P,C⟩ aw
 have x4:=C.x;have N:=x1.J x4;have bt:=C.gs.cJ;have bs:=C.gr.cJ;have ap:=C.P';have bj:=au v;have ba:P*P<=160000000000:=fC (Vg (b:=400000) V) cD;have bg:=jQ X;have aP:=C.sws;have bi:=C.ne;have J:∀{j:bh}{u:ad},B.size<=j.size->(∀e∈u,e<j.size)->∀e∈u++i.size::l,e<j.size:=λh s e f=>by
  grind
 have ar:∀{j:bh},D B j->iN j z p:=λh=>iN.le fL ((C.gr.ext j9.aP h).rS j9.aP cB cD V);refine dit (λh=>?_) λh=>?_
 .let⟨d,W⟩:=dU bA v;let⟨pa,pk,ha,aa,g0,g1,g2,g3,g4⟩:=hs.bt W;refine⟨V,V,_,N.aS g0,_,N.aS g1,_,N.aS g2,_,N.aS g3,_,N.aS g4,?_⟩;intro m5 L;have x6:D B L:=by grind [D.push,D.aV]
  have s6:L.size=B.size+1:=by grind [bD]
  have ab:∀{j:bh},L.size<=j.size->∀g∈[B.size,i.size,K.size],g<j.size:=λh g s=>by
   grind
  have bm:=ua W;have bl:=uK W;have aU:=eM.pP d;have U:=aT.1 v d W;have bk:=au (v+1);have bc:=wZ d.dv;refine(Fb pa pk L).bL (D.cT L) (ab bY) λbp m7 aL x7 _=>⟨_,O,λhp=>?_,λhp=>?_⟩
  · -- a pair goes to the run
   have hp:=aL.1 hp;have Q:d.aO.length=1:=U.iY.mM V;have T:dn d=0:=aW λh:tr d.op=>by have:=h.2;omega
   have G:=x6.J x7;intro Z;have o:Le K (dA (z.bu::[F.bu]) m7):=(Ev (m:=K)).J (((N.J G).fz []).dA bO λe f=>by simp at f;have:=x1.aQ;exact bR V);refine GS.nE (x:=d) (C.gr.ext j9.aP G) ((x4.J G).fz []) (ha.le o) (aa.le o) V λaQ M' R t H A=>⟨λe f=>?_,aw V _ _ _ ⟨X,p++[d],P,t.ext,(C.gs.ext j9.aP G).re j9.aP (Y:=[z.bu]) ⟨H.1,λe f k=>A e f cB⟩ bO cB (λe f=>?_),R,C.wl,by rw[C.dcs];omega,aP,eX,λaj k=>?_,λag w=>?_,?_⟩⟩
   .grind [D.aQ,D.push,D.bG]
   .grind [List.mem_cons_self,List.mem_cons_of_mem]
   .rcases bU.1 k with k|k
    .exact C.mM aj k
    grind
   .let⟨aj,k,r⟩:=w;have y:dc (bA.take (v+1))=dc (bA.take v):=V;rw[y];rcases bU.1 k with k|k
    .exact C.rng ag ⟨aj,k,r⟩
    .simp at k;subst k;exact U.iY.aO ag r
   grind [CN.gs,Gr.ext,j9.aP,Gr.cJ]
  · -- another step ends the run
   have G:=x6.J x7;have aA:=G.aQ;refine(Cx (b:=[F.bu,z.bu]++i.size::l) (J aA cB) (ar G) C.mM V).bL (D.cT m7) (ab x7.aQ) λbB aV bu aE a0 ax _=>⟨_,O,?_⟩;let⟨a5,al,a6⟩:=U8 (d:=I) (c:=c) a0 C.rng;have be:=jQ aV;have AU:=ax.aQ;have z7:=x7.aQ;have aJ:(2*p.length)*(2*p.length)<=160000000000:=fC (Vg (b:=400000) V) cD;have az:=G.J ax;refine GS.lY (C.gs.ext j9.aP az) ((x4.J az).fz []) (aE.cy j9.aP (J (u:=[F.bu,z.bu]) aA eX) cD V) V λw r ao aC a9 a1=>⟨λe f=>a1 e (ab V e f) cB,?_⟩;have am:D q r:=aC.ext;have bn:=ao.cJ;have bb:w.bu=F.bu\/L.size<=w.bu:=by have:=a9.2;omega
   intro t av;have ay:=px t;have bG:t.size=r.size+1:=cB;have a7:=px av;have an:=am.J ay;have gn:GS [w.bu] q t (.mk r.size 0 0 0) []:=(GS.bF _ r).cV j9.aP (λg s=>bC s) am.aQ;have gk:GB ([w.bu,r.size]++i.size::l) t av (.mk t.size 0 0 0) []:=GB.bF t;have aF:GS ([r.size]++i.size::l) q t w _:=ao.re j9.aP (Y:=[]) (ay.fz []) bO bO λe f=>by
    rcases bo.1 f with y|y
    .grind
    .exact bC (aX _ y)
   have ak:=aa.aT;have bd:bw d.dv<=400000:=V;refine gL (n:=d.dv.length) (ak▸aa.kM) (λA a4 j=>D t j/\∃o,GB ([w.bu,r.size]++i.size::l) t j a4 o/\o.length=A/\(∀(H:Nat)(g:Bk),o[H]? =some g->WB I c True (a+dc (bA.take v)+FY I d.op d.cE H) g)/\bw o<=bw (d.dv.take A)*bw (d.dv.take A)) ⟨a7,[],gk,O,bO,bO⟩ ?_;rintro A ks ac I2 μ2 hj ⟨Z,o,R,bf,aN,aM⟩ aY;have ah:=x1.J (an.J Z);have bI:=Z.aQ;have bq:=R.cJ;have T:∀g∈[B.size,i.size,K.size],g<ac.size:=cB;refine dit (λh2=>?_) λh2=>?_
   .let⟨g,s⟩:=dU d.dv A;let⟨tb,aO,f0,f1⟩:=aa.bt s;have a2:=Ba s;have aD:=yL s;refine⟨V,V,_,ah.aS f0,_,ah.aS f1,?_⟩;refine(ih d (aZ W) g (aZ s) ([ks.bu,w.bu,r.size]++i.size::l) ac (J V eX) tb _ (aO.le ah.le) (U.dv A g s) V).bL (D.cT ac) T λss b' bv aG aB ai _=>⟨_,_,O,?_⟩;refine GB.nE (c:=b') (R.ext vw.aP ai) ((Z.J ai).fz []) aG V λaQ M' g2 f2 z2 q2=>⟨D.sM ((Z.J ai).bZ _) f2.ext (λe f=>oh (ab (j:=t) V e f)),aY V _ _ ⟨f2.ext,_,g2,eX,λH b2 Q=>?_,?_⟩⟩
    .rcases dJ H o.length with aq|aq
     .grind [List.getElem?_append_left]
     .rw[dP aq]at Q;have:H -o.length=0:=by have:=br Q;simp at this;omega
      rw[this]at Q;simp at Q;subst Q;have:H=A:=V;grind
    .rw[sU,yK,DW,aD];have h3:=Nd (bw (d.dv.take A)) g.w;have:=aB.2;omega
   .have aO:o.length=d.dv.length:=V;rw[eQ V]at aM;refine(dB ([w.bu,r.size]++i.size::l) (ha.ext ah) V).bL (D.cT ac) T λs' l' bv ga y Q _=>⟨_,O,bE (Q.bG _ (T _ bO)) _,bE (Q.bG _ (T _ bO)) _,bE (Q.bG _ (T _ bO)) _,?_⟩;subst y;intro bx;have ai:=Z.J Q;have bJ:=Q.aQ;have aq:∀e∈[w.bu,r.size]++i.size::l,e<t.size:=J V eX;have aQ:w.bu≠r.size:=V;refine GS.nE (x:=⟨d.op,d.cE,d.dh,d.aO,o⟩) (aF.ext j9.aP ai) ((an.J ai).fz []) (ga.cy (λe f=>oh (aq e f)) V) (rO.le Q.fj (R.cy vw.aP aq cD cB)) cB λbF bz aG aD bK a2=>⟨λe f=>?_,aw V _ _ _ ⟨_,[],P+2*p.length+d.w,aD.ext,aG,?_,((C.wl.fw cB).Dd (U.UM id U.iY.dh aO aN|>λh=>by rw[fg,C.dcs,al,uh];exact h)),?_,?_,eX,λ_ h=>by simp at h,λag⟨_,h,_⟩=>by simp at h,?_⟩⟩
    .grind [D.push,D.bG]
    · -- the new run is empty
     have y:=gn.ext j9.aP ai;let⟨p0,aB,p1,p2⟩:=y;refine⟨p0,aB,p1.congr (a2 _ (by have:=ai.aQ;show r.size<_;omega) (tf aQ)),p2.aT,p2.aQ,λH cs aj _ k=>by simp at k⟩
    .rw[fg,fg,C.dcs,al,nM,xf];have y:dn (⟨d.op,d.cE,d.dh,d.aO,o⟩:eM)=dn d:=rfl;omega
    .rw[gF,gF,qu,zH];have h3:=Nd P (2*p.length);have h4:=Nd (P+2*p.length) d.w;have h5:(⟨d.op,d.cE,d.dh,d.aO,o⟩:eM).w=1+d.aO.length+bw o:=eM.pP _;have k:=Nd (1+d.aO.length) (bw d.dv);have h7:1+d.aO.length<=(1+d.aO.length)*(1+d.aO.length):=by grind [Nat.le_mul_of_pos_left]
     rw[<-aU]at k;omega
    grind [E.bu,Array.size]
 .have ak:v=bA.length:=V;subst ak;rw[fu]at ap;have hd:dc (bA.take bA.length)=dc bA:=by rw[fu]
  have k:∀g∈[i.size,K.size],g<B.size:=by grind [D.lt]
  refine(Cx (b:=[F.bu,z.bu]++i.size::l) (J bY cB) (ar cY) C.mM V).bL (D.cT B) k λT o L w A d _=>⟨_,O,bE (d.bG _ (k _ bO)) _,?_⟩;let⟨a5,al,a6⟩:=U8 (d:=I) (c:=c) A C.rng;have H:=jQ o;have aJ:(2*p.length)*(2*p.length)<=160000000000:=fC (Vg (b:=400000) V) cD;refine GS.lY (C.gs.ext j9.aP d) ((x4.J d).fz []) (w.cy j9.aP (J (u:=[F.bu,z.bu]) bY eX) cD V) V λG Q y t U r=>⟨λe f=>r e (d.lt (k e f)) (oh (hl e f)),bE (r _ (d.lt (k _ bO)) V) _,?_⟩;intro R;refine⟨G,.mk (X++o) a3,O,iN.le (dV bO λe f=>aX _ f) ((y.re j9.aP (S':=i.size::l) (Y:=[]) nP bO bO (λe f=>bC (aX _ f))).cy j9.aP aK cD eX),⟨WB.of (C.wl.fw cB) ?_,?_⟩,(x1.J t.ext).aV V _ _⟩
  .grind [fg,CN.dcs]
  .rw[Bk.vt,gF];have h3:=Nd P (2*p.length);have h4:=Vg ap;have h5:=Nd 1 (sw bA);omega
end
section
variable{c:ad}{b:bh}{d r:E}{e:List j7}{W:Nat}
def Mz(w:∀a∈c,a<b.size){h:af}(i:iF b d r h e)(hW:W<=400000)(N:CF h e True W):zg 195 [.agg #[d.v,r.v]] b c h λn=>CF h n True (W*W):=by
 apply EN;simp -zeta only[dR];intro g a2;let⟨s,x⟩:=fU (a:=g) (c:=a2) O O;have s1:=pz g;have aj:=i.lI.aT;have au:=i.p7;refine(jJ (b:=g.size::c) (dD w s.aQ (x _ bO)) (i.le s.le).bT i.dm).aP λ_ y⟨dd,aa,ae,A⟩=>?_;subst aa;refine⟨A.eW x,_,O,?_⟩;intro z an ao;have X:=s.J A;let⟨x5,Y,g0,s3,s5⟩:=om (b:=z.size::g.size::c) ly.aP (d:=y) (a:=z) (c:=an) (j:=ao) O O O;have m:∀a∈[g.size,b.size],a<y.size:=by grind [D.lt]
 have ad:∀a∈g.size::c,a<y.size:=λa l=>A.lt (dD w s.aQ (x _ bO) a l);refine nV (R:=λf j M=>∃d r n,Value.agg #[f.v,j.v]=.agg #[d.v,r.v]/\iF (dA c M) d r h n/\CF h n True (W*W)/\D b M) ly.aP cD cD w ⟨V,m _ bO⟩ X s3 ae aj V x5 Y g0 (λ_ q=>q.aY.length<=3/\q.df.length<=3/\WB h e.length True q.aY.length q.eY/\q.eY.w<=W*W) (λf p Q t J K j k o=>⟨f,p,Q,O,⟨J,K,i.dm,V⟩,Mg N.ju j k,o⟩) λam M T Q aq μ ag ar C I B ap=>?_
 let⟨q,P⟩:=dU e am ag;let⟨ai,ah,al,hw⟩:=N.eR q (aZ P);have p:=X.J C;let⟨av,aw,f,c1,c2,c3,E,F,H,t,u⟩:=i.lI.bt P;have G:∀{v:Value}{f o:Nat},aS b f o=some v->aS M f o=some v:=λab=>p.aS ab;refine⟨T,B.dx 1,V,V,_,G E,_,G F,_,G H,_,G t,_,G u,V,V,_,G t,_,G u,?_⟩;have hy:=I.cJ;have ac:=B.lt;refine(Jc q.eY (T.bu::z.size::g.size::c) M (λa l=>?_) f q.aY.length (c3.le p.le) al V).bL C m λss b' Z ak L j U=>⟨_,_,O,?_⟩
 .grind
 have k:∀{v:Value}{f o:Nat},aS b f o=some v->aS Z f o=aS M f o:=by grind [D.aS]
 refine⟨k E,k F,k H,k t,k u,bE (j.bG _ (C.lt (m _ bO))) _,bE (j.bG _ ac) _,?_⟩;exact Ak ad (λa l=>by have J:=m a l;have K:=U.aQ;omega) U (I.ext ly.aP j) (B.ext j) V (c1.ext (p.J j)) (c2.ext (p.J j)) ak ⟨V,V⟩ V λs' K g' J x'=>ap s' K _ g' J x' ⟨ai,ah,L.1,fC L.2 (Vg hw)⟩
def adp(a:Bk):Prop:=∀(c:ad)(b:bh),(∀d∈c,d<b.size)->∀t:E,iN b t a.bA->a.w<=10^12->rD 294 [.agg #[t.v,vi a.bQ]] b c (a=·)
def Cv(U:∀f∈c,f<b.size){t v:E}{x:eM}(F:be b t x.aO)(p:rO b v x.dv)(Z:x.w<=10^12)(L:∀g∈x.dv,adp g):Ph 325 [tn x t v] b c (x=·):=by
 apply G5;simp -zeta only[dR];intro a e w;let⟨N,H⟩:=fU (a:=a) (c:=e) O O;have s0:=pz a;have s1:e.size=b.size+2:=cB;have P:=px w;have B:GB (a.size::c) e w (.mk e.size 0 0 0) []:=GB.bF e;have n:∀f∈a.size::c,f<e.size:=by grind [dD,D.aQ]
 have G:=p.aT;have aa:=eM.pP x;have W:=wZ x.dv;refine gL (G▸p.kM) (λq s M=>D e M/\GB (a.size::c) e M s (x.dv.take q)) ⟨P,B⟩ ?_;rintro q s k R μ Y ⟨l,j⟩ M
 have i:=N.J l;have h:∀g∈[a.size,b.size],g<k.size:=by grind [D.lt]
 have K:=j.cJ;have Q:=l.aQ;refine dit (λC=>?_) λC=>?_
 .let⟨g,o⟩:=dU x.dv q;let⟨tb,J,z,A⟩:=p.bt o;have X:=Ba o;refine⟨V,V,_,i.aS z,_,i.aS A,?_⟩;refine(L g (aZ o) (s.bu::a.size::c) k (dD n Q K.2) tb (J.le i.le) V).bL (D.cT k) h λss T y I m d _=>⟨_,_,O,?_⟩;subst m;refine GB.nE (j.ext vw.aP d) ((l.J d).fz []) I cB λr S g2 u z2 q2=>⟨D.sM ((l.J d).bZ _) u.ext H,M V _ _ ⟨u.ext,?_⟩⟩;grind [bX]
 .rw[eQ V]at j;refine(dB (a.size::c) (F.ext i) V).bL (D.cT k) h λI J y z m d _=>⟨_,O,bE (d.bG _ (h _ bO)) _,bE (d.bG _ (h _ bO)) _,bE (d.bG _ (h _ bO)) _,?_⟩;subst m;intro A;have u:Le (dA (a.size::c) y) (dA c A):=dV bO λf o=>aX _ o;exact⟨I,s,x,O,(z.cy (λf o=>oh (n f o)) V).le u,rO.le u ((j.ext vw.aP d).cy vw.aP n cD V),O,(i.J d).aV V _ _⟩
def Au:∀p:Bk,adp p:=by
 refine Bk.ind ?_;intro bA j Z c b hS af r X;rw[Bk.vt]at X;simp only[Bk.mV,Bk.lV]at*;apply vk;simp -zeta only[dR];intro g d e y o;let⟨x1,T⟩:=fU (a:=g) (c:=d) O O;have s0:=pz g;have s1:d.size=b.size+2:=cB;have s2:=pz e;have s3:=pz y;have C:D e o:=by grind [D.push,D.aV]
 have ab:D d o:=(D.push d _).J C;have q:GS (e.size::g.size::c) d o (.mk d.size 0 0 0) []:=(GS.bF _ d).ext j9.aP C;have F:dF o e.size fm [.s (.mk d.size 0 0 0),.i j]:=dF.aV (m:=y) (dF.push e _ _);have N:∀l∈g.size::c,l<d.size:=by grind [dD,D.aQ]
 have W:=r.aT;have ad:=jQ bA;refine gP (W▸r.kM) (λu M=>D d M/\∃s,GS (e.size::g.size::c) d M s (bA.take u)/\dF M e.size fm [.s s,.i j]) ⟨ab,_,q,F⟩ ?_;rintro u v ac μ hk ⟨w,s,h,B⟩ aa
 have f:=x1.J w;have U:∀p∈[g.size,b.size],p<v.size:=by grind [D.lt]
 have Y:=h.cJ;have z5:=w.aQ;have x:=B.lt;refine dit (λM=>?_) λM=>?_
 .let⟨A,t⟩:=dU bA u;let⟨pa,pk,P,S,q,g1,g2,K,L⟩:=r.bt t;have ae:=TM t;refine⟨s,B.dx 0,V,V,_,f.aS q,_,f.aS g1,_,f.aS g2,_,f.aS K,_,f.aS L,?_⟩;refine(Cv (dD (dD N z5 x) bY Y.2) (P.ext f) (S.le f.le) V (Z A (aZ t))).bL (D.cT v) U λG H x' z Q R I k _=>⟨_,_,_,_,_,O,bE (k.bG _ x) _,?_⟩;subst I;intro m7;refine Gr.bV (h:=[.i 0,.i 0,.i 0,.s .nil,.s .nil]) (j:=0) (o:=[.s s,.i j]) (v:=A) j9.aP cD (h.ext j9.aP k) ((w.J k).fz []) ⟨G,H,O,Q,R⟩ cB (B.ext k) bO cD ⟨V,bO⟩ (λl n=>by have E:=T l n;have J:=k.aQ;omega) λr' m' g' E J z' q'=>aa V _ ⟨J.ext,r',?_,E⟩
  grind [bX]
 .rw[eQ V]at h;refine⟨s,B.dx 0,j,B.dx 1,?_⟩;intro z;have t:=h.ne B cD;have k:Le (dA (e.size::g.size::c) v) (dA c z):=dV bO λl n=>aX _ (aX _ n);refine⟨s,.mk bA j,O,iN.le k (h.rS j9.aP (λn=>?_) cD (by show bA.length<=_;omega)),O,f.aV V _ _⟩;grind
def aeU(a:Bk):Prop:=∀(b:bh)(t:E)(f:Int),iN b t a.bA->sS 326 [.agg #[t.v,vi a.bQ],vi f] b
def Oj:∀c:Bk,aeU c:=by
 refine Bk.ind ?_;intro bA X G b t q l;simp only[Bk.mV,Bk.lV]at*;apply GY;simp -zeta only[dR];intro g;have z:=px g;have C:∀c∈[b.size],c<g.size:=by simp[g]
 have F:=l.aT;refine gP (F▸l.kM) (λ_ M=>D g M) cY ?_;rintro k m I μ W p K
 have f:=z.J p;refine⟨λi=>?_,λ_=>rA f⟩;simp only[bg]at i;let⟨y,u⟩:=dU bA k;let⟨pa,v,T,j,A,g1,g2,S,s⟩:=l.bt u;have B:=j.aT;have L:∃(h:Int->bh->Prop)(μ0_1:Int->bh->Nat),h 0 m/\(∀(a:Int)(M:bh),h a M->
  0<=(k:Int)/\(k:Int)<(t.len:Int)/\∃o:E,aS M t.bu (t.off+Int.toNat (k:Int)*5+4)=some o.v/\
  ((decide (a<(o.len:Int)))=true->0<=(k:Int)/\(k:Int)<(t.len:Int)/\∃d:E,aS M t.bu (t.off+Int.toNat (k:Int)*5+4)=some d.v/\
   0<=a/\a<(d.len:Int)/\∃w:E,aS M d.bu (d.off+a.toNat*2)=some w.v/\∃x:Int,aS M d.bu (d.off+a.toNat*2+1)=some (vi x)/\
   bK dO 326 [.agg #[w.v,vi x],vi q] M λr e=>gS [b.size] M e/\∃n:Bool,r=vb n/\(n=true->∃c:Bool,vb true=.bool c/\D b e)/\(n=false->h (eI (a+1)) e/\μ0_1 (eI (a+1)) e<μ0_1 a M))/\
  ((decide (a<(o.len:Int)))=false->I (eI ((k:Int)+1)) M/\μ (eI ((k:Int)+1)) M<μ k m)):=by
  refine gP (B▸j.kM) (λ_ M=>D m M) cY ?_
  rintro H M Q μ2 U d J
  have a:=f.J d
  refine⟨V,V,v,a.aS s,λi=>?_,λ_=>K V _ (p.J d)⟩
  simp only[bg]at i
  let⟨c,n⟩:=dU y.dv H
  let⟨tb,x,o,w⟩:=j.bt n
  refine⟨V,V,v,a.aS s,V,V,_,a.aS o,_,a.aS w,?_⟩
  exact(G y (aZ u) c (aZ n) M tb q (x.le a.le)).bL (p.J d) C λR e P N=>⟨_,O,λ_=>rA (z.J N),λ_=>J V _ (d.J P)⟩
 exact⟨V,V,_,f.aS A,λ_=>⟨V,V,_,f.aS g1,λ_=>rA f,λ_=>L⟩,λ_=>L⟩
def Ou{m:af}(g:iF b d r m e)(h:Int):sS 295 [.agg #[d.v,r.v],vi h] b:=by
 apply Hf;simp -zeta only[dR];intro a;have j:=px a;have s:∀f∈[b.size],f<a.size:=by simp[a]
 have J:=g.lI.aT;have H:=g.p7;refine gP (n:=e.length) V (λ_ M=>D a M) cY ?_;rintro u v I μ G k w
 have c:=j.J k;refine⟨λq=>?_,λ_=>rA c⟩;simp only[bg]at q;let⟨x,t⟩:=dU e u;let⟨K,L,f,A,B,l,C,E,F,o,p⟩:=g.lI.bt t;exact⟨V,V,_,c.aS o,_,c.aS p,(Oj x.eY v f h (l.le c.le)).bL k s λz y M i=>⟨_,O,λ_=>rA (j.J i),λ_=>w V _ i⟩⟩
abbrev GII(c:ad)(a b:bh)(s:E)(l:List ab):Prop:=Gr c a b Ci 1 qD s l
def KP(Y:∀a∈c,a<b.size){R:af}(m:iF b d r R e)(hp:∀x∈e,x.aY.length<=3):
 bK dO 260 [.agg #[d.v,r.v]] b λae G=>∃s l,ae=s.v/\tq (dA c G) s l/\l.length=e.length/\(∀a∈l,a.length<=3)/\D b G:=by
 apply Dg
 simp -zeta only[dR]
 intro f H
 have N:=px f
 have v:∀y∈[b.size],y<f.size:=by simp[f]
 have ag:=px H
 have U:GII c f H (.mk f.size 0 0 0) []:=Gr.bF c bY
 have ak:=m.lI.aT;have aj:=m.p7
 have B:∀a∈c,a<f.size:=λa u=>N.lt (Y a u)
 refine gL (n:=e.length) V (λk s M=>D f M/\∃l,GII c f M s l/\l.length=k/\∀a∈l,a.length<=3) ⟨ag,[],U,O,bO⟩ ?_
 rintro k s I P μ hk ⟨q,l,t,ah,A⟩ aa
 have p:=N.J q
 have g:=t.cJ
 refine dit (λX=>?_) λX=>?_
 .let⟨x,C⟩:=dU e k
  let⟨ac,al,y,Q,c2,c3,S,e1,e2,e3,e4⟩:=m.lI.bt C
  have ai:=hp x (aZ C)
  have kG:∀(M:bh)(h:E)(a:ab),D I M->be (dA (s.bu::c) M) h a->a.length<=3->mj (M.push (.cells (db [.s h]) Ci)) Ci [.s E.nil] 24 s (E.mk M.size 0 1 1) λK j=>gS [b.size] (M.push (.cells (db [.s h]) Ci)) j/\P K (eI ((k:Int)+1)) j/\μ K (eI ((k:Int)+1)) j<μ s k I:=λM h a w Z u=>
   Gr.nE qD.aP cD (t.ext qD.aP w) ((q.J w).fz []) ⟨h,O,Z⟩ V λr' j T z _ _=>⟨D.sM ((q.J w).bZ _) z.ext v,aa V _ _ ⟨z.ext,_,T,eX,λi g=>by
    rcases bU.1 g with g|g
    .exact A i g
    .simp at g;subst g;exact u⟩⟩
  refine(Ou (m.le p.le) k).bL q v λa m4 i L=>⟨_,O,λ_=>?_,λ_=>⟨V,V,ac,(p.J i).aS S,?_⟩⟩
  .intro o m6
   exact kG o _ [] (i.bZ _) pX bO
  .refine(vM bO (j:=0) ((Q.ext (p.J i)).le Ev) V).bL L v λad F o W J x5 u5=>⟨_,O,?_⟩
   intro m6
   have hg:GI (s.bu::c) m4 o ad F:=W.jY
   exact kG o _ F (i.J x5) (hg.cy (dD B L.aQ (oh i.aQ)) (oh J.2)) (oh J.2)
 .exact⟨s,l,O,t.cy qD.aP B cD V,V,A,p⟩
def aeV(c:af)(e:List j7)(a:Bk):Prop:=∀(b:bh)(d r t:E)(v:Int)(g:Prop)(f:Nat),iF b d r c e->iN b t a.bA->WB c e.length g f a->sS 296 [.agg #[d.v,r.v],.agg #[t.v,vi a.bQ],vi v] b
def EP{y:af}:∀c:Bk,aeV y e c:=by
 refine Bk.ind ?_;intro bA ag Z b d r ah ac j ae z q X;have Y:=X.cw.1;simp only[Bk.mV,Bk.lV]at*;apply zy;simp -zeta only[dR];intro F G;let⟨J,hl⟩:=fU (a:=F) (c:=G) O O;have U:=q.aT;refine⟨λ_=>rA J,λ_=>?_⟩;refine gP (U▸q.kM) (λ_ M=>D G M) cY ?_;rintro E t ad μ hk K ab
 have f:=J.J K;refine⟨λh=>?_,λ_=>rA f⟩;simp only[bg]at h;let⟨x,s⟩:=dU bA E;let⟨pa,pk,k,o,P,g1,g2,Q,R⟩:=q.bt s;have A:=Y E x s;have S:=k.aT;have T:=o.aT;refine⟨V,V,_,f.aS P,_,f.aS g1,_,f.aS g2,_,f.aS Q,_,f.aS R,?_⟩;intro m3 m;have L:D t m:=by grind [D.push,D.aV]
 have s4:m.size=t.size+1:=by grind [bD]
 have p:∀c∈[t.size,F.size,b.size],c<m.size:=λc l=>by
  grind [D.J,D.lt]
 refine gP (S▸k.kM) (λ_ M=>D m M) cY ?_;rintro C H I1 μ1 hj i v;have w:=(f.J L).J i;refine⟨λh=>?_,λ_=>?_⟩
 .simp only[bg]at h;let⟨W,N⟩:=dU x.aO C;refine⟨V,V,W,(k.ext w).bt N,λ_=>?_,λ_=>v V _ i⟩;refine(Cu x.op H).bL i p λj u g B=>⟨_,O,λ_=>?_,λ_=>v V _ B⟩;have a:=w.J g;exact(se (⟨z.le a.le,k.ext a,A.iY.jE⟩:At u d r pa pk y e x) C).bL B p λj m7 n I=>⟨_,O,λ_=>rA (a.J n),λ_=>v V _ I⟩
 .refine gP (T▸o.kM) (λ_ M=>D H M) cY ?_;rintro B u I2 μ2 hi g aa;have a:=w.J g;refine⟨λh=>?_,λ_=>ab V _ (((K.J L).J i).J g)⟩;simp only[bg]at h;let⟨c,l⟩:=dU x.dv B;let⟨tb,W,M,N⟩:=o.bt l;refine⟨V,V,_,a.aS M,_,a.aS N,?_⟩;exact(Z x (aZ s) c (aZ l) u d r tb ac j _ (z.le a.le) (W.le a.le) (A.dv B c l)).bL (i.J g) p λj m7 n I=>⟨_,O,λ_=>rA (a.J n),λ_=>aa V _ (g.J n)⟩
def Ow(Z:∀g∈c,g<b.size){x:af}(p:iF b d r x e){g:Prop}(N:CF x e g W){z:Nat}{q:j7}(s:e[z]? =some q):oA 261 [.agg #[d.v,r.v],vi z] b c λl=>l.length<=q.df.length:=by
 apply Hg;simp -zeta only[dR];intro f E;have G:=px f;have B:∀j∈[b.size],j<f.size:=by simp[f]
 have R:=px E;have L:GI c f E (.mk f.size 0 0 0) []:=GI.gN c f;have ae:=p.lI.aT;have aa:=br s;let⟨ad,ac,P,hw⟩:=N.eR q (aZ s);let⟨ah,v,j,T,k,I,X,m,Y,J,K⟩:=p.lI.bt s;have ag:=k.aT;refine gL (n:=q.df.length) V (λt u M=>D f M/\∃l,GI c f M u l/\l.length<=t) ⟨R,[],L,bY⟩ ?_;rintro t u Q S μ ab ⟨H,l,o,hc⟩ F
 have a:=G.J H;refine⟨V,V,v,a.aS m,λh=>?_,λh=>⟨u,l,O,o.cV (λ_ h=>h) G.aQ,V,a⟩⟩;simp only[bg]at h;let⟨y,C⟩:=dU q.df t;refine⟨V,V,_,a.aS J,_,a.aS K,V,V,v,a.aS m,V,V,y,(k.ext a).bt C,?_⟩;refine(EP q.eY Q d r j y g _ (p.le a.le) (I.le a.le) P).bL H B λU m4 i w=>⟨_,O,λ_=>⟨V,V,v,(a.J i).aS m,V,V,y,(k.ext (a.J i)).bt C,?_⟩,λ_=>F V _ _ ⟨w,l,o.ext i,V⟩⟩;intro m5;exact GI.nE (o.ext i) (w.fz []) V λr m6 M A _ _=>⟨D.sM (w.bZ _) A.ext B,F V _ _ ⟨A.ext,_,M,eX⟩⟩
end
section
variable{b:ad}{e:bh}{d r:E}{f:List j7}{c:Prop}{W:Nat}
def Cz(K:∀c∈b,c<e.size){lt:E}{s:af}{B:List ab}(w:iF e d r s f)(hW:W<=1000000)(hk:CF s f c W)(ae:tq e lt B)(aJ:B.length=f.length)(ap:∀c∈B,c.length<=3):
 zg 259 [.agg #[d.v,r.v],lt.v] e b s λx=>CF s x c W/\x.length=f.length:=by
 apply HF
 simp -zeta only[dR]
 intro g a2
 let⟨F,N⟩:=fU (a:=g) (c:=a2) O O
 have s1:=pz g
 have au:=w.lI.aT;have aL:=w.p7
 refine(jJ (b:=g.size::b) (dD K F.aQ (N _ bO)) (w.le F.le).bT w.dm).aP λ_ Q⟨dd,h,an,X⟩=>?_
 subst h
 refine⟨X.eW N,_,O,?_⟩
 intro n aB aC
 have u2:=F.J X
 let⟨x5,B0,g0,s3,s5⟩:=om (b:=n.size::g.size::b) ly.aP (d:=Q) (a:=n) (c:=aB) (j:=aC) O O O
 have ad:∀c∈[g.size,e.size],c<Q.size:=by grind [D.lt]
 have aG:∀c∈g.size::b,c<Q.size:=λc t=>X.lt (dD K F.aQ (N _ bO) c t)
 refine nV (R:=λj k M=>∃d r x,Value.agg #[j.v,k.v]=.agg #[d.v,r.v]/\iF (dA b M) d r s x/\(CF s x c W/\x.length=f.length)/\D e M) ly.aP cD cD K ⟨V,ad _ bO⟩ u2 s3 an au V x5 B0 g0 (λ_ q=>q.aY.length<=3/\q.df.length<=3/\WB s f.length c q.aY.length q.eY/\q.eY.w<=W) (λk T ai m' h1 z j l m=>⟨k,T,ai,O,⟨h1,z,w.dm,V⟩,⟨Mg hk.ju j l,j⟩,m⟩) λah M o ai aE μ ao aI Z ac H aD=>?_
 let⟨q,hq⟩:=dU f ah ao
 let⟨ar,aH,ax,hw⟩:=hk.eR q (aZ hq)
 have v6:=u2.J Z
 let⟨aN,aO,m,c1,c2,c3,e0,e1,e2,e3,e4⟩:=w.lI.bt hq
 have G:∀{ak:Value}{m v:Nat},aS e m v=some ak->aS M m v=some ak:=λJ=>v6.aS J
 refine⟨V,V,_,G e0,_,G e1,_,G e2,_,G e3,_,G e4,?_⟩
 intro m7 l
 have hy:=ac.cJ
 have aF:=H.lt
 have zM:=Z.aQ
 have Y:D M l:=by grind [D.push,D.aV]
 have s8:l.size=M.size+1:=by grind [bD]
 have A:∀c∈[M.size,g.size,e.size],c<l.size:=λc t=>by
  grind
 have y:=v6.J Y
 have k:∀{M1 M2:bh},D l M1->D l M2->∀m,m<l.size->∀v,aS M2 m v=aS M1 m v:=λJ h' m hb v=>bE cB v
 have u:M.size<l.size:=V
 have P:n.size<l.size:=V
 let⟨aa,ag⟩:=dU B ah
 let⟨yt,az,I⟩:=ae.bt ag
 have ay:=ap aa (aZ ag)
 have aK:=ae.aT
 have L:∀{M':bh},l.size<=M'.size->∀c∈o.bu::n.size::g.size::b,c<M'.size:=λJ c t=>by
  grind
 refine⟨o,(H.ext Y).dx 1,V,V,yt,y.aS I,?_⟩
 refine(dB (o.bu::n.size::g.size::b) (c1.ext y) V).bL (D.cT l) A λp' _ m9 gp h j _=>⟨_,O,k cY j _ u _,k cY j _ u _,k cY j _ u _,((y.J j).aS I).trans (y.aS I).symm,k cY j _ P _,?_⟩
 subst h
 refine(dB (o.bu::n.size::g.size::b) (az.ext (y.J j)) V).bL j A λt' _ aA gt h al p=>⟨_,O,k j p _ u _,k j p _ u _,k j p _ u _,k j p _ P _,?_⟩
 subst h
 have z9:=j.aQ;have AU:=al.aQ
 refine(Au q.eY (o.bu::n.size::g.size::b) aA (L V) m (c3.le (y.J p).le) V).bL p A λss b' aj av h am C=>⟨_,_,O,k p C _ u _,k p C _ P _,?_⟩
 subst h
 intro aM
 have U:=Y.J C
 have aP:=C.aQ
 have aq:be (dA (o.bu::n.size::g.size::b) aj) p' q.aY:=(gp.cy (L V) V).le ((al.J am).fj)
 have aw:be (dA (o.bu::n.size::g.size::b) aj) t' aa:=(gt.cy (L V) V).le am.fj
 exact Gr.bV (h:=[.s .nil,.s .nil,.i 0,.s .nil,.i 0]) (j:=1) (w:=88) (o:=[.s dd,.s o]) (v:=⟨q.aY,aa,q.bQ,q.eY⟩) ly.aP cD (ac.ext ly.aP U) ((Z.J U).fz []) ⟨p',t',ss,O,aq,aw,av⟩ V (H.ext U) bO cD ⟨V,bO⟩ (λc t=>by have h1:=A c t;have z:=ad c;simp only[bo]at t z;rcases t with h|h|h|h<;>first|omega|(have:=z (by simp[h]);omega)|simp at h) λT m' g' z f' z' q'=>aD T m' _ g' z f'.ext ⟨ar,ay,ax,hw⟩
def OB(hS:∀c∈b,c<e.size){w:af}(hn:iF e d r w f)(hW:W<=1000000)(hk:CF w f c W):zg 244 [.agg #[E.v d,E.v r]] e b w λp=>CF w p c W:=by
 apply Hj;simp -zeta only[kJ,nO];intro k a2;let⟨x2,F⟩:=fU (a:=k) (c:=a2) O O;have s1:=pz k;clear_value a2;have ay:=hn.p7;have ag:∀c∈k.size::b,c<a2.size:=dD hS x2.aQ (F _ bO);have j:∀{M o:bh},D a2 M->D a2 o->∀aa,aS o e.size aa=aS M e.size aa:=λq h' aa=>bE (by rw[h'.bG _ (F _ bO),q.bG _ (F _ bO)]) aa;have tail:∀(J:bh)(a:Nat)(v u:E)(A:List j7),D a2 J->a2.size<=a->dF J a qU [.s v,.s u]->iF (dA (a::k.size::b) J) v u w A->CF w A c W->
  ∃(I0:Int->bh->Prop)(μ0:Int->bh->Nat),I0 0 J/\(∀(l:Int)(t:bh),I0 l t->
   ((decide (l<=12))=true->
    let R:=t.push (.cells (db []) Ci)
    ∃(y:E->Int->bh->Prop)(μ1:E->Int->bh->Nat),y (E.mk t.size 0 0 0) 0 R/\(∀(s:E)(x:Int)(g:bh),y s x g->
     ∃B:E,aS g a 1=some (E.v B)/\
     ((decide (x<(B.len:Int)))=true->∃h:E,aS g a 0=some (E.v h)/\∃i:E,aS g a 1=some (E.v i)/\
      bK dO 261 [.agg #[E.v h,E.v i],vi x] g λr2 L=>gS [k.size,e.size] g L/\∃U:E,r2=E.v U/\
       let Z:=L.push (.cells (db [.s U]) Ci)
       mj Z Ci [.s E.nil] 24 s (E.mk L.size 0 1 1) λC z=>gS [k.size,e.size] Z z/\y C (eI (x+1)) z/\μ1 C (eI (x+1)) z<μ1 s x g)/\
     ((decide (x<(B.len:Int)))=false->∃h:E,aS g a 0=some (E.v h)/\∃i:E,aS g a 1=some (E.v i)/\
      bK dO 259 [.agg #[E.v h,E.v i],E.v s] g λG H=>gS [k.size,e.size] g H/\∃z:E,∃C:E,G=.agg #[E.v z,E.v C]/\jb H a 0 2/\
       let I:=aV H a 0 [.s z,.s C]
       gS [k.size,e.size] H I/\I0 (eI (l+1)) I/\μ0 (eI (l+1)) I<μ0 l t)))/\
   ((decide (l<=12))=false->∃h:E,aS t a 0=some (E.v h)/\∃i:E,aS t a 1=some (E.v i)/\
    let ac:=aV t k.size 0 [.s h,.s i]
    ∃d r p,Value.agg #[E.v h,E.v i]=.agg #[E.v d,E.v r]/\iF (dA b ac) d r w p/\CF w p c W/\D e ac)):=by
  intro J a v u A Q ao hB hN P
  refine gP (n:=13) V (λ_ M=>D a2 M/\∃v u A,dF M a qU [.s v,.s u]/\iF (dA (a::k.size::b) M) v u w A/\CF w A c W) ⟨Q,v,u,A,hB,hN,P⟩ ?_
  rintro aB t av μ ax ⟨x6,v,u,A,G,N,K⟩ au
  have aw:=G.lt
  have aA:=N.lI.aT
  have az:=N.p7
  refine⟨λq=>?_,λq=>?_⟩
  .simp only[bg]at q
   intro R
   have al:=px R
   have g0:GII [] t R (.mk t.size 0 0 0) []:=Gr.bF _ bY
   refine gL (n:=A.length) V (λx s M=>D t M/\∃l,GII [] t M s l/\l.length=x/\∀c∈l,c.length<=3) ⟨al,[],g0,O,bO⟩ ?_
   rintro x s g I2 μ2 hf ⟨B,l,Y,am,y⟩ ai
   have u8:=x6.J B
   have N8:=N.le B.fj
   refine⟨u,(G.ext B).dx 1,dit (λC=>?_) λC=>?_⟩
   .let⟨T,X⟩:=dU A x
    have ak:=(K.eR T (aZ X)).2.1
    have h:=Y.cJ
    refine⟨v,(G.ext B).dx 0,u,(G.ext B).dx 1,?_⟩
    refine(Ow (c:=[s.bu]) eX (N8.le fL) K X).bL u8 F λU an L ae ap x9 u9=>⟨_,O,?_⟩
    intro Z
    refine Gr.nE qD.aP cD (Y.ext qD.aP x9) ((B.J x9).fz []) ⟨U,O,ae.cy eX V⟩ V λz o g' i _ _=>⟨D.sM (u9.bZ _) (x6.J i.ext) F,ai V _ _ ⟨i.ext,_,g',eX,λah h=>?_⟩⟩
    rcases bU.1 h with h|h
    .exact y ah h
    .simp at h;subst h;omega
   .refine⟨v,(G.ext B).dx 0,u,(G.ext B).dx 1,?_⟩
    have ae:tq g s l:=fW.le (Y.cy qD.aP bO cD V) fL (qD.le fL)
    have z8:=B.aQ
    refine(Cz (b:=a::k.size::b) (λc i=>?_) (N8.le fL) hW K ae V y).aP λ_ H⟨d2,r2,ak,h,N2,⟨K2,_⟩,U⟩=>?_
    .rcases bo.1 i with h|h
     .omega
     .have:=ag c h;omega
    subst h
    have Z:=(G.ext B).ext U
    refine⟨u8.aaX F U,_,_,O,Z.jb bO,?_⟩
    intro I
    have ah:∀L,L≠a->I[L]? =H[L]? :=λL hb=>cq _ _ _ _ hb
    refine⟨λc i=>ah c (oh (F c i)),au V _ ⟨(u8.J U).aV ao _ _,d2,r2,ak,dF.aV (m:=H) Z,N2.le (dV bO λ_ q=>q),K2⟩⟩
  .refine⟨v,G.dx 0,u,G.dx 1,?_⟩
   intro ac
   exact⟨v,u,A,O,(N.le (mR t λc i=>aX _ i)).le (dV bO λc i=>aX _ i),K,(x2.J x6).aV V _ _⟩
 have ap:∀T∈f,T.aY.length<=3:=λT X=>(hk.eR T X).1;have ai:∀(M:bh)(L:ad)(K:aj),D a2 M->(∀c∈L,c<M.size)->(∀s l o,tq o s l->l.length=f.length->(∀c∈l,c.length<=3)->D M o->K (E.v s) o)->bK dO 260 [.agg #[E.v d,E.v r]] M λah R=>gS L M R/\K ah R:=λM L K Q hL P=>
  (KP (c:=[]) bO (hn.le (x2.J Q).le) ap).aP λ_ o⟨s,l,h,H,C,y,U⟩=>⟨U.eW hL,h▸P s l o (fW.le H fL (qD.le fL)) C y U⟩
 have df:∀(M:bh)(S' L:ad)(K:aj)(s:E)(l:List ab),D a2 M->(∀c∈L,c<M.size)->(∀c∈S',c<M.size)->tq M s l->l.length=f.length->(∀c∈l,c.length<=3)->(∀B z p o,iF (dA S' o) B z w p->CF w p c W->D M o->K (.agg #[E.v B,E.v z]) o)->bK dO 259 [.agg #[E.v d,E.v r],E.v s] M λah R=>gS L M R/\K ah R:=λM S' L K s l Q hL an H C y P=>
  (Cz an (hn.le (x2.J Q).le) hW hk H C y).aP λ_ o⟨B,z,p,h,N,⟨K1,_⟩,U⟩=>⟨U.eW hL,h▸P B z p o N K1 U⟩
 have ak:∀{M:bh}{a:Nat},D a2 M->a<M.size->∀c∈a::k.size::b,c<M.size:=λq hb c i=>by
  have:=q.aQ;rcases bo.1 i with h|h
  .omega
  .have:=ag c h;omega
 have ae:∀{M:bh}{a:Nat},D a2 M->a<M.size->∀c∈[a,k.size,e.size],c<M.size:=λq hb c i=>by
  rcases bo.1 i with h|h
  .omega
  .exact q.lt (F c h)
 refine⟨ai a2 _ _ cY F λs l Z H C y g=>⟨_,O,j cY g _,j cY g _,⟨?_,?_⟩⟩,?_⟩
 .refine df Z (k.size::b) _ _ s l g (λc i=>g.lt (F c i)) (λc i=>g.lt (ag c i)) H C y λB z p m3 N K I=>⟨_,_,O,?_⟩;have x:=g.J I;intro m4;have Y:D a2 m4:=x.bZ _;refine⟨j x Y _,j x Y _,j x Y _,j x Y _,?_⟩;intro m5;have ac:=py m5;exact tail m5 m3.size B z p (x.J ac) x.aQ (dF.aV (m:=m4) (dF.push m3 _ _)) (N.le (ac.dA λc i=>by
   rcases bo.1 i with h|h
   .exact bR V
   .exact bC h)) K
 .intro Y;have x:D a2 Y:=g.bZ _;refine⟨j g x _,j g x _,j g x _,j g x _,?_⟩;refine df Y (Z.size::k.size::b) _ _ s l x (ae x (by simp[Y])) (ak x (by simp[Y])) (tq.ext (D.push _ _) H) C y λB z p ac N K I=>⟨_,_,O,?_⟩;intro al;exact tail al Z.size B z p ((x.J I).aV g.aQ _ _) g.aQ (dF.aV (m:=ac) ((dF.push Z _ _).ext I)) (N.le (dV bO λ_ q=>q)) K
 .intro Y;have x:=px Y;refine⟨j cY x _,j cY x _,j cY x _,j cY x _,?_⟩;refine ai Y _ _ x (ae x (by simp[Y])) λs l am H C y g=>⟨_,O,j x (x.J g) _,j x (x.J g) _,?_⟩;have ac:=x.J g;have al:a2.size<am.size:=g.lt (by simp[Y]);refine df am (a2.size::k.size::b) _ _ s l ac (ae ac al) (ak ac al) H C y λB z p aq N K I=>⟨_,_,O,?_⟩;intro ar;exact tail ar a2.size B z p ((ac.J I).aV bY _ _) bY (dF.aV (m:=aq) ((dF.push a2 _ _).ext (g.J I))) (N.le (dV bO λ_ q=>q)) K
end
end Go.Proofs.YtbbbdejieenniaaGreat
