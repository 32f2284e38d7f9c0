/- Part of a proof. -/
import Derived.Test.YtbbbdejieenniaaGreatRD00
set_option linter.all false
set_option maxHeartbeats 8000000
set_option maxRecDepth 100000
namespace Go.Proofs.YtbbbdejieenniaaGreat
open Go.Vc
section
open Tryz
variable{m:bg}{R:aj}
variable{a b p d e f g h r u v w x y z B:E}{i j k l q o s t C D F G H I J K:Int}
def vJ(a b:Int)(c:Bool)(d e f:Int):=eK m R A0 [.agg [a,b,.t c,d,e,f]] func238
def vK(i:Int):=eK m R A0 [i] func239
def BO(p:ai):=eK m R A0 [p,i] func240
def DH(a:E):=eK m R A0 [a,i,j] func241
def Fv(a:E):=eK m R ⟨[(3,[(4,.I)])],[(8,[(7,.P)])],[(3,[51,50]),(8,[54,51,50])]⟩ [.agg [a,b]] func242
def wq(r:ai)(m:bg)(R:aj):Prop:=
 let M:bg:=m.push (.cells (db [.s E.nil,.s E.nil]) 109)
 bK dO 200 [vp r.1 r.2] M λcb a=>
 gS [m.size] M a/\
 ∃o,cb=E.v o/\
 let b8:bg:=a.push (.cells (db [.s E.nil,.s E.nil]) 109)
 OZ a.size a.size (
 let Z:bg:=aV b8 a.size 0 [.s o,.s E.nil]
 let ag:bg:=Z.push (.cells (db [.i 1]) 3)
 bK dO 257 [E.v (E.mk Z.size 0 1 1),vi 0] ag λcm F=>
 gS [a.size,m.size] ag F/\
 ∃ao aH a0 bh bz,cm=.agg #[E.v ao,vi aH,vi a0,vi bh,E.v bz]/\
 let am:bg:=F.push (.cells (db [.i 1,.i 1]) 3)
 bK dO 257 [E.v (E.mk F.size 0 2 2),vi 1] am λct H=>
 gS [a.size,m.size] am H/\
 ∃ap aQ a9 bi bA,ct=.agg #[E.v ap,vi aQ,vi a9,vi bi,E.v bA]/\
 let an:bg:=H.push (.cells (db [.i 1]) 3)
 bK dO 257 [E.v (E.mk H.size 0 1 1),vi 1] an λcu I=>
 gS [a.size,m.size] an I/\
 ∃az aR a_ bq bI,cu=.agg #[E.v az,vi aR,vi a_,vi bq,E.v bI]/\
 let N:bg:=I.push (.cells (db [.i 1,.i 0]) 3)
 bK dO 257 [E.v (E.mk I.size 0 2 2),vi 1] N λcv t=>
 gS [a.size,m.size] N t/\
 ∃aA aT ba br bJ,cv=.agg #[E.v aA,vi aT,vi ba,vi br,E.v bJ]/\
 let O:bg:=t.push (.cells (db [.i 2,.i 1]) 3)
 bK dO 257 [E.v (E.mk t.size 0 2 2),vi 1] O λcw u=>
 gS [a.size,m.size] O u/\
 ∃aB aU bb bs bL,cw=.agg #[E.v aB,vi aU,vi bb,vi bs,E.v bL]/\
 let P:bg:=u.push (.cells (db [.i 1,.i 1]) 3)
 bK dO 257 [E.v (E.mk u.size 0 2 2),vi 0] P λcx c=>
 gS [a.size,m.size] P c/\
 ∃aC aW bc bt bM,cx=.agg #[E.v aC,vi aW,vi bc,vi bt,E.v bM]/\
 let Q:bg:=c.push (.cells (db [.s ao,.i aH,.i a0,.i bh,.s bz,.s ap,.i aQ,.i a9,.i bi,.s bA,.s az,.i aR,.i a_,.i bq,.s bI,.s aA,.i aT,.i ba,.i br,.s bJ,.s aB,.i aU,.i bb,.i bs,.s bL,.s aC,.i aW,.i bc,.i bt,.s bM]) 164)
 let S:bg:=Q.push (.cells (db [.i 3]) 3)
 bK dO 257 [E.v (E.mk Q.size 0 1 1),vi 0] S λcc v=>
 gS [a.size,m.size] S v/\
 ∃aD aX bd bu bN,cc=.agg #[E.v aD,vi aX,vi bd,vi bu,E.v bN]/\
 let T:bg:=v.push (.cells (db [.i 0]) 3)
 bK dO 257 [E.v (E.mk v.size 0 1 1),vi 1] T λcd w=>
 gS [a.size,m.size] T w/\
 ∃aE aY be bv bO,cd=.agg #[E.v aE,vi aY,vi be,vi bv,E.v bO]/\
 let U:bg:=w.push (.cells (db [.i 0,.i 1]) 3)
 bK dO 257 [E.v (E.mk w.size 0 2 2),vi 1] U λce x=>
 gS [a.size,m.size] U x/\
 ∃aF aZ bf bw bP,ce=.agg #[E.v aF,vi aZ,vi bf,vi bw,E.v bP]/\
 let V:bg:=x.push (.cells (db [.i 3,.i 0]) 3)
 bK dO 257 [E.v (E.mk x.size 0 2 2),vi 3] V λcf y=>
 gS [a.size,m.size] V y/\
 ∃aG aI a1 bx bQ,cf=.agg #[E.v aG,vi aI,vi a1,vi bx,E.v bQ]/\
 let W:bg:=y.push (.cells (db [.i 3]) 3)
 bK dO 257 [E.v (E.mk y.size 0 1 1),vi 1] W λcg z=>
 gS [a.size,m.size] W z/\
 ∃aq aJ a2 bj bB,cg=.agg #[E.v aq,vi aJ,vi a2,vi bj,E.v bB]/\
 let X:bg:=z.push (.cells (db [.i 1,.i 3,.i 0]) 3)
 bK dO 257 [E.v (E.mk z.size 0 3 3),vi 0] X λch g=>
 gS [a.size,m.size] X g/\
 ∃ar aK a3 bk bC,ch=.agg #[E.v ar,vi aK,vi a3,vi bk,E.v bC]/\
 let Y:bg:=g.push (.cells (db [.s aD,.i aX,.i bd,.i bu,.s bN,.s aE,.i aY,.i be,.i bv,.s bO,.s aF,.i aZ,.i bf,.i bw,.s bP,.s aG,.i aI,.i a1,.i bx,.s bQ,.s aq,.i aJ,.i a2,.i bj,.s bB,.s ar,.i aK,.i a3,.i bk,.s bC]) 164)
 let aa:bg:=Y.push (.cells (db [.i 0]) 3)
 bK dO 257 [E.v (E.mk Y.size 0 1 1),vi 0] aa λci A=>
 gS [a.size,m.size] aa A/\
 ∃au aL a4 bl bD,ci=.agg #[E.v au,vi aL,vi a4,vi bl,E.v bD]/\
 let ab:bg:=A.push (.cells (db [.i 0,.i 0]) 3)
 bK dO 257 [E.v (E.mk A.size 0 2 2),vi 0] ab λcj B=>
 gS [a.size,m.size] ab B/\
 ∃av aM a5 bm bE,cj=.agg #[E.v av,vi aM,vi a5,vi bm,E.v bE]/\
 let ac:bg:=B.push (.cells (db [.i 1,.i 0]) 3)
 bK dO 257 [E.v (E.mk B.size 0 2 2),vi 0] ac λck C=>
 gS [a.size,m.size] ac C/\
 ∃aw aN a6 bn bF,ck=.agg #[E.v aw,vi aN,vi a6,vi bn,E.v bF]/\
 let ad:bg:=C.push (.cells (db [.i 0]) 3)
 bK dO 257 [E.v (E.mk C.size 0 1 1),vi 1] ad λcl k=>
 gS [a.size,m.size] ad k/\
 ∃ax aO a7 bo bG,cl=.agg #[E.v ax,vi aO,vi a7,vi bo,E.v bG]/\
 let ae:bg:=k.push (.cells (db [.s au,.i aL,.i a4,.i bl,.s bD,.s av,.i aM,.i a5,.i bm,.s bE,.s aw,.i aN,.i a6,.i bn,.s bF,.s ax,.i aO,.i a7,.i bo,.s bG]) 164)
 let af:bg:=ae.push (.cells (db []) 3)
 bK dO 257 [E.v (E.mk ae.size 0 0 0),vi 0] af λcn D=>
 gS [a.size,m.size] af D/\
 ∃ay aP a8 bp bH,cn=.agg #[E.v ay,vi aP,vi a8,vi bp,E.v bH]/\
 bK dO 74 [vp r.1 r.2,vi ((E.mk c.size 0 6 6).len:Int)] D λco i=>
 gS [a.size,m.size] D i/\
 ∃d,co=vi d/\
 0<=d/\d<((E.mk c.size 0 6 6).len:Int)/\
 ∃bS,aS i c.size (0+Int.toNat d*5)=some (E.v bS)/\
 ∃bT,aS i c.size (0+Int.toNat d*5+1)=some (vi bT)/\
 ∃bU,aS i c.size (0+Int.toNat d*5+2)=some (vi bU)/\
 ∃bV,aS i c.size (0+Int.toNat d*5+3)=some (vi bV)/\
 ∃bW,aS i c.size (0+Int.toNat d*5+4)=some (E.v bW)/\
 bK dO 74 [vp r.1 r.2,vi ((E.mk g.size 0 6 6).len:Int)] i λcp e=>
 gS [a.size,m.size] i e/\
 ∃h,cp=vi h/\
 aS e c.size (0+Int.toNat d*5)=aS i c.size (0+Int.toNat d*5)/\
 aS e c.size (0+Int.toNat d*5+1)=aS i c.size (0+Int.toNat d*5+1)/\
 aS e c.size (0+Int.toNat d*5+2)=aS i c.size (0+Int.toNat d*5+2)/\
 aS e c.size (0+Int.toNat d*5+3)=aS i c.size (0+Int.toNat d*5+3)/\
 aS e c.size (0+Int.toNat d*5+4)=aS i c.size (0+Int.toNat d*5+4)/\
 0<=h/\h<((E.mk g.size 0 6 6).len:Int)/\
 ∃bX,aS e g.size (0+Int.toNat h*5)=some (E.v bX)/\
 ∃bY,aS e g.size (0+Int.toNat h*5+1)=some (vi bY)/\
 ∃bZ,aS e g.size (0+Int.toNat h*5+2)=some (vi bZ)/\
 ∃b0,aS e g.size (0+Int.toNat h*5+3)=some (vi b0)/\
 ∃b1,aS e g.size (0+Int.toNat h*5+4)=some (E.v b1)/\
 bK dO 74 [vp r.1 r.2,vi ((E.mk k.size 0 4 4).len:Int)] e λcq b=>
 gS [a.size,m.size] e b/\
 ∃n,cq=vi n/\
 aS b g.size (0+Int.toNat h*5)=aS e g.size (0+Int.toNat h*5)/\
 aS b g.size (0+Int.toNat h*5+1)=aS e g.size (0+Int.toNat h*5+1)/\
 aS b g.size (0+Int.toNat h*5+2)=aS e g.size (0+Int.toNat h*5+2)/\
 aS b g.size (0+Int.toNat h*5+3)=aS e g.size (0+Int.toNat h*5+3)/\
 aS b g.size (0+Int.toNat h*5+4)=aS e g.size (0+Int.toNat h*5+4)/\
 aS b c.size (0+Int.toNat d*5)=aS e c.size (0+Int.toNat d*5)/\
 aS b c.size (0+Int.toNat d*5+1)=aS e c.size (0+Int.toNat d*5+1)/\
 aS b c.size (0+Int.toNat d*5+2)=aS e c.size (0+Int.toNat d*5+2)/\
 aS b c.size (0+Int.toNat d*5+3)=aS e c.size (0+Int.toNat d*5+3)/\
 aS b c.size (0+Int.toNat d*5+4)=aS e c.size (0+Int.toNat d*5+4)/\
 0<=n/\n<((E.mk k.size 0 4 4).len:Int)/\
 ∃b2,aS b k.size (0+Int.toNat n*5)=some (E.v b2)/\
 ∃b3,aS b k.size (0+Int.toNat n*5+1)=some (vi b3)/\
 ∃b4,aS b k.size (0+Int.toNat n*5+2)=some (vi b4)/\
 ∃b5,aS b k.size (0+Int.toNat n*5+3)=some (vi b5)/\
 ∃b6,aS b k.size (0+Int.toNat n*5+4)=some (E.v b6)/\
 let b9:bg:=b.push (.cells (db [.s ay,.i aP,.i a8,.i bp,.s bH,.s bS,.i bT,.i bU,.i bV,.s bW,.s bX,.i bY,.i bZ,.i b0,.s b1,.s b2,.i b3,.i b4,.i b5,.s b6]) 164)
 OZ a.size a.size (
 let ah:bg:=aV b9 a.size 1 [.s (E.mk b.size 0 4 4)]
 let ak:bg:=ah.push (.cells (db [.i 4,.i 4,.i 3,.i 2,.i 4]) 3)
 bK dO 77 [vp r.1 r.2,E.v (E.mk ah.size 0 5 5)] ak λcr al=>
 gS [a.size,m.size] ak al/\
 ∃j,cr=vi j/\
 OZ a.size a.size (
 (0:Int)<=0/\0<=j/\j<=((E.mk b.size 0 4 4).cap:Int)/\
 OZ a.size a.size (
 let b_:bg:=aV al a.size 1 [.s (E.cut (E.mk b.size 0 4 4) 0 (Int.toNat j) 5)]
 ∃(s:Int->bg->Prop)(μ0:Int->bg->Nat),
 s (eJ (j -1)) b_/\
 (∀(f:Int)(p:bg),s f p->
 (decide (f>=0)=true->
 OZ a.size a.size (
 bK dO 258 [vp r.1 r.2,.agg #[E.v o,E.v (E.cut (E.mk b.size 0 4 4) 0 (Int.toNat j) 5)],vi f] p λcs l=>
 gS [a.size,m.size] p l/\
 ∃J K L,cs=.agg #[vi J,vi K,E.v L]/\
 let ca:bg:=l.push (.cells (db [.i 0,.i 0,.s E.nil]) 162)
 OZ l.size l.size (
 let q:bg:=aV ca l.size 0 [.i J,.i K,.s L]
 OZ a.size a.size (
 OZ a.size a.size (
 0<=f/\f<((E.cut (E.mk b.size 0 4 4) 0 (Int.toNat j) 5).len:Int)/\
 ∃b7,aS q b.size (0+Int.toNat f*5)=some (E.v b7)/\
 OZ a.size a.size (
 0<=f/\f<((E.cut (E.mk b.size 0 4 4) 0 (Int.toNat j) 5).len:Int)/\
 ∃bR,aS q b.size (0+Int.toNat f*5+1)=some (vi bR)/\
 OZ l.size l.size (
 0<=f/\f<((E.cut (E.mk b.size 0 4 4) 0 (Int.toNat j) 5).len:Int)/\
 jb q b.size (0+Int.toNat f*5) 5/\
 let G:bg:=aV q b.size (0+Int.toNat f*5) [.s b7,.i bR,.i J,.i K,.s L]
 gS [l.size,a.size,m.size] q G/\
 eqS (SV.box a.size 109 [.s o,.s (E.cut (E.mk b.size 0 4 4) 0 (Int.toNat j) 5)]) (SV.box a.size 109 [.s o,.s (E.cut (E.mk b.size 0 4 4) 0 (Int.toNat j) 5)]) (
 eqS (SV.box m.size 109 [.s E.nil,.s E.nil]) (SV.box m.size 109 [.s E.nil,.s E.nil]) (
 s (eJ (f -1)) G/\μ0 (eJ (f -1)) G<μ0 f p)))))))))/\
 (decide (f>=0)=false->
 OZ a.size a.size (
 OZ m.size m.size (
 let l:bg:=aV p m.size 0 [.s o,.s (E.cut (E.mk b.size 0 4 4) 0 (Int.toNat j) 5)]
 OZ m.size m.size (
 R (.agg #[E.v o,E.v (E.cut (E.mk b.size 0 4 4) 0 (Int.toNat j) 5)]) l)))))))))
def BQ(r:ai)(m:bg)(R:aj)(a:wq r m R):bK dO 243 [vp r.1 r.2] m R:=
 yf (o:=⟨[(9,[(8,.I)])],[],[(9,[113,112])]⟩) (d:=110) (r:=[.cell 2 109]) (a:=[.c (.p r.1 r.2)]) Q4 gok mix Tryz.func243 (m:=Pz Tryz.f243) (by kernel_rfl) (by kernel_rfl) (by kernel_rfl) (by kernel_rfl) bO (by kernel_rfl) (Eq.mp (by kernel_rfl) a)
def Hm(a:E):=eK m R ⟨[(3,[(4,.I)]),(7,[(5,.S),(6,.I)])],[],[(3,[35,34]),(7,[35,34])]⟩ [.agg [a,b]] func244
def EY(a:E):=eK m R ⟨[(5,[(6,.S),(7,.S),(8,.I)])],[],[(5,[69,68,67])]⟩ [.agg [a,b],.agg [p,d,i,e,j]] func245
def Fk(a:E):=eK m R ⟨[(5,[(9,.S),(10,.S),(11,.S),(12,.I)])],[],[(5,[88,86,84])]⟩ [.agg [a,b],p,.agg [d,i],e] func246
def Fx(a:E):=eK m R ⟨[(3,[(3,.S),(4,.I)])],[],[(3,[32])]⟩ [.agg [a,b,i,p,j]] func247
def Cj(a:E):=eK m R ⟨[(4,[(3,.I)])],[],[(4,[36])]⟩ [.agg [a,b]] func248
def Fo(a:E):=eK m R ⟨[(3,[(4,.I)])],[],[(3,[46])]⟩ [.agg [a,b,i,p,j]] func249
def BV(c:ai):=eK m R ⟨[],[(16,[(8,.T)])],[(16,[94,93])]⟩ [c,.agg [a,b],.agg [i,j,k,p,d]] func250
def Ld(i:Int):=eK m R A0 [.agg [i,j,k,a,b]] func251
def Hx(a:E):=eK m R ⟨[(5,[(3,.S),(4,.S),(6,.I)]),(8,[(3,.S),(7,.I)]),(11,[(4,.S),(7,.I)])],[],[]⟩ [a] func252
def Jw(a:E):=eK m R ⟨[(8,[(10,.S),(11,.S),(12,.I)])],[],[(8,[96,92])]⟩ [.agg [a,i],j,b,k] func253
def Hv(a:E):=eK m R A0 [.agg [a,b],.agg [i,j,k,p,d],l,e] func254
def ns(s:E)(f:Fn×Array Value×Array Value):=eK m R ⟨[(2,[(8,.I)])],[],[]⟩ [s,.c (.fv f)] func255
def Du(a:E):=eK m R A0 [.agg [a,b],.agg [i,j,p],d,k] func256
def QX(a:E):=eK m R A0 [a,i] func257
def KQ(p:ai):=eK m R ⟨[],[(7,[(34,.T)]),(9,[(51,.T)]),(11,[(77,.T)]),(15,[])],[(7,[131,127,125]),(9,[131,127,125]),(11,[131,127,125]),(15,[127,125])]⟩ [p,.agg [a,b],i] func258
def HI(a:E):=eK m R ⟨[(3,[(6,.I)])],[],[(3,[49,47])]⟩ [.agg [a,b],p] func259
def Dk(a:E):=eK m R ⟨[(3,[(3,.S),(4,.I)])],[],[(3,[32])]⟩ [.agg [a,b]] func260
def Hj(a:E):=eK m R ⟨[(3,[(5,.S),(6,.I)])],[],[(3,[52])]⟩ [.agg [a,b],i] func261
def Lp(a:E):=eK m R A0 [.agg [a,i],j] func262
def Dm(a:E):=eK m R ⟨[(5,[(11,.S),(12,.S),(13,.S),(14,.I)]),(17,[(13,.S),(20,.I)])],[],[(5,[159,156,154]),(17,[164,159,156,154])]⟩ [.agg [a,b],p,.agg [d,i],e,f] func263
def E8(i:Int):=eK m R ⟨[(3,[(5,.S),(6,.I)])],[],[]⟩ [i,a] func264
def HD(a:E):=eK m R ⟨[],[(3,[]),(30,[(151,.T)])],[(3,[188,186]),(30,[188,186])]⟩ [.agg [a,b],p,.agg [i,j,k,d,e]] func265
def yA(a:E):=eK m R ⟨[(3,[(7,.S),(8,.I)])],[],[(3,[36,34])]⟩ [.agg [a,b],p,.agg [i,j,k,d,e]] func266
def Hl(a:E):=eK m R ⟨[(4,[(7,.S),(9,.I)])],[(9,[(10,.S)])],[(4,[78,77,75]),(9,[78,77,75])]⟩ [.agg [a,b],p,.agg [i,j,k,d,e]] func267
def xT(a:E):=eK m R ⟨[(4,[(3,.I)])],[],[(4,[36])]⟩ [.agg [a,b]] func268
def JE(a:E):=eK m R A0 [.agg [a,i]] func269
def ER(a:E):=eK m R ⟨[(3,[(7,.S),(8,.I)])],[],[(3,[57,55])]⟩ [.agg [a,b],p,.agg [d,i]] func270
def BT(p:ai):=eK m R A0 [p,i,j,k] func271
def BW(p:ai):=eK m R A0 [p,i] func272
def BU(c:ai):=eK m R ⟨[(6,[(9,.I)])],[(4,[])],[(4,[110,109]),(6,[110,109])]⟩ [c,.agg [a,b],.agg [i,j,k,p,d]] func273
def zG(c:ai):=eK m R ⟨[(7,[(9,.I)])],[(3,[])],[(3,[93,92]),(7,[93,92])]⟩ [c,.agg [a,b],.agg [i,j,k,p,d]] func274
def xP(c:ai):=eK m R ⟨[(2,[(7,.I)]),(7,[(8,.I)])],[],[(2,[84,83]),(7,[84,83])]⟩ [c,.agg [a,b],.agg [i,j,k,p,d]] func275
def Lu(a:E):=eK m R ⟨[(3,[(3,.S),(4,.I)])],[],[]⟩ [a] func276
def MN(a:E):=eK m R ⟨[(3,[(5,.I),(6,.I)])],[],[]⟩ [a,i] func277
def FE(a:E):=eK m R ⟨[(2,[(3,.I)])],[],[(2,[21])]⟩ [.agg [a,i]] func278
def GX(a:E):=eK m R ⟨[(3,[(7,.S),(8,.I)])],[],[(3,[38])]⟩ [.agg [a,i],j,k] func279
def AR(a:E):=eK m R ⟨[(4,[(5,.S),(6,.T),(7,.I)])],[],[]⟩ [a,i] func280
def Hu(a:E):=eK m R A0 [.agg [a,i],j,k] func281
def Dr(a:E):=eK m R ⟨[(2,[(3,.I)])],[],[(2,[22])]⟩ [.agg [a,i]] func282
def Ln(a:E):=eK m R ⟨[(2,[(9,.I)])],[],[(2,[40])]⟩ [.agg [a,i],j,k,l] func283
def La(a:E):=eK m R ⟨[(4,[(5,.S),(6,.T),(7,.I)])],[],[]⟩ [a,i] func284
def yC(c:ai):=eK m R ⟨[(13,[(11,.S),(13,.I)]),(22,[(15,.S),(16,.I)])],[(18,[(14,.I)])],[(13,[154,153]),(18,[154,153]),(22,[154,153])]⟩ [c,.agg [a,b],.agg [i,j,p],d] func285
def Jy(a:E):=eK m R ⟨[(2,[(5,.I)])],[],[]⟩ [a,i] func286
def Jp(i:Int):=eK m R A0 [i] func287
def Ho(p:ai):=eK m R ⟨[],[(5,[])],[(5,[31,30])]⟩ [p,.agg [a,b]] func288
def Hq(p:ai):=eK m R ⟨[(6,[(12,.S),(13,.I)])],[(19,[]),(22,[])],[(6,[144,141]),(19,[151,150,144,141]),(22,[150,144,141])]⟩ [p,.agg [a,b],i,j] func289
def Hr(p:ai):=afu m R ⟨[(6,[(9,.S),(10,.S),(11,.I)])],[(13,[(14,.P)]),(15,[])],[(6,[102,100]),(13,[109,108,102,100]),(15,[109,108,102,100])]⟩ [p,.agg [a,b],i] func290
def Hd(p:ai):=eK m R ⟨[(4,[(8,.S),(9,.I)])],[(10,[])],[(4,[81,79]),(10,[81,79])]⟩ [p,.agg [a,b],i] func291
def Jk(c:ai):=eK m R ⟨[(2,[(4,.I)])],[],[(2,[44,40])]⟩ [c,.agg [a,b],p,i,j] func292
def Jv(i:Int):=eK m R A0 [.agg [i,j,a]] func293
def vm(a:E):=eK m R ⟨[(3,[(4,.I)])],[],[(3,[30,29])]⟩ [.agg [a,i]] func294
def Hi(a:E):=eK m R ⟨[(2,[(5,.I)])],[],[(2,[23])]⟩ [.agg [a,b],i] func295
def zD(a:E):=eK m R ⟨[(4,[(7,.I)]),(8,[(9,.I)]),(13,[(10,.I)])],[],[(4,[72,71]),(8,[76,72,71]),(13,[76,72,71])]⟩ [.agg [a,b],.agg [p,i],j] func296
def I8(a:E):=eK m R ⟨[(2,[(3,.S),(9,.I)])],[],[(2,[44])]⟩ [.agg [a,i],j,k,b] func297
def Nc(a:E):=eK m R ⟨[(3,[(5,.S),(6,.I)])],[],[]⟩ [a,b] func298
def Dn(a:E):=eK m R ⟨[(3,[(11,.S),(12,.I)])],[],[(3,[50,48])]⟩ [.agg [a,b],p,.agg [i,j,k,d,e],f,g] func299
def EZ(a:E):=eK m R ⟨[(4,[(11,.S),(13,.I)])],[],[(4,[72,69,67])]⟩ [.agg [a,b],p,.agg [i,j,k,d,e],f,g] func300
def Fl(a:E):=eK m R ⟨[(5,[(11,.S),(12,.I)])],[],[(5,[62,60])]⟩ [.agg [a,b],p,.agg [i,j,k,d,e],f,g] func301
def Fm(a:E):=eK m R ⟨[(3,[(9,.S),(10,.I)])],[],[(3,[55,54])]⟩ [.agg [a,b],.agg [i,j,k,p,d],e,f] func302
def JM(a:E):=eK m R ⟨[(3,[(5,.S),(6,.I)])],[],[]⟩ [a,i] func303
def KZ(i:Int):=eK m R A0 [i] func304
def FL(a:E):=eK m R A0 [a,.agg [i,j,k,b,p]] func305
def Nb(a:E):=eK m R ⟨[(4,[(7,.I)])],[],[]⟩ [a,b,p] func306
def Hk(a:E):=eK m R ⟨[(9,[(9,.I),(10,.I)])],[(5,[(8,.I)])],[(5,[76,74]),(9,[76,74])]⟩ [.agg [a,b],p,.agg [i,j,k,d,e]] func307
def Cb(a:E):=eK m R A0 [.agg [a,b],p,.agg [i,j,k,d,e]] func308
def Jq(a:E):=eK m R A0 [a,i] func309
def AE(a:E):=eK m R A0 [.agg [a,b],p,.agg [i,j,k,d,e]] func310
def Dp(a:E):=eK m R A0 [.agg [a,b],p,.agg [i,j,k,d,e],l] func311
def Ll(a:E):=eK m R ⟨[(3,[(4,.I)])],[],[(3,[37,36])]⟩ [.agg [a,b]] func312
def FH(a:E):=eK m R ⟨[(2,[(1,.I),(5,.I)]),(8,[(1,.I),(6,.I)])],[],[(2,[45]),(8,[45])]⟩ [.agg [a,i],j] func313
def Dt(c:ai):=eK m R ⟨[(9,[(14,.I)])],[],[(9,[89,88])]⟩ [c,.agg [a,b],.agg [i,j,k,p,d],l] func314
def Lf(a:E):=eK m R A0 [.agg [a,b],.agg [i,j,k,p,d],l] func315
def MC(a:E):=eK m R ⟨[(2,[(7,.I)])],[],[(2,[47])]⟩ [.agg [a,i],j,k] func316
def Dq(i:Int):=eK m R A0 [i] func317
def AJ(p:ai):=eK m R A0 [p,.agg [i,j,k,a,b]] func318
def QR(c:ai):=eK m R A0 [c,.agg [a,b],p,i,j] func319
def OH(i:Int):=eK m R A0 [i,j,a] func320
def Ju(p:ai):=eK m R ⟨[(8,[(9,.I)])],[(5,[(7,.P)])],[(5,[51,50,49]),(8,[50,49])]⟩ [p,i] func321
def HG(i:Int):=eK m R A0 [i] func322
def OD(c:ai):=eK m R A0 [c,.agg [a,b],p,i] func323
def Fs(i:Int):=eK m R ⟨[(5,[(1,.I),(5,.I)])],[],[(5,[29])]⟩ [.agg [i,j,a],k] func324
def G9(i:Int):=eK m R ⟨[(3,[(3,.S),(4,.I)])],[],[(3,[35,34])]⟩ [.agg [i,j,k,a,b]] func325
def G6(a:E):=eK m R ⟨[(2,[(5,.I)]),(7,[(6,.I)])],[],[(2,[55]),(7,[55])]⟩ [.agg [a,i],j] func326
def BK(i:Int):=eK m R ⟨[(4,[(2,.S),(7,.I)]),(9,[(2,.S),(8,.I)])],[],[(4,[61]),(9,[61])]⟩ [.agg [i,j,k,a,b],l,p] func327
def Jr(a:E):=eK m R A0 [.agg [a,b],.agg [i,j,k,p,d],l,e,f] func328
def Ha(a:E):=eK m R ⟨[(7,[(16,.S),(17,.S),(18,.I)]),(14,[(19,.S),(20,.I)])],[],[(7,[127,124,121]),(14,[127,124,121])]⟩ [.agg [a,b],p,d,.agg [e,i],f,g] func329
def KS(a:E):=eK m R ⟨[(3,[(5,.S),(6,.I)])],[],[]⟩ [a,b] func330
def Jc(a:E):=eK m R ⟨[(2,[(7,.I)])],[],[]⟩ [a,i,j] func331
def zH(p:ai):=eK m R A0 [p] func332
def AH(c:ai):=eK m R ⟨[(2,[(9,.I)])],[],[(2,[51,50])]⟩ [c,.agg [a,b],.agg [p,i],j] func333
def Jb(c:ai):=eK m R A0 [c,.agg [a,b],p] func334
def KY(c:ai):=eK m R ⟨[(3,[(11,.S),(12,.I)])],[],[(3,[42])]⟩ [c,.agg [a,b],p,d,i] func335
def Hf(c:ai):=eK m R ⟨[(7,[(13,.S),(14,.I)])],[(4,[(11,.I)])],[(4,[79,75]),(7,[79,75])]⟩ [c,.agg [a,b],p,i,j] func336
def GZ(a:E):=eK m R ⟨[(3,[(5,.S),(6,.I)]),(7,[(7,.T),(8,.I)])],[],[(3,[59]),(7,[59])]⟩ [.agg [a,b],i] func337
def Hg(c:ai):=eK m R ⟨[(3,[(11,.I)])],[(7,[])],[(3,[130,126]),(7,[130,126])]⟩ [c,.agg [a,b],p,i,j] func338
def JB(p:ai):=eK m R A0 [p] func339
def DG(a:E):=eK m R ⟨[(3,[(5,.S),(6,.I)])],[],[]⟩ [a,i] func340
def Jd(a:E):=eK m R A0 [.agg [a,b],p,i] func341
def Hz(p:ai):=eK m R ⟨[(11,[(9,.S),(11,.I)]),(21,[(15,.S),(16,.I)])],[(6,[(8,.I)]),(8,[(8,.I)]),(17,[(80,.T)])],[(6,[124,122]),(8,[124,122]),(11,[124,122]),(17,[124,122]),(21,[124,122])]⟩ [p,.agg [a,b],i] func342
def AL(a:E):=eK m R ⟨[(2,[(7,.I)])],[],[(2,[46,45])]⟩ [.agg [a,b],.agg [i,j,k,p,d],l] func343
def Mx(a:E):=eK m R ⟨[(3,[(5,.S),(6,.I)])],[],[]⟩ [a,i] func344
def Ds(p:ai):=eK m R ⟨[(2,[(5,.I)])],[],[]⟩ [p,i] func345
def G5(a:E):=eK m R ⟨[(3,[(5,.S),(6,.I)])],[],[(3,[55])]⟩ [.agg [a,b],i] func346
end
end Go.Proofs.YtbbbdejieenniaaGreat
namespace Go.Proofs.YtbbbdejieenniaaGreat
open Go.Vc
section
variable{m:bg}{a:E}{l:ab}
def dj{n b a:Int}:fW dO 29 [vi n,vi b,vi a] m (b<=n/\n<=a):=by
 apply Jo;constructor<;>grind [D.cU]
def mO(a:Int)(m:bg):fW dO 205 [vi a] m (0<=a/\a<=11):=by
 apply Ji;exact(dj).cg λd e c b=>⟨_,O,kY c b⟩
def lO(a:Int):Prop:=0<=a/\a<=11/\a≠7/\a≠8\/a=18\/a=19
def Cc(a:Int)(m:bg):fW dO 147 [vi a] m (lO a):=by
 apply OP;refine(mO _ _).cg λb e d c=>⟨_,O,λh=>?_,λh=>?_⟩
 .grind [lO]
 .grind [lO]
def fI(c:ba m a l)(d:Int):fW dO 174 [a.v,vi d] m (d∈l):=by
 apply Oy;have g:=c.aT;refine gP (n:=l.length) (g▸c.kK) (λk b=>D m b/\∀y∈l.take k,y≠d) ⟨cY,bO⟩ ?_;rintro k p I μ o ⟨e,i⟩ j
 refine⟨λh=>?_,λh=>?_⟩
 .simp only[bh]at h;let⟨x,f⟩:=dV l k;refine⟨V,V,x,by simpa using e.aS (c.bt f),λb=>?_,λb=>?_⟩
  .grind [aZ]
  .simp only[bd]at b;exact j V _ ⟨e,dK f i b⟩
 .grind [decide_eq_false_iff_not]
def zR(n:Nat)(t:Int):Prop:=0<=t/\t<=n
def HL(n:Nat)(l:ab):Prop:=∀t∈l,zR n t
def Aw(c:ba m a l){bS:E}:fW dO 104 [bS.v,a.v] m (HL bS.len l):=by
 apply GQ;have i:=c.aT;refine gP (n:=l.length) (i▸c.kK) (λk b=>D m b/\∀t∈l.take k,zR bS.len t) ⟨cY,bO⟩ ?_;rintro k r I μ q ⟨b,g⟩ o
 refine dit (λh=>?_) λh=>?_
 .let⟨x,d⟩:=dV l k;refine⟨V,V,x,by simpa using b.aS (c.bt d),?_⟩;exact(dj).cg λp s f e=>⟨_,O,λh=>fy (λj=>nb f h (j x (aZ d))) (b.J e),λh=>o V _ ⟨b.J e,dK d g (yb f h)⟩⟩
 .exact oD (gH V g) b
def JX(l:ab)(c a b:Int):Prop:=(l.length:Int)=c/\∀t∈l,a+1<=t/\t<=b -1
def JI(f:ba m a l){j b c:Int}(w: -1<=b/\b<9223372036854775807)(e:0<=c/\c<=9223372036854775807):
 fW dO 152 [a.v,vi j,vi b,vi c] m (JX l j b c):=by
 apply DE
 have p:=f.aT
 refine⟨λh=>?_,λh=>?_⟩
 .simp only[T5]at h
  exact fy (λg=>h (by rw[p];exact g.1)) cY
 .simp only[nX]at h
  have u:j=(l.length:Int):=cB
  subst u
  have r:eJ (b+1)=b+1:=by grind [de]
  have s:eJ (c -1)=c -1:=by grind [de]
  rw[r,s]
  refine gP (n:=l.length) (p▸f.kK) (λk d=>D m d/\∀t∈l.take k,b+1<=t/\t<=c -1) ⟨cY,bO⟩ ?_
  rintro k z I μ y ⟨d,q⟩ t
  refine dit (λh=>?_) λh=>?_
  .let⟨x,i⟩:=dV l k
   refine⟨V,V,x,by simpa using d.aS (f.bt i),?_⟩
   exact(dj).cg λv A o e=>⟨_,O,λh=>fy (λg=>nb o h (g.2 x (aZ i))) (d.J e),λh=>t V _ ⟨d.J e,dK i q (yb o h)⟩⟩
  .exact oD ⟨O,gH V q⟩ d
def Ip(a df:ab):Prop:=∀(k:Nat)(v:Int),df[k]? =some v->(∃t,0<=v/\a[v.toNat]? =some t/\t≠0)/\(∀u:Int,0<k->df[k -1]? =some u->u<v)
def zd{A df:E}{p:ab}(g:ba m A p)(f:ba m df l):fW dO 105 [E.v A,E.v df] m (Ip p l):=by
 apply FO;have L:=f.aT;have M:=g.aT;have U:=g.kK;have H:eJ ((A.len:Int) -1)=(p.length:Int) -1:=by rw[de V V,M]
 rw[H];have T:=f.kK;refine gP (n:=l.length) (L▸f.kK) (λk N=>D m N/\∀(j:Nat)(v:Int),j<k->l[j]? =some v->(∃t,0<=v/\p[v.toNat]? =some t/\t≠0)/\(∀u:Int,0<j->l[j -1]? =some u->u<v)) ⟨cY,bO⟩ ?_;rintro k P Q μ S ⟨i,w⟩ F
 refine dit (λh=>?_) λh=>?_
 .let⟨x,c⟩:=dV l k;have g1:aS P df.bz (df.off+Int.toNat k*1)=some (vi x):=by simpa using i.aS (f.bt c)
  refine⟨V,V,x,g1,?_⟩;refine(dj).cg λR W B d=>⟨_,O,λh=>?_,λh=>?_⟩
  .refine fy (λg=>nb B h ?_) (i.J d);obtain⟨⟨t,b,s,_⟩,_⟩:=g k x c;have:=br s;omega
  .have C:=yb B h;let⟨t,q⟩:=dV p x.toNat;have J:=(i.J d).aS (g.bt q);have o:=i.J d;refine⟨V,V,x,d.aS g1,V,V,t,sp J,λb=>?_,λb=>?_⟩
   .simp only[bP]at b;refine fy (λa=>?_) o;obtain⟨⟨y,_,e,r⟩,_⟩:=a k x c;rw[q]at e;simp at e;exact r (e▸b)
   .simp only[bd]at b;refine dit (λs=>?_) λs=>?_
    .have I:eJ ((k:Int) -1)=((k -1:Nat):Int):=by rw[de V V];omega
     let⟨G,z⟩:=dV l (k -1);rw[I];refine⟨V,V,x,d.aS g1,V,V,G,by simpa using o.aS (f.bt z),dit (λe=>?_) λe=>?_⟩
     .refine fy (λa=>?_) o;have:=(a k x c).2 G V z;omega
     .refine F V _ ⟨o,λj v K a=>?_⟩
      by_cases r:j=k
      .subst r;rw[c]at a;simp at a;subst a;refine⟨⟨t,C.1,q,b⟩,λu _ y=>?_⟩;rw[z]at y;simp at y;subst y;omega
      .exact w j v V a
    .refine F V _ ⟨o,λj v K a=>?_⟩
     by_cases r:j=k
     .subst r;rw[c]at a;simp at a;subst a;exact⟨⟨t,C.1,q,b⟩,λu e _=>V⟩
     .exact w j v V a
 .exact oD (λj v a=>w j v (oh (br a)) a) i
end
section
variable{m:bg}
@[grind cases] structure zj (ds:af) (k:Nat) (d:cR):Prop where
 jw:0<d.eB.length->d.eB.length<=3/\d.qe=0/\d.to=0/\∀f∈d.eB,f.length<=3/\HL ds.length f
 Qi:d.eB.length=0->(∀e∈ds.take k,¬(e.eB.length=0/\e.qe=d.qe/\e.to=d.to))/\zR ds.length d.qe/\zR ds.length d.to
@[grind cases] structure eR (ds:af):Prop where
 aT:ds.length<=4
 eS:∀(k:Nat)(d:cR),ds[k]? =some d->zj ds k d
def Lq{bS:E}{h:af}(hd:dA m bS h){k:Nat}{d:cR}(K:h[k]? =some d):fW dO 146 [bS.v,vi k] m (zj h k d):=by
 apply FK;simp -zeta only[dR];have Y:=br K;have v:=hd.aT;let⟨x,z,L,g1,g2⟩:=hd.bt K;refine⟨V,V,_,sp L,_,sp g1,_,sp g2,?_⟩;intro Q s;have c:=py s;have A:∀t∈[m.size],t<s.size:=by simp[s,Q,bD]
 have N:=z.aT;refine dit (λq=>?_) λq=>?_
 .refine dit (λM=>?_) λM=>?_
  .exact fy (λa=>oh ((a.jw V).1)) c
  refine⟨λf=>?_,λf=>?_⟩
  .simp only[T5]at f;exact fy (λa=>f (a.jw V).2.1) c
  simp only[nX]at f;refine⟨λp=>?_,λp=>?_⟩
  .simp only[T5]at p;exact fy (λa=>p (a.jw V).2.2.1) c
  simp only[nX]at p;refine gP (n:=d.eB.length) (N▸z.kK) (λk B=>D s B/\∀x∈d.eB.take k,x.length<=3/\HL h.length x) ⟨cY,bO⟩ ?_;rintro j w I μ P ⟨g,r⟩ F
  refine dit (λy=>?_) λy=>?_
  .let⟨C,u⟩:=dV d.eB j;let⟨G,J,H⟩:=(tr.ext (c.J g) z).bt u;have S:=J.aT;refine⟨V,V,G,sp H,dit (λo=>?_) λo=>?_⟩
   .exact fy (λa=>oh (((a.jw V).2.2.2 C (aZ u)).1)) (c.J g)
   .refine⟨V,V,G,sp H,?_⟩;exact(Aw J).bL g A λt R l i b=>⟨_,O,λe=>fy (λa=>nb l e (v▸((a.jw V).2.2.2 C (aZ u)).2)) (c.J b),λe=>F V _ ⟨b,dK u r ⟨V,v▸yb l e⟩⟩⟩
  .exact oD ⟨λ_=>⟨V,f,p,gH V r⟩,λH=>V⟩ (c.J g)
 .have C:d.eB.length=0:=V;have W:=hd.kK;refine gP (n:=k) V (λk B=>D s B/\∀f∈h.take k,¬(f.eB.length=0/\f.qe=d.qe/\f.to=d.to)) ⟨cY,bO⟩ ?_;rintro j w I μ P ⟨g,r⟩ F
  refine dit (λy=>?_) λy=>?_
  .let⟨f,u⟩:=dV h j;let⟨G,J,S,T,U⟩:=(dA.ext (c.J g) hd).bt u;have X:=J.aT;have B:¬(f.eB.length=0/\f.qe=d.qe/\f.to=d.to)->I (eJ ((j:Int)+1)) w/\μ (eJ ((j:Int)+1)) w<μ j w:=λp=>F V _ ⟨g,dK u r p⟩
   refine⟨V,V,G,sp U,λo=>?_,λo=>?_⟩
   .simp only[bP]at o;refine⟨V,V,_,sp S,λi=>?_,λi=>?_⟩
    .simp only[bP]at i;refine⟨V,V,_,sp T,λb=>?_,λb=>?_⟩
     .simp only[bP]at b;have M:f∈h.take k:=by
       rw[cH];exact⟨j,by rw[lQ,bn V];exact u⟩
      exact fy (λa=>(a.Qi C).1 f M ⟨V,i,b⟩) (c.J g)
     .simp only[bd]at b;exact B (λp=>b p.2.2)
    .simp only[bd]at i;exact B (λp=>i p.2.1)
   .simp only[bd]at o;exact B (λp=>o V)
  .have f:j=k:=V;subst f;refine(dj).bL g A λt R l i b=>⟨_,O,λe=>?_,λe=>fy (λa=>fb l e (v▸(a.Qi C).2.1)) (c.J b)⟩;have e:=l.1 e;refine(dj).bL b A λt p l o a=>⟨_,O,kY ?_ (c.J a)⟩;rw[l];rw[v]at e⊢;exact⟨λq=>⟨λH=>V,λ_=>⟨r,e,q⟩⟩,λq=>(q.Qi C).2.2⟩
def JK{bS:E}{a:af}(hd:dA m bS a):fW dO 103 [bS.v] m (eR a):=by
 apply DF;have u:=hd.aT;refine dit (λo=>?_) λo=>?_
 .exact fy (λf=>oh f.aT) cY
 .refine gP (n:=a.length) V (λq r=>D m r/\∀(j:Nat)(d:cR),j<q->a[j]? =some d->zj a j d) ⟨cY,bO⟩ ?_;rintro j x I μ w ⟨b,k⟩ s
  refine dit (λp=>?_) λp=>?_
  .let⟨l,e⟩:=dV a j;refine(Lq (dA.ext b hd) e).cg λt y h g=>⟨_,O,λc=>fy (λf=>nb h c (f.eS j l e)) (b.J g),λc=>?_⟩;refine s V _ ⟨b.J g,λi d v dB=>?_⟩
   by_cases f:i=j
   .subst f;rw[e]at dB;simp at dB;subst dB;exact yb h c
   .exact k i d V dB
  .exact oD ⟨V,λi d dB=>k i d (oh (br dB)) dB⟩ b
end
section
variable{a:Nat}{m:bg}
def fc:af->Nat->Nat
 |_,0=>0
 |[],_=>0
 |d::b,a+1=>d.eB.length+fc b a
def gR(a:af):List ab:=a.flatMap cR.eB
def Wf(a:Nat):fc [] a=0:=by cases a<;>rfl
theorem wD:∀{c:af}{a:Nat}{b:cR},c[a]? =some b->fc c (a+1)=fc c a+b.eB.length
 |[],a,b,h=>by simp at h
 |e::c,0,b,h=>by
  grind [fc]
 |e::c,a+1,b,h=>by
  have:=wD (c:=c) (a:=a) (b:=b) cB;grind [fc]
theorem qI:∀(b:af)(a:Nat),b.length<=a->fc b a=(gR b).length
 |[],a,_=>by rw[Wf];rfl
 |d::b,0,h=>by simp at h
 |d::b,a+1,h=>by
  have:=qI b a cB;grind [fc,gR,List.length_append]
def Kb:∀(a:af){b c:Nat},b<=c->fc a b<=fc a c
 |[],b,c,_=>by simp[Wf]
 |d::a,0,c,_=>by simp[fc]
 |d::a,b+1,0,h=>V
 |d::a,b+1,c+1,h=>by
  have:=Kb a (b:=b) (c:=c) V;simp only[fc];omega
theorem nK{b:af}(h:eR b){d:cR}(c:b[a]? =some d):d.eB.length<=3:=by
 grind [Nat.eq_zero_or_pos,List.length,eR.eS,zj.jw]
theorem ZG{b:af}(h:eR b):∀a,fc b a<=3*a
 |0=>by cases b<;>simp[fc]
 |a+1=>by
  have e:=ZG h a;rcases dJ a b.length with c|c
  .let⟨d,hd⟩:=gD c;grind [wD,nK]
  .grind [qI]
theorem tF{b:af}(h:eR b)(a:Nat):fc b a<=12:=by
 rcases dJ a b.length with c|c
 .grind [ZG,eR.aT]
 .rw[qI b a c,<-qI b b.length bY];have:=ZG h b.length;have:=h.aT;omega
def uW:∀(a:af)(i j:Nat)(d:cR),a[i]? =some d->j<d.eB.length->(gR a)[fc a i+j]? =d.eB[j]?
 |[],i,j,d,h,_=>by simp at h
 |e::a,0,j,d,h,b=>by
  grind [fc,gR,List.getElem?_append_left]
 |e::a,i+1,j,d,h,b=>by
  have:=uW a i j d cB b;grind [fc,gR,List.getElem?_append_right]
def zn:∀(a:af)(c:Nat),c<(gR a).length->∃i d,a[i]? =some d/\fc a i<=c/\c<fc a i+d.eB.length
 |[],c,h=>by simp[gR]at h
 |e::a,c,h=>by
  rcases dJ c e.eB.length with b|b
  .exact⟨0,e,bO,by simp[fc],by simpa[fc]using b⟩
  .let⟨i,d,f,g,j⟩:=zn a (c -e.eB.length) (by simp only[gR,VB,dH]at h⊢;omega);exact⟨i+1,d,sp f,by simp only[fc];omega,by simp only[fc];omega⟩
def nk{bS:E}{b:af}(hd:dA m bS b)(d:eR b)(t:a<=b.length):DO dO 186 [bS.v,vi a] m (vi (fc b a)):=by
 apply He;have r:=hd.aT;have:=d.aT;refine gL (n:=a) V (λj g c=>D m c/\g=(fc b j:Nat)) ⟨cY,by cases b<;>rfl⟩ ?_;rintro j g u I μ s ⟨e,rfl⟩ k
 refine dit (λi=>?_) λi=>?_
 .let⟨l,c⟩:=dV b j;let⟨h,f,o,g1,g2⟩:=(dA.ext e hd).bt c;refine⟨V,V,h,sp g2,?_⟩;refine k V _ _ ⟨e,?_⟩
  have p:=tF d j;have q:=nK d c;rw[de V (oh f.aT),wD c,f.aT];rfl
 .have:j=a:=V;subst this;exact⟨O,e⟩
def uD{bS:E}{a:af}(hd:dA m bS a)(c:eR a):DO dO 178 [bS.v] m (vi (gR a).length):=by
 apply G8;have q:=hd.aT;have:=c.aT;refine gL (n:=a.length) V (λj f b=>D m b/\f=(fc a j:Nat)) ⟨cY,by cases a<;>rfl⟩ ?_;rintro j f s I μ r ⟨d,rfl⟩ i
 refine dit (λh=>?_) λh=>?_
 .let⟨k,b⟩:=dV a j;let⟨g,e,l,g1,g2⟩:=(dA.ext d hd).bt b;refine⟨V,V,g,sp g2,?_⟩;refine i V _ _ ⟨d,?_⟩
  have o:=tF c j;have p:=nK c b;rw[de V (oh e.aT),wD b,e.aT];rfl
 .refine⟨?_,d⟩;rw[qI a j V]
def adw(a:af)(c t:Int):Prop:=
 (∃(i:Nat)(d:cR),t=i+1/\a[i]? =some d/\(fc a i:Int)<=c/\c<fc a i+d.eB.length)\/(t= -1/\¬(0<=c/\c<(gR a).length))
def pM{bS:E}{a:af}(hd:dA m bS a)(k:eR a)(c:Int):bK dO 148 [bS.v,vi c] m λG p=>∃u,G=vi u/\adw a c u/\D m p:=by
 apply Jf;have K:=hd.aT;have:=k.aT;refine gP (n:=a.length) V (λj p=>D m p/\∀(i:Nat)(d:cR),i<j->a[i]? =some d->¬((fc a i:Int)<=c/\c<fc a i+d.eB.length)) ⟨cY,bO⟩ ?_;rintro j N I μ M ⟨b,s⟩ F
 refine dit (λz=>?_) λz=>?_
 .let⟨d,h⟩:=dV a j;refine(nk (dA.ext b hd) k V).cg λP e=>⟨_,O,?_⟩;let⟨l,B,J,g1,g2⟩:=(dA.ext (b.J e) hd).bt h;refine⟨V,V,l,sp g2,?_⟩;have o:=tF k j;have A:=nK k h;have C:=B.aT;have y:eJ (eJ ((fc a j:Int)+(l.len:Int)) -1)=(fc a j:Int)+d.eB.length -1:=by
   rw[de (b:=(fc a j:Int)+(l.len:Int)) V V,iz,C]
  rw[y];refine(dj).cg λH Q r q=>⟨_,O,λf=>?_,λf=>?_⟩
  .have f:=r.1 f;refine⟨_,O,bC ⟨j,d,?_,h,V,V⟩,(b.J e).J q⟩;rw[iz]
  .refine F V _ ⟨(b.J e).J q,λi v L g=>?_⟩
   by_cases w:i=j
   .subst w;rw[h]at g;simp at g;subst g;intro t;exact fb r f ⟨t.1,V⟩
   .exact s i v V g
 .refine⟨_,O,bR ⟨O,λt=>?_⟩,b⟩;let⟨i,d,o,e,A⟩:=zn a c.toNat V;exact s i d (oh (br o)) o ⟨V,V⟩
def cX(a:af)(c:Int):ab:=if 0<=c then((gR a)[c.toNat]?).getD []else[]
def KT{bS:E}{a:af}(hd:dA m bS a)(d:eR a){c:Int}:bK dO 149 [bS.v,vi c] m λx l=>∃s,x=s.v/\ba l s (cX a c)/\D m l:=by
 apply vk;have G:=hd.aT;have:=d.aT;refine(pM hd d c).aP ?_;rintro _ J ⟨L,rfl,h,e⟩;refine⟨_,O,dit (λu=>?_) λu=>?_⟩
 .refine⟨_,O,?_,e.bZ _⟩;have g:cX a c=[]:=by
   rcases h with⟨i,f,v,_⟩|⟨_,b⟩
   .omega
   .unfold cX;split
    .rw[jE V];rfl
    .rfl
  rw[g];exact⟨O,bY,bO,bO⟩
 .rcases h with⟨i,f,rfl,b,B,C⟩|⟨v,_⟩
  .have I:=br b;let⟨q,j,z,g1,g2⟩:=(dA.ext e hd).bt b;have n:eJ ((i:Int)+1 -1)=i:=by rw[iz];omega
   rw[n];refine⟨V,V,q,sp g2,?_⟩;refine(nk (dA.ext e hd) d V).cg λK g=>⟨_,O,g.da (sp g2),?_⟩;have A:=tF d i;have F:=nK d b;have H:=j.aT;let⟨y,k⟩:=dV f.eB ((c -fc a i).toNat);let⟨r,w,t⟩:=(tr.ext g j).bt k;have o:eJ (c -(fc a i:Int))=c -fc a i:=iz;rw[o];refine⟨V,V,r,t,_,O,?_,e.J g⟩;have p:cX a c=y:=by
    unfold cX;rw[bn V];have:=uW a i (c -fc a i).toNat f b V;rw[show c.toNat=fc a i+(c -fc a i).toNat by omega,this,k];rfl
   rw[p];exact w
  .omega
def cT(a:af)(t:Int):ab:=
 if 1<=t/\t<=a.length then((a[t.toNat -1]?).map λd=>(List.range d.eB.length).map λi=>((fc a (t.toNat -1)+i:Nat):Int)).getD []else[]
def EU{bS:E}{a:af}(hd:dA m bS a)(c:eR a){t:Int}:bK dO 151 [bS.v,vi t] m λK b=>∃s,K=s.v/\ba b s (cT a t)/\D m b:=by
 apply yX;intro r;have T:=hd.aT;have:=c.aT;have q:=px r;have H:jy m r bB 1 (.mk m.size 0 0 0) []:=jy.bF (D.cU m) bB 1 [] 0 bO;refine(dj).cg λM X l f=>⟨_,O,λh=>?_,λh=>?_⟩
 .refine⟨_,O,?_,q.J f⟩;have e:cT a t=[]:=by
   unfold cT;rw[aW (oh (nb l h))]
  rw[e];exact⟨O,bY,bO,bO⟩
 .have h:=yb l h;have v:eJ (t -1)=((t.toNat -1:Nat):Int):=by rw[iz];omega
  rw[v];let⟨e,g⟩:=dV a (t.toNat -1);have w:cT a t=(List.range e.eB.length).map λi=>((fc a (t.toNat -1)+i:Nat):Int):=by
   unfold cT;rw[bn V,g];rfl
  rw[w];have R:=tF c (t.toNat -1);have S:=nK c g;refine gL (n:=e.eB.length) V (λj s b=>D m b/\jy m b bB 1 s (((List.range j).map λi=>((fc a (t.toNat -1)+i:Nat):Int)).map Ce.i)/\s.len=j) ⟨q.J f,by simpa using H.ext f,O⟩ ?_;rintro j s Y L μ W ⟨d,o,p⟩ J
  let⟨y,F,N,g1,g2⟩:=(dA.ext d hd).bt g;have U:=F.aT;refine⟨V,V,y,sp g2,dit (λz=>?_) λz=>?_⟩
  .refine(nk (dA.ext d hd) c V).cg λI k=>⟨_,O,?_⟩;intro u;have x:eJ (((fc a (t.toNat -1):Nat):Int)+(j:Int))=((fc a (t.toNat -1)+j:Nat):Int):=by rw[iz];omega
   have G:u=I.push (.cells (db [.i (((fc a (t.toNat -1)+j:Nat):Int))]) bB):=by rw[<-x]
   clear_value u;subst G;refine jy.fx (c:=[.i 0]) (i:=[.i ((fc a (t.toNat -1)+j:Nat):Int)]) ((o.ext k).ext (D.push _ _)) ((d.J k).bZ _) O (dF.push _ _ _).kZ (by simp[p];omega) ?_;intro Z b A B C P Q _;refine J V _ _ ⟨B,?_,by simp[C,p]⟩
   rw[List.range_succ,lI,lI];exact A
  .have:j=e.eB.length:=V;subst this;exact⟨_,O,ba.ju o eX,d⟩
end
section
variable{S X:ad}{d p:bg}{s q a h:E}{e g u:ab}{k f:Nat}{x j:Int}{t:ap}{Q:ab->Prop}{K:aj}
def _root_.Go.Vc.ba.dx{a:bg}(b:ba (dB S d) s e)(f:Fz X d a)(c:∀h∈X,h∈S)(g:e[k]? =some x):aS a s.bz (s.off+k*1)=some (vi x):=
 (iO.1 ((b.le (f.fj c)).bt g)).2
def _root_.Go.Vc.ba.Rq{a:bg}(h:ba (dB S d) s e)(b:D d a)(c:e[k]? =some x):aS a s.bz (s.off+k*1)=some (vi x):=
 h.dx (b.fz []) bO c
def JV(f:Nat)(t:ap)(d:bg)(S:ad)(Q:ab->Prop):Prop:=bK dO f t d λv a=>∃s e,v=s.v/\ba (dB S a) s e/\Q e/\D d a
def oA(f:Nat)(t:ap)(d:bg)(S:ad)(Q:ab->Prop):Prop:=bK dO f t d λv a=>∃s e,v=s.v/\Gr S d a bB 1 yo s e/\Q e/\D d a
def wX(f:Nat)(t:ap)(d:bg)(Q:Int->Prop):Prop:=bK dO f t d λv a=>∃j:Int,v=vi j/\Q j/\D d a
abbrev GI(S:ad)(p d:bg)(s:E)(e:ab):Prop:=Gr S p d bB 1 yo s e
def GI.gN(S:ad)(d:bg):GI S d (d.push (.cells (db []) bB)) (.mk d.size 0 0 0) []:=by grind [Gr.bF,yo]
def GI.nE{S X:ad}{p d:bg}{s:E}{e:ab}{a:Int}{K:E->bg->Prop}(c:GI S p d s e)(f:Fz X p d)(i:e.length<=10^12)
 (g:∀r b,GI S p b r (e++[a])->Fz X p b->(d.size<=b.size/\(r.bz=s.bz\/d.size<=r.bz))->(∀h,h<d.size->h≠s.bz->b[h]? =d[h]?)->K r b):mj (d.push (.cells (db [.i a]) bB)) bB [.i 0] 8 s (.mk d.size 0 1 1) K:=
 Gr.nE (h:=[.i 0]) yo.aP cD c f O V g
theorem GI.cr{S:ad}{p d:bg}{s:E}{e:ab}(a:GI S p d s e)(b:∀h∈S,h<p.size)(c:e.length<=10^12):ba (dB S d) s e:=Gr.cr yo.aP a b cD V
def GI.lY{S X:ad}{p d:bg}{s x:E}{e g:ab}{K:E->bg->Prop}(b:GI S p d s e)(c:Fz X p d)(i:ba (dB (s.bz::S) d) x g)(j:e.length+g.length<=10^12)
 (f:∀r a,GI S p a r (e++g)->Fz X p a->(d.size<=a.size/\(r.bz=s.bz\/d.size<=r.bz))->(∀h,h<d.size->h≠s.bz->a[h]? =d[h]?)->K r a):mj d bB [.i 0] 8 s x K:=
 Gr.lY (h:=[.i 0]) yo.aP cD b c i V f
def GI.lZ{a:bg}(h:GI S p d s e)(i:a[s.bz]? =d[s.bz]?):GI S p a s e:=by
 let⟨c,b,f,g⟩:=h;exact⟨c,b,f.congr i,g.aP λ_ _ h=>h⟩
def GI.ext{S:ad}{p d a:bg}{s:E}{e:ab}(h:GI S p d s e)(b:D d a):GI S p a s e:=Gr.ext yo.aP h b
theorem _root_.Go.Vc.Gr.cW{α:Type}{S b:ad}{p f d:bg}{c a:Nat}{R:bg->ae->α->Prop}{s:E}{e:List α}(i:sE a R)(g:Gr b f d c a R s e)(j:∀h∈S,h∈b\/d.size<=h)(k:p.size<=f.size):Gr S p d c a R s e:=by
 constructor<;>grind [jy.cW,iy.aP,D.cU,D.dB,List.mem_cons_self,List.mem_cons_of_mem]
def GI.cW{S a:ad}{p b d:bg}{s:E}{e:ab}(c:GI a b d s e)(f:∀h∈S,h∈a)(g:p.size<=b.size):GI S p d s e:=by grind [Gr.cW,yo.aP]
def oA.cg(h:oA f t d S Q)(j:∀s e a,GI S d a s e->Q e->D d a->K s.v a):bK dO f t d K:=
 h.aP λ_ a⟨s,e,b,c,g,i⟩=>b▸j s e a c g i
def JV.cg(h:JV f t d S Q)(j:∀s e a,ba (dB S a) s e->Q e->D d a->K s.v a):bK dO f t d K:=
 h.aP λ_ a⟨s,e,b,c,g,i⟩=>b▸j s e a c g i
def wX.cg{Q:Int->Prop}(h:wX f t d Q)(g:∀j a,Q j->D d a->K (vi j) a):bK dO f t d K:=
 h.aP λ_ a⟨j,e,b,c⟩=>e▸g j a b c
def xl{a:bg}{h:Nat}(b:D d a)(e:d.size<=h):Le (dB S d) (dB (h::S) a):=b.dB λc f=>by
 grind
def pN(j:∀h∈S,h<d.size)(c:ba (dB S d) q e)(b:e.length<=10^12):oA 55 [q.v] d S (e=·):=by
 apply rJ;intro i;have a:=px i;exact GI.lY (e:=[]) (X:=[]) (GI.gN S d) (a.fz []) (c.le (xl a bY)) (sp b) λr k g f _ _=>⟨r,e,O,sp g,O,f.ext⟩
def tz(e g:ab):Prop:=(∀x∈g,x∈e)/\g.length<=e.length
def sY(h:∀x∈g,x∈e)(a:x∈e):∀y∈g++[x],y∈e:=by
 grind
def FT(u:∀h∈S,h<d.size)(b:ba (dB S d) q e)(j:Int)(v:e.length<=10^12):oA 303 [q.v,vi j] d S (tz e):=by
 apply JM;intro z;have t:=b.aT;refine gL (n:=e.length) (t▸b.kK) (λk s a=>D d a/\∃g,GI S d a s g/\(∀x∈g,x∈e)/\g.length<=k) ⟨D.push d _,[],GI.gN S d,bO,bY⟩ ?_;rintro k s A I μ y ⟨a,g,c,i,w⟩ m
 refine dit (λp=>?_) λp=>?_
 .let⟨x,l⟩:=dV e k;refine⟨V,V,x,b.Rq a l,λr=>⟨V,V,x,b.Rq a l,?_⟩,λr=>m V _ _ ⟨a,g,c,i,V⟩⟩;intro B;exact GI.nE c (a.fz []) V λE C o f _ _=>m V _ _ ⟨f.ext,_,o,sY i (aZ l),eX⟩
 .exact⟨s,g,O,c,⟨i,V⟩,a⟩
def TG(u:∀h∈S,h<d.size)(b:ba (dB S d) q e)(v:e.length<=10^12):oA 344 [q.v,vi j] d S (tz e):=by
 apply Mx;intro z;have t:=b.aT;refine gL (n:=e.length) (t▸b.kK) (λk s a=>D d a/\∃g,GI S d a s g/\(∀x∈g,x∈e)/\g.length<=k) ⟨D.push d _,[],GI.gN S d,bO,bY⟩ ?_;rintro k s A I μ y ⟨a,g,c,i,w⟩ m
 refine dit (λp=>?_) λp=>?_
 .let⟨x,l⟩:=dV e k;refine⟨V,V,x,b.Rq a l,λr=>⟨V,V,x,b.Rq a l,?_⟩,λr=>m V _ _ ⟨a,g,c,i,V⟩⟩;intro B;exact GI.nE c (a.fz []) V λE C o f _ _=>m V _ _ ⟨f.ext,_,o,sY i (aZ l),eX⟩
 .exact⟨s,g,O,c,⟨i,V⟩,a⟩
def RE(z:∀h∈S,h<d.size)(i:ba (dB S d) a e)(t:ba (dB S d) h u)(A:e.length<=10^12):oA 330 [a.v,h.v] d S (tz e):=by
 apply KS;intro E;have v:=i.aT;refine gL (n:=e.length) (v▸i.kK) (λk s b=>D d b/\∃g,GI S d b s g/\(∀x∈g,x∈e)/\g.length<=k) ⟨D.push d _,[],GI.gN S d,bO,bY⟩ ?_;rintro k s F I μ C ⟨b,g,j,l,B⟩ o
 refine dit (λq=>?_) λq=>?_
 .let⟨x,m⟩:=dV e k;refine⟨V,V,x,i.Rq b m,?_⟩;refine(fI ((t.le fN).ext b) x).cg λy G _ c=>⟨_,O,λr=>⟨V,V,x,i.Rq (b.J c) m,?_⟩,λr=>o V _ _ ⟨b.J c,g,j.ext c,l,V⟩⟩;intro w;exact GI.nE (j.ext c) ((b.J c).fz []) V λH w p f _ _=>o V _ _ ⟨f.ext,_,p,sY l (aZ m),eX⟩
 .exact⟨s,g,O,j,⟨l,V⟩,b⟩
def _root_.Go.Vc.Bi{σ τ:Type}{j:Nat}(n:j<=9223372036854775807){g:σ}{h:τ}{f:(σ->τ->Int->bg->Prop)->(σ->τ->Int->bg->Nat)->σ->τ->Int->bg->Prop}(Q:Nat->σ->τ->bg->Prop)(l:Q 0 g h d)
 (m:∀(k:Nat)(s:σ)(t:τ)(a:bg)(I:σ->τ->Int->bg->Prop)(μ:σ->τ->Int->bg->Nat),k<=j->Q k s t a->
  (k<j->∀c e b,Q (k+1) c e b->I c e (eJ ((k:Int)+1)) b/\μ c e (eJ ((k:Int)+1)) b<μ s t k a)->f I μ s t k a):
 ∃(I:σ->τ->Int->bg->Prop)(μ:σ->τ->Int->bg->Nat),I g h 0 d/\∀s t i a,I s t i a->f I μ s t i a:=by
 refine⟨λs t i b=>∃k:Nat,i=k/\k<=j/\Q k s t b,λ_ _ i _=>(j -i).toNat,⟨0,O,iD _,l⟩,?_⟩
 grind [nt,Qe]
def acU(e:ab)(j:Int)(g:ab):Prop:=(∀x∈g,x∈e\/x=j)/\g.length<=e.length+1
def Gh(h:∀x∈g,x∈e\/x=j)(a:x∈e\/x=j):∀y∈g++[x],y∈e\/y=j:=by
 grind
def pU(K:∀h∈S,h<d.size)(v:ba (dB S d) q e)(j:Int)(L:e.length<10^12):oA 284 [q.v,vi j] d S (acU e j):=by
 apply La;intro P;have H:=v.aT;refine Bi (j:=e.length) (H▸v.kK) (λk s c b=>D d b/\∃g,GI S d b s g/\(∀x∈g,x∈e\/x=j)/\g.length<=k+(if c=true then 1 else 0)) ⟨D.push d _,[],GI.gN S d,bO,bY⟩ ?_;rintro k s c w I μ N ⟨a,g,o,p,u⟩ C
 have M:g.length<=k+1:=by split at u<;>omega
 refine dit (λt=>?_) λt=>?_
 .let⟨x,y⟩:=dV e k;have G:∀{b:bg},D d b->aS b q.bz (q.off+k*1)=some (vi x):=λt=>v.Rq t y;have z:x∈e\/x=j:=bC (aZ y);have A:∀m:Bool,(g++[x]).length<=k+1+(if m=true then 1 else 0)->mj (w.push (.cells (db [.i x]) bB)) bB [.i 0] 8 s (.mk w.size 0 1 1) λr b=>I r m (eJ ((k:Int)+1)) b/\μ r m (eJ ((k:Int)+1)) b<μ s c k w:=λm hd=>
   GI.nE o (a.fz []) V λr B i f _ _=>C V _ _ _ ⟨f.ext,_,i,Gh p z,hd⟩
  refine⟨λl=>⟨V,V,x,G a,λE=>⟨V,V,x,G a,λF=>?_,λF=>⟨V,V,x,G a,A true eX⟩⟩,λE=>⟨V,V,x,G a,A c ?_⟩⟩,λl=>⟨V,V,x,G a,A c ?_⟩⟩
  .have hd:c=false:=sp l;subst hd;simp at u;intro J;refine GI.nE o (a.fz []) V λr B i f _ _=>⟨V,V,x,G f.ext,?_⟩;intro Q;exact GI.nE i f eX λr R i f _ _=>C V _ _ _ ⟨f.ext,_,i,Gh (Gh p (bR O)) z,eX⟩
  .simp only[dH,dz,kU];omega
  .simp only[dH,dz,kU];omega
 .refine⟨λl=>?_,λl=>⟨s,g,O,o,⟨p,V⟩,a⟩⟩;have hd:c=false:=sp l;subst hd;simp at u;intro J;exact GI.nE o (a.fz []) V λr B i f _ _=>⟨r,_,O,i,⟨Gh p (bR O),eX⟩,f.ext⟩
def wu(B:∀h∈S,h<d.size)(l:ba (dB S d) q e)(j:Int)(C:e.length<=10^12):oA 280 [q.v,vi j] d S (tz e):=by
 apply AR;intro H;have z:=l.aT;refine Bi (j:=e.length) (z▸l.kK) (λk s _ a=>D d a/\∃g,GI S d a s g/\(∀x∈g,x∈e)/\g.length<=k) ⟨D.push d _,[],GI.gN S d,bO,bY⟩ ?_;rintro k s c o I μ F ⟨b,g,i,m,E⟩ t
 refine dit (λv=>?_) λv=>?_
 .let⟨x,p⟩:=dV e k;have G:=l.Rq b p;have A:mj (o.push (.cells (db [.i x]) bB)) bB [.i 0] 8 s (.mk o.size 0 1 1) λr a=>I r c (eJ ((k:Int)+1)) a/\μ r c (eJ ((k:Int)+1)) a<μ s c k o:=
   GI.nE i (b.fz []) V λr J u f _ _=>t V _ _ _ ⟨f.ext,_,u,sY m (aZ p),eX⟩
  exact⟨V,V,x,G,λw=>⟨λy=>t V _ _ _ ⟨b,g,i,m,V⟩,λy=>⟨V,V,x,G,A⟩⟩,λw=>⟨V,V,x,G,A⟩⟩
 .exact⟨s,g,O,i,⟨m,V⟩,b⟩
def TN(f:∀h∈S,h<d.size)(v:ba (dB S d) a e)(i:ba (dB S d) h u)(j:e.length+u.length<=10^12):oA 298 [a.v,h.v] d S (λg=>(∀x∈g,x∈e\/x∈u)/\g.length<=e.length+u.length):=by
 apply Nc;refine(pN f v V).cg λM _ H t p C=>⟨_,O,?_⟩;subst p;have w:=i.aT;refine gL (n:=u.length) (w▸i.kK) (λk s b=>D d b/\∃g,GI S d b s g/\(∀x∈g,x∈e\/x∈u)/\g.length<=e.length+k) ⟨C,_,t,λx c=>bC c,bY⟩ ?_;rintro k s J I μ G ⟨c,g,l,m,F⟩ B
 refine dit (λb=>?_) λb=>?_
 .let⟨x,o⟩:=dV u k;refine⟨V,V,x,i.Rq c o,?_⟩;refine(pU (λh j=>cw (f h j) c.aQ) (l.cr f V) x V).cg λL A K r q E=>⟨_,O,B V _ _ ⟨c.J E,A,r.cW (λ_ b=>b) c.aQ,λy z=>?_,oh q.2⟩⟩;rcases q.1 y z with b|b
  .exact m y b
  .subst b;exact bR (aZ o)
 .exact⟨s,g,O,l,⟨m,V⟩,c⟩
def xO(a:Int)(d:bg):fW dO 317 [vi a] d (14<=a/\a<=17):=by
 apply Dq;exact(dj).cg λh e c b=>⟨_,O,kY c b⟩
def iL(j:∀h∈S,h<d.size){nj:E}{a:ab}(l:ba (dB S d) q e)(m:ba (dB S d) nj a)(k:e.length+a.length<=10^12):oA 215 [q.v,nj.v] d S (e++a=·):=by
 apply y8;refine(pN j l V).cg λp _ o b g c=>⟨_,O,?_⟩;subst g;exact GI.lY b (c.fz []) (m.le (xl c b.cJ.1)) k λr n i f _ _=>⟨r,_,O,i,O,f.ext⟩
def vQ(v:∀h∈S,h<d.size)(i:ba (dB S d) q e)(j:Nat)(w:j+e.length<=10^12):oA 221 [q.v,vi j] d S (λg=>(∀x∈g,(j:Int)<=x/\x<j+e.length)/\g.length<=e.length):=by
 apply Hh;intro B;have t:=i.aT;refine gL (n:=e.length) (t▸i.kK) (λk s a=>D d a/\∃g,GI S d a s g/\(∀x∈g,(j:Int)<=x/\x<j+e.length)/\g.length<=k) ⟨D.push d _,[],GI.gN S d,bO,bY⟩ ?_;rintro k s C I μ A ⟨b,g,c,l,z⟩ m
 refine dit (λp=>?_) λp=>?_
 .let⟨x,u⟩:=dV e k;refine⟨V,V,x,i.Rq b u,λr=>?_,λr=>m V _ _ ⟨b,g,c,l,V⟩⟩;rw[de (b:=(j:Int)+k) V V];intro E;refine GI.nE c (b.fz []) V λG F o f _ _=>m V _ _ ⟨f.ext,_,o,?_,eX⟩
  intro y a;rcases bU.1 a with a|a
  .exact l y a
  .simp at a;omega
 .exact⟨s,g,O,c,⟨l,V⟩,b⟩
def pE(p:∀h∈S,h<d.size)(j a:Nat)(q:j+a<=10^12):oA 189 [vi j,vi a] d S (λg=>(∀x∈g,(j:Int)<=x/\x<j+a)/\g.length=a):=by
 apply BZ;intro u;refine gL (n:=a) V (λk s b=>D d b/\∃g,GI S d b s g/\(∀x∈g,(j:Int)<=x/\x<j+a)/\g.length=k) ⟨D.push d _,[],GI.gN S d,bO,O⟩ ?_;rintro k s v I μ t ⟨i,g,c,e,r⟩ o
 refine dit (λm=>?_) λm=>?_
 .rw[de (b:=(j:Int)+k) V V];intro w;refine GI.nE c (i.fz []) V λA z l f _ _=>o V _ _ ⟨f.ext,_,l,?_,eX⟩
  intro y b;rcases bU.1 b with b|b
  .exact e y b
  .simp at b;omega
 .exact⟨s,g,O,c,⟨e,V⟩,i⟩
theorem LR(e:ab):(e.map λx=>[Ce.i x]).flatten=e.map Ce.i:=by induction e<;>simp_all
def GI.dY(n:GI S p d s e)(F:Fz X p d)(N:k<e.length)(j:Int):
 jb d s.bz (s.off+k*1) 1/\GI S p (aV d s.bz (s.off+k*1) [.i j]) s (e.set k j)/\Fz X p (aV d s.bz (s.off+k*1) [.i j])/\(∀h,h≠s.bz->(aV d s.bz (s.off+k*1) [.i j])[h]? =d[h]?):=by
 have J:=n.cJ
 have O:=n.aT cD
 let⟨t,a,B,f⟩:=n
 have H:∀h,h≠s.bz->(aV d s.bz (s.off+k*1) [.i j])[h]? =d[h]? :=by grind [cq]
 let⟨h,w,tail,l,y,z,K,A⟩:=B.bt.resolve_left t
 have M:a.flatten.length=e.length:=by rw[dS f.aQ,f.aT];omega
 have G:a.flatten=e.map Ce.i:=by
  apply ft;intro g;rcases dJ g e.length with v|v
  .let⟨x,q⟩:=gD v;let⟨cs,u⟩:=dV a g cB;have C:cs=[.i x]:=f.eS g cs x u q;have D:=jt (f:=1) f.aQ u (i:=0) (c:=.i x) cB;grind
  .grind [List.getElem?_eq_none]
 have I:s.off+k*1=k:=by rw[l];simp
 have E:s.bz=h:=by rw[l];rfl
 refine⟨?_,⟨t,(e.set k j).map λx=>[.i x],⟨?_,bR ⟨h,w,tail,l,y,?_,?_,A⟩⟩,⟨by rw[jX],λcs L=>?_,λP cs x u q=>?_⟩⟩,F.aV (bR J.1) _ _,H⟩
 .grind [dF.jb,List.length_append,List.length_cons,List.length_nil]
 .grind [LR,List.length_map,List.length_set]
 .have C:=dF.aV (m:=d) (b:=h) (r:=[.i j]) (o:=k) z
  rw[I,E,LR]
  have D:kJ (a.flatten++tail) k [.i j]=(e.set k j).map Ce.i++tail:=by
   apply ft;intro g;rw[KO,G];grind [List.getElem?_append_left,Nat.lt_or_ge,List.length,List.getElem?_set_ne,List.getElem?_append_right]
  rw[<-D];exact C
 .grind [LR,List.length_append,List.length_map,List.length_set]
 .grind
 .simp only[eE,q,vy,VF]at u
  exact u.symm
def zf(k:∀h∈S,h<d.size)(n:ba (dB S d) q e)(m:e.length<=10^12){a:Nat}(l:a<e.length)(j:Int):oA 241 [q.v,vi a,vi j] d S (e.set a j=·):=by
 apply DH;refine(pN k n m).cg λs _ p g b o=>⟨_,O,V,?_,?_⟩
 .subst b;have:=g.aT cD;omega
 subst b;obtain⟨c,f,i,_⟩:=g.dY (o.fz []) l j;exact⟨c,s,_,O,f,O,i.ext⟩
end
end Go.Proofs.YtbbbdejieenniaaGreat
namespace Go.Vc
section
variable{l:au}{k d a:Nat}{x s:eN}{c:Prop}
open Go.Proofs.YtbbbdejieenniaaGreat
def Bk.ind{Q:Bk->Prop}(h:∀bA r,(∀s∈bA,∀b∈s.dv,Q b)->Q (.mk bA r)):∀b,Q b
 | .mk bA r=>h bA r λs _ b _=>Bk.ind h b
termination_by b=>SizeOf.sizeOf b
decreasing_by
 rename_i a c
 have d:=sR a
 have e:=sR c
 have f:SizeOf.sizeOf s.dv<SizeOf.sizeOf s:=by cases s;simp;omega
 simp;omega
def Ex.ind{Q:Ex->Prop}(h:∀a cE dv,(∀e∈dv,Q e)->Q (.mk a cE dv)):∀e,Q e
 | .mk a cE dv=>h a cE dv λe _=>Ex.ind h e
termination_by e=>SizeOf.sizeOf e
decreasing_by
 rename_i a
 have b:=sR a
 simp;omega
def sw(l:au):Nat:=(l.map Rk.w).sum
def bw(l:aF):Nat:=(l.map Bk.w).sum
def en(l:ax):Nat:=(l.map Ex.n).sum
@[simp] theorem zL:sw []=0:=rfl
@[simp] theorem Ea:bw []=0:=rfl
@[simp] theorem ac3:en []=0:=rfl
theorem qu(x:eN)(l:au):sw (x::l)=x.w+sw l:=by simp[sw]
theorem yO(x:Bk)(l:aF):bw (x::l)=x.w+bw l:=by simp[bw]
def Ta(x:Ex)(l:ax):en (x::l)=x.n+en l:=by simp[en]
theorem gF(a b:au):sw (a++b)=sw a+sw b:=by simp[sw]
theorem sV(a b:aF):bw (a++b)=bw a+bw b:=by simp[bw]
theorem Sj(a b:ax):en (a++b)=en a+en b:=by simp[en]
theorem Bk.vu(s:au)(r:Int):(Bk.mk s r).w=1+sw s:=Bk.aeP _
def Bk.pP(b:Bk):b.w=1+sw b.bA:=Bk.aeP b
theorem eN.pP(s:eN):s.w=1+s.aO.length+bw s.dv:=rfl
def Ex.Yz{o n:Int}{k:ax}:(Ex.mk o n k).n=1+en k:=by rw[Ex.n];rfl
def Ex.ad5(e:Ex):e.n=1+en e.dv:=by cases e;exact Ex.Yz
def ub(h:l[k]? =some x):sw (l.take (k+1))=sw (l.take k)+x.w:=by rw[bX h,gF,qu,zL];rfl
def yP{l:aF}{x:Bk}(h:l[k]? =some x):bw (l.take (k+1))=bw (l.take k)+x.w:=by rw[bX h,sV,yO,Ea];rfl
theorem OY{l:ax}{x:Ex}(h:l[k]? =some x):en (l.take (k+1))=en (l.take k)+x.n:=by rw[bX h,Sj,Ta,ac3];rfl
def FU(l:au)(k:Nat):sw (l.take k)<=sw l:=by
 grind [gF,List.take,List.drop,List.take_append_drop]
def Xl(l:aF)(k:Nat):bw (l.take k)<=bw l:=by
 grind [sV,List.take,List.drop,List.take_append_drop]
def Xv(l:ax)(k:Nat):en (l.take k)<=en l:=by
 grind [Sj,List.take,List.drop,List.take_append_drop]
def TQ(h:l[k]? =some x):x.w<=sw l:=by
 have:=ub h;have:=FU l (k+1);omega
def Be{l:aF}{x:Bk}(h:l[k]? =some x):x.w<=bw l:=by
 have:=yP h;have:=Xl l (k+1);omega
def jS:∀l:au,l.length<=sw l
 |[]=>bO
 |x::l=>by have:=jS l;rw[qu,dz,eN.pP];omega
def Bk.NP(b:Bk):1<=b.w:=by rw[Bk.pP];omega
def xf:∀l:aF,l.length<=bw l
 |[]=>bO
 |x::l=>by have:=xf l;have:=x.NP;rw[yO,dz];omega
def Wd:∀l:ax,l.length<=en l
 |[]=>bO
 |x::l=>by have:=Wd l;rw[Ta,dz,Ex.ad5];omega
def tv(a:Int):Prop:=0<=a/\a<=11
instance(a:Int):Decidable (tv a):=inferInstanceAs (Decidable (_/\_))
def dn(s:eN):Nat:=if tv s.op then 1 else 0
def dc(l:au):Nat:=(l.map dn).sum
@[simp] theorem xk:dc []=0:=rfl
theorem nM(x:eN)(l:au):dc (x::l)=dn x+dc l:=by simp[dc]
theorem fg(a b:au):dc (a++b)=dc a+dc b:=by simp[dc]
def uL(h:l[k]? =some x):dc (l.take (k+1))=dc (l.take k)+dn x:=by rw[bX h,fg,nM,xk];rfl
def Zr(l:au)(k:Nat):dc (l.take k)<=dc l:=by
 grind [fg,List.take,List.drop,List.take_append_drop]
def adL(x:eN):dn x<=1:=by grind [dn]
def xh:∀l:au,dc l<=l.length
 |[]=>bO
 |x::l=>by have:=xh l;have:=adL x;rw[nM,dz];omega
def Gc(a:af)(b cE:Int)(i:Nat):Nat:=if b=8 then(cX a (((cT a cE)[i]?).getD 0)).length else 0
@[grind cases] structure Ye (ds:af) (nr:Nat) (c:Prop) (a:Nat) (s:eN):Prop where
 op:tv s.op\/c/\14<=s.op/\s.op<=17
 aO:∀x∈s.aO,0<=x/\x<(a:Int)
 mM:14<=s.op\/s.op=7\/s.op=8->s.aO.length=1
 dh:0<=s.dh/\s.dh<=(a:Int)
 Nk:s.op=7->s.dv.length=2
 lY:s.op=8->s.dv.length=(cT ds s.cE).length/\0<s.dv.length
 jF:s.op=9->0<=s.cE/\s.cE<(nr:Int)
inductive WB(ds:af)(d:Nat)(c:Prop):Nat->Bk->Prop
 |mk {a:Nat} {bA:au} {r:Int} (iY:∀(i:Nat)(s:eN),bA[i]? =some s->Ye ds d c (a+dc (bA.take i)) s)
  (dv:∀(i:Nat)(s:eN)(k:Nat)(b:Bk),bA[i]? =some s->s.dv[k]? =some b->WB ds d c (a+dc (bA.take i)+Gc ds s.op s.cE k) b)
  (res:0<=r/\r<((a+dc bA:Nat):Int)):WB ds d c a (.mk bA r)
@[grind cases] structure WS (ds:af) (nr:Nat) (c:Prop) (a:Nat) (s:eN):Prop where
 iY:Ye ds nr c a s
 dv:∀(k:Nat)(b:Bk),s.dv[k]? =some b->WB ds nr c (a+Gc ds s.op s.cE k) b
def WL(b:af)(d:Nat)(c:Prop)(a:Nat)(l:au):Prop:=∀(i:Nat)(s:eN),l[i]? =some s->WS b d c (a+dc (l.take i)) s
def WB.cy{e:af}{b:Bk}(h:WB e d c a b):WL e d c a b.bA/\0<=b.bQ/\b.bQ<((a+dc b.bA:Nat):Int):=by
 cases h with
 |mk iY dv j=>exact⟨λi s f=>⟨iY i s f,λk b g=>dv i s k b f g⟩,j⟩
def WB.of{e:af}{bA:au}{r:Int}(h:WL e d c a bA)(j:0<=r/\r<((a+dc bA:Nat):Int)):WB e d c a (.mk bA r):=
 .mk (λi s b=>(h i s b).iY) (λi s k f b g=>(h i s b).dv k f g) j
def WL.gN{b:af}:WL b d c a []:=λi s h=>by simp at h
theorem WL.fx{e:af}{g:au}(h:WL e d c a l)(j:WL e d c (a+dc l) g):WL e d c a (l++g):=λi s b=>by
 rcases dJ i l.length with f|f
 .rw[dZ f]at b;rw[rD V];exact h i s b
 .rw[dP f]at b;have:=j _ s b;grind [List.take_append,List.take_of_length_le,fg,Nat.add_assoc]
theorem WL.mM{e:af}(h:WS e d c a s):WL e d c a [s]:=λi x b=>by
 have:i=0:=by have:=br b;simp at this;omega
 subst this;simp at b;subst b;simpa using h
theorem WL.Dh{b:af}(h:WL b d c a l)(e:WS b d c (a+dc l) s):WL b d c a (l++[s]):=h.fx (.mM e)
theorem WL.Ni{e:af}(h:WL e d c a l)(k:Nat):WL e d c a (l.take k):=λi s b=>by
 rw[lQ]at b;split at b
 .rw[aat,mH V];exact h i s b
 .simp at b
theorem WL.Bg{b:af}(h:WL b d c a l)(k:Nat):WL b d c (a+dc (l.take k)) (l.drop k):=λi s e=>by
 rw[rL]at e;have:=h _ s e;grind [fg,Nat.add_assoc]
end
end Go.Vc
namespace Go.Proofs.YtbbbdejieenniaaGreat
open Go.Vc
section
variable{m:bg}{d p:E}{b:cZ}
def rS(b:cZ)(cE:Int)(n:Nat):Prop:=∃q:eG,0<=cE/\b.di[cE.toNat]? =some q/\q.aY.length=n
theorem aan:eJ 9223372036854775808= -9223372036854775808:=cD
def AN(h:gY m d p b)(cE:Int)(n nj:Nat)(G:n<=9223372036854775807)(F:nj<=1):
 fW dO 150 [.agg #[d.v,p.v],vi cE,vi n,vi nj] m (rS b cE (n+nj)):=by
 apply Ht
 simp -zeta only[dR]
 intro j
 have i:=px j
 have w:∀k∈[m.size],k<j.size:=by simp[j]
 have H:=h.di.aT
 have I:=h.di.kK
 refine(dj).bL cY w λk J o f B=>⟨_,O,λa=>?_,λa=>?_⟩
 .have a:=o.1 a
  rw[iz]at a
  let⟨q,g⟩:=dV b.di cE.toNat
  let⟨e,x,y,l,D,E,s,g1,g2,z,A⟩:=(mh.ext (i.J f) h.di).bt g
  refine⟨V,V,e,s,kY ?_ (i.J f)⟩
  have u:=l.aT
  have C:=l.kK
  simp only[bP]
  have r:(e.len:Int)=eJ ((n:Int)+(nj:Int))<->e.len=n+nj:=by
   grind [Nat.lt_or_ge,de,aan]
  rw[r,u]
  exact⟨λv=>⟨q,a.1,g,v⟩,λ⟨K,_,c,t⟩=>by rw[g]at c;simp at c;rw[c];exact t⟩
 .refine fy (λ⟨q,e,c,_⟩=>fb o a ?_) (i.J f)
  have:=br c
  grind [de]
def mJ(b:cZ)(p:eG)(k:Nat)(i:Instr):Prop:=
 if i.op=0 then i.aO.length=0/\-999<=i.cE/\i.cE<=999
 else if i.op=1\/i.op=2\/i.op=3\/i.op=4\/i.op=11 then i.aO.length=2/\i.cE=0
 else if i.op=5\/i.op=14\/i.op=15\/i.op=18\/i.op=23 then i.aO.length=1/\i.cE=0
 else if i.op=6 then(0<=i.cE/\i.cE<(gR b.bS).length)/\i.aO.length=(cX b.bS i.cE).length/\0<=i.dh/\i.dh<=p.aU
 else if i.op=9\/i.op=24 then rS b i.cE i.aO.length
 else if i.op=10 then rS b i.cE (i.aO.length+1)/\∀q,b.di[i.cE.toNat]? =some q->q.df.length=0
 else if i.op=16\/i.op=17 then(1<=i.aO.length/\i.aO.length<=4)/\i.cE=0
 else if i.op=19 then i.aO.length=1/\0<=i.cE/\i.cE<=2
 else if i.op=20 then i.aO.length=1/\(k:Int)+1<=i.cE/\i.cE<=(p.eA.length:Int) -1
 else if i.op=22 then i.aO.length=0/\(k:Int)+1<=i.cE/\i.cE<=(p.eA.length:Int) -1
 else if i.op=21 then i.aO.length=1/\0<(cT b.bS i.cE).length/\JX i.gE (cT b.bS i.cE).length k p.eA.length
 else False
@[grind cases] structure iP (im:cZ) (p:eG) (k:Nat) (i:Instr):Prop where
 aO:∀a∈i.aO,0<=a/\a<=p.aU -1
 bH:0<=i.bH/\i.bH<=p.aU -1
 afi:i.bH=0\/lO i.op
 dh:i.dh=0\/i.op=6
 gE:i.op=21\/i.gE.length=0
 op:mJ im p k i
@[grind cases] structure Ug (m:bg) (a l:E) (c:E) (p:eG):Prop where
 aY:ba m a p.aY
 df:ba m l p.df
 eA:je m c p.eA
def Ug.ext{m d:bg}(a:D m d){b l c:E}{p:eG}(h:Ug m b l c p):Ug d b l c p:=⟨h.aY.ext a,h.df.ext a,je.ext a h.eA⟩
def JH(ae:gY m d p b)(R:eR b.bS){X ad F:E}{q:eG}(P:Ug m X ad F q)(hr:1<=q.aU/\q.aU<=2000){k:Nat}{i:Instr}(hk:q.eA[k]? =some i):
 fW dO 106 [.agg #[d.v,p.v],.agg #[X.v,ad.v,vi q.bQ,vi q.aU,F.v],vi k] m (iP b q k i):=by
 apply DC
 simp -zeta only[dR]
 intro m1 W
 have T:D m W:=((D.cU m).bZ _).bZ _
 have ay:=br hk
 have ah:=P.eA.aT
 have av:=P.eA.kK
 let⟨xa,A,C,hj,g0,g1,g2,g3,g4,g5⟩:=(je.ext T P.eA).bt hk
 refine⟨V,V,_,g0,_,g1,_,g2,_,g3,_,g4,_,g5,?_⟩
 intro m3 v
 have l:D m v:=(T.bZ _).aV T.aQ _ _
 have ab:D W v:=by grind [D.cU,D.bZ,D.aV]
 have j:∀r∈[W.size,m1.size,m.size],r<v.size:=by
  grind [bD]
 have N:=C.aT
 have ax:=hj.aT
 have aq:=C.kK
 have er:eJ (q.aU -1)=q.aU -1:=by grind [de]
 rw[er]
 refine gP (n:=i.aO.length) (N▸C.kK) (λU h=>D v h/\∀x∈i.aO.take U,0<=x/\x<=q.aU -1) ⟨cY,bO⟩ ?_
 rintro U m5 ao μ aw ⟨S,hn⟩ am
 refine dit (λh1=>?_) λh1=>?_
 .let⟨x,f⟩:=dV i.aO U
  refine⟨V,V,x,by simpa using(ab.J S).aS (C.bt f),?_⟩
  exact(dj).bL S j λr z e t c=>⟨_,O,λa=>fy (λg=>nb e a (g.aO x (aZ f))) (l.J c),λa=>am V _ ⟨c,dK f hn (yb e a)⟩⟩
 .have af:=gH V hn
  refine⟨λh=>D v h/\(0<=i.bH/\i.bH<=q.aU -1)/\(i.bH=0\/lO i.op)/\(i.dh=0\/i.op=6)/\(i.op=21\/i.gE.length=0),?_,?_⟩
  .refine(dj).bL S j λr z e t c=>⟨_,O,λa=>fy (λg=>nb e a g.bH) (l.J c),λa=>?_⟩
   have Z:=yb e a
   have tail:∀h:bg,D v h->(i.bH=0\/lO i.op)->
    ((i.dh !=0)=true->((i.op !=6)=true->∃s:Bool,vb false=.bool s/\(s=true<->iP b q k i)/\D m h)/\((i.op !=6)=false->
     ((i.op !=21)=true->((decide ((A.len:Int)>0))=true->∃s:Bool,vb false=.bool s/\(s=true<->iP b q k i)/\D m h)/\((decide ((A.len:Int)>0))=false->D v h/\(0<=i.bH/\i.bH<=q.aU -1)/\(i.bH=0\/lO i.op)/\(i.dh=0\/i.op=6)/\(i.op=21\/i.gE.length=0)))/\
     ((i.op !=21)=false->D v h/\(0<=i.bH/\i.bH<=q.aU -1)/\(i.bH=0\/lO i.op)/\(i.dh=0\/i.op=6)/\(i.op=21\/i.gE.length=0))))/\
    ((i.dh !=0)=false->
     ((i.op !=21)=true->((decide ((A.len:Int)>0))=true->∃s:Bool,vb false=.bool s/\(s=true<->iP b q k i)/\D m h)/\((decide ((A.len:Int)>0))=false->D v h/\(0<=i.bH/\i.bH<=q.aU -1)/\(i.bH=0\/lO i.op)/\(i.dh=0\/i.op=6)/\(i.op=21\/i.gE.length=0)))/\
     ((i.op !=21)=false->D v h/\(0<=i.bH/\i.bH<=q.aU -1)/\(i.bH=0\/lO i.op)/\(i.dh=0\/i.op=6)/\(i.op=21\/i.gE.length=0))):=by
    intro h G Y
    have o:(i.dh=0\/i.op=6)->((i.op !=21)=true->((decide ((A.len:Int)>0))=true->∃s:Bool,vb false=.bool s/\(s=true<->iP b q k i)/\D m h)/\((decide ((A.len:Int)>0))=false->D v h/\(0<=i.bH/\i.bH<=q.aU -1)/\(i.bH=0\/lO i.op)/\(i.dh=0\/i.op=6)/\(i.op=21\/i.gE.length=0)))/\
     ((i.op !=21)=false->D v h/\(0<=i.bH/\i.bH<=q.aU -1)/\(i.bH=0\/lO i.op)/\(i.dh=0\/i.op=6)/\(i.op=21\/i.gE.length=0)):=by
     intro B
     refine⟨λf=>⟨λu=>?_,λu=>?_⟩,λf=>?_⟩
     .grind [iP.gE,D.J]
     .grind
     .grind
    refine⟨λf=>⟨λu=>?_,λu=>o (bR cB)⟩,λf=>o (bC cB)⟩
    grind [iP.dh,D.J]
   refine⟨λf=>?_,λf=>tail z c (bC cB)⟩
   refine(Cc _ _).bL c j λr x e u w=>⟨_,O,λy=>?_,λy=>tail x w (bR (yb e y))⟩
   grind [iP.afi,D.J]
  .rintro m8 ⟨o,Z,Y,aj,ak⟩
   have ac:=l.J o
   have ai:iP b q k i<->mJ b q k i:=⟨λg=>g.op,λg=>⟨af,Z,Y,aj,ak,g⟩⟩
   rw[ai]
   have z:gY m8 d p b:=gY.ext ac ae
   refine⟨λG=>?_,λG=>?_⟩
   .simp only[bP]at G
    have g:mJ b q k i<->i.aO.length=0/\-999<=i.cE/\i.cE<=999:=by grind [mJ]
    rw[g]
    refine⟨λt=>?_,λt=>?_⟩
    .simp only[bP]at t
     refine(dj).bL o j λr x e c a=>⟨_,O,kY ?_ (l.J a)⟩
     rw[e];omega
    grind [beq_eq_false_iff_ne]
   simp only[bd]at G
   refine⟨λH=>?_,λH=>?_⟩
   .grind [mJ,List.length,beq_eq_false_iff_ne]
   simp only[cV,bd]at H
   replace H:¬(i.op=1\/i.op=2\/i.op=3\/i.op=4\/i.op=11):=V
   refine⟨λI=>?_,λI=>?_⟩
   .grind [mJ,List.length,beq_eq_false_iff_ne]
   simp only[cV,bd]at I
   replace I:¬(i.op=5\/i.op=14\/i.op=15\/i.op=18\/i.op=23):=V
   refine⟨λJ=>?_,λJ=>?_⟩
   .simp only[bP]at J
    have g:mJ b q k i<->(0<=i.cE/\i.cE<(gR b.bS).length)/\i.aO.length=(cX b.bS i.cE).length/\0<=i.dh/\i.dh<=q.aU:=by grind [mJ]
    rw[g]
    refine(pM z.bS R _).bL o j ?_
    rintro _ x ⟨ap,rfl,B,c⟩
    refine⟨c,_,O,dit (λa=>?_) λa=>?_⟩
    .have M:0<=i.cE/\i.cE<(gR b.bS).length:=by
      rcases B with⟨K,L,f,u,w,y⟩|⟨f,_⟩
      .have:=Kb b.bS (show K+1<=b.bS.length from br u);grind [wD,qI]
      .omega
     refine(KT (dA.ext c z.bS) R).bL (o.J c) j ?_
     rintro _ al ⟨an,rfl,Q,f⟩
     have aa:=Q.aT
     refine⟨f,_,O,λu=>?_,λu=>?_⟩
     .simp only[bP]at u
      refine(dj).bL ((o.J c).J f) j λr ag e w y=>⟨_,O,kY ?_ (l.J y)⟩
      grind
     grind [beq_eq_false_iff_ne,D.J]
    .refine fy (λM=>?_) (ac.J c)
     rcases B with⟨K,L,f,u,w,y⟩|⟨_,f⟩
     .omega
     .exact f M.1
   simp only[bd]at J
   refine⟨λB=>?_,λB=>?_⟩
   .simp only[eH,bP]at B
    have g:mJ b q k i<->rS b i.cE (i.aO.length+0):=by grind [mJ]
    rw[g]
    have L:=AN z i.cE i.aO.length 0 V V
    rw[N]
    refine L.bL o j λr x e c a=>⟨_,O,kY e (l.J a)⟩
   simp only[cV,bd]at B
   replace B:¬(i.op=9\/i.op=24):=V
   refine⟨λK=>?_,λK=>?_⟩
   .simp only[bP]at K
    have g:mJ b q k i<->rS b i.cE (i.aO.length+1)/\∀q,b.di[i.cE.toNat]? =some q->q.df.length=0:=by grind [mJ]
    rw[g]
    have L:=AN z i.cE i.aO.length 1 V V
    rw[N]
    refine L.bL o j λr x e c a=>⟨_,O,λf=>?_,λf=>fy (λM=>fb e f M.1) (l.J a)⟩
    let⟨q',u,w,y⟩:=(e.1 f)
    let⟨a',s,c',ap,ag,au,f0,M,f2,f3,f4⟩:=(mh.ext c z.di).bt w
    have:=z.di.aT
    have:=br w
    refine⟨V,V,s,M,kY ?_ (l.J a)⟩
    have ar:=ag.aT
    grind
   simp only[bd]at K
   refine⟨λs=>?_,λs=>?_⟩
   .simp only[eH,bP]at s
    have g:mJ b q k i<->(1<=i.aO.length/\i.aO.length<=4)/\i.cE=0:=by grind [mJ]
    rw[g]
    refine(dj).bL o j λr x e c a=>⟨_,O,λf=>kY ?_ (l.J a),λf=>fy ?_ (l.J a)⟩
    .grind
    grind
   simp only[cV,bd]at s
   replace s:¬(i.op=16\/i.op=17):=V
   refine⟨λy=>?_,λy=>?_⟩
   .simp only[bP]at y
    have g:mJ b q k i<->i.aO.length=1/\0<=i.cE/\i.cE<=2:=by grind [mJ]
    rw[g]
    refine⟨λt=>?_,λt=>?_⟩
    .simp only[bP]at t
     refine(dj).bL o j λr x e c a=>⟨_,O,kY ?_ (l.J a)⟩
     rw[e];omega
    grind [beq_eq_false_iff_ne]
   simp only[bd]at y
   have ek:eJ ((k:Int)+1)=(k:Int)+1:=by grind [de]
   have ec:eJ ((F.len:Int) -1)=(q.eA.length:Int) -1:=by grind [de]
   rw[ek,ec]
   refine⟨λL=>?_,λL=>?_⟩
   .simp only[bP]at L
    have g:mJ b q k i<->i.aO.length=1/\(k:Int)+1<=i.cE/\i.cE<=(q.eA.length:Int) -1:=by grind [mJ]
    rw[g]
    refine⟨λt=>?_,λt=>?_⟩
    .simp only[bP]at t
     refine(dj).bL o j λr x e c a=>⟨_,O,kY ?_ (l.J a)⟩
     rw[e];omega
    grind [beq_eq_false_iff_ne]
   simp only[bd]at L
   refine⟨λM=>?_,λM=>?_⟩
   .simp only[bP]at M
    have g:mJ b q k i<->i.aO.length=0/\(k:Int)+1<=i.cE/\i.cE<=(q.eA.length:Int) -1:=by grind [mJ]
    rw[g]
    refine⟨λt=>?_,λt=>?_⟩
    .simp only[bP]at t
     refine(dj).bL o j λr x e c a=>⟨_,O,kY ?_ (l.J a)⟩
     rw[e];omega
    grind [beq_eq_false_iff_ne]
   simp only[bd]at M
   refine⟨λt=>?_,λt=>?_⟩
   .simp only[bP]at t
    have g:mJ b q k i<->i.aO.length=1/\0<(cT b.bS i.cE).length/\JX i.gE (cT b.bS i.cE).length k q.eA.length:=by grind [mJ]
    rw[g]
    refine(EU z.bS R).bL o j ?_
    rintro _ x ⟨an,rfl,Q,c⟩
    have aa:=Q.aT
    refine⟨c,_,O,λa=>?_,λa=>?_⟩
    .simp only[bP]at a
     refine⟨λf=>?_,λf=>?_⟩
     .simp only[bh]at f
      rw[aa,ah]
      refine(JI (hj.ext (ab.J (o.J c))) V V).bL (o.J c) j λr al e u w=>⟨_,O,kY ?_ (l.J w)⟩
      grind
     grind [decide_eq_false_iff_not,D.J]
    grind [beq_eq_false_iff_ne,D.J]
   grind [beq_eq_false_iff_ne,mJ,False]
end
section
variable{a:bg}{d p:E}{b:cZ}
@[grind cases] structure nD (ds:af) (ps:av):Prop where
 dk:eR ds
 aT:1<=ps.length/\ps.length<=4
 eS:∀p∈ps,p.aY.length<=3/\HL ds.length p.aY/\zR ds.length p.bQ
 first:∀p,ps[0]? =some p->p.aY.length=0/\p.bQ=0
def sS(a:bg)(c:ae)(p:eG):Prop:=∃b,c=[.s b,.i p.bQ,.i 0,.i 0,.s .nil]/\ba a b p.aY
def sS.ext{a d:bg}(h:D a d)(b:ae)(c:eG):sS a b c->sS d b c:=λ⟨f,e,g⟩=>⟨f,e,g.ext h⟩
theorem Y1.bt{s:E}{l:av}(h:fX a 5 (sS a) s l){k:Nat}{x:eG}(e:l[k]? =some x):
 ∃b,ba a b x.aY/\aS a s.bz (s.off+k*5)=some b.v/\aS a s.bz (s.off+k*5+1)=some (vi x.bQ)/\aS a s.bz (s.off+k*5+2)=some (vi 0)/\aS a s.bz (s.off+k*5+3)=some (vi 0)/\aS a s.bz (s.off+k*5+4)=some (E.v .nil):=by
 obtain⟨f,⟨b,rfl,d⟩,c⟩:=h.kZ k x e
 exact⟨b,d,c 0 (.s b) O,c 1 (.i x.bQ) O,c 2 (.i 0) O,c 3 (.i 0) O,c 4 (.s .nil) O⟩
def ze{y:E}{j:af}{h:av}(hd:dA a d j)(w:fX a 5 (sS a) y h):
 fW dO 52 [.agg #[d.v,y.v]] a (nD j h):=by
 apply FR
 simp -zeta only[dR]
 intro q
 have m:=px q
 have G:∀e∈[a.size],e<q.size:=by simp[q]
 have l:=hd.aT
 have aa:=w.aT
 refine(JK (dA.ext m hd)).bL cY G λe m2 b N Q=>⟨_,O,λu=>fy (λc=>nb b u c.dk) (m.J N),λu=>?_⟩
 have T:=yb b u
 refine(dj).bL Q G λe m3 b Z C=>⟨_,O,λv=>fy (λc=>nb b v (oh c.aT)) (m.J C),λv=>?_⟩
 have ab:=yb b v
 refine gP (n:=h.length) V (λx f=>D q f/\∀p∈h.take x,p.aY.length<=3/\HL j.length p.aY/\zR j.length p.bQ) ⟨C,bO⟩ ?_
 rintro x K X μ hj ⟨J,I⟩ W
 have g:=m.J J
 refine dit (λR=>?_) λR=>?_
 .let⟨p,f⟩:=dV h x
  let⟨M,k,r,g1,g2,z,A⟩:=Y1.bt (w.aP g (sS.ext g)) f
  have S:=k.aT
  refine⟨V,V,_,r,_,g1,_,g2,_,z,_,A,?_⟩
  intro m5 L
  have o:D K L:=by grind [D.cU,D.bZ,D.aV]
  have H:∀e∈[K.size,a.size],e<L.size:=by
   grind [D.lt,Array.size,D.aQ,bD]
  refine⟨λi=>?_,λi=>?_⟩
  .grind [nD.eS,aZ,D.J]
  simp only[dm]at i
  refine(Aw (k.ext o)).bL cY H λe m7 b F P=>⟨_,O,λs=>fy (λc=>nb b s (l▸(c.eS p (aZ f)).2.1)) ((g.J o).J F),λs=>?_⟩
  have U:=yb b s
  refine(dj).bL P H λe m8 b Y B=>⟨_,O,λt=>?_,λt=>?_⟩
  .refine fy (λc=>nb b t ?_) ((g.J o).J B)
   rw[l];exact(c.eS p (aZ f)).2.2
  .refine W V _ ⟨(J.J o).J B,dK f I ⟨V,l▸U,?_⟩⟩
   have:=yb b t
   rw[l]at this;exact this
 .have o:=gH V I
  let⟨p,f⟩:=dV h 0
  let⟨M,k,r,g1,g2,z,A⟩:=Y1.bt (w.aP g (sS.ext g)) f
  have S:=k.aT
  refine⟨V,V,_,r,λi=>?_,λi=>?_⟩
  .simp only[bP]at i
   refine⟨V,V,_,g1,kY ?_ g⟩
   simp only[bP]
   refine⟨λF=>⟨T,V,o,λt s=>?_⟩,λc=>(c.first p f).2⟩
   grind
  grind [beq_eq_false_iff_ne,nD.first]
def Hy(N:gY a d p b)(ap:b.di.length<=4):
 bK dO 53 [.agg #[E.v d,E.v p]] a λal i=>∃M,al=.agg #[E.v d,E.v M]/\fX i 5 (sS i) M b.di/\D a i:=by
 apply Cd
 simp -zeta only[kL,nO]
 intro s j g K l
 have aq:=N.di.aT
 have ah:D a K:=(((D.cU a).bZ _).bZ _|>.bZ _).bZ _
 have s3:g.size=a.size+3:=by simp[g,j,s]
 have s2:j.size=a.size+2:=by simp[j,s]
 have s1:=pz s
 have s5:l.size=a.size+4:=by simp[l,K,bD,s3]
 have ai:D a l:=ah.aV V _ _
 have aa:dF l g.size nI [.s d,.s (.mk j.size 0 0 0)]:=dF.aV (m:=K) (o:=0) (r:=[.s d,.s (.mk j.size 0 0 0)]) (dF.push g _ _)
 have ag:=py l
 have ad:jy a l jf 5 (.mk j.size 0 0 0) ([]:List ae).flatten:=
  (jy.bF (((D.cU a).bZ _).bZ _:D a j) jf 5 [] 0 bO:jy a g jf 5 (.mk j.size 0 0 0) []).ext ag
 refine gP (n:=b.di.length) V (λB i=>D a i/\l.size<=i.size/\∃f v,dF i g.size nI [.s d,.s f]/\jy a i jf 5 f v.flatten/\iy 5 (sS a) v (b.di.take B)/\f≠.nil/\s.size<f.bz/\f.bz≠g.size/\f.len=B)
  ⟨ai,bY,_,[],aa,ad,by simpa using iy.gN 5 (sS a),bO,eX,eX,O⟩ ?_
 rintro B L am μ hk ⟨z,ax,f,v,w,Q,J,au,ar,af,S⟩ ak
 refine dit (λU=>?_) λU=>?_
 .let⟨C,R⟩:=dV b.di B
  let⟨q,c,an,ha,e,hc,T,g1,g2,g3,g4⟩:=N.di.bt R
  refine⟨f,w.dx 1,V,V,q,by simpa using z.aS T,V,V,_,by simpa using z.aS g2,?_⟩
  intro k
  have A:=px k
  refine⟨A.da (w.dx 1),?_⟩
  have mu:jG k L.size 0 [.s q,.i C.bQ,.i 0,.i 0,.s .nil]:=(dF.push L _ _).kZ
  have ac:=w.ext A
  have av:=pz k
  refine jy.fx (c:=[.s .nil,.i 0,.i 0,.i 0,.s .nil]) (i:=[.s q,.i C.bQ,.i 0,.i 0,.s .nil]) (Q.ext A) (z.J A) O mu (by simp[S];omega) ?_
  intro u t Y Z G ao W X
  have F:∀c,c<k.size->c≠f.bz->t[c]? =k[c]? :=λc e H=>W c e (λ_=>H)
  have x:s.size<u.bz/\u.bz≠g.size:=by
   rcases X with⟨_,h⟩|⟨_,h,_⟩|h
   .rw[h]at G;simp at G
   .rw[h];constructor<;>omega
   .rw[h];constructor<;>omega
  have P:dF t g.size nI [.s d,.s f]:=ac.congr (F _ V (λh=>af h.symm))
  refine⟨λc e=>?_,P.jb bO,?_⟩
  .simp at e
   rcases e with rfl|rfl
   .exact F _ V V
   .exact F _ V V
  intro y
  have aw:y.size=t.size:=by simp[y,bD]
  have ab:dF y g.size nI [.s d,.s u]:=dF.aV (m:=t) (o:=1) (r:=[.s u]) P
  have I:∀c,c≠g.size->y[c]? =t[c]? :=λc e=>cq _ _ _ _ e
  have aj:D a y:=Z.aV V _ _
  refine⟨λc e=>?_,?_⟩
  .simp at e
   rcases e with rfl|rfl
   .exact I _ V
   .exact I _ V
  refine ak V _ ⟨aj,V,u,v++[[.s q,.i C.bQ,.i 0,.i 0,.s .nil]],ab,?_,?_,?_,x.1,x.2,by simp[G,S]⟩
  .rw[uI]
   exact(by simpa using Y:jy a t jf 5 u (v.flatten++[[.s q,.i C.bQ,.i 0,.i 0,.s .nil]].flatten)).congr (I _ x.2)
  .rw[bX R]
   exact J.Dh O ⟨q,O,ha⟩
  .intro h
   rw[h]at x;simp at x
 .refine⟨d,w.dx 0,f,w.dx 1,?_⟩
  intro k
  have H:∀c,c≠s.size->k[c]? =L[c]? :=λc e=>cq _ _ _ _ e
  have h:D a k:=z.aV V _ _
  refine⟨f,O,?_,h⟩
  rw[eQ V]at J
  exact(fX.ju (Q.congr (H _ V)) J V V).aP cY (sS.ext h)
@[grind cases] structure pd (im:cZ) (p:eG):Prop where
 df:Ip p.aY p.df
 aU:(p.aY.length:Int)<=p.aU/\1<=p.aU/\p.aU<=2000
 aT:1<=p.eA.length/\p.eA.length<=2000
 eS:∀(k:Nat)(i:Instr),p.eA[k]? =some i->iP im p k i
 Of:∀i,p.eA[p.eA.length -1]? =some i->i.op=23\/i.op=24
def Lr(I:gY a d p b)(Q:eR b.bS){x G s:E}{q:eG}(f:Ug a x G s q):
 fW dO 54 [.agg #[d.v,p.v],.agg #[x.v,G.v,vi q.bQ,vi q.aU,s.v]] a (pd b q):=by
 apply FQ
 simp -zeta only[dR]
 intro T w
 have g:D a w:=((D.cU a).bZ _).bZ _
 have o:∀h∈[T.size,a.size],h<w.size:=cB
 have aa:=f.aY.aT
 have ab:=f.eA.aT
 refine(zd (f.aY.ext g) (f.df.ext g)).bL cY o λh m3 c J L=>⟨_,O,λt=>fy (λe=>nb c t e.df) (g.J J),λt=>?_⟩
 have C:=yb c t
 refine(dj).bL L o λh m4 c Z M=>⟨_,O,λN=>?_,λN=>?_⟩
 .grind [D.J,pd.aU]
 refine(dj).bL M o λh m5 c h7 A=>⟨_,O,λu=>fy (λe=>nb c u (oh e.aT)) (g.J A),λu=>?_⟩
 have ad:=yb c u
 have v:(q.aY.length:Int)<=q.aU/\1<=q.aU/\q.aU<=2000:=by
  grind
 refine gP (n:=q.eA.length) V (λr S=>D w S/\∀(k:Nat)(i:Instr),k<r->q.eA[k]? =some i->iP b q k i) ⟨A,bO⟩ ?_
 rintro r m6 U μ hj ⟨F,hn⟩ ae
 have j:=g.J F
 refine dit (λK=>?_) λK=>?_
 .let⟨i,m⟩:=dV q.eA r
  refine(JH (gY.ext j I) Q (f.ext j) v.2 m).bL F o λh B c l z=>⟨_,O,λy=>fy (λe=>nb c y (e.eS r i m)) (g.J z),λy=>?_⟩
  grind
 .let⟨i,m⟩:=dV q.eA (q.eA.length -1)
  let⟨xa,xj,ha,ac,y,g1,g2,W,X,Y⟩:=(je.ext j f.eA).bt m
  have H:eJ ((s.len:Int) -1)=((q.eA.length -1:Nat):Int):=by grind [de]
  rw[H]
  have B:∀(k:Nat)(i:Instr),q.eA[k]? =some i->iP b q k i:=by grind [br]
  refine⟨V,V,_,sp y,λl=>?_,λl=>?_⟩
  .simp only[bP]at l
   refine oD ⟨C,v,V,B,λR P=>?_⟩ j
   grind
  .simp only[bd]at l
   refine⟨V,V,_,sp y,kY ?_ j⟩
   simp only[bP]
   refine⟨λz=>⟨C,v,V,B,λR P=>?_⟩,λe=>?_⟩
   .grind
   grind [pd.Of]
@[grind cases] structure iB (im:cZ):Prop where
 mN:nD im.bS im.di
 eS:∀p∈im.di,pd im p
def JG(h:gY a d p b):fW dO 28 [.agg #[E.v d,E.v p]] a (iB b):=by
 apply DB;simp -zeta only[kL,nO];intro i;have e:=px i;have m:∀g∈[a.size],g<i.size:=by simp[i]
 have R:=h.di.aT;refine dit (λC=>?_) λC=>?_
 .exact fy (λf=>oh f.mN.aT) e
 refine(Hy (gY.ext e h) V).bL cY m ?_;rintro _ S ⟨y,rfl,I,j⟩;refine⟨j,d,y,O,?_⟩;refine(ze (dA.ext (e.J j) h.bS) I).bL j m λg T c N t=>⟨_,O,λk=>fy (λf=>nb c k f.mN) (e.J t),λk=>?_⟩;have w:=yb c k;refine gP (n:=b.di.length) V (λr l=>D i l/\∀s∈b.di.take r,pd b s) ⟨t,bO⟩ ?_;rintro r U K μ Q ⟨x,v⟩ J
 have q:=e.J x;refine dit (λF=>?_) λF=>?_
 .let⟨s,o⟩:=dV b.di r;let⟨L,g,M,G,c,H,z,g1,g2,A,B⟩:=(mh.ext q h.di).bt o;refine⟨V,V,_,z,_,g1,_,g2,_,A,_,B,?_⟩;exact(Lr (gY.ext q h) w.dk ⟨G,c,H⟩).bL x m λg W c P u=>⟨_,O,λl=>fy (λf=>nb c l (f.eS s (aZ o))) (e.J u),λl=>J V _ ⟨u,dK o v (yb c l)⟩⟩
 .exact oD ⟨w,gH V v⟩ q
end
section
variable{m:bg}{s:E}{t c:Int}{l:ab}
theorem fX.SZ{α:Type}{d:Nat}{R:ae->α->Prop}{l:List α}(h:fX m d R s l){k:Nat}(n:k<=l.length):fX m d R (s.cut 0 k d) (l.take k):=by
 have b:=h.aT;have f:=h.ms;have i:=h.kK;cases s with
 |nil=>
  simp at b;have:k=0:=V;subst this;exact⟨by simp[E.cut],by simp[E.cut],by simp[E.cut],bO⟩
 |DK e o sp=>
  simp at b;have:k=0:=V;subst this;exact⟨by simp[E.cut],by simp[E.cut],by simp[E.cut],bO⟩
 |mk e o p c=>
  simp only[E.kv,E.SU]at b f i;refine⟨by simp[E.cut];omega,by simp[E.cut];omega,by simp[E.cut];omega,λj x a=>?_⟩;have g:j<k:=by have:=br a;simp at this;omega
  rw[lQ,bn g]at a;have:=h.kZ j x a;simpa[E.cut]using this
def tI{bS:E}:fW dO 71 [bS.v,vi t] m (zR bS.len t):=by
 apply Kq;constructor<;>grind [D.cU,zR]
def Aa{g:E}(b:ba m g l){bS:E}:fW dO 72 [bS.v,g.v] m (HL bS.len l):=by
 apply GF;have i:=b.aT;refine gP (n:=l.length) (i▸b.kK) (λk a=>D m a/\∀t∈l.take k,zR bS.len t) ⟨cY,bO⟩ ?_;rintro k r I μ q ⟨a,f⟩ o
 refine dit (λh=>?_) λh=>?_
 .let⟨x,c⟩:=dV l k;refine⟨V,V,x,by simpa using a.aS (b.bt c),?_⟩;exact(tI).cg λp s e d=>⟨_,O,λh=>fy (λj=>nb e h (j x (aZ c))) (a.J d),λh=>o V _ ⟨a.J d,dK c f (yb e h)⟩⟩
 .exact oD (gH V f) a
def qL(a:Int)(m:bg)(b:a≠7/\a≠8):fW dO 79 [vi a] m (lO a):=by
 apply Aj;constructor<;>grind [D.cU,lO]
def rh{bS:E}{a:af}(hd:dA m bS a)(s:a.length<=4)(k:∀d∈a,d.eB.length<=3):DO dO 25 [E.v bS] m (vi (gR a).length):=by
 apply GH;simp -zeta only[kL];have q:=hd.aT;refine gL (n:=a.length) V (λj f b=>D m b/\f=(fc a j:Nat)/\fc a j<=3*j) ⟨cY,by cases a<;>rfl,by cases a<;>simp[fc]⟩ ?_;rintro j f t I μ r ⟨c,rfl,p⟩ l
 refine dit (λi=>?_) λi=>?_
 .let⟨d,b⟩:=dV a j;let⟨g,e,h,g1,g2⟩:=(dA.ext c hd).bt b;refine⟨V,V,_,h,_,g1,g,g2,?_⟩;intro u v;have o:=k d (aZ b);refine l V _ _ ⟨(c.bZ _).aV c.aQ _ _,?_,?_⟩
  .rw[de V (oh e.aT),wD b,e.aT];rfl
  .rw[wD b];omega
 .refine⟨?_,c⟩;rw[qI a j V]
def OW{a:af}(h:eR a):∀d∈a,d.eB.length<=3:=λd hd=>by
 grind [List.mem_iff_getElem?,nK]
def Xw:∀(a:af)(k:Nat),(gR (a.take k)).length=fc a k
 |[],k=>by simp[gR,Wf]
 |d::a,0=>by simp[gR,fc]
 |d::a,k+1=>by
  have:=Xw a k;grind [gR,List.length_append,fc]
def vG{bS:E}{a:af}(hd:dA m bS a)(e:eR a)(t:Int):bK dO 43 [E.v bS,vi t] m λK b=>∃s,K=E.v s/\jy m b bB 1 s ((cT a t).map Ce.i)/\(cT a t).length<=3/\D m b:=by
 apply Km;have T:=hd.aT;have S:=hd.ms;have c:∀(h:¬(1<=t/\t<=a.length)),jy m m bB 1 .nil ((cT a t).map Ce.i)/\(cT a t).length<=3:=λh=>by
  unfold cT;rw[aW h];exact⟨jy.gN _ _ _ _,bO⟩
 have:=e.aT;refine dit (λh=>?_) λh=>?_
 .exact⟨_,O,(c V).1,(c V).2,cY⟩
 refine dit (λx=>?_) λx=>?_
 .exact⟨_,O,(c V).1,(c V).2,cY⟩
 have r:eJ (t -1)=((t.toNat -1:Nat):Int):=by rw[de V V];omega
 rw[r];let⟨d,f⟩:=dV a (t.toNat -1);have u:cT a t=(List.range d.eB.length).map λi=>((fc a (t.toNat -1)+i:Nat):Int):=by
  unfold cT;rw[bn V,f];rfl
 rw[u];have Q:=tF e (t.toNat -1);have R:=nK e f;refine⟨V,V,V,?_⟩;have C:dA m (bS.cut 0 (t.toNat -1) 3) (a.take (t.toNat -1)):=fX.SZ hd V;have g:=rh C eX (λd hd=>OW e d (gW hd));rw[Xw]at g;refine g.cg λH p=>⟨_,O,?_⟩;let⟨w,F,M,g1,g2⟩:=(dA.ext p hd).bt f;have U:=F.aT;refine⟨V,V,w,sp g2,?_⟩;refine gL (n:=d.eB.length) V (λj s b=>D m b/\jy m b bB 1 s (((List.range j).map λi=>((fc a (t.toNat -1)+i:Nat):Int)).map Ce.i)/\s.len=j) ⟨p,by simpa using jy.gN m H bB 1,O⟩ ?_;rintro j s I L μ W ⟨o,k,l⟩ J
 refine dit (λy=>?_) λy=>?_
 .intro q;have v:eJ (((fc a (t.toNat -1):Nat):Int)+(j:Int))=((fc a (t.toNat -1)+j:Nat):Int):=by rw[de V V];omega
  have G:q=I.push (.cells (db [.i (((fc a (t.toNat -1)+j:Nat):Int))]) bB):=by rw[<-v]
  clear_value q;subst G;refine jy.fx (c:=[.i 0]) (i:=[.i ((fc a (t.toNat -1)+j:Nat):Int)]) (k.ext (D.push _ _)) (o.bZ _) O (dF.push _ _ _).kZ (by simp[l];omega) ?_;intro X b z A B N P _;refine J V _ _ ⟨A,?_,by simp[B,l]⟩
  rw[List.range_succ,lI,lI];exact z
 .have:j=d.eB.length:=V;subst this;exact⟨_,O,k,eX,o⟩
def xt{bS:E}{a:af}(hd:dA m bS a)(f:eR a)(t:Int):bK dO 43 [bS.v,vi t] m λv b=>∃s,v=s.v/\ba b s (cT a t)/\D m b:=
 (vG hd f t).aP λ_ _⟨s,c,d,g,e⟩=>⟨s,c,ba.ju d V,e⟩
def UF{a:af}{i j:Nat}{d:cR}{f:ab}(h:a[i]? =some d)(b:d.eB[j]? =some f):cX a ((fc a i+j:Nat):Int)=f:=by
 unfold cX;rw[bn V,fq,uW a i j d h (br b),b];rfl
def Iu{a:af}(h:c∈cT a t):1<=t/\t<=a.length/\(fc a (t.toNat -1):Int)<=c/\c<fc a t.toNat:=by
 unfold cT at h;split at h
 .rename_i e;let⟨x,b⟩:=dV a (t.toNat -1);rw[b]at h;obtain⟨i,d,rfl⟩:=gK.1 h;have:=wD b;grind
 .simp at h
theorem Us{b:af}{a:Int}(h:c∈cT b t)(e:c∈cT b a):t=a:=by
 let⟨f,a2,a3,a4⟩:=Iu h;let⟨b1,b2,b3,b4⟩:=Iu e;rcases Nat.lt_trichotomy t.toNat a.toNat with d|d|d
 .have:=Kb b (b:=t.toNat) (c:=a.toNat -1) V;omega
 .omega
 .have:=Kb b (b:=a.toNat) (c:=t.toNat -1) V;omega
def HY{bS:E}{a:af}(hd:dA m bS a)(o:eR a)(c:Int)(Z: -1000000<=c/\c<=1000000):bK dO 202 [bS.v,vi c] m λS e=>∃t s,S=.tuple #[vi t,.agg #[s.v]]/\ba e s (cX a c)/\D m e/\(0<=t->c∈cT a t)/\(∀w,c∈cT a w->0<=t):=by
 apply LX;simp -zeta only[dR];intro r;have Q:=px r;clear_value r;have aa:=hd.aT;have:=o.aT;refine gL (n:=a.length) V (λb x e=>D m e/\r.size<=e.size/\x=c -(fc a b:Nat)/\¬(0<=c/\c<fc a b)) ⟨Q,bY,by cases a<;>simp[fc],by cases a<;>simp[fc]⟩ ?_;rintro b x B I μ hj ⟨P,ae,rfl,N⟩ ag
 refine dit (λJ=>?_) λJ=>?_
 .let⟨y,d⟩:=dV a b;let⟨f,z,G,g1,g2⟩:=(dA.ext P hd).bt d;have ab:=z.aT;have X:=tF o b;have Y:=nK o d;refine⟨V,V,_,G,_,g1,f,g2,?_⟩;intro m3 u;have R:D B u:=by grind [D.cU,D.bZ,D.aV]
  have A:¬(0<=c -(fc a b:Nat)/\c -(fc a b:Nat)<y.eB.length)->I (eJ (c -(fc a b:Nat) -(f.len:Int))) (eJ ((b:Int)+1)) u/\μ (eJ (c -(fc a b:Nat) -(f.len:Int))) (eJ ((b:Int)+1)) u<μ (c -(fc a b:Nat)) b B:=by
   grind [D.J,D.aQ,de,wD]
  refine⟨λg=>⟨λl=>?_,λl=>A ?_⟩,λg=>A ?_⟩
  .simp only[bh]at g l;let⟨T,p⟩:=dV y.eB ((c -(fc a b:Nat)).toNat);let⟨k,hg,H⟩:=(tr.ext R z).bt p;refine⟨V,V,k,H,?_⟩;intro v;have q:D m v:=by grind [D.J,D.aV]
   have M:c∈cT a (eJ ((b:Int)+1)):=by
    rw[Pf V];unfold cT;rw[bn V,show((b+1:Nat):Int).toNat -1=b by omega,d];grind [fc]
   refine⟨_,k,O,?_,q,λ_=>M,λ_ _=>by rw[Pf V];omega⟩;have h:cX a c=T:=by
    have:=UF d p;grind
   rw[h];obtain⟨C,K,_,_,U⟩:=hd.bt d;have L:f=C:=by
    grind [D.aS,E.LC]
   subst L;let⟨F,ac,W⟩:=K.bt p;have ad:k=F:=by
    grind [D.J,D.aS,E.LC]
   grind [ba.ext]
  .simp at g l;omega
  .simp at g;omega
 .intro v;have q:D m v:=by grind [D.aV]
  refine⟨_,.nil,O,?_,q,λd=>absurd d cD,λw f=>absurd ?_ N⟩;rotate_left
  .let⟨b1,b2,b3,b4⟩:=Iu f;have:=Kb a (b:=w.toNat) (c:=b) V;omega
  have h:cX a c=[]:=by
   grind [cX,List.getElem?_eq_none,qI]
  rw[h];exact⟨O,bY,bO,bO⟩
theorem Rv{bS:E}{a:af}(hd:dA m bS a)(h:eR a)(c:Int)(g: -1000000<=c/\c<=1000000):bK dO 202 [bS.v,vi c] m λv b=>∃t s,v=.tuple #[vi t,.agg #[s.v]]/\ba b s (cX a c)/\D m b:=
 (HY hd h c g).aP λ_ _⟨t,s,d,e,f,_⟩=>⟨t,s,d,e,f⟩
def uy{bS:E}{a:af}(hd:dA m bS a)(e:eR a)(d: -1000000<=c/\c<=1000000):bK dO 137 [E.v bS,vi c] m λv b=>∃s,v=E.v s/\ba b s (cX a c)/\D m b:=by
 apply GJ;grind [kL,nO,Rv,bK.aP,D,D.cU,D.bZ,D.aV,ba.ext,D.J]
def Av(f:ba m s l)(g:Nat)(e d:Array Value)(t:GL.elem g=true)(q:Int->Prop)
 (p:∀x∈l,∀a,D m a->fW dO g (e.toList++[vi x]++d.toList) a (q x)):
 bK dO 136 [s.v,.func (.func g) e d] m λz a=>∃r:Int,z=vi r/\D m a/\
  ((r= -1/\∀x∈l,¬q x)\/∃(k:Nat)(x:Int),r=k/\l[k]? =some x/\q x/\∀y∈l.take k,¬q y):=by
 apply uC s (.func g,e,d)
 have u:=f.aT
 refine gP (n:=l.length) (u▸f.kK) (λk a=>D m a/\∀y∈l.take k,¬q y) ⟨cY,bO⟩ ?_
 rintro k v I μ B ⟨b,o⟩ w
 refine⟨λh=>?_,λh=>?_⟩
 .simp only[bh]at h
  let⟨x,c⟩:=dV l k
  refine⟨V,V,x,by simpa using b.aS (f.bt c),g,O,t,?_⟩
  exact(p x (aZ c) v b).cg λA C j i=>⟨_,O,λh=>⟨_,O,b.J i,bR ⟨k,x,O,c,j.1 h,o⟩⟩,λh=>w V _ ⟨b.J i,dK c o (fb j h)⟩⟩
 .grind [decide_eq_false_iff_not]
def jV(f:ba m s l)(g:Nat)(b a:Array Value)(e:GL.elem g=true)(q:Int->Prop)
 (d:∀x∈l,∀c,D m c->fW dO g (b.toList++[vi x]++a.toList) c (q x)):
 fW dO 81 [s.v,.func (.func g) b a] m (∃x∈l,q x):=by
 apply tn s (.func g,b,a)
 refine(Av f g b a e q d).aP ?_
 grind [ge_iff_le,aZ]
end
section
variable{s c k d r:E}{b:bg}{e:ad}{Q:ab->Prop}{v:ab}{x:eN}
structure _root_.Go.Vc.j7 where
 aY:ab
 df:ab
 bQ:Int
 eY:Bk
def lz(m:bg)(a:ae)(r:j7):Prop:=∃p l s,a=[.s p,.s l,.i r.bQ,.s s,.i r.eY.bQ]/\ba m p r.aY/\ba m l r.df/\iN m s r.eY.bA
abbrev DS(m:bg)(s:E)(l:List j7):Prop:=fX m 5 (lz m) s l
@[grind cases] structure iF (m:bg) (d r:E) (ds:af) (rs:List j7):Prop where
 bS:dA m d ds
 lJ:DS m r rs
 dk:eR ds
 p7:rs.length<=4
theorem lz.le{m b:bg}(h:Le m b){a:ae}{x:j7}:lz m a x->lz b a x:=λ⟨p,l,s,c,d,e,f⟩=>⟨p,l,s,c,d.le h,e.le h,f.le h⟩
def lz.aP:sE 5 lz:=⟨λh=>lz.le h,λh=>by obtain⟨_,_,_,rfl,_⟩:=h;rfl⟩
def DS.le{m b:bg}(a:Le m b){s:E}{l:List j7}(h:DS m s l):DS b s l:=by grind [fX.le,lz.le]
theorem DS.bt{m:bg}{l:List j7}(h:DS m s l){k:Nat}{x:j7}(f:l[k]? =some x):
 ∃p t b,ba m p x.aY/\ba m t x.df/\iN m b x.eY.bA/\aS m s.bz (s.off+k*5)=some p.v/\aS m s.bz (s.off+k*5+1)=some t.v/\aS m s.bz (s.off+k*5+2)=some (vi x.bQ)/\aS m s.bz (s.off+k*5+3)=some b.v/\aS m s.bz (s.off+k*5+4)=some (vi x.eY.bQ):=by
 obtain⟨g,⟨p,t,b,rfl,c,d,e⟩,a⟩:=h.kZ k x f
 exact⟨p,t,b,c,d,e,a 0 _ O,a 1 _ O,a 2 _ O,a 3 _ O,a 4 _ O⟩
theorem iF.le{m b:bg}{d r:E}{a:af}{e:List j7}(h:iF m d r a e)(c:Le m b):iF b d r a e:=⟨h.bS.le c,h.lJ.le c,h.dk,h.p7⟩
def EB{m:bg}:Le m (dB [] m):=λb o v h=>iO.2 ⟨bO,h⟩
theorem Kd{a:af}(h:eR a)(c:Int):(cX a c).length<=3:=by
 unfold cX;split
 .rcases dJ c.toNat (gR a).length with b|b
  .let⟨i,d,e,f,g⟩:=zn a c.toNat b;have j:=uW a i (c.toNat -fc a i) d e V;grind [fc,dV,eR.eS,zj.jw,aZ]
  grind [List.getElem?_eq_none]
 .simp
def adJ{a:af}(h:eR a)(t:Int):(cT a t).length<=3:=by
 grind [cT,nK]
def V0{a:af}(h:eR a)(b cE:Int)(k:Nat):Gc a b cE k<=3:=by
 grind [Gc,Kd]
abbrev JW(f:Nat)(a:ap)(m:bg):Prop:=wX f a m λ_=>True
def sT(f:Nat)(a:ap)(m:bg):Prop:=bK dO f a m λv b=>∃c:Bool,v=.bool c/\D m b
def rN{m:bg}{n:Int}(h:D m b):∃k:Int,vi n=vi k/\True/\D m b:=⟨n,O,trivial,h⟩
def rA{m:bg}{a:Bool}(h:D m b):∃k:Bool,vb a=.bool k/\D m b:=⟨a,O,h⟩
def _root_.Go.Vc.fW.jY{f:Nat}{a:ap}{m:bg}{p:Prop}(h:fW dO f a m p):sT f a m:=h.aP λ_ _⟨b,e,_,x⟩=>⟨b,e,x⟩
section
variable{f:Nat}{g:ap}{a m:bg}{K:aj}{l:ad}
def JW.bL(i:JW f g m)(e:D a m)(o:∀c∈l,c<a.size)(k:∀(n:Int) b,D m b->D a b->K (vi n) b):bK dO f g m λv b=>gS l m b/\K v b:=
 i.aP λ_ b⟨n,h,_,d⟩=>⟨d.eV λc j=>e.lt (o c j),h▸k n b d (e.J d)⟩
def sT.bL(i:sT f g m)(e:D a m)(n:∀c∈l,c<a.size)(k:∀(c:Bool) b,D m b->D a b->K (vb c) b):bK dO f g m λv b=>gS l m b/\K v b:=
 i.aP λ_ b⟨o,h,d⟩=>⟨d.eV λc j=>e.lt (n c j),h▸k o b d (e.J d)⟩
def wX.bL{Q:Int->Prop}(i:wX f g m Q)(e:D a m)(o:∀c∈l,c<a.size)(k:∀(n:Int) b,Q n->D m b->D a b->K (vi n) b):bK dO f g m λv b=>gS l m b/\K v b:=
 i.aP λ_ b⟨n,h,q,d⟩=>⟨d.eV λc j=>e.lt (o c j),h▸k n b q d (e.J d)⟩
def JV.bL(k:JV f g m e Q)(i:D a m)(q:∀d∈l,d<a.size)(p:∀s c b,ba (dB e b) s c->Q c->D m b->D a b->K s.v b):bK dO f g m λv b=>gS l m b/\K v b:=
 k.aP λ_ b⟨s,c,j,n,r,h⟩=>⟨h.eV λd o=>i.lt (q d o),j▸p s c b n r h (i.J h)⟩
def oA.bL(k:oA f g m e Q)(i:D a m)(q:∀d∈l,d<a.size)(p:∀s c b,GI e m b s c->Q c->D m b->D a b->K s.v b):bK dO f g m λv b=>gS l m b/\K v b:=
 k.aP λ_ b⟨s,c,j,n,r,h⟩=>⟨h.eV λd o=>i.lt (q d o),j▸p s c b n r h (i.J h)⟩
end
def _root_.Go.Vc.D.aa2{a m:bg}(e:D a m){l:ad}(d:∀c∈l,c<a.size)(h:D m b):gS l m b:=by grind [D.eV,D.lt]
def fV{m:bg}{bS:E}{a:af}(hd:dA (dB e m) bS a)(f:eR a)(c:Int):JV 149 [bS.v,vi c] m e (cX a c=·):=by
 apply vk;have l:dA m bS a:=hd.le fN;have D:=hd.aT;have:=f.aT;refine(pM l f c).aP ?_;rintro _ H ⟨J,rfl,k,h⟩;refine⟨_,O,dit (λt=>?_) λt=>?_⟩
 .refine⟨_,_,O,?_,O,h.bZ _⟩;have g:cX a c=[]:=by
   rcases k with⟨i,d,u,_⟩|⟨_,b⟩
   .omega
   .grind [cX]
  rw[g];exact⟨O,bY,bO,bO⟩
 .rcases k with⟨i,d,rfl,b,A,B⟩|⟨u,_⟩
  .have G:=br b;let⟨r,n,y,g1,g2⟩:=(hd.le (h.fj (S:=e))).bt b;have o:eJ ((i:Int)+1 -1)=i:=by grind [de]
   rw[o];have g2:=(iO.1 g2).2;refine⟨V,V,r,sp g2,?_⟩;refine(nk (dA.ext h l) f V).cg λI g=>⟨_,O,g.da (sp g2),?_⟩;have z:=tF f i;have C:=nK f b;have F:=n.aT;let⟨x,w⟩:=dV d.eB ((c -fc a i).toNat);let⟨j,v,s⟩:=tr.bt (fX.le n (g.fj (S:=e)) (qD.le (g.fj (S:=e)))) w;have p:eJ (c -(fc a i:Int))=c -fc a i:=by grind [de]
   rw[p];refine⟨V,V,j,(iO.1 s).2,j,_,O,?_,O,h.J g⟩;have q:cX a c=x:=by
    unfold cX;rw[bn V];have:=uW a i (c -fc a i).toNat d b V;grind
   rw[q];exact v
  .omega
def kQ{m:bg}(K:∀l∈e,l<m.size){bS:E}{a:af}(hd:dA m bS a)(c:eR a)(t:Int):JV 151 [bS.v,vi t] m e (cT a t=·):=by
 apply yX;intro B;have L:=hd.aT;have:=c.aT;have u:=px B;refine(dj).cg λl P y g=>⟨_,O,λh=>?_,λh=>?_⟩
 .refine⟨_,_,O,?_,O,u.J g⟩;have f:cT a t=[]:=by
   grind [cT]
  rw[f];exact⟨O,bY,bO,bO⟩
 .have h:=yb y h;have v:eJ (t -1)=((t.toNat -1:Nat):Int):=by grind [de]
  rw[v];let⟨d,q⟩:=dV a (t.toNat -1);have w:cT a t=(List.range d.eB.length).map λk=>((fc a (t.toNat -1)+k:Nat):Int):=by
   grind [cT]
  rw[w];have H:=tF c (t.toNat -1);have J:=nK c q;refine gL (n:=d.eB.length) V (λj s b=>D m b/\GI e m b s ((List.range j).map λk=>((fc a (t.toNat -1)+k:Nat):Int))) ⟨u.J g,(GI.gN e m).ext g⟩ ?_;rintro j s Q I μ N ⟨i,A⟩ C
  let⟨f,z,G,g1,g2⟩:=(dA.ext i hd).bt q;have M:=z.aT;refine⟨V,V,f,sp g2,λo=>?_,λo=>?_⟩
  .simp only[bh]at o;refine(nk (dA.ext i hd) c V).cg λR p=>⟨_,O,?_⟩;have x:eJ (((fc a (t.toNat -1):Nat):Int)+(j:Int))=((fc a (t.toNat -1)+j:Nat):Int):=by grind [de]
   rw[x];intro S;refine GI.nE (A.ext p) ((i.J p).fz []) cB λr b F f _ _=>C V _ _ ⟨f.ext,?_⟩
   grind [List.range_succ]
  grind [GI.cr]
def qQ{m:bg}{bS:E}{a:af}(hd:dA m bS a)(e:eR a)(t:Int):fW dO 309 [bS.v,vi t] m (∃d,1<=t/\a[t.toNat -1]? =some d/\d.eB.length=0):=by
 apply Jq;have l:=hd.aT;have:=e.aT;refine(dj).cg λg o b f=>⟨_,O,λh=>?_,λh=>?_⟩
 .have h:=b.1 h;let⟨d,c⟩:=dV a (t.toNat -1);let⟨j,n,k,g1,g2⟩:=(dA.ext f hd).bt c;have i:eJ (t -1)=((t.toNat -1:Nat):Int):=by grind [de]
  grind
 .grind
def EO{m:bg}{bS:E}{a:af}(hd:dA m bS a)(f:eR a)(u t:Int):
 wX 331 [bS.v,vi u,vi t] m λk=>k= -1\/∃(i:Nat)(d:cR),k=i+1/\a[i]? =some d/\d.eB.length=0/\d.qe=u/\d.to=t:=by
 apply Jc
 have p:=hd.aT
 have:=f.aT
 refine gP (n:=a.length) V (λ_ b=>D m b) cY ?_
 rintro k g I μ r c j
 refine⟨λh=>?_,λh=>⟨_,O,bC O,c⟩⟩
 simp only[bh]at h
 let⟨d,e⟩:=dV a k
 let⟨l,q,o,g1,g2⟩:=(dA.ext c hd).bt e
 have s:=j V g c
 constructor<;>grind [de]
theorem wS{m:bg}{i p:E}{f t:ab}(g:ba m c v)(e:ba m i f)(l:ba m p t):sT 306 [c.v,i.v,p.v] m:=by
 apply Nb;have C:=g.aT;have r:=e.aT;have F:=l.aT;have G:=g.kK;refine⟨λ_=>rA cY,λh=>?_⟩;simp only[nX]at h;refine gP (n:=f.length) (r▸e.kK) (λ_ b=>D m b) cY ?_;rintro k J I μ H a y
 refine⟨λh=>?_,λh=>rA a⟩;simp only[bh]at h;let⟨x,o⟩:=dV f k;refine⟨V,V,x,(e.ext a).bt o,?_⟩;have q:eJ ((c.len:Int) -1)=(v.length:Int) -1:=by grind [de]
 rw[q];refine(dj).cg λB K s d=>⟨_,O,λ_=>rA (a.J d),λj=>?_⟩;have j:=yb s j;let⟨z,u⟩:=dV v x.toNat;let⟨A,w⟩:=dV t k;exact⟨V,V,x,(e.ext (a.J d)).bt o,V,V,z,(g.ext (a.J d)).bt u,V,V,A,(l.ext (a.J d)).bt w,λ_=>rA (a.J d),λ_=>y V _ (a.J d)⟩
def RI(a:Int)(m:bg):sT 304 [vi a] m:=by
 apply KZ;have r:∀b:Bool,∃k:Bool,vb b=.bool k/\D m m:=by grind [D.cU]
 exact⟨λ_=>r _,λ_=>⟨λ_=>r _,λ_=>⟨λ_=>r _,λ_=>⟨λ_=>r _,λ_=>r _⟩⟩⟩⟩
def tp(x:eN)(a k:E):Value:=.agg #[vi x.op,vi x.cE,vi x.dh,a.v,k.v]
def AQ{m:bg}{g:E}(d:ba m c v)(x:eN):sT 305 [c.v,.agg #[vi x.op,vi x.cE,vi x.dh,g.v,k.v]] m:=by
 apply FL;simp -zeta only[dR];intro b;have a:=px b;have l:∀f∈[m.size],f<b.size:=by simp[b]
 have o:=d.aT;have p:=d.kK;refine⟨λ_=>rA a,λ_=>⟨λ_=>?_,λ_=>rA a⟩⟩;refine(dj).bL (D.cU b) l λf q j _ e=>⟨_,O,λh=>?_,λ_=>rA (a.J e)⟩;have h:=j.1 h;have i:eJ (x.dh -1)=((x.dh.toNat -1:Nat):Int):=by grind [de]
 rw[i];let⟨y,n⟩:=dV v (x.dh.toNat -1);exact⟨V,V,y,(d.ext (a.J e)).bt n,rA (a.J e)⟩
def Hb{m:bg}{l:E}{s:af}{B:List j7}(o:iF m d r s B)(g:ba m c v)(f:ba m l x.aO):JW 310 [.agg #[d.v,r.v],c.v,tp x l k] m:=by
 apply AE;simp -zeta only[dR];intro A i;have b:D m i:=by grind [D.push,D.J]
 have n:∀e∈[A.size,m.size],e<i.size:=cB;have C:=g.aT;have F:=g.kK;have G:=f.aT;refine⟨λ_=>rN b,λh=>?_⟩;simp only[nX]at h;let⟨y,p⟩:=dV x.aO 0;refine⟨V,V,y,(f.ext b).bt p,?_⟩;have t:eJ ((c.len:Int) -1)=(v.length:Int) -1:=by grind [de]
 rw[t];refine(dj).bL (D.cU i) n λe H u _ j=>⟨_,O,λ_=>rN (b.J j),λh=>?_⟩;have h:=yb u h;have a:=b.J j;let⟨z,w⟩:=dV v y.toNat;have g1:=(f.ext a).bt p;have g2:=(g.ext a).bt w;refine⟨V,V,y,g1,V,V,z,g2,λ_=>rN a,λ_=>⟨λ_=>⟨λ_=>⟨V,V,y,g1,V,V,z,g2,?_⟩,λ_=>rN a⟩,λ_=>rN a⟩⟩;exact(qQ ((o.le a.le).bS) o.dk z).jY.bL j n λe I J q=>⟨_,O,λ_=>rN (b.J q),λ_=>rN (b.J q)⟩
def JA{m:bg}{o:E}{F:af}{n:List j7}(f:iF m d r F n)(R:ba m c v)(M:ba m o x.aO):JW 308 [.agg #[d.v,r.v],c.v,tp x o k] m:=by
 apply Cb;simp -zeta only[dR];intro w j;have A:D m j:=by grind [D.push,D.J]
 have P:∀e∈[w.size,m.size],e<j.size:=cB;have h1:=f.lJ.aT;have h2:=f.p7;have G:eJ ((r.len:Int) -1)=(n.length:Int) -1:=by grind [de]
 rw[G];refine(dj).bL (D.cU j) P λe y N _ B=>⟨_,O,λ_=>rN (A.J B),λp=>?_⟩;have p:=yb N p;have z:=A.J B;let⟨q,Q⟩:=dV n x.cE.toNat;let⟨U,ab,s,g,Y,Z,I,g1,g2,J,K⟩:=(f.le z.le).lJ.bt Q;refine⟨V,V,_,I,_,g1,_,g2,_,J,_,K,?_⟩;intro m3 h;have C:D y h:=by grind [D.cU,D.bZ,D.aV]
 have i:∀e∈[y.size,w.size,m.size],e<h.size:=by
  grind [bD]
 have a:=z.J C;have u:=R.ext a;have t:=M.ext a;have l:=g.ext C;have h5:=g.aT;have h6:=g.ms;have h7:=g.kK;refine⟨λ_=>(wS u t l).bL (D.cU h) i λe T b _=>⟨_,O,λ_=>rN (a.J b),λ_=>rN (a.J b)⟩,λ_=>⟨λ_=>rN a,λL=>⟨λ_=>rN a,λ_=>?_⟩⟩⟩;simp only[bd]at L;have H:eJ ((U.len:Int) -1)=((q.aY.length -1:Nat):Int):=by grind [de]
 rw[H];let⟨X,S⟩:=dV q.aY (q.aY.length -1);refine⟨V,V,V,(wS u t (fX.SZ l V)).bL (D.cU h) i λe T b _=>⟨_,O,λ_=>rN (a.J b),λ_=>⟨V,V,X,(l.ext b).bt S,?_⟩⟩⟩;exact(EO (f.le (a.J b).le).bS f.dk _ _).bL b i λaa m6 _ x6 W=>⟨_,O,rN (a.J W)⟩
def acK(a:af)(e:List j7)(b:Bk):Prop:=∀(m:bg)(d r c t:E)(v:ab),iF m d r a e->ba m c v->iN m t b.bA->v.length+4*b.w<=10^12->JW 270 [.agg #[d.v,r.v],c.v,.agg #[t.v,vi b.bQ]] m
def OA{m:bg}{aa:E}{s:af}{W:List j7}(f:iF m d r s W)(T:ba m c v)(w:rQ m k x.dv)(hb:v.length+4*x.w<=10^12)(ih:∀i∈x.dv,acK s W i):JW 307 [.agg #[d.v,r.v],c.v,tp x aa k] m:=by
 apply Hk;simp -zeta only[dR];intro m0 F;have g:D m F:=by grind [D.push,D.J]
 have o:∀i∈[m0.size,m.size],i<F.size:=cB;have ab:=w.aT;have hw:=eN.pP x;refine(kQ (e:=[]) bO (f.le g.le).bS f.dk x.cE).bL (D.cU F) o λac cl G u q M _=>⟨_,O,?_⟩;subst q;have u:=u.le fN;have ag:=u.aT;have h3:=adJ f.dk x.cE;refine⟨λJ Z=>Z=G/\0<=J/\(x.op=8->J=(cT s x.cE).length),⟨λh=>?_,λh=>⟨O,V,λ_=>V⟩⟩,?_⟩
 .grind
 rintro J ah ⟨l,h4,h5⟩;have l:=l.symm;subst l;refine⟨λ_=>rN (g.J M),λ_=>⟨λ_=>rN (g.J M),λR=>?_⟩⟩;simp only[nX]at R;subst R;refine gL (n:=x.dv.length) (ab▸w.kK) (λ_ _ b=>D G b) cY ?_;rintro j y H Q μ hj z ai
 have K:=M.J z;have p:=g.J K;refine⟨λh=>?_,λ_=>rN p⟩;simp only[bh]at h;let⟨i,t⟩:=dV x.dv j;have U:=ih i (aZ t);have ae:=Be t;have X:∀(a:Int)(e:bg),D G e->((decide (a<(0:Int)))=true->∃k:Int,vi (-1)=vi k/\True/\D m e)/\((decide (a<(0:Int)))=false->((decide ((j:Int)>(0:Int)))=true->((a !=y)=true->∃k:Int,vi (-1)=vi k/\True/\D m e)/\((a !=y)=false->Q a (eJ ((j:Int)+1)) e/\μ a (eJ ((j:Int)+1)) e<μ y j H))/\((decide ((j:Int)>(0:Int)))=false->Q a (eJ ((j:Int)+1)) e/\μ a (eJ ((j:Int)+1)) e<μ y j H)):=λa e h=>by
  grind [D.J]
 refine⟨λh=>?_,λh=>?_⟩
 .simp only[bP]at h;have h7:=h5 h;let⟨P,hy⟩:=dV (cT s x.cE) j;refine⟨V,V,P,(u.ext z).bt hy,?_⟩;refine(fV (e:=[]) (f.le (p.le.J EB)).bS f.dk P).bL K o λad fl e hf q x4 Y=>⟨_,O,?_⟩;subst q;have h8:=Kd f.dk P;refine(iL (S:=[]) bO (T.le ((g.J Y).le.J EB)) hf V).bL Y o λl el m5 he q x5 L=>⟨_,O,?_⟩;subst q;let⟨A,C,B,g1⟩:=(w.le (g.J L).le).bt t;refine⟨V,V,_,B,_,g1,?_⟩;exact(U m5 d r l A _ (f.le (g.J L).le) ((he.cr bO cB).le fN) C cB).bL L o λa I N _=>⟨_,O,X a I (((z.J x4).J x5).J N)⟩
 .let⟨A,C,B,g1⟩:=(w.le p.le).bt t;refine⟨V,V,_,B,_,g1,?_⟩;exact(U H d r c A _ (f.le p.le) (T.ext p) C V).bL K o λa I N _=>⟨_,O,X a I (z.J N)⟩
def Vw{b:bg}(a:ab){n:Nat}(d:n=a.length)(c:a.length<=9223372036854775807):ba (b.push (.cells (db (a.map Ce.i)) bB)) (.mk b.size 0 n n) a:=
 (ba.km (S:=[]) bB (l:=a) bO O d c).le fN
theorem _root_.Go.Vc.fX.PG{α:Type}{n:bg}{b:Nat}{R:ae->α->Prop}{l:List α}(h:fX n b R s l){i j:Nat}(t:i<=j)(u:j<=l.length):fX n b R (s.cut i j b) ((l.take j).drop i):=by
 have a:=h.aT;have m:=h.ms;have w:=h.kK;have g:(s.cut i j b).len=j -i/\(s.cut i j b).len<=(s.cut i j b).cap:=by
  cases s with
  |nil=>simp at a;simp[E.cut];omega
  |DK d o sp=>simp at a;simp[E.cut];omega
  |mk d o r f=>simp at a m;simp[E.cut];omega
 refine⟨by simp[g.1];omega,g.2,V,λk x c=>?_⟩;rw[rL,lQ]at c;split at c
 .rename_i v;let⟨p,q,e⟩:=h.kZ _ x c;refine⟨p,q,?_⟩;cases s with
  |nil=>simp at a;omega
  |DK d o sp=>simp at a;omega
  |mk d o r f=>
   simp at a m;have:¬f=i:=V;simp only[E.cut,this,nv,E.lT,E.vP]at e⊢;rw[oB,<-iv]at e;exact e
 .simp at c
def sB{n:bg}{t:E}{F:af}{Z:List j7}(u:iF n d r F Z)(Y:ba n c v)(X:ba n t x.aO)(hk:rQ n k x.dv)(w:v.length+4*x.w<=10^12)(ih:∀g∈x.dv,acK F Z g):JW 265 [.agg #[d.v,r.v],c.v,tp x t k] n:=by
 apply HD;simp -zeta only[dR];intro B o;have P:D n o:=by grind [D.push,D.J]
 have j:∀g∈[B.size,n.size],g<o.size:=cB;have h1:=X.aT;have h2:=X.ms;have s:∀{l:bg},D o l->ba l c v:=λh=>Y.ext (P.J h);have A:∀{l:bg},D o l->ba l t x.aO:=λh=>X.ext (P.J h);have N:∀{l:bg},D o l->iF l d r F Z:=λh=>u.le (P.J h).le;have m:∀{l:bg}{q:Int},D o l->∃k:Int,vi q=vi k/\True/\D n l:=by grind [D.J]
 have K:∀{l:bg}{q k:Int}{g:Bool},D o l->(g=true->∃k:Int,vi q=vi k/\True/\D n l)/\(g=false->∃a:Int,vi k=vi a/\True/\D n l):=λh=>⟨λ_=>m h,λ_=>m h⟩;refine⟨λR=>D o R,⟨λ_=>(RI x.op o).bL (D.cU o) j λg l e _=>⟨_,O,λ_=>m e,λ_=>(AQ (s e) x).bL e j λg f i a=>⟨_,O,λ_=>m a,λ_=>⟨λ_=>⟨λ_=>⟨λ_=>m a,λ_=>a⟩,λ_=>a⟩,λ_=>a⟩⟩⟩,λ_=>(AQ (s cY) x).bL (D.cU o) j λg f a _=>⟨_,O,λ_=>m a,λ_=>⟨λ_=>⟨λ_=>⟨λ_=>m a,λ_=>a⟩,λ_=>a⟩,λ_=>a⟩⟩⟩,?_⟩;intro l e;have T:∀{f:bg}{L:E}{al:ab}(h:D o f),ba f L al->sT 306 [c.v,t.v,L.v] f:=by grind [wS]
 have Kt:∀{f:bg}(h:D o f),bK dO 307 [.agg #[d.v,r.v],c.v,.agg #[vi x.op,vi x.cE,vi x.dh,t.v,k.v]] f λv b=>gS [B.size,n.size] f b/\∃q:Int,v=vi q/\∃k:Int,vi q=vi k/\True/\D n b:=λh=>
  (OA (N h) (s h) (hk.le (P.J h).le) w ih).bL h j λq I p M=>⟨q,O,m M⟩
 refine⟨λ_=>⟨λ_=>(dj).jY.bL e j λg f i a=>⟨_,O,K a⟩,λ_=>m e⟩,λ_=>⟨λ_=>?_,λ_=>⟨λ_=>?_,λ_=>⟨λ_=>?_,λ_=>⟨λ_=>?_,λ_=>⟨λ_=>?_,λ_=>⟨λ_=>(JA (N e) (s e) (A e)).bL e j λq f i a=>⟨_,O,m a⟩,λ_=>⟨λ_=>?_,λ_=>⟨λ_=>(Hb (N e) (s e) (A e)).bL e j λq f i a=>⟨_,O,m a⟩,λ_=>m e⟩⟩⟩⟩⟩⟩⟩⟩⟩
 .intro f;exact(T (e.bZ _) (Vw [0,0] O bO)).bL (e.bZ _) j λg f i a=>⟨_,O,K a⟩
 .intro f;exact(T (e.bZ _) (Vw [0] O bO)).bL (e.bZ _) j λg f i a=>⟨_,O,K a⟩
 .refine(pM (N e).bS u.dk x.cE).aP λ_ f⟨L,z,_,i⟩=>?_;subst z;have a:=e.J i;refine⟨e.aa2 j i,_,O,λ_=>?_,λ_=>m a⟩;refine(fV (e:=[]) ((N a).bS.le EB) u.dk x.cE).bL a j λae G I hf H p M=>⟨_,O,bE (p.bG B.size (a.lt (j _ bO))) _,?_⟩;refine(T M (hf.le fN)).bL M j λg J x5 y=>⟨_,O,λ_=>?_,λ_=>m y⟩;refine(pM (N y).bS u.dk x.cE).aP λ_ C⟨L,z,_,Q⟩=>?_;subst z;exact⟨y.aa2 j Q,_,O,m (y.J Q)⟩
 .intro f;exact(T (e.bZ _) (Vw [0] O bO)).bL (e.bZ _) j λg f i a=>⟨_,O,λ_=>Kt a,λ_=>m a⟩
 .intro f;exact(T (e.bZ _) (Vw [x.cE] O bO)).bL (e.bZ _) j λg f i a=>⟨_,O,λ_=>Kt a,λ_=>m a⟩
 .have h3:=Y.aT;have h4:=Y.kK;refine⟨λg R=>D o R/\(g=true->x.aO.length=2/\∃y z U,x.aO[0]? =some y/\0<=y/\v[y.toNat]? =some z/\1<=z/\F[z.toNat -1]? =some U),⟨λh=>?_,λ_=>⟨e,sx⟩⟩,?_⟩
  .simp only[bP]at h;let⟨y,G⟩:=dV x.aO 0;refine⟨V,V,y,(A e).bt G,?_⟩;have W:eJ ((c.len:Int) -1)=(v.length:Int) -1:=by grind [de]
   rw[W];refine(dj).bL (D.cU l) (λg w=>e.lt (j g w)) λg f aa _ i=>⟨_,O,λh=>?_,λh=>⟨e.J i,sx⟩⟩;have h:=aa.1 h;have a:=e.J i;let⟨z,H⟩:=dV v y.toNat;refine⟨V,V,y,(A a).bt G,V,V,z,(s a).bt H,?_⟩;refine(qQ (N a).bS u.dk z).bL (D.cU f) (λg w=>a.lt (j g w)) λg I ac _ p=>⟨_,O,a.J p,λh=>?_⟩;grind
  .rintro g f ⟨i,ai⟩;refine⟨λh=>?_,λ_=>m i⟩;let⟨h5,y,z,U,G,h6,H,h7,aa⟩:=ai h;let⟨ae,hf,g0,g1,g2⟩:=(N i).bS.bt aa;have ao:=u.bS.aT;have h8:=u.dk.aT;have h9:=br aa;have am:=br H;have W:eJ (z -1)=((z.toNat -1:Nat):Int):=by grind [de]
   have ac:=(A i).bt G;have ad:=(s i).bt H;refine⟨V,V,y,ac,V,V,z,ad,?_⟩;rw[W];refine⟨V,V,_,g0,_,g1,_,g2,?_⟩;intro I;have p:=px I;have ag:B.size<f.size:=i.lt (j _ bO);have ah:n.size<f.size:=cB;refine⟨p.da g0,p.da g1,p.da g2,p.da ad,p.da ac,bE (p.bG _ ag) _,bE (p.bG _ ah) _,?_⟩;intro J;have x5:D f J:=by grind [D.aV]
   have an:J.size=f.size+1:=by grind [bD]
   refine⟨V,V,V,?_⟩;intro C;have Q:D f C:=x5.J (D.push _ _);have u6:=i.J Q;have ak:∀g∈[f.size,B.size,n.size],g<C.size:=cB;refine⟨bE ((D.push J _).bG _ V) _,?_⟩;have aj:ba C (t.cut 1 t.len 1) (x.aO.drop 1):=by
    grind [fX.PG,List.take_length]
   exact(wS (s u6) aj (Vw [U.qe] O bO)).bL (D.cU C) ak λg m7 x7 _=>⟨_,O,K (u6.J x7)⟩
def _root_.Go.Vc.D.sN{c m:bg}(h:D c m)(k:D c b){l:ad}(e:∀a∈l,a<c.size):gS l m b:=λa d=>by rw[k.bG a (e a d),h.bG a (e a d)]
def zV(x:eN)(b:Bool)(a:b=true<->0<=x.op/\x.op<=11):dn x=if b=true then 1 else 0:=by
 unfold dn;by_cases h:b=true
 .rw[bn h];exact bn (a.1 h)
 .rw[aW h];exact aW λc=>h (a.2 c)
def rl{I:af}{rs:List j7}:∀a:Bk,acK I rs a:=by
 refine Bk.ind ?_;intro bA Z W E d r c al v R U t j;simp only[Bk.mV,Bk.lV,Bk.vu]at*;apply ER;simp -zeta only[dR];intro X g;have y:D E g:=by grind [D.push,D.J]
 have f:∀a∈[X.size,E.size],a<g.size:=cB;have T:=t.aT;refine(pN (S:=[]) bO (U.le (y.le.J EB)) V).bL (D.cU g) f λs0 _ m2 i J x2 _=>⟨_,O,?_⟩;subst J;have C:=FU bA;refine gL (n:=bA.length) (T▸t.kK) (λk s b=>D g b/\∃l,GI [] g b s l/\l.length=v.length+dc (bA.take k)) ⟨x2,_,i,bO⟩ ?_;rintro k s Y aa μ hk ⟨z,l,m,hc⟩ G
 have p:=y.J z;have ac:=xh (bA.take k);have ag:=jS (bA.take k);have ae:=m.aT cD;have q:=(m.cr bO (oh (C k))).le fN;refine⟨λh=>?_,λh=>?_⟩
 .simp only[bh]at h;let⟨x,o⟩:=dV bA k;let⟨ab,kk,N,Q,i,g1,g2,L,M⟩:=(t.le p.le).bt o;have ai:=ub o;have ah:=C (k+1);have ad:=uL o;refine⟨V,V,_,i,_,g1,_,g2,_,L,_,M,?_⟩;refine(sB (R.le p.le) q N Q V (W x (aZ o))).bL z f λaj F e u=>⟨_,O,λ_=>rN (y.J u),λ_=>⟨V,V,_,e.aS i,?_⟩⟩;refine(mO _ _).bL (D.cU F) (λa j=>u.lt (f a j)) λa m5 P _ A=>⟨_,O,?_⟩;have hd:=zV x a P;have w:=u.J A;refine⟨λh=>?_,λh=>?_⟩
  .rw[bn h]at hd;intro m6;refine GI.nE ((m.ext e).ext A) (w.fz []) V λr m7 K B H ak=>⟨?_,G V _ _ ⟨B.ext,_,K,eX⟩⟩;exact D.sN (w.bZ _) B.ext f
  .rw[aW (by simp[h])]at hd;exact G V _ _ ⟨w,l,(m.ext e).ext A,V⟩
 .refine(dj).bL (D.cU Y) (λa j=>z.lt (f a j)) λa F o _ e=>⟨_,O,λ_=>rN (p.J e),λh=>?_⟩;have h:=yb o h;have w:=q.kK;rw[iz]at h;let⟨H,u⟩:=dV l Z.toNat;exact⟨V,V,H,(q.ext e).bt u,rN (p.J e)⟩
end
section
variable{b:bg}{d e g k:E}{f:List j7}{c:eN}{h:Nat}
theorem _root_.Go.Vc.dW{S a:ad}{c o:Nat}{l:ae}(f:c∈S)(e:∀d∈a,d∈S):Le (dB S b) (dB a (aV b c o l)):=
 by grind [tG,cq]
def afb(a:Bk):Prop:=∀(b:bg)(t:E),iN b t a.bA->∀left:Int,-1<=left->left<=600->wX 313 [.agg #[t.v,vi a.bQ],vi left] b λk=>-1<=k/\k<=600
def MZ:∀h:Bk,afb h:=by
 refine Bk.ind ?_;intro bA aa I b ab p left y A;simp only[Bk.mV,Bk.lV]at*;apply FH;simp -zeta only[dR];intro i;have S:=px i;have C:∀h∈[b.size],h<i.size:=by simp[i]
 have H:=p.aT;have q:∀{d:bg}{a:Int},D i d->-1<=a/\a<=600->∃k:Int,vi a=vi k/\(-1<=k/\k<=600)/\D b d:=by grind [D.J]
 refine gL (n:=bA.length) (H▸p.kK) (λ_ a d=>D i d/\-1<=a/\a<=600) ⟨cY,y,A⟩ ?_;rintro k a K U μ hk ⟨j,E⟩ N
 refine⟨λl=>⟨λ_=>q j V,λz=>?_⟩,λ_=>q j E⟩;simp only[bh]at l;simp only[dm]at z;let⟨c,t⟩:=dV bA k;let⟨g,u,Z,m,X,g1,g2,Y,r⟩:=(p.le (S.J j).le).bt t;have B:=m.aT;rw[de (b:=a -1) V V];refine gL (n:=c.dv.length) (B▸m.kK) (λ_ a d=>D K d/\-1<=a/\a<=600) ⟨cY,V,V⟩ ?_;rintro J P L W μ2 hj ⟨f,o⟩ M;refine⟨V,V,u,f.aS r,λl=>?_,λ_=>N V _ _ ⟨j.J f,o⟩⟩;simp only[bh]at l;let⟨h,s⟩:=dV c.dv J;let⟨Q,G,v,w⟩:=(m.le f.le).bt s;refine⟨V,V,u,f.aS r,V,V,_,v,_,w,?_⟩;exact(I c (aZ t) h (aZ s) L Q G P o.1 o.2).bL (j.J f) C λe m4 F T R=>⟨_,O,λ_=>q R V,λl=>M V _ _ ⟨f.J T,F⟩⟩
def QY{t:E}{a:Bk}(g:iN b t a.bA):JW 269 [.agg #[t.v,vi a.bQ]] b:=by
 apply JE;simp -zeta only[dR];intro c;have d:=px c;have f:∀a∈[b.size],a<c.size:=by simp[c]
 exact(MZ a c t (g.le d.le) 600 V V).bL (D.cU c) f λn h _ _ e=>⟨_,O,λ_=>rN (d.J e),λ_=>rN (d.J e)⟩
def pOf(e:j7):eG:=⟨e.aY,[],e.bQ,0,[]⟩
def sS.aP:sE 5 sS:=⟨λh⟨g,a,b⟩=>⟨g,a,b.le h⟩,λ⟨g,a,_⟩=>by rw[a];rfl⟩
def RP{G:af}(t:iF b d e G f):bK dO 312 [.agg #[d.v,e.v]] b λY g=>∃v,Y=.agg #[d.v,v.v]/\fX g 5 (sS g) v (f.map pOf)/\D b g:=by
 apply Ll;simp -zeta only[dR];intro l a2 a3 a4 p;have ac:=t.lJ.aT;have hf:=t.p7;have Z:D b a2:=(D.push _ _).J (D.push _ _);have W:=pz l;have X:a2.size=b.size+2:=by simp[a2,W]
 have s3:a3.size=b.size+3:=by simp[a3,X]
 have A:=py p;have L:Gr [a3.size,l.size] a2 p jf 5 sS (.mk a2.size 0 0 0) []:=(Gr.bF _ bY).ext sS.aP A;have E:dF p a3.size nI [.s d,.s (.mk a2.size 0 0 0)]:=dF.aV (m:=a4) (o:=0) (r:=[.s d,.s (.mk a2.size 0 0 0)]) (dF.push a3 _ _);have aa:D a2 p:=(D.push a2 _).J A;have N:∀j∈[l.size,b.size],j<a2.size/\j∉([]:ad):=eX;refine gP (n:=f.length) V (λk g=>D a2 g/\∃s,Gr [a3.size,l.size] a2 g jf 5 sS s ((f.take k).map pOf)/\dF g a3.size nI [.s d,.s s]) ⟨aa,_,L,E⟩ ?_;rintro k Q ab μ hk ⟨u,s,h,B⟩ S
 have z:=Z.J u;refine dit (λM=>?_) λM=>?_
 .let⟨T,x⟩:=dV f k;have P:DS (dB (s.bz::[a3.size,l.size]) Q) e f:=t.lJ.le ((EB (m:=b)).J ((z.fz []).dB bO λj q=>bR ?_))
  .let⟨y,ae,j,F,c2,c3,H,e1,I,e3,e4⟩:=P.bt x;refine⟨s,B.dx 1,V,V,y,(iO.1 H).2,V,V,_,(iO.1 I).2,?_⟩;intro R;refine Gr.bV (h:=[.s .nil,.i 0,.i 0,.i 0,.s .nil]) (j:=1) (o:=[.s d,.s s]) (v:=pOf T) sS.aP cD h (u.fz []) ⟨y,O,F⟩ eX B bO cD ⟨V,bO⟩ (λj q=>by have C:=N j q;have J:=h.cJ;have w:=u.aQ;omega) λU g K C J z' q'=>S V _ ⟨J.ext,U,?_,C⟩
   rw[bX x,lI];exact K
  .have:=h.cJ;simp at q;omega
 .refine⟨d,B.dx 0,s,B.dx 1,?_⟩;intro R;have x:=h.ne B cD;have y:=h.cJ;rw[eQ V]at h;refine⟨s,O,?_,z.aV V _ _⟩;have w:=h.rU sS.aP eX cD eX;exact fX.le w ((dW (a:=[]) bO bO).J fN) λq c=>sS.aP.le ((dW (a:=[]) bO bO).J fN)
def Ci{r:af}(c:iF b d e r f):sT 268 [.agg #[d.v,e.v]] b:=by
 apply xT;simp -zeta only[dR];intro h;have a:=px h;have i:∀g∈[b.size],g<h.size:=by simp[h]
 have K:=c.lJ.aT;have H:=c.p7;refine⟨λ_=>rA a,λ_=>?_⟩;refine(RP (c.le a.le)).aP λ_ L⟨G,s,w,j⟩=>?_;subst s;refine⟨j.eV i,_,_,O,?_⟩;refine(ze (c.le (a.J j).le).bS w).jY.bL j i λg M R m=>⟨_,O,λ_=>rA (a.J m),λ_=>?_⟩;refine gP (n:=f.length) V (λ_ l=>D h l) m ?_;rintro k N I μ J l y
 refine⟨λv=>?_,λ_=>rA (a.J l)⟩;simp only[bh]at v;let⟨Q,x⟩:=dV f k;let⟨z,A,g,p,q,B,t,u,C,E,F⟩:=(c.le (a.J l).le).lJ.bt x;refine⟨V,V,z,t,V,V,A,u,?_⟩;exact(zd p q).jY.bL l i λg P S o=>⟨_,O,λ_=>rA (a.J o),λ_=>y V _ o⟩
def JJ{z:af}(g:iF b d e z f)(H:∀q∈f,q.aY.length+4*q.eY.w<=10^12):sT 248 [.agg #[d.v,e.v]] b:=by
 apply Cj;simp -zeta only[dR];intro h;have l:=px h;have s:∀a∈[b.size],a<h.size:=by simp[h]
 have T:=g.lJ.aT;have R:=g.p7;refine(Ci (g.le l.le)).bL (D.cU h) s λa U x _=>⟨_,O,λ_=>rA (l.J x),λ_=>?_⟩;refine gP (n:=f.length) V (λ_ c=>D h c) x ?_;rintro k u P μ S m L
 refine⟨λG=>?_,λ_=>rA (l.J m)⟩;simp only[bh]at G;let⟨q,t⟩:=dV f k;have v:=l.J m;let⟨M,X,a,y,Q,r,A,B,C,E,F⟩:=(g.le v.le).lJ.bt t;refine⟨V,V,_,A,_,B,_,C,_,E,_,F,?_⟩;intro I i;have j:=py i;have o:∀a∈[u.size,b.size],a<i.size:=by
  have:=m.lt (s b.size bO);have:i.size=u.size+1:=by simp[i,I,bD]
  simp;omega
 have p:=v.J j;refine(QY (r.le j.le)).bL (D.cU i) o λK J c _=>⟨_,O,λ_=>rA (p.J c),λ_=>?_⟩;refine(rl q.eY J d e M a q.aY (g.le (p.J c).le) (y.ext (j.J c)) (r.le (j.J c).le) (H q (aZ t))).bL c o λK W N w=>⟨_,O,bE (N.bG _ (c.lt (o _ bO))) _,λ_=>rA (p.J w),λ_=>L V _ ((m.J j).J w)⟩
def Cy(c:Int)(b:bg):sT 163 [vi c] b:=by
 apply wo;have e:∀a:Bool,∃k:Bool,vb a=.bool k/\D b b:=λa=>rA (D.cU b);exact⟨λ_=>e _,λ_=>⟨λ_=>e _,λ_=>⟨λ_=>e _,λ_=>e _⟩⟩⟩
def acM(f:List j7)(c:eN):Prop:=c.op=9->0<=c.cE/\c.cE<f.length
@[grind cases] structure At (m:bg) (d r a k:E) (ds:af) (rs:List j7) (x:eN):Prop where
 Wy:iF m d r ds rs
 aO:ba m a x.aO
 jF:acM rs x
def At.le{b j:bg}{d e g k:E}{a:af}{f:List j7}{c:eN}(h:At b d e g k a f c)(i:Le b j):At j d e g k a f c:=⟨h.Wy.le i,h.aO.le i,h.jF⟩
theorem fU{o1 o2:Obj}{a c:bg}(e:a=b.push o1)(f:c=a.push o2):D b c/\∀d∈[a.size,b.size],d<c.size:=by
 grind [D.push,D.J]
def sg{o:af}(a:At b d e g k o f c)(h:Int):sT 315 [.agg #[d.v,e.v],tp c g k,vi h] b:=by
 apply Lf;simp -zeta only[dR];intro s l;let⟨i,q⟩:=fU (a:=s) (c:=l) O O;have C:=a.Wy.lJ.aT;refine⟨λj=>?_,λ_=>rA i⟩;simp only[bP]at j;have B:=a.jF j;let⟨G,r⟩:=dV f c.cE.toNat;let⟨F,t,m,v,n,w,x,p,y,z,A⟩:=(a.Wy.le i.le).lJ.bt r;exact⟨V,V,t,p,(fI n h).jY.bL (D.cU l) q λm E u _=>⟨_,O,rA (i.J u)⟩⟩
def qt{q:E}{s:af}(i:At b d e g k s f c){v:ab}(o:ba b q v)(u:∀y∈c.aO,0<=y/\y<(v.length:Int))(t:h<c.aO.length):sT 311 [.agg #[d.v,e.v],q.v,tp c g k,vi h] b:=by
 apply Dp;simp -zeta only[dR];intro x j;let⟨l,n⟩:=fU (a:=x) (c:=j) O O;have B:=i.aO.aT;have F:=o.aT;let⟨y,p⟩:=gD t;have C:=u y (aZ p);let⟨A,w⟩:=dV v y.toNat;refine(Cy c.op j).bL (D.cU j) n λr G m _=>⟨_,O,λ_=>?_,λ_=>rA (l.J m)⟩;have a:=l.J m;refine⟨V,V,y,(i.aO.ext a).bt p,V,V,A,(o.ext a).bt w,λ_=>?_,λ_=>rA a⟩;exact(sg (i.le a.le) h).bL m n λr H I z=>⟨_,O,rA (l.J z)⟩
def Hp{r:af}(a:At b d e g k r f c)(u:h<c.aO.length):sT 343 [.agg #[d.v,e.v],tp c g k,vi h] b:=by
 apply AL;simp -zeta only[dR];intro y o;let⟨q,v⟩:=fU (a:=y) (c:=o) O O;have t:=a.aO.aT;let⟨A,w⟩:=gD u;refine gP (n:=c.aO.length) (t▸a.aO.kK) (λ_ i=>D o i) cY ?_;rintro m F I μ E j z
 have i:=q.J j;refine⟨λs=>⟨λ_=>?_,λ_=>?_⟩,λ_=>rA i⟩<;>simp only[bh]at s<;>have l:=z V
 .let⟨B,x⟩:=dV c.aO m;refine⟨V,V,B,(a.aO.ext i).bt x,V,V,A,(a.aO.ext i).bt w,λ_=>⟨λ_=>rA i,λ_=>?_⟩,λ_=>l _ j⟩;exact(sg (a.le i.le) m).bL j v λC G H p=>⟨_,O,λ_=>rA (q.J p),λ_=>l _ p⟩
 .exact l _ j
def Fj{oY q:E}{t:af}(i:At b d e g k t f c){x w:ab}(v:ba b oY x)(u:ba b q w)(o:h<c.aO.length):sT 328 [.agg #[d.v,e.v],tp c g k,vi h,oY.v,q.v] b:=by
 apply Jr;simp -zeta only[dR];intro z r;let⟨a,j⟩:=fU (a:=z) (c:=r) O O;have B:=i.aO.aT;let⟨y,p⟩:=gD o;refine⟨V,V,y,(i.aO.ext a).bt p,?_⟩;refine(fI (u.ext a) y).jY.bL (D.cU r) j λn C m _=>⟨_,O,λ_=>rA (a.J m),λ_=>?_⟩;have s:=a.J m;refine⟨V,V,y,(i.aO.ext s).bt p,?_⟩;refine(fI (v.ext s) y).jY.bL m j λn F H l=>⟨_,O,λ_=>rA (a.J l),λ_=>?_⟩;exact(Hp (i.le (a.J l).le) o).bL l j λn G I A=>⟨_,O,rA (a.J A)⟩
end
section
def ads(a:Bk):Prop:=∀(b:ad)(m:bg),(∀c∈b,c<m.size)->∀(t d:E)(l:ab)(n:Int)(k:Nat),iN m t a.bA->ba (dB b m) d l->k<=a.bA.length->l.length+a.w<=10^12->
 JV 297 [.agg #[t.v,vi a.bQ],vi n,vi k,d.v] m b λe=>e.length<=l.length+a.w
def _root_.Go.Vc.ac6{σ:Type}{n a:Nat}(j:a<=n)(l:n<=9223372036854775807){m:bg}{f:σ}{e:(σ->Int->bg->Prop)->(σ->Int->bg->Nat)->σ->Int->bg->Prop}(Q:Nat->σ->bg->Prop)(g:Q a f m)
 (h:∀(k:Nat)(s:σ)(b:bg)(I:σ->Int->bg->Prop)(μ:σ->Int->bg->Nat),a<=k->k<=n->Q k s b->
  (k<n->∀d c,Q (k+1) d c->I d (eJ ((k:Int)+1)) c/\μ d (eJ ((k:Int)+1)) c<μ s k b)->e I μ s k b):
 ∃(I:σ->Int->bg->Prop)(μ:σ->Int->bg->Nat),I f a m/\∀s i b,I s i b->e I μ s i b:=by
 refine⟨λs i c=>∃k:Nat,i=k/\a<=k/\k<=n/\Q k s c,λ_ i _=>(n -i).toNat,⟨a,O,bY,j,g⟩,?_⟩
 grind [nt,Qe]
def I7{b:ad}{m:bg}(e:∀c∈b,c<m.size){a k L:E}{l:ab}{x:eN}(N:Int)(w:ba m a x.aO)(A:rQ m k x.dv)(K:ba (dB b m) L l)(hb:l.length+x.w<=10^12)(X:∀j∈x.dv,ads j):
 JV 327 [tp x a k,vi N,L.v] m b λd=>d.length<=l.length+x.w:=by
 apply BK
 simp -zeta only[dR]
 intro g
 have p:=px g
 have B:∀j∈[m.size],j<g.size:=by simp[g]
 have T:=w.aT
 have U:=A.aT
 have hw:=eN.pP x
 have H:∀{f:bg},D g f->∀c∈b,c<f.size:=by grind [D.J,D.aQ]
 refine(xO x.op g).jY.bL (D.cU g) B λj m2 u _=>⟨_,O,λ_=>⟨_,_,O,K.le ((p.J u).fj (S:=b)),V,p.J u⟩,λ_=>?_⟩
 refine gL (n:=x.aO.length) (T▸w.kK) (λC s f=>D g f/\∃d,ba (dB b f) s d/\d.length<=l.length+C) ⟨u,l,K.le ((p.J u).fj (S:=b)),bY⟩ ?_
 rintro C s m3 ac μ hj ⟨i,d,q,hc⟩ G
 refine dit (λh=>?_) λh=>?_
 .let⟨y,o⟩:=dV x.aO C
  have g1:=(w.ext (p.J i)).bt o
  refine⟨V,V,y,g1,λ_=>⟨V,V,y,g1,λ_=>⟨V,V,y,g1,?_⟩,λ_=>G V _ _ ⟨i,d,q,V⟩⟩,λ_=>G V _ _ ⟨i,d,q,V⟩⟩
  exact(pU (H i) q y V).bL i B λr F M g2 I v t=>⟨_,O,G V _ _ ⟨t,F,g2.cr (H i) (oh I.2),oh I.2⟩⟩
 .refine gL (n:=x.dv.length) (U▸A.kK) (λo s f=>D g f/\∃d,ba (dB b f) s d/\d.length<=l.length+x.aO.length+bw (x.dv.take o)) ⟨i,d,q,eX⟩ ?_
  rintro o s2 M I2 μ2 hi ⟨v,F,g2,af⟩ Z
  have t:=p.J v
  have J:=Xl x.dv
  refine⟨λh=>?_,λh=>⟨_,_,O,g2,oh (J o),t⟩⟩
  simp only[bh]at h
  let⟨j,z⟩:=dV x.dv o
  let⟨aa,W,P,Q⟩:=(A.le t.le).bt z
  have ae:=yP z
  refine⟨V,V,_,P,_,Q,?_⟩
  exact(X j (aZ z) b M (H v) aa s2 F N 0 W g2 (iD _) (oh (J (o+1)))).bL v B λr Y m5 R I x5 u5=>⟨_,O,Z V _ _ ⟨u5,Y,R,V⟩⟩
def EN:∀i:Bk,ads i:=by
 refine Bk.ind ?_;intro bA P L b m e ab aa o M Z k J G U;simp only[Bk.mV,Bk.lV,Bk.vu]at*;apply I8;simp -zeta only[dR];intro g;have t:=px g;have v:∀i∈[m.size],i<g.size:=by simp[g]
 have K:=k.aT;have H:∀{f:bg},D g f->∀c∈b,c<f.size:=by grind [D.J,D.aQ]
 refine ac6 (n:=bA.length) G (K▸k.kK) (λj s f=>D g f/\∃p,ba (dB b f) s p/\p.length<=o.length+sw (bA.take j)) ⟨cY,o,J.le (t.fj (S:=b)),V⟩ ?_;rintro j s z T μ _ X ⟨d,p,u,W⟩ N
 have Q:=t.J d;have w:=FU bA;refine⟨λh=>?_,λh=>?_⟩
 .simp only[bh]at h;let⟨x,l⟩:=dV bA j;let⟨a,kk,F,I,A,g1,g2,B,C⟩:=(k.le Q.le).bt l;have Y:=ub l;refine⟨V,V,_,A,_,g1,_,g2,_,B,_,C,?_⟩;exact(I7 (H d) M F I u (oh (w (j+1))) (L x (aZ l))).bL d v λr y m3 E q x3 R=>⟨_,O,N V _ _ ⟨R,y,E,V⟩⟩
 .have E:=w j;have A:∃B l,s.v=B.v/\ba (dB b z) B l/\l.length<=o.length+(1+sw bA)/\D m z:=cB;refine⟨λ_=>⟨λ_=>?_,λ_=>A⟩,λ_=>A⟩;exact(pU (H d) u P V).bL d v λr y F g2 q I C=>⟨_,O,_,_,O,g2.cr (H d) (oh q.2),oh q.2,t.J C⟩
def Ig{b:ad}{m:bg}(e:∀c∈b,c<m.size){t:E}{a:Bk}(o:iN m t a.bA){n:Int}(j:a.w<=10^12):JV 262 [.agg #[t.v,vi a.bQ],vi n] m b λg=>g.length<=a.w:=by
 apply Lp;simp -zeta only[dR];intro h d;let⟨f,l⟩:=fU (a:=h) (c:=d) O O;have i:ba (dB b d) (.mk h.size 0 0 0) []:=⟨O,bY,bO,bO⟩;exact(EN a b d (λc k=>f.lt (e c k)) t _ _ n 0 (o.le f.le) i (iD _) cB).bL (D.cU d) (λa j=>l a cB) λr g p g2 q k _=>⟨_,O,_,_,O,g2,sp q,f.J k⟩
variable{b:ad}{m:bg}(e:∀c∈b,c<m.size){d r a k q oY p:E}{s:af}{u:List j7}{x:eN}(h:At m d r a k s u x){v g t:ab}(o:ba m q v)(l:∀y∈x.aO,0<=y/\y<(v.length:Int))(f:ba m oY g)(j:ba m p t)
include e h o l
theorem Dl(J:x.aO.length<=10^12):oA 266 [.agg #[d.v,r.v],q.v,tp x a k] m b (tz x.aO):=by
 apply yA;simp -zeta only[dR];intro G e M;let⟨u,w⟩:=fU (a:=G) (c:=e) O O;have F:=h.aO.aT;refine gL (n:=x.aO.length) (F▸h.aO.kK) (λj s f=>D e f/\∃c,GI b e f s c/\(∀y∈c,y∈x.aO)/\c.length<=j) ⟨D.push _ _,[],GI.gN b e,bO,bY⟩ ?_;rintro j s N I μ L ⟨B,c,g,p,K⟩ A
 have t:=u.J B;refine dit (λE=>?_) λE=>?_
 .let⟨y,z⟩:=dV x.aO j;refine(qt (h.le t.le) (o.ext t) l (h:=j) V).bL B w λH P C f=>⟨_,O,λ_=>⟨V,V,y,(h.aO.ext (u.J f)).bt z,?_⟩,λ_=>A V _ _ ⟨f,c,g.ext C,p,V⟩⟩;intro Q;exact GI.nE (g.ext C) (f.fz []) V λr R g2 v _ _=>⟨D.sN (f.bZ _) v.ext w,A V _ _ ⟨v.ext,_,g2,sY p (aZ z),eX⟩⟩
 .exact⟨s,c,O,g.cW (λ_ h=>h) u.aQ,⟨p,V⟩,t⟩
include f j
theorem KW(R:x.aO.length<=10^12):oA 299 [.agg #[d.v,r.v],q.v,tp x a k,oY.v,p.v] m b (tz x.aO):=by
 apply Dn;simp -zeta only[dR];intro N t U;let⟨v,w⟩:=fU (a:=N) (c:=t) O O;have M:=h.aO.aT;refine gL (n:=x.aO.length) (M▸h.aO.kK) (λe A g=>D t g/\∃c,GI b t g A c/\(∀y∈c,y∈x.aO)/\c.length<=e) ⟨D.push _ _,[],GI.gN b t,bO,bY⟩ ?_;rintro e A W Q μ T ⟨I,c,g,s,S⟩ z
 have B:=v.J I;refine dit (λL=>?_) λL=>?_
 .let⟨y,H⟩:=dV x.aO e;refine(qt (h.le B.le) (o.ext B) l (h:=e) V).bL I w λK X F C=>⟨_,O,λ_=>?_,λ_=>z V _ _ ⟨C,c,g.ext F,s,V⟩⟩;have E:=v.J C;refine(Fj (h.le E.le) (f.ext E) (j.ext E) (h:=e) V).bL C w λK Y J u=>⟨_,O,λ_=>⟨V,V,y,(h.aO.ext (v.J u)).bt H,?_⟩,λ_=>z V _ _ ⟨u,c,(g.ext F).ext J,s,V⟩⟩;intro P;exact GI.nE ((g.ext F).ext J) (u.fz []) V λr P g2 G _ _=>⟨D.sN (u.bZ _) G.ext w,z V _ _ ⟨G.ext,_,g2,sY s (aZ H),eX⟩⟩
 .exact⟨A,c,O,g.cW (λ_ h=>h) v.aQ,⟨s,V⟩,B⟩
theorem MJ(T:g.length<=10^12):oA 301 [.agg #[d.v,r.v],q.v,tp x a k,oY.v,p.v] m b (tz g):=by
 apply Fl;simp -zeta only[dR];intro W A;let⟨s,F⟩:=fU (a:=W) (c:=A) O O;have ae:=h.aO.aT;have ab:∀{t:bg},D A t->∀c∈b,c<t.size:=by grind [D.J,D.aQ]
 have X:bK dO 330 [oY.v,p.v] A λv t=>gS [W.size,m.size] A t/\∃Y:E,v=Y.v/\∃w U,Y.v=w.v/\GI b m t w U/\tz g U/\D m t:=by
  refine(RE (S:=[]) bO (f.le (s.le.J EB)) (j.le (s.le.J EB)) T).bL (D.cU A) F λw u af B I P _=>⟨_,O,w,u,O,?_,I,s.J P⟩;let⟨C,J,g1,g2⟩:=B;exact⟨C,J,g1.cW s.aQ,g2.aP λ_ _ h=>h⟩
 refine⟨λ_=>X,λ_=>⟨λ_=>X,λ_=>?_⟩⟩;refine(pN (S:=[]) bO (f.le (s.le.J EB)) T).bL (D.cU A) F λs0 _ af C ad P _=>⟨_,O,?_⟩;subst ad;refine gL (n:=x.aO.length) (ae▸h.aO.kK) (λH w t=>D A t/\∃u,GI b m t w u/\tz g u) ⟨P,g,?_,λ_ h=>h,bY⟩ ?_
 .let⟨C,J,g1,g2⟩:=C;exact⟨C,J,g1.cW s.aQ,g2.aP λ_ _ h=>h⟩
 rintro H w m3 ag μ hj ⟨Z,u,B,z⟩ K
 have L:=s.J Z;refine⟨λR=>?_,λR=>⟨w,u,O,B,z,L⟩⟩;simp only[bh]at R;let⟨y,hy⟩:=dV x.aO H;refine(qt (h.le L.le) (o.ext L) l (h:=H) V).bL Z F λac m4 Q M=>⟨_,O,λ_=>?_,λ_=>K V _ _ ⟨M,u,B.ext Q,z⟩⟩;have N:=s.J M;refine(Fj (h.le N.le) (f.ext N) (j.ext N) (h:=H) V).bL M F λac m5 x5 G=>⟨_,O,λ_=>⟨V,V,y,(h.aO.ext (s.J G)).bt hy,?_⟩,λ_=>K V _ _ ⟨G,u,(B.ext Q).ext x5,z⟩⟩;refine(FT (S:=b) (ab G) (((B.ext Q).ext x5).cr e (oh z.2)) y (oh z.2)).bL G F λr l2 m6 g2 I x6 u6=>⟨_,O,K V _ _ ⟨u6,l2,g2.cW (λ_ h=>h) (s.J G).aQ,λaa hz=>z.1 aa (I.1 aa hz),fD I.2 z.2⟩⟩
omit o l
theorem MK(Y:x.aO.length<10^12):oA 302 [.agg #[d.v,r.v],tp x a k,oY.v,p.v] m b (tz x.aO):=by
 apply Fm;simp -zeta only[dR];intro U s aa;let⟨i,u⟩:=fU (a:=U) (c:=s) O O;have R:=h.aO.aT;have P:∀{q:bg},D s q->∀c∈b,c<q.size:=by grind [D.J,D.aQ]
 refine gL (n:=x.aO.length) (R▸h.aO.kK) (λv E q=>D s q/\∃g,GI b s q E g/\(∀y∈g,y∈x.aO)/\g.length<=v) ⟨D.push _ _,[],GI.gN b s,bO,bY⟩ ?_;rintro v E m3 X μ Z ⟨L,g,l,o,I⟩ w
 have K:=i.J L;refine dit (λQ=>?_) λQ=>?_
 .let⟨y,C⟩:=dV x.aO v;refine(sg (h.le K.le) v).bL L u λG m4 B z=>⟨_,O,λ_=>⟨V,V,y,(h.aO.ext (i.J z)).bt C,?_⟩,λ_=>w V _ _ ⟨z,g,l.ext B,o,V⟩⟩;refine(fI (f.ext (i.J z)) y).jY.bL z u λG m5 F A=>⟨_,O,λ_=>⟨V,V,y,(h.aO.ext (i.J A)).bt C,?_⟩,λ_=>w V _ _ ⟨A,g,(l.ext B).ext F,o,V⟩⟩;refine(fI (j.ext (i.J A)) y).jY.bL A u λG m6 M t=>⟨_,O,λ_=>⟨V,V,y,(h.aO.ext (i.J t)).bt C,?_⟩,λ_=>w V _ _ ⟨t,g,((l.ext B).ext F).ext M,o,V⟩⟩;refine(pU (P t) ((((l.ext B).ext F).ext M).cr (λc I=>i.lt (e c I)) V) y V).bL t u λr T m7 g2 J x7 W=>⟨_,O,w V _ _ ⟨W,T,g2.cW (λ_ h=>h) t.aQ,λN S=>?_,oh J.2⟩⟩;rcases J.1 N S with H|H
  .exact o N H
  grind [aZ]
 .exact⟨E,g,O,l.cW (λ_ h=>h) i.aQ,⟨o,V⟩,K⟩
end
section
variable{m e a:bg}{c g:ad}{s:E}{d:ab}{b f i:Nat}{h:ap}{K:aj}
def um{o1 o2 o3:Obj}{a c d:bg}(e:a=m.push o1)(f:c=a.push o2)(g:d=c.push o3):D m d/\(∀b∈[c.size,a.size,m.size],b<d.size)/\a.size=m.size+1/\c.size=m.size+2/\d.size=m.size+3:=by
 grind [D.push,D.J]
def GI.Yl{X:ad}{k:bg}{h:E}{j:ab}{a:Int}{K:E->bg->Prop}(n:GI c e m s d)(i:GI g k m h j)(q:s.bz≠h.bz)(o:Fz X e m)(v:d.length<=10^12)
 (p:∀r b,GI c e b r (d++[a])->GI g k b h j->r.bz≠h.bz->Fz X e b->K r b):mj (m.push (.cells (db [.i a]) bB)) bB [.i 0] 8 s (.mk m.size 0 1 1) K:=by
 have t:=i.cJ
 refine Gr.nE (h:=[.i 0]) yo.aP cD n o O V λr b l f z u=>p r b l (i.lZ (u _ t.2 (th q))) ?_ f
 grind
def GI.jY(h:GI c e m s d):GI g e m s d:=by
 let⟨b,a,f,i⟩:=h;exact⟨b,a,f,i.aP λ_ _ h=>h⟩
def iX(a v:Int):eN:=⟨a,0,0,[v],[]⟩
abbrev GS(c:ad)(e m:bg)(s:E)(d:au):Prop:=Gr c e m jQ 5 kd s d
theorem GS.bF(c:ad)(m:bg):GS c m (m.push (.cells (db []) jQ)) (.mk m.size 0 0 0) []:=by grind [Gr.bF]
def GS.nE{c X:ad}{e m:bg}{s a k:E}{d:au}{x:eN}{K:E->bg->Prop}(h:GS c e m s d)(j:Fz X e m)(i:ba (dB (s.bz::c) m) a x.aO)(l:rQ (dB (s.bz::c) m) k x.dv)(n:d.length<=10^12)
 (g:∀r f,GS c e f r (d++[x])->Fz X e f->m.size<=f.size/\(r.bz=s.bz\/m.size<=r.bz)->(∀b,b<m.size->b≠s.bz->f[b]? =m[b]?)->K r f):
 mj (m.push (.cells (db [.i x.op,.i x.cE,.i x.dh,.s a,.s k]) jQ)) jQ [.i 0,.i 0,.i 0,.s .nil,.s .nil] 72 s (.mk m.size 0 1 1) K:=
 Gr.nE (h:=[.i 0,.i 0,.i 0,.s .nil,.s .nil]) kd.aP cD h j ⟨a,k,O,i,l⟩ V g
def GS.lY{c X:ad}{e m:bg}{s x:E}{d f:au}{K:E->bg->Prop}(h:GS c e m s d)(i:Fz X e m)(j:iN (dB (s.bz::c) m) x f)(k:d.length+f.length<=10^12)
 (g:∀r a,GS c e a r (d++f)->Fz X e a->m.size<=a.size/\(r.bz=s.bz\/m.size<=r.bz)->(∀b,b<m.size->b≠s.bz->a[b]? =m[b]?)->K r a):
 mj m jQ [.i 0,.i 0,.i 0,.s .nil,.s .nil] 72 s x K:=
 Gr.lY (h:=[.i 0,.i 0,.i 0,.s .nil,.s .nil]) kd.aP cD h i j V g
theorem pX{α:Type}{a:Nat}{R:ae->α->Prop}{o c:Nat}:fX m a R (.mk b o 0 c) []:=⟨O,iD _,bO,bO⟩
def lK(o:∀e∈c,e<m.size)(i v:Int):bK dO 228 [vi i,vi v] m λt d=>∃a k,t=tp (iX i v) a k/\ba (dB c d) a [v]/\rQ (dB c d) k []/\D m d:=by
 apply Hc;simp -zeta only[dR];intro f g r s;obtain⟨u,x⟩:=pu f;have w:=px g;have j:=px r;have q:D m s:=((u.J w).J j).aV bY _ _;refine⟨_,_,O,?_,pX,q⟩;have n:ba (dB (m.size::c) g) (.mk f.size 0 1 1) [v]:=ba.km bB (l:=[v]) (λb p=>by
  rcases bo.1 p with h|h
  .omega
  .have:=o b h;omega) O O bO
 exact(n.le j.fj).le (dW cK λe h=>aX _ h)
def Xf(f:Nat)(h:ap)(m:bg)(c:ad)(Q:au->Prop):Prop:=bK dO f h m λv a=>∃s d,v=s.v/\GS c m a s d/\Q d/\D m a
def Xf.bL{d:ad}{Q:au->Prop}(l:Xf f h m c Q)(j:D a m)(q:∀b∈d,b<a.size)(p:∀s g e,GS c m e s g->Q g->D m e->D a e->K s.v e):bK dO f h m λv e=>gS d m e/\K v e:=
 l.aP λ_ e⟨s,g,k,n,r,i⟩=>⟨i.eV λb o=>j.lt (q b o),k▸p s g e n r i (j.J i)⟩
def iR(z:∀h∈c,h<m.size)(b:Int){l:E}(e:ba m l d)(A:d.length<=10^12):Xf 264 [vi b,l.v] m c (d.map (iX b)=·):=by
 apply E8;intro G;have u:=e.aT;refine gL (n:=d.length) (u▸e.kK) (λk s g=>D m g/\GS c m g s ((d.take k).map (iX b))) ⟨D.push m _,by simpa using GS.bF c m⟩ ?_;rintro k s H I μ C ⟨j,t⟩ w
 refine⟨λi=>?_,λi=>?_⟩
 .simp only[bh]at i;let⟨g,v⟩:=dV d k;refine⟨V,V,g,(e.ext j).bt v,?_⟩;refine(lK (c:=s.bz::c) (λh B=>?_) b g).aP λP J⟨a,F,p,q,r,o⟩=>?_
  .grind [Gr.cJ]
  subst p;refine⟨_,_,_,_,_,O,?_⟩;intro K;refine GS.nE (x:=iX b g) (t.ext kd.aP o) ((j.J o).fz []) q r cB λN L y f Q M=>w V _ _ ⟨f.ext,?_⟩
  grind [bX]
 .grind
theorem uo(a:Int):∀d:ab,sw (d.map (iX a))=2*d.length
 |[]=>O
 |v::d=>by rw[eM,qu,uo a d,eN.pP];simp[iX];omega
theorem nF{a:Int}(h:14<=a):∀d:ab,dc (d.map (iX a))=0
 |[]=>O
 |v::d=>by
  rw[eM,nM,nF h d];grind [dn,tv,iX]
theorem Iv{f:af}{a:Nat}{d v:Int}(h:14<=d/\d<=17)(g:0<=v/\v<(a:Int)):WS f i True a (iX d v):=
 ⟨⟨bR ⟨trivial,h⟩,λx e=>by simp[iX]at e;subst e;exact g,λ_=>O,by simp[iX],λc=>by simp only[iX]at c;omega,λc=>by simp only[iX]at c;omega,λc=>by simp only[iX]at c;omega⟩,λk b c=>by simp[iX]at c⟩
theorem vE{c:af}{a:Nat}{b:Int}(h:14<=b/\b<=17)(e:∀v∈d,0<=v/\v<(a:Int)):WL c i True a (d.map (iX b)):=λg s f=>by
 grind [Option.map_eq_some_iff,List.map_take,nF,Iv,aZ]
def rG(f:Nat)(h:ap)(m:bg)(c:ad)(Q:Bk->Prop):Prop:=bK dO f h m λv a=>∃s b,v=.agg #[s.v,vi b.bQ]/\iN (dB c a) s b.bA/\Q b/\D m a
def rG.bL{d:ad}{Q:Bk->Prop}(l:rG f h m c Q)(i:D a m)(q:∀b∈d,b<a.size)(p:∀s b e,iN (dB c e) s b.bA->Q b->D m e->D a e->K (.agg #[s.v,vi b.bQ]) e):bK dO f h m λv e=>gS d m e/\K v e:=
 l.aP λ_ e⟨s,b,k,n,r,g⟩=>⟨g.eV λj o=>i.lt (q j o),k▸p s b e n r g (i.J g)⟩
def Pl(f:Nat)(h:ap)(m:bg)(c:ad)(Q:eN->Prop):Prop:=bK dO f h m λv b=>∃a k x,v=tp x a k/\ba (dB c b) a x.aO/\rQ (dB c b) k x.dv/\Q x/\D m b
def Pl.bL{d:ad}{Q:eN->Prop}(n:Pl f h m c Q)(i:D a m)(t:∀b∈d,b<a.size)(s:∀p k x e,ba (dB c e) p x.aO->rQ (dB c e) k x.dv->Q x->D m e->D a e->K (tp x p k) e):bK dO f h m λv e=>gS d m e/\K v e:=
 n.aP λ_ e⟨p,k,x,l,o,q,u,g⟩=>⟨g.eV λj r=>i.lt (t j r),l▸s p k x e o q u g (i.J g)⟩
theorem dE{d:bg}(e:∀a∈c,a<m.size)(h:m.size<=d.size)(f:b<d.size):∀a∈b::c,a<d.size:=λa g=>by
 grind
@[grind cases] structure ae3 (ds:af) (nr:Nat) (v lo la:ab) (b:Bk):Prop where
 bI:∀o∈lo,0<=o/\o<(v.length:Int)
 lo5:lo.length+5*b.w<=500
 laN:la.length+1000*b.w<=1000000
 vN:v.length+5*b.w<=1000000
 wb:WB ds nr False v.length b
def acL(a:af)(d:List j7)(b:Bk):Prop:=∀(c:ad)(m:bg),(∀e∈c,e<m.size)->∀(g r j t oY e:E)(v i h:ab),iF m g r a d->ba m j v->iN m t b.bA->ba m oY i->ba m e h->ae3 a d.length v i h b->
 rG 263 [.agg #[g.v,r.v],j.v,.agg #[t.v,vi b.bQ],oY.v,e.v] m c λf=>WB a d.length True v.length f/\f.w+1050<=1100*b.w
@[grind cases] structure ae2 (ds:af) (nr:Nat) (v fl lo la:ab) (b:Bk):Prop where
 bI:∀o∈lo,0<=o/\o<(v.length:Int)
 fl3:fl.length<=3
 lo5:lo.length+3+5*b.w<=500
 laN:la.length+1000*b.w<=1000000
 vN:v.length+3+5*b.w<=1000000
 wb:WB ds nr False (v.length+fl.length) b
def On(hS:∀a∈c,a<m.size){ao C aH bJ aw oY aO:E}{ds:af}{rs:List j7}{L I lo la:ab}{b:Bk}(hn:iF m ao C ds rs)(hv:ba m aH L)(hf:ba m bJ I)(hs:iN m aw b.bA)(u:ba m oY lo)(a3:ba m aO la)
 (hp:ae2 ds rs.length L I lo la b)(ih:acL ds rs b):rG 329 [.agg #[ao.v,C.v],aH.v,bJ.v,.agg #[aw.v,vi b.bQ],oY.v,aO.v] m c λq=>WB ds rs.length True (L.length+I.length) q/\q.w<=1100*b.w:=by
 apply Ha
 simp -zeta only[dR]
 intro e p G
 let⟨B,t,s0,s1,s2⟩:=um (a:=e) (c:=p) (d:=G) O O O
 have b2:=hv.aT;have bl:=hf.aT;have bq:=u.aT;have bM:=hp.fl3;have bH:=b.NP;have bP:=hp.lo5;have b1:=hp.vN;have bN:=hp.laN
 refine(iL (S:=[]) bO (hv.le (B.le.J EB)) (hf.le (B.le.J EB)) V).bL (D.cU G) t λaC _ b5 gi i x3 _=>⟨_,O,?_⟩
 subst i
 refine(Ig (b:=[]) bO (hs.le (B.J x3).le) V).bL x3 t λbv ul H hu b0 x4 J=>⟨_,O,?_⟩
 intro m5 m6
 have a7:ba H bv ul:=hu.le fN
 have bx:D H m6:=(D.push H _).J (D.push m5 _)
 have s5:=pz m5
 have gm:GI c H m6 (.mk H.size 0 0 0) []:=(GI.gN c H).ext (D.push m5 _)
 have gd:GI c H m6 (.mk m5.size 0 0 0) []:=(GI.gN c m5).cW (λ_ r=>r) V
 have z4:=J.aQ
 refine Bi (j:=lo.length) (bq▸u.kK) (λae j sd M=>D H M/\∃R F,GI c H M j R/\GI c H M sd F/\j.bz≠sd.bz/\(∀o∈R,o∈lo)/\(∀o∈F,o∈lo)/\R.length<=ae/\F.length<=ae) ⟨bx,[],[],gm,gd,eX,bO,bO,bY,bY⟩ ?_
 rintro ae j sd m7 bf μ hk ⟨x7,R,F,gm,gd,a5,aM,aL,cm,cd⟩ bb
 have u7:=J.J x7
 have v7:=B.J u7
 refine dit (λr=>?_) λr=>?_
 .let⟨h,Z⟩:=dV lo ae
  have y:=aZ Z
  have A:∀M,D m7 M->mj (M.push (.cells (db [.i h]) bB)) bB [.i 0] 8 j (.mk M.size 0 1 1) λP m'=>gS [p.size,e.size,m.size] (M.push (.cells (db [.i h]) bB)) m'/\bf P sd (eJ ((ae:Int)+1)) m'/\μ P sd (eJ ((ae:Int)+1)) m'<μ j sd ae m7:=λM X=>
   GI.Yl (gm.ext X) (gd.ext X) a5 ((x7.J X).fz []) V λC m' w g' l f=>⟨D.sN ((u7.J X).bZ _) (J.J f.ext) t,bb V _ _ _ ⟨f.ext,_,_,w,g',l,sY aM y,aL,eX,V⟩⟩
  refine⟨V,V,h,(u.ext v7).bt Z,?_⟩
  refine(fI (a7.ext x7) h).jY.bL u7 t λa m8 v k=>⟨_,O,λ_=>⟨V,V,h,(u.ext (B.J k)).bt Z,A m8 v⟩,λ_=>⟨V,V,h,(u.ext (B.J k)).bt Z,?_⟩⟩
  refine(fI (a3.ext (B.J k)) h).jY.bL k t λa z N u9=>⟨_,O,λ_=>⟨V,V,h,(u.ext (B.J u9)).bt Z,A z (v.J N)⟩,λ_=>⟨V,V,h,(u.ext (B.J u9)).bt Z,?_⟩⟩
  intro aP
  have X:=v.J N
  exact GI.Yl (gd.ext X) (gm.ext X) a5.symm ((x7.J X).fz []) V λC m' w g' l f=>⟨D.sN ((u7.J X).bZ _) (J.J f.ext) t,bb V _ _ _ ⟨f.ext,_,_,g',w,l.symm,aM,sY aL y,V,eX⟩⟩
 have cm:R.length<=lo.length:=V
 have cd:F.length<=lo.length:=V
 intro m8
 have bQ:=gm.cJ
 have bL:=gd.cJ
 refine gL (n:=I.length) (bl▸hf.kK) (λae s M=>D m7 M/\∃d,GI c m7 M s d/\(∀o∈d,0<=o/\o<((L.length+I.length:Nat):Int))/\d.length<=ae) ⟨D.push _ _,[],GI.gN c m7,bO,bY⟩ ?_
 rintro a9 su z I2 μ2 hj ⟨N,y,gu,ap,cu⟩ aT
 have u9:=u7.J N
 have v9:=B.J u9
 refine dit (λh2=>?_) λh2=>?_
 .let⟨h,Z⟩:=dV I a9
  refine⟨V,V,h,(hf.ext v9).bt Z,λ_=>?_,λ_=>aT V _ _ ⟨N,y,gu,ap,V⟩⟩
  rw[de (b:=(aH.len:Int)+a9) V V]
  refine(fI ((a7.ext x7).ext N) _).jY.bL u9 t λa aP ai aF=>⟨_,O,λ_=>?_,λ_=>aT V _ _ ⟨N.J ai,y,gu.ext ai,ap,V⟩⟩
  intro bt
  refine GI.nE (gu.ext ai) ((N.J ai).fz []) V λC m' w f al W=>⟨D.sN ((u9.J ai).bZ _) (u7.J f.ext) t,aT V _ _ ⟨f.ext,_,w,λo u=>?_,eX⟩⟩
  rcases bU.1 u with u|u
  .exact ap o u
  .simp at u;omega
 have bZ:=gu.cJ
 have aK:=gm.ext N
 have bj:∀{M:bg},D G M->∀a∈p.size::c,a<M.size:=λr=>dE hS (B.J r).aQ (r.lt (t _ bO))
 have aB:∀{M:bg},D G M->j.bz<M.size->∀a∈j.bz::p.size::c,a<M.size:=λr Q a h=>by
  rcases bo.1 h with i|i
  .omega
  .exact bj r a i
 refine(iR (c:=j.bz::p.size::c) (aB u9 aK.cJ.2) 14 ((gu.cr (S:=c) (λa h=>cw (hS a h) (B.J u7).aQ) V).le fN) V).bL u9 t λs1 _ aP g1 i ai aF=>⟨_,O,?_⟩
 subst i
 have a4:j.bz<aP.size:=ai.lt aK.cJ.2
 refine(iR (c:=s1.bz::j.bz::p.size::c) (λa h=>?_) 15 ((((gd.cr (S:=c) (λa h=>cw (hS a h) (B.J J).aQ) V).le fN).ext N).ext ai) V).bL aF t λs2 _ bt g2 i aW bu=>⟨_,O,?_⟩
 .rcases bo.1 h with i|i
  .have:=g1.cJ;omega
  .exact aB aF a4 a i
 subst i
 have bT:=(g1.ext kd.aP aW).cJ
 have e2:=g2.rU kd.aP (λh=>by
  have Z:=g2.cJ;rcases bo.1 h with i|i
  .have:=g1.cJ;omega
  .have:=aB aF a4 _ i;omega) cD eX
 refine GS.lY (g1.ext kd.aP aW) ((ai.J aW).fz []) e2 eX λA aa g3 f3 z3 q3=>⟨D.sN bu (u9.J f3.ext) t,?_⟩
 have an:D z aa:=f3.ext
 have aG:=u9.J an
 have Rc:WL ds rs.length True (L.length+I.length) (y.map (iX 14)++F.map (iX 15)):=by
  refine(vE V ap).fx ?_;rw[nF V];refine vE V λo u=>?_;have:=hp.bI o (aL o u);omega
 have bd:dc (y.map (iX 14)++F.map (iX 15))=0:=by rw[fg,nF V,nF V]
 have b6:sw (y.map (iX 14)++F.map (iX 15))<=1006:=by rw[gF,uo,uo];omega
 have a1:GI c H aa j R:=(gm.ext N).ext an
 have bp:A.bz≠j.bz:=g3.Qf a1 cD
 have az:∀{M k:bg},D G M->D G k->∀b∈[p.size,e.size,m.size],∀o,aS k b o=aS M b o:=λr h' b Q o=>bE (by rw[h'.bG b (t b Q),r.bG b (t b Q)]) o
 have E4:∀{M k:bg},D G M->D G k->∀{ar:Prop},ar->aS k e.size 0=aS M e.size 0/\aS k e.size 1=aS M e.size 1/\aS k m.size 0=aS M m.size 0/\aS k m.size 1=aS M m.size 1/\ar:=λr h' _ hp=>⟨az r h' _ bO _,az r h' _ bO _,az r h' _ bO _,az r h' _ bO _,hp⟩
 have F4:∀{M:bg},Fz [j.bz] z M->D H M:=λr=>Fz.ext ((((x7.J N).fz [j.bz]).J r).Ij λb Q=>bR (by simp at Q;omega))
 have bX:j.bz<z.size:=aK.cJ.2
 have z3:=x3.aQ
 have tail:∀(M:bg)(l:Nat)(ss:E)(q:Bk),GS (l::j.bz::p.size::c) z M A (y.map (iX 14)++F.map (iX 15))->Fz [j.bz] z M->z.size<=l->l<M.size->l≠A.bz->iN (dB (l::A.bz::j.bz::p.size::c) M) ss q.bA->WB ds rs.length True (L.length+I.length) q/\q.w+1050<=1100*b.w->
  let P:bg:=aV M l 0 [.s ss,.i q.bQ]
  mj P jQ [.i 0,.i 0,.i 0,.s .nil,.s .nil] 72 A ss λav M2=>gS [l,p.size,e.size,m.size] P M2/\aS M2 l 1=aS P l 1/\
   let M3:bg:=aV M2 p.size 0 [.s av,.i q.bQ]
   ∃s ac,Value.agg #[av.v,vi q.bQ]=.agg #[s.v,vi ac.bQ]/\iN (dB c M3) s ac.bA/\(WB ds rs.length True (L.length+I.length) ac/\ac.w<=1100*b.w)/\D m M3:=by
  intro M l ss q w ak bk bF a6 aq a8 P
  have b7:P.size=M.size:=bD _ _ _ _
  have Z:=w.cJ
  have br:iN (dB (A.bz::j.bz::p.size::c) P) ss q.bA:=aq.le (dW bO λa h=>aX _ h)
  have bG:=Bk.pP q
  have bV:=jS q.bA
  have hF:=F4 ak
  have zF:=hF.aQ
  have g1:GS (j.bz::p.size::c) z P A _:=w.re kd.aP (Y:=[l]) ((Fz.cU [l] M).aV (bC bO) _ _) bO (by simpa using th a6) λa h=>bC (aX _ h)
  have f1:Fz [j.bz] z P:=ak.aV (bR bk) _ _
  refine GS.lY g1 f1 br eX λC M2 g2 f al W=>⟨λa h=>?_,bE (W l V a6) _,?_⟩
  .simp at h
   refine W a ?_ ?_<;>rcases h with rfl|rfl|rfl|rfl<;>omega
  intro M3
  have bw:D m M2:=Fz.ext (((v9.fz [j.bz]).J f).Ij λb Q=>bR (by simp at Q;omega))
  have b3:=g2.cJ
  have h5:=g2.rU kd.aP (λh=>by
   rcases bo.1 h with i|i
   .omega
   .rcases bo.1 i with i|i
    .omega
    .have:=hS _ i;omega) cD eX
  refine⟨C,.mk _ q.bQ,O,iN.le (dW bO λa h=>aX _ (aX _ h)) h5,⟨WB.of (Rc.fx ?_) ?_,?_⟩,bw.aV V _ _⟩
  .rw[bd];exact a8.1.cy.1
  .rw[fg,bd,eW];exact a8.1.cy.2
  .rw[Bk.vu,gF];omega
 have bI:∀(M:bg)(g:ad)(K:E->bg->Prop),D aa M->GS g z M A (y.map (iX 14)++F.map (iX 15))->j.bz∈g->(∀C k,GI c H k C (R++y)->GS g z k A (y.map (iX 14)++F.map (iX 15))->Fz [j.bz] z k->M.size<=k.size->(∀b,b<M.size->b≠j.bz->k[b]? =M[b]?)->K C k)->mj M bB [.i 0] 8 j su K:=by
  intro M g K hx w bn hK;have bs:ba (dB (j.bz::c) M) su y:=by
   refine ba.le ((an.J hx).fj) (Gr.rU (S:=j.bz::c) yo.aP gu.jY (λh=>?_) cD V);rcases bo.1 h with i|i
   .omega
   .have:=hS _ i;have:=B.aQ;omega
  exact GI.lY (a1.ext hx) ((((x7.J N).J an).J hx).fz []) bs V λC k g' f al W=>hK C k g' (w.Sn kd.aP (Y:=[j.bz]) ⟨al.1,λb Q hn=>W b Q (sp hn)⟩ (sp bn) (sp bp)) (((an.J hx).fz [j.bz]).J ⟨al.1,λb Q hn=>W b Q (sp hn)⟩) al.1 W
 have bz:∀(M:bg)(g:ad)(mn ag:E)(v:ab),(∀a∈g,a<M.size)->Fz [j.bz] z M->ba M mn (R++y)->ba M ag v->tz la v->rG 263 [.agg #[ao.v,C.v],aC.v,.agg #[aw.v,vi b.bQ],mn.v,ag.v] M g λq=>WB ds rs.length True (L.length+I.length) q/\q.w+1050<=1100*b.w:=by
  intro M g mn ag v bi ak h1 h2 h3;have hF:=F4 ak;have hm:=(B.J J).J hF;have bm:ba M aC (L++I):=(((gi.cr bO eX).le fN).ext x4).ext hF;have:=ih g M bi ao C aC aw mn ag (L++I) (R++y) v (hn.le hm.le) bm (hs.le hm.le) h1 h2 ⟨λo u=>?_,eX,oh h3.2,eX,sp hp.wb⟩
  .simpa using this
  .simp;rcases bU.1 u with u|u
   .have:=hp.bI o (aM o u);omega
   .have:=ap o u;omega
 have b4:=an.aQ
 have bW:j.bz<aa.size:=V
 have bS:A.bz<aa.size:=g3.cJ.2
 have a2:∀{M:bg},D G M->aa.size<=M.size->∀a∈A.bz::j.bz::p.size::c,a<M.size:=λr hz a h=>by
  rcases bo.1 h with i|i
  .omega
  .exact aB r V a i
 have kH:∀(M:bg)(l:Nat)(mn ag:E)(v:ab),GS (l::j.bz::p.size::c) z M A (y.map (iX 14)++F.map (iX 15))->Fz [j.bz] z M->aa.size<=l->l<M.size->ba M mn (R++y)->ba M ag v->tz la v->
  bK dO 263 [.agg #[ao.v,C.v],aC.v,.agg #[aw.v,vi b.bQ],mn.v,ag.v] M λrv k=>gS [l,p.size,e.size,m.size] M k/\∃aU:E,∃aE:Int,rv=.agg #[aU.v,vi aE]/\
   let P:bg:=aV k l 0 [.s aU,.i aE]
   mj P jQ [.i 0,.i 0,.i 0,.s .nil,.s .nil] 72 A aU λav M2=>gS [l,p.size,e.size,m.size] P M2/\aS M2 l 1=aS P l 1/\
    let M3:bg:=aV M2 p.size 0 [.s av,.i aE]
    ∃s ac,Value.agg #[av.v,vi aE]=.agg #[s.v,vi ac.bQ]/\iN (dB c M3) s ac.bA/\(WB ds rs.length True (L.length+I.length) ac/\ac.w<=1100*b.w)/\D m M3:=by
  intro M l mn ag v w ak h1 h2 h3 h4 h5
  have hM:D G M:=J.J (F4 ak)
  refine(bz M (l::A.bz::j.bz::p.size::c) mn ag v (λa h=>?_) ak h3 h4 h5).bL (D.cU M) (λa h=>?_) λss q k aq hq hx _=>⟨_,_,O,tail k l ss q (w.ext kd.aP hx) (ak.cg hx) V (hx.lt h2) V aq hq⟩
  .rcases bo.1 h with i|i
   .omega
   .exact a2 hM V a i
  .rcases bo.1 h with i|i
   .omega
   .exact hM.lt (t a i)
 have aD:∀(M:bg)(o:Obj),GS (j.bz::p.size::c) z M A (y.map (iX 14)++F.map (iX 15))->GS (M.size::j.bz::p.size::c) z (M.push o) A (y.map (iX 14)++F.map (iX 15)):=λM o w=>
  w.re kd.aP (Y:=[]) ((D.push M o).fz []) bO bO λa h=>by
   rcases bo.1 h with i|i
   .exact bR V
   .exact bC i
 have aJ:∀(M:bg)(aI:ad)(K:aj),D G M->(∀a∈aI,a<M.size)->(∀s v k,ba k s v->tz la v->D M k->K s.v k)->bK dO 344 [aO.v,vi (aH.len:Int)] M λL m'=>gS aI M m'/\K L m':=λM aI K hM hL hK=>
  (TG (S:=[]) bO (a3.le ((B.J hM).le.J EB)) V).bL (D.cU M) hL λs v k w ar X _=>hK s v k ((w.cr bO (oh ar.2)).le fN) ar X
 have aA:∀{M:bg}{s:E},GI c H M s (R++y)->ba M s (R++y):=λw=>(w.cr (λa h=>cw (hS a h) (B.J J).aQ) eX).le fN
 have aN:∀{M:bg}{l:Nat},D G M->l<M.size->∀a∈[l,p.size,e.size,m.size],a<M.size:=λr Q a h=>by
  rcases bo.1 h with i|i
  .omega
  .exact r.lt (t a i)
 refine⟨bI aa _ _ cY g3 bO λau aQ ga gs U al W=>⟨λa h=>W a (aG.lt (t a h)) (oh (t a h)),E4 aG (J.J (F4 U)) ⟨?_,?_⟩⟩,?_⟩
 .have ah:=J.J (F4 U)
  refine aJ aQ _ _ ah (λa h=>ah.lt (t a h)) λam v ay a0 bc T=>⟨_,O,E4 ah (ah.J T) ⟨?_,?_⟩⟩
  .have ax:=ah.J T
   have bA:=T.aQ
   refine(bz ay (A.bz::j.bz::p.size::c) au am v (a2 ax V) (U.cg T) ((aA ga).ext T) a0 bc).bL ax t λss q aR aq hq aY be=>⟨_,_,O,?_⟩
   intro a_
   have b8:=aY.aQ
   have bh:=(U.cg T).cg aY
   exact E4 be (be.bZ _) (tail a_ aR.size ss q (aD aR _ ((gs.ext kd.aP T).ext kd.aP aY)) (bh.push _) V (by simp[a_]) V (aq.le (xl (D.push aR _) bY)) hq)
  .intro aR
   have bA:=T.aQ
   have ax:=ah.J T
   exact E4 ax (ax.bZ _) (kH aR ay.size au am v (aD ay _ (gs.ext kd.aP T)) ((U.cg T).push _) V (by simp[aR]) (((aA ga).ext T).ext (D.push _ _)) (a0.ext (D.push _ _)) bc)
 .intro T
  have ah:=J.J (F4 U)
  have ax:D G T:=ah.bZ _
  have aR:=px T
  refine E4 ah ax (aJ T _ _ ax (aN ax (by simp[T])) λam v a0 aY a_ ay=>⟨_,O,E4 ax (ax.J ay) ?_⟩)
  exact kH a0 aQ.size au am v ((aD aQ _ gs).ext kd.aP ay) ((U.cg aR).cg ay) V (ay.lt (by simp[T])) (((aA ga).ext aR).ext ay) aY a_
 .intro T
  have ay:D G T:=aG.bZ _
  have bc:=px T
  refine E4 aG ay (bI T _ _ bc (aD aa _ g3) bO λau aY ga gs U al W=>⟨λa h=>W a (aN ay (by simp[T]) a h) ?_,E4 ay (J.J (F4 U)) ?_⟩)
  .rcases bo.1 h with i|i
   .omega
   .have:=t a i;omega
  have ax:=J.J (F4 U)
  have be:=pz T
  refine aJ aY _ _ ax (aN ax V) λam v a0 aR a_ ah=>⟨_,O,E4 ax (ax.J ah) ?_⟩
  exact kH a0 aa.size au am v (gs.ext kd.aP ah) (U.cg ah) bY (ah.lt V) ((aA ga).ext ah) aR a_
end
section
variable{c m:bg}{k i h a:Nat}{s:E}{e:ad}{f:ab}{d:eN}{g:List j7}
def abK{a b:bg}(h:D a c)(f:Fz [k] c b)(d:a.size<=k):D a b:=by constructor<;>grind [Fz.ext,D.fz,Fz.J,Fz.Ij]
def _root_.Go.Vc.Fz.Wr{M b:bg}(f:Fz [k] c M)(d:s.bz=k\/c.size<=s.bz)(e:M.size<=b.size)(q:∀a,a<M.size->a≠s.bz->b[a]? =M[a]?):Fz [k] c b:=
 by constructor<;>grind [Fz.vV,E.bz]
def GI.afd{X:ad}{b:bg}{d:E}{g:ab}{K:E->bg->Prop}(h:GI e b m s f)(l:Fz X b m)(o:ba m d g)(q:f.length+g.length<=10^12)
 (n:∀r a,GI e b a r (f++g)->Fz X b a->(m.size<=a.size/\(r.bz=s.bz\/m.size<=r.bz))->(∀c,c<m.size->c≠s.bz->a[c]? =m[c]?)->K r a):mj m bB [.i 0] 8 s d K:=by
 let⟨p,i,j,k⟩:=o.abT (b:=1) λ_ _ h=>by rw[h];rfl
 exact Gr.xD (h:=[.i 0]) yo.aP cD h l i j k V n
def dC(e:ad){b:E}(d:ba m b f)(i:f.length<=10^12):oA 55 [b.v] m e (f=·):=by
 apply rJ;intro h;have a:=px h;exact GI.afd (f:=[]) (X:=[]) (GI.gN e m) (a.fz []) (d.ext a) cB λr j g c _ _=>⟨r,f,O,sp g,O,c.ext⟩
abbrev GB(e:ad)(a m:bg)(s:E)(f:aF):Prop:=Gr e a m fm 2 vx s f
def GB.bF{e:ad}(m:bg):GB e m (m.push (.cells (db []) fm)) (.mk m.size 0 0 0) []:=by grind [Gr.bF]
def GB.nE{e X:ad}{g m:bg}{s a:E}{f:aF}{c:Bk}{K:E->bg->Prop}(h:GB e g m s f)(k:Fz X g m)(j:iN (dB (s.bz::e) m) a c.bA)(l:f.length<=10^12)
 (i:∀r b,GB e g b r (f++[c])->Fz X g b->m.size<=b.size/\(r.bz=s.bz\/m.size<=r.bz)->(∀d,d<m.size->d≠s.bz->b[d]? =m[d]?)->K r b):
 mj (m.push (.cells (db [.s a,.i c.bQ]) fm)) fm [.s .nil,.i 0] 32 s (.mk m.size 0 1 1) K:=
 Gr.nE (h:=[.s .nil,.i 0]) vx.aP cD h k (by cases c;exact vx.of j) V i
theorem Px{a:af}{b cE:Int}{y:Int}(h:b=8)(c:(cT a cE)[i]? =some y):Gc a b cE i=(cX a y).length:=by grind [Gc]
def Py{b:af}{a cE:Int}(h:a≠8):Gc b a cE i=0:=by grind [Gc]
def _root_.Go.Vc.WS.US{e:af}{i f:Prop}(b:WS e h i a d)(l:i->f){dh:Int}(m:0<=dh/\dh<=(a:Int)){dv:aF}(j:dv.length=d.dv.length)(n:∀(k:Nat)(c:Bk),dv[k]? =some c->WB e h f (a+Gc e d.op d.cE k) c):WS e h f a ⟨d.op,d.cE,dh,d.aO,dv⟩:=
 ⟨⟨b.iY.op.imp id λb=>⟨l b.1,b.2⟩,b.iY.aO,b.iY.mM,m,λg=>j.trans (b.iY.Nk g),λg=>j▸b.iY.lY g,b.iY.jF⟩,n⟩
def MG(hS:∀h∈e,h<m.size){U Q ad a k oY ac:E}{r:af}{B lo la:ab}(A:iF m U Q r g)(hv:ba m ad B)(ha:ba m a d.aO)(N:rQ m k d.dv)(ho:ba m oY lo)(ar:ba m ac la)
 (au:∀o∈lo,0<=o/\o<(B.length:Int))(aG:lo.length+5*d.w<=500)(aF:la.length+1000*d.w<=1000000)(vN:B.length+5*d.w<=1000000)(aa:WS r g.length False B.length d)(ih:∀c∈d.dv,acL r g c):
 Pl 300 [.agg #[U.v,Q.v],ad.v,tp d a k,oY.v,ac.v] m e λC=>WS r g.length True B.length C/\C.op=d.op/\C.w<=1+d.aO.length+1100*bw d.dv:=by
 apply EZ
 simp -zeta only[dR]
 intro m0 o v ag
 let⟨p,u,s0,s1,s2⟩:=um (a:=m0) (c:=o) (d:=v) O O O
 have ak:=px ag
 have gk:=GB.bF (e:=o.size::e) v
 have az:=ha.aT;have aq:=N.aT;have hw:=eN.pP d
 refine(kQ (e:=[v.size]) (by simp[ag]) (A.le (p.J ak).le).bS A.dk d.cE).bL ak u λh cl m4 t P x4 u4=>⟨_,O,?_⟩
 subst P
 have aC:=t.aT
 refine gL (n:=d.dv.length) (aq▸N.kK) (λj s M=>Fz [v.size] m4 M/\(s.bz=v.size\/m4.size<=s.bz)/\∃f,GB (o.size::e) v M s f/\f.length=j/\(∀(i:Nat)(c:Bk),f[i]? =some c->WB r g.length True (B.length+Gc r d.op d.cE i) c)/\bw f<=1100*bw (d.dv.take j)) ⟨nP,bC O,[],gk.ext vx.aP x4,O,bO,bO⟩ ?_
 rintro j s m5 am μ hj ⟨Y,av,f,Z,aE,ax,ao⟩ ay
 have l:=abK u4 Y bY
 have hy:=Z.cJ
 refine dit (λx=>?_) λx=>?_
 .intro m6
  have q:=px m6
  let⟨c,z⟩:=dV d.dv j
  have aA:=Be z
  have aB:=yP z
  have an:∀{M:bg},D m5 M->∀h∈s.bz::o.size::e,h<M.size:=λx=>dE (dE hS p.aQ (u _ bO)) (l.J x).aQ (oh x.aQ)
  have kH:∀(M:bg)(F:E)(L:ab)(w:E),D m5 M->ba M F L->L.length=Gc r d.op d.cE j->iN M w c.bA->
   bK dO 329 [.agg #[U.v,Q.v],ad.v,F.v,.agg #[w.v,vi c.bQ],oY.v,ac.v] M λrv J=>gS [o.size,m0.size,m.size] M J/\∃ai:E,∃aj:Int,rv=.agg #[ai.v,vi aj]/\
    let M1:bg:=J.push (.cells (db [.s ai,.i aj]) fm)
    mj M1 fm [.s E.nil,.i (0:Int)] 32 s (E.mk J.size 0 1 1) λah K=>gS [o.size,m0.size,m.size] M1 K/\am ah (eJ ((j:Int)+(1:Int))) K/\μ ah (eJ ((j:Int)+(1:Int))) K<μ s j m5:=by
   intro M F L w G hf ap I
   have T:=p.J (l.J G)
   have b3:=V0 A.dk d.op d.cE j
   refine(On (c:=s.bz::o.size::e) (an G) (A.le T.le) (hv.ext T) hf I (ho.ext T) (ar.ext T) ⟨au,V,V,V,V,ap▸aa.dv j c z⟩ (ih c (aZ z))).bL (l.J G) u λss b' J aw P C u'=>⟨_,_,O,?_⟩
   refine GB.nE (c:=b') (Z.ext vx.aP (G.J C)) (u'.fz []) aw (oh (xf d.dv)) λQ K g2 f2 z2 q2=>⟨D.sN (u'.bZ _) f2.ext u,ay V _ _ ⟨(Y.cg (G.J C)).Wr av z2.1 q2,?_,_,g2,eX,λi b2 H=>?_,?_⟩⟩
   .grind
   .rcases dJ i f.length with y|y
    .grind
    .rw[dP y]at H
     have:i -f.length=0:=by have:=br H;simp at this;omega
     rw[this]at H;simp at H;subst H
     have:i=j:=V
     grind
   .grind [sV,yO,Ea]
  refine⟨λy=>?_,λy=>?_⟩
  .simp only[bP]at y
   have aD:=(aa.iY.lY y).1
   let⟨al,ae⟩:=dV (cT r d.cE) j
   refine⟨V,V,al,(iO.1 ((t.le ((Y.cg q).fj bO)).bt ae)).2,?_⟩
   have R:=l.J q
   refine(fV (e:=[]) ((A.le (p.J R).le).bS.le EB) A.dk al).bL R u λF L m7 hf P x7 u7=>⟨_,O,?_⟩
   subst P
   let⟨w,I,W,X⟩:=(N.le (p.J u7).le).bt z
   exact⟨V,V,_,W,_,X,kH m7 F _ w (q.J x7) (hf.le fN) (Px y ae).symm I⟩
  .simp only[bd]at y
   let⟨w,I,W,X⟩:=(N.le (p.J (l.J q)).le).bt z
   exact⟨V,V,_,W,_,X,kH m6 _ [] w q pX (Py y).symm I⟩
 .have F:f.length=d.dv.length:=V
  rw[eQ V]at ao
  refine(dC (o.size::e) (ha.ext (p.J l)) V).bL l u λG H m6 z y q R=>⟨_,O,bE (q.bG _ (l.lt (u _ bO))) _,bE (q.bG _ (l.lt (u _ bO))) _,?_⟩
  subst y
  intro m7
  have w:∀h∈o.size::e,h<v.size:=dE hS p.aQ V
  refine⟨G,s,⟨d.op,d.cE,0,d.aO,f⟩,O,(z.cr (λh t=>cw (w h t) l.aQ) V).le (dW bO λh t=>aX _ t),rQ.le (dW bO λh t=>aX _ t) ((Z.ext vx.aP q).cr vx.aP w cD cB),⟨aa.US (λx=>x.elim) ⟨V,V⟩ F ax,O,?_⟩,(p.J R).aV V _ _⟩
  grind [eN.pP]
def _root_.Go.Vc.Xx{σ τ ρ:Type}{n:Nat}(p:n<=9223372036854775807){h:σ}{j:τ}{g:ρ}{f:(σ->τ->ρ->Int->bg->Prop)->(σ->τ->ρ->Int->bg->Nat)->σ->τ->ρ->Int->bg->Prop}(Q:Nat->σ->τ->ρ->bg->Prop)(l:Q 0 h j g m)
 (o:∀(k:Nat)(s:σ)(t:τ)(r:ρ)(a:bg)(I:σ->τ->ρ->Int->bg->Prop)(μ:σ->τ->ρ->Int->bg->Nat),k<=n->Q k s t r a->
  (k<n->∀d e c b,Q (k+1) d e c b->I d e c (eJ ((k:Int)+1)) b/\μ d e c (eJ ((k:Int)+1)) b<μ s t r k a)->f I μ s t r k a):
 ∃(I:σ->τ->ρ->Int->bg->Prop)(μ:σ->τ->ρ->Int->bg->Nat),I h j g 0 m/\∀s t r i a,I s t r i a->f I μ s t r i a:=by
 refine⟨λs t r i b=>∃k:Nat,i=k/\k<=n/\Q k s t r b,λ_ _ _ i _=>(n -i).toNat,⟨0,O,iD _,l⟩,?_⟩
 grind [nt,Qe]
@[grind cases] structure CB (ds:af) (nr:Nat) (S:ad) (m2 M:bg) (v lo:ab) (bA:au) (k:Nat) (st inn mn:E):Prop where
 x:D m2 M
 hs:∃l,GS (inn.bz::mn.bz::S) m2 M st l/\WL ds nr True v.length l/\dc l=dc (bA.take k)/\sw l<=1100*sw (bA.take k)
 hi:∃l,GI S m2 M inn l/\l.length=v.length+dc (bA.take k)
 hm:∃l,GI S m2 M mn l/\l.length<=lo.length+k/\∀o∈l,0<=o/\o<((v.length+dc (bA.take k):Nat):Int)
 ne:inn.bz≠mn.bz
theorem dn1{c:af}(b:WS c h False a d):dn d=1:=bn (b.iY.op.resolve_right λb=>b.1)
def KU{U:af}:∀c:Bk,acL U g c:=by
 refine Bk.ind ?_;intro bA w ih e m hS b2 cS dK cU oY cZ aj lo la hn hv hs B bF hp;have a9:=hp.wb.cy;simp only[Bk.mV,Bk.lV]at*;have cI:=hp.lo5;have cH:=hp.laN;have vN:=hp.vN;rw[(Bk.vu bA w)]at cI cH vN;apply Dm;simp -zeta only[dR];intro m0 p t bP;let⟨F,K,s0,s1,s2⟩:=um (a:=m0) (c:=p) (d:=t) O O O;obtain⟨bj,s3⟩:=pu bP;have bB:∀am,GS am t bP (.mk t.size 0 0 0) []:=λam=>GS.bF am t;have bI:=hs.aT;have cC:=FU bA;have dj:=jS bA;refine(dC e (hv.ext (F.J bj)) V).bL bj K λo _ m4 G q x4 u4=>⟨_,O,?_⟩;subst q;refine(dC e (B.ext (F.J u4)) V).bL u4 K λv _ m5 W q x5 u5=>⟨_,O,?_⟩;subst q;have bJ:=G.cJ;have bL:=W.cJ;refine Xx (n:=bA.length) (bI▸hs.kK) (λk A o v j=>CB U g.length (p.size::e) t j aj lo bA k A o v) ⟨u5,⟨[],((bB _).ext kd.aP x4).ext kd.aP x5,WL.gN,O,bO⟩,⟨aj,((G.ext x5).cW (λ_ h=>h) bj.aQ).jY,bO⟩,⟨lo,(W.cW (λ_ h=>h) u4.aQ).jY,V,sp hp.bI⟩,V⟩ ?_;clear G W bJ bL bB;rintro k A o v Q bl μ hk ⟨x6,⟨P,gs,aO,Z,dk⟩,⟨li,G,aL⟩,⟨lm,W,c5,bG⟩,df⟩ aT
 have v6:=F.J x6;have c9:=G.aT cD;have c7:=xh (bA.take k);have dd:=RS k bA;have ae:∀l∈p.size::e,l<t.size:=dE hS F.aQ (K _ bO);have co:ba Q o li:=(G.cr ae V).le fN;have cq:ba Q v lm:=(W.cr ae V).le fN;have dz:=gs.cJ;have bJ:=G.cJ;have bL:=W.cJ;have cB:=jS (bA.take k);have c_:k<=sw (bA.take k):=by rw[qW]at cB;omega
 refine dit (λh=>?_) λh=>?_
 .let⟨d,r⟩:=dV bA k;let⟨a,kk,ha,bE,g0,g1,g2,g3,g4⟩:=hs.bt r;refine⟨V,V,_,v6.aS g0,_,v6.aS g1,_,v6.aS g2,_,v6.aS g3,_,v6.aS g4,?_⟩;intro m7 R;obtain⟨x8,s8⟩:=pv R;have T:=x6.J x8;have u:∀{j:bg},R.size<=j.size->∀c∈[Q.size,p.size,m0.size,m.size],c<j.size:=λh c hb=>by
   rcases bo.1 hb with q|q
   .omega
   .have:=T.lt (K c q);omega
  have ds:=ub r;have dq:=uL r;have dr:=eN.pP d;have ah:WS U g.length False li.length d:=by rw[aL];exact a9.1 k d r
  have bD:=dn1 ah;have dm:=cC (k+1);have c6:=xf d.dv;have de:=jS P;have ag:∀{j:bg},D t j->At j b2 cS a kk U g d:=λh=>⟨hn.le (F.J h).le,ha.ext (F.J h),ah.iY.jF⟩;have aN:∀{j:bg},GI (p.size::e) t j o li->ba j o li:=λy=>(y.cr ae V).le fN;have a7:∀{j:bg},GI (p.size::e) t j v lm->ba j v lm:=λy=>(y.cr ae V).le fN;have an:∀{j:bg}{am:ad},R.size<=j.size->(∀l∈am,l<j.size)->∀l∈am++p.size::e,l<j.size:=λh hb l b=>by
   rcases bU.1 b with h|h
   .exact hb l h
   .have:=ae l h;omega
  refine(sB (ag T).Wy (aN (G.ext x8)) (ag T).aO (bE.le (F.J T).le) V λc _=>rl c).bL (D.cU R) (u bY) λty m9 x9 _=>⟨_,O,?_⟩;intro a_;have bX:D R a_:=x9.bZ _;have e0:ba (dB [] a_) (.mk m9.size 0 0 0) []:=pX;rw[nt (k:=k) (n:=bA.length) V (bI▸hs.kK)]at aT⊢
  refine(EN (.mk bA w) [] a_ bO cU _ _ _ (k+1) (hs.le (F.J (T.J bX)).le) e0 (by simp only[Bk.mV];omega) (by simp only[Bk.vu,kU];omega)).bL bX (u bY) λus ul cJ hu cE dL bi=>⟨_,O,?_⟩;rw[Bk.vu,kU]at cE;refine(TN (S:=[]) bO hu ((bF.ext (F.J (T.J bi))).le EB) V).bL bi (u bY) λlt ll cK a4 bS dM aq=>⟨_,O,?_⟩;have aB:∀{j:bg},GI [] cJ j lt ll->ba j lt ll:=λy=>(y.cr bO (oh bS.2)).le fN;have bm:=T.J aq;have bs:=G.ext (x8.J aq);have bx:=W.ext (x8.J aq);have cj:=gs.ext kd.aP (x8.J aq);refine(KW (b:=[]) bO (ag bm) (aN bs) ah.iY.aO (a7 bx) (aB a4) V).bL (D.cU cK) (u aq.aQ) λdu dl cL cd bT ar _=>⟨_,O,?_⟩;have c0:=bT.2;have dP:=aq.aQ;have dQ:=ar.aQ;have dN:=bi.aQ;refine(iR (c:=[A.bz,o.bz,v.bz]++p.size::e) (an V eX) 14 ((cd.cr bO V).le fN) V).bL (D.cU cL) (u V) λdI _ aQ b9 q av _=>⟨_,O,?_⟩;subst q;have dS:=av.aQ;refine GS.lY (cj.ext kd.aP (ar.J av)) (((bm.J ar).J av).fz []) (b9.cr kd.aP (an (am:=[A.bz,o.bz,v.bz]) V eX) cD eX) eX λbh bM bq b3 cV aW=>⟨λl b=>aW l (u V l b) ?_,?_⟩
  .simp at b;omega
  have aK:D t bM:=b3.ext;have cp:o.bz<aQ.size:=V;have cs:v.bz<aQ.size:=V;have ct:A.bz≠o.bz:=gs.Qf G cD;have cu:A.bz≠v.bz:=gs.Qf W cD;have da:=a4.cJ;have bt:=(bs.ext (ar.J av)).lZ (aW _ cp ct.symm);have bz:=(bx.ext (ar.J av)).lZ (aW _ cs cu.symm);have bw:=(a4.ext (ar.J av)).lZ (aW _ V V);have dg:bh.bz=A.bz\/aQ.size<=bh.bz:=cV.2;have dv:=bq.cJ;refine(MG (e:=[bh.bz,o.bz,v.bz]++p.size::e) (an V eX) (ag aK).Wy (aN bt) (ag aK).aO (bE.le (F.J aK).le) (a7 bz) (aB bw) (by rw[aL];exact bG) V (oh bS.2) V ah (ih d (aZ r))).bL (D.cU bM) (u V) λc3 c4 x' bN ck cl cR aw _=>⟨_,_,_,_,_,O,?_⟩;let⟨cF,cA,dp⟩:=cR;have dT:=aw.aQ;refine GS.nE (x:=x') (bq.ext kd.aP aw) ((aK.J aw).fz []) ck cl eX λaD bb br b4 cW aY=>⟨λl b=>?_,?_⟩
  .have:=u (j:=bN) V l b;rw[aY l this (by simp at b;omega),(D.push bN _).bG l this]
  have a1:D t bb:=b4.ext;have bu:=(bt.ext aw).lZ (aY _ V V);have ci:=(bz.ext aw).lZ (aY _ V V);have a3:=(bw.ext aw).lZ (aY _ V V);have dh:aD.bz=A.bz\/aQ.size<=aD.bz:=by have:=cW.2;omega
  refine(MJ (b:=[]) bO (ag a1) (aN bu) ah.iY.aO (a7 ci) (aB a3) V).bL (D.cU bb) (u V) λap lf cM gf be ax _=>⟨_,O,?_⟩;have bn:=a1.J ax;have dU:=ax.aQ;have cn:∀{j:bg},GI [] bb j ap lf->ba j ap lf:=λy=>(y.cr bO (oh be.2)).le fN;refine(MK (b:=[]) bO (ag bn) (cn gf) (aB (a3.ext ax)) V).bL (D.cU cM) (u V) λcT N cN gd bV aJ _=>⟨_,O,?_⟩;have c2:=bV.2;have c1:=be.2;have dy:=gf.cJ;have dx:=gd.cJ;have dw:=br.cJ;refine(iR (c:=[aD.bz,ap.bz,o.bz]++p.size::e) (an V eX) 15 ((gd.cr bO V).le fN) V).bL (D.cU cN) (u V) λdJ _ cO ca q ak _=>⟨_,O,?_⟩;subst q;have b0:=(bn.J aJ).J ak;have dX:=ak.aQ;have b_:GS ([ap.bz,o.bz]++p.size::e) t cO aD _:=br.re kd.aP (Y:=[]) (((ax.J aJ).J ak).fz []) bO bO λl b=>by
   simp only[eT,iA,bo]at b⊢;rcases b with h|h|h
   .exact bR V
   .exact bC (bC h)
   .exact bC (bR (bR h))
  refine GS.lY b_ (b0.fz []) (ca.cr kd.aP (an (am:=[aD.bz,ap.bz,o.bz]) V eX) cD eX) eX λH aR cb b5 dY aC=>⟨λl b=>aC l (u V l b) ?_,?_⟩
  .simp at b;omega
  have b1:D t aR:=b5.ext;have cg:=((bu.ext ax).ext (aJ.J ak)).lZ (aC _ V V);have cf:=(gf.ext (aJ.J ak)).lZ (aC _ V V);have cc:=(gd.ext ak).lZ (aC _ V V);have ch:=((a3.ext ax).ext (aJ.J ak)).lZ (aC _ V V);have a6:ba aR cT N:=(cc.cr bO V).le fN;have cm:=a6.aT;have ce:GI (p.size::e) t aR ap lf:=(cf.cW (λ_ h=>h) a1.aQ).jY;refine gL (n:=N.length) (cm▸a6.kK) (λ_ s j=>D aR j/\∃f,GI (p.size::e) t j s f/\GS ([s.bz,o.bz]++p.size::e) t j H (P++dl.map (iX 14)++[x']++N.map (iX 15))/\tz lf f/\o.bz≠s.bz/\R.size<=s.bz) ⟨cY,lf,ce,cb,⟨λ_ h=>h,bY⟩,V,V⟩ ?_;rintro i s bc I2 μ2 hi ⟨ay,f,gl,a5,L,cv,di⟩ cP;have bp:=b1.J ay;have dZ:=ay.aQ;have cG:=gl.cJ;refine dit (λh2=>?_) λh2=>?_
  .let⟨I,J⟩:=dV N i;refine⟨V,V,I,(a6.ext ay).bt J,?_⟩;refine(FT (S:=[]) bO (((gl.cr ae (oh L.2)).le fN).le EB) I (oh L.2)).bL (D.cU bc) (u V) λac X ab g2 z C _=>⟨_,O,cP V _ _ ⟨ay.J C,X,(g2.cW (λ_ h=>h) bp.aQ).jY,?_,⟨λaz hz=>L.1 az (z.1 az hz),fD z.2 L.2⟩,?_,?_⟩⟩
   .have aa:=g2.cJ;refine a5.re kd.aP (Y:=[]) (C.fz []) bO bO λl b=>?_;simp only[eT,iA,bo]at b⊢;rcases b with h|h|h
    .exact bR V
    .exact bC (bR (bC h))
    .exact bC (bR (bR h))
   .have:=g2.cJ;omega
   .have:=g2.cJ;omega
  intro dD;have bv:=cg.ext ay;refine GI.nE bv (bp.fz []) V λaa ao ab b6 bZ a0=>⟨λl b=>?_,?_⟩
  .have:=u (j:=bc) V l b;rw[a0 l this (by simp at b;omega),(D.push bc _).bG l this]
  have a2:D t ao:=b6.ext;have cX:=bZ.1;have cy:H.bz≠o.bz:=a5.Qf bv cD;have aA:=gl.lZ (a0 _ cG.2 cv.symm);have bH:=bZ.2;have ac:GS ([s.bz,aa.bz]++p.size::e) t ao H _:=a5.re kd.aP (Y:=[o.bz]) ⟨cX,λl b hn=>a0 l b (sp hn)⟩ bO (sp cy) λl b=>by
   simp only[eT,iA,bo]at b⊢;rcases b with h|h|h
   .exact bC (bC h)
   .rcases bH with q|q
    .exact bC (bR (bC (h.trans q)))
    .exact bR V
   .exact bC (bR (bR h))
  have bd:aa.bz≠s.bz:=by rcases bH with q|q<;>omega
  have I:WL U g.length True aj.length (P++dl.map (iX 14)++[x']++N.map (iX 15))/\dc (P++dl.map (iX 14)++[x']++N.map (iX 15))=dc (bA.take (k+1))/\sw (P++dl.map (iX 14)++[x']++N.map (iX 15))+2<=1100*sw (bA.take (k+1)):=by
   have c8:dn x'=1:=by unfold dn at bD⊢;rw[cA];exact bD
   have d1:dc (dl.map (iX 14))=0:=nF V _;have d2:dc (N.map (iX 15))=0:=nF V _;refine⟨((aO.fx (vE V λz B=>?_)).Dh ?_).fx (vE V λz B=>?_),?_,?_⟩
   .rw[Z,<-aL];exact ah.iY.aO z (bT.1 z B)
   .rw[fg,d1,Z,ui,<-aL];exact cF
   .have:=ah.iY.aO z (bV.1 z B);rw[fg,fg,d1,Z,nM,xk];omega
   .rw[fg,fg,fg,d1,d2,Z,nM,xk];omega
   .rw[gF,gF,gF,uo,uo,qu,zL];omega
  have a8:∀z∈f,0<=z/\z<((aj.length+dc (bA.take (k+1)):Nat):Int):=λz B=>by
   have:=bG z (be.1 z (L.1 z B));omega
  have bQ:∀(j:bg),D ao j->bl H aa s ((k+1:Nat):Int) j/\μ H aa s ((k+1:Nat):Int) j<μ A o v k Q:=λj r=>
   aT V _ _ _ _ ⟨a2.J r,⟨_,(ac.re kd.aP (Y:=[]) (r.fz []) bO bO λl b=>bC (by simp only[eT,iA,bo]at b⊢;rcases b with h|h|h;exact bR (bC h);exact bC h;exact bR (bR h))),I.1,I.2.1,V⟩,⟨_,ab.ext r,eX⟩,⟨f,aA.ext r,oh L.2,a8⟩,bd⟩
  have dA:=ac.cJ;have cQ:∀(j:bg),D ao j->bK dO 228 [vi (15:Int),vi (o.len:Int)] j λrv C=>gS [Q.size,p.size,m0.size,m.size] j C/\∃aE:Int,∃aF:Int,∃aG:Int,∃aH:E,∃aI:E,rv=.agg #[vi aE,vi aF,vi aG,aH.v,aI.v]/\
   let M2:bg:=C.push (.cells (db [.i aE,.i aF,.i aG,.s aH,.s aI]) jQ)
   mj M2 jQ [.i (0:Int),.i (0:Int),.i (0:Int),.s E.nil,.s E.nil] 72 H (E.mk C.size 0 1 1) λbW J=>gS [Q.size,p.size,m0.size,m.size] M2 J/\bl bW aa s ((k+1:Nat):Int) J/\μ bW aa s ((k+1:Nat):Int) J<μ A o v k Q:=by
   intro j r
   have zx:=r.aQ
   have dt:=ab.cJ
   refine(lK (c:=[H.bz,s.bz,aa.bz]++p.size::e) (an V eX) 15 (o.len:Int)).aP λrv C⟨pa,pk,q,X,h2,ai⟩=>?_
   subst q
   have d3:=ai.aQ
   have aP:=r.J ai
   refine⟨ai.eV (u V),_,_,_,_,_,O,?_⟩
   have cw:H.bz≠aa.bz:=ac.Qf ab cD
   have cx:H.bz≠s.bz:=ac.Qf aA cD
   refine GS.nE (x:=iX 15 (o.len:Int)) (ac.ext kd.aP aP) ((a2.J aP).fz []) X h2 (VI I.2.2 (jS (P++dl.map (iX 14)++[x']++N.map (iX 15)))) λr' J y aM az aU=>⟨λl b=>?_,aT V _ _ _ _ ⟨aM.ext,⟨_,(y.re kd.aP (Y:=[]) (cY.fz []) bO bO λl b=>bC (by simp only[eT,iA,bo]at b⊢;rcases b with h|h|h;exact bR (bC h);exact bC h;exact bR (bR h))),I.1.Dh (Iv V ?_),?_,?_⟩,⟨_,(ab.ext aP).lZ (aU _ V cw.symm),eX⟩,⟨f,(aA.ext aP).lZ (aU _ V cx.symm),oh L.2,a8⟩,bd⟩⟩
   .have:=u (j:=C) V l b
    rw[aU l this (by simp at b;omega),(D.push C _).bG l this]
   .rw[I.2.1];omega
   .rw[fg,I.2.1];simp[nM,dn,iX,tv]
   .rw[gF,qu,zL]
    have h5:(iX 15 (o.len:Int)).w=2:=by rw[eN.pP];rfl
    have:=I.2.2;omega
  refine⟨λ_=>?_,λh0=>⟨λX=>by rw[h0]at X;simp at X,λ_=>bQ ao cY⟩⟩;refine(fI (aB (((ch.ext ay).lZ (a0 _ V V)))) _).jY.bL (D.cU ao) (u V) λc aS al _=>⟨_,O,λ_=>?_,λ_=>⟨λ_=>cQ aS al,λ_=>bQ aS al⟩⟩;intro dF;have cz:H.bz≠s.bz:=ac.Qf aA cD;have d0:=al.aQ;refine GI.nE (aA.ext al) ((a2.J al).fz []) (oh L.2) λdH dG b8 b7 bk bf=>⟨λl b=>?_,aT V _ _ _ _ ⟨b7.ext,⟨_,(ac.ext kd.aP al).re kd.aP (Y:=[s.bz]) ⟨bk.1,λl b hn=>bf l b (sp hn)⟩ bO (sp cz) λl b=>?_,I.1,I.2.1,V⟩,⟨_,(ab.ext al).lZ (bf _ ?_ bd),eX⟩,⟨_,b8,?_,?_⟩,?_⟩⟩
  .have:=u (j:=aS) V l b;rw[bf l this (by simp at b;omega),(D.push aS _).bG l this]
  .simp only[eT,iA,bo]at b⊢;rcases b with h|h|h
   .exact bC (bR (bC h))
   .rcases bk.2 with q|q
    .exact bC (bC (h.trans q))
    .exact bR V
   .exact bC (bR (bR h))
  .have:=ab.cJ;omega
  .have:=L.2;simp;omega
  .intro z B;rcases bU.1 B with B|B
   .exact a8 z B
   .simp at B;omega
  .have:=ab.cJ;rcases bk.2 with q|q<;>omega
 .have aa:k=bA.length:=V;subst aa;rw[fw]at*;have L:∀(j:bg)(H:E)(u:au),D t j->GS (o.bz::v.bz::p.size::e) t j H u->WL U g.length True aj.length u->dc u=dc bA->sw u<=1100*sw bA+2->
   let z:bg:=aV j p.size 0 [.s H,.i w]
   ∃s c,Value.agg #[H.v,vi w]=.agg #[s.v,vi c.bQ]/\iN (dB e z) s c.bA/\(WB U g.length True aj.length c/\c.w+1050<=1100*(Bk.mk bA w).w)/\D m z:=by
   intro j H u r y X h2 h3 z
   have ab:=jS u
   have:=y.cJ
   refine⟨H,.mk u w,O,iN.le (dW bO λl b=>aX _ b) (y.re kd.aP (S':=p.size::e) (Y:=[]) nP bO bO (λl b=>bC (aX _ (aX _ b)))|>.cr kd.aP ae cD eX),⟨WB.of X (by rw[h2];exact a9.2),?_⟩,(F.J r).aV V _ _⟩
   rw[Bk.vu,Bk.vu];omega
  have mM:∀(j:bg),D Q j->bK dO 228 [vi (14:Int),vi w] j λrv C=>gS [p.size,m0.size,m.size] j C/\∃aE:Int,∃aF:Int,∃aG:Int,∃aH:E,∃aI:E,rv=.agg #[vi aE,vi aF,vi aG,aH.v,aI.v]/\
   let M2:bg:=C.push (.cells (db [.i aE,.i aF,.i aG,.s aH,.s aI]) jQ)
   mj M2 jQ [.i (0:Int),.i (0:Int),.i (0:Int),.s E.nil,.s E.nil] 72 A (E.mk C.size 0 1 1) λN J=>gS [p.size,m0.size,m.size] M2 J/\
    let z:bg:=aV J p.size 0 [.s N,.i w]
    ∃s c,Value.agg #[N.v,vi w]=.agg #[s.v,vi c.bQ]/\iN (dB e z) s c.bA/\(WB U g.length True aj.length c/\c.w+1050<=1100*(Bk.mk bA w).w)/\D m z:=by
   intro j r
   refine(lK (c:=A.bz::o.bz::v.bz::p.size::e) (λl b=>?_) 14 w).aP λrv C⟨a,kk,q,X,h2,x1⟩=>?_
   .have:=r.aQ
    simp at b
    rcases b with h|h|h|h|h
    .omega
    .omega
    .omega
    .have:=x6.lt (K p.size bO);omega
    .have:=hS _ h;have:=v6.aQ;omega
   subst q
   have ai:=x6.J (r.J x1)
   refine⟨D.sN (x6.J r) ai K,_,_,_,_,_,O,?_⟩
   refine GS.nE (x:=iX 14 w) (gs.ext kd.aP (r.J x1)) (ai.fz []) X h2 (oh (jS P)) λr' J y aM az aU=>⟨D.sN (ai.bZ _) aM.ext K,L J r' _ aM.ext y (aO.Dh (Iv V (by rw[Z];exact a9.2))) ?_ ?_⟩
   .rw[fg,Z];simp[nM,dn,iX,tv]
   .rw[gF];simp[qu,eN.pP,iX];omega
  let⟨az,hz⟩:=dV li w.toNat;refine⟨V,V,az,co.bt hz,λ_=>?_,λ_=>L Q A P x6 gs aO Z V⟩;refine(fI (bF.ext v6) w).jY.bL x6 K λc m7 I u7=>⟨_,O,λ_=>mM m7 I,λ_=>?_⟩;exact(fI (cq.ext I) w).jY.bL u7 K λc R x8 T=>⟨_,O,λ_=>mM R (I.J x8),λ_=>L R A P T ((gs.ext kd.aP I).ext kd.aP x8) aO Z V⟩
end
@[grind cases] structure ae8 (ds:af) (nr:Nat) (v lm:ab) (b:Bk):Prop where
 bI:∀o∈lm,0<=o/\o<(v.length:Int)
 lN:lm.length+5*b.w<=1000000
 vN:v.length+5*b.w<=1000000
 wb:WB ds nr False v.length b
def adz(a:af)(d:List j7)(b:Bk):Prop:=∀(S:ad)(m:bg),(∀c∈S,c<m.size)->∀(f r h t g:E)(v c:ab),iF m f r a d->ba m h v->iN m t b.bA->ba m g c->ae8 a d.length v c b->
 rG 246 [.agg #[f.v,r.v],h.v,.agg #[t.v,vi b.bQ],g.v] m S λe=>WB a d.length True v.length e/\e.w+20<=40*b.w+2*c.length
def OB{h:ad}{m:bg}(hS:∀c∈h,c<m.size){ag ak aq aI F:E}{A:af}{W:List j7}{v:ab}{x:eN}(hn:iF m ag ak A W)(hv:ba m aq v)(ha:ba m aI x.aO)(hk:rQ m F x.dv)
 (vN:v.length+5*x.w<=1000000)(aA:WS A W.length False v.length x)(ih:∀k∈x.dv,adz A W k):
 Pl 267 [.agg #[ag.v,ak.v],aq.v,tp x aI F] m h λx'=>WS A W.length True v.length x'/\x'.op=x.op/\x'.w<=1+x.aO.length+40*bw x.dv:=by
 apply Hl
 simp -zeta only[dR]
 intro w e l aP
 let⟨H,N,s0,s1,s2⟩:=um (a:=w) (c:=e) (d:=l) O O O
 have aW:=px aP
 have gk:=GB.bF (e:=e.size::h) l
 have bi:=ha.aT;have a6:=hk.aT;have hw:=eN.pP x;have a9:=hv.aT
 have aK:∀c∈e.size::h,c<l.size:=by grind [dE,D.aQ]
 refine(kQ (e:=[l.size]) (by simp[aP]) (hn.le (H.J aW).le).bS hn.dk x.cE).bL aW N λc cl m4 d aR x4 u4=>⟨_,O,?_⟩
 subst aR
 have bp:=d.aT
 refine gL (a6▸hk.kK) (λj s M=>Fz [l.size] m4 M/\(s.bz=l.size\/m4.size<=s.bz)/\∃p,GB (e.size::h) l M s p/\p.length=j/\(∀(aa:Nat)(k:Bk),p[aa]? =some k->WB A W.length True (v.length+Gc A x.op x.cE aa) k)/\bw p<=40*bw (x.dv.take j)) ⟨nP,bC O,[],gk.ext vx.aP x4,O,bO,bO⟩ ?_
 rintro j s m5 aH μ hj ⟨f5,a7,p,u,bq,a_,aL⟩ bc
 have Q:=abK u4 f5 bY
 have hy:=u.cJ
 refine dit (λB=>?_) λB=>?_
 .intro m6
  have T:=px m6
  have u6:=Q.J T
  let⟨k,Z⟩:=dV x.dv j
  have bm:=Be Z
  have bo:=yP Z
  have bj:=V0 hn.dk x.op x.cE j
  have bl:=xf x.dv
  refine⟨λaJ M=>D m5 M/\∃t,ba M aJ t/\t.length=Gc A x.op x.cE j,⟨λh8=>?_,λh8=>?_⟩,?_⟩
  .simp only[bP]at h8
   have g:=(aA.iY.lY h8).1
   let⟨y,a⟩:=dV (cT A x.cE) j
   refine⟨V,V,y,(iO.1 ((d.le ((f5.cg T).fj bO)).bt a)).2,?_⟩
   refine(fV ((hn.le (H.J u6).le).bS.le EB) hn.dk y).bL u6 N λaJ t m7 hf aR f i=>⟨_,O,T.J f,t,hf.le fN,?_⟩
   grind [Px]
  .simp only[bd]at h8
   exact⟨T,[],pX,(Py h8).symm⟩
  rintro fs m8 ⟨I,t,hf,aN⟩
  have e8:(aq.len:Int)=((v.length:Nat):Int):=by rw[a9]
  rw[e8]
  refine(vQ bO (hf.le EB) v.length V).bL (Q.J I) N λmi ml y gm qm J R=>⟨_,O,?_⟩
  let⟨aF,hs,e0,e1⟩:=hk.bt Z
  have v9:=H.J R
  refine⟨V,V,_,v9.aS e0,_,v9.aS e1,?_⟩
  have g9:=u.ext vx.aP (I.J J)
  have aO:∀{M:bg},D y M->ba M mi ml:=λB=>((gm.cr bO (oh qm.2)).le fN).ext B
  have E5:∀{M f:bg},D l M->D l f->∀{aQ:Prop},aQ->aS f F.bz (F.off+Int.toNat (j:Int)*2)=aS M F.bz (F.off+Int.toNat (j:Int)*2)/\aS f F.bz (F.off+Int.toNat (j:Int)*2+1)=aS M F.bz (F.off+Int.toNat (j:Int)*2+1)/\
   aS f w.size 4=aS M w.size 4/\aS f m.size 0=aS M m.size 0/\aS f m.size 1=aS M m.size 1/\aQ:=λ{M f} B h' _ hp=>by
   have av:∀k,k<l.size->∀P,aS f k P=aS M k P:=by grind [bE,D.bG]
   exact⟨((H.J h').aS e0).trans ((H.J B).aS e0).symm,((H.J h').aS e1).trans ((H.J B).aS e1).symm,av _ V _,av _ V _,av _ V _,hp⟩
  have az:∀{M:bg},D m5 M->∀c∈s.bz::e.size::h,c<M.size:=λB c d=>by
   grind [D.aQ]
  have L:∀{M:bg}{a:Nat},D m5 M->a<M.size->∀c∈[a,e.size,w.size,m.size],c<M.size:=λB Z c d=>by
   grind [D.J,D.lt]
  have tail:∀(M:bg)(a:Nat)(G:E)(g:Bk),GB (a::e.size::h) l M s p->D m5 M->D y M->y.size<=a->a<M.size->iN (dB (a::s.bz::e.size::h) M) G g.bA->WB A W.length True (v.length+t.length) g/\g.w+20<=40*k.w+2*ml.length->
   let i:=aV M a 0 [.s G,.i g.bQ]
   bK dO 264 [vi 14,mi.v] i λrv n=>gS [a,e.size,w.size,m.size] i n/\∃ac:E,rv=ac.v/\aS n a 1=aS i a 1/\aS n a 0=aS i a 0/\
    mj n jQ [.i 0,.i 0,.i 0,.s E.nil,.s E.nil] 72 ac G λap z=>gS [a,e.size,w.size,m.size] n z/\aS z a 1=aS n a 1/\
     let X:=z.push (.cells (db [.s ap,.i g.bQ]) fm)
     mj X fm [.s E.nil,.i 0] 32 s (E.mk z.size 0 1 1) λae K=>gS [a,e.size,w.size,m.size] X K/\aH ae (eJ ((j:Int)+1)) K/\μ ae (eJ ((j:Int)+1)) K<μ s j m5:=by
   intro M a G g u C bb a5 bk ai hq i
   have z1:i.size=M.size:=bD _ _ _ _
   have z9:=(I.J J).aQ
   have aY:D y i:=bb.aV a5 _ _
   have U:=(I.J J).J aY
   have bs:s.bz≠a:=V
   have g1:GB (e.size::h) l i s p:=u.re vx.aP (Y:=[a]) ((Fz.cU [a] M).aV (bC bO) _ _) bO cB λc d=>bC (aX _ d)
   have a8:iN (dB (s.bz::e.size::h) i) G g.bA:=ai.le (dW bO λc d=>aX _ d)
   have bn:=Bk.pP g;have aL:=jS g.bA
   refine(iR (az U) 14 (aO aY) V).bL (D.cU i) (L U V) λac _ n ay ah al _=>⟨_,O,bE (al.bG _ V) _,bE (al.bG _ V) _,?_⟩
   subst ah
   have z2:=al.aQ
   refine GS.lY ay (al.fz []) (a8.le (xl al ay.cJ.1)) cB λap z a1 a0 bv aT=>?_
   have am:=a0.ext
   have z3:=am.aQ
   have bt:=ay.cJ
   refine⟨λc d=>aT c (oh (L U V c d)) (oh (L U V c d)),bE (aT _ V V) _,?_⟩
   intro X
   have a3:=a1.cr kd.aP (az U) cD cB
   refine GB.nE (c:=.mk (ml.map (iX 14)++g.bA) g.bQ) (g1.ext vx.aP am) ((((Q.J U).J am)).fz []) a3 V λae K a2 bh bf be=>⟨λc d=>?_,bc V _ _ ⟨(f5.cg (U.J am)).Wr a7 bf.1 be,?_,_,a2,eX,λaa b2 q=>?_,?_⟩⟩
   .have:=L (U.J am) V c d
    grind [D.push,D.bG]
   .grind [Fz.cg,D.J,Fz.aQ]
   .rcases dJ aa p.length with o|o
    .grind [List.getElem?_append_left]
    .rw[dP o]at q
     have:aa -p.length=0:=by have:=br q;simp at this;omega
     rw[this]at q;simp at q;subst q
     have:aa=j:=V
     subst this
     rw[<-aN]
     refine WB.of ((vE V λP ho=>?_).fx ?_) ?_
     .grind
     .rw[nF V];exact hq.1.cy.1
     .rw[fg,nF V,eW];exact hq.1.cy.2
   .grind [sV,yO,Ea,Bk.vu,gF,uo]
  have aM:∀(M:bg)(ax:ad)(aw:aj),D y M->(∀c∈ax,c<M.size)->(∀s f,ba f s (v++t)->D M f->aw s.v f)->bK dO 215 [aq.v,fs.v] M λv m'=>gS ax M m'/\aw v m':=λM ax aw C L hK=>
   (iL bO ((hv.ext (v9.J C)).le EB) ((hf.ext (J.J C)).le EB) V).bL (D.cU M) L λs ll f u ah x _=>hK s f (by subst ah;exact(u.cr bO cB).le fN) x
  have bz:∀(M:bg)(S':ad)(o:E),(∀c∈S',c<M.size)->D y M->ba M o (v++t)->rG 246 [.agg #[ag.v,ak.v],o.v,.agg #[aF.v,vi k.bQ],mi.v] M S' λg=>WB A W.length True (v.length+t.length) g/\g.w+20<=40*k.w+2*ml.length:=by
   intro M S' o a4 C q;have hm:=v9.J C;have:=ih k (aZ Z) S' M a4 ag ak o aF mi (v++t) ml (hn.le hm.le) q (hs.le hm.le) (aO C) ⟨λP ho=>?_,V,eX,by simp;rw[aN];exact aA.dv j k Z⟩
   .simpa using this
   .grind
  have kH:∀(M:bg)(a:Nat)(o:E),GB (a::e.size::h) l M s p->D y M->y.size<=a->a<M.size->ba M o (v++t)->
   bK dO 246 [.agg #[ag.v,ak.v],o.v,.agg #[aF.v,vi k.bQ],mi.v] M λrv f=>gS [a,e.size,w.size,m.size] M f/\∃aD:E,∃aE:Int,rv=.agg #[aD.v,vi aE]/\
    let i:=aV f a 0 [.s aD,.i aE]
    bK dO 264 [vi 14,mi.v] i λrv n=>gS [a,e.size,w.size,m.size] i n/\∃ac:E,rv=ac.v/\aS n a 1=aS i a 1/\aS n a 0=aS i a 0/\
     mj n jQ [.i 0,.i 0,.i 0,.s E.nil,.s E.nil] 72 ac aD λap z=>gS [a,e.size,w.size,m.size] n z/\aS z a 1=aS n a 1/\
      let X:=z.push (.cells (db [.s ap,.i aE]) fm)
      mj X fm [.s E.nil,.i 0] 32 s (E.mk z.size 0 1 1) λae K=>gS [a,e.size,w.size,m.size] X K/\aH ae (eJ ((j:Int)+1)) K/\μ ae (eJ ((j:Int)+1)) K<μ s j m5:=by
   intro M a o u C h1 h2 h3
   have x5:=(I.J J).J C
   have z9:=(I.J J).aQ
   refine(bz M (a::s.bz::e.size::h) o (λc d=>?_) C h3).bL (D.cU M) (L x5 h2) λG g f ai hq an _=>⟨_,_,O,tail f a G g (u.ext vx.aP an) (x5.J an) (C.J an) h1 (an.lt h2) ai hq⟩
   grind
  have aC:∀(M:bg)(P:Obj),GB (e.size::h) l M s p->GB (M.size::e.size::h) l (M.push P) s p:=λM P u=>
   u.re vx.aP ((D.push M P).fz []) bO bO λc d=>by
    grind
  refine⟨aM y _ _ cY (λc d=>R.lt (N c d)) λo aB q r=>⟨_,O,E5 R (R.J r) ⟨?_,?_⟩⟩,?_⟩
  .have ao:=R.J r
   have AZ:=r.aQ
   refine(bz aB (s.bz::e.size::h) o (az ((I.J J).J r)) r q).bL ao N λG g au ai hq ar aU=>⟨_,_,O,?_⟩
   intro aG
   have bu:=ar.aQ
   exact E5 aU (aU.bZ _) (tail aG au.size G g (aC au _ ((g9.ext vx.aP r).ext vx.aP ar)) ((((I.J J).J r).J ar).bZ _) ((r.J ar).bZ _) V (by simp[aG]) (ai.le (xl (D.push au _) bY)) hq)
  .intro ar
   have ao:=R.J r
   have AZ:=r.aQ
   exact E5 ao (ao.bZ _) (kH ar aB.size o (aC aB _ (g9.ext vx.aP r)) (r.bZ _) V (by simp[ar]) (q.ext (D.push _ _)))
  .intro ao
   have ar:=px ao
   have aG:=R.J ar
   refine E5 R aG (aM ao _ _ ar (L ((I.J J).J ar) (by simp[ao])) λo aU q au=>⟨_,O,E5 aG (aG.J au) ?_⟩)
   exact kH aU y.size o ((aC y _ g9).ext vx.aP au) (ar.J au) bY (au.lt (by simp[ao])) q
 .have f:p.length=x.dv.length:=V
  rw[eQ V]at aL
  refine(dC (e.size::h) (ha.ext (H.J Q)) V).bL Q N λg i m6 a ah T u6=>⟨_,O,bE (T.bG _ (Q.lt (N _ bO))) _,bE (T.bG _ (Q.lt (N _ bO))) _,?_⟩
  subst ah
  intro m7
  refine⟨g,s,⟨x.op,x.cE,0,x.aO,p⟩,O,(a.cr (λc d=>cw (aK c d) Q.aQ) V).le (dW bO λc d=>aX _ d),rQ.le (dW bO λc d=>aX _ d) ((u.ext vx.aP T).cr vx.aP aK cD cB),⟨aA.US (λB=>B.elim) ⟨V,V⟩ f a_,O,?_⟩,(H.J u6).aV V _ _⟩
  grind [eN.pP]
@[grind cases] structure LB (ds:af) (nr:Nat) (S:ad) (m2 M:bg) (v lm:ab) (bA:au) (k:Nat) (st inn ow:E):Prop where
 x:D m2 M
 hs:∃l,GS (inn.bz::ow.bz::S) m2 M st l/\WL ds nr True v.length l/\dc l=dc (bA.take k)/\sw l+2*k<=40*sw (bA.take k)
 hi:∃l,GI S m2 M inn l/\l.length=v.length+dc (bA.take k)
 ho:∃l,GI S m2 M ow l/\l.length<=lm.length+k/\∀o∈l,0<=o/\o<((v.length+dc (bA.take k):Nat):Int)
 ne:inn.bz≠ow.bz
def MI{B:af}{C:List j7}:∀i:Bk,adz B C i:=by
 refine Bk.ind ?_;intro bA u ih f z hS aO bv cd cc b_ F lm hn hv hs bb hp;have bl:=hp.wb.cy;simp only[Bk.mV,Bk.lV]at*;have lN:=hp.lN;have vN:=hp.vN;rw[(Bk.vu bA u)]at lN vN;apply Fk;simp -zeta only[dR];intro h b g aE;let⟨A,hl,s0,s1,s2⟩:=um (a:=h) (c:=b) (d:=g) O O O;obtain⟨ar,s3⟩:=pu aE;have ay:∀aa,GS aa g aE (.mk g.size 0 0 0) []:=by grind [GS.bF]
 have bj:=hs.aT;have bk:=FU bA;have bT:=jS bA;refine(dC f (hv.ext (A.J ar)) V).bL ar hl λd _ m4 p s x4 u4=>⟨_,O,?_⟩;subst s;refine(dC f (bb.ext (A.J u4)) V).bL u4 hl λe _ m5 y s x5 u5=>⟨_,O,?_⟩;subst s;have aC:=p.cJ;have bp:=y.cJ;refine Xx (n:=bA.length) (bj▸hs.kK) (λk l d e M=>LB B C.length (b.size::f) g M F lm bA k l d e) ⟨u5,⟨[],((ay _).ext kd.aP x4).ext kd.aP x5,WL.gN,O,bO⟩,⟨F,((p.ext x5).cW (λ_ q=>q) ar.aQ).jY,bO⟩,⟨lm,(y.cW (λ_ q=>q) u4.aQ).jY,V,sp hp.bI⟩,V⟩ ?_;clear p y aC bp ay;rintro k l d e r aL μ hk ⟨Z,⟨I,gs,aj,ae,bW⟩,⟨Q,p,ah⟩,⟨lo,y,bF,bN⟩,bd⟩ bt
 have U:=A.J Z;have bJ:=p.aT cD;have bG:=xh (bA.take k);have bM:=RS k bA;have ai:∀c∈b.size::f,c<g.size:=by grind [dE,D.aQ]
 have b6:=gs.cJ;have aC:=p.cJ;have b5:=y.cJ;have bV:=jS (bA.take k);have bL:k<=sw (bA.take k):=by grind [List.length_take]
 have bP:=jS I;have z6:=Z.aQ;have ag:∀{M:bg},GI (b.size::f) g M d Q->ba M d Q:=λm=>(m.cr ai V).le fN;have az:∀{M:bg},GI (b.size::f) g M e lo->ba M e lo:=λm=>(m.cr ai V).le fN;have G:∀{M:bg}{aa:ad},r.size<=M.size->(∀c∈aa,c<M.size)->∀c∈aa++b.size::f,c<M.size:=λq hb c a=>by
  grind
 have a6:∀{M:bg},D r M->∀c∈[b.size,h.size,z.size],c<M.size:=by grind [D.J,D.lt]
 have be:l.bz≠d.bz:=by grind [Gr.Qf]
 have aB:l.bz≠e.bz:=by grind [Gr.Qf]
 refine dit (λq=>?_) λq=>?_
 .let⟨W,t⟩:=dV bA k;let⟨aN,kk,ha,aA,g0,g1,g2,g3,g4⟩:=hs.bt t;refine⟨V,V,_,U.aS g0,_,U.aS g1,_,U.aS g2,_,U.aS g3,_,U.aS g4,?_⟩;intro m7 T;have x8:D r T:=by grind [D.push,D.aV]
  have s8:T.size=r.size+1:=by grind [bD]
  have u8:=Z.J x8;have w:∀{M:bg},T.size<=M.size->∀i∈[r.size,b.size,h.size,z.size],i<M.size:=λq i hb=>by
   grind [D.lt]
  have b2:=ub t;have b0:=uL t;have b1:=eN.pP W;have P:WS B C.length False Q.length W:=by rw[ah];exact bl.1 k W t
  have bH:=dn1 P;have bX:=bk (k+1);have N:∀{M:bg},D g M->At M aO bv aN kk B C W:=λq=>⟨hn.le (A.J q).le,ha.ext (A.J q),P.iY.jF⟩;refine(sB (N u8).Wy (ag (p.ext x8)) (N u8).aO (aA.le (A.J u8).le) V λi _=>rl i).bL (D.cU T) (w bY) λty m9 x9 _=>⟨_,O,?_⟩;have X9:=u8.J x9;have z9:=x9.aQ;refine(Dl (b:=[]) bO (N X9) (ag ((p.ext x8).ext x9)) P.iY.aO V).bL (D.cU m9) (w V) λdu L bq a1 aF ap _=>⟨_,O,?_⟩;have bz:=aF.2;have AZ:=ap.aQ;refine(iR (c:=[l.bz,d.bz,e.bz]++b.size::f) (G V eX) 14 ((a1.cr bO V).le fN) V).bL (D.cU bq) (w V) λcb _ ak aU s aq _=>⟨_,O,?_⟩;subst s;have ce:=aq.aQ;have av:D r ak:=(((x8.J x9).J ap).J aq);refine GS.lY (gs.ext kd.aP av) (((X9.J ap).J aq).fz []) (aU.cr kd.aP (G (aa:=[l.bz,d.bz,e.bz]) V eX) cD cB) cB λan aD aw aP aI al=>⟨λc a=>al c (w V c a) ?_,?_⟩
  .simp at a;omega
  have ac:D g aD:=aP.ext;have ax:=(p.ext av).lZ (al _ V be.symm);have a3:=(y.ext av).lZ (al _ V aB.symm);have bR:an.bz=l.bz\/ak.size<=an.bz:=aI.2;have b3:=aw.cJ;have cf:=aI.1;refine(OB (h:=[an.bz,d.bz,e.bz]++b.size::f) (G V eX) (N ac).Wy (ag ax) (N ac).aO (aA.le (A.J ac).le) V P (ih W (aZ t))).bL (D.cU aD) (w V) λca ck K b7 a8 a9 bu X _=>⟨_,_,_,_,_,O,?_⟩;let⟨bm,bQ,bZ⟩:=bu;have cg:=X.aQ;refine GS.nE (x:=K) (aw.ext kd.aP X) ((ac.J X).fz []) a8 a9 eX λv br aW aQ aJ aG=>⟨λc a=>?_,?_⟩
  .grind [D.push,D.bG]
  have aM:D g br:=aQ.ext;have ch:=aJ.1;have a2:=(ax.ext X).lZ (aG _ V V);have a4:=(a3.ext X).lZ (aG _ V V);have bS:v.bz=l.bz\/ak.size<=v.bz:=by have:=aJ.2;omega
  have B1:WL B C.length True F.length (I++L.map (iX 14)++[K])/\dc (I++L.map (iX 14)++[K])=dc (bA.take (k+1))/\sw (I++L.map (iX 14)++[K])+2*(k+1)<=40*sw (bA.take (k+1)):=by
   have bI:dn K=1:=by grind [dn]
   have d1:dc (L.map (iX 14))=0:=by grind [nF]
   refine⟨((aj.fx (vE V λo j=>?_)).Dh ?_),?_,?_⟩
   .rw[ae,<-ah];exact P.iY.aO o (aF.1 o j)
   .rw[fg,d1,ae,ui,<-ah];exact bm
   .grind [fg,nM,xk]
   .grind [gF,uo,qu,zL]
  have a_:∀o∈lo,0<=o/\o<((F.length+dc (bA.take (k+1)):Nat):Int):=λo j=>by
   grind
  have a5:∀(M:bg)(J:E)(R:ab),D g M->T.size<=M.size->GS (d.bz::J.bz::b.size::f) g M v (I++L.map (iX 14)++[K])->GI (b.size::f) g M d Q->GI (b.size::f) g M J R->d.bz≠J.bz->R.length<=lm.length+(k+1)->(∀o∈R,0<=o/\o<((F.length+dc (bA.take (k+1)):Nat):Int))->
   mj (M.push (.cells (db [.i ty]) bB)) bB [.i (0:Int)] 8 d (E.mk M.size 0 1 1) λao M'=>gS [r.size,b.size,h.size,z.size] (M.push (.cells (db [.i ty]) bB)) M'/\aL v ao J (eJ ((k:Int)+(1:Int))) M'/\μ v ao J (eJ ((k:Int)+(1:Int))) M'<μ l d e k r:=by
   intro M J R t H m gI gO bc a7 bi
   have b4:=gI.cJ;have bn:=gO.cJ
   have bh:v.bz≠d.bz:=by grind [Gr.Qf]
   refine GI.nE gI (t.fz []) V λao M' a0 aT bx am=>⟨λc a=>?_,bt V _ _ _ _ ⟨aT.ext,⟨_,m.re kd.aP (Y:=[d.bz]) ⟨bx.1,λc a hn=>am c a cB⟩ bO (sp bh) (λc a=>?_),B1.1,B1.2.1,B1.2.2⟩,⟨_,a0,eX⟩,⟨R,gO.lZ (am _ bn.2 bc.symm),a7,bi⟩,?_⟩⟩
   .have:=w H c a
    rw[am c this (by simp at a;omega),(D.push M _).bG c this]
   .grind
   .grind
  refine⟨λ_=>?_,λ_=>?_⟩
  .intro b8;have bf:v.bz≠e.bz:=by grind [Gr.Qf]
   refine GI.nE a4 (aM.fz []) V λbw bs aY aR aK aH=>⟨λc a=>?_,?_⟩
   .grind [D.push,D.bG]
   intro b9;have ci:=aK.1;refine a5 bs bw _ aR.ext V (aW.re kd.aP (Y:=[e.bz]) ⟨aK.1,λc a hn=>aH c a cB⟩ bO (sp bf) λc a=>?_) (a2.lZ (aH _ V bd)) aY ?_ eX ?_
   .simp only[bo]at a⊢;grind
   .grind
   .intro o j;rcases bU.1 j with j|j
    .exact a_ o j
    .simp at j;omega
  grind
 .have am:k=bA.length:=V;subst am;rw[fw]at*;have ac:∀(M:bg)(L:E)(J:au),D g M->r.size<=M.size->GS (d.bz::e.bz::b.size::f) g M L J->ba M e lo->WL B C.length True F.length J->dc J=dc bA->sw J+2*bA.length<=40*sw bA+2->
   bK dO 264 [vi (15:Int),e.v] M λrv w=>gS [b.size,h.size,z.size] M w/\∃W:E,rv=W.v/\aS w h.size 1=aS M h.size 1/\
    mj w jQ [.i (0:Int),.i (0:Int),.i (0:Int),.s E.nil,.s E.nil] 72 L W λR N=>gS [b.size,h.size,z.size] w N/\aS N h.size 1=aS w h.size 1/\
     let K:bg:=aV N b.size 0 [.s R,.i u]
     ∃ak i,Value.agg #[R.v,vi u]=.agg #[ak.v,vi i.bQ]/\iN (dB f K) ak i.bA/\(WB B C.length True F.length i/\i.w+20<=40*(Bk.mk bA u).w+2*lm.length)/\D z K:=by
   intro M L J t H m j aq av ax
   have hy:=m.cJ
   have aw:=jS J
   have ap:h.size<M.size:=by grind [D.lt]
   refine(iR (c:=[L.bz,d.bz,e.bz]++b.size::f) (G H cB) 15 j V).bL t hl λW _ w al s v u1=>⟨_,O,bE (v.bG _ ap) _,?_⟩
   subst s
   have z1:=v.aQ
   have an:∀c∈[b.size,h.size,z.size],c<w.size:=by grind [D.lt]
   have ao:∀c∈[b.size,h.size,z.size],c<g.size:=hl
   refine GS.lY (m.ext kd.aP v) (u1.fz []) (al.cr kd.aP (G (aa:=[L.bz,d.bz,e.bz]) H eX) cD cB) cB λR N g2 T X P=>⟨λc a=>P c (an c a) (oh (ao c a)),bE (P _ V V) _,?_⟩
   intro K
   refine⟨R,.mk _ u,O,iN.le (dW bO λc a=>aX _ a) ((g2.re kd.aP (S':=b.size::f) (Y:=[]) nP bO bO (λc a=>bC (aX _ (aX _ a)))).cr kd.aP ai cD eX),⟨WB.of (aq.fx (vE V λo j=>?_)) ?_,?_⟩,(A.J T.ext).aV V _ _⟩
   .grind
   .grind [fg,nF]
   .grind [Bk.vu,gF,uo]
  let⟨X,H⟩:=dV Q u.toNat;refine⟨V,V,X,(ag p).bt H,λ_=>?_,λ_=>ac r l I Z bY gs (az y) aj ae V⟩;refine(lK (c:=[l.bz,d.bz,e.bz]++b.size::f) (G bY cB) 14 u).aP λrv w⟨pa,pk,s,h1,h2,v⟩=>?_;subst s;refine⟨v.eV (a6 cY),_,_,_,_,_,O,?_⟩;have z1:=v.aQ;refine GS.nE (x:=iX 14 u) (gs.ext kd.aP v) ((Z.J v).fz []) h1 h2 V λr' K m T X P=>⟨λc a=>?_,ac K r' _ T.ext V m (az ((y.ext v).lZ (P _ V aB.symm))) (aj.Dh (Iv V cB)) ?_ ?_⟩
  .grind [D.push,D.bG]
  .rw[fg,ae];simp[nM,dn,iX,tv]
  .rw[gF,qu,zL];have h5:(iX 14 u).w=2:=by rw[eN.pP];rfl
   omega
section
variable{b:ad}{f d j:bg}{p t l:E}{q:j7}{s:Int}{g h k:Nat}
def qD.aP:sE 1 qD:=⟨λh=>qD.le h _ _,λ⟨_,h,_⟩=>by rw[h];rfl⟩
theorem lg.aP:sE 3 lg:=⟨λh=>lg.le h _ _,λ⟨_,h,_⟩=>by rw[h];rfl⟩
def jK(v:∀c∈b,c<f.size){bS:E}{i:af}(hd:dA f bS i)(w:eR i):bK dO 188 [bS.v] f λU B=>∃s,U=s.v/\dA (dB b B) s i/\D f B:=by
 apply EW;intro N;have ac:=hd.aT;have ab:=w.aT;have u:Gr b f N mZ 3 lg (.mk f.size 0 0 0) []:=Gr.bF b bY;refine gL (n:=i.length) V (λq s M=>D f M/\Gr b f M mZ 3 lg s (i.take q)) ⟨D.push _ _,u⟩ ?_;rintro q s d Y μ hk ⟨r,m⟩ S
 have hy:=m.cJ;refine dit (λl=>?_) λl=>?_
 .let⟨g,o⟩:=dV i q;let⟨z,A,u,g1,g2⟩:=hd.bt o;have ad:=A.aT;have aa:=nK w o;intro P;have k:Gr (s.bz::b) d P tc 1 qD (.mk d.size 0 0 0) []:=Gr.bF _ bY;refine gL (n:=g.eB.length) V (λy c M=>D d M/\Gr (s.bz::b) d M tc 1 qD c (g.eB.take y)) ⟨D.push _ _,k⟩ ?_;rintro y c C Z μ2 hj ⟨t,k⟩ R;have e:=r.J t;refine⟨V,V,z,e.aS g2,dit (λL=>?_) λL=>?_⟩
  .let⟨G,x⟩:=dV g.eB y;let⟨W,M,J⟩:=A.bt x;have ae:G.length<=3:=(((w.eS q g o).jw V).2.2.2 G (aZ x)).1;refine⟨V,V,z,e.aS g2,V,V,W,e.aS J,?_⟩;have ag:=k.cJ;refine(dC (c.bz::s.bz::b) (M.ext e) V).cg λX _ j K h F=>⟨_,O,?_⟩;subst h;intro Q;refine Gr.nE (h:=[.s .nil]) qD.aP cD (k.ext qD.aP F) ((t.J F).fz []) ⟨X,O,K.cr (λh p=>?_) V⟩ eX λT m7 I H _ _=>R V _ _ ⟨H.ext,by rw[bX x];exact I⟩;have:=t.aQ;simp only[bo]at p;rcases p with l|l|l
   .omega
   .omega
   .have:=v h l;have:=r.aQ;omega
  .refine⟨V,V,_,e.aS u,V,V,_,e.aS g1,?_⟩;intro j;rw[eQ V]at k;have F:fX (dB (s.bz::b) C) 1 (qD (dB (s.bz::b) C)) c g.eB:=k.cr qD.aP (λh p=>by
    rcases bo.1 p with x|x
    .omega
    .have:=v h x;have:=r.aQ;omega) cD V
   refine Gr.nE (h:=[.i 0,.i 0,.s .nil]) (m:=g) lg.aP cD (m.ext lg.aP t) (e.fz []) ⟨c,O,F⟩ eX λT Q x p _ _=>S V _ _ ⟨p.ext,by rw[bX o];exact x⟩
 .rw[eQ V]at m;exact⟨s,O,m.cr lg.aP v cD V,r⟩
def CD(I:∀g∈b,g<f.size){B:E}{b1:Int}(J:ba f p q.aY)(K:ba f t q.df)(u:q.aY.length<=100/\q.df.length<=100):
 bK dO 230 [.agg #[p.v,t.v,vi q.bQ,B.v,vi s],.agg #[l.v,vi b1]] f λP x=>∃k m,P=.agg #[k.v,m.v,vi q.bQ,l.v,vi b1]/\ba (dB b x) k q.aY/\ba (dB b x) m q.df/\D f x:=by
 apply HH
 simp -zeta only[dR]
 intro L i d
 let⟨r,w,S,T,U⟩:=um (a:=L) (c:=i) (d:=d) O O O
 clear_value d
 have z:∀g∈i.size::b,g<d.size:=dE I r.aQ (w _ bO)
 have c:∀{M y:bg},D d M->D d y->∀e,e<d.size->∀o,aS y e o=aS M e o:=λG H e u o=>bE (by rw[H.bG e u,G.bG e u]) o
 refine(dC (i.size::b) (J.ext r) V).bL (D.cU d) w λk _ R C h a _=>⟨_,O,c cY a _ V _,c cY a _ V _,c cY a _ V _,c cY a _ V _,?_⟩
 subst h
 refine(dC (i.size::b) (K.ext (r.J a)) V).bL a w λm _ N F h Q n=>⟨_,O,c a n _ V _,c a n _ V _,c a n _ V _,?_⟩
 subst h
 intro j
 have A:Le (dB (i.size::b) N) (dB b j):=dW bO λg v=>aX _ v
 exact⟨k,m,O,((C.cr z V).le Q.fj).le A,(F.cr (λg v=>a.lt (z g v)) V).le A,(r.J n).aV V _ _⟩
abbrev GR(b:ad)(a f:bg)(s:E)(l:List j7):Prop:=Gr b a f mP 5 lz s l
def Ao{L:ad}{m M:bg}{v f:E}{x:List j7}{r:Bk}{J:E}{K:bg->Prop}(U:∀c∈b,c<m.size)(w:∀c∈L,c<M.size/\c≠g/\c≠f.bz)(hx:D m M)(y:GR (g::b) m M f x)
 (z:dF M g qU [.s v,.s f])(Y:m.size<=g)(Z:ba M p q.aY)(ht:ba M t q.df)(aa:iN (dB (f.bz::g::b) M) l r.bA)(W:q.aY.length<=100/\q.df.length<=100)(hl:x.length<=100)
 (T:∀u d,GR (g::b) m d u (x++[⟨q.aY,q.df,q.bQ,r⟩])->dF d g qU [.s v,.s u]->D m d->K d):
 bK dO 230 [.agg #[p.v,t.v,vi q.bQ,J.v,vi s],.agg #[l.v,vi r.bQ]] M λH k=>gS L M k/\∃A:E,∃B:E,∃C:Int,∃F:E,∃G:Int,H=.agg #[A.v,B.v,vi C,F.v,vi G]/\aS k g 1=aS M g 1/\
  let n:bg:=k.push (.cells (db [.s A,.s B,.i C,.s F,.i G]) mP)
  aS n g 1=aS k g 1/\
  mj n mP [.s E.nil,.s E.nil,.i (0:Int),.s E.nil,.i (0:Int)] 88 f (E.mk k.size 0 1 1) λab o=>gS L n o/\jb o g 1 1/\
   let d:bg:=aV o g 1 [.s ab]
   gS L o d/\K d:=by
 have hy:=y.cJ
 have X:=z.lt
 refine(CD (b:=f.bz::g::b) (λc e=>?_) Z ht W).aP λH k⟨p',t',h,Q,R,j⟩=>?_
 .simp only[bo]at e
  rcases e with h|h|h
  .omega
  .omega
  .have:=U c h;omega
 subst h
 refine⟨j.eV λc e=>(w c e).1,_,_,_,_,_,O,bE (j.bG _ X) _,?_⟩
 intro n
 refine Gr.bV (h:=[.s .nil,.s .nil,.i 0,.s .nil,.i 0]) (j:=1) (o:=[.s v,.s f]) (v:=⟨q.aY,q.df,q.bQ,r⟩) lz.aP cD (y.ext lz.aP j) ((hx.J j).fz []) ⟨p',t',l,O,Q,R,aa.le j.fj⟩ V (z.ext j) bO cD ⟨Y,bO⟩ (λc e=>⟨j.lt (w c e).1,(w c e).2⟩) λu m' P I N z' q'=>T u m' P I N.ext
def om{β:Type}{a c:bg}{g:E}{i:Nat}{f:bg->ae->β->Prop}(s:sE i f)(p:a=d.push (.cells (db []) h))(q:c=a.push (.cells (db [.s E.nil,.s E.nil]) k))(l:j=aV c a.size 0 [.s g,.s (E.mk d.size 0 0 0)]):
 D d j/\dF j a.size k [.s g,.s (E.mk d.size 0 0 0)]/\Gr b d j h i f (.mk d.size 0 0 0) []/\a.size=d.size+1/\j.size=d.size+2:=by
 subst p
 have n:D (d.push (.cells (db []) h)) j:=by grind [D.push,D.aV]
 refine⟨(D.push d _).J n,?_,(Gr.bF b bY (b:=h) (c:=i) (R:=f)).ext s n,bO,by subst q l;simp[bD]⟩
 have t:dF c (d.push (.cells (db []) h)).size k [.s E.nil,.s E.nil]:=by grind [dF.push]
 rw[l]
 exact dF.aV (m:=c) (o:=0) (r:=[.s g,.s (.mk d.size 0 0 0)]) t
def nV{β:Type}{m b1 q:Nat}{o:bg->ae->β->Prop}{e z:E}{F:af}(G:sE m o)(hz:0<m)(X:k≠h)(hS:∀v∈b,v<f.size)(Q:f.size<=b1/\b1<d.size)(Y:D f d)(ac:g=d.size+1)
 (S:dA (dB (b1::b) d) e F)(hn:z.len=q)(ad:q<=1000)(Z:D d j)(N:dF j g k [.s e,.s (E.mk d.size 0 0 0)])(U:Gr (g::b1::b) d j h m o (.mk d.size 0 0 0) [])(w:Nat->β->Prop)
 {A:(Int->bg->Prop)->(Int->bg->Nat)->Int->bg->Prop}{R:E->E->bg->Prop}
 (P:∀C H l p,dA (dB b p) C F->fX (dB b p) m (o (dB b p)) H l->l.length=q->(∀(i:Nat)(x:β),l[i]? =some x->w i x)->D f p->R C H p)
 (L:∀(c:Nat)(M:bg)(s:E)(l:List β)(I:Int->bg->Prop)(μ:Int->bg->Nat),c<q->l.length=c->D d M->Gr (g::b1::b) d M h m o s l->dF M g k [.s e,.s s]->
  (∀t a x,Gr (g::b1::b) d a h m o t (l++[x])->dF a g k [.s e,.s t]->D d a->w c x->I (eJ ((c:Int)+1)) a/\μ (eJ ((c:Int)+1)) a<μ c M)->A I μ c M):
 ∃(u:Int->bg->Prop)(μ0:Int->bg->Nat),u (0:Int) j/\(∀(i:Int)(M:bg),u i M->
  ((decide (i<(z.len:Int)))=true->A u μ0 i M)/\
  ((decide (i<(z.len:Int)))=false->∃r:E,aS M g 0=some r.v/\∃y:E,aS M g 1=some y.v/\
   let a:bg:=aV M b1 0 [.s r,.s y]
   R r y a)):=by
 refine gP (n:=q) V (λc M=>D d M/\∃s l,Gr (g::b1::b) d M h m o s l/\dF M g k [.s e,.s s]/\l.length=c/\∀(i:Nat)(x:β),l[i]? =some x->w i x) ⟨Z,_,[],U,N,O,bO⟩ ?_
 rintro c M I μ hk ⟨x,s,l,r,B,W,T⟩ aa
 refine dit (λK=>?_) λK=>?_
 .refine L c M s l I μ V W x r B λt a ab J y x' hy=>aa V _ ⟨x',t,_,J,y,eX,λi ag hi=>?_⟩
  grind [Nat.lt_or_ge,List.length,List.getElem?_append_left,List.getElem?_append_right,br]
 .refine⟨e,B.dx 0,s,B.dx 1,?_⟩
  intro a
  have hy:=r.cJ
  have ag:=r.ne B X
  have y:Le (dB (g::b1::b) M) (dB b a):=dW bO λv t=>aX _ (aX _ t)
  refine P e s l a (S.le ((x.dB λv t=>?_).J y)) (fX.le (r.rU G (λt=>?_) hz V) y λJ ab=>G.le y) V T ((Y.J x).aV Q.1 _ _)
  .grind
  grind [D.aQ]
@[grind cases] structure CJ (ds:af) (rs:List j7) (c:Prop) (W:Nat):Prop where
 jw:0<rs.length
 eS:∀q∈rs,q.aY.length<=3/\q.df.length<=3/\WB ds rs.length c q.aY.length q.eY/\q.eY.w<=W
def zk(h:Nat)(e:ap)(f:bg)(b:ad)(g:af)(Q:List j7->Prop):Prop:=bK dO h e f λv a=>∃d r c,v=.agg #[d.v,r.v]/\iF (dB b a) d r g c/\Q c/\D f a
def Mh{d:af}{a b:List j7}{c:Prop}{W:Nat}(e:0<a.length)(f:b.length=a.length)(h:∀(i:Nat)(q:j7),b[i]? =some q->q.aY.length<=3/\q.df.length<=3/\WB d a.length c q.aY.length q.eY/\q.eY.w<=W):CJ d b c W:=
 by constructor<;>grind [List.mem_iff_getElem?]
def MU(N:∀c∈b,c<f.size){C:E}{c df:ab}{J:Int}(z:ba f p c)(H:ba f t df)(P:c.length<=100):
 oA 247 [.agg #[p.v,t.v,vi J,C.v,vi s]] f b λl=>(∀o∈l,0<=o/\o<(c.length:Int))/\l.length<=c.length:=by
 apply Fx
 simp -zeta only[dR]
 intro a d
 have A:=px a
 have y:∀w∈[f.size],w<a.size:=by simp[a]
 have F:GI b a d (.mk a.size 0 0 0) []:=GI.gN b a
 have K:=px d
 clear_value d
 clear_value a
 have S:=z.aT
 refine gL (n:=c.length) V (λk q M=>D a M/\∃l,GI b a M q l/\(∀o∈l,0<=o/\o<(c.length:Int))/\l.length<=k) ⟨K,[],F,bO,bY⟩ ?_
 rintro k q T M μ R ⟨v,l,g,i,Q⟩ m
 have r:=A.J v
 refine⟨λh=>?_,λh=>⟨q,l,O,g.cW (λ_ h=>h) A.aQ,⟨i,by simp at h;omega⟩,r⟩⟩
 simp only[bh]at h
 let⟨L,I⟩:=dV c k
 refine⟨V,V,L,(z.ext r).bt I,λ_=>?_,λ_=>m V _ _ ⟨v,l,g,i,V⟩⟩
 refine(fI (H.ext r) k).jY.bL v y λw U B u=>⟨_,O,λ_=>?_,λ_=>m V _ _ ⟨u,l,g.ext B,i,V⟩⟩
 intro j
 refine GI.nE (g.ext B) (u.fz []) V λX W G x _ _=>⟨D.sN (u.bZ _) x.ext y,m V _ _ ⟨x.ext,_,G,λo e=>?_,eX⟩⟩
 rcases bU.1 e with e|e
 .exact i o e
 .simp at e;omega
end
section
variable{a:ad}{m:bg}{d r:E}{b:List j7}
def MF(hS:∀c∈a,c<m.size){Y ai s:E}{L:af}{q:j7}(hn:iF m d r L b)(R:ba m Y q.aY)(ht:ba m ai q.df)(hs:iN m s q.eY.bA)(aB:q.aY.length<=3)(ao:WB L b.length False q.aY.length q.eY)(hw:q.eY.w<=95):
 rG 245 [.agg #[E.v d,E.v r],.agg #[E.v Y,E.v ai,vi q.bQ,E.v s,vi q.eY.bQ]] m a λj=>WB L b.length True q.aY.length j/\j.w<=1100*q.eY.w:=by
 apply EY
 simp -zeta only[kL,nO]
 intro m0 H U
 let⟨t,g,s0,s1,s2⟩:=um (a:=m0) (c:=H) (d:=U) O O O
 have aC:=R.aT
 have Q:∀c∈H.size::a,c<U.size:=dE hS t.aQ (g _ bO)
 refine(Ig (b:=[]) bO (hs.le t.le) V).bL (D.cU U) g λus ul f hu aD K _=>⟨_,O,?_⟩
 have an:ba f us ul:=hu.le fN
 intro C W
 have aw:D f W:=(D.push f _).J (D.push C _)
 have s4:=pz C
 have h:GI a f W (.mk f.size 0 0 0) []:=(GI.gN a f).ext (D.push C _)
 have gd:GI a f W (.mk C.size 0 0 0) []:=(GI.gN a C).cW (λ_ P=>P) V
 have z3:=K.aQ
 have al:∀c∈a,c<f.size:=λc e=>by have:=hS c e;have:=t.aQ;omega
 refine Bi (j:=q.aY.length) V (λk J Z M=>D f M/\∃i p,GI a f M J i/\GI a f M Z p/\J.bz≠Z.bz/\(∀o∈i,0<=o/\o<(q.aY.length:Int))/\(∀o∈p,0<=o/\o<(q.aY.length:Int))/\i.length<=k/\p.length<=k) ⟨aw,[],[],h,gd,eX,bO,bO,bY,bY⟩ ?_
 rintro k J Z m6 ax μ hk ⟨u,i,p,h,gd,G,A,z,cm,cd⟩ I
 have F:=K.J u
 have v6:=t.J F
 refine dit (λP=>?_) λP=>?_
 .let⟨ac,T⟩:=dV q.aY k
  have sn:∀{l:ab},(∀o∈l,0<=o/\o<(q.aY.length:Int))->∀o∈l++[(k:Int)],0<=o/\o<(q.aY.length:Int):=λg o B=>by
   rcases bU.1 B with B|B
   .exact g o B
   .simp at B;omega
  refine⟨V,V,ac,(R.ext v6).bt T,λ_=>?_,λ_=>I V _ _ _ ⟨u,i,p,h,gd,G,A,z,V,V⟩⟩
  refine(fI (ht.ext v6) k).jY.bL F g λaa m7 v u7=>⟨_,O,λ_=>?_,λ_=>I V _ _ _ ⟨u.J v,i,p,h.ext v,gd.ext v,G,A,z,V,V⟩⟩
  refine(fI (an.ext (u.J v)) k).jY.bL u7 g λaa m8 x8 u8=>⟨_,O,λ_=>?_,λ_=>?_⟩
  .have x:=v.J x8
   intro m9
   exact GI.Yl (h.ext x) (gd.ext x) G ((u.J x).fz []) V λr m' y N X w=>⟨D.sN ((F.J x).bZ _) (K.J w.ext) g,I V _ _ _ ⟨w.ext,_,_,y,N,X,sn A,z,eX,V⟩⟩
  .have x:=v.J x8
   intro m9
   exact GI.Yl (gd.ext x) (h.ext x) G.symm ((u.J x).fz []) V λr m' y N X w=>⟨D.sN ((F.J x).bZ _) (K.J w.ext) g,I V _ _ _ ⟨w.ext,_,_,N,y,X.symm,A,sn z,V,eX⟩⟩
 intro B
 have ac:=px B
 have X:=F.J ac
 have aa:=t.J X
 have e0:ba B (.mk m6.size 0 0 0) []:=pX
 have ag:∀{M:bg}{s:E}{l:ab},GI a f M s l->l.length<=3->ba M s l:=λy g=>(y.cr al V).le fN
 have aA:=q.eY.NP
 refine(KU q.eY (H.size::a) B (λc e=>X.lt (Q c e)) d r Y s J _ q.aY i [] (hn.le aa.le) (R.ext aa) (hs.le aa.le) ((ag h V).ext ac) e0 ⟨A,V,eX,V,ao⟩).bL X g λss j ap am hq au ar=>⟨_,_,O,?_⟩
 intro aE N
 obtain⟨ad,aJ⟩:=pv N
 have w:=ar.J ad
 have x:∀c∈[ap.size,H.size,m0.size,m.size],c<N.size:=λc e=>by
  rcases bo.1 e with v|v
  .omega
  .exact w.lt (g c v)
 have az:=Bk.pP j;have ay:=jS j.bA
 refine(iR (λc e=>w.lt (Q c e)) 15 ((ag gd V).ext ((ac.J au).J ad)) V).bL (D.cU N) x λaI _ aF ae v o _=>⟨_,O,bE (o.bG _ V) _,bE (o.bG _ V) _,?_⟩
 subst v
 have aK:=o.aQ
 have T:=ae.cJ
 refine GS.lY ae (o.fz []) ((am.le ad.fj).le (xl o T.1)) eX λaq aG ak aj aL ah=>⟨λc e=>ah c (o.lt (x c e)) (oh (x c e)),bE (ah _ V V) _,?_⟩
 intro aH
 have av:=(t.J w).J aj.ext
 refine⟨aq,.mk _ j.bQ,O,iN.le (dW bO λc e=>aX _ e) (ak.cr kd.aP (λc e=>w.lt (Q c e)) cD eX),⟨WB.of ((vE V z).fx ?_) ?_,?_⟩,av.aV V _ _⟩
 .rw[nF V];exact hq.1.cy.1
 .rw[fg,nF V,eW];exact hq.1.cy.2
 .rw[Bk.vu,gF,uo];omega
def QK(z:∀c∈a,c<m.size){g:af}(h:iF m d r g b)(Q:CJ g b False 95):zk 223 [.agg #[d.v,r.v]] m a g λp=>CJ g p True 104500:=by
 apply Jh;simp -zeta only[dR];intro e a2;let⟨s,A⟩:=fU (a:=e) (c:=a2) O O;have s1:=pz e;have ai:=h.lJ.aT;have ar:=h.p7;refine(jK (b:=e.size::a) (dE z s.aQ (A _ bO)) (h.le s.le).bS h.dk).aP λ_ C⟨dd,aa,ae,F⟩=>?_;subst aa;refine⟨F.eV A,_,O,?_⟩;intro E am an;have Z:=s.J F;let⟨x5,B0,g0,s3,s5⟩:=om (b:=E.size::e.size::a) lz.aP (d:=C) (a:=E) (c:=am) (j:=an) O O O;have n:∀c∈[e.size,m.size],c<C.size:=by grind [D.lt]
 have ad:∀c∈e.size::a,c<C.size:=λc l=>F.lt (dE z s.aQ (A _ bO) c l);refine nV (R:=λf i M=>∃d r p,Value.agg #[f.v,i.v]=.agg #[d.v,r.v]/\iF (dB a M) d r g p/\CJ g p True 104500/\D m M) lz.aP cD cD z ⟨V,n _ bO⟩ Z s3 ae ai V x5 B0 g0 (λ_ q=>q.aY.length<=3/\q.df.length<=3/\WB g b.length True q.aY.length q.eY/\q.eY.w<=104500) (λf o W t L N i j k=>⟨f,o,W,O,⟨L,N,h.dk,V⟩,Mh Q.jw i j,k⟩) λal M X W ap μ ag aq H K B ao=>?_
 let⟨q,U⟩:=dV b al ag;let⟨T,ah,ak,hw⟩:=Q.eS q (aZ U);have i:=Z.J H;let⟨au,av,f,I,J,c3,t,u,w,x,y⟩:=h.lJ.bt U;have G:∀{v:Value}{f o:Nat},aS m f o=some v->aS M f o=some v:=λab=>i.aS ab;refine⟨X,B.dx 1,V,V,_,G t,_,G u,_,G w,_,G x,_,G y,V,V,_,G t,_,G u,_,G w,_,G x,_,G y,?_⟩;have hy:=K.cJ;have ac:=B.lt;refine(MF (a:=X.bz::E.size::e.size::a) (λc l=>?_) (h.le i.le) (I.ext i) (J.ext i) (c3.le i.le) T ak hw).bL H n λss b' M1 aj P j Y=>⟨_,_,O,?_⟩
 .grind
 have k:∀{v:Value}{f o:Nat},aS m f o=some v->aS M1 f o=aS M f o:=by grind [D.aS]
 refine⟨k t,k u,k w,k x,k y,bE (j.bG _ (H.lt (n _ bO))) _,bE (j.bG _ ac) _,?_⟩;exact Ao ad (λc l=>by have L:=n c l;have N:=Y.aQ;omega) Y (K.ext lz.aP j) (B.ext j) V (I.ext (i.J j)) (J.ext (i.J j)) aj ⟨V,V⟩ V λs' N g' L x'=>ao s' N _ g' L x' ⟨T,ah,P.1,by have:=P.2;simp only;omega⟩
def Vh(z:∀e∈a,e<m.size){l:af}(o:iF m d r l b)(X:CJ l b False 95):zk 224 [.agg #[d.v,r.v]] m a l λu=>CJ l u True 104500:=by
 apply OC;simp -zeta only[dR];intro h a2;let⟨w,A⟩:=fU (a:=h) (c:=a2) O O;have s1:=pz h;have aj:=o.lJ.aT;have aw:=o.p7;refine(jK (b:=h.size::a) (dE z w.aQ (A _ bO)) (o.le w.le).bS o.dk).aP λ_ F⟨dd,n,ae,J⟩=>?_;subst n;refine⟨J.eV A,_,O,?_⟩;intro t an ao;have u2:=w.J J;let⟨x5,B0,g0,s3,s5⟩:=om (b:=t.size::h.size::a) lz.aP (d:=F) (a:=t) (c:=an) (j:=ao) O O O;have Y:∀e∈[h.size,m.size],e<F.size:=by grind [D.lt]
 have ad:∀e∈h.size::a,e<F.size:=λe j=>J.lt (dE z w.aQ (A _ bO) e j);refine nV (R:=λc f M=>∃d r u,Value.agg #[c.v,f.v]=.agg #[d.v,r.v]/\iF (dB a M) d r l u/\CJ l u True 104500/\D m M) lz.aP cD cD z ⟨V,Y _ bO⟩ u2 s3 ae aj V x5 B0 g0 (λ_ q=>q.aY.length<=3/\q.df.length<=3/\WB l b.length True q.aY.length q.eY/\q.eY.w<=104500) (λc k aa p U s f g i=>⟨c,k,aa,O,⟨U,s,o.dk,V⟩,Mh X.jw f g,i⟩) λam M st aa ar μ ag av L T B ap=>?_
 let⟨q,hq⟩:=dV b am ag;let⟨ai,ah,al,hw⟩:=X.eS q (aZ hq);have v:=u2.J L;let⟨aq,ay,i,y,Q,c3,e0,e1,e2,e3,e4⟩:=o.lJ.bt hq;have G:∀{ab:Value}{i p:Nat},aS m i p=some ab->aS M i p=some ab:=λac=>v.aS ac;refine⟨V,V,_,G e0,_,G e1,_,G e2,_,G e3,_,G e4,?_⟩;intro m7 g;have hy:=T.cJ;have au:=B.lt;have zM:=L.aQ;have K:D M g:=by grind [D.push,D.aV]
 have s8:g.size=M.size+1:=by grind [bD]
 clear_value g;have C:∀e∈[M.size,h.size,m.size],e<g.size:=λe j=>by
  grind
 have H:=v.J K;have E:∀{N P:bg},D g N->D g P->∀i,i<g.size->∀p,aS P i p=aS N i p:=by grind [bE,D.bG]
 have f:M.size<g.size:=V;have i1:m.size<g.size:=cB;have i2:t.size<g.size:=V;refine⟨st,(B.ext K).dx 1,?_⟩;refine(MU (b:=[]) bO (y.ext H) (Q.ext H) V).bL (D.cU g) C λow lo m9 go Z c _=>⟨_,O,E cY c _ f _,E cY c _ f _,E cY c _ f _,E cY c _ i1 _,E cY c _ i1 _,E cY c _ f _,E cY c _ f _,E cY c _ f _,E cY c _ f _,E cY c _ f _,E cY c _ i2 _,?_⟩;have I:=H.J c;have z9:=c.aQ;have j:=Z.2;refine(MI q.eY (st.bz::t.size::h.size::a) m9 (λe j=>?_) d r aq i ow q.aY lo (o.le I.le) (y.ext I) (c3.le I.le) ((go.cr bO V).le fN) ⟨Z.1,V,V,al⟩).bL c C λss b' ax ak W az k=>⟨_,_,O,E c k _ f _,E c k _ f _,E c k _ f _,E c k _ f _,E c k _ f _,E c k _ i2 _,?_⟩
 .grind
 have x:=K.J k;have AZ:=k.aQ;exact Ao ad (λe j=>by have U:=C e j;have s:=Y e;simp only[bo]at j s;rcases j with n|n|n|n<;>first|omega|(have:=s (by simp[n]);omega)|simp at n) (L.J x) (T.ext lz.aP x) (B.ext x) V (y.ext (v.J x)) (Q.ext (v.J x)) ak ⟨V,V⟩ V λs' U g' s x'=>ap s' U _ g' s x' ⟨ai,ah,W.1,by have:=W.2;simp only;omega⟩
end
section
variable{x:eN}{l:au}{m e M:bg}{i f d h:E}{b:ad}{c g:ab}{a:Int}{K:E->bg->Prop}
def Fh(a k:E)(m:bg):fW dO 251 [tp x a k] m (x.op=14\/x.op=15):=by
 apply Ld;simp -zeta only[dR];intro c;have b:=px c;refine⟨λh=>oD (bC (sp h)) b,λh=>kY ?_ b⟩;simp only[bd]at h;simp only[bP];omega
def One(l:au):Prop:=∀x∈l,x.aO.length=1
def DP(l:au)(o:Int):Prop:=∃x∈l,o∈x.aO
def One.at(h:One l){k:Nat}(a:l[k]? =some x):∃y,x.aO[0]? =some y/\DP l y:=by
 have c:=h x (aZ a);let⟨y,b⟩:=dV x.aO 0;exact⟨y,b,x,aZ a,aZ b⟩
def TJ(q:iN m i l)(B:One l)(H:l.length<=10^12)(v:Int):wX 277 [i.v,vi v] m λb=>-(l.length:Int)<=b/\b<=l.length:=by
 apply MN;have K:=q.aT;refine gL (n:=l.length) V (λk b M=>D m M/\-(k:Int)<=b/\b<=(k:Int)) ⟨cY,V,V⟩ ?_;rintro k b c I μ J ⟨f,C,F⟩ P
 refine⟨λo=>?_,λo=>⟨b,O,⟨V,V⟩,f⟩⟩;simp only[bh]at o;let⟨x,r⟩:=dV l k;obtain⟨y,s,_⟩:=B.at r;obtain⟨a,Q,p,_,z,_,_,A,_⟩:=q.bt r;have G:=p.aT;have L:=br s;have t:=f.aS z;have G3:=f.aS A;have j:=(p.ext f).bt s;have u:eJ (b+1)=b+1:=by grind [de]
 have w:eJ (b -1)=b -1:=by grind [de]
 rw[u,w];have N:∀d,-((k+1:Nat):Int)<=d->d<=((k+1:Nat):Int)->I d (eJ ((k:Int)+1)) c/\μ d (eJ ((k:Int)+1)) c<μ b k c:=cB;have h:(0:Int)<=(k:Int)/\(k:Int)<(i.len:Int)/\∃e:E,aS c i.bz (i.off+Int.toNat (k:Int)*5+3)=some e.v/\(0:Int)<=(0:Int)/\(0:Int)<(e.len:Int)/\∃g:Int,aS c e.bz (e.off+Int.toNat (0:Int)*1)=some (vi g)/\
  ((g==v)=true->I (b -1) (eJ ((k:Int)+1)) c/\μ (b -1) (eJ ((k:Int)+1)) c<μ b k c)/\((g==v)=false->I b (eJ ((k:Int)+1)) c/\μ b (eJ ((k:Int)+1)) c<μ b k c):=
  ⟨V,V,a,G3,V,V,y,j,λ_=>N _ V V,λ_=>N _ V V⟩
 exact⟨V,V,a,G3,V,V,y,j,λ_=>⟨V,V,_,t,λ_=>N _ V V,λ_=>h⟩,λ_=>h⟩
def RQ(q:∀f∈b,f<m.size)(u:iN m i l)(j:One l)(H:l.length<=100000000000):oA 276 [i.v] m b λc=>(∀o∈c,DP l o)/\c.length<=l.length:=by
 apply Lu;intro N;have K:=u.aT;refine gL (n:=l.length) V (λk s M=>D m M/\∃c,GI b m M s c/\(∀o∈c,DP l o)/\c.length<=k) ⟨D.push m _,[],GI.gN b m,bO,bY⟩ ?_;rintro k s e I μ J ⟨d,c,p,v,t⟩ C
 refine⟨λh=>?_,λh=>⟨s,c,O,p,⟨v,V⟩,d⟩⟩;simp only[bh]at h;let⟨x,w⟩:=dV l k;let⟨z,y,A⟩:=j.at w;obtain⟨a,R,r,_,F,_,_,g,_⟩:=u.bt w;have G:=r.aT;have L:=br y;refine⟨V,V,a,d.aS g,V,V,z,(r.ext d).bt y,?_⟩;refine(pU (S:=b) (λf t=>cw (q f t) d.aQ) (p.cr q V) z V).cg λQ B P g f E=>⟨_,O,C V _ _ ⟨d.J E,B,g.cW (λ_ h=>h) d.aQ,λo j=>?_,oh f.2⟩⟩;rcases f.1 o j with h|h
 .exact v o h
 .subst h;exact A
@[grind cases] structure zT (S:ad) (m m2 M:bg) (sd sr vs:E) (ld lr vl:ab):Prop where
 x:D m M
 gd:GI S m M sd ld
 gr:GI S m M sr lr
 gv:GI [] m2 M vs vl
 n1:sd.bz≠sr.bz
 n2:sd.bz≠vs.bz
 n3:sr.bz≠vs.bz
def zT.ext{b:ad}{m e M i:bg}{f d h:E}{c j g:ab}(T:zT b m e M f d h c j g)(a:D M i):zT b m e i f d h c j g:=
 ⟨T.x.J a,T.gd.ext a,T.gr.ext a,T.gv.ext a,T.n1,T.n2,T.n3⟩
def zT.afe{j:ab}(T:zT b m e M f d h c j g)(u:∀i∈b,i<m.size)(s:c.length<=10^12)(t:∀r i,zT b m e i r d h (c++[a]) j g->K r i):
 mj (M.push (.cells (db [.i a]) bB)) bB [.i 0] 8 f (.mk M.size 0 1 1) K:=by
 have o:=T.gr.cJ;have p:=T.gv.cJ;have v:=T.n1;have w:=T.n2
 refine GI.nE T.gd (T.x.fz []) s λr i n l z q=>t r i ⟨l.ext,n,T.gr.lZ (q _ o.2 T.n1.symm),T.gv.lZ (q _ p.2 T.n2.symm),?_,?_,T.n3⟩<;>rcases z.2 with k|k<;>omega
def zT.Yl{j:ab}(T:zT b m e M f d h c j g)(u:∀i∈b,i<m.size)(s:j.length<=10^12)(t:∀r i,zT b m e i f r h c (j++[a]) g->K r i):
 mj (M.push (.cells (db [.i a]) bB)) bB [.i 0] 8 d (.mk M.size 0 1 1) K:=by
 have o:=T.gd.cJ;have p:=T.gv.cJ;have v:=T.n1;have w:=T.n3
 refine GI.nE T.gr (T.x.fz []) s λr i n l z q=>t r i ⟨l.ext,T.gd.lZ (q _ o.2 T.n1),n,T.gv.lZ (q _ p.2 T.n3.symm),?_,T.n2,?_⟩<;>rcases z.2 with k|k<;>omega
def abr(l:au)(c:au):Prop:=∃b a:ab,c=b.map (iX 14)++a.map (iX 15)/\(∀o∈b,DP l o)/\(∀o∈a,DP l o)/\b.length+a.length<=l.length*l.length
def CC(u:∀s∈b,s<m.size)(X:iN m i l)(a:One l)(x:l.length<=500000):Xf 252 [i.v] m b (abr l):=by
 apply Hx;intro v e;have ad:D m e:=(D.push m _).J (D.push v _);have s1:=pz v;have gd:GI b m e (.mk m.size 0 0 0) []:=(GI.gN b m).ext (D.push v _);have Q:GI b m e (.mk v.size 0 0 0) []:=(GI.gN b v).cW (λ_ G=>G) V;have aj:l.length*l.length<=250000000000:=fD (Rb x x) cD;refine(RQ (b:=[]) bO (X.le ad.le) a V).cg λh g m3 F ac N=>⟨_,O,?_⟩;have hv:ba m3 h g:=(F.cr bO (oh ac.2)).le fN;have an:=hv.aT;have ao:=F.cJ;refine Bi (j:=g.length) V (λp f d M=>∃c j,zT b m e M f d h c j g/\(∀o∈c,DP l o)/\(∀o∈j,DP l o)/\c.length+j.length<=p*l.length) ⟨[],[],⟨(ad.J N),gd.ext N,Q.ext N,F,eX,oh gd.cJ,oh Q.cJ⟩,bO,bO,bO⟩ ?_;rintro p f d m4 ai μ hi ⟨c,j,T,hd,Y,U⟩ ag
 have ae:p*l.length<=l.length*l.length:=fE _ V;have H:∀{M:bg}{f d:E}{c j:ab},zT b m e M f d h c j g->ba M h g:=λT=>(T.gv.cr bO V).le fN;refine dit (λG=>?_) λG=>?_
 .let⟨y,z⟩:=dV g p;have aa:=ac.1 y (aZ z);refine⟨V,V,y,(H T).bt z,?_⟩;refine(TJ (X.le T.x.le) a V y).cg λw m5 hn r=>⟨_,O,?_⟩;have am:(p+1)*l.length=p*l.length+l.length:=DJ _ _;refine⟨λf k M=>k<=w/\(w<=0->k=w)/\(0<w->0<=k)/\∃I,zT b m e M f d h I j g/\(∀o∈I,DP l o)/\I.length+j.length+k.toNat<=p*l.length+w.toNat,λ_ k _=>k.toNat,⟨V,V,V,c,T.ext r,hd,V⟩,?_⟩;rintro ah k m6 ⟨n1,n2,n3,J,A,W,ak⟩;refine dit (λh1=>?_) λh1=>?_
  .refine⟨V,V,y,(H A).bt z,?_⟩;intro q;have t:eJ (k -1)=k -1:=iz;rw[t];exact A.afe u V λL P B=>⟨⟨V,V,V,_,B,λo a=>by
    rcases bU.1 a with a|a
    .exact W o a
    .simp at a;subst a;exact aa,eX⟩,by dsimp only;omega⟩
  .refine⟨λd q M=>k<=q/\q<=0/\∃K,zT b m e M ah d h J K g/\(∀o∈K,DP l o)/\J.length+K.length+(-q).toNat<=p*l.length+l.length,λ_ q _=>(-q).toNat,⟨V,V,j,A,Y,V⟩,?_⟩;rintro ap q m8 ⟨p1,p2,af,C,Z,al⟩;refine⟨λR=>?_,λR=>ag V _ _ _ ⟨J,af,C,W,Z,V⟩⟩;simp only[bh]at R;refine⟨V,V,y,(H C).bt z,?_⟩;intro m9;have t:eJ (q+1)=q+1:=iz;rw[t];exact C.Yl u V λL P B=>⟨⟨V,V,_,B,λo a=>by
    rcases bU.1 a with a|a
    .exact Z o a
    .simp at a;subst a;exact aa,eX⟩,by dsimp only;omega⟩
 .have o:∀s∈b,s<m4.size:=λs U=>by have:=u s U;have:=T.x.aQ;omega
  refine(iR (c:=b) o 14 ((T.gd.cr u V).le fN) V).aP λ_ m5⟨s1,C,k,g1,t,r⟩=>?_;subst k;subst t;refine⟨_,O,?_⟩;have q:=g1.cJ;refine(iR (c:=s1.bz::b) (dE o r.aQ q.2) 15 (((T.ext r).gr.cr u V).le fN) V).aP λ_ m6⟨J,I,k,g2,y,w⟩=>?_;subst k;subst y;refine⟨_,O,?_⟩;refine GS.lY (g1.ext kd.aP w) ((r.J w).fz []) (g2.cr kd.aP (dE o r.aQ q.2) cD eX) eX λL P A z _ _=>⟨L,_,O,A.cW kd.aP (λB x=>bC x) T.x.aQ,⟨c,j,O,hd,Y,?_⟩,T.x.J z.ext⟩;have:p*l.length<=l.length*l.length:=ae;omega
end
section
variable{a c:Nat}
def Nf(a b:Nat):a*a+b*b<=(a+b)*(a+b):=by
 grind [Nat.add_mul,Nat.mul_add]
def Vk{b:Nat}(h:a<=b):a*a<=b*b:=Rb h h
@[grind cases] structure CN (ds:af) (nr:Nat) (S:ad) (m2 M:bg) (a:Nat) (bA:au) (k:Nat) (st run:E) (lo lr:au) (P:Nat):Prop where
 x:D m2 M
 gs:GS (run.bz::S) m2 M st lo
 gr:GS [st.bz] m2 M run lr
 wl:WL ds nr True a lo
 dcs:dc lo=dc (bA.take k)
 sws:sw lo<=P*P
 P':P+2*lr.length<=sw (bA.take k)
 mM:One lr
 rng:∀o,DP lr o->0<=o/\o<((a+dc (bA.take k):Nat):Int)
 ne:st.bz≠run.bz
def Vd{d:af}{l b:au}(h:abr l b)(g:∀o,DP l o->0<=o/\o<(a:Int)):WL d c True a b/\dc b=0/\sw b<=(2*l.length)*(2*l.length):=by
 obtain⟨j,i,rfl,e,k,m⟩:=h;refine⟨(vE V λo f=>g o (e o f)).fx ?_,?_,?_⟩
 .grind [nF,vE]
 .grind [fg,nF]
 .grind [gF,uo,List.length,Nat.mul_mul_mul_comm]
def ae1(e:af)(c:Nat)(b:Bk):Prop:=∀(S:ad)(m:bg),(∀d∈S,d<m.size)->∀(t:E)(a:Nat),iN m t b.bA->WB e c True a b->b.w<=400000->rG 231 [.agg #[t.v,vi b.bQ]] m S λd=>WB e c True a d/\d.w<=b.w*b.w
def Je{I:af}:∀g:Bk,ae1 I c g:=by
 refine Bk.ind ?_;intro bA a3 ih l K hS bH a hs aS hw;have aT:=aS.cy;rw[Bk.vu]at hw⊢;simp only[Bk.mV,Bk.lV]at*;apply BL;simp -zeta only[dR];intro i q ae m3;let⟨x1,hl⟩:=fU (a:=i) (c:=q) O O;have s0:=pz i;have s1:q.size=K.size+2:=cB;have a8:D q m3:=by grind [D.push,D.J]
 have s2:=pz ae;have aI:∀u,GS u q m3 (.mk q.size 0 0 0) []:=λu=>(GS.bF u q).ext kd.aP (D.push ae _);have aH:∀u,GS u q m3 (.mk ae.size 0 0 0) []:=λu=>(GS.bF u ae).cW kd.aP (λg s=>bC s) V;have aR:=hs.aT;have au:=FU bA;have aK:∀e∈i.size::l,e<q.size:=by grind [dE,D.aQ]
 refine Bi (j:=bA.length) (aR▸hs.kK) (λv F z j=>∃X p P,CN I c (i.size::l) q j a bA v F z X p P) ⟨[],[],0,a8,aI _,aH _,WL.gN,O,bO,bO,λ_ h=>by simp at h,λag⟨_,h,_⟩=>by simp at h,eX⟩ ?_;rintro v F z B a_ μ hk ⟨X,p,P,C⟩ aw
 have x4:=C.x;have N:=x1.J x4;have bt:=C.gs.cJ;have bs:=C.gr.cJ;have ap:=C.P';have bj:=au v;have ba:P*P<=160000000000:=fD (Vk (b:=400000) V) cD;have bh:=jS X;have aP:=C.sws;have bi:=C.ne;have J:∀{j:bg}{u:ad},B.size<=j.size->(∀e∈u,e<j.size)->∀e∈u++i.size::l,e<j.size:=λh s e f=>by
  grind
 have ar:∀{j:bg},D B j->iN j z p:=λh=>iN.le fN ((C.gr.ext kd.aP h).rU kd.aP cB cD V);refine dit (λh=>?_) λh=>?_
 .let⟨d,W⟩:=dV bA v;let⟨pa,pk,ha,aa,g0,g1,g2,g3,g4⟩:=hs.bt W;refine⟨V,V,_,N.aS g0,_,N.aS g1,_,N.aS g2,_,N.aS g3,_,N.aS g4,?_⟩;intro m5 L;have x6:D B L:=by grind [D.push,D.aV]
  have s6:L.size=B.size+1:=by grind [bD]
  have ab:∀{j:bg},L.size<=j.size->∀g∈[B.size,i.size,K.size],g<j.size:=λh g s=>by
   grind
  have bm:=ub W;have bl:=uL W;have aU:=eN.pP d;have U:=aT.1 v d W;have bk:=au (v+1);have bc:=xf d.dv;refine(Fh pa pk L).bL (D.cU L) (ab bY) λbp m7 aL x7 _=>⟨_,O,λhp=>?_,λhp=>?_⟩
  · -- a pair goes to the run
   have hp:=aL.1 hp;have Q:d.aO.length=1:=U.iY.mM V;have T:dn d=0:=aW λh:tv d.op=>by have:=h.2;omega
   have G:=x6.J x7;intro Z;have o:Le K (dB (z.bz::[F.bz]) m7):=(EB (m:=K)).J (((N.J G).fz []).dB bO λe f=>by simp at f;have:=x1.aQ;exact bR V);refine GS.nE (x:=d) (C.gr.ext kd.aP G) ((x4.J G).fz []) (ha.le o) (aa.le o) V λaQ M' R t H A=>⟨λe f=>?_,aw V _ _ _ ⟨X,p++[d],P,t.ext,(C.gs.ext kd.aP G).re kd.aP (Y:=[z.bz]) ⟨H.1,λe f k=>A e f cB⟩ bO cB (λe f=>?_),R,C.wl,by rw[C.dcs];omega,aP,eX,λaj k=>?_,λag w=>?_,?_⟩⟩
   .grind [D.aQ,D.push,D.bG]
   .grind [List.mem_cons_self,List.mem_cons_of_mem]
   .rcases bU.1 k with k|k
    .exact C.mM aj k
    grind
   .let⟨aj,k,r⟩:=w;have y:dc (bA.take (v+1))=dc (bA.take v):=V;rw[y];rcases bU.1 k with k|k
    .exact C.rng ag ⟨aj,k,r⟩
    .simp at k;subst k;exact U.iY.aO ag r
   grind [CN.gs,Gr.ext,kd.aP,Gr.cJ]
  · -- another step ends the run
   have G:=x6.J x7;have aA:=G.aQ;refine(CC (b:=[F.bz,z.bz]++i.size::l) (J aA cB) (ar G) C.mM V).bL (D.cU m7) (ab x7.aQ) λbB aV bu aE a0 ax _=>⟨_,O,?_⟩;let⟨a5,al,a6⟩:=Vd (d:=I) (c:=c) a0 C.rng;have be:=jS aV;have AZ:=ax.aQ;have z7:=x7.aQ;have aJ:(2*p.length)*(2*p.length)<=160000000000:=fD (Vk (b:=400000) V) cD;have az:=G.J ax;refine GS.lY (C.gs.ext kd.aP az) ((x4.J az).fz []) (aE.cr kd.aP (J (u:=[F.bz,z.bz]) aA eX) cD V) V λw r ao aC a9 a1=>⟨λe f=>a1 e (ab V e f) cB,?_⟩;have am:D q r:=aC.ext;have bn:=ao.cJ;have bb:w.bz=F.bz\/L.size<=w.bz:=by have:=a9.2;omega
   intro t av;have ay:=px t;have bG:t.size=r.size+1:=cB;have a7:=px av;have an:=am.J ay;have gn:GS [w.bz] q t (.mk r.size 0 0 0) []:=(GS.bF _ r).cW kd.aP (λg s=>bC s) am.aQ;have gk:GB ([w.bz,r.size]++i.size::l) t av (.mk t.size 0 0 0) []:=GB.bF t;have aF:GS ([r.size]++i.size::l) q t w _:=ao.re kd.aP (Y:=[]) (ay.fz []) bO bO λe f=>by
    rcases bo.1 f with y|y
    .grind
    .exact bC (aX _ y)
   have ak:=aa.aT;have bd:bw d.dv<=400000:=V;refine gL (n:=d.dv.length) (ak▸aa.kK) (λA a4 j=>D t j/\∃o,GB ([w.bz,r.size]++i.size::l) t j a4 o/\o.length=A/\(∀(H:Nat)(g:Bk),o[H]? =some g->WB I c True (a+dc (bA.take v)+Gc I d.op d.cE H) g)/\bw o<=bw (d.dv.take A)*bw (d.dv.take A)) ⟨a7,[],gk,O,bO,bO⟩ ?_;rintro A ks ac I2 μ2 hj ⟨Z,o,R,bf,aN,aM⟩ aY;have ah:=x1.J (an.J Z);have bI:=Z.aQ;have bq:=R.cJ;have T:∀g∈[B.size,i.size,K.size],g<ac.size:=cB;refine dit (λh2=>?_) λh2=>?_
   .let⟨g,s⟩:=dV d.dv A;let⟨tb,aO,f0,f1⟩:=aa.bt s;have a2:=Be s;have aD:=yP s;refine⟨V,V,_,ah.aS f0,_,ah.aS f1,?_⟩;refine(ih d (aZ W) g (aZ s) ([ks.bz,w.bz,r.size]++i.size::l) ac (J V eX) tb _ (aO.le ah.le) (U.dv A g s) V).bL (D.cU ac) T λss b' bv aG aB ai _=>⟨_,_,O,?_⟩;refine GB.nE (c:=b') (R.ext vx.aP ai) ((Z.J ai).fz []) aG V λaQ M' g2 f2 z2 q2=>⟨D.sN ((Z.J ai).bZ _) f2.ext (λe f=>oh (ab (j:=t) V e f)),aY V _ _ ⟨f2.ext,_,g2,eX,λH b2 Q=>?_,?_⟩⟩
    .rcases dJ H o.length with aq|aq
     .grind [List.getElem?_append_left]
     .rw[dP aq]at Q;have:H -o.length=0:=by have:=br Q;simp at this;omega
      rw[this]at Q;simp at Q;subst Q;have:H=A:=V;grind
    .rw[sV,yO,Ea,aD];have h3:=Nf (bw (d.dv.take A)) g.w;have:=aB.2;omega
   .have aO:o.length=d.dv.length:=V;rw[eQ V]at aM;refine(dC ([w.bz,r.size]++i.size::l) (ha.ext ah) V).bL (D.cU ac) T λs' l' bv ga y Q _=>⟨_,O,bE (Q.bG _ (T _ bO)) _,bE (Q.bG _ (T _ bO)) _,bE (Q.bG _ (T _ bO)) _,?_⟩;subst y;intro bx;have ai:=Z.J Q;have bJ:=Q.aQ;have aq:∀e∈[w.bz,r.size]++i.size::l,e<t.size:=J V eX;have aQ:w.bz≠r.size:=V;refine GS.nE (x:=⟨d.op,d.cE,d.dh,d.aO,o⟩) (aF.ext kd.aP ai) ((an.J ai).fz []) (ga.cr (λe f=>oh (aq e f)) V) (rQ.le Q.fj (R.cr vx.aP aq cD cB)) cB λbF bz aG aD bK a2=>⟨λe f=>?_,aw V _ _ _ ⟨_,[],P+2*p.length+d.w,aD.ext,aG,?_,((C.wl.fx cB).Dh (U.US id U.iY.dh aO aN|>λh=>by rw[fg,C.dcs,al,ui];exact h)),?_,?_,eX,λ_ h=>by simp at h,λag⟨_,h,_⟩=>by simp at h,?_⟩⟩
    .grind [D.push,D.bG]
    · -- the new run is empty
     have y:=gn.ext kd.aP ai;let⟨p0,aB,p1,p2⟩:=y;refine⟨p0,aB,p1.congr (a2 _ (by have:=ai.aQ;show r.size<_;omega) (th aQ)),p2.aT,p2.aQ,λH cs aj _ k=>by simp at k⟩
    .rw[fg,fg,C.dcs,al,nM,xk];have y:dn (⟨d.op,d.cE,d.dh,d.aO,o⟩:eN)=dn d:=rfl;omega
    .rw[gF,gF,qu,zL];have h3:=Nf P (2*p.length);have h4:=Nf (P+2*p.length) d.w;have h5:(⟨d.op,d.cE,d.dh,d.aO,o⟩:eN).w=1+d.aO.length+bw o:=eN.pP _;have k:=Nf (1+d.aO.length) (bw d.dv);have h7:1+d.aO.length<=(1+d.aO.length)*(1+d.aO.length):=by grind [Nat.le_mul_of_pos_left]
     rw[<-aU]at k;omega
    grind [E.bz,Array.size]
 .have ak:v=bA.length:=V;subst ak;rw[fw]at ap;have hd:dc (bA.take bA.length)=dc bA:=by rw[fw]
  have k:∀g∈[i.size,K.size],g<B.size:=by grind [D.lt]
  refine(CC (b:=[F.bz,z.bz]++i.size::l) (J bY cB) (ar cY) C.mM V).bL (D.cU B) k λT o L w A d _=>⟨_,O,bE (d.bG _ (k _ bO)) _,?_⟩;let⟨a5,al,a6⟩:=Vd (d:=I) (c:=c) A C.rng;have H:=jS o;have aJ:(2*p.length)*(2*p.length)<=160000000000:=fD (Vk (b:=400000) V) cD;refine GS.lY (C.gs.ext kd.aP d) ((x4.J d).fz []) (w.cr kd.aP (J (u:=[F.bz,z.bz]) bY eX) cD V) V λG Q y t U r=>⟨λe f=>r e (d.lt (k e f)) (oh (hl e f)),bE (r _ (d.lt (k _ bO)) V) _,?_⟩;intro R;refine⟨G,.mk (X++o) a3,O,iN.le (dW bO λe f=>aX _ f) ((y.re kd.aP (S':=i.size::l) (Y:=[]) nP bO bO (λe f=>bC (aX _ f))).cr kd.aP aK cD eX),⟨WB.of (C.wl.fx cB) ?_,?_⟩,(x1.J t.ext).aV V _ _⟩
  .grind [fg,CN.dcs]
  .rw[Bk.vu,gF];have h3:=Nf P (2*p.length);have h4:=Vk ap;have h5:=Nf 1 (sw bA);omega
end
section
variable{c:ad}{b:bg}{d r:E}{e:List j7}{W:Nat}
def MA(w:∀a∈c,a<b.size){h:af}(i:iF b d r h e)(hW:W<=400000)(N:CJ h e True W):zk 195 [.agg #[d.v,r.v]] b c h λn=>CJ h n True (W*W):=by
 apply ET;simp -zeta only[dR];intro g a2;let⟨s,x⟩:=fU (a:=g) (c:=a2) O O;have s1:=pz g;have aj:=i.lJ.aT;have au:=i.p7;refine(jK (b:=g.size::c) (dE w s.aQ (x _ bO)) (i.le s.le).bS i.dk).aP λ_ y⟨dd,aa,ae,A⟩=>?_;subst aa;refine⟨A.eV x,_,O,?_⟩;intro z an ao;have X:=s.J A;let⟨x5,Y,g0,s3,s5⟩:=om (b:=z.size::g.size::c) lz.aP (d:=y) (a:=z) (c:=an) (j:=ao) O O O;have m:∀a∈[g.size,b.size],a<y.size:=by grind [D.lt]
 have ad:∀a∈g.size::c,a<y.size:=λa l=>A.lt (dE w s.aQ (x _ bO) a l);refine nV (R:=λf j M=>∃d r n,Value.agg #[f.v,j.v]=.agg #[d.v,r.v]/\iF (dB c M) d r h n/\CJ h n True (W*W)/\D b M) lz.aP cD cD w ⟨V,m _ bO⟩ X s3 ae aj V x5 Y g0 (λ_ q=>q.aY.length<=3/\q.df.length<=3/\WB h e.length True q.aY.length q.eY/\q.eY.w<=W*W) (λf p Q t J K j k o=>⟨f,p,Q,O,⟨J,K,i.dk,V⟩,Mh N.jw j k,o⟩) λam M T Q aq μ ag ar C I B ap=>?_
 let⟨q,P⟩:=dV e am ag;let⟨ai,ah,al,hw⟩:=N.eS q (aZ P);have p:=X.J C;let⟨av,aw,f,c1,c2,c3,E,F,H,t,u⟩:=i.lJ.bt P;have G:∀{v:Value}{f o:Nat},aS b f o=some v->aS M f o=some v:=λab=>p.aS ab;refine⟨T,B.dx 1,V,V,_,G E,_,G F,_,G H,_,G t,_,G u,V,V,_,G t,_,G u,?_⟩;have hy:=I.cJ;have ac:=B.lt;refine(Je q.eY (T.bz::z.size::g.size::c) M (λa l=>?_) f q.aY.length (c3.le p.le) al V).bL C m λss b' Z ak L j U=>⟨_,_,O,?_⟩
 .grind
 have k:∀{v:Value}{f o:Nat},aS b f o=some v->aS Z f o=aS M f o:=by grind [D.aS]
 refine⟨k E,k F,k H,k t,k u,bE (j.bG _ (C.lt (m _ bO))) _,bE (j.bG _ ac) _,?_⟩;exact Ao ad (λa l=>by have J:=m a l;have K:=U.aQ;omega) U (I.ext lz.aP j) (B.ext j) V (c1.ext (p.J j)) (c2.ext (p.J j)) ak ⟨V,V⟩ V λs' K g' J x'=>ap s' K _ g' J x' ⟨ai,ah,L.1,fD L.2 (Vk hw)⟩
def adu(a:Bk):Prop:=∀(c:ad)(b:bg),(∀d∈c,d<b.size)->∀t:E,iN b t a.bA->a.w<=10^12->rG 294 [.agg #[t.v,vi a.bQ]] b c (a=·)
def Cz(U:∀f∈c,f<b.size){t v:E}{x:eN}(F:ba b t x.aO)(p:rQ b v x.dv)(Z:x.w<=10^12)(L:∀g∈x.dv,adu g):Pl 325 [tp x t v] b c (x=·):=by
 apply G9;simp -zeta only[dR];intro a e w;let⟨N,H⟩:=fU (a:=a) (c:=e) O O;have s0:=pz a;have s1:e.size=b.size+2:=cB;have P:=px w;have B:GB (a.size::c) e w (.mk e.size 0 0 0) []:=GB.bF e;have n:∀f∈a.size::c,f<e.size:=by grind [dE,D.aQ]
 have G:=p.aT;have aa:=eN.pP x;have W:=xf x.dv;refine gL (G▸p.kK) (λq s M=>D e M/\GB (a.size::c) e M s (x.dv.take q)) ⟨P,B⟩ ?_;rintro q s k R μ Y ⟨l,j⟩ M
 have i:=N.J l;have h:∀g∈[a.size,b.size],g<k.size:=by grind [D.lt]
 have K:=j.cJ;have Q:=l.aQ;refine dit (λC=>?_) λC=>?_
 .let⟨g,o⟩:=dV x.dv q;let⟨tb,J,z,A⟩:=p.bt o;have X:=Be o;refine⟨V,V,_,i.aS z,_,i.aS A,?_⟩;refine(L g (aZ o) (s.bz::a.size::c) k (dE n Q K.2) tb (J.le i.le) V).bL (D.cU k) h λss T y I m d _=>⟨_,_,O,?_⟩;subst m;refine GB.nE (j.ext vx.aP d) ((l.J d).fz []) I cB λr S g2 u z2 q2=>⟨D.sN ((l.J d).bZ _) u.ext H,M V _ _ ⟨u.ext,?_⟩⟩;grind [bX]
 .rw[eQ V]at j;refine(dC (a.size::c) (F.ext i) V).bL (D.cU k) h λI J y z m d _=>⟨_,O,bE (d.bG _ (h _ bO)) _,bE (d.bG _ (h _ bO)) _,bE (d.bG _ (h _ bO)) _,?_⟩;subst m;intro A;have u:Le (dB (a.size::c) y) (dB c A):=dW bO λf o=>aX _ o;exact⟨I,s,x,O,(z.cr (λf o=>oh (n f o)) V).le u,rQ.le u ((j.ext vx.aP d).cr vx.aP n cD V),O,(i.J d).aV V _ _⟩
def Ay:∀p:Bk,adu p:=by
 refine Bk.ind ?_;intro bA j Z c b hS af r X;rw[Bk.vu]at X;simp only[Bk.mV,Bk.lV]at*;apply vm;simp -zeta only[dR];intro g d e y o;let⟨x1,T⟩:=fU (a:=g) (c:=d) O O;have s0:=pz g;have s1:d.size=b.size+2:=cB;have s2:=pz e;have s3:=pz y;have C:D e o:=by grind [D.push,D.aV]
 have ab:D d o:=(D.push d _).J C;have q:GS (e.size::g.size::c) d o (.mk d.size 0 0 0) []:=(GS.bF _ d).ext kd.aP C;have F:dF o e.size fm [.s (.mk d.size 0 0 0),.i j]:=dF.aV (m:=y) (dF.push e _ _);have N:∀l∈g.size::c,l<d.size:=by grind [dE,D.aQ]
 have W:=r.aT;have ad:=jS bA;refine gP (W▸r.kK) (λu M=>D d M/\∃s,GS (e.size::g.size::c) d M s (bA.take u)/\dF M e.size fm [.s s,.i j]) ⟨ab,_,q,F⟩ ?_;rintro u v ac μ hk ⟨w,s,h,B⟩ aa
 have f:=x1.J w;have U:∀p∈[g.size,b.size],p<v.size:=by grind [D.lt]
 have Y:=h.cJ;have z5:=w.aQ;have x:=B.lt;refine dit (λM=>?_) λM=>?_
 .let⟨A,t⟩:=dV bA u;let⟨pa,pk,P,S,q,g1,g2,K,L⟩:=r.bt t;have ae:=TQ t;refine⟨s,B.dx 0,V,V,_,f.aS q,_,f.aS g1,_,f.aS g2,_,f.aS K,_,f.aS L,?_⟩;refine(Cz (dE (dE N z5 x) bY Y.2) (P.ext f) (S.le f.le) V (Z A (aZ t))).bL (D.cU v) U λG H x' z Q R I k _=>⟨_,_,_,_,_,O,bE (k.bG _ x) _,?_⟩;subst I;intro m7;refine Gr.bV (h:=[.i 0,.i 0,.i 0,.s .nil,.s .nil]) (j:=0) (o:=[.s s,.i j]) (v:=A) kd.aP cD (h.ext kd.aP k) ((w.J k).fz []) ⟨G,H,O,Q,R⟩ cB (B.ext k) bO cD ⟨V,bO⟩ (λl n=>by have E:=T l n;have J:=k.aQ;omega) λr' m' g' E J z' q'=>aa V _ ⟨J.ext,r',?_,E⟩
  grind [bX]
 .rw[eQ V]at h;refine⟨s,B.dx 0,j,B.dx 1,?_⟩;intro z;have t:=h.ne B cD;have k:Le (dB (e.size::g.size::c) v) (dB c z):=dW bO λl n=>aX _ (aX _ n);refine⟨s,.mk bA j,O,iN.le k (h.rU kd.aP (λn=>?_) cD (by show bA.length<=_;omega)),O,f.aV V _ _⟩;grind
def aeZ(a:Bk):Prop:=∀(b:bg)(t:E)(f:Int),iN b t a.bA->sT 326 [.agg #[t.v,vi a.bQ],vi f] b
def Om:∀c:Bk,aeZ c:=by
 refine Bk.ind ?_;intro bA X G b t q l;simp only[Bk.mV,Bk.lV]at*;apply G6;simp -zeta only[dR];intro g;have z:=px g;have C:∀c∈[b.size],c<g.size:=by simp[g]
 have F:=l.aT;refine gP (F▸l.kK) (λ_ M=>D g M) cY ?_;rintro k m I μ W p K
 have f:=z.J p;refine⟨λi=>?_,λ_=>rA f⟩;simp only[bh]at i;let⟨y,u⟩:=dV bA k;let⟨pa,v,T,j,A,g1,g2,S,s⟩:=l.bt u;have B:=j.aT;have L:∃(h:Int->bg->Prop)(μ0_1:Int->bg->Nat),h 0 m/\(∀(a:Int)(M:bg),h a M->
  0<=(k:Int)/\(k:Int)<(t.len:Int)/\∃o:E,aS M t.bz (t.off+Int.toNat (k:Int)*5+4)=some o.v/\
  ((decide (a<(o.len:Int)))=true->0<=(k:Int)/\(k:Int)<(t.len:Int)/\∃d:E,aS M t.bz (t.off+Int.toNat (k:Int)*5+4)=some d.v/\
   0<=a/\a<(d.len:Int)/\∃w:E,aS M d.bz (d.off+a.toNat*2)=some w.v/\∃x:Int,aS M d.bz (d.off+a.toNat*2+1)=some (vi x)/\
   bK dO 326 [.agg #[w.v,vi x],vi q] M λr e=>gS [b.size] M e/\∃n:Bool,r=vb n/\(n=true->∃c:Bool,vb true=.bool c/\D b e)/\(n=false->h (eJ (a+1)) e/\μ0_1 (eJ (a+1)) e<μ0_1 a M))/\
  ((decide (a<(o.len:Int)))=false->I (eJ ((k:Int)+1)) M/\μ (eJ ((k:Int)+1)) M<μ k m)):=by
  refine gP (B▸j.kK) (λ_ M=>D m M) cY ?_
  rintro H M Q μ2 U d J
  have a:=f.J d
  refine⟨V,V,v,a.aS s,λi=>?_,λ_=>K V _ (p.J d)⟩
  simp only[bh]at i
  let⟨c,n⟩:=dV y.dv H
  let⟨tb,x,o,w⟩:=j.bt n
  refine⟨V,V,v,a.aS s,V,V,_,a.aS o,_,a.aS w,?_⟩
  exact(G y (aZ u) c (aZ n) M tb q (x.le a.le)).bL (p.J d) C λR e P N=>⟨_,O,λ_=>rA (z.J N),λ_=>J V _ (d.J P)⟩
 exact⟨V,V,_,f.aS A,λ_=>⟨V,V,_,f.aS g1,λ_=>rA f,λ_=>L⟩,λ_=>L⟩
def Ox{m:af}(g:iF b d r m e)(h:Int):sT 295 [.agg #[d.v,r.v],vi h] b:=by
 apply Hi;simp -zeta only[dR];intro a;have j:=px a;have s:∀f∈[b.size],f<a.size:=by simp[a]
 have J:=g.lJ.aT;have H:=g.p7;refine gP (n:=e.length) V (λ_ M=>D a M) cY ?_;rintro u v I μ G k w
 have c:=j.J k;refine⟨λq=>?_,λ_=>rA c⟩;simp only[bh]at q;let⟨x,t⟩:=dV e u;let⟨K,L,f,A,B,l,C,E,F,o,p⟩:=g.lJ.bt t;exact⟨V,V,_,c.aS o,_,c.aS p,(Om x.eY v f h (l.le c.le)).bL k s λz y M i=>⟨_,O,λ_=>rA (j.J i),λ_=>w V _ i⟩⟩
abbrev GII(c:ad)(a b:bg)(s:E)(l:List ab):Prop:=Gr c a b Cn 1 qD s l
def KR(Y:∀a∈c,a<b.size){R:af}(m:iF b d r R e)(hp:∀x∈e,x.aY.length<=3):
 bK dO 260 [.agg #[d.v,r.v]] b λae G=>∃s l,ae=s.v/\tr (dB c G) s l/\l.length=e.length/\(∀a∈l,a.length<=3)/\D b G:=by
 apply Dk
 simp -zeta only[dR]
 intro f H
 have N:=px f
 have v:∀y∈[b.size],y<f.size:=by simp[f]
 have ag:=px H
 have U:GII c f H (.mk f.size 0 0 0) []:=Gr.bF c bY
 have ak:=m.lJ.aT;have aj:=m.p7
 have B:∀a∈c,a<f.size:=λa u=>N.lt (Y a u)
 refine gL (n:=e.length) V (λk s M=>D f M/\∃l,GII c f M s l/\l.length=k/\∀a∈l,a.length<=3) ⟨ag,[],U,O,bO⟩ ?_
 rintro k s I P μ hk ⟨q,l,t,ah,A⟩ aa
 have p:=N.J q
 have g:=t.cJ
 refine dit (λX=>?_) λX=>?_
 .let⟨x,C⟩:=dV e k
  let⟨ac,al,y,Q,c2,c3,S,e1,e2,e3,e4⟩:=m.lJ.bt C
  have ai:=hp x (aZ C)
  have kH:∀(M:bg)(h:E)(a:ab),D I M->ba (dB (s.bz::c) M) h a->a.length<=3->mj (M.push (.cells (db [.s h]) Cn)) Cn [.s E.nil] 24 s (E.mk M.size 0 1 1) λK j=>gS [b.size] (M.push (.cells (db [.s h]) Cn)) j/\P K (eJ ((k:Int)+1)) j/\μ K (eJ ((k:Int)+1)) j<μ s k I:=λM h a w Z u=>
   Gr.nE qD.aP cD (t.ext qD.aP w) ((q.J w).fz []) ⟨h,O,Z⟩ V λr' j T z _ _=>⟨D.sN ((q.J w).bZ _) z.ext v,aa V _ _ ⟨z.ext,_,T,eX,λi g=>by
    rcases bU.1 g with g|g
    .exact A i g
    .simp at g;subst g;exact u⟩⟩
  refine(Ox (m.le p.le) k).bL q v λa m4 i L=>⟨_,O,λ_=>?_,λ_=>⟨V,V,ac,(p.J i).aS S,?_⟩⟩
  .intro o m6
   exact kH o _ [] (i.bZ _) pX bO
  .refine(vQ bO (j:=0) ((Q.ext (p.J i)).le EB) V).bL L v λad F o W J x5 u5=>⟨_,O,?_⟩
   intro m6
   have hg:GI (s.bz::c) m4 o ad F:=W.jY
   exact kH o _ F (i.J x5) (hg.cr (dE B L.aQ (oh i.aQ)) (oh J.2)) (oh J.2)
 .exact⟨s,l,O,t.cr qD.aP B cD V,V,A,p⟩
def ae0(c:af)(e:List j7)(a:Bk):Prop:=∀(b:bg)(d r t:E)(v:Int)(g:Prop)(f:Nat),iF b d r c e->iN b t a.bA->WB c e.length g f a->sT 296 [.agg #[d.v,r.v],.agg #[t.v,vi a.bQ],vi v] b
def EV{y:af}:∀c:Bk,ae0 y e c:=by
 refine Bk.ind ?_;intro bA ag Z b d r ah ac j ae z q X;have Y:=X.cy.1;simp only[Bk.mV,Bk.lV]at*;apply zD;simp -zeta only[dR];intro F G;let⟨J,hl⟩:=fU (a:=F) (c:=G) O O;have U:=q.aT;refine⟨λ_=>rA J,λ_=>?_⟩;refine gP (U▸q.kK) (λ_ M=>D G M) cY ?_;rintro E t ad μ hk K ab
 have f:=J.J K;refine⟨λh=>?_,λ_=>rA f⟩;simp only[bh]at h;let⟨x,s⟩:=dV bA E;let⟨pa,pk,k,o,P,g1,g2,Q,R⟩:=q.bt s;have A:=Y E x s;have S:=k.aT;have T:=o.aT;refine⟨V,V,_,f.aS P,_,f.aS g1,_,f.aS g2,_,f.aS Q,_,f.aS R,?_⟩;intro m3 m;have L:D t m:=by grind [D.push,D.aV]
 have s4:m.size=t.size+1:=by grind [bD]
 have p:∀c∈[t.size,F.size,b.size],c<m.size:=λc l=>by
  grind [D.J,D.lt]
 refine gP (S▸k.kK) (λ_ M=>D m M) cY ?_;rintro C H I1 μ1 hj i v;have w:=(f.J L).J i;refine⟨λh=>?_,λ_=>?_⟩
 .simp only[bh]at h;let⟨W,N⟩:=dV x.aO C;refine⟨V,V,W,(k.ext w).bt N,λ_=>?_,λ_=>v V _ i⟩;refine(Cy x.op H).bL i p λj u g B=>⟨_,O,λ_=>?_,λ_=>v V _ B⟩;have a:=w.J g;exact(sg (⟨z.le a.le,k.ext a,A.iY.jF⟩:At u d r pa pk y e x) C).bL B p λj m7 n I=>⟨_,O,λ_=>rA (a.J n),λ_=>v V _ I⟩
 .refine gP (T▸o.kK) (λ_ M=>D H M) cY ?_;rintro B u I2 μ2 hi g aa;have a:=w.J g;refine⟨λh=>?_,λ_=>ab V _ (((K.J L).J i).J g)⟩;simp only[bh]at h;let⟨c,l⟩:=dV x.dv B;let⟨tb,W,M,N⟩:=o.bt l;refine⟨V,V,_,a.aS M,_,a.aS N,?_⟩;exact(Z x (aZ s) c (aZ l) u d r tb ac j _ (z.le a.le) (W.le a.le) (A.dv B c l)).bL (i.J g) p λj m7 n I=>⟨_,O,λ_=>rA (a.J n),λ_=>aa V _ (g.J n)⟩
def Oz(Z:∀g∈c,g<b.size){x:af}(p:iF b d r x e){g:Prop}(N:CJ x e g W){z:Nat}{q:j7}(s:e[z]? =some q):oA 261 [.agg #[d.v,r.v],vi z] b c λl=>l.length<=q.df.length:=by
 apply Hj;simp -zeta only[dR];intro f E;have G:=px f;have B:∀j∈[b.size],j<f.size:=by simp[f]
 have R:=px E;have L:GI c f E (.mk f.size 0 0 0) []:=GI.gN c f;have ae:=p.lJ.aT;have aa:=br s;let⟨ad,ac,P,hw⟩:=N.eS q (aZ s);let⟨ah,v,j,T,k,I,X,m,Y,J,K⟩:=p.lJ.bt s;have ag:=k.aT;refine gL (n:=q.df.length) V (λt u M=>D f M/\∃l,GI c f M u l/\l.length<=t) ⟨R,[],L,bY⟩ ?_;rintro t u Q S μ ab ⟨H,l,o,hc⟩ F
 have a:=G.J H;refine⟨V,V,v,a.aS m,λh=>?_,λh=>⟨u,l,O,o.cW (λ_ h=>h) G.aQ,V,a⟩⟩;simp only[bh]at h;let⟨y,C⟩:=dV q.df t;refine⟨V,V,_,a.aS J,_,a.aS K,V,V,v,a.aS m,V,V,y,(k.ext a).bt C,?_⟩;refine(EV q.eY Q d r j y g _ (p.le a.le) (I.le a.le) P).bL H B λU m4 i w=>⟨_,O,λ_=>⟨V,V,v,(a.J i).aS m,V,V,y,(k.ext (a.J i)).bt C,?_⟩,λ_=>F V _ _ ⟨w,l,o.ext i,V⟩⟩;intro m5;exact GI.nE (o.ext i) (w.fz []) V λr m6 M A _ _=>⟨D.sN (w.bZ _) A.ext B,F V _ _ ⟨A.ext,_,M,eX⟩⟩
end
section
variable{b:ad}{e:bg}{d r:E}{f:List j7}{c:Prop}{W:Nat}
def CE(K:∀c∈b,c<e.size){lt:E}{s:af}{B:List ab}(w:iF e d r s f)(hW:W<=1000000)(hk:CJ s f c W)(ae:tr e lt B)(aJ:B.length=f.length)(ap:∀c∈B,c.length<=3):
 zk 259 [.agg #[d.v,r.v],lt.v] e b s λx=>CJ s x c W/\x.length=f.length:=by
 apply HI
 simp -zeta only[dR]
 intro g a2
 let⟨F,N⟩:=fU (a:=g) (c:=a2) O O
 have s1:=pz g
 have au:=w.lJ.aT;have aL:=w.p7
 refine(jK (b:=g.size::b) (dE K F.aQ (N _ bO)) (w.le F.le).bS w.dk).aP λ_ Q⟨dd,h,an,X⟩=>?_
 subst h
 refine⟨X.eV N,_,O,?_⟩
 intro n aB aC
 have u2:=F.J X
 let⟨x5,B0,g0,s3,s5⟩:=om (b:=n.size::g.size::b) lz.aP (d:=Q) (a:=n) (c:=aB) (j:=aC) O O O
 have ad:∀c∈[g.size,e.size],c<Q.size:=by grind [D.lt]
 have aG:∀c∈g.size::b,c<Q.size:=λc t=>X.lt (dE K F.aQ (N _ bO) c t)
 refine nV (R:=λj k M=>∃d r x,Value.agg #[j.v,k.v]=.agg #[d.v,r.v]/\iF (dB b M) d r s x/\(CJ s x c W/\x.length=f.length)/\D e M) lz.aP cD cD K ⟨V,ad _ bO⟩ u2 s3 an au V x5 B0 g0 (λ_ q=>q.aY.length<=3/\q.df.length<=3/\WB s f.length c q.aY.length q.eY/\q.eY.w<=W) (λk T ai m' h1 z j l m=>⟨k,T,ai,O,⟨h1,z,w.dk,V⟩,⟨Mh hk.jw j l,j⟩,m⟩) λah M o ai aE μ ao aI Z ac H aD=>?_
 let⟨q,hq⟩:=dV f ah ao
 let⟨ar,aH,ax,hw⟩:=hk.eS q (aZ hq)
 have v6:=u2.J Z
 let⟨aN,aO,m,c1,c2,c3,e0,e1,e2,e3,e4⟩:=w.lJ.bt hq
 have G:∀{ak:Value}{m v:Nat},aS e m v=some ak->aS M m v=some ak:=λJ=>v6.aS J
 refine⟨V,V,_,G e0,_,G e1,_,G e2,_,G e3,_,G e4,?_⟩
 intro m7 l
 have hy:=ac.cJ
 have aF:=H.lt
 have zM:=Z.aQ
 have Y:D M l:=by grind [D.push,D.aV]
 have s8:l.size=M.size+1:=by grind [bD]
 have A:∀c∈[M.size,g.size,e.size],c<l.size:=λc t=>by
  grind
 have y:=v6.J Y
 have k:∀{M1 M2:bg},D l M1->D l M2->∀m,m<l.size->∀v,aS M2 m v=aS M1 m v:=λJ h' m hb v=>bE cB v
 have u:M.size<l.size:=V
 have P:n.size<l.size:=V
 let⟨aa,ag⟩:=dV B ah
 let⟨yt,az,I⟩:=ae.bt ag
 have ay:=ap aa (aZ ag)
 have aK:=ae.aT
 have L:∀{M':bg},l.size<=M'.size->∀c∈o.bz::n.size::g.size::b,c<M'.size:=λJ c t=>by
  grind
 refine⟨o,(H.ext Y).dx 1,V,V,yt,y.aS I,?_⟩
 refine(dC (o.bz::n.size::g.size::b) (c1.ext y) V).bL (D.cU l) A λp' _ m9 gp h j _=>⟨_,O,k cY j _ u _,k cY j _ u _,k cY j _ u _,((y.J j).aS I).trans (y.aS I).symm,k cY j _ P _,?_⟩
 subst h
 refine(dC (o.bz::n.size::g.size::b) (az.ext (y.J j)) V).bL j A λt' _ aA gt h al p=>⟨_,O,k j p _ u _,k j p _ u _,k j p _ u _,k j p _ P _,?_⟩
 subst h
 have z9:=j.aQ;have AZ:=al.aQ
 refine(Ay q.eY (o.bz::n.size::g.size::b) aA (L V) m (c3.le (y.J p).le) V).bL p A λss b' aj av h am C=>⟨_,_,O,k p C _ u _,k p C _ P _,?_⟩
 subst h
 intro aM
 have U:=Y.J C
 have aP:=C.aQ
 have aq:ba (dB (o.bz::n.size::g.size::b) aj) p' q.aY:=(gp.cr (L V) V).le ((al.J am).fj)
 have aw:ba (dB (o.bz::n.size::g.size::b) aj) t' aa:=(gt.cr (L V) V).le am.fj
 exact Gr.bV (h:=[.s .nil,.s .nil,.i 0,.s .nil,.i 0]) (j:=1) (w:=88) (o:=[.s dd,.s o]) (v:=⟨q.aY,aa,q.bQ,q.eY⟩) lz.aP cD (ac.ext lz.aP U) ((Z.J U).fz []) ⟨p',t',ss,O,aq,aw,av⟩ V (H.ext U) bO cD ⟨V,bO⟩ (λc t=>by have h1:=A c t;have z:=ad c;simp only[bo]at t z;rcases t with h|h|h|h<;>first|omega|(have:=z (by simp[h]);omega)|simp at h) λT m' g' z f' z' q'=>aD T m' _ g' z f'.ext ⟨ar,ay,ax,hw⟩
def OE(hS:∀c∈b,c<e.size){w:af}(hn:iF e d r w f)(hW:W<=1000000)(hk:CJ w f c W):zk 244 [.agg #[E.v d,E.v r]] e b w λp=>CJ w p c W:=by
 apply Hm;simp -zeta only[kL,nO];intro k a2;let⟨x2,F⟩:=fU (a:=k) (c:=a2) O O;have s1:=pz k;clear_value a2;have ay:=hn.p7;have ag:∀c∈k.size::b,c<a2.size:=dE hS x2.aQ (F _ bO);have j:∀{M o:bg},D a2 M->D a2 o->∀aa,aS o e.size aa=aS M e.size aa:=λq h' aa=>bE (by rw[h'.bG _ (F _ bO),q.bG _ (F _ bO)]) aa;have tail:∀(J:bg)(a:Nat)(v u:E)(A:List j7),D a2 J->a2.size<=a->dF J a qU [.s v,.s u]->iF (dB (a::k.size::b) J) v u w A->CJ w A c W->
  ∃(I0:Int->bg->Prop)(μ0:Int->bg->Nat),I0 0 J/\(∀(l:Int)(t:bg),I0 l t->
   ((decide (l<=12))=true->
    let R:=t.push (.cells (db []) Cn)
    ∃(y:E->Int->bg->Prop)(μ1:E->Int->bg->Nat),y (E.mk t.size 0 0 0) 0 R/\(∀(s:E)(x:Int)(g:bg),y s x g->
     ∃B:E,aS g a 1=some (E.v B)/\
     ((decide (x<(B.len:Int)))=true->∃h:E,aS g a 0=some (E.v h)/\∃i:E,aS g a 1=some (E.v i)/\
      bK dO 261 [.agg #[E.v h,E.v i],vi x] g λr2 L=>gS [k.size,e.size] g L/\∃U:E,r2=E.v U/\
       let Z:=L.push (.cells (db [.s U]) Cn)
       mj Z Cn [.s E.nil] 24 s (E.mk L.size 0 1 1) λC z=>gS [k.size,e.size] Z z/\y C (eJ (x+1)) z/\μ1 C (eJ (x+1)) z<μ1 s x g)/\
     ((decide (x<(B.len:Int)))=false->∃h:E,aS g a 0=some (E.v h)/\∃i:E,aS g a 1=some (E.v i)/\
      bK dO 259 [.agg #[E.v h,E.v i],E.v s] g λG H=>gS [k.size,e.size] g H/\∃z:E,∃C:E,G=.agg #[E.v z,E.v C]/\jb H a 0 2/\
       let I:=aV H a 0 [.s z,.s C]
       gS [k.size,e.size] H I/\I0 (eJ (l+1)) I/\μ0 (eJ (l+1)) I<μ0 l t)))/\
   ((decide (l<=12))=false->∃h:E,aS t a 0=some (E.v h)/\∃i:E,aS t a 1=some (E.v i)/\
    let ac:=aV t k.size 0 [.s h,.s i]
    ∃d r p,Value.agg #[E.v h,E.v i]=.agg #[E.v d,E.v r]/\iF (dB b ac) d r w p/\CJ w p c W/\D e ac)):=by
  intro J a v u A Q ao hB hN P
  refine gP (n:=13) V (λ_ M=>D a2 M/\∃v u A,dF M a qU [.s v,.s u]/\iF (dB (a::k.size::b) M) v u w A/\CJ w A c W) ⟨Q,v,u,A,hB,hN,P⟩ ?_
  rintro aB t av μ ax ⟨x6,v,u,A,G,N,K⟩ au
  have aw:=G.lt
  have aA:=N.lJ.aT
  have az:=N.p7
  refine⟨λq=>?_,λq=>?_⟩
  .simp only[bh]at q
   intro R
   have al:=px R
   have g0:GII [] t R (.mk t.size 0 0 0) []:=Gr.bF _ bY
   refine gL (n:=A.length) V (λx s M=>D t M/\∃l,GII [] t M s l/\l.length=x/\∀c∈l,c.length<=3) ⟨al,[],g0,O,bO⟩ ?_
   rintro x s g I2 μ2 hf ⟨B,l,Y,am,y⟩ ai
   have u8:=x6.J B
   have N8:=N.le B.fj
   refine⟨u,(G.ext B).dx 1,dit (λC=>?_) λC=>?_⟩
   .let⟨T,X⟩:=dV A x
    have ak:=(K.eS T (aZ X)).2.1
    have h:=Y.cJ
    refine⟨v,(G.ext B).dx 0,u,(G.ext B).dx 1,?_⟩
    refine(Oz (c:=[s.bz]) eX (N8.le fN) K X).bL u8 F λU an L ae ap x9 u9=>⟨_,O,?_⟩
    intro Z
    refine Gr.nE qD.aP cD (Y.ext qD.aP x9) ((B.J x9).fz []) ⟨U,O,ae.cr eX V⟩ V λz o g' i _ _=>⟨D.sN (u9.bZ _) (x6.J i.ext) F,ai V _ _ ⟨i.ext,_,g',eX,λah h=>?_⟩⟩
    rcases bU.1 h with h|h
    .exact y ah h
    .simp at h;subst h;omega
   .refine⟨v,(G.ext B).dx 0,u,(G.ext B).dx 1,?_⟩
    have ae:tr g s l:=fX.le (Y.cr qD.aP bO cD V) fN (qD.le fN)
    have z8:=B.aQ
    refine(CE (b:=a::k.size::b) (λc i=>?_) (N8.le fN) hW K ae V y).aP λ_ H⟨d2,r2,ak,h,N2,⟨K2,_⟩,U⟩=>?_
    .rcases bo.1 i with h|h
     .omega
     .have:=ag c h;omega
    subst h
    have Z:=(G.ext B).ext U
    refine⟨u8.aa2 F U,_,_,O,Z.jb bO,?_⟩
    intro I
    have ah:∀L,L≠a->I[L]? =H[L]? :=λL hb=>cq _ _ _ _ hb
    refine⟨λc i=>ah c (oh (F c i)),au V _ ⟨(u8.J U).aV ao _ _,d2,r2,ak,dF.aV (m:=H) Z,N2.le (dW bO λ_ q=>q),K2⟩⟩
  .refine⟨v,G.dx 0,u,G.dx 1,?_⟩
   intro ac
   exact⟨v,u,A,O,(N.le (mS t λc i=>aX _ i)).le (dW bO λc i=>aX _ i),K,(x2.J x6).aV V _ _⟩
 have ap:∀T∈f,T.aY.length<=3:=λT X=>(hk.eS T X).1;have ai:∀(M:bg)(L:ad)(K:aj),D a2 M->(∀c∈L,c<M.size)->(∀s l o,tr o s l->l.length=f.length->(∀c∈l,c.length<=3)->D M o->K (E.v s) o)->bK dO 260 [.agg #[E.v d,E.v r]] M λah R=>gS L M R/\K ah R:=λM L K Q hL P=>
  (KR (c:=[]) bO (hn.le (x2.J Q).le) ap).aP λ_ o⟨s,l,h,H,C,y,U⟩=>⟨U.eV hL,h▸P s l o (fX.le H fN (qD.le fN)) C y U⟩
 have df:∀(M:bg)(S' L:ad)(K:aj)(s:E)(l:List ab),D a2 M->(∀c∈L,c<M.size)->(∀c∈S',c<M.size)->tr M s l->l.length=f.length->(∀c∈l,c.length<=3)->(∀B z p o,iF (dB S' o) B z w p->CJ w p c W->D M o->K (.agg #[E.v B,E.v z]) o)->bK dO 259 [.agg #[E.v d,E.v r],E.v s] M λah R=>gS L M R/\K ah R:=λM S' L K s l Q hL an H C y P=>
  (CE an (hn.le (x2.J Q).le) hW hk H C y).aP λ_ o⟨B,z,p,h,N,⟨K1,_⟩,U⟩=>⟨U.eV hL,h▸P B z p o N K1 U⟩
 have ak:∀{M:bg}{a:Nat},D a2 M->a<M.size->∀c∈a::k.size::b,c<M.size:=λq hb c i=>by
  have:=q.aQ;rcases bo.1 i with h|h
  .omega
  .have:=ag c h;omega
 have ae:∀{M:bg}{a:Nat},D a2 M->a<M.size->∀c∈[a,k.size,e.size],c<M.size:=λq hb c i=>by
  rcases bo.1 i with h|h
  .omega
  .exact q.lt (F c h)
 refine⟨ai a2 _ _ cY F λs l Z H C y g=>⟨_,O,j cY g _,j cY g _,⟨?_,?_⟩⟩,?_⟩
 .refine df Z (k.size::b) _ _ s l g (λc i=>g.lt (F c i)) (λc i=>g.lt (ag c i)) H C y λB z p m3 N K I=>⟨_,_,O,?_⟩;have x:=g.J I;intro m4;have Y:D a2 m4:=x.bZ _;refine⟨j x Y _,j x Y _,j x Y _,j x Y _,?_⟩;intro m5;have ac:=py m5;exact tail m5 m3.size B z p (x.J ac) x.aQ (dF.aV (m:=m4) (dF.push m3 _ _)) (N.le (ac.dB λc i=>by
   rcases bo.1 i with h|h
   .exact bR V
   .exact bC h)) K
 .intro Y;have x:D a2 Y:=g.bZ _;refine⟨j g x _,j g x _,j g x _,j g x _,?_⟩;refine df Y (Z.size::k.size::b) _ _ s l x (ae x (by simp[Y])) (ak x (by simp[Y])) (tr.ext (D.push _ _) H) C y λB z p ac N K I=>⟨_,_,O,?_⟩;intro al;exact tail al Z.size B z p ((x.J I).aV g.aQ _ _) g.aQ (dF.aV (m:=ac) ((dF.push Z _ _).ext I)) (N.le (dW bO λ_ q=>q)) K
 .intro Y;have x:=px Y;refine⟨j cY x _,j cY x _,j cY x _,j cY x _,?_⟩;refine ai Y _ _ x (ae x (by simp[Y])) λs l am H C y g=>⟨_,O,j x (x.J g) _,j x (x.J g) _,?_⟩;have ac:=x.J g;have al:a2.size<am.size:=g.lt (by simp[Y]);refine df am (a2.size::k.size::b) _ _ s l ac (ae ac al) (ak ac al) H C y λB z p aq N K I=>⟨_,_,O,?_⟩;intro ar;exact tail ar a2.size B z p ((ac.J I).aV bY _ _) bY (dF.aV (m:=aq) ((dF.push a2 _ _).ext (g.J I))) (N.le (dW bO λ_ q=>q)) K
end
end Go.Proofs.YtbbbdejieenniaaGreat
