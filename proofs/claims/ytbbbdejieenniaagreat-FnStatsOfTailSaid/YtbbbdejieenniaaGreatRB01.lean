/- Part of a proof. -/
import Derived.Test.YtbbbdejieenniaaGreatRB00
set_option linter.all false
set_option maxHeartbeats 8000000
set_option maxRecDepth 100000
namespace Go.Proofs.YtbbbdejieenniaaGreat
open Go.Vc
section
open Tryz
variable{m:D}{R:ak}
variable{a b p d e f g h r u v w x y z B:E}{i j k l q o s t C F G H I J K L:Int}
def wm(a b:Int)(c:Bool)(d e f:Int):=eS m R A0 [.agg [a,b,.t c,d,e,f]] func238
def wo(i:Int):=eS m R A0 [i] func239
def Cn(p:ai):=eS m R A0 [p,i] func240
def DW(a:E):=eS m R A0 [a,i,j] func241
def FZ(a:E):=eS m R ⟨[(3,[(4,.I)])],[(8,[(7,.P)])],[(3,[51,50]),(8,[54,51,50])]⟩ [.agg [a,b]] func242
def wP(r:ai)(m:D)(R:ak):Prop:=
 let N:D:=m.push (.cells (dh [.s E.nil,.s E.nil]) 109)
 bJ dP 200 [vp r.1 r.2] N λcb a=>
 gT [m.size] N a/\
 ∃o,cb=E.v o/\
 let b8:D:=a.push (.cells (dh [.s E.nil,.s E.nil]) 109)
 NE a.size a.size (
 let aa:D:=aW b8 a.size 0 [.s o,.s E.nil]
 let ah:D:=aa.push (.cells (dh [.i 1]) 3)
 bJ dP 257 [E.v (E.mk aa.size 0 1 1),vi 0] ah λcm G=>
 gT [a.size,m.size] ah G/\
 ∃ap aI a1 bh bz,cm=.agg #[E.v ap,vi aI,vi a1,vi bh,E.v bz]/\
 let an:D:=G.push (.cells (dh [.i 1,.i 1]) 3)
 bJ dP 257 [E.v (E.mk G.size 0 2 2),vi 1] an λct I=>
 gT [a.size,m.size] an I/\
 ∃aq aR a_ bi bA,ct=.agg #[E.v aq,vi aR,vi a_,vi bi,E.v bA]/\
 let ao:D:=I.push (.cells (dh [.i 1]) 3)
 bJ dP 257 [E.v (E.mk I.size 0 1 1),vi 1] ao λcu J=>
 gT [a.size,m.size] ao J/\
 ∃aA aT ba bq bI,cu=.agg #[E.v aA,vi aT,vi ba,vi bq,E.v bI]/\
 let O:D:=J.push (.cells (dh [.i 1,.i 0]) 3)
 bJ dP 257 [E.v (E.mk J.size 0 2 2),vi 1] O λcv t=>
 gT [a.size,m.size] O t/\
 ∃aB aU bb br bK,cv=.agg #[E.v aB,vi aU,vi bb,vi br,E.v bK]/\
 let P:D:=t.push (.cells (dh [.i 2,.i 1]) 3)
 bJ dP 257 [E.v (E.mk t.size 0 2 2),vi 1] P λcw u=>
 gT [a.size,m.size] P u/\
 ∃aC aV bc bs bL,cw=.agg #[E.v aC,vi aV,vi bc,vi bs,E.v bL]/\
 let Q:D:=u.push (.cells (dh [.i 1,.i 1]) 3)
 bJ dP 257 [E.v (E.mk u.size 0 2 2),vi 0] Q λcx c=>
 gT [a.size,m.size] Q c/\
 ∃aD aX bd bt bM,cx=.agg #[E.v aD,vi aX,vi bd,vi bt,E.v bM]/\
 let S:D:=c.push (.cells (dh [.s ap,.i aI,.i a1,.i bh,.s bz,.s aq,.i aR,.i a_,.i bi,.s bA,.s aA,.i aT,.i ba,.i bq,.s bI,.s aB,.i aU,.i bb,.i br,.s bK,.s aC,.i aV,.i bc,.i bs,.s bL,.s aD,.i aX,.i bd,.i bt,.s bM]) 164)
 let T:D:=S.push (.cells (dh [.i 3]) 3)
 bJ dP 257 [E.v (E.mk S.size 0 1 1),vi 0] T λcc v=>
 gT [a.size,m.size] T v/\
 ∃aE aY be bu bN,cc=.agg #[E.v aE,vi aY,vi be,vi bu,E.v bN]/\
 let U:D:=v.push (.cells (dh [.i 0]) 3)
 bJ dP 257 [E.v (E.mk v.size 0 1 1),vi 1] U λcd w=>
 gT [a.size,m.size] U w/\
 ∃aF aZ bf bv bO,cd=.agg #[E.v aF,vi aZ,vi bf,vi bv,E.v bO]/\
 let V:D:=w.push (.cells (dh [.i 0,.i 1]) 3)
 bJ dP 257 [E.v (E.mk w.size 0 2 2),vi 1] V λce x=>
 gT [a.size,m.size] V x/\
 ∃aG a0 bg bw bP,ce=.agg #[E.v aG,vi a0,vi bg,vi bw,E.v bP]/\
 let W:D:=x.push (.cells (dh [.i 3,.i 0]) 3)
 bJ dP 257 [E.v (E.mk x.size 0 2 2),vi 3] W λcf y=>
 gT [a.size,m.size] W y/\
 ∃aH aJ a2 bx bQ,cf=.agg #[E.v aH,vi aJ,vi a2,vi bx,E.v bQ]/\
 let X:D:=y.push (.cells (dh [.i 3]) 3)
 bJ dP 257 [E.v (E.mk y.size 0 1 1),vi 1] X λcg z=>
 gT [a.size,m.size] X z/\
 ∃ar aK a3 bj bB,cg=.agg #[E.v ar,vi aK,vi a3,vi bj,E.v bB]/\
 let Y:D:=z.push (.cells (dh [.i 1,.i 3,.i 0]) 3)
 bJ dP 257 [E.v (E.mk z.size 0 3 3),vi 0] Y λch g=>
 gT [a.size,m.size] Y g/\
 ∃au aL a4 bk bC,ch=.agg #[E.v au,vi aL,vi a4,vi bk,E.v bC]/\
 let Z:D:=g.push (.cells (dh [.s aE,.i aY,.i be,.i bu,.s bN,.s aF,.i aZ,.i bf,.i bv,.s bO,.s aG,.i a0,.i bg,.i bw,.s bP,.s aH,.i aJ,.i a2,.i bx,.s bQ,.s ar,.i aK,.i a3,.i bj,.s bB,.s au,.i aL,.i a4,.i bk,.s bC]) 164)
 let ab:D:=Z.push (.cells (dh [.i 0]) 3)
 bJ dP 257 [E.v (E.mk Z.size 0 1 1),vi 0] ab λci A=>
 gT [a.size,m.size] ab A/\
 ∃av aM a5 bl bD,ci=.agg #[E.v av,vi aM,vi a5,vi bl,E.v bD]/\
 let ac:D:=A.push (.cells (dh [.i 0,.i 0]) 3)
 bJ dP 257 [E.v (E.mk A.size 0 2 2),vi 0] ac λcj B=>
 gT [a.size,m.size] ac B/\
 ∃aw aN a6 bm bE,cj=.agg #[E.v aw,vi aN,vi a6,vi bm,E.v bE]/\
 let ad:D:=B.push (.cells (dh [.i 1,.i 0]) 3)
 bJ dP 257 [E.v (E.mk B.size 0 2 2),vi 0] ad λck C=>
 gT [a.size,m.size] ad C/\
 ∃ax aO a7 bn bF,ck=.agg #[E.v ax,vi aO,vi a7,vi bn,E.v bF]/\
 let ae:D:=C.push (.cells (dh [.i 0]) 3)
 bJ dP 257 [E.v (E.mk C.size 0 1 1),vi 1] ae λcl k=>
 gT [a.size,m.size] ae k/\
 ∃ay aP a8 bo bG,cl=.agg #[E.v ay,vi aP,vi a8,vi bo,E.v bG]/\
 let af:D:=k.push (.cells (dh [.s av,.i aM,.i a5,.i bl,.s bD,.s aw,.i aN,.i a6,.i bm,.s bE,.s ax,.i aO,.i a7,.i bn,.s bF,.s ay,.i aP,.i a8,.i bo,.s bG]) 164)
 let ag:D:=af.push (.cells (dh []) 3)
 bJ dP 257 [E.v (E.mk af.size 0 0 0),vi 0] ag λcn F=>
 gT [a.size,m.size] ag F/\
 ∃az aQ a9 bp bH,cn=.agg #[E.v az,vi aQ,vi a9,vi bp,E.v bH]/\
 bJ dP 74 [vp r.1 r.2,vi ((E.mk c.size 0 6 6).len:Int)] F λco i=>
 gT [a.size,m.size] F i/\
 ∃d,co=vi d/\
 0<=d/\d<((E.mk c.size 0 6 6).len:Int)/\
 ∃bS,aS i c.size (0+Int.toNat d*5)=some (E.v bS)/\
 ∃bT,aS i c.size (0+Int.toNat d*5+1)=some (vi bT)/\
 ∃bU,aS i c.size (0+Int.toNat d*5+2)=some (vi bU)/\
 ∃bV,aS i c.size (0+Int.toNat d*5+3)=some (vi bV)/\
 ∃bW,aS i c.size (0+Int.toNat d*5+4)=some (E.v bW)/\
 bJ dP 74 [vp r.1 r.2,vi ((E.mk g.size 0 6 6).len:Int)] i λcp e=>
 gT [a.size,m.size] i e/\
 ∃h,cp=vi h/\
 aS e c.size (0+Int.toNat d*5)=aS i c.size (0+Int.toNat d*5)/\
 aS e c.size (0+Int.toNat d*5+1)=aS i c.size (0+Int.toNat d*5+1)/\
 aS e c.size (0+Int.toNat d*5+2)=aS i c.size (0+Int.toNat d*5+2)/\
 aS e c.size (0+Int.toNat d*5+3)=aS i c.size (0+Int.toNat d*5+3)/\
 aS e c.size (0+Int.toNat d*5+4)=aS i c.size (0+Int.toNat d*5+4)/\
 0<=h/\h<((E.mk g.size 0 6 6).len:Int)/\
 ∃bX,aS e g.size (0+Int.toNat h*5)=some (E.v bX)/\
 ∃bY,aS e g.size (0+Int.toNat h*5+1)=some (vi bY)/\
 ∃bZ,aS e g.size (0+Int.toNat h*5+2)=some (vi bZ)/\
 ∃b0,aS e g.size (0+Int.toNat h*5+3)=some (vi b0)/\
 ∃b1,aS e g.size (0+Int.toNat h*5+4)=some (E.v b1)/\
 bJ dP 74 [vp r.1 r.2,vi ((E.mk k.size 0 4 4).len:Int)] e λcq b=>
 gT [a.size,m.size] e b/\
 ∃n,cq=vi n/\
 aS b g.size (0+Int.toNat h*5)=aS e g.size (0+Int.toNat h*5)/\
 aS b g.size (0+Int.toNat h*5+1)=aS e g.size (0+Int.toNat h*5+1)/\
 aS b g.size (0+Int.toNat h*5+2)=aS e g.size (0+Int.toNat h*5+2)/\
 aS b g.size (0+Int.toNat h*5+3)=aS e g.size (0+Int.toNat h*5+3)/\
 aS b g.size (0+Int.toNat h*5+4)=aS e g.size (0+Int.toNat h*5+4)/\
 aS b c.size (0+Int.toNat d*5)=aS e c.size (0+Int.toNat d*5)/\
 aS b c.size (0+Int.toNat d*5+1)=aS e c.size (0+Int.toNat d*5+1)/\
 aS b c.size (0+Int.toNat d*5+2)=aS e c.size (0+Int.toNat d*5+2)/\
 aS b c.size (0+Int.toNat d*5+3)=aS e c.size (0+Int.toNat d*5+3)/\
 aS b c.size (0+Int.toNat d*5+4)=aS e c.size (0+Int.toNat d*5+4)/\
 0<=n/\n<((E.mk k.size 0 4 4).len:Int)/\
 ∃b2,aS b k.size (0+Int.toNat n*5)=some (E.v b2)/\
 ∃b3,aS b k.size (0+Int.toNat n*5+1)=some (vi b3)/\
 ∃b4,aS b k.size (0+Int.toNat n*5+2)=some (vi b4)/\
 ∃b5,aS b k.size (0+Int.toNat n*5+3)=some (vi b5)/\
 ∃b6,aS b k.size (0+Int.toNat n*5+4)=some (E.v b6)/\
 let b9:D:=b.push (.cells (dh [.s az,.i aQ,.i a9,.i bp,.s bH,.s bS,.i bT,.i bU,.i bV,.s bW,.s bX,.i bY,.i bZ,.i b0,.s b1,.s b2,.i b3,.i b4,.i b5,.s b6]) 164)
 NE a.size a.size (
 let aj:D:=aW b9 a.size 1 [.s (E.mk b.size 0 4 4)]
 let al:D:=aj.push (.cells (dh [.i 4,.i 4,.i 3,.i 2,.i 4]) 3)
 bJ dP 77 [vp r.1 r.2,E.v (E.mk aj.size 0 5 5)] al λcr am=>
 gT [a.size,m.size] al am/\
 ∃j,cr=vi j/\
 NE a.size a.size (
 (0:Int)<=0/\0<=j/\j<=((E.mk b.size 0 4 4).cap:Int)/\
 NE a.size a.size (
 let b_:D:=aW am a.size 1 [.s (E.cut (E.mk b.size 0 4 4) 0 (Int.toNat j) 5)]
 ∃(s:Int->D->Prop)(μ0:Int->D->Nat),
 s (eV (j -1)) b_/\
 (∀(f:Int)(p:D),s f p->
 (decide (f>=0)=true->
 NE a.size a.size (
 bJ dP 258 [vp r.1 r.2,.agg #[E.v o,E.v (E.cut (E.mk b.size 0 4 4) 0 (Int.toNat j) 5)],vi f] p λcs l=>
 gT [a.size,m.size] p l/\
 ∃K L M,cs=.agg #[vi K,vi L,E.v M]/\
 let ca:D:=l.push (.cells (dh [.i 0,.i 0,.s E.nil]) 162)
 NE l.size l.size (
 let q:D:=aW ca l.size 0 [.i K,.i L,.s M]
 NE a.size a.size (
 NE a.size a.size (
 0<=f/\f<((E.cut (E.mk b.size 0 4 4) 0 (Int.toNat j) 5).len:Int)/\
 ∃b7,aS q b.size (0+Int.toNat f*5)=some (E.v b7)/\
 NE a.size a.size (
 0<=f/\f<((E.cut (E.mk b.size 0 4 4) 0 (Int.toNat j) 5).len:Int)/\
 ∃bR,aS q b.size (0+Int.toNat f*5+1)=some (vi bR)/\
 NE l.size l.size (
 0<=f/\f<((E.cut (E.mk b.size 0 4 4) 0 (Int.toNat j) 5).len:Int)/\
 gK q b.size (0+Int.toNat f*5) 5/\
 let H:D:=aW q b.size (0+Int.toNat f*5) [.s b7,.i bR,.i K,.i L,.s M]
 gT [l.size,a.size,m.size] q H/\
 eqS (SV.box a.size 109 [.s o,.s (E.cut (E.mk b.size 0 4 4) 0 (Int.toNat j) 5)]) (SV.box a.size 109 [.s o,.s (E.cut (E.mk b.size 0 4 4) 0 (Int.toNat j) 5)]) (
 eqS (SV.box m.size 109 [.s E.nil,.s E.nil]) (SV.box m.size 109 [.s E.nil,.s E.nil]) (
 s (eV (f -1)) H/\μ0 (eV (f -1)) H<μ0 f p)))))))))/\
 (decide (f>=0)=false->
 NE a.size a.size (
 NE m.size m.size (
 let l:D:=aW p m.size 0 [.s o,.s (E.cut (E.mk b.size 0 4 4) 0 (Int.toNat j) 5)]
 NE m.size m.size (
 R (.agg #[E.v o,E.v (E.cut (E.mk b.size 0 4 4) 0 (Int.toNat j) 5)]) l)))))))))
def Cp(r:ai)(m:D)(R:ak)(a:wP r m R):bJ dP 243 [vp r.1 r.2] m R:=
 vk (o:=⟨[(9,[(8,.I)])],[],[(9,[113,112])]⟩) (d:=110) (r:=[.cell 2 109]) (a:=[.c (.p r.1 r.2)]) Rl gok mix Tryz.func243 (m:=Me Tryz.f243) (by kernel_rfl) (by kernel_rfl) (by kernel_rfl) (by kernel_rfl) bO (by kernel_rfl) (Eq.mp (by kernel_rfl) a)
def HL(a:E):=eS m R ⟨[(3,[(4,.I)]),(7,[(5,.S),(6,.I)])],[],[(3,[35,34]),(7,[35,34])]⟩ [.agg [a,b]] func244
def Fv(a:E):=eS m R ⟨[(5,[(6,.S),(7,.S),(8,.I)])],[],[(5,[69,68,67])]⟩ [.agg [a,b],.agg [p,d,i,e,j]] func245
def FL(a:E):=eS m R ⟨[(5,[(9,.S),(10,.S),(11,.S),(12,.I)])],[],[(5,[88,86,84])]⟩ [.agg [a,b],p,.agg [d,i],e] func246
def Ga(a:E):=eS m R ⟨[(3,[(3,.S),(4,.I)])],[],[(3,[32])]⟩ [.agg [a,b,i,p,j]] func247
def CE(a:E):=eS m R ⟨[(4,[(3,.I)])],[],[(4,[36])]⟩ [.agg [a,b]] func248
def FT(a:E):=eS m R ⟨[(3,[(4,.I)])],[],[(3,[46])]⟩ [.agg [a,b,i,p,j]] func249
def Ct(c:ai):=eS m R ⟨[],[(16,[(8,.T)])],[(16,[94,93])]⟩ [c,.agg [a,b],.agg [i,j,k,p,d]] func250
def Lr(i:Int):=eS m R A0 [.agg [i,j,k,a,b]] func251
def HY(a:E):=eS m R ⟨[(5,[(3,.S),(4,.S),(6,.I)]),(8,[(3,.S),(7,.I)]),(11,[(4,.S),(7,.I)])],[],[]⟩ [a] func252
def JS(a:E):=eS m R ⟨[(8,[(10,.S),(11,.S),(12,.I)])],[],[(8,[96,92])]⟩ [.agg [a,i],j,b,k] func253
def HV(a:E):=eS m R A0 [.agg [a,b],.agg [i,j,k,p,d],l,e] func254
def nB(s:E)(f:Fn×Array Value×Array Value):=eS m R ⟨[(2,[(8,.I)])],[],[]⟩ [s,.c (.fv f)] func255
def DJ(a:E):=eS m R A0 [.agg [a,b],.agg [i,j,p],d,k] func256
def Q8(a:E):=eS m R A0 [a,i] func257
def Lc(p:ai):=eS m R ⟨[],[(7,[(34,.T)]),(9,[(51,.T)]),(11,[(77,.T)]),(15,[])],[(7,[131,127,125]),(9,[131,127,125]),(11,[131,127,125]),(15,[127,125])]⟩ [p,.agg [a,b],i] func258
def Ih(a:E):=eS m R ⟨[(3,[(6,.I)])],[],[(3,[49,47])]⟩ [.agg [a,b],p] func259
def Dy(a:E):=eS m R ⟨[(3,[(3,.S),(4,.I)])],[],[(3,[32])]⟩ [.agg [a,b]] func260
def HI(a:E):=eS m R ⟨[(3,[(5,.S),(6,.I)])],[],[(3,[52])]⟩ [.agg [a,b],i] func261
def LG(a:E):=eS m R A0 [.agg [a,i],j] func262
def DA(a:E):=eS m R ⟨[(5,[(11,.S),(12,.S),(13,.S),(14,.I)]),(17,[(13,.S),(20,.I)])],[],[(5,[159,156,154]),(17,[164,159,156,154])]⟩ [.agg [a,b],p,.agg [d,i],e,f] func263
def Fy(i:Int):=eS m R ⟨[(3,[(5,.S),(6,.I)])],[],[]⟩ [i,a] func264
def Ic(a:E):=eS m R ⟨[],[(3,[]),(30,[(151,.T)])],[(3,[188,186]),(30,[188,186])]⟩ [.agg [a,b],p,.agg [i,j,k,d,e]] func265
def yO(a:E):=eS m R ⟨[(3,[(7,.S),(8,.I)])],[],[(3,[36,34])]⟩ [.agg [a,b],p,.agg [i,j,k,d,e]] func266
def HK(a:E):=eS m R ⟨[(4,[(7,.S),(9,.I)])],[(9,[(10,.S)])],[(4,[78,77,75]),(9,[78,77,75])]⟩ [.agg [a,b],p,.agg [i,j,k,d,e]] func267
def yp(a:E):=eS m R ⟨[(4,[(3,.I)])],[],[(4,[36])]⟩ [.agg [a,b]] func268
def J3(a:E):=eS m R A0 [.agg [a,i]] func269
def Fm(a:E):=eS m R ⟨[(3,[(7,.S),(8,.I)])],[],[(3,[57,55])]⟩ [.agg [a,b],p,.agg [d,i]] func270
def Cr(p:ai):=eS m R A0 [p,i,j,k] func271
def Cu(p:ai):=eS m R A0 [p,i] func272
def Cs(c:ai):=eS m R ⟨[(6,[(9,.I)])],[(4,[])],[(4,[110,109]),(6,[110,109])]⟩ [c,.agg [a,b],.agg [i,j,k,p,d]] func273
def Ad(c:ai):=eS m R ⟨[(7,[(9,.I)])],[(3,[])],[(3,[93,92]),(7,[93,92])]⟩ [c,.agg [a,b],.agg [i,j,k,p,d]] func274
def yi(c:ai):=eS m R ⟨[(2,[(7,.I)]),(7,[(8,.I)])],[],[(2,[84,83]),(7,[84,83])]⟩ [c,.agg [a,b],.agg [i,j,k,p,d]] func275
def LN(a:E):=eS m R ⟨[(3,[(3,.S),(4,.I)])],[],[]⟩ [a] func276
def MW(a:E):=eS m R ⟨[(3,[(5,.I),(6,.I)])],[],[]⟩ [a,i] func277
def Ge(a:E):=eS m R ⟨[(2,[(3,.I)])],[],[(2,[21])]⟩ [.agg [a,i]] func278
def Hq(a:E):=eS m R ⟨[(3,[(7,.S),(8,.I)])],[],[(3,[38])]⟩ [.agg [a,i],j,k] func279
def Bl(a:E):=eS m R ⟨[(4,[(5,.S),(6,.T),(7,.I)])],[],[]⟩ [a,i] func280
def HU(a:E):=eS m R A0 [.agg [a,i],j,k] func281
def DG(a:E):=eS m R ⟨[(2,[(3,.I)])],[],[(2,[22])]⟩ [.agg [a,i]] func282
def LF(a:E):=eS m R ⟨[(2,[(9,.I)])],[],[(2,[40])]⟩ [.agg [a,i],j,k,l] func283
def Ln(a:E):=eS m R ⟨[(4,[(5,.S),(6,.T),(7,.I)])],[],[]⟩ [a,i] func284
def yQ(c:ai):=eS m R ⟨[(13,[(11,.S),(13,.I)]),(22,[(15,.S),(16,.I)])],[(18,[(14,.I)])],[(13,[154,153]),(18,[154,153]),(22,[154,153])]⟩ [c,.agg [a,b],.agg [i,j,p],d] func285
def JU(a:E):=eS m R ⟨[(2,[(5,.I)])],[],[]⟩ [a,i] func286
def JL(i:Int):=eS m R A0 [i] func287
def HM(p:ai):=eS m R ⟨[],[(5,[])],[(5,[31,30])]⟩ [p,.agg [a,b]] func288
def HO(p:ai):=eS m R ⟨[(6,[(12,.S),(13,.I)])],[(19,[]),(22,[])],[(6,[144,141]),(19,[151,150,144,141]),(22,[150,144,141])]⟩ [p,.agg [a,b],i,j] func289
def HP(p:ai):=af0 m R ⟨[(6,[(9,.S),(10,.S),(11,.I)])],[(13,[(14,.P)]),(15,[])],[(6,[102,100]),(13,[109,108,102,100]),(15,[109,108,102,100])]⟩ [p,.agg [a,b],i] func290
def HA(p:ai):=eS m R ⟨[(4,[(8,.S),(9,.I)])],[(10,[])],[(4,[81,79]),(10,[81,79])]⟩ [p,.agg [a,b],i] func291
def JG(c:ai):=eS m R ⟨[(2,[(4,.I)])],[],[(2,[44,40])]⟩ [c,.agg [a,b],p,i,j] func292
def JR(i:Int):=eS m R A0 [.agg [i,j,a]] func293
def vO(a:E):=eS m R ⟨[(3,[(4,.I)])],[],[(3,[30,29])]⟩ [.agg [a,i]] func294
def HH(a:E):=eS m R ⟨[(2,[(5,.I)])],[],[(2,[23])]⟩ [.agg [a,b],i] func295
def zY(a:E):=eS m R ⟨[(4,[(7,.I)]),(8,[(9,.I)]),(13,[(10,.I)])],[],[(4,[72,71]),(8,[76,72,71]),(13,[76,72,71])]⟩ [.agg [a,b],.agg [p,i],j] func296
def Jv(a:E):=eS m R ⟨[(2,[(3,.S),(9,.I)])],[],[(2,[44])]⟩ [.agg [a,i],j,k,b] func297
def Nm(a:E):=eS m R ⟨[(3,[(5,.S),(6,.I)])],[],[]⟩ [a,b] func298
def DB(a:E):=eS m R ⟨[(3,[(11,.S),(12,.I)])],[],[(3,[50,48])]⟩ [.agg [a,b],p,.agg [i,j,k,d,e],f,g] func299
def Fx(a:E):=eS m R ⟨[(4,[(11,.S),(13,.I)])],[],[(4,[72,69,67])]⟩ [.agg [a,b],p,.agg [i,j,k,d,e],f,g] func300
def FO(a:E):=eS m R ⟨[(5,[(11,.S),(12,.I)])],[],[(5,[62,60])]⟩ [.agg [a,b],p,.agg [i,j,k,d,e],f,g] func301
def FQ(a:E):=eS m R ⟨[(3,[(9,.S),(10,.I)])],[],[(3,[55,54])]⟩ [.agg [a,b],.agg [i,j,k,p,d],e,f] func302
def Kb(a:E):=eS m R ⟨[(3,[(5,.S),(6,.I)])],[],[]⟩ [a,i] func303
def Lm(i:Int):=eS m R A0 [i] func304
def Gl(a:E):=eS m R A0 [a,.agg [i,j,k,b,p]] func305
def Nl(a:E):=eS m R ⟨[(4,[(7,.I)])],[],[]⟩ [a,b,p] func306
def HJ(a:E):=eS m R ⟨[(9,[(9,.I),(10,.I)])],[(5,[(8,.I)])],[(5,[76,74]),(9,[76,74])]⟩ [.agg [a,b],p,.agg [i,j,k,d,e]] func307
def Cx(a:E):=eS m R A0 [.agg [a,b],p,.agg [i,j,k,d,e]] func308
def JM(a:E):=eS m R A0 [a,i] func309
def AY(a:E):=eS m R A0 [.agg [a,b],p,.agg [i,j,k,d,e]] func310
def DE(a:E):=eS m R A0 [.agg [a,b],p,.agg [i,j,k,d,e],l] func311
def LC(a:E):=eS m R ⟨[(3,[(4,.I)])],[],[(3,[37,36])]⟩ [.agg [a,b]] func312
def Gh(a:E):=eS m R ⟨[(2,[(1,.I),(5,.I)]),(8,[(1,.I),(6,.I)])],[],[(2,[45]),(8,[45])]⟩ [.agg [a,i],j] func313
def DI(c:ai):=eS m R ⟨[(9,[(14,.I)])],[],[(9,[89,88])]⟩ [c,.agg [a,b],.agg [i,j,k,p,d],l] func314
def Lt(a:E):=eS m R A0 [.agg [a,b],.agg [i,j,k,p,d],l] func315
def ML(a:E):=eS m R ⟨[(2,[(7,.I)])],[],[(2,[47])]⟩ [.agg [a,i],j,k] func316
def DF(i:Int):=eS m R A0 [i] func317
def Bb(p:ai):=eS m R A0 [p,.agg [i,j,k,a,b]] func318
def Q2(c:ai):=eS m R A0 [c,.agg [a,b],p,i,j] func319
def OW(i:Int):=eS m R A0 [i,j,a] func320
def JQ(p:ai):=eS m R ⟨[(8,[(9,.I)])],[(5,[(7,.P)])],[(5,[51,50,49]),(8,[50,49])]⟩ [p,i] func321
def If(i:Int):=eS m R A0 [i] func322
def OS(c:ai):=eS m R A0 [c,.agg [a,b],p,i] func323
def FV(i:Int):=eS m R ⟨[(5,[(1,.I),(5,.I)])],[],[(5,[29])]⟩ [.agg [i,j,a],k] func324
def Hw(i:Int):=eS m R ⟨[(3,[(3,.S),(4,.I)])],[],[(3,[35,34])]⟩ [.agg [i,j,k,a,b]] func325
def Hu(a:E):=eS m R ⟨[(2,[(5,.I)]),(7,[(6,.I)])],[],[(2,[55]),(7,[55])]⟩ [.agg [a,i],j] func326
def Cj(i:Int):=eS m R ⟨[(4,[(2,.S),(7,.I)]),(9,[(2,.S),(8,.I)])],[],[(4,[61]),(9,[61])]⟩ [.agg [i,j,k,a,b],l,p] func327
def JN(a:E):=eS m R A0 [.agg [a,b],.agg [i,j,k,p,d],l,e,f] func328
def Hx(a:E):=eS m R ⟨[(7,[(16,.S),(17,.S),(18,.I)]),(14,[(19,.S),(20,.I)])],[],[(7,[127,124,121]),(14,[127,124,121])]⟩ [.agg [a,b],p,d,.agg [e,i],f,g] func329
def Lf(a:E):=eS m R ⟨[(3,[(5,.S),(6,.I)])],[],[]⟩ [a,b] func330
def Jz(a:E):=eS m R ⟨[(2,[(7,.I)])],[],[]⟩ [a,i,j] func331
def Ae(p:ai):=eS m R A0 [p] func332
def A3(c:ai):=eS m R ⟨[(2,[(9,.I)])],[],[(2,[51,50])]⟩ [c,.agg [a,b],.agg [p,i],j] func333
def Jy(c:ai):=eS m R A0 [c,.agg [a,b],p] func334
def Ll(c:ai):=eS m R ⟨[(3,[(11,.S),(12,.I)])],[],[(3,[42])]⟩ [c,.agg [a,b],p,d,i] func335
def HD(c:ai):=eS m R ⟨[(7,[(13,.S),(14,.I)])],[(4,[(11,.I)])],[(4,[79,75]),(7,[79,75])]⟩ [c,.agg [a,b],p,i,j] func336
def Hs(a:E):=eS m R ⟨[(3,[(5,.S),(6,.I)]),(7,[(7,.T),(8,.I)])],[],[(3,[59]),(7,[59])]⟩ [.agg [a,b],i] func337
def HF(c:ai):=eS m R ⟨[(3,[(11,.I)])],[(7,[])],[(3,[130,126]),(7,[130,126])]⟩ [c,.agg [a,b],p,i,j] func338
def JX(p:ai):=eS m R A0 [p] func339
def DV(a:E):=eS m R ⟨[(3,[(5,.S),(6,.I)])],[],[]⟩ [a,i] func340
def JA(a:E):=eS m R A0 [.agg [a,b],p,i] func341
def H9(p:ai):=eS m R ⟨[(11,[(9,.S),(11,.I)]),(21,[(15,.S),(16,.I)])],[(6,[(8,.I)]),(8,[(8,.I)]),(17,[(80,.T)])],[(6,[124,122]),(8,[124,122]),(11,[124,122]),(17,[124,122]),(21,[124,122])]⟩ [p,.agg [a,b],i] func342
def Be(a:E):=eS m R ⟨[(2,[(7,.I)])],[],[(2,[46,45])]⟩ [.agg [a,b],.agg [i,j,k,p,d],l] func343
def MG(a:E):=eS m R ⟨[(3,[(5,.S),(6,.I)])],[],[]⟩ [a,i] func344
def DH(p:ai):=eS m R ⟨[(2,[(5,.I)])],[],[]⟩ [p,i] func345
def Ht(a:E):=eS m R ⟨[(3,[(5,.S),(6,.I)])],[],[(3,[55])]⟩ [.agg [a,b],i] func346
end
end Go.Proofs.YtbbbdejieenniaaGreat
namespace Go.Proofs.YtbbbdejieenniaaGreat
open Go.Vc
section
variable{m:D}{a:E}{l:ab}
def dm{n b a:Int}:ir dP 29 [vi n,vi b,vi a] m (b<=n/\n<=a):=by
 apply JK;constructor<;>grind [J.cX]
def mO(a:Int)(m:D):ir dP 205 [vi a] m (0<=a/\a<=11):=by
 apply JF;exact(dm).cg λd e c b=>⟨_,O,lI c b⟩
def kT(a:Int):Prop:=0<=a/\a<=11/\a≠7/\a≠8\/a=18\/a=19
def Cy(a:Int)(m:D):ir dP 147 [vi a] m (kT a):=by
 apply O3;refine(mO _ _).cg λb e d c=>⟨_,O,λh=>?_,λh=>?_⟩
 .grind [kT]
 .grind [kT]
def fI(c:bg m a l)(d:Int):ir dP 174 [a.v,vi d] m (d∈l):=by
 apply ON;have g:=c.aT;refine iC (n:=l.length) (g▸c.kM) (λk b=>J m b/\∀y∈l.take k,y≠d) ⟨dt,bO⟩ ?_;rintro k p I μ o ⟨e,i⟩ j
 refine⟨λh=>?_,λh=>?_⟩
 .simp only[bh]at h;let⟨x,f⟩:=dY l k;refine⟨V,V,x,by simpa using e.aS (c.br f),λb=>?_,λb=>?_⟩
  .grind [ba]
  .simp only[bd]at b;exact j V _ ⟨e,eI f i b⟩
 .grind [decide_eq_false_iff_not]
def An(n:Nat)(t:Int):Prop:=0<=t/\t<=n
def Ij(n:Nat)(l:ab):Prop:=∀t∈l,An n t
def AQ(c:bg m a l){bR:E}:ir dP 104 [bR.v,a.v] m (Ij bR.len l):=by
 apply Hm;have i:=c.aT;refine iC (n:=l.length) (i▸c.kM) (λk b=>J m b/\∀t∈l.take k,An bR.len t) ⟨dt,bO⟩ ?_;rintro k r I μ q ⟨b,g⟩ o
 refine dit (λh=>?_) λh=>?_
 .let⟨x,d⟩:=dY l k;refine⟨V,V,x,by simpa using b.aS (c.br d),?_⟩;exact(dm).cg λp s f e=>⟨_,O,λh=>gH (λj=>nb f h (j x (ba d))) (b.N e),λh=>o V _ ⟨b.N e,eI d g (yb f h)⟩⟩
 .exact pX (iB V g) b
def Km(l:ab)(c a b:Int):Prop:=(l.length:Int)=c/\∀t∈l,a+1<=t/\t<=b -1
def J7(f:bg m a l){j b c:Int}(w: -1<=b/\b<9223372036854775807)(e:0<=c/\c<=9223372036854775807):
 ir dP 152 [a.v,vi j,vi b,vi c] m (Km l j b c):=by
 apply DT
 have p:=f.aT
 refine⟨λh=>?_,λh=>?_⟩
 .simp only[Uu]at h
  exact gH (λg=>h (by rw[p];exact g.1)) dt
 .simp only[nX]at h
  have u:j=(l.length:Int):=cC
  subst u
  have r:eV (b+1)=b+1:=by grind [dk]
  have s:eV (c -1)=c -1:=by grind [dk]
  rw[r,s]
  refine iC (n:=l.length) (p▸f.kM) (λk d=>J m d/\∀t∈l.take k,b+1<=t/\t<=c -1) ⟨dt,bO⟩ ?_
  rintro k z I μ y ⟨d,q⟩ t
  refine dit (λh=>?_) λh=>?_
  .let⟨x,i⟩:=dY l k
   refine⟨V,V,x,by simpa using d.aS (f.br i),?_⟩
   exact(dm).cg λv A o e=>⟨_,O,λh=>gH (λg=>nb o h (g.2 x (ba i))) (d.N e),λh=>t V _ ⟨d.N e,eI i q (yb o h)⟩⟩
  .exact pX ⟨O,iB V q⟩ d
def Ej(a cW:ab):Prop:=∀(k:Nat)(v:Int),cW[k]? =some v->(∃t,0<=v/\a[v.toNat]? =some t/\t≠0)/\(∀u:Int,0<k->cW[k -1]? =some u->u<v)
def zy{A cW:E}{p:ab}(g:bg m A p)(f:bg m cW l):ir dP 105 [E.v A,E.v cW] m (Ej p l):=by
 apply Gm;have L:=f.aT;have M:=g.aT;have U:=g.kM;have G:eV ((A.len:Int) -1)=(p.length:Int) -1:=by rw[dk V V,M]
 rw[G];have T:=f.kM;refine iC (n:=l.length) (L▸f.kM) (λk N=>J m N/\∀(j:Nat)(v:Int),j<k->l[j]? =some v->(∃t,0<=v/\p[v.toNat]? =some t/\t≠0)/\(∀u:Int,0<j->l[j -1]? =some u->u<v)) ⟨dt,bO⟩ ?_;rintro k P Q μ S ⟨i,w⟩ D
 refine dit (λh=>?_) λh=>?_
 .let⟨x,c⟩:=dY l k;have g1:aS P cW.bt (cW.off+Int.toNat k*1)=some (vi x):=by simpa using i.aS (f.br c)
  refine⟨V,V,x,g1,?_⟩;refine(dm).cg λR W B d=>⟨_,O,λh=>?_,λh=>?_⟩
  .refine gH (λg=>nb B h ?_) (i.N d);obtain⟨⟨t,b,s,_⟩,_⟩:=g k x c;have:=bC s;omega
  .have C:=yb B h;let⟨t,q⟩:=dY p x.toNat;have I:=(i.N d).aS (g.br q);have o:=i.N d;refine⟨V,V,x,d.aS g1,V,V,t,sp I,λb=>?_,λb=>?_⟩
   .simp only[bQ]at b;refine gH (λa=>?_) o;obtain⟨⟨y,_,e,r⟩,_⟩:=a k x c;rw[q]at e;simp at e;exact r (e▸b)
   .simp only[bd]at b;refine dit (λs=>?_) λs=>?_
    .have H:eV ((k:Int) -1)=((k -1:Nat):Int):=by rw[dk V V];omega
     let⟨F,z⟩:=dY l (k -1);rw[H];refine⟨V,V,x,d.aS g1,V,V,F,by simpa using o.aS (f.br z),dit (λe=>?_) λe=>?_⟩
     .refine gH (λa=>?_) o;have:=(a k x c).2 F V z;omega
     .refine D V _ ⟨o,λj v K a=>?_⟩
      by_cases r:j=k
      .subst r;rw[c]at a;simp at a;subst a;refine⟨⟨t,C.1,q,b⟩,λu _ y=>?_⟩;rw[z]at y;simp at y;subst y;omega
      .exact w j v V a
    .refine D V _ ⟨o,λj v K a=>?_⟩
     by_cases r:j=k
     .subst r;rw[c]at a;simp at a;subst a;exact⟨⟨t,C.1,q,b⟩,λu e _=>V⟩
     .exact w j v V a
 .exact pX (λj v a=>w j v (oh (bC a)) a) i
end
section
variable{m:D}
@[grind cases] structure zH (ds:af) (k:Nat) (d:cV):Prop where
 iY:0<d.dV.length->d.dV.length<=3/\d.qC=0/\d.to=0/\∀f∈d.dV,f.length<=3/\Ij ds.length f
 Qp:d.dV.length=0->(∀e∈ds.take k,¬(e.dV.length=0/\e.qC=d.qC/\e.to=d.to))/\An ds.length d.qC/\An ds.length d.to
@[grind cases] structure eT (ds:af):Prop where
 aT:ds.length<=4
 eR:∀(k:Nat)(d:cV),ds[k]? =some d->zH ds k d
def LH{bR:E}{h:af}(hd:dw m bR h){k:Nat}{d:cV}(K:h[k]? =some d):ir dP 146 [bR.v,vi k] m (zH h k d):=by
 apply Gk;simp -zeta only[dT];have Y:=bC K;have v:=hd.aT;let⟨x,z,L,g1,g2⟩:=hd.br K;refine⟨V,V,_,sp L,_,sp g1,_,sp g2,?_⟩;intro Q s;have c:=py s;have A:∀t∈[m.size],t<s.size:=by simp[s,Q,bE]
 have N:=z.aT;refine dit (λq=>?_) λq=>?_
 .refine dit (λM=>?_) λM=>?_
  .exact gH (λa=>oh ((a.iY V).1)) c
  refine⟨λf=>?_,λf=>?_⟩
  .simp only[Uu]at f;exact gH (λa=>f (a.iY V).2.1) c
  simp only[nX]at f;refine⟨λp=>?_,λp=>?_⟩
  .simp only[Uu]at p;exact gH (λa=>p (a.iY V).2.2.1) c
  simp only[nX]at p;refine iC (n:=d.dV.length) (N▸z.kM) (λk B=>J s B/\∀x∈d.dV.take k,x.length<=3/\Ij h.length x) ⟨dt,bO⟩ ?_;rintro j w I μ P ⟨g,r⟩ D
  refine dit (λy=>?_) λy=>?_
  .let⟨C,u⟩:=dY d.dV j;let⟨F,H,G⟩:=(rX.ext (c.N g) z).br u;have S:=H.aT;refine⟨V,V,F,sp G,dit (λo=>?_) λo=>?_⟩
   .exact gH (λa=>oh (((a.iY V).2.2.2 C (ba u)).1)) (c.N g)
   .refine⟨V,V,F,sp G,?_⟩;exact(AQ H).bL g A λt R l i b=>⟨_,O,λe=>gH (λa=>nb l e (v▸((a.iY V).2.2.2 C (ba u)).2)) (c.N b),λe=>D V _ ⟨b,eI u r ⟨V,v▸yb l e⟩⟩⟩
  .exact pX ⟨λ_=>⟨V,f,p,iB V r⟩,λG=>V⟩ (c.N g)
 .have C:d.dV.length=0:=V;have W:=hd.kM;refine iC (n:=k) V (λk B=>J s B/\∀f∈h.take k,¬(f.dV.length=0/\f.qC=d.qC/\f.to=d.to)) ⟨dt,bO⟩ ?_;rintro j w I μ P ⟨g,r⟩ D
  refine dit (λy=>?_) λy=>?_
  .let⟨f,u⟩:=dY h j;let⟨F,H,S,T,U⟩:=(dw.ext (c.N g) hd).br u;have X:=H.aT;have B:¬(f.dV.length=0/\f.qC=d.qC/\f.to=d.to)->I (eV ((j:Int)+1)) w/\μ (eV ((j:Int)+1)) w<μ j w:=λp=>D V _ ⟨g,eI u r p⟩
   refine⟨V,V,F,sp U,λo=>?_,λo=>?_⟩
   .simp only[bQ]at o;refine⟨V,V,_,sp S,λi=>?_,λi=>?_⟩
    .simp only[bQ]at i;refine⟨V,V,_,sp T,λb=>?_,λb=>?_⟩
     .simp only[bQ]at b;have M:f∈h.take k:=by
       rw[db];exact⟨j,by rw[lQ,a8 V];exact u⟩
      exact gH (λa=>(a.Qp C).1 f M ⟨V,i,b⟩) (c.N g)
     .simp only[bd]at b;exact B (λp=>b p.2.2)
    .simp only[bd]at i;exact B (λp=>i p.2.1)
   .simp only[bd]at o;exact B (λp=>o V)
  .have f:j=k:=V;subst f;refine(dm).bL g A λt R l i b=>⟨_,O,λe=>?_,λe=>gH (λa=>fb l e (v▸(a.Qp C).2.1)) (c.N b)⟩;have e:=l.1 e;refine(dm).bL b A λt p l o a=>⟨_,O,lI ?_ (c.N a)⟩;rw[l];rw[v]at e⊢;exact⟨λq=>⟨λG=>V,λ_=>⟨r,e,q⟩⟩,λq=>(q.Qp C).2.2⟩
def J9{bR:E}{a:af}(hd:dw m bR a):ir dP 103 [bR.v] m (eT a):=by
 apply DU;have u:=hd.aT;refine dit (λo=>?_) λo=>?_
 .exact gH (λf=>oh f.aT) dt
 .refine iC (n:=a.length) V (λq r=>J m r/\∀(j:Nat)(d:cV),j<q->a[j]? =some d->zH a j d) ⟨dt,bO⟩ ?_;rintro j x I μ w ⟨b,k⟩ s
  refine dit (λp=>?_) λp=>?_
  .let⟨l,e⟩:=dY a j;refine(LH (dw.ext b hd) e).cg λt y h g=>⟨_,O,λc=>gH (λf=>nb h c (f.eR j l e)) (b.N g),λc=>?_⟩;refine s V _ ⟨b.N g,λi d v di=>?_⟩
   by_cases f:i=j
   .subst f;rw[e]at di;simp at di;subst di;exact yb h c
   .exact k i d V di
  .exact pX ⟨V,λi d di=>k i d (oh (bC di)) di⟩ b
end
section
variable{a:Nat}{m:D}
def fc:af->Nat->Nat
 |_,0=>0
 |[],_=>0
 |d::b,a+1=>d.dV.length+fc b a
def gU(a:af):List ab:=a.flatMap cV.dV
def WV(a:Nat):fc [] a=0:=by cases a<;>rfl
theorem wX:∀{c:af}{a:Nat}{b:cV},c[a]? =some b->fc c (a+1)=fc c a+b.dV.length
 |[],a,b,h=>by simp at h
 |e::c,0,b,h=>by
  grind [fc]
 |e::c,a+1,b,h=>by
  have:=wX (c:=c) (a:=a) (b:=b) cC;grind [fc]
theorem qI:∀(b:af)(a:Nat),b.length<=a->fc b a=(gU b).length
 |[],a,_=>by rw[WV];rfl
 |d::b,0,h=>by simp at h
 |d::b,a+1,h=>by
  have:=qI b a cC;grind [fc,gU,List.length_append]
def KB:∀(a:af){b c:Nat},b<=c->fc a b<=fc a c
 |[],b,c,_=>by simp[WV]
 |d::a,0,c,_=>by simp[fc]
 |d::a,b+1,0,h=>V
 |d::a,b+1,c+1,h=>by
  have:=KB a (b:=b) (c:=c) V;simp only[fc];omega
theorem mU{b:af}(h:eT b){d:cV}(c:b[a]? =some d):d.dV.length<=3:=by
 grind [Nat.eq_zero_or_pos,List.length,eT.eR,zH.iY]
theorem aag{b:af}(h:eT b):∀a,fc b a<=3*a
 |0=>by cases b<;>simp[fc]
 |a+1=>by
  have e:=aag h a;rcases eH a b.length with c|c
  .let⟨d,hd⟩:=jq c;grind [wX,mU]
  .grind [qI]
theorem tZ{b:af}(h:eT b)(a:Nat):fc b a<=12:=by
 rcases eH a b.length with c|c
 .grind [aag,eT.aT]
 .rw[qI b a c,<-qI b b.length bY];have:=aag h b.length;have:=h.aT;omega
def vC:∀(a:af)(i j:Nat)(d:cV),a[i]? =some d->j<d.dV.length->(gU a)[fc a i+j]? =d.dV[j]?
 |[],i,j,d,h,_=>by simp at h
 |e::a,0,j,d,h,b=>by
  grind [fc,gU,List.getElem?_append_left]
 |e::a,i+1,j,d,h,b=>by
  have:=vC a i j d cC b;grind [fc,gU,List.getElem?_append_right]
def zJ:∀(a:af)(c:Nat),c<(gU a).length->∃i d,a[i]? =some d/\fc a i<=c/\c<fc a i+d.dV.length
 |[],c,h=>by simp[gU]at h
 |e::a,c,h=>by
  rcases eH c e.dV.length with b|b
  .exact⟨0,e,bO,by simp[fc],by simpa[fc]using b⟩
  .let⟨i,d,f,g,j⟩:=zJ a (c -e.dV.length) (by simp only[gU,Wh,dC]at h⊢;omega);exact⟨i+1,d,sp f,by simp only[fc];omega,by simp only[fc];omega⟩
def nt{bR:E}{b:af}(hd:dw m bR b)(d:eT b)(t:a<=b.length):yB dP 186 [bR.v,vi a] m (vi (fc b a)):=by
 apply HB;have r:=hd.aT;have:=d.aT;refine gN (n:=a) V (λj g c=>J m c/\g=(fc b j:Nat)) ⟨dt,by cases b<;>rfl⟩ ?_;rintro j g u I μ s ⟨e,rfl⟩ k
 refine dit (λi=>?_) λi=>?_
 .let⟨l,c⟩:=dY b j;let⟨h,f,o,g1,g2⟩:=(dw.ext e hd).br c;refine⟨V,V,h,sp g2,?_⟩;refine k V _ _ ⟨e,?_⟩
  have p:=tZ d j;have q:=mU d c;rw[dk V (oh f.aT),wX c,f.aT];rfl
 .have:j=a:=V;subst this;exact⟨O,e⟩
def vf{bR:E}{a:af}(hd:dw m bR a)(c:eT a):yB dP 178 [bR.v] m (vi (gU a).length):=by
 apply Hv;have q:=hd.aT;have:=c.aT;refine gN (n:=a.length) V (λj f b=>J m b/\f=(fc a j:Nat)) ⟨dt,by cases a<;>rfl⟩ ?_;rintro j f s I μ r ⟨d,rfl⟩ i
 refine dit (λh=>?_) λh=>?_
 .let⟨k,b⟩:=dY a j;let⟨g,e,l,g1,g2⟩:=(dw.ext d hd).br b;refine⟨V,V,g,sp g2,?_⟩;refine i V _ _ ⟨d,?_⟩
  have o:=tZ c j;have p:=mU c b;rw[dk V (oh e.aT),wX b,e.aT];rfl
 .refine⟨?_,d⟩;rw[qI a j V]
def ad4(a:af)(c t:Int):Prop:=
 (∃(i:Nat)(d:cV),t=i+1/\a[i]? =some d/\(fc a i:Int)<=c/\c<fc a i+d.dV.length)\/(t= -1/\¬(0<=c/\c<(gU a).length))
def pK{bR:E}{a:af}(hd:dw m bR a)(k:eT a)(c:Int):bJ dP 148 [bR.v,vi c] m λF p=>∃u,F=vi u/\ad4 a c u/\J m p:=by
 apply JC;have K:=hd.aT;have:=k.aT;refine iC (n:=a.length) V (λj p=>J m p/\∀(i:Nat)(d:cV),i<j->a[i]? =some d->¬((fc a i:Int)<=c/\c<fc a i+d.dV.length)) ⟨dt,bO⟩ ?_;rintro j N I μ M ⟨b,s⟩ D
 refine dit (λz=>?_) λz=>?_
 .let⟨d,h⟩:=dY a j;refine(nt (dw.ext b hd) k V).cg λP e=>⟨_,O,?_⟩;let⟨l,B,H,g1,g2⟩:=(dw.ext (b.N e) hd).br h;refine⟨V,V,l,sp g2,?_⟩;have o:=tZ k j;have A:=mU k h;have C:=B.aT;have y:eV (eV ((fc a j:Int)+(l.len:Int)) -1)=(fc a j:Int)+d.dV.length -1:=by
   rw[dk (b:=(fc a j:Int)+(l.len:Int)) V V,gJ,C]
  rw[y];refine(dm).cg λG Q r q=>⟨_,O,λf=>?_,λf=>?_⟩
  .have f:=r.1 f;refine⟨_,O,bz ⟨j,d,?_,h,V,V⟩,(b.N e).N q⟩;rw[gJ]
  .refine D V _ ⟨(b.N e).N q,λi v L g=>?_⟩
   by_cases w:i=j
   .subst w;rw[h]at g;simp at g;subst g;intro t;exact fb r f ⟨t.1,V⟩
   .exact s i v V g
 .refine⟨_,O,bH ⟨O,λt=>?_⟩,b⟩;let⟨i,d,o,e,A⟩:=zJ a c.toNat V;exact s i d (oh (bC o)) o ⟨V,V⟩
def da(a:af)(c:Int):ab:=if 0<=c then((gU a)[c.toNat]?).getD []else[]
def Lg{bR:E}{a:af}(hd:dw m bR a)(d:eT a){c:Int}:bJ dP 149 [bR.v,vi c] m λx l=>∃s,x=s.v/\bg l s (da a c)/\J m l:=by
 apply vM;have F:=hd.aT;have:=d.aT;refine(pK hd d c).aP ?_;rintro _ I ⟨L,rfl,h,e⟩;refine⟨_,O,dit (λu=>?_) λu=>?_⟩
 .refine⟨_,O,?_,e.cz _⟩;have g:da a c=[]:=by
   rcases h with⟨i,f,v,_⟩|⟨_,b⟩
   .omega
   .unfold da;split
    .rw[lp V];rfl
    .rfl
  rw[g];exact⟨O,bY,bO,bO⟩
 .rcases h with⟨i,f,rfl,b,B,C⟩|⟨v,_⟩
  .have H:=bC b;let⟨q,j,z,g1,g2⟩:=(dw.ext e hd).br b;have n:eV ((i:Int)+1 -1)=i:=by rw[gJ];omega
   rw[n];refine⟨V,V,q,sp g2,?_⟩;refine(nt (dw.ext e hd) d V).cg λK g=>⟨_,O,g.cK (sp g2),?_⟩;have A:=tZ d i;have D:=mU d b;have G:=j.aT;let⟨y,k⟩:=dY f.dV ((c -fc a i).toNat);let⟨r,w,t⟩:=(rX.ext g j).br k;have o:eV (c -(fc a i:Int))=c -fc a i:=gJ;rw[o];refine⟨V,V,r,t,_,O,?_,e.N g⟩;have p:da a c=y:=by
    unfold da;rw[a8 V];have:=vC a i (c -fc a i).toNat f b V;rw[show c.toNat=fc a i+(c -fc a i).toNat by omega,this,k];rfl
   rw[p];exact w
  .omega
def cY(a:af)(t:Int):ab:=
 if 1<=t/\t<=a.length then((a[t.toNat -1]?).map λd=>(List.range d.dV.length).map λi=>((fc a (t.toNat -1)+i:Nat):Int)).getD []else[]
def Fp{bR:E}{a:af}(hd:dw m bR a)(c:eT a){t:Int}:bJ dP 151 [bR.v,vi t] m λK b=>∃s,K=s.v/\bg b s (cY a t)/\J m b:=by
 apply zo;intro r;have T:=hd.aT;have:=c.aT;have q:=px r;have G:js m r bG 1 (.mk m.size 0 0 0) []:=js.bI (J.cX m) bG 1 [] 0 bO;refine(dm).cg λM X l f=>⟨_,O,λh=>?_,λh=>?_⟩
 .refine⟨_,O,?_,q.N f⟩;have e:cY a t=[]:=by
   unfold cY;rw[aV (oh (nb l h))]
  rw[e];exact⟨O,bY,bO,bO⟩
 .have h:=yb l h;have v:eV (t -1)=((t.toNat -1:Nat):Int):=by rw[gJ];omega
  rw[v];let⟨e,g⟩:=dY a (t.toNat -1);have w:cY a t=(List.range e.dV.length).map λi=>((fc a (t.toNat -1)+i:Nat):Int):=by
   unfold cY;rw[a8 V,g];rfl
  rw[w];have R:=tZ c (t.toNat -1);have S:=mU c g;refine gN (n:=e.dV.length) V (λj s b=>J m b/\js m b bG 1 s (((List.range j).map λi=>((fc a (t.toNat -1)+i:Nat):Int)).map Ce.i)/\s.len=j) ⟨q.N f,by simpa using G.ext f,O⟩ ?_;rintro j s Y L μ W ⟨d,o,p⟩ I
  let⟨y,D,N,g1,g2⟩:=(dw.ext d hd).br g;have U:=D.aT;refine⟨V,V,y,sp g2,dit (λz=>?_) λz=>?_⟩
  .refine(nt (dw.ext d hd) c V).cg λH k=>⟨_,O,?_⟩;intro u;have x:eV (((fc a (t.toNat -1):Nat):Int)+(j:Int))=((fc a (t.toNat -1)+j:Nat):Int):=by rw[gJ];omega
   have F:u=H.push (.cells (dh [.i (((fc a (t.toNat -1)+j:Nat):Int))]) bG):=by rw[<-x]
   clear_value u;subst F;refine js.fE (c:=[.i 0]) (i:=[.i ((fc a (t.toNat -1)+j:Nat):Int)]) ((o.ext k).ext (J.push _ _)) ((d.N k).cz _) O (dJ.push _ _ _).kv (by simp[p];omega) ?_;intro Z b A B C P Q _;refine I V _ _ ⟨B,?_,by simp[C,p]⟩
   rw[List.range_succ,kJ,kJ];exact A
  .have:j=e.dV.length:=V;subst this;exact⟨_,O,bg.jT o fu,d⟩
end
section
variable{S X:ad}{d p:D}{s q a h:E}{e g u:ab}{k f:Nat}{x j:Int}{t:ap}{Q:ab->Prop}{K:ak}
def _root_.Go.Vc.bg.dg{a:D}(b:bg (di S d) s e)(f:Fz X d a)(c:∀h∈X,h∈S)(g:e[k]? =some x):aS a s.bt (s.off+k*1)=some (vi x):=
 (gY.1 ((b.le (f.eX c)).br g)).2
def _root_.Go.Vc.bg.RG{a:D}(h:bg (di S d) s e)(b:J d a)(c:e[k]? =some x):aS a s.bt (s.off+k*1)=some (vi x):=
 h.dg (b.fz []) bO c
def Kk(f:Nat)(t:ap)(d:D)(S:ad)(Q:ab->Prop):Prop:=bJ dP f t d λv a=>∃s e,v=s.v/\bg (di S a) s e/\Q e/\J d a
def oC(f:Nat)(t:ap)(d:D)(S:ad)(Q:ab->Prop):Prop:=bJ dP f t d λv a=>∃s e,v=s.v/\Gr S d a bG 1 yD s e/\Q e/\J d a
def xC(f:Nat)(t:ap)(d:D)(Q:Int->Prop):Prop:=bJ dP f t d λv a=>∃j:Int,v=vi j/\Q j/\J d a
abbrev GI(S:ad)(p d:D)(s:E)(e:ab):Prop:=Gr S p d bG 1 yD s e
def GI.gF(S:ad)(d:D):GI S d (d.push (.cells (dh []) bG)) (.mk d.size 0 0 0) []:=by grind [Gr.bI,yD]
def GI.nI{S X:ad}{p d:D}{s:E}{e:ab}{a:Int}{K:E->D->Prop}(c:GI S p d s e)(f:Fz X p d)(i:e.length<=10^12)
 (g:∀r b,GI S p b r (e++[a])->Fz X p b->(d.size<=b.size/\(r.bt=s.bt\/d.size<=r.bt))->(∀h,h<d.size->h≠s.bt->b[h]? =d[h]?)->K r b):mf (d.push (.cells (dh [.i a]) bG)) bG [.i 0] 8 s (.mk d.size 0 1 1) K:=
 Gr.nI (h:=[.i 0]) yD.aP cH c f O V g
theorem GI.cB{S:ad}{p d:D}{s:E}{e:ab}(a:GI S p d s e)(b:∀h∈S,h<p.size)(c:e.length<=10^12):bg (di S d) s e:=Gr.cB yD.aP a b cH V
def GI.lZ{S X:ad}{p d:D}{s x:E}{e g:ab}{K:E->D->Prop}(b:GI S p d s e)(c:Fz X p d)(i:bg (di (s.bt::S) d) x g)(j:e.length+g.length<=10^12)
 (f:∀r a,GI S p a r (e++g)->Fz X p a->(d.size<=a.size/\(r.bt=s.bt\/d.size<=r.bt))->(∀h,h<d.size->h≠s.bt->a[h]? =d[h]?)->K r a):mf d bG [.i 0] 8 s x K:=
 Gr.lZ (h:=[.i 0]) yD.aP cH b c i V f
def GI.me{a:D}(h:GI S p d s e)(i:a[s.bt]? =d[s.bt]?):GI S p a s e:=by
 let⟨c,b,f,g⟩:=h;exact⟨c,b,f.congr i,g.aP λ_ _ h=>h⟩
def GI.ext{S:ad}{p d a:D}{s:E}{e:ab}(h:GI S p d s e)(b:J d a):GI S p a s e:=Gr.ext yD.aP h b
theorem _root_.Go.Vc.Gr.de{α:Type}{S b:ad}{p f d:D}{c a:Nat}{R:D->ae->α->Prop}{s:E}{e:List α}(i:qF a R)(g:Gr b f d c a R s e)(j:∀h∈S,h∈b\/d.size<=h)(k:p.size<=f.size):Gr S p d c a R s e:=by
 constructor<;>grind [js.de,fL.aP,J.cX,J.di,List.mem_cons_self,List.mem_cons_of_mem]
def GI.de{S a:ad}{p b d:D}{s:E}{e:ab}(c:GI a b d s e)(f:∀h∈S,h∈a)(g:p.size<=b.size):GI S p d s e:=by grind [Gr.de,yD.aP]
def oC.cg(h:oC f t d S Q)(j:∀s e a,GI S d a s e->Q e->J d a->K s.v a):bJ dP f t d K:=
 h.aP λ_ a⟨s,e,b,c,g,i⟩=>b▸j s e a c g i
def Kk.cg(h:Kk f t d S Q)(j:∀s e a,bg (di S a) s e->Q e->J d a->K s.v a):bJ dP f t d K:=
 h.aP λ_ a⟨s,e,b,c,g,i⟩=>b▸j s e a c g i
def xC.cg{Q:Int->Prop}(h:xC f t d Q)(g:∀j a,Q j->J d a->K (vi j) a):bJ dP f t d K:=
 h.aP λ_ a⟨j,e,b,c⟩=>e▸g j a b c
def xK{a:D}{h:Nat}(b:J d a)(e:d.size<=h):Le (di S d) (di (h::S) a):=b.di λc f=>by
 grind
def pL(j:∀h∈S,h<d.size)(c:bg (di S d) q e)(b:e.length<=10^12):oC 55 [q.v] d S (e=·):=by
 apply rP;intro i;have a:=px i;exact GI.lZ (e:=[]) (X:=[]) (GI.gF S d) (a.fz []) (c.le (xK a bY)) (sp b) λr k g f _ _=>⟨r,e,O,sp g,O,f.ext⟩
def tT(e g:ab):Prop:=(∀x∈g,x∈e)/\g.length<=e.length
def tx(h:∀x∈g,x∈e)(a:x∈e):∀y∈g++[x],y∈e:=by
 grind
def Gq(u:∀h∈S,h<d.size)(b:bg (di S d) q e)(j:Int)(v:e.length<=10^12):oC 303 [q.v,vi j] d S (tT e):=by
 apply Kb;intro z;have t:=b.aT;refine gN (n:=e.length) (t▸b.kM) (λk s a=>J d a/\∃g,GI S d a s g/\(∀x∈g,x∈e)/\g.length<=k) ⟨J.push d _,[],GI.gF S d,bO,bY⟩ ?_;rintro k s A I μ y ⟨a,g,c,i,w⟩ m
 refine dit (λp=>?_) λp=>?_
 .let⟨x,l⟩:=dY e k;refine⟨V,V,x,b.RG a l,λr=>⟨V,V,x,b.RG a l,?_⟩,λr=>m V _ _ ⟨a,g,c,i,V⟩⟩;intro B;exact GI.nI c (a.fz []) V λD C o f _ _=>m V _ _ ⟨f.ext,_,o,tx i (ba l),fu⟩
 .exact⟨s,g,O,c,⟨i,V⟩,a⟩
def T9(u:∀h∈S,h<d.size)(b:bg (di S d) q e)(v:e.length<=10^12):oC 344 [q.v,vi j] d S (tT e):=by
 apply MG;intro z;have t:=b.aT;refine gN (n:=e.length) (t▸b.kM) (λk s a=>J d a/\∃g,GI S d a s g/\(∀x∈g,x∈e)/\g.length<=k) ⟨J.push d _,[],GI.gF S d,bO,bY⟩ ?_;rintro k s A I μ y ⟨a,g,c,i,w⟩ m
 refine dit (λp=>?_) λp=>?_
 .let⟨x,l⟩:=dY e k;refine⟨V,V,x,b.RG a l,λr=>⟨V,V,x,b.RG a l,?_⟩,λr=>m V _ _ ⟨a,g,c,i,V⟩⟩;intro B;exact GI.nI c (a.fz []) V λD C o f _ _=>m V _ _ ⟨f.ext,_,o,tx i (ba l),fu⟩
 .exact⟨s,g,O,c,⟨i,V⟩,a⟩
def RW(z:∀h∈S,h<d.size)(i:bg (di S d) a e)(t:bg (di S d) h u)(A:e.length<=10^12):oC 330 [a.v,h.v] d S (tT e):=by
 apply Lf;intro D;have v:=i.aT;refine gN (n:=e.length) (v▸i.kM) (λk s b=>J d b/\∃g,GI S d b s g/\(∀x∈g,x∈e)/\g.length<=k) ⟨J.push d _,[],GI.gF S d,bO,bY⟩ ?_;rintro k s E I μ C ⟨b,g,j,l,B⟩ o
 refine dit (λq=>?_) λq=>?_
 .let⟨x,m⟩:=dY e k;refine⟨V,V,x,i.RG b m,?_⟩;refine(fI ((t.le fJ).ext b) x).cg λy F _ c=>⟨_,O,λr=>⟨V,V,x,i.RG (b.N c) m,?_⟩,λr=>o V _ _ ⟨b.N c,g,j.ext c,l,V⟩⟩;intro w;exact GI.nI (j.ext c) ((b.N c).fz []) V λG w p f _ _=>o V _ _ ⟨f.ext,_,p,tx l (ba m),fu⟩
 .exact⟨s,g,O,j,⟨l,V⟩,b⟩
def _root_.Go.Vc.BC{σ τ:Type}{j:Nat}(n:j<=9223372036854775807){g:σ}{h:τ}{f:(σ->τ->Int->D->Prop)->(σ->τ->Int->D->Nat)->σ->τ->Int->D->Prop}(Q:Nat->σ->τ->D->Prop)(l:Q 0 g h d)
 (m:∀(k:Nat)(s:σ)(t:τ)(a:D)(I:σ->τ->Int->D->Prop)(μ:σ->τ->Int->D->Nat),k<=j->Q k s t a->
  (k<j->∀c e b,Q (k+1) c e b->I c e (eV ((k:Int)+1)) b/\μ c e (eV ((k:Int)+1)) b<μ s t k a)->f I μ s t k a):
 ∃(I:σ->τ->Int->D->Prop)(μ:σ->τ->Int->D->Nat),I g h 0 d/\∀s t i a,I s t i a->f I μ s t i a:=by
 refine⟨λs t i b=>∃k:Nat,i=k/\k<=j/\Q k s t b,λ_ _ i _=>(j -i).toNat,⟨0,O,jh _,l⟩,?_⟩
 grind [oU,Ql]
def adx(e:ab)(j:Int)(g:ab):Prop:=(∀x∈g,x∈e\/x=j)/\g.length<=e.length+1
def GU(h:∀x∈g,x∈e\/x=j)(a:x∈e\/x=j):∀y∈g++[x],y∈e\/y=j:=by
 grind
def pT(L:∀h∈S,h<d.size)(v:bg (di S d) q e)(j:Int)(M:e.length<10^12):oC 284 [q.v,vi j] d S (adx e j):=by
 apply Ln;intro Q;have H:=v.aT;refine BC (j:=e.length) (H▸v.kM) (λk s c b=>J d b/\∃g,GI S d b s g/\(∀x∈g,x∈e\/x=j)/\g.length<=k+(if c=true then 1 else 0)) ⟨J.push d _,[],GI.gF S d,bO,bY⟩ ?_;rintro k s c w I μ P ⟨a,g,o,p,u⟩ C
 have N:g.length<=k+1:=by split at u<;>omega
 refine dit (λt=>?_) λt=>?_
 .let⟨x,y⟩:=dY e k;have G:∀{b:D},J d b->aS b q.bt (q.off+k*1)=some (vi x):=λt=>v.RG t y;have z:x∈e\/x=j:=bz (ba y);have A:∀m:Bool,(g++[x]).length<=k+1+(if m=true then 1 else 0)->mf (w.push (.cells (dh [.i x]) bG)) bG [.i 0] 8 s (.mk w.size 0 1 1) λr b=>I r m (eV ((k:Int)+1)) b/\μ r m (eV ((k:Int)+1)) b<μ s c k w:=λm hd=>
   GI.nI o (a.fz []) V λr B i f _ _=>C V _ _ _ ⟨f.ext,_,i,GU p z,hd⟩
  refine⟨λl=>⟨V,V,x,G a,λE=>⟨V,V,x,G a,λF=>?_,λF=>⟨V,V,x,G a,A true fu⟩⟩,λE=>⟨V,V,x,G a,A c ?_⟩⟩,λl=>⟨V,V,x,G a,A c ?_⟩⟩
  .have hd:c=false:=sp l;subst hd;simp at u;intro K;refine GI.nI o (a.fz []) V λr B i f _ _=>⟨V,V,x,G f.ext,?_⟩;intro R;exact GI.nI i f fu λr T i f _ _=>C V _ _ _ ⟨f.ext,_,i,GU (GU p (bH O)) z,fu⟩
  .simp only[dC,dD,kH];omega
  .simp only[dC,dD,kH];omega
 .refine⟨λl=>?_,λl=>⟨s,g,O,o,⟨p,V⟩,a⟩⟩;have hd:c=false:=sp l;subst hd;simp at u;intro K;exact GI.nI o (a.fz []) V λr B i f _ _=>⟨r,_,O,i,⟨GU p (bH O),fu⟩,f.ext⟩
def wQ(B:∀h∈S,h<d.size)(l:bg (di S d) q e)(j:Int)(C:e.length<=10^12):oC 280 [q.v,vi j] d S (tT e):=by
 apply Bl;intro F;have z:=l.aT;refine BC (j:=e.length) (z▸l.kM) (λk s _ a=>J d a/\∃g,GI S d a s g/\(∀x∈g,x∈e)/\g.length<=k) ⟨J.push d _,[],GI.gF S d,bO,bY⟩ ?_;rintro k s c o I μ E ⟨b,g,i,m,D⟩ t
 refine dit (λv=>?_) λv=>?_
 .let⟨x,p⟩:=dY e k;have G:=l.RG b p;have A:mf (o.push (.cells (dh [.i x]) bG)) bG [.i 0] 8 s (.mk o.size 0 1 1) λr a=>I r c (eV ((k:Int)+1)) a/\μ r c (eV ((k:Int)+1)) a<μ s c k o:=
   GI.nI i (b.fz []) V λr H u f _ _=>t V _ _ _ ⟨f.ext,_,u,tx m (ba p),fu⟩
  exact⟨V,V,x,G,λw=>⟨λy=>t V _ _ _ ⟨b,g,i,m,V⟩,λy=>⟨V,V,x,G,A⟩⟩,λw=>⟨V,V,x,G,A⟩⟩
 .exact⟨s,g,O,i,⟨m,V⟩,b⟩
def Ug(f:∀h∈S,h<d.size)(v:bg (di S d) a e)(i:bg (di S d) h u)(j:e.length+u.length<=10^12):oC 298 [a.v,h.v] d S (λg=>(∀x∈g,x∈e\/x∈u)/\g.length<=e.length+u.length):=by
 apply Nm;refine(pL f v V).cg λM _ G t p C=>⟨_,O,?_⟩;subst p;have w:=i.aT;refine gN (n:=u.length) (w▸i.kM) (λk s b=>J d b/\∃g,GI S d b s g/\(∀x∈g,x∈e\/x∈u)/\g.length<=e.length+k) ⟨C,_,t,λx c=>bz c,bY⟩ ?_;rintro k s H I μ F ⟨c,g,l,m,E⟩ B
 refine dit (λb=>?_) λb=>?_
 .let⟨x,o⟩:=dY u k;refine⟨V,V,x,i.RG c o,?_⟩;refine(pT (λh j=>cr (f h j) c.aQ) (l.cB f V) x V).cg λL A K r q D=>⟨_,O,B V _ _ ⟨c.N D,A,r.de (λ_ b=>b) c.aQ,λy z=>?_,oh q.2⟩⟩;rcases q.1 y z with b|b
  .exact m y b
  .subst b;exact bH (ba o)
 .exact⟨s,g,O,l,⟨m,V⟩,c⟩
def yh(a:Int)(d:D):ir dP 317 [vi a] d (14<=a/\a<=17):=by
 apply DF;exact(dm).cg λh e c b=>⟨_,O,lI c b⟩
def iH(j:∀h∈S,h<d.size){oE:E}{a:ab}(l:bg (di S d) q e)(m:bg (di S d) oE a)(k:e.length+a.length<=10^12):oC 215 [q.v,oE.v] d S (e++a=·):=by
 apply zr;refine(pL j l V).cg λp _ o b g c=>⟨_,O,?_⟩;subst g;exact GI.lZ b (c.fz []) (m.le (xK c b.cF.1)) k λr n i f _ _=>⟨r,_,O,i,O,f.ext⟩
def wz(v:∀h∈S,h<d.size)(i:bg (di S d) q e)(j:Nat)(w:j+e.length<=10^12):oC 221 [q.v,vi j] d S (λg=>(∀x∈g,(j:Int)<=x/\x<j+e.length)/\g.length<=e.length):=by
 apply HG;intro B;have t:=i.aT;refine gN (n:=e.length) (t▸i.kM) (λk s a=>J d a/\∃g,GI S d a s g/\(∀x∈g,(j:Int)<=x/\x<j+e.length)/\g.length<=k) ⟨J.push d _,[],GI.gF S d,bO,bY⟩ ?_;rintro k s C I μ A ⟨b,g,c,l,z⟩ m
 refine dit (λp=>?_) λp=>?_
 .let⟨x,u⟩:=dY e k;refine⟨V,V,x,i.RG b u,λr=>?_,λr=>m V _ _ ⟨b,g,c,l,V⟩⟩;rw[dk (b:=(j:Int)+k) V V];intro D;refine GI.nI c (b.fz []) V λF E o f _ _=>m V _ _ ⟨f.ext,_,o,?_,fu⟩
  intro y a;rcases bT.1 a with a|a
  .exact l y a
  .simp at a;omega
 .exact⟨s,g,O,c,⟨l,V⟩,b⟩
def pA(p:∀h∈S,h<d.size)(j a:Nat)(q:j+a<=10^12):oC 189 [vi j,vi a] d S (λg=>(∀x∈g,(j:Int)<=x/\x<j+a)/\g.length=a):=by
 apply Cv;intro u;refine gN (n:=a) V (λk s b=>J d b/\∃g,GI S d b s g/\(∀x∈g,(j:Int)<=x/\x<j+a)/\g.length=k) ⟨J.push d _,[],GI.gF S d,bO,O⟩ ?_;rintro k s v I μ t ⟨i,g,c,e,r⟩ o
 refine dit (λm=>?_) λm=>?_
 .rw[dk (b:=(j:Int)+k) V V];intro w;refine GI.nI c (i.fz []) V λA z l f _ _=>o V _ _ ⟨f.ext,_,l,?_,fu⟩
  intro y b;rcases bT.1 b with b|b
  .exact e y b
  .simp at b;omega
 .exact⟨s,g,O,c,⟨e,V⟩,i⟩
theorem Mj(e:ab):(e.map λx=>[Ce.i x]).flatten=e.map Ce.i:=by induction e<;>simp_all
def GI.eE(n:GI S p d s e)(F:Fz X p d)(N:k<e.length)(j:Int):
 gK d s.bt (s.off+k*1) 1/\GI S p (aW d s.bt (s.off+k*1) [.i j]) s (e.set k j)/\Fz X p (aW d s.bt (s.off+k*1) [.i j])/\(∀h,h≠s.bt->(aW d s.bt (s.off+k*1) [.i j])[h]? =d[h]?):=by
 have J:=n.cF
 have O:=n.aT cH
 let⟨t,a,B,f⟩:=n
 have H:∀h,h≠s.bt->(aW d s.bt (s.off+k*1) [.i j])[h]? =d[h]? :=by grind [cw]
 let⟨h,w,tail,l,y,z,K,A⟩:=B.br.resolve_left t
 have M:a.flatten.length=e.length:=by rw[eD f.aQ,f.aT];omega
 have G:a.flatten=e.map Ce.i:=by
  apply eA;intro g;rcases eH g e.length with v|v
  .let⟨x,q⟩:=jq v;let⟨cs,u⟩:=dY a g cC;have C:cs=[.i x]:=f.eR g cs x u q;have D:=j9 (f:=1) f.aQ u (i:=0) (c:=.i x) cC;grind
  .grind [List.getElem?_eq_none]
 have I:s.off+k*1=k:=by rw[l];simp
 have E:s.bt=h:=by rw[l];rfl
 refine⟨?_,⟨t,(e.set k j).map λx=>[.i x],⟨?_,bH ⟨h,w,tail,l,y,?_,?_,A⟩⟩,⟨by rw[jQ],λcs L=>?_,λP cs x u q=>?_⟩⟩,F.aW (bH J.1) _ _,H⟩
 .grind [dJ.gK,List.length_append,List.length_cons,List.length_nil]
 .grind [Mj,List.length_map,List.length_set]
 .have C:=dJ.aW (m:=d) (b:=h) (r:=[.i j]) (o:=k) z
  rw[I,E,Mj]
  have D:jm (a.flatten++tail) k [.i j]=(e.set k j).map Ce.i++tail:=by
   apply eA;intro g;rw[Ff,G];grind [List.getElem?_append_left,Nat.lt_or_ge,List.length,List.getElem?_set_ne,List.getElem?_append_right]
  rw[<-D];exact C
 .grind [Mj,List.length_append,List.length_map,List.length_set]
 .grind
 .simp only[eB,q,sF,Wo]at u
  exact u.symm
def zB(k:∀h∈S,h<d.size)(n:bg (di S d) q e)(m:e.length<=10^12){a:Nat}(l:a<e.length)(j:Int):oC 241 [q.v,vi a,vi j] d S (e.set a j=·):=by
 apply DW;refine(pL k n m).cg λs _ p g b o=>⟨_,O,V,?_,?_⟩
 .subst b;have:=g.aT cH;omega
 subst b;obtain⟨c,f,i,_⟩:=g.eE (o.fz []) l j;exact⟨c,s,_,O,f,O,i.ext⟩
end
end Go.Proofs.YtbbbdejieenniaaGreat
namespace Go.Vc
section
variable{l:au}{k d a:Nat}{x s:eQ}{c:Prop}
open Go.Proofs.YtbbbdejieenniaaGreat
def Bk.ind{Q:Bk->Prop}(h:∀bq r,(∀s∈bq,∀b∈s.dA,Q b)->Q (.mk bq r)):∀b,Q b
 | .mk bq r=>h bq r λs _ b _=>Bk.ind h b
termination_by b=>SizeOf.sizeOf b
decreasing_by
 rename_i a c
 have d:=tj a
 have e:=tj c
 have f:SizeOf.sizeOf s.dA<SizeOf.sizeOf s:=by cases s;simp;omega
 simp;omega
def Ex.ind{Q:Ex->Prop}(h:∀a cG dA,(∀e∈dA,Q e)->Q (.mk a cG dA)):∀e,Q e
 | .mk a cG dA=>h a cG dA λe _=>Ex.ind h e
termination_by e=>SizeOf.sizeOf e
decreasing_by
 rename_i a
 have b:=tj a
 simp;omega
def sw(l:au):Nat:=(l.map Rz.w).sum
def bw(l:aF):Nat:=(l.map Bk.w).sum
def en(l:ax):Nat:=(l.map Ex.n).sum
@[simp] theorem Ai:sw []=0:=rfl
@[simp] theorem Et:bw []=0:=rfl
@[simp] theorem adG:en []=0:=rfl
theorem qy(x:eQ)(l:au):sw (x::l)=x.w+sw l:=by simp[sw]
theorem zc(x:Bk)(l:aF):bw (x::l)=x.w+bw l:=by simp[bw]
def Tu(x:Ex)(l:ax):en (x::l)=x.n+en l:=by simp[en]
theorem gR(a b:au):sw (a++b)=sw a+sw b:=by simp[sw]
theorem tr(a b:aF):bw (a++b)=bw a+bw b:=by simp[bw]
theorem SE(a b:ax):en (a++b)=en a+en b:=by simp[en]
theorem Bk.vT(s:au)(r:Int):(Bk.mk s r).w=1+sw s:=Bk.afn _
def Bk.pN(b:Bk):b.w=1+sw b.bq:=Bk.afn b
theorem eQ.pN(s:eQ):s.w=1+s.aO.length+bw s.dA:=rfl
def Ex.Zc{o n:Int}{k:ax}:(Ex.mk o n k).n=1+en k:=by rw[Ex.n];rfl
def Ex.aeE(e:Ex):e.n=1+en e.dA:=by cases e;exact Ex.Zc
def ux(h:l[k]? =some x):sw (l.take (k+1))=sw (l.take k)+x.w:=by rw[bW h,gR,qy,Ai];rfl
def zd{l:aF}{x:Bk}(h:l[k]? =some x):bw (l.take (k+1))=bw (l.take k)+x.w:=by rw[bW h,tr,zc,Et];rfl
theorem Pb{l:ax}{x:Ex}(h:l[k]? =some x):en (l.take (k+1))=en (l.take k)+x.n:=by rw[bW h,SE,Tu,adG];rfl
def Gu(l:au)(k:Nat):sw (l.take k)<=sw l:=by
 grind [gR,List.take,List.drop,List.take_append_drop]
def XY(l:aF)(k:Nat):bw (l.take k)<=bw l:=by
 grind [tr,List.take,List.drop,List.take_append_drop]
def Yh(l:ax)(k:Nat):en (l.take k)<=en l:=by
 grind [SE,List.take,List.drop,List.take_append_drop]
def Uk(h:l[k]? =some x):x.w<=sw l:=by
 have:=ux h;have:=Gu l (k+1);omega
def By{l:aF}{x:Bk}(h:l[k]? =some x):x.w<=bw l:=by
 have:=zd h;have:=XY l (k+1);omega
def jK:∀l:au,l.length<=sw l
 |[]=>bO
 |x::l=>by have:=jK l;rw[qy,dD,eQ.pN];omega
def Bk.Oj(b:Bk):1<=b.w:=by rw[Bk.pN];omega
def xG:∀l:aF,l.length<=bw l
 |[]=>bO
 |x::l=>by have:=xG l;have:=x.Oj;rw[zc,dD];omega
def WT:∀l:ax,l.length<=en l
 |[]=>bO
 |x::l=>by have:=WT l;rw[Tu,dD,Ex.aeE];omega
def tO(a:Int):Prop:=0<=a/\a<=11
instance(a:Int):Decidable (tO a):=inferInstanceAs (Decidable (_/\_))
def dn(s:eQ):Nat:=if tO s.op then 1 else 0
def dc(l:au):Nat:=(l.map dn).sum
@[simp] theorem xJ:dc []=0:=rfl
theorem nO(x:eQ)(l:au):dc (x::l)=dn x+dc l:=by simp[dc]
theorem fm(a b:au):dc (a++b)=dc a+dc b:=by simp[dc]
def vt(h:l[k]? =some x):dc (l.take (k+1))=dc (l.take k)+dn x:=by rw[bW h,fm,nO,xJ];rfl
def Z3(l:au)(k:Nat):dc (l.take k)<=dc l:=by
 grind [fm,List.take,List.drop,List.take_append_drop]
def aeh(x:eQ):dn x<=1:=by grind [dn]
def xI:∀l:au,dc l<=l.length
 |[]=>bO
 |x::l=>by have:=xI l;have:=aeh x;rw[nO,dD];omega
def GK(a:af)(b cG:Int)(i:Nat):Nat:=if b=8 then(da a (((cY a cG)[i]?).getD 0)).length else 0
@[grind cases] structure YT (ds:af) (nr:Nat) (c:Prop) (a:Nat) (s:eQ):Prop where
 op:tO s.op\/c/\14<=s.op/\s.op<=17
 aO:∀x∈s.aO,0<=x/\x<(a:Int)
 mE:14<=s.op\/s.op=7\/s.op=8->s.aO.length=1
 cR:0<=s.cR/\s.cR<=(a:Int)
 Nv:s.op=7->s.dA.length=2
 lZ:s.op=8->s.dA.length=(cY ds s.cG).length/\0<s.dA.length
 jt:s.op=9->0<=s.cG/\s.cG<(nr:Int)
inductive WB(ds:af)(d:Nat)(c:Prop):Nat->Bk->Prop
 |mk {a:Nat} {bq:au} {r:Int} (iU:∀(i:Nat)(s:eQ),bq[i]? =some s->YT ds d c (a+dc (bq.take i)) s)
  (dA:∀(i:Nat)(s:eQ)(k:Nat)(b:Bk),bq[i]? =some s->s.dA[k]? =some b->WB ds d c (a+dc (bq.take i)+GK ds s.op s.cG k) b)
  (res:0<=r/\r<((a+dc bq:Nat):Int)):WB ds d c a (.mk bq r)
@[grind cases] structure WS (ds:af) (nr:Nat) (c:Prop) (a:Nat) (s:eQ):Prop where
 iU:YT ds nr c a s
 dA:∀(k:Nat)(b:Bk),s.dA[k]? =some b->WB ds nr c (a+GK ds s.op s.cG k) b
def WL(b:af)(d:Nat)(c:Prop)(a:Nat)(l:au):Prop:=∀(i:Nat)(s:eQ),l[i]? =some s->WS b d c (a+dc (l.take i)) s
def WB.cJ{e:af}{b:Bk}(h:WB e d c a b):WL e d c a b.bq/\0<=b.bP/\b.bP<((a+dc b.bq:Nat):Int):=by
 cases h with
 |mk iU dA j=>exact⟨λi s f=>⟨iU i s f,λk b g=>dA i s k b f g⟩,j⟩
def WB.of{e:af}{bq:au}{r:Int}(h:WL e d c a bq)(j:0<=r/\r<((a+dc bq:Nat):Int)):WB e d c a (.mk bq r):=
 .mk (λi s b=>(h i s b).iU) (λi s k f b g=>(h i s b).dA k f g) j
def WL.gF{b:af}:WL b d c a []:=λi s h=>by simp at h
theorem WL.fE{e:af}{g:au}(h:WL e d c a l)(j:WL e d c (a+dc l) g):WL e d c a (l++g):=λi s b=>by
 rcases eH i l.length with f|f
 .rw[dZ f]at b;rw[rI V];exact h i s b
 .rw[dQ f]at b;have:=j _ s b;grind [List.take_append,List.take_of_length_le,fm,Nat.add_assoc]
theorem WL.mE{e:af}(h:WS e d c a s):WL e d c a [s]:=λi x b=>by
 have:i=0:=by have:=bC b;simp at this;omega
 subst this;simp at b;subst b;simpa using h
theorem WL.Ch{b:af}(h:WL b d c a l)(e:WS b d c (a+dc l) s):WL b d c a (l++[s]):=h.fE (.mE e)
theorem WL.Nt{e:af}(h:WL e d c a l)(k:Nat):WL e d c a (l.take k):=λi s b=>by
 rw[lQ]at b;split at b
 .rw[aa3,mK V];exact h i s b
 .simp at b
theorem WL.uV{b:af}(h:WL b d c a l)(k:Nat):WL b d c (a+dc (l.take k)) (l.drop k):=λi s e=>by
 rw[rT]at e;have:=h _ s e;grind [fm,Nat.add_assoc]
end
end Go.Vc
namespace Go.Proofs.YtbbbdejieenniaaGreat
open Go.Vc
section
variable{m:D}{d p:E}{b:cO}
def pH(b:cO)(cG:Int)(n:Nat):Prop:=∃q:dS,0<=cG/\b.cU[cG.toNat]? =some q/\q.aY.length=n
theorem aaX:eV 9223372036854775808= -9223372036854775808:=cH
def Bg(h:iW m d p b)(cG:Int)(n oE:Nat)(G:n<=9223372036854775807)(F:oE<=1):
 ir dP 150 [.agg #[d.v,p.v],vi cG,vi n,vi oE] m (pH b cG (n+oE)):=by
 apply HR
 simp -zeta only[dT]
 intro j
 have i:=px j
 have w:∀k∈[m.size],k<j.size:=by simp[j]
 have H:=h.cU.aT
 have I:=h.cU.kM
 refine(dm).bL dt w λk J o f B=>⟨_,O,λa=>?_,λa=>?_⟩
 .have a:=o.1 a
  rw[gJ]at a
  let⟨q,g⟩:=dY b.cU cG.toNat
  let⟨e,x,y,l,D,E,s,g1,g2,z,A⟩:=(ly.ext (i.N f) h.cU).br g
  refine⟨V,V,e,s,lI ?_ (i.N f)⟩
  have u:=l.aT
  have C:=l.kM
  simp only[bQ]
  have r:(e.len:Int)=eV ((n:Int)+(oE:Int))<->e.len=n+oE:=by
   grind [Nat.lt_or_ge,dk,aaX]
  rw[r,u]
  exact⟨λv=>⟨q,a.1,g,v⟩,λ⟨K,_,c,t⟩=>by rw[g]at c;simp at c;rw[c];exact t⟩
 .refine gH (λ⟨q,e,c,_⟩=>fb o a ?_) (i.N f)
  have:=bC c
  grind [dk]
def kQ(b:cO)(p:dS)(k:Nat)(i:Instr):Prop:=
 if i.op=0 then i.aO.length=0/\-999<=i.cG/\i.cG<=999
 else if i.op=1\/i.op=2\/i.op=3\/i.op=4\/i.op=11 then i.aO.length=2/\i.cG=0
 else if i.op=5\/i.op=14\/i.op=15\/i.op=18\/i.op=23 then i.aO.length=1/\i.cG=0
 else if i.op=6 then(0<=i.cG/\i.cG<(gU b.bR).length)/\i.aO.length=(da b.bR i.cG).length/\0<=i.cR/\i.cR<=p.aU
 else if i.op=9\/i.op=24 then pH b i.cG i.aO.length
 else if i.op=10 then pH b i.cG (i.aO.length+1)/\∀q,b.cU[i.cG.toNat]? =some q->q.cW.length=0
 else if i.op=16\/i.op=17 then(1<=i.aO.length/\i.aO.length<=4)/\i.cG=0
 else if i.op=19 then i.aO.length=1/\0<=i.cG/\i.cG<=2
 else if i.op=20 then i.aO.length=1/\(k:Int)+1<=i.cG/\i.cG<=(p.cD.length:Int) -1
 else if i.op=22 then i.aO.length=0/\(k:Int)+1<=i.cG/\i.cG<=(p.cD.length:Int) -1
 else if i.op=21 then i.aO.length=1/\0<(cY b.bR i.cG).length/\Km i.fU (cY b.bR i.cG).length k p.cD.length
 else False
@[grind cases] structure iJ (im:cO) (p:dS) (k:Nat) (i:Instr):Prop where
 aO:∀a∈i.aO,0<=a/\a<=p.aU -1
 bA:0<=i.bA/\i.bA<=p.aU -1
 aei:i.bA=0\/kT i.op
 cR:i.cR=0\/i.op=6
 fU:i.op=21\/i.fU.length=0
 op:kQ im p k i
@[grind cases] structure UD (m:D) (a l:E) (c:E) (p:dS):Prop where
 aY:bg m a p.aY
 cW:bg m l p.cW
 cD:iz m c p.cD
def UD.ext{m d:D}(a:J m d){b l c:E}{p:dS}(h:UD m b l c p):UD d b l c p:=⟨h.aY.ext a,h.cW.ext a,iz.ext a h.cD⟩
def J6(af:iW m d p b)(S:eT b.bR){Y ae F:E}{q:dS}(Q:UD m Y ae F q)(hr:1<=q.aU/\q.aU<=2000){k:Nat}{i:Instr}(hk:q.cD[k]? =some i):
 ir dP 106 [.agg #[d.v,p.v],.agg #[Y.v,ae.v,vi q.bP,vi q.aU,F.v],vi k] m (iJ b q k i):=by
 apply DS
 simp -zeta only[dT]
 intro m1 X
 have U:J m X:=((J.cX m).cz _).cz _
 have az:=bC hk
 have ai:=Q.cD.aT
 have aw:=Q.cD.kM
 let⟨xa,A,C,hj,g0,g1,g2,g3,g4,g5⟩:=(iz.ext U Q.cD).br hk
 refine⟨V,V,_,g0,_,g1,_,g2,_,g3,_,g4,_,g5,?_⟩
 intro m3 v
 have l:J m v:=(U.cz _).aW U.aQ _ _
 have ac:J X v:=by grind [J.cX,J.cz,J.aW]
 have j:∀r∈[X.size,m1.size,m.size],r<v.size:=by
  grind [bE]
 have P:=C.aT
 have ay:=hj.aT
 have ar:=C.kM
 have er:eV (q.aU -1)=q.aU -1:=by grind [dk]
 rw[er]
 refine iC (n:=i.aO.length) (P▸C.kM) (λW h=>J v h/\∀x∈i.aO.take W,0<=x/\x<=q.aU -1) ⟨dt,bO⟩ ?_
 rintro W m5 ap μ ax ⟨T,hn⟩ an
 refine dit (λh1=>?_) λh1=>?_
 .let⟨x,f⟩:=dY i.aO W
  refine⟨V,V,x,by simpa using(ac.N T).aS (C.br f),?_⟩
  exact(dm).bL T j λr z e t c=>⟨_,O,λa=>gH (λg=>nb e a (g.aO x (ba f))) (l.N c),λa=>an V _ ⟨c,eI f hn (yb e a)⟩⟩
 .have ag:=iB V hn
  refine⟨λh=>J v h/\(0<=i.bA/\i.bA<=q.aU -1)/\(i.bA=0\/kT i.op)/\(i.cR=0\/i.op=6)/\(i.op=21\/i.fU.length=0),?_,?_⟩
  .refine(dm).bL T j λr z e t c=>⟨_,O,λa=>gH (λg=>nb e a g.bA) (l.N c),λa=>?_⟩
   have aa:=yb e a
   have tail:∀h:D,J v h->(i.bA=0\/kT i.op)->
    ((i.cR !=0)=true->((i.op !=6)=true->∃s:Bool,vb false=.bool s/\(s=true<->iJ b q k i)/\J m h)/\((i.op !=6)=false->
     ((i.op !=21)=true->((decide ((A.len:Int)>0))=true->∃s:Bool,vb false=.bool s/\(s=true<->iJ b q k i)/\J m h)/\((decide ((A.len:Int)>0))=false->J v h/\(0<=i.bA/\i.bA<=q.aU -1)/\(i.bA=0\/kT i.op)/\(i.cR=0\/i.op=6)/\(i.op=21\/i.fU.length=0)))/\
     ((i.op !=21)=false->J v h/\(0<=i.bA/\i.bA<=q.aU -1)/\(i.bA=0\/kT i.op)/\(i.cR=0\/i.op=6)/\(i.op=21\/i.fU.length=0))))/\
    ((i.cR !=0)=false->
     ((i.op !=21)=true->((decide ((A.len:Int)>0))=true->∃s:Bool,vb false=.bool s/\(s=true<->iJ b q k i)/\J m h)/\((decide ((A.len:Int)>0))=false->J v h/\(0<=i.bA/\i.bA<=q.aU -1)/\(i.bA=0\/kT i.op)/\(i.cR=0\/i.op=6)/\(i.op=21\/i.fU.length=0)))/\
     ((i.op !=21)=false->J v h/\(0<=i.bA/\i.bA<=q.aU -1)/\(i.bA=0\/kT i.op)/\(i.cR=0\/i.op=6)/\(i.op=21\/i.fU.length=0))):=by
    intro h G Z
    have o:(i.cR=0\/i.op=6)->((i.op !=21)=true->((decide ((A.len:Int)>0))=true->∃s:Bool,vb false=.bool s/\(s=true<->iJ b q k i)/\J m h)/\((decide ((A.len:Int)>0))=false->J v h/\(0<=i.bA/\i.bA<=q.aU -1)/\(i.bA=0\/kT i.op)/\(i.cR=0\/i.op=6)/\(i.op=21\/i.fU.length=0)))/\
     ((i.op !=21)=false->J v h/\(0<=i.bA/\i.bA<=q.aU -1)/\(i.bA=0\/kT i.op)/\(i.cR=0\/i.op=6)/\(i.op=21\/i.fU.length=0)):=by
     intro B
     refine⟨λf=>⟨λu=>?_,λu=>?_⟩,λf=>?_⟩
     .grind [iJ.fU,J.N]
     .grind
     .grind
    refine⟨λf=>⟨λu=>?_,λu=>o (bH cC)⟩,λf=>o (bz cC)⟩
    grind [iJ.cR,J.N]
   refine⟨λf=>?_,λf=>tail z c (bz cC)⟩
   refine(Cy _ _).bL c j λr x e u w=>⟨_,O,λy=>?_,λy=>tail x w (bH (yb e y))⟩
   grind [iJ.aei,J.N]
  .rintro m8 ⟨o,aa,Z,ak,al⟩
   have ad:=l.N o
   have aj:iJ b q k i<->kQ b q k i:=⟨λg=>g.op,λg=>⟨ag,aa,Z,ak,al,g⟩⟩
   rw[aj]
   have z:iW m8 d p b:=iW.ext ad af
   refine⟨λG=>?_,λG=>?_⟩
   .simp only[bQ]at G
    have g:kQ b q k i<->i.aO.length=0/\-999<=i.cG/\i.cG<=999:=by grind [kQ]
    rw[g]
    refine⟨λt=>?_,λt=>?_⟩
    .simp only[bQ]at t
     refine(dm).bL o j λr x e c a=>⟨_,O,lI ?_ (l.N a)⟩
     rw[e];omega
    grind [beq_eq_false_iff_ne]
   simp only[bd]at G
   refine⟨λH=>?_,λH=>?_⟩
   .grind [kQ,List.length,beq_eq_false_iff_ne]
   simp only[cZ,bd]at H
   replace H:¬(i.op=1\/i.op=2\/i.op=3\/i.op=4\/i.op=11):=V
   refine⟨λI=>?_,λI=>?_⟩
   .grind [kQ,List.length,beq_eq_false_iff_ne]
   simp only[cZ,bd]at I
   replace I:¬(i.op=5\/i.op=14\/i.op=15\/i.op=18\/i.op=23):=V
   refine⟨λK=>?_,λK=>?_⟩
   .simp only[bQ]at K
    have g:kQ b q k i<->(0<=i.cG/\i.cG<(gU b.bR).length)/\i.aO.length=(da b.bR i.cG).length/\0<=i.cR/\i.cR<=q.aU:=by grind [kQ]
    rw[g]
    refine(pK z.bR S _).bL o j ?_
    rintro _ x ⟨aq,rfl,B,c⟩
    refine⟨c,_,O,dit (λa=>?_) λa=>?_⟩
    .have N:0<=i.cG/\i.cG<(gU b.bR).length:=by
      rcases B with⟨L,M,f,u,w,y⟩|⟨f,_⟩
      .have:=KB b.bR (show L+1<=b.bR.length from bC u);grind [wX,qI]
      .omega
     refine(Lg (dw.ext c z.bR) S).bL (o.N c) j ?_
     rintro _ am ⟨ao,rfl,R,f⟩
     have ab:=R.aT
     refine⟨f,_,O,λu=>?_,λu=>?_⟩
     .simp only[bQ]at u
      refine(dm).bL ((o.N c).N f) j λr ah e w y=>⟨_,O,lI ?_ (l.N y)⟩
      grind
     grind [beq_eq_false_iff_ne,J.N]
    .refine gH (λN=>?_) (ad.N c)
     rcases B with⟨L,M,f,u,w,y⟩|⟨_,f⟩
     .omega
     .exact f N.1
   simp only[bd]at K
   refine⟨λB=>?_,λB=>?_⟩
   .simp only[eK,bQ]at B
    have g:kQ b q k i<->pH b i.cG (i.aO.length+0):=by grind [kQ]
    rw[g]
    have M:=Bg z i.cG i.aO.length 0 V V
    rw[P]
    refine M.bL o j λr x e c a=>⟨_,O,lI e (l.N a)⟩
   simp only[cZ,bd]at B
   replace B:¬(i.op=9\/i.op=24):=V
   refine⟨λL=>?_,λL=>?_⟩
   .simp only[bQ]at L
    have g:kQ b q k i<->pH b i.cG (i.aO.length+1)/\∀q,b.cU[i.cG.toNat]? =some q->q.cW.length=0:=by grind [kQ]
    rw[g]
    have M:=Bg z i.cG i.aO.length 1 V V
    rw[P]
    refine M.bL o j λr x e c a=>⟨_,O,λf=>?_,λf=>gH (λN=>fb e f N.1) (l.N a)⟩
    let⟨q',u,w,y⟩:=(e.1 f)
    let⟨a',s,c',aq,ah,av,f0,N,f2,f3,f4⟩:=(ly.ext c z.cU).br w
    have:=z.cU.aT
    have:=bC w
    refine⟨V,V,s,N,lI ?_ (l.N a)⟩
    have au:=ah.aT
    grind
   simp only[bd]at L
   refine⟨λs=>?_,λs=>?_⟩
   .simp only[eK,bQ]at s
    have g:kQ b q k i<->(1<=i.aO.length/\i.aO.length<=4)/\i.cG=0:=by grind [kQ]
    rw[g]
    refine(dm).bL o j λr x e c a=>⟨_,O,λf=>lI ?_ (l.N a),λf=>gH ?_ (l.N a)⟩
    .grind
    grind
   simp only[cZ,bd]at s
   replace s:¬(i.op=16\/i.op=17):=V
   refine⟨λy=>?_,λy=>?_⟩
   .simp only[bQ]at y
    have g:kQ b q k i<->i.aO.length=1/\0<=i.cG/\i.cG<=2:=by grind [kQ]
    rw[g]
    refine⟨λt=>?_,λt=>?_⟩
    .simp only[bQ]at t
     refine(dm).bL o j λr x e c a=>⟨_,O,lI ?_ (l.N a)⟩
     rw[e];omega
    grind [beq_eq_false_iff_ne]
   simp only[bd]at y
   have ek:eV ((k:Int)+1)=(k:Int)+1:=by grind [dk]
   have ec:eV ((F.len:Int) -1)=(q.cD.length:Int) -1:=by grind [dk]
   rw[ek,ec]
   refine⟨λM=>?_,λM=>?_⟩
   .simp only[bQ]at M
    have g:kQ b q k i<->i.aO.length=1/\(k:Int)+1<=i.cG/\i.cG<=(q.cD.length:Int) -1:=by grind [kQ]
    rw[g]
    refine⟨λt=>?_,λt=>?_⟩
    .simp only[bQ]at t
     refine(dm).bL o j λr x e c a=>⟨_,O,lI ?_ (l.N a)⟩
     rw[e];omega
    grind [beq_eq_false_iff_ne]
   simp only[bd]at M
   refine⟨λN=>?_,λN=>?_⟩
   .simp only[bQ]at N
    have g:kQ b q k i<->i.aO.length=0/\(k:Int)+1<=i.cG/\i.cG<=(q.cD.length:Int) -1:=by grind [kQ]
    rw[g]
    refine⟨λt=>?_,λt=>?_⟩
    .simp only[bQ]at t
     refine(dm).bL o j λr x e c a=>⟨_,O,lI ?_ (l.N a)⟩
     rw[e];omega
    grind [beq_eq_false_iff_ne]
   simp only[bd]at N
   refine⟨λt=>?_,λt=>?_⟩
   .simp only[bQ]at t
    have g:kQ b q k i<->i.aO.length=1/\0<(cY b.bR i.cG).length/\Km i.fU (cY b.bR i.cG).length k q.cD.length:=by grind [kQ]
    rw[g]
    refine(Fp z.bR S).bL o j ?_
    rintro _ x ⟨ao,rfl,R,c⟩
    have ab:=R.aT
    refine⟨c,_,O,λa=>?_,λa=>?_⟩
    .simp only[bQ]at a
     refine⟨λf=>?_,λf=>?_⟩
     .simp only[bh]at f
      rw[ab,ai]
      refine(J7 (hj.ext (ac.N (o.N c))) V V).bL (o.N c) j λr am e u w=>⟨_,O,lI ?_ (l.N w)⟩
      grind
     grind [decide_eq_false_iff_not,J.N]
    grind [beq_eq_false_iff_ne,J.N]
   grind [beq_eq_false_iff_ne,kQ,False]
end
section
variable{a:D}{d p:E}{b:cO}
@[grind cases] structure ny (ds:af) (ps:av):Prop where
 dj:eT ds
 aT:1<=ps.length/\ps.length<=4
 eR:∀p∈ps,p.aY.length<=3/\Ij ds.length p.aY/\An ds.length p.bP
 first:∀p,ps[0]? =some p->p.aY.length=0/\p.bP=0
def tm(a:D)(c:ae)(p:dS):Prop:=∃b,c=[.s b,.i p.bP,.i 0,.i 0,.s .nil]/\bg a b p.aY
def tm.ext{a d:D}(h:J a d)(b:ae)(c:dS):tm a b c->tm d b c:=λ⟨f,e,g⟩=>⟨f,e,g.ext h⟩
theorem ZJ.br{s:E}{l:av}(h:fY a 5 (tm a) s l){k:Nat}{x:dS}(e:l[k]? =some x):
 ∃b,bg a b x.aY/\aS a s.bt (s.off+k*5)=some b.v/\aS a s.bt (s.off+k*5+1)=some (vi x.bP)/\aS a s.bt (s.off+k*5+2)=some (vi 0)/\aS a s.bt (s.off+k*5+3)=some (vi 0)/\aS a s.bt (s.off+k*5+4)=some (E.v .nil):=by
 obtain⟨f,⟨b,rfl,d⟩,c⟩:=h.kv k x e
 exact⟨b,d,c 0 (.s b) O,c 1 (.i x.bP) O,c 2 (.i 0) O,c 3 (.i 0) O,c 4 (.s .nil) O⟩
def zA{y:E}{j:af}{h:av}(hd:dw a d j)(w:fY a 5 (tm a) y h):
 ir dP 52 [.agg #[d.v,y.v]] a (ny j h):=by
 apply Gp
 simp -zeta only[dT]
 intro q
 have m:=px q
 have F:∀e∈[a.size],e<q.size:=by simp[q]
 have l:=hd.aT
 have aa:=w.aT
 refine(J9 (dw.ext m hd)).bL dt F λe m2 b N Q=>⟨_,O,λu=>gH (λc=>nb b u c.dj) (m.N N),λu=>?_⟩
 have T:=yb b u
 refine(dm).bL Q F λe m3 b Z C=>⟨_,O,λv=>gH (λc=>nb b v (oh c.aT)) (m.N C),λv=>?_⟩
 have ab:=yb b v
 refine iC (n:=h.length) V (λx f=>J q f/\∀p∈h.take x,p.aY.length<=3/\Ij j.length p.aY/\An j.length p.bP) ⟨C,bO⟩ ?_
 rintro x K X μ hj ⟨I,H⟩ W
 have g:=m.N I
 refine dit (λR=>?_) λR=>?_
 .let⟨p,f⟩:=dY h x
  let⟨M,k,r,g1,g2,z,A⟩:=ZJ.br (w.aP g (tm.ext g)) f
  have S:=k.aT
  refine⟨V,V,_,r,_,g1,_,g2,_,z,_,A,?_⟩
  intro m5 L
  have o:J K L:=by grind [J.cX,J.cz,J.aW]
  have G:∀e∈[K.size,a.size],e<L.size:=by
   grind [J.lt,Array.size,J.aQ,bE]
  refine⟨λi=>?_,λi=>?_⟩
  .grind [ny.eR,ba,J.N]
  simp only[dK]at i
  refine(AQ (k.ext o)).bL dt G λe m7 b D P=>⟨_,O,λs=>gH (λc=>nb b s (l▸(c.eR p (ba f)).2.1)) ((g.N o).N D),λs=>?_⟩
  have U:=yb b s
  refine(dm).bL P G λe m8 b Y B=>⟨_,O,λt=>?_,λt=>?_⟩
  .refine gH (λc=>nb b t ?_) ((g.N o).N B)
   rw[l];exact(c.eR p (ba f)).2.2
  .refine W V _ ⟨(I.N o).N B,eI f H ⟨V,l▸U,?_⟩⟩
   have:=yb b t
   rw[l]at this;exact this
 .have o:=iB V H
  let⟨p,f⟩:=dY h 0
  let⟨M,k,r,g1,g2,z,A⟩:=ZJ.br (w.aP g (tm.ext g)) f
  have S:=k.aT
  refine⟨V,V,_,r,λi=>?_,λi=>?_⟩
  .simp only[bQ]at i
   refine⟨V,V,_,g1,lI ?_ g⟩
   simp only[bQ]
   refine⟨λD=>⟨T,V,o,λt s=>?_⟩,λc=>(c.first p f).2⟩
   grind
  grind [beq_eq_false_iff_ne,ny.first]
def HZ(N:iW a d p b)(ap:b.cU.length<=4):
 bJ dP 53 [.agg #[E.v d,E.v p]] a λal i=>∃M,al=.agg #[E.v d,E.v M]/\fY i 5 (tm i) M b.cU/\J a i:=by
 apply Cz
 simp -zeta only[kU,nQ]
 intro s j g K l
 have aq:=N.cU.aT
 have ah:J a K:=(((J.cX a).cz _).cz _|>.cz _).cz _
 have s3:g.size=a.size+3:=by simp[g,j,s]
 have s2:j.size=a.size+2:=by simp[j,s]
 have s1:=pz s
 have s5:l.size=a.size+4:=by simp[l,K,bE,s3]
 have ai:J a l:=ah.aW V _ _
 have aa:dJ l g.size nL [.s d,.s (.mk j.size 0 0 0)]:=dJ.aW (m:=K) (o:=0) (r:=[.s d,.s (.mk j.size 0 0 0)]) (dJ.push g _ _)
 have ag:=py l
 have ad:js a l jb 5 (.mk j.size 0 0 0) ([]:List ae).flatten:=
  (js.bI (((J.cX a).cz _).cz _:J a j) jb 5 [] 0 bO:js a g jb 5 (.mk j.size 0 0 0) []).ext ag
 refine iC (n:=b.cU.length) V (λB i=>J a i/\l.size<=i.size/\∃f v,dJ i g.size nL [.s d,.s f]/\js a i jb 5 f v.flatten/\fL 5 (tm a) v (b.cU.take B)/\f≠.nil/\s.size<f.bt/\f.bt≠g.size/\f.len=B)
  ⟨ai,bY,_,[],aa,ad,by simpa using fL.gF 5 (tm a),bO,fu,fu,O⟩ ?_
 rintro B L am μ hk ⟨z,ax,f,v,w,Q,I,au,ar,af,S⟩ ak
 refine dit (λU=>?_) λU=>?_
 .let⟨C,R⟩:=dY b.cU B
  let⟨q,c,an,ha,e,hc,T,g1,g2,g3,g4⟩:=N.cU.br R
  refine⟨f,w.dg 1,V,V,q,by simpa using z.aS T,V,V,_,by simpa using z.aS g2,?_⟩
  intro k
  have A:=px k
  refine⟨A.cK (w.dg 1),?_⟩
  have ni:jw k L.size 0 [.s q,.i C.bP,.i 0,.i 0,.s .nil]:=(dJ.push L _ _).kv
  have ac:=w.ext A
  have av:=pz k
  refine js.fE (c:=[.s .nil,.i 0,.i 0,.i 0,.s .nil]) (i:=[.s q,.i C.bP,.i 0,.i 0,.s .nil]) (Q.ext A) (z.N A) O ni (by simp[S];omega) ?_
  intro u t Y Z F ao W X
  have D:∀c,c<k.size->c≠f.bt->t[c]? =k[c]? :=λc e G=>W c e (λ_=>G)
  have x:s.size<u.bt/\u.bt≠g.size:=by
   rcases X with⟨_,h⟩|⟨_,h,_⟩|h
   .rw[h]at F;simp at F
   .rw[h];constructor<;>omega
   .rw[h];constructor<;>omega
  have P:dJ t g.size nL [.s d,.s f]:=ac.congr (D _ V (λh=>af h.symm))
  refine⟨λc e=>?_,P.gK bO,?_⟩
  .simp at e
   rcases e with rfl|rfl
   .exact D _ V V
   .exact D _ V V
  intro y
  have aw:y.size=t.size:=by simp[y,bE]
  have ab:dJ y g.size nL [.s d,.s u]:=dJ.aW (m:=t) (o:=1) (r:=[.s u]) P
  have H:∀c,c≠g.size->y[c]? =t[c]? :=λc e=>cw _ _ _ _ e
  have aj:J a y:=Z.aW V _ _
  refine⟨λc e=>?_,?_⟩
  .simp at e
   rcases e with rfl|rfl
   .exact H _ V
   .exact H _ V
  refine ak V _ ⟨aj,V,u,v++[[.s q,.i C.bP,.i 0,.i 0,.s .nil]],ab,?_,?_,?_,x.1,x.2,by simp[F,S]⟩
  .rw[vn]
   exact(by simpa using Y:js a t jb 5 u (v.flatten++[[.s q,.i C.bP,.i 0,.i 0,.s .nil]].flatten)).congr (H _ x.2)
  .rw[bW R]
   exact I.Ch O ⟨q,O,ha⟩
  .intro h
   rw[h]at x;simp at x
 .refine⟨d,w.dg 0,f,w.dg 1,?_⟩
  intro k
  have G:∀c,c≠s.size->k[c]? =L[c]? :=λc e=>cw _ _ _ _ e
  have h:J a k:=z.aW V _ _
  refine⟨f,O,?_,h⟩
  rw[eY V]at I
  exact(fY.jT (Q.congr (G _ V)) I V V).aP dt (tm.ext h)
@[grind cases] structure nH (im:cO) (p:dS):Prop where
 cW:Ej p.aY p.cW
 aU:(p.aY.length:Int)<=p.aU/\1<=p.aU/\p.aU<=2000
 aT:1<=p.cD.length/\p.cD.length<=2000
 eR:∀(k:Nat)(i:Instr),p.cD[k]? =some i->iJ im p k i
 Dr:∀i,p.cD[p.cD.length -1]? =some i->i.op=23\/i.op=24
def LI(H:iW a d p b)(Q:eT b.bR){x F s:E}{q:dS}(f:UD a x F s q):
 ir dP 54 [.agg #[d.v,p.v],.agg #[x.v,F.v,vi q.bP,vi q.aU,s.v]] a (nH b q):=by
 apply Gn
 simp -zeta only[dT]
 intro T w
 have g:J a w:=((J.cX a).cz _).cz _
 have o:∀h∈[T.size,a.size],h<w.size:=cC
 have aa:=f.aY.aT
 have ab:=f.cD.aT
 refine(zy (f.aY.ext g) (f.cW.ext g)).bL dt o λh m3 c I L=>⟨_,O,λt=>gH (λe=>nb c t e.cW) (g.N I),λt=>?_⟩
 have C:=yb c t
 refine(dm).bL L o λh m4 c Z M=>⟨_,O,λN=>?_,λN=>?_⟩
 .grind [J.N,nH.aU]
 refine(dm).bL M o λh m5 c h7 A=>⟨_,O,λu=>gH (λe=>nb c u (oh e.aT)) (g.N A),λu=>?_⟩
 have ad:=yb c u
 have v:(q.aY.length:Int)<=q.aU/\1<=q.aU/\q.aU<=2000:=by
  grind
 refine iC (n:=q.cD.length) V (λr S=>J w S/\∀(k:Nat)(i:Instr),k<r->q.cD[k]? =some i->iJ b q k i) ⟨A,bO⟩ ?_
 rintro r m6 U μ hj ⟨D,hn⟩ ae
 have j:=g.N D
 refine dit (λK=>?_) λK=>?_
 .let⟨i,m⟩:=dY q.cD r
  refine(J6 (iW.ext j H) Q (f.ext j) v.2 m).bL D o λh B c l z=>⟨_,O,λy=>gH (λe=>nb c y (e.eR r i m)) (g.N z),λy=>?_⟩
  grind
 .let⟨i,m⟩:=dY q.cD (q.cD.length -1)
  let⟨xa,xj,ha,ac,y,g1,g2,W,X,Y⟩:=(iz.ext j f.cD).br m
  have G:eV ((s.len:Int) -1)=((q.cD.length -1:Nat):Int):=by grind [dk]
  rw[G]
  have B:∀(k:Nat)(i:Instr),q.cD[k]? =some i->iJ b q k i:=by grind [bC]
  refine⟨V,V,_,sp y,λl=>?_,λl=>?_⟩
  .simp only[bQ]at l
   refine pX ⟨C,v,V,B,λR P=>?_⟩ j
   grind
  .simp only[bd]at l
   refine⟨V,V,_,sp y,lI ?_ j⟩
   simp only[bQ]
   refine⟨λz=>⟨C,v,V,B,λR P=>?_⟩,λe=>?_⟩
   .grind
   grind [nH.Dr]
@[grind cases] structure gL (im:cO):Prop where
 kX:ny im.bR im.cU
 eR:∀p∈im.cU,nH im p
def J5(h:iW a d p b):ir dP 28 [.agg #[E.v d,E.v p]] a (gL b):=by
 apply DQ;simp -zeta only[kU,nQ];intro i;have e:=px i;have m:∀g∈[a.size],g<i.size:=by simp[i]
 have R:=h.cU.aT;refine dit (λC=>?_) λC=>?_
 .exact gH (λf=>oh f.kX.aT) e
 refine(HZ (iW.ext e h) V).bL dt m ?_;rintro _ S ⟨y,rfl,H,j⟩;refine⟨j,d,y,O,?_⟩;refine(zA (dw.ext (e.N j) h.bR) H).bL j m λg T c N t=>⟨_,O,λk=>gH (λf=>nb c k f.kX) (e.N t),λk=>?_⟩;have w:=yb c k;refine iC (n:=b.cU.length) V (λr l=>J i l/\∀s∈b.cU.take r,nH b s) ⟨t,bO⟩ ?_;rintro r U K μ Q ⟨x,v⟩ I
 have q:=e.N x;refine dit (λD=>?_) λD=>?_
 .let⟨s,o⟩:=dY b.cU r;let⟨L,g,M,F,c,G,z,g1,g2,A,B⟩:=(ly.ext q h.cU).br o;refine⟨V,V,_,z,_,g1,_,g2,_,A,_,B,?_⟩;exact(LI (iW.ext q h) w.dj ⟨F,c,G⟩).bL x m λg W c P u=>⟨_,O,λl=>gH (λf=>nb c l (f.eR s (ba o))) (e.N u),λl=>I V _ ⟨u,eI o v (yb c l)⟩⟩
 .exact pX ⟨w,iB V v⟩ q
end
section
variable{m:D}{s:E}{t c:Int}{l:ab}
theorem fY.Ts{α:Type}{d:Nat}{R:ae->α->Prop}{l:List α}(h:fY m d R s l){k:Nat}(n:k<=l.length):fY m d R (s.cut 0 k d) (l.take k):=by
 have b:=h.aT;have f:=h.mr;have i:=h.kM;cases s with
 |nil=>
  simp at b;have:k=0:=V;subst this;exact⟨by simp[E.cut],by simp[E.cut],by simp[E.cut],bO⟩
 |Ec e o sp=>
  simp at b;have:k=0:=V;subst this;exact⟨by simp[E.cut],by simp[E.cut],by simp[E.cut],bO⟩
 |mk e o p c=>
  simp only[E.lU,E.Tk]at b f i;refine⟨by simp[E.cut];omega,by simp[E.cut];omega,by simp[E.cut];omega,λj x a=>?_⟩;have g:j<k:=by have:=bC a;simp at this;omega
  rw[lQ,a8 g]at a;have:=h.kv j x a;simpa[E.cut]using this
def ub{bR:E}:ir dP 71 [bR.v,vi t] m (An bR.len t):=by
 apply KN;constructor<;>grind [J.cX,An]
def Av{g:E}(b:bg m g l){bR:E}:ir dP 72 [bR.v,g.v] m (Ij bR.len l):=by
 apply Hf;have i:=b.aT;refine iC (n:=l.length) (i▸b.kM) (λk a=>J m a/\∀t∈l.take k,An bR.len t) ⟨dt,bO⟩ ?_;rintro k r I μ q ⟨a,f⟩ o
 refine dit (λh=>?_) λh=>?_
 .let⟨x,c⟩:=dY l k;refine⟨V,V,x,by simpa using a.aS (b.br c),?_⟩;exact(ub).cg λp s e d=>⟨_,O,λh=>gH (λj=>nb e h (j x (ba c))) (a.N d),λh=>o V _ ⟨a.N d,eI c f (yb e h)⟩⟩
 .exact pX (iB V f) a
def qL(a:Int)(m:D)(b:a≠7/\a≠8):ir dP 79 [vi a] m (kT a):=by
 apply AG;constructor<;>grind [J.cX,kT]
def uY{bR:E}{a:af}(hd:dw m bR a)(s:a.length<=4)(k:∀d∈a,d.dV.length<=3):yB dP 25 [E.v bR] m (vi (gU a).length):=by
 apply Hg;simp -zeta only[kU];have q:=hd.aT;refine gN (n:=a.length) V (λj f b=>J m b/\f=(fc a j:Nat)/\fc a j<=3*j) ⟨dt,by cases a<;>rfl,by cases a<;>simp[fc]⟩ ?_;rintro j f t I μ r ⟨c,rfl,p⟩ l
 refine dit (λi=>?_) λi=>?_
 .let⟨d,b⟩:=dY a j;let⟨g,e,h,g1,g2⟩:=(dw.ext c hd).br b;refine⟨V,V,_,h,_,g1,g,g2,?_⟩;intro u v;have o:=k d (ba b);refine l V _ _ ⟨(c.cz _).aW c.aQ _ _,?_,?_⟩
  .rw[dk V (oh e.aT),wX b,e.aT];rfl
  .rw[wX b];omega
 .refine⟨?_,c⟩;rw[qI a j V]
def Tq{a:af}(h:eT a):∀d∈a,d.dV.length<=3:=λd hd=>by
 grind [List.mem_iff_getElem?,mU]
def Yi:∀(a:af)(k:Nat),(gU (a.take k)).length=fc a k
 |[],k=>by simp[gU,WV]
 |d::a,0=>by simp[gU,fc]
 |d::a,k+1=>by
  have:=Yi a k;grind [gU,List.length_append,fc]
def CR{bR:E}{a:af}(hd:dw m bR a)(e:eT a)(t:Int):bJ dP 43 [E.v bR,vi t] m λK b=>∃s,K=E.v s/\js m b bG 1 s ((cY a t).map Ce.i)/\(cY a t).length<=3/\J m b:=by
 apply KK;have T:=hd.aT;have S:=hd.mr;have c:∀(h:¬(1<=t/\t<=a.length)),js m m bG 1 .nil ((cY a t).map Ce.i)/\(cY a t).length<=3:=λh=>by
  unfold cY;rw[aV h];exact⟨js.gF _ _ _ _,bO⟩
 have:=e.aT;refine dit (λh=>?_) λh=>?_
 .exact⟨_,O,(c V).1,(c V).2,dt⟩
 refine dit (λx=>?_) λx=>?_
 .exact⟨_,O,(c V).1,(c V).2,dt⟩
 have r:eV (t -1)=((t.toNat -1:Nat):Int):=by rw[dk V V];omega
 rw[r];let⟨d,f⟩:=dY a (t.toNat -1);have u:cY a t=(List.range d.dV.length).map λi=>((fc a (t.toNat -1)+i:Nat):Int):=by
  unfold cY;rw[a8 V,f];rfl
 rw[u];have Q:=tZ e (t.toNat -1);have R:=mU e f;refine⟨V,V,V,?_⟩;have C:dw m (bR.cut 0 (t.toNat -1) 3) (a.take (t.toNat -1)):=fY.Ts hd V;have g:=uY C fu (λd hd=>Tq e d (jG hd));rw[Yi]at g;refine g.cg λG p=>⟨_,O,?_⟩;let⟨w,D,M,g1,g2⟩:=(dw.ext p hd).br f;have U:=D.aT;refine⟨V,V,w,sp g2,?_⟩;refine gN (n:=d.dV.length) V (λj s b=>J m b/\js m b bG 1 s (((List.range j).map λi=>((fc a (t.toNat -1)+i:Nat):Int)).map Ce.i)/\s.len=j) ⟨p,by simpa using js.gF m G bG 1,O⟩ ?_;rintro j s H L μ W ⟨o,k,l⟩ I
 refine dit (λy=>?_) λy=>?_
 .intro q;have v:eV (((fc a (t.toNat -1):Nat):Int)+(j:Int))=((fc a (t.toNat -1)+j:Nat):Int):=by rw[dk V V];omega
  have F:q=H.push (.cells (dh [.i (((fc a (t.toNat -1)+j:Nat):Int))]) bG):=by rw[<-v]
  clear_value q;subst F;refine js.fE (c:=[.i 0]) (i:=[.i ((fc a (t.toNat -1)+j:Nat):Int)]) (k.ext (J.push _ _)) (o.cz _) O (dJ.push _ _ _).kv (by simp[l];omega) ?_;intro X b z A B N P _;refine I V _ _ ⟨A,?_,by simp[B,l]⟩
  rw[List.range_succ,kJ,kJ];exact z
 .have:j=d.dV.length:=V;subst this;exact⟨_,O,k,fu,o⟩
def xL{bR:E}{a:af}(hd:dw m bR a)(f:eT a)(t:Int):bJ dP 43 [bR.v,vi t] m λv b=>∃s,v=s.v/\bg b s (cY a t)/\J m b:=
 (CR hd f t).aP λ_ _⟨s,c,d,g,e⟩=>⟨s,c,bg.jT d V,e⟩
def U9{a:af}{i j:Nat}{d:cV}{f:ab}(h:a[i]? =some d)(b:d.dV[j]? =some f):da a ((fc a i+j:Nat):Int)=f:=by
 unfold da;rw[a8 V,iO,vC a i j d h (bC b),b];rfl
def IZ{a:af}(h:c∈cY a t):1<=t/\t<=a.length/\(fc a (t.toNat -1):Int)<=c/\c<fc a t.toNat:=by
 unfold cY at h;split at h
 .rename_i e;let⟨x,b⟩:=dY a (t.toNat -1);rw[b]at h;obtain⟨i,d,rfl⟩:=fA.1 h;have:=wX b;grind
 .simp at h
theorem UT{b:af}{a:Int}(h:c∈cY b t)(e:c∈cY b a):t=a:=by
 let⟨f,a2,a3,a4⟩:=IZ h;let⟨b1,b2,b3,b4⟩:=IZ e;rcases Nat.lt_trichotomy t.toNat a.toNat with d|d|d
 .have:=KB b (b:=t.toNat) (c:=a.toNat -1) V;omega
 .omega
 .have:=KB b (b:=a.toNat) (c:=t.toNat -1) V;omega
def Ix{bR:E}{a:af}(hd:dw m bR a)(o:eT a)(c:Int)(Z: -1000000<=c/\c<=1000000):bJ dP 202 [bR.v,vi c] m λS e=>∃t s,S=.tuple #[vi t,.agg #[s.v]]/\bg e s (da a c)/\J m e/\(0<=t->c∈cY a t)/\(∀w,c∈cY a w->0<=t):=by
 apply Mm;simp -zeta only[dT];intro r;have Q:=px r;clear_value r;have aa:=hd.aT;have:=o.aT;refine gN (n:=a.length) V (λb x e=>J m e/\r.size<=e.size/\x=c -(fc a b:Nat)/\¬(0<=c/\c<fc a b)) ⟨Q,bY,by cases a<;>simp[fc],by cases a<;>simp[fc]⟩ ?_;rintro b x B I μ hj ⟨P,ae,rfl,N⟩ ag
 refine dit (λH=>?_) λH=>?_
 .let⟨y,d⟩:=dY a b;let⟨f,z,F,g1,g2⟩:=(dw.ext P hd).br d;have ab:=z.aT;have X:=tZ o b;have Y:=mU o d;refine⟨V,V,_,F,_,g1,f,g2,?_⟩;intro m3 u;have R:J B u:=by grind [J.cX,J.cz,J.aW]
  have A:¬(0<=c -(fc a b:Nat)/\c -(fc a b:Nat)<y.dV.length)->I (eV (c -(fc a b:Nat) -(f.len:Int))) (eV ((b:Int)+1)) u/\μ (eV (c -(fc a b:Nat) -(f.len:Int))) (eV ((b:Int)+1)) u<μ (c -(fc a b:Nat)) b B:=by
   grind [J.N,J.aQ,dk,wX]
  refine⟨λg=>⟨λl=>?_,λl=>A ?_⟩,λg=>A ?_⟩
  .simp only[bh]at g l;let⟨T,p⟩:=dY y.dV ((c -(fc a b:Nat)).toNat);let⟨k,hg,G⟩:=(rX.ext R z).br p;refine⟨V,V,k,G,?_⟩;intro v;have q:J m v:=by grind [J.N,J.aW]
   have M:c∈cY a (eV ((b:Int)+1)):=by
    rw[Pl V];unfold cY;rw[a8 V,show((b+1:Nat):Int).toNat -1=b by omega,d];grind [fc]
   refine⟨_,k,O,?_,q,λ_=>M,λ_ _=>by rw[Pl V];omega⟩;have h:da a c=T:=by
    have:=U9 d p;grind
   rw[h];obtain⟨C,K,_,_,U⟩:=hd.br d;have L:f=C:=by
    grind [J.aS,E.YL]
   subst L;let⟨D,ac,W⟩:=K.br p;have ad:k=D:=by
    grind [J.N,J.aS,E.YL]
   grind [bg.ext]
  .simp at g l;omega
  .simp at g;omega
 .intro v;have q:J m v:=by grind [J.aW]
  refine⟨_,.nil,O,?_,q,λd=>absurd d cH,λw f=>absurd ?_ N⟩;rotate_left
  .let⟨b1,b2,b3,b4⟩:=IZ f;have:=KB a (b:=w.toNat) (c:=b) V;omega
  have h:da a c=[]:=by
   grind [da,List.getElem?_eq_none,qI]
  rw[h];exact⟨O,bY,bO,bO⟩
theorem RK{bR:E}{a:af}(hd:dw m bR a)(h:eT a)(c:Int)(g: -1000000<=c/\c<=1000000):bJ dP 202 [bR.v,vi c] m λv b=>∃t s,v=.tuple #[vi t,.agg #[s.v]]/\bg b s (da a c)/\J m b:=
 (Ix hd h c g).aP λ_ _⟨t,s,d,e,f,_⟩=>⟨t,s,d,e,f⟩
def uZ{bR:E}{a:af}(hd:dw m bR a)(e:eT a)(d: -1000000<=c/\c<=1000000):bJ dP 137 [E.v bR,vi c] m λv b=>∃s,v=E.v s/\bg b s (da a c)/\J m b:=by
 apply Hh;grind [kU,nQ,RK,bJ.aP,J,J.cX,J.cz,J.aW,bg.ext,J.N]
def AP(f:bg m s l)(g:Nat)(e d:Array Value)(t:GL.elem g=true)(q:Int->Prop)
 (p:∀x∈l,∀a,J m a->ir dP g (e.toList++[vi x]++d.toList) a (q x)):
 bJ dP 136 [s.v,.func (.func g) e d] m λz a=>∃r:Int,z=vi r/\J m a/\
  ((r= -1/\∀x∈l,¬q x)\/∃(k:Nat)(x:Int),r=k/\l[k]? =some x/\q x/\∀y∈l.take k,¬q y):=by
 apply ve s (.func g,e,d)
 have u:=f.aT
 refine iC (n:=l.length) (u▸f.kM) (λk a=>J m a/\∀y∈l.take k,¬q y) ⟨dt,bO⟩ ?_
 rintro k v I μ B ⟨b,o⟩ w
 refine⟨λh=>?_,λh=>?_⟩
 .simp only[bh]at h
  let⟨x,c⟩:=dY l k
  refine⟨V,V,x,by simpa using b.aS (f.br c),g,O,t,?_⟩
  exact(p x (ba c) v b).cg λA C j i=>⟨_,O,λh=>⟨_,O,b.N i,bH ⟨k,x,O,c,j.1 h,o⟩⟩,λh=>w V _ ⟨b.N i,eI c o (fb j h)⟩⟩
 .grind [decide_eq_false_iff_not]
def lC(f:bg m s l)(g:Nat)(b a:Array Value)(e:GL.elem g=true)(q:Int->Prop)
 (d:∀x∈l,∀c,J m c->ir dP g (b.toList++[vi x]++a.toList) c (q x)):
 ir dP 81 [s.v,.func (.func g) b a] m (∃x∈l,q x):=by
 apply tJ s (.func g,b,a)
 refine(AP f g b a e q d).aP ?_
 grind [ge_iff_le,ba]
end
section
variable{s c k d r:E}{b:D}{e:ad}{Q:ab->Prop}{v:ab}{x:eQ}
structure _root_.Go.Vc.jV where
 aY:ab
 cW:ab
 bP:Int
 eZ:Bk
def lz(m:D)(a:ae)(r:jV):Prop:=∃p l s,a=[.s p,.s l,.i r.bP,.s s,.i r.eZ.bP]/\bg m p r.aY/\bg m l r.cW/\iI m s r.eZ.bq
abbrev El(m:D)(s:E)(l:List jV):Prop:=fY m 5 (lz m) s l
@[grind cases] structure iD (m:D) (d r:E) (ds:af) (rs:List jV):Prop where
 bR:dw m d ds
 lJ:El m r rs
 dj:eT ds
 pP:rs.length<=4
theorem lz.le{m b:D}(h:Le m b){a:ae}{x:jV}:lz m a x->lz b a x:=λ⟨p,l,s,c,d,e,f⟩=>⟨p,l,s,c,d.le h,e.le h,f.le h⟩
def lz.aP:qF 5 lz:=⟨λh=>lz.le h,λh=>by obtain⟨_,_,_,rfl,_⟩:=h;rfl⟩
def El.le{m b:D}(a:Le m b){s:E}{l:List jV}(h:El m s l):El b s l:=by grind [fY.le,lz.le]
theorem El.br{m:D}{l:List jV}(h:El m s l){k:Nat}{x:jV}(f:l[k]? =some x):
 ∃p t b,bg m p x.aY/\bg m t x.cW/\iI m b x.eZ.bq/\aS m s.bt (s.off+k*5)=some p.v/\aS m s.bt (s.off+k*5+1)=some t.v/\aS m s.bt (s.off+k*5+2)=some (vi x.bP)/\aS m s.bt (s.off+k*5+3)=some b.v/\aS m s.bt (s.off+k*5+4)=some (vi x.eZ.bP):=by
 obtain⟨g,⟨p,t,b,rfl,c,d,e⟩,a⟩:=h.kv k x f
 exact⟨p,t,b,c,d,e,a 0 _ O,a 1 _ O,a 2 _ O,a 3 _ O,a 4 _ O⟩
theorem iD.le{m b:D}{d r:E}{a:af}{e:List jV}(h:iD m d r a e)(c:Le m b):iD b d r a e:=⟨h.bR.le c,h.lJ.le c,h.dj,h.pP⟩
def ER{m:D}:Le m (di [] m):=λb o v h=>gY.2 ⟨bO,h⟩
theorem KD{a:af}(h:eT a)(c:Int):(da a c).length<=3:=by
 unfold da;split
 .rcases eH c.toNat (gU a).length with b|b
  .let⟨i,d,e,f,g⟩:=zJ a c.toNat b;have j:=vC a i (c.toNat -fc a i) d e V;grind [fc,dY,eT.eR,zH.iY,ba]
  grind [List.getElem?_eq_none]
 .simp
def aef{a:af}(h:eT a)(t:Int):(cY a t).length<=3:=by
 grind [cY,mU]
def WH{a:af}(h:eT a)(b cG:Int)(k:Nat):GK a b cG k<=3:=by
 grind [GK,KD]
abbrev Kl(f:Nat)(a:ap)(m:D):Prop:=xC f a m λ_=>True
def tn(f:Nat)(a:ap)(m:D):Prop:=bJ dP f a m λv b=>∃c:Bool,v=.bool c/\J m b
def rN{m:D}{n:Int}(h:J m b):∃k:Int,vi n=vi k/\True/\J m b:=⟨n,O,trivial,h⟩
def rA{m:D}{a:Bool}(h:J m b):∃k:Bool,vb a=.bool k/\J m b:=⟨a,O,h⟩
def _root_.Go.Vc.ir.jS{f:Nat}{a:ap}{m:D}{p:Prop}(h:ir dP f a m p):tn f a m:=h.aP λ_ _⟨b,e,_,x⟩=>⟨b,e,x⟩
section
variable{f:Nat}{g:ap}{a m:D}{K:ak}{l:ad}
def Kl.bL(i:Kl f g m)(e:J a m)(o:∀c∈l,c<a.size)(k:∀(n:Int) b,J m b->J a b->K (vi n) b):bJ dP f g m λv b=>gT l m b/\K v b:=
 i.aP λ_ b⟨n,h,_,d⟩=>⟨d.fg λc j=>e.lt (o c j),h▸k n b d (e.N d)⟩
def tn.bL(i:tn f g m)(e:J a m)(n:∀c∈l,c<a.size)(k:∀(c:Bool) b,J m b->J a b->K (vb c) b):bJ dP f g m λv b=>gT l m b/\K v b:=
 i.aP λ_ b⟨o,h,d⟩=>⟨d.fg λc j=>e.lt (n c j),h▸k o b d (e.N d)⟩
def xC.bL{Q:Int->Prop}(i:xC f g m Q)(e:J a m)(o:∀c∈l,c<a.size)(k:∀(n:Int) b,Q n->J m b->J a b->K (vi n) b):bJ dP f g m λv b=>gT l m b/\K v b:=
 i.aP λ_ b⟨n,h,q,d⟩=>⟨d.fg λc j=>e.lt (o c j),h▸k n b q d (e.N d)⟩
def Kk.bL(k:Kk f g m e Q)(i:J a m)(q:∀d∈l,d<a.size)(p:∀s c b,bg (di e b) s c->Q c->J m b->J a b->K s.v b):bJ dP f g m λv b=>gT l m b/\K v b:=
 k.aP λ_ b⟨s,c,j,n,r,h⟩=>⟨h.fg λd o=>i.lt (q d o),j▸p s c b n r h (i.N h)⟩
def oC.bL(k:oC f g m e Q)(i:J a m)(q:∀d∈l,d<a.size)(p:∀s c b,GI e m b s c->Q c->J m b->J a b->K s.v b):bJ dP f g m λv b=>gT l m b/\K v b:=
 k.aP λ_ b⟨s,c,j,n,r,h⟩=>⟨h.fg λd o=>i.lt (q d o),j▸p s c b n r h (i.N h)⟩
end
def _root_.Go.Vc.J.abE{a m:D}(e:J a m){l:ad}(d:∀c∈l,c<a.size)(h:J m b):gT l m b:=by grind [J.fg,J.lt]
def fX{m:D}{bR:E}{a:af}(hd:dw (di e m) bR a)(f:eT a)(c:Int):Kk 149 [bR.v,vi c] m e (da a c=·):=by
 apply vM;have l:dw m bR a:=hd.le fJ;have F:=hd.aT;have:=f.aT;refine(pK l f c).aP ?_;rintro _ I ⟨K,rfl,k,h⟩;refine⟨_,O,dit (λt=>?_) λt=>?_⟩
 .refine⟨_,_,O,?_,O,h.cz _⟩;have g:da a c=[]:=by
   rcases k with⟨i,d,u,_⟩|⟨_,b⟩
   .omega
   .grind [da]
  rw[g];exact⟨O,bY,bO,bO⟩
 .rcases k with⟨i,d,rfl,b,A,B⟩|⟨u,_⟩
  .have H:=bC b;let⟨r,n,y,g1,g2⟩:=(hd.le (h.eX (S:=e))).br b;have o:eV ((i:Int)+1 -1)=i:=by grind [dk]
   rw[o];have g2:=(gY.1 g2).2;refine⟨V,V,r,sp g2,?_⟩;refine(nt (dw.ext h l) f V).cg λJ g=>⟨_,O,g.cK (sp g2),?_⟩;have z:=tZ f i;have C:=mU f b;have G:=n.aT;let⟨x,w⟩:=dY d.dV ((c -fc a i).toNat);let⟨j,v,s⟩:=rX.br (fY.le n (g.eX (S:=e)) (nD.le (g.eX (S:=e)))) w;have p:eV (c -(fc a i:Int))=c -fc a i:=by grind [dk]
   rw[p];refine⟨V,V,j,(gY.1 s).2,j,_,O,?_,O,h.N g⟩;have q:da a c=x:=by
    unfold da;rw[a8 V];have:=vC a i (c -fc a i).toNat d b V;grind
   rw[q];exact v
  .omega
def kA{m:D}(L:∀l∈e,l<m.size){bR:E}{a:af}(hd:dw m bR a)(c:eT a)(t:Int):Kk 151 [bR.v,vi t] m e (cY a t=·):=by
 apply zo;intro B;have M:=hd.aT;have:=c.aT;have u:=px B;refine(dm).cg λl Q y g=>⟨_,O,λh=>?_,λh=>?_⟩
 .refine⟨_,_,O,?_,O,u.N g⟩;have f:cY a t=[]:=by
   grind [cY]
  rw[f];exact⟨O,bY,bO,bO⟩
 .have h:=yb y h;have v:eV (t -1)=((t.toNat -1:Nat):Int):=by grind [dk]
  rw[v];let⟨d,q⟩:=dY a (t.toNat -1);have w:cY a t=(List.range d.dV.length).map λk=>((fc a (t.toNat -1)+k:Nat):Int):=by
   grind [cY]
  rw[w];have H:=tZ c (t.toNat -1);have K:=mU c q;refine gN (n:=d.dV.length) V (λj s b=>J m b/\GI e m b s ((List.range j).map λk=>((fc a (t.toNat -1)+k:Nat):Int))) ⟨u.N g,(GI.gF e m).ext g⟩ ?_;rintro j s R I μ P ⟨i,A⟩ C
  let⟨f,z,G,g1,g2⟩:=(dw.ext i hd).br q;have N:=z.aT;refine⟨V,V,f,sp g2,λo=>?_,λo=>?_⟩
  .simp only[bh]at o;refine(nt (dw.ext i hd) c V).cg λS p=>⟨_,O,?_⟩;have x:eV (((fc a (t.toNat -1):Nat):Int)+(j:Int))=((fc a (t.toNat -1)+j:Nat):Int):=by grind [dk]
   rw[x];intro T;refine GI.nI (A.ext p) ((i.N p).fz []) cC λr b F f _ _=>C V _ _ ⟨f.ext,?_⟩
   grind [List.range_succ]
  grind [GI.cB]
def qR{m:D}{bR:E}{a:af}(hd:dw m bR a)(e:eT a)(t:Int):ir dP 309 [bR.v,vi t] m (∃d,1<=t/\a[t.toNat -1]? =some d/\d.dV.length=0):=by
 apply JM;have l:=hd.aT;have:=e.aT;refine(dm).cg λg o b f=>⟨_,O,λh=>?_,λh=>?_⟩
 .have h:=b.1 h;let⟨d,c⟩:=dY a (t.toNat -1);let⟨j,n,k,g1,g2⟩:=(dw.ext f hd).br c;have i:eV (t -1)=((t.toNat -1:Nat):Int):=by grind [dk]
  grind
 .grind
def Fj{m:D}{bR:E}{a:af}(hd:dw m bR a)(f:eT a)(u t:Int):
 xC 331 [bR.v,vi u,vi t] m λk=>k= -1\/∃(i:Nat)(d:cV),k=i+1/\a[i]? =some d/\d.dV.length=0/\d.qC=u/\d.to=t:=by
 apply Jz
 have p:=hd.aT
 have:=f.aT
 refine iC (n:=a.length) V (λ_ b=>J m b) dt ?_
 rintro k g I μ r c j
 refine⟨λh=>?_,λh=>⟨_,O,bz O,c⟩⟩
 simp only[bh]at h
 let⟨d,e⟩:=dY a k
 let⟨l,q,o,g1,g2⟩:=(dw.ext c hd).br e
 have s:=j V g c
 constructor<;>grind [dk]
theorem xy{m:D}{i p:E}{f t:ab}(g:bg m c v)(e:bg m i f)(l:bg m p t):tn 306 [c.v,i.v,p.v] m:=by
 apply Nl;have C:=g.aT;have r:=e.aT;have F:=l.aT;have G:=g.kM;refine⟨λ_=>rA dt,λh=>?_⟩;simp only[nX]at h;refine iC (n:=f.length) (r▸e.kM) (λ_ b=>J m b) dt ?_;rintro k K I μ H a y
 refine⟨λh=>?_,λh=>rA a⟩;simp only[bh]at h;let⟨x,o⟩:=dY f k;refine⟨V,V,x,(e.ext a).br o,?_⟩;have q:eV ((c.len:Int) -1)=(v.length:Int) -1:=by grind [dk]
 rw[q];refine(dm).cg λB L s d=>⟨_,O,λ_=>rA (a.N d),λj=>?_⟩;have j:=yb s j;let⟨z,u⟩:=dY v x.toNat;let⟨A,w⟩:=dY t k;exact⟨V,V,x,(e.ext (a.N d)).br o,V,V,z,(g.ext (a.N d)).br u,V,V,A,(l.ext (a.N d)).br w,λ_=>rA (a.N d),λ_=>y V _ (a.N d)⟩
def R1(a:Int)(m:D):tn 304 [vi a] m:=by
 apply Lm;have r:∀b:Bool,∃k:Bool,vb b=.bool k/\J m m:=by grind [J.cX]
 exact⟨λ_=>r _,λ_=>⟨λ_=>r _,λ_=>⟨λ_=>r _,λ_=>⟨λ_=>r _,λ_=>r _⟩⟩⟩⟩
def tK(x:eQ)(a k:E):Value:=.agg #[vi x.op,vi x.cG,vi x.cR,a.v,k.v]
def Bj{m:D}{g:E}(d:bg m c v)(x:eQ):tn 305 [c.v,.agg #[vi x.op,vi x.cG,vi x.cR,g.v,k.v]] m:=by
 apply Gl;simp -zeta only[dT];intro b;have a:=px b;have l:∀f∈[m.size],f<b.size:=by simp[b]
 have o:=d.aT;have p:=d.kM;refine⟨λ_=>rA a,λ_=>⟨λ_=>?_,λ_=>rA a⟩⟩;refine(dm).bL (J.cX b) l λf q j _ e=>⟨_,O,λh=>?_,λ_=>rA (a.N e)⟩;have h:=j.1 h;have i:eV (x.cR -1)=((x.cR.toNat -1:Nat):Int):=by grind [dk]
 rw[i];let⟨y,n⟩:=dY v (x.cR.toNat -1);exact⟨V,V,y,(d.ext (a.N e)).br n,rA (a.N e)⟩
def Hy{m:D}{l:E}{s:af}{B:List jV}(o:iD m d r s B)(g:bg m c v)(f:bg m l x.aO):Kl 310 [.agg #[d.v,r.v],c.v,tK x l k] m:=by
 apply AY;simp -zeta only[dT];intro A i;have b:J m i:=by grind [J.push,J.N]
 have n:∀e∈[A.size,m.size],e<i.size:=cC;have C:=g.aT;have F:=g.kM;have G:=f.aT;refine⟨λ_=>rN b,λh=>?_⟩;simp only[nX]at h;let⟨y,p⟩:=dY x.aO 0;refine⟨V,V,y,(f.ext b).br p,?_⟩;have t:eV ((c.len:Int) -1)=(v.length:Int) -1:=by grind [dk]
 rw[t];refine(dm).bL (J.cX i) n λe H u _ j=>⟨_,O,λ_=>rN (b.N j),λh=>?_⟩;have h:=yb u h;have a:=b.N j;let⟨z,w⟩:=dY v y.toNat;have g1:=(f.ext a).br p;have g2:=(g.ext a).br w;refine⟨V,V,y,g1,V,V,z,g2,λ_=>rN a,λ_=>⟨λ_=>⟨λ_=>⟨V,V,y,g1,V,V,z,g2,?_⟩,λ_=>rN a⟩,λ_=>rN a⟩⟩;exact(qR ((o.le a.le).bR) o.dj z).jS.bL j n λe I K q=>⟨_,O,λ_=>rN (b.N q),λ_=>rN (b.N q)⟩
def JW{m:D}{o:E}{F:af}{n:List jV}(f:iD m d r F n)(S:bg m c v)(N:bg m o x.aO):Kl 308 [.agg #[d.v,r.v],c.v,tK x o k] m:=by
 apply Cx;simp -zeta only[dT];intro w j;have A:J m j:=by grind [J.push,J.N]
 have Q:∀e∈[w.size,m.size],e<j.size:=cC;have h1:=f.lJ.aT;have h2:=f.pP;have G:eV ((r.len:Int) -1)=(n.length:Int) -1:=by grind [dk]
 rw[G];refine(dm).bL (J.cX j) Q λe y P _ B=>⟨_,O,λ_=>rN (A.N B),λp=>?_⟩;have p:=yb P p;have z:=A.N B;let⟨q,R⟩:=dY n x.cG.toNat;let⟨W,ab,s,g,Z,c3,I,g1,g2,K,L⟩:=(f.le z.le).lJ.br R;refine⟨V,V,_,I,_,g1,_,g2,_,K,_,L,?_⟩;intro m3 h;have C:J y h:=by grind [J.cX,J.cz,J.aW]
 have i:∀e∈[y.size,w.size,m.size],e<h.size:=by
  grind [bE]
 have a:=z.N C;have u:=S.ext a;have t:=N.ext a;have l:=g.ext C;have h5:=g.aT;have h6:=g.mr;have h7:=g.kM;refine⟨λ_=>(xy u t l).bL (J.cX h) i λe U b _=>⟨_,O,λ_=>rN (a.N b),λ_=>rN (a.N b)⟩,λ_=>⟨λ_=>rN a,λM=>⟨λ_=>rN a,λ_=>?_⟩⟩⟩;simp only[bd]at M;have H:eV ((W.len:Int) -1)=((q.aY.length -1:Nat):Int):=by grind [dk]
 rw[H];let⟨Y,T⟩:=dY q.aY (q.aY.length -1);refine⟨V,V,V,(xy u t (fY.Ts l V)).bL (J.cX h) i λe U b _=>⟨_,O,λ_=>rN (a.N b),λ_=>⟨V,V,Y,(l.ext b).br T,?_⟩⟩⟩;exact(Fj (f.le (a.N b).le).bR f.dj _ _).bL b i λaa m6 _ x6 X=>⟨_,O,rN (a.N X)⟩
def adj(a:af)(e:List jV)(b:Bk):Prop:=∀(m:D)(d r c t:E)(v:ab),iD m d r a e->bg m c v->iI m t b.bq->v.length+4*b.w<=10^12->Kl 270 [.agg #[d.v,r.v],c.v,.agg #[t.v,vi b.bP]] m
def OP{m:D}{ab:E}{s:af}{X:List jV}(f:iD m d r s X)(U:bg m c v)(w:rW m k x.dA)(hb:v.length+4*x.w<=10^12)(ih:∀i∈x.dA,adj s X i):Kl 307 [.agg #[d.v,r.v],c.v,tK x ab k] m:=by
 apply HJ;simp -zeta only[dT];intro m0 F;have g:J m F:=by grind [J.push,J.N]
 have o:∀i∈[m0.size,m.size],i<F.size:=cC;have ac:=w.aT;have hw:=eQ.pN x;refine(kA (e:=[]) bO (f.le g.le).bR f.dj x.cG).bL (J.cX F) o λad cl G u q N _=>⟨_,O,?_⟩;subst q;have u:=u.le fJ;have ah:=u.aT;have h3:=aef f.dj x.cG;refine⟨λK aa=>aa=G/\0<=K/\(x.op=8->K=(cY s x.cG).length),⟨λh=>?_,λh=>⟨O,V,λ_=>V⟩⟩,?_⟩
 .grind
 rintro K ai ⟨l,h4,h5⟩;have l:=l.symm;subst l;refine⟨λ_=>rN (g.N N),λ_=>⟨λ_=>rN (g.N N),λT=>?_⟩⟩;simp only[nX]at T;subst T;refine gN (n:=x.dA.length) (ac▸w.kM) (λ_ _ b=>J G b) dt ?_;rintro j y H R μ hj z aj
 have L:=N.N z;have p:=g.N L;refine⟨λh=>?_,λ_=>rN p⟩;simp only[bh]at h;let⟨i,t⟩:=dY x.dA j;have W:=ih i (ba t);have ag:=By t;have Y:∀(a:Int)(e:D),J G e->((decide (a<(0:Int)))=true->∃k:Int,vi (-1)=vi k/\True/\J m e)/\((decide (a<(0:Int)))=false->((decide ((j:Int)>(0:Int)))=true->((a !=y)=true->∃k:Int,vi (-1)=vi k/\True/\J m e)/\((a !=y)=false->R a (eV ((j:Int)+1)) e/\μ a (eV ((j:Int)+1)) e<μ y j H))/\((decide ((j:Int)>(0:Int)))=false->R a (eV ((j:Int)+1)) e/\μ a (eV ((j:Int)+1)) e<μ y j H)):=λa e h=>by
  grind [J.N]
 refine⟨λh=>?_,λh=>?_⟩
 .simp only[bQ]at h;have h7:=h5 h;let⟨Q,hy⟩:=dY (cY s x.cG) j;refine⟨V,V,Q,(u.ext z).br hy,?_⟩;refine(fX (e:=[]) (f.le (p.le.N ER)).bR f.dj Q).bL L o λae fl e hf q x4 Z=>⟨_,O,?_⟩;subst q;have h8:=KD f.dj Q;refine(iH (S:=[]) bO (U.le ((g.N Z).le.N ER)) hf V).bL Z o λl el m5 he q x5 M=>⟨_,O,?_⟩;subst q;let⟨A,C,B,g1⟩:=(w.le (g.N M).le).br t;refine⟨V,V,_,B,_,g1,?_⟩;exact(W m5 d r l A _ (f.le (g.N M).le) ((he.cB bO cC).le fJ) C cC).bL M o λa I P _=>⟨_,O,Y a I (((z.N x4).N x5).N P)⟩
 .let⟨A,C,B,g1⟩:=(w.le p.le).br t;refine⟨V,V,_,B,_,g1,?_⟩;exact(W H d r c A _ (f.le p.le) (U.ext p) C V).bL L o λa I P _=>⟨_,O,Y a I (z.N P)⟩
def Wd{b:D}(a:ab){n:Nat}(d:n=a.length)(c:a.length<=9223372036854775807):bg (b.push (.cells (dh (a.map Ce.i)) bG)) (.mk b.size 0 n n) a:=
 (bg.jY (S:=[]) bG (l:=a) bO O d c).le fJ
theorem _root_.Go.Vc.fY.PI{α:Type}{n:D}{b:Nat}{R:ae->α->Prop}{l:List α}(h:fY n b R s l){i j:Nat}(t:i<=j)(u:j<=l.length):fY n b R (s.cut i j b) ((l.take j).drop i):=by
 have a:=h.aT;have m:=h.mr;have w:=h.kM;have g:(s.cut i j b).len=j -i/\(s.cut i j b).len<=(s.cut i j b).cap:=by
  cases s with
  |nil=>simp at a;simp[E.cut];omega
  |Ec d o sp=>simp at a;simp[E.cut];omega
  |mk d o r f=>simp at a m;simp[E.cut];omega
 refine⟨by simp[g.1];omega,g.2,V,λk x c=>?_⟩;rw[rT,lQ]at c;split at c
 .rename_i v;let⟨p,q,e⟩:=h.kv _ x c;refine⟨p,q,?_⟩;cases s with
  |nil=>simp at a;omega
  |Ec d o sp=>simp at a;omega
  |mk d o r f=>
   simp at a m;have:¬f=i:=V;simp only[E.cut,this,mD,E.nh,E.BV]at e⊢;rw[nC,<-kK]at e;exact e
 .simp at c
def sI{n:D}{t:E}{F:af}{rs:List jV}(u:iD n d r F rs)(Z:bg n c v)(Y:bg n t x.aO)(hk:rW n k x.dA)(w:v.length+4*x.w<=10^12)(ih:∀g∈x.dA,adj F rs g):Kl 265 [.agg #[d.v,r.v],c.v,tK x t k] n:=by
 apply Ic;simp -zeta only[dT];intro B o;have Q:J n o:=by grind [J.push,J.N]
 have j:∀g∈[B.size,n.size],g<o.size:=cC;have h1:=Y.aT;have h2:=Y.mr;have s:∀{l:D},J o l->bg l c v:=λh=>Z.ext (Q.N h);have A:∀{l:D},J o l->bg l t x.aO:=λh=>Y.ext (Q.N h);have N:∀{l:D},J o l->iD l d r F rs:=λh=>u.le (Q.N h).le;have m:∀{l:D}{q:Int},J o l->∃k:Int,vi q=vi k/\True/\J n l:=by grind [J.N]
 have L:∀{l:D}{q k:Int}{g:Bool},J o l->(g=true->∃k:Int,vi q=vi k/\True/\J n l)/\(g=false->∃a:Int,vi k=vi a/\True/\J n l):=λh=>⟨λ_=>m h,λ_=>m h⟩;refine⟨λU=>J o U,⟨λ_=>(R1 x.op o).bL (J.cX o) j λg l e _=>⟨_,O,λ_=>m e,λ_=>(Bj (s e) x).bL e j λg f i a=>⟨_,O,λ_=>m a,λ_=>⟨λ_=>⟨λ_=>⟨λ_=>m a,λ_=>a⟩,λ_=>a⟩,λ_=>a⟩⟩⟩,λ_=>(Bj (s dt) x).bL (J.cX o) j λg f a _=>⟨_,O,λ_=>m a,λ_=>⟨λ_=>⟨λ_=>⟨λ_=>m a,λ_=>a⟩,λ_=>a⟩,λ_=>a⟩⟩⟩,?_⟩;intro l e;have T:∀{f:D}{M:E}{al:ab}(h:J o f),bg f M al->tn 306 [c.v,t.v,M.v] f:=by grind [xy]
 have Kt:∀{f:D}(h:J o f),bJ dP 307 [.agg #[d.v,r.v],c.v,.agg #[vi x.op,vi x.cG,vi x.cR,t.v,k.v]] f λv b=>gT [B.size,n.size] f b/\∃q:Int,v=vi q/\∃k:Int,vi q=vi k/\True/\J n b:=λh=>
  (OP (N h) (s h) (hk.le (Q.N h).le) w ih).bL h j λq I p P=>⟨q,O,m P⟩
 refine⟨λ_=>⟨λ_=>(dm).jS.bL e j λg f i a=>⟨_,O,L a⟩,λ_=>m e⟩,λ_=>⟨λ_=>?_,λ_=>⟨λ_=>?_,λ_=>⟨λ_=>?_,λ_=>⟨λ_=>?_,λ_=>⟨λ_=>?_,λ_=>⟨λ_=>(JW (N e) (s e) (A e)).bL e j λq f i a=>⟨_,O,m a⟩,λ_=>⟨λ_=>?_,λ_=>⟨λ_=>(Hy (N e) (s e) (A e)).bL e j λq f i a=>⟨_,O,m a⟩,λ_=>m e⟩⟩⟩⟩⟩⟩⟩⟩⟩
 .intro f;exact(T (e.cz _) (Wd [0,0] O bO)).bL (e.cz _) j λg f i a=>⟨_,O,L a⟩
 .intro f;exact(T (e.cz _) (Wd [0] O bO)).bL (e.cz _) j λg f i a=>⟨_,O,L a⟩
 .refine(pK (N e).bR u.dj x.cG).aP λ_ f⟨M,z,_,i⟩=>?_;subst z;have a:=e.N i;refine⟨e.abE j i,_,O,λ_=>?_,λ_=>m a⟩;refine(fX (e:=[]) ((N a).bR.le ER) u.dj x.cG).bL a j λae G I hf H p P=>⟨_,O,bD (p.bB B.size (a.lt (j _ bO))) _,?_⟩;refine(T P (hf.le fJ)).bL P j λg K x5 y=>⟨_,O,λ_=>?_,λ_=>m y⟩;refine(pK (N y).bR u.dj x.cG).aP λ_ C⟨M,z,_,R⟩=>?_;subst z;exact⟨y.abE j R,_,O,m (y.N R)⟩
 .intro f;exact(T (e.cz _) (Wd [0] O bO)).bL (e.cz _) j λg f i a=>⟨_,O,λ_=>Kt a,λ_=>m a⟩
 .intro f;exact(T (e.cz _) (Wd [x.cG] O bO)).bL (e.cz _) j λg f i a=>⟨_,O,λ_=>Kt a,λ_=>m a⟩
 .have h3:=Z.aT;have h4:=Z.kM;refine⟨λg U=>J o U/\(g=true->x.aO.length=2/\∃y z W,x.aO[0]? =some y/\0<=y/\v[y.toNat]? =some z/\1<=z/\F[z.toNat -1]? =some W),⟨λh=>?_,λ_=>⟨e,sx⟩⟩,?_⟩
  .simp only[bQ]at h;let⟨y,G⟩:=dY x.aO 0;refine⟨V,V,y,(A e).br G,?_⟩;have X:eV ((c.len:Int) -1)=(v.length:Int) -1:=by grind [dk]
   rw[X];refine(dm).bL (J.cX l) (λg w=>e.lt (j g w)) λg f aa _ i=>⟨_,O,λh=>?_,λh=>⟨e.N i,sx⟩⟩;have h:=aa.1 h;have a:=e.N i;let⟨z,H⟩:=dY v y.toNat;refine⟨V,V,y,(A a).br G,V,V,z,(s a).br H,?_⟩;refine(qR (N a).bR u.dj z).bL (J.cX f) (λg w=>a.lt (j g w)) λg I ac _ p=>⟨_,O,a.N p,λh=>?_⟩;grind
  .rintro g f ⟨i,ai⟩;refine⟨λh=>?_,λ_=>m i⟩;let⟨h5,y,z,W,G,h6,H,h7,aa⟩:=ai h;let⟨ae,hf,g0,g1,g2⟩:=(N i).bR.br aa;have ao:=u.bR.aT;have h8:=u.dj.aT;have h9:=bC aa;have am:=bC H;have X:eV (z -1)=((z.toNat -1:Nat):Int):=by grind [dk]
   have ac:=(A i).br G;have ad:=(s i).br H;refine⟨V,V,y,ac,V,V,z,ad,?_⟩;rw[X];refine⟨V,V,_,g0,_,g1,_,g2,?_⟩;intro I;have p:=px I;have ag:B.size<f.size:=i.lt (j _ bO);have ah:n.size<f.size:=cC;refine⟨p.cK g0,p.cK g1,p.cK g2,p.cK ad,p.cK ac,bD (p.bB _ ag) _,bD (p.bB _ ah) _,?_⟩;intro K;have x5:J f K:=by grind [J.aW]
   have an:K.size=f.size+1:=by grind [bE]
   refine⟨V,V,V,?_⟩;intro C;have R:J f C:=x5.N (J.push _ _);have u6:=i.N R;have ak:∀g∈[f.size,B.size,n.size],g<C.size:=cC;refine⟨bD ((J.push K _).bB _ V) _,?_⟩;have aj:bg C (t.cut 1 t.len 1) (x.aO.drop 1):=by
    grind [fY.PI,List.take_length]
   exact(xy (s u6) aj (Wd [W.qC] O bO)).bL (J.cX C) ak λg m7 x7 _=>⟨_,O,L (u6.N x7)⟩
def _root_.Go.Vc.J.sY{c m:D}(h:J c m)(k:J c b){l:ad}(e:∀a∈l,a<c.size):gT l m b:=λa d=>by rw[k.bB a (e a d),h.bB a (e a d)]
def Ar(x:eQ)(b:Bool)(a:b=true<->0<=x.op/\x.op<=11):dn x=if b=true then 1 else 0:=by
 unfold dn;by_cases h:b=true
 .rw[a8 h];exact a8 (a.1 h)
 .rw[aV h];exact aV λc=>h (a.2 c)
def rq{H:af}{rs:List jV}:∀a:Bk,adj H rs a:=by
 refine Bk.ind ?_;intro bq Z W D d r c al v R U t j;simp only[Bk.mZ,Bk.lV,Bk.vT]at*;apply Fm;simp -zeta only[dT];intro X g;have y:J D g:=by grind [J.push,J.N]
 have f:∀a∈[X.size,D.size],a<g.size:=cC;have T:=t.aT;refine(pL (S:=[]) bO (U.le (y.le.N ER)) V).bL (J.cX g) f λs0 _ m2 i I x2 _=>⟨_,O,?_⟩;subst I;have C:=Gu bq;refine gN (n:=bq.length) (T▸t.kM) (λk s b=>J g b/\∃l,GI [] g b s l/\l.length=v.length+dc (bq.take k)) ⟨x2,_,i,bO⟩ ?_;rintro k s Y aa μ hk ⟨z,l,m,hc⟩ F
 have p:=y.N z;have ac:=xI (bq.take k);have ag:=jK (bq.take k);have ae:=m.aT cH;have q:=(m.cB bO (oh (C k))).le fJ;refine⟨λh=>?_,λh=>?_⟩
 .simp only[bh]at h;let⟨x,o⟩:=dY bq k;let⟨ab,kk,N,Q,i,g1,g2,L,M⟩:=(t.le p.le).br o;have ai:=ux o;have ah:=C (k+1);have ad:=vt o;refine⟨V,V,_,i,_,g1,_,g2,_,L,_,M,?_⟩;refine(sI (R.le p.le) q N Q V (W x (ba o))).bL z f λaj E e u=>⟨_,O,λ_=>rN (y.N u),λ_=>⟨V,V,_,e.aS i,?_⟩⟩;refine(mO _ _).bL (J.cX E) (λa j=>u.lt (f a j)) λa m5 P _ A=>⟨_,O,?_⟩;have hd:=Ar x a P;have w:=u.N A;refine⟨λh=>?_,λh=>?_⟩
  .rw[a8 h]at hd;intro m6;refine GI.nI ((m.ext e).ext A) (w.fz []) V λr m7 K B G ak=>⟨?_,F V _ _ ⟨B.ext,_,K,fu⟩⟩;exact J.sY (w.cz _) B.ext f
  .rw[aV (by simp[h])]at hd;exact F V _ _ ⟨w,l,(m.ext e).ext A,V⟩
 .refine(dm).bL (J.cX Y) (λa j=>z.lt (f a j)) λa E o _ e=>⟨_,O,λ_=>rN (p.N e),λh=>?_⟩;have h:=yb o h;have w:=q.kM;rw[gJ]at h;let⟨G,u⟩:=dY l Z.toNat;exact⟨V,V,G,(q.ext e).br u,rN (p.N e)⟩
end
section
variable{b:D}{d e g k:E}{f:List jV}{c:eQ}{h:Nat}
theorem _root_.Go.Vc.dU{S a:ad}{c o:Nat}{l:ae}(f:c∈S)(e:∀d∈a,d∈S):Le (di S b) (di a (aW b c o l)):=
 by grind [mH,cw]
def afH(a:Bk):Prop:=∀(b:D)(t:E),iI b t a.bq->∀left:Int,-1<=left->left<=600->xC 313 [.agg #[t.v,vi a.bP],vi left] b λk=>-1<=k/\k<=600
def Nj:∀h:Bk,afH h:=by
 refine Bk.ind ?_;intro bq aa I b ab p left y A;simp only[Bk.mZ,Bk.lV]at*;apply Gh;simp -zeta only[dT];intro i;have T:=px i;have C:∀h∈[b.size],h<i.size:=by simp[i]
 have H:=p.aT;have q:∀{d:D}{a:Int},J i d->-1<=a/\a<=600->∃k:Int,vi a=vi k/\(-1<=k/\k<=600)/\J b d:=by grind [J.N]
 refine gN (n:=bq.length) (H▸p.kM) (λ_ a d=>J i d/\-1<=a/\a<=600) ⟨dt,y,A⟩ ?_;rintro k a L W μ hk ⟨j,E⟩ P
 refine⟨λl=>⟨λ_=>q j V,λz=>?_⟩,λ_=>q j E⟩;simp only[bh]at l;simp only[dK]at z;let⟨c,t⟩:=dY bq k;let⟨g,u,ha,m,Y,g1,g2,Z,r⟩:=(p.le (T.N j).le).br t;have B:=m.aT;rw[dk (b:=a -1) V V];refine gN (n:=c.dA.length) (B▸m.kM) (λ_ a d=>J L d/\-1<=a/\a<=600) ⟨dt,V,V⟩ ?_;rintro K Q M X μ2 hj ⟨f,o⟩ N;refine⟨V,V,u,f.aS r,λl=>?_,λ_=>P V _ _ ⟨j.N f,o⟩⟩;simp only[bh]at l;let⟨h,s⟩:=dY c.dA K;let⟨R,G,v,w⟩:=(m.le f.le).br s;refine⟨V,V,u,f.aS r,V,V,_,v,_,w,?_⟩;exact(I c (ba t) h (ba s) M R G Q o.1 o.2).bL (j.N f) C λe m4 F U S=>⟨_,O,λ_=>q S V,λl=>N V _ _ ⟨f.N U,F⟩⟩
def Q9{t:E}{a:Bk}(g:iI b t a.bq):Kl 269 [.agg #[t.v,vi a.bP]] b:=by
 apply J3;simp -zeta only[dT];intro c;have d:=px c;have f:∀a∈[b.size],a<c.size:=by simp[c]
 exact(Nj a c t (g.le d.le) 600 V V).bL (J.cX c) f λn h _ _ e=>⟨_,O,λ_=>rN (d.N e),λ_=>rN (d.N e)⟩
def pOf(e:jV):dS:=⟨e.aY,[],e.bP,0,[]⟩
def tm.aP:qF 5 tm:=⟨λh⟨g,a,b⟩=>⟨g,a,b.le h⟩,λ⟨g,a,_⟩=>by rw[a];rfl⟩
def Sd{F:af}(t:iD b d e F f):bJ dP 312 [.agg #[d.v,e.v]] b λY g=>∃v,Y=.agg #[d.v,v.v]/\fY g 5 (tm g) v (f.map pOf)/\J b g:=by
 apply LC;simp -zeta only[dT];intro l a2 a3 a4 p;have ac:=t.lJ.aT;have hf:=t.pP;have Z:J b a2:=(J.push _ _).N (J.push _ _);have W:=pz l;have X:a2.size=b.size+2:=by simp[a2,W]
 have s3:a3.size=b.size+3:=by simp[a3,X]
 have A:=py p;have L:Gr [a3.size,l.size] a2 p jb 5 tm (.mk a2.size 0 0 0) []:=(Gr.bI _ bY).ext tm.aP A;have D:dJ p a3.size nL [.s d,.s (.mk a2.size 0 0 0)]:=dJ.aW (m:=a4) (o:=0) (r:=[.s d,.s (.mk a2.size 0 0 0)]) (dJ.push a3 _ _);have aa:J a2 p:=(J.push a2 _).N A;have N:∀j∈[l.size,b.size],j<a2.size/\j∉([]:ad):=fu;refine iC (n:=f.length) V (λk g=>J a2 g/\∃s,Gr [a3.size,l.size] a2 g jb 5 tm s ((f.take k).map pOf)/\dJ g a3.size nL [.s d,.s s]) ⟨aa,_,L,D⟩ ?_;rintro k Q ab μ hk ⟨u,s,h,B⟩ S
 have z:=Z.N u;refine dit (λM=>?_) λM=>?_
 .let⟨T,x⟩:=dY f k;have P:El (di (s.bt::[a3.size,l.size]) Q) e f:=t.lJ.le ((ER (m:=b)).N ((z.fz []).di bO λj q=>bH ?_))
  .let⟨y,ae,j,E,c2,c3,G,e1,H,e3,e4⟩:=P.br x;refine⟨s,B.dg 1,V,V,y,(gY.1 G).2,V,V,_,(gY.1 H).2,?_⟩;intro R;refine Gr.bU (h:=[.s .nil,.i 0,.i 0,.i 0,.s .nil]) (j:=1) (o:=[.s d,.s s]) (v:=pOf T) tm.aP cH h (u.fz []) ⟨y,O,E⟩ fu B bO cH ⟨V,bO⟩ (λj q=>by have C:=N j q;have I:=h.cF;have w:=u.aQ;omega) λU g K C I z' q'=>S V _ ⟨I.ext,U,?_,C⟩
   rw[bW x,kJ];exact K
  .have:=h.cF;simp at q;omega
 .refine⟨d,B.dg 0,s,B.dg 1,?_⟩;intro R;have x:=h.ne B cH;have y:=h.cF;rw[eY V]at h;refine⟨s,O,?_,z.aW V _ _⟩;have w:=h.sa tm.aP fu cH fu;exact fY.le w ((dU (a:=[]) bO bO).N fJ) λq c=>tm.aP.le ((dU (a:=[]) bO bO).N fJ)
def CD{r:af}(c:iD b d e r f):tn 268 [.agg #[d.v,e.v]] b:=by
 apply yp;simp -zeta only[dT];intro h;have a:=px h;have i:∀g∈[b.size],g<h.size:=by simp[h]
 have K:=c.lJ.aT;have G:=c.pP;refine⟨λ_=>rA a,λ_=>?_⟩;refine(Sd (c.le a.le)).aP λ_ L⟨F,s,w,j⟩=>?_;subst s;refine⟨j.fg i,_,_,O,?_⟩;refine(zA (c.le (a.N j).le).bR w).jS.bL j i λg M R m=>⟨_,O,λ_=>rA (a.N m),λ_=>?_⟩;refine iC (n:=f.length) V (λ_ l=>J h l) m ?_;rintro k N I μ H l y
 refine⟨λv=>?_,λ_=>rA (a.N l)⟩;simp only[bh]at v;let⟨Q,x⟩:=dY f k;let⟨z,A,g,p,q,B,t,u,C,D,E⟩:=(c.le (a.N l).le).lJ.br x;refine⟨V,V,z,t,V,V,A,u,?_⟩;exact(zy p q).jS.bL l i λg P S o=>⟨_,O,λ_=>rA (a.N o),λ_=>y V _ o⟩
def J8{z:af}(g:iD b d e z f)(G:∀q∈f,q.aY.length+4*q.eZ.w<=10^12):tn 248 [.agg #[d.v,e.v]] b:=by
 apply CE;simp -zeta only[dT];intro h;have l:=px h;have s:∀a∈[b.size],a<h.size:=by simp[h]
 have T:=g.lJ.aT;have R:=g.pP;refine(CD (g.le l.le)).bL (J.cX h) s λa U x _=>⟨_,O,λ_=>rA (l.N x),λ_=>?_⟩;refine iC (n:=f.length) V (λ_ c=>J h c) x ?_;rintro k u P μ S m L
 refine⟨λF=>?_,λ_=>rA (l.N m)⟩;simp only[bh]at F;let⟨q,t⟩:=dY f k;have v:=l.N m;let⟨M,X,a,y,Q,r,A,B,C,D,E⟩:=(g.le v.le).lJ.br t;refine⟨V,V,_,A,_,B,_,C,_,D,_,E,?_⟩;intro H i;have j:=py i;have o:∀a∈[u.size,b.size],a<i.size:=by
  have:=m.lt (s b.size bO);have:i.size=u.size+1:=by simp[i,H,bE]
  simp;omega
 have p:=v.N j;refine(Q9 (r.le j.le)).bL (J.cX i) o λK I c _=>⟨_,O,λ_=>rA (p.N c),λ_=>?_⟩;refine(rq q.eZ I d e M a q.aY (g.le (p.N c).le) (y.ext (j.N c)) (r.le (j.N c).le) (G q (ba t))).bL c o λK W N w=>⟨_,O,bD (N.bB _ (c.lt (o _ bO))) _,λ_=>rA (p.N w),λ_=>L V _ ((m.N j).N w)⟩
def CZ(c:Int)(b:D):tn 163 [vi c] b:=by
 apply wO;have e:∀a:Bool,∃k:Bool,vb a=.bool k/\J b b:=λa=>rA (J.cX b);exact⟨λ_=>e _,λ_=>⟨λ_=>e _,λ_=>⟨λ_=>e _,λ_=>e _⟩⟩⟩
def adl(f:List jV)(c:eQ):Prop:=c.op=9->0<=c.cG/\c.cG<f.length
@[grind cases] structure At (m:D) (d r a k:E) (ds:af) (rs:List jV) (x:eQ):Prop where
 Xi:iD m d r ds rs
 aO:bg m a x.aO
 jt:adl rs x
def At.le{b j:D}{d e g k:E}{a:af}{f:List jV}{c:eQ}(h:At b d e g k a f c)(i:Le b j):At j d e g k a f c:=⟨h.Xi.le i,h.aO.le i,h.jt⟩
theorem fV{o1 o2:Obj}{a c:D}(e:a=b.push o1)(f:c=a.push o2):J b c/\∀d∈[a.size,b.size],d<c.size:=by
 grind [J.push,J.N]
def sA{o:af}(a:At b d e g k o f c)(h:Int):tn 315 [.agg #[d.v,e.v],tK c g k,vi h] b:=by
 apply Lt;simp -zeta only[dT];intro s l;let⟨i,q⟩:=fV (a:=s) (c:=l) O O;have C:=a.Xi.lJ.aT;refine⟨λj=>?_,λ_=>rA i⟩;simp only[bQ]at j;have B:=a.jt j;let⟨F,r⟩:=dY f c.cG.toNat;let⟨E,t,m,v,n,w,x,p,y,z,A⟩:=(a.Xi.le i.le).lJ.br r;exact⟨V,V,t,p,(fI n h).jS.bL (J.cX l) q λm D u _=>⟨_,O,rA (i.N u)⟩⟩
def qx{q:E}{s:af}(i:At b d e g k s f c){v:ab}(o:bg b q v)(u:∀y∈c.aO,0<=y/\y<(v.length:Int))(t:h<c.aO.length):tn 311 [.agg #[d.v,e.v],q.v,tK c g k,vi h] b:=by
 apply DE;simp -zeta only[dT];intro x j;let⟨l,n⟩:=fV (a:=x) (c:=j) O O;have B:=i.aO.aT;have D:=o.aT;let⟨y,p⟩:=jq t;have C:=u y (ba p);let⟨A,w⟩:=dY v y.toNat;refine(CZ c.op j).bL (J.cX j) n λr F m _=>⟨_,O,λ_=>?_,λ_=>rA (l.N m)⟩;have a:=l.N m;refine⟨V,V,y,(i.aO.ext a).br p,V,V,A,(o.ext a).br w,λ_=>?_,λ_=>rA a⟩;exact(sA (i.le a.le) h).bL m n λr G H z=>⟨_,O,rA (l.N z)⟩
def HN{r:af}(a:At b d e g k r f c)(u:h<c.aO.length):tn 343 [.agg #[d.v,e.v],tK c g k,vi h] b:=by
 apply Be;simp -zeta only[dT];intro y o;let⟨q,v⟩:=fV (a:=y) (c:=o) O O;have t:=a.aO.aT;let⟨A,w⟩:=jq u;refine iC (n:=c.aO.length) (t▸a.aO.kM) (λ_ i=>J o i) dt ?_;rintro m E I μ D j z
 have i:=q.N j;refine⟨λs=>⟨λ_=>?_,λ_=>?_⟩,λ_=>rA i⟩<;>simp only[bh]at s<;>have l:=z V
 .let⟨B,x⟩:=dY c.aO m;refine⟨V,V,B,(a.aO.ext i).br x,V,V,A,(a.aO.ext i).br w,λ_=>⟨λ_=>rA i,λ_=>?_⟩,λ_=>l _ j⟩;exact(sA (a.le i.le) m).bL j v λC F G p=>⟨_,O,λ_=>rA (q.N p),λ_=>l _ p⟩
 .exact l _ j
def FK{pd q:E}{t:af}(i:At b d e g k t f c){x w:ab}(v:bg b pd x)(u:bg b q w)(o:h<c.aO.length):tn 328 [.agg #[d.v,e.v],tK c g k,vi h,pd.v,q.v] b:=by
 apply JN;simp -zeta only[dT];intro z r;let⟨a,j⟩:=fV (a:=z) (c:=r) O O;have B:=i.aO.aT;let⟨y,p⟩:=jq o;refine⟨V,V,y,(i.aO.ext a).br p,?_⟩;refine(fI (u.ext a) y).jS.bL (J.cX r) j λn C m _=>⟨_,O,λ_=>rA (a.N m),λ_=>?_⟩;have s:=a.N m;refine⟨V,V,y,(i.aO.ext s).br p,?_⟩;refine(fI (v.ext s) y).jS.bL m j λn D G l=>⟨_,O,λ_=>rA (a.N l),λ_=>?_⟩;exact(HN (i.le (a.N l).le) o).bL l j λn F H A=>⟨_,O,rA (a.N A)⟩
end
section
def ad0(a:Bk):Prop:=∀(b:ad)(m:D),(∀c∈b,c<m.size)->∀(t d:E)(l:ab)(n:Int)(k:Nat),iI m t a.bq->bg (di b m) d l->k<=a.bq.length->l.length+a.w<=10^12->
 Kk 297 [.agg #[t.v,vi a.bP],vi n,vi k,d.v] m b λe=>e.length<=l.length+a.w
def _root_.Go.Vc.adH{σ:Type}{n a:Nat}(j:a<=n)(l:n<=9223372036854775807){m:D}{f:σ}{e:(σ->Int->D->Prop)->(σ->Int->D->Nat)->σ->Int->D->Prop}(Q:Nat->σ->D->Prop)(g:Q a f m)
 (h:∀(k:Nat)(s:σ)(b:D)(I:σ->Int->D->Prop)(μ:σ->Int->D->Nat),a<=k->k<=n->Q k s b->
  (k<n->∀d c,Q (k+1) d c->I d (eV ((k:Int)+1)) c/\μ d (eV ((k:Int)+1)) c<μ s k b)->e I μ s k b):
 ∃(I:σ->Int->D->Prop)(μ:σ->Int->D->Nat),I f a m/\∀s i b,I s i b->e I μ s i b:=by
 refine⟨λs i c=>∃k:Nat,i=k/\a<=k/\k<=n/\Q k s c,λ_ i _=>(n -i).toNat,⟨a,O,bY,j,g⟩,?_⟩
 grind [oU,Ql]
def Ju{b:ad}{m:D}(e:∀c∈b,c<m.size){a k M:E}{l:ab}{x:eQ}(P:Int)(w:bg m a x.aO)(A:rW m k x.dA)(L:bg (di b m) M l)(hb:l.length+x.w<=10^12)(Y:∀j∈x.dA,ad0 j):
 Kk 327 [tK x a k,vi P,M.v] m b λd=>d.length<=l.length+x.w:=by
 apply Cj
 simp -zeta only[dT]
 intro g
 have p:=px g
 have B:∀j∈[m.size],j<g.size:=by simp[g]
 have U:=w.aT
 have W:=A.aT
 have hw:=eQ.pN x
 have H:∀{f:D},J g f->∀c∈b,c<f.size:=by grind [J.N,J.aQ]
 refine(yh x.op g).jS.bL (J.cX g) B λj m2 u _=>⟨_,O,λ_=>⟨_,_,O,L.le ((p.N u).eX (S:=b)),V,p.N u⟩,λ_=>?_⟩
 refine gN (n:=x.aO.length) (U▸w.kM) (λC s f=>J g f/\∃d,bg (di b f) s d/\d.length<=l.length+C) ⟨u,l,L.le ((p.N u).eX (S:=b)),bY⟩ ?_
 rintro C s m3 ae μ hj ⟨i,d,q,hc⟩ G
 refine dit (λh=>?_) λh=>?_
 .let⟨y,o⟩:=dY x.aO C
  have g1:=(w.ext (p.N i)).br o
  refine⟨V,V,y,g1,λ_=>⟨V,V,y,g1,λ_=>⟨V,V,y,g1,?_⟩,λ_=>G V _ _ ⟨i,d,q,V⟩⟩,λ_=>G V _ _ ⟨i,d,q,V⟩⟩
  exact(pT (H i) q y V).bL i B λr F N g2 I v t=>⟨_,O,G V _ _ ⟨t,F,g2.cB (H i) (oh I.2),oh I.2⟩⟩
 .refine gN (n:=x.dA.length) (W▸A.kM) (λo s f=>J g f/\∃d,bg (di b f) s d/\d.length<=l.length+x.aO.length+bw (x.dA.take o)) ⟨i,d,q,fu⟩ ?_
  rintro o s2 N I2 μ2 hi ⟨v,F,g2,ag⟩ aa
  have t:=p.N v
  have K:=XY x.dA
  refine⟨λh=>?_,λh=>⟨_,_,O,g2,oh (K o),t⟩⟩
  simp only[bh]at h
  let⟨j,z⟩:=dY x.dA o
  let⟨ac,X,Q,R⟩:=(A.le t.le).br z
  have af:=zd z
  refine⟨V,V,_,Q,_,R,?_⟩
  exact(Y j (ba z) b N (H v) ac s2 F P 0 X g2 (jh _) (oh (K (o+1)))).bL v B λr Z m5 T I x5 u5=>⟨_,O,aa V _ _ ⟨u5,Z,T,V⟩⟩
def Fi:∀i:Bk,ad0 i:=by
 refine Bk.ind ?_;intro bq Q M b m e ab aa o N k0 k K G W;simp only[Bk.mZ,Bk.lV,Bk.vT]at*;apply Jv;simp -zeta only[dT];intro g;have t:=px g;have v:∀i∈[m.size],i<g.size:=by simp[g]
 have L:=k.aT;have H:∀{f:D},J g f->∀c∈b,c<f.size:=by grind [J.N,J.aQ]
 refine adH (n:=bq.length) G (L▸k.kM) (λj s f=>J g f/\∃p,bg (di b f) s p/\p.length<=o.length+sw (bq.take j)) ⟨dt,o,K.le (t.eX (S:=b)),V⟩ ?_;rintro j s z U μ _ Y ⟨d,p,u,X⟩ P
 have R:=t.N d;have w:=Gu bq;refine⟨λh=>?_,λh=>?_⟩
 .simp only[bh]at h;let⟨x,l⟩:=dY bq j;let⟨a,kk,F,I,A,g1,g2,B,C⟩:=(k.le R.le).br l;have Z:=ux l;refine⟨V,V,_,A,_,g1,_,g2,_,B,_,C,?_⟩;exact(Ju (H d) N F I u (oh (w (j+1))) (M x (ba l))).bL d v λr y m3 E q x3 T=>⟨_,O,P V _ _ ⟨T,y,E,V⟩⟩
 .have E:=w j;have A:∃B l,s.v=B.v/\bg (di b z) B l/\l.length<=o.length+(1+sw bq)/\J m z:=cC;refine⟨λ_=>⟨λ_=>?_,λ_=>A⟩,λ_=>A⟩;exact(pT (H d) u Q V).bL d v λr y F g2 q I C=>⟨_,O,_,_,O,g2.cB (H d) (oh q.2),oh q.2,t.N C⟩
def IH{b:ad}{m:D}(e:∀c∈b,c<m.size){t:E}{a:Bk}(o:iI m t a.bq){n:Int}(j:a.w<=10^12):Kk 262 [.agg #[t.v,vi a.bP],vi n] m b λg=>g.length<=a.w:=by
 apply LG;simp -zeta only[dT];intro h d;let⟨f,l⟩:=fV (a:=h) (c:=d) O O;have i:bg (di b d) (.mk h.size 0 0 0) []:=⟨O,bY,bO,bO⟩;exact(Fi a b d (λc k=>f.lt (e c k)) t _ _ n 0 (o.le f.le) i (jh _) cC).bL (J.cX d) (λa j=>l a cC) λr g p g2 q k _=>⟨_,O,_,_,O,g2,sp q,f.N k⟩
variable{b:ad}{m:D}(e:∀c∈b,c<m.size){d r a k q pd p:E}{s:af}{u:List jV}{x:eQ}(h:At m d r a k s u x){v g t:ab}(o:bg m q v)(l:∀y∈x.aO,0<=y/\y<(v.length:Int))(f:bg m pd g)(j:bg m p t)
include e h o l
theorem Dz(H:x.aO.length<=10^12):oC 266 [.agg #[d.v,r.v],q.v,tK x a k] m b (tT x.aO):=by
 apply yO;simp -zeta only[dT];intro F e M;let⟨u,w⟩:=fV (a:=F) (c:=e) O O;have E:=h.aO.aT;refine gN (n:=x.aO.length) (E▸h.aO.kM) (λj s f=>J e f/\∃c,GI b e f s c/\(∀y∈c,y∈x.aO)/\c.length<=j) ⟨J.push _ _,[],GI.gF b e,bO,bY⟩ ?_;rintro j s N I μ L ⟨B,c,g,p,K⟩ A
 have t:=u.N B;refine dit (λD=>?_) λD=>?_
 .let⟨y,z⟩:=dY x.aO j;refine(qx (h.le t.le) (o.ext t) l (h:=j) V).bL B w λG P C f=>⟨_,O,λ_=>⟨V,V,y,(h.aO.ext (u.N f)).br z,?_⟩,λ_=>A V _ _ ⟨f,c,g.ext C,p,V⟩⟩;intro Q;exact GI.nI (g.ext C) (f.fz []) V λr R g2 v _ _=>⟨J.sY (f.cz _) v.ext w,A V _ _ ⟨v.ext,_,g2,tx p (ba z),fu⟩⟩
 .exact⟨s,c,O,g.de (λ_ h=>h) u.aQ,⟨p,V⟩,t⟩
include f j
theorem Lj(R:x.aO.length<=10^12):oC 299 [.agg #[d.v,r.v],q.v,tK x a k,pd.v,p.v] m b (tT x.aO):=by
 apply DB;simp -zeta only[dT];intro N t U;let⟨v,w⟩:=fV (a:=N) (c:=t) O O;have M:=h.aO.aT;refine gN (n:=x.aO.length) (M▸h.aO.kM) (λe A g=>J t g/\∃c,GI b t g A c/\(∀y∈c,y∈x.aO)/\c.length<=e) ⟨J.push _ _,[],GI.gF b t,bO,bY⟩ ?_;rintro e A W Q μ T ⟨H,c,g,s,S⟩ z
 have B:=v.N H;refine dit (λL=>?_) λL=>?_
 .let⟨y,G⟩:=dY x.aO e;refine(qx (h.le B.le) (o.ext B) l (h:=e) V).bL H w λK X E C=>⟨_,O,λ_=>?_,λ_=>z V _ _ ⟨C,c,g.ext E,s,V⟩⟩;have D:=v.N C;refine(FK (h.le D.le) (f.ext D) (j.ext D) (h:=e) V).bL C w λK Y I u=>⟨_,O,λ_=>⟨V,V,y,(h.aO.ext (v.N u)).br G,?_⟩,λ_=>z V _ _ ⟨u,c,(g.ext E).ext I,s,V⟩⟩;intro P;exact GI.nI ((g.ext E).ext I) (u.fz []) V λr P g2 F _ _=>⟨J.sY (u.cz _) F.ext w,z V _ _ ⟨F.ext,_,g2,tx s (ba G),fu⟩⟩
 .exact⟨A,c,O,g.de (λ_ h=>h) v.aQ,⟨s,V⟩,B⟩
theorem MS(U:g.length<=10^12):oC 301 [.agg #[d.v,r.v],q.v,tK x a k,pd.v,p.v] m b (tT g):=by
 apply FO;simp -zeta only[dT];intro Y A;let⟨s,F⟩:=fV (a:=Y) (c:=A) O O;have ae:=h.aO.aT;have ab:∀{t:D},J A t->∀c∈b,c<t.size:=by grind [J.N,J.aQ]
 have X:bJ dP 330 [pd.v,p.v] A λv t=>gT [Y.size,m.size] A t/\∃Z:E,v=Z.v/\∃w W,Z.v=w.v/\GI b m t w W/\tT g W/\J m t:=by
  refine(RW (S:=[]) bO (f.le (s.le.N ER)) (j.le (s.le.N ER)) U).bL (J.cX A) F λw u af B I Q _=>⟨_,O,w,u,O,?_,I,s.N Q⟩;let⟨C,K,g1,g2⟩:=B;exact⟨C,K,g1.de s.aQ,g2.aP λ_ _ h=>h⟩
 refine⟨λ_=>X,λ_=>⟨λ_=>X,λ_=>?_⟩⟩;refine(pL (S:=[]) bO (f.le (s.le.N ER)) U).bL (J.cX A) F λs0 _ af C ad Q _=>⟨_,O,?_⟩;subst ad;refine gN (n:=x.aO.length) (ae▸h.aO.kM) (λH w t=>J A t/\∃u,GI b m t w u/\tT g u) ⟨Q,g,?_,λ_ h=>h,bY⟩ ?_
 .let⟨C,K,g1,g2⟩:=C;exact⟨C,K,g1.de s.aQ,g2.aP λ_ _ h=>h⟩
 rintro H w m3 ag μ hj ⟨x3,u,B,z⟩ L
 have M:=s.N x3;refine⟨λT=>?_,λT=>⟨w,u,O,B,z,M⟩⟩;simp only[bh]at T;let⟨y,hy⟩:=dY x.aO H;refine(qx (h.le M.le) (o.ext M) l (h:=H) V).bL x3 F λac m4 R N=>⟨_,O,λ_=>?_,λ_=>L V _ _ ⟨N,u,B.ext R,z⟩⟩;have P:=s.N N;refine(FK (h.le P.le) (f.ext P) (j.ext P) (h:=H) V).bL N F λac m5 x5 G=>⟨_,O,λ_=>⟨V,V,y,(h.aO.ext (s.N G)).br hy,?_⟩,λ_=>L V _ _ ⟨G,u,(B.ext R).ext x5,z⟩⟩;refine(Gq (S:=b) (ab G) (((B.ext R).ext x5).cB e (oh z.2)) y (oh z.2)).bL G F λr l2 m6 g2 I x6 u6=>⟨_,O,L V _ _ ⟨u6,l2,g2.de (λ_ h=>h) (s.N G).aQ,λaa hz=>z.1 aa (I.1 aa hz),fC I.2 z.2⟩⟩
omit o l
theorem MT(Z:x.aO.length<10^12):oC 302 [.agg #[d.v,r.v],tK x a k,pd.v,p.v] m b (tT x.aO):=by
 apply FQ;simp -zeta only[dT];intro W s aa;let⟨i,u⟩:=fV (a:=W) (c:=s) O O;have S:=h.aO.aT;have Q:∀{q:D},J s q->∀c∈b,c<q.size:=by grind [J.N,J.aQ]
 refine gN (n:=x.aO.length) (S▸h.aO.kM) (λv E q=>J s q/\∃g,GI b s q E g/\(∀y∈g,y∈x.aO)/\g.length<=v) ⟨J.push _ _,[],GI.gF b s,bO,bY⟩ ?_;rintro v E m3 Y μ hj ⟨M,g,l,o,I⟩ w
 have L:=i.N M;refine dit (λR=>?_) λR=>?_
 .let⟨y,C⟩:=dY x.aO v;refine(sA (h.le L.le) v).bL M u λG m4 B z=>⟨_,O,λ_=>⟨V,V,y,(h.aO.ext (i.N z)).br C,?_⟩,λ_=>w V _ _ ⟨z,g,l.ext B,o,V⟩⟩;refine(fI (f.ext (i.N z)) y).jS.bL z u λG m5 F A=>⟨_,O,λ_=>⟨V,V,y,(h.aO.ext (i.N A)).br C,?_⟩,λ_=>w V _ _ ⟨A,g,(l.ext B).ext F,o,V⟩⟩;refine(fI (j.ext (i.N A)) y).jS.bL A u λG m6 N t=>⟨_,O,λ_=>⟨V,V,y,(h.aO.ext (i.N t)).br C,?_⟩,λ_=>w V _ _ ⟨t,g,((l.ext B).ext F).ext N,o,V⟩⟩;refine(pT (Q t) ((((l.ext B).ext F).ext N).cB (λc I=>i.lt (e c I)) V) y V).bL t u λr U m7 g2 K x7 X=>⟨_,O,w V _ _ ⟨X,U,g2.de (λ_ h=>h) t.aQ,λP T=>?_,oh K.2⟩⟩;rcases K.1 P T with H|H
  .exact o P H
  grind [ba]
 .exact⟨E,g,O,l.de (λ_ h=>h) i.aQ,⟨o,V⟩,L⟩
end
section
variable{m e a:D}{c g:ad}{s:E}{d:ab}{b f i:Nat}{h:ap}{K:ak}
def uQ{o1 o2 o3:Obj}{a c d:D}(e:a=m.push o1)(f:c=a.push o2)(g:d=c.push o3):J m d/\(∀b∈[c.size,a.size,m.size],b<d.size)/\a.size=m.size+1/\c.size=m.size+2/\d.size=m.size+3:=by
 grind [J.push,J.N]
def GI.YY{X:ad}{k:D}{h:E}{j:ab}{a:Int}{K:E->D->Prop}(n:GI c e m s d)(i:GI g k m h j)(q:s.bt≠h.bt)(o:Fz X e m)(v:d.length<=10^12)
 (p:∀r b,GI c e b r (d++[a])->GI g k b h j->r.bt≠h.bt->Fz X e b->K r b):mf (m.push (.cells (dh [.i a]) bG)) bG [.i 0] 8 s (.mk m.size 0 1 1) K:=by
 have t:=i.cF
 refine Gr.nI (h:=[.i 0]) yD.aP cH n o O V λr b l f z u=>p r b l (i.me (u _ t.2 (uK q))) ?_ f
 grind
def GI.jS(h:GI c e m s d):GI g e m s d:=by
 let⟨b,a,f,i⟩:=h;exact⟨b,a,f,i.aP λ_ _ h=>h⟩
def iT(a v:Int):eQ:=⟨a,0,0,[v],[]⟩
abbrev GS(c:ad)(e m:D)(s:E)(d:au):Prop:=Gr c e m jF 5 km s d
theorem GS.bI(c:ad)(m:D):GS c m (m.push (.cells (dh []) jF)) (.mk m.size 0 0 0) []:=by grind [Gr.bI]
def GS.nI{c X:ad}{e m:D}{s a k:E}{d:au}{x:eQ}{K:E->D->Prop}(h:GS c e m s d)(j:Fz X e m)(i:bg (di (s.bt::c) m) a x.aO)(l:rW (di (s.bt::c) m) k x.dA)(n:d.length<=10^12)
 (g:∀r f,GS c e f r (d++[x])->Fz X e f->m.size<=f.size/\(r.bt=s.bt\/m.size<=r.bt)->(∀b,b<m.size->b≠s.bt->f[b]? =m[b]?)->K r f):
 mf (m.push (.cells (dh [.i x.op,.i x.cG,.i x.cR,.s a,.s k]) jF)) jF [.i 0,.i 0,.i 0,.s .nil,.s .nil] 72 s (.mk m.size 0 1 1) K:=
 Gr.nI (h:=[.i 0,.i 0,.i 0,.s .nil,.s .nil]) km.aP cH h j ⟨a,k,O,i,l⟩ V g
def GS.lZ{c X:ad}{e m:D}{s x:E}{d f:au}{K:E->D->Prop}(h:GS c e m s d)(i:Fz X e m)(j:iI (di (s.bt::c) m) x f)(k:d.length+f.length<=10^12)
 (g:∀r a,GS c e a r (d++f)->Fz X e a->m.size<=a.size/\(r.bt=s.bt\/m.size<=r.bt)->(∀b,b<m.size->b≠s.bt->a[b]? =m[b]?)->K r a):
 mf m jF [.i 0,.i 0,.i 0,.s .nil,.s .nil] 72 s x K:=
 Gr.lZ (h:=[.i 0,.i 0,.i 0,.s .nil,.s .nil]) km.aP cH h i j V g
theorem pZ{α:Type}{a:Nat}{R:ae->α->Prop}{o c:Nat}:fY m a R (.mk b o 0 c) []:=⟨O,jh _,bO,bO⟩
def lK(o:∀e∈c,e<m.size)(i v:Int):bJ dP 228 [vi i,vi v] m λt d=>∃a k,t=tK (iT i v) a k/\bg (di c d) a [v]/\rW (di c d) k []/\J m d:=by
 apply Hz;simp -zeta only[dT];intro f g r s;obtain⟨u,x⟩:=pu f;have w:=px g;have j:=px r;have q:J m s:=((u.N w).N j).aW bY _ _;refine⟨_,_,O,?_,pZ,q⟩;have n:bg (di (m.size::c) g) (.mk f.size 0 1 1) [v]:=bg.jY bG (l:=[v]) (λb p=>by
  rcases aZ.1 p with h|h
  .omega
  .have:=o b h;omega) O O bO
 exact(n.le j.eX).le (dU cQ λe h=>aX _ h)
def XO(f:Nat)(h:ap)(m:D)(c:ad)(Q:au->Prop):Prop:=bJ dP f h m λv a=>∃s d,v=s.v/\GS c m a s d/\Q d/\J m a
def XO.bL{d:ad}{Q:au->Prop}(l:XO f h m c Q)(j:J a m)(q:∀b∈d,b<a.size)(p:∀s g e,GS c m e s g->Q g->J m e->J a e->K s.v e):bJ dP f h m λv e=>gT d m e/\K v e:=
 l.aP λ_ e⟨s,g,k,n,r,i⟩=>⟨i.fg λb o=>j.lt (q b o),k▸p s g e n r i (j.N i)⟩
def iP(z:∀h∈c,h<m.size)(b:Int){l:E}(e:bg m l d)(A:d.length<=10^12):XO 264 [vi b,l.v] m c (d.map (iT b)=·):=by
 apply Fy;intro F;have u:=e.aT;refine gN (n:=d.length) (u▸e.kM) (λk s g=>J m g/\GS c m g s ((d.take k).map (iT b))) ⟨J.push m _,by simpa using GS.bI c m⟩ ?_;rintro k s G I μ C ⟨j,t⟩ w
 refine⟨λi=>?_,λi=>?_⟩
 .simp only[bh]at i;let⟨g,v⟩:=dY d k;refine⟨V,V,g,(e.ext j).br v,?_⟩;refine(lK (c:=s.bt::c) (λh B=>?_) b g).aP λP H⟨a,D,p,q,r,o⟩=>?_
  .grind [Gr.cF]
  subst p;refine⟨_,_,_,_,_,O,?_⟩;intro K;refine GS.nI (x:=iT b g) (t.ext km.aP o) ((j.N o).fz []) q r cC λN L y f Q M=>w V _ _ ⟨f.ext,?_⟩
  grind [bW]
 .grind
theorem uR(a:Int):∀d:ab,sw (d.map (iT a))=2*d.length
 |[]=>O
 |v::d=>by rw[eP,qy,uR a d,eQ.pN];simp[iT];omega
theorem nJ{a:Int}(h:14<=a):∀d:ab,dc (d.map (iT a))=0
 |[]=>O
 |v::d=>by
  rw[eP,nO,nJ h d];grind [dn,tO,iT]
theorem I5{f:af}{a:Nat}{d v:Int}(h:14<=d/\d<=17)(g:0<=v/\v<(a:Int)):WS f i True a (iT d v):=
 ⟨⟨bH ⟨trivial,h⟩,λx e=>by simp[iT]at e;subst e;exact g,λ_=>O,by simp[iT],λc=>by simp only[iT]at c;omega,λc=>by simp only[iT]at c;omega,λc=>by simp only[iT]at c;omega⟩,λk b c=>by simp[iT]at c⟩
theorem wh{c:af}{a:Nat}{b:Int}(h:14<=b/\b<=17)(e:∀v∈d,0<=v/\v<(a:Int)):WL c i True a (d.map (iT b)):=λg s f=>by
 grind [Option.map_eq_some_iff,List.map_take,nJ,I5,ba]
def rJ(f:Nat)(h:ap)(m:D)(c:ad)(Q:Bk->Prop):Prop:=bJ dP f h m λv a=>∃s b,v=.agg #[s.v,vi b.bP]/\iI (di c a) s b.bq/\Q b/\J m a
def rJ.bL{d:ad}{Q:Bk->Prop}(l:rJ f h m c Q)(i:J a m)(q:∀b∈d,b<a.size)(p:∀s b e,iI (di c e) s b.bq->Q b->J m e->J a e->K (.agg #[s.v,vi b.bP]) e):bJ dP f h m λv e=>gT d m e/\K v e:=
 l.aP λ_ e⟨s,b,k,n,r,g⟩=>⟨g.fg λj o=>i.lt (q j o),k▸p s b e n r g (i.N g)⟩
def Pp(f:Nat)(h:ap)(m:D)(c:ad)(Q:eQ->Prop):Prop:=bJ dP f h m λv b=>∃a k x,v=tK x a k/\bg (di c b) a x.aO/\rW (di c b) k x.dA/\Q x/\J m b
def Pp.bL{d:ad}{Q:eQ->Prop}(n:Pp f h m c Q)(i:J a m)(t:∀b∈d,b<a.size)(s:∀p k x e,bg (di c e) p x.aO->rW (di c e) k x.dA->Q x->J m e->J a e->K (tK x p k) e):bJ dP f h m λv e=>gT d m e/\K v e:=
 n.aP λ_ e⟨p,k,x,l,o,q,u,g⟩=>⟨g.fg λj r=>i.lt (t j r),l▸s p k x e o q u g (i.N g)⟩
theorem dH{d:D}(e:∀a∈c,a<m.size)(h:m.size<=d.size)(f:b<d.size):∀a∈b::c,a<d.size:=λa g=>by
 grind
@[grind cases] structure afA (ds:af) (nr:Nat) (v lo la:ab) (b:Bk):Prop where
 bF:∀o∈lo,0<=o/\o<(v.length:Int)
 lo5:lo.length+5*b.w<=500
 laN:la.length+1000*b.w<=1000000
 vN:v.length+5*b.w<=1000000
 wb:WB ds nr False v.length b
def adk(a:af)(d:List jV)(b:Bk):Prop:=∀(c:ad)(m:D),(∀e∈c,e<m.size)->∀(g r j t pd e:E)(v i h:ab),iD m g r a d->bg m j v->iI m t b.bq->bg m pd i->bg m e h->afA a d.length v i h b->
 rJ 263 [.agg #[g.v,r.v],j.v,.agg #[t.v,vi b.bP],pd.v,e.v] m c λf=>WB a d.length True v.length f/\f.w+1050<=1100*b.w
@[grind cases] structure afz (ds:af) (nr:Nat) (v fl lo la:ab) (b:Bk):Prop where
 bF:∀o∈lo,0<=o/\o<(v.length:Int)
 fl3:fl.length<=3
 lo5:lo.length+3+5*b.w<=500
 laN:la.length+1000*b.w<=1000000
 vN:v.length+3+5*b.w<=1000000
 wb:WB ds nr False (v.length+fl.length) b
def OF(hS:∀a∈c,a<m.size){ao C aH bV aw pd aO:E}{ds:af}{rs:List jV}{N I lo la:ab}{b:Bk}(hn:iD m ao C ds rs)(hv:bg m aH N)(hf:bg m bV I)(hs:iI m aw b.bq)(u:bg m pd lo)(a3:bg m aO la)
 (hp:afz ds rs.length N I lo la b)(ih:adk ds rs b):rJ 329 [.agg #[ao.v,C.v],aH.v,bV.v,.agg #[aw.v,vi b.bP],pd.v,aO.v] m c λq=>WB ds rs.length True (N.length+I.length) q/\q.w<=1100*b.w:=by
 apply Hx
 simp -zeta only[dT]
 intro e p G
 let⟨B,t,s0,s1,s2⟩:=uQ (a:=e) (c:=p) (d:=G) O O O
 have b1:=hv.aT;have bl:=hf.aT;have bp:=u.aT;have bL:=hp.fl3;have bI:=b.Oj;have bN:=hp.lo5;have b0:=hp.vN;have bM:=hp.laN
 refine(iH (S:=[]) bO (hv.le (B.le.N ER)) (hf.le (B.le.N ER)) V).bL (J.cX G) t λaC _ b4 gi i x3 _=>⟨_,O,?_⟩
 subst i
 refine(IH (b:=[]) bO (hs.le (B.N x3).le) V).bL x3 t λbv ul H hu bZ x4 L=>⟨_,O,?_⟩
 intro m5 m6
 have a7:bg H bv ul:=hu.le fJ
 have bx:J H m6:=(J.push H _).N (J.push m5 _)
 have s5:=pz m5
 have gm:GI c H m6 (.mk H.size 0 0 0) []:=(GI.gF c H).ext (J.push m5 _)
 have gd:GI c H m6 (.mk m5.size 0 0 0) []:=(GI.gF c m5).de (λ_ r=>r) V
 have z4:=L.aQ
 refine BC (j:=lo.length) (bp▸u.kM) (λae j sd M=>J H M/\∃T F,GI c H M j T/\GI c H M sd F/\j.bt≠sd.bt/\(∀o∈T,o∈lo)/\(∀o∈F,o∈lo)/\T.length<=ae/\F.length<=ae) ⟨bx,[],[],gm,gd,fu,bO,bO,bY,bY⟩ ?_
 rintro ae j sd m7 bf μ hk ⟨x7,T,F,gm,gd,a5,aM,aL,cm,cd⟩ bb
 have u7:=L.N x7
 have v7:=B.N u7
 refine dit (λr=>?_) λr=>?_
 .let⟨h,hy⟩:=dY lo ae
  have y:=ba hy
  have A:∀M,J m7 M->mf (M.push (.cells (dh [.i h]) bG)) bG [.i 0] 8 j (.mk M.size 0 1 1) λQ m'=>gT [p.size,e.size,m.size] (M.push (.cells (dh [.i h]) bG)) m'/\bf Q sd (eV ((ae:Int)+1)) m'/\μ Q sd (eV ((ae:Int)+1)) m'<μ j sd ae m7:=λM Z=>
   GI.YY (gm.ext Z) (gd.ext Z) a5 ((x7.N Z).fz []) V λC m' w g' l f=>⟨J.sY ((u7.N Z).cz _) (L.N f.ext) t,bb V _ _ _ ⟨f.ext,_,_,w,g',l,tx aM y,aL,fu,V⟩⟩
  refine⟨V,V,h,(u.ext v7).br hy,?_⟩
  refine(fI (a7.ext x7) h).jS.bL u7 t λa m8 v k=>⟨_,O,λ_=>⟨V,V,h,(u.ext (B.N k)).br hy,A m8 v⟩,λ_=>⟨V,V,h,(u.ext (B.N k)).br hy,?_⟩⟩
  refine(fI (a3.ext (B.N k)) h).jS.bL k t λa z P u9=>⟨_,O,λ_=>⟨V,V,h,(u.ext (B.N u9)).br hy,A z (v.N P)⟩,λ_=>⟨V,V,h,(u.ext (B.N u9)).br hy,?_⟩⟩
  intro aP
  have Z:=v.N P
  exact GI.YY (gd.ext Z) (gm.ext Z) a5.symm ((x7.N Z).fz []) V λC m' w g' l f=>⟨J.sY ((u7.N Z).cz _) (L.N f.ext) t,bb V _ _ _ ⟨f.ext,_,_,g',w,l.symm,aM,tx aL y,V,fu⟩⟩
 have cm:T.length<=lo.length:=V
 have cd:F.length<=lo.length:=V
 intro m8
 have bP:=gm.cF
 have bK:=gd.cF
 refine gN (n:=I.length) (bl▸hf.kM) (λae s M=>J m7 M/\∃d,GI c m7 M s d/\(∀o∈d,0<=o/\o<((N.length+I.length:Nat):Int))/\d.length<=ae) ⟨J.push _ _,[],GI.gF c m7,bO,bY⟩ ?_
 rintro a9 su z I2 μ2 hj ⟨P,y,gu,ap,cu⟩ aT
 have u9:=u7.N P
 have v9:=B.N u9
 refine dit (λh2=>?_) λh2=>?_
 .let⟨h,hy⟩:=dY I a9
  refine⟨V,V,h,(hf.ext v9).br hy,λ_=>?_,λ_=>aT V _ _ ⟨P,y,gu,ap,V⟩⟩
  rw[dk (b:=(aH.len:Int)+a9) V V]
  refine(fI ((a7.ext x7).ext P) _).jS.bL u9 t λa aP ai aF=>⟨_,O,λ_=>?_,λ_=>aT V _ _ ⟨P.N ai,y,gu.ext ai,ap,V⟩⟩
  intro bs
  refine GI.nI (gu.ext ai) ((P.N ai).fz []) V λC m' w f al X=>⟨J.sY ((u9.N ai).cz _) (u7.N f.ext) t,aT V _ _ ⟨f.ext,_,w,λo u=>?_,fu⟩⟩
  rcases bT.1 u with u|u
  .exact ap o u
  .simp at u;omega
 have bX:=gu.cF
 have aK:=gm.ext P
 have bj:∀{M:D},J G M->∀a∈p.size::c,a<M.size:=λr=>dH hS (B.N r).aQ (r.lt (t _ bO))
 have aB:∀{M:D},J G M->j.bt<M.size->∀a∈j.bt::p.size::c,a<M.size:=λr R a h=>by
  rcases aZ.1 h with i|i
  .omega
  .exact bj r a i
 refine(iP (c:=j.bt::p.size::c) (aB u9 aK.cF.2) 14 ((gu.cB (S:=c) (λa h=>cr (hS a h) (B.N u7).aQ) V).le fJ) V).bL u9 t λs1 _ aP g1 i ai aF=>⟨_,O,?_⟩
 subst i
 have a4:j.bt<aP.size:=ai.lt aK.cF.2
 refine(iP (c:=s1.bt::j.bt::p.size::c) (λa h=>?_) 15 ((((gd.cB (S:=c) (λa h=>cr (hS a h) (B.N L).aQ) V).le fJ).ext P).ext ai) V).bL aF t λs2 _ bs g2 i aV bu=>⟨_,O,?_⟩
 .rcases aZ.1 h with i|i
  .have:=g1.cF;omega
  .exact aB aF a4 a i
 subst i
 have bR:=(g1.ext km.aP aV).cF
 have e2:=g2.sa km.aP (λh=>by
  have hy:=g2.cF;rcases aZ.1 h with i|i
  .have:=g1.cF;omega
  .have:=aB aF a4 _ i;omega) cH fu
 refine GS.lZ (g1.ext km.aP aV) ((ai.N aV).fz []) e2 fu λA aa g3 f3 z3 q3=>⟨J.sY bu (u9.N f3.ext) t,?_⟩
 have an:J z aa:=f3.ext
 have aG:=u9.N an
 have Rv:WL ds rs.length True (N.length+I.length) (y.map (iT 14)++F.map (iT 15)):=by
  refine(wh V ap).fE ?_;rw[nJ V];refine wh V λo u=>?_;have:=hp.bF o (aL o u);omega
 have bd:dc (y.map (iT 14)++F.map (iT 15))=0:=by rw[fm,nJ V,nJ V]
 have b5:sw (y.map (iT 14)++F.map (iT 15))<=1006:=by rw[gR,uR,uR];omega
 have a1:GI c H aa j T:=(gm.ext P).ext an
 have bo:A.bt≠j.bt:=g3.Qm a1 cH
 have az:∀{M k:D},J G M->J G k->∀b∈[p.size,e.size,m.size],∀o,aS k b o=aS M b o:=λr h' b R o=>bD (by rw[h'.bB b (t b R),r.bB b (t b R)]) o
 have E4:∀{M k:D},J G M->J G k->∀{ar:Prop},ar->aS k e.size 0=aS M e.size 0/\aS k e.size 1=aS M e.size 1/\aS k m.size 0=aS M m.size 0/\aS k m.size 1=aS M m.size 1/\ar:=λr h' _ hp=>⟨az r h' _ bO _,az r h' _ bO _,az r h' _ bO _,az r h' _ bO _,hp⟩
 have F4:∀{M:D},Fz [j.bt] z M->J H M:=λr=>Fz.ext ((((x7.N P).fz [j.bt]).N r).IK λb R=>bH (by simp at R;omega))
 have bW:j.bt<z.size:=aK.cF.2
 have z3:=x3.aQ
 have tail:∀(M:D)(l:Nat)(ss:E)(q:Bk),GS (l::j.bt::p.size::c) z M A (y.map (iT 14)++F.map (iT 15))->Fz [j.bt] z M->z.size<=l->l<M.size->l≠A.bt->iI (di (l::A.bt::j.bt::p.size::c) M) ss q.bq->WB ds rs.length True (N.length+I.length) q/\q.w+1050<=1100*b.w->
  let Q:D:=aW M l 0 [.s ss,.i q.bP]
  mf Q jF [.i 0,.i 0,.i 0,.s .nil,.s .nil] 72 A ss λav M2=>gT [l,p.size,e.size,m.size] Q M2/\aS M2 l 1=aS Q l 1/\
   let M3:D:=aW M2 p.size 0 [.s av,.i q.bP]
   ∃s ac,Value.agg #[av.v,vi q.bP]=.agg #[s.v,vi ac.bP]/\iI (di c M3) s ac.bq/\(WB ds rs.length True (N.length+I.length) ac/\ac.w<=1100*b.w)/\J m M3:=by
  intro M l ss q w aj bk bB a6 aq a8 Q
  have b6:Q.size=M.size:=bE _ _ _ _
  have hy:=w.cF
  have bq:iI (di (A.bt::j.bt::p.size::c) Q) ss q.bq:=aq.le (dU bO λa h=>aX _ h)
  have bC:=Bk.pN q
  have bS:=jK q.bq
  have hF:=F4 aj
  have zF:=hF.aQ
  have g1:GS (j.bt::p.size::c) z Q A _:=w.re km.aP (Y:=[l]) ((Fz.cX [l] M).aW (bz bO) _ _) bO (by simpa using uK a6) λa h=>bz (aX _ h)
  have f1:Fz [j.bt] z Q:=aj.aW (bH bk) _ _
  refine GS.lZ g1 f1 bq fu λC M2 g2 f al X=>⟨λa h=>?_,bD (X l V a6) _,?_⟩
  .simp at h
   refine X a ?_ ?_<;>rcases h with rfl|rfl|rfl|rfl<;>omega
  intro M3
  have bw:J m M2:=Fz.ext (((v9.fz [j.bt]).N f).IK λb R=>bH (by simp at R;omega))
  have b2:=g2.cF
  have h5:=g2.sa km.aP (λh=>by
   rcases aZ.1 h with i|i
   .omega
   .rcases aZ.1 i with i|i
    .omega
    .have:=hS _ i;omega) cH fu
  refine⟨C,.mk _ q.bP,O,iI.le (dU bO λa h=>aX _ (aX _ h)) h5,⟨WB.of (Rv.fE ?_) ?_,?_⟩,bw.aW V _ _⟩
  .rw[bd];exact a8.1.cJ.1
  .rw[fm,bd,fD];exact a8.1.cJ.2
  .rw[Bk.vT,gR];omega
 have bF:∀(M:D)(g:ad)(K:E->D->Prop),J aa M->GS g z M A (y.map (iT 14)++F.map (iT 15))->j.bt∈g->(∀C k,GI c H k C (T++y)->GS g z k A (y.map (iT 14)++F.map (iT 15))->Fz [j.bt] z k->M.size<=k.size->(∀b,b<M.size->b≠j.bt->k[b]? =M[b]?)->K C k)->mf M bG [.i 0] 8 j su K:=by
  intro M g K hx w bn hK;have br:bg (di (j.bt::c) M) su y:=by
   refine bg.le ((an.N hx).eX) (Gr.sa (S:=j.bt::c) yD.aP gu.jS (λh=>?_) cH V);rcases aZ.1 h with i|i
   .omega
   .have:=hS _ i;have:=B.aQ;omega
  exact GI.lZ (a1.ext hx) ((((x7.N P).N an).N hx).fz []) br V λC k g' f al X=>hK C k g' (w.P9 km.aP (Y:=[j.bt]) ⟨al.1,λb R hn=>X b R (sp hn)⟩ (sp bn) (sp bo)) (((an.N hx).fz [j.bt]).N ⟨al.1,λb R hn=>X b R (sp hn)⟩) al.1 X
 have bt:∀(M:D)(g:ad)(mn ag:E)(v:ab),(∀a∈g,a<M.size)->Fz [j.bt] z M->bg M mn (T++y)->bg M ag v->tT la v->rJ 263 [.agg #[ao.v,C.v],aC.v,.agg #[aw.v,vi b.bP],mn.v,ag.v] M g λq=>WB ds rs.length True (N.length+I.length) q/\q.w+1050<=1100*b.w:=by
  intro M g mn ag v bi aj h1 h2 h3;have hF:=F4 aj;have hm:=(B.N L).N hF;have bm:bg M aC (N++I):=(((gi.cB bO fu).le fJ).ext x4).ext hF;have:=ih g M bi ao C aC aw mn ag (N++I) (T++y) v (hn.le hm.le) bm (hs.le hm.le) h1 h2 ⟨λo u=>?_,fu,oh h3.2,fu,sp hp.wb⟩
  .simpa using this
  .simp;rcases bT.1 u with u|u
   .have:=hp.bF o (aM o u);omega
   .have:=ap o u;omega
 have b3:=an.aQ
 have bU:j.bt<aa.size:=V
 have bQ:A.bt<aa.size:=g3.cF.2
 have a2:∀{M:D},J G M->aa.size<=M.size->∀a∈A.bt::j.bt::p.size::c,a<M.size:=λr hz a h=>by
  rcases aZ.1 h with i|i
  .omega
  .exact aB r V a i
 have jX:∀(M:D)(l:Nat)(mn ag:E)(v:ab),GS (l::j.bt::p.size::c) z M A (y.map (iT 14)++F.map (iT 15))->Fz [j.bt] z M->aa.size<=l->l<M.size->bg M mn (T++y)->bg M ag v->tT la v->
  bJ dP 263 [.agg #[ao.v,C.v],aC.v,.agg #[aw.v,vi b.bP],mn.v,ag.v] M λrv k=>gT [l,p.size,e.size,m.size] M k/\∃aU:E,∃aE:Int,rv=.agg #[aU.v,vi aE]/\
   let Q:D:=aW k l 0 [.s aU,.i aE]
   mf Q jF [.i 0,.i 0,.i 0,.s .nil,.s .nil] 72 A aU λav M2=>gT [l,p.size,e.size,m.size] Q M2/\aS M2 l 1=aS Q l 1/\
    let M3:D:=aW M2 p.size 0 [.s av,.i aE]
    ∃s ac,Value.agg #[av.v,vi aE]=.agg #[s.v,vi ac.bP]/\iI (di c M3) s ac.bq/\(WB ds rs.length True (N.length+I.length) ac/\ac.w<=1100*b.w)/\J m M3:=by
  intro M l mn ag v w aj h1 h2 h3 h4 h5
  have hM:J G M:=L.N (F4 aj)
  refine(bt M (l::A.bt::j.bt::p.size::c) mn ag v (λa h=>?_) aj h3 h4 h5).bL (J.cX M) (λa h=>?_) λss q k aq hq hx _=>⟨_,_,O,tail k l ss q (w.ext km.aP hx) (aj.cg hx) V (hx.lt h2) V aq hq⟩
  .rcases aZ.1 h with i|i
   .omega
   .exact a2 hM V a i
  .rcases aZ.1 h with i|i
   .omega
   .exact hM.lt (t a i)
 have aD:∀(M:D)(o:Obj),GS (j.bt::p.size::c) z M A (y.map (iT 14)++F.map (iT 15))->GS (M.size::j.bt::p.size::c) z (M.push o) A (y.map (iT 14)++F.map (iT 15)):=λM o w=>
  w.re km.aP (Y:=[]) ((J.push M o).fz []) bO bO λa h=>by
   rcases aZ.1 h with i|i
   .exact bH V
   .exact bz i
 have aJ:∀(M:D)(aI:ad)(K:ak),J G M->(∀a∈aI,a<M.size)->(∀s v k,bg k s v->tT la v->J M k->K s.v k)->bJ dP 344 [aO.v,vi (aH.len:Int)] M λN m'=>gT aI M m'/\K N m':=λM aI K hM hL hK=>
  (T9 (S:=[]) bO (a3.le ((B.N hM).le.N ER)) V).bL (J.cX M) hL λs v k w ar Z _=>hK s v k ((w.cB bO (oh ar.2)).le fJ) ar Z
 have aA:∀{M:D}{s:E},GI c H M s (T++y)->bg M s (T++y):=λw=>(w.cB (λa h=>cr (hS a h) (B.N L).aQ) fu).le fJ
 have aN:∀{M:D}{l:Nat},J G M->l<M.size->∀a∈[l,p.size,e.size,m.size],a<M.size:=λr R a h=>by
  rcases aZ.1 h with i|i
  .omega
  .exact r.lt (t a i)
 refine⟨bF aa _ _ dt g3 bO λau aQ ga gs W al X=>⟨λa h=>X a (aG.lt (t a h)) (oh (t a h)),E4 aG (L.N (F4 W)) ⟨?_,?_⟩⟩,?_⟩
 .have ah:=L.N (F4 W)
  refine aJ aQ _ _ ah (λa h=>ah.lt (t a h)) λam v ay a0 bc U=>⟨_,O,E4 ah (ah.N U) ⟨?_,?_⟩⟩
  .have ax:=ah.N U
   have bA:=U.aQ
   refine(bt ay (A.bt::j.bt::p.size::c) au am v (a2 ax V) (W.cg U) ((aA ga).ext U) a0 bc).bL ax t λss q aR aq hq aY be=>⟨_,_,O,?_⟩
   intro a_
   have b7:=aY.aQ
   have bh:=(W.cg U).cg aY
   exact E4 be (be.cz _) (tail a_ aR.size ss q (aD aR _ ((gs.ext km.aP U).ext km.aP aY)) (bh.push _) V (by simp[a_]) V (aq.le (xK (J.push aR _) bY)) hq)
  .intro aR
   have bA:=U.aQ
   have ax:=ah.N U
   exact E4 ax (ax.cz _) (jX aR ay.size au am v (aD ay _ (gs.ext km.aP U)) ((W.cg U).push _) V (by simp[aR]) (((aA ga).ext U).ext (J.push _ _)) (a0.ext (J.push _ _)) bc)
 .intro U
  have ah:=L.N (F4 W)
  have ax:J G U:=ah.cz _
  have aR:=px U
  refine E4 ah ax (aJ U _ _ ax (aN ax (by simp[U])) λam v a0 aY a_ ay=>⟨_,O,E4 ax (ax.N ay) ?_⟩)
  exact jX a0 aQ.size au am v ((aD aQ _ gs).ext km.aP ay) ((W.cg aR).cg ay) V (ay.lt (by simp[U])) (((aA ga).ext aR).ext ay) aY a_
 .intro U
  have ay:J G U:=aG.cz _
  have bc:=px U
  refine E4 aG ay (bF U _ _ bc (aD aa _ g3) bO λau aY ga gs W al X=>⟨λa h=>X a (aN ay (by simp[U]) a h) ?_,E4 ay (L.N (F4 W)) ?_⟩)
  .rcases aZ.1 h with i|i
   .omega
   .have:=t a i;omega
  have ax:=L.N (F4 W)
  have be:=pz U
  refine aJ aY _ _ ax (aN ax V) λam v a0 aR a_ ah=>⟨_,O,E4 ax (ax.N ah) ?_⟩
  exact jX a0 aa.size au am v (gs.ext km.aP ah) (W.cg ah) bY (ah.lt V) ((aA ga).ext ah) aR a_
end
section
variable{c m:D}{k i h a:Nat}{s:E}{e:ad}{f:ab}{d:eQ}{g:List jV}
def acn{a b:D}(h:J a c)(f:Fz [k] c b)(d:a.size<=k):J a b:=by constructor<;>grind [Fz.ext,J.fz,Fz.N,Fz.IK]
def _root_.Go.Vc.Fz.Xb{M b:D}(f:Fz [k] c M)(d:s.bt=k\/c.size<=s.bt)(e:M.size<=b.size)(q:∀a,a<M.size->a≠s.bt->b[a]? =M[a]?):Fz [k] c b:=
 by constructor<;>grind [Fz.wE,E.bt]
def GI.afK{X:ad}{b:D}{d:E}{g:ab}{K:E->D->Prop}(h:GI e b m s f)(l:Fz X b m)(o:bg m d g)(q:f.length+g.length<=10^12)
 (n:∀r a,GI e b a r (f++g)->Fz X b a->(m.size<=a.size/\(r.bt=s.bt\/m.size<=r.bt))->(∀c,c<m.size->c≠s.bt->a[c]? =m[c]?)->K r a):mf m bG [.i 0] 8 s d K:=by
 let⟨p,i,j,k⟩:=o.acw (b:=1) λ_ _ h=>by rw[h];rfl
 exact Gr.zV (h:=[.i 0]) yD.aP cH h l i j k V n
def dF(e:ad){b:E}(d:bg m b f)(i:f.length<=10^12):oC 55 [b.v] m e (f=·):=by
 apply rP;intro h;have a:=px h;exact GI.afK (f:=[]) (X:=[]) (GI.gF e m) (a.fz []) (d.ext a) cC λr j g c _ _=>⟨r,f,O,sp g,O,c.ext⟩
abbrev GB(e:ad)(a m:D)(s:E)(f:aF):Prop:=Gr e a m ft 2 vV s f
def GB.bI{e:ad}(m:D):GB e m (m.push (.cells (dh []) ft)) (.mk m.size 0 0 0) []:=by grind [Gr.bI]
def GB.nI{e X:ad}{g m:D}{s a:E}{f:aF}{c:Bk}{K:E->D->Prop}(h:GB e g m s f)(k:Fz X g m)(j:iI (di (s.bt::e) m) a c.bq)(l:f.length<=10^12)
 (i:∀r b,GB e g b r (f++[c])->Fz X g b->m.size<=b.size/\(r.bt=s.bt\/m.size<=r.bt)->(∀d,d<m.size->d≠s.bt->b[d]? =m[d]?)->K r b):
 mf (m.push (.cells (dh [.s a,.i c.bP]) ft)) ft [.s .nil,.i 0] 32 s (.mk m.size 0 1 1) K:=
 Gr.nI (h:=[.s .nil,.i 0]) vV.aP cH h k (by cases c;exact vV.of j) V i
theorem Py{a:af}{b cG:Int}{y:Int}(h:b=8)(c:(cY a cG)[i]? =some y):GK a b cG i=(da a y).length:=by grind [GK]
def Pz{b:af}{a cG:Int}(h:a≠8):GK b a cG i=0:=by grind [GK]
def _root_.Go.Vc.WS.Vj{e:af}{i f:Prop}(b:WS e h i a d)(l:i->f){cR:Int}(m:0<=cR/\cR<=(a:Int)){dA:aF}(j:dA.length=d.dA.length)(n:∀(k:Nat)(c:Bk),dA[k]? =some c->WB e h f (a+GK e d.op d.cG k) c):WS e h f a ⟨d.op,d.cG,cR,d.aO,dA⟩:=
 ⟨⟨b.iU.op.imp id λb=>⟨l b.1,b.2⟩,b.iU.aO,b.iU.mE,m,λg=>j.trans (b.iU.Nv g),λg=>j▸b.iU.lZ g,b.iU.jt⟩,n⟩
def MP(hS:∀h∈e,h<m.size){W R ae a k pd ad:E}{r:af}{B lo la:ab}(A:iD m W R r g)(hv:bg m ae B)(ha:bg m a d.aO)(P:rW m k d.dA)(ho:bg m pd lo)(au:bg m ad la)
 (av:∀o∈lo,0<=o/\o<(B.length:Int))(aH:lo.length+5*d.w<=500)(aG:la.length+1000*d.w<=1000000)(vN:B.length+5*d.w<=1000000)(ac:WS r g.length False B.length d)(ih:∀c∈d.dA,adk r g c):
 Pp 300 [.agg #[W.v,R.v],ae.v,tK d a k,pd.v,ad.v] m e λC=>WS r g.length True B.length C/\C.op=d.op/\C.w<=1+d.aO.length+1100*bw d.dA:=by
 apply Fx
 simp -zeta only[dT]
 intro m0 o v ah
 let⟨p,u,s0,s1,s2⟩:=uQ (a:=m0) (c:=o) (d:=v) O O O
 have al:=px ah
 have gk:=GB.bI (e:=o.size::e) v
 have aA:=ha.aT;have ar:=P.aT;have hw:=eQ.pN d
 refine(kA (e:=[v.size]) (by simp[ah]) (A.le (p.N al).le).bR A.dj d.cG).bL al u λh cl m4 t Q x4 u4=>⟨_,O,?_⟩
 subst Q
 have aD:=t.aT
 refine gN (n:=d.dA.length) (ar▸P.kM) (λj s M=>Fz [v.size] m4 M/\(s.bt=v.size\/m4.size<=s.bt)/\∃f,GB (o.size::e) v M s f/\f.length=j/\(∀(i:Nat)(c:Bk),f[i]? =some c->WB r g.length True (B.length+GK r d.op d.cG i) c)/\bw f<=1100*bw (d.dA.take j)) ⟨nR,bz O,[],gk.ext vV.aP x4,O,bO,bO⟩ ?_
 rintro j s m5 an μ hj ⟨Z,aw,f,aa,aF,ay,ap⟩ az
 have l:=acn u4 Z bY
 have hy:=aa.cF
 refine dit (λx=>?_) λx=>?_
 .intro m6
  have q:=px m6
  let⟨c,z⟩:=dY d.dA j
  have aB:=By z
  have aC:=zd z
  have ao:∀{M:D},J m5 M->∀h∈s.bt::o.size::e,h<M.size:=λx=>dH (dH hS p.aQ (u _ bO)) (l.N x).aQ (oh x.aQ)
  have jX:∀(M:D)(F:E)(N:ab)(w:E),J m5 M->bg M F N->N.length=GK r d.op d.cG j->iI M w c.bq->
   bJ dP 329 [.agg #[W.v,R.v],ae.v,F.v,.agg #[w.v,vi c.bP],pd.v,ad.v] M λrv K=>gT [o.size,m0.size,m.size] M K/\∃aj:E,∃ak:Int,rv=.agg #[aj.v,vi ak]/\
    let M1:D:=K.push (.cells (dh [.s aj,.i ak]) ft)
    mf M1 ft [.s E.nil,.i (0:Int)] 32 s (E.mk K.size 0 1 1) λai L=>gT [o.size,m0.size,m.size] M1 L/\an ai (eV ((j:Int)+(1:Int))) L/\μ ai (eV ((j:Int)+(1:Int))) L<μ s j m5:=by
   intro M F N w G hf aq I
   have U:=p.N (l.N G)
   have b3:=WH A.dj d.op d.cG j
   refine(OF (c:=s.bt::o.size::e) (ao G) (A.le U.le) (hv.ext U) hf I (ho.ext U) (au.ext U) ⟨av,V,V,V,V,aq▸ac.dA j c z⟩ (ih c (ba z))).bL (l.N G) u λss b' K ax Q C u'=>⟨_,_,O,?_⟩
   refine GB.nI (c:=b') (aa.ext vV.aP (G.N C)) (u'.fz []) ax (oh (xG d.dA)) λR L g2 f2 z2 q2=>⟨J.sY (u'.cz _) f2.ext u,az V _ _ ⟨(Z.cg (G.N C)).Xb aw z2.1 q2,?_,_,g2,fu,λi b2 H=>?_,?_⟩⟩
   .grind
   .rcases eH i f.length with y|y
    .grind
    .rw[dQ y]at H
     have:i -f.length=0:=by have:=bC H;simp at this;omega
     rw[this]at H;simp at H;subst H
     have:i=j:=V
     grind
   .grind [tr,zc,Et]
  refine⟨λy=>?_,λy=>?_⟩
  .simp only[bQ]at y
   have aE:=(ac.iU.lZ y).1
   let⟨am,ag⟩:=dY (cY r d.cG) j
   refine⟨V,V,am,(gY.1 ((t.le ((Z.cg q).eX bO)).br ag)).2,?_⟩
   have T:=l.N q
   refine(fX (e:=[]) ((A.le (p.N T).le).bR.le ER) A.dj am).bL T u λF N m7 hf Q x7 u7=>⟨_,O,?_⟩
   subst Q
   let⟨w,I,X,Y⟩:=(P.le (p.N u7).le).br z
   exact⟨V,V,_,X,_,Y,jX m7 F _ w (q.N x7) (hf.le fJ) (Py y ag).symm I⟩
  .simp only[bd]at y
   let⟨w,I,X,Y⟩:=(P.le (p.N (l.N q)).le).br z
   exact⟨V,V,_,X,_,Y,jX m6 _ [] w q pZ (Pz y).symm I⟩
 .have F:f.length=d.dA.length:=V
  rw[eY V]at ap
  refine(dF (o.size::e) (ha.ext (p.N l)) V).bL l u λG H m6 z y q T=>⟨_,O,bD (q.bB _ (l.lt (u _ bO))) _,bD (q.bB _ (l.lt (u _ bO))) _,?_⟩
  subst y
  intro m7
  have w:∀h∈o.size::e,h<v.size:=dH hS p.aQ V
  refine⟨G,s,⟨d.op,d.cG,0,d.aO,f⟩,O,(z.cB (λh t=>cr (w h t) l.aQ) V).le (dU bO λh t=>aX _ t),rW.le (dU bO λh t=>aX _ t) ((aa.ext vV.aP q).cB vV.aP w cH cC),⟨ac.Vj (λx=>x.elim) ⟨V,V⟩ F ay,O,?_⟩,(p.N T).aW V _ _⟩
  grind [eQ.pN]
def _root_.Go.Vc.Yj{σ τ ρ:Type}{n:Nat}(p:n<=9223372036854775807){h:σ}{j:τ}{g:ρ}{f:(σ->τ->ρ->Int->D->Prop)->(σ->τ->ρ->Int->D->Nat)->σ->τ->ρ->Int->D->Prop}(Q:Nat->σ->τ->ρ->D->Prop)(l:Q 0 h j g m)
 (o:∀(k:Nat)(s:σ)(t:τ)(r:ρ)(a:D)(I:σ->τ->ρ->Int->D->Prop)(μ:σ->τ->ρ->Int->D->Nat),k<=n->Q k s t r a->
  (k<n->∀d e c b,Q (k+1) d e c b->I d e c (eV ((k:Int)+1)) b/\μ d e c (eV ((k:Int)+1)) b<μ s t r k a)->f I μ s t r k a):
 ∃(I:σ->τ->ρ->Int->D->Prop)(μ:σ->τ->ρ->Int->D->Nat),I h j g 0 m/\∀s t r i a,I s t r i a->f I μ s t r i a:=by
 refine⟨λs t r i b=>∃k:Nat,i=k/\k<=n/\Q k s t r b,λ_ _ _ i _=>(n -i).toNat,⟨0,O,jh _,l⟩,?_⟩
 grind [oU,Ql]
@[grind cases] structure CB (ds:af) (nr:Nat) (S:ad) (m2 M:D) (v lo:ab) (bq:au) (k:Nat) (st inn mn:E):Prop where
 x:J m2 M
 hs:∃l,GS (inn.bt::mn.bt::S) m2 M st l/\WL ds nr True v.length l/\dc l=dc (bq.take k)/\sw l<=1100*sw (bq.take k)
 hi:∃l,GI S m2 M inn l/\l.length=v.length+dc (bq.take k)
 hm:∃l,GI S m2 M mn l/\l.length<=lo.length+k/\∀o∈l,0<=o/\o<((v.length+dc (bq.take k):Nat):Int)
 ne:inn.bt≠mn.bt
theorem dn1{c:af}(b:WS c h False a d):dn d=1:=a8 (b.iU.op.resolve_right λb=>b.1)
def Lh{W:af}:∀c:Bk,adk W g c:=by
 refine Bk.ind ?_;intro bq w ih e m hS b2 cS dK cU pd cY ak lo la hn hv hs B bF hp;have a_:=hp.wb.cJ;simp only[Bk.mZ,Bk.lV]at*;have cI:=hp.lo5;have cG:=hp.laN;have vN:=hp.vN;rw[(Bk.vT bq w)]at cI cG vN;apply DA;simp -zeta only[dT];intro m0 p t bQ;let⟨F,L,s0,s1,s2⟩:=uQ (a:=m0) (c:=p) (d:=t) O O O;obtain⟨bk,s3⟩:=pu bQ;have bC:∀an,GS an t bQ (.mk t.size 0 0 0) []:=λan=>GS.bI an t;have bK:=hs.aT;have cC:=Gu bq;have dj:=jK bq;refine(dF e (hv.ext (F.N bk)) V).bL bk L λo _ m4 G q x4 u4=>⟨_,O,?_⟩;subst q;refine(dF e (B.ext (F.N u4)) V).bL u4 L λv _ m5 X q x5 u5=>⟨_,O,?_⟩;subst q;have bL:=G.cF;have bM:=X.cF;refine Yj (n:=bq.length) (bK▸hs.kM) (λk A o v j=>CB W g.length (p.size::e) t j ak lo bq k A o v) ⟨u5,⟨[],((bC _).ext km.aP x4).ext km.aP x5,WL.gF,O,bO⟩,⟨ak,((G.ext x5).de (λ_ h=>h) bk.aQ).jS,bO⟩,⟨lo,(X.de (λ_ h=>h) u4.aQ).jS,V,sp hp.bF⟩,V⟩ ?_;clear G X bL bM bC;rintro k A o v R bm μ hk ⟨x6,⟨Q,gs,aP,aa,dk⟩,⟨li,G,aM⟩,⟨lm,X,c4,bG⟩,dd⟩ aU
 have v6:=F.N x6;have c8:=G.aT cH;have c6:=xI (bq.take k);have da:=Sg k bq;have ag:∀l∈p.size::e,l<t.size:=dH hS F.aQ (L _ bO);have co:bg R o li:=(G.cB ag V).le fJ;have cq:bg R v lm:=(X.cB ag V).le fJ;have dA:=gs.cF;have bL:=G.cF;have bM:=X.cF;have cA:=jK (bq.take k);have c9:k<=sw (bq.take k):=by rw[qZ]at cA;omega
 refine dit (λh=>?_) λh=>?_
 .let⟨d,r⟩:=dY bq k;let⟨a,kk,ha,bE,g0,g1,g2,g3,g4⟩:=hs.br r;refine⟨V,V,_,v6.aS g0,_,v6.aS g1,_,v6.aS g2,_,v6.aS g3,_,v6.aS g4,?_⟩;intro m7 T;obtain⟨x8,s8⟩:=pv T;have U:=x6.N x8;have u:∀{j:D},T.size<=j.size->∀c∈[R.size,p.size,m0.size,m.size],c<j.size:=λh c hb=>by
   rcases aZ.1 hb with q|q
   .omega
   .have:=U.lt (L c q);omega
  have ds:=ux r;have dq:=vt r;have dr:=eQ.pN d;have ai:WS W g.length False li.length d:=by rw[aM];exact a_.1 k d r
  have bD:=dn1 ai;have dm:=cC (k+1);have c5:=xG d.dA;have db:=jK Q;have ah:∀{j:D},J t j->At j b2 cS a kk W g d:=λh=>⟨hn.le (F.N h).le,ha.ext (F.N h),ai.iU.jt⟩;have aO:∀{j:D},GI (p.size::e) t j o li->bg j o li:=λy=>(y.cB ag V).le fJ;have a8:∀{j:D},GI (p.size::e) t j v lm->bg j v lm:=λy=>(y.cB ag V).le fJ;have ao:∀{j:D}{an:ad},T.size<=j.size->(∀l∈an,l<j.size)->∀l∈an++p.size::e,l<j.size:=λh hb l b=>by
   rcases bT.1 b with h|h
   .exact hb l h
   .have:=ag l h;omega
  refine(sI (ah U).Xi (aO (G.ext x8)) (ah U).aO (bE.le (F.N U).le) V λc _=>rq c).bL (J.cX T) (u bY) λty m9 x9 _=>⟨_,O,?_⟩;intro bb;have bX:J T bb:=x9.cz _;have e0:bg (di [] bb) (.mk m9.size 0 0 0) []:=pZ;rw[oU (k:=k) (n:=bq.length) V (bK▸hs.kM)]at aU⊢
  refine(Fi (.mk bq w) [] bb bO cU _ _ _ (k+1) (hs.le (F.N (U.N bX)).le) e0 (by simp only[Bk.mZ];omega) (by simp only[Bk.vT,kH];omega)).bL bX (u bY) λus ul cJ hu cD dL bj=>⟨_,O,?_⟩;rw[Bk.vT,kH]at cD;refine(Ug (S:=[]) bO hu ((bF.ext (F.N (U.N bj))).le ER) V).bL bj (u bY) λlt ll cK a5 bS dM ar=>⟨_,O,?_⟩;have aC:∀{j:D},GI [] cJ j lt ll->bg j lt ll:=λy=>(y.cB bO (oh bS.2)).le fJ;have bn:=U.N ar;have bt:=G.ext (x8.N ar);have bA:=X.ext (x8.N ar);have cj:=gs.ext km.aP (x8.N ar);refine(Lj (b:=[]) bO (ah bn) (aO bt) ai.iU.aO (a8 bA) (aC a5) V).bL (J.cX cK) (u ar.aQ) λdu dl cL cd bU av _=>⟨_,O,?_⟩;have cZ:=bU.2;have dO:=ar.aQ;have dQ:=av.aQ;have dN:=bj.aQ;refine(iP (c:=[A.bt,o.bt,v.bt]++p.size::e) (ao V fu) 14 ((cd.cB bO V).le fJ) V).bL (J.cX cL) (u V) λdI _ aR b9 q aw _=>⟨_,O,?_⟩;subst q;have dR:=aw.aQ;refine GS.lZ (cj.ext km.aP (av.N aw)) (((bn.N av).N aw).fz []) (b9.cB km.aP (ao (an:=[A.bt,o.bt,v.bt]) V fu) cH fu) fu λbi bN br b3 cV aY=>⟨λl b=>aY l (u V l b) ?_,?_⟩
  .simp at b;omega
  have aL:J t bN:=b3.ext;have cp:o.bt<aR.size:=V;have cr:v.bt<aR.size:=V;have cs:A.bt≠o.bt:=gs.Qm G cH;have ct:A.bt≠v.bt:=gs.Qm X cH;have c_:=a5.cF;have bu:=(bt.ext (av.N aw)).me (aY _ cp cs.symm);have bB:=(bA.ext (av.N aw)).me (aY _ cr ct.symm);have bx:=(a5.ext (av.N aw)).me (aY _ V V);have de:bi.bt=A.bt\/aR.size<=bi.bt:=cV.2;have dw:=br.cF;refine(MP (e:=[bi.bt,o.bt,v.bt]++p.size::e) (ao V fu) (ah aL).Xi (aO bu) (ah aL).aO (bE.le (F.N aL).le) (a8 bB) (aC bx) (by rw[aM];exact bG) V (oh bS.2) V ai (ih d (ba r))).bL (J.cX bN) (u V) λc2 c3 x' bP ck cl cR ax _=>⟨_,_,_,_,_,O,?_⟩;let⟨cE,cz,dp⟩:=cR;have dS:=ax.aQ;refine GS.nI (x:=x') (br.ext km.aP ax) ((aL.N ax).fz []) ck cl fu λaE bc bs b4 cW a0=>⟨λl b=>?_,?_⟩
  .have:=u (j:=bP) V l b;rw[a0 l this (by simp at b;omega),(J.push bP _).bB l this]
  have a2:J t bc:=b4.ext;have bv:=(bu.ext ax).me (a0 _ V V);have ci:=(bB.ext ax).me (a0 _ V V);have a4:=(bx.ext ax).me (a0 _ V V);have df:aE.bt=A.bt\/aR.size<=aE.bt:=by have:=cW.2;omega
  refine(MS (b:=[]) bO (ah a2) (aO bv) ai.iU.aO (a8 ci) (aC a4) V).bL (J.cX bc) (u V) λaq lf cM gf bf ay _=>⟨_,O,?_⟩;have bo:=a2.N ay;have dV:=ay.aQ;have cn:∀{j:D},GI [] bc j aq lf->bg j aq lf:=λy=>(y.cB bO (oh bf.2)).le fJ;refine(MT (b:=[]) bO (ah bo) (cn gf) (aC (a4.ext ay)) V).bL (J.cX cM) (u V) λcT P cN gd bV aK _=>⟨_,O,?_⟩;have c1:=bV.2;have c0:=bf.2;have dz:=gf.cF;have dy:=gd.cF;have dx:=bs.cF;refine(iP (c:=[aE.bt,aq.bt,o.bt]++p.size::e) (ao V fu) 15 ((gd.cB bO V).le fJ) V).bL (J.cX cN) (u V) λdJ _ cO ca q al _=>⟨_,O,?_⟩;subst q;have b0:=(bo.N aK).N al;have dW:=al.aQ;have b_:GS ([aq.bt,o.bt]++p.size::e) t cO aE _:=bs.re km.aP (Y:=[]) (((ay.N aK).N al).fz []) bO bO λl b=>by
   simp only[eN,iy,aZ]at b⊢;rcases b with h|h|h
   .exact bH V
   .exact bz (bz h)
   .exact bz (bH (bH h))
  refine GS.lZ b_ (b0.fz []) (ca.cB km.aP (ao (an:=[aE.bt,aq.bt,o.bt]) V fu) cH fu) fu λH aS cb b5 dX aD=>⟨λl b=>aD l (u V l b) ?_,?_⟩
  .simp at b;omega
  have b1:J t aS:=b5.ext;have cg:=((bv.ext ay).ext (aK.N al)).me (aD _ V V);have cf:=(gf.ext (aK.N al)).me (aD _ V V);have cc:=(gd.ext al).me (aD _ V V);have ch:=((a4.ext ay).ext (aK.N al)).me (aD _ V V);have a7:bg aS cT P:=(cc.cB bO V).le fJ;have cm:=a7.aT;have ce:GI (p.size::e) t aS aq lf:=(cf.de (λ_ h=>h) a2.aQ).jS;refine gN (n:=P.length) (cm▸a7.kM) (λ_ s j=>J aS j/\∃f,GI (p.size::e) t j s f/\GS ([s.bt,o.bt]++p.size::e) t j H (Q++dl.map (iT 14)++[x']++P.map (iT 15))/\tT lf f/\o.bt≠s.bt/\T.size<=s.bt) ⟨dt,lf,ce,cb,⟨λ_ h=>h,bY⟩,V,V⟩ ?_;rintro i s bd I2 μ2 hi ⟨az,f,gl,a6,N,cu,dg⟩ cP;have bp:=b1.N az;have dZ:=az.aQ;have cF:=gl.cF;refine dit (λh2=>?_) λh2=>?_
  .let⟨I,K⟩:=dY P i;refine⟨V,V,I,(a7.ext az).br K,?_⟩;refine(Gq (S:=[]) bO (((gl.cB ag (oh N.2)).le fJ).le ER) I (oh N.2)).bL (J.cX bd) (u V) λae Z ac g2 z C _=>⟨_,O,cP V _ _ ⟨az.N C,Z,(g2.de (λ_ h=>h) bp.aQ).jS,?_,⟨λaA hz=>N.1 aA (z.1 aA hz),fC z.2 N.2⟩,?_,?_⟩⟩
   .have ab:=g2.cF;refine a6.re km.aP (Y:=[]) (C.fz []) bO bO λl b=>?_;simp only[eN,iy,aZ]at b⊢;rcases b with h|h|h
    .exact bH V
    .exact bz (bH (bz h))
    .exact bz (bH (bH h))
   .have:=g2.cF;omega
   .have:=g2.cF;omega
  intro dC;have bw:=cg.ext az;refine GI.nI bw (bp.fz []) V λab ap ac b6 bZ a1=>⟨λl b=>?_,?_⟩
  .have:=u (j:=bd) V l b;rw[a1 l this (by simp at b;omega),(J.push bd _).bB l this]
  have a3:J t ap:=b6.ext;have cX:=bZ.1;have cx:H.bt≠o.bt:=a6.Qm bw cH;have aB:=gl.me (a1 _ cF.2 cu.symm);have bI:=bZ.2;have ae:GS ([s.bt,ab.bt]++p.size::e) t ap H _:=a6.re km.aP (Y:=[o.bt]) ⟨cX,λl b hn=>a1 l b (sp hn)⟩ bO (sp cx) λl b=>by
   simp only[eN,iy,aZ]at b⊢;rcases b with h|h|h
   .exact bz (bz h)
   .rcases bI with q|q
    .exact bz (bH (bz (h.trans q)))
    .exact bH V
   .exact bz (bH (bH h))
  have be:ab.bt≠s.bt:=by rcases bI with q|q<;>omega
  have I:WL W g.length True ak.length (Q++dl.map (iT 14)++[x']++P.map (iT 15))/\dc (Q++dl.map (iT 14)++[x']++P.map (iT 15))=dc (bq.take (k+1))/\sw (Q++dl.map (iT 14)++[x']++P.map (iT 15))+2<=1100*sw (bq.take (k+1)):=by
   have c7:dn x'=1:=by unfold dn at bD⊢;rw[cz];exact bD
   have d1:dc (dl.map (iT 14))=0:=nJ V _;have d2:dc (P.map (iT 15))=0:=nJ V _;refine⟨((aP.fE (wh V λz B=>?_)).Ch ?_).fE (wh V λz B=>?_),?_,?_⟩
   .rw[aa,<-aM];exact ai.iU.aO z (bU.1 z B)
   .rw[fm,d1,aa,uJ,<-aM];exact cE
   .have:=ai.iU.aO z (bV.1 z B);rw[fm,fm,d1,aa,nO,xJ];omega
   .rw[fm,fm,fm,d1,d2,aa,nO,xJ];omega
   .rw[gR,gR,gR,uR,uR,qy,Ai];omega
  have a9:∀z∈f,0<=z/\z<((ak.length+dc (bq.take (k+1)):Nat):Int):=λz B=>by
   have:=bG z (bf.1 z (N.1 z B));omega
  have bR:∀(j:D),J ap j->bm H ab s ((k+1:Nat):Int) j/\μ H ab s ((k+1:Nat):Int) j<μ A o v k R:=λj r=>
   aU V _ _ _ _ ⟨a3.N r,⟨_,(ae.re km.aP (Y:=[]) (r.fz []) bO bO λl b=>bz (by simp only[eN,iy,aZ]at b⊢;rcases b with h|h|h;exact bH (bz h);exact bz h;exact bH (bH h))),I.1,I.2.1,V⟩,⟨_,ac.ext r,fu⟩,⟨f,aB.ext r,oh N.2,a9⟩,be⟩
  have dB:=ae.cF;have cQ:∀(j:D),J ap j->bJ dP 228 [vi (15:Int),vi (o.len:Int)] j λrv C=>gT [R.size,p.size,m0.size,m.size] j C/\∃aF:Int,∃aG:Int,∃aH:Int,∃aI:E,∃aJ:E,rv=.agg #[vi aF,vi aG,vi aH,aI.v,aJ.v]/\
   let M2:D:=C.push (.cells (dh [.i aF,.i aG,.i aH,.s aI,.s aJ]) jF)
   mf M2 jF [.i (0:Int),.i (0:Int),.i (0:Int),.s E.nil,.s E.nil] 72 H (E.mk C.size 0 1 1) λbW K=>gT [R.size,p.size,m0.size,m.size] M2 K/\bm bW ab s ((k+1:Nat):Int) K/\μ bW ab s ((k+1:Nat):Int) K<μ A o v k R:=by
   intro j r
   have zx:=r.aQ
   have dv:=ac.cF
   refine(lK (c:=[H.bt,s.bt,ab.bt]++p.size::e) (ao V fu) 15 (o.len:Int)).aP λrv C⟨pa,pk,q,Z,h2,aj⟩=>?_
   subst q
   have d3:=aj.aQ
   have aQ:=r.N aj
   refine⟨aj.fg (u V),_,_,_,_,_,O,?_⟩
   have cv:H.bt≠ab.bt:=ae.Qm ac cH
   have cw:H.bt≠s.bt:=ae.Qm aB cH
   refine GS.nI (x:=iT 15 (o.len:Int)) (ae.ext km.aP aQ) ((a3.N aQ).fz []) Z h2 (Yx I.2.2 (jK (Q++dl.map (iT 14)++[x']++P.map (iT 15)))) λr' K y aN aA aV=>⟨λl b=>?_,aU V _ _ _ _ ⟨aN.ext,⟨_,(y.re km.aP (Y:=[]) (dt.fz []) bO bO λl b=>bz (by simp only[eN,iy,aZ]at b⊢;rcases b with h|h|h;exact bH (bz h);exact bz h;exact bH (bH h))),I.1.Ch (I5 V ?_),?_,?_⟩,⟨_,(ac.ext aQ).me (aV _ V cv.symm),fu⟩,⟨f,(aB.ext aQ).me (aV _ V cw.symm),oh N.2,a9⟩,be⟩⟩
   .have:=u (j:=C) V l b
    rw[aV l this (by simp at b;omega),(J.push C _).bB l this]
   .rw[I.2.1];omega
   .rw[fm,I.2.1];simp[nO,dn,iT,tO]
   .rw[gR,qy,Ai]
    have h5:(iT 15 (o.len:Int)).w=2:=by rw[eQ.pN];rfl
    have:=I.2.2;omega
  refine⟨λ_=>?_,λh0=>⟨λZ=>by rw[h0]at Z;simp at Z,λ_=>bR ap dt⟩⟩;refine(fI (aC (((ch.ext az).me (a1 _ V V)))) _).jS.bL (J.cX ap) (u V) λc aT am _=>⟨_,O,λ_=>?_,λ_=>⟨λ_=>cQ aT am,λ_=>bR aT am⟩⟩;intro dD;have cy:H.bt≠s.bt:=ae.Qm aB cH;have d0:=am.aQ;refine GI.nI (aB.ext am) ((a3.N am).fz []) (oh N.2) λdG dE b8 b7 bl bh=>⟨λl b=>?_,aU V _ _ _ _ ⟨b7.ext,⟨_,(ae.ext km.aP am).re km.aP (Y:=[s.bt]) ⟨bl.1,λl b hn=>bh l b (sp hn)⟩ bO (sp cy) λl b=>?_,I.1,I.2.1,V⟩,⟨_,(ac.ext am).me (bh _ ?_ be),fu⟩,⟨_,b8,?_,?_⟩,?_⟩⟩
  .have:=u (j:=aT) V l b;rw[bh l this (by simp at b;omega),(J.push aT _).bB l this]
  .simp only[eN,iy,aZ]at b⊢;rcases b with h|h|h
   .exact bz (bH (bz h))
   .rcases bl.2 with q|q
    .exact bz (bz (h.trans q))
    .exact bH V
   .exact bz (bH (bH h))
  .have:=ac.cF;omega
  .have:=N.2;simp;omega
  .intro z B;rcases bT.1 B with B|B
   .exact a9 z B
   .simp at B;omega
  .have:=ac.cF;rcases bl.2 with q|q<;>omega
 .have ab:k=bq.length:=V;subst ab;rw[fB]at*;have N:∀(j:D)(H:E)(u:au),J t j->GS (o.bt::v.bt::p.size::e) t j H u->WL W g.length True ak.length u->dc u=dc bq->sw u<=1100*sw bq+2->
   let z:D:=aW j p.size 0 [.s H,.i w]
   ∃s c,Value.agg #[H.v,vi w]=.agg #[s.v,vi c.bP]/\iI (di e z) s c.bq/\(WB W g.length True ak.length c/\c.w+1050<=1100*(Bk.mk bq w).w)/\J m z:=by
   intro j H u r y Z h2 h3 z
   have ac:=jK u
   have:=y.cF
   refine⟨H,.mk u w,O,iI.le (dU bO λl b=>aX _ b) (y.re km.aP (S':=p.size::e) (Y:=[]) nR bO bO (λl b=>bz (aX _ (aX _ b)))|>.cB km.aP ag cH fu),⟨WB.of Z (by rw[h2];exact a_.2),?_⟩,(F.N r).aW V _ _⟩
   rw[Bk.vT,Bk.vT];omega
  have mE:∀(j:D),J R j->bJ dP 228 [vi (14:Int),vi w] j λrv C=>gT [p.size,m0.size,m.size] j C/\∃aF:Int,∃aG:Int,∃aH:Int,∃aI:E,∃aJ:E,rv=.agg #[vi aF,vi aG,vi aH,aI.v,aJ.v]/\
   let M2:D:=C.push (.cells (dh [.i aF,.i aG,.i aH,.s aI,.s aJ]) jF)
   mf M2 jF [.i (0:Int),.i (0:Int),.i (0:Int),.s E.nil,.s E.nil] 72 A (E.mk C.size 0 1 1) λP K=>gT [p.size,m0.size,m.size] M2 K/\
    let z:D:=aW K p.size 0 [.s P,.i w]
    ∃s c,Value.agg #[P.v,vi w]=.agg #[s.v,vi c.bP]/\iI (di e z) s c.bq/\(WB W g.length True ak.length c/\c.w+1050<=1100*(Bk.mk bq w).w)/\J m z:=by
   intro j r
   refine(lK (c:=A.bt::o.bt::v.bt::p.size::e) (λl b=>?_) 14 w).aP λrv C⟨a,kk,q,Z,h2,x1⟩=>?_
   .have:=r.aQ
    simp at b
    rcases b with h|h|h|h|h
    .omega
    .omega
    .omega
    .have:=x6.lt (L p.size bO);omega
    .have:=hS _ h;have:=v6.aQ;omega
   subst q
   have aj:=x6.N (r.N x1)
   refine⟨J.sY (x6.N r) aj L,_,_,_,_,_,O,?_⟩
   refine GS.nI (x:=iT 14 w) (gs.ext km.aP (r.N x1)) (aj.fz []) Z h2 (oh (jK Q)) λr' K y aN aA aV=>⟨J.sY (aj.cz _) aN.ext L,N K r' _ aN.ext y (aP.Ch (I5 V (by rw[aa];exact a_.2))) ?_ ?_⟩
   .rw[fm,aa];simp[nO,dn,iT,tO]
   .rw[gR];simp[qy,eQ.pN,iT];omega
  let⟨aA,hz⟩:=dY li w.toNat;refine⟨V,V,aA,co.br hz,λ_=>?_,λ_=>N R A Q x6 gs aP aa V⟩;refine(fI (bF.ext v6) w).jS.bL x6 L λc m7 I u7=>⟨_,O,λ_=>mE m7 I,λ_=>?_⟩;exact(fI (cq.ext I) w).jS.bL u7 L λc T x8 U=>⟨_,O,λ_=>mE T (I.N x8),λ_=>N T A Q U ((gs.ext km.aP I).ext km.aP x8) aP aa V⟩
end
@[grind cases] structure afF (ds:af) (nr:Nat) (v lm:ab) (b:Bk):Prop where
 bF:∀o∈lm,0<=o/\o<(v.length:Int)
 lN:lm.length+5*b.w<=1000000
 vN:v.length+5*b.w<=1000000
 wb:WB ds nr False v.length b
def ad6(a:af)(d:List jV)(b:Bk):Prop:=∀(S:ad)(m:D),(∀c∈S,c<m.size)->∀(f r h t g:E)(v c:ab),iD m f r a d->bg m h v->iI m t b.bq->bg m g c->afF a d.length v c b->
 rJ 246 [.agg #[f.v,r.v],h.v,.agg #[t.v,vi b.bP],g.v] m S λe=>WB a d.length True v.length e/\e.w+20<=40*b.w+2*c.length
def OQ{h:ad}{m:D}(hS:∀c∈h,c<m.size){ag aj aq aI F:E}{A:af}{X:List jV}{v:ab}{x:eQ}(hn:iD m ag aj A X)(hv:bg m aq v)(ha:bg m aI x.aO)(hk:rW m F x.dA)
 (vN:v.length+5*x.w<=1000000)(aA:WS A X.length False v.length x)(ih:∀k∈x.dA,ad6 A X k):
 Pp 267 [.agg #[ag.v,aj.v],aq.v,tK x aI F] m h λx'=>WS A X.length True v.length x'/\x'.op=x.op/\x'.w<=1+x.aO.length+40*bw x.dA:=by
 apply HK
 simp -zeta only[dT]
 intro w e l aP
 let⟨H,P,s0,s1,s2⟩:=uQ (a:=w) (c:=e) (d:=l) O O O
 have aV:=px aP
 have gk:=GB.bI (e:=e.size::h) l
 have bh:=ha.aT;have a5:=hk.aT;have hw:=eQ.pN x;have a8:=hv.aT
 have aK:∀c∈e.size::h,c<l.size:=by grind [dH,J.aQ]
 refine(kA (e:=[l.size]) (by simp[aP]) (hn.le (H.N aV).le).bR hn.dj x.cG).bL aV P λc cl m4 d aR x4 u4=>⟨_,O,?_⟩
 subst aR
 have bo:=d.aT
 refine gN (a5▸hk.kM) (λj s M=>Fz [l.size] m4 M/\(s.bt=l.size\/m4.size<=s.bt)/\∃p,GB (e.size::h) l M s p/\p.length=j/\(∀(aa:Nat)(k:Bk),p[aa]? =some k->WB A X.length True (v.length+GK A x.op x.cG aa) k)/\bw p<=40*bw (x.dA.take j)) ⟨nR,bz O,[],gk.ext vV.aP x4,O,bO,bO⟩ ?_
 rintro j s m5 aH μ hj ⟨f5,a6,p,u,bp,a9,aL⟩ bb
 have R:=acn u4 f5 bY
 have hy:=u.cF
 refine dit (λB=>?_) λB=>?_
 .intro m6
  have U:=px m6
  have u6:=R.N U
  let⟨k,hb⟩:=dY x.dA j
  have bl:=By hb
  have bn:=zd hb
  have bi:=WH hn.dj x.op x.cG j
  have bk:=xG x.dA
  refine⟨λaJ M=>J m5 M/\∃t,bg M aJ t/\t.length=GK A x.op x.cG j,⟨λh8=>?_,λh8=>?_⟩,?_⟩
  .simp only[bQ]at h8
   have g:=(aA.iU.lZ h8).1
   let⟨y,a⟩:=dY (cY A x.cG) j
   refine⟨V,V,y,(gY.1 ((d.le ((f5.cg U).eX bO)).br a)).2,?_⟩
   refine(fX ((hn.le (H.N u6).le).bR.le ER) hn.dj y).bL u6 P λaJ t m7 hf aR f i=>⟨_,O,U.N f,t,hf.le fJ,?_⟩
   grind [Py]
  .simp only[bd]at h8
   exact⟨U,[],pZ,(Pz h8).symm⟩
  rintro fs m8 ⟨I,t,hf,aN⟩
  have e8:(aq.len:Int)=((v.length:Nat):Int):=by rw[a8]
  rw[e8]
  refine(wz bO (hf.le ER) v.length V).bL (R.N I) P λmi ml y gm qm K T=>⟨_,O,?_⟩
  let⟨aF,hs,e0,e1⟩:=hk.br hb
  have v9:=H.N T
  refine⟨V,V,_,v9.aS e0,_,v9.aS e1,?_⟩
  have g9:=u.ext vV.aP (I.N K)
  have aO:∀{M:D},J y M->bg M mi ml:=λB=>((gm.cB bO (oh qm.2)).le fJ).ext B
  have E5:∀{M f:D},J l M->J l f->∀{aQ:Prop},aQ->aS f F.bt (F.off+Int.toNat (j:Int)*2)=aS M F.bt (F.off+Int.toNat (j:Int)*2)/\aS f F.bt (F.off+Int.toNat (j:Int)*2+1)=aS M F.bt (F.off+Int.toNat (j:Int)*2+1)/\
   aS f w.size 4=aS M w.size 4/\aS f m.size 0=aS M m.size 0/\aS f m.size 1=aS M m.size 1/\aQ:=λ{M f} B h' _ hp=>by
   have av:∀k,k<l.size->∀Q,aS f k Q=aS M k Q:=by grind [bD,J.bB]
   exact⟨((H.N h').aS e0).trans ((H.N B).aS e0).symm,((H.N h').aS e1).trans ((H.N B).aS e1).symm,av _ V _,av _ V _,av _ V _,hp⟩
  have az:∀{M:D},J m5 M->∀c∈s.bt::e.size::h,c<M.size:=λB c d=>by
   grind [J.aQ]
  have N:∀{M:D}{a:Nat},J m5 M->a<M.size->∀c∈[a,e.size,w.size,m.size],c<M.size:=λB hb c d=>by
   grind [J.N,J.lt]
  have tail:∀(M:D)(a:Nat)(G:E)(g:Bk),GB (a::e.size::h) l M s p->J m5 M->J y M->y.size<=a->a<M.size->iI (di (a::s.bt::e.size::h) M) G g.bq->WB A X.length True (v.length+t.length) g/\g.w+20<=40*k.w+2*ml.length->
   let i:=aW M a 0 [.s G,.i g.bP]
   bJ dP 264 [vi 14,mi.v] i λrv n=>gT [a,e.size,w.size,m.size] i n/\∃ac:E,rv=ac.v/\aS n a 1=aS i a 1/\aS n a 0=aS i a 0/\
    mf n jF [.i 0,.i 0,.i 0,.s E.nil,.s E.nil] 72 ac G λap z=>gT [a,e.size,w.size,m.size] n z/\aS z a 1=aS n a 1/\
     let Z:=z.push (.cells (dh [.s ap,.i g.bP]) ft)
     mf Z ft [.s E.nil,.i 0] 32 s (E.mk z.size 0 1 1) λae L=>gT [a,e.size,w.size,m.size] Z L/\aH ae (eV ((j:Int)+1)) L/\μ ae (eV ((j:Int)+1)) L<μ s j m5:=by
   intro M a G g u C a_ a4 bj ai hq i
   have z1:i.size=M.size:=bE _ _ _ _
   have z9:=(I.N K).aQ
   have aY:J y i:=a_.aW a4 _ _
   have W:=(I.N K).N aY
   have bq:s.bt≠a:=V
   have g1:GB (e.size::h) l i s p:=u.re vV.aP (Y:=[a]) ((Fz.cX [a] M).aW (bz bO) _ _) bO cC λc d=>bz (aX _ d)
   have a7:iI (di (s.bt::e.size::h) i) G g.bq:=ai.le (dU bO λc d=>aX _ d)
   have bm:=Bk.pN g;have aL:=jK g.bq
   refine(iP (az W) 14 (aO aY) V).bL (J.cX i) (N W V) λac _ n ay ah al _=>⟨_,O,bD (al.bB _ V) _,bD (al.bB _ V) _,?_⟩
   subst ah
   have z2:=al.aQ
   refine GS.lZ ay (al.fz []) (a7.le (xK al ay.cF.1)) cC λap z a0 aZ bu aT=>?_
   have am:=aZ.ext
   have z3:=am.aQ
   have br:=ay.cF
   refine⟨λc d=>aT c (oh (N W V c d)) (oh (N W V c d)),bD (aT _ V V) _,?_⟩
   intro Z
   have a2:=a0.cB km.aP (az W) cH cC
   refine GB.nI (c:=.mk (ml.map (iT 14)++g.bq) g.bP) (g1.ext vV.aP am) ((((R.N W).N am)).fz []) a2 V λae L a1 bf be bc=>⟨λc d=>?_,bb V _ _ ⟨(f5.cg (W.N am)).Xb a6 be.1 bc,?_,_,a1,fu,λaa b2 q=>?_,?_⟩⟩
   .have:=N (W.N am) V c d
    grind [J.push,J.bB]
   .grind [Fz.cg,J.N,Fz.aQ]
   .rcases eH aa p.length with o|o
    .grind [List.getElem?_append_left]
    .rw[dQ o]at q
     have:aa -p.length=0:=by have:=bC q;simp at this;omega
     rw[this]at q;simp at q;subst q
     have:aa=j:=V
     subst this
     rw[<-aN]
     refine WB.of ((wh V λQ ho=>?_).fE ?_) ?_
     .grind
     .rw[nJ V];exact hq.1.cJ.1
     .rw[fm,nJ V,fD];exact hq.1.cJ.2
   .grind [tr,zc,Et,Bk.vT,gR,uR]
  have aM:∀(M:D)(ax:ad)(aw:ak),J y M->(∀c∈ax,c<M.size)->(∀s f,bg f s (v++t)->J M f->aw s.v f)->bJ dP 215 [aq.v,fs.v] M λv m'=>gT ax M m'/\aw v m':=λM ax aw C N hK=>
   (iH bO ((hv.ext (v9.N C)).le ER) ((hf.ext (K.N C)).le ER) V).bL (J.cX M) N λs ll f u ah x _=>hK s f (by subst ah;exact(u.cB bO cC).le fJ) x
  have bt:∀(M:D)(S':ad)(o:E),(∀c∈S',c<M.size)->J y M->bg M o (v++t)->rJ 246 [.agg #[ag.v,aj.v],o.v,.agg #[aF.v,vi k.bP],mi.v] M S' λg=>WB A X.length True (v.length+t.length) g/\g.w+20<=40*k.w+2*ml.length:=by
   intro M S' o a3 C q;have hm:=v9.N C;have:=ih k (ba hb) S' M a3 ag aj o aF mi (v++t) ml (hn.le hm.le) q (hs.le hm.le) (aO C) ⟨λQ ho=>?_,V,fu,by simp;rw[aN];exact aA.dA j k hb⟩
   .simpa using this
   .grind
  have jX:∀(M:D)(a:Nat)(o:E),GB (a::e.size::h) l M s p->J y M->y.size<=a->a<M.size->bg M o (v++t)->
   bJ dP 246 [.agg #[ag.v,aj.v],o.v,.agg #[aF.v,vi k.bP],mi.v] M λrv f=>gT [a,e.size,w.size,m.size] M f/\∃aD:E,∃aE:Int,rv=.agg #[aD.v,vi aE]/\
    let i:=aW f a 0 [.s aD,.i aE]
    bJ dP 264 [vi 14,mi.v] i λrv n=>gT [a,e.size,w.size,m.size] i n/\∃ac:E,rv=ac.v/\aS n a 1=aS i a 1/\aS n a 0=aS i a 0/\
     mf n jF [.i 0,.i 0,.i 0,.s E.nil,.s E.nil] 72 ac aD λap z=>gT [a,e.size,w.size,m.size] n z/\aS z a 1=aS n a 1/\
      let Z:=z.push (.cells (dh [.s ap,.i aE]) ft)
      mf Z ft [.s E.nil,.i 0] 32 s (E.mk z.size 0 1 1) λae L=>gT [a,e.size,w.size,m.size] Z L/\aH ae (eV ((j:Int)+1)) L/\μ ae (eV ((j:Int)+1)) L<μ s j m5:=by
   intro M a o u C h1 h2 h3
   have x5:=(I.N K).N C
   have z9:=(I.N K).aQ
   refine(bt M (a::s.bt::e.size::h) o (λc d=>?_) C h3).bL (J.cX M) (N x5 h2) λG g f ai hq an _=>⟨_,_,O,tail f a G g (u.ext vV.aP an) (x5.N an) (C.N an) h1 (an.lt h2) ai hq⟩
   grind
  have aC:∀(M:D)(Q:Obj),GB (e.size::h) l M s p->GB (M.size::e.size::h) l (M.push Q) s p:=λM Q u=>
   u.re vV.aP ((J.push M Q).fz []) bO bO λc d=>by
    grind
  refine⟨aM y _ _ dt (λc d=>T.lt (P c d)) λo aB q r=>⟨_,O,E5 T (T.N r) ⟨?_,?_⟩⟩,?_⟩
  .have ao:=T.N r
   have C8:=r.aQ
   refine(bt aB (s.bt::e.size::h) o (az ((I.N K).N r)) r q).bL ao P λG g au ai hq ar aU=>⟨_,_,O,?_⟩
   intro aG
   have bs:=ar.aQ
   exact E5 aU (aU.cz _) (tail aG au.size G g (aC au _ ((g9.ext vV.aP r).ext vV.aP ar)) ((((I.N K).N r).N ar).cz _) ((r.N ar).cz _) V (by simp[aG]) (ai.le (xK (J.push au _) bY)) hq)
  .intro ar
   have ao:=T.N r
   have C8:=r.aQ
   exact E5 ao (ao.cz _) (jX ar aB.size o (aC aB _ (g9.ext vV.aP r)) (r.cz _) V (by simp[ar]) (q.ext (J.push _ _)))
  .intro ao
   have ar:=px ao
   have aG:=T.N ar
   refine E5 T aG (aM ao _ _ ar (N ((I.N K).N ar) (by simp[ao])) λo aU q au=>⟨_,O,E5 aG (aG.N au) ?_⟩)
   exact jX aU y.size o ((aC y _ g9).ext vV.aP au) (ar.N au) bY (au.lt (by simp[ao])) q
 .have f:p.length=x.dA.length:=V
  rw[eY V]at aL
  refine(dF (e.size::h) (ha.ext (H.N R)) V).bL R P λg i m6 a ah U u6=>⟨_,O,bD (U.bB _ (R.lt (P _ bO))) _,bD (U.bB _ (R.lt (P _ bO))) _,?_⟩
  subst ah
  intro m7
  refine⟨g,s,⟨x.op,x.cG,0,x.aO,p⟩,O,(a.cB (λc d=>cr (aK c d) R.aQ) V).le (dU bO λc d=>aX _ d),rW.le (dU bO λc d=>aX _ d) ((u.ext vV.aP U).cB vV.aP aK cH cC),⟨aA.Vj (λB=>B.elim) ⟨V,V⟩ f a9,O,?_⟩,(H.N u6).aW V _ _⟩
  grind [eQ.pN]
@[grind cases] structure LB (ds:af) (nr:Nat) (S:ad) (m2 M:D) (v lm:ab) (bq:au) (k:Nat) (st inn ow:E):Prop where
 x:J m2 M
 hs:∃l,GS (inn.bt::ow.bt::S) m2 M st l/\WL ds nr True v.length l/\dc l=dc (bq.take k)/\sw l+2*k<=40*sw (bq.take k)
 hi:∃l,GI S m2 M inn l/\l.length=v.length+dc (bq.take k)
 ho:∃l,GI S m2 M ow l/\l.length<=lm.length+k/\∀o∈l,0<=o/\o<((v.length+dc (bq.take k):Nat):Int)
 ne:inn.bt≠ow.bt
def MR{B:af}{C:List jV}:∀i:Bk,ad6 B C i:=by
 refine Bk.ind ?_;intro bq u ih f z hS aO bv cc cb b9 F lm hn hv hs bb hp;have bl:=hp.wb.cJ;simp only[Bk.mZ,Bk.lV]at*;have lN:=hp.lN;have vN:=hp.vN;rw[(Bk.vT bq u)]at lN vN;apply FL;simp -zeta only[dT];intro h b g aE;let⟨A,hl,s0,s1,s2⟩:=uQ (a:=h) (c:=b) (d:=g) O O O;obtain⟨ar,s3⟩:=pu aE;have ay:∀aa,GS aa g aE (.mk g.size 0 0 0) []:=by grind [GS.bI]
 have bj:=hs.aT;have bk:=Gu bq;have bS:=jK bq;refine(dF f (hv.ext (A.N ar)) V).bL ar hl λd _ m4 p s x4 u4=>⟨_,O,?_⟩;subst s;refine(dF f (bb.ext (A.N u4)) V).bL u4 hl λe _ m5 y s x5 u5=>⟨_,O,?_⟩;subst s;have aC:=p.cF;have bo:=y.cF;refine Yj (n:=bq.length) (bj▸hs.kM) (λk l d e M=>LB B C.length (b.size::f) g M F lm bq k l d e) ⟨u5,⟨[],((ay _).ext km.aP x4).ext km.aP x5,WL.gF,O,bO⟩,⟨F,((p.ext x5).de (λ_ q=>q) ar.aQ).jS,bO⟩,⟨lm,(y.de (λ_ q=>q) u4.aQ).jS,V,sp hp.bF⟩,V⟩ ?_;clear p y aC bo ay;rintro k l d e r aL μ hk ⟨x6,⟨I,gs,aj,ae,bV⟩,⟨R,p,ah⟩,⟨lo,y,bB,bM⟩,bd⟩ bt
 have W:=A.N x6;have bI:=p.aT cH;have bC:=xI (bq.take k);have bL:=Sg k bq;have ai:∀c∈b.size::f,c<g.size:=by grind [dH,J.aQ]
 have b5:=gs.cF;have aC:=p.cF;have b4:=y.cF;have bU:=jK (bq.take k);have bK:k<=sw (bq.take k):=by grind [List.length_take]
 have bN:=jK I;have z6:=x6.aQ;have ag:∀{M:D},GI (b.size::f) g M d R->bg M d R:=λm=>(m.cB ai V).le fJ;have az:∀{M:D},GI (b.size::f) g M e lo->bg M e lo:=λm=>(m.cB ai V).le fJ;have G:∀{M:D}{aa:ad},r.size<=M.size->(∀c∈aa,c<M.size)->∀c∈aa++b.size::f,c<M.size:=λq hb c a=>by
  grind
 have a6:∀{M:D},J r M->∀c∈[b.size,h.size,z.size],c<M.size:=by grind [J.N,J.lt]
 have be:l.bt≠d.bt:=by grind [Gr.Qm]
 have aB:l.bt≠e.bt:=by grind [Gr.Qm]
 refine dit (λq=>?_) λq=>?_
 .let⟨X,t⟩:=dY bq k;let⟨aN,kk,ha,aA,g0,g1,g2,g3,g4⟩:=hs.br t;refine⟨V,V,_,W.aS g0,_,W.aS g1,_,W.aS g2,_,W.aS g3,_,W.aS g4,?_⟩;intro m7 U;have x8:J r U:=by grind [J.push,J.aW]
  have s8:U.size=r.size+1:=by grind [bE]
  have u8:=x6.N x8;have w:∀{M:D},U.size<=M.size->∀i∈[r.size,b.size,h.size,z.size],i<M.size:=λq i hb=>by
   grind [J.lt]
  have b1:=ux t;have bZ:=vt t;have b0:=eQ.pN X;have Q:WS B C.length False R.length X:=by rw[ah];exact bl.1 k X t
  have bF:=dn1 Q;have bW:=bk (k+1);have P:∀{M:D},J g M->At M aO bv aN kk B C X:=λq=>⟨hn.le (A.N q).le,ha.ext (A.N q),Q.iU.jt⟩;refine(sI (P u8).Xi (ag (p.ext x8)) (P u8).aO (aA.le (A.N u8).le) V λi _=>rq i).bL (J.cX U) (w bY) λty m9 x9 _=>⟨_,O,?_⟩;have X9:=u8.N x9;have z9:=x9.aQ;refine(Dz (b:=[]) bO (P X9) (ag ((p.ext x8).ext x9)) Q.iU.aO V).bL (J.cX m9) (w V) λdu N bp a1 aF ap _=>⟨_,O,?_⟩;have bA:=aF.2;have C8:=ap.aQ;refine(iP (c:=[l.bt,d.bt,e.bt]++b.size::f) (G V fu) 14 ((a1.cB bO V).le fJ) V).bL (J.cX bp) (w V) λb_ _ ak aU s aq _=>⟨_,O,?_⟩;subst s;have cd:=aq.aQ;have av:J r ak:=(((x8.N x9).N ap).N aq);refine GS.lZ (gs.ext km.aP av) (((X9.N ap).N aq).fz []) (aU.cB km.aP (G (aa:=[l.bt,d.bt,e.bt]) V fu) cH cC) cC λan aD aw aP aI al=>⟨λc a=>al c (w V c a) ?_,?_⟩
  .simp at a;omega
  have ac:J g aD:=aP.ext;have ax:=(p.ext av).me (al _ V be.symm);have a3:=(y.ext av).me (al _ V aB.symm);have bQ:an.bt=l.bt\/ak.size<=an.bt:=aI.2;have b2:=aw.cF;have ce:=aI.1;refine(OQ (h:=[an.bt,d.bt,e.bt]++b.size::f) (G V fu) (P ac).Xi (ag ax) (P ac).aO (aA.le (A.N ac).le) V Q (ih X (ba t))).bL (J.cX aD) (w V) λca ck L b6 a8 a9 bu Z _=>⟨_,_,_,_,_,O,?_⟩;let⟨bm,bP,bX⟩:=bu;have cf:=Z.aQ;refine GS.nI (x:=L) (aw.ext km.aP Z) ((ac.N Z).fz []) a8 a9 fu λv br aV aQ aJ aG=>⟨λc a=>?_,?_⟩
  .grind [J.push,J.bB]
  have aM:J g br:=aQ.ext;have cg:=aJ.1;have a2:=(ax.ext Z).me (aG _ V V);have a4:=(a3.ext Z).me (aG _ V V);have bR:v.bt=l.bt\/ak.size<=v.bt:=by have:=aJ.2;omega
  have B1:WL B C.length True F.length (I++N.map (iT 14)++[L])/\dc (I++N.map (iT 14)++[L])=dc (bq.take (k+1))/\sw (I++N.map (iT 14)++[L])+2*(k+1)<=40*sw (bq.take (k+1)):=by
   have bH:dn L=1:=by grind [dn]
   have d1:dc (N.map (iT 14))=0:=by grind [nJ]
   refine⟨((aj.fE (wh V λo j=>?_)).Ch ?_),?_,?_⟩
   .rw[ae,<-ah];exact Q.iU.aO o (aF.1 o j)
   .rw[fm,d1,ae,uJ,<-ah];exact bm
   .grind [fm,nO,xJ]
   .grind [gR,uR,qy,Ai]
  have a_:∀o∈lo,0<=o/\o<((F.length+dc (bq.take (k+1)):Nat):Int):=λo j=>by
   grind
  have a5:∀(M:D)(K:E)(T:ab),J g M->U.size<=M.size->GS (d.bt::K.bt::b.size::f) g M v (I++N.map (iT 14)++[L])->GI (b.size::f) g M d R->GI (b.size::f) g M K T->d.bt≠K.bt->T.length<=lm.length+(k+1)->(∀o∈T,0<=o/\o<((F.length+dc (bq.take (k+1)):Nat):Int))->
   mf (M.push (.cells (dh [.i ty]) bG)) bG [.i (0:Int)] 8 d (E.mk M.size 0 1 1) λao M'=>gT [r.size,b.size,h.size,z.size] (M.push (.cells (dh [.i ty]) bG)) M'/\aL v ao K (eV ((k:Int)+(1:Int))) M'/\μ v ao K (eV ((k:Int)+(1:Int))) M'<μ l d e k r:=by
   intro M K T t H m gI gO bc a7 bi
   have b3:=gI.cF;have bn:=gO.cF
   have bh:v.bt≠d.bt:=by grind [Gr.Qm]
   refine GI.nI gI (t.fz []) V λao M' a0 aT bx am=>⟨λc a=>?_,bt V _ _ _ _ ⟨aT.ext,⟨_,m.re km.aP (Y:=[d.bt]) ⟨bx.1,λc a hn=>am c a cC⟩ bO (sp bh) (λc a=>?_),B1.1,B1.2.1,B1.2.2⟩,⟨_,a0,fu⟩,⟨T,gO.me (am _ bn.2 bc.symm),a7,bi⟩,?_⟩⟩
   .have:=w H c a
    rw[am c this (by simp at a;omega),(J.push M _).bB c this]
   .grind
   .grind
  refine⟨λ_=>?_,λ_=>?_⟩
  .intro b7;have bf:v.bt≠e.bt:=by grind [Gr.Qm]
   refine GI.nI a4 (aM.fz []) V λbw bs aY aR aK aH=>⟨λc a=>?_,?_⟩
   .grind [J.push,J.bB]
   intro b8;have ch:=aK.1;refine a5 bs bw _ aR.ext V (aV.re km.aP (Y:=[e.bt]) ⟨aK.1,λc a hn=>aH c a cC⟩ bO (sp bf) λc a=>?_) (a2.me (aH _ V bd)) aY ?_ fu ?_
   .simp only[aZ]at a⊢;grind
   .grind
   .intro o j;rcases bT.1 j with j|j
    .exact a_ o j
    .simp at j;omega
  grind
 .have am:k=bq.length:=V;subst am;rw[fB]at*;have ac:∀(M:D)(N:E)(K:au),J g M->r.size<=M.size->GS (d.bt::e.bt::b.size::f) g M N K->bg M e lo->WL B C.length True F.length K->dc K=dc bq->sw K+2*bq.length<=40*sw bq+2->
   bJ dP 264 [vi (15:Int),e.v] M λrv w=>gT [b.size,h.size,z.size] M w/\∃X:E,rv=X.v/\aS w h.size 1=aS M h.size 1/\
    mf w jF [.i (0:Int),.i (0:Int),.i (0:Int),.s E.nil,.s E.nil] 72 N X λT P=>gT [b.size,h.size,z.size] w P/\aS P h.size 1=aS w h.size 1/\
     let L:D:=aW P b.size 0 [.s T,.i u]
     ∃ak i,Value.agg #[T.v,vi u]=.agg #[ak.v,vi i.bP]/\iI (di f L) ak i.bq/\(WB B C.length True F.length i/\i.w+20<=40*(Bk.mk bq u).w+2*lm.length)/\J z L:=by
   intro M N K t H m j aq av ax
   have hy:=m.cF
   have aw:=jK K
   have ap:h.size<M.size:=by grind [J.lt]
   refine(iP (c:=[N.bt,d.bt,e.bt]++b.size::f) (G H cC) 15 j V).bL t hl λX _ w al s v u1=>⟨_,O,bD (v.bB _ ap) _,?_⟩
   subst s
   have z1:=v.aQ
   have an:∀c∈[b.size,h.size,z.size],c<w.size:=by grind [J.lt]
   have ao:∀c∈[b.size,h.size,z.size],c<g.size:=hl
   refine GS.lZ (m.ext km.aP v) (u1.fz []) (al.cB km.aP (G (aa:=[N.bt,d.bt,e.bt]) H fu) cH cC) cC λT P g2 U Z Q=>⟨λc a=>Q c (an c a) (oh (ao c a)),bD (Q _ V V) _,?_⟩
   intro L
   refine⟨T,.mk _ u,O,iI.le (dU bO λc a=>aX _ a) ((g2.re km.aP (S':=b.size::f) (Y:=[]) nR bO bO (λc a=>bz (aX _ (aX _ a)))).cB km.aP ai cH fu),⟨WB.of (aq.fE (wh V λo j=>?_)) ?_,?_⟩,(A.N U.ext).aW V _ _⟩
   .grind
   .grind [fm,nJ]
   .grind [Bk.vT,gR,uR]
  let⟨Z,H⟩:=dY R u.toNat;refine⟨V,V,Z,(ag p).br H,λ_=>?_,λ_=>ac r l I x6 bY gs (az y) aj ae V⟩;refine(lK (c:=[l.bt,d.bt,e.bt]++b.size::f) (G bY cC) 14 u).aP λrv w⟨pa,pk,s,h1,h2,v⟩=>?_;subst s;refine⟨v.fg (a6 dt),_,_,_,_,_,O,?_⟩;have z1:=v.aQ;refine GS.nI (x:=iT 14 u) (gs.ext km.aP v) ((x6.N v).fz []) h1 h2 V λr' L m U Z Q=>⟨λc a=>?_,ac L r' _ U.ext V m (az ((y.ext v).me (Q _ V aB.symm))) (aj.Ch (I5 V cC)) ?_ ?_⟩
  .grind [J.push,J.bB]
  .rw[fm,ae];simp[nO,dn,iT,tO]
  .rw[gR,qy,Ai];have h5:(iT 14 u).w=2:=by rw[eQ.pN];rfl
   omega
section
variable{b:ad}{f d j:D}{p t l:E}{q:jV}{s:Int}{g h k:Nat}
theorem nD.aP:qF 1 nD:=⟨λh=>nD.le h _ _,λ⟨_,h,_⟩=>by rw[h];rfl⟩
theorem jO.aP:qF 3 jO:=⟨λh=>jO.le h _ _,λ⟨_,h,_⟩=>by rw[h];rfl⟩
def jz(v:∀c∈b,c<f.size){bR:E}{i:af}(hd:dw f bR i)(w:eT i):bJ dP 188 [bR.v] f λU B=>∃s,U=s.v/\dw (di b B) s i/\J f B:=by
 apply Ft;intro N;have ac:=hd.aT;have ab:=w.aT;have u:Gr b f N kN 3 jO (.mk f.size 0 0 0) []:=Gr.bI b bY;refine gN (n:=i.length) V (λq s M=>J f M/\Gr b f M kN 3 jO s (i.take q)) ⟨J.push _ _,u⟩ ?_;rintro q s d Y μ hk ⟨r,m⟩ S
 have hy:=m.cF;refine dit (λl=>?_) λl=>?_
 .let⟨g,o⟩:=dY i q;let⟨z,A,u,g1,g2⟩:=hd.br o;have ad:=A.aT;have aa:=mU w o;intro P;have k:Gr (s.bt::b) d P ns 1 nD (.mk d.size 0 0 0) []:=Gr.bI _ bY;refine gN (n:=g.dV.length) V (λy c M=>J d M/\Gr (s.bt::b) d M ns 1 nD c (g.dV.take y)) ⟨J.push _ _,k⟩ ?_;rintro y c C Z μ2 hj ⟨t,k⟩ R;have e:=r.N t;refine⟨V,V,z,e.aS g2,dit (λL=>?_) λL=>?_⟩
  .let⟨F,x⟩:=dY g.dV y;let⟨W,M,I⟩:=A.br x;have ae:F.length<=3:=(((w.eR q g o).iY V).2.2.2 F (ba x)).1;refine⟨V,V,z,e.aS g2,V,V,W,e.aS I,?_⟩;have ag:=k.cF;refine(dF (c.bt::s.bt::b) (M.ext e) V).cg λX _ j K h D=>⟨_,O,?_⟩;subst h;intro Q;refine Gr.nI (h:=[.s .nil]) nD.aP cH (k.ext nD.aP D) ((t.N D).fz []) ⟨X,O,K.cB (λh p=>?_) V⟩ fu λT m7 H G _ _=>R V _ _ ⟨G.ext,by rw[bW x];exact H⟩;have:=t.aQ;simp only[aZ]at p;rcases p with l|l|l
   .omega
   .omega
   .have:=v h l;have:=r.aQ;omega
  .refine⟨V,V,_,e.aS u,V,V,_,e.aS g1,?_⟩;intro j;rw[eY V]at k;have D:fY (di (s.bt::b) C) 1 (nD (di (s.bt::b) C)) c g.dV:=k.cB nD.aP (λh p=>by
    rcases aZ.1 p with x|x
    .omega
    .have:=v h x;have:=r.aQ;omega) cH V
   refine Gr.nI (h:=[.i 0,.i 0,.s .nil]) (m:=g) jO.aP cH (m.ext jO.aP t) (e.fz []) ⟨c,O,D⟩ fu λT Q x p _ _=>S V _ _ ⟨p.ext,by rw[bW o];exact x⟩
 .rw[eY V]at m;exact⟨s,O,m.cB jO.aP v cH V,r⟩
def C4(I:∀g∈b,g<f.size){B:E}{b1:Int}(K:bg f p q.aY)(L:bg f t q.cW)(u:q.aY.length<=100/\q.cW.length<=100):
 bJ dP 230 [.agg #[p.v,t.v,vi q.bP,B.v,vi s],.agg #[l.v,vi b1]] f λQ x=>∃k m,Q=.agg #[k.v,m.v,vi q.bP,l.v,vi b1]/\bg (di b x) k q.aY/\bg (di b x) m q.cW/\J f x:=by
 apply Ig
 simp -zeta only[dT]
 intro N i d
 let⟨r,w,T,U,W⟩:=uQ (a:=N) (c:=i) (d:=d) O O O
 clear_value d
 have z:∀g∈i.size::b,g<d.size:=dH I r.aQ (w _ bO)
 have c:∀{M y:D},J d M->J d y->∀e,e<d.size->∀o,aS y e o=aS M e o:=λG H e u o=>bD (by rw[H.bB e u,G.bB e u]) o
 refine(dF (i.size::b) (K.ext r) V).bL (J.cX d) w λk _ S C h a _=>⟨_,O,c dt a _ V _,c dt a _ V _,c dt a _ V _,c dt a _ V _,?_⟩
 subst h
 refine(dF (i.size::b) (L.ext (r.N a)) V).bL a w λm _ P F h R n=>⟨_,O,c a n _ V _,c a n _ V _,c a n _ V _,?_⟩
 subst h
 intro j
 have A:Le (di (i.size::b) P) (di b j):=dU bO λg v=>aX _ v
 exact⟨k,m,O,((C.cB z V).le R.eX).le A,(F.cB (λg v=>a.lt (z g v)) V).le A,(r.N n).aW V _ _⟩
abbrev GR(b:ad)(a f:D)(s:E)(l:List jV):Prop:=Gr b a f mP 5 lz s l
def AK{L:ad}{m M:D}{v f:E}{x:List jV}{r:Bk}{N:E}{K:D->Prop}(W:∀c∈b,c<m.size)(w:∀c∈L,c<M.size/\c≠g/\c≠f.bt)(hx:J m M)(y:GR (g::b) m M f x)
 (z:dJ M g qX [.s v,.s f])(Z:m.size<=g)(hp:bg M p q.aY)(ht:bg M t q.cW)(aa:iI (di (f.bt::g::b) M) l r.bq)(X:q.aY.length<=100/\q.cW.length<=100)(hl:x.length<=100)
 (U:∀u d,GR (g::b) m d u (x++[⟨q.aY,q.cW,q.bP,r⟩])->dJ d g qX [.s v,.s u]->J m d->K d):
 bJ dP 230 [.agg #[p.v,t.v,vi q.bP,N.v,vi s],.agg #[l.v,vi r.bP]] M λH k=>gT L M k/\∃A:E,∃B:E,∃C:Int,∃F:E,∃G:Int,H=.agg #[A.v,B.v,vi C,F.v,vi G]/\aS k g 1=aS M g 1/\
  let n:D:=k.push (.cells (dh [.s A,.s B,.i C,.s F,.i G]) mP)
  aS n g 1=aS k g 1/\
  mf n mP [.s E.nil,.s E.nil,.i (0:Int),.s E.nil,.i (0:Int)] 88 f (E.mk k.size 0 1 1) λab o=>gT L n o/\gK o g 1 1/\
   let d:D:=aW o g 1 [.s ab]
   gT L o d/\K d:=by
 have hy:=y.cF
 have Y:=z.lt
 refine(C4 (b:=f.bt::g::b) (λc e=>?_) hp ht X).aP λH k⟨p',t',h,R,T,j⟩=>?_
 .simp only[aZ]at e
  rcases e with h|h|h
  .omega
  .omega
  .have:=W c h;omega
 subst h
 refine⟨j.fg λc e=>(w c e).1,_,_,_,_,_,O,bD (j.bB _ Y) _,?_⟩
 intro n
 refine Gr.bU (h:=[.s .nil,.s .nil,.i 0,.s .nil,.i 0]) (j:=1) (o:=[.s v,.s f]) (v:=⟨q.aY,q.cW,q.bP,r⟩) lz.aP cH (y.ext lz.aP j) ((hx.N j).fz []) ⟨p',t',l,O,R,T,aa.le j.eX⟩ V (z.ext j) bO cH ⟨Z,bO⟩ (λc e=>⟨j.lt (w c e).1,(w c e).2⟩) λu m' Q I P z' q'=>U u m' Q I P.ext
def ov{β:Type}{a c:D}{g:E}{i:Nat}{f:D->ae->β->Prop}(s:qF i f)(p:a=d.push (.cells (dh []) h))(q:c=a.push (.cells (dh [.s E.nil,.s E.nil]) k))(l:j=aW c a.size 0 [.s g,.s (E.mk d.size 0 0 0)]):
 J d j/\dJ j a.size k [.s g,.s (E.mk d.size 0 0 0)]/\Gr b d j h i f (.mk d.size 0 0 0) []/\a.size=d.size+1/\j.size=d.size+2:=by
 subst p
 have n:J (d.push (.cells (dh []) h)) j:=by grind [J.push,J.aW]
 refine⟨(J.push d _).N n,?_,(Gr.bI b bY (b:=h) (c:=i) (R:=f)).ext s n,bO,by subst q l;simp[bE]⟩
 have t:dJ c (d.push (.cells (dh []) h)).size k [.s E.nil,.s E.nil]:=by grind [dJ.push]
 rw[l]
 exact dJ.aW (m:=c) (o:=0) (r:=[.s g,.s (.mk d.size 0 0 0)]) t
def nV{β:Type}{m b1 q:Nat}{o:D->ae->β->Prop}{e z:E}{F:af}(G:qF m o)(hz:0<m)(Y:k≠h)(hS:∀v∈b,v<f.size)(S:f.size<=b1/\b1<d.size)(Z:J f d)(ad:g=d.size+1)
 (T:dw (di (b1::b) d) e F)(hn:z.len=q)(ag:q<=1000)(aa:J d j)(P:dJ j g k [.s e,.s (E.mk d.size 0 0 0)])(W:Gr (g::b1::b) d j h m o (.mk d.size 0 0 0) [])(w:Nat->β->Prop)
 {A:(Int->D->Prop)->(Int->D->Nat)->Int->D->Prop}{R:E->E->D->Prop}
 (Q:∀C H l p,dw (di b p) C F->fY (di b p) m (o (di b p)) H l->l.length=q->(∀(i:Nat)(x:β),l[i]? =some x->w i x)->J f p->R C H p)
 (N:∀(c:Nat)(M:D)(s:E)(l:List β)(I:Int->D->Prop)(μ:Int->D->Nat),c<q->l.length=c->J d M->Gr (g::b1::b) d M h m o s l->dJ M g k [.s e,.s s]->
  (∀t a x,Gr (g::b1::b) d a h m o t (l++[x])->dJ a g k [.s e,.s t]->J d a->w c x->I (eV ((c:Int)+1)) a/\μ (eV ((c:Int)+1)) a<μ c M)->A I μ c M):
 ∃(u:Int->D->Prop)(μ0:Int->D->Nat),u (0:Int) j/\(∀(i:Int)(M:D),u i M->
  ((decide (i<(z.len:Int)))=true->A u μ0 i M)/\
  ((decide (i<(z.len:Int)))=false->∃r:E,aS M g 0=some r.v/\∃y:E,aS M g 1=some y.v/\
   let a:D:=aW M b1 0 [.s r,.s y]
   R r y a)):=by
 refine iC (n:=q) V (λc M=>J d M/\∃s l,Gr (g::b1::b) d M h m o s l/\dJ M g k [.s e,.s s]/\l.length=c/\∀(i:Nat)(x:β),l[i]? =some x->w i x) ⟨aa,_,[],W,P,O,bO⟩ ?_
 rintro c M I μ hk ⟨x,s,l,r,B,X,U⟩ ab
 refine dit (λL=>?_) λL=>?_
 .refine N c M s l I μ V X x r B λt a ac K y x' hy=>ab V _ ⟨x',t,_,K,y,fu,λi ah hi=>?_⟩
  grind [Nat.lt_or_ge,List.length,List.getElem?_append_left,List.getElem?_append_right,bC]
 .refine⟨e,B.dg 0,s,B.dg 1,?_⟩
  intro a
  have hy:=r.cF
  have ah:=r.ne B Y
  have y:Le (di (g::b1::b) M) (di b a):=dU bO λv t=>aX _ (aX _ t)
  refine Q e s l a (T.le ((x.di λv t=>?_).N y)) (fY.le (r.sa G (λt=>?_) hz V) y λK ac=>G.le y) V U ((Z.N x).aW S.1 _ _)
  .grind
  grind [J.aQ]
@[grind cases] structure Da (ds:af) (rs:List jV) (c:Prop) (W:Nat):Prop where
 iY:0<rs.length
 eR:∀q∈rs,q.aY.length<=3/\q.cW.length<=3/\WB ds rs.length c q.aY.length q.eZ/\q.eZ.w<=W
def zI(h:Nat)(e:ap)(f:D)(b:ad)(g:af)(Q:List jV->Prop):Prop:=bJ dP h e f λv a=>∃d r c,v=.agg #[d.v,r.v]/\iD (di b a) d r g c/\Q c/\J f a
def Mw{d:af}{a b:List jV}{c:Prop}{W:Nat}(e:0<a.length)(f:b.length=a.length)(h:∀(i:Nat)(q:jV),b[i]? =some q->q.aY.length<=3/\q.cW.length<=3/\WB d a.length c q.aY.length q.eZ/\q.eZ.w<=W):Da d b c W:=
 by constructor<;>grind [List.mem_iff_getElem?]
def Nd(N:∀c∈b,c<f.size){C:E}{c cW:ab}{I:Int}(z:bg f p c)(G:bg f t cW)(P:c.length<=100):
 oC 247 [.agg #[p.v,t.v,vi I,C.v,vi s]] f b λl=>(∀o∈l,0<=o/\o<(c.length:Int))/\l.length<=c.length:=by
 apply Ga
 simp -zeta only[dT]
 intro a d
 have A:=px a
 have y:∀w∈[f.size],w<a.size:=by simp[a]
 have D:GI b a d (.mk a.size 0 0 0) []:=GI.gF b a
 have K:=px d
 clear_value d
 clear_value a
 have S:=z.aT
 refine gN (n:=c.length) V (λk q M=>J a M/\∃l,GI b a M q l/\(∀o∈l,0<=o/\o<(c.length:Int))/\l.length<=k) ⟨K,[],D,bO,bY⟩ ?_
 rintro k q T M μ R ⟨v,l,g,i,Q⟩ m
 have r:=A.N v
 refine⟨λh=>?_,λh=>⟨q,l,O,g.de (λ_ h=>h) A.aQ,⟨i,by simp at h;omega⟩,r⟩⟩
 simp only[bh]at h
 let⟨L,H⟩:=dY c k
 refine⟨V,V,L,(z.ext r).br H,λ_=>?_,λ_=>m V _ _ ⟨v,l,g,i,V⟩⟩
 refine(fI (G.ext r) k).jS.bL v y λw U B u=>⟨_,O,λ_=>?_,λ_=>m V _ _ ⟨u,l,g.ext B,i,V⟩⟩
 intro j
 refine GI.nI (g.ext B) (u.fz []) V λX W F x _ _=>⟨J.sY (u.cz _) x.ext y,m V _ _ ⟨x.ext,_,F,λo e=>?_,fu⟩⟩
 rcases bT.1 e with e|e
 .exact i o e
 .simp at e;omega
end
section
variable{a:ad}{m:D}{d r:E}{b:List jV}
def MO(hS:∀c∈a,c<m.size){Z ai s:E}{N:af}{q:jV}(hn:iD m d r N b)(T:bg m Z q.aY)(ht:bg m ai q.cW)(hs:iI m s q.eZ.bq)(aB:q.aY.length<=3)(ao:WB N b.length False q.aY.length q.eZ)(hw:q.eZ.w<=95):
 rJ 245 [.agg #[E.v d,E.v r],.agg #[E.v Z,E.v ai,vi q.bP,E.v s,vi q.eZ.bP]] m a λj=>WB N b.length True q.aY.length j/\j.w<=1100*q.eZ.w:=by
 apply Fv
 simp -zeta only[kU,nQ]
 intro m0 H W
 let⟨t,g,s0,s1,s2⟩:=uQ (a:=m0) (c:=H) (d:=W) O O O
 have aC:=T.aT
 have R:∀c∈H.size::a,c<W.size:=dH hS t.aQ (g _ bO)
 refine(IH (b:=[]) bO (hs.le t.le) V).bL (J.cX W) g λus ul f hu aD L _=>⟨_,O,?_⟩
 have an:bg f us ul:=hu.le fJ
 intro C X
 have aw:J f X:=(J.push f _).N (J.push C _)
 have s4:=pz C
 have h:GI a f X (.mk f.size 0 0 0) []:=(GI.gF a f).ext (J.push C _)
 have gd:GI a f X (.mk C.size 0 0 0) []:=(GI.gF a C).de (λ_ Q=>Q) V
 have z3:=L.aQ
 have al:∀c∈a,c<f.size:=λc e=>by have:=hS c e;have:=t.aQ;omega
 refine BC (j:=q.aY.length) V (λk K sd M=>J f M/\∃i p,GI a f M K i/\GI a f M sd p/\K.bt≠sd.bt/\(∀o∈i,0<=o/\o<(q.aY.length:Int))/\(∀o∈p,0<=o/\o<(q.aY.length:Int))/\i.length<=k/\p.length<=k) ⟨aw,[],[],h,gd,fu,bO,bO,bY,bY⟩ ?_
 rintro k K sd m6 ax μ hk ⟨u,i,p,h,gd,G,A,z,cm,cd⟩ I
 have F:=L.N u
 have v6:=t.N F
 refine dit (λQ=>?_) λQ=>?_
 .let⟨ac,U⟩:=dY q.aY k
  have sn:∀{l:ab},(∀o∈l,0<=o/\o<(q.aY.length:Int))->∀o∈l++[(k:Int)],0<=o/\o<(q.aY.length:Int):=λg o B=>by
   rcases bT.1 B with B|B
   .exact g o B
   .simp at B;omega
  refine⟨V,V,ac,(T.ext v6).br U,λ_=>?_,λ_=>I V _ _ _ ⟨u,i,p,h,gd,G,A,z,V,V⟩⟩
  refine(fI (ht.ext v6) k).jS.bL F g λaa m7 v u7=>⟨_,O,λ_=>?_,λ_=>I V _ _ _ ⟨u.N v,i,p,h.ext v,gd.ext v,G,A,z,V,V⟩⟩
  refine(fI (an.ext (u.N v)) k).jS.bL u7 g λaa m8 x8 u8=>⟨_,O,λ_=>?_,λ_=>?_⟩
  .have x:=v.N x8
   intro m9
   exact GI.YY (h.ext x) (gd.ext x) G ((u.N x).fz []) V λr m' y P Y w=>⟨J.sY ((F.N x).cz _) (L.N w.ext) g,I V _ _ _ ⟨w.ext,_,_,y,P,Y,sn A,z,fu,V⟩⟩
  .have x:=v.N x8
   intro m9
   exact GI.YY (gd.ext x) (h.ext x) G.symm ((u.N x).fz []) V λr m' y P Y w=>⟨J.sY ((F.N x).cz _) (L.N w.ext) g,I V _ _ _ ⟨w.ext,_,_,P,y,Y.symm,A,sn z,V,fu⟩⟩
 intro B
 have ac:=px B
 have Y:=F.N ac
 have aa:=t.N Y
 have e0:bg B (.mk m6.size 0 0 0) []:=pZ
 have ag:∀{M:D}{s:E}{l:ab},GI a f M s l->l.length<=3->bg M s l:=λy g=>(y.cB al V).le fJ
 have aA:=q.eZ.Oj
 refine(Lh q.eZ (H.size::a) B (λc e=>Y.lt (R c e)) d r Z s K _ q.aY i [] (hn.le aa.le) (T.ext aa) (hs.le aa.le) ((ag h V).ext ac) e0 ⟨A,V,fu,V,ao⟩).bL Y g λss j ap am hq au ar=>⟨_,_,O,?_⟩
 intro aE P
 obtain⟨ad,aJ⟩:=pv P
 have w:=ar.N ad
 have x:∀c∈[ap.size,H.size,m0.size,m.size],c<P.size:=λc e=>by
  rcases aZ.1 e with v|v
  .omega
  .exact w.lt (g c v)
 have az:=Bk.pN j;have ay:=jK j.bq
 refine(iP (λc e=>w.lt (R c e)) 15 ((ag gd V).ext ((ac.N au).N ad)) V).bL (J.cX P) x λaI _ aF ae v o _=>⟨_,O,bD (o.bB _ V) _,bD (o.bB _ V) _,?_⟩
 subst v
 have aK:=o.aQ
 have U:=ae.cF
 refine GS.lZ ae (o.fz []) ((am.le ad.eX).le (xK o U.1)) fu λaq aG ak aj aL ah=>⟨λc e=>ah c (o.lt (x c e)) (oh (x c e)),bD (ah _ V V) _,?_⟩
 intro aH
 have av:=(t.N w).N aj.ext
 refine⟨aq,.mk _ j.bP,O,iI.le (dU bO λc e=>aX _ e) (ak.cB km.aP (λc e=>w.lt (R c e)) cH fu),⟨WB.of ((wh V z).fE ?_) ?_,?_⟩,av.aW V _ _⟩
 .rw[nJ V];exact hq.1.cJ.1
 .rw[fm,nJ V,fD];exact hq.1.cJ.2
 .rw[Bk.vT,gR,uR];omega
def QU(z:∀c∈a,c<m.size){g:af}(h:iD m d r g b)(Q:Da g b False 95):zI 223 [.agg #[d.v,r.v]] m a g λp=>Da g p True 104500:=by
 apply JE;simp -zeta only[dT];intro e a2;let⟨s,A⟩:=fV (a:=e) (c:=a2) O O;have s1:=pz e;have ai:=h.lJ.aT;have ar:=h.pP;refine(jz (b:=e.size::a) (dH z s.aQ (A _ bO)) (h.le s.le).bR h.dj).aP λ_ C⟨dd,aa,ae,E⟩=>?_;subst aa;refine⟨E.fg A,_,O,?_⟩;intro D am an;have Z:=s.N E;let⟨x5,B0,g0,s3,s5⟩:=ov (b:=D.size::e.size::a) lz.aP (d:=C) (a:=D) (c:=am) (j:=an) O O O;have n:∀c∈[e.size,m.size],c<C.size:=by grind [J.lt]
 have ad:∀c∈e.size::a,c<C.size:=λc l=>E.lt (dH z s.aQ (A _ bO) c l);refine nV (R:=λf i M=>∃d r p,Value.agg #[f.v,i.v]=.agg #[d.v,r.v]/\iD (di a M) d r g p/\Da g p True 104500/\J m M) lz.aP cH cH z ⟨V,n _ bO⟩ Z s3 ae ai V x5 B0 g0 (λ_ q=>q.aY.length<=3/\q.cW.length<=3/\WB g b.length True q.aY.length q.eZ/\q.eZ.w<=104500) (λf o W t L N i j k=>⟨f,o,W,O,⟨L,N,h.dj,V⟩,Mw Q.iY i j,k⟩) λal M X W ap μ ag aq F K B ao=>?_
 let⟨q,U⟩:=dY b al ag;let⟨T,ah,ak,hw⟩:=Q.eR q (ba U);have i:=Z.N F;let⟨au,av,f,H,I,c3,t,u,w,x,y⟩:=h.lJ.br U;have G:∀{v:Value}{f o:Nat},aS m f o=some v->aS M f o=some v:=λab=>i.aS ab;refine⟨X,B.dg 1,V,V,_,G t,_,G u,_,G w,_,G x,_,G y,V,V,_,G t,_,G u,_,G w,_,G x,_,G y,?_⟩;have hy:=K.cF;have ac:=B.lt;refine(MO (a:=X.bt::D.size::e.size::a) (λc l=>?_) (h.le i.le) (H.ext i) (I.ext i) (c3.le i.le) T ak hw).bL F n λss b' M1 aj P j Y=>⟨_,_,O,?_⟩
 .grind
 have k:∀{v:Value}{f o:Nat},aS m f o=some v->aS M1 f o=aS M f o:=by grind [J.aS]
 refine⟨k t,k u,k w,k x,k y,bD (j.bB _ (F.lt (n _ bO))) _,bD (j.bB _ ac) _,?_⟩;exact AK ad (λc l=>by have L:=n c l;have N:=Y.aQ;omega) Y (K.ext lz.aP j) (B.ext j) V (H.ext (i.N j)) (I.ext (i.N j)) aj ⟨V,V⟩ V λs' N g' L x'=>ao s' N _ g' L x' ⟨T,ah,P.1,by have:=P.2;simp only;omega⟩
def VF(z:∀e∈a,e<m.size){l:af}(o:iD m d r l b)(Y:Da l b False 95):zI 224 [.agg #[d.v,r.v]] m a l λu=>Da l u True 104500:=by
 apply OR;simp -zeta only[dT];intro h a2;let⟨w,A⟩:=fV (a:=h) (c:=a2) O O;have s1:=pz h;have aj:=o.lJ.aT;have aw:=o.pP;refine(jz (b:=h.size::a) (dH z w.aQ (A _ bO)) (o.le w.le).bR o.dj).aP λ_ F⟨dd,n,ae,K⟩=>?_;subst n;refine⟨K.fg A,_,O,?_⟩;intro t an ao;have u2:=w.N K;let⟨x5,B0,g0,s3,s5⟩:=ov (b:=t.size::h.size::a) lz.aP (d:=F) (a:=t) (c:=an) (j:=ao) O O O;have Z:∀e∈[h.size,m.size],e<F.size:=by grind [J.lt]
 have ad:∀e∈h.size::a,e<F.size:=λe j=>K.lt (dH z w.aQ (A _ bO) e j);refine nV (R:=λc f M=>∃d r u,Value.agg #[c.v,f.v]=.agg #[d.v,r.v]/\iD (di a M) d r l u/\Da l u True 104500/\J m M) lz.aP cH cH z ⟨V,Z _ bO⟩ u2 s3 ae aj V x5 B0 g0 (λ_ q=>q.aY.length<=3/\q.cW.length<=3/\WB l b.length True q.aY.length q.eZ/\q.eZ.w<=104500) (λc k aa p W s f g i=>⟨c,k,aa,O,⟨W,s,o.dj,V⟩,Mw Y.iY f g,i⟩) λam M st aa ar μ ag av N U B ap=>?_
 let⟨q,hq⟩:=dY b am ag;let⟨ai,ah,al,hw⟩:=Y.eR q (ba hq);have v:=u2.N N;let⟨aq,ay,i,y,T,c3,e0,e1,e2,e3,e4⟩:=o.lJ.br hq;have G:∀{ab:Value}{i p:Nat},aS m i p=some ab->aS M i p=some ab:=λac=>v.aS ac;refine⟨V,V,_,G e0,_,G e1,_,G e2,_,G e3,_,G e4,?_⟩;intro m7 g;have hy:=U.cF;have au:=B.lt;have zM:=N.aQ;have L:J M g:=by grind [J.push,J.aW]
 have s8:g.size=M.size+1:=by grind [bE]
 clear_value g;have C:∀e∈[M.size,h.size,m.size],e<g.size:=λe j=>by
  grind
 have H:=v.N L;have E:∀{P Q:D},J g P->J g Q->∀i,i<g.size->∀p,aS Q i p=aS P i p:=by grind [bD,J.bB]
 have f:M.size<g.size:=V;have i1:m.size<g.size:=cC;have i2:t.size<g.size:=V;refine⟨st,(B.ext L).dg 1,?_⟩;refine(Nd (b:=[]) bO (y.ext H) (T.ext H) V).bL (J.cX g) C λow lo m9 go ho c _=>⟨_,O,E dt c _ f _,E dt c _ f _,E dt c _ f _,E dt c _ i1 _,E dt c _ i1 _,E dt c _ f _,E dt c _ f _,E dt c _ f _,E dt c _ f _,E dt c _ f _,E dt c _ i2 _,?_⟩;have I:=H.N c;have z9:=c.aQ;have j:=ho.2;refine(MR q.eZ (st.bt::t.size::h.size::a) m9 (λe j=>?_) d r aq i ow q.aY lo (o.le I.le) (y.ext I) (c3.le I.le) ((go.cB bO V).le fJ) ⟨ho.1,V,V,al⟩).bL c C λss b' ax ak X az k=>⟨_,_,O,E c k _ f _,E c k _ f _,E c k _ f _,E c k _ f _,E c k _ f _,E c k _ i2 _,?_⟩
 .grind
 have x:=L.N k;have C8:=k.aQ;exact AK ad (λe j=>by have W:=C e j;have s:=Z e;simp only[aZ]at j s;rcases j with n|n|n|n<;>first|omega|(have:=s (by simp[n]);omega)|simp at n) (N.N x) (U.ext lz.aP x) (B.ext x) V (y.ext (v.N x)) (T.ext (v.N x)) ak ⟨V,V⟩ V λs' W g' s x'=>ap s' W _ g' s x' ⟨ai,ah,X.1,by have:=X.2;simp only;omega⟩
end
section
variable{x:eQ}{l:au}{m e M:D}{i f d h:E}{b:ad}{c g:ab}{a:Int}{K:E->D->Prop}
def FI(a k:E)(m:D):ir dP 251 [tK x a k] m (x.op=14\/x.op=15):=by
 apply Lr;simp -zeta only[dT];intro c;have b:=px c;refine⟨λh=>pX (bz (sp h)) b,λh=>lI ?_ b⟩;simp only[bd]at h;simp only[bQ];omega
def One(l:au):Prop:=∀x∈l,x.aO.length=1
def Eh(l:au)(o:Int):Prop:=∃x∈l,o∈x.aO
def One.at(h:One l){k:Nat}(a:l[k]? =some x):∃y,x.aO[0]? =some y/\Eh l y:=by
 have c:=h x (ba a);let⟨y,b⟩:=dY x.aO 0;exact⟨y,b,x,ba a,ba b⟩
def Uc(p:iI m i l)(A:One l)(G:l.length<=10^12)(v:Int):xC 277 [i.v,vi v] m λb=>-(l.length:Int)<=b/\b<=l.length:=by
 apply MW;have K:=p.aT;refine gN (n:=l.length) V (λk b M=>J m M/\-(k:Int)<=b/\b<=(k:Int)) ⟨dt,V,V⟩ ?_;rintro k b c I μ H ⟨f,B,C⟩ P
 refine⟨λj=>?_,λj=>⟨b,O,⟨V,V⟩,f⟩⟩;simp only[bh]at j;let⟨x,q⟩:=dY l k;obtain⟨y,r,_⟩:=A.at q;obtain⟨a,Q,o,_,w,_,_,z,_⟩:=p.br q;have F:=o.aT;have L:=bC r;have s:=f.aS w;have G3:=f.aS z;have h:=(o.ext f).br r;have t:eV (b+1)=b+1:=by grind [dk]
 have u:eV (b -1)=b -1:=by grind [dk]
 rw[t,u];have N:∀d,-((k+1:Nat):Int)<=d->d<=((k+1:Nat):Int)->I d (eV ((k:Int)+1)) c/\μ d (eV ((k:Int)+1)) c<μ b k c:=cC;have D:(0:Int)<=(k:Int)/\(k:Int)<(i.len:Int)/\∃e:E,aS c i.bt (i.off+Int.toNat (k:Int)*5+3)=some e.v/\(0:Int)<=(0:Int)/\(0:Int)<(e.len:Int)/\∃g:Int,aS c e.bt (e.off+Int.toNat (0:Int)*1)=some (vi g)/\
  ((g==v)=true->I (b -1) (eV ((k:Int)+1)) c/\μ (b -1) (eV ((k:Int)+1)) c<μ b k c)/\((g==v)=false->I b (eV ((k:Int)+1)) c/\μ b (eV ((k:Int)+1)) c<μ b k c):=
  ⟨V,V,a,G3,V,V,y,h,λ_=>N _ V V,λ_=>N _ V V⟩
 exact⟨V,V,a,G3,V,V,y,h,λ_=>⟨V,V,_,s,λ_=>N _ V V,λ_=>D⟩,λ_=>D⟩
def Se(q:∀f∈b,f<m.size)(u:iI m i l)(j:One l)(G:l.length<=100000000000):oC 276 [i.v] m b λc=>(∀o∈c,Eh l o)/\c.length<=l.length:=by
 apply LN;intro N;have K:=u.aT;refine gN (n:=l.length) V (λk s M=>J m M/\∃c,GI b m M s c/\(∀o∈c,Eh l o)/\c.length<=k) ⟨J.push m _,[],GI.gF b m,bO,bY⟩ ?_;rintro k s e I μ H ⟨d,c,p,v,t⟩ C
 refine⟨λh=>?_,λh=>⟨s,c,O,p,⟨v,V⟩,d⟩⟩;simp only[bh]at h;let⟨x,w⟩:=dY l k;let⟨z,y,A⟩:=j.at w;obtain⟨a,R,r,_,E,_,_,g,_⟩:=u.br w;have F:=r.aT;have L:=bC y;refine⟨V,V,a,d.aS g,V,V,z,(r.ext d).br y,?_⟩;refine(pT (S:=b) (λf t=>cr (q f t) d.aQ) (p.cB q V) z V).cg λQ B P g f D=>⟨_,O,C V _ _ ⟨d.N D,B,g.de (λ_ h=>h) d.aQ,λo j=>?_,oh f.2⟩⟩;rcases f.1 o j with h|h
 .exact v o h
 .subst h;exact A
@[grind cases] structure Ao (S:ad) (m m2 M:D) (sd sr vs:E) (ld lr vl:ab):Prop where
 x:J m M
 gd:GI S m M sd ld
 gr:GI S m M sr lr
 gv:GI [] m2 M vs vl
 n1:sd.bt≠sr.bt
 n2:sd.bt≠vs.bt
 n3:sr.bt≠vs.bt
def Ao.ext{b:ad}{m e M i:D}{f d h:E}{c j g:ab}(T:Ao b m e M f d h c j g)(a:J M i):Ao b m e i f d h c j g:=
 ⟨T.x.N a,T.gd.ext a,T.gr.ext a,T.gv.ext a,T.n1,T.n2,T.n3⟩
def Ao.afM{j:ab}(T:Ao b m e M f d h c j g)(u:∀i∈b,i<m.size)(s:c.length<=10^12)(t:∀r i,Ao b m e i r d h (c++[a]) j g->K r i):
 mf (M.push (.cells (dh [.i a]) bG)) bG [.i 0] 8 f (.mk M.size 0 1 1) K:=by
 have o:=T.gr.cF;have p:=T.gv.cF;have v:=T.n1;have w:=T.n2
 refine GI.nI T.gd (T.x.fz []) s λr i n l z q=>t r i ⟨l.ext,n,T.gr.me (q _ o.2 T.n1.symm),T.gv.me (q _ p.2 T.n2.symm),?_,?_,T.n3⟩<;>rcases z.2 with k|k<;>omega
def Ao.YY{j:ab}(T:Ao b m e M f d h c j g)(u:∀i∈b,i<m.size)(s:j.length<=10^12)(t:∀r i,Ao b m e i f r h c (j++[a]) g->K r i):
 mf (M.push (.cells (dh [.i a]) bG)) bG [.i 0] 8 d (.mk M.size 0 1 1) K:=by
 have o:=T.gd.cF;have p:=T.gv.cF;have v:=T.n1;have w:=T.n3
 refine GI.nI T.gr (T.x.fz []) s λr i n l z q=>t r i ⟨l.ext,T.gd.me (q _ o.2 T.n1),n,T.gv.me (q _ p.2 T.n3.symm),?_,T.n2,?_⟩<;>rcases z.2 with k|k<;>omega
def ab2(l:au)(c:au):Prop:=∃b a:ab,c=b.map (iT 14)++a.map (iT 15)/\(∀o∈b,Eh l o)/\(∀o∈a,Eh l o)/\b.length+a.length<=l.length*l.length
def C3(u:∀s∈b,s<m.size)(Y:iI m i l)(a:One l)(x:l.length<=500000):XO 252 [i.v] m b (ab2 l):=by
 apply HY;intro v e;have ae:J m e:=(J.push m _).N (J.push v _);have s1:=pz v;have gd:GI b m e (.mk m.size 0 0 0) []:=(GI.gF b m).ext (J.push v _);have R:GI b m e (.mk v.size 0 0 0) []:=(GI.gF b v).de (λ_ G=>G) V;have ak:l.length*l.length<=250000000000:=fC (Rt x x) cH;refine(Se (b:=[]) bO (Y.le ae.le) a V).cg λh g m3 F ad P=>⟨_,O,?_⟩;have hv:bg m3 h g:=(F.cB bO (oh ad.2)).le fJ;have ao:=hv.aT;have ap:=F.cF;refine BC (j:=g.length) V (λp f d M=>∃c j,Ao b m e M f d h c j g/\(∀o∈c,Eh l o)/\(∀o∈j,Eh l o)/\c.length+j.length<=p*l.length) ⟨[],[],⟨(ae.N P),gd.ext P,R.ext P,F,fu,oh gd.cF,oh R.cF⟩,bO,bO,bO⟩ ?_;rintro p f d m4 aj μ hi ⟨c,j,T,hd,Z,W⟩ ah
 have af:p*l.length<=l.length*l.length:=fq _ V;have H:∀{M:D}{f d:E}{c j:ab},Ao b m e M f d h c j g->bg M h g:=λT=>(T.gv.cB bO V).le fJ;refine dit (λG=>?_) λG=>?_
 .let⟨y,z⟩:=dY g p;have ac:=ad.1 y (ba z);refine⟨V,V,y,(H T).br z,?_⟩;refine(Uc (Y.le T.x.le) a V y).cg λw m5 hn r=>⟨_,O,?_⟩;have an:(p+1)*l.length=p*l.length+l.length:=Ea _ _;refine⟨λf k M=>k<=w/\(w<=0->k=w)/\(0<w->0<=k)/\∃I,Ao b m e M f d h I j g/\(∀o∈I,Eh l o)/\I.length+j.length+k.toNat<=p*l.length+w.toNat,λ_ k _=>k.toNat,⟨V,V,V,c,T.ext r,hd,V⟩,?_⟩;rintro ai k m6 ⟨n1,n2,n3,K,A,X,al⟩;refine dit (λh1=>?_) λh1=>?_
  .refine⟨V,V,y,(H A).br z,?_⟩;intro q;have t:eV (k -1)=k -1:=gJ;rw[t];exact A.afM u V λN Q B=>⟨⟨V,V,V,_,B,λo a=>by
    rcases bT.1 a with a|a
    .exact X o a
    .simp at a;subst a;exact ac,fu⟩,by dsimp only;omega⟩
  .refine⟨λd q M=>k<=q/\q<=0/\∃L,Ao b m e M ai d h K L g/\(∀o∈L,Eh l o)/\K.length+L.length+(-q).toNat<=p*l.length+l.length,λ_ q _=>(-q).toNat,⟨V,V,j,A,Z,V⟩,?_⟩;rintro aq q m8 ⟨p1,p2,ag,C,aa,am⟩;refine⟨λU=>?_,λU=>ah V _ _ _ ⟨K,ag,C,X,aa,V⟩⟩;simp only[bh]at U;refine⟨V,V,y,(H C).br z,?_⟩;intro m9;have t:eV (q+1)=q+1:=gJ;rw[t];exact C.YY u V λN Q B=>⟨⟨V,V,_,B,λo a=>by
    rcases bT.1 a with a|a
    .exact aa o a
    .simp at a;subst a;exact ac,fu⟩,by dsimp only;omega⟩
 .have o:∀s∈b,s<m4.size:=λs W=>by have:=u s W;have:=T.x.aQ;omega
  refine(iP (c:=b) o 14 ((T.gd.cB u V).le fJ) V).aP λ_ m5⟨s1,C,k,g1,t,r⟩=>?_;subst k;subst t;refine⟨_,O,?_⟩;have q:=g1.cF;refine(iP (c:=s1.bt::b) (dH o r.aQ q.2) 15 (((T.ext r).gr.cB u V).le fJ) V).aP λ_ m6⟨K,I,k,g2,y,w⟩=>?_;subst k;subst y;refine⟨_,O,?_⟩;refine GS.lZ (g1.ext km.aP w) ((r.N w).fz []) (g2.cB km.aP (dH o r.aQ q.2) cH fu) fu λN Q A z _ _=>⟨N,_,O,A.de km.aP (λB x=>bz x) T.x.aQ,⟨c,j,O,hd,Z,?_⟩,T.x.N z.ext⟩;have:p*l.length<=l.length*l.length:=af;omega
end
section
variable{a c:Nat}
def No(a b:Nat):a*a+b*b<=(a+b)*(a+b):=by
 grind [Nat.add_mul,Nat.mul_add]
def VH{b:Nat}(h:a<=b):a*a<=b*b:=Rt h h
@[grind cases] structure CN (ds:af) (nr:Nat) (S:ad) (m2 M:D) (a:Nat) (bq:au) (k:Nat) (st run:E) (lo lr:au) (P:Nat):Prop where
 x:J m2 M
 gs:GS (run.bt::S) m2 M st lo
 gr:GS [st.bt] m2 M run lr
 wl:WL ds nr True a lo
 dcs:dc lo=dc (bq.take k)
 sws:sw lo<=P*P
 P':P+2*lr.length<=sw (bq.take k)
 mE:One lr
 rng:∀o,Eh lr o->0<=o/\o<((a+dc (bq.take k):Nat):Int)
 ne:st.bt≠run.bt
def VB{d:af}{l b:au}(h:ab2 l b)(g:∀o,Eh l o->0<=o/\o<(a:Int)):WL d c True a b/\dc b=0/\sw b<=(2*l.length)*(2*l.length):=by
 obtain⟨j,i,rfl,e,k,m⟩:=h;refine⟨(wh V λo f=>g o (e o f)).fE ?_,?_,?_⟩
 .grind [nJ,wh]
 .grind [fm,nJ]
 .grind [gR,uR,List.length,Nat.mul_mul_mul_comm]
def afy(e:af)(c:Nat)(b:Bk):Prop:=∀(S:ad)(m:D),(∀d∈S,d<m.size)->∀(t:E)(a:Nat),iI m t b.bq->WB e c True a b->b.w<=400000->rJ 231 [.agg #[t.v,vi b.bP]] m S λd=>WB e c True a d/\d.w<=b.w*b.w
def JB{I:af}:∀g:Bk,afy I c g:=by
 refine Bk.ind ?_;intro bq a4 ih l L hS bI a hs aT hw;have aU:=aT.cJ;rw[Bk.vT]at hw⊢;simp only[Bk.mZ,Bk.lV]at*;apply Ck;simp -zeta only[dT];intro i q ag m3;let⟨x1,hl⟩:=fV (a:=i) (c:=q) O O;have s0:=pz i;have s1:q.size=L.size+2:=cC;have a9:J q m3:=by grind [J.push,J.N]
 have s2:=pz ag;have aJ:∀u,GS u q m3 (.mk q.size 0 0 0) []:=λu=>(GS.bI u q).ext km.aP (J.push ag _);have aI:∀u,GS u q m3 (.mk ag.size 0 0 0) []:=λu=>(GS.bI u ag).de km.aP (λg s=>bz s) V;have aS:=hs.aT;have av:=Gu bq;have aL:∀e∈i.size::l,e<q.size:=by grind [dH,J.aQ]
 refine BC (j:=bq.length) (aS▸hs.kM) (λv F z j=>∃Z p P,CN I c (i.size::l) q j a bq v F z Z p P) ⟨[],[],0,a9,aJ _,aI _,WL.gF,O,bO,bO,λ_ h=>by simp at h,λah⟨_,h,_⟩=>by simp at h,fu⟩ ?_;rintro v F z B bb μ hk ⟨Z,p,P,C⟩ ax
 have x4:=C.x;have Q:=x1.N x4;have bt:=C.gs.cF;have bs:=C.gr.cF;have aq:=C.P';have bk:=av v;have bc:P*P<=160000000000:=fC (VH (b:=400000) V) cH;have bi:=jK Z;have aQ:=C.sws;have bj:=C.ne;have K:∀{j:D}{u:ad},B.size<=j.size->(∀e∈u,e<j.size)->∀e∈u++i.size::l,e<j.size:=λh s e f=>by
  grind
 have au:∀{j:D},J B j->iI j z p:=λh=>iI.le fJ ((C.gr.ext km.aP h).sa km.aP cC cH V);refine dit (λh=>?_) λh=>?_
 .let⟨d,X⟩:=dY bq v;let⟨pa,pk,ha,ab,g0,g1,g2,g3,g4⟩:=hs.br X;refine⟨V,V,_,Q.aS g0,_,Q.aS g1,_,Q.aS g2,_,Q.aS g3,_,Q.aS g4,?_⟩;intro m5 N;have x6:J B N:=by grind [J.push,J.aW]
  have s6:N.size=B.size+1:=by grind [bE]
  have ac:∀{j:D},N.size<=j.size->∀g∈[B.size,i.size,L.size],g<j.size:=λh g s=>by
   grind
  have bn:=ux X;have bm:=vt X;have aW:=eQ.pN d;have W:=aU.1 v d X;have bl:=av (v+1);have be:=xG d.dA;refine(FI pa pk N).bL (J.cX N) (ac bY) λbp m7 aM x7 _=>⟨_,O,λhp=>?_,λhp=>?_⟩
  · -- a pair goes to the run
   have hp:=aM.1 hp;have R:d.aO.length=1:=W.iU.mE V;have U:dn d=0:=aV λh:tO d.op=>by have:=h.2;omega
   have G:=x6.N x7;intro m8;have o:Le L (di (z.bt::[F.bt]) m7):=(ER (m:=L)).N (((Q.N G).fz []).di bO λe f=>by simp at f;have:=x1.aQ;exact bH V);refine GS.nI (x:=d) (C.gr.ext km.aP G) ((x4.N G).fz []) (ha.le o) (ab.le o) V λaR M' T t H A=>⟨λe f=>?_,ax V _ _ _ ⟨Z,p++[d],P,t.ext,(C.gs.ext km.aP G).re km.aP (Y:=[z.bt]) ⟨H.1,λe f k=>A e f cC⟩ bO cC (λe f=>?_),T,C.wl,by rw[C.dcs];omega,aQ,fu,λak k=>?_,λah w=>?_,?_⟩⟩
   .grind [J.aQ,J.push,J.bB]
   .grind [List.mem_cons_self,List.mem_cons_of_mem]
   .rcases bT.1 k with k|k
    .exact C.mE ak k
    grind
   .let⟨ak,k,r⟩:=w;have y:dc (bq.take (v+1))=dc (bq.take v):=V;rw[y];rcases bT.1 k with k|k
    .exact C.rng ah ⟨ak,k,r⟩
    .simp at k;subst k;exact W.iU.aO ah r
   grind [CN.gs,Gr.ext,km.aP,Gr.cF]
  · -- another step ends the run
   have G:=x6.N x7;have aB:=G.aQ;refine(C3 (b:=[F.bt,z.bt]++i.size::l) (K aB cC) (au G) C.mE V).bL (J.cX m7) (ac x7.aQ) λbB aY bu aF a1 ay _=>⟨_,O,?_⟩;let⟨a6,am,a7⟩:=VB (d:=I) (c:=c) a1 C.rng;have bg:=jK aY;have C8:=ay.aQ;have z7:=x7.aQ;have aK:(2*p.length)*(2*p.length)<=160000000000:=fC (VH (b:=400000) V) cH;have aA:=G.N ay;refine GS.lZ (C.gs.ext km.aP aA) ((x4.N aA).fz []) (aF.cB km.aP (K (u:=[F.bt,z.bt]) aB fu) cH V) V λw r ap aD a_ a2=>⟨λe f=>a2 e (ac V e f) cC,?_⟩;have an:J q r:=aD.ext;have bo:=ap.cF;have bd:w.bt=F.bt\/N.size<=w.bt:=by have:=a_.2;omega
   intro t aw;have az:=px t;have bG:t.size=r.size+1:=cC;have a8:=px aw;have ao:=an.N az;have gn:GS [w.bt] q t (.mk r.size 0 0 0) []:=(GS.bI _ r).de km.aP (λg s=>bz s) an.aQ;have gk:GB ([w.bt,r.size]++i.size::l) t aw (.mk t.size 0 0 0) []:=GB.bI t;have aG:GS ([r.size]++i.size::l) q t w _:=ap.re km.aP (Y:=[]) (az.fz []) bO bO λe f=>by
    rcases aZ.1 f with y|y
    .grind
    .exact bz (aX _ y)
   have al:=ab.aT;have bf:bw d.dA<=400000:=V;refine gN (n:=d.dA.length) (al▸ab.kM) (λA a5 j=>J t j/\∃o,GB ([w.bt,r.size]++i.size::l) t j a5 o/\o.length=A/\(∀(H:Nat)(g:Bk),o[H]? =some g->WB I c True (a+dc (bq.take v)+GK I d.op d.cG H) g)/\bw o<=bw (d.dA.take A)*bw (d.dA.take A)) ⟨a8,[],gk,O,bO,bO⟩ ?_;rintro A ks ae I2 μ2 hj ⟨aa,o,T,bh,aO,aN⟩ a0;have ai:=x1.N (ao.N aa);have bJ:=aa.aQ;have br:=T.cF;have U:∀g∈[B.size,i.size,L.size],g<ae.size:=cC;refine dit (λh2=>?_) λh2=>?_
   .let⟨g,s⟩:=dY d.dA A;let⟨tb,aP,f0,f1⟩:=ab.br s;have a3:=By s;have aE:=zd s;refine⟨V,V,_,ai.aS f0,_,ai.aS f1,?_⟩;refine(ih d (ba X) g (ba s) ([ks.bt,w.bt,r.size]++i.size::l) ae (K V fu) tb _ (aP.le ai.le) (W.dA A g s) V).bL (J.cX ae) U λss b' bv aH aC aj _=>⟨_,_,O,?_⟩;refine GB.nI (c:=b') (T.ext vV.aP aj) ((aa.N aj).fz []) aH V λaR M' g2 f2 z2 q2=>⟨J.sY ((aa.N aj).cz _) f2.ext (λe f=>oh (ac (j:=t) V e f)),a0 V _ _ ⟨f2.ext,_,g2,fu,λH b2 R=>?_,?_⟩⟩
    .rcases eH H o.length with ar|ar
     .grind [List.getElem?_append_left]
     .rw[dQ ar]at R;have:H -o.length=0:=by have:=bC R;simp at this;omega
      rw[this]at R;simp at R;subst R;have:H=A:=V;grind
    .rw[tr,zc,Et,aE];have h3:=No (bw (d.dA.take A)) g.w;have:=aC.2;omega
   .have aP:o.length=d.dA.length:=V;rw[eY V]at aN;refine(dF ([w.bt,r.size]++i.size::l) (ha.ext ai) V).bL (J.cX ae) U λs' l' bv ga y R _=>⟨_,O,bD (R.bB _ (U _ bO)) _,bD (R.bB _ (U _ bO)) _,bD (R.bB _ (U _ bO)) _,?_⟩;subst y;intro bx;have aj:=aa.N R;have bK:=R.aQ;have ar:∀e∈[w.bt,r.size]++i.size::l,e<t.size:=K V fu;have aR:w.bt≠r.size:=V;refine GS.nI (x:=⟨d.op,d.cG,d.cR,d.aO,o⟩) (aG.ext km.aP aj) ((ao.N aj).fz []) (ga.cB (λe f=>oh (ar e f)) V) (rW.le R.eX (T.cB vV.aP ar cH cC)) cC λbF bA aH aE bL a3=>⟨λe f=>?_,ax V _ _ _ ⟨_,[],P+2*p.length+d.w,aE.ext,aH,?_,((C.wl.fE cC).Ch (W.Vj id W.iU.cR aP aO|>λh=>by rw[fm,C.dcs,am,uJ];exact h)),?_,?_,fu,λ_ h=>by simp at h,λah⟨_,h,_⟩=>by simp at h,?_⟩⟩
    .grind [J.push,J.bB]
    · -- the new run is empty
     have y:=gn.ext km.aP aj;let⟨p0,aC,p1,p2⟩:=y;refine⟨p0,aC,p1.congr (a3 _ (by have:=aj.aQ;show r.size<_;omega) (uK aR)),p2.aT,p2.aQ,λH cs ak _ k=>by simp at k⟩
    .rw[fm,fm,C.dcs,am,nO,xJ];have y:dn (⟨d.op,d.cG,d.cR,d.aO,o⟩:eQ)=dn d:=rfl;omega
    .rw[gR,gR,qy,Ai];have h3:=No P (2*p.length);have h4:=No (P+2*p.length) d.w;have h5:(⟨d.op,d.cG,d.cR,d.aO,o⟩:eQ).w=1+d.aO.length+bw o:=eQ.pN _;have k:=No (1+d.aO.length) (bw d.dA);have h7:1+d.aO.length<=(1+d.aO.length)*(1+d.aO.length):=by grind [Nat.le_mul_of_pos_left]
     rw[<-aW]at k;omega
    grind [E.bt,Array.size]
 .have al:v=bq.length:=V;subst al;rw[fB]at aq;have hd:dc (bq.take bq.length)=dc bq:=by rw[fB]
  have k:∀g∈[i.size,L.size],g<B.size:=by grind [J.lt]
  refine(C3 (b:=[F.bt,z.bt]++i.size::l) (K bY cC) (au dt) C.mE V).bL (J.cX B) k λU o N w A d _=>⟨_,O,bD (d.bB _ (k _ bO)) _,?_⟩;let⟨a6,am,a7⟩:=VB (d:=I) (c:=c) A C.rng;have H:=jK o;have aK:(2*p.length)*(2*p.length)<=160000000000:=fC (VH (b:=400000) V) cH;refine GS.lZ (C.gs.ext km.aP d) ((x4.N d).fz []) (w.cB km.aP (K (u:=[F.bt,z.bt]) bY fu) cH V) V λG R y t W r=>⟨λe f=>r e (d.lt (k e f)) (oh (hl e f)),bD (r _ (d.lt (k _ bO)) V) _,?_⟩;intro T;refine⟨G,.mk (Z++o) a4,O,iI.le (dU bO λe f=>aX _ f) ((y.re km.aP (S':=i.size::l) (Y:=[]) nR bO bO (λe f=>bz (aX _ f))).cB km.aP aL cH fu),⟨WB.of (C.wl.fE cC) ?_,?_⟩,(x1.N t.ext).aW V _ _⟩
  .grind [fm,CN.dcs]
  .rw[Bk.vT,gR];have h3:=No P (2*p.length);have h4:=VH aq;have h5:=No 1 (sw bq);omega
end
section
variable{c:ad}{b:D}{d r:E}{e:List jV}{W:Nat}
def MJ(w:∀a∈c,a<b.size){h:af}(i:iD b d r h e)(hW:W<=400000)(N:Da h e True W):zI 195 [.agg #[d.v,r.v]] b c h λn=>Da h n True (W*W):=by
 apply Fo;simp -zeta only[dT];intro g a2;let⟨s,x⟩:=fV (a:=g) (c:=a2) O O;have s1:=pz g;have aj:=i.lJ.aT;have au:=i.pP;refine(jz (b:=g.size::c) (dH w s.aQ (x _ bO)) (i.le s.le).bR i.dj).aP λ_ y⟨dd,aa,ae,A⟩=>?_;subst aa;refine⟨A.fg x,_,O,?_⟩;intro z an ao;have X:=s.N A;let⟨x5,Y,g0,s3,s5⟩:=ov (b:=z.size::g.size::c) lz.aP (d:=y) (a:=z) (c:=an) (j:=ao) O O O;have m:∀a∈[g.size,b.size],a<y.size:=by grind [J.lt]
 have ad:∀a∈g.size::c,a<y.size:=λa l=>A.lt (dH w s.aQ (x _ bO) a l);refine nV (R:=λf j M=>∃d r n,Value.agg #[f.v,j.v]=.agg #[d.v,r.v]/\iD (di c M) d r h n/\Da h n True (W*W)/\J b M) lz.aP cH cH w ⟨V,m _ bO⟩ X s3 ae aj V x5 Y g0 (λ_ q=>q.aY.length<=3/\q.cW.length<=3/\WB h e.length True q.aY.length q.eZ/\q.eZ.w<=W*W) (λf p Q t I K j k o=>⟨f,p,Q,O,⟨I,K,i.dj,V⟩,Mw N.iY j k,o⟩) λam M T Q aq μ ag ar C H B ap=>?_
 let⟨q,P⟩:=dY e am ag;let⟨ai,ah,al,hw⟩:=N.eR q (ba P);have p:=X.N C;let⟨av,aw,f,c1,c2,c3,D,E,F,t,u⟩:=i.lJ.br P;have G:∀{v:Value}{f o:Nat},aS b f o=some v->aS M f o=some v:=λab=>p.aS ab;refine⟨T,B.dg 1,V,V,_,G D,_,G E,_,G F,_,G t,_,G u,V,V,_,G t,_,G u,?_⟩;have hy:=H.cF;have ac:=B.lt;refine(JB q.eZ (T.bt::z.size::g.size::c) M (λa l=>?_) f q.aY.length (c3.le p.le) al V).bL C m λss b' Z ak L j U=>⟨_,_,O,?_⟩
 .grind
 have k:∀{v:Value}{f o:Nat},aS b f o=some v->aS Z f o=aS M f o:=by grind [J.aS]
 refine⟨k D,k E,k F,k t,k u,bD (j.bB _ (C.lt (m _ bO))) _,bD (j.bB _ ac) _,?_⟩;exact AK ad (λa l=>by have I:=m a l;have K:=U.aQ;omega) U (H.ext lz.aP j) (B.ext j) V (c1.ext (p.N j)) (c2.ext (p.N j)) ak ⟨V,V⟩ V λs' K g' I x'=>ap s' K _ g' I x' ⟨ai,ah,L.1,fC L.2 (VH hw)⟩
def ad3(a:Bk):Prop:=∀(c:ad)(b:D),(∀d∈c,d<b.size)->∀t:E,iI b t a.bq->a.w<=10^12->rJ 294 [.agg #[t.v,vi a.bP]] b c (a=·)
def C0(U:∀f∈c,f<b.size){t v:E}{x:eQ}(D:bg b t x.aO)(p:rW b v x.dA)(Z:x.w<=10^12)(L:∀g∈x.dA,ad3 g):Pp 325 [tK x t v] b c (x=·):=by
 apply Hw;simp -zeta only[dT];intro a e w;let⟨N,G⟩:=fV (a:=a) (c:=e) O O;have s0:=pz a;have s1:e.size=b.size+2:=cC;have P:=px w;have B:GB (a.size::c) e w (.mk e.size 0 0 0) []:=GB.bI e;have n:∀f∈a.size::c,f<e.size:=by grind [dH,J.aQ]
 have F:=p.aT;have aa:=eQ.pN x;have W:=xG x.dA;refine gN (F▸p.kM) (λq s M=>J e M/\GB (a.size::c) e M s (x.dA.take q)) ⟨P,B⟩ ?_;rintro q s k R μ Y ⟨l,j⟩ M
 have i:=N.N l;have h:∀g∈[a.size,b.size],g<k.size:=by grind [J.lt]
 have K:=j.cF;have Q:=l.aQ;refine dit (λC=>?_) λC=>?_
 .let⟨g,o⟩:=dY x.dA q;let⟨tb,I,z,A⟩:=p.br o;have X:=By o;refine⟨V,V,_,i.aS z,_,i.aS A,?_⟩;refine(L g (ba o) (s.bt::a.size::c) k (dH n Q K.2) tb (I.le i.le) V).bL (J.cX k) h λss T y H m d _=>⟨_,_,O,?_⟩;subst m;refine GB.nI (j.ext vV.aP d) ((l.N d).fz []) H cC λr S g2 u z2 q2=>⟨J.sY ((l.N d).cz _) u.ext G,M V _ _ ⟨u.ext,?_⟩⟩;grind [bW]
 .rw[eY V]at j;refine(dF (a.size::c) (D.ext i) V).bL (J.cX k) h λH I y z m d _=>⟨_,O,bD (d.bB _ (h _ bO)) _,bD (d.bB _ (h _ bO)) _,bD (d.bB _ (h _ bO)) _,?_⟩;subst m;intro A;have u:Le (di (a.size::c) y) (di c A):=dU bO λf o=>aX _ o;exact⟨H,s,x,O,(z.cB (λf o=>oh (n f o)) V).le u,rW.le u ((j.ext vV.aP d).cB vV.aP n cH V),O,(i.N d).aW V _ _⟩
def AT:∀p:Bk,ad3 p:=by
 refine Bk.ind ?_;intro bq j Z c b hS af r X;rw[Bk.vT]at X;simp only[Bk.mZ,Bk.lV]at*;apply vO;simp -zeta only[dT];intro g d e y o;let⟨x1,T⟩:=fV (a:=g) (c:=d) O O;have s0:=pz g;have s1:d.size=b.size+2:=cC;have s2:=pz e;have s3:=pz y;have C:J e o:=by grind [J.push,J.aW]
 have ab:J d o:=(J.push d _).N C;have q:GS (e.size::g.size::c) d o (.mk d.size 0 0 0) []:=(GS.bI _ d).ext km.aP C;have E:dJ o e.size ft [.s (.mk d.size 0 0 0),.i j]:=dJ.aW (m:=y) (dJ.push e _ _);have N:∀l∈g.size::c,l<d.size:=by grind [dH,J.aQ]
 have W:=r.aT;have ad:=jK bq;refine iC (W▸r.kM) (λu M=>J d M/\∃s,GS (e.size::g.size::c) d M s (bq.take u)/\dJ M e.size ft [.s s,.i j]) ⟨ab,_,q,E⟩ ?_;rintro u v ac μ hk ⟨w,s,h,B⟩ aa
 have f:=x1.N w;have U:∀p∈[g.size,b.size],p<v.size:=by grind [J.lt]
 have Y:=h.cF;have z5:=w.aQ;have x:=B.lt;refine dit (λM=>?_) λM=>?_
 .let⟨A,t⟩:=dY bq u;let⟨pa,pk,P,S,q,g1,g2,K,L⟩:=r.br t;have ae:=Uk t;refine⟨s,B.dg 0,V,V,_,f.aS q,_,f.aS g1,_,f.aS g2,_,f.aS K,_,f.aS L,?_⟩;refine(C0 (dH (dH N z5 x) bY Y.2) (P.ext f) (S.le f.le) V (Z A (ba t))).bL (J.cX v) U λF G x' z Q R H k _=>⟨_,_,_,_,_,O,bD (k.bB _ x) _,?_⟩;subst H;intro m7;refine Gr.bU (h:=[.i 0,.i 0,.i 0,.s .nil,.s .nil]) (j:=0) (o:=[.s s,.i j]) (v:=A) km.aP cH (h.ext km.aP k) ((w.N k).fz []) ⟨F,G,O,Q,R⟩ cC (B.ext k) bO cH ⟨V,bO⟩ (λl n=>by have D:=T l n;have I:=k.aQ;omega) λr' m' g' D I z' q'=>aa V _ ⟨I.ext,r',?_,D⟩
  grind [bW]
 .rw[eY V]at h;refine⟨s,B.dg 0,j,B.dg 1,?_⟩;intro z;have t:=h.ne B cH;have k:Le (di (e.size::g.size::c) v) (di c z):=dU bO λl n=>aX _ (aX _ n);refine⟨s,.mk bq j,O,iI.le k (h.sa km.aP (λn=>?_) cH (by show bq.length<=_;omega)),O,f.aW V _ _⟩;grind
def afw(a:Bk):Prop:=∀(b:D)(t:E)(f:Int),iI b t a.bq->tn 326 [.agg #[t.v,vi a.bP],vi f] b
def OE:∀c:Bk,afw c:=by
 refine Bk.ind ?_;intro bq Y G b t q l;simp only[Bk.mZ,Bk.lV]at*;apply Hu;simp -zeta only[dT];intro g;have z:=px g;have C:∀c∈[b.size],c<g.size:=by simp[g]
 have F:=l.aT;refine iC (F▸l.kM) (λ_ M=>J g M) dt ?_;rintro k m I μ X p N
 have f:=z.N p;refine⟨λi=>?_,λ_=>rA f⟩;simp only[bh]at i;let⟨y,u⟩:=dY bq k;let⟨pa,v,U,j,A,g1,g2,T,s⟩:=l.br u;have B:=j.aT;have L:∃(h:Int->D->Prop)(μ0_1:Int->D->Nat),h 0 m/\(∀(a:Int)(M:D),h a M->
  0<=(k:Int)/\(k:Int)<(t.len:Int)/\∃o:E,aS M t.bt (t.off+Int.toNat (k:Int)*5+4)=some o.v/\
  ((decide (a<(o.len:Int)))=true->0<=(k:Int)/\(k:Int)<(t.len:Int)/\∃d:E,aS M t.bt (t.off+Int.toNat (k:Int)*5+4)=some d.v/\
   0<=a/\a<(d.len:Int)/\∃w:E,aS M d.bt (d.off+a.toNat*2)=some w.v/\∃x:Int,aS M d.bt (d.off+a.toNat*2+1)=some (vi x)/\
   bJ dP 326 [.agg #[w.v,vi x],vi q] M λr e=>gT [b.size] M e/\∃n:Bool,r=vb n/\(n=true->∃c:Bool,vb true=.bool c/\J b e)/\(n=false->h (eV (a+1)) e/\μ0_1 (eV (a+1)) e<μ0_1 a M))/\
  ((decide (a<(o.len:Int)))=false->I (eV ((k:Int)+1)) M/\μ (eV ((k:Int)+1)) M<μ k m)):=by
  refine iC (B▸j.kM) (λ_ M=>J m M) dt ?_
  rintro H M R μ2 W d K
  have a:=f.N d
  refine⟨V,V,v,a.aS s,λi=>?_,λ_=>N V _ (p.N d)⟩
  simp only[bh]at i
  let⟨c,n⟩:=dY y.dA H
  let⟨tb,x,o,w⟩:=j.br n
  refine⟨V,V,v,a.aS s,V,V,_,a.aS o,_,a.aS w,?_⟩
  exact(G y (ba u) c (ba n) M tb q (x.le a.le)).bL (p.N d) C λS e Q P=>⟨_,O,λ_=>rA (z.N P),λ_=>K V _ (d.N Q)⟩
 exact⟨V,V,_,f.aS A,λ_=>⟨V,V,_,f.aS g1,λ_=>rA f,λ_=>L⟩,λ_=>L⟩
def OM{m:af}(g:iD b d r m e)(h:Int):tn 295 [.agg #[d.v,r.v],vi h] b:=by
 apply HH;simp -zeta only[dT];intro a;have j:=px a;have s:∀f∈[b.size],f<a.size:=by simp[a]
 have H:=g.lJ.aT;have G:=g.pP;refine iC (n:=e.length) V (λ_ M=>J a M) dt ?_;rintro u v I μ F k w
 have c:=j.N k;refine⟨λq=>?_,λ_=>rA c⟩;simp only[bh]at q;let⟨x,t⟩:=dY e u;let⟨K,L,f,A,B,l,C,D,E,o,p⟩:=g.lJ.br t;exact⟨V,V,_,c.aS o,_,c.aS p,(OE x.eZ v f h (l.le c.le)).bL k s λz y M i=>⟨_,O,λ_=>rA (j.N i),λ_=>w V _ i⟩⟩
abbrev GII(c:ad)(a b:D)(s:E)(l:List ab):Prop:=Gr c a b CJ 1 nD s l
def Ld(Z:∀a∈c,a<b.size){S:af}(m:iD b d r S e)(hp:∀x∈e,x.aY.length<=3):
 bJ dP 260 [.agg #[d.v,r.v]] b λae G=>∃s l,ae=s.v/\rX (di c G) s l/\l.length=e.length/\(∀a∈l,a.length<=3)/\J b G:=by
 apply Dy
 simp -zeta only[dT]
 intro f H
 have P:=px f
 have v:∀y∈[b.size],y<f.size:=by simp[f]
 have ag:=px H
 have W:GII c f H (.mk f.size 0 0 0) []:=Gr.bI c bY
 have ak:=m.lJ.aT;have aj:=m.pP
 have B:∀a∈c,a<f.size:=λa u=>P.lt (Z a u)
 refine gN (n:=e.length) V (λk s M=>J f M/\∃l,GII c f M s l/\l.length=k/\∀a∈l,a.length<=3) ⟨ag,[],W,O,bO⟩ ?_
 rintro k s I Q μ hk ⟨q,l,t,ah,A⟩ aa
 have p:=P.N q
 have g:=t.cF
 refine dit (λY=>?_) λY=>?_
 .let⟨x,C⟩:=dY e k
  let⟨ac,al,y,R,c2,c3,T,e1,e2,e3,e4⟩:=m.lJ.br C
  have ai:=hp x (ba C)
  have jX:∀(M:D)(h:E)(a:ab),J I M->bg (di (s.bt::c) M) h a->a.length<=3->mf (M.push (.cells (dh [.s h]) CJ)) CJ [.s E.nil] 24 s (E.mk M.size 0 1 1) λL j=>gT [b.size] (M.push (.cells (dh [.s h]) CJ)) j/\Q L (eV ((k:Int)+1)) j/\μ L (eV ((k:Int)+1)) j<μ s k I:=λM h a w hf u=>
   Gr.nI nD.aP cH (t.ext nD.aP w) ((q.N w).fz []) ⟨h,O,hf⟩ V λr' j U z _ _=>⟨J.sY ((q.N w).cz _) z.ext v,aa V _ _ ⟨z.ext,_,U,fu,λi g=>by
    rcases bT.1 g with g|g
    .exact A i g
    .simp at g;subst g;exact u⟩⟩
  refine(OM (m.le p.le) k).bL q v λa m4 i N=>⟨_,O,λ_=>?_,λ_=>⟨V,V,ac,(p.N i).aS T,?_⟩⟩
  .intro o m6
   exact jX o _ [] (i.cz _) pZ bO
  .refine(wz bO (j:=0) ((R.ext (p.N i)).le ER) V).bL N v λad F o X K x5 u5=>⟨_,O,?_⟩
   intro m6
   have hg:GI (s.bt::c) m4 o ad F:=X.jS
   exact jX o _ F (i.N x5) (hg.cB (dH B N.aQ (oh i.aQ)) (oh K.2)) (oh K.2)
 .exact⟨s,l,O,t.cB nD.aP B cH V,V,A,p⟩
def afx(c:af)(e:List jV)(a:Bk):Prop:=∀(b:D)(d r t:E)(v:Int)(g:Prop)(f:Nat),iD b d r c e->iI b t a.bq->WB c e.length g f a->tn 296 [.agg #[d.v,r.v],.agg #[t.v,vi a.bP],vi v] b
def Fs{y:af}:∀c:Bk,afx y e c:=by
 refine Bk.ind ?_;intro bq ag Z b d r ah ac j ae z q X;have Y:=X.cJ.1;simp only[Bk.mZ,Bk.lV]at*;apply zY;simp -zeta only[dT];intro E F;let⟨I,hl⟩:=fV (a:=E) (c:=F) O O;have U:=q.aT;refine⟨λ_=>rA I,λ_=>?_⟩;refine iC (U▸q.kM) (λ_ M=>J F M) dt ?_;rintro D t ad μ hk K ab
 have f:=I.N K;refine⟨λh=>?_,λ_=>rA f⟩;simp only[bh]at h;let⟨x,s⟩:=dY bq D;let⟨pa,pk,k,o,P,g1,g2,Q,R⟩:=q.br s;have A:=Y D x s;have S:=k.aT;have T:=o.aT;refine⟨V,V,_,f.aS P,_,f.aS g1,_,f.aS g2,_,f.aS Q,_,f.aS R,?_⟩;intro m3 m;have L:J t m:=by grind [J.push,J.aW]
 have s4:m.size=t.size+1:=by grind [bE]
 have p:∀c∈[t.size,E.size,b.size],c<m.size:=λc l=>by
  grind [J.N,J.lt]
 refine iC (S▸k.kM) (λ_ M=>J m M) dt ?_;rintro C G I1 μ1 hj i v;have w:=(f.N L).N i;refine⟨λh=>?_,λ_=>?_⟩
 .simp only[bh]at h;let⟨W,N⟩:=dY x.aO C;refine⟨V,V,W,(k.ext w).br N,λ_=>?_,λ_=>v V _ i⟩;refine(CZ x.op G).bL i p λj u g B=>⟨_,O,λ_=>?_,λ_=>v V _ B⟩;have a:=w.N g;exact(sA (⟨z.le a.le,k.ext a,A.iU.jt⟩:At u d r pa pk y e x) C).bL B p λj m7 n H=>⟨_,O,λ_=>rA (a.N n),λ_=>v V _ H⟩
 .refine iC (T▸o.kM) (λ_ M=>J G M) dt ?_;rintro B u I2 μ2 hi g aa;have a:=w.N g;refine⟨λh=>?_,λ_=>ab V _ (((K.N L).N i).N g)⟩;simp only[bh]at h;let⟨c,l⟩:=dY x.dA B;let⟨tb,W,M,N⟩:=o.br l;refine⟨V,V,_,a.aS M,_,a.aS N,?_⟩;exact(Z x (ba s) c (ba l) u d r tb ac j _ (z.le a.le) (W.le a.le) (A.dA B c l)).bL (i.N g) p λj m7 n H=>⟨_,O,λ_=>rA (a.N n),λ_=>aa V _ (g.N n)⟩
def OO(Z:∀g∈c,g<b.size){x:af}(p:iD b d r x e){g:Prop}(N:Da x e g W){z:Nat}{q:jV}(s:e[z]? =some q):oC 261 [.agg #[d.v,r.v],vi z] b c λl=>l.length<=q.cW.length:=by
 apply HI;simp -zeta only[dT];intro f D;have F:=px f;have B:∀j∈[b.size],j<f.size:=by simp[f]
 have R:=px D;have L:GI c f D (.mk f.size 0 0 0) []:=GI.gF c f;have ae:=p.lJ.aT;have aa:=bC s;let⟨ad,ac,P,hw⟩:=N.eR q (ba s);let⟨ah,v,j,T,k,H,X,m,Y,I,K⟩:=p.lJ.br s;have ag:=k.aT;refine gN (n:=q.cW.length) V (λt u M=>J f M/\∃l,GI c f M u l/\l.length<=t) ⟨R,[],L,bY⟩ ?_;rintro t u Q S μ ab ⟨G,l,o,hc⟩ E
 have a:=F.N G;refine⟨V,V,v,a.aS m,λh=>?_,λh=>⟨u,l,O,o.de (λ_ h=>h) F.aQ,V,a⟩⟩;simp only[bh]at h;let⟨y,C⟩:=dY q.cW t;refine⟨V,V,_,a.aS I,_,a.aS K,V,V,v,a.aS m,V,V,y,(k.ext a).br C,?_⟩;refine(Fs q.eZ Q d r j y g _ (p.le a.le) (H.le a.le) P).bL G B λU m4 i w=>⟨_,O,λ_=>⟨V,V,v,(a.N i).aS m,V,V,y,(k.ext (a.N i)).br C,?_⟩,λ_=>E V _ _ ⟨w,l,o.ext i,V⟩⟩;intro m5;exact GI.nI (o.ext i) (w.fz []) V λr m6 M A _ _=>⟨J.sY (w.cz _) A.ext B,E V _ _ ⟨A.ext,_,M,fu⟩⟩
end
section
variable{b:ad}{e:D}{d r:E}{f:List jV}{c:Prop}{W:Nat}
def C5(L:∀c∈b,c<e.size){lt:E}{s:af}{B:List ab}(w:iD e d r s f)(hW:W<=1000000)(hk:Da s f c W)(ae:rX e lt B)(aJ:B.length=f.length)(ap:∀c∈B,c.length<=3):
 zI 259 [.agg #[d.v,r.v],lt.v] e b s λx=>Da s x c W/\x.length=f.length:=by
 apply Ih
 simp -zeta only[dT]
 intro g a2
 let⟨F,P⟩:=fV (a:=g) (c:=a2) O O
 have s1:=pz g
 have au:=w.lJ.aT;have aL:=w.pP
 refine(jz (b:=g.size::b) (dH L F.aQ (P _ bO)) (w.le F.le).bR w.dj).aP λ_ T⟨dd,h,an,Y⟩=>?_
 subst h
 refine⟨Y.fg P,_,O,?_⟩
 intro n aB aC
 have u2:=F.N Y
 let⟨x5,B0,g0,s3,s5⟩:=ov (b:=n.size::g.size::b) lz.aP (d:=T) (a:=n) (c:=aB) (j:=aC) O O O
 have ad:∀c∈[g.size,e.size],c<T.size:=by grind [J.lt]
 have aG:∀c∈g.size::b,c<T.size:=λc t=>Y.lt (dH L F.aQ (P _ bO) c t)
 refine nV (R:=λj k M=>∃d r x,Value.agg #[j.v,k.v]=.agg #[d.v,r.v]/\iD (di b M) d r s x/\(Da s x c W/\x.length=f.length)/\J e M) lz.aP cH cH L ⟨V,ad _ bO⟩ u2 s3 an au V x5 B0 g0 (λ_ q=>q.aY.length<=3/\q.cW.length<=3/\WB s f.length c q.aY.length q.eZ/\q.eZ.w<=W) (λk U ai m' h1 z j l m=>⟨k,U,ai,O,⟨h1,z,w.dj,V⟩,⟨Mw hk.iY j l,j⟩,m⟩) λah M o ai aE μ ao aI xM ac H aD=>?_
 let⟨q,hq⟩:=dY f ah ao
 let⟨ar,aH,ax,hw⟩:=hk.eR q (ba hq)
 have v6:=u2.N xM
 let⟨aN,aO,m,c1,c2,c3,e0,e1,e2,e3,e4⟩:=w.lJ.br hq
 have G:∀{ak:Value}{m v:Nat},aS e m v=some ak->aS M m v=some ak:=λK=>v6.aS K
 refine⟨V,V,_,G e0,_,G e1,_,G e2,_,G e3,_,G e4,?_⟩
 intro m7 l
 have hy:=ac.cF
 have aF:=H.lt
 have zM:=xM.aQ
 have Z:J M l:=by grind [J.push,J.aW]
 have s8:l.size=M.size+1:=by grind [bE]
 have A:∀c∈[M.size,g.size,e.size],c<l.size:=λc t=>by
  grind
 have y:=v6.N Z
 have k:∀{M1 M2:D},J l M1->J l M2->∀m,m<l.size->∀v,aS M2 m v=aS M1 m v:=λK h' m hb v=>bD cC v
 have u:M.size<l.size:=V
 have Q:n.size<l.size:=V
 let⟨aa,ag⟩:=dY B ah
 let⟨yt,az,I⟩:=ae.br ag
 have ay:=ap aa (ba ag)
 have aK:=ae.aT
 have N:∀{M':D},l.size<=M'.size->∀c∈o.bt::n.size::g.size::b,c<M'.size:=λK c t=>by
  grind
 refine⟨o,(H.ext Z).dg 1,V,V,yt,y.aS I,?_⟩
 refine(dF (o.bt::n.size::g.size::b) (c1.ext y) V).bL (J.cX l) A λp' _ m9 gp h j _=>⟨_,O,k dt j _ u _,k dt j _ u _,k dt j _ u _,((y.N j).aS I).trans (y.aS I).symm,k dt j _ Q _,?_⟩
 subst h
 refine(dF (o.bt::n.size::g.size::b) (az.ext (y.N j)) V).bL j A λt' _ aA gt h al p=>⟨_,O,k j p _ u _,k j p _ u _,k j p _ u _,k j p _ Q _,?_⟩
 subst h
 have z9:=j.aQ;have C8:=al.aQ
 refine(AT q.eZ (o.bt::n.size::g.size::b) aA (N V) m (c3.le (y.N p).le) V).bL p A λss b' aj av h am C=>⟨_,_,O,k p C _ u _,k p C _ Q _,?_⟩
 subst h
 intro aM
 have X:=Z.N C
 have aP:=C.aQ
 have aq:bg (di (o.bt::n.size::g.size::b) aj) p' q.aY:=(gp.cB (N V) V).le ((al.N am).eX)
 have aw:bg (di (o.bt::n.size::g.size::b) aj) t' aa:=(gt.cB (N V) V).le am.eX
 exact Gr.bU (h:=[.s .nil,.s .nil,.i 0,.s .nil,.i 0]) (j:=1) (w:=88) (o:=[.s dd,.s o]) (v:=⟨q.aY,aa,q.bP,q.eZ⟩) lz.aP cH (ac.ext lz.aP X) ((xM.N X).fz []) ⟨p',t',ss,O,aq,aw,av⟩ V (H.ext X) bO cH ⟨V,bO⟩ (λc t=>by have h1:=A c t;have z:=ad c;simp only[aZ]at t z;rcases t with h|h|h|h<;>first|omega|(have:=z (by simp[h]);omega)|simp at h) λU m' g' z f' z' q'=>aD U m' _ g' z f'.ext ⟨ar,ay,ax,hw⟩
def OT(hS:∀c∈b,c<e.size){w:af}(hn:iD e d r w f)(hW:W<=1000000)(hk:Da w f c W):zI 244 [.agg #[E.v d,E.v r]] e b w λp=>Da w p c W:=by
 apply HL;simp -zeta only[kU,nQ];intro k a2;let⟨x2,F⟩:=fV (a:=k) (c:=a2) O O;have s1:=pz k;clear_value a2;have az:=hn.pP;have ah:∀c∈k.size::b,c<a2.size:=dH hS x2.aQ (F _ bO);have j:∀{M o:D},J a2 M->J a2 o->∀ac,aS o e.size ac=aS M e.size ac:=λq h' ac=>bD (by rw[h'.bB _ (F _ bO),q.bB _ (F _ bO)]) ac;have tail:∀(P:D)(a:Nat)(v u:E)(A:List jV),J a2 P->a2.size<=a->dJ P a qX [.s v,.s u]->iD (di (a::k.size::b) P) v u w A->Da w A c W->
  ∃(I0:Int->D->Prop)(μ0:Int->D->Nat),I0 0 P/\(∀(l:Int)(t:D),I0 l t->
   ((decide (l<=12))=true->
    let T:=t.push (.cells (dh []) CJ)
    ∃(y:E->Int->D->Prop)(μ1:E->Int->D->Nat),y (E.mk t.size 0 0 0) 0 T/\(∀(s:E)(x:Int)(g:D),y s x g->
     ∃B:E,aS g a 1=some (E.v B)/\
     ((decide (x<(B.len:Int)))=true->∃h:E,aS g a 0=some (E.v h)/\∃i:E,aS g a 1=some (E.v i)/\
      bJ dP 261 [.agg #[E.v h,E.v i],vi x] g λr2 L=>gT [k.size,e.size] g L/\∃X:E,r2=E.v X/\
       let aa:=L.push (.cells (dh [.s X]) CJ)
       mf aa CJ [.s E.nil] 24 s (E.mk L.size 0 1 1) λC z=>gT [k.size,e.size] aa z/\y C (eV (x+1)) z/\μ1 C (eV (x+1)) z<μ1 s x g)/\
     ((decide (x<(B.len:Int)))=false->∃h:E,aS g a 0=some (E.v h)/\∃i:E,aS g a 1=some (E.v i)/\
      bJ dP 259 [.agg #[E.v h,E.v i],E.v s] g λG H=>gT [k.size,e.size] g H/\∃z:E,∃C:E,G=.agg #[E.v z,E.v C]/\gK H a 0 2/\
       let I:=aW H a 0 [.s z,.s C]
       gT [k.size,e.size] H I/\I0 (eV (l+1)) I/\μ0 (eV (l+1)) I<μ0 l t)))/\
   ((decide (l<=12))=false->∃h:E,aS t a 0=some (E.v h)/\∃i:E,aS t a 1=some (E.v i)/\
    let ae:=aW t k.size 0 [.s h,.s i]
    ∃d r p,Value.agg #[E.v h,E.v i]=.agg #[E.v d,E.v r]/\iD (di b ae) d r w p/\Da w p c W/\J e ae)):=by
  intro P a v u A R ap hB hN Q
  refine iC (n:=13) V (λ_ M=>J a2 M/\∃v u A,dJ M a qX [.s v,.s u]/\iD (di (a::k.size::b) M) v u w A/\Da w A c W) ⟨R,v,u,A,hB,hN,Q⟩ ?_
  rintro aC t aw μ ay ⟨x6,v,u,A,G,N,K⟩ av
  have ax:=G.lt
  have aB:=N.lJ.aT
  have aA:=N.pP
  refine⟨λq=>?_,λq=>?_⟩
  .simp only[bh]at q
   intro T
   have am:=px T
   have g0:GII [] t T (.mk t.size 0 0 0) []:=Gr.bI _ bY
   refine gN (n:=A.length) V (λx s M=>J t M/\∃l,GII [] t M s l/\l.length=x/\∀c∈l,c.length<=3) ⟨am,[],g0,O,bO⟩ ?_
   rintro x s g I2 μ2 hf ⟨B,l,Z,an,y⟩ aj
   have u8:=x6.N B
   have N8:=N.le B.eX
   refine⟨u,(G.ext B).dg 1,dit (λC=>?_) λC=>?_⟩
   .let⟨U,Y⟩:=dY A x
    have al:=(K.eR U (ba Y)).2.1
    have h:=Z.cF
    refine⟨v,(G.ext B).dg 0,u,(G.ext B).dg 1,?_⟩
    refine(OO (c:=[s.bt]) fu (N8.le fJ) K Y).bL u8 F λX ao L ag aq x9 u9=>⟨_,O,?_⟩
    intro aa
    refine Gr.nI nD.aP cH (Z.ext nD.aP x9) ((B.N x9).fz []) ⟨X,O,ag.cB fu V⟩ V λz o g' i _ _=>⟨J.sY (u9.cz _) (x6.N i.ext) F,aj V _ _ ⟨i.ext,_,g',fu,λai h=>?_⟩⟩
    rcases bT.1 h with h|h
    .exact y ai h
    .simp at h;subst h;omega
   .refine⟨v,(G.ext B).dg 0,u,(G.ext B).dg 1,?_⟩
    have ag:rX g s l:=fY.le (Z.cB nD.aP bO cH V) fJ (nD.le fJ)
    have z8:=B.aQ
    refine(C5 (b:=a::k.size::b) (λc i=>?_) (N8.le fJ) hW K ag V y).aP λ_ H⟨d2,r2,al,h,N2,⟨K2,_⟩,X⟩=>?_
    .rcases aZ.1 i with h|h
     .omega
     .have:=ah c h;omega
    subst h
    have aa:=(G.ext B).ext X
    refine⟨u8.abE F X,_,_,O,aa.gK bO,?_⟩
    intro I
    have ai:∀L,L≠a->I[L]? =H[L]? :=λL hb=>cw _ _ _ _ hb
    refine⟨λc i=>ai c (oh (F c i)),av V _ ⟨(u8.N X).aW ap _ _,d2,r2,al,dJ.aW (m:=H) aa,N2.le (dU bO λ_ q=>q),K2⟩⟩
  .refine⟨v,G.dg 0,u,G.dg 1,?_⟩
   intro ae
   exact⟨v,u,A,O,(N.le (kW t λc i=>aX _ i)).le (dU bO λc i=>aX _ i),K,(x2.N x6).aW V _ _⟩
 have aq:∀U∈f,U.aY.length<=3:=λU Y=>(hk.eR U Y).1;have aj:∀(M:D)(L:ad)(K:ak),J a2 M->(∀c∈L,c<M.size)->(∀s l o,rX o s l->l.length=f.length->(∀c∈l,c.length<=3)->J M o->K (E.v s) o)->bJ dP 260 [.agg #[E.v d,E.v r]] M λai T=>gT L M T/\K ai T:=λM L K R hL Q=>
  (Ld (c:=[]) bO (hn.le (x2.N R).le) aq).aP λ_ o⟨s,l,h,H,C,y,X⟩=>⟨X.fg hL,h▸Q s l o (fY.le H fJ (nD.le fJ)) C y X⟩
 have cW:∀(M:D)(S' L:ad)(K:ak)(s:E)(l:List ab),J a2 M->(∀c∈L,c<M.size)->(∀c∈S',c<M.size)->rX M s l->l.length=f.length->(∀c∈l,c.length<=3)->(∀B z p o,iD (di S' o) B z w p->Da w p c W->J M o->K (.agg #[E.v B,E.v z]) o)->bJ dP 259 [.agg #[E.v d,E.v r],E.v s] M λai T=>gT L M T/\K ai T:=λM S' L K s l R hL ao H C y Q=>
  (C5 ao (hn.le (x2.N R).le) hW hk H C y).aP λ_ o⟨B,z,p,h,N,⟨K1,_⟩,X⟩=>⟨X.fg hL,h▸Q B z p o N K1 X⟩
 have al:∀{M:D}{a:Nat},J a2 M->a<M.size->∀c∈a::k.size::b,c<M.size:=λq hb c i=>by
  have:=q.aQ;rcases aZ.1 i with h|h
  .omega
  .have:=ah c h;omega
 have ag:∀{M:D}{a:Nat},J a2 M->a<M.size->∀c∈[a,k.size,e.size],c<M.size:=λq hb c i=>by
  rcases aZ.1 i with h|h
  .omega
  .exact q.lt (F c h)
 refine⟨aj a2 _ _ dt F λs l aa H C y g=>⟨_,O,j dt g _,j dt g _,⟨?_,?_⟩⟩,?_⟩
 .refine cW aa (k.size::b) _ _ s l g (λc i=>g.lt (F c i)) (λc i=>g.lt (ah c i)) H C y λB z p m3 N K I=>⟨_,_,O,?_⟩;have x:=g.N I;intro m4;have Z:J a2 m4:=x.cz _;refine⟨j x Z _,j x Z _,j x Z _,j x Z _,?_⟩;intro m5;have ae:=py m5;exact tail m5 m3.size B z p (x.N ae) x.aQ (dJ.aW (m:=m4) (dJ.push m3 _ _)) (N.le (ae.di λc i=>by
   rcases aZ.1 i with h|h
   .exact bH V
   .exact bz h)) K
 .intro Z;have x:J a2 Z:=g.cz _;refine⟨j g x _,j g x _,j g x _,j g x _,?_⟩;refine cW Z (aa.size::k.size::b) _ _ s l x (ag x (by simp[Z])) (al x (by simp[Z])) (rX.ext (J.push _ _) H) C y λB z p ae N K I=>⟨_,_,O,?_⟩;intro am;exact tail am aa.size B z p ((x.N I).aW g.aQ _ _) g.aQ (dJ.aW (m:=ae) ((dJ.push aa _ _).ext I)) (N.le (dU bO λ_ q=>q)) K
 .intro Z;have x:=px Z;refine⟨j dt x _,j dt x _,j dt x _,j dt x _,?_⟩;refine aj Z _ _ x (ag x (by simp[Z])) λs l an H C y g=>⟨_,O,j x (x.N g) _,j x (x.N g) _,?_⟩;have ae:=x.N g;have am:a2.size<an.size:=g.lt (by simp[Z]);refine cW an (a2.size::k.size::b) _ _ s l ae (ag ae am) (al ae am) H C y λB z p ar N K I=>⟨_,_,O,?_⟩;intro au;exact tail au a2.size B z p ((ae.N I).aW bY _ _) bY (dJ.aW (m:=ar) ((dJ.push a2 _ _).ext (g.N I))) (N.le (dU bO λ_ q=>q)) K
end
end Go.Proofs.YtbbbdejieenniaaGreat
