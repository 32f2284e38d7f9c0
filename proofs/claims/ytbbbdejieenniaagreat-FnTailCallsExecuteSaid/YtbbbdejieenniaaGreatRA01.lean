/- Part of a proof. -/
import Derived.Test.YtbbbdejieenniaaGreatRA00
set_option linter.all false
set_option maxHeartbeats 8000000
set_option maxRecDepth 100000
namespace Go.Proofs.YtbbbdejieenniaaGreat
open Go.Vc
section
open Tryz
variable{m:E}{R:ai}
variable{a b p d e f g h r u v w x y z B:N}{i j k l q o s t C D F G H I J K:Int}
def vO(a b:Int)(c:Bool)(d e f:Int):=eO m R A0 [.agg [a,b,.t c,d,e,f]] func238
def vP(i:Int):=eO m R A0 [i] func239
def BE(p:aj):=eO m R A0 [p,i] func240
def Dt(a:N):=eO m R A0 [a,i,j] func241
def Ff(a:N):=eO m R ⟨[(3,[(4,.I)])],[(8,[(7,.P)])],[(3,[51,50]),(8,[54,51,50])]⟩ [.agg [a,b]] func242
def wq(r:aj)(m:E)(R:ai):Prop:=
 let M:E:=m.push (.cells (de [.s N.nil,.s N.nil]) 109)
 bJ dN 200 [vp r.1 r.2] M λcb a=>
 gL [m.size] M a/\
 ∃o,cb=N.v o/\
 let b8:E:=a.push (.cells (de [.s N.nil,.s N.nil]) 109)
 Oq a.size a.size (
 let aa:E:=aV b8 a.size 0 [.s o,.s N.nil]
 let ah:E:=aa.push (.cells (de [.i 1]) 3)
 bJ dN 257 [N.v (N.mk aa.size 0 1 1),vi 0] ah λcm F=>
 gL [a.size,m.size] ah F/\
 ∃ap aI a1 bh bz,cm=.agg #[N.v ap,vi aI,vi a1,vi bh,N.v bz]/\
 let an:E:=F.push (.cells (de [.i 1,.i 1]) 3)
 bJ dN 257 [N.v (N.mk F.size 0 2 2),vi 1] an λct H=>
 gL [a.size,m.size] an H/\
 ∃aq aS a_ bi bA,ct=.agg #[N.v aq,vi aS,vi a_,vi bi,N.v bA]/\
 let ao:E:=H.push (.cells (de [.i 1]) 3)
 bJ dN 257 [N.v (N.mk H.size 0 1 1),vi 1] ao λcu I=>
 gL [a.size,m.size] ao I/\
 ∃aA aT ba bq bI,cu=.agg #[N.v aA,vi aT,vi ba,vi bq,N.v bI]/\
 let O:E:=I.push (.cells (de [.i 1,.i 0]) 3)
 bJ dN 257 [N.v (N.mk I.size 0 2 2),vi 1] O λcv t=>
 gL [a.size,m.size] O t/\
 ∃aB aU bb br bK,cv=.agg #[N.v aB,vi aU,vi bb,vi br,N.v bK]/\
 let P:E:=t.push (.cells (de [.i 2,.i 1]) 3)
 bJ dN 257 [N.v (N.mk t.size 0 2 2),vi 1] P λcw u=>
 gL [a.size,m.size] P u/\
 ∃aC aW bc bs bL,cw=.agg #[N.v aC,vi aW,vi bc,vi bs,N.v bL]/\
 let Q:E:=u.push (.cells (de [.i 1,.i 1]) 3)
 bJ dN 257 [N.v (N.mk u.size 0 2 2),vi 0] Q λcx c=>
 gL [a.size,m.size] Q c/\
 ∃aD aX bd bt bM,cx=.agg #[N.v aD,vi aX,vi bd,vi bt,N.v bM]/\
 let S:E:=c.push (.cells (de [.s ap,.i aI,.i a1,.i bh,.s bz,.s aq,.i aS,.i a_,.i bi,.s bA,.s aA,.i aT,.i ba,.i bq,.s bI,.s aB,.i aU,.i bb,.i br,.s bK,.s aC,.i aW,.i bc,.i bs,.s bL,.s aD,.i aX,.i bd,.i bt,.s bM]) 164)
 let T:E:=S.push (.cells (de [.i 3]) 3)
 bJ dN 257 [N.v (N.mk S.size 0 1 1),vi 0] T λcc v=>
 gL [a.size,m.size] T v/\
 ∃aE aY be bu bN,cc=.agg #[N.v aE,vi aY,vi be,vi bu,N.v bN]/\
 let U:E:=v.push (.cells (de [.i 0]) 3)
 bJ dN 257 [N.v (N.mk v.size 0 1 1),vi 1] U λcd w=>
 gL [a.size,m.size] U w/\
 ∃aF aZ bf bv bO,cd=.agg #[N.v aF,vi aZ,vi bf,vi bv,N.v bO]/\
 let V:E:=w.push (.cells (de [.i 0,.i 1]) 3)
 bJ dN 257 [N.v (N.mk w.size 0 2 2),vi 1] V λce x=>
 gL [a.size,m.size] V x/\
 ∃aG a0 bg bw bP,ce=.agg #[N.v aG,vi a0,vi bg,vi bw,N.v bP]/\
 let W:E:=x.push (.cells (de [.i 3,.i 0]) 3)
 bJ dN 257 [N.v (N.mk x.size 0 2 2),vi 3] W λcf y=>
 gL [a.size,m.size] W y/\
 ∃aH aJ a2 bx bQ,cf=.agg #[N.v aH,vi aJ,vi a2,vi bx,N.v bQ]/\
 let X:E:=y.push (.cells (de [.i 3]) 3)
 bJ dN 257 [N.v (N.mk y.size 0 1 1),vi 1] X λcg z=>
 gL [a.size,m.size] X z/\
 ∃ar aK a3 bj bB,cg=.agg #[N.v ar,vi aK,vi a3,vi bj,N.v bB]/\
 let Y:E:=z.push (.cells (de [.i 1,.i 3,.i 0]) 3)
 bJ dN 257 [N.v (N.mk z.size 0 3 3),vi 0] Y λch g=>
 gL [a.size,m.size] Y g/\
 ∃au aL a4 bk bC,ch=.agg #[N.v au,vi aL,vi a4,vi bk,N.v bC]/\
 let Z:E:=g.push (.cells (de [.s aE,.i aY,.i be,.i bu,.s bN,.s aF,.i aZ,.i bf,.i bv,.s bO,.s aG,.i a0,.i bg,.i bw,.s bP,.s aH,.i aJ,.i a2,.i bx,.s bQ,.s ar,.i aK,.i a3,.i bj,.s bB,.s au,.i aL,.i a4,.i bk,.s bC]) 164)
 let ab:E:=Z.push (.cells (de [.i 0]) 3)
 bJ dN 257 [N.v (N.mk Z.size 0 1 1),vi 0] ab λci A=>
 gL [a.size,m.size] ab A/\
 ∃av aM a5 bl bD,ci=.agg #[N.v av,vi aM,vi a5,vi bl,N.v bD]/\
 let ac:E:=A.push (.cells (de [.i 0,.i 0]) 3)
 bJ dN 257 [N.v (N.mk A.size 0 2 2),vi 0] ac λcj B=>
 gL [a.size,m.size] ac B/\
 ∃aw aN a6 bm bE,cj=.agg #[N.v aw,vi aN,vi a6,vi bm,N.v bE]/\
 let ad:E:=B.push (.cells (de [.i 1,.i 0]) 3)
 bJ dN 257 [N.v (N.mk B.size 0 2 2),vi 0] ad λck C=>
 gL [a.size,m.size] ad C/\
 ∃ax aO a7 bn bF,ck=.agg #[N.v ax,vi aO,vi a7,vi bn,N.v bF]/\
 let ae:E:=C.push (.cells (de [.i 0]) 3)
 bJ dN 257 [N.v (N.mk C.size 0 1 1),vi 1] ae λcl k=>
 gL [a.size,m.size] ae k/\
 ∃ay aP a8 bo bG,cl=.agg #[N.v ay,vi aP,vi a8,vi bo,N.v bG]/\
 let af:E:=k.push (.cells (de [.s av,.i aM,.i a5,.i bl,.s bD,.s aw,.i aN,.i a6,.i bm,.s bE,.s ax,.i aO,.i a7,.i bn,.s bF,.s ay,.i aP,.i a8,.i bo,.s bG]) 164)
 let ag:E:=af.push (.cells (de []) 3)
 bJ dN 257 [N.v (N.mk af.size 0 0 0),vi 0] ag λcn D=>
 gL [a.size,m.size] ag D/\
 ∃az aQ a9 bp bH,cn=.agg #[N.v az,vi aQ,vi a9,vi bp,N.v bH]/\
 bJ dN 74 [vp r.1 r.2,vi ((N.mk c.size 0 6 6).len:Int)] D λco i=>
 gL [a.size,m.size] D i/\
 ∃d,co=vi d/\
 0<=d/\d<((N.mk c.size 0 6 6).len:Int)/\
 ∃bS,aR i c.size (0+Int.toNat d*5)=some (N.v bS)/\
 ∃bT,aR i c.size (0+Int.toNat d*5+1)=some (vi bT)/\
 ∃bU,aR i c.size (0+Int.toNat d*5+2)=some (vi bU)/\
 ∃bV,aR i c.size (0+Int.toNat d*5+3)=some (vi bV)/\
 ∃bW,aR i c.size (0+Int.toNat d*5+4)=some (N.v bW)/\
 bJ dN 74 [vp r.1 r.2,vi ((N.mk g.size 0 6 6).len:Int)] i λcp e=>
 gL [a.size,m.size] i e/\
 ∃h,cp=vi h/\
 aR e c.size (0+Int.toNat d*5)=aR i c.size (0+Int.toNat d*5)/\
 aR e c.size (0+Int.toNat d*5+1)=aR i c.size (0+Int.toNat d*5+1)/\
 aR e c.size (0+Int.toNat d*5+2)=aR i c.size (0+Int.toNat d*5+2)/\
 aR e c.size (0+Int.toNat d*5+3)=aR i c.size (0+Int.toNat d*5+3)/\
 aR e c.size (0+Int.toNat d*5+4)=aR i c.size (0+Int.toNat d*5+4)/\
 0<=h/\h<((N.mk g.size 0 6 6).len:Int)/\
 ∃bX,aR e g.size (0+Int.toNat h*5)=some (N.v bX)/\
 ∃bY,aR e g.size (0+Int.toNat h*5+1)=some (vi bY)/\
 ∃bZ,aR e g.size (0+Int.toNat h*5+2)=some (vi bZ)/\
 ∃b0,aR e g.size (0+Int.toNat h*5+3)=some (vi b0)/\
 ∃b1,aR e g.size (0+Int.toNat h*5+4)=some (N.v b1)/\
 bJ dN 74 [vp r.1 r.2,vi ((N.mk k.size 0 4 4).len:Int)] e λcq b=>
 gL [a.size,m.size] e b/\
 ∃n,cq=vi n/\
 aR b g.size (0+Int.toNat h*5)=aR e g.size (0+Int.toNat h*5)/\
 aR b g.size (0+Int.toNat h*5+1)=aR e g.size (0+Int.toNat h*5+1)/\
 aR b g.size (0+Int.toNat h*5+2)=aR e g.size (0+Int.toNat h*5+2)/\
 aR b g.size (0+Int.toNat h*5+3)=aR e g.size (0+Int.toNat h*5+3)/\
 aR b g.size (0+Int.toNat h*5+4)=aR e g.size (0+Int.toNat h*5+4)/\
 aR b c.size (0+Int.toNat d*5)=aR e c.size (0+Int.toNat d*5)/\
 aR b c.size (0+Int.toNat d*5+1)=aR e c.size (0+Int.toNat d*5+1)/\
 aR b c.size (0+Int.toNat d*5+2)=aR e c.size (0+Int.toNat d*5+2)/\
 aR b c.size (0+Int.toNat d*5+3)=aR e c.size (0+Int.toNat d*5+3)/\
 aR b c.size (0+Int.toNat d*5+4)=aR e c.size (0+Int.toNat d*5+4)/\
 0<=n/\n<((N.mk k.size 0 4 4).len:Int)/\
 ∃b2,aR b k.size (0+Int.toNat n*5)=some (N.v b2)/\
 ∃b3,aR b k.size (0+Int.toNat n*5+1)=some (vi b3)/\
 ∃b4,aR b k.size (0+Int.toNat n*5+2)=some (vi b4)/\
 ∃b5,aR b k.size (0+Int.toNat n*5+3)=some (vi b5)/\
 ∃b6,aR b k.size (0+Int.toNat n*5+4)=some (N.v b6)/\
 let b9:E:=b.push (.cells (de [.s az,.i aQ,.i a9,.i bp,.s bH,.s bS,.i bT,.i bU,.i bV,.s bW,.s bX,.i bY,.i bZ,.i b0,.s b1,.s b2,.i b3,.i b4,.i b5,.s b6]) 164)
 Oq a.size a.size (
 let ak:E:=aV b9 a.size 1 [.s (N.mk b.size 0 4 4)]
 let al:E:=ak.push (.cells (de [.i 4,.i 4,.i 3,.i 2,.i 4]) 3)
 bJ dN 77 [vp r.1 r.2,N.v (N.mk ak.size 0 5 5)] al λcr am=>
 gL [a.size,m.size] al am/\
 ∃j,cr=vi j/\
 Oq a.size a.size (
 (0:Int)<=0/\0<=j/\j<=((N.mk b.size 0 4 4).cap:Int)/\
 Oq a.size a.size (
 let b_:E:=aV am a.size 1 [.s (N.cut (N.mk b.size 0 4 4) 0 (Int.toNat j) 5)]
 ∃(s:Int->E->Prop)(μ0:Int->E->Nat),
 s (eR (j -1)) b_/\
 (∀(f:Int)(p:E),s f p->
 (decide (f>=0)=true->
 Oq a.size a.size (
 bJ dN 258 [vp r.1 r.2,.agg #[N.v o,N.v (N.cut (N.mk b.size 0 4 4) 0 (Int.toNat j) 5)],vi f] p λcs l=>
 gL [a.size,m.size] p l/\
 ∃J K L,cs=.agg #[vi J,vi K,N.v L]/\
 let ca:E:=l.push (.cells (de [.i 0,.i 0,.s N.nil]) 162)
 Oq l.size l.size (
 let q:E:=aV ca l.size 0 [.i J,.i K,.s L]
 Oq a.size a.size (
 Oq a.size a.size (
 0<=f/\f<((N.cut (N.mk b.size 0 4 4) 0 (Int.toNat j) 5).len:Int)/\
 ∃b7,aR q b.size (0+Int.toNat f*5)=some (N.v b7)/\
 Oq a.size a.size (
 0<=f/\f<((N.cut (N.mk b.size 0 4 4) 0 (Int.toNat j) 5).len:Int)/\
 ∃bR,aR q b.size (0+Int.toNat f*5+1)=some (vi bR)/\
 Oq l.size l.size (
 0<=f/\f<((N.cut (N.mk b.size 0 4 4) 0 (Int.toNat j) 5).len:Int)/\
 iQ q b.size (0+Int.toNat f*5) 5/\
 let G:E:=aV q b.size (0+Int.toNat f*5) [.s b7,.i bR,.i J,.i K,.s L]
 gL [l.size,a.size,m.size] q G/\
 eqS (SV.box a.size 109 [.s o,.s (N.cut (N.mk b.size 0 4 4) 0 (Int.toNat j) 5)]) (SV.box a.size 109 [.s o,.s (N.cut (N.mk b.size 0 4 4) 0 (Int.toNat j) 5)]) (
 eqS (SV.box m.size 109 [.s N.nil,.s N.nil]) (SV.box m.size 109 [.s N.nil,.s N.nil]) (
 s (eR (f -1)) G/\μ0 (eR (f -1)) G<μ0 f p)))))))))/\
 (decide (f>=0)=false->
 Oq a.size a.size (
 Oq m.size m.size (
 let l:E:=aV p m.size 0 [.s o,.s (N.cut (N.mk b.size 0 4 4) 0 (Int.toNat j) 5)]
 Oq m.size m.size (
 R (.agg #[N.v o,N.v (N.cut (N.mk b.size 0 4 4) 0 (Int.toNat j) 5)]) l)))))))))
def BH(r:aj)(m:E)(R:ai)(a:wq r m R):bJ dN 243 [vp r.1 r.2] m R:=
 xW (o:=⟨[(9,[(8,.I)])],[],[(9,[113,112])]⟩) (d:=110) (r:=[.cell 2 109]) (a:=[.c (.p r.1 r.2)]) QC gok mix Tryz.func243 (m:=OU Tryz.f243) (by kernel_rfl) (by kernel_rfl) (by kernel_rfl) (by kernel_rfl) bO (by kernel_rfl) (Eq.mp (by kernel_rfl) a)
def Ha(a:N):=eO m R ⟨[(3,[(4,.I)]),(7,[(5,.S),(6,.I)])],[],[(3,[35,34]),(7,[35,34])]⟩ [.agg [a,b]] func244
def EK(a:N):=eO m R ⟨[(5,[(6,.S),(7,.S),(8,.I)])],[],[(5,[69,68,67])]⟩ [.agg [a,b],.agg [p,d,i,e,j]] func245
def EX(a:N):=eO m R ⟨[(5,[(9,.S),(10,.S),(11,.S),(12,.I)])],[],[(5,[88,86,84])]⟩ [.agg [a,b],p,.agg [d,i],e] func246
def Fh(a:N):=eO m R ⟨[(3,[(3,.S),(4,.I)])],[],[(3,[32])]⟩ [.agg [a,b,i,p,j]] func247
def Ca(a:N):=eO m R ⟨[(4,[(3,.I)])],[],[(4,[36])]⟩ [.agg [a,b]] func248
def E8(a:N):=eO m R ⟨[(3,[(4,.I)])],[],[(3,[46])]⟩ [.agg [a,b,i,p,j]] func249
def BN(c:aj):=eO m R ⟨[],[(16,[(8,.T)])],[(16,[94,93])]⟩ [c,.agg [a,b],.agg [i,j,k,p,d]] func250
def KE(i:Int):=eO m R A0 [.agg [i,j,k,a,b]] func251
def Hk(a:N):=eO m R ⟨[(5,[(3,.S),(4,.S),(6,.I)]),(8,[(3,.S),(7,.I)]),(11,[(4,.S),(7,.I)])],[],[]⟩ [a] func252
def Jf(a:N):=eO m R ⟨[(8,[(10,.S),(11,.S),(12,.I)])],[],[(8,[96,92])]⟩ [.agg [a,i],j,b,k] func253
def Hi(a:N):=eO m R A0 [.agg [a,b],.agg [i,j,k,p,d],l,e] func254
def nk(s:N)(f:Fn×Array Value×Array Value):=eO m R ⟨[(2,[(8,.I)])],[],[]⟩ [s,.c (.fv f)] func255
end
section
open Tryz
variable{m:E}{R:ai}
variable{a b c d e f g h p q r u v w x y:N}{i j k l n o s t z A B C D F G H:Int}
def Dg(a:N):=eO m R A0 [.agg [a,b],.agg [i,j,c],d,k] func256
def Qq(a:N):=eO m R A0 [a,i] func257
def Kp(p:aj):=eO m R ⟨[],[(7,[(34,.T)]),(9,[(51,.T)]),(11,[(77,.T)]),(15,[])],[(7,[131,127,125]),(9,[131,127,125]),(11,[131,127,125]),(15,[127,125])]⟩ [p,.agg [a,b],i] func258
def Hu(a:N):=eO m R ⟨[(3,[(6,.I)])],[],[(3,[49,47])]⟩ [.agg [a,b],c] func259
def C7(a:N):=eO m R ⟨[(3,[(3,.S),(4,.I)])],[],[(3,[32])]⟩ [.agg [a,b]] func260
def G6(a:N):=eO m R ⟨[(3,[(5,.S),(6,.I)])],[],[(3,[52])]⟩ [.agg [a,b],i] func261
def KO(a:N):=eO m R A0 [.agg [a,i],j] func262
def C9(a:N):=eO m R ⟨[(5,[(11,.S),(12,.S),(13,.S),(14,.I)]),(17,[(13,.S),(20,.I)])],[],[(5,[159,156,154]),(17,[164,159,156,154])]⟩ [.agg [a,b],c,.agg [d,i],e,f] func263
def EM(i:Int):=eO m R ⟨[(3,[(5,.S),(6,.I)])],[],[]⟩ [i,a] func264
def Hq(a:N):=eO m R ⟨[],[(3,[]),(30,[(151,.T)])],[(3,[188,186]),(30,[188,186])]⟩ [.agg [a,b],c,.agg [i,j,k,d,e]] func265
def yu(a:N):=eO m R ⟨[(3,[(7,.S),(8,.I)])],[],[(3,[36,34])]⟩ [.agg [a,b],c,.agg [i,j,k,d,e]] func266
def G9(a:N):=eO m R ⟨[(4,[(7,.S),(9,.I)])],[(9,[(10,.S)])],[(4,[78,77,75]),(9,[78,77,75])]⟩ [.agg [a,b],c,.agg [i,j,k,d,e]] func267
def xR(a:N):=eO m R ⟨[(4,[(3,.I)])],[],[(4,[36])]⟩ [.agg [a,b]] func268
def Jn(a:N):=eO m R A0 [.agg [a,i]] func269
def EE(a:N):=eO m R ⟨[(3,[(7,.S),(8,.I)])],[],[(3,[57,55])]⟩ [.agg [a,b],c,.agg [d,i]] func270
def BK(p:aj):=eO m R A0 [p,i,j,k] func271
def BO(p:aj):=eO m R A0 [p,i] func272
def BL(p:aj):=eO m R ⟨[(6,[(9,.I)])],[(4,[])],[(4,[110,109]),(6,[110,109])]⟩ [p,.agg [a,b],.agg [i,j,k,c,d]] func273
end
section
open Tryz
variable{m:E}{R:ai}
variable{a b c d e f g h p q r u v w x y:N}{i j k l n o s t z A B C D F G H:Int}
def zD(p:aj):=eO m R ⟨[(7,[(9,.I)])],[(3,[])],[(3,[93,92]),(7,[93,92])]⟩ [p,.agg [a,b],.agg [i,j,k,c,d]] func274
def xL(p:aj):=eO m R ⟨[(2,[(7,.I)]),(7,[(8,.I)])],[],[(2,[84,83]),(7,[84,83])]⟩ [p,.agg [a,b],.agg [i,j,k,c,d]] func275
def KS(a:N):=eO m R ⟨[(3,[(3,.S),(4,.I)])],[],[]⟩ [a] func276
def Mi(a:N):=eO m R ⟨[(3,[(5,.I),(6,.I)])],[],[]⟩ [a,i] func277
def Fl(a:N):=eO m R ⟨[(2,[(3,.I)])],[],[(2,[21])]⟩ [.agg [a,i]] func278
def Gz(a:N):=eO m R ⟨[(3,[(7,.S),(8,.I)])],[],[(3,[38])]⟩ [.agg [a,i],j,k] func279
def AO(a:N):=eO m R ⟨[(4,[(5,.S),(6,.T),(7,.I)])],[],[]⟩ [a,i] func280
def Hh(a:N):=eO m R A0 [.agg [a,i],j,k] func281
def Dd(a:N):=eO m R ⟨[(2,[(3,.I)])],[],[(2,[22])]⟩ [.agg [a,i]] func282
def KN(a:N):=eO m R ⟨[(2,[(9,.I)])],[],[(2,[40])]⟩ [.agg [a,i],j,k,l] func283
def KB(a:N):=eO m R ⟨[(4,[(5,.S),(6,.T),(7,.I)])],[],[]⟩ [a,i] func284
def yw(p:aj):=eO m R ⟨[(13,[(11,.S),(13,.I)]),(22,[(15,.S),(16,.I)])],[(18,[(14,.I)])],[(13,[154,153]),(18,[154,153]),(22,[154,153])]⟩ [p,.agg [a,b],.agg [i,j,c],d] func285
def Jh(a:N):=eO m R ⟨[(2,[(5,.I)])],[],[]⟩ [a,i] func286
def I8(i:Int):=eO m R A0 [i] func287
def Hb(p:aj):=eO m R ⟨[],[(5,[])],[(5,[31,30])]⟩ [p,.agg [a,b]] func288
def Hd(p:aj):=eO m R ⟨[(6,[(12,.S),(13,.I)])],[(19,[]),(22,[])],[(6,[144,141]),(19,[151,150,144,141]),(22,[150,144,141])]⟩ [p,.agg [a,b],i,j] func289
def He(p:aj):=afe m R ⟨[(6,[(9,.S),(10,.S),(11,.I)])],[(13,[(14,.P)]),(15,[])],[(6,[102,100]),(13,[109,108,102,100]),(15,[109,108,102,100])]⟩ [p,.agg [a,b],i] func290
def GU(p:aj):=eO m R ⟨[(4,[(8,.S),(9,.I)])],[(10,[])],[(4,[81,79]),(10,[81,79])]⟩ [p,.agg [a,b],i] func291
end
section
open Tryz
variable{m:E}{R:ai}
variable{a b c d e f g h p q r u v w x y:N}{i j k l n o s t z A B C D F G H:Int}
def IY(p:aj):=eO m R ⟨[(2,[(4,.I)])],[],[(2,[44,40])]⟩ [p,.agg [a,b],c,i,j] func292
def Je(i:Int):=eO m R A0 [.agg [i,j,a]] func293
def vx(a:N):=eO m R ⟨[(3,[(4,.I)])],[],[(3,[30,29])]⟩ [.agg [a,i]] func294
def G5(a:N):=eO m R ⟨[(2,[(5,.I)])],[],[(2,[23])]⟩ [.agg [a,b],i] func295
def zB(a:N):=eO m R ⟨[(4,[(7,.I)]),(8,[(9,.I)]),(13,[(10,.I)])],[],[(4,[72,71]),(8,[76,72,71]),(13,[76,72,71])]⟩ [.agg [a,b],.agg [c,i],j] func296
def II(a:N):=eO m R ⟨[(2,[(3,.S),(9,.I)])],[],[(2,[44])]⟩ [.agg [a,i],j,k,b] func297
def Mz(a:N):=eO m R ⟨[(3,[(5,.S),(6,.I)])],[],[]⟩ [a,b] func298
def Da(a:N):=eO m R ⟨[(3,[(11,.S),(12,.I)])],[],[(3,[50,48])]⟩ [.agg [a,b],c,.agg [i,j,k,d,e],f,g] func299
def EL(a:N):=eO m R ⟨[(4,[(11,.S),(13,.I)])],[],[(4,[72,69,67])]⟩ [.agg [a,b],c,.agg [i,j,k,d,e],f,g] func300
def EY(a:N):=eO m R ⟨[(5,[(11,.S),(12,.I)])],[],[(5,[62,60])]⟩ [.agg [a,b],c,.agg [i,j,k,d,e],f,g] func301
def EZ(a:N):=eO m R ⟨[(3,[(9,.S),(10,.I)])],[],[(3,[55,54])]⟩ [.agg [a,b],.agg [i,j,k,c,d],e,f] func302
def Jv(a:N):=eO m R ⟨[(3,[(5,.S),(6,.I)])],[],[]⟩ [a,i] func303
def KA(i:Int):=eO m R A0 [i] func304
def Fv(a:N):=eO m R A0 [a,.agg [i,j,k,b,c]] func305
def My(a:N):=eO m R ⟨[(4,[(7,.I)])],[],[]⟩ [a,b,c] func306
def G8(a:N):=eO m R ⟨[(9,[(9,.I),(10,.I)])],[(5,[(8,.I)])],[(5,[76,74]),(9,[76,74])]⟩ [.agg [a,b],c,.agg [i,j,k,d,e]] func307
def BT(a:N):=eO m R A0 [.agg [a,b],c,.agg [i,j,k,d,e]] func308
def I9(a:N):=eO m R A0 [a,i] func309
end
section
open Tryz
variable{m:E}{R:ai}
variable{a b c d e f g h p q r u v w x y:N}{i j k l n o s t z A B C D F G H:Int}
def Az(a:N):=eO m R A0 [.agg [a,b],c,.agg [i,j,k,d,e]] func310
def Db(a:N):=eO m R A0 [.agg [a,b],c,.agg [i,j,k,d,e],l] func311
def KL(a:N):=eO m R ⟨[(3,[(4,.I)])],[],[(3,[37,36])]⟩ [.agg [a,b]] func312
def Fp(a:N):=eO m R ⟨[(2,[(1,.I),(5,.I)]),(8,[(1,.I),(6,.I)])],[],[(2,[45]),(8,[45])]⟩ [.agg [a,i],j] func313
def Df(p:aj):=eO m R ⟨[(9,[(14,.I)])],[],[(9,[89,88])]⟩ [p,.agg [a,b],.agg [i,j,k,c,d],l] func314
def KF(a:N):=eO m R A0 [.agg [a,b],.agg [i,j,k,c,d],l] func315
def LX(a:N):=eO m R ⟨[(2,[(7,.I)])],[],[(2,[47])]⟩ [.agg [a,i],j,k] func316
def Dc(i:Int):=eO m R A0 [i] func317
def AG(p:aj):=eO m R A0 [p,.agg [i,j,k,a,b]] func318
def Qk(p:aj):=eO m R A0 [p,.agg [a,b],c,i,j] func319
def Ob(i:Int):=eO m R A0 [i,j,a] func320
def Jd(p:aj):=eO m R ⟨[(8,[(9,.I)])],[(5,[(7,.P)])],[(5,[51,50,49]),(8,[50,49])]⟩ [p,i] func321
def Hs(i:Int):=eO m R A0 [i] func322
def NX(p:aj):=eO m R A0 [p,.agg [a,b],c,i] func323
def Fb(i:Int):=eO m R ⟨[(5,[(1,.I),(5,.I)])],[],[(5,[29])]⟩ [.agg [i,j,a],k] func324
def GM(i:Int):=eO m R ⟨[(3,[(3,.S),(4,.I)])],[],[(3,[35,34])]⟩ [.agg [i,j,k,a,b]] func325
def GJ(a:N):=eO m R ⟨[(2,[(5,.I)]),(7,[(6,.I)])],[],[(2,[55]),(7,[55])]⟩ [.agg [a,i],j] func326
def BA(i:Int):=eO m R ⟨[(4,[(2,.S),(7,.I)]),(9,[(2,.S),(8,.I)])],[],[(4,[61]),(9,[61])]⟩ [.agg [i,j,k,a,b],l,c] func327
end
section
open Tryz
variable{m:E}{R:ai}
variable{a b c d e f g h p q r u v w x y:N}{i j k l n o s t z A B C D F G H:Int}
def Ja(a:N):=eO m R A0 [.agg [a,b],.agg [i,j,k,c,d],l,e,f] func328
def GN(a:N):=eO m R ⟨[(7,[(16,.S),(17,.S),(18,.I)]),(14,[(19,.S),(20,.I)])],[],[(7,[127,124,121]),(14,[127,124,121])]⟩ [.agg [a,b],c,d,.agg [e,i],f,g] func329
def Kr(a:N):=eO m R ⟨[(3,[(5,.S),(6,.I)])],[],[]⟩ [a,b] func330
def IM(a:N):=eO m R ⟨[(2,[(7,.I)])],[],[]⟩ [a,i,j] func331
def zE(p:aj):=eO m R A0 [p] func332
def AE(p:aj):=eO m R ⟨[(2,[(9,.I)])],[],[(2,[51,50])]⟩ [p,.agg [a,b],.agg [c,i],j] func333
def IL(p:aj):=eO m R A0 [p,.agg [a,b],c] func334
def Kz(p:aj):=eO m R ⟨[(3,[(11,.S),(12,.I)])],[],[(3,[42])]⟩ [p,.agg [a,b],c,d,i] func335
def GX(p:aj):=eO m R ⟨[(7,[(13,.S),(14,.I)])],[(4,[(11,.I)])],[(4,[79,75]),(7,[79,75])]⟩ [p,.agg [a,b],c,i,j] func336
def GG(a:N):=eO m R ⟨[(3,[(5,.S),(6,.I)]),(7,[(7,.T),(8,.I)])],[],[(3,[59]),(7,[59])]⟩ [.agg [a,b],i] func337
def GY(p:aj):=eO m R ⟨[(3,[(11,.I)])],[(7,[])],[(3,[130,126]),(7,[130,126])]⟩ [p,.agg [a,b],c,i,j] func338
def Jk(p:aj):=eO m R A0 [p] func339
def Ds(a:N):=eO m R ⟨[(3,[(5,.S),(6,.I)])],[],[]⟩ [a,i] func340
def IN(a:N):=eO m R A0 [.agg [a,b],c,i] func341
def Hm(p:aj):=eO m R ⟨[(11,[(9,.S),(11,.I)]),(21,[(15,.S),(16,.I)])],[(6,[(8,.I)]),(8,[(8,.I)]),(17,[(80,.T)])],[(6,[124,122]),(8,[124,122]),(11,[124,122]),(17,[124,122]),(21,[124,122])]⟩ [p,.agg [a,b],i] func342
def AI(a:N):=eO m R ⟨[(2,[(7,.I)])],[],[(2,[46,45])]⟩ [.agg [a,b],.agg [i,j,k,c,d],l] func343
def LP(a:N):=eO m R ⟨[(3,[(5,.S),(6,.I)])],[],[]⟩ [a,i] func344
def De(p:aj):=eO m R ⟨[(2,[(5,.I)])],[],[]⟩ [p,i] func345
end
section
open Tryz
variable{m:E}{R:ai}
variable{a b c d e f g h p q r u v w x y:N}{i j k l n o s t z A B C D F G H:Int}
def GH(a:N):=eO m R ⟨[(3,[(5,.S),(6,.I)])],[],[(3,[55])]⟩ [.agg [a,b],i] func346
end
end Go.Proofs.YtbbbdejieenniaaGreat
namespace Go.Proofs.YtbbbdejieenniaaGreat
open Go.Vc
section
variable{m:E}{a:N}{l:ab}
def dk{n b a:Int}:gK dN 29 [vi n,vi b,vi a] m (b<=n/\n<=a):=by
 apply I7;constructor<;>grind [J.cZ]
def mD(a:Int)(m:E):gK dN 205 [vi a] m (0<=a/\a<=11):=by
 apply IV;exact(dk).bZ λd e c b=>⟨_,rfl,lg c b⟩
def kM(a:Int):Prop:=0<=a/\a<=11/\a≠7/\a≠8\/a=18\/a=19
def BU(a:Int)(m:E):gK dN 147 [vi a] m (kM a):=by
 apply Oi;refine(mD _ _).bZ λb e d c=>⟨_,rfl,λh=>?_,λh=>?_⟩
 .grind [kM]
 .grind [kM]
def fF(c:bd m a l)(d:Int):gK dN 174 [a.v,vi d] m (d∈l):=by
 apply NR;have g:=c.aS;refine ik (n:=l.length) (g▸c.kA) (λk b=>J m b/\∀y∈l.take k,y≠d) ⟨di,bO⟩ ?_;rintro k p I μ o ⟨e,i⟩ j
 refine⟨λh=>?_,λh=>?_⟩
 .simp only[bh]at h;let⟨x,f⟩:=dY l k;refine⟨V,V,x,by simpa using e.aR (c.D f),λb=>?_,λb=>?_⟩
  .grind [aZ]
  .simp only[a8]at b;exact j V _ ⟨e,eC f i b⟩
 .grind [decide_eq_false_iff_not]
def zQ(n:Nat)(t:Int):Prop:=0<=t/\t<=n
def Hw(n:Nat)(l:ab):Prop:=∀t∈l,zQ n t
def Ar(c:bd m a l){bQ:N}:gK dN 104 [bQ.v,a.v] m (Hw bQ.len l):=by
 apply Gw;have i:=c.aS;refine ik (n:=l.length) (i▸c.kA) (λk b=>J m b/\∀t∈l.take k,zQ bQ.len t) ⟨di,bO⟩ ?_;rintro k r I μ q ⟨b,g⟩ o
 refine dit (λh=>?_) λh=>?_
 .let⟨x,d⟩:=dY l k;refine⟨V,V,x,by simpa using b.aR (c.D d),?_⟩;exact(dk).bZ λp s f e=>⟨_,rfl,λh=>fW (λj=>nb f h (j x (aZ d))) (b.O e),λh=>o V _ ⟨b.O e,eC d g (yb f h)⟩⟩
 .exact pw (ig V g) b
def JG(l:ab)(c a b:Int):Prop:=(l.length:Int)=c/\∀t∈l,a+1<=t/\t<=b -1
def Jr(f:bd m a l){j b c:Int}(w: -1<=b/\b<9223372036854775807)(e:0<=c/\c<=9223372036854775807):
 gK dN 152 [a.v,vi j,vi b,vi c] m (JG l j b c):=by
 apply Dq
 have p:=f.aS
 refine⟨λh=>?_,λh=>?_⟩
 .simp only[Tt]at h
  exact fW (λg=>h (by rw[p];exact g.1)) di
 .simp only[nR]at h
  have u:j=(l.length:Int):=cG
  subst u
  have r:eR (b+1)=b+1:=by grind [dt]
  have s:eR (c -1)=c -1:=by grind [dt]
  rw[r,s]
  refine ik (n:=l.length) (p▸f.kA) (λk d=>J m d/\∀t∈l.take k,b+1<=t/\t<=c -1) ⟨di,bO⟩ ?_
  rintro k z I μ y ⟨d,q⟩ t
  refine dit (λh=>?_) λh=>?_
  .let⟨x,i⟩:=dY l k
   refine⟨V,V,x,by simpa using d.aR (f.D i),?_⟩
   exact(dk).bZ λv A o e=>⟨_,rfl,λh=>fW (λg=>nb o h (g.2 x (aZ i))) (d.O e),λh=>t V _ ⟨d.O e,eC i q (yb o h)⟩⟩
  .exact pw ⟨rfl,ig V q⟩ d
def DE(a cR:ab):Prop:=∀(k:Nat)(v:Int),cR[k]? =some v->(∃t,0<=v/\a[v.toNat]? =some t/\t≠0)/\(∀u:Int,0<k->cR[k -1]? =some u->u<v)
def yY{A cR:N}{p:ab}(g:bd m A p)(f:bd m cR l):gK dN 105 [N.v A,N.v cR] m (DE p l):=by
 apply Fx;have K:=f.aS;have L:=g.aS;have T:=g.kA;have F:eR ((A.len:Int) -1)=(p.length:Int) -1:=by rw[dt V V,L]
 rw[F];have S:=f.kA;refine ik (n:=l.length) (K▸f.kA) (λk M=>J m M/\∀(j:Nat)(v:Int),j<k->l[j]? =some v->(∃t,0<=v/\p[v.toNat]? =some t/\t≠0)/\(∀u:Int,0<j->l[j -1]? =some u->u<v)) ⟨di,bO⟩ ?_;rintro k O P μ R ⟨i,w⟩ D
 refine dit (λh=>?_) λh=>?_
 .let⟨x,c⟩:=dY l k;have g1:aR O cR.bq (cR.off+Int.toNat k*1)=some (vi x):=by simpa using i.aR (f.D c)
  refine⟨V,V,x,g1,?_⟩;refine(dk).bZ λQ U B d=>⟨_,rfl,λh=>?_,λh=>?_⟩
  .refine fW (λg=>nb B h ?_) (i.O d);obtain⟨⟨t,b,s,_⟩,_⟩:=g k x c;have:=bA s;omega
  .have C:=yb B h;let⟨t,q⟩:=dY p x.toNat;have H:=(i.O d).aR (g.D q);have o:=i.O d;refine⟨V,V,x,d.aR g1,V,V,t,sp H,λb=>?_,λb=>?_⟩
   .simp only[bP]at b;refine fW (λa=>?_) o;obtain⟨⟨y,_,e,r⟩,_⟩:=a k x c;rw[q]at e;simp at e;exact r (e▸b)
   .simp only[a8]at b;refine dit (λs=>?_) λs=>?_
    .have G:eR ((k:Int) -1)=((k -1:Nat):Int):=by rw[dt V V];omega
     let⟨E,z⟩:=dY l (k -1);rw[G];refine⟨V,V,x,d.aR g1,V,V,E,by simpa using o.aR (f.D z),dit (λe=>?_) λe=>?_⟩
     .refine fW (λa=>?_) o;have:=(a k x c).2 E V z;omega
     .refine D V _ ⟨o,λj v I a=>?_⟩
      by_cases r:j=k
      .subst r;rw[c]at a;simp at a;subst a;refine⟨⟨t,C.1,q,b⟩,λu _ y=>?_⟩;rw[z]at y;simp at y;subst y;omega
      .exact w j v V a
    .refine D V _ ⟨o,λj v I a=>?_⟩
     by_cases r:j=k
     .subst r;rw[c]at a;simp at a;subst a;exact⟨⟨t,C.1,q,b⟩,λu e _=>V⟩
     .exact w j v V a
 .exact pw (λj v a=>w j v (oh (bA a)) a) i
end
section
variable{m:E}
@[grind cases] structure ze (ds:af) (k:Nat) (d:cL):Prop where
 iT:0<d.dS.length->d.dS.length<=3/\d.qd=0/\d.to=0/\∀f∈d.dS,f.length<=3/\Hw ds.length f
 PF:d.dS.length=0->(∀e∈ds.take k,¬(e.dS.length=0/\e.qd=d.qd/\e.to=d.to))/\zQ ds.length d.qd/\zQ ds.length d.to
@[grind cases] structure eP (ds:af):Prop where
 aS:ds.length<=4
 eN:∀(k:Nat)(d:cL),ds[k]? =some d->ze ds k d
def KP{bQ:N}{h:af}(hd:dq m bQ h){k:Nat}{d:cL}(H:h[k]? =some d):gK dN 146 [bQ.v,vi k] m (ze h k d):=by
 apply Fu;simp -zeta only[dU];have X:=bA H;have v:=hd.aS;let⟨x,z,K,g1,g2⟩:=hd.D H;refine⟨V,V,_,sp K,_,sp g1,_,sp g2,?_⟩;intro P s;have c:=py s;have A:∀t∈[m.size],t<s.size:=by simp[s,P,bD]
 have M:=z.aS;refine dit (λq=>?_) λq=>?_
 .refine dit (λL=>?_) λL=>?_
  .exact fW (λa=>oh ((a.iT V).1)) c
  refine⟨λf=>?_,λf=>?_⟩
  .simp only[Tt]at f;exact fW (λa=>f (a.iT V).2.1) c
  simp only[nR]at f;refine⟨λp=>?_,λp=>?_⟩
  .simp only[Tt]at p;exact fW (λa=>p (a.iT V).2.2.1) c
  simp only[nR]at p;refine ik (n:=d.dS.length) (M▸z.kA) (λk B=>J s B/\∀x∈d.dS.take k,x.length<=3/\Hw h.length x) ⟨di,bO⟩ ?_;rintro j w I μ O ⟨g,r⟩ D
  refine dit (λy=>?_) λy=>?_
  .let⟨C,u⟩:=dY d.dS j;let⟨E,G,F⟩:=(rJ.ext (c.O g) z).D u;have R:=G.aS;refine⟨V,V,E,sp F,dit (λo=>?_) λo=>?_⟩
   .exact fW (λa=>oh (((a.iT V).2.2.2 C (aZ u)).1)) (c.O g)
   .refine⟨V,V,E,sp F,?_⟩;exact(Ar G).bK g A λt Q l i b=>⟨_,rfl,λe=>fW (λa=>nb l e (v▸((a.iT V).2.2.2 C (aZ u)).2)) (c.O b),λe=>D V _ ⟨b,eC u r ⟨V,v▸yb l e⟩⟩⟩
  .exact pw ⟨λ_=>⟨V,f,p,ig V r⟩,λF=>V⟩ (c.O g)
 .have C:d.dS.length=0:=V;have U:=hd.kA;refine ik (n:=k) V (λk B=>J s B/\∀f∈h.take k,¬(f.dS.length=0/\f.qd=d.qd/\f.to=d.to)) ⟨di,bO⟩ ?_;rintro j w I μ O ⟨g,r⟩ D
  refine dit (λy=>?_) λy=>?_
  .let⟨f,u⟩:=dY h j;let⟨E,G,R,S,T⟩:=(dq.ext (c.O g) hd).D u;have W:=G.aS;have B:¬(f.dS.length=0/\f.qd=d.qd/\f.to=d.to)->I (eR ((j:Int)+1)) w/\μ (eR ((j:Int)+1)) w<μ j w:=λp=>D V _ ⟨g,eC u r p⟩
   refine⟨V,V,E,sp T,λo=>?_,λo=>?_⟩
   .simp only[bP]at o;refine⟨V,V,_,sp R,λi=>?_,λi=>?_⟩
    .simp only[bP]at i;refine⟨V,V,_,sp S,λb=>?_,λb=>?_⟩
     .simp only[bP]at b;have L:f∈h.take k:=by
       rw[cX];exact⟨j,by rw[lE,ba V];exact u⟩
      exact fW (λa=>(a.PF C).1 f L ⟨V,i,b⟩) (c.O g)
     .simp only[a8]at b;exact B (λp=>b p.2.2)
    .simp only[a8]at i;exact B (λp=>i p.2.1)
   .simp only[a8]at o;exact B (λp=>o V)
  .have f:j=k:=V;subst f;refine(dk).bK g A λt Q l i b=>⟨_,rfl,λe=>?_,λe=>fW (λa=>fb l e (v▸(a.PF C).2.1)) (c.O b)⟩;have e:=l.1 e;refine(dk).bK b A λt p l o a=>⟨_,rfl,lg ?_ (c.O a)⟩;rw[l];rw[v]at e⊢;exact⟨λq=>⟨λF=>V,λ_=>⟨r,e,q⟩⟩,λq=>(q.PF C).2.2⟩
def Jt{bQ:N}{a:af}(hd:dq m bQ a):gK dN 103 [bQ.v] m (eP a):=by
 apply Dr;have u:=hd.aS;refine dit (λo=>?_) λo=>?_
 .exact fW (λf=>oh f.aS) di
 .refine ik (n:=a.length) V (λq r=>J m r/\∀(j:Nat)(d:cL),j<q->a[j]? =some d->ze a j d) ⟨di,bO⟩ ?_;rintro j x I μ w ⟨b,k⟩ s
  refine dit (λp=>?_) λp=>?_
  .let⟨l,e⟩:=dY a j;refine(KP (dq.ext b hd) e).bZ λt y h g=>⟨_,rfl,λc=>fW (λf=>nb h c (f.eN j l e)) (b.O g),λc=>?_⟩;refine s V _ ⟨b.O g,λi d v dg=>?_⟩
   by_cases f:i=j
   .subst f;rw[e]at dg;simp at dg;subst dg;exact yb h c
   .exact k i d V dg
  .exact pw ⟨V,λi d dg=>k i d (oh (bA dg)) dg⟩ b
end
section
variable{a:Nat}{m:E}
def fc:af->Nat->Nat
 |_,0=>0
 |[],_=>0
 |d::b,a+1=>d.dS.length+fc b a
def gJ(a:af):List ab:=a.flatMap cL.dS
def VG(a:Nat):fc [] a=0:=by cases a<;>rfl
theorem wE:∀{c:af}{a:Nat}{b:cL},c[a]? =some b->fc c (a+1)=fc c a+b.dS.length
 |[],a,b,h=>by simp at h
 |e::c,0,b,h=>by
  grind [fc]
 |e::c,a+1,b,h=>by
  have:=wE (c:=c) (a:=a) (b:=b) cG;grind [fc]
theorem qu:∀(b:af)(a:Nat),b.length<=a->fc b a=(gJ b).length
 |[],a,_=>by rw[VG];rfl
 |d::b,0,h=>by simp at h
 |d::b,a+1,h=>by
  have:=qu b a cG;grind [fc,gJ,List.length_append]
def JS:∀(a:af){b c:Nat},b<=c->fc a b<=fc a c
 |[],b,c,_=>by simp[VG]
 |d::a,0,c,_=>by simp[fc]
 |d::a,b+1,0,h=>V
 |d::a,b+1,c+1,h=>by
  have:=JS a (b:=b) (c:=c) V;simp only[fc];omega
theorem mH{b:af}(h:eP b){d:cL}(c:b[a]? =some d):d.dS.length<=3:=by
 grind [Nat.eq_zero_or_pos,List.length,eP.eN,ze.iT]
theorem Zj{b:af}(h:eP b):∀a,fc b a<=3*a
 |0=>by cases b<;>simp[fc]
 |a+1=>by
  have e:=Zj h a;rcases eJ a b.length with c|c
  .let⟨d,hd⟩:=jk c;grind [wE,mH]
  .grind [qu]
theorem tI{b:af}(h:eP b)(a:Nat):fc b a<=12:=by
 rcases eJ a b.length with c|c
 .grind [Zj,eP.aS]
 .rw[qu b a c,<-qu b b.length bW];have:=Zj h b.length;have:=h.aS;omega
def vf:∀(a:af)(i j:Nat)(d:cL),a[i]? =some d->j<d.dS.length->(gJ a)[fc a i+j]? =d.dS[j]?
 |[],i,j,d,h,_=>by simp at h
 |e::a,0,j,d,h,b=>by
  grind [fc,gJ,List.getElem?_append_left]
 |e::a,i+1,j,d,h,b=>by
  have:=vf a i j d cG b;grind [fc,gJ,List.getElem?_append_right]
def zi:∀(a:af)(c:Nat),c<(gJ a).length->∃i d,a[i]? =some d/\fc a i<=c/\c<fc a i+d.dS.length
 |[],c,h=>by simp[gJ]at h
 |e::a,c,h=>by
  rcases eJ c e.dS.length with b|b
  .exact⟨0,e,bO,by simp[fc],by simpa[fc]using b⟩
  .let⟨i,d,f,g,j⟩:=zi a (c -e.dS.length) (by simp only[gJ,Va,dj]at h⊢;omega);exact⟨i+1,d,sp f,by simp only[fc];omega,by simp only[fc];omega⟩
def mZ{bQ:N}{b:af}(hd:dq m bQ b)(d:eP b)(t:a<=b.length):Gg dN 186 [bQ.v,vi a] m (vi (fc b a)):=by
 apply GW;have r:=hd.aS;have:=d.aS;refine gP (n:=a) V (λj g c=>J m c/\g=(fc b j:Nat)) ⟨di,by cases b<;>rfl⟩ ?_;rintro j g u I μ s ⟨e,rfl⟩ k
 refine dit (λi=>?_) λi=>?_
 .let⟨l,c⟩:=dY b j;let⟨h,f,o,g1,g2⟩:=(dq.ext e hd).D c;refine⟨V,V,h,sp g2,?_⟩;refine k V _ _ ⟨e,?_⟩
  have p:=tI d j;have q:=mH d c;rw[dt V (oh f.aS),wE c,f.aS];rfl
 .have:j=a:=V;subst this;exact⟨rfl,e⟩
def uL{bQ:N}{a:af}(hd:dq m bQ a)(c:eP a):Gg dN 178 [bQ.v] m (vi (gJ a).length):=by
 apply GK;have q:=hd.aS;have:=c.aS;refine gP (n:=a.length) V (λj f b=>J m b/\f=(fc a j:Nat)) ⟨di,by cases a<;>rfl⟩ ?_;rintro j f s I μ r ⟨d,rfl⟩ i
 refine dit (λh=>?_) λh=>?_
 .let⟨k,b⟩:=dY a j;let⟨g,e,l,g1,g2⟩:=(dq.ext d hd).D b;refine⟨V,V,g,sp g2,?_⟩;refine i V _ _ ⟨d,?_⟩
  have o:=tI c j;have p:=mH c b;rw[dt V (oh e.aS),wE b,e.aS];rfl
 .refine⟨?_,d⟩;rw[qu a j V]
def ada(a:af)(c t:Int):Prop:=
 (∃(i:Nat)(d:cL),t=i+1/\a[i]? =some d/\(fc a i:Int)<=c/\c<fc a i+d.dS.length)\/(t= -1/\¬(0<=c/\c<(gJ a).length))
def pA{bQ:N}{a:af}(hd:dq m bQ a)(k:eP a)(c:Int):bJ dN 148 [bQ.v,vi c] m λE p=>∃u,E=vi u/\ada a c u/\J m p:=by
 apply IQ;have H:=hd.aS;have:=k.aS;refine ik (n:=a.length) V (λj p=>J m p/\∀(i:Nat)(d:cL),i<j->a[i]? =some d->¬((fc a i:Int)<=c/\c<fc a i+d.dS.length)) ⟨di,bO⟩ ?_;rintro j M I μ L ⟨b,s⟩ D
 refine dit (λz=>?_) λz=>?_
 .let⟨d,h⟩:=dY a j;refine(mZ (dq.ext b hd) k V).bZ λO e=>⟨_,rfl,?_⟩;let⟨l,B,G,g1,g2⟩:=(dq.ext (b.O e) hd).D h;refine⟨V,V,l,sp g2,?_⟩;have o:=tI k j;have A:=mH k h;have C:=B.aS;have y:eR (eR ((fc a j:Int)+(l.len:Int)) -1)=(fc a j:Int)+d.dS.length -1:=by
   rw[dt (b:=(fc a j:Int)+(l.len:Int)) V V,iC,C]
  rw[y];refine(dk).bZ λF P r q=>⟨_,rfl,λf=>?_,λf=>?_⟩
  .have f:=r.1 f;refine⟨_,rfl,bu ⟨j,d,?_,h,V,V⟩,(b.O e).O q⟩;rw[iC]
  .refine D V _ ⟨(b.O e).O q,λi v K g=>?_⟩
   by_cases w:i=j
   .subst w;rw[h]at g;simp at g;subst g;intro t;exact fb r f ⟨t.1,V⟩
   .exact s i v V g
 .refine⟨_,rfl,bG ⟨rfl,λt=>?_⟩,b⟩;let⟨i,d,o,e,A⟩:=zi a c.toNat V;exact s i d (oh (bA o)) o ⟨V,V⟩
def cW(a:af)(c:Int):ab:=if 0<=c then((gJ a)[c.toNat]?).getD []else[]
def Ku{bQ:N}{a:af}(hd:dq m bQ a)(d:eP a){c:Int}:bJ dN 149 [bQ.v,vi c] m λx l=>∃s,x=s.v/\bd l s (cW a c)/\J m l:=by
 apply vw;have E:=hd.aS;have:=d.aS;refine(pA hd d c).aO ?_;rintro _ H ⟨K,rfl,h,e⟩;refine⟨_,rfl,dit (λu=>?_) λu=>?_⟩
 .refine⟨_,rfl,?_,e.cw _⟩;have g:cW a c=[]:=by
   rcases h with⟨i,f,v,_⟩|⟨_,b⟩
   .omega
   .unfold cW;split
    .rw[kX V];rfl
    .rfl
  rw[g];exact⟨rfl,bW,bO,bO⟩
 .rcases h with⟨i,f,rfl,b,B,C⟩|⟨v,_⟩
  .have G:=bA b;let⟨q,j,z,g1,g2⟩:=(dq.ext e hd).D b;have n:eR ((i:Int)+1 -1)=i:=by rw[iC];omega
   rw[n];refine⟨V,V,q,sp g2,?_⟩;refine(mZ (dq.ext e hd) d V).bZ λI g=>⟨_,rfl,g.db (sp g2),?_⟩;have A:=tI d i;have D:=mH d b;have F:=j.aS;let⟨y,k⟩:=dY f.dS ((c -fc a i).toNat);let⟨r,w,t⟩:=(rJ.ext g j).D k;have o:eR (c -(fc a i:Int))=c -fc a i:=iC;rw[o];refine⟨V,V,r,t,_,rfl,?_,e.O g⟩;have p:cW a c=y:=by
    unfold cW;rw[ba V];have:=vf a i (c -fc a i).toNat f b V;rw[show c.toNat=fc a i+(c -fc a i).toNat by omega,this,k];rfl
   rw[p];exact w
  .omega
def cT(a:af)(t:Int):ab:=
 if 1<=t/\t<=a.length then((a[t.toNat -1]?).map λd=>(List.range d.dS.length).map λi=>((fc a (t.toNat -1)+i:Nat):Int)).getD []else[]
def EG{bQ:N}{a:af}(hd:dq m bQ a)(c:eP a){t:Int}:bJ dN 151 [bQ.v,vi t] m λI b=>∃s,I=s.v/\bd b s (cT a t)/\J m b:=by
 apply yS;intro r;have S:=hd.aS;have:=c.aS;have q:=px r;have F:jo m r bE 1 (.mk m.size 0 0 0) []:=jo.bI (J.cZ m) bE 1 [] 0 bO;refine(dk).bZ λL W l f=>⟨_,rfl,λh=>?_,λh=>?_⟩
 .refine⟨_,rfl,?_,q.O f⟩;have e:cT a t=[]:=by
   unfold cT;rw[aU (oh (nb l h))]
  rw[e];exact⟨rfl,bW,bO,bO⟩
 .have h:=yb l h;have v:eR (t -1)=((t.toNat -1:Nat):Int):=by rw[iC];omega
  rw[v];let⟨e,g⟩:=dY a (t.toNat -1);have w:cT a t=(List.range e.dS.length).map λi=>((fc a (t.toNat -1)+i:Nat):Int):=by
   unfold cT;rw[ba V,g];rfl
  rw[w];have Q:=tI c (t.toNat -1);have R:=mH c g;refine gP (n:=e.dS.length) V (λj s b=>J m b/\jo m b bE 1 s (((List.range j).map λi=>((fc a (t.toNat -1)+i:Nat):Int)).map Ce.i)/\s.len=j) ⟨q.O f,by simpa using F.ext f,rfl⟩ ?_;rintro j s X K μ U ⟨d,o,p⟩ H
  let⟨y,D,M,g1,g2⟩:=(dq.ext d hd).D g;have T:=D.aS;refine⟨V,V,y,sp g2,dit (λz=>?_) λz=>?_⟩
  .refine(mZ (dq.ext d hd) c V).bZ λG k=>⟨_,rfl,?_⟩;intro u;have x:eR (((fc a (t.toNat -1):Nat):Int)+(j:Int))=((fc a (t.toNat -1)+j:Nat):Int):=by rw[iC];omega
   have E:u=G.push (.cells (de [.i (((fc a (t.toNat -1)+j:Nat):Int))]) bE):=by rw[<-x]
   clear_value u;subst E;refine jo.fy (c:=[.i 0]) (h:=[.i ((fc a (t.toNat -1)+j:Nat):Int)]) ((o.ext k).ext (J.push _ _)) ((d.O k).cw _) rfl (dJ.push _ _ _).kV (by simp[p];omega) ?_;intro Y b A B C O P _;refine H V _ _ ⟨B,?_,by simp[C,p]⟩
   rw[List.range_succ,kE,kE];exact A
  .have:j=e.dS.length:=V;subst this;exact⟨_,rfl,bd.jM o fj,d⟩
end
section
variable{S X:ad}{d p:E}{s q a h:N}{e g u:ab}{k f:Nat}{x j:Int}{t:ap}{Q:ab->Prop}{K:ai}
def _root_.Go.Vc.bd.dz{a:E}(b:bd (dg S d) s e)(f:Fz X d a)(c:∀h∈X,h∈S)(g:e[k]? =some x):aR a s.bq (s.off+k*1)=some (vi x):=
 (gV.1 ((b.le (f.eU c)).D g)).2
def _root_.Go.Vc.bd.QW{a:E}(h:bd (dg S d) s e)(b:J d a)(c:e[k]? =some x):aR a s.bq (s.off+k*1)=some (vi x):=
 h.dz (b.fz []) bO c
def JE(f:Nat)(t:ap)(d:E)(S:ad)(Q:ab->Prop):Prop:=bJ dN f t d λv a=>∃s e,v=s.v/\bd (dg S a) s e/\Q e/\J d a
def od(f:Nat)(t:ap)(d:E)(S:ad)(Q:ab->Prop):Prop:=bJ dN f t d λv a=>∃s e,v=s.v/\Gr S d a bE 1 ye s e/\Q e/\J d a
def wX(f:Nat)(t:ap)(d:E)(Q:Int->Prop):Prop:=bJ dN f t d λv a=>∃j:Int,v=vi j/\Q j/\J d a
abbrev GI(S:ad)(p d:E)(s:N)(e:ab):Prop:=Gr S p d bE 1 ye s e
def GI.gD(S:ad)(d:E):GI S d (d.push (.cells (de []) bE)) (.mk d.size 0 0 0) []:=by grind [Gr.bI,ye]
def GI.nA{S X:ad}{p d:E}{s:N}{e:ab}{a:Int}{K:N->E->Prop}(c:GI S p d s e)(f:Fz X p d)(i:e.length<=10^12)
 (g:∀r b,GI S p b r (e++[a])->Fz X p b->(d.size<=b.size/\(r.bq=s.bq\/d.size<=r.bq))->(∀h,h<d.size->h≠s.bq->b[h]? =d[h]?)->K r b):lS (d.push (.cells (de [.i a]) bE)) bE [.i 0] 8 s (.mk d.size 0 1 1) K:=
 Gr.nA (g:=[.i 0]) ye.aO cH c f rfl V g
theorem GI.cz{S:ad}{p d:E}{s:N}{e:ab}(a:GI S p d s e)(b:∀h∈S,h<p.size)(c:e.length<=10^12):bd (dg S d) s e:=Gr.cz ye.aO a b cH V
def GI.lQ{S X:ad}{p d:E}{s x:N}{e g:ab}{K:N->E->Prop}(b:GI S p d s e)(c:Fz X p d)(i:bd (dg (s.bq::S) d) x g)(j:e.length+g.length<=10^12)
 (f:∀r a,GI S p a r (e++g)->Fz X p a->(d.size<=a.size/\(r.bq=s.bq\/d.size<=r.bq))->(∀h,h<d.size->h≠s.bq->a[h]? =d[h]?)->K r a):lS d bE [.i 0] 8 s x K:=
 Gr.lQ (g:=[.i 0]) ye.aO cH b c i V f
def GI.lR{a:E}(h:GI S p d s e)(i:a[s.bq]? =d[s.bq]?):GI S p a s e:=by
 let⟨c,b,f,g⟩:=h;exact⟨c,b,f.congr i,g.aO λ_ _ h=>h⟩
def GI.ext{S:ad}{p d a:E}{s:N}{e:ab}(h:GI S p d s e)(b:J d a):GI S p a s e:=Gr.ext ye.aO h b
theorem _root_.Go.Vc.Gr.da{α:Type}{S b:ad}{p f d:E}{c a:Nat}{R:E->ae->α->Prop}{s:N}{e:List α}(i:qj a R)(g:Gr b f d c a R s e)(j:∀h∈S,h∈b\/d.size<=h)(k:p.size<=f.size):Gr S p d c a R s e:=by
 constructor<;>grind [jo.da,fK.aO,J.cZ,J.dg,List.mem_cons_self,List.mem_cons_of_mem]
def GI.da{S a:ad}{p b d:E}{s:N}{e:ab}(c:GI a b d s e)(f:∀h∈S,h∈a)(g:p.size<=b.size):GI S p d s e:=by grind [Gr.da,ye.aO]
def od.bZ(h:od f t d S Q)(j:∀s e a,GI S d a s e->Q e->J d a->K s.v a):bJ dN f t d K:=
 h.aO λ_ a⟨s,e,b,c,g,i⟩=>b▸j s e a c g i
def JE.bZ(h:JE f t d S Q)(j:∀s e a,bd (dg S a) s e->Q e->J d a->K s.v a):bJ dN f t d K:=
 h.aO λ_ a⟨s,e,b,c,g,i⟩=>b▸j s e a c g i
def wX.bZ{Q:Int->Prop}(h:wX f t d Q)(g:∀j a,Q j->J d a->K (vi j) a):bJ dN f t d K:=
 h.aO λ_ a⟨j,e,b,c⟩=>e▸g j a b c
def xk{a:E}{h:Nat}(b:J d a)(e:d.size<=h):Le (dg S d) (dg (h::S) a):=b.dg λc f=>by
 grind
def pB(j:∀h∈S,h<d.size)(c:bd (dg S d) q e)(b:e.length<=10^12):od 55 [q.v] d S (e=·):=by
 apply ru;intro i;have a:=px i;exact GI.lQ (e:=[]) (X:=[]) (GI.gD S d) (a.fz []) (c.le (xk a bW)) (sp b) λr k g f _ _=>⟨r,e,rfl,sp g,rfl,f.ext⟩
def tC(e g:ab):Prop:=(∀x∈g,x∈e)/\g.length<=e.length
def ta(h:∀x∈g,x∈e)(a:x∈e):∀y∈g++[x],y∈e:=by
 grind
def FD(u:∀h∈S,h<d.size)(b:bd (dg S d) q e)(j:Int)(v:e.length<=10^12):od 303 [q.v,vi j] d S (tC e):=by
 apply Jv;intro z;have t:=b.aS;refine gP (n:=e.length) (t▸b.kA) (λk s a=>J d a/\∃g,GI S d a s g/\(∀x∈g,x∈e)/\g.length<=k) ⟨J.push d _,[],GI.gD S d,bO,bW⟩ ?_;rintro k s A I μ y ⟨a,g,c,i,w⟩ m
 refine dit (λp=>?_) λp=>?_
 .let⟨x,l⟩:=dY e k;refine⟨V,V,x,b.QW a l,λr=>⟨V,V,x,b.QW a l,?_⟩,λr=>m V _ _ ⟨a,g,c,i,V⟩⟩;intro B;exact GI.nA c (a.fz []) V λD C o f _ _=>m V _ _ ⟨f.ext,_,o,ta i (aZ l),fj⟩
 .exact⟨s,g,rfl,c,⟨i,V⟩,a⟩
def Ta(u:∀h∈S,h<d.size)(b:bd (dg S d) q e)(v:e.length<=10^12):od 344 [q.v,vi j] d S (tC e):=by
 apply LP;intro z;have t:=b.aS;refine gP (n:=e.length) (t▸b.kA) (λk s a=>J d a/\∃g,GI S d a s g/\(∀x∈g,x∈e)/\g.length<=k) ⟨J.push d _,[],GI.gD S d,bO,bW⟩ ?_;rintro k s A I μ y ⟨a,g,c,i,w⟩ m
 refine dit (λp=>?_) λp=>?_
 .let⟨x,l⟩:=dY e k;refine⟨V,V,x,b.QW a l,λr=>⟨V,V,x,b.QW a l,?_⟩,λr=>m V _ _ ⟨a,g,c,i,V⟩⟩;intro B;exact GI.nA c (a.fz []) V λD C o f _ _=>m V _ _ ⟨f.ext,_,o,ta i (aZ l),fj⟩
 .exact⟨s,g,rfl,c,⟨i,V⟩,a⟩
def Q8(z:∀h∈S,h<d.size)(i:bd (dg S d) a e)(t:bd (dg S d) h u)(A:e.length<=10^12):od 330 [a.v,h.v] d S (tC e):=by
 apply Kr;intro D;have v:=i.aS;refine gP (n:=e.length) (v▸i.kA) (λk s b=>J d b/\∃g,GI S d b s g/\(∀x∈g,x∈e)/\g.length<=k) ⟨J.push d _,[],GI.gD S d,bO,bW⟩ ?_;rintro k s E I μ C ⟨b,g,j,l,B⟩ o
 refine dit (λq=>?_) λq=>?_
 .let⟨x,m⟩:=dY e k;refine⟨V,V,x,i.QW b m,?_⟩;refine(fF ((t.le fG).ext b) x).bZ λy F _ c=>⟨_,rfl,λr=>⟨V,V,x,i.QW (b.O c) m,?_⟩,λr=>o V _ _ ⟨b.O c,g,j.ext c,l,V⟩⟩;intro w;exact GI.nA (j.ext c) ((b.O c).fz []) V λG w p f _ _=>o V _ _ ⟨f.ext,_,p,ta l (aZ m),fj⟩
 .exact⟨s,g,rfl,j,⟨l,V⟩,b⟩
def _root_.Go.Vc.Ba{σ τ:Type}{j:Nat}(n:j<=9223372036854775807){g:σ}{h:τ}{f:(σ->τ->Int->E->Prop)->(σ->τ->Int->E->Nat)->σ->τ->Int->E->Prop}(Q:Nat->σ->τ->E->Prop)(l:Q 0 g h d)
 (m:∀(k:Nat)(s:σ)(t:τ)(a:E)(I:σ->τ->Int->E->Prop)(μ:σ->τ->Int->E->Nat),k<=j->Q k s t a->
  (k<j->∀c e b,Q (k+1) c e b->I c e (eR ((k:Int)+1)) b/\μ c e (eR ((k:Int)+1)) b<μ s t k a)->f I μ s t k a):
 ∃(I:σ->τ->Int->E->Prop)(μ:σ->τ->Int->E->Nat),I g h 0 d/\∀s t i a,I s t i a->f I μ s t i a:=by
 refine⟨λs t i b=>∃k:Nat,i=k/\k<=j/\Q k s t b,λ_ _ i _=>(j -i).toNat,⟨0,rfl,jb _,l⟩,?_⟩
 grind [nQ,PB]
def acD(e:ab)(j:Int)(g:ab):Prop:=(∀x∈g,x∈e\/x=j)/\g.length<=e.length+1
def FY(h:∀x∈g,x∈e\/x=j)(a:x∈e\/x=j):∀y∈g++[x],y∈e\/y=j:=by
 grind
def pJ(L:∀h∈S,h<d.size)(v:bd (dg S d) q e)(j:Int)(M:e.length<10^12):od 284 [q.v,vi j] d S (acD e j):=by
 apply KB;intro P;have H:=v.aS;refine Ba (j:=e.length) (H▸v.kA) (λk s c b=>J d b/\∃g,GI S d b s g/\(∀x∈g,x∈e\/x=j)/\g.length<=k+(if c=true then 1 else 0)) ⟨J.push d _,[],GI.gD S d,bO,bW⟩ ?_;rintro k s c w I μ O ⟨a,g,o,p,u⟩ C
 have N:g.length<=k+1:=by split at u<;>omega
 refine dit (λt=>?_) λt=>?_
 .let⟨x,y⟩:=dY e k;have G:∀{b:E},J d b->aR b q.bq (q.off+k*1)=some (vi x):=λt=>v.QW t y;have z:x∈e\/x=j:=bu (aZ y);have A:∀m:Bool,(g++[x]).length<=k+1+(if m=true then 1 else 0)->lS (w.push (.cells (de [.i x]) bE)) bE [.i 0] 8 s (.mk w.size 0 1 1) λr b=>I r m (eR ((k:Int)+1)) b/\μ r m (eR ((k:Int)+1)) b<μ s c k w:=λm hd=>
   GI.nA o (a.fz []) V λr B i f _ _=>C V _ _ _ ⟨f.ext,_,i,FY p z,hd⟩
  refine⟨λl=>⟨V,V,x,G a,λD=>⟨V,V,x,G a,λF=>?_,λF=>⟨V,V,x,G a,A true fj⟩⟩,λD=>⟨V,V,x,G a,A c ?_⟩⟩,λl=>⟨V,V,x,G a,A c ?_⟩⟩
  .have hd:c=false:=sp l;subst hd;simp at u;intro K;refine GI.nA o (a.fz []) V λr B i f _ _=>⟨V,V,x,G f.ext,?_⟩;intro Q;exact GI.nA i f fj λr R i f _ _=>C V _ _ _ ⟨f.ext,_,i,FY (FY p (bG rfl)) z,fj⟩
  .simp only[dj,dE,kD];omega
  .simp only[dj,dE,kD];omega
 .refine⟨λl=>?_,λl=>⟨s,g,rfl,o,⟨p,V⟩,a⟩⟩;have hd:c=false:=sp l;subst hd;simp at u;intro K;exact GI.nA o (a.fz []) V λr B i f _ _=>⟨r,_,rfl,i,⟨FY p (bG rfl),fj⟩,f.ext⟩
def wy(B:∀h∈S,h<d.size)(l:bd (dg S d) q e)(j:Int)(C:e.length<=10^12):od 280 [q.v,vi j] d S (tC e):=by
 apply AO;intro F;have z:=l.aS;refine Ba (j:=e.length) (z▸l.kA) (λk s _ a=>J d a/\∃g,GI S d a s g/\(∀x∈g,x∈e)/\g.length<=k) ⟨J.push d _,[],GI.gD S d,bO,bW⟩ ?_;rintro k s c o I μ E ⟨b,g,i,m,D⟩ t
 refine dit (λv=>?_) λv=>?_
 .let⟨x,p⟩:=dY e k;have G:=l.QW b p;have A:lS (o.push (.cells (de [.i x]) bE)) bE [.i 0] 8 s (.mk o.size 0 1 1) λr a=>I r c (eR ((k:Int)+1)) a/\μ r c (eR ((k:Int)+1)) a<μ s c k o:=
   GI.nA i (b.fz []) V λr H u f _ _=>t V _ _ _ ⟨f.ext,_,u,ta m (aZ p),fj⟩
  exact⟨V,V,x,G,λw=>⟨λy=>t V _ _ _ ⟨b,g,i,m,V⟩,λy=>⟨V,V,x,G,A⟩⟩,λw=>⟨V,V,x,G,A⟩⟩
 .exact⟨s,g,rfl,i,⟨m,V⟩,b⟩
def Tf(f:∀h∈S,h<d.size)(v:bd (dg S d) a e)(i:bd (dg S d) h u)(j:e.length+u.length<=10^12):od 298 [a.v,h.v] d S (λg=>(∀x∈g,x∈e\/x∈u)/\g.length<=e.length+u.length):=by
 apply Mz;refine(pB f v V).bZ λM _ G t p C=>⟨_,rfl,?_⟩;subst p;have w:=i.aS;refine gP (n:=u.length) (w▸i.kA) (λk s b=>J d b/\∃g,GI S d b s g/\(∀x∈g,x∈e\/x∈u)/\g.length<=e.length+k) ⟨C,_,t,λx c=>bu c,bW⟩ ?_;rintro k s H I μ F ⟨c,g,l,m,E⟩ B
 refine dit (λb=>?_) λb=>?_
 .let⟨x,o⟩:=dY u k;refine⟨V,V,x,i.QW c o,?_⟩;refine(pJ (λh j=>cp (f h j) c.aP) (l.cz f V) x V).bZ λL A K r q D=>⟨_,rfl,B V _ _ ⟨c.O D,A,r.da (λ_ b=>b) c.aP,λy z=>?_,oh q.2⟩⟩;rcases q.1 y z with b|b
  .exact m y b
  .subst b;exact bG (aZ o)
 .exact⟨s,g,rfl,l,⟨m,V⟩,c⟩
def xK(a:Int)(d:E):gK dN 317 [vi a] d (14<=a/\a<=17):=by
 apply Dc;exact(dk).bZ λh e c b=>⟨_,rfl,lg c b⟩
def iy(j:∀h∈S,h<d.size){og:N}{a:ab}(l:bd (dg S d) q e)(m:bd (dg S d) og a)(k:e.length+a.length<=10^12):od 215 [q.v,og.v] d S (e++a=·):=by
 apply yV;refine(pB j l V).bZ λp _ o b g c=>⟨_,rfl,?_⟩;subst g;exact GI.lQ b (c.fz []) (m.le (xk c b.cD.1)) k λr n i f _ _=>⟨r,_,rfl,i,rfl,f.ext⟩
def vS(v:∀h∈S,h<d.size)(i:bd (dg S d) q e)(j:Nat)(w:j+e.length<=10^12):od 221 [q.v,vi j] d S (λg=>(∀x∈g,(j:Int)<=x/\x<j+e.length)/\g.length<=e.length):=by
 apply GZ;intro B;have t:=i.aS;refine gP (n:=e.length) (t▸i.kA) (λk s a=>J d a/\∃g,GI S d a s g/\(∀x∈g,(j:Int)<=x/\x<j+e.length)/\g.length<=k) ⟨J.push d _,[],GI.gD S d,bO,bW⟩ ?_;rintro k s C I μ A ⟨b,g,c,l,z⟩ m
 refine dit (λp=>?_) λp=>?_
 .let⟨x,u⟩:=dY e k;refine⟨V,V,x,i.QW b u,λr=>?_,λr=>m V _ _ ⟨b,g,c,l,V⟩⟩;rw[dt (b:=(j:Int)+k) V V];intro D;refine GI.nA c (b.fz []) V λF E o f _ _=>m V _ _ ⟨f.ext,_,o,?_,fj⟩
  intro y a;rcases bR.1 a with a|a
  .exact l y a
  .simp at a;omega
 .exact⟨s,g,rfl,c,⟨l,V⟩,b⟩
def oZ(p:∀h∈S,h<d.size)(j a:Nat)(q:j+a<=10^12):od 189 [vi j,vi a] d S (λg=>(∀x∈g,(j:Int)<=x/\x<j+a)/\g.length=a):=by
 apply BQ;intro u;refine gP (n:=a) V (λk s b=>J d b/\∃g,GI S d b s g/\(∀x∈g,(j:Int)<=x/\x<j+a)/\g.length=k) ⟨J.push d _,[],GI.gD S d,bO,rfl⟩ ?_;rintro k s v I μ t ⟨i,g,c,e,r⟩ o
 refine dit (λm=>?_) λm=>?_
 .rw[dt (b:=(j:Int)+k) V V];intro w;refine GI.nA c (i.fz []) V λA z l f _ _=>o V _ _ ⟨f.ext,_,l,?_,fj⟩
  intro y b;rcases bR.1 b with b|b
  .exact e y b
  .simp at b;omega
 .exact⟨s,g,rfl,c,⟨e,V⟩,i⟩
theorem Ll(e:ab):(e.map λx=>[Ce.i x]).flatten=e.map Ce.i:=by induction e<;>simp_all
def GI.eB(n:GI S p d s e)(F:Fz X p d)(N:k<e.length)(j:Int):
 iQ d s.bq (s.off+k*1) 1/\GI S p (aV d s.bq (s.off+k*1) [.i j]) s (e.set k j)/\Fz X p (aV d s.bq (s.off+k*1) [.i j])/\(∀h,h≠s.bq->(aV d s.bq (s.off+k*1) [.i j])[h]? =d[h]?):=by
 have J:=n.cD
 have O:=n.aS cH
 let⟨t,a,B,f⟩:=n
 have H:∀h,h≠s.bq->(aV d s.bq (s.off+k*1) [.i j])[h]? =d[h]? :=by grind [cg]
 let⟨h,w,tail,l,y,z,K,A⟩:=B.D.resolve_left t
 have M:a.flatten.length=e.length:=by rw[eE f.aP,f.aS];omega
 have G:a.flatten=e.map Ce.i:=by
  apply ee;intro g;rcases eJ g e.length with v|v
  .let⟨x,q⟩:=jk v;let⟨cs,u⟩:=dY a g cG;have C:cs=[.i x]:=f.eN g cs x u q;have D:=jY (e:=1) f.aP u (i:=0) (c:=.i x) cG;grind
  .grind [List.getElem?_eq_none]
 have I:s.off+k*1=k:=by rw[l];simp
 have E:s.bq=h:=by rw[l];rfl
 refine⟨?_,⟨t,(e.set k j).map λx=>[.i x],⟨?_,bG ⟨h,w,tail,l,y,?_,?_,A⟩⟩,⟨by rw[jq],λcs L=>?_,λP cs x u q=>?_⟩⟩,F.aV (bG J.1) _ _,H⟩
 .grind [dJ.iQ,List.length_append,List.length_cons,List.length_nil]
 .grind [Ll,List.length_map,List.length_set]
 .have C:=dJ.aV (m:=d) (b:=h) (r:=[.i j]) (o:=k) z
  rw[I,E,Ll]
  have D:jh (a.flatten++tail) k [.i j]=(e.set k j).map Ce.i++tail:=by
   apply ee;intro g;rw[Ey,G];grind [List.getElem?_append_left,Nat.lt_or_ge,List.length,List.getElem?_set_ne,List.getElem?_append_right]
  rw[<-D];exact C
 .grind [Ll,List.length_append,List.length_map,List.length_set]
 .grind
 .simp only[eu,q,rZ,Vg]at u
  exact u.symm
def y8(k:∀h∈S,h<d.size)(n:bd (dg S d) q e)(m:e.length<=10^12){a:Nat}(l:a<e.length)(j:Int):od 241 [q.v,vi a,vi j] d S (e.set a j=·):=by
 apply Dt;refine(pB k n m).bZ λs _ p g b o=>⟨_,rfl,V,?_,?_⟩
 .subst b;have:=g.aS cH;omega
 subst b;obtain⟨c,f,i,_⟩:=g.eB (o.fz []) l j;exact⟨c,s,_,rfl,f,rfl,i.ext⟩
end
end Go.Proofs.YtbbbdejieenniaaGreat
section
namespace Go.Vc
variable{l:au}{k d a:Nat}{x s:eK}{c:Prop}
open Go.Proofs.YtbbbdejieenniaaGreat
def Bk.ind{Q:Bk->Prop}(h:∀bz r,(∀s∈bz,∀b∈s.dm,Q b)->Q (.mk bz r)):∀b,Q b
 | .mk bz r=>h bz r λs _ b _=>Bk.ind h b
termination_by b=>SizeOf.sizeOf b
decreasing_by
 rename_i a c
 have d:=sR a
 have e:=sR c
 have f:SizeOf.sizeOf s.dm<SizeOf.sizeOf s:=by cases s;simp;omega
 simp;omega
def Ex.ind{Q:Ex->Prop}(h:∀a cE dm,(∀e∈dm,Q e)->Q (.mk a cE dm)):∀e,Q e
 | .mk a cE dm=>h a cE dm λe _=>Ex.ind h e
termination_by e=>SizeOf.sizeOf e
decreasing_by
 rename_i a
 have b:=sR a
 simp;omega
def sw(l:au):Nat:=(l.map QQ.w).sum
def bw(l:aF):Nat:=(l.map Bk.w).sum
def en(l:ax):Nat:=(l.map Ex.n).sum
@[simp] theorem zJ:sw []=0:=rfl
@[simp] theorem DM:bw []=0:=rfl
@[simp] theorem acM:en []=0:=rfl
theorem pW(x:eK)(l:au):sw (x::l)=x.w+sw l:=by simp[sw]
theorem yK(x:Bk)(l:aF):bw (x::l)=x.w+bw l:=by simp[bw]
def Sn(x:Ex)(l:ax):en (x::l)=x.n+en l:=by simp[en]
theorem gH(a b:au):sw (a++b)=sw a+sw b:=by simp[sw]
theorem sX(a b:aF):bw (a++b)=bw a+bw b:=by simp[bw]
theorem RE(a b:ax):en (a++b)=en a+en b:=by simp[en]
theorem Bk.vB(s:au)(r:Int):(Bk.mk s r).w=1+sw s:=Bk.aeA _
def Bk.pD(b:Bk):b.w=1+sw b.bz:=Bk.aeA b
theorem eK.pD(s:eK):s.w=1+s.aN.length+bw s.dm:=rfl
def Ex.Yf{o n:Int}{k:ax}:(Ex.mk o n k).n=1+en k:=by rw[Ex.n];rfl
def Ex.adO(e:Ex):e.n=1+en e.dm:=by cases e;exact Ex.Yf
def ub(h:l[k]? =some x):sw (l.take (k+1))=sw (l.take k)+x.w:=by rw[bX h,gH,pW,zJ];rfl
def yL{l:aF}{x:Bk}(h:l[k]? =some x):bw (l.take (k+1))=bw (l.take k)+x.w:=by rw[bX h,sX,yK,DM];rfl
theorem Oo{l:ax}{x:Ex}(h:l[k]? =some x):en (l.take (k+1))=en (l.take k)+x.n:=by rw[bX h,RE,Sn,acM];rfl
def FF(l:au)(k:Nat):sw (l.take k)<=sw l:=by
 grind [gH,List.take,List.drop,List.take_append_drop]
def WJ(l:aF)(k:Nat):bw (l.take k)<=bw l:=by
 grind [sX,List.take,List.drop,List.take_append_drop]
def W6(l:ax)(k:Nat):en (l.take k)<=en l:=by
 grind [RE,List.take,List.drop,List.take_append_drop]
def Tj(h:l[k]? =some x):x.w<=sw l:=by
 have:=ub h;have:=FF l (k+1);omega
def AZ{l:aF}{x:Bk}(h:l[k]? =some x):x.w<=bw l:=by
 have:=yL h;have:=WJ l (k+1);omega
def jH:∀l:au,l.length<=sw l
 |[]=>bO
 |x::l=>by have:=jH l;rw[pW,dE,eK.pD];omega
def Bk.Nr(b:Bk):1<=b.w:=by rw[Bk.pD];omega
def xe:∀l:aF,l.length<=bw l
 |[]=>bO
 |x::l=>by have:=xe l;have:=x.Nr;rw[yK,dE];omega
def VE:∀l:ax,l.length<=en l
 |[]=>bO
 |x::l=>by have:=VE l;rw[Sn,dE,Ex.adO];omega
def tw(a:Int):Prop:=0<=a/\a<=11
instance(a:Int):Decidable (tw a):=inferInstanceAs (Decidable (_/\_))
def dn(s:eK):Nat:=if tw s.op then 1 else 0
def dc(l:au):Nat:=(l.map dn).sum
@[simp] theorem xh:dc []=0:=rfl
theorem nH(x:eK)(l:au):dc (x::l)=dn x+dc l:=by simp[dc]
theorem eZ(a b:au):dc (a++b)=dc a+dc b:=by simp[dc]
def uU(h:l[k]? =some x):dc (l.take (k+1))=dc (l.take k)+dn x:=by rw[bX h,eZ,nH,xh];rfl
def Y5(l:au)(k:Nat):dc (l.take k)<=dc l:=by
 grind [eZ,List.take,List.drop,List.take_append_drop]
def adt(x:eK):dn x<=1:=by grind [dn]
def xg:∀l:au,dc l<=l.length
 |[]=>bO
 |x::l=>by have:=xg l;have:=adt x;rw[nH,dE];omega
def FR(a:af)(b cE:Int)(i:Nat):Nat:=if b=8 then(cW a (((cT a cE)[i]?).getD 0)).length else 0
@[grind cases] structure XJ (ds:af) (nr:Nat) (c:Prop) (a:Nat) (s:eK):Prop where
 op:tw s.op\/c/\14<=s.op/\s.op<=17
 aN:∀x∈s.aN,0<=x/\x<(a:Int)
 lW:14<=s.op\/s.op=7\/s.op=8->s.aN.length=1
 cY:0<=s.cY/\s.cY<=(a:Int)
 MG:s.op=7->s.dm.length=2
 lQ:s.op=8->s.dm.length=(cT ds s.cE).length/\0<s.dm.length
 jr:s.op=9->0<=s.cE/\s.cE<(nr:Int)
inductive WB(ds:af)(d:Nat)(c:Prop):Nat->Bk->Prop
 |mk {a:Nat} {bz:au} {r:Int} (iL:∀(i:Nat)(s:eK),bz[i]? =some s->XJ ds d c (a+dc (bz.take i)) s)
  (dm:∀(i:Nat)(s:eK)(k:Nat)(b:Bk),bz[i]? =some s->s.dm[k]? =some b->WB ds d c (a+dc (bz.take i)+FR ds s.op s.cE k) b)
  (res:0<=r/\r<((a+dc bz:Nat):Int)):WB ds d c a (.mk bz r)
@[grind cases] structure WS (ds:af) (nr:Nat) (c:Prop) (a:Nat) (s:eK):Prop where
 iL:XJ ds nr c a s
 dm:∀(k:Nat)(b:Bk),s.dm[k]? =some b->WB ds nr c (a+FR ds s.op s.cE k) b
def WL(b:af)(d:Nat)(c:Prop)(a:Nat)(l:au):Prop:=∀(i:Nat)(s:eK),l[i]? =some s->WS b d c (a+dc (l.take i)) s
def WB.cC{e:af}{b:Bk}(h:WB e d c a b):WL e d c a b.bz/\0<=b.bL/\b.bL<((a+dc b.bz:Nat):Int):=by
 cases h with
 |mk iL dm j=>exact⟨λi s f=>⟨iL i s f,λk b g=>dm i s k b f g⟩,j⟩
def WB.of{e:af}{bz:au}{r:Int}(h:WL e d c a bz)(j:0<=r/\r<((a+dc bz:Nat):Int)):WB e d c a (.mk bz r):=
 .mk (λi s b=>(h i s b).iL) (λi s k f b g=>(h i s b).dm k f g) j
def WL.gD{b:af}:WL b d c a []:=λi s h=>by simp at h
theorem WL.fy{e:af}{g:au}(h:WL e d c a l)(j:WL e d c (a+dc l) g):WL e d c a (l++g):=λi s b=>by
 rcases eJ i l.length with f|f
 .rw[dX f]at b;rw[rh V];exact h i s b
 .rw[dL f]at b;have:=j _ s b;grind [List.take_append,List.take_of_length_le,eZ,Nat.add_assoc]
theorem WL.lW{e:af}(h:WS e d c a s):WL e d c a [s]:=λi x b=>by
 have:i=0:=by have:=bA b;simp at this;omega
 subst this;simp at b;subst b;simpa using h
theorem WL.By{b:af}(h:WL b d c a l)(e:WS b d c (a+dc l) s):WL b d c a (l++[s]):=h.fy (.lW e)
theorem WL.ME{e:af}(h:WL e d c a l)(k:Nat):WL e d c a (l.take k):=λi s b=>by
 rw[lE]at b;split at b
 .rw[aaa,my V];exact h i s b
 .simp at b
theorem WL.uD{b:af}(h:WL b d c a l)(k:Nat):WL b d c (a+dc (l.take k)) (l.drop k):=λi s e=>by
 rw[rC]at e;have:=h _ s e;grind [eZ,Nat.add_assoc]
end Go.Vc
end
namespace Go.Proofs.YtbbbdejieenniaaGreat
open Go.Vc
section
variable{m:E}{d p:N}{b:cV}
def pt(b:cV)(cE:Int)(n:Nat):Prop:=∃q:dP,0<=cE/\b.cO[cE.toNat]? =some q/\q.aX.length=n
theorem Z4:eR 9223372036854775808= -9223372036854775808:=cH
def AK(h:iF m d p b)(cE:Int)(n og:Nat)(G:n<=9223372036854775807)(F:og<=1):
 gK dN 150 [.agg #[d.v,p.v],vi cE,vi n,vi og] m (pt b cE (n+og)):=by
 apply Hg
 simp -zeta only[dU]
 intro j
 have i:=px j
 have w:∀k∈[m.size],k<j.size:=by simp[j]
 have H:=h.cO.aS
 have I:=h.cO.kA
 refine(dk).bK di w λk J o f B=>⟨_,rfl,λa=>?_,λa=>?_⟩
 .have a:=o.1 a
  rw[iC]at a
  let⟨q,g⟩:=dY b.cO cE.toNat
  let⟨e,x,y,l,D,E,s,g1,g2,z,A⟩:=(kY.ext (i.O f) h.cO).D g
  refine⟨V,V,e,s,lg ?_ (i.O f)⟩
  have u:=l.aS
  have C:=l.kA
  simp only[bP]
  have r:(e.len:Int)=eR ((n:Int)+(og:Int))<->e.len=n+og:=by
   grind [Nat.lt_or_ge,dt,Z4]
  rw[r,u]
  exact⟨λv=>⟨q,a.1,g,v⟩,λ⟨K,_,c,t⟩=>by rw[g]at c;simp at c;rw[c];exact t⟩
 .refine fW (λ⟨q,e,c,_⟩=>fb o a ?_) (i.O f)
  have:=bA c
  grind [dt]
def kL(b:cV)(p:dP)(k:Nat)(i:Instr):Prop:=
 if i.op=0 then i.aN.length=0/\-999<=i.cE/\i.cE<=999
 else if i.op=1\/i.op=2\/i.op=3\/i.op=4\/i.op=11 then i.aN.length=2/\i.cE=0
 else if i.op=5\/i.op=14\/i.op=15\/i.op=18\/i.op=23 then i.aN.length=1/\i.cE=0
 else if i.op=6 then(0<=i.cE/\i.cE<(gJ b.bQ).length)/\i.aN.length=(cW b.bQ i.cE).length/\0<=i.cY/\i.cY<=p.aT
 else if i.op=9\/i.op=24 then pt b i.cE i.aN.length
 else if i.op=10 then pt b i.cE (i.aN.length+1)/\∀q,b.cO[i.cE.toNat]? =some q->q.cR.length=0
 else if i.op=16\/i.op=17 then(1<=i.aN.length/\i.aN.length<=4)/\i.cE=0
 else if i.op=19 then i.aN.length=1/\0<=i.cE/\i.cE<=2
 else if i.op=20 then i.aN.length=1/\(k:Int)+1<=i.cE/\i.cE<=(p.cF.length:Int) -1
 else if i.op=22 then i.aN.length=0/\(k:Int)+1<=i.cE/\i.cE<=(p.cF.length:Int) -1
 else if i.op=21 then i.aN.length=1/\0<(cT b.bQ i.cE).length/\JG i.fQ (cT b.bQ i.cE).length k p.cF.length
 else False
@[grind cases] structure iB (im:cV) (p:dP) (k:Nat) (i:Instr):Prop where
 aN:∀a∈i.aN,0<=a/\a<=p.aT -1
 br:0<=i.br/\i.br<=p.aT -1
 adu:i.br=0\/kM i.op
 cY:i.cY=0\/i.op=6
 fQ:i.op=21\/i.fQ.length=0
 op:kL im p k i
@[grind cases] structure TC (m:E) (a l:N) (c:N) (p:dP):Prop where
 aX:bd m a p.aX
 cR:bd m l p.cR
 cF:gR m c p.cF
def TC.ext{m d:E}(a:J m d){b l c:N}{p:dP}(h:TC m b l c p):TC d b l c p:=⟨h.aX.ext a,h.cR.ext a,gR.ext a h.cF⟩
def Jq(ae:iF m d p b)(R:eP b.bQ){X ad D:N}{q:dP}(P:TC m X ad D q)(hr:1<=q.aT/\q.aT<=2000){k:Nat}{i:Instr}(hk:q.cF[k]? =some i):
 gK dN 106 [.agg #[d.v,p.v],.agg #[X.v,ad.v,vi q.bL,vi q.aT,D.v],vi k] m (iB b q k i):=by
 apply Dp
 simp -zeta only[dU]
 intro m1 W
 have T:J m W:=((J.cZ m).cw _).cw _
 have ay:=bA hk
 have ah:=P.cF.aS
 have av:=P.cF.kA
 let⟨xa,A,C,hj,g0,g1,g2,g3,g4,g5⟩:=(gR.ext T P.cF).D hk
 refine⟨V,V,_,g0,_,g1,_,g2,_,g3,_,g4,_,g5,?_⟩
 intro m3 u
 have l:J m u:=(T.cw _).aV T.aP _ _
 have ab:J W u:=by grind [J.cZ,J.cw,J.aV]
 have j:∀r∈[W.size,m1.size,m.size],r<u.size:=by
  grind [bD]
 clear_value u
 have O:=C.aS
 have ax:=hj.aS
 have aq:=C.kA
 have er:eR (q.aT -1)=q.aT -1:=by grind [dt]
 rw[er]
 refine ik (n:=i.aN.length) (O▸C.kA) (λU h=>J u h/\∀x∈i.aN.take U,0<=x/\x<=q.aT -1) ⟨di,bO⟩ ?_
 rintro U m5 ao μ aw ⟨S,hn⟩ am
 refine dit (λh1=>?_) λh1=>?_
 .let⟨x,f⟩:=dY i.aN U
  refine⟨V,V,x,by simpa using(ab.O S).aR (C.D f),?_⟩
  exact(dk).bK S j λr z e t c=>⟨_,rfl,λa=>fW (λg=>nb e a (g.aN x (aZ f))) (l.O c),λa=>am V _ ⟨c,eC f hn (yb e a)⟩⟩
 .have af:=ig V hn
  refine⟨λh=>J u h/\(0<=i.br/\i.br<=q.aT -1)/\(i.br=0\/kM i.op)/\(i.cY=0\/i.op=6)/\(i.op=21\/i.fQ.length=0),?_,?_⟩
  .refine(dk).bK S j λr z e t c=>⟨_,rfl,λa=>fW (λg=>nb e a g.br) (l.O c),λa=>?_⟩
   have Z:=yb e a
   have tail:∀h:E,J u h->(i.br=0\/kM i.op)->
    ((i.cY !=0)=true->((i.op !=6)=true->∃s:Bool,vb false=.bool s/\(s=true<->iB b q k i)/\J m h)/\((i.op !=6)=false->
     ((i.op !=21)=true->((decide ((A.len:Int)>0))=true->∃s:Bool,vb false=.bool s/\(s=true<->iB b q k i)/\J m h)/\((decide ((A.len:Int)>0))=false->J u h/\(0<=i.br/\i.br<=q.aT -1)/\(i.br=0\/kM i.op)/\(i.cY=0\/i.op=6)/\(i.op=21\/i.fQ.length=0)))/\
     ((i.op !=21)=false->J u h/\(0<=i.br/\i.br<=q.aT -1)/\(i.br=0\/kM i.op)/\(i.cY=0\/i.op=6)/\(i.op=21\/i.fQ.length=0))))/\
    ((i.cY !=0)=false->
     ((i.op !=21)=true->((decide ((A.len:Int)>0))=true->∃s:Bool,vb false=.bool s/\(s=true<->iB b q k i)/\J m h)/\((decide ((A.len:Int)>0))=false->J u h/\(0<=i.br/\i.br<=q.aT -1)/\(i.br=0\/kM i.op)/\(i.cY=0\/i.op=6)/\(i.op=21\/i.fQ.length=0)))/\
     ((i.op !=21)=false->J u h/\(0<=i.br/\i.br<=q.aT -1)/\(i.br=0\/kM i.op)/\(i.cY=0\/i.op=6)/\(i.op=21\/i.fQ.length=0))):=by
    intro h F Y
    have o:(i.cY=0\/i.op=6)->((i.op !=21)=true->((decide ((A.len:Int)>0))=true->∃s:Bool,vb false=.bool s/\(s=true<->iB b q k i)/\J m h)/\((decide ((A.len:Int)>0))=false->J u h/\(0<=i.br/\i.br<=q.aT -1)/\(i.br=0\/kM i.op)/\(i.cY=0\/i.op=6)/\(i.op=21\/i.fQ.length=0)))/\
     ((i.op !=21)=false->J u h/\(0<=i.br/\i.br<=q.aT -1)/\(i.br=0\/kM i.op)/\(i.cY=0\/i.op=6)/\(i.op=21\/i.fQ.length=0)):=by
     intro B
     refine⟨λf=>⟨λv=>?_,λv=>?_⟩,λf=>?_⟩
     .grind [iB.fQ,J.O]
     .grind
     .grind
    refine⟨λf=>⟨λv=>?_,λv=>o (bG cG)⟩,λf=>o (bu cG)⟩
    grind [iB.cY,J.O]
   refine⟨λf=>?_,λf=>tail z c (bu cG)⟩
   refine(BU _ _).bK c j λr x e v w=>⟨_,rfl,λy=>?_,λy=>tail x w (bG (yb e y))⟩
   grind [iB.adu,J.O]
  .rintro m8 ⟨o,Z,Y,aj,ak⟩
   have ac:=l.O o
   have ai:iB b q k i<->kL b q k i:=⟨λg=>g.op,λg=>⟨af,Z,Y,aj,ak,g⟩⟩
   rw[ai]
   have z:iF m8 d p b:=iF.ext ac ae
   refine⟨λF=>?_,λF=>?_⟩
   .simp only[bP]at F
    have g:kL b q k i<->i.aN.length=0/\-999<=i.cE/\i.cE<=999:=by grind [kL]
    rw[g]
    refine⟨λt=>?_,λt=>?_⟩
    .simp only[bP]at t
     refine(dk).bK o j λr x e c a=>⟨_,rfl,lg ?_ (l.O a)⟩
     rw[e];omega
    grind [beq_eq_false_iff_ne]
   simp only[a8]at F
   refine⟨λG=>?_,λG=>?_⟩
   .grind [kL,List.length,beq_eq_false_iff_ne]
   simp only[cU,a8]at G
   replace G:¬(i.op=1\/i.op=2\/i.op=3\/i.op=4\/i.op=11):=V
   refine⟨λH=>?_,λH=>?_⟩
   .grind [kL,List.length,beq_eq_false_iff_ne]
   simp only[cU,a8]at H
   replace H:¬(i.op=5\/i.op=14\/i.op=15\/i.op=18\/i.op=23):=V
   refine⟨λI=>?_,λI=>?_⟩
   .simp only[bP]at I
    have g:kL b q k i<->(0<=i.cE/\i.cE<(gJ b.bQ).length)/\i.aN.length=(cW b.bQ i.cE).length/\0<=i.cY/\i.cY<=q.aT:=by grind [kL]
    rw[g]
    refine(pA z.bQ R _).bK o j ?_
    rintro _ x ⟨ap,rfl,B,c⟩
    refine⟨c,_,rfl,dit (λa=>?_) λa=>?_⟩
    .have M:0<=i.cE/\i.cE<(gJ b.bQ).length:=by
      rcases B with⟨K,L,f,v,w,y⟩|⟨f,_⟩
      .have:=JS b.bQ (show K+1<=b.bQ.length from bA v);grind [wE,qu]
      .omega
     refine(Ku (dq.ext c z.bQ) R).bK (o.O c) j ?_
     rintro _ al ⟨an,rfl,Q,f⟩
     have aa:=Q.aS
     refine⟨f,_,rfl,λv=>?_,λv=>?_⟩
     .simp only[bP]at v
      refine(dk).bK ((o.O c).O f) j λr ag e w y=>⟨_,rfl,lg ?_ (l.O y)⟩
      grind
     grind [beq_eq_false_iff_ne,J.O]
    .refine fW (λM=>?_) (ac.O c)
     rcases B with⟨K,L,f,v,w,y⟩|⟨_,f⟩
     .omega
     .exact f M.1
   simp only[a8]at I
   refine⟨λB=>?_,λB=>?_⟩
   .simp only[eD,bP]at B
    have g:kL b q k i<->pt b i.cE (i.aN.length+0):=by grind [kL]
    rw[g]
    have L:=AK z i.cE i.aN.length 0 V V
    rw[O]
    refine L.bK o j λr x e c a=>⟨_,rfl,lg e (l.O a)⟩
   simp only[cU,a8]at B
   replace B:¬(i.op=9\/i.op=24):=V
   refine⟨λK=>?_,λK=>?_⟩
   .simp only[bP]at K
    have g:kL b q k i<->pt b i.cE (i.aN.length+1)/\∀q,b.cO[i.cE.toNat]? =some q->q.cR.length=0:=by grind [kL]
    rw[g]
    have L:=AK z i.cE i.aN.length 1 V V
    rw[O]
    refine L.bK o j λr x e c a=>⟨_,rfl,λf=>?_,λf=>fW (λM=>fb e f M.1) (l.O a)⟩
    let⟨q',v,w,y⟩:=(e.1 f)
    let⟨a',s,c',ap,ag,au,f0,M,f2,f3,f4⟩:=(kY.ext c z.cO).D w
    have:=z.cO.aS
    have:=bA w
    refine⟨V,V,s,M,lg ?_ (l.O a)⟩
    have ar:=ag.aS
    grind
   simp only[a8]at K
   refine⟨λs=>?_,λs=>?_⟩
   .simp only[eD,bP]at s
    have g:kL b q k i<->(1<=i.aN.length/\i.aN.length<=4)/\i.cE=0:=by grind [kL]
    rw[g]
    refine(dk).bK o j λr x e c a=>⟨_,rfl,λf=>lg ?_ (l.O a),λf=>fW ?_ (l.O a)⟩
    .grind
    grind
   simp only[cU,a8]at s
   replace s:¬(i.op=16\/i.op=17):=V
   refine⟨λy=>?_,λy=>?_⟩
   .simp only[bP]at y
    have g:kL b q k i<->i.aN.length=1/\0<=i.cE/\i.cE<=2:=by grind [kL]
    rw[g]
    refine⟨λt=>?_,λt=>?_⟩
    .simp only[bP]at t
     refine(dk).bK o j λr x e c a=>⟨_,rfl,lg ?_ (l.O a)⟩
     rw[e];omega
    grind [beq_eq_false_iff_ne]
   simp only[a8]at y
   have ek:eR ((k:Int)+1)=(k:Int)+1:=by grind [dt]
   have ec:eR ((D.len:Int) -1)=(q.cF.length:Int) -1:=by grind [dt]
   rw[ek,ec]
   refine⟨λL=>?_,λL=>?_⟩
   .simp only[bP]at L
    have g:kL b q k i<->i.aN.length=1/\(k:Int)+1<=i.cE/\i.cE<=(q.cF.length:Int) -1:=by grind [kL]
    rw[g]
    refine⟨λt=>?_,λt=>?_⟩
    .simp only[bP]at t
     refine(dk).bK o j λr x e c a=>⟨_,rfl,lg ?_ (l.O a)⟩
     rw[e];omega
    grind [beq_eq_false_iff_ne]
   simp only[a8]at L
   refine⟨λM=>?_,λM=>?_⟩
   .simp only[bP]at M
    have g:kL b q k i<->i.aN.length=0/\(k:Int)+1<=i.cE/\i.cE<=(q.cF.length:Int) -1:=by grind [kL]
    rw[g]
    refine⟨λt=>?_,λt=>?_⟩
    .simp only[bP]at t
     refine(dk).bK o j λr x e c a=>⟨_,rfl,lg ?_ (l.O a)⟩
     rw[e];omega
    grind [beq_eq_false_iff_ne]
   simp only[a8]at M
   refine⟨λt=>?_,λt=>?_⟩
   .simp only[bP]at t
    have g:kL b q k i<->i.aN.length=1/\0<(cT b.bQ i.cE).length/\JG i.fQ (cT b.bQ i.cE).length k q.cF.length:=by grind [kL]
    rw[g]
    refine(EG z.bQ R).bK o j ?_
    rintro _ x ⟨an,rfl,Q,c⟩
    have aa:=Q.aS
    refine⟨c,_,rfl,λa=>?_,λa=>?_⟩
    .simp only[bP]at a
     refine⟨λf=>?_,λf=>?_⟩
     .simp only[bh]at f
      rw[aa,ah]
      refine(Jr (hj.ext (ab.O (o.O c))) V V).bK (o.O c) j λr al e v w=>⟨_,rfl,lg ?_ (l.O w)⟩
      grind
     grind [decide_eq_false_iff_not,J.O]
    grind [beq_eq_false_iff_ne,J.O]
   grind [beq_eq_false_iff_ne,kL,False]
end
section
variable{a:E}{d p:N}{b:cV}
@[grind cases] structure nh (ds:af) (ps:av):Prop where
 dh:eP ds
 aS:1<=ps.length/\ps.length<=4
 eN:∀p∈ps,p.aX.length<=3/\Hw ds.length p.aX/\zQ ds.length p.bL
 first:∀p,ps[0]? =some p->p.aX.length=0/\p.bL=0
def sS(a:E)(c:ae)(p:dP):Prop:=∃b,c=[.s b,.i p.bL,.i 0,.i 0,.s .nil]/\bd a b p.aX
def sS.ext{a d:E}(h:J a d)(b:ae)(c:dP):sS a b c->sS d b c:=λ⟨f,e,g⟩=>⟨f,e,g.ext h⟩
theorem YJ.D{s:N}{l:av}(h:fU a 5 (sS a) s l){k:Nat}{x:dP}(e:l[k]? =some x):
 ∃b,bd a b x.aX/\aR a s.bq (s.off+k*5)=some b.v/\aR a s.bq (s.off+k*5+1)=some (vi x.bL)/\aR a s.bq (s.off+k*5+2)=some (vi 0)/\aR a s.bq (s.off+k*5+3)=some (vi 0)/\aR a s.bq (s.off+k*5+4)=some (N.v .nil):=by
 obtain⟨f,⟨b,rfl,d⟩,c⟩:=h.kV k x e
 exact⟨b,d,c 0 (.s b) rfl,c 1 (.i x.bL) rfl,c 2 (.i 0) rfl,c 3 (.i 0) rfl,c 4 (.s .nil) rfl⟩
def yZ{y:N}{j:af}{h:av}(hd:dq a d j)(w:fU a 5 (sS a) y h):
 gK dN 52 [.agg #[d.v,y.v]] a (nh j h):=by
 apply FA
 simp -zeta only[dU]
 intro q
 have m:=px q
 have E:∀e∈[a.size],e<q.size:=by simp[q]
 have l:=hd.aS
 have Z:=w.aS
 refine(Jt (dq.ext m hd)).bK di E λe m2 b M P=>⟨_,rfl,λu=>fW (λc=>nb b u c.dh) (m.O M),λu=>?_⟩
 have S:=yb b u
 refine(dk).bK P E λe m3 b Y C=>⟨_,rfl,λv=>fW (λc=>nb b v (oh c.aS)) (m.O C),λv=>?_⟩
 have aa:=yb b v
 refine ik (n:=h.length) V (λx f=>J q f/\∀p∈h.take x,p.aX.length<=3/\Hw j.length p.aX/\zQ j.length p.bL) ⟨C,bO⟩ ?_
 rintro x I W μ hj ⟨H,G⟩ U
 have g:=m.O H
 refine dit (λQ=>?_) λQ=>?_
 .let⟨p,f⟩:=dY h x
  let⟨L,k,r,g1,g2,z,A⟩:=YJ.D (w.aO g (sS.ext g)) f
  have R:=k.aS
  refine⟨V,V,_,r,_,g1,_,g2,_,z,_,A,?_⟩
  intro m5 K
  have o:J I K:=by grind [J.cZ,J.cw,J.aV]
  have F:∀e∈[I.size,a.size],e<K.size:=by
   grind [J.lt,Array.size,J.aP,bD]
  refine⟨λi=>?_,λi=>?_⟩
  .grind [nh.eN,aZ,J.O]
  simp only[dF]at i
  refine(Ar (k.ext o)).bK di F λe m7 b D O=>⟨_,rfl,λs=>fW (λc=>nb b s (l▸(c.eN p (aZ f)).2.1)) ((g.O o).O D),λs=>?_⟩
  have T:=yb b s
  refine(dk).bK O F λe m8 b X B=>⟨_,rfl,λt=>?_,λt=>?_⟩
  .refine fW (λc=>nb b t ?_) ((g.O o).O B)
   rw[l];exact(c.eN p (aZ f)).2.2
  .refine U V _ ⟨(H.O o).O B,eC f G ⟨V,l▸T,?_⟩⟩
   have:=yb b t
   rw[l]at this;exact this
 .have o:=ig V G
  let⟨p,f⟩:=dY h 0
  let⟨L,k,r,g1,g2,z,A⟩:=YJ.D (w.aO g (sS.ext g)) f
  have R:=k.aS
  refine⟨V,V,_,r,λi=>?_,λi=>?_⟩
  .simp only[bP]at i
   refine⟨V,V,_,g1,lg ?_ g⟩
   simp only[bP]
   refine⟨λD=>⟨S,V,o,λt s=>?_⟩,λc=>(c.first p f).2⟩
   grind
  grind [beq_eq_false_iff_ne,nh.first]
def Hl(M:iF a d p b)(ap:b.cO.length<=4):
 bJ dN 53 [.agg #[N.v d,N.v p]] a λal j=>∃L,al=.agg #[N.v d,N.v L]/\fU j 5 (sS j) L b.cO/\J a j:=by
 apply BV
 simp -zeta only[kd,nJ]
 intro s k g I l
 have aq:=M.cO.aS
 have ah:J a I:=(((J.cZ a).cw _).cw _|>.cw _).cw _
 have s3:g.size=a.size+3:=by simp[g,k,s]
 have s2:k.size=a.size+2:=by simp[k,s]
 have s1:=pz s
 have s5:l.size=a.size+4:=by simp[l,I,bD,s3]
 have ai:J a l:=ah.aV V _ _
 have aa:dJ l g.size nE [.s d,.s (.mk k.size 0 0 0)]:=dJ.aV (m:=I) (o:=0) (r:=[.s d,.s (.mk k.size 0 0 0)]) (dJ.push g _ _)
 have ag:=py l
 have ad:jo a l iV 5 (.mk k.size 0 0 0) ([]:List ae).flatten:=
  (jo.bI (((J.cZ a).cw _).cw _:J a k) iV 5 [] 0 bO:jo a g iV 5 (.mk k.size 0 0 0) []).ext ag
 clear_value l
 refine ik (n:=b.cO.length) V (λB j=>J a j/\l.size<=j.size/\∃f w,dJ j g.size nE [.s d,.s f]/\jo a j iV 5 f w.flatten/\fK 5 (sS a) w (b.cO.take B)/\f≠.nil/\s.size<f.bq/\f.bq≠g.size/\f.len=B)
  ⟨ai,bW,_,[],aa,ad,by simpa using fK.gD 5 (sS a),bO,fj,fj,rfl⟩ ?_
 rintro B K am μ hk ⟨z,ax,f,w,x,P,H,au,ar,af,R⟩ ak
 refine dit (λT=>?_) λT=>?_
 .let⟨C,Q⟩:=dY b.cO B
  let⟨q,c,an,Z,e,hc,S,g1,g2,g3,g4⟩:=M.cO.D Q
  refine⟨f,x.dz 1,V,V,q,by simpa using z.aR S,V,V,_,by simpa using z.aR g2,?_⟩
  intro i
  have A:=px i
  refine⟨A.db (x.dz 1),?_⟩
  have np:jt i K.size 0 [.s q,.i C.bL,.i 0,.i 0,.s .nil]:=(dJ.push K _ _).kV
  have ac:=x.ext A
  have av:=pz i
  clear_value i
  refine jo.fy (c:=[.s .nil,.i 0,.i 0,.i 0,.s .nil]) (h:=[.s q,.i C.bL,.i 0,.i 0,.s .nil]) (P.ext A) (z.O A) rfl np (by simp[R];omega) ?_
  intro v t X Y E ao U W
  have D:∀c,c<i.size->c≠f.bq->t[c]? =i[c]? :=λc e F=>U c e (λ_=>F)
  have y:s.size<v.bq/\v.bq≠g.size:=by
   rcases W with⟨_,h⟩|⟨_,h,_⟩|h
   .rw[h]at E;simp at E
   .rw[h];constructor<;>omega
   .rw[h];constructor<;>omega
  have O:dJ t g.size nE [.s d,.s f]:=ac.congr (D _ V (λh=>af h.symm))
  refine⟨λc e=>?_,O.iQ bO,?_⟩
  .simp at e
   rcases e with rfl|rfl
   .exact D _ V V
   .exact D _ V V
  intro u
  have aw:u.size=t.size:=by simp[u,bD]
  have ab:dJ u g.size nE [.s d,.s v]:=dJ.aV (m:=t) (o:=1) (r:=[.s v]) O
  have G:∀c,c≠g.size->u[c]? =t[c]? :=λc e=>cg _ _ _ _ e
  have aj:J a u:=Y.aV V _ _
  clear_value u
  refine⟨λc e=>?_,?_⟩
  .simp at e
   rcases e with rfl|rfl
   .exact G _ V
   .exact G _ V
  refine ak V _ ⟨aj,V,v,w++[[.s q,.i C.bL,.i 0,.i 0,.s .nil]],ab,?_,?_,?_,y.1,y.2,by simp[E,R]⟩
  .rw[uS]
   exact(by simpa using X:jo a t iV 5 v (w.flatten++[[.s q,.i C.bL,.i 0,.i 0,.s .nil]].flatten)).congr (G _ y.2)
  .rw[bX Q]
   exact H.By rfl ⟨q,rfl,Z⟩
  .intro h
   rw[h]at y;simp at y
 .refine⟨d,x.dz 0,f,x.dz 1,?_⟩
  intro i
  have F:∀c,c≠s.size->i[c]? =K[c]? :=λc e=>cg _ _ _ _ e
  have h:J a i:=z.aV V _ _
  refine⟨f,rfl,?_,h⟩
  rw[eW V]at H
  exact(fU.jM (P.congr (F _ V)) H V V).aO di (sS.ext h)
@[grind cases] structure ny (im:cV) (p:dP):Prop where
 cR:DE p.aX p.cR
 aT:(p.aX.length:Int)<=p.aT/\1<=p.aT/\p.aT<=2000
 aS:1<=p.cF.length/\p.cF.length<=2000
 eN:∀(k:Nat)(i:Instr),p.cF[k]? =some i->iB im p k i
 C2:∀i,p.cF[p.cF.length -1]? =some i->i.op=23\/i.op=24
def KQ(G:iF a d p b)(P:eP b.bQ){x E t:N}{q:dP}(f:TC a x E t q):
 gK dN 54 [.agg #[d.v,p.v],.agg #[x.v,E.v,vi q.bL,vi q.aT,t.v]] a (ny b q):=by
 apply Fy
 simp -zeta only[dU]
 intro S s
 have g:J a s:=((J.cZ a).cw _).cw _
 have o:∀h∈[S.size,a.size],h<s.size:=cG
 clear_value s
 have aa:=f.aX.aS
 have ab:=f.cF.aS
 refine(yY (f.aX.ext g) (f.cR.ext g)).bK di o λh m3 c H K=>⟨_,rfl,λu=>fW (λe=>nb c u e.cR) (g.O H),λu=>?_⟩
 have C:=yb c u
 refine(dk).bK K o λh m4 c Y L=>⟨_,rfl,λM=>?_,λM=>?_⟩
 .grind [J.O,ny.aT]
 refine(dk).bK L o λh m5 c Z A=>⟨_,rfl,λv=>fW (λe=>nb c v (oh e.aS)) (g.O A),λv=>?_⟩
 have ad:=yb c v
 have w:(q.aX.length:Int)<=q.aT/\1<=q.aT/\q.aT<=2000:=by
  grind
 refine ik (n:=q.cF.length) V (λr R=>J s R/\∀(k:Nat)(i:Instr),k<r->q.cF[k]? =some i->iB b q k i) ⟨A,bO⟩ ?_
 rintro r m6 T μ hj ⟨D,hn⟩ ae
 have j:=g.O D
 refine dit (λI=>?_) λI=>?_
 .let⟨i,m⟩:=dY q.cF r
  refine(Jq (iF.ext j G) P (f.ext j) w.2 m).bK D o λh B c l z=>⟨_,rfl,λy=>fW (λe=>nb c y (e.eN r i m)) (g.O z),λy=>?_⟩
  grind
 .let⟨i,m⟩:=dY q.cF (q.cF.length -1)
  let⟨xa,xj,ha,ac,y,g1,g2,U,W,X⟩:=(gR.ext j f.cF).D m
  have F:eR ((t.len:Int) -1)=((q.cF.length -1:Nat):Int):=by grind [dt]
  rw[F]
  have B:∀(k:Nat)(i:Instr),q.cF[k]? =some i->iB b q k i:=by grind [bA]
  refine⟨V,V,_,sp y,λl=>?_,λl=>?_⟩
  .simp only[bP]at l
   refine pw ⟨C,w,V,B,λQ O=>?_⟩ j
   grind
  .simp only[a8]at l
   refine⟨V,V,_,sp y,lg ?_ j⟩
   simp only[bP]
   refine⟨λz=>⟨C,w,V,B,λQ O=>?_⟩,λe=>?_⟩
   .grind
   grind [ny.C2]
@[grind cases] structure gC (im:cV):Prop where
 kQ:nh im.bQ im.cO
 eN:∀p∈im.cO,ny im p
def Jp(h:iF a d p b):gK dN 28 [.agg #[N.v d,N.v p]] a (gC b):=by
 apply Dn;simp -zeta only[kd,nJ];intro g;have e:=px g;have m:∀i∈[a.size],i<g.size:=by simp[g]
 clear_value g;have Q:=h.cO.aS;refine dit (λC=>?_) λC=>?_
 .exact fW (λf=>oh f.kQ.aS) e
 refine(Hl (iF.ext e h) V).bK di m ?_;rintro _ R ⟨y,rfl,G,j⟩;refine⟨j,d,y,rfl,?_⟩;refine(yZ (dq.ext (e.O j) h.bQ) G).bK j m λi S c M t=>⟨_,rfl,λk=>fW (λf=>nb c k f.kQ) (e.O t),λk=>?_⟩;have w:=yb c k;refine ik (n:=b.cO.length) V (λr l=>J g l/\∀s∈b.cO.take r,ny b s) ⟨t,bO⟩ ?_;rintro r T I μ P ⟨x,v⟩ H
 have q:=e.O x;refine dit (λD=>?_) λD=>?_
 .let⟨s,o⟩:=dY b.cO r;let⟨K,i,L,E,c,F,z,g1,g2,A,B⟩:=(kY.ext q h.cO).D o;refine⟨V,V,_,z,_,g1,_,g2,_,A,_,B,?_⟩;exact(KQ (iF.ext q h) w.dh ⟨E,c,F⟩).bK x m λi U c O u=>⟨_,rfl,λl=>fW (λf=>nb c l (f.eN s (aZ o))) (e.O u),λl=>H V _ ⟨u,eC o v (yb c l)⟩⟩
 .exact pw ⟨w,ig V v⟩ q
end
section
variable{m:E}{s:N}{t c:Int}{l:ab}
theorem fU.Sj{α:Type}{d:Nat}{R:ae->α->Prop}{l:List α}(h:fU m d R s l){k:Nat}(n:k<=l.length):fU m d R (s.cut 0 k d) (l.take k):=by
 have b:=h.aS;have f:=h.lZ;have i:=h.kA;cases s with
 |nil=>
  simp at b;have:k=0:=V;subst this;exact⟨by simp[N.cut],by simp[N.cut],by simp[N.cut],bO⟩
 |Dx e o sp=>
  simp at b;have:k=0:=V;subst this;exact⟨by simp[N.cut],by simp[N.cut],by simp[N.cut],bO⟩
 |mk e o p c=>
  simp only[N.lJ,N.Sc]at b f i;refine⟨by simp[N.cut];omega,by simp[N.cut];omega,by simp[N.cut];omega,λj x a=>?_⟩;have g:j<k:=by have:=bA a;simp at this;omega
  rw[lE,ba g]at a;have:=h.kV j x a;simpa[N.cut]using this
def tK{bQ:N}:gK dN 71 [bQ.v,vi t] m (zQ bQ.len t):=by
 apply J6;constructor<;>grind [J.cZ,zQ]
def zX{g:N}(b:bd m g l){bQ:N}:gK dN 72 [bQ.v,g.v] m (Hw bQ.len l):=by
 apply Gn;have i:=b.aS;refine ik (n:=l.length) (i▸b.kA) (λk a=>J m a/\∀t∈l.take k,zQ bQ.len t) ⟨di,bO⟩ ?_;rintro k r I μ q ⟨a,f⟩ o
 refine dit (λh=>?_) λh=>?_
 .let⟨x,c⟩:=dY l k;refine⟨V,V,x,by simpa using a.aR (b.D c),?_⟩;exact(tK).bZ λp s e d=>⟨_,rfl,λh=>fW (λj=>nb e h (j x (aZ c))) (a.O d),λh=>o V _ ⟨a.O d,eC c f (yb e h)⟩⟩
 .exact pw (ig V f) a
def qA(a:Int)(m:E)(b:a≠7/\a≠8):gK dN 79 [vi a] m (kM a):=by
 apply Ag;constructor<;>grind [J.cZ,kM]
def uG{bQ:N}{a:af}(hd:dq m bQ a)(s:a.length<=4)(k:∀d∈a,d.dS.length<=3):Gg dN 25 [N.v bQ] m (vi (gJ a).length):=by
 apply Gp;simp -zeta only[kd];have q:=hd.aS;refine gP (n:=a.length) V (λj f b=>J m b/\f=(fc a j:Nat)/\fc a j<=3*j) ⟨di,by cases a<;>rfl,by cases a<;>simp[fc]⟩ ?_;rintro j f t I μ r ⟨c,rfl,p⟩ l
 refine dit (λi=>?_) λi=>?_
 .let⟨d,b⟩:=dY a j;let⟨g,e,h,g1,g2⟩:=(dq.ext c hd).D b;refine⟨V,V,_,h,_,g1,g,g2,?_⟩;intro u v;have o:=k d (aZ b);refine l V _ _ ⟨(c.cw _).aV c.aP _ _,?_,?_⟩
  .rw[dt V (oh e.aS),wE b,e.aS];rfl
  .rw[wE b];omega
 .refine⟨?_,c⟩;rw[qu a j V]
def Si{a:af}(h:eP a):∀d∈a,d.dS.length<=3:=λd hd=>by
 grind [List.mem_iff_getElem?,mH]
def W7:∀(a:af)(k:Nat),(gJ (a.take k)).length=fc a k
 |[],k=>by simp[gJ,VG]
 |d::a,0=>by simp[gJ,fc]
 |d::a,k+1=>by
  have:=W7 a k;grind [gJ,List.length_append,fc]
def Co{bQ:N}{a:af}(hd:dq m bQ a)(e:eP a)(t:Int):bJ dN 43 [N.v bQ,vi t] m λI b=>∃s,I=N.v s/\jo m b bE 1 s ((cT a t).map Ce.i)/\(cT a t).length<=3/\J m b:=by
 apply J3;have S:=hd.aS;have R:=hd.lZ;have c:∀(h:¬(1<=t/\t<=a.length)),jo m m bE 1 .nil ((cT a t).map Ce.i)/\(cT a t).length<=3:=λh=>by
  unfold cT;rw[aU h];exact⟨jo.gD _ _ _ _,bO⟩
 have:=e.aS;refine dit (λh=>?_) λh=>?_
 .exact⟨_,rfl,(c V).1,(c V).2,di⟩
 refine dit (λx=>?_) λx=>?_
 .exact⟨_,rfl,(c V).1,(c V).2,di⟩
 have r:eR (t -1)=((t.toNat -1:Nat):Int):=by rw[dt V V];omega
 rw[r];let⟨d,f⟩:=dY a (t.toNat -1);have u:cT a t=(List.range d.dS.length).map λi=>((fc a (t.toNat -1)+i:Nat):Int):=by
  unfold cT;rw[ba V,f];rfl
 rw[u];have P:=tI e (t.toNat -1);have Q:=mH e f;refine⟨V,V,V,?_⟩;have C:dq m (bQ.cut 0 (t.toNat -1) 3) (a.take (t.toNat -1)):=fU.Sj hd V;have g:=uG C fj (λd hd=>Si e d (jE hd));rw[W7]at g;refine g.bZ λF p=>⟨_,rfl,?_⟩;let⟨w,D,L,g1,g2⟩:=(dq.ext p hd).D f;have T:=D.aS;refine⟨V,V,w,sp g2,?_⟩;refine gP (n:=d.dS.length) V (λj s b=>J m b/\jo m b bE 1 s (((List.range j).map λi=>((fc a (t.toNat -1)+i:Nat):Int)).map Ce.i)/\s.len=j) ⟨p,by simpa using jo.gD m F bE 1,rfl⟩ ?_;rintro j s G K μ U ⟨o,k,l⟩ H
 refine dit (λy=>?_) λy=>?_
 .intro q;have v:eR (((fc a (t.toNat -1):Nat):Int)+(j:Int))=((fc a (t.toNat -1)+j:Nat):Int):=by rw[dt V V];omega
  have E:q=G.push (.cells (de [.i (((fc a (t.toNat -1)+j:Nat):Int))]) bE):=by rw[<-v]
  clear_value q;subst E;refine jo.fy (c:=[.i 0]) (h:=[.i ((fc a (t.toNat -1)+j:Nat):Int)]) (k.ext (J.push _ _)) (o.cw _) rfl (dJ.push _ _ _).kV (by simp[l];omega) ?_;intro W b z A B M O _;refine H V _ _ ⟨A,?_,by simp[B,l]⟩
  rw[List.range_succ,kE,kE];exact z
 .have:j=d.dS.length:=V;subst this;exact⟨_,rfl,k,fj,o⟩
def xl{bQ:N}{a:af}(hd:dq m bQ a)(f:eP a)(t:Int):bJ dN 43 [bQ.v,vi t] m λv b=>∃s,v=s.v/\bd b s (cT a t)/\J m b:=
 (Co hd f t).aO λ_ _⟨s,c,d,g,e⟩=>⟨s,c,bd.jM d V,e⟩
def Ua{a:af}{i j:Nat}{d:cL}{f:ab}(h:a[i]? =some d)(b:d.dS[j]? =some f):cW a ((fc a i+j:Nat):Int)=f:=by
 unfold cW;rw[ba V,iD,vf a i j d h (bA b),b];rfl
def If{a:af}(h:c∈cT a t):1<=t/\t<=a.length/\(fc a (t.toNat -1):Int)<=c/\c<fc a t.toNat:=by
 unfold cT at h;split at h
 .rename_i e;let⟨x,b⟩:=dY a (t.toNat -1);rw[b]at h;obtain⟨i,d,rfl⟩:=fu.1 h;have:=wE b;grind
 .simp at h
theorem TQ{b:af}{a:Int}(h:c∈cT b t)(e:c∈cT b a):t=a:=by
 let⟨f,a2,a3,a4⟩:=If h;let⟨b1,b2,b3,b4⟩:=If e;rcases Nat.lt_trichotomy t.toNat a.toNat with d|d|d
 .have:=JS b (b:=t.toNat) (c:=a.toNat -1) V;omega
 .omega
 .have:=JS b (b:=a.toNat) (c:=t.toNat -1) V;omega
def HJ{bQ:N}{a:af}(hd:dq m bQ a)(o:eP a)(c:Int)(Y: -1000000<=c/\c<=1000000):bJ dN 202 [bQ.v,vi c] m λR e=>∃t s,R=.tuple #[vi t,.agg #[s.v]]/\bd e s (cW a c)/\J m e/\(0<=t->c∈cT a t)/\(∀w,c∈cT a w->0<=t):=by
 apply Lp;simp -zeta only[dU];intro r;have P:=px r;clear_value r;have Z:=hd.aS;have:=o.aS;refine gP (n:=a.length) V (λb x e=>J m e/\r.size<=e.size/\x=c -(fc a b:Nat)/\¬(0<=c/\c<fc a b)) ⟨P,bW,by cases a<;>simp[fc],by cases a<;>simp[fc]⟩ ?_;rintro b x B I μ hj ⟨O,ad,rfl,M⟩ ae
 refine dit (λG=>?_) λG=>?_
 .let⟨y,d⟩:=dY a b;let⟨f,z,E,g1,g2⟩:=(dq.ext O hd).D d;have aa:=z.aS;have W:=tI o b;have X:=mH o d;refine⟨V,V,_,E,_,g1,f,g2,?_⟩;intro m3 u;have Q:J B u:=by grind [J.cZ,J.cw,J.aV]
  have A:¬(0<=c -(fc a b:Nat)/\c -(fc a b:Nat)<y.dS.length)->I (eR (c -(fc a b:Nat) -(f.len:Int))) (eR ((b:Int)+1)) u/\μ (eR (c -(fc a b:Nat) -(f.len:Int))) (eR ((b:Int)+1)) u<μ (c -(fc a b:Nat)) b B:=by
   grind [J.O,J.aP,dt,wE]
  refine⟨λg=>⟨λl=>?_,λl=>A ?_⟩,λg=>A ?_⟩
  .simp only[bh]at g l;let⟨S,p⟩:=dY y.dS ((c -(fc a b:Nat)).toNat);let⟨k,hg,F⟩:=(rJ.ext Q z).D p;refine⟨V,V,k,F,?_⟩;intro v;have q:J m v:=by grind [J.O,J.aV]
   have L:c∈cT a (eR ((b:Int)+1)):=by
    rw[OB V];unfold cT;rw[ba V,show((b+1:Nat):Int).toNat -1=b by omega,d];grind [fc]
   refine⟨_,k,rfl,?_,q,λ_=>L,λ_ _=>by rw[OB V];omega⟩;have h:cW a c=S:=by
    have:=Ua d p;grind
   rw[h];obtain⟨C,H,_,_,T⟩:=hd.D d;have K:f=C:=by
    grind [J.aR,N.XA]
   subst K;let⟨D,ab,U⟩:=H.D p;have ac:k=D:=by
    grind [J.O,J.aR,N.XA]
   grind [bd.ext]
  .simp at g l;omega
  .simp at g;omega
 .intro v;have q:J m v:=by grind [J.aV]
  refine⟨_,.nil,rfl,?_,q,λd=>absurd d cH,λw f=>absurd ?_ M⟩;rotate_left
  .let⟨b1,b2,b3,b4⟩:=If f;have:=JS a (b:=w.toNat) (c:=b) V;omega
  have h:cW a c=[]:=by
   grind [cW,List.getElem?_eq_none,qu]
  rw[h];exact⟨rfl,bW,bO,bO⟩
theorem Q0{bQ:N}{a:af}(hd:dq m bQ a)(h:eP a)(c:Int)(g: -1000000<=c/\c<=1000000):bJ dN 202 [bQ.v,vi c] m λv b=>∃t s,v=.tuple #[vi t,.agg #[s.v]]/\bd b s (cW a c)/\J m b:=
 (HJ hd h c g).aO λ_ _⟨t,s,d,e,f,_⟩=>⟨t,s,d,e,f⟩
def uH{bQ:N}{a:af}(hd:dq m bQ a)(e:eP a)(d: -1000000<=c/\c<=1000000):bJ dN 137 [N.v bQ,vi c] m λv b=>∃s,v=N.v s/\bd b s (cW a c)/\J m b:=by
 apply Gq;grind [kd,nJ,Q0,bJ.aO,J,J.cZ,J.cw,J.aV,bd.ext,J.O]
def Aq(f:bd m s l)(g:Nat)(e d:Array Value)(t:GL.elem g=true)(q:Int->Prop)
 (p:∀x∈l,∀a,J m a->gK dN g (e.toList++[vi x]++d.toList) a (q x)):
 bJ dN 136 [s.v,.func (.func g) e d] m λz a=>∃r:Int,z=vi r/\J m a/\
  ((r= -1/\∀x∈l,¬q x)\/∃(k:Nat)(x:Int),r=k/\l[k]? =some x/\q x/\∀y∈l.take k,¬q y):=by
 apply uK s (.func g,e,d)
 have u:=f.aS
 refine ik (n:=l.length) (u▸f.kA) (λk a=>J m a/\∀y∈l.take k,¬q y) ⟨di,bO⟩ ?_
 rintro k v I μ B ⟨b,o⟩ w
 refine⟨λh=>?_,λh=>?_⟩
 .simp only[bh]at h
  let⟨x,c⟩:=dY l k
  refine⟨V,V,x,by simpa using b.aR (f.D c),g,rfl,t,?_⟩
  exact(p x (aZ c) v b).bZ λA C j i=>⟨_,rfl,λh=>⟨_,rfl,b.O i,bG ⟨k,x,rfl,c,j.1 h,o⟩⟩,λh=>w V _ ⟨b.O i,eC c o (fb j h)⟩⟩
 .grind [decide_eq_false_iff_not]
def ln(f:bd m s l)(g:Nat)(b a:Array Value)(e:GL.elem g=true)(q:Int->Prop)
 (d:∀x∈l,∀c,J m c->gK dN g (b.toList++[vi x]++a.toList) c (q x)):
 gK dN 81 [s.v,.func (.func g) b a] m (∃x∈l,q x):=by
 apply tq s (.func g,b,a)
 refine(Aq f g b a e q d).aO ?_
 grind [ge_iff_le,aZ]
end
section
variable{s c k d r:N}{b:E}{e:ad}{Q:ab->Prop}{v:ab}{x:eK}
structure _root_.Go.Vc.jS where
 aX:ab
 cR:ab
 bL:Int
 eV:Bk
def kZ(m:E)(a:ae)(r:jS):Prop:=∃p l s,a=[.s p,.s l,.i r.bL,.s s,.i r.eV.bL]/\bd m p r.aX/\bd m l r.cR/\iA m s r.eV.bz
abbrev DF(m:E)(s:N)(l:List jS):Prop:=fU m 5 (kZ m) s l
@[grind cases] structure ir (m:E) (d r:N) (ds:af) (rs:List jS):Prop where
 bQ:dq m d ds
 lz:DF m r rs
 dh:eP ds
 pF:rs.length<=4
theorem kZ.le{m b:E}(h:Le m b){a:ae}{x:jS}:kZ m a x->kZ b a x:=λ⟨p,l,s,c,d,e,f⟩=>⟨p,l,s,c,d.le h,e.le h,f.le h⟩
def kZ.aO:qj 5 kZ:=⟨λh=>kZ.le h,λh=>by obtain⟨_,_,_,rfl,_⟩:=h;rfl⟩
def DF.le{m b:E}(a:Le m b){s:N}{l:List jS}(h:DF m s l):DF b s l:=by grind [fU.le,kZ.le]
theorem DF.D{m:E}{l:List jS}(h:DF m s l){k:Nat}{x:jS}(f:l[k]? =some x):
 ∃p t b,bd m p x.aX/\bd m t x.cR/\iA m b x.eV.bz/\aR m s.bq (s.off+k*5)=some p.v/\aR m s.bq (s.off+k*5+1)=some t.v/\aR m s.bq (s.off+k*5+2)=some (vi x.bL)/\aR m s.bq (s.off+k*5+3)=some b.v/\aR m s.bq (s.off+k*5+4)=some (vi x.eV.bL):=by
 obtain⟨g,⟨p,t,b,rfl,c,d,e⟩,a⟩:=h.kV k x f
 exact⟨p,t,b,c,d,e,a 0 _ rfl,a 1 _ rfl,a 2 _ rfl,a 3 _ rfl,a 4 _ rfl⟩
theorem ir.le{m b:E}{d r:N}{a:af}{e:List jS}(h:ir m d r a e)(c:Le m b):ir b d r a e:=⟨h.bQ.le c,h.lz.le c,h.dh,h.pF⟩
def Ej{m:E}:Le m (dg [] m):=λb o v h=>gV.2 ⟨bO,h⟩
theorem JU{a:af}(h:eP a)(c:Int):(cW a c).length<=3:=by
 unfold cW;split
 .rcases eJ c.toNat (gJ a).length with b|b
  .let⟨i,d,e,f,g⟩:=zi a c.toNat b;have j:=vf a i (c.toNat -fc a i) d e V;grind [fc,dY,eP.eN,ze.iT,aZ]
  grind [List.getElem?_eq_none]
 .simp
def adr{a:af}(h:eP a)(t:Int):(cT a t).length<=3:=by
 grind [cT,mH]
def Vw{a:af}(h:eP a)(b cE:Int)(k:Nat):FR a b cE k<=3:=by
 grind [FR,JU]
abbrev JF(f:Nat)(a:ap)(m:E):Prop:=wX f a m λ_=>True
def sU(f:Nat)(a:ap)(m:E):Prop:=bJ dN f a m λv b=>∃c:Bool,v=.bool c/\J m b
def rN{m:E}{n:Int}(h:J m b):∃k:Int,vi n=vi k/\True/\J m b:=⟨n,rfl,trivial,h⟩
def rA{m:E}{a:Bool}(h:J m b):∃k:Bool,vb a=.bool k/\J m b:=⟨a,rfl,h⟩
def _root_.Go.Vc.gK.jQ{f:Nat}{a:ap}{m:E}{p:Prop}(h:gK dN f a m p):sU f a m:=h.aO λ_ _⟨b,e,_,x⟩=>⟨b,e,x⟩
section
variable{f:Nat}{g:ap}{a m:E}{K:ai}{l:ad}
def JF.bK(i:JF f g m)(e:J a m)(o:∀c∈l,c<a.size)(k:∀(n:Int) b,J m b->J a b->K (vi n) b):bJ dN f g m λv b=>gL l m b/\K v b:=
 i.aO λ_ b⟨n,h,_,d⟩=>⟨d.fq λc j=>e.lt (o c j),h▸k n b d (e.O d)⟩
def sU.bK(i:sU f g m)(e:J a m)(n:∀c∈l,c<a.size)(k:∀(c:Bool) b,J m b->J a b->K (vb c) b):bJ dN f g m λv b=>gL l m b/\K v b:=
 i.aO λ_ b⟨o,h,d⟩=>⟨d.fq λc j=>e.lt (n c j),h▸k o b d (e.O d)⟩
def wX.bK{Q:Int->Prop}(i:wX f g m Q)(e:J a m)(o:∀c∈l,c<a.size)(k:∀(n:Int) b,Q n->J m b->J a b->K (vi n) b):bJ dN f g m λv b=>gL l m b/\K v b:=
 i.aO λ_ b⟨n,h,q,d⟩=>⟨d.fq λc j=>e.lt (o c j),h▸k n b q d (e.O d)⟩
def JE.bK(k:JE f g m e Q)(i:J a m)(q:∀d∈l,d<a.size)(p:∀s c b,bd (dg e b) s c->Q c->J m b->J a b->K s.v b):bJ dN f g m λv b=>gL l m b/\K v b:=
 k.aO λ_ b⟨s,c,j,n,r,h⟩=>⟨h.fq λd o=>i.lt (q d o),j▸p s c b n r h (i.O h)⟩
def od.bK(k:od f g m e Q)(i:J a m)(q:∀d∈l,d<a.size)(p:∀s c b,GI e m b s c->Q c->J m b->J a b->K s.v b):bJ dN f g m λv b=>gL l m b/\K v b:=
 k.aO λ_ b⟨s,c,j,n,r,h⟩=>⟨h.fq λd o=>i.lt (q d o),j▸p s c b n r h (i.O h)⟩
end
def _root_.Go.Vc.J.aaK{a m:E}(e:J a m){l:ad}(d:∀c∈l,c<a.size)(h:J m b):gL l m b:=by grind [J.fq,J.lt]
def fS{m:E}{bQ:N}{a:af}(hd:dq (dg e m) bQ a)(f:eP a)(c:Int):JE 149 [bQ.v,vi c] m e (cW a c=·):=by
 apply vw;have l:dq m bQ a:=hd.le fG;have D:=hd.aS;have:=f.aS;refine(pA l f c).aO ?_;rintro _ H ⟨J,rfl,k,h⟩;refine⟨_,rfl,dit (λt=>?_) λt=>?_⟩
 .refine⟨_,_,rfl,?_,rfl,h.cw _⟩;have g:cW a c=[]:=by
   rcases k with⟨i,d,u,_⟩|⟨_,b⟩
   .omega
   .grind [cW]
  rw[g];exact⟨rfl,bW,bO,bO⟩
 .rcases k with⟨i,d,rfl,b,A,B⟩|⟨u,_⟩
  .have G:=bA b;let⟨r,n,y,g1,g2⟩:=(hd.le (h.eU (S:=e))).D b;have o:eR ((i:Int)+1 -1)=i:=by grind [dt]
   rw[o];have g2:=(gV.1 g2).2;refine⟨V,V,r,sp g2,?_⟩;refine(mZ (dq.ext h l) f V).bZ λI g=>⟨_,rfl,g.db (sp g2),?_⟩;have z:=tI f i;have C:=mH f b;have F:=n.aS;let⟨x,w⟩:=dY d.dS ((c -fc a i).toNat);let⟨j,v,s⟩:=rJ.D (fU.le n (g.eU (S:=e)) (nm.le (g.eU (S:=e)))) w;have p:eR (c -(fc a i:Int))=c -fc a i:=by grind [dt]
   rw[p];refine⟨V,V,j,(gV.1 s).2,j,_,rfl,?_,rfl,h.O g⟩;have q:cW a c=x:=by
    unfold cW;rw[ba V];have:=vf a i (c -fc a i).toNat d b V;grind
   rw[q];exact v
  .omega
def ku{m:E}(K:∀l∈e,l<m.size){bQ:N}{a:af}(hd:dq m bQ a)(c:eP a)(t:Int):JE 151 [bQ.v,vi t] m e (cT a t=·):=by
 apply yS;intro B;have L:=hd.aS;have:=c.aS;have u:=px B;refine(dk).bZ λl P y g=>⟨_,rfl,λh=>?_,λh=>?_⟩
 .refine⟨_,_,rfl,?_,rfl,u.O g⟩;have f:cT a t=[]:=by
   grind [cT]
  rw[f];exact⟨rfl,bW,bO,bO⟩
 .have h:=yb y h;have v:eR (t -1)=((t.toNat -1:Nat):Int):=by grind [dt]
  rw[v];let⟨d,q⟩:=dY a (t.toNat -1);have w:cT a t=(List.range d.dS.length).map λk=>((fc a (t.toNat -1)+k:Nat):Int):=by
   grind [cT]
  rw[w];have G:=tI c (t.toNat -1);have H:=mH c q;refine gP (n:=d.dS.length) V (λj s b=>J m b/\GI e m b s ((List.range j).map λk=>((fc a (t.toNat -1)+k:Nat):Int))) ⟨u.O g,(GI.gD e m).ext g⟩ ?_;rintro j s Q I μ O ⟨i,A⟩ C
  let⟨f,z,F,g1,g2⟩:=(dq.ext i hd).D q;have M:=z.aS;refine⟨V,V,f,sp g2,λo=>?_,λo=>?_⟩
  .simp only[bh]at o;refine(mZ (dq.ext i hd) c V).bZ λR p=>⟨_,rfl,?_⟩;have x:eR (((fc a (t.toNat -1):Nat):Int)+(j:Int))=((fc a (t.toNat -1)+j:Nat):Int):=by grind [dt]
   rw[x];intro S;refine GI.nA (A.ext p) ((i.O p).fz []) cG λr b D f _ _=>C V _ _ ⟨f.ext,?_⟩
   grind [List.range_succ]
  grind [GI.cz]
def qG{m:E}{bQ:N}{a:af}(hd:dq m bQ a)(e:eP a)(t:Int):gK dN 309 [bQ.v,vi t] m (∃d,1<=t/\a[t.toNat -1]? =some d/\d.dS.length=0):=by
 apply I9;have l:=hd.aS;have:=e.aS;refine(dk).bZ λg o b f=>⟨_,rfl,λh=>?_,λh=>?_⟩
 .have h:=b.1 h;let⟨d,c⟩:=dY a (t.toNat -1);let⟨j,n,k,g1,g2⟩:=(dq.ext f hd).D c;have i:eR (t -1)=((t.toNat -1:Nat):Int):=by grind [dt]
  grind
 .grind
def EB{m:E}{bQ:N}{a:af}(hd:dq m bQ a)(f:eP a)(u t:Int):
 wX 331 [bQ.v,vi u,vi t] m λk=>k= -1\/∃(i:Nat)(d:cL),k=i+1/\a[i]? =some d/\d.dS.length=0/\d.qd=u/\d.to=t:=by
 apply IM
 have p:=hd.aS
 have:=f.aS
 refine ik (n:=a.length) V (λ_ b=>J m b) di ?_
 rintro k g I μ r c j
 refine⟨λh=>?_,λh=>⟨_,rfl,bu rfl,c⟩⟩
 simp only[bh]at h
 let⟨d,e⟩:=dY a k
 let⟨l,q,o,g1,g2⟩:=(dq.ext c hd).D e
 have s:=j V g c
 constructor<;>grind [dt]
theorem wS{m:E}{i p:N}{f t:ab}(g:bd m c v)(e:bd m i f)(l:bd m p t):sU 306 [c.v,i.v,p.v] m:=by
 apply My;have C:=g.aS;have r:=e.aS;have D:=l.aS;have F:=g.kA;refine⟨λ_=>rA di,λh=>?_⟩;simp only[nR]at h;refine ik (n:=f.length) (r▸e.kA) (λ_ b=>J m b) di ?_;rintro k H I μ G a y
 refine⟨λh=>?_,λh=>rA a⟩;simp only[bh]at h;let⟨x,o⟩:=dY f k;refine⟨V,V,x,(e.ext a).D o,?_⟩;have q:eR ((c.len:Int) -1)=(v.length:Int) -1:=by grind [dt]
 rw[q];refine(dk).bZ λB K s d=>⟨_,rfl,λ_=>rA (a.O d),λj=>?_⟩;have j:=yb s j;let⟨z,u⟩:=dY v x.toNat;let⟨A,w⟩:=dY t k;exact⟨V,V,x,(e.ext (a.O d)).D o,V,V,z,(g.ext (a.O d)).D u,V,V,A,(l.ext (a.O d)).D w,λ_=>rA (a.O d),λ_=>y V _ (a.O d)⟩
def Rc(a:Int)(m:E):sU 304 [vi a] m:=by
 apply KA;have r:∀b:Bool,∃k:Bool,vb b=.bool k/\J m m:=by grind [J.cZ]
 exact⟨λ_=>r _,λ_=>⟨λ_=>r _,λ_=>⟨λ_=>r _,λ_=>⟨λ_=>r _,λ_=>r _⟩⟩⟩⟩
def tr(x:eK)(a k:N):Value:=.agg #[vi x.op,vi x.cE,vi x.cY,a.v,k.v]
def AN{m:E}{g:N}(d:bd m c v)(x:eK):sU 305 [c.v,.agg #[vi x.op,vi x.cE,vi x.cY,g.v,k.v]] m:=by
 apply Fv;simp -zeta only[dU];intro a;have b:=px a;have l:∀f∈[m.size],f<a.size:=by simp[a]
 clear_value a;have o:=d.aS;have p:=d.kA;refine⟨λ_=>rA b,λ_=>⟨λ_=>?_,λ_=>rA b⟩⟩;refine(dk).bK (J.cZ a) l λf q j _ e=>⟨_,rfl,λh=>?_,λ_=>rA (b.O e)⟩;have h:=j.1 h;have i:eR (x.cY -1)=((x.cY.toNat -1:Nat):Int):=by grind [dt]
 rw[i];let⟨y,n⟩:=dY v (x.cY.toNat -1);exact⟨V,V,y,(d.ext (b.O e)).D n,rA (b.O e)⟩
def GO{m:E}{l:N}{s:af}{B:List jS}(o:ir m d r s B)(i:bd m c v)(g:bd m l x.aN):JF 310 [.agg #[d.v,r.v],c.v,tr x l k] m:=by
 apply Az;simp -zeta only[dU];intro A e;have b:J m e:=by grind [J.push,J.O]
 have n:∀f∈[A.size,m.size],f<e.size:=cG;clear_value e;have C:=i.aS;have D:=i.kA;have F:=g.aS;refine⟨λ_=>rN b,λh=>?_⟩;simp only[nR]at h;let⟨y,p⟩:=dY x.aN 0;refine⟨V,V,y,(g.ext b).D p,?_⟩;have t:eR ((c.len:Int) -1)=(v.length:Int) -1:=by grind [dt]
 rw[t];refine(dk).bK (J.cZ e) n λf G u _ j=>⟨_,rfl,λ_=>rN (b.O j),λh=>?_⟩;have h:=yb u h;have a:=b.O j;let⟨z,w⟩:=dY v y.toNat;have g1:=(g.ext a).D p;have g2:=(i.ext a).D w;refine⟨V,V,y,g1,V,V,z,g2,λ_=>rN a,λ_=>⟨λ_=>⟨λ_=>⟨V,V,y,g1,V,V,z,g2,?_⟩,λ_=>rN a⟩,λ_=>rN a⟩⟩;exact(qG ((o.le a.le).bQ) o.dh z).jQ.bK j n λf H I q=>⟨_,rfl,λ_=>rN (b.O q),λ_=>rN (b.O q)⟩
def Jj{m:E}{o:N}{D:af}{n:List jS}(f:ir m d r D n)(R:bd m c v)(M:bd m o x.aN):JF 308 [.agg #[d.v,r.v],c.v,tr x o k] m:=by
 apply BT;simp -zeta only[dU];intro w i;have A:J m i:=by grind [J.push,J.O]
 have P:∀e∈[w.size,m.size],e<i.size:=cG;clear_value i;have h1:=f.lz.aS;have h2:=f.pF;have F:eR ((r.len:Int) -1)=(n.length:Int) -1:=by grind [dt]
 rw[F];refine(dk).bK (J.cZ i) P λe y O _ B=>⟨_,rfl,λ_=>rN (A.O B),λp=>?_⟩;have p:=yb O p;have z:=A.O B;let⟨q,Q⟩:=dY n x.cE.toNat;let⟨U,ab,s,h,Y,Z,H,g1,g2,I,K⟩:=(f.le z.le).lz.D Q;refine⟨V,V,_,H,_,g1,_,g2,_,I,_,K,?_⟩;intro m3 g;have C:J y g:=by grind [J.cZ,J.cw,J.aV]
 have j:∀e∈[y.size,w.size,m.size],e<g.size:=by
  grind [bD]
 clear_value g;have a:=z.O C;have u:=R.ext a;have t:=M.ext a;have l:=h.ext C;have h5:=h.aS;have h6:=h.lZ;have h7:=h.kA;refine⟨λ_=>(wS u t l).bK (J.cZ g) j λe T b _=>⟨_,rfl,λ_=>rN (a.O b),λ_=>rN (a.O b)⟩,λ_=>⟨λ_=>rN a,λL=>⟨λ_=>rN a,λ_=>?_⟩⟩⟩;simp only[a8]at L;have G:eR ((U.len:Int) -1)=((q.aX.length -1:Nat):Int):=by grind [dt]
 rw[G];let⟨X,S⟩:=dY q.aX (q.aX.length -1);refine⟨V,V,V,(wS u t (fU.Sj l V)).bK (J.cZ g) j λe T b _=>⟨_,rfl,λ_=>rN (a.O b),λ_=>⟨V,V,X,(l.ext b).D S,?_⟩⟩⟩;exact(EB (f.le (a.O b).le).bQ f.dh _ _).bK b j λaa m6 _ x6 W=>⟨_,rfl,rN (a.O W)⟩
def aco(a:af)(e:List jS)(b:Bk):Prop:=∀(m:E)(d r c t:N)(v:ab),ir m d r a e->bd m c v->iA m t b.bz->v.length+4*b.w<=10^12->JF 270 [.agg #[d.v,r.v],c.v,.agg #[t.v,vi b.bL]] m
def NU{m:E}{aa:N}{s:af}{W:List jS}(f:ir m d r s W)(T:bd m c v)(w:rI m k x.dm)(hb:v.length+4*x.w<=10^12)(ih:∀i∈x.dm,aco s W i):JF 307 [.agg #[d.v,r.v],c.v,tr x aa k] m:=by
 apply G8;simp -zeta only[dU];intro m0 y;have g:J m y:=by grind [J.push,J.O]
 have o:∀i∈[m0.size,m.size],i<y.size:=cG;clear_value y;have ab:=w.aS;have hw:=eK.pD x;refine(ku (e:=[]) bO (f.le g.le).bQ f.dh x.cE).bK (J.cZ y) o λac cl F u q M _=>⟨_,rfl,?_⟩;subst q;have u:=u.le fG;have ag:=u.aS;have h3:=adr f.dh x.cE;refine⟨λI Z=>Z=F/\0<=I/\(x.op=8->I=(cT s x.cE).length),⟨λh=>?_,λh=>⟨rfl,V,λ_=>V⟩⟩,?_⟩
 .grind
 rintro I ah ⟨l,h4,h5⟩;have l:=l.symm;subst l;refine⟨λ_=>rN (g.O M),λ_=>⟨λ_=>rN (g.O M),λR=>?_⟩⟩;simp only[nR]at R;subst R;refine gP (n:=x.dm.length) (ab▸w.kA) (λ_ _ b=>J F b) di ?_;rintro j z G Q μ hj A ai
 have K:=M.O A;have p:=g.O K;refine⟨λh=>?_,λ_=>rN p⟩;simp only[bh]at h;let⟨i,t⟩:=dY x.dm j;have U:=ih i (aZ t);have ae:=AZ t;have X:∀(a:Int)(e:E),J F e->((decide (a<(0:Int)))=true->∃k:Int,vi (-1)=vi k/\True/\J m e)/\((decide (a<(0:Int)))=false->((decide ((j:Int)>(0:Int)))=true->((a !=z)=true->∃k:Int,vi (-1)=vi k/\True/\J m e)/\((a !=z)=false->Q a (eR ((j:Int)+1)) e/\μ a (eR ((j:Int)+1)) e<μ z j G))/\((decide ((j:Int)>(0:Int)))=false->Q a (eR ((j:Int)+1)) e/\μ a (eR ((j:Int)+1)) e<μ z j G)):=λa e h=>by
  grind [J.O]
 refine⟨λh=>?_,λh=>?_⟩
 .simp only[bP]at h;have h7:=h5 h;let⟨P,hy⟩:=dY (cT s x.cE) j;refine⟨V,V,P,(u.ext A).D hy,?_⟩;refine(fS (e:=[]) (f.le (p.le.O Ej)).bQ f.dh P).bK K o λad fl e hf q x4 Y=>⟨_,rfl,?_⟩;subst q;have h8:=JU f.dh P;refine(iy (S:=[]) bO (T.le ((g.O Y).le.O Ej)) hf V).bK Y o λl el m5 he q x5 L=>⟨_,rfl,?_⟩;subst q;let⟨B,D,C,g1⟩:=(w.le (g.O L).le).D t;refine⟨V,V,_,C,_,g1,?_⟩;exact(U m5 d r l B _ (f.le (g.O L).le) ((he.cz bO cG).le fG) D cG).bK L o λa H O _=>⟨_,rfl,X a H (((A.O x4).O x5).O O)⟩
 .let⟨B,D,C,g1⟩:=(w.le p.le).D t;refine⟨V,V,_,C,_,g1,?_⟩;exact(U G d r c B _ (f.le p.le) (T.ext p) D V).bK K o λa H O _=>⟨_,rfl,X a H (A.O O)⟩
def U6{b:E}(a:ab){n:Nat}(d:n=a.length)(c:a.length<=9223372036854775807):bd (b.push (.cells (de (a.map Ce.i)) bE)) (.mk b.size 0 n n) a:=
 (bd.jU (S:=[]) bE (l:=a) bO rfl d c).le fG
theorem _root_.Go.Vc.fU.O3{α:Type}{n:E}{b:Nat}{R:ae->α->Prop}{l:List α}(h:fU n b R s l){i j:Nat}(t:i<=j)(u:j<=l.length):fU n b R (s.cut i j b) ((l.take j).drop i):=by
 have a:=h.aS;have m:=h.lZ;have w:=h.kA;have g:(s.cut i j b).len=j -i/\(s.cut i j b).len<=(s.cut i j b).cap:=by
  cases s with
  |nil=>simp at a;simp[N.cut];omega
  |Dx d o sp=>simp at a;simp[N.cut];omega
  |mk d o r f=>simp at a m;simp[N.cut];omega
 refine⟨by simp[g.1];omega,g.2,V,λk x c=>?_⟩;rw[rC,lE]at c;split at c
 .rename_i v;let⟨p,q,e⟩:=h.kV _ x c;refine⟨p,q,?_⟩;cases s with
  |nil=>simp at a;omega
  |Dx d o sp=>simp at a;omega
  |mk d o r f=>
   simp at a m;have:¬f=i:=V;simp only[N.cut,this,mN,N.mP,N.Bo]at e⊢;rw[nl,<-jP]at e;exact e
 .simp at c
def sg{o:E}{u:N}{G:af}{Z:List jS}(w:ir o d r G Z)(Y:bd o c v)(X:bd o u x.aN)(hk:rI o k x.dm)(B:v.length+4*x.w<=10^12)(ih:∀g∈x.dm,aco G Z g):JF 265 [.agg #[d.v,r.v],c.v,tr x u k] o:=by
 apply Hq;simp -zeta only[dU];intro C n;have P:J o n:=by grind [J.push,J.O]
 have j:∀g∈[C.size,o.size],g<n.size:=cG;clear_value n;have h1:=X.aS;have h2:=X.lZ;have t:∀{l:E},J n l->bd l c v:=λh=>Y.ext (P.O h);have A:∀{l:E},J n l->bd l u x.aN:=λh=>X.ext (P.O h);have s:∀{l:E},J n l->ir l d r G Z:=λh=>w.le (P.O h).le;have m:∀{l:E}{q:Int},J n l->∃k:Int,vi q=vi k/\True/\J o l:=by grind [J.O]
 have L:∀{l:E}{q k:Int}{g:Bool},J n l->(g=true->∃k:Int,vi q=vi k/\True/\J o l)/\(g=false->∃a:Int,vi k=vi a/\True/\J o l):=λh=>⟨λ_=>m h,λ_=>m h⟩;refine⟨λR=>J n R,⟨λ_=>(Rc x.op n).bK (J.cZ n) j λg l e _=>⟨_,rfl,λ_=>m e,λ_=>(AN (t e) x).bK e j λg f i a=>⟨_,rfl,λ_=>m a,λ_=>⟨λ_=>⟨λ_=>⟨λ_=>m a,λ_=>a⟩,λ_=>a⟩,λ_=>a⟩⟩⟩,λ_=>(AN (t di) x).bK (J.cZ n) j λg f a _=>⟨_,rfl,λ_=>m a,λ_=>⟨λ_=>⟨λ_=>⟨λ_=>m a,λ_=>a⟩,λ_=>a⟩,λ_=>a⟩⟩⟩,?_⟩;intro l e;have T:∀{f:E}{M:N}{al:ab}(h:J n f),bd f M al->sU 306 [c.v,u.v,M.v] f:=by grind [wS]
 have Kt:∀{f:E}(h:J n f),bJ dN 307 [.agg #[d.v,r.v],c.v,.agg #[vi x.op,vi x.cE,vi x.cY,u.v,k.v]] f λv b=>gL [C.size,o.size] f b/\∃q:Int,v=vi q/\∃k:Int,vi q=vi k/\True/\J o b:=λh=>
  (NU (s h) (t h) (hk.le (P.O h).le) B ih).bK h j λq K p O=>⟨q,rfl,m O⟩
 refine⟨λ_=>⟨λ_=>(dk).jQ.bK e j λg f i a=>⟨_,rfl,L a⟩,λ_=>m e⟩,λ_=>⟨λ_=>?_,λ_=>⟨λ_=>?_,λ_=>⟨λ_=>?_,λ_=>⟨λ_=>?_,λ_=>⟨λ_=>?_,λ_=>⟨λ_=>(Jj (s e) (t e) (A e)).bK e j λq f i a=>⟨_,rfl,m a⟩,λ_=>⟨λ_=>?_,λ_=>⟨λ_=>(GO (s e) (t e) (A e)).bK e j λq f i a=>⟨_,rfl,m a⟩,λ_=>m e⟩⟩⟩⟩⟩⟩⟩⟩⟩
 .intro f;exact(T (e.cw _) (U6 [0,0] rfl bO)).bK (e.cw _) j λg f i a=>⟨_,rfl,L a⟩
 .intro f;exact(T (e.cw _) (U6 [0] rfl bO)).bK (e.cw _) j λg f i a=>⟨_,rfl,L a⟩
 .refine(pA (s e).bQ w.dh x.cE).aO λ_ f⟨M,z,_,i⟩=>?_;subst z;have a:=e.O i;refine⟨e.aaK j i,_,rfl,λ_=>?_,λ_=>m a⟩;refine(fS (e:=[]) ((s a).bQ.le Ej) w.dh x.cE).bK a j λae H K hf I p O=>⟨_,rfl,bB (p.bC C.size (a.lt (j _ bO))) _,?_⟩;refine(T O (hf.le fG)).bK O j λg D x5 y=>⟨_,rfl,λ_=>?_,λ_=>m y⟩;refine(pA (s y).bQ w.dh x.cE).aO λ_ F⟨M,z,_,Q⟩=>?_;subst z;exact⟨y.aaK j Q,_,rfl,m (y.O Q)⟩
 .intro f;exact(T (e.cw _) (U6 [0] rfl bO)).bK (e.cw _) j λg f i a=>⟨_,rfl,λ_=>Kt a,λ_=>m a⟩
 .intro f;exact(T (e.cw _) (U6 [x.cE] rfl bO)).bK (e.cw _) j λg f i a=>⟨_,rfl,λ_=>Kt a,λ_=>m a⟩
 .have h3:=Y.aS;have h4:=Y.kA;refine⟨λg R=>J n R/\(g=true->x.aN.length=2/\∃y z U,x.aN[0]? =some y/\0<=y/\v[y.toNat]? =some z/\1<=z/\G[z.toNat -1]? =some U),⟨λh=>?_,λ_=>⟨e,sx⟩⟩,?_⟩
  .simp only[bP]at h;let⟨y,H⟩:=dY x.aN 0;refine⟨V,V,y,(A e).D H,?_⟩;have W:eR ((c.len:Int) -1)=(v.length:Int) -1:=by grind [dt]
   rw[W];refine(dk).bK (J.cZ l) (λg B=>e.lt (j g B)) λg f aa _ i=>⟨_,rfl,λh=>?_,λh=>⟨e.O i,sx⟩⟩;have h:=aa.1 h;have a:=e.O i;let⟨z,I⟩:=dY v y.toNat;refine⟨V,V,y,(A a).D H,V,V,z,(t a).D I,?_⟩;refine(qG (s a).bQ w.dh z).bK (J.cZ f) (λg B=>a.lt (j g B)) λg K ac _ p=>⟨_,rfl,a.O p,λh=>?_⟩;grind
  .rintro g f ⟨i,ai⟩;refine⟨λh=>?_,λ_=>m i⟩;let⟨h5,y,z,U,H,h6,I,h7,aa⟩:=ai h;let⟨ae,hf,g0,g1,g2⟩:=(s i).bQ.D aa;have ao:=w.bQ.aS;have h8:=w.dh.aS;have h9:=bA aa;have am:=bA I;have W:eR (z -1)=((z.toNat -1:Nat):Int):=by grind [dt]
   have ac:=(A i).D H;have ad:=(t i).D I;refine⟨V,V,y,ac,V,V,z,ad,?_⟩;rw[W];refine⟨V,V,_,g0,_,g1,_,g2,?_⟩;intro K;have p:=px K;have ag:C.size<f.size:=i.lt (j _ bO);have ah:o.size<f.size:=cG;refine⟨p.db g0,p.db g1,p.db g2,p.db ad,p.db ac,bB (p.bC _ ag) _,bB (p.bC _ ah) _,?_⟩;intro D;have x5:J f D:=by grind [J.aV]
   have an:D.size=f.size+1:=by grind [bD]
   clear_value D;refine⟨V,V,V,?_⟩;intro F;have Q:J f F:=x5.O (J.push _ _);have u6:=i.O Q;have ak:∀g∈[f.size,C.size,o.size],g<F.size:=cG;refine⟨bB ((J.push D _).bC _ V) _,?_⟩;have aj:bd F (u.cut 1 u.len 1) (x.aN.drop 1):=by
    grind [fU.O3,List.take_length]
   exact(wS (t u6) aj (U6 [U.qd] rfl bO)).bK (J.cZ F) ak λg m7 x7 _=>⟨_,rfl,L (u6.O x7)⟩
def _root_.Go.Vc.J.sK{c m:E}(h:J c m)(k:J c b){l:ad}(e:∀a∈l,a<c.size):gL l m b:=λa d=>by rw[k.bC a (e a d),h.bC a (e a d)]
def zU(x:eK)(b:Bool)(a:b=true<->0<=x.op/\x.op<=11):dn x=if b=true then 1 else 0:=by
 unfold dn;by_cases h:b=true
 .rw[ba h];exact ba (a.1 h)
 .rw[aU h];exact aU λc=>h (a.2 c)
def qV{H:af}{Z:List jS}:∀a:Bk,aco H Z a:=by
 refine Bk.ind ?_;intro bz Y U D d r c al v Q T t j;simp only[Bk.mL,Bk.lK,Bk.vB]at*;apply EE;simp -zeta only[dU];intro W f;have y:J D f:=by grind [J.push,J.O]
 have g:∀a∈[W.size,D.size],a<f.size:=cG;clear_value f;have R:=t.aS;refine(pB (S:=[]) bO (T.le (y.le.O Ej)) V).bK (J.cZ f) g λs0 _ m2 i I x2 _=>⟨_,rfl,?_⟩;subst I;have C:=FF bz;refine gP (n:=bz.length) (R▸t.kA) (λk s b=>J f b/\∃l,GI [] f b s l/\l.length=v.length+dc (bz.take k)) ⟨x2,_,i,bO⟩ ?_;rintro k s X aa μ hk ⟨z,l,m,hc⟩ F
 have p:=y.O z;have ac:=xg (bz.take k);have ag:=jH (bz.take k);have ae:=m.aS cH;have q:=(m.cz bO (oh (C k))).le fG;refine⟨λh=>?_,λh=>?_⟩
 .simp only[bh]at h;let⟨x,o⟩:=dY bz k;let⟨ab,kk,N,P,i,g1,g2,L,M⟩:=(t.le p.le).D o;have ai:=ub o;have ah:=C (k+1);have ad:=uU o;refine⟨V,V,_,i,_,g1,_,g2,_,L,_,M,?_⟩;refine(sg (Q.le p.le) q N P V (U x (aZ o))).bK z g λaj E e u=>⟨_,rfl,λ_=>rN (y.O u),λ_=>⟨V,V,_,e.aR i,?_⟩⟩;refine(mD _ _).bK (J.cZ E) (λa j=>u.lt (g a j)) λa m5 O _ A=>⟨_,rfl,?_⟩;have hd:=zU x a O;have w:=u.O A;refine⟨λh=>?_,λh=>?_⟩
  .rw[ba h]at hd;intro m6;refine GI.nA ((m.ext e).ext A) (w.fz []) V λr m7 K B G ak=>⟨?_,F V _ _ ⟨B.ext,_,K,fj⟩⟩;exact J.sK (w.cw _) B.ext g
  .rw[aU (by simp[h])]at hd;exact F V _ _ ⟨w,l,(m.ext e).ext A,V⟩
 .refine(dk).bK (J.cZ X) (λa j=>z.lt (g a j)) λa E o _ e=>⟨_,rfl,λ_=>rN (p.O e),λh=>?_⟩;have h:=yb o h;have w:=q.kA;rw[iC]at h;let⟨G,u⟩:=dY l Y.toNat;exact⟨V,V,G,(q.ext e).D u,rN (p.O e)⟩
end
section
variable{b:E}{d e g k:N}{f:List jS}{c:eK}{h:Nat}
theorem _root_.Go.Vc.dQ{S a:ad}{c o:Nat}{l:ae}(f:c∈S)(e:∀d∈a,d∈S):Le (dg S b) (dg a (aV b c o l)):=
 by grind [ms,cg]
def aeV(a:Bk):Prop:=∀(b:E)(t:N),iA b t a.bz->∀left:Int,-1<=left->left<=600->wX 313 [.agg #[t.v,vi a.bL],vi left] b λk=>-1<=k/\k<=600
def Mw:∀i:Bk,aeV i:=by
 refine Bk.ind ?_;intro bz aa I b ab p left y A;simp only[Bk.mL,Bk.lK]at*;apply Fp;simp -zeta only[dU];intro f;have S:=px f;have C:∀i∈[b.size],i<f.size:=by simp[f]
 clear_value f;have H:=p.aS;have q:∀{d:E}{a:Int},J f d->-1<=a/\a<=600->∃k:Int,vi a=vi k/\(-1<=k/\k<=600)/\J b d:=by grind [J.O]
 refine gP (n:=bz.length) (H▸p.kA) (λ_ a d=>J f d/\-1<=a/\a<=600) ⟨di,y,A⟩ ?_;rintro k a L U μ hk ⟨j,D⟩ O
 refine⟨λl=>⟨λ_=>q j V,λz=>?_⟩,λ_=>q j D⟩;simp only[bh]at l;simp only[dF]at z;let⟨c,t⟩:=dY bz k;let⟨g,u,Z,m,X,g1,g2,Y,r⟩:=(p.le (S.O j).le).D t;have B:=m.aS;rw[dt (b:=a -1) V V];refine gP (n:=c.dm.length) (B▸m.kA) (λ_ a d=>J L d/\-1<=a/\a<=600) ⟨di,V,V⟩ ?_;rintro K P M W μ2 hj ⟨h,o⟩ N;refine⟨V,V,u,h.aR r,λl=>?_,λ_=>O V _ _ ⟨j.O h,o⟩⟩;simp only[bh]at l;let⟨i,s⟩:=dY c.dm K;let⟨Q,G,v,w⟩:=(m.le h.le).D s;refine⟨V,V,u,h.aR r,V,V,_,v,_,w,?_⟩;exact(I c (aZ t) i (aZ s) M Q G P o.1 o.2).bK (j.O h) C λe m4 F T R=>⟨_,rfl,λ_=>q R V,λl=>N V _ _ ⟨h.O T,F⟩⟩
def Qr{t:N}{c:Bk}(g:iA b t c.bz):JF 269 [.agg #[t.v,vi c.bL]] b:=by
 apply Jn;simp -zeta only[dU];intro a;have d:=px a;have f:∀c∈[b.size],c<a.size:=by simp[a]
 clear_value a;exact(Mw c a t (g.le d.le) 600 V V).bK (J.cZ a) f λn h _ _ e=>⟨_,rfl,λ_=>rN (d.O e),λ_=>rN (d.O e)⟩
def pOf(e:jS):dP:=⟨e.aX,[],e.bL,0,[]⟩
def sS.aO:qj 5 sS:=⟨λh⟨g,a,b⟩=>⟨g,a,b.le h⟩,λ⟨g,a,_⟩=>by rw[a];rfl⟩
def Rj{F:af}(t:ir b d e F f):bJ dN 312 [.agg #[d.v,e.v]] b λX g=>∃v,X=.agg #[d.v,v.v]/\fU g 5 (sS g) v (f.map pOf)/\J b g:=by
 apply KL;simp -zeta only[dU];intro l a2 a3 a4 p;have ab:=t.lz.aS;have hf:=t.pF;have Y:J b a2:=(J.push _ _).O (J.push _ _);have U:=pz l;have W:a2.size=b.size+2:=by simp[a2,U]
 have s3:a3.size=b.size+3:=by simp[a3,W]
 have A:=py p;have L:Gr [a3.size,l.size] a2 p iV 5 sS (.mk a2.size 0 0 0) []:=(Gr.bI _ bW).ext sS.aO A;have D:dJ p a3.size nE [.s d,.s (.mk a2.size 0 0 0)]:=dJ.aV (m:=a4) (o:=0) (r:=[.s d,.s (.mk a2.size 0 0 0)]) (dJ.push a3 _ _);have Z:J a2 p:=(J.push a2 _).O A;clear_value p;have N:∀j∈[l.size,b.size],j<a2.size/\j∉([]:ad):=fj;refine ik (n:=f.length) V (λk g=>J a2 g/\∃s,Gr [a3.size,l.size] a2 g iV 5 sS s ((f.take k).map pOf)/\dJ g a3.size nE [.s d,.s s]) ⟨Z,_,L,D⟩ ?_;rintro k P aa μ hk ⟨u,s,h,B⟩ R
 have z:=Y.O u;refine dit (λM=>?_) λM=>?_
 .let⟨S,x⟩:=dY f k;have O:DF (dg (s.bq::[a3.size,l.size]) P) e f:=t.lz.le ((Ej (m:=b)).O ((z.fz []).dg bO λj q=>bG ?_))
  .let⟨y,ac,j,E,c2,c3,G,e1,H,e3,e4⟩:=O.D x;refine⟨s,B.dz 1,V,V,y,(gV.1 G).2,V,V,_,(gV.1 H).2,?_⟩;intro Q;refine Gr.bT (g:=[.s .nil,.i 0,.i 0,.i 0,.s .nil]) (j:=1) (i:=[.s d,.s s]) (u:=pOf S) sS.aO cH h (u.fz []) ⟨y,rfl,E⟩ fj B bO cH ⟨V,bO⟩ (λj q=>by have C:=N j q;have I:=h.cD;have w:=u.aP;omega) λT g K C I z' q'=>R V _ ⟨I.ext,T,?_,C⟩
   rw[bX x,kE];exact K
  .have:=h.cD;simp at q;omega
 .refine⟨d,B.dz 0,s,B.dz 1,?_⟩;intro Q;have x:=h.ne B cH;have y:=h.cD;rw[eW V]at h;refine⟨s,rfl,?_,z.aV V _ _⟩;have w:=h.rO sS.aO fj cH fj;exact fU.le w ((dQ (a:=[]) bO bO).O fG) λq c=>sS.aO.le ((dQ (a:=[]) bO bO).O fG)
def BZ{r:af}(c:ir b d e r f):sU 268 [.agg #[d.v,e.v]] b:=by
 apply xR;simp -zeta only[dU];intro g;have a:=px g;have i:∀h∈[b.size],h<g.size:=by simp[g]
 clear_value g;have K:=c.lz.aS;have G:=c.pF;refine⟨λ_=>rA a,λ_=>?_⟩;refine(Rj (c.le a.le)).aO λ_ L⟨F,s,w,j⟩=>?_;subst s;refine⟨j.fq i,_,_,rfl,?_⟩;refine(yZ (c.le (a.O j).le).bQ w).jQ.bK j i λh M Q m=>⟨_,rfl,λ_=>rA (a.O m),λ_=>?_⟩;refine ik (n:=f.length) V (λ_ l=>J g l) m ?_;rintro k N I μ H l y
 refine⟨λv=>?_,λ_=>rA (a.O l)⟩;simp only[bh]at v;let⟨P,x⟩:=dY f k;let⟨z,A,h,p,q,B,t,u,C,D,E⟩:=(c.le (a.O l).le).lz.D x;refine⟨V,V,z,t,V,V,A,u,?_⟩;exact(yY p q).jQ.bK l i λh O R o=>⟨_,rfl,λ_=>rA (a.O o),λ_=>y V _ o⟩
def Js{z:af}(i:ir b d e z f)(G:∀q∈f,q.aX.length+4*q.eV.w<=10^12):sU 248 [.agg #[d.v,e.v]] b:=by
 apply Ca;simp -zeta only[dU];intro c;have l:=px c;have s:∀a∈[b.size],a<c.size:=by simp[c]
 clear_value c;have S:=i.lz.aS;have Q:=i.pF;refine(BZ (i.le l.le)).bK (J.cZ c) s λa T x _=>⟨_,rfl,λ_=>rA (l.O x),λ_=>?_⟩;refine ik (n:=f.length) V (λ_ g=>J c g) x ?_;rintro k u O μ R m L
 refine⟨λF=>?_,λ_=>rA (l.O m)⟩;simp only[bh]at F;let⟨q,t⟩:=dY f k;have v:=l.O m;let⟨M,W,a,y,P,r,A,B,C,D,E⟩:=(i.le v.le).lz.D t;refine⟨V,V,_,A,_,B,_,C,_,D,_,E,?_⟩;intro H g;have j:=py g;have o:∀a∈[u.size,b.size],a<g.size:=by
  have:=m.lt (s b.size bO);have:g.size=u.size+1:=by simp[g,H,bD]
  simp;omega
 clear_value g;have p:=v.O j;refine(Qr (r.le j.le)).bK (J.cZ g) o λK I h _=>⟨_,rfl,λ_=>rA (p.O h),λ_=>?_⟩;refine(qV q.eV I d e M a q.aX (i.le (p.O h).le) (y.ext (j.O h)) (r.le (j.O h).le) (G q (aZ t))).bK h o λK U N w=>⟨_,rfl,bB (N.bC _ (h.lt (o _ bO))) _,λ_=>rA (p.O w),λ_=>L V _ ((m.O j).O w)⟩
def Cv(c:Int)(b:E):sU 163 [vi c] b:=by
 apply wo;have e:∀a:Bool,∃k:Bool,vb a=.bool k/\J b b:=λa=>rA (J.cZ b);exact⟨λ_=>e _,λ_=>⟨λ_=>e _,λ_=>⟨λ_=>e _,λ_=>e _⟩⟩⟩
def acq(f:List jS)(c:eK):Prop:=c.op=9->0<=c.cE/\c.cE<f.length
@[grind cases] structure At (m:E) (d r a k:N) (ds:af) (rs:List jS) (x:eK):Prop where
 V0:ir m d r ds rs
 aN:bd m a x.aN
 jr:acq rs x
def At.le{b j:E}{d e g k:N}{a:af}{f:List jS}{c:eK}(h:At b d e g k a f c)(i:Le b j):At j d e g k a f c:=⟨h.V0.le i,h.aN.le i,h.jr⟩
theorem fN{o1 o2:Obj}{a c:E}(e:a=b.push o1)(f:c=a.push o2):J b c/\∀d∈[a.size,b.size],d<c.size:=by
 grind [J.push,J.O]
def rV{o:af}(a:At b d e g k o f c)(h:Int):sU 315 [.agg #[d.v,e.v],tr c g k,vi h] b:=by
 apply KF;simp -zeta only[dU];intro s i;let⟨j,q⟩:=fN (a:=s) (c:=i) rfl rfl;clear_value i;have C:=a.V0.lz.aS;refine⟨λl=>?_,λ_=>rA j⟩;simp only[bP]at l;have B:=a.jr l;let⟨F,r⟩:=dY f c.cE.toNat;let⟨E,t,m,v,n,w,x,p,y,z,A⟩:=(a.V0.le j.le).lz.D r;exact⟨V,V,t,p,(fF n h).jQ.bK (J.cZ i) q λm D u _=>⟨_,rfl,rA (j.O u)⟩⟩
def pV{q:N}{s:af}(j:At b d e g k s f c){v:ab}(o:bd b q v)(u:∀y∈c.aN,0<=y/\y<(v.length:Int))(t:h<c.aN.length):sU 311 [.agg #[d.v,e.v],q.v,tr c g k,vi h] b:=by
 apply Db;simp -zeta only[dU];intro x a;let⟨l,n⟩:=fN (a:=x) (c:=a) rfl rfl;clear_value a;have B:=j.aN.aS;have D:=o.aS;let⟨y,p⟩:=jk t;have C:=u y (aZ p);let⟨A,w⟩:=dY v y.toNat;refine(Cv c.op a).bK (J.cZ a) n λr E m _=>⟨_,rfl,λ_=>?_,λ_=>rA (l.O m)⟩;have i:=l.O m;refine⟨V,V,y,(j.aN.ext i).D p,V,V,A,(o.ext i).D w,λ_=>?_,λ_=>rA i⟩;exact(rV (j.le i.le) h).bK m n λr F G z=>⟨_,rfl,rA (l.O z)⟩
def Hc{r:af}(a:At b d e g k r f c)(u:h<c.aN.length):sU 343 [.agg #[d.v,e.v],tr c g k,vi h] b:=by
 apply AI;simp -zeta only[dU];intro y l;let⟨q,v⟩:=fN (a:=y) (c:=l) rfl rfl;clear_value l;have t:=a.aN.aS;let⟨A,w⟩:=jk u;refine ik (n:=c.aN.length) (t▸a.aN.kA) (λ_ i=>J l i) di ?_;rintro o E I μ D j z
 have i:=q.O j;refine⟨λs=>⟨λ_=>?_,λ_=>?_⟩,λ_=>rA i⟩<;>simp only[bh]at s<;>have m:=z V
 .let⟨B,x⟩:=dY c.aN o;refine⟨V,V,B,(a.aN.ext i).D x,V,V,A,(a.aN.ext i).D w,λ_=>⟨λ_=>rA i,λ_=>?_⟩,λ_=>m _ j⟩;exact(rV (a.le i.le) o).bK j v λC F G p=>⟨_,rfl,λ_=>rA (q.O p),λ_=>m _ p⟩
 .exact m _ j
def EW{oT r:N}{t:af}(i:At b d e g k t f c){x w:ab}(v:bd b oT x)(u:bd b r w)(p:h<c.aN.length):sU 328 [.agg #[d.v,e.v],tr c g k,vi h,oT.v,r.v] b:=by
 apply Ja;simp -zeta only[dU];intro z l;let⟨a,j⟩:=fN (a:=z) (c:=l) rfl rfl;clear_value l;have B:=i.aN.aS;let⟨y,q⟩:=jk p;refine⟨V,V,y,(i.aN.ext a).D q,?_⟩;refine(fF (u.ext a) y).jQ.bK (J.cZ l) j λo C n _=>⟨_,rfl,λ_=>rA (a.O n),λ_=>?_⟩;have s:=a.O n;refine⟨V,V,y,(i.aN.ext s).D q,?_⟩;refine(fF (v.ext s) y).jQ.bK n j λo D F m=>⟨_,rfl,λ_=>rA (a.O m),λ_=>?_⟩;exact(Hc (i.le (a.O m).le) p).bK m j λo E G A=>⟨_,rfl,rA (a.O A)⟩
end
section
def ac6(a:Bk):Prop:=∀(b:ad)(m:E),(∀c∈b,c<m.size)->∀(t d:N)(l:ab)(n:Int)(k:Nat),iA m t a.bz->bd (dg b m) d l->k<=a.bz.length->l.length+a.w<=10^12->
 JE 297 [.agg #[t.v,vi a.bL],vi n,vi k,d.v] m b λe=>e.length<=l.length+a.w
def _root_.Go.Vc.acO{σ:Type}{n a:Nat}(j:a<=n)(l:n<=9223372036854775807){m:E}{f:σ}{e:(σ->Int->E->Prop)->(σ->Int->E->Nat)->σ->Int->E->Prop}(Q:Nat->σ->E->Prop)(g:Q a f m)
 (h:∀(k:Nat)(s:σ)(b:E)(I:σ->Int->E->Prop)(μ:σ->Int->E->Nat),a<=k->k<=n->Q k s b->
  (k<n->∀d c,Q (k+1) d c->I d (eR ((k:Int)+1)) c/\μ d (eR ((k:Int)+1)) c<μ s k b)->e I μ s k b):
 ∃(I:σ->Int->E->Prop)(μ:σ->Int->E->Nat),I f a m/\∀s i b,I s i b->e I μ s i b:=by
 refine⟨λs i c=>∃k:Nat,i=k/\a<=k/\k<=n/\Q k s c,λ_ i _=>(n -i).toNat,⟨a,rfl,bW,j,g⟩,?_⟩
 grind [nQ,PB]
def IH{b:ad}{m:E}(e:∀c∈b,c<m.size){a k L:N}{l:ab}{x:eK}(O:Int)(w:bd m a x.aN)(A:rI m k x.dm)(K:bd (dg b m) L l)(hb:l.length+x.w<=10^12)(X:∀j∈x.dm,ac6 j):
 JE 327 [tr x a k,vi O,L.v] m b λd=>d.length<=l.length+x.w:=by
 apply BA
 simp -zeta only[dU]
 intro f
 have p:=px f
 have B:∀j∈[m.size],j<f.size:=by simp[f]
 clear_value f
 have T:=w.aS
 have U:=A.aS
 have hw:=eK.pD x
 have H:∀{g:E},J f g->∀c∈b,c<g.size:=by grind [J.O,J.aP]
 refine(xK x.op f).jQ.bK (J.cZ f) B λj m2 u _=>⟨_,rfl,λ_=>⟨_,_,rfl,K.le ((p.O u).eU (S:=b)),V,p.O u⟩,λ_=>?_⟩
 refine gP (n:=x.aN.length) (T▸w.kA) (λC s g=>J f g/\∃d,bd (dg b g) s d/\d.length<=l.length+C) ⟨u,l,K.le ((p.O u).eU (S:=b)),bW⟩ ?_
 rintro C s m3 ac μ hj ⟨i,d,q,hc⟩ F
 refine dit (λh=>?_) λh=>?_
 .let⟨y,o⟩:=dY x.aN C
  have g1:=(w.ext (p.O i)).D o
  refine⟨V,V,y,g1,λ_=>⟨V,V,y,g1,λ_=>⟨V,V,y,g1,?_⟩,λ_=>F V _ _ ⟨i,d,q,V⟩⟩,λ_=>F V _ _ ⟨i,d,q,V⟩⟩
  exact(pJ (H i) q y V).bK i B λr D M g2 G v t=>⟨_,rfl,F V _ _ ⟨t,D,g2.cz (H i) (oh G.2),oh G.2⟩⟩
 .refine gP (n:=x.dm.length) (U▸A.kA) (λo s g=>J f g/\∃d,bd (dg b g) s d/\d.length<=l.length+x.aN.length+bw (x.dm.take o)) ⟨i,d,q,fj⟩ ?_
  rintro o s2 M I2 μ2 hi ⟨v,D,g2,af⟩ Z
  have t:=p.O v
  have I:=WJ x.dm
  refine⟨λh=>?_,λh=>⟨_,_,rfl,g2,oh (I o),t⟩⟩
  simp only[bh]at h
  let⟨j,z⟩:=dY x.dm o
  let⟨aa,W,P,Q⟩:=(A.le t.le).D z
  have ae:=yL z
  refine⟨V,V,_,P,_,Q,?_⟩
  exact(X j (aZ z) b M (H v) aa s2 D O 0 W g2 (jb _) (oh (I (o+1)))).bK v B λr Y m5 R G x5 u5=>⟨_,rfl,Z V _ _ ⟨u5,Y,R,V⟩⟩
def EA:∀i:Bk,ac6 i:=by
 refine Bk.ind ?_;intro bz P M b m e ab aa o N Z k K G U;simp only[Bk.mL,Bk.lK,Bk.vB]at*;apply II;simp -zeta only[dU];intro d;have t:=px d;have v:∀i∈[m.size],i<d.size:=by simp[d]
 clear_value d;have L:=k.aS;have H:∀{g:E},J d g->∀c∈b,c<g.size:=by grind [J.O,J.aP]
 refine acO (n:=bz.length) G (L▸k.kA) (λj s g=>J d g/\∃p,bd (dg b g) s p/\p.length<=o.length+sw (bz.take j)) ⟨di,o,K.le (t.eU (S:=b)),V⟩ ?_;rintro j s z T μ _ X ⟨f,p,u,W⟩ O
 have Q:=t.O f;have w:=FF bz;refine⟨λh=>?_,λh=>?_⟩
 .simp only[bh]at h;let⟨x,l⟩:=dY bz j;let⟨a,kk,F,I,A,g1,g2,B,C⟩:=(k.le Q.le).D l;have Y:=ub l;refine⟨V,V,_,A,_,g1,_,g2,_,B,_,C,?_⟩;exact(IH (H f) N F I u (oh (w (j+1))) (M x (aZ l))).bK f v λr y m3 D q x3 R=>⟨_,rfl,O V _ _ ⟨R,y,D,V⟩⟩
 .have D:=w j;have A:∃B l,s.v=B.v/\bd (dg b z) B l/\l.length<=o.length+(1+sw bz)/\J m z:=cG;refine⟨λ_=>⟨λ_=>?_,λ_=>A⟩,λ_=>A⟩;exact(pJ (H f) u P V).bK f v λr y F g2 q I C=>⟨_,rfl,_,_,rfl,g2.cz (H f) (oh q.2),oh q.2,t.O C⟩
def HR{b:ad}{m:E}(e:∀c∈b,c<m.size){t:N}{a:Bk}(o:iA m t a.bz){n:Int}(j:a.w<=10^12):JE 262 [.agg #[t.v,vi a.bL],vi n] m b λg=>g.length<=a.w:=by
 apply KO;simp -zeta only[dU];intro h d;let⟨f,l⟩:=fN (a:=h) (c:=d) rfl rfl;have i:bd (dg b d) (.mk h.size 0 0 0) []:=⟨rfl,bW,bO,bO⟩;clear_value d;exact(EA a b d (λc k=>f.lt (e c k)) t _ _ n 0 (o.le f.le) i (jb _) cG).bK (J.cZ d) (λa j=>l a cG) λr g p g2 q k _=>⟨_,rfl,_,_,rfl,g2,sp q,f.O k⟩
variable{b:ad}{m:E}(e:∀c∈b,c<m.size){d r a k q oT p:N}{s:af}{u:List jS}{x:eK}(h:At m d r a k s u x){v g t:ab}(o:bd m q v)(l:∀y∈x.aN,0<=y/\y<(v.length:Int))(f:bd m oT g)(j:bd m p t)
include e h o l
theorem C8(H:x.aN.length<=10^12):od 266 [.agg #[d.v,r.v],q.v,tr x a k] m b (tC x.aN):=by
 apply yu;simp -zeta only[dU];intro F e M;let⟨u,w⟩:=fN (a:=F) (c:=e) rfl rfl;clear_value e;have E:=h.aN.aS;refine gP (n:=x.aN.length) (E▸h.aN.kA) (λj s f=>J e f/\∃c,GI b e f s c/\(∀y∈c,y∈x.aN)/\c.length<=j) ⟨J.push _ _,[],GI.gD b e,bO,bW⟩ ?_;rintro j s N I μ L ⟨B,c,g,p,K⟩ A
 have t:=u.O B;refine dit (λD=>?_) λD=>?_
 .let⟨y,z⟩:=dY x.aN j;refine(pV (h.le t.le) (o.ext t) l (h:=j) V).bK B w λG O C f=>⟨_,rfl,λ_=>⟨V,V,y,(h.aN.ext (u.O f)).D z,?_⟩,λ_=>A V _ _ ⟨f,c,g.ext C,p,V⟩⟩;intro P;exact GI.nA (g.ext C) (f.fz []) V λr Q g2 v _ _=>⟨J.sK (f.cw _) v.ext w,A V _ _ ⟨v.ext,_,g2,ta p (aZ z),fj⟩⟩
 .exact⟨s,c,rfl,g.da (λ_ h=>h) u.aP,⟨p,V⟩,t⟩
include f j
theorem Kx(Q:x.aN.length<=10^12):od 299 [.agg #[d.v,r.v],q.v,tr x a k,oT.v,p.v] m b (tC x.aN):=by
 apply Da;simp -zeta only[dU];intro N g T;let⟨v,w⟩:=fN (a:=N) (c:=g) rfl rfl;clear_value g;have M:=h.aN.aS;refine gP (n:=x.aN.length) (M▸h.aN.kA) (λe A s=>J g s/\∃c,GI b g s A c/\(∀y∈c,y∈x.aN)/\c.length<=e) ⟨J.push _ _,[],GI.gD b g,bO,bW⟩ ?_;rintro e A U P μ S ⟨H,c,s,t,R⟩ z
 have B:=v.O H;refine dit (λL=>?_) λL=>?_
 .let⟨y,G⟩:=dY x.aN e;refine(pV (h.le B.le) (o.ext B) l (h:=e) V).bK H w λK W E C=>⟨_,rfl,λ_=>?_,λ_=>z V _ _ ⟨C,c,s.ext E,t,V⟩⟩;have D:=v.O C;refine(EW (h.le D.le) (f.ext D) (j.ext D) (h:=e) V).bK C w λK X I u=>⟨_,rfl,λ_=>⟨V,V,y,(h.aN.ext (v.O u)).D G,?_⟩,λ_=>z V _ _ ⟨u,c,(s.ext E).ext I,t,V⟩⟩;intro O;exact GI.nA ((s.ext E).ext I) (u.fz []) V λr O g2 F _ _=>⟨J.sK (u.cw _) F.ext w,z V _ _ ⟨F.ext,_,g2,ta t (aZ G),fj⟩⟩
 .exact⟨A,c,rfl,s.da (λ_ h=>h) v.aP,⟨t,V⟩,B⟩
theorem Me(T:g.length<=10^12):od 301 [.agg #[d.v,r.v],q.v,tr x a k,oT.v,p.v] m b (tC g):=by
 apply EY;simp -zeta only[dU];intro W w;let⟨s,D⟩:=fN (a:=W) (c:=w) rfl rfl;clear_value w;have ae:=h.aN.aS;have ab:∀{t:E},J w t->∀c∈b,c<t.size:=by grind [J.O,J.aP]
 have X:bJ dN 330 [oT.v,p.v] w λv t=>gL [W.size,m.size] w t/\∃Y:N,v=Y.v/\∃z U,Y.v=z.v/\GI b m t z U/\tC g U/\J m t:=by
  refine(Q8 (S:=[]) bO (f.le (s.le.O Ej)) (j.le (s.le.O Ej)) T).bK (J.cZ w) D λz u af B H P _=>⟨_,rfl,z,u,rfl,?_,H,s.O P⟩;let⟨C,I,g1,g2⟩:=B;exact⟨C,I,g1.da s.aP,g2.aO λ_ _ h=>h⟩
 refine⟨λ_=>X,λ_=>⟨λ_=>X,λ_=>?_⟩⟩;refine(pB (S:=[]) bO (f.le (s.le.O Ej)) T).bK (J.cZ w) D λs0 _ af C ad P _=>⟨_,rfl,?_⟩;subst ad;refine gP (n:=x.aN.length) (ae▸h.aN.kA) (λG z t=>J w t/\∃u,GI b m t z u/\tC g u) ⟨P,g,?_,λ_ h=>h,bW⟩ ?_
 .let⟨C,I,g1,g2⟩:=C;exact⟨C,I,g1.da s.aP,g2.aO λ_ _ h=>h⟩
 rintro G z m3 ag μ hj ⟨Z,u,B,A⟩ K
 have L:=s.O Z;refine⟨λR=>?_,λR=>⟨z,u,rfl,B,A,L⟩⟩;simp only[bh]at R;let⟨y,hy⟩:=dY x.aN G;refine(pV (h.le L.le) (o.ext L) l (h:=G) V).bK Z D λac m4 Q M=>⟨_,rfl,λ_=>?_,λ_=>K V _ _ ⟨M,u,B.ext Q,A⟩⟩;have O:=s.O M;refine(EW (h.le O.le) (f.ext O) (j.ext O) (h:=G) V).bK M D λac m5 x5 F=>⟨_,rfl,λ_=>⟨V,V,y,(h.aN.ext (s.O F)).D hy,?_⟩,λ_=>K V _ _ ⟨F,u,(B.ext Q).ext x5,A⟩⟩;refine(FD (S:=b) (ab F) (((B.ext Q).ext x5).cz e (oh A.2)) y (oh A.2)).bK F D λr l2 m6 g2 H x6 u6=>⟨_,rfl,K V _ _ ⟨u6,l2,g2.da (λ_ h=>h) (s.O F).aP,λaa hz=>A.1 aa (H.1 aa hz),fA H.2 A.2⟩⟩
omit o l
theorem Mf(Y:x.aN.length<10^12):od 302 [.agg #[d.v,r.v],tr x a k,oT.v,p.v] m b (tC x.aN):=by
 apply EZ;simp -zeta only[dU];intro U l aa;let⟨i,u⟩:=fN (a:=U) (c:=l) rfl rfl;clear_value l;have R:=h.aN.aS;have P:∀{s:E},J l s->∀c∈b,c<s.size:=by grind [J.O,J.aP]
 refine gP (n:=x.aN.length) (R▸h.aN.kA) (λv D s=>J l s/\∃g,GI b l s D g/\(∀y∈g,y∈x.aN)/\g.length<=v) ⟨J.push _ _,[],GI.gD b l,bO,bW⟩ ?_;rintro v D m3 X μ Z ⟨M,g,o,q,I⟩ w
 have L:=i.O M;refine dit (λQ=>?_) λQ=>?_
 .let⟨y,C⟩:=dY x.aN v;refine(rV (h.le L.le) v).bK M u λG m4 B z=>⟨_,rfl,λ_=>⟨V,V,y,(h.aN.ext (i.O z)).D C,?_⟩,λ_=>w V _ _ ⟨z,g,o.ext B,q,V⟩⟩;refine(fF (f.ext (i.O z)) y).jQ.bK z u λG m5 F A=>⟨_,rfl,λ_=>⟨V,V,y,(h.aN.ext (i.O A)).D C,?_⟩,λ_=>w V _ _ ⟨A,g,(o.ext B).ext F,q,V⟩⟩;refine(fF (j.ext (i.O A)) y).jQ.bK A u λG m6 N t=>⟨_,rfl,λ_=>⟨V,V,y,(h.aN.ext (i.O t)).D C,?_⟩,λ_=>w V _ _ ⟨t,g,((o.ext B).ext F).ext N,q,V⟩⟩;refine(pJ (P t) ((((o.ext B).ext F).ext N).cz (λc I=>i.lt (e c I)) V) y V).bK t u λr T m7 g2 K x7 W=>⟨_,rfl,w V _ _ ⟨W,T,g2.da (λ_ h=>h) t.aP,λO S=>?_,oh K.2⟩⟩;rcases K.1 O S with H|H
  .exact q O H
  grind [aZ]
 .exact⟨D,g,rfl,o.da (λ_ h=>h) i.aP,⟨q,V⟩,L⟩
end
section
variable{m e a:E}{c g:ad}{s:N}{d:ab}{b f i:Nat}{h:ap}{K:ai}
def uy{o1 o2 o3:Obj}{a c d:E}(e:a=m.push o1)(f:c=a.push o2)(g:d=c.push o3):J m d/\(∀b∈[c.size,a.size,m.size],b<d.size)/\a.size=m.size+1/\c.size=m.size+2/\d.size=m.size+3:=by
 grind [J.push,J.O]
def GI.XR{X:ad}{k:E}{h:N}{j:ab}{a:Int}{K:N->E->Prop}(n:GI c e m s d)(i:GI g k m h j)(q:s.bq≠h.bq)(o:Fz X e m)(v:d.length<=10^12)
 (p:∀r b,GI c e b r (d++[a])->GI g k b h j->r.bq≠h.bq->Fz X e b->K r b):lS (m.push (.cells (de [.i a]) bE)) bE [.i 0] 8 s (.mk m.size 0 1 1) K:=by
 have t:=i.cD
 refine Gr.nA (g:=[.i 0]) ye.aO cH n o rfl V λr b l f z u=>p r b l (i.lR (u _ t.2 (ur q))) ?_ f
 grind
def GI.jQ(h:GI c e m s d):GI g e m s d:=by
 let⟨b,a,f,i⟩:=h;exact⟨b,a,f,i.aO λ_ _ h=>h⟩
def iK(a v:Int):eK:=⟨a,0,0,[v],[]⟩
abbrev GS(c:ad)(e m:E)(s:N)(d:au):Prop:=Gr c e m jD 5 j9 s d
theorem GS.bI(c:ad)(m:E):GS c m (m.push (.cells (de []) jD)) (.mk m.size 0 0 0) []:=by grind [Gr.bI]
def GS.nA{c X:ad}{e m:E}{s a k:N}{d:au}{x:eK}{K:N->E->Prop}(h:GS c e m s d)(j:Fz X e m)(i:bd (dg (s.bq::c) m) a x.aN)(l:rI (dg (s.bq::c) m) k x.dm)(n:d.length<=10^12)
 (g:∀r f,GS c e f r (d++[x])->Fz X e f->m.size<=f.size/\(r.bq=s.bq\/m.size<=r.bq)->(∀b,b<m.size->b≠s.bq->f[b]? =m[b]?)->K r f):
 lS (m.push (.cells (de [.i x.op,.i x.cE,.i x.cY,.s a,.s k]) jD)) jD [.i 0,.i 0,.i 0,.s .nil,.s .nil] 72 s (.mk m.size 0 1 1) K:=
 Gr.nA (g:=[.i 0,.i 0,.i 0,.s .nil,.s .nil]) j9.aO cH h j ⟨a,k,rfl,i,l⟩ V g
def GS.lQ{c X:ad}{e m:E}{s x:N}{d f:au}{K:N->E->Prop}(h:GS c e m s d)(i:Fz X e m)(j:iA (dg (s.bq::c) m) x f)(k:d.length+f.length<=10^12)
 (g:∀r a,GS c e a r (d++f)->Fz X e a->m.size<=a.size/\(r.bq=s.bq\/m.size<=r.bq)->(∀b,b<m.size->b≠s.bq->a[b]? =m[b]?)->K r a):
 lS m jD [.i 0,.i 0,.i 0,.s .nil,.s .nil] 72 s x K:=
 Gr.lQ (g:=[.i 0,.i 0,.i 0,.s .nil,.s .nil]) j9.aO cH h i j V g
theorem pN{α:Type}{a:Nat}{R:ae->α->Prop}{o c:Nat}:fU m a R (.mk b o 0 c) []:=⟨rfl,jb _,bO,bO⟩
def lA(o:∀e∈c,e<m.size)(i v:Int):bJ dN 228 [vi i,vi v] m λt d=>∃a k,t=tr (iK i v) a k/\bd (dg c d) a [v]/\rI (dg c d) k []/\J m d:=by
 apply GQ;simp -zeta only[dU];intro f g r s;obtain⟨u,x⟩:=pu f;have w:=px g;have j:=px r;have q:J m s:=((u.O w).O j).aV bW _ _;refine⟨_,_,rfl,?_,pN,q⟩;have n:bd (dg (m.size::c) g) (.mk f.size 0 1 1) [v]:=bd.jU bE (l:=[v]) (λb p=>by
  rcases aY.1 p with h|h
  .omega
  .have:=o b h;omega) rfl rfl bO
 exact(n.le j.eU).le (dQ cK λe h=>aW _ h)
def WA(f:Nat)(h:ap)(m:E)(c:ad)(Q:au->Prop):Prop:=bJ dN f h m λv a=>∃s d,v=s.v/\GS c m a s d/\Q d/\J m a
def WA.bK{d:ad}{Q:au->Prop}(l:WA f h m c Q)(j:J a m)(q:∀b∈d,b<a.size)(p:∀s g e,GS c m e s g->Q g->J m e->J a e->K s.v e):bJ dN f h m λv e=>gL d m e/\K v e:=
 l.aO λ_ e⟨s,g,k,n,r,i⟩=>⟨i.fq λb o=>j.lt (q b o),k▸p s g e n r i (j.O i)⟩
def iE(z:∀h∈c,h<m.size)(b:Int){l:N}(e:bd m l d)(A:d.length<=10^12):WA 264 [vi b,l.v] m c (d.map (iK b)=·):=by
 apply EM;intro E;have u:=e.aS;refine gP (n:=d.length) (u▸e.kA) (λk s g=>J m g/\GS c m g s ((d.take k).map (iK b))) ⟨J.push m _,by simpa using GS.bI c m⟩ ?_;rintro k s F I μ C ⟨j,t⟩ w
 refine⟨λi=>?_,λi=>?_⟩
 .simp only[bh]at i;let⟨g,v⟩:=dY d k;refine⟨V,V,g,(e.ext j).D v,?_⟩;refine(lA (c:=s.bq::c) (λh B=>?_) b g).aO λO G⟨a,D,p,q,r,o⟩=>?_
  .grind [Gr.cD]
  subst p;refine⟨_,_,_,_,_,rfl,?_⟩;intro H;refine GS.nA (x:=iK b g) (t.ext j9.aO o) ((j.O o).fz []) q r cG λM K y f P L=>w V _ _ ⟨f.ext,?_⟩
  grind [bX]
 .grind
theorem uz(a:Int):∀d:ab,sw (d.map (iK a))=2*d.length
 |[]=>rfl
 |v::d=>by rw[eI,pW,uz a d,eK.pD];simp[iK];omega
theorem nB{a:Int}(h:14<=a):∀d:ab,dc (d.map (iK a))=0
 |[]=>rfl
 |v::d=>by
  rw[eI,nH,nB h d];grind [dn,tw,iK]
theorem Ig{f:af}{a:Nat}{d v:Int}(h:14<=d/\d<=17)(g:0<=v/\v<(a:Int)):WS f i True a (iK d v):=
 ⟨⟨bG ⟨trivial,h⟩,λx e=>by simp[iK]at e;subst e;exact g,λ_=>rfl,by simp[iK],λc=>by simp only[iK]at c;omega,λc=>by simp only[iK]at c;omega,λc=>by simp only[iK]at c;omega⟩,λk b c=>by simp[iK]at c⟩
theorem vK{c:af}{a:Nat}{b:Int}(h:14<=b/\b<=17)(e:∀v∈d,0<=v/\v<(a:Int)):WL c i True a (d.map (iK b)):=λg s f=>by
 grind [Option.map_eq_some_iff,List.map_take,nB,Ig,aZ]
def rl(f:Nat)(h:ap)(m:E)(c:ad)(Q:Bk->Prop):Prop:=bJ dN f h m λv a=>∃s b,v=.agg #[s.v,vi b.bL]/\iA (dg c a) s b.bz/\Q b/\J m a
def rl.bK{d:ad}{Q:Bk->Prop}(l:rl f h m c Q)(i:J a m)(q:∀b∈d,b<a.size)(p:∀s b e,iA (dg c e) s b.bz->Q b->J m e->J a e->K (.agg #[s.v,vi b.bL]) e):bJ dN f h m λv e=>gL d m e/\K v e:=
 l.aO λ_ e⟨s,b,k,n,r,g⟩=>⟨g.fq λj o=>i.lt (q j o),k▸p s b e n r g (i.O g)⟩
def OF(f:Nat)(h:ap)(m:E)(c:ad)(Q:eK->Prop):Prop:=bJ dN f h m λv b=>∃a k x,v=tr x a k/\bd (dg c b) a x.aN/\rI (dg c b) k x.dm/\Q x/\J m b
def OF.bK{d:ad}{Q:eK->Prop}(n:OF f h m c Q)(i:J a m)(t:∀b∈d,b<a.size)(s:∀p k x e,bd (dg c e) p x.aN->rI (dg c e) k x.dm->Q x->J m e->J a e->K (tr x p k) e):bJ dN f h m λv e=>gL d m e/\K v e:=
 n.aO λ_ e⟨p,k,x,l,o,q,u,g⟩=>⟨g.fq λj r=>i.lt (t j r),l▸s p k x e o q u g (i.O g)⟩
theorem dC{d:E}(e:∀a∈c,a<m.size)(h:m.size<=d.size)(f:b<d.size):∀a∈b::c,a<d.size:=λa g=>by
 grind
@[grind cases] structure aeN (ds:af) (nr:Nat) (v lo la:ab) (b:Bk):Prop where
 bF:∀o∈lo,0<=o/\o<(v.length:Int)
 lo5:lo.length+5*b.w<=500
 laN:la.length+1000*b.w<=1000000
 vN:v.length+5*b.w<=1000000
 wb:WB ds nr False v.length b
def acp(a:af)(d:List jS)(b:Bk):Prop:=∀(c:ad)(m:E),(∀e∈c,e<m.size)->∀(g r j t oT e:N)(v i h:ab),ir m g r a d->bd m j v->iA m t b.bz->bd m oT i->bd m e h->aeN a d.length v i h b->
 rl 263 [.agg #[g.v,r.v],j.v,.agg #[t.v,vi b.bL],oT.v,e.v] m c λf=>WB a d.length True v.length f/\f.w+1050<=1100*b.w
@[grind cases] structure aeM (ds:af) (nr:Nat) (v fl lo la:ab) (b:Bk):Prop where
 bF:∀o∈lo,0<=o/\o<(v.length:Int)
 fl3:fl.length<=3
 lo5:lo.length+3+5*b.w<=500
 laN:la.length+1000*b.w<=1000000
 vN:v.length+3+5*b.w<=1000000
 wb:WB ds nr False (v.length+fl.length) b
def NJ(hS:∀a∈c,a<m.size){ao D aH bU aw oT aO:N}{ds:af}{rs:List jS}{L H lo la:ab}{b:Bk}(hn:ir m ao D ds rs)(hv:bd m aH L)(hf:bd m bU H)(hs:iA m aw b.bz)(u:bd m oT lo)(a4:bd m aO la)
 (hp:aeM ds rs.length L H lo la b)(ih:acp ds rs b):rl 329 [.agg #[ao.v,D.v],aH.v,bU.v,.agg #[aw.v,vi b.bL],oT.v,aO.v] m c λq=>WB ds rs.length True (L.length+H.length) q/\q.w<=1100*b.w:=by
 apply GN
 simp -zeta only[dU]
 intro e p C
 let⟨B,t,s0,s1,s2⟩:=uy (a:=e) (c:=p) (d:=C) rfl rfl rfl
 clear_value C
 have b1:=hv.aS;have bl:=hf.aS;have bp:=u.aS;have bL:=hp.fl3;have bI:=b.Nr;have bN:=hp.lo5;have b0:=hp.vN;have bM:=hp.laN
 refine(iy (S:=[]) bO (hv.le (B.le.O Ej)) (hf.le (B.le.O Ej)) V).bK (J.cZ C) t λaC _ b4 gi i x3 _=>⟨_,rfl,?_⟩
 subst i
 refine(HR (b:=[]) bO (hs.le (B.O x3).le) V).bK x3 t λbw ul G hu bZ x4 I=>⟨_,rfl,?_⟩
 intro m5 m6
 have a8:bd G bw ul:=hu.le fG
 have bz:J G m6:=(J.push G _).O (J.push m5 _)
 have s5:=pz m5
 have gm:GI c G m6 (.mk G.size 0 0 0) []:=(GI.gD c G).ext (J.push m5 _)
 have gd:GI c G m6 (.mk m5.size 0 0 0) []:=(GI.gD c m5).da (λ_ r=>r) V
 clear_value m6
 have z4:=I.aP
 refine Ba (j:=lo.length) (bp▸u.kA) (λae j sd M=>J G M/\∃R F,GI c G M j R/\GI c G M sd F/\j.bq≠sd.bq/\(∀o∈R,o∈lo)/\(∀o∈F,o∈lo)/\R.length<=ae/\F.length<=ae) ⟨bz,[],[],gm,gd,fj,bO,bO,bW,bW⟩ ?_
 rintro ae j sd m7 bg μ hk ⟨x7,R,F,gm,gd,a6,aM,aL,cm,cd⟩ bb
 have u7:=I.O x7
 have v7:=B.O u7
 refine dit (λr=>?_) λr=>?_
 .let⟨h,Z⟩:=dY lo ae
  have y:=aZ Z
  have A:∀M,J m7 M->lS (M.push (.cells (de [.i h]) bE)) bE [.i 0] 8 j (.mk M.size 0 1 1) λP m'=>gL [p.size,e.size,m.size] (M.push (.cells (de [.i h]) bE)) m'/\bg P sd (eR ((ae:Int)+1)) m'/\μ P sd (eR ((ae:Int)+1)) m'<μ j sd ae m7:=λM X=>
   GI.XR (gm.ext X) (gd.ext X) a6 ((x7.O X).fz []) V λD m' w g' l f=>⟨J.sK ((u7.O X).cw _) (I.O f.ext) t,bb V _ _ _ ⟨f.ext,_,_,w,g',l,ta aM y,aL,fj,V⟩⟩
  refine⟨V,V,h,(u.ext v7).D Z,?_⟩
  refine(fF (a8.ext x7) h).jQ.bK u7 t λa m8 v k=>⟨_,rfl,λ_=>⟨V,V,h,(u.ext (B.O k)).D Z,A m8 v⟩,λ_=>⟨V,V,h,(u.ext (B.O k)).D Z,?_⟩⟩
  refine(fF (a4.ext (B.O k)) h).jQ.bK k t λa z O u9=>⟨_,rfl,λ_=>⟨V,V,h,(u.ext (B.O u9)).D Z,A z (v.O O)⟩,λ_=>⟨V,V,h,(u.ext (B.O u9)).D Z,?_⟩⟩
  intro aP
  have X:=v.O O
  exact GI.XR (gd.ext X) (gm.ext X) a6.symm ((x7.O X).fz []) V λD m' w g' l f=>⟨J.sK ((u7.O X).cw _) (I.O f.ext) t,bb V _ _ _ ⟨f.ext,_,_,g',w,l.symm,aM,ta aL y,V,fj⟩⟩
 have cm:R.length<=lo.length:=V
 have cd:F.length<=lo.length:=V
 intro m8
 have bP:=gm.cD
 have bK:=gd.cD
 refine gP (n:=H.length) (bl▸hf.kA) (λae s M=>J m7 M/\∃d,GI c m7 M s d/\(∀o∈d,0<=o/\o<((L.length+H.length:Nat):Int))/\d.length<=ae) ⟨J.push _ _,[],GI.gD c m7,bO,bW⟩ ?_
 rintro a_ su z I2 μ2 hj ⟨O,y,gu,ap,cu⟩ aT
 have u9:=u7.O O
 have v9:=B.O u9
 refine dit (λh2=>?_) λh2=>?_
 .let⟨h,Z⟩:=dY H a_
  refine⟨V,V,h,(hf.ext v9).D Z,λ_=>?_,λ_=>aT V _ _ ⟨O,y,gu,ap,V⟩⟩
  rw[dt (b:=(aH.len:Int)+a_) V V]
  refine(fF ((a8.ext x7).ext O) _).jQ.bK u9 t λa aP aj aF=>⟨_,rfl,λ_=>?_,λ_=>aT V _ _ ⟨O.O aj,y,gu.ext aj,ap,V⟩⟩
  intro bt
  refine GI.nA (gu.ext aj) ((O.O aj).fz []) V λD m' w f al W=>⟨J.sK ((u9.O aj).cw _) (u7.O f.ext) t,aT V _ _ ⟨f.ext,_,w,λo u=>?_,fj⟩⟩
  rcases bR.1 u with u|u
  .exact ap o u
  .simp at u;omega
 have bY:=gu.cD
 have aK:=gm.ext O
 have bj:∀{M:E},J C M->∀a∈p.size::c,a<M.size:=λr=>dC hS (B.O r).aP (r.lt (t _ bO))
 have aB:∀{M:E},J C M->j.bq<M.size->∀a∈j.bq::p.size::c,a<M.size:=λr Q a h=>by
  rcases aY.1 h with i|i
  .omega
  .exact bj r a i
 refine(iE (c:=j.bq::p.size::c) (aB u9 aK.cD.2) 14 ((gu.cz (S:=c) (λa h=>cp (hS a h) (B.O u7).aP) V).le fG) V).bK u9 t λs1 _ aP g1 i aj aF=>⟨_,rfl,?_⟩
 subst i
 have a5:j.bq<aP.size:=aj.lt aK.cD.2
 refine(iE (c:=s1.bq::j.bq::p.size::c) (λa h=>?_) 15 ((((gd.cz (S:=c) (λa h=>cp (hS a h) (B.O I).aP) V).le fG).ext O).ext aj) V).bK aF t λs2 _ bt g2 i aX bv=>⟨_,rfl,?_⟩
 .rcases aY.1 h with i|i
  .have:=g1.cD;omega
  .exact aB aF a5 a i
 subst i
 have bS:=(g1.ext j9.aO aX).cD
 have e2:=g2.rO j9.aO (λh=>by
  have Z:=g2.cD;rcases aY.1 h with i|i
  .have:=g1.cD;omega
  .have:=aB aF a5 _ i;omega) cH fj
 refine GS.lQ (g1.ext j9.aO aX) ((aj.O aX).fz []) e2 fj λA aa g3 f3 z3 q3=>⟨J.sK bv (u9.O f3.ext) t,?_⟩
 have an:J z aa:=f3.ext
 have aG:=u9.O an
 have QM:WL ds rs.length True (L.length+H.length) (y.map (iK 14)++F.map (iK 15)):=by
  refine(vK V ap).fy ?_;rw[nB V];refine vK V λo u=>?_;have:=hp.bF o (aL o u);omega
 have be:dc (y.map (iK 14)++F.map (iK 15))=0:=by rw[eZ,nB V,nB V]
 have b5:sw (y.map (iK 14)++F.map (iK 15))<=1006:=by rw[gH,uz,uz];omega
 have a2:GI c G aa j R:=(gm.ext O).ext an
 have bo:A.bq≠j.bq:=g3.PC a2 cH
 have az:∀{M k:E},J C M->J C k->∀b∈[p.size,e.size,m.size],∀o,aR k b o=aR M b o:=λr h' b Q o=>bB (by rw[h'.bC b (t b Q),r.bC b (t b Q)]) o
 have E4:∀{M k:E},J C M->J C k->∀{ar:Prop},ar->aR k e.size 0=aR M e.size 0/\aR k e.size 1=aR M e.size 1/\aR k m.size 0=aR M m.size 0/\aR k m.size 1=aR M m.size 1/\ar:=λr h' _ hp=>⟨az r h' _ bO _,az r h' _ bO _,az r h' _ bO _,az r h' _ bO _,hp⟩
 have F4:∀{M:E},Fz [j.bq] z M->J G M:=λr=>Fz.ext ((((x7.O O).fz [j.bq]).O r).HW λb Q=>bG (by simp at Q;omega))
 have bX:j.bq<z.size:=aK.cD.2
 have z3:=x3.aP
 have tail:∀(M:E)(l:Nat)(ss:N)(q:Bk),GS (l::j.bq::p.size::c) z M A (y.map (iK 14)++F.map (iK 15))->Fz [j.bq] z M->z.size<=l->l<M.size->l≠A.bq->iA (dg (l::A.bq::j.bq::p.size::c) M) ss q.bz->WB ds rs.length True (L.length+H.length) q/\q.w+1050<=1100*b.w->
  let P:E:=aV M l 0 [.s ss,.i q.bL]
  lS P jD [.i 0,.i 0,.i 0,.s .nil,.s .nil] 72 A ss λav M2=>gL [l,p.size,e.size,m.size] P M2/\aR M2 l 1=aR P l 1/\
   let M3:E:=aV M2 p.size 0 [.s av,.i q.bL]
   ∃s ac,Value.agg #[av.v,vi q.bL]=.agg #[s.v,vi ac.bL]/\iA (dg c M3) s ac.bz/\(WB ds rs.length True (L.length+H.length) ac/\ac.w<=1100*b.w)/\J m M3:=by
  intro M l ss q w ak bk bC a7 aq a9 P
  have b6:P.size=M.size:=bD _ _ _ _
  have Z:=w.cD
  have br:iA (dg (A.bq::j.bq::p.size::c) P) ss q.bz:=aq.le (dQ bO λa h=>aW _ h)
  have bH:=Bk.pD q
  have bT:=jH q.bz
  have hF:=F4 ak
  have zF:=hF.aP
  have g1:GS (j.bq::p.size::c) z P A _:=w.re j9.aO (Y:=[l]) ((Fz.cZ [l] M).aV (bu bO) _ _) bO (by simpa using ur a7) λa h=>bu (aW _ h)
  have f1:Fz [j.bq] z P:=ak.aV (bG bk) _ _
  refine GS.lQ g1 f1 br fj λD M2 g2 f al W=>⟨λa h=>?_,bB (W l V a7) _,?_⟩
  .simp at h
   refine W a ?_ ?_<;>rcases h with rfl|rfl|rfl|rfl<;>omega
  intro M3
  have bx:J m M2:=Fz.ext (((v9.fz [j.bq]).O f).HW λb Q=>bG (by simp at Q;omega))
  have b2:=g2.cD
  have h5:=g2.rO j9.aO (λh=>by
   rcases aY.1 h with i|i
   .omega
   .rcases aY.1 i with i|i
    .omega
    .have:=hS _ i;omega) cH fj
  refine⟨D,.mk _ q.bL,rfl,iA.le (dQ bO λa h=>aW _ (aW _ h)) h5,⟨WB.of (QM.fy ?_) ?_,?_⟩,bx.aV V _ _⟩
  .rw[be];exact a9.1.cC.1
  .rw[eZ,be,fB];exact a9.1.cC.2
  .rw[Bk.vB,gH];omega
 have bF:∀(M:E)(g:ad)(K:N->E->Prop),J aa M->GS g z M A (y.map (iK 14)++F.map (iK 15))->j.bq∈g->(∀D k,GI c G k D (R++y)->GS g z k A (y.map (iK 14)++F.map (iK 15))->Fz [j.bq] z k->M.size<=k.size->(∀b,b<M.size->b≠j.bq->k[b]? =M[b]?)->K D k)->lS M bE [.i 0] 8 j su K:=by
  intro M g K hx w bn hK;have bs:bd (dg (j.bq::c) M) su y:=by
   refine bd.le ((an.O hx).eU) (Gr.rO (S:=j.bq::c) ye.aO gu.jQ (λh=>?_) cH V);rcases aY.1 h with i|i
   .omega
   .have:=hS _ i;have:=B.aP;omega
  exact GI.lQ (a2.ext hx) ((((x7.O O).O an).O hx).fz []) bs V λD k g' f al W=>hK D k g' (w.Pq j9.aO (Y:=[j.bq]) ⟨al.1,λb Q hn=>W b Q (sp hn)⟩ (sp bn) (sp bo)) (((an.O hx).fz [j.bq]).O ⟨al.1,λb Q hn=>W b Q (sp hn)⟩) al.1 W
 have bq:∀(M:E)(g:ad)(mn ag:N)(v:ab),(∀a∈g,a<M.size)->Fz [j.bq] z M->bd M mn (R++y)->bd M ag v->tC la v->rl 263 [.agg #[ao.v,D.v],aC.v,.agg #[aw.v,vi b.bL],mn.v,ag.v] M g λq=>WB ds rs.length True (L.length+H.length) q/\q.w+1050<=1100*b.w:=by
  intro M g mn ag v bi ak h1 h2 h3;have hF:=F4 ak;have hm:=(B.O I).O hF;have bm:bd M aC (L++H):=(((gi.cz bO fj).le fG).ext x4).ext hF;have:=ih g M bi ao D aC aw mn ag (L++H) (R++y) v (hn.le hm.le) bm (hs.le hm.le) h1 h2 ⟨λo u=>?_,fj,oh h3.2,fj,sp hp.wb⟩
  .simpa using this
  .simp;rcases bR.1 u with u|u
   .have:=hp.bF o (aM o u);omega
   .have:=ap o u;omega
 have b3:=an.aP
 have bV:j.bq<aa.size:=V
 have bQ:A.bq<aa.size:=g3.cD.2
 have a3:∀{M:E},J C M->aa.size<=M.size->∀a∈A.bq::j.bq::p.size::c,a<M.size:=λr hz a h=>by
  rcases aY.1 h with i|i
  .omega
  .exact aB r V a i
 have j7:∀(M:E)(l:Nat)(mn ag:N)(v:ab),GS (l::j.bq::p.size::c) z M A (y.map (iK 14)++F.map (iK 15))->Fz [j.bq] z M->aa.size<=l->l<M.size->bd M mn (R++y)->bd M ag v->tC la v->
  bJ dN 263 [.agg #[ao.v,D.v],aC.v,.agg #[aw.v,vi b.bL],mn.v,ag.v] M λrv k=>gL [l,p.size,e.size,m.size] M k/\∃aU:N,∃aE:Int,rv=.agg #[aU.v,vi aE]/\
   let P:E:=aV k l 0 [.s aU,.i aE]
   lS P jD [.i 0,.i 0,.i 0,.s .nil,.s .nil] 72 A aU λav M2=>gL [l,p.size,e.size,m.size] P M2/\aR M2 l 1=aR P l 1/\
    let M3:E:=aV M2 p.size 0 [.s av,.i aE]
    ∃s ac,Value.agg #[av.v,vi aE]=.agg #[s.v,vi ac.bL]/\iA (dg c M3) s ac.bz/\(WB ds rs.length True (L.length+H.length) ac/\ac.w<=1100*b.w)/\J m M3:=by
  intro M l mn ag v w ak h1 h2 h3 h4 h5
  have hM:J C M:=I.O (F4 ak)
  refine(bq M (l::A.bq::j.bq::p.size::c) mn ag v (λa h=>?_) ak h3 h4 h5).bK (J.cZ M) (λa h=>?_) λss q k aq hq hx _=>⟨_,_,rfl,tail k l ss q (w.ext j9.aO hx) (ak.bZ hx) V (hx.lt h2) V aq hq⟩
  .rcases aY.1 h with i|i
   .omega
   .exact a3 hM V a i
  .rcases aY.1 h with i|i
   .omega
   .exact hM.lt (t a i)
 have aD:∀(M:E)(o:Obj),GS (j.bq::p.size::c) z M A (y.map (iK 14)++F.map (iK 15))->GS (M.size::j.bq::p.size::c) z (M.push o) A (y.map (iK 14)++F.map (iK 15)):=λM o w=>
  w.re j9.aO (Y:=[]) ((J.push M o).fz []) bO bO λa h=>by
   rcases aY.1 h with i|i
   .exact bG V
   .exact bu i
 have aJ:∀(M:E)(aI:ad)(K:ai),J C M->(∀a∈aI,a<M.size)->(∀s v k,bd k s v->tC la v->J M k->K s.v k)->bJ dN 344 [aO.v,vi (aH.len:Int)] M λL m'=>gL aI M m'/\K L m':=λM aI K hM hL hK=>
  (Ta (S:=[]) bO (a4.le ((B.O hM).le.O Ej)) V).bK (J.cZ M) hL λs v k w ar X _=>hK s v k ((w.cz bO (oh ar.2)).le fG) ar X
 have aA:∀{M:E}{s:N},GI c G M s (R++y)->bd M s (R++y):=λw=>(w.cz (λa h=>cp (hS a h) (B.O I).aP) fj).le fG
 have aN:∀{M:E}{l:Nat},J C M->l<M.size->∀a∈[l,p.size,e.size,m.size],a<M.size:=λr Q a h=>by
  rcases aY.1 h with i|i
  .omega
  .exact r.lt (t a i)
 refine⟨bF aa _ _ di g3 bO λau aQ ga gs U al W=>⟨λa h=>W a (aG.lt (t a h)) (oh (t a h)),E4 aG (I.O (F4 U)) ⟨?_,?_⟩⟩,?_⟩
 .have ah:=I.O (F4 U)
  refine aJ aQ _ _ ah (λa h=>ah.lt (t a h)) λam v ay a1 bc T=>⟨_,rfl,E4 ah (ah.O T) ⟨?_,?_⟩⟩
  .have ax:=ah.O T
   have bA:=T.aP
   refine(bq ay (A.bq::j.bq::p.size::c) au am v (a3 ax V) (U.bZ T) ((aA ga).ext T) a1 bc).bK ax t λss q aS aq hq a0 bf=>⟨_,_,rfl,?_⟩
   intro ba
   have b7:=a0.aP
   have bh:=(U.bZ T).bZ a0
   exact E4 bf (bf.cw _) (tail ba aS.size ss q (aD aS _ ((gs.ext j9.aO T).ext j9.aO a0)) (bh.push _) V (by simp[ba]) V (aq.le (xk (J.push aS _) bW)) hq)
  .intro aS
   have bA:=T.aP
   have ax:=ah.O T
   exact E4 ax (ax.cw _) (j7 aS ay.size au am v (aD ay _ (gs.ext j9.aO T)) ((U.bZ T).push _) V (by simp[aS]) (((aA ga).ext T).ext (J.push _ _)) (a1.ext (J.push _ _)) bc)
 .intro T
  have ah:=I.O (F4 U)
  have ax:J C T:=ah.cw _
  have aS:=px T
  refine E4 ah ax (aJ T _ _ ax (aN ax (by simp[T])) λam v a1 a0 ba ay=>⟨_,rfl,E4 ax (ax.O ay) ?_⟩)
  exact j7 a1 aQ.size au am v ((aD aQ _ gs).ext j9.aO ay) ((U.bZ aS).bZ ay) V (ay.lt (by simp[T])) (((aA ga).ext aS).ext ay) a0 ba
 .intro T
  have ay:J C T:=aG.cw _
  have bc:=px T
  refine E4 aG ay (bF T _ _ bc (aD aa _ g3) bO λau a0 ga gs U al W=>⟨λa h=>W a (aN ay (by simp[T]) a h) ?_,E4 ay (I.O (F4 U)) ?_⟩)
  .rcases aY.1 h with i|i
   .omega
   .have:=t a i;omega
  have ax:=I.O (F4 U)
  have bf:=pz T
  refine aJ a0 _ _ ax (aN ax V) λam v a1 aS ba ah=>⟨_,rfl,E4 ax (ax.O ah) ?_⟩
  exact j7 a1 aa.size au am v (gs.ext j9.aO ah) (U.bZ ah) bW (ah.lt V) ((aA ga).ext ah) aS ba
end
section
variable{c m:E}{k i h a:Nat}{s:N}{e:ad}{f:ab}{d:eK}{g:List jS}
def abt{a b:E}(h:J a c)(f:Fz [k] c b)(d:a.size<=k):J a b:=by constructor<;>grind [Fz.ext,J.fz,Fz.O,Fz.HW]
def _root_.Go.Vc.Fz.VT{M b:E}(f:Fz [k] c M)(d:s.bq=k\/c.size<=s.bq)(e:M.size<=b.size)(q:∀a,a<M.size->a≠s.bq->b[a]? =M[a]?):Fz [k] c b:=
 by constructor<;>grind [Fz.vX,N.bq]
def GI.aeY{X:ad}{b:E}{d:N}{g:ab}{K:N->E->Prop}(h:GI e b m s f)(l:Fz X b m)(o:bd m d g)(q:f.length+g.length<=10^12)
 (n:∀r a,GI e b a r (f++g)->Fz X b a->(m.size<=a.size/\(r.bq=s.bq\/m.size<=r.bq))->(∀c,c<m.size->c≠s.bq->a[c]? =m[c]?)->K r a):lS m bE [.i 0] 8 s d K:=by
 let⟨p,i,j,k⟩:=o.abB (b:=1) λ_ _ h=>by rw[h];rfl
 exact Gr.zw (g:=[.i 0]) ye.aO cH h l i j k V n
def dA(e:ad){b:N}(d:bd m b f)(i:f.length<=10^12):od 55 [b.v] m e (f=·):=by
 apply ru;intro h;have a:=px h;exact GI.aeY (f:=[]) (X:=[]) (GI.gD e m) (a.fz []) (d.ext a) cG λr j g c _ _=>⟨r,f,rfl,sp g,rfl,c.ext⟩
abbrev GB(e:ad)(a m:E)(s:N)(f:aF):Prop:=Gr e a m fm 2 vD s f
def GB.bI{e:ad}(m:E):GB e m (m.push (.cells (de []) fm)) (.mk m.size 0 0 0) []:=by grind [Gr.bI]
def GB.nA{e X:ad}{g m:E}{s a:N}{f:aF}{c:Bk}{K:N->E->Prop}(h:GB e g m s f)(k:Fz X g m)(j:iA (dg (s.bq::e) m) a c.bz)(l:f.length<=10^12)
 (i:∀r b,GB e g b r (f++[c])->Fz X g b->m.size<=b.size/\(r.bq=s.bq\/m.size<=r.bq)->(∀d,d<m.size->d≠s.bq->b[d]? =m[d]?)->K r b):
 lS (m.push (.cells (de [.s a,.i c.bL]) fm)) fm [.s .nil,.i 0] 32 s (.mk m.size 0 1 1) K:=
 Gr.nA (g:=[.s .nil,.i 0]) vD.aO cH h k (by cases c;exact vD.of j) V i
theorem OS{a:af}{b cE:Int}{y:Int}(h:b=8)(c:(cT a cE)[i]? =some y):FR a b cE i=(cW a y).length:=by grind [FR]
def OT{b:af}{a cE:Int}(h:a≠8):FR b a cE i=0:=by grind [FR]
def _root_.Go.Vc.WS.Uj{e:af}{i f:Prop}(b:WS e h i a d)(l:i->f){cY:Int}(m:0<=cY/\cY<=(a:Int)){dm:aF}(j:dm.length=d.dm.length)(n:∀(k:Nat)(c:Bk),dm[k]? =some c->WB e h f (a+FR e d.op d.cE k) c):WS e h f a ⟨d.op,d.cE,cY,d.aN,dm⟩:=
 ⟨⟨b.iL.op.imp id λb=>⟨l b.1,b.2⟩,b.iL.aN,b.iL.lW,m,λg=>j.trans (b.iL.MG g),λg=>j▸b.iL.lQ g,b.iL.jr⟩,n⟩
def Mb(hS:∀h∈e,h<m.size){U Q ad a k oT ac:N}{r:af}{B lo la:ab}(A:ir m U Q r g)(hv:bd m ad B)(ha:bd m a d.aN)(O:rI m k d.dm)(ho:bd m oT lo)(ar:bd m ac la)
 (au:∀o∈lo,0<=o/\o<(B.length:Int))(aG:lo.length+5*d.w<=500)(aF:la.length+1000*d.w<=1000000)(vN:B.length+5*d.w<=1000000)(aa:WS r g.length False B.length d)(ih:∀c∈d.dm,acp r g c):
 OF 300 [.agg #[U.v,Q.v],ad.v,tr d a k,oT.v,ac.v] m e λC=>WS r g.length True B.length C/\C.op=d.op/\C.w<=1+d.aN.length+1100*bw d.dm:=by
 apply EL
 simp -zeta only[dU]
 intro m0 o v ag
 let⟨p,u,s0,s1,s2⟩:=uy (a:=m0) (c:=o) (d:=v) rfl rfl rfl
 have ak:=px ag
 have gk:=GB.bI (e:=o.size::e) v
 clear_value v
 have az:=ha.aS;have aq:=O.aS;have hw:=eK.pD d
 refine(ku (e:=[v.size]) (by simp[ag]) (A.le (p.O ak).le).bQ A.dh d.cE).bK ak u λh cl m4 t P x4 u4=>⟨_,rfl,?_⟩
 subst P
 have aC:=t.aS
 refine gP (n:=d.dm.length) (aq▸O.kA) (λj s M=>Fz [v.size] m4 M/\(s.bq=v.size\/m4.size<=s.bq)/\∃f,GB (o.size::e) v M s f/\f.length=j/\(∀(i:Nat)(c:Bk),f[i]? =some c->WB r g.length True (B.length+FR r d.op d.cE i) c)/\bw f<=1100*bw (d.dm.take j)) ⟨nK,bu rfl,[],gk.ext vD.aO x4,rfl,bO,bO⟩ ?_
 rintro j s m5 am μ hj ⟨Y,av,f,Z,aE,ax,ao⟩ ay
 have l:=abt u4 Y bW
 have hy:=Z.cD
 refine dit (λx=>?_) λx=>?_
 .intro m6
  have q:=px m6
  let⟨c,z⟩:=dY d.dm j
  have aA:=AZ z
  have aB:=yL z
  have an:∀{M:E},J m5 M->∀h∈s.bq::o.size::e,h<M.size:=λx=>dC (dC hS p.aP (u _ bO)) (l.O x).aP (oh x.aP)
  have j7:∀(M:E)(D:N)(L:ab)(w:N),J m5 M->bd M D L->L.length=FR r d.op d.cE j->iA M w c.bz->
   bJ dN 329 [.agg #[U.v,Q.v],ad.v,D.v,.agg #[w.v,vi c.bL],oT.v,ac.v] M λrv I=>gL [o.size,m0.size,m.size] M I/\∃ai:N,∃aj:Int,rv=.agg #[ai.v,vi aj]/\
    let M1:E:=I.push (.cells (de [.s ai,.i aj]) fm)
    lS M1 fm [.s N.nil,.i (0:Int)] 32 s (N.mk I.size 0 1 1) λah K=>gL [o.size,m0.size,m.size] M1 K/\am ah (eR ((j:Int)+(1:Int))) K/\μ ah (eR ((j:Int)+(1:Int))) K<μ s j m5:=by
   intro M D L w F hf ap H
   have T:=p.O (l.O F)
   have b3:=Vw A.dh d.op d.cE j
   refine(NJ (c:=s.bq::o.size::e) (an F) (A.le T.le) (hv.ext T) hf H (ho.ext T) (ar.ext T) ⟨au,V,V,V,V,ap▸aa.dm j c z⟩ (ih c (aZ z))).bK (l.O F) u λss b' I aw P C u'=>⟨_,_,rfl,?_⟩
   refine GB.nA (c:=b') (Z.ext vD.aO (F.O C)) (u'.fz []) aw (oh (xe d.dm)) λQ K g2 f2 z2 q2=>⟨J.sK (u'.cw _) f2.ext u,ay V _ _ ⟨(Y.bZ (F.O C)).VT av z2.1 q2,?_,_,g2,fj,λi b2 G=>?_,?_⟩⟩
   .grind
   .rcases eJ i f.length with y|y
    .grind
    .rw[dL y]at G
     have:i -f.length=0:=by have:=bA G;simp at this;omega
     rw[this]at G;simp at G;subst G
     have:i=j:=V
     grind
   .grind [sX,yK,DM]
  refine⟨λy=>?_,λy=>?_⟩
  .simp only[bP]at y
   have aD:=(aa.iL.lQ y).1
   let⟨al,ae⟩:=dY (cT r d.cE) j
   refine⟨V,V,al,(gV.1 ((t.le ((Y.bZ q).eU bO)).D ae)).2,?_⟩
   have R:=l.O q
   refine(fS (e:=[]) ((A.le (p.O R).le).bQ.le Ej) A.dh al).bK R u λD L m7 hf P x7 u7=>⟨_,rfl,?_⟩
   subst P
   let⟨w,H,W,X⟩:=(O.le (p.O u7).le).D z
   exact⟨V,V,_,W,_,X,j7 m7 D _ w (q.O x7) (hf.le fG) (OS y ae).symm H⟩
  .simp only[a8]at y
   let⟨w,H,W,X⟩:=(O.le (p.O (l.O q)).le).D z
   exact⟨V,V,_,W,_,X,j7 m6 _ [] w q pN (OT y).symm H⟩
 .have D:f.length=d.dm.length:=V
  rw[eW V]at ao
  refine(dA (o.size::e) (ha.ext (p.O l)) V).bK l u λF G m6 z y q R=>⟨_,rfl,bB (q.bC _ (l.lt (u _ bO))) _,bB (q.bC _ (l.lt (u _ bO))) _,?_⟩
  subst y
  intro m7
  have w:∀h∈o.size::e,h<v.size:=dC hS p.aP V
  refine⟨F,s,⟨d.op,d.cE,0,d.aN,f⟩,rfl,(z.cz (λh t=>cp (w h t) l.aP) V).le (dQ bO λh t=>aW _ t),rI.le (dQ bO λh t=>aW _ t) ((Z.ext vD.aO q).cz vD.aO w cH cG),⟨aa.Uj (λx=>x.elim) ⟨V,V⟩ D ax,rfl,?_⟩,(p.O R).aV V _ _⟩
  grind [eK.pD]
def _root_.Go.Vc.W8{σ τ ρ:Type}{n:Nat}(p:n<=9223372036854775807){h:σ}{j:τ}{g:ρ}{f:(σ->τ->ρ->Int->E->Prop)->(σ->τ->ρ->Int->E->Nat)->σ->τ->ρ->Int->E->Prop}(Q:Nat->σ->τ->ρ->E->Prop)(l:Q 0 h j g m)
 (o:∀(k:Nat)(s:σ)(t:τ)(r:ρ)(a:E)(I:σ->τ->ρ->Int->E->Prop)(μ:σ->τ->ρ->Int->E->Nat),k<=n->Q k s t r a->
  (k<n->∀d e c b,Q (k+1) d e c b->I d e c (eR ((k:Int)+1)) b/\μ d e c (eR ((k:Int)+1)) b<μ s t r k a)->f I μ s t r k a):
 ∃(I:σ->τ->ρ->Int->E->Prop)(μ:σ->τ->ρ->Int->E->Nat),I h j g 0 m/\∀s t r i a,I s t r i a->f I μ s t r i a:=by
 refine⟨λs t r i b=>∃k:Nat,i=k/\k<=n/\Q k s t r b,λ_ _ _ i _=>(n -i).toNat,⟨0,rfl,jb _,l⟩,?_⟩
 grind [nQ,PB]
@[grind cases] structure CB (ds:af) (nr:Nat) (S:ad) (m2 M:E) (v lo:ab) (bz:au) (k:Nat) (st inn mn:N):Prop where
 x:J m2 M
 hs:∃l,GS (inn.bq::mn.bq::S) m2 M st l/\WL ds nr True v.length l/\dc l=dc (bz.take k)/\sw l<=1100*sw (bz.take k)
 hi:∃l,GI S m2 M inn l/\l.length=v.length+dc (bz.take k)
 hm:∃l,GI S m2 M mn l/\l.length<=lo.length+k/\∀o∈l,0<=o/\o<((v.length+dc (bz.take k):Nat):Int)
 ne:inn.bq≠mn.bq
theorem dn1{c:af}(b:WS c h False a d):dn d=1:=ba (b.iL.op.resolve_right λb=>b.1)
def Kv{U:af}:∀c:Bk,acp U g c:=by
 refine Bk.ind ?_;intro bz w ih e m hS b1 cR dJ cT oT cX aj lo la hn hv hs B bF hp;have ba:=hp.wb.cC;simp only[Bk.mL,Bk.lK]at*;have cG:=hp.lo5;have cF:=hp.laN;have vN:=hp.vN;rw[(Bk.vB bz w)]at cG cF vN;apply C9;simp -zeta only[dU];intro m0 p r be;let⟨D,L,s0,s1,s2⟩:=uy (a:=m0) (c:=p) (d:=r) rfl rfl rfl;obtain⟨bk,s3⟩:=pu be;have bC:∀am,GS am r be (.mk r.size 0 0 0) []:=λam=>GS.bI am r;clear_value be;clear_value r;have bK:=hs.aS;have cB:=FF bz;have dj:=jH bz;refine(dA e (hv.ext (D.O bk)) V).bK bk L λo _ m4 F q x4 u4=>⟨_,rfl,?_⟩;subst q;refine(dA e (B.ext (D.O u4)) V).bK u4 L λv _ m5 W q x5 u5=>⟨_,rfl,?_⟩;subst q;have bL:=F.cD;have bM:=W.cD;refine W8 (n:=bz.length) (bK▸hs.kA) (λk A o v j=>CB U g.length (p.size::e) r j aj lo bz k A o v) ⟨u5,⟨[],((bC _).ext j9.aO x4).ext j9.aO x5,WL.gD,rfl,bO⟩,⟨aj,((F.ext x5).da (λ_ h=>h) bk.aP).jQ,bO⟩,⟨lo,(W.da (λ_ h=>h) u4.aP).jQ,V,sp hp.bF⟩,V⟩ ?_;clear F W bL bM bC;rintro k A o v R bm μ hk ⟨x6,⟨Q,gs,aO,Z,dk⟩,⟨li,F,aL⟩,⟨lm,W,c3,bH⟩,db⟩ aU
 have v6:=D.O x6;have c7:=F.aS cH;have c5:=xg (bz.take k);have c_:=Rl k bz;have ae:∀l∈p.size::e,l<r.size:=dC hS D.aP (L _ bO);have cn:bd R o li:=(F.cz ae V).le fG;have cp:bd R v lm:=(W.cz ae V).le fG;have dz:=gs.cD;have bL:=F.cD;have bM:=W.cD;have cA:=jH (bz.take k);have c8:k<=sw (bz.take k):=by rw[qO]at cA;omega
 refine dit (λh=>?_) λh=>?_
 .let⟨d,t⟩:=dY bz k;let⟨a,kk,ha,bE,g0,g1,g2,g3,g4⟩:=hs.D t;refine⟨V,V,_,v6.aR g0,_,v6.aR g1,_,v6.aR g2,_,v6.aR g3,_,v6.aR g4,?_⟩;intro m7 G;obtain⟨x8,s8⟩:=pv G;clear_value G;have T:=x6.O x8;have u:∀{j:E},G.size<=j.size->∀c∈[R.size,p.size,m0.size,m.size],c<j.size:=λh c hb=>by
   rcases aY.1 hb with q|q
   .omega
   .have:=T.lt (L c q);omega
  have ds:=ub t;have dq:=uU t;have dr:=eK.pD d;have ah:WS U g.length False li.length d:=by rw[aL];exact ba.1 k d t
  have bD:=dn1 ah;have dm:=cB (k+1);have c4:=xe d.dm;have da:=jH Q;have ag:∀{j:E},J r j->At j b1 cR a kk U g d:=λh=>⟨hn.le (D.O h).le,ha.ext (D.O h),ah.iL.jr⟩;have aN:∀{j:E},GI (p.size::e) r j o li->bd j o li:=λy=>(y.cz ae V).le fG;have a9:∀{j:E},GI (p.size::e) r j v lm->bd j v lm:=λy=>(y.cz ae V).le fG;have an:∀{j:E}{am:ad},G.size<=j.size->(∀l∈am,l<j.size)->∀l∈am++p.size::e,l<j.size:=λh hb l b=>by
   rcases bR.1 b with h|h
   .exact hb l h
   .have:=ae l h;omega
  refine(sg (ag T).V0 (aN (F.ext x8)) (ag T).aN (bE.le (D.O T).le) V λc _=>qV c).bK (J.cZ G) (u bW) λty m9 x9 _=>⟨_,rfl,?_⟩;intro aQ;have bX:J G aQ:=x9.cw _;have e0:bd (dg [] aQ) (.mk m9.size 0 0 0) []:=pN;clear_value aQ;rw[nQ (k:=k) (n:=bz.length) V (bK▸hs.kA)]at aU⊢
  refine(EA (.mk bz w) [] aQ bO cT _ _ _ (k+1) (hs.le (D.O (T.O bX)).le) e0 (by simp only[Bk.mL];omega) (by simp only[Bk.vB,kD];omega)).bK bX (u bW) λus ul cI hu cC dK bj=>⟨_,rfl,?_⟩;rw[Bk.vB,kD]at cC;refine(Tf (S:=[]) bO hu ((bF.ext (D.O (T.O bj))).le Ej) V).bK bj (u bW) λlt ll cJ a6 bS dL aq=>⟨_,rfl,?_⟩;have aB:∀{j:E},GI [] cI j lt ll->bd j lt ll:=λy=>(y.cz bO (oh bS.2)).le fG;have bn:=T.O aq;have bs:=F.ext (x8.O aq);have bA:=W.ext (x8.O aq);have ci:=gs.ext j9.aO (x8.O aq);refine(Kx (b:=[]) bO (ag bn) (aN bs) ah.iL.aN (a9 bA) (aB a6) V).bK (J.cZ cJ) (u aq.aP) λdu dl cK cc bT ar _=>⟨_,rfl,?_⟩;have cY:=bT.2;have dO:=aq.aP;have dP:=ar.aP;have dM:=bj.aP;refine(iE (c:=[A.bq,o.bq,v.bq]++p.size::e) (an V fj) 14 ((cc.cz bO V).le fG) V).bK (J.cZ cK) (u V) λdH _ aR b8 q av _=>⟨_,rfl,?_⟩;subst q;have dR:=av.aP;refine GS.lQ (ci.ext j9.aO (ar.O av)) (((bn.O ar).O av).fz []) (b8.cz j9.aO (an (am:=[A.bq,o.bq,v.bq]) V fj) cH fj) fj λbi bN bq b2 cU a0=>⟨λl b=>a0 l (u V l b) ?_,?_⟩
  .simp at b;omega
  have aK:J r bN:=b2.ext;have co:o.bq<aR.size:=V;have cq:v.bq<aR.size:=V;have cr:A.bq≠o.bq:=gs.PC F cH;have cs:A.bq≠v.bq:=gs.PC W cH;have c9:=a6.cD;have bt:=(bs.ext (ar.O av)).lR (a0 _ co cr.symm);have bB:=(bA.ext (ar.O av)).lR (a0 _ cq cs.symm);have bx:=(a6.ext (ar.O av)).lR (a0 _ V V);have dd:bi.bq=A.bq\/aR.size<=bi.bq:=cU.2;have dv:=bq.cD;refine(Mb (e:=[bi.bq,o.bq,v.bq]++p.size::e) (an V fj) (ag aK).V0 (aN bt) (ag aK).aN (bE.le (D.O aK).le) (a9 bB) (aB bx) (by rw[aL];exact bH) V (oh bS.2) V ah (ih d (aZ t))).bK (J.cZ bN) (u V) λc1 c2 x' bP cj ck cQ aw _=>⟨_,_,_,_,_,rfl,?_⟩;let⟨cD,cy,dp⟩:=cQ;have dS:=aw.aP;refine GS.nA (x:=x') (bq.ext j9.aO aw) ((aK.O aw).fz []) cj ck fj λaD bb br b3 cV a1=>⟨λl b=>?_,?_⟩
  .have:=u (j:=bP) V l b;rw[a1 l this (by simp at b;omega),(J.push bP _).bC l this]
  have a3:J r bb:=b3.ext;have bv:=(bt.ext aw).lR (a1 _ V V);have ch:=(bB.ext aw).lR (a1 _ V V);have a5:=(bx.ext aw).lR (a1 _ V V);have df:aD.bq=A.bq\/aR.size<=aD.bq:=by have:=cV.2;omega
  refine(Me (b:=[]) bO (ag a3) (aN bv) ah.iL.aN (a9 ch) (aB a5) V).bK (J.cZ bb) (u V) λap lf cL gf bg ax _=>⟨_,rfl,?_⟩;have bo:=a3.O ax;have dT:=ax.aP;have cm:∀{j:E},GI [] bb j ap lf->bd j ap lf:=λy=>(y.cz bO (oh bg.2)).le fG;refine(Mf (b:=[]) bO (ag bo) (cm gf) (aB (a5.ext ax)) V).bK (J.cZ cL) (u V) λcS P cM gd bU aJ _=>⟨_,rfl,?_⟩;have c0:=bU.2;have cZ:=bg.2;have dy:=gf.cD;have dx:=gd.cD;have dw:=br.cD;refine(iE (c:=[aD.bq,ap.bq,o.bq]++p.size::e) (an V fj) 15 ((gd.cz bO V).le fG) V).bK (J.cZ cM) (u V) λdI _ cN b_ q ak _=>⟨_,rfl,?_⟩;subst q;have bZ:=(bo.O aJ).O ak;have dV:=ak.aP;have b9:GS ([ap.bq,o.bq]++p.size::e) r cN aD _:=br.re j9.aO (Y:=[]) (((ax.O aJ).O ak).fz []) bO bO λl b=>by
   simp only[eT,gY,aY]at b⊢;rcases b with h|h|h
   .exact bG V
   .exact bu (bu h)
   .exact bu (bG (bG h))
  refine GS.lQ b9 (bZ.fz []) (b_.cz j9.aO (an (am:=[aD.bq,ap.bq,o.bq]) V fj) cH fj) fj λH aS ca b4 dW aC=>⟨λl b=>aC l (u V l b) ?_,?_⟩
  .simp at b;omega
  have b0:J r aS:=b4.ext;have cf:=((bv.ext ax).ext (aJ.O ak)).lR (aC _ V V);have ce:=(gf.ext (aJ.O ak)).lR (aC _ V V);have cb:=(gd.ext ak).lR (aC _ V V);have cg:=((a5.ext ax).ext (aJ.O ak)).lR (aC _ V V);have a8:bd aS cS P:=(cb.cz bO V).le fG;have cl:=a8.aS;have cd:GI (p.size::e) r aS ap lf:=(ce.da (λ_ h=>h) a3.aP).jQ;refine gP (n:=P.length) (cl▸a8.kA) (λ_ s j=>J aS j/\∃f,GI (p.size::e) r j s f/\GS ([s.bq,o.bq]++p.size::e) r j H (Q++dl.map (iK 14)++[x']++P.map (iK 15))/\tC lf f/\o.bq≠s.bq/\G.size<=s.bq) ⟨di,lf,cd,ca,⟨λ_ h=>h,bW⟩,V,V⟩ ?_;rintro i s bc I2 μ2 hi ⟨ay,f,gl,a7,O,ct,dh⟩ cO;have bp:=b0.O ay;have dX:=ay.aP;have cE:=gl.cD;refine dit (λh2=>?_) λh2=>?_
  .let⟨I,K⟩:=dY P i;refine⟨V,V,I,(a8.ext ay).D K,?_⟩;refine(FD (S:=[]) bO (((gl.cz ae (oh O.2)).le fG).le Ej) I (oh O.2)).bK (J.cZ bc) (u V) λac X ab g2 z C _=>⟨_,rfl,cO V _ _ ⟨ay.O C,X,(g2.da (λ_ h=>h) bp.aP).jQ,?_,⟨λaz hz=>O.1 az (z.1 az hz),fA z.2 O.2⟩,?_,?_⟩⟩
   .have aa:=g2.cD;refine a7.re j9.aO (Y:=[]) (C.fz []) bO bO λl b=>?_;simp only[eT,gY,aY]at b⊢;rcases b with h|h|h
    .exact bG V
    .exact bu (bG (bu h))
    .exact bu (bG (bG h))
   .have:=g2.cD;omega
   .have:=g2.cD;omega
  intro dD;have bw:=cf.ext ay;refine GI.nA bw (bp.fz []) V λaa ao ab b5 bY a2=>⟨λl b=>?_,?_⟩
  .have:=u (j:=bc) V l b;rw[a2 l this (by simp at b;omega),(J.push bc _).bC l this]
  have a4:J r ao:=b5.ext;have cW:=bY.1;have cw:H.bq≠o.bq:=a7.PC bw cH;have aA:=gl.lR (a2 _ cE.2 ct.symm);have bI:=bY.2;have ac:GS ([s.bq,aa.bq]++p.size::e) r ao H _:=a7.re j9.aO (Y:=[o.bq]) ⟨cW,λl b hn=>a2 l b (sp hn)⟩ bO (sp cw) λl b=>by
   simp only[eT,gY,aY]at b⊢;rcases b with h|h|h
   .exact bu (bu h)
   .rcases bI with q|q
    .exact bu (bG (bu (h.trans q)))
    .exact bG V
   .exact bu (bG (bG h))
  have bf:aa.bq≠s.bq:=by rcases bI with q|q<;>omega
  have I:WL U g.length True aj.length (Q++dl.map (iK 14)++[x']++P.map (iK 15))/\dc (Q++dl.map (iK 14)++[x']++P.map (iK 15))=dc (bz.take (k+1))/\sw (Q++dl.map (iK 14)++[x']++P.map (iK 15))+2<=1100*sw (bz.take (k+1)):=by
   have c6:dn x'=1:=by unfold dn at bD⊢;rw[cy];exact bD
   have d1:dc (dl.map (iK 14))=0:=nB V _;have d2:dc (P.map (iK 15))=0:=nB V _;refine⟨((aO.fy (vK V λz B=>?_)).By ?_).fy (vK V λz B=>?_),?_,?_⟩
   .rw[Z,<-aL];exact ah.iL.aN z (bT.1 z B)
   .rw[eZ,d1,Z,uq,<-aL];exact cD
   .have:=ah.iL.aN z (bU.1 z B);rw[eZ,eZ,d1,Z,nH,xh];omega
   .rw[eZ,eZ,eZ,d1,d2,Z,nH,xh];omega
   .rw[gH,gH,gH,uz,uz,pW,zJ];omega
  have a_:∀z∈f,0<=z/\z<((aj.length+dc (bz.take (k+1)):Nat):Int):=λz B=>by
   have:=bH z (bg.1 z (O.1 z B));omega
  have bQ:∀(j:E),J ao j->bm H aa s ((k+1:Nat):Int) j/\μ H aa s ((k+1:Nat):Int) j<μ A o v k R:=λj t=>
   aU V _ _ _ _ ⟨a4.O t,⟨_,(ac.re j9.aO (Y:=[]) (t.fz []) bO bO λl b=>bu (by simp only[eT,gY,aY]at b⊢;rcases b with h|h|h;exact bG (bu h);exact bu h;exact bG (bG h))),I.1,I.2.1,V⟩,⟨_,ab.ext t,fj⟩,⟨f,aA.ext t,oh O.2,a_⟩,bf⟩
  have dB:=ac.cD;have cP:∀(j:E),J ao j->bJ dN 228 [vi (15:Int),vi (o.len:Int)] j λrv C=>gL [R.size,p.size,m0.size,m.size] j C/\∃aE:Int,∃aF:Int,∃aG:Int,∃aH:N,∃aI:N,rv=.agg #[vi aE,vi aF,vi aG,aH.v,aI.v]/\
   let M2:E:=C.push (.cells (de [.i aE,.i aF,.i aG,.s aH,.s aI]) jD)
   lS M2 jD [.i (0:Int),.i (0:Int),.i (0:Int),.s N.nil,.s N.nil] 72 H (N.mk C.size 0 1 1) λbV K=>gL [R.size,p.size,m0.size,m.size] M2 K/\bm bV aa s ((k+1:Nat):Int) K/\μ bV aa s ((k+1:Nat):Int) K<μ A o v k R:=by
   intro j t
   have zx:=t.aP
   have dt:=ab.cD
   refine(lA (c:=[H.bq,s.bq,aa.bq]++p.size::e) (an V fj) 15 (o.len:Int)).aO λrv C⟨pa,pk,q,X,h2,ai⟩=>?_
   subst q
   have d0:=ai.aP
   have aP:=t.O ai
   refine⟨ai.fq (u V),_,_,_,_,_,rfl,?_⟩
   have cu:H.bq≠aa.bq:=ac.PC ab cH
   have cv:H.bq≠s.bq:=ac.PC aA cH
   refine GS.nA (x:=iK 15 (o.len:Int)) (ac.ext j9.aO aP) ((a4.O aP).fz []) X h2 (Xm I.2.2 (jH (Q++dl.map (iK 14)++[x']++P.map (iK 15)))) λr' K y aM az aX=>⟨λl b=>?_,aU V _ _ _ _ ⟨aM.ext,⟨_,(y.re j9.aO (Y:=[]) (di.fz []) bO bO λl b=>bu (by simp only[eT,gY,aY]at b⊢;rcases b with h|h|h;exact bG (bu h);exact bu h;exact bG (bG h))),I.1.By (Ig V ?_),?_,?_⟩,⟨_,(ab.ext aP).lR (aX _ V cu.symm),fj⟩,⟨f,(aA.ext aP).lR (aX _ V cv.symm),oh O.2,a_⟩,bf⟩⟩
   .have:=u (j:=C) V l b
    rw[aX l this (by simp at b;omega),(J.push C _).bC l this]
   .rw[I.2.1];omega
   .rw[eZ,I.2.1];simp[nH,dn,iK,tw]
   .rw[gH,pW,zJ]
    have h5:(iK 15 (o.len:Int)).w=2:=by rw[eK.pD];rfl
    have:=I.2.2;omega
  refine⟨λ_=>?_,λh0=>⟨λX=>by rw[h0]at X;simp at X,λ_=>bQ ao di⟩⟩;refine(fF (aB (((cg.ext ay).lR (a2 _ V V)))) _).jQ.bK (J.cZ ao) (u V) λc aT al _=>⟨_,rfl,λ_=>?_,λ_=>⟨λ_=>cP aT al,λ_=>bQ aT al⟩⟩;intro dE;have cx:H.bq≠s.bq:=ac.PC aA cH;have dZ:=al.aP;refine GI.nA (aA.ext al) ((a4.O al).fz []) (oh O.2) λdG dF b7 b6 bl bh=>⟨λl b=>?_,aU V _ _ _ _ ⟨b6.ext,⟨_,(ac.ext j9.aO al).re j9.aO (Y:=[s.bq]) ⟨bl.1,λl b hn=>bh l b (sp hn)⟩ bO (sp cx) λl b=>?_,I.1,I.2.1,V⟩,⟨_,(ab.ext al).lR (bh _ ?_ bf),fj⟩,⟨_,b7,?_,?_⟩,?_⟩⟩
  .have:=u (j:=aT) V l b;rw[bh l this (by simp at b;omega),(J.push aT _).bC l this]
  .simp only[eT,gY,aY]at b⊢;rcases b with h|h|h
   .exact bu (bG (bu h))
   .rcases bl.2 with q|q
    .exact bu (bu (h.trans q))
    .exact bG V
   .exact bu (bG (bG h))
  .have:=ab.cD;omega
  .have:=O.2;simp;omega
  .intro z B;rcases bR.1 B with B|B
   .exact a_ z B
   .simp at B;omega
  .have:=ab.cD;rcases bl.2 with q|q<;>omega
 .have aa:k=bz.length:=V;subst aa;rw[fx]at*;have O:∀(j:E)(H:N)(u:au),J r j->GS (o.bq::v.bq::p.size::e) r j H u->WL U g.length True aj.length u->dc u=dc bz->sw u<=1100*sw bz+2->
   let z:E:=aV j p.size 0 [.s H,.i w]
   ∃s c,Value.agg #[H.v,vi w]=.agg #[s.v,vi c.bL]/\iA (dg e z) s c.bz/\(WB U g.length True aj.length c/\c.w+1050<=1100*(Bk.mk bz w).w)/\J m z:=by
   intro j H u t y X h2 h3 z
   have ab:=jH u
   have:=y.cD
   refine⟨H,.mk u w,rfl,iA.le (dQ bO λl b=>aW _ b) (y.re j9.aO (S':=p.size::e) (Y:=[]) nK bO bO (λl b=>bu (aW _ (aW _ b)))|>.cz j9.aO ae cH fj),⟨WB.of X (by rw[h2];exact ba.2),?_⟩,(D.O t).aV V _ _⟩
   rw[Bk.vB,Bk.vB];omega
  have lW:∀(j:E),J R j->bJ dN 228 [vi (14:Int),vi w] j λrv C=>gL [p.size,m0.size,m.size] j C/\∃aE:Int,∃aF:Int,∃aG:Int,∃aH:N,∃aI:N,rv=.agg #[vi aE,vi aF,vi aG,aH.v,aI.v]/\
   let M2:E:=C.push (.cells (de [.i aE,.i aF,.i aG,.s aH,.s aI]) jD)
   lS M2 jD [.i (0:Int),.i (0:Int),.i (0:Int),.s N.nil,.s N.nil] 72 A (N.mk C.size 0 1 1) λP K=>gL [p.size,m0.size,m.size] M2 K/\
    let z:E:=aV K p.size 0 [.s P,.i w]
    ∃s c,Value.agg #[P.v,vi w]=.agg #[s.v,vi c.bL]/\iA (dg e z) s c.bz/\(WB U g.length True aj.length c/\c.w+1050<=1100*(Bk.mk bz w).w)/\J m z:=by
   intro j t
   refine(lA (c:=A.bq::o.bq::v.bq::p.size::e) (λl b=>?_) 14 w).aO λrv C⟨a,kk,q,X,h2,x1⟩=>?_
   .have:=t.aP
    simp at b
    rcases b with h|h|h|h|h
    .omega
    .omega
    .omega
    .have:=x6.lt (L p.size bO);omega
    .have:=hS _ h;have:=v6.aP;omega
   subst q
   have ai:=x6.O (t.O x1)
   refine⟨J.sK (x6.O t) ai L,_,_,_,_,_,rfl,?_⟩
   refine GS.nA (x:=iK 14 w) (gs.ext j9.aO (t.O x1)) (ai.fz []) X h2 (oh (jH Q)) λr' K y aM az aX=>⟨J.sK (ai.cw _) aM.ext L,O K r' _ aM.ext y (aO.By (Ig V (by rw[Z];exact ba.2))) ?_ ?_⟩
   .rw[eZ,Z];simp[nH,dn,iK,tw]
   .rw[gH];simp[pW,eK.pD,iK];omega
  let⟨az,hz⟩:=dY li w.toNat;refine⟨V,V,az,cn.D hz,λ_=>?_,λ_=>O R A Q x6 gs aO Z V⟩;refine(fF (bF.ext v6) w).jQ.bK x6 L λc m7 I u7=>⟨_,rfl,λ_=>lW m7 I,λ_=>?_⟩;exact(fF (cp.ext I) w).jQ.bK u7 L λc G x8 T=>⟨_,rfl,λ_=>lW G (I.O x8),λ_=>O G A Q T ((gs.ext j9.aO I).ext j9.aO x8) aO Z V⟩
end
@[grind cases] structure aeS (ds:af) (nr:Nat) (v lm:ab) (b:Bk):Prop where
 bF:∀o∈lm,0<=o/\o<(v.length:Int)
 lN:lm.length+5*b.w<=1000000
 vN:v.length+5*b.w<=1000000
 wb:WB ds nr False v.length b
def ade(a:af)(d:List jS)(b:Bk):Prop:=∀(S:ad)(m:E),(∀c∈S,c<m.size)->∀(f r h t g:N)(v c:ab),ir m f r a d->bd m h v->iA m t b.bz->bd m g c->aeS a d.length v c b->
 rl 246 [.agg #[f.v,r.v],h.v,.agg #[t.v,vi b.bL],g.v] m S λe=>WB a d.length True v.length e/\e.w+20<=40*b.w+2*c.length
def NV{i:ad}{m:E}(hS:∀c∈i,c<m.size){ag al aq aI F:N}{B:af}{Z:List jS}{v:ab}{x:eK}(hn:ir m ag al B Z)(hv:bd m aq v)(ha:bd m aI x.aN)(hk:rI m F x.dm)
 (vN:v.length+5*x.w<=1000000)(aA:WS B Z.length False v.length x)(ih:∀l∈x.dm,ade B Z l):
 OF 267 [.agg #[ag.v,al.v],aq.v,tr x aI F] m i λx'=>WS B Z.length True v.length x'/\x'.op=x.op/\x'.w<=1+x.aN.length+40*bw x.dm:=by
 apply G9
 simp -zeta only[dU]
 intro z d k aP
 let⟨H,P,s0,s1,s2⟩:=uy (a:=z) (c:=d) (d:=k) rfl rfl rfl
 have aX:=px aP
 have gk:=GB.bI (e:=d.size::i) k
 clear_value k
 have bi:=ha.aS;have a6:=hk.aS;have hw:=eK.pD x;have a_:=hv.aS
 have aK:∀c∈d.size::i,c<k.size:=by grind [dC,J.aP]
 refine(ku (e:=[k.size]) (by simp[aP]) (hn.le (H.O aX).le).bQ hn.dh x.cE).bK aX P λc cl m4 e aS x4 u4=>⟨_,rfl,?_⟩
 subst aS
 have bp:=e.aS
 refine gP (n:=x.dm.length) (a6▸hk.kA) (λj s M=>Fz [k.size] m4 M/\(s.bq=k.size\/m4.size<=s.bq)/\∃q,GB (d.size::i) k M s q/\q.length=j/\(∀(aa:Nat)(l:Bk),q[aa]? =some l->WB B Z.length True (v.length+FR B x.op x.cE aa) l)/\bw q<=40*bw (x.dm.take j)) ⟨nK,bu rfl,[],gk.ext vD.aO x4,rfl,bO,bO⟩ ?_
 rintro j s X aH μ hj ⟨f5,a7,q,y,br,ba,aL⟩ be
 have R:=abt u4 f5 bW
 have hy:=y.cD
 refine dit (λC=>?_) λC=>?_
 .intro m6
  have U:=px m6
  have u6:=R.O U
  let⟨l,hb⟩:=dY x.dm j
  have bm:=AZ hb
  have bo:=yL hb
  have bj:=Vw hn.dh x.op x.cE j
  have bl:=xe x.dm
  refine⟨λaJ M=>J X M/\∃w,bd M aJ w/\w.length=FR B x.op x.cE j,⟨λh8=>?_,λh8=>?_⟩,?_⟩
  .simp only[bP]at h8
   have h:=(aA.iL.lQ h8).1
   let⟨a,f⟩:=dY (cT B x.cE) j
   refine⟨V,V,a,(gV.1 ((e.le ((f5.bZ U).eU bO)).D f)).2,?_⟩
   refine(fS (e:=[]) ((hn.le (H.O u6).le).bQ.le Ej) hn.dh a).bK u6 P λaJ w m7 hf aS g o=>⟨_,rfl,U.O g,w,hf.le fG,?_⟩
   grind [OS]
  .simp only[a8]at h8
   exact⟨U,[],pN,(OT h8).symm⟩
  rintro fs m8 ⟨I,w,hf,aN⟩
  have e8:(aq.len:Int)=((v.length:Nat):Int):=by rw[a_]
  rw[e8]
  refine(vS (S:=[]) bO (hf.le Ej) v.length V).bK (R.O I) P λmi ml A gm qm K T=>⟨_,rfl,?_⟩
  let⟨aF,hs,e0,e1⟩:=hk.D hb
  have v9:=H.O T
  refine⟨V,V,_,v9.aR e0,_,v9.aR e1,?_⟩
  have g9:=y.ext vD.aO (I.O K)
  have aO:∀{M:E},J A M->bd M mi ml:=λC=>((gm.cz bO (oh qm.2)).le fG).ext C
  have E5:∀{M f:E},J k M->J k f->∀{aQ:Prop},aQ->aR f F.bq (F.off+Int.toNat (j:Int)*2)=aR M F.bq (F.off+Int.toNat (j:Int)*2)/\aR f F.bq (F.off+Int.toNat (j:Int)*2+1)=aR M F.bq (F.off+Int.toNat (j:Int)*2+1)/\
   aR f z.size 4=aR M z.size 4/\aR f m.size 0=aR M m.size 0/\aR f m.size 1=aR M m.size 1/\aQ:=λ{M f} C h' _ hp=>by
   have av:∀l,l<k.size->∀Q,aR f l Q=aR M l Q:=by grind [bB,J.bC]
   exact⟨((H.O h').aR e0).trans ((H.O C).aR e0).symm,((H.O h').aR e1).trans ((H.O C).aR e1).symm,av _ V _,av _ V _,av _ V _,hp⟩
  have az:∀{M:E},J X M->∀c∈s.bq::d.size::i,c<M.size:=λC c e=>by
   grind [J.aP]
  have O:∀{M:E}{a:Nat},J X M->a<M.size->∀c∈[a,d.size,z.size,m.size],c<M.size:=λC hb c e=>by
   grind [J.O,J.lt]
  have tail:∀(M:E)(a:Nat)(G:N)(g:Bk),GB (a::d.size::i) k M s q->J X M->J A M->A.size<=a->a<M.size->iA (dg (a::s.bq::d.size::i) M) G g.bz->WB B Z.length True (v.length+w.length) g/\g.w+20<=40*l.w+2*ml.length->
   let h:E:=aV M a 0 [.s G,.i g.bL]
   bJ dN 264 [vi (14:Int),mi.v] h λrv o=>gL [a,d.size,z.size,m.size] h o/\∃ac:N,rv=ac.v/\aR o a 1=aR h a 1/\aR o a 0=aR h a 0/\
    lS o jD [.i (0:Int),.i (0:Int),.i (0:Int),.s N.nil,.s N.nil] 72 ac G λap u=>gL [a,d.size,z.size,m.size] o u/\aR u a 1=aR o a 1/\
     let M4:E:=u.push (.cells (de [.s ap,.i g.bL]) fm)
     lS M4 fm [.s N.nil,.i (0:Int)] 32 s (N.mk u.size 0 1 1) λae L=>gL [a,d.size,z.size,m.size] M4 L/\aH ae (eR ((j:Int)+(1:Int))) L/\μ ae (eR ((j:Int)+(1:Int))) L<μ s j X:=by
   intro M a G g y D bc a5 bk aj hq h
   have z1:h.size=M.size:=bD _ _ _ _
   have z9:=(I.O K).aP
   have aY:J A h:=bc.aV a5 _ _
   have W:J X h:=(I.O K).O aY
   have bs:s.bq≠a:=V
   have g1:GB (d.size::i) k h s q:=y.re vD.aO (Y:=[a]) ((Fz.cZ [a] M).aV (bu bO) _ _) bO cG λc e=>bu (aW _ e)
   have a9:iA (dg (s.bq::d.size::i) h) G g.bz:=aj.le (dQ bO λc e=>aW _ e)
   have bn:=Bk.pD g;have aL:=jH g.bz
   refine(iE (c:=s.bq::d.size::i) (az W) 14 (aO aY) V).bK (J.cZ h) (O W V) λac _ o ay ah am _=>⟨_,rfl,bB (am.bC _ V) _,bB (am.bC _ V) _,?_⟩
   subst ah
   have z2:=am.aP
   refine GS.lQ ay (am.fz []) (a9.le (xk am ay.cD.1)) cG λap u a1 a0 bx aT=>?_
   have an:J h u:=a0.ext
   have z3:=an.aP
   have bt:=ay.cD
   refine⟨λc e=>aT c (oh (O W (a:=a) V c e)) (oh (O W (a:=a) V c e)),bB (aT _ V V) _,?_⟩
   intro M4
   have a3:=a1.cz j9.aO (az W) cH cG
   refine GB.nA (c:=.mk (ml.map (iK 14)++g.bz) g.bL) (g1.ext vD.aO an) ((((R.O W).O an)).fz []) a3 V λae L a2 bh bg bf=>⟨λc e=>?_,be V _ _ ⟨(f5.bZ (W.O an)).VT a7 bg.1 bf,?_,_,a2,fj,λaa b2 r=>?_,?_⟩⟩
   .have:=O (W.O an) (a:=a) V c e
    grind [J.push,J.bC]
   .grind [Fz.bZ,J.O,Fz.aP]
   .rcases eJ aa q.length with p|p
    .grind [List.getElem?_append_left]
    .rw[dL p]at r
     have:aa -q.length=0:=by have:=bA r;simp at this;omega
     rw[this]at r;simp at r;subst r
     have:aa=j:=V
     subst this
     rw[<-aN]
     refine WB.of ((vK V λQ ho=>?_).fy ?_) ?_
     .grind
     .rw[nB V];exact hq.1.cC.1
     .rw[eZ,nB V,fB];exact hq.1.cC.2
   .grind [sX,yK,DM,Bk.vB,gH,uz]
  have aM:∀(M:E)(ax:ad)(aw:ai),J A M->(∀c∈ax,c<M.size)->(∀s f,bd f s (v++w)->J M f->aw s.v f)->bJ dN 215 [aq.v,fs.v] M λv m'=>gL ax M m'/\aw v m':=λM ax aw D O hK=>
   (iy (S:=[]) bO ((hv.ext (v9.O D)).le Ej) ((hf.ext (K.O D)).le Ej) V).bK (J.cZ M) O λs ll f y ah x _=>hK s f (by subst ah;exact(y.cz bO cG).le fG) x
  have bq:∀(M:E)(S':ad)(p:N),(∀c∈S',c<M.size)->J A M->bd M p (v++w)->rl 246 [.agg #[ag.v,al.v],p.v,.agg #[aF.v,vi l.bL],mi.v] M S' λg=>WB B Z.length True (v.length+w.length) g/\g.w+20<=40*l.w+2*ml.length:=by
   intro M S' p a4 D r;have hm:=v9.O D;have:=ih l (aZ hb) S' M a4 ag al p aF mi (v++w) ml (hn.le hm.le) r (hs.le hm.le) (aO D) ⟨λQ ho=>?_,V,fj,by simp;rw[aN];exact aA.dm j l hb⟩
   .simpa using this
   .grind
  have j7:∀(M:E)(a:Nat)(p:N),GB (a::d.size::i) k M s q->J A M->A.size<=a->a<M.size->bd M p (v++w)->
   bJ dN 246 [.agg #[ag.v,al.v],p.v,.agg #[aF.v,vi l.bL],mi.v] M λrv f=>gL [a,d.size,z.size,m.size] M f/\∃aD:N,∃aE:Int,rv=.agg #[aD.v,vi aE]/\
    let h:E:=aV f a 0 [.s aD,.i aE]
    bJ dN 264 [vi (14:Int),mi.v] h λrv o=>gL [a,d.size,z.size,m.size] h o/\∃ac:N,rv=ac.v/\aR o a 1=aR h a 1/\aR o a 0=aR h a 0/\
     lS o jD [.i (0:Int),.i (0:Int),.i (0:Int),.s N.nil,.s N.nil] 72 ac aD λap u=>gL [a,d.size,z.size,m.size] o u/\aR u a 1=aR o a 1/\
      let M4:E:=u.push (.cells (de [.s ap,.i aE]) fm)
      lS M4 fm [.s N.nil,.i (0:Int)] 32 s (N.mk u.size 0 1 1) λae L=>gL [a,d.size,z.size,m.size] M4 L/\aH ae (eR ((j:Int)+(1:Int))) L/\μ ae (eR ((j:Int)+(1:Int))) L<μ s j X:=by
   intro M a p y D h1 h2 h3
   have x5:=(I.O K).O D
   have z9:=(I.O K).aP
   refine(bq M (a::s.bq::d.size::i) p (λc e=>?_) D h3).bK (J.cZ M) (O x5 h2) λG g f aj hq ao _=>⟨_,_,rfl,tail f a G g (y.ext vD.aO ao) (x5.O ao) (D.O ao) h1 (ao.lt h2) aj hq⟩
   grind
  have aC:∀(M:E)(Q:Obj),GB (d.size::i) k M s q->GB (M.size::d.size::i) k (M.push Q) s q:=λM Q y=>
   y.re vD.aO (Y:=[]) ((J.push M Q).fz []) bO bO λc e=>by
    grind
  refine⟨aM A _ _ di (λc e=>T.lt (P c e)) λp aB r t=>⟨_,rfl,E5 T (T.O t) ⟨?_,?_⟩⟩,?_⟩
  .have ak:=T.O t
   have CE:=t.aP
   refine(bq aB (s.bq::d.size::i) p (az ((I.O K).O t)) t r).bK ak P λG g au aj hq ar aU=>⟨_,_,rfl,?_⟩
   intro aG
   have bv:=ar.aP
   exact E5 aU (aU.cw _) (tail aG au.size G g (aC au _ ((g9.ext vD.aO t).ext vD.aO ar)) ((((I.O K).O t).O ar).cw _) ((t.O ar).cw _) V (by simp[aG]) (aj.le (xk (J.push au _) bW)) hq)
  .intro ar
   have ak:=T.O t
   have CE:=t.aP
   exact E5 ak (ak.cw _) (j7 ar aB.size p (aC aB _ (g9.ext vD.aO t)) (t.cw _) V (by simp[ar]) (r.ext (J.push _ _)))
  .intro ak
   have ar:=px ak
   have aG:J k ak:=T.O ar
   refine E5 T aG (aM ak _ _ ar (O ((I.O K).O ar) (by simp[ak])) λp aU r au=>⟨_,rfl,E5 aG (aG.O au) ?_⟩)
   exact j7 aU A.size p ((aC A _ g9).ext vD.aO au) (ar.O au) bW (au.lt (by simp[ak])) r
 .have f:q.length=x.dm.length:=V
  rw[eW V]at aL
  refine(dA (d.size::i) (ha.ext (H.O R)) V).bK R P λg h m6 a ah U u6=>⟨_,rfl,bB (U.bC _ (R.lt (P _ bO))) _,bB (U.bC _ (R.lt (P _ bO))) _,?_⟩
  subst ah
  intro m7
  refine⟨g,s,⟨x.op,x.cE,0,x.aN,q⟩,rfl,(a.cz (λc e=>cp (aK c e) R.aP) V).le (dQ bO λc e=>aW _ e),rI.le (dQ bO λc e=>aW _ e) ((y.ext vD.aO U).cz vD.aO aK cH cG),⟨aA.Uj (λC=>C.elim) ⟨V,V⟩ f ba,rfl,?_⟩,(H.O u6).aV V _ _⟩
  grind [eK.pD]
@[grind cases] structure LB (ds:af) (nr:Nat) (S:ad) (m2 M:E) (v lm:ab) (bz:au) (k:Nat) (st inn ow:N):Prop where
 x:J m2 M
 hs:∃l,GS (inn.bq::ow.bq::S) m2 M st l/\WL ds nr True v.length l/\dc l=dc (bz.take k)/\sw l+2*k<=40*sw (bz.take k)
 hi:∃l,GI S m2 M inn l/\l.length=v.length+dc (bz.take k)
 ho:∃l,GI S m2 M ow l/\l.length<=lm.length+k/\∀o∈l,0<=o/\o<((v.length+dc (bz.take k):Nat):Int)
 ne:inn.bq≠ow.bq
def Md{B:af}{C:List jS}:∀i:Bk,ade B C i:=by
 refine Bk.ind ?_;intro bz u ih g z hS aO bv cc cb b9 D lm hn hv hs bb hp;have bl:=hp.wb.cC;simp only[Bk.mL,Bk.lK]at*;have lN:=hp.lN;have vN:=hp.vN;rw[(Bk.vB bz u)]at lN vN;apply EX;simp -zeta only[dU];intro h b e al;let⟨A,hl,s0,s1,s2⟩:=uy (a:=h) (c:=b) (d:=e) rfl rfl rfl;obtain⟨av,s3⟩:=pu al;have az:∀aa,GS aa e al (.mk e.size 0 0 0) []:=by grind [GS.bI]
 clear_value al;clear_value e;have bj:=hs.aS;have bk:=FF bz;have bT:=jH bz;refine(dA g (hv.ext (A.O av)) V).bK av hl λd _ m4 p s x4 u4=>⟨_,rfl,?_⟩;subst s;refine(dA g (bb.ext (A.O u4)) V).bK u4 hl λf _ m5 y s x5 u5=>⟨_,rfl,?_⟩;subst s;have aD:=p.cD;have bo:=y.cD;refine W8 (n:=bz.length) (bj▸hs.kA) (λk l d f M=>LB B C.length (b.size::g) e M D lm bz k l d f) ⟨u5,⟨[],((az _).ext j9.aO x4).ext j9.aO x5,WL.gD,rfl,bO⟩,⟨D,((p.ext x5).da (λ_ q=>q) av.aP).jQ,bO⟩,⟨lm,(y.da (λ_ q=>q) u4.aP).jQ,V,sp hp.bF⟩,V⟩ ?_;clear p y aD bo az;rintro k l d f r aL μ hk ⟨Z,⟨H,gs,aj,ae,bV⟩,⟨R,p,ah⟩,⟨lo,y,bC,bM⟩,be⟩ bs
 have U:=A.O Z;have bI:=p.aS cH;have bF:=xg (bz.take k);have bL:=Rl k bz;have ai:∀c∈b.size::g,c<e.size:=by grind [dC,J.aP]
 have b5:=gs.cD;have aD:=p.cD;have b4:=y.cD;have bU:=jH (bz.take k);have bK:k<=sw (bz.take k):=by grind [List.length_take]
 have bN:=jH H;have z6:=Z.aP;have ag:∀{M:E},GI (b.size::g) e M d R->bd M d R:=λm=>(m.cz ai V).le fG;have aA:∀{M:E},GI (b.size::g) e M f lo->bd M f lo:=λm=>(m.cz ai V).le fG;have F:∀{M:E}{aa:ad},r.size<=M.size->(∀c∈aa,c<M.size)->∀c∈aa++b.size::g,c<M.size:=λq hb c a=>by
  grind
 have a7:∀{M:E},J r M->∀c∈[b.size,h.size,z.size],c<M.size:=by grind [J.O,J.lt]
 have bf:l.bq≠d.bq:=by grind [Gr.PC]
 have aC:l.bq≠f.bq:=by grind [Gr.PC]
 refine dit (λq=>?_) λq=>?_
 .let⟨W,t⟩:=dY bz k;let⟨aN,kk,ha,aB,g0,g1,g2,g3,g4⟩:=hs.D t;refine⟨V,V,_,U.aR g0,_,U.aR g1,_,U.aR g2,_,U.aR g3,_,U.aR g4,?_⟩;intro m7 I;have x8:J r I:=by grind [J.push,J.aV]
  have s8:I.size=r.size+1:=by grind [bD]
  clear_value I;have u8:=Z.O x8;have w:∀{M:E},I.size<=M.size->∀i∈[r.size,b.size,h.size,z.size],i<M.size:=λq i hb=>by
   grind [J.lt]
  have b1:=ub t;have bZ:=uU t;have b0:=eK.pD W;have Q:WS B C.length False R.length W:=by rw[ah];exact bl.1 k W t
  have bG:=dn1 Q;have bX:=bk (k+1);have P:∀{M:E},J e M->At M aO bv aN kk B C W:=λq=>⟨hn.le (A.O q).le,ha.ext (A.O q),Q.iL.jr⟩;refine(sg (P u8).V0 (ag (p.ext x8)) (P u8).aN (aB.le (A.O u8).le) V λi _=>qV i).bK (J.cZ I) (w bW) λty m9 x9 _=>⟨_,rfl,?_⟩;have X9:=u8.O x9;have z9:=x9.aP;refine(C8 (b:=[]) bO (P X9) (ag ((p.ext x8).ext x9)) Q.iL.aN V).bK (J.cZ m9) (w V) λdu O bp a2 aF aq _=>⟨_,rfl,?_⟩;have bA:=aF.2;have CE:=aq.aP;refine(iE (c:=[l.bq,d.bq,f.bq]++b.size::g) (F V fj) 14 ((a2.cz bO V).le fG) V).bK (J.cZ bp) (w V) λb_ _ ak aU s ar _=>⟨_,rfl,?_⟩;subst s;have cd:=ar.aP;have aw:J r ak:=(((x8.O x9).O aq).O ar);refine GS.lQ (gs.ext j9.aO aw) (((X9.O aq).O ar).fz []) (aU.cz j9.aO (F (aa:=[l.bq,d.bq,f.bq]) V fj) cH cG) cG λao aE ax aP aI am=>⟨λc a=>am c (w V c a) ?_,?_⟩
  .simp at a;omega
  have ac:J e aE:=aP.ext;have ay:=(p.ext aw).lR (am _ V bf.symm);have a4:=(y.ext aw).lR (am _ V aC.symm);have bQ:ao.bq=l.bq\/ak.size<=ao.bq:=aI.2;have b2:=ax.cD;have ce:=aI.1;refine(NV (i:=[ao.bq,d.bq,f.bq]++b.size::g) (F V fj) (P ac).V0 (ag ay) (P ac).aN (aB.le (A.O ac).le) V Q (ih W (aZ t))).bK (J.cZ aE) (w V) λca ck L b6 a9 a_ bt X _=>⟨_,_,_,_,_,rfl,?_⟩;let⟨bm,bP,bY⟩:=bt;have cf:=X.aP;refine GS.nA (x:=L) (ax.ext j9.aO X) ((ac.O X).fz []) a9 a_ fj λv bq aX aQ aJ aG=>⟨λc a=>?_,?_⟩
  .grind [J.push,J.bC]
  have aM:J e bq:=aQ.ext;have cg:=aJ.1;have a3:=(ay.ext X).lR (aG _ V V);have a5:=(a4.ext X).lR (aG _ V V);have bS:v.bq=l.bq\/ak.size<=v.bq:=by have:=aJ.2;omega
  have B1:WL B C.length True D.length (H++O.map (iK 14)++[L])/\dc (H++O.map (iK 14)++[L])=dc (bz.take (k+1))/\sw (H++O.map (iK 14)++[L])+2*(k+1)<=40*sw (bz.take (k+1)):=by
   have bH:dn L=1:=by grind [dn]
   have d1:dc (O.map (iK 14))=0:=by grind [nB]
   refine⟨((aj.fy (vK V λo j=>?_)).By ?_),?_,?_⟩
   .rw[ae,<-ah];exact Q.iL.aN o (aF.1 o j)
   .rw[eZ,d1,ae,uq,<-ah];exact bm
   .grind [eZ,nH,xh]
   .grind [gH,uz,pW,zJ]
  have ba:∀o∈lo,0<=o/\o<((D.length+dc (bz.take (k+1)):Nat):Int):=λo j=>by
   grind
  have a6:∀(M:E)(K:N)(T:ab),J e M->I.size<=M.size->GS (d.bq::K.bq::b.size::g) e M v (H++O.map (iK 14)++[L])->GI (b.size::g) e M d R->GI (b.size::g) e M K T->d.bq≠K.bq->T.length<=lm.length+(k+1)->(∀o∈T,0<=o/\o<((D.length+dc (bz.take (k+1)):Nat):Int))->
   lS (M.push (.cells (de [.i ty]) bE)) bE [.i (0:Int)] 8 d (N.mk M.size 0 1 1) λap M'=>gL [r.size,b.size,h.size,z.size] (M.push (.cells (de [.i ty]) bE)) M'/\aL v ap K (eR ((k:Int)+(1:Int))) M'/\μ v ap K (eR ((k:Int)+(1:Int))) M'<μ l d f k r:=by
   intro M K T t G m gI gO bc a8 bi
   have b3:=gI.cD;have bn:=gO.cD
   have bh:v.bq≠d.bq:=by grind [Gr.PC]
   refine GI.nA gI (t.fz []) V λap M' a1 aT bx an=>⟨λc a=>?_,bs V _ _ _ _ ⟨aT.ext,⟨_,m.re j9.aO (Y:=[d.bq]) ⟨bx.1,λc a hn=>an c a cG⟩ bO (sp bh) (λc a=>?_),B1.1,B1.2.1,B1.2.2⟩,⟨_,a1,fj⟩,⟨T,gO.lR (an _ bn.2 bc.symm),a8,bi⟩,?_⟩⟩
   .have:=w G c a
    rw[an c this (by simp at a;omega),(J.push M _).bC c this]
   .grind
   .grind
  refine⟨λ_=>?_,λ_=>?_⟩
  .intro b7;have bg:v.bq≠f.bq:=by grind [Gr.PC]
   refine GI.nA a5 (aM.fz []) V λbw br a0 aS aK aH=>⟨λc a=>?_,?_⟩
   .grind [J.push,J.bC]
   intro b8;have ch:=aK.1;refine a6 br bw _ aS.ext V (aX.re j9.aO (Y:=[f.bq]) ⟨aK.1,λc a hn=>aH c a cG⟩ bO (sp bg) λc a=>?_) (a3.lR (aH _ V be)) a0 ?_ fj ?_
   .simp only[aY]at a⊢;grind
   .grind
   .intro o j;rcases bR.1 j with j|j
    .exact ba o j
    .simp at j;omega
  grind
 .have an:k=bz.length:=V;subst an;rw[fx]at*;have ac:∀(M:E)(L:N)(I:au),J e M->r.size<=M.size->GS (d.bq::f.bq::b.size::g) e M L I->bd M f lo->WL B C.length True D.length I->dc I=dc bz->sw I+2*bz.length<=40*sw bz+2->
   bJ dN 264 [vi (15:Int),f.v] M λrv w=>gL [b.size,h.size,z.size] M w/\∃W:N,rv=W.v/\aR w h.size 1=aR M h.size 1/\
    lS w jD [.i (0:Int),.i (0:Int),.i (0:Int),.s N.nil,.s N.nil] 72 L W λQ O=>gL [b.size,h.size,z.size] w O/\aR O h.size 1=aR w h.size 1/\
     let K:E:=aV O b.size 0 [.s Q,.i u]
     ∃ak i,Value.agg #[Q.v,vi u]=.agg #[ak.v,vi i.bL]/\iA (dg g K) ak i.bz/\(WB B C.length True D.length i/\i.w+20<=40*(Bk.mk bz u).w+2*lm.length)/\J z K:=by
   intro M L I t G m j ar aw ay
   have hy:=m.cD
   have ax:=jH I
   have aq:h.size<M.size:=by grind [J.lt]
   refine(iE (c:=[L.bq,d.bq,f.bq]++b.size::g) (F G cG) 15 j V).bK t hl λW _ w am s v u1=>⟨_,rfl,bB (v.bC _ aq) _,?_⟩
   subst s
   have z1:=v.aP
   have ao:∀c∈[b.size,h.size,z.size],c<w.size:=by grind [J.lt]
   have ap:∀c∈[b.size,h.size,z.size],c<e.size:=hl
   refine GS.lQ (m.ext j9.aO v) (u1.fz []) (am.cz j9.aO (F (aa:=[L.bq,d.bq,f.bq]) G fj) cH cG) cG λQ O g2 T X P=>⟨λc a=>P c (ao c a) (oh (ap c a)),bB (P _ V V) _,?_⟩
   intro K
   refine⟨Q,.mk _ u,rfl,iA.le (dQ bO λc a=>aW _ a) ((g2.re j9.aO (S':=b.size::g) (Y:=[]) nK bO bO (λc a=>bu (aW _ (aW _ a)))).cz j9.aO ai cH fj),⟨WB.of (ar.fy (vK V λo j=>?_)) ?_,?_⟩,(A.O T.ext).aV V _ _⟩
   .grind
   .grind [eZ,nB]
   .grind [Bk.vB,gH,uz]
  let⟨X,G⟩:=dY R u.toNat;refine⟨V,V,X,(ag p).D G,λ_=>?_,λ_=>ac r l H Z bW gs (aA y) aj ae V⟩;refine(lA (c:=[l.bq,d.bq,f.bq]++b.size::g) (F bW cG) 14 u).aO λrv w⟨pa,pk,s,h1,h2,v⟩=>?_;subst s;refine⟨v.fq (a7 di),_,_,_,_,_,rfl,?_⟩;have z1:=v.aP;refine GS.nA (x:=iK 14 u) (gs.ext j9.aO v) ((Z.O v).fz []) h1 h2 V λr' K m T X P=>⟨λc a=>?_,ac K r' _ T.ext V m (aA ((y.ext v).lR (P _ V aC.symm))) (aj.By (Ig V cG)) ?_ ?_⟩
  .grind [J.push,J.bC]
  .rw[eZ,ae];simp[nH,dn,iK,tw]
  .rw[gH,pW,zJ];have h5:(iK 14 u).w=2:=by rw[eK.pD];rfl
   omega
section
variable{b:ad}{f d j:E}{p t l:N}{q:jS}{s:Int}{g h k:Nat}
theorem nm.aO:qj 1 nm:=⟨λh=>nm.le h _ _,λ⟨_,h,_⟩=>by rw[h];rfl⟩
theorem jL.aO:qj 3 jL:=⟨λh=>jL.le h _ _,λ⟨_,h,_⟩=>by rw[h];rfl⟩
def jw(v:∀c∈b,c<f.size){bQ:N}{i:af}(hd:dq f bQ i)(w:eP i):bJ dN 188 [bQ.v] f λT B=>∃s,T=s.v/\dq (dg b B) s i/\J f B:=by
 apply EI;intro O;have ab:=hd.aS;have aa:=w.aS;have u:Gr b f O kH 3 jL (.mk f.size 0 0 0) []:=Gr.bI b bW;refine gP (n:=i.length) V (λq s M=>J f M/\Gr b f M kH 3 jL s (i.take q)) ⟨J.push _ _,u⟩ ?_;rintro q s d X μ hk ⟨r,m⟩ R
 have hy:=m.cD;refine dit (λl=>?_) λl=>?_
 .let⟨g,o⟩:=dY i q;let⟨z,A,u,g1,g2⟩:=hd.D o;have ac:=A.aS;have Z:=mH w o;intro P;have k:Gr (s.bq::b) d P mX 1 nm (.mk d.size 0 0 0) []:=Gr.bI _ bW;refine gP (n:=g.dS.length) V (λy c M=>J d M/\Gr (s.bq::b) d M mX 1 nm c (g.dS.take y)) ⟨J.push _ _,k⟩ ?_;rintro y c C Y μ2 hj ⟨t,k⟩ Q;have e:=r.O t;refine⟨V,V,z,e.aR g2,dit (λK=>?_) λK=>?_⟩
  .let⟨E,x⟩:=dY g.dS y;let⟨U,L,H⟩:=A.D x;have ad:E.length<=3:=(((w.eN q g o).iT V).2.2.2 E (aZ x)).1;refine⟨V,V,z,e.aR g2,V,V,U,e.aR H,?_⟩;have ae:=k.cD;refine(dA (c.bq::s.bq::b) (L.ext e) V).bZ λW _ j I h D=>⟨_,rfl,?_⟩;subst h;intro M;refine Gr.nA (g:=[.s .nil]) nm.aO cH (k.ext nm.aO D) ((t.O D).fz []) ⟨W,rfl,I.cz (λh p=>?_) V⟩ fj λS m7 G F _ _=>Q V _ _ ⟨F.ext,by rw[bX x];exact G⟩;have:=t.aP;simp only[aY]at p;rcases p with l|l|l
   .omega
   .omega
   .have:=v h l;have:=r.aP;omega
  .refine⟨V,V,_,e.aR u,V,V,_,e.aR g1,?_⟩;intro j;rw[eW V]at k;have D:fU (dg (s.bq::b) C) 1 (nm (dg (s.bq::b) C)) c g.dS:=k.cz nm.aO (λh p=>by
    rcases aY.1 p with x|x
    .omega
    .have:=v h x;have:=r.aP;omega) cH V
   refine Gr.nA (g:=[.i 0,.i 0,.s .nil]) (k:=g) jL.aO cH (m.ext jL.aO t) (e.fz []) ⟨c,rfl,D⟩ fj λS M x p _ _=>R V _ _ ⟨p.ext,by rw[bX o];exact x⟩
 .rw[eW V]at m;exact⟨s,rfl,m.cz jL.aO v cH V,r⟩
def Cz(H:∀g∈b,g<f.size){B:N}{b1:Int}(I:bd f p q.aX)(K:bd f t q.cR)(u:q.aX.length<=100/\q.cR.length<=100):
 bJ dN 230 [.agg #[p.v,t.v,vi q.bL,B.v,vi s],.agg #[l.v,vi b1]] f λP x=>∃k m,P=.agg #[k.v,m.v,vi q.bL,l.v,vi b1]/\bd (dg b x) k q.aX/\bd (dg b x) m q.cR/\J f x:=by
 apply Ht
 simp -zeta only[dU]
 intro L i d
 let⟨r,w,S,T,U⟩:=uy (a:=L) (c:=i) (d:=d) rfl rfl rfl
 clear_value d
 have z:∀g∈i.size::b,g<d.size:=dC H r.aP (w _ bO)
 have c:∀{M y:E},J d M->J d y->∀e,e<d.size->∀o,aR y e o=aR M e o:=λF G e u o=>bB (by rw[G.bC e u,F.bC e u]) o
 refine(dA (i.size::b) (I.ext r) V).bK (J.cZ d) w λk _ R C h a _=>⟨_,rfl,c di a _ V _,c di a _ V _,c di a _ V _,c di a _ V _,?_⟩
 subst h
 refine(dA (i.size::b) (K.ext (r.O a)) V).bK a w λm _ O D h Q n=>⟨_,rfl,c a n _ V _,c a n _ V _,c a n _ V _,?_⟩
 subst h
 intro j
 have A:Le (dg (i.size::b) O) (dg b j):=dQ bO λg v=>aW _ v
 exact⟨k,m,rfl,((C.cz z V).le Q.eU).le A,(D.cz (λg v=>a.lt (z g v)) V).le A,(r.O n).aV V _ _⟩
abbrev GR(b:ad)(a f:E)(s:N)(l:List jS):Prop:=Gr b a f mE 5 kZ s l
def Al{L:ad}{m M:E}{v f:N}{x:List jS}{r:Bk}{I:N}{K:E->Prop}(U:∀c∈b,c<m.size)(w:∀c∈L,c<M.size/\c≠g/\c≠f.bq)(hx:J m M)(y:GR (g::b) m M f x)
 (z:dJ M g qM [.s v,.s f])(Y:m.size<=g)(Z:bd M p q.aX)(ht:bd M t q.cR)(aa:iA (dg (f.bq::g::b) M) l r.bz)(W:q.aX.length<=100/\q.cR.length<=100)(hl:x.length<=100)
 (T:∀u d,GR (g::b) m d u (x++[⟨q.aX,q.cR,q.bL,r⟩])->dJ d g qM [.s v,.s u]->J m d->K d):
 bJ dN 230 [.agg #[p.v,t.v,vi q.bL,I.v,vi s],.agg #[l.v,vi r.bL]] M λG k=>gL L M k/\∃A:N,∃B:N,∃C:Int,∃D:N,∃F:Int,G=.agg #[A.v,B.v,vi C,D.v,vi F]/\aR k g 1=aR M g 1/\
  let n:E:=k.push (.cells (de [.s A,.s B,.i C,.s D,.i F]) mE)
  aR n g 1=aR k g 1/\
  lS n mE [.s N.nil,.s N.nil,.i (0:Int),.s N.nil,.i (0:Int)] 88 f (N.mk k.size 0 1 1) λab o=>gL L n o/\iQ o g 1 1/\
   let d:E:=aV o g 1 [.s ab]
   gL L o d/\K d:=by
 have hy:=y.cD
 have X:=z.lt
 refine(Cz (b:=f.bq::g::b) (λc e=>?_) Z ht W).aO λG k⟨p',t',h,Q,R,j⟩=>?_
 .simp only[aY]at e
  rcases e with h|h|h
  .omega
  .omega
  .have:=U c h;omega
 subst h
 refine⟨j.fq λc e=>(w c e).1,_,_,_,_,_,rfl,bB (j.bC _ X) _,?_⟩
 intro n
 refine Gr.bT (g:=[.s .nil,.s .nil,.i 0,.s .nil,.i 0]) (j:=1) (i:=[.s v,.s f]) (u:=⟨q.aX,q.cR,q.bL,r⟩) kZ.aO cH (y.ext kZ.aO j) ((hx.O j).fz []) ⟨p',t',l,rfl,Q,R,aa.le j.eU⟩ V (z.ext j) bO cH ⟨Y,bO⟩ (λc e=>⟨j.lt (w c e).1,(w c e).2⟩) λu m' P H O z' q'=>T u m' P H O.ext
def nY{β:Type}{a c:E}{g:N}{i:Nat}{f:E->ae->β->Prop}(s:qj i f)(p:a=d.push (.cells (de []) h))(q:c=a.push (.cells (de [.s N.nil,.s N.nil]) k))(l:j=aV c a.size 0 [.s g,.s (N.mk d.size 0 0 0)]):
 J d j/\dJ j a.size k [.s g,.s (N.mk d.size 0 0 0)]/\Gr b d j h i f (.mk d.size 0 0 0) []/\a.size=d.size+1/\j.size=d.size+2:=by
 subst p
 have n:J (d.push (.cells (de []) h)) j:=by grind [J.push,J.aV]
 refine⟨(J.push d _).O n,?_,(Gr.bI b bW (b:=h) (c:=i) (R:=f)).ext s n,bO,by subst q l;simp[bD]⟩
 have t:dJ c (d.push (.cells (de []) h)).size k [.s N.nil,.s N.nil]:=by grind [dJ.push]
 rw[l]
 exact dJ.aV (m:=c) (o:=0) (r:=[.s g,.s (.mk d.size 0 0 0)]) t
def nO{β:Type}{m b1 q:Nat}{o:E->ae->β->Prop}{e z:N}{D:af}(F:qj m o)(hz:0<m)(X:k≠h)(hS:∀v∈b,v<f.size)(Q:f.size<=b1/\b1<d.size)(Y:J f d)(ac:g=d.size+1)
 (S:dq (dg (b1::b) d) e D)(hn:z.len=q)(ad:q<=1000)(Z:J d j)(O:dJ j g k [.s e,.s (N.mk d.size 0 0 0)])(U:Gr (g::b1::b) d j h m o (.mk d.size 0 0 0) [])(w:Nat->β->Prop)
 {A:(Int->E->Prop)->(Int->E->Nat)->Int->E->Prop}{R:N->N->E->Prop}
 (P:∀C G l p,dq (dg b p) C D->fU (dg b p) m (o (dg b p)) G l->l.length=q->(∀(i:Nat)(x:β),l[i]? =some x->w i x)->J f p->R C G p)
 (L:∀(c:Nat)(M:E)(s:N)(l:List β)(I:Int->E->Prop)(μ:Int->E->Nat),c<q->l.length=c->J d M->Gr (g::b1::b) d M h m o s l->dJ M g k [.s e,.s s]->
  (∀t a x,Gr (g::b1::b) d a h m o t (l++[x])->dJ a g k [.s e,.s t]->J d a->w c x->I (eR ((c:Int)+1)) a/\μ (eR ((c:Int)+1)) a<μ c M)->A I μ c M):
 ∃(u:Int->E->Prop)(μ0:Int->E->Nat),u (0:Int) j/\(∀(i:Int)(M:E),u i M->
  ((decide (i<(z.len:Int)))=true->A u μ0 i M)/\
  ((decide (i<(z.len:Int)))=false->∃r:N,aR M g 0=some r.v/\∃y:N,aR M g 1=some y.v/\
   let a:E:=aV M b1 0 [.s r,.s y]
   R r y a)):=by
 refine ik (n:=q) V (λc M=>J d M/\∃s l,Gr (g::b1::b) d M h m o s l/\dJ M g k [.s e,.s s]/\l.length=c/\∀(i:Nat)(x:β),l[i]? =some x->w i x) ⟨Z,_,[],U,O,rfl,bO⟩ ?_
 rintro c M I μ hk ⟨x,s,l,r,B,W,T⟩ aa
 refine dit (λK=>?_) λK=>?_
 .refine L c M s l I μ V W x r B λt a ab H y x' hy=>aa V _ ⟨x',t,_,H,y,fj,λi ag hi=>?_⟩
  grind [Nat.lt_or_ge,List.length,List.getElem?_append_left,List.getElem?_append_right,bA]
 .refine⟨e,B.dz 0,s,B.dz 1,?_⟩
  intro a
  have hy:=r.cD
  have ag:=r.ne B X
  have y:Le (dg (g::b1::b) M) (dg b a):=dQ bO λv t=>aW _ (aW _ t)
  refine P e s l a (S.le ((x.dg λv t=>?_).O y)) (fU.le (r.rO F (λt=>?_) hz V) y λH ab=>F.le y) V T ((Y.O x).aV Q.1 _ _)
  .grind
  grind [J.aP]
@[grind cases] structure CH (ds:af) (rs:List jS) (c:Prop) (W:Nat):Prop where
 iT:0<rs.length
 eN:∀q∈rs,q.aX.length<=3/\q.cR.length<=3/\WB ds rs.length c q.aX.length q.eV/\q.eV.w<=W
def zg(h:Nat)(e:ap)(f:E)(b:ad)(g:af)(Q:List jS->Prop):Prop:=bJ dN h e f λv a=>∃d r c,v=.agg #[d.v,r.v]/\ir (dg b a) d r g c/\Q c/\J f a
def Lz{d:af}{a b:List jS}{c:Prop}{W:Nat}(e:0<a.length)(f:b.length=a.length)(h:∀(i:Nat)(q:jS),b[i]? =some q->q.aX.length<=3/\q.cR.length<=3/\WB d a.length c q.aX.length q.eV/\q.eV.w<=W):CH d b c W:=
 by constructor<;>grind [List.mem_iff_getElem?]
def Mq(O:∀c∈b,c<f.size){C:N}{c cR:ab}{H:Int}(z:bd f p c)(F:bd f t cR)(P:c.length<=100):
 od 247 [.agg #[p.v,t.v,vi H,C.v,vi s]] f b λl=>(∀o∈l,0<=o/\o<(c.length:Int))/\l.length<=c.length:=by
 apply Fh
 simp -zeta only[dU]
 intro a d
 have A:=px a
 have y:∀w∈[f.size],w<a.size:=by simp[a]
 have D:GI b a d (.mk a.size 0 0 0) []:=GI.gD b a
 have I:=px d
 clear_value d
 clear_value a
 have R:=z.aS
 refine gP (n:=c.length) V (λk q M=>J a M/\∃l,GI b a M q l/\(∀o∈l,0<=o/\o<(c.length:Int))/\l.length<=k) ⟨I,[],D,bO,bW⟩ ?_
 rintro k q S L μ Q ⟨v,l,g,i,M⟩ m
 have r:=A.O v
 refine⟨λh=>?_,λh=>⟨q,l,rfl,g.da (λ_ h=>h) A.aP,⟨i,by simp at h;omega⟩,r⟩⟩
 simp only[bh]at h
 let⟨K,G⟩:=dY c k
 refine⟨V,V,K,(z.ext r).D G,λ_=>?_,λ_=>m V _ _ ⟨v,l,g,i,V⟩⟩
 refine(fF (F.ext r) k).jQ.bK v y λw T B u=>⟨_,rfl,λ_=>?_,λ_=>m V _ _ ⟨u,l,g.ext B,i,V⟩⟩
 intro j
 refine GI.nA (g.ext B) (u.fz []) V λW U E x _ _=>⟨J.sK (u.cw _) x.ext y,m V _ _ ⟨x.ext,_,E,λo e=>?_,fj⟩⟩
 rcases bR.1 e with e|e
 .exact i o e
 .simp at e;omega
end
section
variable{a:ad}{b:E}{d r:N}{c:List jS}
def Ma(hS:∀e∈a,e<b.size){Y ai s:N}{P:af}{q:jS}(hn:ir b d r P c)(U:bd b Y q.aX)(ht:bd b ai q.cR)(hs:iA b s q.eV.bz)(aC:q.aX.length<=3)(ao:WB P c.length False q.aX.length q.eV)(hw:q.eV.w<=95):
 rl 245 [.agg #[N.v d,N.v r],.agg #[N.v Y,N.v ai,vi q.bL,N.v s,vi q.eV.bL]] b a λl=>WB P c.length True q.aX.length l/\l.w<=1100*q.eV.w:=by
 apply EK
 simp -zeta only[kd,nJ]
 intro m0 C H
 let⟨t,h,s0,s1,s2⟩:=uy (a:=m0) (c:=C) (d:=H) rfl rfl rfl
 clear_value H
 have aD:=U.aS
 have T:∀e∈C.size::a,e<H.size:=dC hS t.aP (h _ bO)
 refine(HR (b:=[]) bO (hs.le t.le) V).bK (J.cZ H) h λus ul g hu aE O _=>⟨_,rfl,?_⟩
 have an:bd g us ul:=hu.le fG
 intro D I
 have ax:J g I:=(J.push g _).O (J.push D _)
 have s4:=pz D
 have i:GI a g I (.mk g.size 0 0 0) []:=(GI.gD a g).ext (J.push D _)
 have gd:GI a g I (.mk D.size 0 0 0) []:=(GI.gD a D).da (λ_ R=>R) V
 clear_value I
 have z3:=O.aP
 have al:∀e∈a,e<g.size:=λe f=>by have:=hS e f;have:=t.aP;omega
 refine Ba (j:=q.aX.length) V (λk L Z M=>J g M/\∃j p,GI a g M L j/\GI a g M Z p/\L.bq≠Z.bq/\(∀o∈j,0<=o/\o<(q.aX.length:Int))/\(∀o∈p,0<=o/\o<(q.aX.length:Int))/\j.length<=k/\p.length<=k) ⟨ax,[],[],i,gd,fj,bO,bO,bW,bW⟩ ?_
 rintro k L Z m6 ay μ hk ⟨u,j,p,i,gd,G,A,z,cm,cd⟩ K
 have F:=O.O u
 have v6:=t.O F
 refine dit (λR=>?_) λR=>?_
 .let⟨ac,W⟩:=dY q.aX k
  have sn:∀{m:ab},(∀o∈m,0<=o/\o<(q.aX.length:Int))->∀o∈m++[(k:Int)],0<=o/\o<(q.aX.length:Int):=λh o B=>by
   rcases bR.1 B with B|B
   .exact h o B
   .simp at B;omega
  refine⟨V,V,ac,(U.ext v6).D W,λ_=>?_,λ_=>K V _ _ _ ⟨u,j,p,i,gd,G,A,z,V,V⟩⟩
  refine(fF (ht.ext v6) k).jQ.bK F h λaa m7 v u7=>⟨_,rfl,λ_=>?_,λ_=>K V _ _ _ ⟨u.O v,j,p,i.ext v,gd.ext v,G,A,z,V,V⟩⟩
  refine(fF (an.ext (u.O v)) k).jQ.bK u7 h λaa m8 x8 u8=>⟨_,rfl,λ_=>?_,λ_=>?_⟩
  .have x:=v.O x8
   intro m9
   exact GI.XR (i.ext x) (gd.ext x) G ((u.O x).fz []) V λr m' y Q X w=>⟨J.sK ((F.O x).cw _) (O.O w.ext) h,K V _ _ _ ⟨w.ext,_,_,y,Q,X,sn A,z,fj,V⟩⟩
  .have x:=v.O x8
   intro m9
   exact GI.XR (gd.ext x) (i.ext x) G.symm ((u.O x).fz []) V λr m' y Q X w=>⟨J.sK ((F.O x).cw _) (O.O w.ext) h,K V _ _ _ ⟨w.ext,_,_,Q,y,X.symm,A,sn z,V,fj⟩⟩
 intro w
 have ac:=px w
 have X:=F.O ac
 have aa:=t.O X
 have e0:bd w (.mk m6.size 0 0 0) []:=pN
 have ag:∀{M:E}{s:N}{m:ab},GI a g M s m->m.length<=3->bd M s m:=λy h=>(y.cz al V).le fG
 clear_value w
 have aB:=q.eV.Nr
 refine(Kv q.eV (C.size::a) w (λe f=>X.lt (T e f)) d r Y s L _ q.aX j [] (hn.le aa.le) (U.ext aa) (hs.le aa.le) ((ag i V).ext ac) e0 ⟨A,V,fj,V,ao⟩).bK X h λss l ap am hq av au=>⟨_,_,rfl,?_⟩
 intro aF x
 obtain⟨ad,aJ⟩:=pv x
 clear_value x
 have B:=au.O ad
 have Q:∀e∈[ap.size,C.size,m0.size,b.size],e<x.size:=λe f=>by
  rcases aY.1 f with v|v
  .omega
  .exact B.lt (h e v)
 have aA:=Bk.pD l;have az:=jH l.bz
 refine(iE (c:=C.size::a) (λe f=>B.lt (T e f)) 15 ((ag gd V).ext ((ac.O av).O ad)) V).bK (J.cZ x) Q λaI _ aG ae v o _=>⟨_,rfl,bB (o.bC _ V) _,bB (o.bC _ V) _,?_⟩
 subst v
 have aK:=o.aP
 have W:=ae.cD
 refine GS.lQ ae (o.fz []) ((am.le ad.eU).le (xk o W.1)) fj λar aq ak aj aL ah=>⟨λe f=>ah e (o.lt (Q e f)) (oh (Q e f)),bB (ah _ V V) _,?_⟩
 intro aH
 have aw:J b aq:=(t.O B).O aj.ext
 refine⟨ar,.mk _ l.bL,rfl,iA.le (dQ bO λe f=>aW _ f) (ak.cz j9.aO (λe f=>B.lt (T e f)) cH fj),⟨WB.of ((vK V z).fy ?_) ?_,?_⟩,aw.aV V _ _⟩
 .rw[nB V];exact hq.1.cC.1
 .rw[eZ,nB V,fB];exact hq.1.cC.2
 .rw[Bk.vB,gH,uz];omega
def Qd(D:∀e∈a,e<b.size){h:af}(i:ir b d r h c)(W:CH h c False 95):zg 223 [.agg #[d.v,r.v]] b a h λu=>CH h u True 104500:=by
 apply IU;simp -zeta only[dU];intro f a2;let⟨w,E⟩:=fN (a:=f) (c:=a2) rfl rfl;have s1:=pz f;clear_value a2;have aj:=i.lz.aS;have ar:=i.pF;refine(jw (b:=f.size::a) (dC D w.aP (E _ bO)) (i.le w.le).bQ i.dh).aO λ_ H⟨aa,ab,ag,K⟩=>?_;subst ab;refine⟨K.fq E,_,rfl,?_⟩;intro I an Z;have u2:=w.O K;let⟨x5,B0,g0,s3,s5⟩:=nY (b:=I.size::f.size::a) kZ.aO (d:=H) (a:=I) (c:=an) (j:=Z) rfl rfl rfl;clear_value Z;have t:∀e∈[f.size,b.size],e<H.size:=by grind [J.lt]
 have ae:∀e∈f.size::a,e<H.size:=λe s=>K.lt (dC D w.aP (E _ bO) e s);refine nO (R:=λg j M=>∃d r u,Value.agg #[g.v,j.v]=.agg #[d.v,r.v]/\ir (dg a M) d r h u/\CH h u True 104500/\J b M) (q:=c.length) (f:=b) (b:=a) kZ.aO cH cH D ⟨V,t _ bO⟩ u2 s3 ag aj V x5 B0 g0 (λ_ q=>q.aX.length<=3/\q.cR.length<=3/\WB h c.length True q.aX.length q.eV/\q.eV.w<=104500) (λg p F v Q T j k o=>⟨g,p,F,rfl,⟨Q,T,i.dh,V⟩,Lz W.iT j k,o⟩) λam M st F ap μ ah aq L P B ao=>?_
 let⟨q,Y⟩:=dY c am ah;let⟨X,ai,al,hw⟩:=W.eN q (aZ Y);have j:=u2.O L;let⟨au,av,g,N,O,c3,x,y,z,A,C⟩:=i.lz.D Y;have G:∀{v:Value}{g o:Nat},aR b g o=some v->aR M g o=some v:=λac=>j.aR ac;refine⟨st,B.dz 1,V,V,_,G x,_,G y,_,G z,_,G A,_,G C,V,V,_,G x,_,G y,_,G z,_,G A,_,G C,?_⟩;have hy:=P.cD;have ad:=B.lt;refine(Ma (a:=st.bq::I.size::f.size::a) (λe s=>?_) (i.le j.le) (N.ext j) (O.ext j) (c3.le j.le) X al hw).bK L t λss b' M1 ak U k u1=>⟨_,_,rfl,?_⟩
 .grind
 have p:∀{v:Value}{g o:Nat},aR b g o=some v->aR M1 g o=aR M g o:=by grind [J.aR]
 refine⟨p x,p y,p z,p A,p C,bB (k.bC _ (L.lt (t _ bO))) _,bB (k.bC _ ad) _,?_⟩;exact Al (b:=f.size::a) (v:=aa) (x:=F) ae (λe s=>by have Q:=t e s;have T:=u1.aP;omega) u1 (P.ext kZ.aO k) (B.ext k) V (N.ext (j.O k)) (O.ext (j.O k)) ak ⟨V,V⟩ V λs' T g' Q x'=>ao s' T _ g' Q x' ⟨X,ai,U.1,by have:=U.2;simp only;omega⟩
def UB(F:∀g∈a,g<b.size){s:af}(u:ir b d r s c)(hk:CH s c False 95):zg 224 [.agg #[d.v,r.v]] b a s λz=>CH s z True 104500:=by
 apply NW;simp -zeta only[dU];intro j a2;let⟨B,H⟩:=fN (a:=j) (c:=a2) rfl rfl;have s1:=pz j;clear_value a2;have am:=u.lz.aS;have ay:=u.pF;refine(jw (b:=j.size::a) (dC F B.aP (H _ bO)) (u.le B.le).bQ u.dh).aO λ_ L⟨ae,t,ai,P⟩=>?_;subst t;refine⟨P.fq H,_,rfl,?_⟩;intro y aq ac;have u2:=B.O P;let⟨x5,B0,g0,s3,s5⟩:=nY (b:=y.size::j.size::a) kZ.aO (d:=L) (a:=y) (c:=aq) (j:=ac) rfl rfl rfl;clear_value ac;have ab:∀g∈[j.size,b.size],g<L.size:=by grind [J.lt]
 have ah:∀g∈j.size::a,g<L.size:=λg o=>P.lt (dC F B.aP (H _ bO) g o);refine nO (R:=λe f M=>∃d r z,Value.agg #[e.v,f.v]=.agg #[d.v,r.v]/\ir (dg a M) d r s z/\CH s z True 104500/\J b M) (q:=c.length) (f:=b) (b:=a) kZ.aO cH cH F ⟨V,ab _ bO⟩ u2 s3 ai am V x5 B0 g0 (λ_ q=>q.aX.length<=3/\q.cR.length<=3/\WB s c.length True q.aX.length q.eV/\q.eV.w<=104500) (λe k K p Z w f h i=>⟨e,k,K,rfl,⟨Z,w,u.dh,V⟩,Lz hk.iT f h,i⟩) λap M st K av μ aj ax T Y C ar=>?_
 let⟨q,hq⟩:=dY c ap aj;let⟨al,ak,ao,hw⟩:=hk.eN q (aZ hq);have A:=u2.O T;let⟨au,aA,k,D,X,c3,e0,e1,e2,e3,e4⟩:=u.lz.D hq;have G:∀{ad:Value}{k v:Nat},aR b k v=some ad->aR M k v=some ad:=λag=>A.aR ag;refine⟨V,V,_,G e0,_,G e1,_,G e2,_,G e3,_,G e4,?_⟩;intro m7 i;have hy:=Y.cD;have aw:=C.lt;have zM:=T.aP;have Q:J M i:=by grind [J.push,J.aV]
 have s8:i.size=M.size+1:=by grind [bD]
 clear_value i;have I:∀g∈[M.size,j.size,b.size],g<i.size:=λg o=>by
  grind
 have N:=A.O Q;have f:∀{U W:E},J i U->J i W->∀k,k<i.size->∀v,aR W k v=aR U k v:=by grind [bB,J.bC]
 have h:M.size<i.size:=V;have i1:b.size<i.size:=cG;have i2:y.size<i.size:=V;refine⟨st,(C.ext Q).dz 1,?_⟩;refine(Mq (b:=[]) bO (D.ext N) (X.ext N) V).bK (J.cZ i) I λow lo m9 go ho e _=>⟨_,rfl,f di e _ h _,f di e _ h _,f di e _ h _,f di e _ i1 _,f di e _ i1 _,f di e _ h _,f di e _ h _,f di e _ h _,f di e _ h _,f di e _ h _,f di e _ i2 _,?_⟩;have O:=N.O e;have z9:=e.aP;have o:=ho.2;refine(Md q.eV (st.bq::y.size::j.size::a) m9 (λg o=>?_) d r au k ow q.aX lo (u.le O.le) (D.ext O) (c3.le O.le) ((go.cz bO V).le fG) ⟨ho.1,V,V,ao⟩).bK e I λss b' az an aa aB p=>⟨_,_,rfl,f e p _ h _,f e p _ h _,f e p _ h _,f e p _ h _,f e p _ h _,f e p _ i2 _,?_⟩
 .grind
 have x:=Q.O p;have CE:=p.aP;exact Al (b:=j.size::a) (v:=ae) (x:=K) ah (λg o=>by have Z:=I g o;have w:=ab g;simp only[aY]at o w;rcases o with t|t|t|t<;>first|omega|(have:=w (by simp[t]);omega)|simp at t) (T.O x) (Y.ext kZ.aO x) (C.ext x) V (D.ext (A.O x)) (X.ext (A.O x)) an ⟨V,V⟩ V λs' Z g' w x'=>ar s' Z _ g' w x' ⟨al,ak,aa.1,by have:=aa.2;simp only;omega⟩
end
section
variable{x:eK}{l:au}{m d M:E}{i f e h:N}{b:ad}{c g:ab}{a:Int}{K:N->E->Prop}
def EU(a k:N)(m:E):gK dN 251 [tr x a k] m (x.op=14\/x.op=15):=by
 apply KE;simp -zeta only[dU];intro c;have b:=px c;refine⟨λh=>pw (bu (sp h)) b,λh=>lg ?_ b⟩;simp only[a8]at h;simp only[bP];omega
def One(l:au):Prop:=∀x∈l,x.aN.length=1
def DB(l:au)(o:Int):Prop:=∃x∈l,o∈x.aN
def One.at(h:One l){k:Nat}(a:l[k]? =some x):∃y,x.aN[0]? =some y/\DB l y:=by
 have c:=h x (aZ a);let⟨y,b⟩:=dY x.aN 0;exact⟨y,b,x,aZ a,aZ b⟩
def Tc(q:iA m i l)(B:One l)(G:l.length<=10^12)(v:Int):wX 277 [i.v,vi v] m λb=>-(l.length:Int)<=b/\b<=l.length:=by
 apply Mi;have K:=q.aS;refine gP (n:=l.length) V (λk b M=>J m M/\-(k:Int)<=b/\b<=(k:Int)) ⟨di,V,V⟩ ?_;rintro k b c I μ H ⟨f,C,E⟩ O
 refine⟨λo=>?_,λo=>⟨b,rfl,⟨V,V⟩,f⟩⟩;simp only[bh]at o;let⟨x,r⟩:=dY l k;obtain⟨y,s,_⟩:=B.at r;obtain⟨a,P,p,_,z,_,_,A,_⟩:=q.D r;have F:=p.aS;have L:=bA s;have t:=f.aR z;have G3:=f.aR A;have j:=(p.ext f).D s;have u:eR (b+1)=b+1:=by grind [dt]
 have w:eR (b -1)=b -1:=by grind [dt]
 rw[u,w];have g:∀d,-((k+1:Nat):Int)<=d->d<=((k+1:Nat):Int)->I d (eR ((k:Int)+1)) c/\μ d (eR ((k:Int)+1)) c<μ b k c:=cG;have D:(0:Int)<=(k:Int)/\(k:Int)<(i.len:Int)/\∃e:N,aR c i.bq (i.off+Int.toNat (k:Int)*5+3)=some e.v/\(0:Int)<=(0:Int)/\(0:Int)<(e.len:Int)/\∃h:Int,aR c e.bq (e.off+Int.toNat (0:Int)*1)=some (vi h)/\
  ((h==v)=true->I (b -1) (eR ((k:Int)+1)) c/\μ (b -1) (eR ((k:Int)+1)) c<μ b k c)/\((h==v)=false->I b (eR ((k:Int)+1)) c/\μ b (eR ((k:Int)+1)) c<μ b k c):=
  ⟨V,V,a,G3,V,V,y,j,λ_=>g _ V V,λ_=>g _ V V⟩
 exact⟨V,V,a,G3,V,V,y,j,λ_=>⟨V,V,_,t,λ_=>g _ V V,λ_=>D⟩,λ_=>D⟩
def Rk(q:∀f∈b,f<m.size)(u:iA m i l)(j:One l)(G:l.length<=100000000000):od 276 [i.v] m b λc=>(∀o∈c,DB l o)/\c.length<=l.length:=by
 apply KS;intro N;have K:=u.aS;refine gP (n:=l.length) V (λk s M=>J m M/\∃c,GI b m M s c/\(∀o∈c,DB l o)/\c.length<=k) ⟨J.push m _,[],GI.gD b m,bO,bW⟩ ?_;rintro k s d I μ H ⟨e,c,p,v,t⟩ C
 refine⟨λh=>?_,λh=>⟨s,c,rfl,p,⟨v,V⟩,e⟩⟩;simp only[bh]at h;let⟨x,w⟩:=dY l k;let⟨z,y,A⟩:=j.at w;obtain⟨a,Q,r,_,E,_,_,g,_⟩:=u.D w;have F:=r.aS;have L:=bA y;refine⟨V,V,a,e.aR g,V,V,z,(r.ext e).D y,?_⟩;refine(pJ (S:=b) (λf t=>cp (q f t) e.aP) (p.cz q V) z V).bZ λP B O g f D=>⟨_,rfl,C V _ _ ⟨e.O D,B,g.da (λ_ h=>h) e.aP,λo j=>?_,oh f.2⟩⟩;rcases f.1 o j with h|h
 .exact v o h
 .subst h;exact A
@[grind cases] structure zR (S:ad) (m m2 M:E) (sd sr vs:N) (ld lr vl:ab):Prop where
 x:J m M
 gd:GI S m M sd ld
 gr:GI S m M sr lr
 gv:GI [] m2 M vs vl
 n1:sd.bq≠sr.bq
 n2:sd.bq≠vs.bq
 n3:sr.bq≠vs.bq
def zR.ext{b:ad}{m d M i:E}{f e h:N}{c j g:ab}(T:zR b m d M f e h c j g)(a:J M i):zR b m d i f e h c j g:=
 ⟨T.x.O a,T.gd.ext a,T.gr.ext a,T.gv.ext a,T.n1,T.n2,T.n3⟩
def zR.ae0{j:ab}(T:zR b m d M f e h c j g)(u:∀i∈b,i<m.size)(s:c.length<=10^12)(t:∀r i,zR b m d i r e h (c++[a]) j g->K r i):
 lS (M.push (.cells (de [.i a]) bE)) bE [.i 0] 8 f (.mk M.size 0 1 1) K:=by
 have o:=T.gr.cD;have p:=T.gv.cD;have v:=T.n1;have w:=T.n2
 refine GI.nA T.gd (T.x.fz []) s λr i n l z q=>t r i ⟨l.ext,n,T.gr.lR (q _ o.2 T.n1.symm),T.gv.lR (q _ p.2 T.n2.symm),?_,?_,T.n3⟩<;>rcases z.2 with k|k<;>omega
def zR.XR{j:ab}(T:zR b m d M f e h c j g)(u:∀i∈b,i<m.size)(s:j.length<=10^12)(t:∀r i,zR b m d i f r h c (j++[a]) g->K r i):
 lS (M.push (.cells (de [.i a]) bE)) bE [.i 0] 8 e (.mk M.size 0 1 1) K:=by
 have o:=T.gd.cD;have p:=T.gv.cD;have v:=T.n1;have w:=T.n3
 refine GI.nA T.gr (T.x.fz []) s λr i n l z q=>t r i ⟨l.ext,T.gd.lR (q _ o.2 T.n1),n,T.gv.lR (q _ p.2 T.n3.symm),?_,T.n2,?_⟩<;>rcases z.2 with k|k<;>omega
def aa9(l:au)(c:au):Prop:=∃b a:ab,c=b.map (iK 14)++a.map (iK 15)/\(∀o∈b,DB l o)/\(∀o∈a,DB l o)/\b.length+a.length<=l.length*l.length
def Cy(u:∀s∈b,s<m.size)(X:iA m i l)(a:One l)(x:l.length<=500000):WA 252 [i.v] m b (aa9 l):=by
 apply Hk;intro v d;have ad:J m d:=(J.push m _).O (J.push v _);have s1:=pz v;have gd:GI b m d (.mk m.size 0 0 0) []:=(GI.gD b m).ext (J.push v _);have Q:GI b m d (.mk v.size 0 0 0) []:=(GI.gD b v).da (λ_ F=>F) V;clear_value d;have aj:l.length*l.length<=250000000000:=fA (QK x x) cH;refine(Rk (b:=[]) bO (X.le ad.le) a V).bZ λh g m3 D ac O=>⟨_,rfl,?_⟩;have hv:bd m3 h g:=(D.cz bO (oh ac.2)).le fG;have an:=hv.aS;have ao:=D.cD;refine Ba (j:=g.length) V (λp f e M=>∃c j,zR b m d M f e h c j g/\(∀o∈c,DB l o)/\(∀o∈j,DB l o)/\c.length+j.length<=p*l.length) ⟨[],[],⟨(ad.O O),gd.ext O,Q.ext O,D,fj,oh gd.cD,oh Q.cD⟩,bO,bO,bO⟩ ?_;rintro p f e m4 ai μ hi ⟨c,j,T,hd,Y,U⟩ ag
 have ae:p*l.length<=l.length*l.length:=fg _ V;have G:∀{M:E}{f e:N}{c j:ab},zR b m d M f e h c j g->bd M h g:=λT=>(T.gv.cz bO V).le fG;refine dit (λF=>?_) λF=>?_
 .let⟨y,z⟩:=dY g p;have aa:=ac.1 y (aZ z);refine⟨V,V,y,(G T).D z,?_⟩;refine(Tc (X.le T.x.le) a V y).bZ λw m5 hn r=>⟨_,rfl,?_⟩;have am:(p+1)*l.length=p*l.length+l.length:=Dw _ _;refine⟨λf k M=>k<=w/\(w<=0->k=w)/\(0<w->0<=k)/\∃H,zR b m d M f e h H j g/\(∀o∈H,DB l o)/\H.length+j.length+k.toNat<=p*l.length+w.toNat,λ_ k _=>k.toNat,⟨V,V,V,c,T.ext r,hd,V⟩,?_⟩;rintro ah k m6 ⟨n1,n2,n3,I,A,W,ak⟩;refine dit (λh1=>?_) λh1=>?_
  .refine⟨V,V,y,(G A).D z,?_⟩;intro q;have t:eR (k -1)=k -1:=iC;rw[t];exact A.ae0 u V λL P B=>⟨⟨V,V,V,_,B,λo a=>by
    rcases bR.1 a with a|a
    .exact W o a
    .simp at a;subst a;exact aa,fj⟩,by dsimp only;omega⟩
  .refine⟨λe q M=>k<=q/\q<=0/\∃K,zR b m d M ah e h I K g/\(∀o∈K,DB l o)/\I.length+K.length+(-q).toNat<=p*l.length+l.length,λ_ q _=>(-q).toNat,⟨V,V,j,A,Y,V⟩,?_⟩;rintro ap q m8 ⟨p1,p2,af,C,Z,al⟩;refine⟨λR=>?_,λR=>ag V _ _ _ ⟨I,af,C,W,Z,V⟩⟩;simp only[bh]at R;refine⟨V,V,y,(G C).D z,?_⟩;intro m9;have t:eR (q+1)=q+1:=iC;rw[t];exact C.XR u V λL P B=>⟨⟨V,V,_,B,λo a=>by
    rcases bR.1 a with a|a
    .exact Z o a
    .simp at a;subst a;exact aa,fj⟩,by dsimp only;omega⟩
 .have o:∀s∈b,s<m4.size:=λs U=>by have:=u s U;have:=T.x.aP;omega
  refine(iE (c:=b) o 14 ((T.gd.cz u V).le fG) V).aO λ_ m5⟨s1,C,k,g1,t,r⟩=>?_;subst k;subst t;refine⟨_,rfl,?_⟩;have q:=g1.cD;refine(iE (c:=s1.bq::b) (dC o r.aP q.2) 15 (((T.ext r).gr.cz u V).le fG) V).aO λ_ m6⟨I,H,k,g2,y,w⟩=>?_;subst k;subst y;refine⟨_,rfl,?_⟩;refine GS.lQ (g1.ext j9.aO w) ((r.O w).fz []) (g2.cz j9.aO (dC o r.aP q.2) cH fj) fj λL P A z _ _=>⟨L,_,rfl,A.da j9.aO (λB x=>bu x) T.x.aP,⟨c,j,rfl,hd,Y,?_⟩,T.x.O z.ext⟩;have:p*l.length<=l.length*l.length:=ae;omega
end
section
variable{a c:Nat}
def MB(a b:Nat):a*a+b*b<=(a+b)*(a+b):=by
 grind [Nat.add_mul,Nat.mul_add]
def UE{b:Nat}(h:a<=b):a*a<=b*b:=QK h h
@[grind cases] structure CN (ds:af) (nr:Nat) (S:ad) (m2 M:E) (a:Nat) (bz:au) (k:Nat) (st run:N) (lo lr:au) (P:Nat):Prop where
 x:J m2 M
 gs:GS (run.bq::S) m2 M st lo
 gr:GS [st.bq] m2 M run lr
 wl:WL ds nr True a lo
 dcs:dc lo=dc (bz.take k)
 sws:sw lo<=P*P
 P':P+2*lr.length<=sw (bz.take k)
 lW:One lr
 rng:∀o,DB lr o->0<=o/\o<((a+dc (bz.take k):Nat):Int)
 ne:st.bq≠run.bq
def Ux{d:af}{l b:au}(h:aa9 l b)(g:∀o,DB l o->0<=o/\o<(a:Int)):WL d c True a b/\dc b=0/\sw b<=(2*l.length)*(2*l.length):=by
 obtain⟨j,i,rfl,e,k,m⟩:=h;refine⟨(vK V λo f=>g o (e o f)).fy ?_,?_,?_⟩
 .grind [nB,vK]
 .grind [eZ,nB]
 .grind [gH,uz,List.length,Nat.mul_mul_mul_comm]
def aeL(e:af)(c:Nat)(b:Bk):Prop:=∀(S:ad)(m:E),(∀d∈S,d<m.size)->∀(t:N)(a:Nat),iA m t b.bz->WB e c True a b->b.w<=400000->rl 231 [.agg #[t.v,vi b.bL]] m S λd=>WB e c True a d/\d.w<=b.w*b.w
def IP{I:af}:∀g:Bk,aeL I c g:=by
 refine Bk.ind ?_;intro bz a4 ih o L hS bH a hs aS hw;have aT:=aS.cC;rw[Bk.vB]at hw⊢;simp only[Bk.mL,Bk.lK]at*;apply BC;simp -zeta only[dU];intro i l ae m3;let⟨x1,hl⟩:=fN (a:=i) (c:=l) rfl rfl;have s0:=pz i;have s1:l.size=L.size+2:=cG;have a9:J l m3:=by grind [J.push,J.O]
 have s2:=pz ae;have aI:∀u,GS u l m3 (.mk l.size 0 0 0) []:=λu=>(GS.bI u l).ext j9.aO (J.push ae _);have aH:∀u,GS u l m3 (.mk ae.size 0 0 0) []:=λu=>(GS.bI u ae).da j9.aO (λg t=>bu t) V;clear_value m3;clear_value l;have aR:=hs.aS;have av:=FF bz;have aK:∀e∈i.size::o,e<l.size:=by grind [dC,J.aP]
 refine Ba (j:=bz.length) (aR▸hs.kA) (λv D z j=>∃X q P,CN I c (i.size::o) l j a bz v D z X q P) ⟨[],[],0,a9,aI _,aH _,WL.gD,rfl,bO,bO,λ_ h=>by simp at h,λag⟨_,h,_⟩=>by simp at h,fj⟩ ?_;rintro v D z B ba μ hk ⟨X,q,P,C⟩ aw
 have x4:=C.x;have O:=x1.O x4;have br:=C.gs.cD;have bq:=C.gr.cD;have aq:=C.P';have bj:=av v;have bb:P*P<=160000000000:=fA (UE (b:=400000) V) cH;have bh:=jH X;have aP:=C.sws;have bi:=C.ne;have K:∀{j:E}{u:ad},B.size<=j.size->(∀e∈u,e<j.size)->∀e∈u++i.size::o,e<j.size:=λh t e f=>by
  grind
 have au:∀{j:E},J B j->iA j z q:=λh=>iA.le fG ((C.gr.ext j9.aO h).rO j9.aO cG cH V);refine dit (λh=>?_) λh=>?_
 .let⟨d,W⟩:=dY bz v;let⟨pa,pk,ha,aa,g0,g1,g2,g3,g4⟩:=hs.D W;refine⟨V,V,_,O.aR g0,_,O.aR g1,_,O.aR g2,_,O.aR g3,_,O.aR g4,?_⟩;intro m5 H;have x6:J B H:=by grind [J.push,J.aV]
  have s6:H.size=B.size+1:=by grind [bD]
  clear_value H;have ab:∀{j:E},H.size<=j.size->∀g∈[B.size,i.size,L.size],g<j.size:=λh g t=>by
   grind
  have bm:=ub W;have bl:=uU W;have aV:=eK.pD d;have U:=aT.1 v d W;have bk:=av (v+1);have bd:=xe d.dm;refine(EU pa pk H).bK (J.cZ H) (ab bW) λbp m7 aL x7 _=>⟨_,rfl,λhp=>?_,λhp=>?_⟩
  · -- a pair goes to the run
   have hp:=aL.1 hp;have Q:d.aN.length=1:=U.iL.lW V;have T:dn d=0:=aU λh:tw d.op=>by have:=h.2;omega
   have F:=x6.O x7;intro Z;have p:Le L (dg (z.bq::[D.bq]) m7):=(Ej (m:=L)).O (((O.O F).fz []).dg bO λe f=>by simp at f;have:=x1.aP;exact bG V);refine GS.nA (x:=d) (C.gr.ext j9.aO F) ((x4.O F).fz []) (ha.le p) (aa.le p) V λaQ M' R s G A=>⟨λe f=>?_,aw V _ _ _ ⟨X,q++[d],P,s.ext,(C.gs.ext j9.aO F).re j9.aO (Y:=[z.bq]) ⟨G.1,λe f k=>A e f cG⟩ bO cG (λe f=>?_),R,C.wl,by rw[C.dcs];omega,aP,fj,λaj k=>?_,λag w=>?_,?_⟩⟩
   .grind [J.aP,J.push,J.bC]
   .grind [List.mem_cons_self,List.mem_cons_of_mem]
   .rcases bR.1 k with k|k
    .exact C.lW aj k
    grind
   .let⟨aj,k,r⟩:=w;have y:dc (bz.take (v+1))=dc (bz.take v):=V;rw[y];rcases bR.1 k with k|k
    .exact C.rng ag ⟨aj,k,r⟩
    .simp at k;subst k;exact U.iL.aN ag r
   grind [CN.gs,Gr.ext,j9.aO,Gr.cD]
  · -- another step ends the run
   have F:=x6.O x7;have aA:=F.aP;refine(Cy (b:=[D.bq,z.bq]++i.size::o) (K aA cG) (au F) C.lW V).bK (J.cZ m7) (ab x7.aP) λbC aX bs aE a1 ax _=>⟨_,rfl,?_⟩;let⟨a6,am,a7⟩:=Ux (d:=I) (c:=c) a1 C.rng;have bf:=jH aX;have CE:=ax.aP;have z7:=x7.aP;have aJ:(2*q.length)*(2*q.length)<=160000000000:=fA (UE (b:=400000) V) cH;have az:=F.O ax;refine GS.lQ (C.gs.ext j9.aO az) ((x4.O az).fz []) (aE.cz j9.aO (K (u:=[D.bq,z.bq]) aA fj) cH V) V λw r ap aC a_ a2=>⟨λe f=>a2 e (ab V e f) cG,?_⟩;have an:J l r:=aC.ext;have bn:=ap.cD;have bc:w.bq=D.bq\/H.size<=w.bq:=by have:=a_.2;omega
   intro s al;have ay:=px s;have bF:s.size=r.size+1:=cG;have a8:=px al;have ao:=an.O ay;have gn:GS [w.bq] l s (.mk r.size 0 0 0) []:=(GS.bI _ r).da j9.aO (λg t=>bu t) an.aP;have gk:GB ([w.bq,r.size]++i.size::o) s al (.mk s.size 0 0 0) []:=GB.bI s;have aF:GS ([r.size]++i.size::o) l s w _:=ap.re j9.aO (Y:=[]) (ay.fz []) bO bO λe f=>by
    rcases aY.1 f with y|y
    .grind
    .exact bu (aW _ y)
   clear_value al;clear_value s;have ak:=aa.aS;have be:bw d.dm<=400000:=V;refine gP (n:=d.dm.length) (ak▸aa.kA) (λA a5 j=>J s j/\∃p,GB ([w.bq,r.size]++i.size::o) s j a5 p/\p.length=A/\(∀(G:Nat)(g:Bk),p[G]? =some g->WB I c True (a+dc (bz.take v)+FR I d.op d.cE G) g)/\bw p<=bw (d.dm.take A)*bw (d.dm.take A)) ⟨a8,[],gk,rfl,bO,bO⟩ ?_;rintro A ks ac I2 μ2 hj ⟨Z,p,R,bg,aN,aM⟩ a0;have ah:=x1.O (ao.O Z);have bI:=Z.aP;have bo:=R.cD;have T:∀g∈[B.size,i.size,L.size],g<ac.size:=cG;refine dit (λh2=>?_) λh2=>?_
   .let⟨g,t⟩:=dY d.dm A;let⟨tb,aO,f0,f1⟩:=aa.D t;have a3:=AZ t;have aD:=yL t;refine⟨V,V,_,ah.aR f0,_,ah.aR f1,?_⟩;refine(ih d (aZ W) g (aZ t) ([ks.bq,w.bq,r.size]++i.size::o) ac (K V fj) tb _ (aO.le ah.le) (U.dm A g t) V).bK (J.cZ ac) T λss b' bt aG aB ai _=>⟨_,_,rfl,?_⟩;refine GB.nA (c:=b') (R.ext vD.aO ai) ((Z.O ai).fz []) aG V λaQ M' g2 f2 z2 q2=>⟨J.sK ((Z.O ai).cw _) f2.ext (λe f=>oh (ab (j:=s) V e f)),a0 V _ _ ⟨f2.ext,_,g2,fj,λG b2 Q=>?_,?_⟩⟩
    .rcases eJ G p.length with ar|ar
     .grind [List.getElem?_append_left]
     .rw[dL ar]at Q;have:G -p.length=0:=by have:=bA Q;simp at this;omega
      rw[this]at Q;simp at Q;subst Q;have:G=A:=V;grind
    .rw[sX,yK,DM,aD];have h3:=MB (bw (d.dm.take A)) g.w;have:=aB.2;omega
   .have aO:p.length=d.dm.length:=V;rw[eW V]at aM;refine(dA ([w.bq,r.size]++i.size::o) (ha.ext ah) V).bK (J.cZ ac) T λs' l' bt ga y Q _=>⟨_,rfl,bB (Q.bC _ (T _ bO)) _,bB (Q.bC _ (T _ bO)) _,bB (Q.bC _ (T _ bO)) _,?_⟩;subst y;intro bv;have ai:=Z.O Q;have bJ:=Q.aP;have ar:∀e∈[w.bq,r.size]++i.size::o,e<s.size:=K V fj;have aQ:w.bq≠r.size:=V;refine GS.nA (x:=⟨d.op,d.cE,d.cY,d.aN,p⟩) (aF.ext j9.aO ai) ((ao.O ai).fz []) (ga.cz (λe f=>oh (ar e f)) V) (rI.le Q.eU (R.cz vD.aO ar cH cG)) cG λbE bx aG aD bK a3=>⟨λe f=>?_,aw V _ _ _ ⟨_,[],P+2*q.length+d.w,aD.ext,aG,?_,((C.wl.fy cG).By (U.Uj id U.iL.cY aO aN|>λh=>by rw[eZ,C.dcs,am,uq];exact h)),?_,?_,fj,λ_ h=>by simp at h,λag⟨_,h,_⟩=>by simp at h,?_⟩⟩
    .grind [J.push,J.bC]
    · -- the new run is empty
     have y:=gn.ext j9.aO ai;let⟨p0,aB,p1,p2⟩:=y;refine⟨p0,aB,p1.congr (a3 _ (by have:=ai.aP;show r.size<_;omega) (ur aQ)),p2.aS,p2.aP,λG cs aj _ k=>by simp at k⟩
    .rw[eZ,eZ,C.dcs,am,nH,xh];have y:dn (⟨d.op,d.cE,d.cY,d.aN,p⟩:eK)=dn d:=rfl;omega
    .rw[gH,gH,pW,zJ];have h3:=MB P (2*q.length);have h4:=MB (P+2*q.length) d.w;have h5:(⟨d.op,d.cE,d.cY,d.aN,p⟩:eK).w=1+d.aN.length+bw p:=eK.pD _;have k:=MB (1+d.aN.length) (bw d.dm);have h7:1+d.aN.length<=(1+d.aN.length)*(1+d.aN.length):=by grind [Nat.le_mul_of_pos_left]
     rw[<-aV]at k;omega
    grind [N.bq,Array.size]
 .have ak:v=bz.length:=V;subst ak;rw[fx]at aq;have hd:dc (bz.take bz.length)=dc bz:=by rw[fx]
  have k:∀g∈[i.size,L.size],g<B.size:=by grind [J.lt]
  refine(Cy (b:=[D.bq,z.bq]++i.size::o) (K bW cG) (au di) C.lW V).bK (J.cZ B) k λT p H w A d _=>⟨_,rfl,bB (d.bC _ (k _ bO)) _,?_⟩;let⟨a6,am,a7⟩:=Ux (d:=I) (c:=c) A C.rng;have G:=jH p;have aJ:(2*q.length)*(2*q.length)<=160000000000:=fA (UE (b:=400000) V) cH;refine GS.lQ (C.gs.ext j9.aO d) ((x4.O d).fz []) (w.cz j9.aO (K (u:=[D.bq,z.bq]) bW fj) cH V) V λF Q y s U r=>⟨λe f=>r e (d.lt (k e f)) (oh (hl e f)),bB (r _ (d.lt (k _ bO)) V) _,?_⟩;intro R;refine⟨F,.mk (X++p) a4,rfl,iA.le (dQ bO λe f=>aW _ f) ((y.re j9.aO (S':=i.size::o) (Y:=[]) nK bO bO (λe f=>bu (aW _ f))).cz j9.aO aK cH fj),⟨WB.of (C.wl.fy cG) ?_,?_⟩,(x1.O s.ext).aV V _ _⟩
  .grind [eZ,CN.dcs]
  .rw[Bk.vB,gH];have h3:=MB P (2*q.length);have h4:=UE aq;have h5:=MB 1 (sw bz);omega
end
section
variable{e:ad}{c:E}{d f:N}{g:List jS}{W:Nat}
def LU(z:∀a∈e,a<c.size){i:af}(j:ir c d f i g)(hW:W<=400000)(T:CH i g True W):zg 195 [.agg #[d.v,f.v]] c e i λt=>CH i t True (W*W):=by
 apply EF;simp -zeta only[dU];intro b a2;let⟨w,A⟩:=fN (a:=b) (c:=a2) rfl rfl;have s1:=pz b;clear_value a2;have ak:=j.lz.aS;have au:=j.pF;refine(jw (b:=b.size::e) (dC z w.aP (A _ bO)) (j.le w.le).bQ j.dh).aO λ_ D⟨aa,ab,ag,F⟩=>?_;subst ab;refine⟨F.fq A,_,rfl,?_⟩;intro E ao X;have u2:=w.O F;let⟨x5,B0,g0,s3,s5⟩:=nY (b:=E.size::b.size::e) kZ.aO (d:=D) (a:=E) (c:=ao) (j:=X) rfl rfl rfl;clear_value X;have s:∀a∈[b.size,c.size],a<D.size:=by grind [J.lt]
 have ae:∀a∈b.size::e,a<D.size:=λa r=>F.lt (dC z w.aP (A _ bO) a r);refine nO (R:=λh k M=>∃d f t,Value.agg #[h.v,k.v]=.agg #[d.v,f.v]/\ir (dg e M) d f i t/\CH i t True (W*W)/\J c M) (q:=g.length) (f:=c) (b:=e) kZ.aO cH cH z ⟨V,s _ bO⟩ u2 s3 ag ak V x5 B0 g0 (λ_ q=>q.aX.length<=3/\q.cR.length<=3/\WB i g.length True q.aX.length q.eV/\q.eV.w<=W*W) (λh u C v O P k o p=>⟨h,u,C,rfl,⟨O,P,j.dh,V⟩,Lz T.iT k o,p⟩) λan M Y C aq μ ah ar H N B ap=>?_
 let⟨q,U⟩:=dY g an ah;let⟨aj,ai,am,hw⟩:=T.eN q (aZ U);have u:=u2.O H;let⟨av,aw,h,c1,c2,c3,I,K,L,x,y⟩:=j.lz.D U;have G:∀{v:Value}{h o:Nat},aR c h o=some v->aR M h o=some v:=λac=>u.aR ac;refine⟨Y,B.dz 1,V,V,_,G I,_,G K,_,G L,_,G x,_,G y,V,V,_,G x,_,G y,?_⟩;have hy:=N.cD;have ad:=B.lt;refine(IP q.eV (Y.bq::E.size::b.size::e) M (λa r=>?_) h q.aX.length (c3.le u.le) am V).bK H s λss b' M1 al Q k Z=>⟨_,_,rfl,?_⟩
 .grind
 have p:∀{v:Value}{h o:Nat},aR c h o=some v->aR M1 h o=aR M h o:=by grind [J.aR]
 refine⟨p I,p K,p L,p x,p y,bB (k.bC _ (H.lt (s _ bO))) _,bB (k.bC _ ad) _,?_⟩;exact Al (b:=b.size::e) (v:=aa) (x:=C) ae (λa r=>by have O:=s a r;have P:=Z.aP;omega) Z (N.ext kZ.aO k) (B.ext k) V (c1.ext (u.O k)) (c2.ext (u.O k)) al ⟨V,V⟩ V λs' P g' O x'=>ap s' P _ g' O x' ⟨aj,ai,Q.1,fA Q.2 (UE hw)⟩
def ac9(b:Bk):Prop:=∀(e:ad)(c:E),(∀a∈e,a<c.size)->∀t:N,iA c t b.bz->b.w<=10^12->rl 294 [.agg #[t.v,vi b.bL]] c e (b=·)
def Cw(W:∀i∈e,i<c.size){w z:N}{x:eK}(F:bd c w x.aN)(t:rI c z x.dm)(hw:x.w<=10^12)(O:∀h∈x.dm,ac9 h):OF 325 [tr x w z] c e (x=·):=by
 apply GM;simp -zeta only[dU];intro a d v;let⟨P,H⟩:=fN (a:=a) (c:=d) rfl rfl;have s0:=pz a;have s1:d.size=c.size+2:=cG;have Q:=px v;have D:GB (a.size::e) d v (.mk d.size 0 0 0) []:=GB.bI d;clear_value v;clear_value d;have q:∀i∈a.size::e,i<d.size:=by grind [dC,J.aP]
 have G:=t.aS;have aa:=eK.pD x;have X:=xe x.dm;refine gP (n:=x.dm.length) (G▸t.kA) (λu s M=>J d M/\GB (a.size::e) d M s (x.dm.take u)) ⟨Q,D⟩ ?_;rintro u s m S μ Z ⟨o,l⟩ M
 have k:=P.O o;have j:∀h∈[a.size,c.size],h<m.size:=by grind [J.lt]
 have L:=l.cD;have R:=o.aP;refine dit (λE=>?_) λE=>?_
 .let⟨h,r⟩:=dY x.dm u;let⟨tb,K,B,C⟩:=t.D r;have Y:=AZ r;refine⟨V,V,_,k.aR B,_,k.aR C,?_⟩;refine(O h (aZ r) (s.bq::a.size::e) m (dC q R L.2) tb (K.le k.le) V).bK (J.cZ m) j λss U A I p g _=>⟨_,_,rfl,?_⟩;subst p;refine GB.nA (c:=h) (l.ext vD.aO g) ((o.O g).fz []) I cG λf T g2 y z2 q2=>⟨J.sK ((o.O g).cw _) y.ext H,M V _ _ ⟨y.ext,?_⟩⟩;grind [bX]
 .rw[eW V]at l;refine(dA (a.size::e) (F.ext k) V).bK (J.cZ m) j λI K A B p g _=>⟨_,rfl,bB (g.bC _ (j _ bO)) _,bB (g.bC _ (j _ bO)) _,bB (g.bC _ (j _ bO)) _,?_⟩;subst p;intro C;have y:Le (dg (a.size::e) A) (dg e C):=dQ bO λi r=>aW _ r;exact⟨I,s,x,rfl,(B.cz (λi r=>oh (q i r)) V).le y,rI.le y ((l.ext vD.aO g).cz vD.aO q cH V),rfl,(k.O g).aV V _ _⟩
def Av:∀t:Bk,ac9 t:=by
 refine Bk.ind ?_;intro bz h ih e c hS af v hw;rw[Bk.vB]at hw;simp only[Bk.mL,Bk.lK]at*;apply vx;simp -zeta only[dU];intro f b d C k;let⟨x1,X⟩:=fN (a:=f) (c:=b) rfl rfl;have s0:=pz f;have s1:b.size=c.size+2:=cG;have s2:=pz d;have s3:=pz C;have F:J d k:=by grind [J.push,J.aV]
 have ab:J b k:=(J.push b _).O F;have u:GS (d.size::f.size::e) b k (.mk b.size 0 0 0) []:=(GS.bI _ b).ext j9.aO F;have H:dJ k d.size fm [.s (.mk b.size 0 0 0),.i h]:=dJ.aV (m:=C) (o:=0) (r:=[.s (.mk b.size 0 0 0),.i h]) (dJ.push d _ _);clear_value k;have Q:∀p∈f.size::e,p<b.size:=by grind [dC,J.aP]
 have Z:=v.aS;have ad:=jH bz;refine ik (n:=bz.length) (Z▸v.kA) (λx M=>J b M/\∃s,GS (d.size::f.size::e) b M s (bz.take x)/\dJ M d.size fm [.s s,.i h]) ⟨ab,_,u,H⟩ ?_;rintro x y ac μ hk ⟨z,s,j,B⟩ aa
 have g:=x1.O z;have Y:∀t∈[f.size,c.size],t<y.size:=by grind [J.lt]
 have hy:=j.cD;have z5:=z.aP;have A:=B.lt;refine dit (λP=>?_) λP=>?_
 .let⟨E,w⟩:=dY bz x;let⟨pa,pk,R,W,u,g1,g2,N,O⟩:=v.D w;have ae:=Tj w;refine⟨s,B.dz 0,V,V,_,g.aR u,_,g.aR g1,_,g.aR g2,_,g.aR N,_,g.aR O,?_⟩;refine(Cw (e:=s.bq::d.size::f.size::e) (dC (dC Q z5 A) bW hy.2) (R.ext g) (W.le g.le) V (ih E (aZ w))).bK (J.cZ y) Y λI K x' D T U L l _=>⟨_,_,_,_,_,rfl,bB (l.bC _ A) _,?_⟩;subst L;intro m7;refine Gr.bT (g:=[.i 0,.i 0,.i 0,.s .nil,.s .nil]) (j:=0) (i:=[.s s,.i h]) (u:=E) j9.aO cH (j.ext j9.aO l) ((z.O l).fz []) ⟨I,K,rfl,T,U⟩ cG (B.ext l) bO cH ⟨V,bO⟩ (λp q=>by have G:=X p q;have M:=l.aP;omega) λr' m' g' G M z' q'=>aa V _ ⟨M.ext,r',?_,G⟩
  grind [bX]
 .rw[eW V]at j;refine⟨s,B.dz 0,h,B.dz 1,?_⟩;intro D;have w:=j.ne B cH;have l:Le (dg (d.size::f.size::e) y) (dg e D):=dQ bO λp q=>aW _ (aW _ q);refine⟨s,.mk bz h,rfl,iA.le l (j.rO j9.aO (λq=>?_) cH (by show bz.length<=_;omega)),rfl,g.aV V _ _⟩;grind
def aeJ(b:Bk):Prop:=∀(c:E)(t:N)(f:Int),iA c t b.bz->sU 326 [.agg #[t.v,vi b.bL],vi f] c
def NI:∀b:Bk,aeJ b:=by
 refine Bk.ind ?_;intro bz Y G c t s m;simp only[Bk.mL,Bk.lK]at*;apply GJ;simp -zeta only[dU];intro g;have A:=px g;have D:∀b∈[c.size],b<g.size:=by simp[g]
 clear_value g;have F:=m.aS;refine ik (n:=bz.length) (F▸m.kA) (λ_ M=>J g M) di ?_;rintro k o I μ X r O
 have h:=A.O r;refine⟨λj=>?_,λ_=>rA h⟩;simp only[bh]at j;let⟨x,v⟩:=dY bz k;let⟨pa,w,U,l,B,g1,g2,T,u⟩:=m.D v;have C:=l.aS;have L:∃(i:Int->E->Prop)(μ0_1:Int->E->Nat),i (0:Int) o/\(∀(a:Int)(M:E),i a M->
  (0:Int)<=(k:Int)/\(k:Int)<(t.len:Int)/\∃q:N,aR M t.bq (t.off+Int.toNat (k:Int)*5+4)=some q.v/\
  ((decide (a<(q.len:Int)))=true->(0:Int)<=(k:Int)/\(k:Int)<(t.len:Int)/\∃d:N,aR M t.bq (t.off+Int.toNat (k:Int)*5+4)=some d.v/\
   (0:Int)<=a/\a<(d.len:Int)/\∃y:N,aR M d.bq (d.off+a.toNat*2)=some y.v/\∃z:Int,aR M d.bq (d.off+a.toNat*2+1)=some (vi z)/\
   bJ dN 326 [.agg #[y.v,vi z],vi s] M λf e=>gL [c.size] M e/\∃p:Bool,f=vb p/\(p=true->∃b:Bool,vb true=.bool b/\J c e)/\(p=false->i (eR (a+(1:Int))) e/\μ0_1 (eR (a+(1:Int))) e<μ0_1 a M))/\
  ((decide (a<(q.len:Int)))=false->I (eR ((k:Int)+(1:Int))) M/\μ (eR ((k:Int)+(1:Int))) M<μ k o)):=by
  refine ik (n:=x.dm.length) (C▸l.kA) (λ_ M=>J o M) di ?_
  rintro H M R μ2 W d K
  have a:=h.O d
  refine⟨V,V,w,a.aR u,λj=>?_,λ_=>O V _ (r.O d)⟩
  simp only[bh]at j
  let⟨b,p⟩:=dY x.dm H
  let⟨tb,z,q,y⟩:=l.D p
  refine⟨V,V,w,a.aR u,V,V,_,a.aR q,_,a.aR y,?_⟩
  exact(G x (aZ v) b (aZ p) M tb s (z.le a.le)).bK (r.O d) D λS e Q P=>⟨_,rfl,λ_=>rA (A.O P),λ_=>K V _ (d.O Q)⟩
 exact⟨V,V,_,h.aR B,λ_=>⟨V,V,_,h.aR g1,λ_=>rA h,λ_=>L⟩,λ_=>L⟩
def NQ{o:af}(h:ir c d f o g)(i:Int):sU 295 [.agg #[d.v,f.v],vi i] c:=by
 apply G5;simp -zeta only[dU];intro a;have k:=px a;have s:∀e∈[c.size],e<a.size:=by simp[a]
 clear_value a;have H:=h.lz.aS;have G:=h.pF;refine ik (n:=g.length) V (λ_ M=>J a M) di ?_;rintro u v I μ F l w
 have b:=k.O l;refine⟨λr=>?_,λ_=>rA b⟩;simp only[bh]at r;let⟨x,t⟩:=dY g u;let⟨K,L,e,A,B,m,C,D,E,p,q⟩:=h.lz.D t;exact⟨V,V,_,b.aR p,_,b.aR q,(NI x.eV v e i (m.le b.le)).bK l s λz y M j=>⟨_,rfl,λ_=>rA (k.O j),λ_=>w V _ j⟩⟩
abbrev GII(e:ad)(a c:E)(s:N)(l:List ab):Prop:=Gr e a c Ch 1 nm s l
def Kq(Z:∀a∈e,a<c.size){R:af}(o:ir c d f R g)(hp:∀y∈g,y.aX.length<=3):
 bJ dN 260 [.agg #[d.v,f.v]] c λae G=>∃s l,ae=s.v/\rJ (dg e G) s l/\l.length=g.length/\(∀a∈l,a.length<=3)/\J c G:=by
 apply C7
 simp -zeta only[dU]
 intro b x
 have O:=px b
 have v:∀z∈[c.size],z<b.size:=by simp[b]
 have ag:=px x
 have W:GII e b x (.mk b.size 0 0 0) []:=Gr.bI e bW
 clear_value x
 clear_value b
 have ak:=o.lz.aS;have aj:=o.pF
 have C:∀a∈e,a<b.size:=λa u=>O.lt (Z a u)
 refine gP (n:=g.length) V (λk s M=>J b M/\∃l,GII e b M s l/\l.length=k/\∀a∈l,a.length<=3) ⟨ag,[],W,rfl,bO⟩ ?_
 rintro k s H P μ hk ⟨r,l,t,ah,B⟩ aa
 have q:=O.O r
 have h:=t.cD
 refine dit (λY=>?_) λY=>?_
 .let⟨y,D⟩:=dY g k
  let⟨ac,al,z,Q,c2,c3,T,e1,e2,e3,e4⟩:=o.lz.D D
  have ai:=hp y (aZ D)
  have j7:∀(M:E)(i:N)(a:ab),J H M->bd (dg (s.bq::e) M) i a->a.length<=3->lS (M.push (.cells (de [.s i]) Ch)) Ch [.s N.nil] 24 s (N.mk M.size 0 1 1) λK m=>gL [c.size] (M.push (.cells (de [.s i]) Ch)) m/\P K (eR ((k:Int)+(1:Int))) m/\μ K (eR ((k:Int)+(1:Int))) m<μ s k H:=λM i a w hf u=>
   Gr.nA (g:=[.s .nil]) nm.aO cH (t.ext nm.aO w) ((r.O w).fz []) ⟨i,rfl,hf⟩ V λr' m U A _ _=>⟨J.sK ((r.O w).cw _) A.ext v,aa V _ _ ⟨A.ext,_,U,fj,λj h=>by
    rcases bR.1 h with h|h
    .exact B j h
    .simp at h;subst h;exact u⟩⟩
  refine(NQ (o.le q.le) k).bK r v λa m4 j L=>⟨_,rfl,λ_=>?_,λ_=>⟨V,V,ac,(q.O j).aR T,?_⟩⟩
  .intro p m6
   exact j7 p _ [] (j.cw _) pN bO
  .refine(vS (S:=[]) bO (j:=0) ((Q.ext (q.O j)).le Ej) V).bK L v λad F p X I x5 u5=>⟨_,rfl,?_⟩
   intro m6
   have hg:GI (s.bq::e) m4 p ad F:=X.jQ
   exact j7 p _ F (j.O x5) (hg.cz (dC C L.aP (oh j.aP)) (oh I.2)) (oh I.2)
 .exact⟨s,l,rfl,t.cz nm.aO C cH V,V,B,q⟩
def aeK(a:af)(g:List jS)(b:Bk):Prop:=∀(c:E)(d f t:N)(v:Int)(h:Prop)(e:Nat),ir c d f a g->iA c t b.bz->WB a g.length h e b->sU 296 [.agg #[d.v,f.v],.agg #[t.v,vi b.bL],vi v] c
def EH{A:af}:∀b:Bk,aeK A g b:=by
 refine Bk.ind ?_;intro bz ag Z c d f ah ac l ae B s X;have Y:=X.cC.1;simp only[Bk.mL,Bk.lK]at*;apply zB;simp -zeta only[dU];intro G u;let⟨K,hl⟩:=fN (a:=G) (c:=u) rfl rfl;clear_value u;have U:=s.aS;refine⟨λ_=>rA K,λ_=>?_⟩;refine ik (n:=bz.length) (U▸s.kA) (λ_ M=>J u M) di ?_;rintro F v ad μ hk L ab
 have e:=K.O L;refine⟨λi=>?_,λ_=>rA e⟩;simp only[bh]at i;let⟨x,t⟩:=dY bz F;let⟨pa,pk,m,q,P,g1,g2,Q,R⟩:=s.D t;have C:=Y F x t;have S:=m.aS;have T:=q.aS;refine⟨V,V,_,e.aR P,_,e.aR g1,_,e.aR g2,_,e.aR Q,_,e.aR R,?_⟩;intro m3 j;have N:J v j:=by grind [J.push,J.aV]
 have s4:j.size=v.size+1:=by grind [bD]
 clear_value j;have r:∀b∈[v.size,G.size,c.size],b<j.size:=λb o=>by
  grind [J.O,J.lt]
 refine ik (n:=x.aN.length) (S▸m.kA) (λ_ M=>J j M) di ?_;rintro E H I1 μ1 hj k y;have z:=(e.O N).O k;refine⟨λi=>?_,λ_=>?_⟩
 .simp only[bh]at i;let⟨W,O⟩:=dY x.aN E;refine⟨V,V,W,(m.ext z).D O,λ_=>?_,λ_=>y V _ k⟩;refine(Cv x.op H).bK k r λl w h D=>⟨_,rfl,λ_=>?_,λ_=>y V _ D⟩;have a:=z.O h;exact(rV (⟨B.le a.le,m.ext a,C.iL.jr⟩:At w d f pa pk A g x) E).bK D r λl m7 p I=>⟨_,rfl,λ_=>rA (a.O p),λ_=>y V _ I⟩
 .refine ik (n:=x.dm.length) (T▸q.kA) (λ_ M=>J H M) di ?_;rintro D w I2 μ2 hi h aa;have a:=z.O h;refine⟨λi=>?_,λ_=>ab V _ (((L.O N).O k).O h)⟩;simp only[bh]at i;let⟨b,o⟩:=dY x.dm D;let⟨tb,W,M,O⟩:=q.D o;refine⟨V,V,_,a.aR M,_,a.aR O,?_⟩;exact(Z x (aZ t) b (aZ o) w d f tb ac l _ (B.le a.le) (W.le a.le) (C.dm D b o)).bK (k.O h) r λl m7 p I=>⟨_,rfl,λ_=>rA (a.O p),λ_=>aa V _ (h.O p)⟩
def NS(Y:∀h∈e,h<c.size){z:af}(r:ir c d f z g){h:Prop}(N:CH z g h W){A:Nat}{q:jS}(s:g[A]? =some q):od 261 [.agg #[d.v,f.v],vi A] c e λl=>l.length<=q.cR.length:=by
 apply G6;simp -zeta only[dU];intro b u;have F:=px b;have C:∀k∈[c.size],k<b.size:=by simp[b]
 have Q:=px u;have L:GI e b u (.mk b.size 0 0 0) []:=GI.gD e b;clear_value u;clear_value b;have ae:=r.lz.aS;have aa:=bA s;let⟨ad,ac,O,hw⟩:=N.eN q (aZ s);let⟨ah,w,k,S,m,H,U,o,X,I,K⟩:=r.lz.D s;have ag:=m.aS;refine gP (n:=q.cR.length) V (λt v M=>J b M/\∃l,GI e b M v l/\l.length<=t) ⟨Q,[],L,bW⟩ ?_;rintro t v P R μ ab ⟨G,l,p,Z⟩ E
 have a:=F.O G;refine⟨V,V,w,a.aR o,λi=>?_,λi=>⟨v,l,rfl,p.da (λ_ i=>i) F.aP,V,a⟩⟩;simp only[bh]at i;let⟨y,D⟩:=dY q.cR t;refine⟨V,V,_,a.aR I,_,a.aR K,V,V,w,a.aR o,V,V,y,(m.ext a).D D,?_⟩;refine(EH q.eV P d f k y h _ (r.le a.le) (H.le a.le) O).bK G C λT m4 j x=>⟨_,rfl,λ_=>⟨V,V,w,(a.O j).aR o,V,V,y,(m.ext (a.O j)).D D,?_⟩,λ_=>E V _ _ ⟨x,l,p.ext j,V⟩⟩;intro m5;exact GI.nA (p.ext j) (x.fz []) V λf m6 M B _ _=>⟨J.sK (x.cw _) B.ext C,E V _ _ ⟨B.ext,_,M,fj⟩⟩
end
end Go.Proofs.YtbbbdejieenniaaGreat
