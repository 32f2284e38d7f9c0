/- Part of a proof. -/
import Derived.Test.YtkoifinbblcbiaaGreatTB00
set_option linter.all false
set_option maxHeartbeats 8000000
set_option maxRecDepth 100000
namespace Go.Proofs.YtkoifinbblcbiaaGreat
open Go.Vc
section
open Tryz
variable{m:E}{R:Value->E->Prop}
variable{a b p d e f g h r u v w x y z B:O}{i j k l q o s t C D F G H I J K:Int}
def Cv(p:Nat×Nat):=cZ m R A0 [p] func167
def zq(p:Nat×Nat):=cZ m R A0 [p,.agg [i,j,k,l,a,b]] func168
def rJ(a:O):=cZ m R A0 [a,i] func169
def Ac(i:Int):=cZ m R A0 [i] func170
def nR(e:Nat×Nat)(i:Int)(n:Int)(c:O)(m:E)(R:Value->E->Prop):Prop:=
 let k:E:=m.push (.cells (bA [.i i,.i n,.s c]) 46)
 rX m.size m.size (
 ((i==(1:Int))=true->
 R (vb true) k)/\
 ((i==(1:Int))=false->
 let v:E:=k.push (.map #[] 0)
 rX m.size m.size (
 ∃(o:Int->E->Prop)(μ0:Int->E->Nat),
 o (0:Int) v/\
 (∀(b:Int)(f:E),o b f->
 ((decide (b<(c.len:Int)))=true->
 (0:Int)<=b/\b<(c.len:Int)/\
 ∃t:Int,af f c.D (c.off+Int.toNat b*1)=some (vi t)/\
 ∃u:O,af f e.1 (e.2+3+5)=some (O.v u)/\
 aM cq 153 [O.v u,vi t] f λw g=>
 dY [m.size] f g/\
 ∃d:Int,∃q:Bool,w=.tuple #[vi d,vb q]/\
 (q=true->
 ∃l,Dw g k.size l/\
 ∃s,Dw g k.size s/\
 ∀a:E,Dw a k.size (JM s d (cR ((vx l d)+(1:Int))))->a.size=g.size->(∀j,j≠k.size->a[j]? =g[j]?)->
 dY [m.size] g a/\
 ∃h:O,af a e.1 (e.2+3+5)=some (O.v h)/\
 (0:Int)<=d/\d<(h.len:Int)/\
 ∃r:Int,af a h.D (h.off+Int.toNat d*3)=some (vi r)/\
 ∃p,Dw a k.size p/\
 af a h.D (h.off+Int.toNat d*3)=af a h.D (h.off+Int.toNat d*3)/\
 af a e.1 (e.2+3+5)=af a e.1 (e.2+3+5)/\
 ((decide ((cR (r+(vx p d)))>(999999:Int)))=true->
 R (vb false) a)/\
 ((decide ((cR (r+(vx p d)))>(999999:Int)))=false->
 JE (SV.box m.size 46 [.i i,.i n,.s c]) (SV.box m.size 46 [.i i,.i n,.s c]) (
 o (cR (b+(1:Int))) a/\μ0 (cR (b+(1:Int))) a<μ0 b f)))/\
 (q=false->
 JE (SV.box m.size 46 [.i i,.i n,.s c]) (SV.box m.size 46 [.i i,.i n,.s c]) (
 o (cR (b+(1:Int))) g/\μ0 (cR (b+(1:Int))) g<μ0 b f)))/\
 ((decide (b<(c.len:Int)))=false->
 R (vb true) f)))))
def sW(a:Nat×Nat)(b:Int)(d:Int)(e:O)(m:E)(R:Value->E->Prop)(f:nR a b d e m R):aM cq 171 [vp a.1 a.2,.agg #[vi b,vi d,O.v e]] m R:=
 qP (o:=⟨[(5,[(17,.I)])],[],[(5,[54])]⟩) (d:=51) (r:=[.tmp 4]) (a:=[.c (.p a.1 a.2),.agg [.i b,.i d,.s e]]) Mw Yd Yi Tryz.func171 (m:=HA Tryz.f171) (by kernel_rfl) (by kernel_rfl) (by kernel_rfl) (by kernel_rfl) aL (by kernel_rfl) (Eq.mp (by kernel_rfl) f)
def tR(a:O):=cZ m R ⟨[(4,[(13,.I)])],[],[]⟩ [a,b] func172
def yT(a:O):=cZ m R ⟨[(3,[(3,.S),(8,.I)])],[],[]⟩ [a] func173
def JI(i:Int):=cZ m R A0 [i,j,k] func174
def yR(p:Nat×Nat):=cZ m R A0 [p,i,a] func175
def Ag(p:Nat×Nat):=cZ m R ⟨[(1,[(2,.I)])],[],[]⟩ [p] func176
def EF(i:Int):=cZ m R A0 [i] func179
def sD(p:Nat×Nat):=cZ m R ⟨[(2,[(5,.I)]),(6,[(6,.I),(7,.I)])],[],[]⟩ [p,a] func180
def zm(a:O):=cZ m R ⟨[(3,[(3,.S),(4,.I)])],[],[]⟩ [a] func181
def Da(a:O):=cZ m R ⟨[(4,[(5,.I)])],[],[]⟩ [a,b] func182
def Fl(i:Int):=cZ m R ⟨[(3,[(5,.S),(6,.I)])],[],[(3,[28])]⟩ [.agg [i,j,k,a,b,p],d] func183
def Ik(i:Int):=cZ m R A0 [i] func184
end
section
open Tryz
variable{m:E}{R:Value->E->Prop}
variable{a b c d e f g h p q r u v w x y:O}{i j k l n o s t z A B C D F G H:Int}
def AQ(a:O):=cZ m R ⟨[(2,[(3,.I)])],[],[]⟩ [a] func185
def IH(a:O):=cZ m R A0 [a,i,j,b] func186
def uZ(a:O):=cZ m R A0 [a,b] func187
def uG(p:Nat×Nat):=cZ m R A0 [p,i] func188
def Kl(a:O):=cZ m R ⟨[(2,[(3,.I)])],[],[]⟩ [a] func189
def rQ(p:Nat×Nat):=cZ m R ⟨[(3,[(7,.S),(8,.I)])],[],[(3,[42])]⟩ [p,.agg [i,j,k,l,a,b],c] func190
def IQ(i:Int):=cZ m R A0 [i] func191
def yO(a:O):=cZ m R ⟨[(4,[(14,.I)]),(9,[(56,.I)]),(15,[(76,.I)])],[(8,[])],[(8,[110]),(9,[110]),(15,[110])]⟩ [a] func192
def Cp(a:O):=cZ m R ⟨[(2,[(9,.I)])],[],[]⟩ [a,b] func193
def Gc(a:O):=cZ m R A0 [a,i] func194
def Cr(a:O):=cZ m R A0 [a,i] func195
def Ak(a:O):=cZ m R A0 [a,i] func196
def Bw(a:O):=cZ m R ⟨[(6,[(6,.I)]),(12,[(7,.I)])],[],[(6,[105]),(12,[105])]⟩ [a,i] func197
def EC(a:O):=cZ m R ⟨[(2,[(5,.I)])],[],[]⟩ [a,i] func198
def rK(a:O):=cZ m R A0 [a,i] func199
def CY(a:O):=cZ m R A0 [.agg [a,b],i,j,k] func200
def zy(a:O):=cZ m R ⟨[(4,[(9,.I)])],[],[]⟩ [a,i,j,k] func201
def AK(a:O):=cZ m R ⟨[(3,[(3,.S),(4,.I)]),(7,[(5,.S),(6,.I)])],[],[]⟩ [a] func202
end
section
open Tryz
variable{m:E}{R:Value->E->Prop}
variable{a b c d e f g h p q r u v w x y:O}{i j k l n o s t z A B C D F G H:Int}
def xW(i:Int):=cZ m R ⟨[(3,[(5,.S),(6,.I)])],[],[]⟩ [i,j] func203
def vC(p:Nat×Nat):=cZ m R ⟨[(2,[(3,.S),(4,.S),(10,.I)])],[(17,[])],[(2,[104,103]),(17,[108,104,103])]⟩ [p,.agg [a,b],.agg [c,i],d,e] func204
def xP(p:Nat×Nat):=cZ m R A0 [p,.agg [i,j,k,l,a,b]] func205
def GW(a:O):=cZ m R ⟨[(3,[(5,.I),(6,.I)]),(7,[(5,.I),(7,.I)])],[],[]⟩ [a,i] func206
def xN(p:Nat×Nat):=cZ m R A0 [p] func207
def JX(p:Nat×Nat):=cZ m R ⟨[(9,[(10,.S),(11,.I)])],[],[(9,[108,106,105])]⟩ [p,.agg [a,b]] func208
def AH(a:O):=cZ m R ⟨[(3,[(4,.I)])],[],[(3,[38,37])]⟩ [.agg [a,b]] func209
def ye(a:O):=cZ m R ⟨[(3,[(4,.I)])],[],[(3,[40,39])]⟩ [.agg [a,b]] func210
def GY(a:O):=cZ m R ⟨[(3,[(4,.I)])],[],[(3,[40,39])]⟩ [.agg [a,b]] func211
def Dh(a:O):=cZ m R ⟨[(3,[(3,.S),(4,.I)])],[],[]⟩ [a] func212
def rO(i:Int):=cZ m R A0 [.agg [i,j,k,l,a,b]] func213
def AR(p:Nat×Nat):=cZ m R A0 [p] func214
def Ma(a:O):=cZ m R A0 [a] func215
def mf(s:O)(f:Fn×Array Value×Array Value):=cZ m R ⟨[(2,[(8,.I)])],[],[]⟩ [s,.c (.fv f)] func216
def wh(i:Int):=cZ m R A0 [.agg [i,j,a]] func217
def HH(a:O):=cZ m R ⟨[(2,[(1,.I),(10,.I)])],[],[(2,[43])]⟩ [a,i] func218
def uy(p:Nat×Nat):=cZ m R ⟨[(17,[(16,.S),(17,.S),(18,.I)]),(22,[(20,.I)]),(33,[(23,.I)])],[],[(17,[215,214]),(22,[215,214]),(33,[215,214])]⟩ [p,.agg [a,b],.agg [i,j,k,c,d],e,f] func219
def CM(a:O):=cZ m R ⟨[(3,[(5,.S),(6,.I)])],[],[]⟩ [a,i] func220
end
section
open Tryz
variable{m:E}{R:Value->E->Prop}
variable{a b p d e f g h r u v w x y z B:O}{i j k l q o s t C D F G H I J K:Int}
def Bm(p:Nat×Nat):=cZ m R A0 [p] func221
def EE(a:O):=cZ m R ⟨[(3,[(4,.I)])],[],[(3,[38,37])]⟩ [.agg [a,b]] func222
def J3(a:O):=cZ m R ⟨[(3,[(4,.I)])],[],[(3,[41,40])]⟩ [.agg [a,b]] func223
def xR(a:O):=cZ m R ⟨[(5,[(9,.I)])],[],[(5,[67])]⟩ [.agg [a,b],i,j] func224
def wN(p:Nat×Nat):=cZ m R ⟨[(1,[(1,.I)])],[],[]⟩ [p,i] func225
def EW(a:O):=cZ m R A0 [.agg [a,i],j,.agg [k,l,q,b,p]] func226
def CH(i:Int):=cZ m R A0 [i,j] func227
def yi(a:O):=cZ m R A0 [.agg [a,b],i,.agg [p,j]] func228
def Dj(a:O):=cZ m R A0 [.agg [a,b,i,p,j],.agg [d,k]] func229
def xL(a:O):=cZ m R ⟨[(4,[(3,.S),(4,.S),(5,.I)]),(13,[(7,.S),(8,.I)])],[],[(4,[74,73]),(13,[78,74,73])]⟩ [.agg [a,i]] func230
def wV(a:O):=cZ m R ⟨[(3,[(2,.I),(8,.I)]),(9,[(10,.S),(12,.I)])],[],[(3,[113,111,110]),(9,[116,113,111,110])]⟩ [.agg [a,b],.agg [p,i],j] func231
def zo(a:O):=cZ m R ⟨[(3,[(8,.I)]),(8,[(10,.S),(11,.I)])],[],[(3,[67,65,64]),(8,[70,67,65,64])]⟩ [.agg [a,b],.agg [p,i],d] func232
def Bo(a:O):=cZ m R ⟨[(1,[(1,.I),(2,.I)])],[],[]⟩ [a,i,j] func233
def xO(p:Nat×Nat):=cZ m R A0 [p,i] func234
def zC(a:O):=cZ m R A0 [a,i,j] func235
def Bj(a:O):=cZ m R ⟨[(3,[(4,.I)])],[(8,[(7,.P)])],[(3,[51,50]),(8,[54,51,50])]⟩ [.agg [a,b]] func236
def sL(r:Nat×Nat)(m:E)(R:Value->E->Prop):Prop:=
 let M:E:=m.push (.cells (bA [.s O.nil,.s O.nil]) 124)
 aM cq 214 [vp r.1 r.2] M λca b=>
 dY [m.size] M b/\
 ∃o:O,ca=O.v o/\
 let b7:E:=b.push (.cells (bA [.s O.nil,.s O.nil]) 124)
 rX b.size b.size (
 let aa:E:=ag b7 b.size 0 [.s o,.s O.nil]
 let aj:E:=aa.push (.cells (bA [.i (1:Int)]) 3)
 aM cq 250 [O.v (O.mk aa.size 0 1 1),vi (0:Int)] aj λcl F=>
 dY [b.size,m.size] aj F/\
 ∃ap:O,∃aI:Int,∃a0:Int,∃bg:Int,∃bx:O,cl=.agg #[O.v ap,vi aI,vi a0,vi bg,O.v bx]/\
 let an:E:=F.push (.cells (bA [.i (1:Int),.i (1:Int)]) 3)
 aM cq 250 [O.v (O.mk F.size 0 2 2),vi (1:Int)] an λct H=>
 dY [b.size,m.size] an H/\
 ∃aq:O,∃aS:Int,∃a9:Int,∃bh:Int,∃bz:O,ct=.agg #[O.v aq,vi aS,vi a9,vi bh,O.v bz]/\
 let ao:E:=H.push (.cells (bA [.i (1:Int)]) 3)
 aM cq 250 [O.v (O.mk H.size 0 1 1),vi (1:Int)] ao λcu I=>
 dY [b.size,m.size] ao I/\
 ∃aA:O,∃aT:Int,∃a_:Int,∃bp:Int,∃bI:O,cu=.agg #[O.v aA,vi aT,vi a_,vi bp,O.v bI]/\
 let N:E:=I.push (.cells (bA [.i (1:Int),.i (0:Int)]) 3)
 aM cq 250 [O.v (O.mk I.size 0 2 2),vi (1:Int)] N λcv t=>
 dY [b.size,m.size] N t/\
 ∃aB:O,∃aU:Int,∃ba:Int,∃bq:Int,∃bJ:O,cv=.agg #[O.v aB,vi aU,vi ba,vi bq,O.v bJ]/\
 let P:E:=t.push (.cells (bA [.i (2:Int),.i (1:Int)]) 3)
 aM cq 250 [O.v (O.mk t.size 0 2 2),vi (1:Int)] P λcw u=>
 dY [b.size,m.size] P u/\
 ∃aC:O,∃aV:Int,∃bb:Int,∃br:Int,∃bK:O,cw=.agg #[O.v aC,vi aV,vi bb,vi br,O.v bK]/\
 let Q:E:=u.push (.cells (bA [.i (1:Int),.i (1:Int)]) 3)
 aM cq 250 [O.v (O.mk u.size 0 2 2),vi (0:Int)] Q λcx a=>
 dY [b.size,m.size] Q a/\
 ∃aD:O,∃aW:Int,∃bc:Int,∃bs:Int,∃bL:O,cx=.agg #[O.v aD,vi aW,vi bc,vi bs,O.v bL]/\
 let S:E:=a.push (.cells (bA [.s ap,.i aI,.i a0,.i bg,.s bx,.s aq,.i aS,.i a9,.i bh,.s bz,.s aA,.i aT,.i a_,.i bp,.s bI,.s aB,.i aU,.i ba,.i bq,.s bJ,.s aC,.i aV,.i bb,.i br,.s bK,.s aD,.i aW,.i bc,.i bs,.s bL]) 175)
 let T:E:=S.push (.cells (bA [.i (3:Int)]) 3)
 aM cq 250 [O.v (O.mk S.size 0 1 1),vi (0:Int)] T λcb v=>
 dY [b.size,m.size] T v/\
 ∃aE:O,∃aX:Int,∃bd:Int,∃bt:Int,∃bM:O,cb=.agg #[O.v aE,vi aX,vi bd,vi bt,O.v bM]/\
 let U:E:=v.push (.cells (bA [.i (0:Int)]) 3)
 aM cq 250 [O.v (O.mk v.size 0 1 1),vi (1:Int)] U λcc w=>
 dY [b.size,m.size] U w/\
 ∃aF:O,∃aY:Int,∃be:Int,∃bu:Int,∃bN:O,cc=.agg #[O.v aF,vi aY,vi be,vi bu,O.v bN]/\
 let V:E:=w.push (.cells (bA [.i (0:Int),.i (1:Int)]) 3)
 aM cq 250 [O.v (O.mk w.size 0 2 2),vi (1:Int)] V λcd x=>
 dY [b.size,m.size] V x/\
 ∃aG:O,∃aZ:Int,∃bf:Int,∃bv:Int,∃bO:O,cd=.agg #[O.v aG,vi aZ,vi bf,vi bv,O.v bO]/\
 let W:E:=x.push (.cells (bA [.i (3:Int),.i (0:Int)]) 3)
 aM cq 250 [O.v (O.mk x.size 0 2 2),vi (3:Int)] W λce y=>
 dY [b.size,m.size] W y/\
 ∃aH:O,∃aJ:Int,∃a1:Int,∃bw:Int,∃bP:O,ce=.agg #[O.v aH,vi aJ,vi a1,vi bw,O.v bP]/\
 let X:E:=y.push (.cells (bA [.i (3:Int)]) 3)
 aM cq 250 [O.v (O.mk y.size 0 1 1),vi (1:Int)] X λcf z=>
 dY [b.size,m.size] X z/\
 ∃ar:O,∃aK:Int,∃a2:Int,∃bi:Int,∃bB:O,cf=.agg #[O.v ar,vi aK,vi a2,vi bi,O.v bB]/\
 let Y:E:=z.push (.cells (bA [.i (1:Int),.i (3:Int),.i (0:Int)]) 3)
 aM cq 250 [O.v (O.mk z.size 0 3 3),vi (0:Int)] Y λcg d=>
 dY [b.size,m.size] Y d/\
 ∃au:O,∃aL:Int,∃a3:Int,∃bj:Int,∃bC:O,cg=.agg #[O.v au,vi aL,vi a3,vi bj,O.v bC]/\
 let Z:E:=d.push (.cells (bA [.s aE,.i aX,.i bd,.i bt,.s bM,.s aF,.i aY,.i be,.i bu,.s bN,.s aG,.i aZ,.i bf,.i bv,.s bO,.s aH,.i aJ,.i a1,.i bw,.s bP,.s ar,.i aK,.i a2,.i bi,.s bB,.s au,.i aL,.i a3,.i bj,.s bC]) 175)
 let ab:E:=Z.push (.cells (bA [.i (0:Int)]) 3)
 aM cq 250 [O.v (O.mk Z.size 0 1 1),vi (0:Int)] ab λch A=>
 dY [b.size,m.size] ab A/\
 ∃av:O,∃aN:Int,∃a4:Int,∃bk:Int,∃bD:O,ch=.agg #[O.v av,vi aN,vi a4,vi bk,O.v bD]/\
 let ac:E:=A.push (.cells (bA [.i (0:Int),.i (0:Int)]) 3)
 aM cq 250 [O.v (O.mk A.size 0 2 2),vi (0:Int)] ac λci B=>
 dY [b.size,m.size] ac B/\
 ∃aw:O,∃aO:Int,∃a5:Int,∃bl:Int,∃bE:O,ci=.agg #[O.v aw,vi aO,vi a5,vi bl,O.v bE]/\
 let ad:E:=B.push (.cells (bA [.i (1:Int),.i (0:Int)]) 3)
 aM cq 250 [O.v (O.mk B.size 0 2 2),vi (0:Int)] ad λcj C=>
 dY [b.size,m.size] ad C/\
 ∃ax:O,∃aP:Int,∃a6:Int,∃bm:Int,∃bF:O,cj=.agg #[O.v ax,vi aP,vi a6,vi bm,O.v bF]/\
 let ae:E:=C.push (.cells (bA [.i (0:Int)]) 3)
 aM cq 250 [O.v (O.mk C.size 0 1 1),vi (1:Int)] ae λck j=>
 dY [b.size,m.size] ae j/\
 ∃ay:O,∃aQ:Int,∃a7:Int,∃bn:Int,∃bG:O,ck=.agg #[O.v ay,vi aQ,vi a7,vi bn,O.v bG]/\
 let ah:E:=j.push (.cells (bA [.s av,.i aN,.i a4,.i bk,.s bD,.s aw,.i aO,.i a5,.i bl,.s bE,.s ax,.i aP,.i a6,.i bm,.s bF,.s ay,.i aQ,.i a7,.i bn,.s bG]) 175)
 let ai:E:=ah.push (.cells (bA []) 3)
 aM cq 250 [O.v (O.mk ah.size 0 0 0),vi (0:Int)] ai λcm D=>
 dY [b.size,m.size] ai D/\
 ∃az:O,∃aR:Int,∃a8:Int,∃bo:Int,∃bH:O,cm=.agg #[O.v az,vi aR,vi a8,vi bo,O.v bH]/\
 aM cq 40 [vp r.1 r.2,vi ((O.mk a.size 0 6 6).len:Int)] D λcn k=>
 dY [b.size,m.size] D k/\
 ∃e:Int,cn=vi e/\
 (0:Int)<=e/\e<((O.mk a.size 0 6 6).len:Int)/\
 ∃bR:O,af k ((O.mk a.size 0 6 6).D) ((O.mk a.size 0 6 6).off+Int.toNat e*5)=some (O.v bR)/\
 ∃bS:Int,af k ((O.mk a.size 0 6 6).D) ((O.mk a.size 0 6 6).off+Int.toNat e*5+1)=some (vi bS)/\
 ∃bT:Int,af k ((O.mk a.size 0 6 6).D) ((O.mk a.size 0 6 6).off+Int.toNat e*5+2)=some (vi bT)/\
 ∃bU:Int,af k ((O.mk a.size 0 6 6).D) ((O.mk a.size 0 6 6).off+Int.toNat e*5+3)=some (vi bU)/\
 ∃bV:O,af k ((O.mk a.size 0 6 6).D) ((O.mk a.size 0 6 6).off+Int.toNat e*5+4)=some (O.v bV)/\
 aM cq 40 [vp r.1 r.2,vi ((O.mk d.size 0 6 6).len:Int)] k λco g=>
 dY [b.size,m.size] k g/\
 ∃i:Int,co=vi i/\
 af g ((O.mk a.size 0 6 6).D) ((O.mk a.size 0 6 6).off+Int.toNat e*5)=af k ((O.mk a.size 0 6 6).D) ((O.mk a.size 0 6 6).off+Int.toNat e*5)/\
 af g ((O.mk a.size 0 6 6).D) ((O.mk a.size 0 6 6).off+Int.toNat e*5+1)=af k ((O.mk a.size 0 6 6).D) ((O.mk a.size 0 6 6).off+Int.toNat e*5+1)/\
 af g ((O.mk a.size 0 6 6).D) ((O.mk a.size 0 6 6).off+Int.toNat e*5+2)=af k ((O.mk a.size 0 6 6).D) ((O.mk a.size 0 6 6).off+Int.toNat e*5+2)/\
 af g ((O.mk a.size 0 6 6).D) ((O.mk a.size 0 6 6).off+Int.toNat e*5+3)=af k ((O.mk a.size 0 6 6).D) ((O.mk a.size 0 6 6).off+Int.toNat e*5+3)/\
 af g ((O.mk a.size 0 6 6).D) ((O.mk a.size 0 6 6).off+Int.toNat e*5+4)=af k ((O.mk a.size 0 6 6).D) ((O.mk a.size 0 6 6).off+Int.toNat e*5+4)/\
 (0:Int)<=i/\i<((O.mk d.size 0 6 6).len:Int)/\
 ∃bW:O,af g ((O.mk d.size 0 6 6).D) ((O.mk d.size 0 6 6).off+Int.toNat i*5)=some (O.v bW)/\
 ∃bX:Int,af g ((O.mk d.size 0 6 6).D) ((O.mk d.size 0 6 6).off+Int.toNat i*5+1)=some (vi bX)/\
 ∃bY:Int,af g ((O.mk d.size 0 6 6).D) ((O.mk d.size 0 6 6).off+Int.toNat i*5+2)=some (vi bY)/\
 ∃bZ:Int,af g ((O.mk d.size 0 6 6).D) ((O.mk d.size 0 6 6).off+Int.toNat i*5+3)=some (vi bZ)/\
 ∃b0:O,af g ((O.mk d.size 0 6 6).D) ((O.mk d.size 0 6 6).off+Int.toNat i*5+4)=some (O.v b0)/\
 aM cq 40 [vp r.1 r.2,vi ((O.mk j.size 0 4 4).len:Int)] g λcp c=>
 dY [b.size,m.size] g c/\
 ∃n:Int,cp=vi n/\
 af c ((O.mk d.size 0 6 6).D) ((O.mk d.size 0 6 6).off+Int.toNat i*5)=af g ((O.mk d.size 0 6 6).D) ((O.mk d.size 0 6 6).off+Int.toNat i*5)/\
 af c ((O.mk d.size 0 6 6).D) ((O.mk d.size 0 6 6).off+Int.toNat i*5+1)=af g ((O.mk d.size 0 6 6).D) ((O.mk d.size 0 6 6).off+Int.toNat i*5+1)/\
 af c ((O.mk d.size 0 6 6).D) ((O.mk d.size 0 6 6).off+Int.toNat i*5+2)=af g ((O.mk d.size 0 6 6).D) ((O.mk d.size 0 6 6).off+Int.toNat i*5+2)/\
 af c ((O.mk d.size 0 6 6).D) ((O.mk d.size 0 6 6).off+Int.toNat i*5+3)=af g ((O.mk d.size 0 6 6).D) ((O.mk d.size 0 6 6).off+Int.toNat i*5+3)/\
 af c ((O.mk d.size 0 6 6).D) ((O.mk d.size 0 6 6).off+Int.toNat i*5+4)=af g ((O.mk d.size 0 6 6).D) ((O.mk d.size 0 6 6).off+Int.toNat i*5+4)/\
 af c ((O.mk a.size 0 6 6).D) ((O.mk a.size 0 6 6).off+Int.toNat e*5)=af g ((O.mk a.size 0 6 6).D) ((O.mk a.size 0 6 6).off+Int.toNat e*5)/\
 af c ((O.mk a.size 0 6 6).D) ((O.mk a.size 0 6 6).off+Int.toNat e*5+1)=af g ((O.mk a.size 0 6 6).D) ((O.mk a.size 0 6 6).off+Int.toNat e*5+1)/\
 af c ((O.mk a.size 0 6 6).D) ((O.mk a.size 0 6 6).off+Int.toNat e*5+2)=af g ((O.mk a.size 0 6 6).D) ((O.mk a.size 0 6 6).off+Int.toNat e*5+2)/\
 af c ((O.mk a.size 0 6 6).D) ((O.mk a.size 0 6 6).off+Int.toNat e*5+3)=af g ((O.mk a.size 0 6 6).D) ((O.mk a.size 0 6 6).off+Int.toNat e*5+3)/\
 af c ((O.mk a.size 0 6 6).D) ((O.mk a.size 0 6 6).off+Int.toNat e*5+4)=af g ((O.mk a.size 0 6 6).D) ((O.mk a.size 0 6 6).off+Int.toNat e*5+4)/\
 (0:Int)<=n/\n<((O.mk j.size 0 4 4).len:Int)/\
 ∃b1:O,af c ((O.mk j.size 0 4 4).D) ((O.mk j.size 0 4 4).off+Int.toNat n*5)=some (O.v b1)/\
 ∃b2:Int,af c ((O.mk j.size 0 4 4).D) ((O.mk j.size 0 4 4).off+Int.toNat n*5+1)=some (vi b2)/\
 ∃b3:Int,af c ((O.mk j.size 0 4 4).D) ((O.mk j.size 0 4 4).off+Int.toNat n*5+2)=some (vi b3)/\
 ∃b4:Int,af c ((O.mk j.size 0 4 4).D) ((O.mk j.size 0 4 4).off+Int.toNat n*5+3)=some (vi b4)/\
 ∃b5:O,af c ((O.mk j.size 0 4 4).D) ((O.mk j.size 0 4 4).off+Int.toNat n*5+4)=some (O.v b5)/\
 let b8:E:=c.push (.cells (bA [.s az,.i aR,.i a8,.i bo,.s bH,.s bR,.i bS,.i bT,.i bU,.s bV,.s bW,.i bX,.i bY,.i bZ,.s b0,.s b1,.i b2,.i b3,.i b4,.s b5]) 175)
 rX b.size b.size (
 let ak:E:=ag b8 b.size 1 [.s (O.mk c.size 0 4 4)]
 let al:E:=ak.push (.cells (bA [.i (4:Int),.i (4:Int),.i (3:Int),.i (2:Int),.i (4:Int)]) 3)
 aM cq 39 [vp r.1 r.2,O.v (O.mk ak.size 0 5 5)] al λcr am=>
 dY [b.size,m.size] al am/\
 ∃h:Int,cr=vi h/\
 rX b.size b.size (
 (0:Int)<=(0:Int)/\(0:Int)<=h/\h<=((O.mk c.size 0 4 4).cap:Int)/\
 rX b.size b.size (
 let b9:E:=ag am b.size 1 [.s (O.cut (O.mk c.size 0 4 4) (Int.toNat (0:Int)) (Int.toNat h) 5)]
 ∃(s:Int->E->Prop)(μ0:Int->E->Nat),
 s (cR (h -(1:Int))) b9/\
 (∀(f:Int)(p:E),s f p->
 ((decide (f>=(0:Int)))=true->
 rX b.size b.size (
 aM cq 251 [vp r.1 r.2,.agg #[O.v o,O.v (O.cut (O.mk c.size 0 4 4) (Int.toNat (0:Int)) (Int.toNat h) 5)],vi f] p λcs l=>
 dY [b.size,m.size] p l/\
 ∃J:Int,∃K:Int,∃L:O,cs=.agg #[vi J,vi K,O.v L]/\
 let b_:E:=l.push (.cells (bA [.i (0:Int),.i (0:Int),.s O.nil]) 173)
 rX l.size l.size (
 let q:E:=ag b_ l.size 0 [.i J,.i K,.s L]
 rX b.size b.size (
 rX b.size b.size (
 (0:Int)<=f/\f<((O.cut (O.mk c.size 0 4 4) (Int.toNat (0:Int)) (Int.toNat h) 5).len:Int)/\
 ∃b6:O,af q ((O.cut (O.mk c.size 0 4 4) (Int.toNat (0:Int)) (Int.toNat h) 5).D) ((O.cut (O.mk c.size 0 4 4) (Int.toNat (0:Int)) (Int.toNat h) 5).off+Int.toNat f*5)=some (O.v b6)/\
 rX b.size b.size (
 (0:Int)<=f/\f<((O.cut (O.mk c.size 0 4 4) (Int.toNat (0:Int)) (Int.toNat h) 5).len:Int)/\
 ∃bQ:Int,af q ((O.cut (O.mk c.size 0 4 4) (Int.toNat (0:Int)) (Int.toNat h) 5).D) ((O.cut (O.mk c.size 0 4 4) (Int.toNat (0:Int)) (Int.toNat h) 5).off+Int.toNat f*5+1)=some (vi bQ)/\
 rX l.size l.size (
 (0:Int)<=f/\f<((O.cut (O.mk c.size 0 4 4) (Int.toNat (0:Int)) (Int.toNat h) 5).len:Int)/\
 eC q ((O.cut (O.mk c.size 0 4 4) (Int.toNat (0:Int)) (Int.toNat h) 5).D) ((O.cut (O.mk c.size 0 4 4) (Int.toNat (0:Int)) (Int.toNat h) 5).off+Int.toNat f*5) 5/\
 let G:E:=ag q ((O.cut (O.mk c.size 0 4 4) (Int.toNat (0:Int)) (Int.toNat h) 5).D) ((O.cut (O.mk c.size 0 4 4) (Int.toNat (0:Int)) (Int.toNat h) 5).off+Int.toNat f*5) [.s b6,.i bQ,.i J,.i K,.s L]
 dY [l.size,b.size,m.size] q G/\
 JE (SV.box b.size 124 [.s o,.s (O.cut (O.mk c.size 0 4 4) (Int.toNat (0:Int)) (Int.toNat h) 5)]) (SV.box b.size 124 [.s o,.s (O.cut (O.mk c.size 0 4 4) (Int.toNat (0:Int)) (Int.toNat h) 5)]) (
 JE (SV.box m.size 124 [.s O.nil,.s O.nil]) (SV.box m.size 124 [.s O.nil,.s O.nil]) (
 s (cR (f -(1:Int))) G/\μ0 (cR (f -(1:Int))) G<μ0 f p)))))))))/\
 ((decide (f>=(0:Int)))=false->
 rX b.size b.size (
 rX m.size m.size (
 let l:E:=ag p m.size 0 [.s o,.s (O.cut (O.mk c.size 0 4 4) (Int.toNat (0:Int)) (Int.toNat h) 5)]
 rX m.size m.size (
 R (.agg #[O.v o,O.v (O.cut (O.mk c.size 0 4 4) (Int.toNat (0:Int)) (Int.toNat h) 5)]) l)))))))))
def xQ(r:Nat×Nat)(m:E)(R:Value->E->Prop)(a:sL r m R):aM cq 237 [vp r.1 r.2] m R:=
 qP (o:=⟨[(9,[(8,.I)])],[],[(9,[113,112])]⟩) (d:=110) (r:=[.cell 2 124]) (a:=[.c (.p r.1 r.2)]) Mw Yd Yi Tryz.func237 (m:=HA Tryz.f237) (by kernel_rfl) (by kernel_rfl) (by kernel_rfl) (by kernel_rfl) aL (by kernel_rfl) (Eq.mp (by kernel_rfl) a)
def CS(a:O):=cZ m R ⟨[(3,[(4,.I)]),(7,[(5,.S),(6,.I)])],[],[(3,[35,34]),(7,[35,34])]⟩ [.agg [a,b]] func238
end
section
open Tryz
variable{m:E}{R:Value->E->Prop}
variable{a b c d e f g h p q r u v w x y:O}{i j k l n o s t z A B C D F G H:Int}
def AM(a:O):=cZ m R ⟨[(5,[(6,.S),(7,.S),(8,.I)])],[],[(5,[69,68,67])]⟩ [.agg [a,b],.agg [c,d,i,e,j]] func239
def A2(a:O):=cZ m R ⟨[(5,[(9,.S),(10,.S),(11,.S),(12,.I)])],[],[(5,[88,86,84])]⟩ [.agg [a,b],c,.agg [d,i],e] func240
def Bl(a:O):=cZ m R ⟨[(3,[(3,.S),(4,.I)])],[],[(3,[32])]⟩ [.agg [a,b,i,c,j]] func241
def yh(a:O):=cZ m R ⟨[(4,[(3,.I)])],[],[(4,[36])]⟩ [.agg [a,b]] func242
def Be(a:O):=cZ m R ⟨[(3,[(4,.I)])],[],[(3,[46])]⟩ [.agg [a,b,i,c,j]] func243
def xU(p:Nat×Nat):=cZ m R ⟨[],[(16,[(8,.T)])],[(16,[94,93])]⟩ [p,.agg [a,b],.agg [i,j,k,c,d]] func244
def GN(i:Int):=cZ m R A0 [.agg [i,j,k,a,b]] func245
def Db(a:O):=cZ m R ⟨[(5,[(3,.S),(4,.S),(6,.I)]),(8,[(3,.S),(7,.I)]),(11,[(4,.S),(7,.I)])],[],[]⟩ [a] func246
def ET(a:O):=cZ m R ⟨[(8,[(10,.S),(11,.S),(12,.I)])],[],[(8,[96,92])]⟩ [.agg [a,i],j,b,k] func247
def C0(a:O):=cZ m R A0 [.agg [a,b],.agg [i,j,k,c,d],l,e] func248
def zl(a:O):=cZ m R A0 [.agg [a,b],.agg [i,j,c],d,k] func249
def Mq(a:O):=cZ m R A0 [a,i] func250
def Gu(p:Nat×Nat):=cZ m R ⟨[],[(7,[(34,.T)]),(9,[(51,.T)]),(11,[(77,.T)]),(15,[])],[(7,[131,127,125]),(9,[131,127,125]),(11,[131,127,125]),(15,[127,125])]⟩ [p,.agg [a,b],i] func251
def Dk(a:O):=cZ m R ⟨[(3,[(6,.I)])],[],[(3,[49,47])]⟩ [.agg [a,b],c] func252
def y9(a:O):=cZ m R ⟨[(3,[(3,.S),(4,.I)])],[],[(3,[32])]⟩ [.agg [a,b]] func253
def CP(a:O):=cZ m R ⟨[(3,[(5,.S),(6,.I)])],[],[(3,[52])]⟩ [.agg [a,b],i] func254
def G8(a:O):=cZ m R A0 [.agg [a,i],j] func255
def zd(a:O):=cZ m R ⟨[(5,[(11,.S),(12,.S),(13,.S),(14,.I)]),(17,[(13,.S),(20,.I)])],[],[(5,[159,156,154]),(17,[164,159,156,154])]⟩ [.agg [a,b],c,.agg [d,i],e,f] func256
end
section
open Tryz
variable{m:E}{R:Value->E->Prop}
variable{a b c d e f g h p q r u v w x y:O}{i j k l n o s t z A B C D F G H:Int}
def AO(i:Int):=cZ m R ⟨[(3,[(5,.S),(6,.I)])],[],[]⟩ [i,a] func257
def Dg(a:O):=cZ m R ⟨[],[(3,[]),(30,[(151,.T)])],[(3,[188,186]),(30,[188,186])]⟩ [.agg [a,b],c,.agg [i,j,k,d,e]] func258
def ux(a:O):=cZ m R ⟨[(3,[(7,.S),(8,.I)])],[],[(3,[36,34])]⟩ [.agg [a,b],c,.agg [i,j,k,d,e]] func259
def CR(a:O):=cZ m R ⟨[(4,[(7,.S),(9,.I)])],[(9,[(10,.S)])],[(4,[78,77,75]),(9,[78,77,75])]⟩ [.agg [a,b],c,.agg [i,j,k,d,e]] func260
def tY(a:O):=cZ m R ⟨[(4,[(3,.I)])],[],[(4,[36])]⟩ [.agg [a,b]] func261
def Fb(a:O):=cZ m R A0 [.agg [a,i]] func262
def AG(a:O):=cZ m R ⟨[(3,[(7,.S),(8,.I)])],[],[(3,[57,55])]⟩ [.agg [a,b],c,.agg [d,i]] func263
def xS(p:Nat×Nat):=cZ m R A0 [p,i,j,k] func264
def xV(p:Nat×Nat):=cZ m R A0 [p,i] func265
def xT(p:Nat×Nat):=cZ m R ⟨[(6,[(9,.I)])],[(4,[])],[(4,[110,109]),(6,[110,109])]⟩ [p,.agg [a,b],.agg [i,j,k,c,d]] func266
def vE(p:Nat×Nat):=cZ m R ⟨[(7,[(9,.I)])],[(3,[])],[(3,[93,92]),(7,[93,92])]⟩ [p,.agg [a,b],.agg [i,j,k,c,d]] func267
def tU(p:Nat×Nat):=cZ m R ⟨[(2,[(7,.I)]),(7,[(8,.I)])],[],[(2,[84,83]),(7,[84,83])]⟩ [p,.agg [a,b],.agg [i,j,k,c,d]] func268
def Hc(a:O):=cZ m R ⟨[(3,[(3,.S),(4,.I)])],[],[]⟩ [a] func269
def Iy(a:O):=cZ m R ⟨[(3,[(5,.I),(6,.I)])],[],[]⟩ [a,i] func270
def Bp(a:O):=cZ m R ⟨[(2,[(3,.I)])],[],[(2,[21])]⟩ [.agg [a,i]] func271
def Cx(a:O):=cZ m R ⟨[(3,[(7,.S),(8,.I)])],[],[(3,[38])]⟩ [.agg [a,i],j,k] func272
def wY(a:O):=cZ m R ⟨[(4,[(5,.S),(6,.T),(7,.I)])],[],[]⟩ [a,i] func273
def CZ(a:O):=cZ m R A0 [.agg [a,i],j,k] func274
end
section
open Tryz
variable{m:E}{R:Value->E->Prop}
variable{a b c d e f g h p q r u v w x y:O}{i j k l n o s t z A B C D F G H:Int}
def zi(a:O):=cZ m R ⟨[(2,[(3,.I)])],[],[(2,[22])]⟩ [.agg [a,i]] func275
def G6(a:O):=cZ m R ⟨[(2,[(9,.I)])],[],[(2,[40])]⟩ [.agg [a,i],j,k,l] func276
def GJ(a:O):=cZ m R ⟨[(4,[(5,.S),(6,.T),(7,.I)])],[],[]⟩ [a,i] func277
def uz(p:Nat×Nat):=cZ m R ⟨[(13,[(11,.S),(13,.I)]),(22,[(15,.S),(16,.I)])],[(18,[(14,.I)])],[(13,[154,153]),(18,[154,153]),(22,[154,153])]⟩ [p,.agg [a,b],.agg [i,j,c],d] func278
def EV(a:O):=cZ m R ⟨[(2,[(5,.I)])],[],[]⟩ [a,i] func279
def EL(i:Int):=cZ m R A0 [i] func280
def CT(p:Nat×Nat):=cZ m R ⟨[],[(5,[])],[(5,[31,30])]⟩ [p,.agg [a,b]] func281
def CV(p:Nat×Nat):=cZ m R ⟨[(6,[(12,.S),(13,.I)])],[(19,[]),(22,[])],[(6,[144,141]),(19,[151,150,144,141]),(22,[150,144,141])]⟩ [p,.agg [a,b],i,j] func282
def CW(p:Nat×Nat):=aaj m R ⟨[(6,[(9,.S),(10,.S),(11,.I)])],[(13,[(14,.P)]),(15,[])],[(6,[102,100]),(13,[109,108,102,100]),(15,[109,108,102,100])]⟩ [p,.agg [a,b],i] func283
def CI(p:Nat×Nat):=cZ m R ⟨[(4,[(8,.S),(9,.I)])],[(10,[])],[(4,[81,79]),(10,[81,79])]⟩ [p,.agg [a,b],i] func284
def EG(p:Nat×Nat):=cZ m R ⟨[(2,[(4,.I)])],[],[(2,[44,40])]⟩ [p,.agg [a,b],c,i,j] func285
def ER(i:Int):=cZ m R A0 [.agg [i,j,a]] func286
def rL(a:O):=cZ m R ⟨[(3,[(4,.I)])],[],[(3,[30,29])]⟩ [.agg [a,i]] func287
def CO(a:O):=cZ m R ⟨[(2,[(5,.I)])],[],[(2,[23])]⟩ [.agg [a,b],i] func288
def vz(a:O):=cZ m R ⟨[(4,[(7,.I)]),(8,[(9,.I)]),(13,[(10,.I)])],[],[(4,[72,71]),(8,[76,72,71]),(13,[76,72,71])]⟩ [.agg [a,b],.agg [c,i],j] func289
def Eu(a:O):=cZ m R ⟨[(2,[(3,.S),(9,.I)])],[],[(2,[44])]⟩ [.agg [a,i],j,k,b] func290
def IP(a:O):=cZ m R ⟨[(3,[(5,.S),(6,.I)])],[],[]⟩ [a,b] func291
def ze(a:O):=cZ m R ⟨[(3,[(11,.S),(12,.I)])],[],[(3,[50,48])]⟩ [.agg [a,b],c,.agg [i,j,k,d,e],f,g] func292
end
section
open Tryz
variable{m:E}{R:Value->E->Prop}
variable{a b c d e f g h p q r u v w x y:O}{i j k l n o s t z A B C D F G H:Int}
def AN(a:O):=cZ m R ⟨[(4,[(11,.S),(13,.I)])],[],[(4,[72,69,67])]⟩ [.agg [a,b],c,.agg [i,j,k,d,e],f,g] func293
def Ba(a:O):=cZ m R ⟨[(5,[(11,.S),(12,.I)])],[],[(5,[62,60])]⟩ [.agg [a,b],c,.agg [i,j,k,d,e],f,g] func294
def Bb(a:O):=cZ m R ⟨[(3,[(9,.S),(10,.I)])],[],[(3,[55,54])]⟩ [.agg [a,b],.agg [i,j,k,c,d],e,f] func295
def Fk(a:O):=cZ m R ⟨[(3,[(5,.S),(6,.I)])],[],[]⟩ [a,i] func296
def GH(i:Int):=cZ m R A0 [i] func297
def By(a:O):=cZ m R A0 [a,.agg [i,j,k,b,c]] func298
def IN(a:O):=cZ m R ⟨[(4,[(7,.I)])],[],[]⟩ [a,b,c] func299
def CQ(a:O):=cZ m R ⟨[(9,[(9,.I),(10,.I)])],[(5,[(8,.I)])],[(5,[76,74]),(9,[76,74])]⟩ [.agg [a,b],c,.agg [i,j,k,d,e]] func300
def xY(a:O):=cZ m R A0 [.agg [a,b],c,.agg [i,j,k,d,e]] func301
def EM(a:O):=cZ m R A0 [a,i] func302
def wL(a:O):=cZ m R A0 [.agg [a,b],c,.agg [i,j,k,d,e]] func303
def zg(a:O):=cZ m R A0 [.agg [a,b],c,.agg [i,j,k,d,e],l] func304
def GZ(a:O):=cZ m R ⟨[(3,[(4,.I)])],[],[(3,[37,36])]⟩ [.agg [a,b]] func305
def Bt(a:O):=cZ m R ⟨[(2,[(1,.I),(5,.I)]),(8,[(1,.I),(6,.I)])],[],[(2,[45]),(8,[45])]⟩ [.agg [a,i],j] func306
def zk(p:Nat×Nat):=cZ m R ⟨[(9,[(14,.I)])],[],[(9,[89,88])]⟩ [p,.agg [a,b],.agg [i,j,k,c,d],l] func307
def GO(a:O):=cZ m R A0 [.agg [a,b],.agg [i,j,k,c,d],l] func308
def Il(a:O):=cZ m R ⟨[(2,[(7,.I)])],[],[(2,[47])]⟩ [.agg [a,i],j,k] func309
def zh(i:Int):=cZ m R A0 [i] func310
end
section
open Tryz
variable{m:E}{R:Value->E->Prop}
variable{a b c d e f g h p q r u v w x y:O}{i j k l n o s t z A B C D F G H:Int}
def wQ(p:Nat×Nat):=cZ m R A0 [p,.agg [i,j,k,a,b]] func311
def Mj(p:Nat×Nat):=cZ m R A0 [p,.agg [a,b],c,i,j] func312
def J8(i:Int):=cZ m R A0 [i,j,a] func313
def EQ(p:Nat×Nat):=cZ m R ⟨[(8,[(9,.I)])],[(5,[(7,.P)])],[(5,[51,50,49]),(8,[50,49])]⟩ [p,i] func314
def Di(i:Int):=cZ m R A0 [i] func315
def J4(p:Nat×Nat):=cZ m R A0 [p,.agg [a,b],c,i] func316
def Bg(i:Int):=cZ m R ⟨[(5,[(1,.I),(5,.I)])],[],[(5,[29])]⟩ [.agg [i,j,a],k] func317
def CE(i:Int):=cZ m R ⟨[(3,[(3,.S),(4,.I)])],[],[(3,[35,34])]⟩ [.agg [i,j,k,a,b]] func318
def CC(a:O):=cZ m R ⟨[(2,[(5,.I)]),(7,[(6,.I)])],[],[(2,[55]),(7,[55])]⟩ [.agg [a,i],j] func319
def xK(i:Int):=cZ m R ⟨[(4,[(2,.S),(7,.I)]),(9,[(2,.S),(8,.I)])],[],[(4,[61]),(9,[61])]⟩ [.agg [i,j,k,a,b],l,c] func320
def EN(a:O):=cZ m R A0 [.agg [a,b],.agg [i,j,k,c,d],l,e,f] func321
def CF(a:O):=cZ m R ⟨[(7,[(16,.S),(17,.S),(18,.I)]),(14,[(19,.S),(20,.I)])],[],[(7,[127,124,121]),(14,[127,124,121])]⟩ [.agg [a,b],c,d,.agg [e,i],f,g] func322
def Gw(a:O):=cZ m R ⟨[(3,[(5,.S),(6,.I)])],[],[]⟩ [a,b] func323
def Ez(a:O):=cZ m R ⟨[(2,[(7,.I)])],[],[]⟩ [a,i,j] func324
def vF(p:Nat×Nat):=cZ m R A0 [p] func325
def wO(p:Nat×Nat):=cZ m R ⟨[(2,[(9,.I)])],[],[(2,[51,50])]⟩ [p,.agg [a,b],.agg [c,i],j] func326
def Ey(p:Nat×Nat):=cZ m R A0 [p,.agg [a,b],c] func327
def GG(p:Nat×Nat):=cZ m R ⟨[(3,[(11,.S),(12,.I)])],[],[(3,[42])]⟩ [p,.agg [a,b],c,d,i] func328
end
section
open Tryz
variable{m:E}{R:Value->E->Prop}
variable{a b c d e f g h p q r u v w x y:O}{i j k l n o s t z A B C D F G H:Int}
def CK(p:Nat×Nat):=cZ m R ⟨[(7,[(13,.S),(14,.I)])],[(4,[(11,.I)])],[(4,[79,75]),(7,[79,75])]⟩ [p,.agg [a,b],c,i,j] func329
def Cz(a:O):=cZ m R ⟨[(3,[(5,.S),(6,.I)]),(7,[(7,.T),(8,.I)])],[],[(3,[59]),(7,[59])]⟩ [.agg [a,b],i] func330
def CL(p:Nat×Nat):=cZ m R ⟨[(3,[(11,.I)])],[(7,[])],[(3,[130,126]),(7,[130,126])]⟩ [p,.agg [a,b],c,i,j] func331
def EY(p:Nat×Nat):=cZ m R A0 [p] func332
def zB(a:O):=cZ m R ⟨[(3,[(5,.S),(6,.I)])],[],[]⟩ [a,i] func333
def EA(a:O):=cZ m R A0 [.agg [a,b],c,i] func334
def Dd(p:Nat×Nat):=cZ m R ⟨[(11,[(9,.S),(11,.I)]),(21,[(15,.S),(16,.I)])],[(6,[(8,.I)]),(8,[(8,.I)]),(17,[(80,.T)])],[(6,[124,122]),(8,[124,122]),(11,[124,122]),(17,[124,122]),(21,[124,122])]⟩ [p,.agg [a,b],i] func335
def wS(a:O):=cZ m R ⟨[(2,[(7,.I)])],[],[(2,[46,45])]⟩ [.agg [a,b],.agg [i,j,k,c,d],l] func336
def Ig(a:O):=cZ m R ⟨[(3,[(5,.S),(6,.I)])],[],[]⟩ [a,i] func337
def zj(p:Nat×Nat):=cZ m R ⟨[(2,[(5,.I)])],[],[]⟩ [p,i] func338
def CA(a:O):=cZ m R ⟨[(3,[(5,.S),(6,.I)])],[],[(3,[55])]⟩ [.agg [a,b],i] func339
end
end Go.Proofs.YtkoifinbblcbiaaGreat
namespace Go.Proofs.YtkoifinbblcbiaaGreat
open Go.Vc
section
variable{m:E}{a:O}{l:List Int}
def bF(n b a:Int)(m:E):dR cq 41 [vi n,vi b,vi a] m (b<=n/\n<=a):=by
 apply EK;refine⟨λh=>fI ?_ (J.aA _),λh=>cT ?_ (J.aA _)⟩<;>simp at h
 .simp[h]
 .omega
def jP(a:Int)(m:E):dR cq 179 [vi a] m (0<=a/\a<=11):=by
 apply EF;exact(bF _ _ _ _).then λd e c b=>⟨_,rfl,fI c b⟩
def lT(a:Int):Prop:=0<=a/\a<=11/\a≠7/\a≠8\/a=18\/a=19
def xZ(e:Int)(m:E):dR cq 124 [vi e] m (lT e):=by
 apply Kf;refine(jP _ _).then λg i d a=>⟨_,rfl,λh=>?_,λh=>?_⟩
 .have h:=d.1 h;refine⟨λb=>⟨λc=>jU ?_ a,λc=>⟨λf=>jU ?_ a,λf=>fI ?_ a⟩⟩,λb=>⟨λc=>jU ?_ a,λc=>fI ?_ a⟩⟩<;>simp[lT]at* <;>omega
 .have h:=fb d h;refine⟨λb=>jU ?_ a,λb=>fI ?_ a⟩<;>simp[lT]at* <;>omega
def dw(e:ar m a l)(d:Int):dR cq 133 [O.v a,vi d] m (d∈l):=by
 apply JZ;have i:=e.len;refine fm (n:=l.length) (i▸e.iC) (λk b=>J m b/\∀y∈l.take k,y≠d) ⟨J.aA _,aL⟩ ?_;rintro k p I μ o ⟨c,g⟩ j
 refine dit (λh=>?_) λh=>?_
 .let⟨x,f⟩:=cK l k;refine⟨V,V,x,by simpa using c.af (e.aG f),λb=>?_,λb=>?_⟩
  .simp only[aE]at b;exact jU (b▸au f) c
  .simp only[ak]at b;exact j V _ ⟨c,bY f g b⟩
 .exact cT (λb=>dy V g d b rfl) c
def zI(n:Nat)(t:Int):Prop:=0<=t/\t<=n
def Ft(n:Nat)(l:List Int):Prop:=∀t∈l,zI n t
def wF(c:ar m a l)(bn:O):dR cq 156 [O.v bn,O.v a] m (Ft bn.len l):=by
 apply Cu;have i:=c.len;refine fm (n:=l.length) (i▸c.iC) (λk b=>J m b/\∀t∈l.take k,zI bn.len t) ⟨J.aA _,aL⟩ ?_;rintro k r I μ q ⟨b,g⟩ o
 refine dit (λh=>?_) λh=>?_
 .let⟨x,d⟩:=cK l k;refine⟨V,V,x,by simpa using b.af (c.aG d),?_⟩;exact(bF _ _ _ _).then λp s f e=>⟨_,rfl,λh=>cT (λj=>nb f h (j x (au d))) (b.trans e),λh=>o V _ ⟨b.trans e,bY d g (yb f h)⟩⟩
 .exact jU (dy V g) b
def Oj(l:List Int)(c a b:Int):Prop:=(l.length:Int)=c/\∀t∈l,a+1<=t/\t<=b -1
def Fg(f:ar m a l)(o b c:Int)(w: -1<=b/\b<9223372036854775807)(e:0<=c/\c<=9223372036854775807):
 dR cq 201 [O.v a,vi o,vi b,vi c] m (Oj l o b c):=by
 apply zy
 have g:=f.len
 refine⟨λh=>?_,λh=>?_⟩
 .simp only[vP]at h
  exact cT (λi=>h (by rw[g];exact i.1)) (J.aA _)
 .simp only[iH]at h
  have u:o=(l.length:Int):=by rw[<-h,g]
  subst u
  have r:cR (b+1)=b+1:=aP V V
  have s:cR (c -1)=c -1:=aP V V
  rw[r,s]
  refine fm (n:=l.length) (g▸f.iC) (λk d=>J m d/\∀t∈l.take k,b+1<=t/\t<=c -1) ⟨J.aA _,aL⟩ ?_
  rintro k z I μ y ⟨d,q⟩ t
  refine dit (λh=>?_) λh=>?_
  .let⟨x,j⟩:=cK l k
   refine⟨V,V,x,by simpa using d.af (f.aG j),?_⟩
   exact(bF _ _ _ _).then λv A p e=>⟨_,rfl,λh=>cT (λi=>nb p h (i.2 x (au j))) (d.trans e),λh=>t V _ ⟨d.trans e,bY j q (yb p h)⟩⟩
  .exact jU ⟨rfl,dy V q⟩ d
def DN(a cO:List Int):Prop:=∀(k:Nat)(v:Int),cO[k]? =some v->(∃t,0<=v/\a[v.toNat]? =some t/\t≠0)/\(∀u:Int,0<k->cO[k -1]? =some u->u<v)
def ve{A cO:O}{p:List Int}(g:ar m A p)(f:ar m cO l):dR cq 157 [O.v A,O.v cO] m (DN p l):=by
 apply Bz;have K:=f.len;have L:=g.len;have T:=g.iC;have F:cR ((A.len:Int) -1)=(p.length:Int) -1:=by rw[aP V V,L]
 rw[F];have S:=f.iC;refine fm (n:=l.length) (K▸f.iC) (λk M=>J m M/\∀(j:Nat)(v:Int),j<k->l[j]? =some v->(∃t,0<=v/\p[v.toNat]? =some t/\t≠0)/\(∀u:Int,0<j->l[j -1]? =some u->u<v)) ⟨J.aA _,aL⟩ ?_;rintro k N P μ R ⟨i,w⟩ D
 refine dit (λh=>?_) λh=>?_
 .let⟨x,c⟩:=cK l k;have g1:af N cO.D (cO.off+Int.toNat k*1)=some (vi x):=by simpa using i.af (f.aG c)
  refine⟨V,V,x,g1,?_⟩;refine(bF _ _ _ _).then λQ U B d=>⟨_,rfl,λh=>?_,λh=>?_⟩
  .refine cT (λg=>nb B h ?_) (i.trans d);obtain⟨⟨t,b,s,_⟩,_⟩:=g k x c;have:=az s;omega
  .have C:=yb B h;let⟨t,q⟩:=cK p x.toNat;have H:=(i.trans d).af (g.aG q);have o:=i.trans d;refine⟨V,V,x,d.af g1,V,V,t,by simpa using H,λb=>?_,λb=>?_⟩
   .simp only[aE]at b;refine cT (λa=>?_) o;obtain⟨⟨y,_,e,r⟩,_⟩:=a k x c;rw[q]at e;simp at e;exact r (e▸b)
   .simp only[ak]at b;refine dit (λs=>?_) λs=>?_
    .have G:cR ((k:Int) -1)=((k -1:Nat):Int):=by rw[aP V V];omega
     let⟨E,z⟩:=cK l (k -1);rw[G];refine⟨V,V,x,d.af g1,V,V,E,by simpa using o.af (f.aG z),dit (λe=>?_) λe=>?_⟩
     .refine cT (λa=>?_) o;have:=(a k x c).2 E V z;omega
     .refine D V _ ⟨o,λj v I a=>?_⟩
      by_cases r:j=k
      .subst r;rw[c]at a;simp at a;subst a;refine⟨⟨t,C.1,q,b⟩,λu _ y=>?_⟩;rw[z]at y;simp at y;subst y;omega
      .exact w j v V a
    .refine D V _ ⟨o,λj v I a=>?_⟩
     by_cases r:j=k
     .subst r;rw[c]at a;simp at a;subst a;exact⟨⟨t,C.1,q,b⟩,λu e _=>V⟩
     .exact w j v V a
 .exact jU (λj v a=>w j v (oh (az a)) a) i
end
section
variable{m:E}
structure Ht(ds:List bz)(k:Nat)(d:bz):Prop where
 iY:0<d.cons.length->d.cons.length<=3/\d.uN=0/\d.to=0/\∀f∈d.cons,f.length<=3/\Ft ds.length f
 Sg:d.cons.length=0->(∀e∈ds.take k,¬(e.cons.length=0/\e.uN=d.uN/\e.to=d.to))/\zI ds.length d.uN/\zI ds.length d.to
structure dU(ds:List bz):Prop where
 len:ds.length<=4
 dx:∀(k:Nat)(d:bz),ds[k]? =some d->Ht ds k d
def G9{bn:O}{h:List bz}(hd:cy m bn h){k:Nat}{d:bz}(H:h[k]? =some d):dR cq 197 [O.v bn,vi k] m (Ht h k d):=by
 apply Bw;simp -zeta only[aC,aB];have X:=az H;have v:=hd.len;let⟨x,z,K,g1,g2⟩:=hd.aG H;refine⟨V,V,_,by simpa using K,_,by simpa using g1,_,by simpa using g2,?_⟩;intro P s;have c:J m s:=((J.aA m).aH _).ag (ad _) _ _;have A:∀t∈[m.size],t<s.size:=by simp[s,P,aw]
 have M:=z.len;refine dit (λq=>?_) λq=>?_
 .refine dit (λL=>?_) λL=>?_
  .exact cT (λa=>oh ((a.iY V).1)) c
  refine⟨λf=>?_,λf=>?_⟩
  .simp only[vP]at f;exact cT (λa=>f (a.iY V).2.1) c
  simp only[iH]at f;refine⟨λp=>?_,λp=>?_⟩
  .simp only[vP]at p;exact cT (λa=>p (a.iY V).2.2.1) c
  simp only[iH]at p;refine fm (n:=d.cons.length) (M▸z.iC) (λk B=>J s B/\∀x∈d.cons.take k,x.length<=3/\Ft h.length x) ⟨J.aA _,aL⟩ ?_;rintro j w I μ N ⟨g,r⟩ D
  refine dit (λy=>?_) λy=>?_
  .let⟨C,u⟩:=cK d.cons j;let⟨E,G,F⟩:=(pC.ext (c.trans g) z).aG u;have R:=G.len;refine⟨V,V,E,by simpa using F,dit (λo=>?_) λo=>?_⟩
   .exact cT (λa=>oh (((a.iY V).2.2.2 C (au u)).1)) (c.trans g)
   .refine⟨V,V,E,by simpa using F,?_⟩;exact(wF G _).aK g A λt Q l i b=>⟨_,rfl,λe=>cT (λa=>nb l e (v▸((a.iY V).2.2.2 C (au u)).2)) (c.trans b),λe=>D V _ ⟨b,bY u r ⟨V,v▸yb l e⟩⟩⟩
  .exact jU ⟨λ_=>⟨V,f,p,dy V r⟩,λF=>V⟩ (c.trans g)
 .have C:d.cons.length=0:=V;have U:=hd.iC;refine fm (n:=k) V (λk B=>J s B/\∀f∈h.take k,¬(f.cons.length=0/\f.uN=d.uN/\f.to=d.to)) ⟨J.aA _,aL⟩ ?_;rintro j w I μ N ⟨g,r⟩ D
  refine dit (λy=>?_) λy=>?_
  .let⟨f,u⟩:=cK h j;let⟨E,G,R,S,T⟩:=(cy.ext (c.trans g) hd).aG u;have W:=G.len;have B:¬(f.cons.length=0/\f.uN=d.uN/\f.to=d.to)->I (cR ((j:Int)+1)) w/\μ (cR ((j:Int)+1)) w<μ j w:=λp=>D V _ ⟨g,bY u r p⟩
   refine⟨V,V,E,by simpa using T,λo=>?_,λo=>?_⟩
   .simp only[aE]at o;refine⟨V,V,_,by simpa using R,λi=>?_,λi=>?_⟩
    .simp only[aE]at i;refine⟨V,V,_,by simpa using S,λb=>?_,λb=>?_⟩
     .simp only[aE]at b;have L:f∈h.take k:=by
       rw[List.mem_iff_getElem?];exact⟨j,by rw[lJ,aj V];exact u⟩
      exact cT (λa=>(a.Sg C).1 f L ⟨V,i,b⟩) (c.trans g)
     .simp only[ak]at b;exact B (λp=>b p.2.2)
    .simp only[ak]at i;exact B (λp=>i p.2.1)
   .simp only[ak]at o;exact B (λp=>o V)
  .have f:j=k:=V;subst f;refine(bF _ _ _ _).aK g A λt Q l i b=>⟨_,rfl,λe=>?_,λe=>cT (λa=>fb l e (v▸(a.Sg C).2.1)) (c.trans b)⟩;have e:=l.1 e;refine(bF _ _ _ _).aK b A λt p l o a=>⟨_,rfl,fI ?_ (c.trans a)⟩;rw[l];rw[v]at e⊢;exact⟨λq=>⟨λF=>V,λ_=>⟨r,e,q⟩⟩,λq=>(q.Sg C).2.2⟩
def Fi{bn:O}{a:List bz}(hd:cy m bn a):dR cq 155 [O.v bn] m (dU a):=by
 apply zA;have u:=hd.len;refine dit (λo=>?_) λo=>?_
 .exact cT (λf=>oh f.len) (J.aA _)
 .refine fm (n:=a.length) V (λq r=>J m r/\∀(j:Nat)(d:bz),j<q->a[j]? =some d->Ht a j d) ⟨J.aA _,aL⟩ ?_;rintro j x I μ w ⟨b,k⟩ s
  refine dit (λp=>?_) λp=>?_
  .let⟨l,e⟩:=cK a j;refine(G9 (cy.ext b hd) e).then λt y h g=>⟨_,rfl,λc=>cT (λf=>nb h c (f.dx j l e)) (b.trans g),λc=>?_⟩;refine s V _ ⟨b.trans g,λi d v bP=>?_⟩
   by_cases f:i=j
   .subst f;rw[e]at bP;simp at bP;subst bP;exact yb h c
   .exact k i d V bP
  .exact jU ⟨V,λi d bP=>k i d (oh (az bP)) bP⟩ b
end
section
variable{a:Nat}{m:E}
def fc:List bz->Nat->Nat
 |_,0=>0
 |[],_=>0
 |d::b,a+1=>d.cons.length+fc b a
def eP(a:List bz):List (List Int):=a.flatMap bz.cons
def Q3(a:Nat):fc [] a=0:=by cases a<;>rfl
def sS:∀{b:List bz}{a:Nat}{c:bz},b[a]? =some c->fc b (a+1)=fc b a+c.cons.length
 |[],a,c,h=>by simp at h
 |e::b,0,c,h=>by
  simp at h;subst h;simp only[fc];cases b<;>simp[fc]
 |e::b,a+1,c,h=>by
  have:=sS (b:=b) (a:=a) (c:=c) (by simpa using h);simp only[fc]at this⊢;omega
def mV:∀(b:List bz)(a:Nat),b.length<=a->fc b a=(eP b).length
 |[],a,_=>by rw[Q3];rfl
 |d::b,0,h=>by simp at h
 |d::b,a+1,h=>by
  have:=mV b a (by simpa using h);simp only[fc,eP,mF,ba]at this⊢;omega
def R1:∀(a:List bz){b c:Nat},b<=c->fc a b<=fc a c
 |[],b,c,_=>by simp[Q3]
 |d::a,0,c,_=>by simp[fc]
 |d::a,b+1,0,h=>V
 |d::a,b+1,c+1,h=>by
  have:=R1 a (b:=b) (c:=c) V;simp only[fc];omega
def lC{b:List bz}(h:dU b){d:bz}(e:b[a]? =some d):d.cons.length<=3:=by
 rcases j8 d.cons.length with c|c
 .omega
 .exact((h.dx a d e).iY c).1
def Ud{b:List bz}(h:dU b):∀a,fc b a<=3*a
 |0=>by cases b<;>simp[fc]
 |a+1=>by
  have e:=Ud h a;rcases aZ a b.length with c|c
  .let⟨d,hd⟩:=dZ c;rw[sS hd];have:=lC h hd;omega
  .rw[mV b (a+1) V,<-mV b a c];omega
def ry{b:List bz}(h:dU b)(a:Nat):fc b a<=12:=by
 rcases aZ a b.length with c|c
 .have:=Ud h a;have:=h.len;omega
 .rw[mV b a c,<-mV b b.length (ad _)];have:=Ud h b.length;have:=h.len;omega
def rq:∀(a:List bz)(i j:Nat)(d:bz),a[i]? =some d->j<d.cons.length->(eP a)[fc a i+j]? =d.cons[j]?
 |[],i,j,d,h,_=>by simp at h
 |e::a,0,j,d,h,b=>by
  simp at h;subst h;simp only[fc,eP,mF,cE];rw[ax b]
 |e::a,i+1,j,d,h,b=>by
  have:=rq a i j d (by simpa using h) b;simp only[fc,eP,mF]at this⊢;rw[aF V,<-this];congr 1;omega
def vo:∀(a:List bz)(c:Nat),c<(eP a).length->∃i d,a[i]? =some d/\fc a i<=c/\c<fc a i+d.cons.length
 |[],c,h=>by simp[eP]at h
 |e::a,c,h=>by
  rcases aZ c e.cons.length with b|b
  .exact⟨0,e,aL,by simp[fc],by simpa[fc]using b⟩
  .let⟨i,d,f,g,j⟩:=vo a (c -e.cons.length) (by simp only[eP,mF,ba]at h⊢;omega);exact⟨i+1,d,by simpa using f,by simp only[fc];omega,by simp only[fc];omega⟩
def kj{bn:O}{b:List bz}(hd:cy m bn b)(d:dU b)(t:a<=b.length):vm cq 146 [O.v bn,vi a] m (vi (fc b a)):=by
 apply CJ;have r:=hd.len;have:=d.len;refine dV (n:=a) V (λj g c=>J m c/\g=(fc b j:Nat)) ⟨J.aA _,by cases b<;>rfl⟩ ?_;rintro j g u I μ s ⟨e,rfl⟩ k
 refine dit (λi=>?_) λi=>?_
 .let⟨l,c⟩:=cK b j;let⟨h,f,o,g1,g2⟩:=(cy.ext e hd).aG c;refine⟨V,V,h,by simpa using g2,?_⟩;refine k V _ _ ⟨e,?_⟩
  have p:=ry d j;have q:=lC d c;rw[aP V (oh f.len),sS c,f.len];rfl
 .have:j=a:=V;subst this;exact⟨rfl,e⟩
def qM{bn:O}{a:List bz}(hd:cy m bn a)(c:dU a):vm cq 138 [O.v bn] m (vi (eP a).length):=by
 apply CD;have q:=hd.len;have:=c.len;refine dV (n:=a.length) V (λj f b=>J m b/\f=(fc a j:Nat)) ⟨J.aA _,by cases a<;>rfl⟩ ?_;rintro j f s I μ r ⟨d,rfl⟩ i
 refine dit (λh=>?_) λh=>?_
 .let⟨k,b⟩:=cK a j;let⟨g,e,l,g1,g2⟩:=(cy.ext d hd).aG b;refine⟨V,V,g,by simpa using g2,?_⟩;refine i V _ _ ⟨d,?_⟩
  have o:=ry c j;have p:=lC c b;rw[aP V (oh e.len),sS b,e.len];rfl
 .refine⟨?_,d⟩;rw[mV a j V]
def Yr(a:List bz)(c t:Int):Prop:=
 (∃(i:Nat)(d:bz),t=i+1/\a[i]? =some d/\(fc a i:Int)<=c/\c<fc a i+d.cons.length)\/(t= -1/\¬(0<=c/\c<(eP a).length))
def ms{bn:O}{a:List bz}(hd:cy m bn a)(k:dU a)(c:Int):aM cq 198 [O.v bn,vi c] m λE p=>∃u,E=vi u/\Yr a c u/\J m p:=by
 apply EC;have H:=hd.len;have:=k.len;refine fm (n:=a.length) V (λj p=>J m p/\∀(i:Nat)(d:bz),i<j->a[i]? =some d->¬((fc a i:Int)<=c/\c<fc a i+d.cons.length)) ⟨J.aA _,aL⟩ ?_;rintro j M I μ L ⟨b,s⟩ D
 refine dit (λz=>?_) λz=>?_
 .let⟨d,h⟩:=cK a j;refine(kj (cy.ext b hd) k V).then λN e=>⟨_,rfl,?_⟩;let⟨l,B,G,g1,g2⟩:=(cy.ext (b.trans e) hd).aG h;refine⟨V,V,l,by simpa using g2,?_⟩;have o:=ry k j;have A:=lC k h;have C:=B.len;have y:cR (cR ((fc a j:Int)+(l.len:Int)) -1)=(fc a j:Int)+d.cons.length -1:=by
   rw[aP (b:=(fc a j:Int)+(l.len:Int)) V V,aP V V,C]
  rw[y];refine(bF _ _ _ _).then λF P r q=>⟨_,rfl,λf=>?_,λf=>?_⟩
  .have f:=r.1 f;refine⟨_,rfl,Or.inl ⟨j,d,?_,h,V,V⟩,(b.trans e).trans q⟩;rw[aP V V]
  .refine D V _ ⟨(b.trans e).trans q,λi v K g=>?_⟩
   by_cases w:i=j
   .subst w;rw[h]at g;simp at g;subst g;intro t;exact fb r f ⟨t.1,V⟩
   .exact s i v V g
 .refine⟨_,rfl,Or.inr ⟨rfl,λt=>?_⟩,b⟩;let⟨i,d,o,e,A⟩:=vo a c.toNat V;exact s i d (oh (az o)) o ⟨V,V⟩
def cF(a:List bz)(c:Int):List Int:=if 0<=c then((eP a)[c.toNat]?).getD []else[]
def Gx{bn:O}{a:List bz}(hd:cy m bn a)(d:dU a)(c:Int):aM cq 199 [O.v bn,vi c] m λx l=>∃s,x=O.v s/\ar l s (cF a c)/\J m l:=by
 apply rK;have E:=hd.len;have:=d.len;refine(ms hd d c).mono ?_;rintro _ H ⟨K,rfl,h,e⟩;refine⟨_,rfl,dit (λu=>?_) λu=>?_⟩
 .refine⟨_,rfl,?_,e.aH _⟩;have g:cF a c=[]:=by
   rcases h with⟨i,f,v,_⟩|⟨_,b⟩
   .omega
   .unfold cF;split
    .rw[da V];rfl
    .rfl
  rw[g];exact⟨rfl,ad _,aL,aL⟩
 .rcases h with⟨i,f,rfl,b,B,C⟩|⟨v,_⟩
  .have G:=az b;let⟨q,j,z,g1,g2⟩:=(cy.ext e hd).aG b;have n:cR ((i:Int)+1 -1)=i:=by rw[aP V V];omega
   rw[n];refine⟨V,V,q,by simpa using g2,?_⟩;refine(kj (cy.ext e hd) d V).then λI g=>⟨_,rfl,g.cr (by simpa using g2),?_⟩;have A:=ry d i;have D:=lC d b;have F:=j.len;let⟨y,k⟩:=cK f.cons ((c -fc a i).toNat);let⟨r,w,t⟩:=(pC.ext g j).aG k;have o:cR (c -(fc a i:Int))=c -fc a i:=aP V V;rw[o];refine⟨V,V,r,t,_,rfl,?_,e.trans g⟩;have p:cF a c=y:=by
    unfold cF;rw[aj V];have:=rq a i (c -fc a i).toNat f b V;rw[show c.toNat=fc a i+(c -fc a i).toNat by omega,this,k];rfl
   rw[p];exact w
  .omega
def cx(a:List bz)(t:Int):List Int:=
 if 1<=t/\t<=a.length then((a[t.toNat -1]?).map λd=>(List.range d.cons.length).map λi=>((fc a (t.toNat -1)+i:Nat):Int)).getD []else[]
def AI{bn:O}{a:List bz}(hd:cy m bn a)(c:dU a)(t:Int):aM cq 134 [O.v bn,vi t] m λI b=>∃s,I=O.v s/\ar b s (cx a t)/\J m b:=by
 apply uW;intro r;have S:=hd.len;have:=c.len;have q:J m r:=(J.aA m).aH _;have F:gY m r aD 1 (.mk m.size 0 0 0) []:=gY.new (J.aA m) aD 1 [] 0 aL;refine(bF _ _ _ _).then λL W l f=>⟨_,rfl,λh=>?_,λh=>?_⟩
 .refine⟨_,rfl,?_,q.trans f⟩;have e:cx a t=[]:=by
   unfold cx;rw[ae (oh (nb l h))]
  rw[e];exact⟨rfl,ad _,aL,aL⟩
 .have h:=yb l h;have v:cR (t -1)=((t.toNat -1:Nat):Int):=by rw[aP V V];omega
  rw[v];let⟨e,g⟩:=cK a (t.toNat -1);have w:cx a t=(List.range e.cons.length).map λi=>((fc a (t.toNat -1)+i:Nat):Int):=by
   unfold cx;rw[aj V,g];rfl
  rw[w];have Q:=ry c (t.toNat -1);have R:=lC c g;refine dV (n:=e.cons.length) V (λj s b=>J m b/\gY m b aD 1 s (((List.range j).map λi=>((fc a (t.toNat -1)+i:Nat):Int)).map Ce.i)/\s.len=j) ⟨q.trans f,by simpa using F.ext f,rfl⟩ ?_;rintro j s X K μ U ⟨d,o,p⟩ H
  let⟨y,D,M,g1,g2⟩:=(cy.ext d hd).aG g;have T:=D.len;refine⟨V,V,y,by simpa using g2,dit (λz=>?_) λz=>?_⟩
  .refine(kj (cy.ext d hd) c V).then λG k=>⟨_,rfl,?_⟩;intro u;have x:cR (((fc a (t.toNat -1):Nat):Int)+(j:Int))=((fc a (t.toNat -1)+j:Nat):Int):=by rw[aP V V];omega
   have E:u=G.push (.cells (bA [.i (((fc a (t.toNat -1)+j:Nat):Int))]) aD):=by rw[<-x]
   clear_value u;subst E;refine gY.append (c:=[.i 0]) (h:=[.i ((fc a (t.toNat -1)+j:Nat):Int)]) ((o.ext k).ext (J.push _ _)) ((d.trans k).aH _) rfl (cw.push _ _ _).iF (by simp[p];omega) ?_;intro Y b A B C N P _;refine H V _ _ ⟨B,?_,by simp[C,p]⟩
   rw[Tj,fN,fN];exact A
  .have:j=e.cons.length:=V;subst this;exact⟨_,rfl,ar.gK o bJ,d⟩
end
section
variable{S:List Nat}{d:E}{s j a h:O}{e g p:List Int}{k f:Nat}{x:Int}{Q:List Int->Prop}{K:Value->E->Prop}
def _root_.Go.Vc.ar.bU{X:List Nat}{a:E}(b:ar (bP S d) s e)(f:Fz X d a)(c:∀h∈X,h∈S)(g:e[k]? =some x):af a s.D (s.off+k*1)=some (vi x):=
 (eF.1 ((b.le (f.dg c)).aG g)).2
def _root_.Go.Vc.ar.MP{a:E}(h:ar (bP S d) s e)(b:J d a)(c:e[k]? =some x):af a s.D (s.off+k*1)=some (vi x):=
 h.bU (b.fz []) aL c
def Fw(f:Nat)(b:List Value)(d:E)(S:List Nat)(Q:List Int->Prop):Prop:=aM cq f b d λv a=>∃s e,v=O.v s/\ar (bP S a) s e/\Q e/\J d a
def ln(f:Nat)(b:List Value)(d:E)(S:List Nat)(Q:List Int->Prop):Prop:=aM cq f b d λv a=>∃s e,v=O.v s/\Gr S d a aD 1 um s e/\Q e/\J d a
def tq(f:Nat)(a:List Value)(d:E)(Q:Int->Prop):Prop:=aM cq f a d λv b=>∃n:Int,v=vi n/\Q n/\J d b
abbrev GI(S:List Nat)(a d:E)(s:O)(e:List Int):Prop:=Gr S a d aD 1 um s e
def GI.nil(S:List Nat)(d:E):GI S d (d.push (.cells (bA []) aD)) (.mk d.size 0 0 0) []:=Gr.new S (ad _) aD 1 um
def GI.kL{S X:List Nat}{c d:E}{s:O}{e:List Int}{a:Int}{K:O->E->Prop}(f:GI S c d s e)(g:Fz X c d)(j:∀h∈S,h<c.size)(k:e.length<=10^12)
 (i:∀r b,GI S c b r (e++[a])->Fz X c b->(d.size<=b.size/\(r.D=s.D\/d.size<=r.D))->(∀h,h<d.size->h≠s.D->b[h]? =d[h]?)->K r b):jM (d.push (.cells (bA [.i a]) aD)) aD [.i 0] 8 s (.mk d.size 0 1 1) K:=
 Gr.kL (g:=[.i 0]) um.mono be f g rfl V i
def GI.done{S:List Nat}{a d:E}{s:O}{e:List Int}(b:GI S a d s e)(c:∀h∈S,h<a.size)(f:e.length<=10^12):ar (bP S d) s e:=Gr.done um.mono b c be V
def GI.all{S X:List Nat}{b d:E}{s x:O}{e g:List Int}{K:O->E->Prop}(c:GI S b d s e)(f:Fz X b d)(k:∀h∈S,h<b.size)(j:ar (bP (s.D::S) d) x g)(l:e.length+g.length<=10^12)
 (i:∀r a,GI S b a r (e++g)->Fz X b a->(d.size<=a.size/\(r.D=s.D\/d.size<=r.D))->(∀h,h<d.size->h≠s.D->a[h]? =d[h]?)->K r a):jM d aD [.i 0] 8 s x K:=
 Gr.all (g:=[.i 0]) um.mono be c f j V i
def GI.jx{b a:E}(h:GI S b d s e)(j:a[s.D]? =d[s.D]?):GI S b a s e:=by
 let⟨f,c,g,i⟩:=h;exact⟨f,c,g.congr j,i.mono λ_ _ h=>h⟩
def GI.ext{S:List Nat}{b d a:E}{s:O}{e:List Int}(h:GI S b d s e)(c:J d a):GI S b a s e:=Gr.ext um.mono h c
def _root_.Go.Vc.Gr.cv{α:Type}{S c:List Nat}{g i d:E}{f b:Nat}{R:E->List Ce->α->Prop}{s:O}{e:List α}(o:oH b R)(k:Gr c i d f b R s e)(p:∀h∈S,h∈c\/d.size<=h)(q:g.size<=i.size):Gr S g d f b R s e:=by
 let⟨l,j,m,n⟩:=k;refine⟨l,j,m.cv q,n.mono λr x=>o.le ((J.aA d).bP λh a=>?_)⟩;rcases List.mem_cons.1 a with a|a
 .exact Or.inl (by rw[a];exact aX)
 .exact(p h a).imp (ai _) id
def GI.cv{S a:List Nat}{b c d:E}{s:O}{e:List Int}(f:GI a c d s e)(g:∀h∈S,h∈a)(j:b.size<=c.size):GI S b d s e:=Gr.cv um.mono f (λh i=>Or.inl (g h i)) j
def ln.then{b:List Value}(h:ln f b d S Q)(k:∀s e a,GI S d a s e->Q e->J d a->K (O.v s) a):aM cq f b d K:=
 h.mono λ_ a⟨s,e,c,g,i,j⟩=>c▸k s e a g i j
def Fw.then{b:List Value}(h:Fw f b d S Q)(k:∀s e a,ar (bP S a) s e->Q e->J d a->K (O.v s) a):aM cq f b d K:=
 h.mono λ_ a⟨s,e,c,g,i,j⟩=>c▸k s e a g i j
def tq.then{b:List Value}{Q:Int->Prop}(h:tq f b d Q)(i:∀n a,Q n->J d a->K (vi n) a):aM cq f b d K:=
 h.mono λ_ a⟨n,e,c,g⟩=>e▸i n a c g
def tA{b:E}{h:Nat}(a:J d b)(c:d.size<=h):Le (bP S d) (bP (h::S) b):=a.bP λf e=>by
 rcases List.mem_cons.1 e with a|a
 .exact Or.inr (by rw[a];exact c)
 .exact Or.inl a
def mu(b:∀h∈S,h<d.size)(i:ar (bP S d) j e)(c:e.length<=10^12):ln 66 [O.v j] d S (e=·):=by
 apply nJ;intro k;have a:J d k:=J.push d _;exact GI.all (e:=[]) (X:=[]) (GI.nil S d) (a.fz []) b (i.le (tA a (ad _))) (by simpa using c) λr m g f _ _=>⟨r,e,rfl,by simpa using g,rfl,f.ext⟩
def pF(e g:List Int):Prop:=(∀x∈g,x∈e)/\g.length<=e.length
def pd(h:∀x∈g,x∈e)(b:x∈e):∀y∈g++[x],y∈e:=by
 intro y a;rcases List.mem_append.1 a with a|a
 .exact h y a
 .simp at a;subst a;exact b
def BD(r:∀h∈S,h<d.size)(b:ar (bP S d) j e)(u:Int)(v:e.length<=10^12):ln 296 [O.v j,vi u] d S (pF e):=by
 apply Fk;intro z;have t:=b.len;refine dV (n:=e.length) (t▸b.iC) (λk s a=>J d a/\∃g,GI S d a s g/\(∀x∈g,x∈e)/\g.length<=k) ⟨J.push d _,[],GI.nil S d,aL,ad _⟩ ?_;rintro k s A I μ y ⟨a,g,c,i,w⟩ m
 refine dit (λp=>?_) λp=>?_
 .let⟨x,l⟩:=cK e k;refine⟨V,V,x,b.MP a l,λq=>⟨V,V,x,b.MP a l,?_⟩,λq=>m V _ _ ⟨a,g,c,i,V⟩⟩;intro B;exact GI.kL c (a.fz []) r V λD C o f _ _=>m V _ _ ⟨f.ext,_,o,pd i (au l),bJ⟩
 .exact⟨s,g,rfl,c,⟨i,V⟩,a⟩
def OX(r:∀h∈S,h<d.size)(b:ar (bP S d) j e)(u:Int)(v:e.length<=10^12):ln 337 [O.v j,vi u] d S (pF e):=by
 apply Ig;intro z;have t:=b.len;refine dV (n:=e.length) (t▸b.iC) (λk s a=>J d a/\∃g,GI S d a s g/\(∀x∈g,x∈e)/\g.length<=k) ⟨J.push d _,[],GI.nil S d,aL,ad _⟩ ?_;rintro k s A I μ y ⟨a,g,c,i,w⟩ m
 refine dit (λp=>?_) λp=>?_
 .let⟨x,l⟩:=cK e k;refine⟨V,V,x,b.MP a l,λq=>⟨V,V,x,b.MP a l,?_⟩,λq=>m V _ _ ⟨a,g,c,i,V⟩⟩;intro B;exact GI.kL c (a.fz []) r V λD C o f _ _=>m V _ _ ⟨f.ext,_,o,pd i (au l),bJ⟩
 .exact⟨s,g,rfl,c,⟨i,V⟩,a⟩
def Nd(u:∀h∈S,h<d.size)(i:ar (bP S d) a e)(v:ar (bP S d) h p)(A:e.length<=10^12):ln 323 [O.v a,O.v h] d S (pF e):=by
 apply Gw;intro D;have w:=i.len;refine dV (n:=e.length) (w▸i.iC) (λk s b=>J d b/\∃g,GI S d b s g/\(∀x∈g,x∈e)/\g.length<=k) ⟨J.push d _,[],GI.nil S d,aL,ad _⟩ ?_;rintro k s E I μ C ⟨b,g,j,l,B⟩ o
 refine dit (λr=>?_) λr=>?_
 .let⟨x,m⟩:=cK e k;refine⟨V,V,x,i.MP b m,?_⟩;refine(dw ((v.le (bG _ _)).ext b) x).then λz F _ c=>⟨_,rfl,λt=>⟨V,V,x,i.MP (b.trans c) m,?_⟩,λt=>o V _ _ ⟨b.trans c,g,j.ext c,l,V⟩⟩;intro y;exact GI.kL (j.ext c) ((b.trans c).fz []) u V λG y q f _ _=>o V _ _ ⟨f.ext,_,q,pd l (au m),bJ⟩
 .exact⟨s,g,rfl,j,⟨l,V⟩,b⟩
def _root_.Go.Vc.xw{σ τ:Type}{n:Nat}(p:n<=9223372036854775807){h:σ}{j:τ}{g:(σ->τ->Int->E->Prop)->(σ->τ->Int->E->Nat)->σ->τ->Int->E->Prop}(Q:Nat->σ->τ->E->Prop)(m:Q 0 h j d)
 (l:∀(k:Nat)(s:σ)(t:τ)(a:E)(I:σ->τ->Int->E->Prop)(μ:σ->τ->Int->E->Nat),k<=n->Q k s t a->
  (k<n->∀c e b,Q (k+1) c e b->I c e (cR ((k:Int)+1)) b/\μ c e (cR ((k:Int)+1)) b<μ s t k a)->g I μ s t k a):
 ∃(I:σ->τ->Int->E->Prop)(μ:σ->τ->Int->E->Nat),I h j 0 d/\∀s t i a,I s t i a->g I μ s t i a:=by
 refine⟨λs t i b=>∃k:Nat,i=k/\k<=n/\Q k s t b,λ_ _ i _=>(n -i).toNat,⟨0,rfl,eO _,m⟩,?_⟩
 rintro s t i a ⟨k,rfl,o,q⟩
 refine l k s t a _ _ o q λf c e b r=>?_
 rw[kW f p]
 exact⟨⟨k+1,rfl,f,r⟩,Gj f⟩
def Xs(e:List Int)(n:Int)(g:List Int):Prop:=(∀x∈g,x∈e\/x=n)/\g.length<=e.length+1
def BY{n:Int}(h:∀x∈g,x∈e\/x=n)(b:x∈e\/x=n):∀y∈g++[x],y∈e\/y=n:=by
 intro y a;rcases List.mem_append.1 a with a|a
 .exact h y a
 .simp at a;subst a;exact b
def mH(o:∀h∈S,h<d.size)(w:ar (bP S d) j e)(t:Int)(M:e.length<10^12):ln 277 [O.v j,vi t] d S (Xs e t):=by
 apply GJ;intro Q;have K:=w.len;refine xw (n:=e.length) (K▸w.iC) (λk s c b=>J d b/\∃g,GI S d b s g/\(∀x∈g,x∈e\/x=t)/\g.length<=k+(if c=true then 1 else 0)) ⟨J.push d _,[],GI.nil S d,aL,ad _⟩ ?_;rintro k s c y I μ P ⟨a,g,p,q,v⟩ D
 have N:g.length<=k+1:=by split at v<;>omega
 refine dit (λu=>?_) λu=>?_
 .let⟨x,z⟩:=cK e k;have G:∀{b:E},J d b->af b j.D (j.off+k*1)=some (vi x):=λu=>w.MP u z;have B:x∈e\/x=t:=Or.inl (au z);have A:∀m:Bool,(g++[x]).length<=k+1+(if m=true then 1 else 0)->jM (y.push (.cells (bA [.i x]) aD)) aD [.i 0] 8 s (.mk y.size 0 1 1) λr b=>I r m (cR ((k:Int)+1)) b/\μ r m (cR ((k:Int)+1)) b<μ s c k y:=λm hd=>
   GI.kL p (a.fz []) o V λr C i f _ _=>D V _ _ _ ⟨f.ext,_,i,BY q B,hd⟩
  refine⟨λl=>⟨V,V,x,G a,λF=>⟨V,V,x,G a,λH=>?_,λH=>⟨V,V,x,G a,A true bJ⟩⟩,λF=>⟨V,V,x,G a,A c ?_⟩⟩,λl=>⟨V,V,x,G a,A c ?_⟩⟩
  .have hd:c=false:=by simpa using l
   subst hd;simp at v;intro L;refine GI.kL p (a.fz []) o V λr C i f _ _=>⟨V,V,x,G f.ext,?_⟩;intro R;exact GI.kL i f o bJ λr T i f _ _=>D V _ _ _ ⟨f.ext,_,i,BY (BY q (Or.inr rfl)) B,bJ⟩
  .simp only[ba,aV,eU];omega
  .simp only[ba,aV,eU];omega
 .refine⟨λl=>?_,λl=>⟨s,g,rfl,p,⟨q,V⟩,a⟩⟩;have hd:c=false:=by simpa using l
  subst hd;simp at v;intro L;exact GI.kL p (a.fz []) o V λr C i f _ _=>⟨r,_,rfl,i,⟨BY q (Or.inr rfl),bJ⟩,f.ext⟩
def sM(y:∀h∈S,h<d.size)(l:ar (bP S d) j e)(B:Int)(C:e.length<=10^12):ln 273 [O.v j,vi B] d S (pF e):=by
 apply wY;intro F;have z:=l.len;refine xw (n:=e.length) (z▸l.iC) (λk s _ a=>J d a/\∃g,GI S d a s g/\(∀x∈g,x∈e)/\g.length<=k) ⟨J.push d _,[],GI.nil S d,aL,ad _⟩ ?_;rintro k s c o I μ E ⟨b,g,i,m,D⟩ q
 refine dit (λu=>?_) λu=>?_
 .let⟨x,p⟩:=cK e k;have G:=l.MP b p;have A:jM (o.push (.cells (bA [.i x]) aD)) aD [.i 0] 8 s (.mk o.size 0 1 1) λr a=>I r c (cR ((k:Int)+1)) a/\μ r c (cR ((k:Int)+1)) a<μ s c k o:=
   GI.kL i (b.fz []) y V λr H t f _ _=>q V _ _ _ ⟨f.ext,_,t,pd m (au p),bJ⟩
  exact⟨V,V,x,G,λv=>⟨λw=>q V _ _ _ ⟨b,g,i,m,V⟩,λw=>⟨V,V,x,G,A⟩⟩,λv=>⟨V,V,x,G,A⟩⟩
 .exact⟨s,g,rfl,i,⟨m,V⟩,b⟩
def O8(f:∀h∈S,h<d.size)(v:ar (bP S d) a e)(i:ar (bP S d) h p)(j:e.length+p.length<=10^12):ln 291 [O.v a,O.v h] d S (λg=>(∀x∈g,x∈e\/x∈p)/\g.length<=e.length+p.length):=by
 apply IP;refine(mu f v V).then λM _ G u r C=>⟨_,rfl,?_⟩;subst r;have w:=i.len;refine dV (n:=p.length) (w▸i.iC) (λk s b=>J d b/\∃g,GI S d b s g/\(∀x∈g,x∈e\/x∈p)/\g.length<=e.length+k) ⟨C,_,u,λx c=>Or.inl c,ad _⟩ ?_;rintro k s H I μ F ⟨c,g,l,m,E⟩ B
 refine dit (λb=>?_) λb=>?_
 .let⟨x,o⟩:=cK p k;refine⟨V,V,x,i.MP c o,?_⟩;refine(mH (λh j=>aO (f h j) c.size) (l.done f V) x V).then λL A K t q D=>⟨_,rfl,B V _ _ ⟨c.trans D,A,t.cv (λ_ b=>b) c.size,λy z=>?_,oh q.2⟩⟩;rcases q.1 y z with b|b
  .exact m y b
  .subst b;exact Or.inr (au o)
 .exact⟨s,g,rfl,l,⟨m,V⟩,c⟩
def tT(a:Int)(d:E):dR cq 310 [vi a] d (14<=a/\a<=17):=by
 apply zh;exact(bF _ _ _ _).then λh e c b=>⟨_,rfl,fI c b⟩
def eM(c:∀h∈S,h<d.size){jT:O}{a:List Int}(m:ar (bP S d) j e)(n:ar (bP S d) jT a)(l:e.length+a.length<=10^12):ln 187 [O.v j,O.v jT] d S (e++a=·):=by
 apply uZ;refine(mu c m V).then λq _ p b i g=>⟨_,rfl,?_⟩;subst i;exact GI.all b (g.fz []) c (n.le (tA g b.bh.1)) l λr o k f _ _=>⟨r,_,rfl,k,rfl,f.ext⟩
def sA(t:∀h∈S,h<d.size)(l:ar (bP S d) j e)(a:Nat)(w:a+e.length<=10^12):ln 220 [O.v j,vi a] d S (λg=>(∀x∈g,(a:Int)<=x/\x<a+e.length)/\g.length<=e.length):=by
 apply CM;intro B;have u:=l.len;refine dV (n:=e.length) (u▸l.iC) (λk s b=>J d b/\∃g,GI S d b s g/\(∀x∈g,(a:Int)<=x/\x<a+e.length)/\g.length<=k) ⟨J.push d _,[],GI.nil S d,aL,ad _⟩ ?_;rintro k s C I μ A ⟨c,g,i,m,z⟩ o
 refine dit (λq=>?_) λq=>?_
 .let⟨x,v⟩:=cK e k;refine⟨V,V,x,l.MP c v,λr=>?_,λr=>o V _ _ ⟨c,g,i,m,V⟩⟩;rw[aP (b:=(a:Int)+k) V V];intro D;refine GI.kL i (c.fz []) t V λF E p f _ _=>o V _ _ ⟨f.ext,_,p,?_,bJ⟩
  intro y b;rcases List.mem_append.1 b with b|b
  .exact m y b
  .simp at b;omega
 .exact⟨s,g,rfl,i,⟨m,V⟩,c⟩
def mg(o:∀h∈S,h<d.size)(a b:Nat)(q:a+b<=10^12):ln 203 [vi a,vi b] d S (λg=>(∀x∈g,(a:Int)<=x/\x<a+b)/\g.length=b):=by
 apply xW;intro u;refine dV (n:=b) V (λk s c=>J d c/\∃g,GI S d c s g/\(∀x∈g,(a:Int)<=x/\x<a+b)/\g.length=k) ⟨J.push d _,[],GI.nil S d,aL,rfl⟩ ?_;rintro k s v I μ t ⟨j,g,e,i,r⟩ p
 refine dit (λm=>?_) λm=>?_
 .rw[aP (b:=(a:Int)+k) V V];intro w;refine GI.kL e (j.fz []) o V λA z l f _ _=>p V _ _ ⟨f.ext,_,l,?_,bJ⟩
  intro y c;rcases List.mem_append.1 c with c|c
  .exact i y c
  .simp at c;omega
 .exact⟨s,g,rfl,e,⟨i,V⟩,j⟩
def HF(e:List Int):(e.map λx=>[Ce.i x]).flatten=e.map Ce.i:=by induction e<;>simp_all
def GI.set{S X:List Nat}{p d:E}{s:O}{e:List Int}(t:GI S p d s e)(M:Fz X p d){k:Nat}(B:k<e.length)(n:Int):
 eC d s.D (s.off+k*1) 1/\GI S p (ag d s.D (s.off+k*1) [.i n]) s (e.set k n)/\Fz X p (ag d s.D (s.off+k*1) [.i n])/\(∀h,h≠s.D->(ag d s.D (s.off+k*1) [.i n])[h]? =d[h]?):=by
 have R:=t.bh
 have T:=t.len be
 let⟨v,j,I,g⟩:=t
 have Q:∀h,h≠s.D->(ag d s.D (s.off+k*1) [.i n])[h]? =d[h]? :=λh L=>bo _ _ _ _ L
 let⟨h,D,tail,q,F,u,G,H⟩:=I.aG.resolve_left v
 have N:j.flatten.length=e.length:=by rw[cp g.size,g.len];omega
 have P:j.flatten=e.map Ce.i:=by
  apply iL;intro f;rcases aZ f e.length with a|a
  .let⟨x,l⟩:=dZ a;let⟨cs,y⟩:=cK j f (by rw[g.len];exact a);have z:cs=[.i x]:=g.dx f cs x y l;have w:=fV (g:=1) g.size y (i:=0) (c:=.i x) (by rw[z];rfl);simp only[iu,jF]at w;rw[w];simp[l]
  .rw[da V,da (by simpa using a)]
 have C:s.off+k*1=k:=by rw[q];simp
 have w:s.D=h:=by rw[q];rfl
 refine⟨?_,⟨v,(e.set k n).map λx=>[.i x],⟨?_,Or.inr ⟨h,D,tail,q,F,?_,?_,H⟩⟩,⟨by rw[dW],λcs y=>?_,λU cs x A l=>?_⟩⟩,M.ag (Or.inr R.1) _ _,Q⟩
 .rw[C,w]
  exact u.eC (by simp only[ba,aV,eU];omega)
 .rw[HF,dW,eE];omega
 .have J:=cw.ag (m:=d) (b:=h) (r:=[.i n]) (o:=k) u
  rw[C,w,HF]
  have K:js (j.flatten++tail) k [.i n]=(e.set k n).map Ce.i++tail:=by
   apply iL;intro f;rw[wD,P];by_cases z:f=k
   .subst z;rw[aj ⟨ad _,aL,bJ⟩,ax (by simpa using B)];simp[B]
   .rw[ae bJ];rcases aZ f e.length with a|a
    .rw[ax (by simpa using a),ax (by simpa using a)];simp only[cU,cz (kH z)]
    .rw[aF (by simpa using a),aF (by simpa using a)];simp
  rw[<-K];exact J
 .rw[<-G,HF]
  simp only[ba,N,dW,eE]
 .simp only[XU]at y
  obtain⟨x,_,rfl⟩:=y
  rfl
 .simp only[cU,l,oA,DK]at A
  exact A.symm
def vg(k:∀h∈S,h<d.size)(o:ar (bP S d) j e)(m:e.length<=10^12){a:Nat}(l:a<e.length)(n:Int):ln 235 [O.v j,vi a,vi n] d S (e.set a n=·):=by
 apply zC;refine(mu k o m).then λs _ q g b p=>⟨_,rfl,V,?_,?_⟩
 .subst b;have:=g.len be;omega
 subst b;obtain⟨c,f,i,_⟩:=g.set (p.fz []) l n;exact⟨c,s,_,rfl,f,rfl,i.ext⟩
end
end Go.Proofs.YtkoifinbblcbiaaGreat
section
namespace Go.Vc
variable{l:List cV}{k d a:Nat}{x s:cV}{c:Prop}
open Go.Proofs.YtkoifinbblcbiaaGreat
def Bk.ind{Q:Bk->Prop}(h:∀ap r,(∀s∈ap,∀b∈s.bE,Q b)->Q (.mk ap r)):∀b,Q b
 | .mk ap r=>h ap r λs _ b _=>Bk.ind h b
termination_by b=>SizeOf.sizeOf b
decreasing_by
 rename_i a c
 have d:=oV a
 have e:=oV c
 have f:SizeOf.sizeOf s.bE<SizeOf.sizeOf s:=by cases s;simp;omega
 simp;omega
def Ex.ind{Q:Ex->Prop}(h:∀a bQ bE,(∀e∈bE,Q e)->Q (.mk a bQ bE)):∀e,Q e
 | .mk a bQ bE=>h a bQ bE λe _=>Ex.ind h e
termination_by e=>SizeOf.sizeOf e
decreasing_by
 rename_i a
 have b:=oV a
 simp;omega
def sw(l:List cV):Nat:=(l.map MK.w).sum
def bw(l:List Bk):Nat:=(l.map Bk.w).sum
def en(l:List Ex):Nat:=(l.map Ex.n).sum
@[simp] theorem vJ:sw []=0:=rfl
@[simp] theorem zP:bw []=0:=rfl
@[simp] theorem Xy:en []=0:=rfl
def mO(x:cV)(l:List cV):sw (x::l)=x.w+sw l:=by simp[sw]
def uK(x:Bk)(l:List Bk):bw (x::l)=x.w+bw l:=by simp[bw]
def Oy(x:Ex)(l:List Ex):en (x::l)=x.n+en l:=by simp[en]
def dD(a b:List cV):sw (a++b)=sw a+sw b:=by simp[sw]
def oZ(a b:List Bk):bw (a++b)=bw a+bw b:=by simp[bw]
def NH(a b:List Ex):en (a++b)=en a+en b:=by simp[en]
def Bk.qQ(s:List cV)(r:Int):(Bk.mk s r).w=1+sw s:=Bk.ZB _
def Bk.mz(b:Bk):b.w=1+sw b.ap:=Bk.ZB b
def cV.mz(s:cV):s.w=1+s.args.length+bw s.bE:=rfl
def Ex.SN(o n:Int)(k:List Ex):(Ex.mk o n k).n=1+en k:=by rw[Ex.n];rfl
def Ex.YY(e:Ex):e.n=1+en e.bE:=by cases e;exact Ex.SN _ _ _
def qd(h:l[k]? =some x):sw (l.take (k+1))=sw (l.take k)+x.w:=by rw[bd h,dD,mO,vJ];rfl
def uL{l:List Bk}{x:Bk}(h:l[k]? =some x):bw (l.take (k+1))=bw (l.take k)+x.w:=by rw[bd h,oZ,uK,zP];rfl
def Kq{l:List Ex}{x:Ex}(h:l[k]? =some x):en (l.take (k+1))=en (l.take k)+x.n:=by rw[bd h,NH,Oy,Xy];rfl
def BH(l:List cV)(k:Nat):sw (l.take k)<=sw l:=by
 have:=dD (l.take k) (l.drop k);rw[dm]at this;omega
def KN(l:List Bk)(k:Nat):bw (l.take k)<=bw l:=by
 have:=oZ (l.take k) (l.drop k);rw[dm]at this;omega
def RZ(l:List Ex)(k:Nat):en (l.take k)<=en l:=by
 have:=NH (l.take k) (l.drop k);rw[dm]at this;omega
def Pd(h:l[k]? =some x):x.w<=sw l:=by
 have:=qd h;have:=BH l (k+1);omega
def xr{l:List Bk}{x:Bk}(h:l[k]? =some x):x.w<=bw l:=by
 have:=uL h;have:=KN l (k+1);omega
def fY:∀l:List cV,l.length<=sw l
 |[]=>aL
 |x::l=>by have:=fY l;rw[mO,aV,cV.mz];omega
def Bk.Hm(b:Bk):1<=b.w:=by rw[Bk.mz];omega
def qC:∀l:List Bk,l.length<=bw l
 |[]=>aL
 |x::l=>by have:=qC l;have:=x.Hm;rw[uK,aV];omega
def Q1:∀l:List Ex,l.length<=en l
 |[]=>aL
 |x::l=>by have:=Q1 l;rw[Oy,aV,Ex.YY];omega
def pD(a:Int):Prop:=0<=a/\a<=11
instance(a:Int):Decidable (pD a):=inferInstanceAs (Decidable (_/\_))
def dn(s:cV):Nat:=if pD s.op then 1 else 0
def dc(l:List cV):Nat:=(l.map dn).sum
@[simp] theorem tx:dc []=0:=rfl
def kN(x:cV)(l:List cV):dc (x::l)=dn x+dc l:=by simp[dc]
def cW(a b:List cV):dc (a++b)=dc a+dc b:=by simp[dc]
def qV(h:l[k]? =some x):dc (l.take (k+1))=dc (l.take k)+dn x:=by rw[bd h,cW,kN,tx];rfl
def TS(l:List cV)(k:Nat):dc (l.take k)<=dc l:=by
 have:=cW (l.take k) (l.drop k);rw[dm]at this;omega
def YF(x:cV):dn x<=1:=by unfold dn;split<;>omega
def tw:∀l:List cV,dc l<=l.length
 |[]=>aL
 |x::l=>by have:=tw l;have:=YF x;rw[kN,aV];omega
def BR(a:List bz)(b bQ:Int)(i:Nat):Nat:=if b=8 then(cF a (((cx a bQ)[i]?).getD 0)).length else 0
structure U7(ds:List bz)(d:Nat)(c:Prop)(a:Nat)(s:cV):Prop where
 op:pD s.op\/c/\14<=s.op/\s.op<=17
 args:∀x∈s.args,0<=x/\x<(a:Int)
 kX:14<=s.op\/s.op=7\/s.op=8->s.args.length=1
 bM:0<=s.bM/\s.bM<=(a:Int)
 Km:s.op=7->s.bE.length=2
 all:s.op=8->s.bE.length=(cx ds s.bQ).length/\0<s.bE.length
 call:s.op=9->0<=s.bQ/\s.bQ<(d:Int)
inductive WB(ds:List bz)(d:Nat)(c:Prop):Nat->Bk->Prop
 |mk {a:Nat} {ap:List cV} {r:Int} (fe:∀(i:Nat)(s:cV),ap[i]? =some s->U7 ds d c (a+dc (ap.take i)) s)
  (bE:∀(i:Nat)(s:cV)(k:Nat)(b:Bk),ap[i]? =some s->s.bE[k]? =some b->WB ds d c (a+dc (ap.take i)+BR ds s.op s.bQ k) b)
  (res:0<=r/\r<((a+dc ap:Nat):Int)):WB ds d c a (.mk ap r)
structure WS(ds:List bz)(d:Nat)(c:Prop)(a:Nat)(s:cV):Prop where
 fe:U7 ds d c a s
 bE:∀(k:Nat)(b:Bk),s.bE[k]? =some b->WB ds d c (a+BR ds s.op s.bQ k) b
def WL(b:List bz)(d:Nat)(c:Prop)(a:Nat)(l:List cV):Prop:=∀(i:Nat)(s:cV),l[i]? =some s->WS b d c (a+dc (l.take i)) s
def WB.aW{e:List bz}{b:Bk}(h:WB e d c a b):WL e d c a b.ap/\0<=b.aT/\b.aT<((a+dc b.ap:Nat):Int):=by
 cases h with
 |mk fe bE j=>exact⟨λi s f=>⟨fe i s f,λk b g=>bE i s k b f g⟩,j⟩
def WB.of{e:List bz}{ap:List cV}{r:Int}(h:WL e d c a ap)(j:0<=r/\r<((a+dc ap:Nat):Int)):WB e d c a (.mk ap r):=
 .mk (λi s b=>(h i s b).fe) (λi s k f b g=>(h i s b).bE k f g) j
def WL.nil(b:List bz)(d:Nat)(c:Prop)(a:Nat):WL b d c a []:=λi s h=>by simp at h
def WL.append{f:List bz}{g:List cV}(h:WL f d c a l)(j:WL f d c (a+dc l) g):WL f d c a (l++g):=λi s e=>by
 rcases aZ i l.length with b|b
 .rw[ax b]at e;rw[nF V];exact h i s e
 .rw[aF b]at e;have:=j _ s e;rw[List.take_append,nN b,cW,<-dk];exact this
def WL.kX{e:List bz}(h:WS e d c a s):WL e d c a [s]:=λi x b=>by
 have:i=0:=by have:=az b;simp at this;omega
 subst this;simp at b;subst b;simpa using h
def WL.yY{b:List bz}(h:WL b d c a l)(e:WS b d c (a+dc l) s):WL b d c a (l++[s]):=h.append (.kX e)
def WL.take{e:List bz}(h:WL e d c a l)(k:Nat):WL e d c a (l.take k):=λi s b=>by
 rw[lJ]at b;split at b
 .rw[ME,jd V];exact h i s b
 .simp at b
def WL.drop{b:List bz}(h:WL b d c a l)(k:Nat):WL b d c (a+dc (l.take k)) (l.drop k):=λi s e=>by
 rw[sG]at e;have:=h _ s e;rw[List.take_add,cW,<-dk]at this;exact this
end Go.Vc
end
namespace Go.Proofs.YtkoifinbblcbiaaGreat
open Go.Vc
section
variable{m:E}{d p:O}{b:cg}
def vT(b:cg)(bQ:Int)(n:Nat):Prop:=∃q:dA,0<=bQ/\b.cC[bQ.toNat]? =some q/\q.params.length=n
def UK:cR 9223372036854775808= -9223372036854775808:=be
def wU(h:eW m d p b)(bQ:Int)(n jT:Nat)(I:n<=9223372036854775807)(H:jT<=1):
 dR cq 200 [.agg #[O.v d,O.v p],vi bQ,vi n,vi jT] m (vT b bQ (n+jT)):=by
 apply CY
 simp -zeta only[aC,aB]
 intro j
 have i:J m j:=(J.aA m).aH _
 have w:∀k∈[m.size],k<j.size:=by simp[j]
 have K:=h.cC.len
 have L:=h.cC.iC
 refine(bF _ _ _ _).aK (J.aA _) w λk M o f B=>⟨_,rfl,λa=>?_,λa=>?_⟩
 .have a:=o.1 a
  rw[aP V V]at a
  let⟨q,g⟩:=cK b.cC bQ.toNat
  let⟨e,x,y,l,D,E,s,g1,g2,z,A⟩:=(jz.ext (i.trans f) h.cC).aG g
  refine⟨V,V,e,s,fI ?_ (i.trans f)⟩
  have u:=l.len
  have C:=l.iC
  simp only[aE]
  have r:(e.len:Int)=cR ((n:Int)+(jT:Int))<->e.len=n+jT:=by
   rcases aZ (n+jT) 9223372036854775808 with G|F
   .rw[aP V V];omega
   .have c:(n:Int)+(jT:Int)=9223372036854775808:=V;rw[c,UK];omega
  rw[r,u]
  exact⟨λv=>⟨q,a.1,g,v⟩,λ⟨N,_,c,t⟩=>by rw[g]at c;simp at c;rw[c];exact t⟩
 .refine cT (λ⟨q,e,c,_⟩=>fb o a ?_) (i.trans f)
  have:=az c
  rw[aP V V]
  omega
def lS(b:cg)(p:dA)(k:Nat)(i:Instr):Prop:=
 if i.op=0 then i.args.length=0/\-999<=i.bQ/\i.bQ<=999
 else if i.op=1\/i.op=2\/i.op=3\/i.op=4\/i.op=11 then i.args.length=2/\i.bQ=0
 else if i.op=5\/i.op=14\/i.op=15\/i.op=18\/i.op=23 then i.args.length=1/\i.bQ=0
 else if i.op=6 then(0<=i.bQ/\i.bQ<(eP b.bn).length)/\i.args.length=(cF b.bn i.bQ).length/\0<=i.bM/\i.bM<=p.an
 else if i.op=9\/i.op=24 then vT b i.bQ i.args.length
 else if i.op=10 then vT b i.bQ (i.args.length+1)/\∀q,b.cC[i.bQ.toNat]? =some q->q.cO.length=0
 else if i.op=16\/i.op=17 then(1<=i.args.length/\i.args.length<=4)/\i.bQ=0
 else if i.op=19 then i.args.length=1/\0<=i.bQ/\i.bQ<=2
 else if i.op=20 then i.args.length=1/\(k:Int)+1<=i.bQ/\i.bQ<=(p.cX.length:Int) -1
 else if i.op=22 then i.args.length=0/\(k:Int)+1<=i.bQ/\i.bQ<=(p.cX.length:Int) -1
 else if i.op=21 then i.args.length=1/\0<(cx b.bn i.bQ).length/\Oj i.eG (cx b.bn i.bQ).length k p.cX.length
 else False
structure iN(b:cg)(p:dA)(k:Nat)(i:Instr):Prop where
 args:∀a∈i.args,0<=a/\a<=p.an -1
 dst:0<=i.dst/\i.dst<=p.an -1
 YG:i.dst=0\/lT i.op
 bM:i.bM=0\/i.op=6
 eG:i.op=21\/i.eG.length=0
 op:lS b p k i
structure Pw(m:E)(a l:O)(c:O)(p:dA):Prop where
 params:ar m a p.params
 cO:ar m l p.cO
 cX:fu m c p.cX
def Pw.ext{m d:E}(a:J m d){b l c:O}{p:dA}(h:Pw m b l c p):Pw d b l c p:=⟨h.params.ext a,h.cO.ext a,fu.ext a h.cX⟩
def Ff(ai:eW m d p b)(X:dU b.bn){ab ah S:O}{q:dA}(U:Pw m ab ah S q)(hr:1<=q.an/\q.an<=2000){k:Nat}{i:Instr}(hk:q.cX[k]? =some i):
 dR cq 158 [.agg #[O.v d,O.v p],.agg #[O.v ab,O.v ah,vi q.aT,vi q.an,O.v S],vi k] m (iN b q k i):=by
 apply zw
 simp -zeta only[aC,aB]
 intro m1 N
 have Z:J m N:=((J.aA m).aH _).aH _
 have aJ:=az hk
 have ac:=U.cX.len
 have aG:=U.cX.iC
 let⟨xa,M,P,hj,g0,g1,g2,g3,g4,g5⟩:=(fu.ext Z U.cX).aG hk
 refine⟨V,V,_,g0,_,g1,_,g2,_,g3,_,g4,_,g5,?_⟩
 intro m3 z
 have r:J m z:=(Z.aH _).ag Z.size _ _
 have ag:J N z:=((J.aA N).aH _).ag (ad _) _ _
 have v:∀A∈[N.size,m1.size,m.size],A<z.size:=by
  simp[z,m3,N,m1,aw];omega
 clear_value z
 have T:=P.len
 have aI:=hj.len
 have aA:=P.iC
 have er:cR (q.an -1)=q.an -1:=aP V V
 rw[er]
 refine fm (n:=i.args.length) (T▸P.iC) (λaa s=>J z s/\∀x∈i.args.take aa,0<=x/\x<=q.an -1) ⟨J.aA _,aL⟩ ?_
 rintro aa m5 ax μ aH ⟨Y,hn⟩ ar
 refine dit (λh1=>?_) λh1=>?_
 .let⟨x,a⟩:=cK i.args aa
  refine⟨V,V,x,by simpa using(ag.trans Y).af (P.aG a),?_⟩
  exact(bF _ _ _ _).aK Y v λA w e g f=>⟨_,rfl,λc=>cT (λh=>nb e c (h.args x (au a))) (r.trans f),λc=>ar V _ ⟨f,bY a hn (yb e c)⟩⟩
 .have al:=dy V hn
  refine⟨λs=>J z s/\(0<=i.dst/\i.dst<=q.an -1)/\(i.dst=0\/lT i.op)/\(i.bM=0\/i.op=6)/\(i.op=21\/i.eG.length=0),?_,?_⟩
  .refine(bF _ _ _ _).aK Y v λA w e g f=>⟨_,rfl,λc=>cT (λh=>nb e c h.dst) (r.trans f),λc=>?_⟩
   have R:=yb e c
   have tail:∀s:E,J z s->(i.dst=0\/lT i.op)->
    ((i.bM !=0)=true->((i.op !=6)=true->∃B:Bool,vb false=.bool B/\(B=true<->iN b q k i)/\J m s)/\((i.op !=6)=false->
     ((i.op !=21)=true->((decide ((M.len:Int)>0))=true->∃B:Bool,vb false=.bool B/\(B=true<->iN b q k i)/\J m s)/\((decide ((M.len:Int)>0))=false->J z s/\(0<=i.dst/\i.dst<=q.an -1)/\(i.dst=0\/lT i.op)/\(i.bM=0\/i.op=6)/\(i.op=21\/i.eG.length=0)))/\
     ((i.op !=21)=false->J z s/\(0<=i.dst/\i.dst<=q.an -1)/\(i.dst=0\/lT i.op)/\(i.bM=0\/i.op=6)/\(i.op=21\/i.eG.length=0))))/\
    ((i.bM !=0)=false->
     ((i.op !=21)=true->((decide ((M.len:Int)>0))=true->∃B:Bool,vb false=.bool B/\(B=true<->iN b q k i)/\J m s)/\((decide ((M.len:Int)>0))=false->J z s/\(0<=i.dst/\i.dst<=q.an -1)/\(i.dst=0\/lT i.op)/\(i.bM=0\/i.op=6)/\(i.op=21\/i.eG.length=0)))/\
     ((i.op !=21)=false->J z s/\(0<=i.dst/\i.dst<=q.an -1)/\(i.dst=0\/lT i.op)/\(i.bM=0\/i.op=6)/\(i.op=21\/i.eG.length=0))):=by
    intro s l Q
    have u:(i.bM=0\/i.op=6)->((i.op !=21)=true->((decide ((M.len:Int)>0))=true->∃B:Bool,vb false=.bool B/\(B=true<->iN b q k i)/\J m s)/\((decide ((M.len:Int)>0))=false->J z s/\(0<=i.dst/\i.dst<=q.an -1)/\(i.dst=0\/lT i.op)/\(i.bM=0\/i.op=6)/\(i.op=21\/i.eG.length=0)))/\
     ((i.op !=21)=false->J z s/\(0<=i.dst/\i.dst<=q.an -1)/\(i.dst=0\/lT i.op)/\(i.bM=0\/i.op=6)/\(i.op=21\/i.eG.length=0)):=by
     intro t
     refine⟨λa=>⟨λj=>?_,λj=>?_⟩,λa=>?_⟩
     .simp at a j
      exact cT (λh=>by rcases h.eG with o|o<;>omega) (r.trans l)
     .simp at j
      exact⟨l,R,Q,t,Or.inr V⟩
     .simp at a
      exact⟨l,R,Q,t,Or.inl a⟩
    refine⟨λa=>⟨λj=>?_,λj=>u (Or.inr (by simpa using j))⟩,λa=>u (Or.inl (by simpa using a))⟩
    simp at a j
    exact cT (λh=>by rcases h.bM with o|o<;>contradiction) (r.trans l)
   refine⟨λa=>?_,λa=>tail w f (Or.inl (by simpa using a))⟩
   refine(xZ _ _).aK f v λA x e j o=>⟨_,rfl,λG=>?_,λG=>tail x o (Or.inr (yb e G))⟩
   simp at a
   exact cT (λh=>by rcases h.YG with I|I;exact a I;exact nb e G I) (r.trans o)
  .rintro m8 ⟨x,R,Q,ao,ap⟩
   have y:=r.trans x
   have an:iN b q k i<->lS b q k i:=⟨λh=>h.op,λh=>⟨al,R,Q,ao,ap,h⟩⟩
   rw[an]
   have K:eW m8 d p b:=eW.ext y ai
   refine⟨λt=>?_,λt=>?_⟩
   .simp only[aE]at t
    have h:lS b q k i<->i.args.length=0/\-999<=i.bQ/\i.bQ<=999:=by rw[lS,aj t]
    rw[h]
    refine⟨λg=>?_,λg=>?_⟩
    .simp only[aE]at g
     refine(bF _ _ _ _).aK x v λA H e f c=>⟨_,rfl,fI ?_ (r.trans c)⟩
     rw[e];omega
    .simp only[ak]at g
     exact cT V y
   simp only[ak]at t
   refine⟨λu=>?_,λu=>?_⟩
   .simp only[bV,aE]at u
    have h:lS b q k i<->i.args.length=2/\i.bQ=0:=by rw[lS,ae t,aj u]
    rw[h]
    refine⟨λg=>fI ?_ y,λg=>cT ?_ y⟩
    .simp only[aE]at g⊢;omega
    .simp only[ak]at g;omega
   simp only[bu,ak]at u
   replace u:¬(i.op=1\/i.op=2\/i.op=3\/i.op=4\/i.op=11):=V
   refine⟨λw=>?_,λw=>?_⟩
   .simp only[bV,aE]at w
    have h:lS b q k i<->i.args.length=1/\i.bQ=0:=by rw[lS,ae t,ae u,aj w]
    rw[h]
    refine⟨λg=>fI ?_ y,λg=>cT ?_ y⟩
    .simp only[aE]at g⊢;omega
    .simp only[ak]at g;omega
   simp only[bu,ak]at w
   replace w:¬(i.op=5\/i.op=14\/i.op=15\/i.op=18\/i.op=23):=V
   refine⟨λC=>?_,λC=>?_⟩
   .simp only[aE]at C
    have h:lS b q k i<->(0<=i.bQ/\i.bQ<(eP b.bn).length)/\i.args.length=(cF b.bn i.bQ).length/\0<=i.bM/\i.bM<=q.an:=by rw[lS,ae t,ae u,ae w,aj C]
    rw[h]
    refine(ms K.bn X _).aK x v ?_
    rintro _ H ⟨aD,rfl,D,f⟩
    refine⟨f,_,rfl,dit (λc=>?_) λc=>?_⟩
    .have am:0<=i.bQ/\i.bQ<(eP b.bn).length:=by
      rcases D with⟨F,L,a,j,o,G⟩|⟨a,_⟩
      .have:=R1 b.bn (show F+1<=b.bn.length from az j);rw[sS j,mV b.bn _ (ad _)]at this;omega
      .omega
     refine(Gx (cy.ext f K.bn) X _).aK (x.trans f) v ?_
     rintro _ aq ⟨av,rfl,W,a⟩
     have af:=W.len
     refine⟨a,_,rfl,λj=>?_,λj=>?_⟩
     .simp only[aE]at j
      refine(bF _ _ _ _).aK ((x.trans f).trans a) v λA ay e o G=>⟨_,rfl,fI ?_ (r.trans G)⟩
      rw[e]
      exact⟨λl=>⟨am,V,l⟩,λl=>l.2.2⟩
     .simp only[ak]at j
      exact cT (λl=>j V) ((y.trans f).trans a)
    .refine cT (λl=>?_) (y.trans f)
     rcases D with⟨F,L,a,j,o,G⟩|⟨_,a⟩
     .omega
     .exact a l.1
   simp only[ak]at C
   refine⟨λD=>?_,λD=>?_⟩
   .simp only[bV,aE]at D
    have h:lS b q k i<->vT b i.bQ (i.args.length+0):=by rw[lS,ae t,ae u,ae w,ae C,aj D];rfl
    rw[h]
    have L:=wU K i.bQ i.args.length 0 V V
    rw[T]
    refine L.aK x v λA H e f c=>⟨_,rfl,fI e (r.trans c)⟩
   simp only[bu,ak]at D
   replace D:¬(i.op=9\/i.op=24):=V
   refine⟨λF=>?_,λF=>?_⟩
   .simp only[aE]at F
    have h:lS b q k i<->vT b i.bQ (i.args.length+1)/\∀q,b.cC[i.bQ.toNat]? =some q->q.cO.length=0:=by rw[lS,ae t,ae u,ae w,ae C,ae D,aj F]
    rw[h]
    have L:=wU K i.bQ i.args.length 1 V V
    rw[T]
    refine L.aK x v λA H e f c=>⟨_,rfl,λa=>?_,λa=>cT (λl=>fb e a l.1) (r.trans c)⟩
    let⟨q',j,o,G⟩:=(e.1 a)
    let⟨a',B,c',ay,am,aF,f0,f1,f2,f3,f4⟩:=(jz.ext f K.cC).aG o
    have:=K.cC.len
    have:=az o
    refine⟨V,V,B,f1,fI ?_ (r.trans c)⟩
    have aD:=am.len
    simp only[aE]
    refine⟨λl=>⟨⟨q',j,o,G⟩,λaK I=>?_⟩,λl=>?_⟩
    .rw[o]at I;simp at I;subst I;omega
    .have:=l.2 q' o;omega
   simp only[ak]at F
   refine⟨λB=>?_,λB=>?_⟩
   .simp only[bV,aE]at B
    have h:lS b q k i<->(1<=i.args.length/\i.args.length<=4)/\i.bQ=0:=by rw[lS,ae t,ae u,ae w,ae C,ae D,ae F,aj B]
    rw[h]
    refine(bF _ _ _ _).aK x v λA H e f c=>⟨_,rfl,λa=>fI ?_ (r.trans c),λa=>cT ?_ (r.trans c)⟩
    .have a:=e.1 a
     simp only[aE];omega
    .have a:=fb e a;omega
   simp only[bu,ak]at B
   replace B:¬(i.op=16\/i.op=17):=V
   refine⟨λG=>?_,λG=>?_⟩
   .simp only[aE]at G
    have h:lS b q k i<->i.args.length=1/\0<=i.bQ/\i.bQ<=2:=by rw[lS,ae t,ae u,ae w,ae C,ae D,ae F,ae B,aj G]
    rw[h]
    refine⟨λg=>?_,λg=>?_⟩
    .simp only[aE]at g
     refine(bF _ _ _ _).aK x v λA H e f c=>⟨_,rfl,fI ?_ (r.trans c)⟩
     rw[e];omega
    .simp only[ak]at g
     exact cT V y
   simp only[ak]at G
   have ek:cR ((k:Int)+1)=(k:Int)+1:=aP V V
   have ec:cR ((S.len:Int) -1)=(q.cX.length:Int) -1:=by rw[aP V V,ac]
   rw[ek,ec]
   refine⟨λI=>?_,λI=>?_⟩
   .simp only[aE]at I
    have h:lS b q k i<->i.args.length=1/\(k:Int)+1<=i.bQ/\i.bQ<=(q.cX.length:Int) -1:=by rw[lS,ae t,ae u,ae w,ae C,ae D,ae F,ae B,ae G,aj I]
    rw[h]
    refine⟨λg=>?_,λg=>?_⟩
    .simp only[aE]at g
     refine(bF _ _ _ _).aK x v λA H e f c=>⟨_,rfl,fI ?_ (r.trans c)⟩
     rw[e];omega
    .simp only[ak]at g
     exact cT V y
   simp only[ak]at I
   refine⟨λL=>?_,λL=>?_⟩
   .simp only[aE]at L
    have h:lS b q k i<->i.args.length=0/\(k:Int)+1<=i.bQ/\i.bQ<=(q.cX.length:Int) -1:=by rw[lS,ae t,ae u,ae w,ae C,ae D,ae F,ae B,ae G,ae I,aj L]
    rw[h]
    refine⟨λg=>?_,λg=>?_⟩
    .simp only[aE]at g
     refine(bF _ _ _ _).aK x v λA H e f c=>⟨_,rfl,fI ?_ (r.trans c)⟩
     rw[e];omega
    .simp only[ak]at g
     exact cT V y
   simp only[ak]at L
   refine⟨λg=>?_,λg=>?_⟩
   .simp only[aE]at g
    have h:lS b q k i<->i.args.length=1/\0<(cx b.bn i.bQ).length/\Oj i.eG (cx b.bn i.bQ).length k q.cX.length:=by rw[lS,ae t,ae u,ae w,ae C,ae D,ae F,ae B,ae G,ae I,ae L,aj g]
    rw[h]
    refine(AI K.bn X _).aK x v ?_
    rintro _ H ⟨av,rfl,W,f⟩
    have af:=W.len
    refine⟨f,_,rfl,λc=>?_,λc=>?_⟩
    .simp only[aE]at c
     refine dit (λa=>?_) λa=>?_
     .rw[af,ac]
      refine(Fg (hj.ext (ag.trans (x.trans f))) _ _ _ V V).aK (x.trans f) v λA aq e j o=>⟨_,rfl,fI ?_ (r.trans o)⟩
      rw[e]
      exact⟨λl=>⟨V,V,l⟩,λl=>l.2.2⟩
     .exact cT (λl=>V) (y.trans f)
    .simp only[ak]at c
     exact cT (λl=>V) (y.trans f)
   .simp only[ak]at g
    have h:lS b q k i<->False:=by rw[lS,ae t,ae u,ae w,ae C,ae D,ae F,ae B,ae G,ae I,ae L,ae g]
    rw[h]
    exact cT (λl=>l) y
end
section
variable{a:E}{d p:O}{b:cg}
structure KG(ds:List bz)(ps:List dA):Prop where
 types:dU ds
 len:1<=ps.length/\ps.length<=4
 dx:∀p∈ps,p.params.length<=3/\Ft ds.length p.params/\zI ds.length p.aT
 first:∀p,ps[0]? =some p->p.params.length=0/\p.aT=0
def oW(a:E)(c:List Ce)(p:dA):Prop:=∃b,c=[.s b,.i p.aT,.i 0,.i 0,.s .nil]/\ar a b p.params
def oW.ext{a d:E}(h:J a d)(b:List Ce)(c:dA):oW a b c->oW d b c:=λ⟨f,e,g⟩=>⟨f,e,g.ext h⟩
def Tv.aG{s:O}{l:List dA}(h:eR a 5 (oW a) s l){k:Nat}{x:dA}(e:l[k]? =some x):
 ∃b,ar a b x.params/\af a s.D (s.off+k*5)=some (O.v b)/\af a s.D (s.off+k*5+1)=some (vi x.aT)/\af a s.D (s.off+k*5+2)=some (vi 0)/\af a s.D (s.off+k*5+3)=some (vi 0)/\af a s.D (s.off+k*5+4)=some (O.v .nil):=by
 obtain⟨f,⟨b,rfl,d⟩,c⟩:=h.iF k x e
 exact⟨b,d,c 0 (.s b) rfl,c 1 (.i x.aT) rfl,c 2 (.i 0) rfl,c 3 (.i 0) rfl,c 4 (.s .nil) rfl⟩
def vf{D:O}{k:List bz}{j:List dA}(hd:cy a d k)(y:eR a 5 (oW a) D j):
 dR cq 84 [.agg #[O.v d,O.v D]] a (KG k j):=by
 apply BC
 simp -zeta only[aC,aB]
 intro q
 have o:J a q:=(J.aA a).aH _
 have z:∀g∈[a.size],g<q.size:=by simp[q]
 have m:=hd.len
 have aa:=y.len
 refine(Fi (cy.ext o hd)).aK (J.aA _) z λg m2 c N Q=>⟨_,rfl,λv=>cT (λb=>nb c v b.types) (o.trans N),λv=>?_⟩
 have T:=yb c v
 refine(bF _ _ _ _).aK Q z λg m3 c Z H=>⟨_,rfl,λw=>cT (λb=>nb c w (oh b.len)) (o.trans H),λw=>?_⟩
 have ab:=yb c w
 refine fm (n:=j.length) V (λB e=>J q e/\∀p∈j.take B,p.params.length<=3/\Ft k.length p.params/\zI k.length p.aT) ⟨H,aL⟩ ?_
 rintro B C X μ hj ⟨A,K⟩ W
 have f:=o.trans A
 refine dit (λR=>?_) λR=>?_
 .let⟨p,e⟩:=cK j B
  let⟨M,l,s,g1,g2,E,F⟩:=Tv.aG (y.mono f (oW.ext f)) e
  have S:=l.len
  refine⟨V,V,_,s,_,g1,_,g2,_,E,_,F,?_⟩
  intro L r
  have i:J C r:=((J.aA C).aH _).ag (ad _) _ _
  have I:∀g∈[C.size,a.size],g<r.size:=by
   have:=A.lt (z a.size aL);have:=i.size;simp[r,L,aw];simp[r,L,aw]at this;omega
  refine dit (λh=>?_) λh=>?_
  .exact cT (λb=>oh ((b.dx p (au e)).1)) (f.trans i)
  refine(wF (l.ext i) _).aK (J.aA _) I λg m7 c x P=>⟨_,rfl,λt=>cT (λb=>nb c t (m▸(b.dx p (au e)).2.1)) ((f.trans i).trans x),λt=>?_⟩
  have U:=yb c t
  refine(bF _ _ _ _).aK P I λg m8 c Y G=>⟨_,rfl,λu=>?_,λu=>?_⟩
  .refine cT (λb=>nb c u ?_) ((f.trans i).trans G)
   rw[m];exact(b.dx p (au e)).2.2
  .refine W V _ ⟨(A.trans i).trans G,bY e K ⟨V,m▸U,?_⟩⟩
   have:=yb c u
   rw[m]at this;exact this
 .have r:=dy V K
  let⟨p,e⟩:=cK j 0
  let⟨M,l,s,g1,g2,E,F⟩:=Tv.aG (y.mono f (oW.ext f)) e
  have S:=l.len
  refine⟨V,V,_,s,λh=>?_,λh=>?_⟩
  .simp only[aE]at h
   refine⟨V,V,_,g1,fI ?_ f⟩
   simp only[aE]
   refine⟨λx=>⟨T,V,r,λt i=>?_⟩,λb=>(b.first p e).2⟩
   rw[e]at i;simp at i;subst i
   exact⟨V,x⟩
  .simp only[ak]at h
   exact cT (λb=>h (oh ((b.first p e).1))) f
def Dc(M:eW a d p b)(ap:b.cC.length<=4):
 aM cq 85 [.agg #[O.v d,O.v p]] a λal j=>∃L,al=.agg #[O.v d,O.v L]/\eR j 5 (oW j) L b.cC/\J a j:=by
 apply yd
 simp -zeta only[aC,aB]
 intro q k e K l
 have aq:=M.cC.len
 have ah:J a K:=(((J.aA a).aH _).aH _|>.aH _).aH _
 have s3:e.size=a.size+3:=by simp[e,k,q]
 have s2:k.size=a.size+2:=by simp[k,q]
 have s1:q.size=a.size+1:=by simp[q]
 have s5:l.size=a.size+4:=by simp[l,K,aw,s3]
 have ai:J a l:=ah.ag V _ _
 have aa:cw l e.size kK [.s d,.s (.mk k.size 0 0 0)]:=cw.ag (m:=K) (o:=0) (r:=[.s d,.s (.mk k.size 0 0 0)]) (cw.push e _ _)
 have ag:J e l:=((J.aA e).aH _).ag (ad _) _ _
 have ae:gY a l fx 5 (.mk k.size 0 0 0) ([]:List (List Ce)).flatten:=
  (gY.new (((J.aA a).aH _).aH _:J a k) fx 5 [] 0 aL:gY a e fx 5 (.mk k.size 0 0 0) []).ext ag
 clear_value l
 refine fm (n:=b.cC.length) V (λC j=>J a j/\l.size<=j.size/\∃g w,cw j e.size kK [.s d,.s g]/\gY a j fx 5 g w.flatten/\gE 5 (oW a) w (b.cC.take C)/\g≠.nil/\q.size<g.D/\g.D≠e.size/\g.len=C)
  ⟨ai,ad _,_,[],aa,ae,by simpa using gE.nil 5 (oW a),aL,bJ,bJ,rfl⟩ ?_
 rintro C z am μ hk ⟨A,ay,g,w,x,P,I,au,ar,af,R⟩ ak
 refine dit (λT=>?_) λT=>?_
 .let⟨D,Q⟩:=cK b.cC C
  let⟨s,c,an,Z,f,hc,S,g1,g2,g3,g4⟩:=M.cC.aG Q
  refine⟨g,x.bU 1,V,V,s,by simpa using A.af S,V,V,_,by simpa using A.af g2,?_⟩
  intro h
  have B:J z h:=J.push _ _
  refine⟨B.cr (x.bU 1),?_⟩
  have jm:fX h z.size 0 [.s s,.i D.aT,.i 0,.i 0,.s .nil]:=(cw.push z _ _).iF
  have ac:=x.ext B
  have av:h.size=z.size+1:=by simp[h]
  clear_value h
  refine gY.append (c:=[.s .nil,.i 0,.i 0,.i 0,.s .nil]) (h:=[.s s,.i D.aT,.i 0,.i 0,.s .nil]) (P.ext B) (A.trans B) rfl jm (by simp[R];omega) ?_
  intro v t X Y F ao U W
  have E:∀c,c<h.size->c≠g.D->t[c]? =h[c]? :=λc f G=>U c f (λ_=>G)
  have y:q.size<v.D/\v.D≠e.size:=by
   rcases W with⟨_,i⟩|⟨_,i,_⟩|i
   .rw[i]at F;simp at F
   .rw[i];constructor<;>omega
   .rw[i];constructor<;>omega
  have N:cw t e.size kK [.s d,.s g]:=ac.congr (E _ V (λi=>af i.symm))
  refine⟨λc f=>?_,N.eC aL,?_⟩
  .simp at f
   rcases f with rfl|rfl
   .exact E _ V V
   .exact E _ V V
  intro u
  have ax:u.size=t.size:=by simp[u,aw]
  have ab:cw u e.size kK [.s d,.s v]:=cw.ag (m:=t) (o:=1) (r:=[.s v]) N
  have H:∀c,c≠e.size->u[c]? =t[c]? :=λc f=>bo _ _ _ _ f
  have aj:J a u:=Y.ag V _ _
  clear_value u
  refine⟨λc f=>?_,?_⟩
  .simp at f
   rcases f with rfl|rfl
   .exact H _ V
   .exact H _ V
  refine ak V _ ⟨aj,V,v,w++[[.s s,.i D.aT,.i 0,.i 0,.s .nil]],ab,?_,?_,?_,y.1,y.2,by simp[F,R]⟩
  .rw[qR]
   exact(by simpa using X:gY a t fx 5 v (w.flatten++[[.s s,.i D.aT,.i 0,.i 0,.s .nil]].flatten)).congr (H _ y.2)
  .rw[bd Q]
   exact I.yY rfl ⟨s,rfl,Z⟩
  .intro i
   rw[i]at y;simp at y
 .refine⟨d,x.bU 0,g,x.bU 1,?_⟩
  intro h
  have G:∀c,c≠q.size->h[c]? =z[c]? :=λc f=>bo _ _ _ _ f
  have i:J a h:=A.ag V _ _
  refine⟨g,rfl,?_,i⟩
  rw[cJ V]at I
  exact(eR.gK (P.congr (G _ V)) I V V).mono (J.aA _) (oW.ext i)
structure Hx(b:cg)(p:dA):Prop where
 cO:DN p.params p.cO
 an:(p.params.length:Int)<=p.an/\1<=p.an/\p.an<=2000
 len:1<=p.cX.length/\p.cX.length<=2000
 dx:∀(k:Nat)(i:Instr),p.cX[k]? =some i->iN b p k i
 Ri:∀i,p.cX[p.cX.length -1]? =some i->i.op=23\/i.op=24
def Ha(N:eW a d p b)(T:dU b.bn){C K w:O}{q:dA}(m:Pw a C K w q):
 dR cq 86 [.agg #[O.v d,O.v p],.agg #[O.v C,O.v K,vi q.aT,vi q.an,O.v w]] a (Hx b q):=by
 apply BA
 simp -zeta only[aC,aB]
 intro L u
 have j:J a u:=((J.aA a).aH _).aH _
 have v:∀o∈[L.size,a.size],o<u.size:=by simp[u,L];omega
 clear_value u
 have aa:=m.params.len
 have ab:=m.cX.len
 refine(ve (m.params.ext j) (m.cO.ext j)).aK (J.aA _) v λo m3 e P R=>⟨_,rfl,λy=>cT (λf=>nb e y f.cO) (j.trans P),λy=>?_⟩
 have G:=yb e y
 refine(bF _ _ _ _).aK R v λo m4 e h4 D=>⟨_,rfl,λz=>?_,λz=>?_⟩
 .refine cT (λf=>nb e z ?_) (j.trans D)
  have:=f.an
  split<;>omega
 have S:=yb e z
 refine(bF _ _ _ _).aK D v λo m5 e h7 E=>⟨_,rfl,λA=>cT (λf=>nb e A (oh f.len)) (j.trans E),λA=>?_⟩
 have ad:=yb e A
 have B:(q.params.length:Int)<=q.an/\1<=q.an/\q.an<=2000:=by
  split at S<;>omega
 refine fm (n:=q.cX.length) V (λt U=>J u U/\∀(k:Nat)(i:Instr),k<t->q.cX[k]? =some i->iN b q k i) ⟨E,aL⟩ ?_
 rintro t m6 X μ hj ⟨I,H⟩ W
 have r:=j.trans I
 refine dit (λQ=>?_) λQ=>?_
 .let⟨i,h⟩:=cK q.cX t
  refine(Ff (eW.ext r N) T (m.ext r) B.2 h).aK I v λo Y e l g=>⟨_,rfl,λx=>cT (λf=>nb e x (f.dx t i h)) (j.trans g),λx=>?_⟩
  refine W V _ ⟨g,λk s M c=>?_⟩
  by_cases F:k=t
  .subst F
   rw[h]at c;simp at c;subst c
   exact yb e x
  .exact H k s V c
 .let⟨i,h⟩:=cK q.cX (q.cX.length -1)
  let⟨xa,xj,ha,ac,x,g1,g2,Y,Z,g5⟩:=(fu.ext r m.cX).aG h
  have M:cR ((w.len:Int) -1)=((q.cX.length -1:Nat):Int):=by rw[aP V V];omega
  rw[M]
  have F:∀(k:Nat)(i:Instr),q.cX[k]? =some i->iN b q k i:=λk s c=>H k s (oh (az c)) c
  refine⟨V,V,_,by simpa using x,λl=>?_,λl=>?_⟩
  .simp only[aE]at l
   refine jU ⟨G,B,V,F,λs c=>?_⟩ r
   rw[h]at c;simp at c;subst c
   exact Or.inl l
  .simp only[ak]at l
   refine⟨V,V,_,by simpa using x,fI ?_ r⟩
   simp only[aE]
   refine⟨λg=>⟨G,B,V,F,λs c=>?_⟩,λf=>?_⟩
   .rw[h]at c;simp at c;subst c
    exact Or.inr g
   .rcases f.Ri i h with g|g
    .exact absurd g l
    .exact g
structure iE(b:cg):Prop where
 ni:KG b.bn b.cC
 dx:∀p∈b.cC,Hx b p
def Fe(h:eW a d p b):dR cq 51 [.agg #[O.v d,O.v p]] a (iE b):=by
 apply zt;simp -zeta only[aC,aB];intro g;have e:J a g:=(J.aA a).aH _;have m:∀i∈[a.size],i<g.size:=by simp[g]
 clear_value g;have Q:=h.cC.len;refine dit (λC=>?_) λC=>?_
 .exact cT (λf=>oh f.ni.len) e
 refine(Dc (eW.ext e h) V).aK (J.aA _) m ?_;rintro _ R ⟨y,rfl,G,j⟩;refine⟨j,d,y,rfl,?_⟩;refine(vf (cy.ext (e.trans j) h.bn) G).aK j m λi S c M t=>⟨_,rfl,λk=>cT (λf=>nb c k f.ni) (e.trans t),λk=>?_⟩;have w:=yb c k;refine fm (n:=b.cC.length) V (λr l=>J g l/\∀s∈b.cC.take r,Hx b s) ⟨t,aL⟩ ?_;rintro r T I μ P ⟨x,v⟩ H
 have q:=e.trans x;refine dit (λD=>?_) λD=>?_
 .let⟨s,o⟩:=cK b.cC r;let⟨K,i,L,E,c,F,z,g1,g2,A,B⟩:=(jz.ext q h.cC).aG o;refine⟨V,V,_,z,_,g1,_,g2,_,A,_,B,?_⟩;exact(Ha (eW.ext q h) w.types ⟨E,c,F⟩).aK x m λi U c N u=>⟨_,rfl,λl=>cT (λf=>nb c l (f.dx s (au o))) (e.trans u),λl=>H V _ ⟨u,bY o v (yb c l)⟩⟩
 .exact jU ⟨w,dy V v⟩ q
end
section
variable{m:E}{s:O}{l:List Int}
def eR.TR{α:Type}{c:Nat}{R:List Ce->α->Prop}{l:List α}(h:eR m c R s l){k:Nat}(n:k<=l.length):eR m c R (s.cut 0 k c) (l.take k):=by
 have b:=h.len;have e:=h.cap;have g:=h.iC;cases s with
 |nil=>
  simp at b;have:k=0:=V;subst this;exact⟨by simp[O.cut],by simp[O.cut],by simp[O.cut],aL⟩
 |zT d o a=>
  simp at b;have:k=0:=V;subst this;exact⟨by simp[O.cut],by simp[O.cut],by simp[O.cut],aL⟩
 |mk d o p i=>
  simp only[O.iS,O.Ov]at b e g;refine⟨by simp[O.cut];omega,by simp[O.cut];omega,by simp[O.cut];omega,λj x a=>?_⟩;have f:j<k:=by have:=az a;simp at this;omega
  rw[lJ,aj f]at a;have:=h.iF j x a;simpa[O.cut]using this
def pQ(bn:O)(t:Int)(m:E):dR cq 194 [O.v bn,vi t] m (zI bn.len t):=by
 apply Gc;refine⟨λh=>fI ?_ (J.aA _),λh=>cT ?_ (J.aA _)⟩<;>simp at h
 .simp[zI,h]
 .unfold zI;omega
def we{g:O}(b:ar m g l)(bn:O):dR cq 193 [O.v bn,O.v g] m (Ft bn.len l):=by
 apply Cp;have i:=b.len;refine fm (n:=l.length) (i▸b.iC) (λk a=>J m a/\∀t∈l.take k,zI bn.len t) ⟨J.aA _,aL⟩ ?_;rintro k r I μ q ⟨a,f⟩ o
 refine dit (λh=>?_) λh=>?_
 .let⟨x,c⟩:=cK l k;refine⟨V,V,x,by simpa using a.af (b.aG c),?_⟩;exact(pQ _ _ _).then λp s e d=>⟨_,rfl,λh=>cT (λj=>nb e h (j x (au c))) (a.trans d),λh=>o V _ ⟨a.trans d,bY c f (yb e h)⟩⟩
 .exact jU (dy V f) a
def rG(a:Int)(m:E)(d:a≠7/\a≠8):dR cq 96 [vi a] m (lT a):=by
 apply wu;refine⟨λh=>⟨λc=>jU ?_ (J.aA _),λc=>⟨λb=>jU ?_ (J.aA _),λb=>fI ?_ (J.aA _)⟩⟩,λh=>⟨λb=>jU ?_ (J.aA _),λb=>fI ?_ (J.aA _)⟩⟩<;>simp[lT]at* <;>omega
def ny{bn:O}{a:List bz}(hd:cy m bn a)(s:a.length<=4)(k:∀d∈a,d.cons.length<=3):vm cq 31 [O.v bn] m (vi (eP a).length):=by
 apply Cq;simp -zeta only[aC,aB];have q:=hd.len;refine dV (n:=a.length) V (λj f b=>J m b/\f=(fc a j:Nat)/\fc a j<=3*j) ⟨J.aA _,by cases a<;>rfl,by cases a<;>simp[fc]⟩ ?_;rintro j f t I μ r ⟨c,rfl,p⟩ l
 refine dit (λi=>?_) λi=>?_
 .let⟨d,b⟩:=cK a j;let⟨g,e,h,g1,g2⟩:=(cy.ext c hd).aG b;refine⟨V,V,_,h,_,g1,g,g2,?_⟩;intro u v;have o:=k d (au b);refine l V _ _ ⟨(c.aH _).ag c.size _ _,?_,?_⟩
  .rw[aP V (oh e.len),sS b,e.len];rfl
  .rw[sS b];omega
 .refine⟨?_,c⟩;rw[mV a j V]
def Ko{a:List bz}(h:dU a):∀d∈a,d.cons.length<=3:=λd hd=>by
 let⟨k,b⟩:=List.mem_iff_getElem?.1 hd;exact lC h b
def R8:∀(a:List bz)(k:Nat),(eP (a.take k)).length=fc a k
 |[],k=>by simp[eP,Q3]
 |d::a,0=>by simp[eP,fc]
 |d::a,k+1=>by
  have:=R8 a k;simp only[Ns,eP,mF,ba,fc]at this⊢;omega
def tB{bn:O}{a:List bz}(hd:cy m bn a)(c:dU a)(t:Int):aM cq 111 [O.v bn,vi t] m λI b=>∃s,I=O.v s/\ar b s (cx a t)/\J m b:=by
 apply FY;have S:=hd.len;have R:=hd.cap;have g:∀(h:¬(1<=t/\t<=a.length)),ar m .nil (cx a t):=λh=>by
  unfold cx;rw[ae h];exact⟨rfl,ad _,aL,aL⟩
 have:=c.len;refine dit (λh=>?_) λh=>?_
 .exact⟨_,rfl,g V,J.aA _⟩
 refine dit (λx=>?_) λx=>?_
 .exact⟨_,rfl,g V,J.aA _⟩
 have r:cR (t -1)=((t.toNat -1:Nat):Int):=by rw[aP V V];omega
 rw[r];let⟨d,e⟩:=cK a (t.toNat -1);have u:cx a t=(List.range d.cons.length).map λi=>((fc a (t.toNat -1)+i:Nat):Int):=by
  unfold cx;rw[aj V,e];rfl
 rw[u];have P:=ry c (t.toNat -1);have Q:=lC c e;refine⟨V,V,V,?_⟩;have C:cy m (bn.cut 0 (t.toNat -1) 3) (a.take (t.toNat -1)):=eR.TR hd V;have f:=ny C bJ (λd hd=>Ko c d (gB hd));rw[R8]at f;refine f.then λF p=>⟨_,rfl,?_⟩;let⟨w,D,L,g1,g2⟩:=(cy.ext p hd).aG e;have T:=D.len;refine⟨V,V,w,by simpa using g2,?_⟩;refine dV (n:=d.cons.length) V (λj s b=>J m b/\gY m b aD 1 s (((List.range j).map λi=>((fc a (t.toNat -1)+i:Nat):Int)).map Ce.i)/\s.len=j) ⟨p,by simpa using gY.nil m F aD 1,rfl⟩ ?_;rintro j s G K μ U ⟨o,k,l⟩ H
 refine dit (λy=>?_) λy=>?_
 .intro q;have v:cR (((fc a (t.toNat -1):Nat):Int)+(j:Int))=((fc a (t.toNat -1)+j:Nat):Int):=by rw[aP V V];omega
  have E:q=G.push (.cells (bA [.i (((fc a (t.toNat -1)+j:Nat):Int))]) aD):=by rw[<-v]
  clear_value q;subst E;refine gY.append (c:=[.i 0]) (h:=[.i ((fc a (t.toNat -1)+j:Nat):Int)]) (k.ext (J.push _ _)) (o.aH _) rfl (cw.push _ _ _).iF (by simp[l];omega) ?_;intro W b z A B M N _;refine H V _ _ ⟨A,?_,by simp[B,l]⟩
  rw[Tj,fN,fN];exact z
 .have:j=d.cons.length:=V;subst this;exact⟨_,rfl,ar.gK k bJ,o⟩
def PW{a:List bz}{i j:Nat}{d:bz}{f:List Int}(h:a[i]? =some d)(b:d.cons[j]? =some f):cF a ((fc a i+j:Nat):Int)=f:=by
 unfold cF;rw[aj V,uf,rq a i j d h (az b),b];rfl
def MT{bn:O}{a:List bz}(hd:cy m bn a)(q:dU a)(c:Int)(X: -1000000<=c/\c<=1000000):aM cq 218 [O.v bn,vi c] m λS f=>∃R s,S=.tuple #[vi R,.agg #[O.v s]]/\ar f s (cF a c)/\J m f:=by
 apply HH;simp -zeta only[aC,aB];intro g;have P:J m g:=(J.aA m).aH _;have ab:m.size<g.size:=by simp[g]
 clear_value g;have Y:=hd.len;have:=q.len;refine dV (n:=a.length) V (λj w f=>J m f/\g.size<=f.size/\w=c -(fc a j:Nat)/\¬(0<=c/\c<fc a j)) ⟨P,ad _,by cases a<;>simp[fc],by cases a<;>simp[fc]⟩ ?_;rintro j w t I μ hj ⟨d,N,rfl,aa⟩ Q
 refine dit (λG=>?_) λG=>?_
 .let⟨x,b⟩:=cK a j;let⟨h,z,D,g1,g2⟩:=(cy.ext d hd).aG b;have Z:=z.len;have U:=ry q j;have W:=lC q b;refine⟨V,V,_,D,_,g1,h,g2,?_⟩;intro m3 u;have e:J t u:=((J.aA t).aH _).ag (ad _) _ _;have A:¬(0<=c -(fc a j:Nat)/\c -(fc a j:Nat)<x.cons.length)->I (cR (c -(fc a j:Nat) -(h.len:Int))) (cR ((j:Int)+1)) u/\μ (cR (c -(fc a j:Nat) -(h.len:Int))) (cR ((j:Int)+1)) u<μ (c -(fc a j:Nat)) j t:=by
   intro hq;refine Q V _ _ ⟨d.trans e,bX N e.size,?_,?_⟩
   .rw[aP V V,sS b];omega
   .rw[sS b];omega
  refine⟨λi=>⟨λp=>?_,λp=>A ?_⟩,λi=>A ?_⟩
  .simp only[aq]at i p;let⟨T,r⟩:=cK x.cons ((c -(fc a j:Nat)).toNat);let⟨o,hg,y⟩:=(pC.ext e z).aG r;refine⟨V,V,o,y,?_⟩;intro v;have k:J m v:=(d.trans e).ag (ad _) _ _;refine⟨_,o,rfl,?_,k⟩;have l:cF a c=T:=by
    have:=PW b r;rw[<-this];congr 1;omega
   rw[l];obtain⟨B,H,_,_,E⟩:=hd.aG b;have K:h=B:=by
    have:=d.af E;rw[g2]at this;exact O.Hl.1 (by simpa using this)
   subst K;let⟨C,L,F⟩:=H.aG r;have M:o=C:=by
    have:=(d.trans e).af F;rw[y]at this;exact O.Hl.1 (by simpa using this)
   subst M;exact L.ext k
  .simp at i p;omega
  .simp at i;omega
 .intro v;have k:J m v:=d.ag (ad _) _ _;refine⟨_,.nil,rfl,?_,k⟩;have l:cF a c=[]:=by
   unfold cF;split
   .rw[da (by rw[<-mV a j V];omega)];rfl
   .rfl
  rw[l];exact⟨rfl,ad _,aL,aL⟩
def HI{bn:O}{a:List bz}(hd:cy m bn a)(h:dU a)(c:Int)(f: -1000000<=c/\c<=1000000):aM cq 195 [O.v bn,vi c] m λv d=>∃s,v=O.v s/\ar d s (cF a c)/\J m d:=by
 apply Cr;simp -zeta only[aC,aB];refine(MT hd h c f).mono ?_;rintro _ e ⟨t,s,rfl,g,i⟩;refine⟨t,s,rfl,?_⟩;intro k j;have b:J e j:=((J.aA e).aH _).ag (ad _) _ _;exact⟨s,rfl,g.ext b,i.trans b⟩
def wE(f:ar m s l)(g:Nat)(e d:Array Value)(t:GL.elem g=true)(q:Int->Prop)
 (p:∀x∈l,∀a,J m a->dR cq g (e.toList++[vi x]++d.toList) a (q x)):
 aM cq 154 [O.v s,.func (.func g) e d] m λz a=>∃r:Int,z=vi r/\J m a/\
  ((r= -1/\∀x∈l,¬q x)\/∃(k:Nat)(x:Int),r=k/\l[k]? =some x/\q x/\∀y∈l.take k,¬q y):=by
 apply qL s (.func g,e,d)
 have u:=f.len
 refine fm (n:=l.length) (u▸f.iC) (λk a=>J m a/\∀y∈l.take k,¬q y) ⟨J.aA _,aL⟩ ?_
 rintro k v I μ B ⟨b,i⟩ w
 refine dit (λh=>?_) λh=>?_
 .let⟨x,c⟩:=cK l k
  refine⟨V,V,x,by simpa using b.af (f.aG c),g,rfl,t,?_⟩
  exact(p x (au c) v b).then λA C o j=>⟨_,rfl,λh=>⟨_,rfl,b.trans j,Or.inr ⟨k,x,rfl,c,o.1 h,i⟩⟩,λh=>w V _ ⟨b.trans j,bY c i (fb o h)⟩⟩
 .exact⟨_,rfl,b,Or.inl ⟨rfl,dy V i⟩⟩
def iX(i:ar m s l)(g:Nat)(b a:Array Value)(f:GL.elem g=true)(q:Int->Prop)
 (e:∀x∈l,∀c,J m c->dR cq g (b.toList++[vi x]++a.toList) c (q x)):
 dR cq 78 [O.v s,.func (.func g) b a] m (∃x∈l,q x):=by
 apply px s (.func g,b,a)
 refine(wE i g b a f q e).mono ?_
 rintro _ p ⟨r,rfl,j,h⟩
 refine⟨_,rfl,fI ?_ j⟩
 simp only[Hr,aq]
 rcases h with⟨rfl,h⟩|⟨o,x,rfl,c,d,n⟩
 .exact⟨λk=>V,λ⟨x,c,d⟩=>absurd d (h x c)⟩
 .exact⟨λ_=>⟨x,au c,d⟩,λ_=>V⟩
end
section
variable{s c k d r:O}{b:E}{e:List Nat}{Q:List Int->Prop}{v:List Int}{x:cV}
structure _root_.Go.Vc.gP where
 params:List Int
 cO:List Int
 aT:Int
 body:Bk
def iQ(m:E)(a:List Ce)(r:gP):Prop:=∃p l s,a=[.s p,.s l,.i r.aT,.s s,.i r.body.aT]/\ar m p r.params/\ar m l r.cO/\eN m s r.body.ap
abbrev zJ(m:E)(s:O)(l:List gP):Prop:=eR m 5 (iQ m) s l
structure eK(m:E)(d r:O)(ds:List bz)(rs:List gP):Prop where
 bn:cy m d ds
 iW:zJ m r rs
 types:dU ds
 oK:rs.length<=4
def iQ.le{m b:E}(h:Le m b){a:List Ce}{x:gP}:iQ m a x->iQ b a x:=λ⟨p,l,s,c,d,e,f⟩=>⟨p,l,s,c,d.le h,e.le h,f.le h⟩
def iQ.mono:oH 5 iQ:=⟨λh=>iQ.le h,λh=>by obtain⟨_,_,_,rfl,_⟩:=h;rfl⟩
def zJ.le{m b:E}(a:Le m b){s:O}{l:List gP}(h:zJ m s l):zJ b s l:=eR.le h a λ_ _=>iQ.le a
def zJ.aG{m:E}{l:List gP}(h:zJ m s l){k:Nat}{x:gP}(f:l[k]? =some x):
 ∃p t b,ar m p x.params/\ar m t x.cO/\eN m b x.body.ap/\af m s.D (s.off+k*5)=some (O.v p)/\af m s.D (s.off+k*5+1)=some (O.v t)/\af m s.D (s.off+k*5+2)=some (vi x.aT)/\af m s.D (s.off+k*5+3)=some (O.v b)/\af m s.D (s.off+k*5+4)=some (vi x.body.aT):=by
 obtain⟨g,⟨p,t,b,rfl,c,d,e⟩,a⟩:=h.iF k x f
 exact⟨p,t,b,c,d,e,a 0 _ rfl,a 1 _ rfl,a 2 _ rfl,a 3 _ rfl,a 4 _ rfl⟩
def eK.le{m b:E}{d r:O}{a:List bz}{e:List gP}(h:eK m d r a e)(c:Le m b):eK b d r a e:=⟨h.bn.le c,h.iW.le c,h.types,h.oK⟩
def Al(m:E):Le m (bP [] m):=λb o v h=>eF.2 ⟨aL,h⟩
def FO{a:List bz}(h:dU a)(c:Int):(cF a c).length<=3:=by
 unfold cF;split
 .rcases aZ c.toNat (eP a).length with b|b
  .let⟨i,d,e,j,k⟩:=vo a c.toNat b;have f:=rq a i (c.toNat -fc a i) d e V;rw[show fc a i+(c.toNat -fc a i)=c.toNat by omega]at f;let⟨x,g⟩:=cK d.cons (c.toNat -fc a i);rw[f,g];exact(((h.dx i d e).iY V).2.2.2 x (au g)).1
  .rw[da b];simp
 .simp
def YD{a:List bz}(h:dU a)(t:Int):(cx a t).length<=3:=by
 unfold cx;split
 .cases b:a[t.toNat -1]? with
  |none=>simp
  |some d=>simpa using lC h b
 .simp
def QU{a:List bz}(h:dU a)(b bQ:Int)(k:Nat):BR a b bQ k<=3:=by
 unfold BR;split
 .exact FO h _
 .omega
abbrev Fx(f:Nat)(a:List Value)(m:E):Prop:=tq f a m λ_=>True
def oX(f:Nat)(a:List Value)(m:E):Prop:=aM cq f a m λv b=>∃c:Bool,v=.bool c/\J m b
def rN{m:E}{n:Int}(h:J m b):∃k:Int,vi n=vi k/\True/\J m b:=⟨n,rfl,trivial,h⟩
def rA{m:E}{a:Bool}(h:J m b):∃k:Bool,vb a=.bool k/\J m b:=⟨a,rfl,h⟩
def _root_.Go.Vc.dR.any{f:Nat}{a:List Value}{m:E}{p:Prop}(h:dR cq f a m p):oX f a m:=h.mono λ_ _⟨b,e,_,x⟩=>⟨b,e,x⟩
section
variable{f:Nat}{g:List Value}{a m:E}{K:Value->E->Prop}{l:List Nat}
def Fx.aK(i:Fx f g m)(e:J a m)(o:∀c∈l,c<a.size)(k:∀(n:Int) b,J m b->J a b->K (vi n) b):aM cq f g m λv b=>dY l m b/\K v b:=
 i.mono λ_ b⟨n,h,_,d⟩=>⟨d.dv λc j=>e.lt (o c j),h▸k n b d (e.trans d)⟩
def oX.aK(i:oX f g m)(e:J a m)(n:∀c∈l,c<a.size)(k:∀(c:Bool) b,J m b->J a b->K (vb c) b):aM cq f g m λv b=>dY l m b/\K v b:=
 i.mono λ_ b⟨o,h,d⟩=>⟨d.dv λc j=>e.lt (n c j),h▸k o b d (e.trans d)⟩
def tq.aK{Q:Int->Prop}(i:tq f g m Q)(e:J a m)(o:∀c∈l,c<a.size)(k:∀(n:Int) b,Q n->J m b->J a b->K (vi n) b):aM cq f g m λv b=>dY l m b/\K v b:=
 i.mono λ_ b⟨n,h,q,d⟩=>⟨d.dv λc j=>e.lt (o c j),h▸k n b q d (e.trans d)⟩
def Fw.aK(k:Fw f g m e Q)(i:J a m)(q:∀d∈l,d<a.size)(p:∀s c b,ar (bP e b) s c->Q c->J m b->J a b->K (O.v s) b):aM cq f g m λv b=>dY l m b/\K v b:=
 k.mono λ_ b⟨s,c,j,n,r,h⟩=>⟨h.dv λd o=>i.lt (q d o),j▸p s c b n r h (i.trans h)⟩
def ln.aK(k:ln f g m e Q)(i:J a m)(q:∀d∈l,d<a.size)(p:∀s c b,GI e m b s c->Q c->J m b->J a b->K (O.v s) b):aM cq f g m λv b=>dY l m b/\K v b:=
 k.mono λ_ b⟨s,c,j,n,r,h⟩=>⟨h.dv λd o=>i.lt (q d o),j▸p s c b n r h (i.trans h)⟩
end
def _root_.Go.Vc.J.VC{c m:E}(f:J c m){l:List Nat}(e:∀a∈l,a<c.size)(h:J m b):dY l m b:=h.dv λa d=>f.lt (e a d)
def dN{m:E}(D:∀b∈e,b<m.size){bn:O}{a:List bz}(hd:cy (bP e m) bn a)(f:dU a)(c:Int):Fw 199 [O.v bn,vi c] m e (cF a c=·):=by
 apply rK;have l:cy m bn a:=hd.le (bG _ _);have F:=hd.len;have:=f.len;refine(ms l f c).mono ?_;rintro _ I ⟨K,rfl,k,h⟩;refine⟨_,rfl,dit (λu=>?_) λu=>?_⟩
 .refine⟨_,_,rfl,?_,rfl,h.aH _⟩;have g:cF a c=[]:=by
   rcases k with⟨i,d,v,_⟩|⟨_,b⟩
   .omega
   .unfold cF;split
    .rw[da V];rfl
    .rfl
  rw[g];exact⟨rfl,ad _,aL,aL⟩
 .rcases k with⟨i,d,rfl,b,A,B⟩|⟨v,_⟩
  .have H:=az b;let⟨s,n,y,g1,g2⟩:=(hd.le (h.dg e)).aG b;have p:cR ((i:Int)+1 -1)=i:=by rw[aP V V];omega
   rw[p];have g2:=(eF.1 g2).2;refine⟨V,V,s,by simpa using g2,?_⟩;refine(kj (cy.ext h l) f V).then λJ g=>⟨_,rfl,g.cr (by simpa using g2),?_⟩;have z:=ry f i;have C:=lC f b;have G:=n.len;let⟨x,o⟩:=cK d.cons ((c -fc a i).toNat);let⟨j,w,t⟩:=pC.aG (eR.le n (g.dg e) (mT.le (g.dg e))) o;have q:cR (c -(fc a i:Int))=c -fc a i:=aP V V;rw[q];refine⟨V,V,j,(eF.1 t).2,j,_,rfl,?_,rfl,h.trans g⟩;have r:cF a c=x:=by
    unfold cF;rw[aj V];have:=rq a i (c -fc a i).toNat d b V;rw[show c.toNat=fc a i+(c -fc a i).toNat by omega,this,o];rfl
   rw[r];exact w
  .omega
def ic{m:E}(q:∀o∈e,o<m.size){bn:O}{a:List bz}(hd:cy m bn a)(c:dU a)(t:Int):Fw 134 [O.v bn,vi t] m e (cx a t=·):=by
 apply uW;intro D;have L:=hd.len;have:=c.len;have w:J m D:=(J.aA m).aH _;refine(bF _ _ _ _).then λo P u i=>⟨_,rfl,λh=>?_,λh=>?_⟩
 .refine⟨_,_,rfl,?_,rfl,w.trans i⟩;have f:cx a t=[]:=by
   unfold cx;rw[ae (oh (nb u h))]
  rw[f];exact⟨rfl,ad _,aL,aL⟩
 .have h:=yb u h;have x:cR (t -1)=((t.toNat -1:Nat):Int):=by rw[aP V V];omega
  rw[x];let⟨d,k⟩:=cK a (t.toNat -1);have y:cx a t=(List.range d.cons.length).map λl=>((fc a (t.toNat -1)+l:Nat):Int):=by
   unfold cx;rw[aj V,k];rfl
  rw[y];have H:=ry c (t.toNat -1);have K:=lC c k;refine dV (n:=d.cons.length) V (λj s b=>J m b/\GI e m b s ((List.range j).map λl=>((fc a (t.toNat -1)+l:Nat):Int))) ⟨w.trans i,(GI.nil e m).ext i⟩ ?_;rintro j s Q I μ N ⟨f,v⟩ F
  let⟨g,C,G,g1,g2⟩:=(cy.ext f hd).aG k;have M:=C.len;refine⟨V,V,g,by simpa using g2,dit (λB=>?_) λB=>?_⟩
  .refine(kj (cy.ext f hd) c V).then λR p=>⟨_,rfl,?_⟩;have z:cR (((fc a (t.toNat -1):Nat):Int)+(j:Int))=((fc a (t.toNat -1)+j:Nat):Int):=by rw[aP V V];omega
   rw[z];intro S;refine GI.kL (v.ext p) ((f.trans p).fz []) q bJ λr b A g _ _=>F V _ _ ⟨g.ext,?_⟩
   rw[Tj,fN];exact A
  .have:j=d.cons.length:=V;subst this;exact⟨_,_,rfl,v.done q bJ,rfl,f⟩
def nk{m:E}{bn:O}{b:List bz}(hd:cy m bn b)(l:dU b)(t:Int):dR cq 302 [O.v bn,vi t] m (∃d,1<=t/\b[t.toNat -1]? =some d/\d.cons.length=0):=by
 apply EM;have q:=hd.len;have:=l.len;refine(bF _ _ _ _).then λn r g e=>⟨_,rfl,λh=>?_,λh=>?_⟩
 .have h:=g.1 h;let⟨d,c⟩:=cK b (t.toNat -1);let⟨j,k,p,g1,g2⟩:=(cy.ext e hd).aG c;have i:cR (t -1)=((t.toNat -1:Nat):Int):=by rw[aP V V];omega
  rw[i];refine⟨V,V,j,g2,fI ?_ e⟩;rw[k.len];simp only[aE];exact⟨λh=>⟨d,V,c,V⟩,λ⟨o,_,a,f⟩=>by rw[c]at a;simp at a;subst a;omega⟩
 .refine cT (λ⟨d,a,f,_⟩=>fb g h ⟨a,?_⟩) e;have:=az f;omega
def AB{m:E}{bn:O}{a:List bz}(hd:cy m bn a)(r:dU a)(u t:Int):
 tq 324 [O.v bn,vi u,vi t] m λk=>k= -1\/∃(l:Nat)(d:bz),k=l+1/\a[l]? =some d/\d.cons.length=0/\d.uN=u/\d.to=t:=by
 apply Ez
 have w:=hd.len
 have:=r.len
 refine fm (n:=a.length) V (λ_ b=>J m b) (J.aA _) ?_
 rintro k s I μ x c v
 refine⟨λh=>?_,λh=>⟨_,rfl,Or.inl rfl,c⟩⟩
 simp only[aq]at h
 let⟨d,j⟩:=cK a k
 let⟨o,q,p,g1,g2⟩:=(cy.ext c hd).aG j
 have e:=v V s c
 refine⟨V,V,o,g2,λf=>⟨V,V,_,p,λg=>⟨V,V,_,g1,λi=>?_,λ_=>e⟩,λ_=>e⟩,λ_=>e⟩
 rw[q.len]at f
 simp only[aE]at f g i
 refine⟨_,rfl,Or.inr ⟨k,d,?_,j,V,g,i⟩,c⟩
 rw[aP V V]
def tg{m:E}{i p:O}{f t:List Int}(g:ar m c v)(e:ar m i f)(l:ar m p t):oX 299 [O.v c,O.v i,O.v p] m:=by
 apply IN;have C:=g.len;have r:=e.len;have D:=l.len;have F:=g.iC;refine⟨λ_=>rA (J.aA _),λh=>?_⟩;simp only[iH]at h;refine fm (n:=f.length) (r▸e.iC) (λ_ b=>J m b) (J.aA _) ?_;rintro k H I μ G a y
 refine⟨λh=>?_,λh=>rA a⟩;simp only[aq]at h;let⟨x,o⟩:=cK f k;refine⟨V,V,x,(e.ext a).aG o,?_⟩;have q:cR ((c.len:Int) -1)=(v.length:Int) -1:=by rw[aP V V];omega
 rw[q];refine(bF _ _ _ _).then λB K s d=>⟨_,rfl,λ_=>rA (a.trans d),λj=>?_⟩;have j:=yb s j;let⟨z,u⟩:=cK v x.toNat;let⟨A,w⟩:=cK t k;exact⟨V,V,x,(e.ext (a.trans d)).aG o,V,V,z,(g.ext (a.trans d)).aG u,V,V,A,(l.ext (a.trans d)).aG w,λ_=>rA (a.trans d),λ_=>y V _ (a.trans d)⟩
def Ni(a:Int)(m:E):oX 297 [vi a] m:=by
 apply GH;have r:∀b:Bool,∃k:Bool,vb b=.bool k/\J m m:=λb=>rA (J.aA m);exact⟨λ_=>r _,λ_=>⟨λ_=>r _,λ_=>⟨λ_=>r _,λ_=>⟨λ_=>r _,λ_=>r _⟩⟩⟩⟩
def pA(x:cV)(a k:O):Value:=.agg #[vi x.op,vi x.bQ,vi x.bM,O.v a,O.v k]
def wX{m:E}{g:O}(d:ar m c v)(x:cV):oX 298 [O.v c,.agg #[vi x.op,vi x.bQ,vi x.bM,O.v g,O.v k]] m:=by
 apply By;simp -zeta only[aC,aB];intro a;have b:J m a:=J.push _ _;have l:∀f∈[m.size],f<a.size:=by simp[a]
 clear_value a;have o:=d.len;have p:=d.iC;refine⟨λ_=>rA b,λ_=>⟨λ_=>?_,λ_=>rA b⟩⟩;refine(bF _ _ _ _).aK (J.aA a) l λf q j _ e=>⟨_,rfl,λh=>?_,λ_=>rA (b.trans e)⟩;have h:=j.1 h;have i:cR (x.bM -1)=((x.bM.toNat -1:Nat):Int):=by rw[aP V V];omega
 rw[i];let⟨y,n⟩:=cK v (x.bM.toNat -1);exact⟨V,V,y,(d.ext (b.trans e)).aG n,rA (b.trans e)⟩
def CG{m:E}{l:O}{t:List bz}{B:List gP}(o:eK m d r t B)(i:ar m c v)(g:ar m l x.args):Fx 303 [.agg #[O.v d,O.v r],O.v c,pA x l k] m:=by
 apply wL;simp -zeta only[aC,aB];intro q e;have b:J m e:=(J.push _ _).trans (J.push _ _);have n:∀f∈[q.size,m.size],f<e.size:=by simp[e,q];omega
 clear_value e;have C:=i.len;have D:=i.iC;have F:=g.len;refine⟨λ_=>rN b,λh=>?_⟩;simp only[iH]at h;let⟨y,p⟩:=cK x.args 0;refine⟨V,V,y,(g.ext b).aG p,?_⟩;have u:cR ((c.len:Int) -1)=(v.length:Int) -1:=by rw[aP V V];omega
 rw[u];refine(bF _ _ _ _).aK (J.aA e) n λf G w _ j=>⟨_,rfl,λ_=>rN (b.trans j),λh=>?_⟩;have h:=yb w h;have a:=b.trans j;let⟨z,A⟩:=cK v y.toNat;have g1:=(g.ext a).aG p;have g2:=(i.ext a).aG A;refine⟨V,V,y,g1,V,V,z,g2,λ_=>rN a,λ_=>⟨λ_=>⟨λ_=>⟨V,V,y,g1,V,V,z,g2,?_⟩,λ_=>rN a⟩,λ_=>rN a⟩⟩;exact(nk ((o.le a.le).bn) o.types z).any.aK j n λf H I s=>⟨_,rfl,λ_=>rN (b.trans s),λ_=>rN (b.trans s)⟩
def EX{m:E}{w:O}{H:List bz}{t:List gP}(g:eK m d r H t)(U:ar m c v)(A:ar m w x.args):Fx 301 [.agg #[O.v d,O.v r],O.v c,pA x w k] m:=by
 apply xY;simp -zeta only[aC,aB];intro j h;have F:J m h:=(J.push _ _).trans (J.push _ _);have n:∀f∈[j.size,m.size],f<h.size:=by simp[h,j];omega
 clear_value h;have h1:=g.iW.len;have h2:=g.oK;have h3:=A.len;have I:cR ((r.len:Int) -1)=(t.length:Int) -1:=by rw[aP V V];omega
 rw[I];refine(bF _ _ _ _).aK (J.aA h) n λf l S _ u=>⟨_,rfl,λ_=>rN (F.trans u),λy=>?_⟩;have y:=yb S y;have D:=F.trans u;let⟨q,T⟩:=cK t x.bQ.toNat;let⟨Z,ac,s,i,c2,c3,L,g1,g2,M,N⟩:=(g.le D.le).iW.aG T;refine⟨V,V,_,L,_,g1,_,g2,_,M,_,N,?_⟩;intro X b;have G:J l b:=((J.aA l).aH _).ag (ad _) _ _;have o:∀f∈[l.size,j.size,m.size],f<b.size:=by
  have P:=n j.size aL;have Q:=n m.size aL;have R:=u.size;have z:b.size=l.size+1:=by simp[b,X,aw]
  simp;omega
 clear_value b;have a:=D.trans G;have C:=U.ext a;have B:=A.ext a;have p:=i.ext G;have P:=i.len;have Q:=i.cap;have R:=i.iC;refine⟨λ_=>(tg C B p).aK (J.aA b) o λf Y e _=>⟨_,rfl,λ_=>rN (a.trans e),λ_=>rN (a.trans e)⟩,λ_=>⟨λ_=>rN a,λz=>⟨λ_=>rN a,λ_=>?_⟩⟩⟩;simp only[ak]at z;have K:cR ((Z.len:Int) -1)=((q.params.length -1:Nat):Int):=by rw[aP V V];omega
 rw[K];let⟨aa,W⟩:=cK q.params (q.params.length -1);refine⟨V,V,V,(tg C B (eR.TR p V)).aK (J.aA b) o λf Y e _=>⟨_,rfl,λ_=>rN (a.trans e),λ_=>⟨V,V,aa,(p.ext e).aG W,?_⟩⟩⟩;exact(AB (g.le (a.trans e).le).bn g.types _ _).aK e o λab m6 _ x6 u6=>⟨_,rfl,rN (a.trans u6)⟩
def Xj(a:List bz)(e:List gP)(b:Bk):Prop:=∀(m:E)(d r c t:O)(v:List Int),eK m d r a e->ar m c v->eN m t b.ap->v.length+4*b.w<=10^12->Fx 263 [.agg #[O.v d,O.v r],O.v c,.agg #[O.v t,vi b.aT]] m
def J1{m:E}{ab:O}{t:List bz}{Y:List gP}(g:eK m d r t Y)(U:ar m c v)(y:nP m k x.bE)(hb:v.length+4*x.w<=10^12)(ih:∀l∈x.bE,Xj t Y l):Fx 300 [.agg #[O.v d,O.v r],O.v c,pA x ab k] m:=by
 apply CQ;simp -zeta only[aC,aB];intro X p;have i:J m p:=(J.push _ _).trans (J.push _ _);have o:∀l∈[X.size,m.size],l<p.size:=by simp[p,X];omega
 clear_value p;have ac:=y.len;have hw:=cV.mz x;refine(ic (e:=[]) aL (g.le i.le).bn g.types x.bQ).aK (J.aA p) o λae cl H w q A _=>⟨_,rfl,?_⟩;subst q;have w:=w.le (bG _ _);have ag:=w.len;have h3:=YD g.types x.bQ;refine⟨λL aa=>aa=H/\0<=L/\(x.op=8->L=(cx t x.bQ).length),⟨λh=>?_,λh=>⟨rfl,V,λ_=>V⟩⟩,?_⟩
 .simp only[aE]at h;exact⟨rfl,V,λh=>V⟩
 rintro L ah ⟨f,h4,h5⟩;have f:=f.symm;subst f;refine⟨λ_=>rN (i.trans A),λ_=>⟨λ_=>rN (i.trans A),λT=>?_⟩⟩;simp only[iH]at T;subst T;refine dV (n:=x.bE.length) (ac▸y.iC) (λ_ _ b=>J H b) (J.aA _) ?_;rintro j z I R μ hj B ad
 have M:=A.trans B;have s:=i.trans M;refine⟨λh=>?_,λ_=>rN s⟩;simp only[aq]at h;let⟨l,u⟩:=cK x.bE j;have W:=ih l (au u);have af:=xr u;have Z:∀(a:Int)(e:E),J H e->((decide (a<(0:Int)))=true->∃k:Int,vi (-1)=vi k/\True/\J m e)/\((decide (a<(0:Int)))=false->((decide ((j:Int)>(0:Int)))=true->((a !=z)=true->∃k:Int,vi (-1)=vi k/\True/\J m e)/\((a !=z)=false->R a (cR ((j:Int)+1)) e/\μ a (cR ((j:Int)+1)) e<μ z j I))/\((decide ((j:Int)>(0:Int)))=false->R a (cR ((j:Int)+1)) e/\μ a (cR ((j:Int)+1)) e<μ z j I)):=λa e h=>by
  have f:=rN (n:=-1) ((i.trans A).trans h);have D:=ad V a e h
  exact⟨λ_=>f,λ_=>⟨λ_=>⟨λ_=>f,λ_=>D⟩,λ_=>D⟩⟩
 refine⟨λh=>?_,λh=>?_⟩
 .simp only[aE]at h;have h7:=h5 h;let⟨Q,hy⟩:=cK (cx t x.bQ) j;refine⟨V,V,Q,(w.ext B).aG hy,?_⟩;refine(dN (e:=[]) aL (g.le (s.le.trans (Al _))).bn g.types Q).aK M o λD fl e hf q x4 u4=>⟨_,rfl,?_⟩;subst q;have h8:=FO g.types Q;refine(eM (S:=[]) aL (U.le ((i.trans u4).le.trans (Al _))) hf V).aK u4 o λf el m5 he q x5 N=>⟨_,rfl,?_⟩;subst q;let⟨C,G,F,g1⟩:=(y.le (i.trans N).le).aG u;refine⟨V,V,_,F,_,g1,?_⟩;exact(W m5 d r f C _ (g.le (i.trans N).le) ((he.done aL bJ).le (bG _ _)) G bJ).aK N o λa K P _=>⟨_,rfl,Z a K (((B.trans x4).trans x5).trans P)⟩
 .let⟨C,G,F,g1⟩:=(y.le s.le).aG u;refine⟨V,V,_,F,_,g1,?_⟩;exact(W I d r c C _ (g.le s.le) (U.ext s) G V).aK M o λa K P _=>⟨_,rfl,Z a K (B.trans P)⟩
def QG{m a:E}(h:J m a)(l:List Int){n:Nat}(c:n=l.length)(b:l.length<=9223372036854775807):ar (a.push (.cells (bA (l.map Ce.i)) aD)) (.mk a.size 0 n n) l:=
 (ar.lit (S:=[]) aD l aL rfl c b).le (bG _ _)
def _root_.Go.Vc.eR.KS{α:Type}{n:E}{b:Nat}{R:List Ce->α->Prop}{l:List α}(h:eR n b R s l){i j:Nat}(u:i<=j)(v:j<=l.length):eR n b R (s.cut i j b) ((l.take j).drop i):=by
 have a:=h.len;have m:=h.cap;have y:=h.iC;have g:(s.cut i j b).len=j -i/\(s.cut i j b).len<=(s.cut i j b).cap:=by
  cases s with
  |nil=>simp at a;simp[O.cut];omega
  |zT d o t=>simp at a;simp[O.cut];omega
  |mk d o r f=>simp at a m;simp[O.cut];omega
 refine⟨by simp[g.1];omega,g.2,V,λk x c=>?_⟩;rw[sG,lJ]at c;split at c
 .rename_i w;let⟨p,q,e⟩:=h.iF _ x c;refine⟨p,q,?_⟩;cases s with
  |nil=>simp at a;omega
  |zT d o t=>simp at a;omega
  |mk d o r f=>
   simp at a m;have:¬f=i:=V;simp only[O.cut,this,qt,O.jB,O.tH]at e⊢;rw[gL,<-dk]at e;exact e
 .simp at c
def oE{q:E}{w:O}{P:List bz}{rs:List gP}(B:eK q d r P rs)(hv:ar q c v)(Z:ar q w x.args)(hk:nP q k x.bE)(H:v.length+4*x.w<=10^12)(ih:∀g∈x.bE,Xj P rs g):Fx 258 [.agg #[O.v d,O.v r],O.v c,pA x w k] q:=by
 apply Dg;simp -zeta only[aC,aB];intro C p;have M:J q p:=(J.push _ _).trans (J.push _ _);have m:∀g∈[C.size,q.size],g<p.size:=by simp[p,C];omega
 clear_value p;have h1:=Z.len;have h2:=Z.cap;have u:∀{n:E},J p n->ar n c v:=λh=>hv.ext (M.trans h);have A:∀{n:E},J p n->ar n w x.args:=λh=>Z.ext (M.trans h);have N:∀{n:E},J p n->eK n d r P rs:=λh=>B.le (M.trans h).le;have o:∀{n:E}{t:Int},J p n->∃k:Int,vi t=vi k/\True/\J q n:=λh=>rN (M.trans h);have Q:∀{n:E}{t k:Int}{g:Bool},J p n->(g=true->∃k:Int,vi t=vi k/\True/\J q n)/\(g=false->∃a:Int,vi k=vi a/\True/\J q n):=λh=>⟨λ_=>o h,λ_=>o h⟩;refine⟨λX=>J p X,⟨λ_=>(Ni x.op p).aK (J.aA p) m λg n e _=>⟨_,rfl,λ_=>o e,λ_=>(wX (u e) x).aK e m λg f l a=>⟨_,rfl,λ_=>o a,λ_=>⟨λ_=>⟨λ_=>⟨λ_=>o a,λ_=>a⟩,λ_=>a⟩,λ_=>a⟩⟩⟩,λ_=>(wX (u (J.aA _)) x).aK (J.aA p) m λg f a _=>⟨_,rfl,λ_=>o a,λ_=>⟨λ_=>⟨λ_=>⟨λ_=>o a,λ_=>a⟩,λ_=>a⟩,λ_=>a⟩⟩⟩,?_⟩;intro n e;have T:∀{f:E}{R:O}{ak:List Int}(h:J p f),ar f R ak->oX 299 [O.v c,O.v w,O.v R] f:=λh ht=>tg (u h) (A h) ht;have Kt:∀{f:E}(h:J p f),aM cq 300 [.agg #[O.v d,O.v r],O.v c,.agg #[vi x.op,vi x.bQ,vi x.bM,O.v w,O.v k]] f λv b=>dY [C.size,q.size] f b/\∃t:Int,v=vi t/\∃k:Int,vi t=vi k/\True/\J q b:=λh=>
  (J1 (N h) (u h) (hk.le (M.trans h).le) H ih).aK h m λt L s U=>⟨t,rfl,o U⟩
 refine⟨λ_=>⟨λ_=>(bF _ _ _ _).any.aK e m λg f l a=>⟨_,rfl,Q a⟩,λ_=>o e⟩,λ_=>⟨λ_=>?_,λ_=>⟨λ_=>?_,λ_=>⟨λ_=>?_,λ_=>⟨λ_=>?_,λ_=>⟨λ_=>?_,λ_=>⟨λ_=>(EX (N e) (u e) (A e)).aK e m λt f l a=>⟨_,rfl,o a⟩,λ_=>⟨λ_=>?_,λ_=>⟨λ_=>(CG (N e) (u e) (A e)).aK e m λt f l a=>⟨_,rfl,o a⟩,λ_=>o e⟩⟩⟩⟩⟩⟩⟩⟩⟩
 .intro f;exact(T (e.aH _) (QG e [0,0] rfl aL)).aK (e.aH _) m λg f l a=>⟨_,rfl,Q a⟩
 .intro f;exact(T (e.aH _) (QG e [0] rfl aL)).aK (e.aH _) m λg f l a=>⟨_,rfl,Q a⟩
 .refine(ms (N e).bn B.types x.bQ).mono λ_ f⟨R,z,_,l⟩=>?_;subst z;have a:=e.trans l;refine⟨e.VC m l,_,rfl,λ_=>?_,λ_=>o a⟩;refine(dN (e:=[]) aL ((N a).bn.le (Al _)) B.types x.bQ).aK a m λae G L hf I s U=>⟨_,rfl,aJ (s.same C.size (a.lt (m _ aL))) _,?_⟩;refine(T U (hf.le (bG _ _))).aK U m λg D x5 y=>⟨_,rfl,λ_=>?_,λ_=>o y⟩;refine(ms (N y).bn B.types x.bQ).mono λ_ F⟨R,z,_,W⟩=>?_;subst z;exact⟨y.VC m W,_,rfl,o (y.trans W)⟩
 .intro f;exact(T (e.aH _) (QG e [0] rfl aL)).aK (e.aH _) m λg f l a=>⟨_,rfl,λ_=>Kt a,λ_=>o a⟩
 .intro f;exact(T (e.aH _) (QG e [x.bQ] rfl aL)).aK (e.aH _) m λg f l a=>⟨_,rfl,λ_=>Kt a,λ_=>o a⟩
 .have h3:=hv.len;have h4:=hv.iC;refine⟨λg X=>J p X/\(g=true->x.args.length=2/\∃y z G,x.args[0]? =some y/\0<=y/\v[y.toNat]? =some z/\1<=z/\P[z.toNat -1]? =some G),⟨λh=>?_,λ_=>⟨e,sx⟩⟩,?_⟩
  .simp only[aE]at h;let⟨y,I⟩:=cK x.args 0;refine⟨V,V,y,(A e).aG I,?_⟩;have Y:cR ((c.len:Int) -1)=(v.length:Int) -1:=by rw[aP V V];omega
   rw[Y];refine(bF _ _ _ _).aK (J.aA n) (λg H=>e.lt (m g H)) λg f aa _ l=>⟨_,rfl,λh=>?_,λh=>⟨e.trans l,sx⟩⟩;have h:=aa.1 h;have a:=e.trans l;let⟨z,K⟩:=cK v y.toNat;refine⟨V,V,y,(A a).aG I,V,V,z,(u a).aG K,?_⟩;refine(nk (N a).bn B.types z).aK (J.aA f) (λg H=>a.lt (m g H)) λg L ab _ s=>⟨_,rfl,a.trans s,λh=>?_⟩;obtain⟨G,h5,h6,_⟩:=ab.1 h;exact⟨V,y,z,G,I,V,K,h5,h6⟩
  .rintro g f ⟨l,ah⟩;refine⟨λh=>?_,λ_=>o l⟩;let⟨h5,y,z,G,I,h6,K,h7,aa⟩:=ah h;let⟨ae,hf,g0,g1,g2⟩:=(N l).bn.aG aa;have an:=B.bn.len;have h8:=B.types.len;have h9:=az aa;have al:=az K;have Y:cR (z -1)=((z.toNat -1:Nat):Int):=by rw[aP V V];omega
   have ab:=(A l).aG I;have ac:=(u l).aG K;refine⟨V,V,y,ab,V,V,z,ac,?_⟩;rw[Y];refine⟨V,V,_,g0,_,g1,_,g2,?_⟩;intro L;have s:J f L:=J.push _ _;have af:C.size<f.size:=l.lt (m _ aL);have ag:q.size<f.size:=l.lt (m _ aL);refine⟨s.cr g0,s.cr g1,s.cr g2,s.cr ac,s.cr ab,aJ (s.same _ af) _,aJ (s.same _ ag) _,?_⟩;intro D;have x5:J f D:=s.ag (ad _) _ _;have am:D.size=f.size+1:=by simp[D,L,aw]
   clear_value D;refine⟨V,V,V,?_⟩;intro F;have W:J f F:=x5.trans (J.push _ _);have u6:=l.trans W;have aj:∀g∈[f.size,C.size,q.size],g<F.size:=by simp[F];omega
   refine⟨aJ ((J.push D _).same _ V) _,?_⟩;have ai:ar F (w.cut 1 w.len 1) (x.args.drop 1):=by
    have:=(eR.KS (A u6) (i:=1) (j:=x.args.length) V (ad _));rw[fy]at this;rw[h1];exact this
   exact(tg (u u6) ai (QG x5 [G.uN] rfl aL)).aK (J.aA F) aj λg m7 x7 _=>⟨_,rfl,Q (u6.trans x7)⟩
def _root_.Go.Vc.J.oQ{c m:E}(h:J c m)(k:J c b){l:List Nat}(e:∀a∈l,a<c.size):dY l m b:=λa d=>by rw[k.same a (e a d),h.same a (e a d)]
def tz(x:cV)(b:Bool)(a:b=true<->0<=x.op/\x.op<=11):dn x=if b=true then 1 else 0:=by
 unfold dn;by_cases h:b=true
 .rw[aj h];exact aj (a.1 h)
 .rw[ae h];exact ae λc=>h (a.2 c)
def nA{I:List bz}{Z:List gP}:∀a:Bk,Xj I Z a:=by
 refine Bk.ind ?_;intro ap Y W D d r c an v R U t j;simp only[Bk.jW,Bk.jv,Bk.qQ]at*;apply AG;simp -zeta only[aC,aB];intro E e;have y:J D e:=(J.push _ _).trans (J.push _ _);have g:∀a∈[E.size,D.size],a<e.size:=by simp[e,E];omega
 clear_value e;have T:=t.len;refine(mu (S:=[]) aL (U.le (y.le.trans (Al _))) V).aK (J.aA e) g λs0 _ m2 i K x2 _=>⟨_,rfl,?_⟩;subst K;have C:=BH ap;refine dV (n:=ap.length) (T▸t.iC) (λk s b=>J e b/\∃l,GI [] e b s l/\l.length=v.length+dc (ap.take k)) ⟨x2,_,i,aL⟩ ?_;rintro k s X aa μ hk ⟨z,l,m,hc⟩ G
 have p:=y.trans z;have ac:=tw (ap.take k);have ag:=qS k ap;have ah:=fY (ap.take k);have af:=m.len be;have q:=(m.done aL (oh (C k))).le (bG _ _);refine⟨λh=>?_,λh=>?_⟩
 .simp only[aq]at h;let⟨x,o⟩:=cK ap k;let⟨ab,kk,O,Q,i,g1,g2,M,N⟩:=(t.le p.le).aG o;have ak:=qd o;have ai:=C (k+1);have ad:=qV o;refine⟨V,V,_,i,_,g1,_,g2,_,M,_,N,?_⟩;refine(oE (R.le p.le) q O Q V (W x (au o))).aK z g λal F f u=>⟨_,rfl,λ_=>rN (y.trans u),λ_=>⟨V,V,_,f.af i,?_⟩⟩;refine(jP _ _).aK (J.aA F) (λa j=>u.lt (g a j)) λa m5 P _ A=>⟨_,rfl,?_⟩;have hd:=tz x a P;have w:=u.trans A;refine⟨λh=>?_,λh=>?_⟩
  .rw[aj h]at hd;intro m6;refine GI.kL ((m.ext f).ext A) (w.fz []) aL V λr m7 L B H am=>⟨?_,G V _ _ ⟨B.ext,_,L,bJ⟩⟩;exact J.oQ (w.aH _) B.ext g
  .rw[ae (by simp[h])]at hd;exact G V _ _ ⟨w,l,(m.ext f).ext A,V⟩
 .refine(bF _ _ _ _).aK (J.aA X) (λa j=>z.lt (g a j)) λa F o _ f=>⟨_,rfl,λ_=>rN (p.trans f),λh=>?_⟩;have h:=yb o h;have w:=q.iC;rw[aP V V]at h;let⟨H,u⟩:=cK l Y.toNat;exact⟨V,V,H,(q.ext f).aG u,rN (p.trans f)⟩
end
section
variable{b:E}{d e g k:O}{f:List gP}{c:cV}{h:Nat}
def _root_.Go.Vc.cB{S a:List Nat}{d o:Nat}{l:List Ce}(i:d∈S)(g:∀c∈a,c∈S):Le (bP S b) (bP a (ag b d o l)):=
 pP λc _ e=>⟨λh=>e (g c h),bo _ _ _ _ λf=>e (f▸i)⟩
def Z6(a:Bk):Prop:=∀(b:E)(t:O),eN b t a.ap->∀left:Int,-1<=left->left<=600->tq 306 [.agg #[O.v t,vi a.aT],vi left] b λk=>-1<=k/\k<=600
def IL:∀j:Bk,Z6 j:=by
 refine Bk.ind ?_;intro ap aa K b ab q left A C;simp only[Bk.jW,Bk.jv]at*;apply Bt;simp -zeta only[aC,aB];intro f;have w:J b f:=J.push _ _;have F:∀j∈[b.size],j<f.size:=by simp[f]
 clear_value f;have I:=q.len;have r:∀{d:E}{a:Int},J f d->-1<=a/\a<=600->∃k:Int,vi a=vi k/\(-1<=k/\k<=600)/\J b d:=λh o=>⟨_,rfl,o,w.trans h⟩;refine dV (n:=ap.length) (I▸q.iC) (λ_ a d=>J f d/\-1<=a/\a<=600) ⟨J.aA _,A,C⟩ ?_;rintro k a M U μ hk ⟨l,o⟩ P
 refine⟨λh=>⟨λ_=>r l V,λB=>?_⟩,λ_=>r l o⟩;simp only[aq]at h;simp only[bD]at B;let⟨c,u⟩:=cK ap k;let⟨g,v,Z,m,X,g1,g2,Y,s⟩:=(q.le (w.trans l).le).aG u;have D:=m.len;rw[aP (b:=a -1) V V];refine dV (n:=c.bE.length) (D▸m.iC) (λ_ a d=>J M d/\-1<=a/\a<=600) ⟨J.aA _,V,V⟩ ?_;rintro L Q N W μ2 hj ⟨i,p⟩ O;refine⟨V,V,v,i.af s,λh=>?_,λ_=>P V _ _ ⟨l.trans i,p⟩⟩;simp only[aq]at h;let⟨j,t⟩:=cK c.bE L;let⟨R,H,y,z⟩:=(m.le i.le).aG t;refine⟨V,V,v,i.af s,V,V,_,y,_,z,?_⟩;exact(K c (au u) j (au t) N R H Q p.1 p.2).aK (l.trans i) F λe m4 G T S=>⟨_,rfl,λ_=>r S V,λh=>O V _ _ ⟨i.trans T,G⟩⟩
def Mr{t:O}{c:Bk}(g:eN b t c.ap):Fx 262 [.agg #[O.v t,vi c.aT]] b:=by
 apply Fb;simp -zeta only[aC,aB];intro a;have d:J b a:=J.push _ _;have f:∀c∈[b.size],c<a.size:=by simp[a]
 clear_value a;exact(IL c a t (g.le d.le) 600 V V).aK (J.aA a) f λn h _ _ e=>⟨_,rfl,λ_=>rN (d.trans e),λ_=>rN (d.trans e)⟩
def pOf(e:gP):dA:=⟨e.params,[],e.aT,0,[]⟩
def oW.mono:oH 5 oW:=⟨λh⟨g,a,b⟩=>⟨g,a,b.le h⟩,λ⟨g,a,_⟩=>by rw[a];rfl⟩
def No{F:List bz}(t:eK b d e F f):aM cq 305 [.agg #[O.v d,O.v e]] b λY g=>∃v,Y=.agg #[O.v d,O.v v]/\eR g 5 (oW g) v (f.map pOf)/\J b g:=by
 apply GZ;simp -zeta only[aC,aB];intro j a2 a3 a4 p;have ac:=t.iW.len;have hf:=t.oK;have Z:J b a2:=(J.push _ _).trans (J.push _ _);have W:j.size=b.size+1:=by simp[j]
 have X:a2.size=b.size+2:=by simp[a2,W]
 have s3:a3.size=b.size+3:=by simp[a3,X]
 have A:J a3 p:=(J.push a3 _).ag (ad _) _ _;have L:Gr [a3.size,j.size] a2 p fx 5 oW (.mk a2.size 0 0 0) []:=(Gr.new _ (ad _) _ _ _).ext oW.mono A;have D:cw p a3.size kK [.s d,.s (.mk a2.size 0 0 0)]:=cw.ag (m:=a4) (o:=0) (r:=[.s d,.s (.mk a2.size 0 0 0)]) (cw.push a3 _ _);have aa:J a2 p:=(J.push a2 _).trans A;clear_value p;have N:∀l∈[j.size,b.size],l<a2.size/\l∉([]:List Nat):=bJ;refine fm (n:=f.length) V (λk g=>J a2 g/\∃s,Gr [a3.size,j.size] a2 g fx 5 oW s ((f.take k).map pOf)/\cw g a3.size kK [.s d,.s s]) ⟨aa,_,L,D⟩ ?_;rintro k Q ab μ hk ⟨u,s,h,B⟩ S
 have z:=Z.trans u;refine dit (λM=>?_) λM=>?_
 .let⟨T,x⟩:=cK f k;have P:zJ (bP (s.D::[a3.size,j.size]) Q) e f:=t.iW.le ((Al b).trans ((z.fz []).bP aL λl q=>Or.inr ?_))
  .let⟨y,ae,l,E,c2,c3,G,e1,H,e3,e4⟩:=P.aG x;refine⟨s,B.bU 1,V,V,y,(eF.1 G).2,V,V,_,(eF.1 H).2,?_⟩;intro R;refine Gr.box (g:=[.s .nil,.i 0,.i 0,.i 0,.s .nil]) (j:=1) (i:=[.s d,.s s]) (w:=pOf T) oW.mono be h (u.fz []) ⟨y,rfl,E⟩ bJ B aL be ⟨V,aL⟩ (λl q=>by have C:=N l q;have I:=h.bh;have w:=u.size;omega) λU g K C I z' q'=>S V _ ⟨I.ext,U,?_,C⟩
   rw[bd x,fN];exact K
  .have:=h.bh;simp at q;omega
 .refine⟨d,B.bU 0,s,B.bU 1,?_⟩;intro R;have x:=h.ne B be;have y:=h.bh;rw[cJ V]at h;refine⟨s,rfl,?_,z.ag V _ _⟩;have w:=h.nQ oW.mono bJ be bJ;exact eR.le w ((cB (a:=[]) aL aL).trans (bG _ _)) λq c=>oW.mono.le ((cB (a:=[]) aL aL).trans (bG _ _))
def yg{r:List bz}(c:eK b d e r f):oX 261 [.agg #[O.v d,O.v e]] b:=by
 apply tY;simp -zeta only[aC,aB];intro g;have a:J b g:=J.push _ _;have i:∀h∈[b.size],h<g.size:=by simp[g]
 clear_value g;have K:=c.iW.len;have G:=c.oK;refine⟨λ_=>rA a,λ_=>?_⟩;refine(No (c.le a.le)).mono λ_ L⟨F,s,w,j⟩=>?_;subst s;refine⟨j.dv i,_,_,rfl,?_⟩;refine(vf (c.le (a.trans j).le).bn w).any.aK j i λh M R m=>⟨_,rfl,λ_=>rA (a.trans m),λ_=>?_⟩;refine fm (n:=f.length) V (λ_ l=>J g l) m ?_;rintro k N I μ H l y
 refine⟨λv=>?_,λ_=>rA (a.trans l)⟩;simp only[aq]at v;let⟨Q,x⟩:=cK f k;let⟨z,A,h,p,q,B,t,u,C,D,E⟩:=(c.le (a.trans l).le).iW.aG x;refine⟨V,V,z,t,V,V,A,u,?_⟩;exact(ve p q).any.aK l i λh P S o=>⟨_,rfl,λ_=>rA (a.trans o),λ_=>y V _ o⟩
def Fh{z:List bz}(i:eK b d e z f)(G:∀q∈f,q.params.length+4*q.body.w<=10^12):oX 242 [.agg #[O.v d,O.v e]] b:=by
 apply yh;simp -zeta only[aC,aB];intro c;have m:J b c:=J.push _ _;have t:∀a∈[b.size],a<c.size:=by simp[c]
 clear_value c;have T:=i.iW.len;have R:=i.oK;refine(yg (i.le m.le)).aK (J.aA c) t λa U x _=>⟨_,rfl,λ_=>rA (m.trans x),λ_=>?_⟩;refine fm (n:=f.length) V (λ_ g=>J c g) x ?_;rintro k l P μ S o L
 refine⟨λF=>?_,λ_=>rA (m.trans o)⟩;simp only[aq]at F;let⟨q,u⟩:=cK f k;have v:=m.trans o;let⟨M,X,a,y,Q,s,A,B,C,D,E⟩:=(i.le v.le).iW.aG u;refine⟨V,V,_,A,_,B,_,C,_,D,_,E,?_⟩;intro H g;have j:J l g:=(J.push l _).ag (ad _) _ _;have p:∀a∈[l.size,b.size],a<g.size:=by
  have:=o.lt (t b.size aL);have:g.size=l.size+1:=by simp[g,H,aw]
  simp;omega
 clear_value g;have r:=v.trans j;refine(Mr (s.le j.le)).aK (J.aA g) p λK I h _=>⟨_,rfl,λ_=>rA (r.trans h),λ_=>?_⟩;refine(nA q.body I d e M a q.params (i.le (r.trans h).le) (y.ext (j.trans h)) (s.le (j.trans h).le) (G q (au u))).aK h p λK W N w=>⟨_,rfl,aJ (N.same _ (h.lt (p _ aL))) _,λ_=>rA (r.trans w),λ_=>L V _ ((o.trans j).trans w)⟩
def yz(c:Int)(b:E):oX 121 [vi c] b:=by
 apply sK;have e:∀a:Bool,∃k:Bool,vb a=.bool k/\J b b:=λa=>rA (J.aA b);exact⟨λ_=>e _,λ_=>⟨λ_=>e _,λ_=>⟨λ_=>e _,λ_=>e _⟩⟩⟩
def Xl(f:List gP)(c:cV):Prop:=c.op=9->0<=c.bQ/\c.bQ<f.length
structure At(b:E)(d e g k:O)(ds:List bz)(f:List gP)(c:cV):Prop where
 Rj:eK b d e ds f
 args:ar b g c.args
 call:Xl f c
def At.le{b j:E}{d e g k:O}{a:List bz}{f:List gP}{c:cV}(h:At b d e g k a f c)(i:Le b j):At j d e g k a f c:=⟨h.Rj.le i,h.args.le i,h.call⟩
def dP{o1 o2:Obj}{a c:E}(e:a=b.push o1)(f:c=a.push o2):J b c/\∀d∈[a.size,b.size],d<c.size:=by
 subst e f;exact⟨(J.push _ _).trans (J.push _ _),bJ⟩
def og{o:List bz}(a:At b d e g k o f c)(h:Int):oX 308 [.agg #[O.v d,O.v e],pA c g k,vi h] b:=by
 apply GO;simp -zeta only[aC,aB];intro s i;let⟨j,q⟩:=dP (a:=s) (c:=i) rfl rfl;clear_value i;have C:=a.Rj.iW.len;refine⟨λl=>?_,λ_=>rA j⟩;simp only[aE]at l;have B:=a.call l;let⟨F,r⟩:=cK f c.bQ.toNat;let⟨E,t,m,v,n,w,x,p,y,z,A⟩:=(a.Rj.le j.le).iW.aG r;exact⟨V,V,t,p,(dw n h).any.aK (J.aA i) q λm D u _=>⟨_,rfl,rA (j.trans u)⟩⟩
def mN{q:O}{s:List bz}(j:At b d e g k s f c){v:List Int}(o:ar b q v)(u:∀y∈c.args,0<=y/\y<(v.length:Int))(t:h<c.args.length):oX 304 [.agg #[O.v d,O.v e],O.v q,pA c g k,vi h] b:=by
 apply zg;simp -zeta only[aC,aB];intro x a;let⟨l,n⟩:=dP (a:=x) (c:=a) rfl rfl;clear_value a;have B:=j.args.len;have D:=o.len;let⟨y,p⟩:=dZ t;have C:=u y (au p);let⟨A,w⟩:=cK v y.toNat;refine(yz c.op a).aK (J.aA a) n λr E m _=>⟨_,rfl,λ_=>?_,λ_=>rA (l.trans m)⟩;have i:=l.trans m;refine⟨V,V,y,(j.args.ext i).aG p,V,V,A,(o.ext i).aG w,λ_=>?_,λ_=>rA i⟩;exact(og (j.le i.le) h).aK m n λr F G z=>⟨_,rfl,rA (l.trans z)⟩
def CU{r:List bz}(a:At b d e g k r f c)(u:h<c.args.length):oX 336 [.agg #[O.v d,O.v e],pA c g k,vi h] b:=by
 apply wS;simp -zeta only[aC,aB];intro y l;let⟨q,v⟩:=dP (a:=y) (c:=l) rfl rfl;clear_value l;have t:=a.args.len;let⟨A,w⟩:=dZ u;refine fm (n:=c.args.length) (t▸a.args.iC) (λ_ i=>J l i) (J.aA _) ?_;rintro o E I μ D j z
 have i:=q.trans j;refine⟨λs=>⟨λ_=>?_,λ_=>?_⟩,λ_=>rA i⟩<;>simp only[aq]at s<;>have m:=z V
 .let⟨B,x⟩:=cK c.args o;refine⟨V,V,B,(a.args.ext i).aG x,V,V,A,(a.args.ext i).aG w,λ_=>⟨λ_=>rA i,λ_=>?_⟩,λ_=>m _ j⟩;exact(og (a.le i.le) o).aK j v λC F G p=>⟨_,rfl,λ_=>rA (q.trans p),λ_=>m _ p⟩
 .exact m _ j
def AZ{s r:O}{u:List bz}(i:At b d e g k u f c){z x:List Int}(w:ar b s z)(v:ar b r x)(p:h<c.args.length):oX 321 [.agg #[O.v d,O.v e],pA c g k,vi h,O.v s,O.v r] b:=by
 apply EN;simp -zeta only[aC,aB];intro A l;let⟨a,j⟩:=dP (a:=A) (c:=l) rfl rfl;clear_value l;have C:=i.args.len;let⟨y,q⟩:=dZ p;refine⟨V,V,y,(i.args.ext a).aG q,?_⟩;refine(dw (v.ext a) y).any.aK (J.aA l) j λo D n _=>⟨_,rfl,λ_=>rA (a.trans n),λ_=>?_⟩;have t:=a.trans n;refine⟨V,V,y,(i.args.ext t).aG q,?_⟩;refine(dw (w.ext t) y).any.aK n j λo E G m=>⟨_,rfl,λ_=>rA (a.trans m),λ_=>?_⟩;exact(CU (i.le (a.trans m).le) p).aK m j λo F H B=>⟨_,rfl,rA (a.trans B)⟩
end
section
def Yn(b:Bk):Prop:=∀(S:List Nat)(m:E),(∀c∈S,c<m.size)->∀(t a:O)(l:List Int)(n:Int)(k:Nat),eN m t b.ap->ar (bP S m) a l->k<=b.ap.length->l.length+b.w<=10^12->
 Fw 290 [.agg #[O.v t,vi b.aT],vi n,vi k,O.v a] m S λc=>c.length<=l.length+b.w
def _root_.Go.Vc.XA{σ:Type}{n b:Nat}(l:b<=n)(q:n<=9223372036854775807){m:E}{g:σ}{f:(σ->Int->E->Prop)->(σ->Int->E->Nat)->σ->Int->E->Prop}(Q:Nat->σ->E->Prop)(j:Q b g m)
 (h:∀(k:Nat)(s:σ)(a:E)(I:σ->Int->E->Prop)(μ:σ->Int->E->Nat),b<=k->k<=n->Q k s a->
  (k<n->∀d c,Q (k+1) d c->I d (cR ((k:Int)+1)) c/\μ d (cR ((k:Int)+1)) c<μ s k a)->f I μ s k a):
 ∃(I:σ->Int->E->Prop)(μ:σ->Int->E->Nat),I g b m/\∀s i a,I s i a->f I μ s i a:=by
 refine⟨λs i c=>∃k:Nat,i=k/\b<=k/\k<=n/\Q k s c,λ_ i _=>(n -i).toNat,⟨b,rfl,ad _,l,j⟩,?_⟩
 rintro s i a ⟨k,rfl,o,p,r⟩
 refine h k s a _ _ o p r λe d c t=>?_
 rw[kW e q]
 exact⟨⟨k+1,rfl,V,e,t⟩,Gj e⟩
def Et{S:List Nat}{m:E}(P:∀g∈S,g<m.size){B F G:O}{l:List Int}{x:cV}(K:Int)(q:ar m B x.args)(t:nP m F x.bE)(D:ar (bP S m) G l)(hb:l.length+x.w<=10^12)(U:∀e∈x.bE,Yn e):
 Fw 320 [pA x B F,vi K,O.v G] m S λa=>a.length<=l.length+x.w:=by
 apply xK
 simp -zeta only[aC,aB]
 intro b
 have f:J m b:=J.push _ _
 have u:∀e∈[m.size],e<b.size:=by simp[b]
 clear_value b
 have Q:=q.len
 have R:=t.len
 have hw:=cV.mz x
 have H:∀{c:E},J b c->∀g∈S,g<c.size:=λh g C=>aO (P g C) (f.trans h).size
 refine(tT x.op b).any.aK (J.aA b) u λe m2 o _=>⟨_,rfl,λ_=>⟨_,_,rfl,D.le ((f.trans o).dg S),V,f.trans o⟩,λ_=>?_⟩
 refine dV (n:=x.args.length) (Q▸q.iC) (λv s c=>J b c/\∃a,ar (bP S c) s a/\a.length<=l.length+v) ⟨o,l,D.le ((f.trans o).dg S),ad _⟩ ?_
 rintro v s m3 ab μ hj ⟨d,a,j,C⟩ z
 refine dit (λh=>?_) λh=>?_
 .let⟨y,i⟩:=cK x.args v
  have g1:=(q.ext (f.trans d)).aG i
  refine⟨V,V,y,g1,λ_=>⟨V,V,y,g1,λ_=>⟨V,V,y,g1,?_⟩,λ_=>z V _ _ ⟨d,a,j,V⟩⟩,λ_=>z V _ _ ⟨d,a,j,V⟩⟩
  exact(mH (H d) j y V).aK d u λY w I g2 A p k=>⟨_,rfl,z V _ _ ⟨k,w,g2.done (H d) (oh A.2),oh A.2⟩⟩
 .refine dV (n:=x.bE.length) (R▸t.iC) (λi s c=>J b c/\∃a,ar (bP S c) s a/\a.length<=l.length+x.args.length+bw (x.bE.take i)) ⟨d,a,j,bJ⟩ ?_
  rintro i Z I I2 μ2 hi ⟨p,w,g2,ae⟩ X
  have k:=f.trans p
  have y:=KN x.bE
  refine⟨λh=>?_,λh=>⟨_,_,rfl,g2,oh (y i),k⟩⟩
  simp only[aq]at h
  let⟨e,r⟩:=cK x.bE i
  let⟨aa,T,L,M⟩:=(t.le k.le).aG r
  have ac:=uL r
  refine⟨V,V,_,L,_,M,?_⟩
  exact(U e (au r) S I (H p) aa Z w K 0 T g2 (eO _) (oh (y (i+1)))).aK p u λY W m5 N A x5 u5=>⟨_,rfl,X V _ _ ⟨u5,W,N,V⟩⟩
def AA:∀e:Bk,Yn e:=by
 refine Bk.ind ?_;intro ap P K S o B ab aa l L Z i G D W;simp only[Bk.jW,Bk.jv,Bk.qQ]at*;apply Eu;simp -zeta only[aC,aB];intro a;have d:J o a:=J.push _ _;have r:∀e∈[o.size],e<a.size:=by simp[a]
 clear_value a;have I:=i.len;have H:∀{c:E},J a c->∀f∈S,f<c.size:=λh f p=>aO (B f p) (d.trans h).size;refine XA (n:=ap.length) D (I▸i.iC) (λj s c=>J a c/\∃m,ar (bP S c) s m/\m.length<=l.length+sw (ap.take j)) ⟨J.aA _,l,G.le (d.dg S),V⟩ ?_;rintro j s v T μ _ X ⟨b,m,g,p⟩ M
 have y:=d.trans b;have t:=BH ap;refine⟨λh=>?_,λh=>?_⟩
 .simp only[aq]at h;let⟨R,k⟩:=cK ap j;let⟨U,kk,C,F,w,g1,g2,x,z⟩:=(i.le y.le).aG k;have Y:=qd k;refine⟨V,V,_,w,_,g1,_,g2,_,x,_,z,?_⟩;exact(Et (H b) L C F g (oh (t (j+1))) (K R (au k))).aK b r λN u m3 A q x3 Q=>⟨_,rfl,M V _ _ ⟨Q,u,A,V⟩⟩
 .have A:=t j;have w:∃x k,O.v s=O.v x/\ar (bP S v) x k/\k.length<=l.length+(1+sw ap)/\J o v:=⟨_,_,rfl,g,V,y⟩;refine⟨λ_=>⟨λ_=>?_,λ_=>w⟩,λ_=>w⟩;exact(mH (H b) g P V).aK b r λN u C g2 q F z=>⟨_,rfl,_,_,rfl,g2.done (H b) (oh q.2),oh q.2,d.trans z⟩
def DE{S:List Nat}{m:E}(i:∀d∈S,d<m.size){t:O}{b:Bk}(l:eN m t b.ap)(n:Int)(c:b.w<=10^12):Fw 255 [.agg #[O.v t,vi b.aT],vi n] m S λf=>f.length<=b.w:=by
 apply G8;simp -zeta only[aC,aB];intro g a;let⟨e,k⟩:=dP (a:=g) (c:=a) rfl rfl;have h:ar (bP S a) (.mk g.size 0 0 0) []:=⟨rfl,ad _,aL,aL⟩;clear_value a;exact(AA b S a (λd j=>e.lt (i d j)) t _ _ n 0 (l.le e.le) h (eO _) (by simpa using c)).aK (J.aA a) (λb c=>k b (by simp at c⊢;exact Or.inr c)) λr f j g2 q d _=>⟨_,rfl,_,_,rfl,g2,by simpa using q,e.trans d⟩
section
variable{b:List Nat}{m:E}(e:∀c∈b,c<m.size){d r a k s q p:O}{t:List bz}{w:List gP}{x:cV}(h:At m d r a k t w x){v g u:List Int}(o:ar m s v)(l:∀y∈x.args,0<=y/\y<(v.length:Int))(f:ar m q g)(j:ar m p u)
include e h o l
def zc(M:x.args.length<=10^12):ln 259 [.agg #[O.v d,O.v r],O.v s,pA x a k] m b (pF x.args):=by
 apply ux;simp -zeta only[aC,aB];intro I g P;let⟨q,B⟩:=dP (a:=I) (c:=g) rfl rfl;clear_value g;have H:=h.args.len;refine dV (n:=x.args.length) (H▸h.args.iC) (λj v p=>J g p/\∃f,GI b g p v f/\(∀y∈f,y∈x.args)/\f.length<=j) ⟨J.push _ _,[],GI.nil b g,aL,ad _⟩ ?_;rintro j v Q K μ N ⟨E,f,t,u,A⟩ D
 have w:=q.trans E;refine dit (λG=>?_) λG=>?_
 .let⟨y,C⟩:=cK x.args j;refine(mN (h.le w.le) (o.ext w) l (h:=j) V).aK E B λL R F p=>⟨_,rfl,λ_=>⟨V,V,y,(h.args.ext (q.trans p)).aG C,?_⟩,λ_=>D V _ _ ⟨p,f,t.ext F,u,V⟩⟩;intro S;exact GI.kL (t.ext F) (p.fz []) (λc A=>q.lt (e c A)) V λr T g2 z _ _=>⟨J.oQ (p.aH _) z.ext B,D V _ _ ⟨z.ext,_,g2,pd u (au C),bJ⟩⟩
 .exact⟨v,f,rfl,t.cv (λ_ h=>h) q.size,⟨u,V⟩,w⟩
include f j
def GD(W:x.args.length<=10^12):ln 292 [.agg #[O.v d,O.v r],O.v s,pA x a k,O.v q,O.v p] m b (pF x.args):=by
 apply ze;simp -zeta only[aC,aB];intro S u Y;let⟨v,B⟩:=dP (a:=S) (c:=u) rfl rfl;clear_value u;have R:=h.args.len;refine dV (n:=x.args.length) (R▸h.args.iC) (λt D w=>J u w/\∃g,GI b u w D g/\(∀y∈g,y∈x.args)/\g.length<=t) ⟨J.push _ _,[],GI.nil b u,aL,ad _⟩ ?_;rintro t D Z U μ X ⟨M,g,w,z,K⟩ C
 have E:=v.trans M;refine dit (λQ=>?_) λQ=>?_
 .let⟨y,L⟩:=cK x.args t;refine(mN (h.le E.le) (o.ext E) l (h:=t) V).aK M B λP m4 H F=>⟨_,rfl,λ_=>?_,λ_=>C V _ _ ⟨F,g,w.ext H,z,V⟩⟩;have G:=v.trans F;refine(AZ (h.le G.le) (f.ext G) (j.ext G) (h:=t) V).aK F B λP m5 N A=>⟨_,rfl,λ_=>⟨V,V,y,(h.args.ext (v.trans A)).aG L,?_⟩,λ_=>C V _ _ ⟨A,g,(w.ext H).ext N,z,V⟩⟩;intro T;exact GI.kL ((w.ext H).ext N) (A.fz []) (λc K=>v.lt (e c K)) V λr T g2 I _ _=>⟨J.oQ (A.aH _) I.ext B,C V _ _ ⟨I.ext,_,g2,pd z (au L),bJ⟩⟩
 .exact⟨D,g,rfl,w.cv (λ_ h=>h) v.size,⟨z,V⟩,E⟩
def Iu(U:g.length<=10^12):ln 294 [.agg #[O.v d,O.v r],O.v s,pA x a k,O.v q,O.v p] m b (pF g):=by
 apply Ba;simp -zeta only[aC,aB];intro Y z;let⟨t,F⟩:=dP (a:=Y) (c:=z) rfl rfl;clear_value z;have af:=h.args.len;have ab:∀{u:E},J z u->∀c∈b,c<u.size:=λh c hc=>aO (e c hc) (t.trans h).size;have X:aM cq 323 [O.v q,O.v p] z λv u=>dY [Y.size,m.size] z u/\∃Z:O,v=O.v Z/\∃A W,O.v Z=O.v A/\GI b m u A W/\pF g W/\J m u:=by
  refine(Nd (S:=[]) aL (f.le (t.le.trans (Al _))) (j.le (t.le.trans (Al _))) U).aK (J.aA z) F λA w ag C I Q _=>⟨_,rfl,A,w,rfl,?_,I,t.trans Q⟩;let⟨D,K,g1,g2⟩:=C;exact⟨D,K,g1.cv t.size,g2.mono λ_ _ h=>h⟩
 refine⟨λ_=>X,λ_=>⟨λ_=>X,λ_=>?_⟩⟩;refine(mu (S:=[]) aL (f.le (t.le.trans (Al _))) U).aK (J.aA z) F λs0 _ ag D ae Q _=>⟨_,rfl,?_⟩;subst ae;refine dV (n:=x.args.length) (af▸h.args.iC) (λH A u=>J z u/\∃w,GI b m u A w/\pF g w) ⟨Q,g,?_,λ_ h=>h,ad _⟩ ?_
 .let⟨D,K,g1,g2⟩:=D;exact⟨D,K,g1.cv t.size,g2.mono λ_ _ h=>h⟩
 rintro H A m3 ah μ hj ⟨x3,w,C,B⟩ L
 have M:=t.trans x3;refine⟨λT=>?_,λT=>⟨A,w,rfl,C,B,M⟩⟩;simp only[aq]at T;let⟨y,hy⟩:=cK x.args H;refine(mN (h.le M.le) (o.ext M) l (h:=H) V).aK x3 F λac m4 R N=>⟨_,rfl,λ_=>?_,λ_=>L V _ _ ⟨N,w,C.ext R,B⟩⟩;have P:=t.trans N;refine(AZ (h.le P.le) (f.ext P) (j.ext P) (h:=H) V).aK N F λac m5 x5 G=>⟨_,rfl,λ_=>⟨V,V,y,(h.args.ext (t.trans G)).aG hy,?_⟩,λ_=>L V _ _ ⟨G,w,(C.ext R).ext x5,B⟩⟩;refine(BD (S:=b) (ab G) (((C.ext R).ext x5).done e (oh B.2)) y (oh B.2)).aK G F λr l2 m6 g2 I x6 u6=>⟨_,rfl,L V _ _ ⟨u6,l2,g2.cv (λ_ h=>h) (t.trans G).size,λaa hz=>B.1 aa (I.1 aa hz),bX I.2 B.2⟩⟩
omit o l
def Iv(hb:x.args.length<10^12):ln 295 [.agg #[O.v d,O.v r],pA x a k,O.v q,O.v p] m b (pF x.args):=by
 apply Bb;simp -zeta only[aC,aB];intro X l aa;let⟨g,w⟩:=dP (a:=X) (c:=l) rfl rfl;clear_value l;have T:=h.args.len;have R:∀{t:E},J l t->∀c∈b,c<t.size:=λh c v=>aO (e c v) (g.trans h).size;refine dV (n:=x.args.length) (T▸h.args.iC) (λA H t=>J l t/\∃i,GI b l t H i/\(∀y∈i,y∈x.args)/\i.length<=A) ⟨J.push _ _,[],GI.nil b l,aL,ad _⟩ ?_;rintro A H m3 Z μ hj ⟨N,i,o,s,v⟩ B
 have M:=g.trans N;refine dit (λS=>?_) λS=>?_
 .let⟨y,z⟩:=cK x.args A;refine(og (h.le M.le) A).aK N w λK m4 F C=>⟨_,rfl,λ_=>⟨V,V,y,(h.args.ext (g.trans C)).aG z,?_⟩,λ_=>B V _ _ ⟨C,i,o.ext F,s,V⟩⟩;refine(dw (f.ext (g.trans C)) y).any.aK C w λK m5 I D=>⟨_,rfl,λ_=>⟨V,V,y,(h.args.ext (g.trans D)).aG z,?_⟩,λ_=>B V _ _ ⟨D,i,(o.ext F).ext I,s,V⟩⟩;refine(dw (j.ext (g.trans D)) y).any.aK D w λK m6 P u=>⟨_,rfl,λ_=>⟨V,V,y,(h.args.ext (g.trans u)).aG z,?_⟩,λ_=>B V _ _ ⟨u,i,((o.ext F).ext I).ext P,s,V⟩⟩;refine(mH (R u) ((((o.ext F).ext I).ext P).done (λc v=>g.lt (e c v)) V) y V).aK u w λr W m7 g2 L x7 Y=>⟨_,rfl,B V _ _ ⟨Y,W,g2.cv (λ_ h=>h) u.size,λQ U=>?_,oh L.2⟩⟩;rcases L.1 Q U with G|G
  .exact s Q G
  .subst G;exact au z
 .exact⟨H,i,rfl,o.cv (λ_ h=>h) g.size,⟨s,V⟩,M⟩
end
end
section
variable{m d a:E}{c e:List Nat}{s:O}{l:List Int}{f g:Nat}{K:Value->E->Prop}
def qB{o1 o2 o3:Obj}{a b c:E}(e:a=m.push o1)(f:b=a.push o2)(g:c=b.push o3):J m c/\(∀d∈[b.size,a.size,m.size],d<c.size)/\a.size=m.size+1/\b.size=m.size+2/\c.size=m.size+3:=by
 subst e f g;exact⟨((J.push _ _).trans (J.push _ _)).trans (J.push _ _),bJ,aL,aL,aL⟩
def GI.SD{X:List Nat}{n:E}{g:O}{k:List Int}{a:Int}{K:O->E->Prop}(p:GI c d m s l)(i:GI e n m g k)(j:s.D≠g.D)(q:Fz X d m)(w:l.length<=10^12)
 (t:∀r b,GI c d b r (l++[a])->GI e n b g k->r.D≠g.D->Fz X d b->K r b):jM (m.push (.cells (bA [.i a]) aD)) aD [.i 0] 8 s (.mk m.size 0 1 1) K:=by
 have u:=i.bh
 refine Gr.kL (g:=[.i 0]) um.mono be p q rfl V λr b o f z v=>t r b o (i.jx (v _ u.2 (kH j))) ?_ f
 rcases z.2 with h|h
 .rw[h];exact j
 .omega
def GI.any(h:GI c d m s l):GI e d m s l:=by
 let⟨b,a,f,g⟩:=h;exact⟨b,a,f,g.mono λ_ _ h=>h⟩
def eZ(a v:Int):cV:=⟨a,0,0,[v],[]⟩
abbrev GS(c:List Nat)(d m:E)(s:O)(l:List cV):Prop:=Gr c d m gA 5 gQ s l
def GS.new(c:List Nat)(m:E):GS c m (m.push (.cells (bA []) gA)) (.mk m.size 0 0 0) []:=Gr.new c (ad _) _ _ _
def GS.kL{c X:List Nat}{d m:E}{s a k:O}{l:List cV}{x:cV}{K:O->E->Prop}(h:GS c d m s l)(i:Fz X d m)(g:ar (bP (s.D::c) m) a x.args)(j:nP (bP (s.D::c) m) k x.bE)(n:l.length<=10^12)
 (f:∀r b,GS c d b r (l++[x])->Fz X d b->m.size<=b.size/\(r.D=s.D\/m.size<=r.D)->(∀e,e<m.size->e≠s.D->b[e]? =m[e]?)->K r b):
 jM (m.push (.cells (bA [.i x.op,.i x.bQ,.i x.bM,.s a,.s k]) gA)) gA [.i 0,.i 0,.i 0,.s .nil,.s .nil] 72 s (.mk m.size 0 1 1) K:=
 Gr.kL (g:=[.i 0,.i 0,.i 0,.s .nil,.s .nil]) gQ.mono be h i ⟨a,k,rfl,g,j⟩ V f
def GS.all{c X:List Nat}{d m:E}{s x:O}{l e:List cV}{K:O->E->Prop}(h:GS c d m s l)(g:Fz X d m)(i:eN (bP (s.D::c) m) x e)(j:l.length+e.length<=10^12)
 (f:∀r a,GS c d a r (l++e)->Fz X d a->m.size<=a.size/\(r.D=s.D\/m.size<=r.D)->(∀b,b<m.size->b≠s.D->a[b]? =m[b]?)->K r a):
 jM m gA [.i 0,.i 0,.i 0,.s .nil,.s .nil] 72 s x K:=
 Gr.all (g:=[.i 0,.i 0,.i 0,.s .nil,.s .nil]) gQ.mono be h g i V f
def mK{α:Type}(m:E)(a:Nat)(R:List Ce->α->Prop)(b o c:Nat):eR m a R (.mk b o 0 c) []:=⟨rfl,eO _,aL,aL⟩
def jg(n:∀f∈c,f<m.size)(g v:Int):aM cq 227 [vi g,vi v] m λs d=>∃a k,s=pA (eZ g v) a k/\ar (bP c d) a [v]/\nP (bP c d) k []/\J m d:=by
 apply CH;simp -zeta only[aC,aB];intro b e q r;have t:J m b:=J.push _ _;have u:J b e:=J.push _ _;have i:J e q:=J.push _ _;have w:b.size=m.size+1:=by simp[b]
 have p:J m r:=((t.trans u).trans i).ag (ad _) _ _;refine⟨_,_,rfl,?_,mK _ _ _ _ _ _,p⟩;have l:ar (bP (m.size::c) e) (.mk b.size 0 1 1) [v]:=ar.lit aD [v] (λj o=>by
  rcases List.mem_cons.1 o with h|h
  .omega
  .have:=n j h;omega) rfl rfl aL
 exact(l.le (i.dg _)).le (cB aX λf h=>ai _ h)
def RJ(f:Nat)(b:List Value)(m:E)(c:List Nat)(Q:List cV->Prop):Prop:=aM cq f b m λv a=>∃s l,v=O.v s/\GS c m a s l/\Q l/\J m a
def RJ.aK{h:List Value}{l:List Nat}{Q:List cV->Prop}(k:RJ f h m c Q)(i:J a m)(q:∀e∈l,e<a.size)(p:∀s d b,GS c m b s d->Q d->J m b->J a b->K (O.v s) b):aM cq f h m λv b=>dY l m b/\K v b:=
 k.mono λ_ b⟨s,d,j,n,r,g⟩=>⟨g.dv λe o=>i.lt (q e o),j▸p s d b n r g (i.trans g)⟩
def eV(w:∀g∈c,g<m.size)(b:Int){p:O}(i:ar m p l)(B:l.length<=10^12):RJ 257 [vi b,O.v p] m c (l.map (eZ b)=·):=by
 apply AO;intro E;have z:=i.len;refine dV (n:=l.length) (z▸i.iC) (λk s d=>J m d/\GS c m d s ((l.take k).map (eZ b))) ⟨J.push m _,by simpa using GS.new c m⟩ ?_;rintro k s F I μ C ⟨e,d⟩ A
 refine dit (λh=>?_) λh=>?_
 .let⟨j,o⟩:=cK l k;refine⟨V,V,j,(i.ext e).aG o,?_⟩;refine(jg (c:=s.D::c) (λg y=>?_) b j).mono λN G⟨a,D,r,u,v,q⟩=>?_
  .have:=d.bh;rcases List.mem_cons.1 y with h|h
   .omega
   .exact e.lt (w g h)
  subst r;refine⟨_,_,_,_,_,rfl,?_⟩;intro H;refine GS.kL (x:=eZ b j) (d.ext gQ.mono q) ((e.trans q).fz []) u v bJ λM K t f P L=>A V _ _ ⟨f.ext,?_⟩
  rw[bd o,fN];exact t
 .rw[cJ V]at d;exact⟨s,_,rfl,d,rfl,e⟩
def oJ(a:Int):∀l:List Int,sw (l.map (eZ a))=2*l.length
 |[]=>rfl
 |v::l=>by rw[cG,mO,oJ a l,cV.mz];simp[eZ];omega
def jX{a:Int}(h:14<=a):∀l:List Int,dc (l.map (eZ a))=0
 |[]=>rfl
 |v::l=>by
  rw[cG,kN,jX h l];unfold dn;rw[ae (λb:pD (eZ a v).op=>by have:=b.2;simp only[eZ]at this;omega)]
def DS{e:List bz}{a:Nat}{c v:Int}(h:14<=c/\c<=17)(f:0<=v/\v<(a:Int)):WS e g True a (eZ c v):=
 ⟨⟨Or.inr ⟨trivial,h⟩,λx d=>by simp[eZ]at d;subst d;exact f,λ_=>rfl,by simp[eZ],λb=>by simp only[eZ]at b;omega,λb=>by simp only[eZ]at b;omega,λb=>by simp only[eZ]at b;omega⟩,λk d b=>by simp[eZ]at b⟩
def sg{d:List bz}{a:Nat}{b:Int}(h:14<=b/\b<=17)(e:∀v∈l,0<=v/\v<(a:Int)):WL d g True a (l.map (eZ b)):=λi s c=>by
 rw[cU,jG]at c;obtain⟨v,f,rfl⟩:=c;rw[<-Of,jX h.1];exact DS h (e v (au f))
def nG(f:Nat)(d:List Value)(m:E)(c:List Nat)(Q:Bk->Prop):Prop:=aM cq f d m λv a=>∃s b,v=.agg #[O.v s,vi b.aT]/\eN (bP c a) s b.ap/\Q b/\J m a
def nG.aK{g:List Value}{l:List Nat}{Q:Bk->Prop}(k:nG f g m c Q)(h:J a m)(q:∀d∈l,d<a.size)(p:∀s d b,eN (bP c b) s d.ap->Q d->J m b->J a b->K (.agg #[O.v s,vi d.aT]) b):aM cq f g m λv b=>dY l m b/\K v b:=
 k.mono λ_ b⟨s,d,j,n,r,e⟩=>⟨e.dv λi o=>h.lt (q i o),j▸p s d b n r e (h.trans e)⟩
def KC(f:Nat)(d:List Value)(m:E)(c:List Nat)(Q:cV->Prop):Prop:=aM cq f d m λv b=>∃a k x,v=pA x a k/\ar (bP c b) a x.args/\nP (bP c b) k x.bE/\Q x/\J m b
def KC.aK{e:List Value}{l:List Nat}{Q:cV->Prop}(j:KC f e m c Q)(g:J a m)(s:∀b∈l,b<a.size)(r:∀p k x b,ar (bP c b) p x.args->nP (bP c b) k x.bE->Q x->J m b->J a b->K (pA x p k) b):aM cq f e m λv b=>dY l m b/\K v b:=
 j.mono λ_ b⟨p,k,x,i,n,o,t,d⟩=>⟨d.dv λh q=>g.lt (s h q),i▸r p k x b n o t d (g.trans d)⟩
def bT{b:E}(e:∀a∈c,a<m.size)(i:m.size<=b.size){d:Nat}(g:d<b.size):∀a∈d::c,a<b.size:=λa f=>by
 rcases List.mem_cons.1 f with h|h
 .omega
 .have:=e a h;omega
structure ZX(ds:List bz)(g:Nat)(v lo la:List Int)(b:Bk):Prop where
 aR:∀o∈lo,0<=o/\o<(v.length:Int)
 Yh:lo.length+5*b.w<=500
 Yg:la.length+1000*b.w<=1000000
 vN:v.length+5*b.w<=1000000
 wb:WB ds g False v.length b
def Xk(a:List bz)(d:List gP)(b:Bk):Prop:=∀(c:List Nat)(m:E),(∀e∈c,e<m.size)->∀(g r k t j e:O)(v i h:List Int),eK m g r a d->ar m k v->eN m t b.ap->ar m j i->ar m e h->ZX a d.length v i h b->
 nG 256 [.agg #[O.v g,O.v r],O.v k,.agg #[O.v t,vi b.aT],O.v j,O.v e] m c λf=>WB a d.length True v.length f/\f.w+1050<=1100*b.w
structure ZW(ds:List bz)(g:Nat)(v fl lo la:List Int)(b:Bk):Prop where
 aR:∀o∈lo,0<=o/\o<(v.length:Int)
 fl3:fl.length<=3
 Yh:lo.length+3+5*b.w<=500
 Yg:la.length+1000*b.w<=1000000
 vN:v.length+3+5*b.w<=1000000
 wb:WB ds g False (v.length+fl.length) b
def JS(hS:∀a∈c,a<m.size){ao G aV aN az bm a5:O}{ds:List bz}{rs:List gP}{P L lo la:List Int}{i:Bk}(hn:eK m ao G ds rs)(hv:ar m aV P)(hf:ar m aN L)(hs:eN m az i.ap)(u:ar m bm lo)(bd:ar m a5 la)
 (hp:ZW ds rs.length P L lo la i)(ih:Xk ds rs i):nG 322 [.agg #[O.v ao,O.v G],O.v aV,O.v aN,.agg #[O.v az,vi i.aT],O.v bm,O.v a5] m c λq=>WB ds rs.length True (P.length+L.length) q/\q.w<=1100*i.w:=by
 apply CF
 simp -zeta only[aC,aB]
 intro d p C
 let⟨w,t,s0,s1,s2⟩:=qB (a:=d) (b:=p) (c:=C) rfl rfl rfl
 clear_value C
 have b6:=hv.len;have bw:=hf.len;have bD:=u.len;have bS:=hp.fl3;have bQ:=i.Hm;have bV:=hp.Yh;have b5:=hp.vN;have bU:=hp.Yg
 refine(eM (S:=[]) aL (hv.le (w.le.trans (Al _))) (hf.le (w.le.trans (Al _))) V).aK (J.aA C) t λaK _ b9 gi g x3 _=>⟨_,rfl,?_⟩
 subst g
 refine(DE (S:=[]) aL (hs.le (w.trans x3).le) _ V).aK x3 t λbI ul F hu b4 x4 H=>⟨_,rfl,?_⟩
 intro m5 m6
 have bh:ar F bI ul:=hu.le (bG _ _)
 have bq:J F m6:=(J.push F _).trans (J.push m5 _)
 have u6:=H.trans bq
 have s5:m5.size=F.size+1:=by simp[m5]
 have gm:GI c F m6 (.mk F.size 0 0 0) []:=(GI.nil c F).ext (J.push m5 _)
 have gd:GI c F m6 (.mk m5.size 0 0 0) []:=(GI.nil c m5).cv (λ_ r=>r) V
 clear_value m6
 have z4:=H.size
 refine xw (n:=lo.length) (bD▸u.iC) (λae h sd M=>J F M/\∃U I,GI c F M h U/\GI c F M sd I/\h.D≠sd.D/\(∀o∈U,o∈lo)/\(∀o∈I,o∈lo)/\U.length<=ae/\I.length<=ae) ⟨bq,[],[],gm,gd,bJ,aL,aL,ad _,ad _⟩ ?_
 rintro ae h sd m7 br μ hk ⟨x7,U,I,gm,gd,bf,a1,a0,cm,cd⟩ bl
 have u7:=H.trans x7
 have v7:=w.trans u7
 refine dit (λr=>?_) λr=>?_
 .let⟨j,hy⟩:=cK lo ae
  have B:=au hy
  have A:∀M,J m7 M->jM (M.push (.cells (bA [.i j]) aD)) aD [.i 0] 8 h (.mk M.size 0 1 1) λN m'=>dY [p.size,d.size,m.size] (M.push (.cells (bA [.i j]) aD)) m'/\br N sd (cR ((ae:Int)+1)) m'/\μ N sd (cR ((ae:Int)+1)) m'<μ h sd ae m7:=λM aa=>
   GI.SD (gm.ext aa) (gd.ext aa) bf ((x7.trans aa).fz []) V λG m' z g' k f=>⟨J.oQ ((u7.trans aa).aH _) (H.trans f.ext) t,bl V _ _ _ ⟨f.ext,_,_,z,g',k,pd a1 B,a0,bJ,V⟩⟩
  refine⟨V,V,j,(u.ext v7).aG hy,?_⟩
  refine(dw (bh.ext x7) j).any.aK u7 t λa m8 v b=>⟨_,rfl,λ_=>⟨V,V,j,(u.ext (w.trans b)).aG hy,A m8 v⟩,λ_=>⟨V,V,j,(u.ext (w.trans b)).aG hy,?_⟩⟩
  refine(dw (bd.ext (w.trans b)) j).any.aK b t λa y Q u9=>⟨_,rfl,λ_=>⟨V,V,j,(u.ext (w.trans u9)).aG hy,A y (v.trans Q)⟩,λ_=>⟨V,V,j,(u.ext (w.trans u9)).aG hy,?_⟩⟩
  intro a6
  have aa:=v.trans Q
  exact GI.SD (gd.ext aa) (gm.ext aa) bf.symm ((x7.trans aa).fz []) V λG m' z g' k f=>⟨J.oQ ((u7.trans aa).aH _) (H.trans f.ext) t,bl V _ _ _ ⟨f.ext,_,_,g',z,k.symm,a1,pd a0 B,V,bJ⟩⟩
 have cm:U.length<=lo.length:=V
 have cd:I.length<=lo.length:=V
 intro m8
 have bX:=gm.bh
 have bR:=gd.bh
 refine dV (n:=L.length) (bw▸hf.iC) (λae s M=>J m7 M/\∃l,GI c m7 M s l/\(∀o∈l,0<=o/\o<((P.length+L.length:Nat):Int))/\l.length<=ae) ⟨J.push _ _,[],GI.nil c m7,aL,ad _⟩ ?_
 rintro bi su y I2 μ2 hj ⟨Q,A,gu,ap,cu⟩ a8
 have u9:=u7.trans Q
 have v9:=w.trans u9
 refine dit (λh2=>?_) λh2=>?_
 .let⟨j,hy⟩:=cK L bi
  refine⟨V,V,j,(hf.ext v9).aG hy,λ_=>?_,λ_=>a8 V _ _ ⟨Q,A,gu,ap,V⟩⟩
  rw[aP (b:=(aV.len:Int)+bi) V V]
  refine(dw ((bh.ext x7).ext Q) _).any.aK u9 t λa a6 ak aU=>⟨_,rfl,λ_=>?_,λ_=>a8 V _ _ ⟨Q.trans ak,A,gu.ext ak,ap,V⟩⟩
  intro bj
  refine GI.kL (gu.ext ak) ((Q.trans ak).fz []) (λa b=>aO (hS a b) (w.trans u7).size) V λG m' z f am Z=>⟨J.oQ ((u9.trans ak).aH _) (u7.trans f.ext) t,a8 V _ _ ⟨f.ext,_,z,λo u=>?_,bJ⟩⟩
  rcases List.mem_append.1 u with u|u
  .exact ap o u
  .simp at u;omega
 have b3:=gu.bh
 have aZ:=gm.ext Q
 have bu:∀{M:E},J C M->∀a∈p.size::c,a<M.size:=λr=>bT hS (w.trans r).size (r.lt (t _ aL))
 have aI:∀{M:E},J C M->h.D<M.size->∀a∈h.D::p.size::c,a<M.size:=λr T a b=>by
  rcases List.mem_cons.1 b with g|g
  .omega
  .exact bu r a g
 refine(eV (c:=h.D::p.size::c) (aI u9 aZ.bh.2) 14 ((gu.done (S:=c) (λa b=>aO (hS a b) (w.trans u7).size) V).le (bG _ _)) V).aK u9 t λs1 _ a6 g1 g ak aU=>⟨_,rfl,?_⟩
 subst g
 have a3:h.D<a6.size:=ak.lt aZ.bh.2
 refine(eV (c:=s1.D::h.D::p.size::c) (λa b=>?_) 15 ((((gd.done (S:=c) (λa b=>aO (hS a b) (w.trans H).size) V).le (bG _ _)).ext Q).ext ak) V).aK aU t λs2 _ bj g2 g aW bH=>⟨_,rfl,?_⟩
 .rcases List.mem_cons.1 b with g|g
  .have:=g1.bh;omega
  .exact aI aU a3 a g
 subst g
 have bW:h.D<bj.size:=aW.lt a3
 have bZ:=(g1.ext gQ.mono aW).bh
 have e2:=g2.nQ gQ.mono (λb=>by
  have hy:=g2.bh;rcases List.mem_cons.1 b with g|g
  .have:=g1.bh;omega
  .have:=aI aU a3 _ g;omega) be bJ
 refine GS.all (g1.ext gQ.mono aW) ((ak.trans aW).fz []) e2 bJ λB N g3 f3 z3 q3=>⟨J.oQ bH (u9.trans f3.ext) t,?_⟩
 have al:J y N:=f3.ext
 have aA:=u9.trans al
 have ca:=w.trans aA
 have MG:WL ds rs.length True (P.length+L.length) (A.map (eZ 14)++I.map (eZ 15)):=by
  refine(sg V ap).append ?_;rw[jX V];refine sg V λo u=>?_;have:=hp.aR o (a0 o u);omega
 have bo:dc (A.map (eZ 14)++I.map (eZ 15))=0:=by rw[cW,jX V,jX V]
 have b_:sw (A.map (eZ 14)++I.map (eZ 15))<=1006:=by rw[dD,oJ,oJ];omega
 have bb:GI c F N h U:=(gm.ext Q).ext al
 have bC:B.D≠h.D:=g3.Lu bb be
 have aG:∀{M j:E},J C M->J C j->∀i∈[p.size,d.size,m.size],∀o,af j i o=af M i o:=λr h' i T o=>aJ (by rw[h'.same i (t i T),r.same i (t i T)]) o
 have E4:∀{M j:E},J C M->J C j->∀{av:Prop},av->af j d.size 0=af M d.size 0/\af j d.size 1=af M d.size 1/\af j m.size 0=af M m.size 0/\af j m.size 1=af M m.size 1/\av:=λr h' _ hp=>⟨aG r h' _ aL _,aG r h' _ aL _,aG r h' _ aL _,aG r h' _ aL _,hp⟩
 have F4:∀{M:E},Fz [h.D] y M->J F M:=λr=>Fz.ext ((((x7.trans Q).fz [h.D]).trans r).DH λi T=>Or.inr (by simp at T;omega))
 have b2:h.D<y.size:=aZ.bh.2
 have z3:=x3.size
 have tail:∀(M:E)(k:Nat)(ss:O)(q:Bk),GS (k::h.D::p.size::c) y M B (A.map (eZ 14)++I.map (eZ 15))->Fz [h.D] y M->y.size<=k->k<M.size->k≠B.D->eN (bP (k::B.D::h.D::p.size::c) M) ss q.ap->WB ds rs.length True (P.length+L.length) q/\q.w+1050<=1100*i.w->
  let R:E:=ag M k 0 [.s ss,.i q.aT]
  jM R gA [.i 0,.i 0,.i 0,.s .nil,.s .nil] 72 B ss λay M2=>dY [k,p.size,d.size,m.size] R M2/\af M2 k 1=af R k 1/\
   let M3:E:=ag M2 p.size 0 [.s ay,.i q.aT]
   ∃s ab,Value.agg #[O.v ay,vi q.aT]=.agg #[O.v s,vi ab.aT]/\eN (bP c M3) s ab.ap/\(WB ds rs.length True (P.length+L.length) ab/\ab.w<=1100*i.w)/\J m M3:=by
  intro M k ss q z ac bv bN bg aq a4 R
  have cb:R.size=M.size:=aw _ _ _ _
  have hy:=z.bh
  have bE:eN (bP (B.D::h.D::p.size::c) R) ss q.ap:=aq.le (cB aL λa b=>ai _ b)
  have bO:=Bk.mz q
  have b0:=fY q.ap
  have hF:=F4 ac
  have zF:=hF.size
  have z9:=ac.size
  have g1:GS (h.D::p.size::c) y R B _:=z.re gQ.mono (Y:=[k]) ((Fz.aA [k] M).ag (Or.inl aL) _ _) aL (by simpa using kH bg) λa b=>Or.inl (ai _ b)
  have f1:Fz [h.D] y R:=ac.ag (Or.inr bv) _ _
  have hw:=a4.2
  refine GS.all g1 f1 bE bJ λG M2 g2 f am Z=>⟨λa b=>?_,aJ (Z k V bg) _,?_⟩
  .simp at b
   refine Z a ?_ ?_<;>rcases b with rfl|rfl|rfl|rfl<;>omega
  intro M3
  have bK:J m M2:=Fz.ext (((v9.fz [h.D]).trans f).DH λi T=>Or.inr (by simp at T;omega))
  have b7:=g2.bh
  have h5:=g2.nQ gQ.mono (λb=>by
   rcases List.mem_cons.1 b with g|g
   .omega
   .rcases List.mem_cons.1 g with g|g
    .omega
    .have:=hS _ g;omega) be bJ
  refine⟨G,.mk _ q.aT,rfl,eN.le (cB aL λa b=>ai _ (ai _ b)) h5,⟨WB.of (MG.append ?_) ?_,?_⟩,bK.ag V _ _⟩
  .rw[bo];exact a4.1.aW.1
  .rw[cW,bo,cE];exact a4.1.aW.2
  .rw[Bk.qQ,dD];omega
 have aR:∀(M:E)(e:List Nat)(K:O->E->Prop),J N M->GS e y M B (A.map (eZ 14)++I.map (eZ 15))->h.D∈e->(∀G j,GI c F j G (U++A)->GS e y j B (A.map (eZ 14)++I.map (eZ 15))->Fz [h.D] y j->M.size<=j.size->(∀i,i<M.size->i≠h.D->j[i]? =M[i]?)->K G j)->jM M aD [.i 0] 8 h su K:=by
  intro M e K hx z bB hK;have bF:ar (bP (h.D::c) M) su A:=by
   refine ar.le ((al.trans hx).dg _) (Gr.nQ (S:=h.D::c) um.mono gu.any (λb=>?_) be V);rcases List.mem_cons.1 b with g|g
   .omega
   .have:=hS _ g;have:=w.size;omega
  exact GI.all (bb.ext hx) ((((x7.trans Q).trans al).trans hx).fz []) (λa b=>aO (hS a b) (w.trans H).size) bF V λG j g' f am Z=>hK G j g' (z.NJ gQ.mono (Y:=[h.D]) ⟨am.1,λi T hn=>Z i T (by simpa using hn)⟩ (by simpa using bB) (by simpa using bC)) (((al.trans hx).fz [h.D]).trans ⟨am.1,λi T hn=>Z i T (by simpa using hn)⟩) am.1 Z
 have D:∀(M:E)(e:List Nat)(mn ah:O)(v:List Int),(∀a∈e,a<M.size)->Fz [h.D] y M->ar M mn (U++A)->ar M ah v->pF la v->nG 256 [.agg #[O.v ao,O.v G],O.v aK,.agg #[O.v az,vi i.aT],O.v mn,O.v ah] M e λq=>WB ds rs.length True (P.length+L.length) q/\q.w+1050<=1100*i.w:=by
  intro M e mn ah v bt ac h1 h2 h3;have hF:=F4 ac;have hm:=(w.trans H).trans hF;have bx:ar M aK (P++L):=(((gi.done aL bJ).le (bG _ _)).ext x4).ext hF;have:=ih e M bt ao G aK az mn ah (P++L) (U++A) v (hn.le hm.le) bx (hs.le hm.le) h1 h2 ⟨λo u=>?_,bJ,oh h3.2,bJ,by simpa using hp.wb⟩
  .simpa using this
  .simp;rcases List.mem_append.1 u with u|u
   .have:=hp.aR o (a1 o u);omega
   .have:=ap o u;omega
 have b8:=al.size
 have b1:h.D<N.size:=V
 have bY:B.D<N.size:=g3.bh.2
 have bc:∀{M:E},J C M->N.size<=M.size->∀a∈B.D::h.D::p.size::c,a<M.size:=λr hz a b=>by
  rcases List.mem_cons.1 b with g|g
  .omega
  .exact aI r V a g
 have iy:∀(M:E)(k:Nat)(mn ah:O)(v:List Int),GS (k::h.D::p.size::c) y M B (A.map (eZ 14)++I.map (eZ 15))->Fz [h.D] y M->N.size<=k->k<M.size->ar M mn (U++A)->ar M ah v->pF la v->
  aM cq 256 [.agg #[O.v ao,O.v G],O.v aK,.agg #[O.v az,vi i.aT],O.v mn,O.v ah] M λrv j=>dY [k,p.size,d.size,m.size] M j/\∃a9:O,∃aT:Int,rv=.agg #[O.v a9,vi aT]/\
   let R:E:=ag j k 0 [.s a9,.i aT]
   jM R gA [.i 0,.i 0,.i 0,.s .nil,.s .nil] 72 B a9 λay M2=>dY [k,p.size,d.size,m.size] R M2/\af M2 k 1=af R k 1/\
    let M3:E:=ag M2 p.size 0 [.s ay,.i aT]
    ∃s ab,Value.agg #[O.v ay,vi aT]=.agg #[O.v s,vi ab.aT]/\eN (bP c M3) s ab.ap/\(WB ds rs.length True (P.length+L.length) ab/\ab.w<=1100*i.w)/\J m M3:=by
  intro M k mn ah v z ac h1 h2 h3 h4 h5
  have hM:J C M:=H.trans (F4 ac)
  refine(D M (k::B.D::h.D::p.size::c) mn ah v (λa b=>?_) ac h3 h4 h5).aK (J.aA M) (λa b=>?_) λss q j aq hq hx _=>⟨_,_,rfl,tail j k ss q (z.ext gQ.mono hx) (ac.then hx) V (hx.lt h2) V aq hq⟩
  .rcases List.mem_cons.1 b with g|g
   .omega
   .exact bc hM V a g
  .rcases List.mem_cons.1 b with g|g
   .omega
   .exact hM.lt (t a g)
 have aS:∀(M:E)(o:Obj),GS (h.D::p.size::c) y M B (A.map (eZ 14)++I.map (eZ 15))->GS (M.size::h.D::p.size::c) y (M.push o) B (A.map (eZ 14)++I.map (eZ 15)):=λM o z=>
  z.re gQ.mono (Y:=[]) ((J.push M o).fz []) aL aL λa b=>by
   rcases List.mem_cons.1 b with g|g
   .exact Or.inr V
   .exact Or.inl g
 have bM:Fz [h.D] y N:=al.fz _
 have aY:∀(M:E)(aX:List Nat)(K:Value->E->Prop),J C M->(∀a∈aX,a<M.size)->(∀s v j,ar j s v->pF la v->J M j->K (O.v s) j)->aM cq 337 [O.v a5,vi (aV.len:Int)] M λP m'=>dY aX M m'/\K P m':=λM aX K hM hL hK=>
  (OX (S:=[]) aL (bd.le ((w.trans hM).le.trans (Al _))) _ V).aK (J.aA M) hL λs v j z av aa _=>hK s v j ((z.done aL (oh av.2)).le (bG _ _)) av aa
 have aH:∀{M:E}{s:O},GI c F M s (U++A)->ar M s (U++A):=λz=>(z.done (λa b=>aO (hS a b) (w.trans H).size) bJ).le (bG _ _)
 have a2:∀{M:E}{k:Nat},J C M->k<M.size->∀a∈[k,p.size,d.size,m.size],a<M.size:=λr T a b=>by
  rcases List.mem_cons.1 b with g|g
  .omega
  .exact r.lt (t a g)
 refine⟨aR N _ _ (J.aA _) g3 aL λax aQ ga gs X am Z=>⟨λa b=>Z a (aA.lt (t a b)) (oh (t a b)),E4 aA (H.trans (F4 X)) ⟨?_,?_⟩⟩,?_⟩
 .have aj:=H.trans (F4 X)
  refine aY aQ _ _ aj (λa b=>aj.lt (t a b)) λan v aF ba bn W=>⟨_,rfl,E4 aj (aj.trans W) ⟨?_,?_⟩⟩
  .have aE:=aj.trans W
   have bL:=W.size
   refine(D aF (B.D::h.D::p.size::c) ax an v (bc aE V) (X.then W) ((aH ga).ext W) ba bn).aK aE t λss q a7 aq hq a_ bp=>⟨_,_,rfl,?_⟩
   intro bk
   have cc:=a_.size
   have bs:=(X.then W).then a_
   exact E4 bp (bp.aH _) (tail bk a7.size ss q (aS a7 _ ((gs.ext gQ.mono W).ext gQ.mono a_)) (bs.push _) V (by simp[bk]) V (aq.le (tA (J.push a7 _) (ad _))) hq)
  .intro a7
   have bL:=W.size
   have aE:=aj.trans W
   exact E4 aE (aE.aH _) (iy a7 aF.size ax an v (aS aF _ (gs.ext gQ.mono W)) ((X.then W).push _) V (by simp[a7]) (((aH ga).ext W).ext (J.push _ _)) (ba.ext (J.push _ _)) bn)
 .intro W
  have aj:=H.trans (F4 X)
  have aE:J C W:=aj.aH _
  have a7:J aQ W:=J.push _ _
  refine E4 aj aE (aY W _ _ aE (a2 aE (by simp[W])) λan v ba a_ bk aF=>⟨_,rfl,E4 aE (aE.trans aF) ?_⟩)
  exact iy ba aQ.size ax an v ((aS aQ _ gs).ext gQ.mono aF) ((X.then a7).then aF) V (aF.lt (by simp[W])) (((aH ga).ext a7).ext aF) a_ bk
 .intro W
  have aF:J C W:=aA.aH _
  have bn:J N W:=J.push _ _
  refine E4 aA aF (aR W _ _ bn (aS N _ g3) aL λax a_ ga gs X am Z=>⟨λa b=>Z a (a2 aF (by simp[W]) a b) ?_,E4 aF (H.trans (F4 X)) ?_⟩)
  .rcases List.mem_cons.1 b with g|g
   .omega
   .have:=t a g;omega
  have aE:=H.trans (F4 X)
  have bp:W.size=N.size+1:=by simp[W]
  refine aY a_ _ _ aE (a2 aE V) λan v ba a7 bk aj=>⟨_,rfl,E4 aE (aE.trans aj) ?_⟩
  exact iy ba N.size ax an v (gs.ext gQ.mono aj) (X.then aj) (ad _) (aj.lt V) ((aH ga).ext aj) a7 bk
end
end Go.Proofs.YtkoifinbblcbiaaGreat
