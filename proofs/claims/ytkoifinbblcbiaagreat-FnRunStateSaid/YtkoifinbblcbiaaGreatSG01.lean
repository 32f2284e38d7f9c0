/- Part of a proof. -/
import Derived.Test.YtkoifinbblcbiaaGreatSG00
set_option linter.all false
set_option maxHeartbeats 8000000
set_option maxRecDepth 100000
namespace Go.Proofs.YtkoifinbblcbiaaGreat
open Go.Vc
section
open Tryz
variable{m:E}{R:Value->E->Prop}
variable{a b p d e f g h r u v w x y z B:O}{i j k l q o s t C D F G H I J K:Int}
def CE(p:Nat×Nat):=cX m R A0 [p] func167
def zn(p:Nat×Nat):=cX m R A0 [p,.agg [i,j,k,l,a,b]] func168
def rI(a:O):=cX m R A0 [a,i] func169
def Ab(i:Int):=cX m R A0 [i] func170
def nL(e:Nat×Nat)(i:Int)(n:Int)(c:O)(m:E)(R:Value->E->Prop):Prop:=
 let k:E:=m.push (.cells (bt [.i i,.i n,.s c]) 46)
 ML m.size m.size (
 ((i==(1:Int))=true->
 R (vb true) k)/\
 ((i==(1:Int))=false->
 let v:E:=k.push (.map #[] 0)
 ML m.size m.size (
 ∃(o:Int->E->Prop)(μ0:Int->E->Nat),
 o (0:Int) v/\
 (∀(b:Int)(f:E),o b f->
 ((decide (b<(c.len:Int)))=true->
 (0:Int)<=b/\b<(c.len:Int)/\
 ∃t:Int,af f c.D (c.off+Int.toNat b*1)=some (vi t)/\
 ∃u:O,af f e.1 (e.2+3+5)=some (O.v u)/\
 aN cq 153 [O.v u,vi t] f λw g=>
 eF [m.size] f g/\
 ∃d:Int,∃q:Bool,w=.tuple #[vi d,vb q]/\
 (q=true->
 ∃l,DH g k.size l/\
 ∃s,DH g k.size s/\
 ∀a:E,DH a k.size (JU s d (cO ((vr l d)+(1:Int))))->a.size=g.size->(∀j,j≠k.size->a[j]? =g[j]?)->
 eF [m.size] g a/\
 ∃h:O,af a e.1 (e.2+3+5)=some (O.v h)/\
 (0:Int)<=d/\d<(h.len:Int)/\
 ∃r:Int,af a h.D (h.off+Int.toNat d*3)=some (vi r)/\
 ∃p,DH a k.size p/\
 af a h.D (h.off+Int.toNat d*3)=af a h.D (h.off+Int.toNat d*3)/\
 af a e.1 (e.2+3+5)=af a e.1 (e.2+3+5)/\
 ((decide ((cO (r+(vr p d)))>(999999:Int)))=true->
 R (vb false) a)/\
 ((decide ((cO (r+(vr p d)))>(999999:Int)))=false->
 Xc (SV.box m.size 46 [.i i,.i n,.s c]) (SV.box m.size 46 [.i i,.i n,.s c]) (
 o (cO (b+(1:Int))) a/\μ0 (cO (b+(1:Int))) a<μ0 b f)))/\
 (q=false->
 Xc (SV.box m.size 46 [.i i,.i n,.s c]) (SV.box m.size 46 [.i i,.i n,.s c]) (
 o (cO (b+(1:Int))) g/\μ0 (cO (b+(1:Int))) g<μ0 b f)))/\
 ((decide (b<(c.len:Int)))=false->
 R (vb true) f)))))
def sP(a:Nat×Nat)(b:Int)(d:Int)(e:O)(m:E)(R:Value->E->Prop)(f:nL a b d e m R):aN cq 171 [vp a.1 a.2,.agg #[vi b,vi d,O.v e]] m R:=
 yf (o:=⟨[(5,[(17,.I)])],[],[(5,[54])]⟩) (d:=51) (r:=[.tmp 4]) (a:=[.c (.p a.1 a.2),.agg [.i b,.i d,.s e]]) Pj Zm Zn Tryz.func171 (m:=OB Tryz.f171) (by kernel_rfl) (by kernel_rfl) (by kernel_rfl) (by kernel_rfl) aL (by kernel_rfl) (Eq.mp (by kernel_rfl) f)
def tI(a:O):=cX m R ⟨[(4,[(13,.I)])],[],[]⟩ [a,b] func172
def yO(a:O):=cX m R ⟨[(3,[(3,.S),(8,.I)])],[],[]⟩ [a] func173
def JR(i:Int):=cX m R A0 [i,j,k] func174
def yM(p:Nat×Nat):=cX m R A0 [p,i,a] func175
def Af(p:Nat×Nat):=cX m R ⟨[(1,[(2,.I)])],[],[]⟩ [p] func176
def GY(a:O):=cX m R A0 [a,i] func177
def AE(a:O):=cX m R ⟨[(2,[(5,.I)])],[],[]⟩ [a,b] func178
def EH(i:Int):=cX m R A0 [i] func179
def sj(p:Nat×Nat):=cX m R ⟨[(2,[(5,.I)]),(6,[(6,.I),(7,.I)])],[],[]⟩ [p,a] func180
def zj(a:O):=cX m R ⟨[(3,[(3,.S),(4,.I)])],[],[]⟩ [a] func181
def Dm(a:O):=cX m R ⟨[(4,[(5,.I)])],[],[]⟩ [a,b] func182
def Fo(i:Int):=cX m R ⟨[(3,[(5,.S),(6,.I)])],[],[(3,[28])]⟩ [.agg [i,j,k,a,b,p],d] func183
def Iw(i:Int):=cX m R A0 [i] func184
end
section
open Tryz
variable{m:E}{R:Value->E->Prop}
variable{a b c d e f g h p q r u v w x y:O}{i j k l n o s t z A B C D F G H:Int}
def AW(a:O):=cX m R ⟨[(2,[(3,.I)])],[],[]⟩ [a] func185
def IZ(a:O):=cX m R A0 [a,i,j,b] func186
def uS(a:O):=cX m R A0 [a,b] func187
def uy(p:Nat×Nat):=cX m R A0 [p,i] func188
def Kq(a:O):=cX m R ⟨[(2,[(3,.I)])],[],[]⟩ [a] func189
def rP(p:Nat×Nat):=cX m R ⟨[(3,[(7,.S),(8,.I)])],[],[(3,[42])]⟩ [p,.agg [i,j,k,l,a,b],c] func190
def Jc(i:Int):=cX m R A0 [i] func191
def yJ(a:O):=cX m R ⟨[(4,[(14,.I)]),(9,[(56,.I)]),(15,[(76,.I)])],[(8,[])],[(8,[110]),(9,[110]),(15,[110])]⟩ [a] func192
def Ct(a:O):=cX m R ⟨[(2,[(9,.I)])],[],[]⟩ [a,b] func193
def Ge(a:O):=cX m R A0 [a,i] func194
def Cw(a:O):=cX m R A0 [a,i] func195
def Ai(a:O):=cX m R A0 [a,i] func196
def BE(a:O):=cX m R ⟨[(6,[(6,.I)]),(12,[(7,.I)])],[],[(6,[105]),(12,[105])]⟩ [a,i] func197
def EE(a:O):=cX m R ⟨[(2,[(5,.I)])],[],[]⟩ [a,i] func198
def rJ(a:O):=cX m R A0 [a,i] func199
def Dj(a:O):=cX m R A0 [.agg [a,b],i,j,k] func200
def zw(a:O):=cX m R ⟨[(4,[(9,.I)])],[],[]⟩ [a,i,j,k] func201
def AM(a:O):=cX m R ⟨[(3,[(3,.S),(4,.I)]),(7,[(5,.S),(6,.I)])],[],[]⟩ [a] func202
end
section
open Tryz
variable{m:E}{R:Value->E->Prop}
variable{a b c d e f g h p q r u v w x y:O}{i j k l n o s t z A B C D F G H:Int}
def xQ(i:Int):=cX m R ⟨[(3,[(5,.S),(6,.I)])],[],[]⟩ [i,j] func203
def vv(p:Nat×Nat):=cX m R ⟨[(2,[(3,.S),(4,.S),(10,.I)])],[(17,[])],[(2,[104,103]),(17,[108,104,103])]⟩ [p,.agg [a,b],.agg [c,i],d,e] func204
def xG(p:Nat×Nat):=cX m R A0 [p,.agg [i,j,k,l,a,b]] func205
def G9(a:O):=cX m R ⟨[(3,[(5,.I),(6,.I)]),(7,[(5,.I),(7,.I)])],[],[]⟩ [a,i] func206
def xz(p:Nat×Nat):=cX m R A0 [p] func207
def J4(p:Nat×Nat):=cX m R ⟨[(9,[(10,.S),(11,.I)])],[],[(9,[108,106,105])]⟩ [p,.agg [a,b]] func208
def AJ(a:O):=cX m R ⟨[(3,[(4,.I)])],[],[(3,[38,37])]⟩ [.agg [a,b]] func209
def xV(a:O):=cX m R ⟨[(3,[(4,.I)])],[],[(3,[40,39])]⟩ [.agg [a,b]] func210
def Hb(a:O):=cX m R ⟨[(3,[(4,.I)])],[],[(3,[40,39])]⟩ [.agg [a,b]] func211
def Dt(a:O):=cX m R ⟨[(3,[(3,.S),(4,.I)])],[],[]⟩ [a] func212
def rL(i:Int):=cX m R A0 [.agg [i,j,k,l,a,b]] func213
def AX(p:Nat×Nat):=cX m R A0 [p] func214
def LV(a:O):=cX m R A0 [a] func215
def lX(s:O)(f:Fn×Array Value×Array Value):=cX m R ⟨[(2,[(8,.I)])],[],[]⟩ [s,.c (.fv f)] func216
def vX(i:Int):=cX m R A0 [.agg [i,j,a]] func217
def HR(a:O):=cX m R ⟨[(2,[(1,.I),(10,.I)])],[],[(2,[43])]⟩ [a,i] func218
def uo(p:Nat×Nat):=cX m R ⟨[(17,[(16,.S),(17,.S),(18,.I)]),(22,[(20,.I)]),(33,[(23,.I)])],[],[(17,[215,214]),(22,[215,214]),(33,[215,214])]⟩ [p,.agg [a,b],.agg [i,j,k,c,d],e,f] func219
def CX(a:O):=cX m R ⟨[(3,[(5,.S),(6,.I)])],[],[]⟩ [a,i] func220
end
section
open Tryz
variable{m:E}{R:Value->E->Prop}
variable{a b p d e f g h r u v w x y z B:O}{i j k l q o s t C D F G H I J K:Int}
def Bq(p:Nat×Nat):=cX m R A0 [p] func221
def EG(a:O):=cX m R ⟨[(3,[(4,.I)])],[],[(3,[38,37])]⟩ [.agg [a,b]] func222
def Ka(a:O):=cX m R ⟨[(3,[(4,.I)])],[],[(3,[41,40])]⟩ [.agg [a,b]] func223
def xJ(a:O):=cX m R ⟨[(5,[(9,.I)])],[],[(5,[67])]⟩ [.agg [a,b],i,j] func224
def wH(p:Nat×Nat):=cX m R ⟨[(1,[(1,.I)])],[],[]⟩ [p,i] func225
def EY(a:O):=cX m R A0 [.agg [a,i],j,.agg [k,l,q,b,p]] func226
def CR(i:Int):=cX m R A0 [i,j] func227
def xZ(a:O):=cX m R A0 [.agg [a,b],i,.agg [p,j]] func228
def Dv(a:O):=cX m R A0 [.agg [a,b,i,p,j],.agg [d,k]] func229
def xy(a:O):=cX m R ⟨[(4,[(3,.S),(4,.S),(5,.I)]),(13,[(7,.S),(8,.I)])],[],[(4,[74,73]),(13,[78,74,73])]⟩ [.agg [a,i]] func230
def wP(a:O):=cX m R ⟨[(3,[(2,.I),(8,.I)]),(9,[(10,.S),(12,.I)])],[],[(3,[113,111,110]),(9,[116,113,111,110])]⟩ [.agg [a,b],.agg [p,i],j] func231
def zl(a:O):=cX m R ⟨[(3,[(8,.I)]),(8,[(10,.S),(11,.I)])],[],[(3,[67,65,64]),(8,[70,67,65,64])]⟩ [.agg [a,b],.agg [p,i],d] func232
def Bu(a:O):=cX m R ⟨[(1,[(1,.I),(2,.I)])],[],[]⟩ [a,i,j] func233
def xF(p:Nat×Nat):=cX m R A0 [p,i] func234
def zC(a:O):=cX m R A0 [a,i,j] func235
def Bo(a:O):=cX m R ⟨[(3,[(4,.I)])],[(8,[(7,.P)])],[(3,[51,50]),(8,[54,51,50])]⟩ [.agg [a,b]] func236
def sE(r:Nat×Nat)(m:E)(R:Value->E->Prop):Prop:=
 let M:E:=m.push (.cells (bt [.s O.nil,.s O.nil]) 124)
 aN cq 214 [vp r.1 r.2] M λca b=>
 eF [m.size] M b/\
 ∃o:O,ca=O.v o/\
 let b7:E:=b.push (.cells (bt [.s O.nil,.s O.nil]) 124)
 ML b.size b.size (
 let aa:E:=ah b7 b.size 0 [.s o,.s O.nil]
 let aj:E:=aa.push (.cells (bt [.i (1:Int)]) 3)
 aN cq 250 [O.v (O.mk aa.size 0 1 1),vi (0:Int)] aj λcl F=>
 eF [b.size,m.size] aj F/\
 ∃ap:O,∃aI:Int,∃a0:Int,∃bg:Int,∃bz:O,cl=.agg #[O.v ap,vi aI,vi a0,vi bg,O.v bz]/\
 let an:E:=F.push (.cells (bt [.i (1:Int),.i (1:Int)]) 3)
 aN cq 250 [O.v (O.mk F.size 0 2 2),vi (1:Int)] an λct H=>
 eF [b.size,m.size] an H/\
 ∃aq:O,∃aS:Int,∃a9:Int,∃bh:Int,∃bA:O,ct=.agg #[O.v aq,vi aS,vi a9,vi bh,O.v bA]/\
 let ao:E:=H.push (.cells (bt [.i (1:Int)]) 3)
 aN cq 250 [O.v (O.mk H.size 0 1 1),vi (1:Int)] ao λcu I=>
 eF [b.size,m.size] ao I/\
 ∃aA:O,∃aT:Int,∃a_:Int,∃bp:Int,∃bI:O,cu=.agg #[O.v aA,vi aT,vi a_,vi bp,O.v bI]/\
 let N:E:=I.push (.cells (bt [.i (1:Int),.i (0:Int)]) 3)
 aN cq 250 [O.v (O.mk I.size 0 2 2),vi (1:Int)] N λcv t=>
 eF [b.size,m.size] N t/\
 ∃aB:O,∃aU:Int,∃ba:Int,∃bq:Int,∃bJ:O,cv=.agg #[O.v aB,vi aU,vi ba,vi bq,O.v bJ]/\
 let P:E:=t.push (.cells (bt [.i (2:Int),.i (1:Int)]) 3)
 aN cq 250 [O.v (O.mk t.size 0 2 2),vi (1:Int)] P λcw u=>
 eF [b.size,m.size] P u/\
 ∃aC:O,∃aV:Int,∃bb:Int,∃br:Int,∃bK:O,cw=.agg #[O.v aC,vi aV,vi bb,vi br,O.v bK]/\
 let Q:E:=u.push (.cells (bt [.i (1:Int),.i (1:Int)]) 3)
 aN cq 250 [O.v (O.mk u.size 0 2 2),vi (0:Int)] Q λcx a=>
 eF [b.size,m.size] Q a/\
 ∃aD:O,∃aW:Int,∃bc:Int,∃bs:Int,∃bL:O,cx=.agg #[O.v aD,vi aW,vi bc,vi bs,O.v bL]/\
 let S:E:=a.push (.cells (bt [.s ap,.i aI,.i a0,.i bg,.s bz,.s aq,.i aS,.i a9,.i bh,.s bA,.s aA,.i aT,.i a_,.i bp,.s bI,.s aB,.i aU,.i ba,.i bq,.s bJ,.s aC,.i aV,.i bb,.i br,.s bK,.s aD,.i aW,.i bc,.i bs,.s bL]) 175)
 let T:E:=S.push (.cells (bt [.i (3:Int)]) 3)
 aN cq 250 [O.v (O.mk S.size 0 1 1),vi (0:Int)] T λcb v=>
 eF [b.size,m.size] T v/\
 ∃aE:O,∃aX:Int,∃bd:Int,∃bu:Int,∃bM:O,cb=.agg #[O.v aE,vi aX,vi bd,vi bu,O.v bM]/\
 let U:E:=v.push (.cells (bt [.i (0:Int)]) 3)
 aN cq 250 [O.v (O.mk v.size 0 1 1),vi (1:Int)] U λcc w=>
 eF [b.size,m.size] U w/\
 ∃aF:O,∃aY:Int,∃be:Int,∃bv:Int,∃bN:O,cc=.agg #[O.v aF,vi aY,vi be,vi bv,O.v bN]/\
 let V:E:=w.push (.cells (bt [.i (0:Int),.i (1:Int)]) 3)
 aN cq 250 [O.v (O.mk w.size 0 2 2),vi (1:Int)] V λcd x=>
 eF [b.size,m.size] V x/\
 ∃aG:O,∃aZ:Int,∃bf:Int,∃bw:Int,∃bO:O,cd=.agg #[O.v aG,vi aZ,vi bf,vi bw,O.v bO]/\
 let W:E:=x.push (.cells (bt [.i (3:Int),.i (0:Int)]) 3)
 aN cq 250 [O.v (O.mk x.size 0 2 2),vi (3:Int)] W λce y=>
 eF [b.size,m.size] W y/\
 ∃aH:O,∃aJ:Int,∃a1:Int,∃bx:Int,∃bP:O,ce=.agg #[O.v aH,vi aJ,vi a1,vi bx,O.v bP]/\
 let X:E:=y.push (.cells (bt [.i (3:Int)]) 3)
 aN cq 250 [O.v (O.mk y.size 0 1 1),vi (1:Int)] X λcf z=>
 eF [b.size,m.size] X z/\
 ∃ar:O,∃aK:Int,∃a2:Int,∃bi:Int,∃bB:O,cf=.agg #[O.v ar,vi aK,vi a2,vi bi,O.v bB]/\
 let Y:E:=z.push (.cells (bt [.i (1:Int),.i (3:Int),.i (0:Int)]) 3)
 aN cq 250 [O.v (O.mk z.size 0 3 3),vi (0:Int)] Y λcg d=>
 eF [b.size,m.size] Y d/\
 ∃au:O,∃aL:Int,∃a3:Int,∃bj:Int,∃bC:O,cg=.agg #[O.v au,vi aL,vi a3,vi bj,O.v bC]/\
 let Z:E:=d.push (.cells (bt [.s aE,.i aX,.i bd,.i bu,.s bM,.s aF,.i aY,.i be,.i bv,.s bN,.s aG,.i aZ,.i bf,.i bw,.s bO,.s aH,.i aJ,.i a1,.i bx,.s bP,.s ar,.i aK,.i a2,.i bi,.s bB,.s au,.i aL,.i a3,.i bj,.s bC]) 175)
 let ab:E:=Z.push (.cells (bt [.i (0:Int)]) 3)
 aN cq 250 [O.v (O.mk Z.size 0 1 1),vi (0:Int)] ab λch A=>
 eF [b.size,m.size] ab A/\
 ∃av:O,∃aM:Int,∃a4:Int,∃bk:Int,∃bD:O,ch=.agg #[O.v av,vi aM,vi a4,vi bk,O.v bD]/\
 let ac:E:=A.push (.cells (bt [.i (0:Int),.i (0:Int)]) 3)
 aN cq 250 [O.v (O.mk A.size 0 2 2),vi (0:Int)] ac λci B=>
 eF [b.size,m.size] ac B/\
 ∃aw:O,∃aO:Int,∃a5:Int,∃bl:Int,∃bE:O,ci=.agg #[O.v aw,vi aO,vi a5,vi bl,O.v bE]/\
 let ad:E:=B.push (.cells (bt [.i (1:Int),.i (0:Int)]) 3)
 aN cq 250 [O.v (O.mk B.size 0 2 2),vi (0:Int)] ad λcj C=>
 eF [b.size,m.size] ad C/\
 ∃ax:O,∃aP:Int,∃a6:Int,∃bm:Int,∃bF:O,cj=.agg #[O.v ax,vi aP,vi a6,vi bm,O.v bF]/\
 let ae:E:=C.push (.cells (bt [.i (0:Int)]) 3)
 aN cq 250 [O.v (O.mk C.size 0 1 1),vi (1:Int)] ae λck j=>
 eF [b.size,m.size] ae j/\
 ∃ay:O,∃aQ:Int,∃a7:Int,∃bn:Int,∃bG:O,ck=.agg #[O.v ay,vi aQ,vi a7,vi bn,O.v bG]/\
 let ag:E:=j.push (.cells (bt [.s av,.i aM,.i a4,.i bk,.s bD,.s aw,.i aO,.i a5,.i bl,.s bE,.s ax,.i aP,.i a6,.i bm,.s bF,.s ay,.i aQ,.i a7,.i bn,.s bG]) 175)
 let ai:E:=ag.push (.cells (bt []) 3)
 aN cq 250 [O.v (O.mk ag.size 0 0 0),vi (0:Int)] ai λcm D=>
 eF [b.size,m.size] ai D/\
 ∃az:O,∃aR:Int,∃a8:Int,∃bo:Int,∃bH:O,cm=.agg #[O.v az,vi aR,vi a8,vi bo,O.v bH]/\
 aN cq 40 [vp r.1 r.2,vi ((O.mk a.size 0 6 6).len:Int)] D λcn k=>
 eF [b.size,m.size] D k/\
 ∃e:Int,cn=vi e/\
 (0:Int)<=e/\e<((O.mk a.size 0 6 6).len:Int)/\
 ∃bR:O,af k ((O.mk a.size 0 6 6).D) ((O.mk a.size 0 6 6).off+Int.toNat e*5)=some (O.v bR)/\
 ∃bS:Int,af k ((O.mk a.size 0 6 6).D) ((O.mk a.size 0 6 6).off+Int.toNat e*5+1)=some (vi bS)/\
 ∃bT:Int,af k ((O.mk a.size 0 6 6).D) ((O.mk a.size 0 6 6).off+Int.toNat e*5+2)=some (vi bT)/\
 ∃bU:Int,af k ((O.mk a.size 0 6 6).D) ((O.mk a.size 0 6 6).off+Int.toNat e*5+3)=some (vi bU)/\
 ∃bV:O,af k ((O.mk a.size 0 6 6).D) ((O.mk a.size 0 6 6).off+Int.toNat e*5+4)=some (O.v bV)/\
 aN cq 40 [vp r.1 r.2,vi ((O.mk d.size 0 6 6).len:Int)] k λco g=>
 eF [b.size,m.size] k g/\
 ∃i:Int,co=vi i/\
 af g ((O.mk a.size 0 6 6).D) ((O.mk a.size 0 6 6).off+Int.toNat e*5)=af k ((O.mk a.size 0 6 6).D) ((O.mk a.size 0 6 6).off+Int.toNat e*5)/\
 af g ((O.mk a.size 0 6 6).D) ((O.mk a.size 0 6 6).off+Int.toNat e*5+1)=af k ((O.mk a.size 0 6 6).D) ((O.mk a.size 0 6 6).off+Int.toNat e*5+1)/\
 af g ((O.mk a.size 0 6 6).D) ((O.mk a.size 0 6 6).off+Int.toNat e*5+2)=af k ((O.mk a.size 0 6 6).D) ((O.mk a.size 0 6 6).off+Int.toNat e*5+2)/\
 af g ((O.mk a.size 0 6 6).D) ((O.mk a.size 0 6 6).off+Int.toNat e*5+3)=af k ((O.mk a.size 0 6 6).D) ((O.mk a.size 0 6 6).off+Int.toNat e*5+3)/\
 af g ((O.mk a.size 0 6 6).D) ((O.mk a.size 0 6 6).off+Int.toNat e*5+4)=af k ((O.mk a.size 0 6 6).D) ((O.mk a.size 0 6 6).off+Int.toNat e*5+4)/\
 (0:Int)<=i/\i<((O.mk d.size 0 6 6).len:Int)/\
 ∃bW:O,af g ((O.mk d.size 0 6 6).D) ((O.mk d.size 0 6 6).off+Int.toNat i*5)=some (O.v bW)/\
 ∃bX:Int,af g ((O.mk d.size 0 6 6).D) ((O.mk d.size 0 6 6).off+Int.toNat i*5+1)=some (vi bX)/\
 ∃bY:Int,af g ((O.mk d.size 0 6 6).D) ((O.mk d.size 0 6 6).off+Int.toNat i*5+2)=some (vi bY)/\
 ∃bZ:Int,af g ((O.mk d.size 0 6 6).D) ((O.mk d.size 0 6 6).off+Int.toNat i*5+3)=some (vi bZ)/\
 ∃b0:O,af g ((O.mk d.size 0 6 6).D) ((O.mk d.size 0 6 6).off+Int.toNat i*5+4)=some (O.v b0)/\
 aN cq 40 [vp r.1 r.2,vi ((O.mk j.size 0 4 4).len:Int)] g λcp c=>
 eF [b.size,m.size] g c/\
 ∃n:Int,cp=vi n/\
 af c ((O.mk d.size 0 6 6).D) ((O.mk d.size 0 6 6).off+Int.toNat i*5)=af g ((O.mk d.size 0 6 6).D) ((O.mk d.size 0 6 6).off+Int.toNat i*5)/\
 af c ((O.mk d.size 0 6 6).D) ((O.mk d.size 0 6 6).off+Int.toNat i*5+1)=af g ((O.mk d.size 0 6 6).D) ((O.mk d.size 0 6 6).off+Int.toNat i*5+1)/\
 af c ((O.mk d.size 0 6 6).D) ((O.mk d.size 0 6 6).off+Int.toNat i*5+2)=af g ((O.mk d.size 0 6 6).D) ((O.mk d.size 0 6 6).off+Int.toNat i*5+2)/\
 af c ((O.mk d.size 0 6 6).D) ((O.mk d.size 0 6 6).off+Int.toNat i*5+3)=af g ((O.mk d.size 0 6 6).D) ((O.mk d.size 0 6 6).off+Int.toNat i*5+3)/\
 af c ((O.mk d.size 0 6 6).D) ((O.mk d.size 0 6 6).off+Int.toNat i*5+4)=af g ((O.mk d.size 0 6 6).D) ((O.mk d.size 0 6 6).off+Int.toNat i*5+4)/\
 af c ((O.mk a.size 0 6 6).D) ((O.mk a.size 0 6 6).off+Int.toNat e*5)=af g ((O.mk a.size 0 6 6).D) ((O.mk a.size 0 6 6).off+Int.toNat e*5)/\
 af c ((O.mk a.size 0 6 6).D) ((O.mk a.size 0 6 6).off+Int.toNat e*5+1)=af g ((O.mk a.size 0 6 6).D) ((O.mk a.size 0 6 6).off+Int.toNat e*5+1)/\
 af c ((O.mk a.size 0 6 6).D) ((O.mk a.size 0 6 6).off+Int.toNat e*5+2)=af g ((O.mk a.size 0 6 6).D) ((O.mk a.size 0 6 6).off+Int.toNat e*5+2)/\
 af c ((O.mk a.size 0 6 6).D) ((O.mk a.size 0 6 6).off+Int.toNat e*5+3)=af g ((O.mk a.size 0 6 6).D) ((O.mk a.size 0 6 6).off+Int.toNat e*5+3)/\
 af c ((O.mk a.size 0 6 6).D) ((O.mk a.size 0 6 6).off+Int.toNat e*5+4)=af g ((O.mk a.size 0 6 6).D) ((O.mk a.size 0 6 6).off+Int.toNat e*5+4)/\
 (0:Int)<=n/\n<((O.mk j.size 0 4 4).len:Int)/\
 ∃b1:O,af c ((O.mk j.size 0 4 4).D) ((O.mk j.size 0 4 4).off+Int.toNat n*5)=some (O.v b1)/\
 ∃b2:Int,af c ((O.mk j.size 0 4 4).D) ((O.mk j.size 0 4 4).off+Int.toNat n*5+1)=some (vi b2)/\
 ∃b3:Int,af c ((O.mk j.size 0 4 4).D) ((O.mk j.size 0 4 4).off+Int.toNat n*5+2)=some (vi b3)/\
 ∃b4:Int,af c ((O.mk j.size 0 4 4).D) ((O.mk j.size 0 4 4).off+Int.toNat n*5+3)=some (vi b4)/\
 ∃b5:O,af c ((O.mk j.size 0 4 4).D) ((O.mk j.size 0 4 4).off+Int.toNat n*5+4)=some (O.v b5)/\
 let b8:E:=c.push (.cells (bt [.s az,.i aR,.i a8,.i bo,.s bH,.s bR,.i bS,.i bT,.i bU,.s bV,.s bW,.i bX,.i bY,.i bZ,.s b0,.s b1,.i b2,.i b3,.i b4,.s b5]) 175)
 ML b.size b.size (
 let ak:E:=ah b8 b.size 1 [.s (O.mk c.size 0 4 4)]
 let al:E:=ak.push (.cells (bt [.i (4:Int),.i (4:Int),.i (3:Int),.i (2:Int),.i (4:Int)]) 3)
 aN cq 39 [vp r.1 r.2,O.v (O.mk ak.size 0 5 5)] al λcr am=>
 eF [b.size,m.size] al am/\
 ∃h:Int,cr=vi h/\
 ML b.size b.size (
 (0:Int)<=(0:Int)/\(0:Int)<=h/\h<=((O.mk c.size 0 4 4).cap:Int)/\
 ML b.size b.size (
 let b9:E:=ah am b.size 1 [.s (O.cut (O.mk c.size 0 4 4) (Int.toNat (0:Int)) (Int.toNat h) 5)]
 ∃(s:Int->E->Prop)(μ0:Int->E->Nat),
 s (cO (h -(1:Int))) b9/\
 (∀(f:Int)(p:E),s f p->
 ((decide (f>=(0:Int)))=true->
 ML b.size b.size (
 aN cq 251 [vp r.1 r.2,.agg #[O.v o,O.v (O.cut (O.mk c.size 0 4 4) (Int.toNat (0:Int)) (Int.toNat h) 5)],vi f] p λcs l=>
 eF [b.size,m.size] p l/\
 ∃J:Int,∃K:Int,∃L:O,cs=.agg #[vi J,vi K,O.v L]/\
 let b_:E:=l.push (.cells (bt [.i (0:Int),.i (0:Int),.s O.nil]) 173)
 ML l.size l.size (
 let q:E:=ah b_ l.size 0 [.i J,.i K,.s L]
 ML b.size b.size (
 ML b.size b.size (
 (0:Int)<=f/\f<((O.cut (O.mk c.size 0 4 4) (Int.toNat (0:Int)) (Int.toNat h) 5).len:Int)/\
 ∃b6:O,af q ((O.cut (O.mk c.size 0 4 4) (Int.toNat (0:Int)) (Int.toNat h) 5).D) ((O.cut (O.mk c.size 0 4 4) (Int.toNat (0:Int)) (Int.toNat h) 5).off+Int.toNat f*5)=some (O.v b6)/\
 ML b.size b.size (
 (0:Int)<=f/\f<((O.cut (O.mk c.size 0 4 4) (Int.toNat (0:Int)) (Int.toNat h) 5).len:Int)/\
 ∃bQ:Int,af q ((O.cut (O.mk c.size 0 4 4) (Int.toNat (0:Int)) (Int.toNat h) 5).D) ((O.cut (O.mk c.size 0 4 4) (Int.toNat (0:Int)) (Int.toNat h) 5).off+Int.toNat f*5+1)=some (vi bQ)/\
 ML l.size l.size (
 (0:Int)<=f/\f<((O.cut (O.mk c.size 0 4 4) (Int.toNat (0:Int)) (Int.toNat h) 5).len:Int)/\
 fL q ((O.cut (O.mk c.size 0 4 4) (Int.toNat (0:Int)) (Int.toNat h) 5).D) ((O.cut (O.mk c.size 0 4 4) (Int.toNat (0:Int)) (Int.toNat h) 5).off+Int.toNat f*5) 5/\
 let G:E:=ah q ((O.cut (O.mk c.size 0 4 4) (Int.toNat (0:Int)) (Int.toNat h) 5).D) ((O.cut (O.mk c.size 0 4 4) (Int.toNat (0:Int)) (Int.toNat h) 5).off+Int.toNat f*5) [.s b6,.i bQ,.i J,.i K,.s L]
 eF [l.size,b.size,m.size] q G/\
 Xc (SV.box b.size 124 [.s o,.s (O.cut (O.mk c.size 0 4 4) (Int.toNat (0:Int)) (Int.toNat h) 5)]) (SV.box b.size 124 [.s o,.s (O.cut (O.mk c.size 0 4 4) (Int.toNat (0:Int)) (Int.toNat h) 5)]) (
 Xc (SV.box m.size 124 [.s O.nil,.s O.nil]) (SV.box m.size 124 [.s O.nil,.s O.nil]) (
 s (cO (f -(1:Int))) G/\μ0 (cO (f -(1:Int))) G<μ0 f p)))))))))/\
 ((decide (f>=(0:Int)))=false->
 ML b.size b.size (
 ML m.size m.size (
 let l:E:=ah p m.size 0 [.s o,.s (O.cut (O.mk c.size 0 4 4) (Int.toNat (0:Int)) (Int.toNat h) 5)]
 ML m.size m.size (
 R (.agg #[O.v o,O.v (O.cut (O.mk c.size 0 4 4) (Int.toNat (0:Int)) (Int.toNat h) 5)]) l)))))))))
def xI(r:Nat×Nat)(m:E)(R:Value->E->Prop)(a:sE r m R):aN cq 237 [vp r.1 r.2] m R:=
 yf (o:=⟨[(9,[(8,.I)])],[],[(9,[113,112])]⟩) (d:=110) (r:=[.cell 2 124]) (a:=[.c (.p r.1 r.2)]) Pj Zm Zn Tryz.func237 (m:=OB Tryz.f237) (by kernel_rfl) (by kernel_rfl) (by kernel_rfl) (by kernel_rfl) aL (by kernel_rfl) (Eq.mp (by kernel_rfl) a)
def Dc(a:O):=cX m R ⟨[(3,[(4,.I)]),(7,[(5,.S),(6,.I)])],[],[(3,[35,34]),(7,[35,34])]⟩ [.agg [a,b]] func238
end
section
open Tryz
variable{m:E}{R:Value->E->Prop}
variable{a b c d e f g h p q r u v w x y:O}{i j k l n o s t z A B C D F G H:Int}
def AP(a:O):=cX m R ⟨[(5,[(6,.S),(7,.S),(8,.I)])],[],[(5,[69,68,67])]⟩ [.agg [a,b],.agg [c,d,i,e,j]] func239
def Bf(a:O):=cX m R ⟨[(5,[(9,.S),(10,.S),(11,.S),(12,.I)])],[],[(5,[88,86,84])]⟩ [.agg [a,b],c,.agg [d,i],e] func240
def Bp(a:O):=cX m R ⟨[(3,[(3,.S),(4,.I)])],[],[(3,[32])]⟩ [.agg [a,b,i,c,j]] func241
def xY(a:O):=cX m R ⟨[(4,[(3,.I)])],[],[(4,[36])]⟩ [.agg [a,b]] func242
def Bi(a:O):=cX m R ⟨[(3,[(4,.I)])],[],[(3,[46])]⟩ [.agg [a,b,i,c,j]] func243
def xN(p:Nat×Nat):=cX m R ⟨[],[(16,[(8,.T)])],[(16,[94,93])]⟩ [p,.agg [a,b],.agg [i,j,k,c,d]] func244
def GX(i:Int):=cX m R A0 [.agg [i,j,k,a,b]] func245
def Dn(a:O):=cX m R ⟨[(5,[(3,.S),(4,.S),(6,.I)]),(8,[(3,.S),(7,.I)]),(11,[(4,.S),(7,.I)])],[],[]⟩ [a] func246
def EV(a:O):=cX m R ⟨[(8,[(10,.S),(11,.S),(12,.I)])],[],[(8,[96,92])]⟩ [.agg [a,i],j,b,k] func247
def Dl(a:O):=cX m R A0 [.agg [a,b],.agg [i,j,k,c,d],l,e] func248
def zi(a:O):=cX m R A0 [.agg [a,b],.agg [i,j,c],d,k] func249
def Mm(a:O):=cX m R A0 [a,i] func250
def Gy(p:Nat×Nat):=cX m R ⟨[],[(7,[(34,.T)]),(9,[(51,.T)]),(11,[(77,.T)]),(15,[])],[(7,[131,127,125]),(9,[131,127,125]),(11,[131,127,125]),(15,[127,125])]⟩ [p,.agg [a,b],i] func251
def Dw(a:O):=cX m R ⟨[(3,[(6,.I)])],[],[(3,[49,47])]⟩ [.agg [a,b],c] func252
def yZ(a:O):=cX m R ⟨[(3,[(3,.S),(4,.I)])],[],[(3,[32])]⟩ [.agg [a,b]] func253
def C0(a:O):=cX m R ⟨[(3,[(5,.S),(6,.I)])],[],[(3,[52])]⟩ [.agg [a,b],i] func254
def Hg(a:O):=cX m R A0 [.agg [a,i],j] func255
def y9(a:O):=cX m R ⟨[(5,[(11,.S),(12,.S),(13,.S),(14,.I)]),(17,[(13,.S),(20,.I)])],[],[(5,[159,156,154]),(17,[164,159,156,154])]⟩ [.agg [a,b],c,.agg [d,i],e,f] func256
end
section
open Tryz
variable{m:E}{R:Value->E->Prop}
variable{a b c d e f g h p q r u v w x y:O}{i j k l n o s t z A B C D F G H:Int}
def AT(i:Int):=cX m R ⟨[(3,[(5,.S),(6,.I)])],[],[]⟩ [i,a] func257
def Ds(a:O):=cX m R ⟨[],[(3,[]),(30,[(151,.T)])],[(3,[188,186]),(30,[188,186])]⟩ [.agg [a,b],c,.agg [i,j,k,d,e]] func258
def um(a:O):=cX m R ⟨[(3,[(7,.S),(8,.I)])],[],[(3,[36,34])]⟩ [.agg [a,b],c,.agg [i,j,k,d,e]] func259
def Db(a:O):=cX m R ⟨[(4,[(7,.S),(9,.I)])],[(9,[(10,.S)])],[(4,[78,77,75]),(9,[78,77,75])]⟩ [.agg [a,b],c,.agg [i,j,k,d,e]] func260
def tS(a:O):=cX m R ⟨[(4,[(3,.I)])],[],[(4,[36])]⟩ [.agg [a,b]] func261
def Fc(a:O):=cX m R A0 [.agg [a,i]] func262
def AI(a:O):=cX m R ⟨[(3,[(7,.S),(8,.I)])],[],[(3,[57,55])]⟩ [.agg [a,b],c,.agg [d,i]] func263
def xK(p:Nat×Nat):=cX m R A0 [p,i,j,k] func264
def xO(p:Nat×Nat):=cX m R A0 [p,i] func265
def xL(p:Nat×Nat):=cX m R ⟨[(6,[(9,.I)])],[(4,[])],[(4,[110,109]),(6,[110,109])]⟩ [p,.agg [a,b],.agg [i,j,k,c,d]] func266
def vw(p:Nat×Nat):=cX m R ⟨[(7,[(9,.I)])],[(3,[])],[(3,[93,92]),(7,[93,92])]⟩ [p,.agg [a,b],.agg [i,j,k,c,d]] func267
def tL(p:Nat×Nat):=cX m R ⟨[(2,[(7,.I)]),(7,[(8,.I)])],[],[(2,[84,83]),(7,[84,83])]⟩ [p,.agg [a,b],.agg [i,j,k,c,d]] func268
def Ho(a:O):=cX m R ⟨[(3,[(3,.S),(4,.I)])],[],[]⟩ [a] func269
def IM(a:O):=cX m R ⟨[(3,[(5,.I),(6,.I)])],[],[]⟩ [a,i] func270
def Bv(a:O):=cX m R ⟨[(2,[(3,.I)])],[],[(2,[21])]⟩ [.agg [a,i]] func271
def CG(a:O):=cX m R ⟨[(3,[(7,.S),(8,.I)])],[],[(3,[38])]⟩ [.agg [a,i],j,k] func272
def wR(a:O):=cX m R ⟨[(4,[(5,.S),(6,.T),(7,.I)])],[],[]⟩ [a,i] func273
def Dk(a:O):=cX m R A0 [.agg [a,i],j,k] func274
end
section
open Tryz
variable{m:E}{R:Value->E->Prop}
variable{a b c d e f g h p q r u v w x y:O}{i j k l n o s t z A B C D F G H:Int}
def zf(a:O):=cX m R ⟨[(2,[(3,.I)])],[],[(2,[22])]⟩ [.agg [a,i]] func275
def Hf(a:O):=cX m R ⟨[(2,[(9,.I)])],[],[(2,[40])]⟩ [.agg [a,i],j,k,l] func276
def GO(a:O):=cX m R ⟨[(4,[(5,.S),(6,.T),(7,.I)])],[],[]⟩ [a,i] func277
def uq(p:Nat×Nat):=cX m R ⟨[(13,[(11,.S),(13,.I)]),(22,[(15,.S),(16,.I)])],[(18,[(14,.I)])],[(13,[154,153]),(18,[154,153]),(22,[154,153])]⟩ [p,.agg [a,b],.agg [i,j,c],d] func278
def EX(a:O):=cX m R ⟨[(2,[(5,.I)])],[],[]⟩ [a,i] func279
def EN(i:Int):=cX m R A0 [i] func280
def Dd(p:Nat×Nat):=cX m R ⟨[],[(5,[])],[(5,[31,30])]⟩ [p,.agg [a,b]] func281
def Df(p:Nat×Nat):=cX m R ⟨[(6,[(12,.S),(13,.I)])],[(19,[]),(22,[])],[(6,[144,141]),(19,[151,150,144,141]),(22,[150,144,141])]⟩ [p,.agg [a,b],i,j] func282
def Dg(p:Nat×Nat):=aah m R ⟨[(6,[(9,.S),(10,.S),(11,.I)])],[(13,[(14,.P)]),(15,[])],[(6,[102,100]),(13,[109,108,102,100]),(15,[109,108,102,100])]⟩ [p,.agg [a,b],i] func283
def CS(p:Nat×Nat):=cX m R ⟨[(4,[(8,.S),(9,.I)])],[(10,[])],[(4,[81,79]),(10,[81,79])]⟩ [p,.agg [a,b],i] func284
def EI(p:Nat×Nat):=cX m R ⟨[(2,[(4,.I)])],[],[(2,[44,40])]⟩ [p,.agg [a,b],c,i,j] func285
def EU(i:Int):=cX m R A0 [.agg [i,j,a]] func286
def rK(a:O):=cX m R ⟨[(3,[(4,.I)])],[],[(3,[30,29])]⟩ [.agg [a,i]] func287
def CZ(a:O):=cX m R ⟨[(2,[(5,.I)])],[],[(2,[23])]⟩ [.agg [a,b],i] func288
def vu(a:O):=cX m R ⟨[(4,[(7,.I)]),(8,[(9,.I)]),(13,[(10,.I)])],[],[(4,[72,71]),(8,[76,72,71]),(13,[76,72,71])]⟩ [.agg [a,b],.agg [c,i],j] func289
def Ev(a:O):=cX m R ⟨[(2,[(3,.S),(9,.I)])],[],[(2,[44])]⟩ [.agg [a,i],j,k,b] func290
def Jb(a:O):=cX m R ⟨[(3,[(5,.S),(6,.I)])],[],[]⟩ [a,b] func291
def zc(a:O):=cX m R ⟨[(3,[(11,.S),(12,.I)])],[],[(3,[50,48])]⟩ [.agg [a,b],c,.agg [i,j,k,d,e],f,g] func292
end
section
open Tryz
variable{m:E}{R:Value->E->Prop}
variable{a b c d e f g h p q r u v w x y:O}{i j k l n o s t z A B C D F G H:Int}
def AQ(a:O):=cX m R ⟨[(4,[(11,.S),(13,.I)])],[],[(4,[72,69,67])]⟩ [.agg [a,b],c,.agg [i,j,k,d,e],f,g] func293
def Bg(a:O):=cX m R ⟨[(5,[(11,.S),(12,.I)])],[],[(5,[62,60])]⟩ [.agg [a,b],c,.agg [i,j,k,d,e],f,g] func294
def Bh(a:O):=cX m R ⟨[(3,[(9,.S),(10,.I)])],[],[(3,[55,54])]⟩ [.agg [a,b],.agg [i,j,k,c,d],e,f] func295
def Fm(a:O):=cX m R ⟨[(3,[(5,.S),(6,.I)])],[],[]⟩ [a,i] func296
def GN(i:Int):=cX m R A0 [i] func297
def BH(a:O):=cX m R A0 [a,.agg [i,j,k,b,c]] func298
def Ja(a:O):=cX m R ⟨[(4,[(7,.I)])],[],[]⟩ [a,b,c] func299
def Da(a:O):=cX m R ⟨[(9,[(9,.I),(10,.I)])],[(5,[(8,.I)])],[(5,[76,74]),(9,[76,74])]⟩ [.agg [a,b],c,.agg [i,j,k,d,e]] func300
def xS(a:O):=cX m R A0 [.agg [a,b],c,.agg [i,j,k,d,e]] func301
def EO(a:O):=cX m R A0 [a,i] func302
def wF(a:O):=cX m R A0 [.agg [a,b],c,.agg [i,j,k,d,e]] func303
def zd(a:O):=cX m R A0 [.agg [a,b],c,.agg [i,j,k,d,e],l] func304
def Hc(a:O):=cX m R ⟨[(3,[(4,.I)])],[],[(3,[37,36])]⟩ [.agg [a,b]] func305
def Bz(a:O):=cX m R ⟨[(2,[(1,.I),(5,.I)]),(8,[(1,.I),(6,.I)])],[],[(2,[45]),(8,[45])]⟩ [.agg [a,i],j] func306
def zh(p:Nat×Nat):=cX m R ⟨[(9,[(14,.I)])],[],[(9,[89,88])]⟩ [p,.agg [a,b],.agg [i,j,k,c,d],l] func307
def GZ(a:O):=cX m R A0 [.agg [a,b],.agg [i,j,k,c,d],l] func308
def Ix(a:O):=cX m R ⟨[(2,[(7,.I)])],[],[(2,[47])]⟩ [.agg [a,i],j,k] func309
def ze(i:Int):=cX m R A0 [i] func310
end
section
open Tryz
variable{m:E}{R:Value->E->Prop}
variable{a b c d e f g h p q r u v w x y:O}{i j k l n o s t z A B C D F G H:Int}
def wK(p:Nat×Nat):=cX m R A0 [p,.agg [i,j,k,a,b]] func311
def Mf(p:Nat×Nat):=cX m R A0 [p,.agg [a,b],c,i,j] func312
def Kf(i:Int):=cX m R A0 [i,j,a] func313
def ET(p:Nat×Nat):=cX m R ⟨[(8,[(9,.I)])],[(5,[(7,.P)])],[(5,[51,50,49]),(8,[50,49])]⟩ [p,i] func314
def Du(i:Int):=cX m R A0 [i] func315
def Kb(p:Nat×Nat):=cX m R A0 [p,.agg [a,b],c,i] func316
def Bl(i:Int):=cX m R ⟨[(5,[(1,.I),(5,.I)])],[],[(5,[29])]⟩ [.agg [i,j,a],k] func317
def CO(i:Int):=cX m R ⟨[(3,[(3,.S),(4,.I)])],[],[(3,[35,34])]⟩ [.agg [i,j,k,a,b]] func318
def CK(a:O):=cX m R ⟨[(2,[(5,.I)]),(7,[(6,.I)])],[],[(2,[55]),(7,[55])]⟩ [.agg [a,i],j] func319
def xw(i:Int):=cX m R ⟨[(4,[(2,.S),(7,.I)]),(9,[(2,.S),(8,.I)])],[],[(4,[61]),(9,[61])]⟩ [.agg [i,j,k,a,b],l,c] func320
def EP(a:O):=cX m R A0 [.agg [a,b],.agg [i,j,k,c,d],l,e,f] func321
def CP(a:O):=cX m R ⟨[(7,[(16,.S),(17,.S),(18,.I)]),(14,[(19,.S),(20,.I)])],[],[(7,[127,124,121]),(14,[127,124,121])]⟩ [.agg [a,b],c,d,.agg [e,i],f,g] func322
def GD(a:O):=cX m R ⟨[(3,[(5,.S),(6,.I)])],[],[]⟩ [a,b] func323
def EB(a:O):=cX m R ⟨[(2,[(7,.I)])],[],[]⟩ [a,i,j] func324
def vx(p:Nat×Nat):=cX m R A0 [p] func325
def wI(p:Nat×Nat):=cX m R ⟨[(2,[(9,.I)])],[],[(2,[51,50])]⟩ [p,.agg [a,b],.agg [c,i],j] func326
def EA(p:Nat×Nat):=cX m R A0 [p,.agg [a,b],c] func327
def GM(p:Nat×Nat):=cX m R ⟨[(3,[(11,.S),(12,.I)])],[],[(3,[42])]⟩ [p,.agg [a,b],c,d,i] func328
end
section
open Tryz
variable{m:E}{R:Value->E->Prop}
variable{a b c d e f g h p q r u v w x y:O}{i j k l n o s t z A B C D F G H:Int}
def CV(p:Nat×Nat):=cX m R ⟨[(7,[(13,.S),(14,.I)])],[(4,[(11,.I)])],[(4,[79,75]),(7,[79,75])]⟩ [p,.agg [a,b],c,i,j] func329
def CI(a:O):=cX m R ⟨[(3,[(5,.S),(6,.I)]),(7,[(7,.T),(8,.I)])],[],[(3,[59]),(7,[59])]⟩ [.agg [a,b],i] func330
def CW(p:Nat×Nat):=cX m R ⟨[(3,[(11,.I)])],[(7,[])],[(3,[130,126]),(7,[130,126])]⟩ [p,.agg [a,b],c,i,j] func331
def E8(p:Nat×Nat):=cX m R A0 [p] func332
def zB(a:O):=cX m R ⟨[(3,[(5,.S),(6,.I)])],[],[]⟩ [a,i] func333
def EC(a:O):=cX m R A0 [.agg [a,b],c,i] func334
def Dq(p:Nat×Nat):=cX m R ⟨[(11,[(9,.S),(11,.I)]),(21,[(15,.S),(16,.I)])],[(6,[(8,.I)]),(8,[(8,.I)]),(17,[(80,.T)])],[(6,[124,122]),(8,[124,122]),(11,[124,122]),(17,[124,122]),(21,[124,122])]⟩ [p,.agg [a,b],i] func335
def wM(a:O):=cX m R ⟨[(2,[(7,.I)])],[],[(2,[46,45])]⟩ [.agg [a,b],.agg [i,j,k,c,d],l] func336
def Ir(a:O):=cX m R ⟨[(3,[(5,.S),(6,.I)])],[],[]⟩ [a,i] func337
def zg(p:Nat×Nat):=cX m R ⟨[(2,[(5,.I)])],[],[]⟩ [p,i] func338
def CJ(a:O):=cX m R ⟨[(3,[(5,.S),(6,.I)])],[],[(3,[55])]⟩ [.agg [a,b],i] func339
end
end Go.Proofs.YtkoifinbblcbiaaGreat
namespace Go.Proofs.YtkoifinbblcbiaaGreat
open Go.Vc
section
variable{m:E}{a:O}{l:List Int}
def aX(n b a:Int)(m:E):dt cq 41 [vi n,vi b,vi a] m (b<=n/\n<=a):=by
 apply EM;refine⟨λh=>eU ?_ (J.az _),λh=>bV ?_ (J.az _)⟩<;>simp at h
 .simp[h]
 .omega
def jR(a:Int)(m:E):dt cq 179 [vi a] m (0<=a/\a<=11):=by
 apply EH;exact(aX _ _ _ _).then λd e c b=>⟨_,rfl,eU c b⟩
def lR(a:Int):Prop:=0<=a/\a<=11/\a≠7/\a≠8\/a=18\/a=19
def xT(e:Int)(m:E):dt cq 124 [vi e] m (lR e):=by
 apply Km;refine(jR _ _).then λg i d a=>⟨_,rfl,λh=>?_,λh=>?_⟩
 .have h:=d.1 h;refine⟨λb=>⟨λc=>iR ?_ a,λc=>⟨λf=>iR ?_ a,λf=>eU ?_ a⟩⟩,λb=>⟨λc=>iR ?_ a,λc=>eU ?_ a⟩⟩<;>simp[lR]at* <;>omega
 .have h:=fb d h;refine⟨λb=>iR ?_ a,λb=>eU ?_ a⟩<;>simp[lR]at* <;>omega
def dv(e:ap m a l)(d:Int):dt cq 133 [O.v a,vi d] m (d∈l):=by
 apply J6;have i:=e.len;refine dT (n:=l.length) (i▸e.gV) (λk b=>J m b/\∀y∈l.take k,y≠d) ⟨J.az _,aL⟩ ?_;rintro k p I μ o ⟨c,g⟩ j
 refine dit (λh=>?_) λh=>?_
 .let⟨x,f⟩:=cG l k;refine⟨V,V,x,by simpa using c.af (e.aG f),λb=>?_,λb=>?_⟩
  .simp only[aI]at b;exact iR (b▸aq f) c
  .simp only[aj]at b;exact j V _ ⟨c,bB f g b⟩
 .exact bV (λb=>db V g d b rfl) c
def zJ(n:Nat)(t:Int):Prop:=0<=t/\t<=n
def Fw(n:Nat)(l:List Int):Prop:=∀t∈l,zJ n t
def wz(c:ap m a l)(bo:O):dt cq 156 [O.v bo,O.v a] m (Fw bo.len l):=by
 apply CD;have i:=c.len;refine dT (n:=l.length) (i▸c.gV) (λk b=>J m b/\∀t∈l.take k,zJ bo.len t) ⟨J.az _,aL⟩ ?_;rintro k r I μ q ⟨b,g⟩ o
 refine dit (λh=>?_) λh=>?_
 .let⟨x,d⟩:=cG l k;refine⟨V,V,x,by simpa using b.af (c.aG d),?_⟩;exact(aX _ _ _ _).then λp s f e=>⟨_,rfl,λh=>bV (λj=>nb f h (j x (aq d))) (b.trans e),λh=>o V _ ⟨b.trans e,bB d g (yb f h)⟩⟩
 .exact iR (db V g) b
def Ot(l:List Int)(c a b:Int):Prop:=(l.length:Int)=c/\∀t∈l,a+1<=t/\t<=b -1
def Fh(f:ap m a l)(o b c:Int)(w: -1<=b/\b<9223372036854775807)(e:0<=c/\c<=9223372036854775807):
 dt cq 201 [O.v a,vi o,vi b,vi c] m (Ot l o b c):=by
 apply zw
 have g:=f.len
 refine⟨λh=>?_,λh=>?_⟩
 .simp only[vJ]at h
  exact bV (λi=>h (by rw[g];exact i.1)) (J.az _)
 .simp only[iN]at h
  have u:o=(l.length:Int):=by rw[<-h,g]
  subst u
  have r:cO (b+1)=b+1:=aP V V
  have s:cO (c -1)=c -1:=aP V V
  rw[r,s]
  refine dT (n:=l.length) (g▸f.gV) (λk d=>J m d/\∀t∈l.take k,b+1<=t/\t<=c -1) ⟨J.az _,aL⟩ ?_
  rintro k z I μ y ⟨d,q⟩ t
  refine dit (λh=>?_) λh=>?_
  .let⟨x,j⟩:=cG l k
   refine⟨V,V,x,by simpa using d.af (f.aG j),?_⟩
   exact(aX _ _ _ _).then λv A p e=>⟨_,rfl,λh=>bV (λi=>nb p h (i.2 x (aq j))) (d.trans e),λh=>t V _ ⟨d.trans e,bB j q (yb p h)⟩⟩
  .exact iR ⟨rfl,db V q⟩ d
def DX(a cR:List Int):Prop:=∀(k:Nat)(v:Int),cR[k]? =some v->(∃t,0<=v/\a[v.toNat]? =some t/\t≠0)/\(∀u:Int,0<k->cR[k -1]? =some u->u<v)
def uV{A cR:O}{p:List Int}(g:ap m A p)(f:ap m cR l):dt cq 157 [O.v A,O.v cR] m (DX p l):=by
 apply BJ;have K:=f.len;have L:=g.len;have T:=g.gV;have F:cO ((A.len:Int) -1)=(p.length:Int) -1:=by rw[aP V V,L]
 rw[F];have S:=f.gV;refine dT (n:=l.length) (K▸f.gV) (λk M=>J m M/\∀(j:Nat)(v:Int),j<k->l[j]? =some v->(∃t,0<=v/\p[v.toNat]? =some t/\t≠0)/\(∀u:Int,0<j->l[j -1]? =some u->u<v)) ⟨J.az _,aL⟩ ?_;rintro k N P μ R ⟨i,w⟩ D
 refine dit (λh=>?_) λh=>?_
 .let⟨x,c⟩:=cG l k;have g1:af N cR.D (cR.off+Int.toNat k*1)=some (vi x):=by simpa using i.af (f.aG c)
  refine⟨V,V,x,g1,?_⟩;refine(aX _ _ _ _).then λQ U B d=>⟨_,rfl,λh=>?_,λh=>?_⟩
  .refine bV (λg=>nb B h ?_) (i.trans d);obtain⟨⟨t,b,s,_⟩,_⟩:=g k x c;have:=aw s;omega
  .have C:=yb B h;let⟨t,q⟩:=cG p x.toNat;have H:=(i.trans d).af (g.aG q);have o:=i.trans d;refine⟨V,V,x,d.af g1,V,V,t,by simpa using H,λb=>?_,λb=>?_⟩
   .simp only[aI]at b;refine bV (λa=>?_) o;obtain⟨⟨y,_,e,r⟩,_⟩:=a k x c;rw[q]at e;simp at e;exact r (e▸b)
   .simp only[aj]at b;refine dit (λs=>?_) λs=>?_
    .have G:cO ((k:Int) -1)=((k -1:Nat):Int):=by rw[aP V V];omega
     let⟨E,z⟩:=cG l (k -1);rw[G];refine⟨V,V,x,d.af g1,V,V,E,by simpa using o.af (f.aG z),dit (λe=>?_) λe=>?_⟩
     .refine bV (λa=>?_) o;have:=(a k x c).2 E V z;omega
     .refine D V _ ⟨o,λj v I a=>?_⟩
      by_cases r:j=k
      .subst r;rw[c]at a;simp at a;subst a;refine⟨⟨t,C.1,q,b⟩,λu _ y=>?_⟩;rw[z]at y;simp at y;subst y;omega
      .exact w j v V a
    .refine D V _ ⟨o,λj v I a=>?_⟩
     by_cases r:j=k
     .subst r;rw[c]at a;simp at a;subst a;exact⟨⟨t,C.1,q,b⟩,λu e _=>V⟩
     .exact w j v V a
 .exact iR (λj v a=>w j v (oh (aw a)) a) i
end
section
variable{m:E}
structure Hz(ds:List bz)(k:Nat)(d:bz):Prop where
 iZ:0<d.cons.length->d.cons.length<=3/\d.tf=0/\d.to=0/\∀f∈d.cons,f.length<=3/\Fw ds.length f
 R1:d.cons.length=0->(∀e∈ds.take k,¬(e.cons.length=0/\e.tf=d.tf/\e.to=d.to))/\zJ ds.length d.tf/\zJ ds.length d.to
structure dS(ds:List bz):Prop where
 len:ds.length<=4
 dz:∀(k:Nat)(d:bz),ds[k]? =some d->Hz ds k d
def Hi{bo:O}{h:List bz}(hd:cx m bo h){k:Nat}{d:bz}(H:h[k]? =some d):dt cq 197 [O.v bo,vi k] m (Hz h k d):=by
 apply BE;simp -zeta only[aD,aC];have X:=aw H;have v:=hd.len;let⟨x,z,K,g1,g2⟩:=hd.aG H;refine⟨V,V,_,by simpa using K,_,by simpa using g1,_,by simpa using g2,?_⟩;intro P s;have c:J m s:=((J.az m).aK _).ah (ad _) _ _;have A:∀t∈[m.size],t<s.size:=by simp[s,P,av]
 have M:=z.len;refine dit (λq=>?_) λq=>?_
 .refine dit (λL=>?_) λL=>?_
  .exact bV (λa=>oh ((a.iZ V).1)) c
  refine⟨λf=>?_,λf=>?_⟩
  .simp only[vJ]at f;exact bV (λa=>f (a.iZ V).2.1) c
  simp only[iN]at f;refine⟨λp=>?_,λp=>?_⟩
  .simp only[vJ]at p;exact bV (λa=>p (a.iZ V).2.2.1) c
  simp only[iN]at p;refine dT (n:=d.cons.length) (M▸z.gV) (λk B=>J s B/\∀x∈d.cons.take k,x.length<=3/\Fw h.length x) ⟨J.az _,aL⟩ ?_;rintro j w I μ N ⟨g,r⟩ D
  refine dit (λy=>?_) λy=>?_
  .let⟨C,u⟩:=cG d.cons j;let⟨E,G,F⟩:=(pw.ext (c.trans g) z).aG u;have R:=G.len;refine⟨V,V,E,by simpa using F,dit (λo=>?_) λo=>?_⟩
   .exact bV (λa=>oh (((a.iZ V).2.2.2 C (aq u)).1)) (c.trans g)
   .refine⟨V,V,E,by simpa using F,?_⟩;exact(wz G _).aH g A λt Q l i b=>⟨_,rfl,λe=>bV (λa=>nb l e (v▸((a.iZ V).2.2.2 C (aq u)).2)) (c.trans b),λe=>D V _ ⟨b,bB u r ⟨V,v▸yb l e⟩⟩⟩
  .exact iR ⟨λ_=>⟨V,f,p,db V r⟩,λF=>V⟩ (c.trans g)
 .have C:d.cons.length=0:=V;have U:=hd.gV;refine dT (n:=k) V (λk B=>J s B/\∀f∈h.take k,¬(f.cons.length=0/\f.tf=d.tf/\f.to=d.to)) ⟨J.az _,aL⟩ ?_;rintro j w I μ N ⟨g,r⟩ D
  refine dit (λy=>?_) λy=>?_
  .let⟨f,u⟩:=cG h j;let⟨E,G,R,S,T⟩:=(cx.ext (c.trans g) hd).aG u;have W:=G.len;have B:¬(f.cons.length=0/\f.tf=d.tf/\f.to=d.to)->I (cO ((j:Int)+1)) w/\μ (cO ((j:Int)+1)) w<μ j w:=λp=>D V _ ⟨g,bB u r p⟩
   refine⟨V,V,E,by simpa using T,λo=>?_,λo=>?_⟩
   .simp only[aI]at o;refine⟨V,V,_,by simpa using R,λi=>?_,λi=>?_⟩
    .simp only[aI]at i;refine⟨V,V,_,by simpa using S,λb=>?_,λb=>?_⟩
     .simp only[aI]at b;have L:f∈h.take k:=by
       rw[List.mem_iff_getElem?];exact⟨j,by rw[lH,an V];exact u⟩
      exact bV (λa=>(a.R1 C).1 f L ⟨V,i,b⟩) (c.trans g)
     .simp only[aj]at b;exact B (λp=>b p.2.2)
    .simp only[aj]at i;exact B (λp=>i p.2.1)
   .simp only[aj]at o;exact B (λp=>o V)
  .have f:j=k:=V;subst f;refine(aX _ _ _ _).aH g A λt Q l i b=>⟨_,rfl,λe=>?_,λe=>bV (λa=>fb l e (v▸(a.R1 C).2.1)) (c.trans b)⟩;have e:=l.1 e;refine(aX _ _ _ _).aH b A λt p l o a=>⟨_,rfl,eU ?_ (c.trans a)⟩;rw[l];rw[v]at e⊢;exact⟨λq=>⟨λF=>V,λ_=>⟨r,e,q⟩⟩,λq=>(q.R1 C).2.2⟩
def Fk{bo:O}{a:List bz}(hd:cx m bo a):dt cq 155 [O.v bo] m (dS a):=by
 apply zA;have u:=hd.len;refine dit (λo=>?_) λo=>?_
 .exact bV (λf=>oh f.len) (J.az _)
 .refine dT (n:=a.length) V (λq r=>J m r/\∀(j:Nat)(d:bz),j<q->a[j]? =some d->Hz a j d) ⟨J.az _,aL⟩ ?_;rintro j x I μ w ⟨b,k⟩ s
  refine dit (λp=>?_) λp=>?_
  .let⟨l,e⟩:=cG a j;refine(Hi (cx.ext b hd) e).then λt y h g=>⟨_,rfl,λc=>bV (λf=>nb h c (f.dz j l e)) (b.trans g),λc=>?_⟩;refine s V _ ⟨b.trans g,λi d v bH=>?_⟩
   by_cases f:i=j
   .subst f;rw[e]at bH;simp at bH;subst bH;exact yb h c
   .exact k i d V bH
  .exact iR ⟨V,λi d bH=>k i d (oh (aw bH)) bH⟩ b
end
section
variable{a:Nat}{m:E}
def fc:List bz->Nat->Nat
 |_,0=>0
 |[],_=>0
 |d::b,a+1=>d.cons.length+fc b a
def eS(a:List bz):List (List Int):=a.flatMap bz.cons
def QW(a:Nat):fc [] a=0:=by cases a<;>rfl
def sL:∀{b:List bz}{a:Nat}{c:bz},b[a]? =some c->fc b (a+1)=fc b a+c.cons.length
 |[],a,c,h=>by simp at h
 |e::b,0,c,h=>by
  simp at h;subst h;simp only[fc];cases b<;>simp[fc]
 |e::b,a+1,c,h=>by
  have:=sL (b:=b) (a:=a) (c:=c) (by simpa using h);simp only[fc]at this⊢;omega
def mU:∀(b:List bz)(a:Nat),b.length<=a->fc b a=(eS b).length
 |[],a,_=>by rw[QW];rfl
 |d::b,0,h=>by simp at h
 |d::b,a+1,h=>by
  have:=mU b a (by simpa using h);simp only[fc,eS,my,be]at this⊢;omega
def RO:∀(a:List bz){b c:Nat},b<=c->fc a b<=fc a c
 |[],b,c,_=>by simp[QW]
 |d::a,0,c,_=>by simp[fc]
 |d::a,b+1,0,h=>V
 |d::a,b+1,c+1,h=>by
  have:=RO a (b:=b) (c:=c) V;simp only[fc];omega
def lA{b:List bz}(h:dS b){d:bz}(e:b[a]? =some d):d.cons.length<=3:=by
 rcases j8 d.cons.length with c|c
 .omega
 .exact((h.dz a d e).iZ c).1
def TR{b:List bz}(h:dS b):∀a,fc b a<=3*a
 |0=>by cases b<;>simp[fc]
 |a+1=>by
  have e:=TR h a;rcases aW a b.length with c|c
  .let⟨d,hd⟩:=dB c;rw[sL hd];have:=lA h hd;omega
  .rw[mU b (a+1) V,<-mU b a c];omega
def rq{b:List bz}(h:dS b)(a:Nat):fc b a<=12:=by
 rcases aW a b.length with c|c
 .have:=TR h a;have:=h.len;omega
 .rw[mU b a c,<-mU b b.length (ad _)];have:=TR h b.length;have:=h.len;omega
def rp:∀(a:List bz)(i j:Nat)(d:bz),a[i]? =some d->j<d.cons.length->(eS a)[fc a i+j]? =d.cons[j]?
 |[],i,j,d,h,_=>by simp at h
 |e::a,0,j,d,h,b=>by
  simp at h;subst h;simp only[fc,eS,my,bT];rw[ax b]
 |e::a,i+1,j,d,h,b=>by
  have:=rp a i j d (by simpa using h) b;simp only[fc,eS,my]at this⊢;rw[aJ V,<-this];congr 1;omega
def vg:∀(a:List bz)(c:Nat),c<(eS a).length->∃i d,a[i]? =some d/\fc a i<=c/\c<fc a i+d.cons.length
 |[],c,h=>by simp[eS]at h
 |e::a,c,h=>by
  rcases aW c e.cons.length with b|b
  .exact⟨0,e,aL,by simp[fc],by simpa[fc]using b⟩
  .let⟨i,d,f,g,j⟩:=vg a (c -e.cons.length) (by simp only[eS,my,be]at h⊢;omega);exact⟨i+1,d,by simpa using f,by simp only[fc];omega,by simp only[fc];omega⟩
def kd{bo:O}{b:List bz}(hd:cx m bo b)(d:dS b)(t:a<=b.length):HA cq 146 [O.v bo,vi a] m (vi (fc b a)):=by
 apply CU;have r:=hd.len;have:=d.len;refine ez (n:=a) V (λj g c=>J m c/\g=(fc b j:Nat)) ⟨J.az _,by cases b<;>rfl⟩ ?_;rintro j g u I μ s ⟨e,rfl⟩ k
 refine dit (λi=>?_) λi=>?_
 .let⟨l,c⟩:=cG b j;let⟨h,f,o,g1,g2⟩:=(cx.ext e hd).aG c;refine⟨V,V,h,by simpa using g2,?_⟩;refine k V _ _ ⟨e,?_⟩
  have p:=rq d j;have q:=lA d c;rw[aP V (oh f.len),sL c,f.len];rfl
 .have:j=a:=V;subst this;exact⟨rfl,e⟩
def qM{bo:O}{a:List bz}(hd:cx m bo a)(c:dS a):HA cq 138 [O.v bo] m (vi (eS a).length):=by
 apply CL;have q:=hd.len;have:=c.len;refine ez (n:=a.length) V (λj f b=>J m b/\f=(fc a j:Nat)) ⟨J.az _,by cases a<;>rfl⟩ ?_;rintro j f s I μ r ⟨d,rfl⟩ i
 refine dit (λh=>?_) λh=>?_
 .let⟨k,b⟩:=cG a j;let⟨g,e,l,g1,g2⟩:=(cx.ext d hd).aG b;refine⟨V,V,g,by simpa using g2,?_⟩;refine i V _ _ ⟨d,?_⟩
  have o:=rq c j;have p:=lA c b;rw[aP V (oh e.len),sL b,e.len];rfl
 .refine⟨?_,d⟩;rw[mU a j V]
def XT(a:List bz)(c t:Int):Prop:=
 (∃(i:Nat)(d:bz),t=i+1/\a[i]? =some d/\(fc a i:Int)<=c/\c<fc a i+d.cons.length)\/(t= -1/\¬(0<=c/\c<(eS a).length))
def mq{bo:O}{a:List bz}(hd:cx m bo a)(k:dS a)(c:Int):aN cq 198 [O.v bo,vi c] m λE p=>∃u,E=vi u/\XT a c u/\J m p:=by
 apply EE;have H:=hd.len;have:=k.len;refine dT (n:=a.length) V (λj p=>J m p/\∀(i:Nat)(d:bz),i<j->a[i]? =some d->¬((fc a i:Int)<=c/\c<fc a i+d.cons.length)) ⟨J.az _,aL⟩ ?_;rintro j M I μ L ⟨b,s⟩ D
 refine dit (λz=>?_) λz=>?_
 .let⟨d,h⟩:=cG a j;refine(kd (cx.ext b hd) k V).then λN e=>⟨_,rfl,?_⟩;let⟨l,B,G,g1,g2⟩:=(cx.ext (b.trans e) hd).aG h;refine⟨V,V,l,by simpa using g2,?_⟩;have o:=rq k j;have A:=lA k h;have C:=B.len;have y:cO (cO ((fc a j:Int)+(l.len:Int)) -1)=(fc a j:Int)+d.cons.length -1:=by
   rw[aP (b:=(fc a j:Int)+(l.len:Int)) V V,aP V V,C]
  rw[y];refine(aX _ _ _ _).then λF P r q=>⟨_,rfl,λf=>?_,λf=>?_⟩
  .have f:=r.1 f;refine⟨_,rfl,Or.inl ⟨j,d,?_,h,V,V⟩,(b.trans e).trans q⟩;rw[aP V V]
  .refine D V _ ⟨(b.trans e).trans q,λi v K g=>?_⟩
   by_cases w:i=j
   .subst w;rw[h]at g;simp at g;subst g;intro t;exact fb r f ⟨t.1,V⟩
   .exact s i v V g
 .refine⟨_,rfl,Or.inr ⟨rfl,λt=>?_⟩,b⟩;let⟨i,d,o,e,A⟩:=vg a c.toNat V;exact s i d (oh (aw o)) o ⟨V,V⟩
def cB(a:List bz)(c:Int):List Int:=if 0<=c then((eS a)[c.toNat]?).getD []else[]
def GF{bo:O}{a:List bz}(hd:cx m bo a)(d:dS a)(c:Int):aN cq 199 [O.v bo,vi c] m λx l=>∃s,x=O.v s/\ap l s (cB a c)/\J m l:=by
 apply rJ;have E:=hd.len;have:=d.len;refine(mq hd d c).mono ?_;rintro _ H ⟨K,rfl,h,e⟩;refine⟨_,rfl,dit (λu=>?_) λu=>?_⟩
 .refine⟨_,rfl,?_,e.aK _⟩;have g:cB a c=[]:=by
   rcases h with⟨i,f,v,_⟩|⟨_,b⟩
   .omega
   .unfold cB;split
    .rw[cN V];rfl
    .rfl
  rw[g];exact⟨rfl,ad _,aL,aL⟩
 .rcases h with⟨i,f,rfl,b,B,C⟩|⟨v,_⟩
  .have G:=aw b;let⟨q,j,z,g1,g2⟩:=(cx.ext e hd).aG b;have n:cO ((i:Int)+1 -1)=i:=by rw[aP V V];omega
   rw[n];refine⟨V,V,q,by simpa using g2,?_⟩;refine(kd (cx.ext e hd) d V).then λI g=>⟨_,rfl,g.da (by simpa using g2),?_⟩;have A:=rq d i;have D:=lA d b;have F:=j.len;let⟨y,k⟩:=cG f.cons ((c -fc a i).toNat);let⟨r,w,t⟩:=(pw.ext g j).aG k;have o:cO (c -(fc a i:Int))=c -fc a i:=aP V V;rw[o];refine⟨V,V,r,t,_,rfl,?_,e.trans g⟩;have p:cB a c=y:=by
    unfold cB;rw[an V];have:=rp a i (c -fc a i).toNat f b V;rw[show c.toNat=fc a i+(c -fc a i).toNat by omega,this,k];rfl
   rw[p];exact w
  .omega
def cy(a:List bz)(t:Int):List Int:=
 if 1<=t/\t<=a.length then((a[t.toNat -1]?).map λd=>(List.range d.cons.length).map λi=>((fc a (t.toNat -1)+i:Nat):Int)).getD []else[]
def AK{bo:O}{a:List bz}(hd:cx m bo a)(c:dS a)(t:Int):aN cq 134 [O.v bo,vi t] m λI b=>∃s,I=O.v s/\ap b s (cy a t)/\J m b:=by
 apply uP;intro r;have S:=hd.len;have:=c.len;have q:J m r:=(J.az m).aK _;have F:gY m r aA 1 (.mk m.size 0 0 0) []:=gY.new (J.az m) aA 1 [] 0 aL;refine(aX _ _ _ _).then λL W l f=>⟨_,rfl,λh=>?_,λh=>?_⟩
 .refine⟨_,rfl,?_,q.trans f⟩;have e:cy a t=[]:=by
   unfold cy;rw[ae (oh (nb l h))]
  rw[e];exact⟨rfl,ad _,aL,aL⟩
 .have h:=yb l h;have v:cO (t -1)=((t.toNat -1:Nat):Int):=by rw[aP V V];omega
  rw[v];let⟨e,g⟩:=cG a (t.toNat -1);have w:cy a t=(List.range e.cons.length).map λi=>((fc a (t.toNat -1)+i:Nat):Int):=by
   unfold cy;rw[an V,g];rfl
  rw[w];have Q:=rq c (t.toNat -1);have R:=lA c g;refine ez (n:=e.cons.length) V (λj s b=>J m b/\gY m b aA 1 s (((List.range j).map λi=>((fc a (t.toNat -1)+i:Nat):Int)).map Ce.i)/\s.len=j) ⟨q.trans f,by simpa using F.ext f,rfl⟩ ?_;rintro j s X K μ U ⟨d,o,p⟩ H
  let⟨y,D,M,g1,g2⟩:=(cx.ext d hd).aG g;have T:=D.len;refine⟨V,V,y,by simpa using g2,dit (λz=>?_) λz=>?_⟩
  .refine(kd (cx.ext d hd) c V).then λG k=>⟨_,rfl,?_⟩;intro u;have x:cO (((fc a (t.toNat -1):Nat):Int)+(j:Int))=((fc a (t.toNat -1)+j:Nat):Int):=by rw[aP V V];omega
   have E:u=G.push (.cells (bt [.i (((fc a (t.toNat -1)+j:Nat):Int))]) aA):=by rw[<-x]
   clear_value u;subst E;refine gY.append (zs:=[.i 0]) (d:=[.i ((fc a (t.toNat -1)+j:Nat):Int)]) ((o.ext k).ext (J.push _ _)) ((d.trans k).aK _) rfl (cD.push _ _ _).iD (by simp[p];omega) ?_;intro Y b A B C N P _;refine H V _ _ ⟨B,?_,by simp[C,p]⟩
   rw[SW,fu,fu];exact A
  .have:j=e.cons.length:=V;subst this;exact⟨_,rfl,ap.gD o bF,d⟩
end
section
variable{S:List Nat}{d:E}{s j a h:O}{e g p:List Int}{k f:Nat}{x:Int}{Q:List Int->Prop}{K:Value->E->Prop}
def _root_.Go.Vc.ap.cp{X:List Nat}{a:E}(b:ap (bH S d) s e)(f:Fz X d a)(c:∀h∈X,h∈S)(g:e[k]? =some x):af a s.D (s.off+k*1)=some (vi x):=
 (eQ.1 ((b.le (f.df c)).aG g)).2
def _root_.Go.Vc.ap.MN{a:E}(h:ap (bH S d) s e)(b:J d a)(c:e[k]? =some x):af a s.D (s.off+k*1)=some (vi x):=
 h.cp (b.fz []) aL c
def Fy(f:Nat)(b:List Value)(d:E)(S:List Nat)(Q:List Int->Prop):Prop:=aN cq f b d λv a=>∃s e,v=O.v s/\ap (bH S a) s e/\Q e/\J d a
def k8(f:Nat)(b:List Value)(d:E)(S:List Nat)(Q:List Int->Prop):Prop:=aN cq f b d λv a=>∃s e,v=O.v s/\Gr S d a aA 1 ug s e/\Q e/\J d a
def tg(f:Nat)(a:List Value)(d:E)(Q:Int->Prop):Prop:=aN cq f a d λv b=>∃n:Int,v=vi n/\Q n/\J d b
abbrev GI(S:List Nat)(a d:E)(s:O)(e:List Int):Prop:=Gr S a d aA 1 ug s e
def GI.nil(S:List Nat)(d:E):GI S d (d.push (.cells (bt []) aA)) (.mk d.size 0 0 0) []:=Gr.new S (ad _) aA 1 ug
def GI.kL{S X:List Nat}{c d:E}{s:O}{e:List Int}{a:Int}{K:O->E->Prop}(f:GI S c d s e)(g:Fz X c d)(j:∀h∈S,h<c.size)(k:e.length<=10^12)
 (i:∀r b,GI S c b r (e++[a])->Fz X c b->(d.size<=b.size/\(r.D=s.D\/d.size<=r.D))->(∀h,h<d.size->h≠s.D->b[h]? =d[h]?)->K r b):jO (d.push (.cells (bt [.i a]) aA)) aA [.i 0] 8 s (.mk d.size 0 1 1) K:=
 Gr.kL (g:=[.i 0]) ug.mono bn f g rfl V i
def GI.done{S:List Nat}{a d:E}{s:O}{e:List Int}(b:GI S a d s e)(c:∀h∈S,h<a.size)(f:e.length<=10^12):ap (bH S d) s e:=Gr.done ug.mono b c bn V
def GI.all{S X:List Nat}{b d:E}{s x:O}{e g:List Int}{K:O->E->Prop}(c:GI S b d s e)(f:Fz X b d)(k:∀h∈S,h<b.size)(j:ap (bH (s.D::S) d) x g)(l:e.length+g.length<=10^12)
 (i:∀r a,GI S b a r (e++g)->Fz X b a->(d.size<=a.size/\(r.D=s.D\/d.size<=r.D))->(∀h,h<d.size->h≠s.D->a[h]? =d[h]?)->K r a):jO d aA [.i 0] 8 s x K:=
 Gr.all (g:=[.i 0]) ug.mono bn c f j V i
def GI.jz{b a:E}(h:GI S b d s e)(j:a[s.D]? =d[s.D]?):GI S b a s e:=by
 let⟨f,c,g,i⟩:=h;exact⟨f,c,g.congr j,i.mono λ_ _ h=>h⟩
def GI.ext{S:List Nat}{b d a:E}{s:O}{e:List Int}(h:GI S b d s e)(c:J d a):GI S b a s e:=Gr.ext ug.mono h c
def _root_.Go.Vc.Gr.cv{α:Type}{S c:List Nat}{g i d:E}{f b:Nat}{R:E->List Ce->α->Prop}{s:O}{e:List α}(o:oG b R)(k:Gr c i d f b R s e)(p:∀h∈S,h∈c\/d.size<=h)(q:g.size<=i.size):Gr S g d f b R s e:=by
 let⟨l,j,m,n⟩:=k;refine⟨l,j,m.cv q,n.mono λr x=>o.le ((J.az d).bH λh a=>?_)⟩;rcases List.mem_cons.1 a with a|a
 .exact Or.inl (by rw[a];exact bg)
 .exact(p h a).imp (ai _) id
def GI.cv{S a:List Nat}{b c d:E}{s:O}{e:List Int}(f:GI a c d s e)(g:∀h∈S,h∈a)(j:b.size<=c.size):GI S b d s e:=Gr.cv ug.mono f (λh i=>Or.inl (g h i)) j
def k8.then{b:List Value}(h:k8 f b d S Q)(k:∀s e a,GI S d a s e->Q e->J d a->K (O.v s) a):aN cq f b d K:=
 h.mono λ_ a⟨s,e,c,g,i,j⟩=>c▸k s e a g i j
def Fy.then{b:List Value}(h:Fy f b d S Q)(k:∀s e a,ap (bH S a) s e->Q e->J d a->K (O.v s) a):aN cq f b d K:=
 h.mono λ_ a⟨s,e,c,g,i,j⟩=>c▸k s e a g i j
def tg.then{b:List Value}{Q:Int->Prop}(h:tg f b d Q)(i:∀n a,Q n->J d a->K (vi n) a):aN cq f b d K:=
 h.mono λ_ a⟨n,e,c,g⟩=>e▸i n a c g
def tr{b:E}{h:Nat}(a:J d b)(c:d.size<=h):Le (bH S d) (bH (h::S) b):=a.bH λf e=>by
 rcases List.mem_cons.1 e with a|a
 .exact Or.inr (by rw[a];exact c)
 .exact Or.inl a
def mr(b:∀h∈S,h<d.size)(i:ap (bH S d) j e)(c:e.length<=10^12):k8 66 [O.v j] d S (e=·):=by
 apply nE;intro k;have a:J d k:=J.push d _;exact GI.all (e:=[]) (X:=[]) (GI.nil S d) (a.fz []) b (i.le (tr a (ad _))) (by simpa using c) λr m g f _ _=>⟨r,e,rfl,by simpa using g,rfl,f.ext⟩
def pB(e g:List Int):Prop:=(∀x∈g,x∈e)/\g.length<=e.length
def pb(h:∀x∈g,x∈e)(b:x∈e):∀y∈g++[x],y∈e:=by
 intro y a;rcases List.mem_append.1 a with a|a
 .exact h y a
 .simp at a;subst a;exact b
def BO(r:∀h∈S,h<d.size)(b:ap (bH S d) j e)(u:Int)(v:e.length<=10^12):k8 296 [O.v j,vi u] d S (pB e):=by
 apply Fm;intro z;have t:=b.len;refine ez (n:=e.length) (t▸b.gV) (λk s a=>J d a/\∃g,GI S d a s g/\(∀x∈g,x∈e)/\g.length<=k) ⟨J.push d _,[],GI.nil S d,aL,ad _⟩ ?_;rintro k s A I μ y ⟨a,g,c,i,w⟩ m
 refine dit (λp=>?_) λp=>?_
 .let⟨x,l⟩:=cG e k;refine⟨V,V,x,b.MN a l,λq=>⟨V,V,x,b.MN a l,?_⟩,λq=>m V _ _ ⟨a,g,c,i,V⟩⟩;intro B;exact GI.kL c (a.fz []) r V λD C o f _ _=>m V _ _ ⟨f.ext,_,o,pb i (aq l),bF⟩
 .exact⟨s,g,rfl,c,⟨i,V⟩,a⟩
def O9(r:∀h∈S,h<d.size)(b:ap (bH S d) j e)(u:Int)(v:e.length<=10^12):k8 337 [O.v j,vi u] d S (pB e):=by
 apply Ir;intro z;have t:=b.len;refine ez (n:=e.length) (t▸b.gV) (λk s a=>J d a/\∃g,GI S d a s g/\(∀x∈g,x∈e)/\g.length<=k) ⟨J.push d _,[],GI.nil S d,aL,ad _⟩ ?_;rintro k s A I μ y ⟨a,g,c,i,w⟩ m
 refine dit (λp=>?_) λp=>?_
 .let⟨x,l⟩:=cG e k;refine⟨V,V,x,b.MN a l,λq=>⟨V,V,x,b.MN a l,?_⟩,λq=>m V _ _ ⟨a,g,c,i,V⟩⟩;intro B;exact GI.kL c (a.fz []) r V λD C o f _ _=>m V _ _ ⟨f.ext,_,o,pb i (aq l),bF⟩
 .exact⟨s,g,rfl,c,⟨i,V⟩,a⟩
def Nd(u:∀h∈S,h<d.size)(i:ap (bH S d) a e)(v:ap (bH S d) h p)(A:e.length<=10^12):k8 323 [O.v a,O.v h] d S (pB e):=by
 apply GD;intro D;have w:=i.len;refine ez (n:=e.length) (w▸i.gV) (λk s b=>J d b/\∃g,GI S d b s g/\(∀x∈g,x∈e)/\g.length<=k) ⟨J.push d _,[],GI.nil S d,aL,ad _⟩ ?_;rintro k s E I μ C ⟨b,g,j,l,B⟩ o
 refine dit (λr=>?_) λr=>?_
 .let⟨x,m⟩:=cG e k;refine⟨V,V,x,i.MN b m,?_⟩;refine(dv ((v.le (bA _ _)).ext b) x).then λz F _ c=>⟨_,rfl,λt=>⟨V,V,x,i.MN (b.trans c) m,?_⟩,λt=>o V _ _ ⟨b.trans c,g,j.ext c,l,V⟩⟩;intro y;exact GI.kL (j.ext c) ((b.trans c).fz []) u V λG y q f _ _=>o V _ _ ⟨f.ext,_,q,pb l (aq m),bF⟩
 .exact⟨s,g,rfl,j,⟨l,V⟩,b⟩
def _root_.Go.Vc.xe{σ τ:Type}{n:Nat}(p:n<=9223372036854775807){h:σ}{j:τ}{g:(σ->τ->Int->E->Prop)->(σ->τ->Int->E->Nat)->σ->τ->Int->E->Prop}(Q:Nat->σ->τ->E->Prop)(m:Q 0 h j d)
 (l:∀(k:Nat)(s:σ)(t:τ)(a:E)(I:σ->τ->Int->E->Prop)(μ:σ->τ->Int->E->Nat),k<=n->Q k s t a->
  (k<n->∀c e b,Q (k+1) c e b->I c e (cO ((k:Int)+1)) b/\μ c e (cO ((k:Int)+1)) b<μ s t k a)->g I μ s t k a):
 ∃(I:σ->τ->Int->E->Prop)(μ:σ->τ->Int->E->Nat),I h j 0 d/\∀s t i a,I s t i a->g I μ s t i a:=by
 refine⟨λs t i b=>∃k:Nat,i=k/\k<=n/\Q k s t b,λ_ _ i _=>(n -i).toNat,⟨0,rfl,dH _,m⟩,?_⟩
 rintro s t i a ⟨k,rfl,o,q⟩
 refine l k s t a _ _ o q λf c e b r=>?_
 rw[jW f p]
 exact⟨⟨k+1,rfl,f,r⟩,DI f⟩
def WW(e:List Int)(n:Int)(g:List Int):Prop:=(∀x∈g,x∈e\/x=n)/\g.length<=e.length+1
def Cd{n:Int}(h:∀x∈g,x∈e\/x=n)(b:x∈e\/x=n):∀y∈g++[x],y∈e\/y=n:=by
 intro y a;rcases List.mem_append.1 a with a|a
 .exact h y a
 .simp at a;subst a;exact b
def mF(o:∀h∈S,h<d.size)(w:ap (bH S d) j e)(t:Int)(M:e.length<10^12):k8 277 [O.v j,vi t] d S (WW e t):=by
 apply GO;intro Q;have K:=w.len;refine xe (n:=e.length) (K▸w.gV) (λk s c b=>J d b/\∃g,GI S d b s g/\(∀x∈g,x∈e\/x=t)/\g.length<=k+(if c=true then 1 else 0)) ⟨J.push d _,[],GI.nil S d,aL,ad _⟩ ?_;rintro k s c y I μ P ⟨a,g,p,q,v⟩ D
 have N:g.length<=k+1:=by split at v<;>omega
 refine dit (λu=>?_) λu=>?_
 .let⟨x,z⟩:=cG e k;have G:∀{b:E},J d b->af b j.D (j.off+k*1)=some (vi x):=λu=>w.MN u z;have B:x∈e\/x=t:=Or.inl (aq z);have A:∀m:Bool,(g++[x]).length<=k+1+(if m=true then 1 else 0)->jO (y.push (.cells (bt [.i x]) aA)) aA [.i 0] 8 s (.mk y.size 0 1 1) λr b=>I r m (cO ((k:Int)+1)) b/\μ r m (cO ((k:Int)+1)) b<μ s c k y:=λm hd=>
   GI.kL p (a.fz []) o V λr C i f _ _=>D V _ _ _ ⟨f.ext,_,i,Cd q B,hd⟩
  refine⟨λl=>⟨V,V,x,G a,λF=>⟨V,V,x,G a,λH=>?_,λH=>⟨V,V,x,G a,A true bF⟩⟩,λF=>⟨V,V,x,G a,A c ?_⟩⟩,λl=>⟨V,V,x,G a,A c ?_⟩⟩
  .have hd:c=false:=by simpa using l
   subst hd;simp at v;intro L;refine GI.kL p (a.fz []) o V λr C i f _ _=>⟨V,V,x,G f.ext,?_⟩;intro R;exact GI.kL i f o bF λr T i f _ _=>D V _ _ _ ⟨f.ext,_,i,Cd (Cd q (Or.inr rfl)) B,bF⟩
  .simp only[be,aZ,eW];omega
  .simp only[be,aZ,eW];omega
 .refine⟨λl=>?_,λl=>⟨s,g,rfl,p,⟨q,V⟩,a⟩⟩;have hd:c=false:=by simpa using l
  subst hd;simp at v;intro L;exact GI.kL p (a.fz []) o V λr C i f _ _=>⟨r,_,rfl,i,⟨Cd q (Or.inr rfl),bF⟩,f.ext⟩
def sF(y:∀h∈S,h<d.size)(l:ap (bH S d) j e)(B:Int)(C:e.length<=10^12):k8 273 [O.v j,vi B] d S (pB e):=by
 apply wR;intro F;have z:=l.len;refine xe (n:=e.length) (z▸l.gV) (λk s _ a=>J d a/\∃g,GI S d a s g/\(∀x∈g,x∈e)/\g.length<=k) ⟨J.push d _,[],GI.nil S d,aL,ad _⟩ ?_;rintro k s c o I μ E ⟨b,g,i,m,D⟩ q
 refine dit (λu=>?_) λu=>?_
 .let⟨x,p⟩:=cG e k;have G:=l.MN b p;have A:jO (o.push (.cells (bt [.i x]) aA)) aA [.i 0] 8 s (.mk o.size 0 1 1) λr a=>I r c (cO ((k:Int)+1)) a/\μ r c (cO ((k:Int)+1)) a<μ s c k o:=
   GI.kL i (b.fz []) y V λr H t f _ _=>q V _ _ _ ⟨f.ext,_,t,pb m (aq p),bF⟩
  exact⟨V,V,x,G,λv=>⟨λw=>q V _ _ _ ⟨b,g,i,m,V⟩,λw=>⟨V,V,x,G,A⟩⟩,λv=>⟨V,V,x,G,A⟩⟩
 .exact⟨s,g,rfl,i,⟨m,V⟩,b⟩
def Pe(f:∀h∈S,h<d.size)(v:ap (bH S d) a e)(i:ap (bH S d) h p)(j:e.length+p.length<=10^12):k8 291 [O.v a,O.v h] d S (λg=>(∀x∈g,x∈e\/x∈p)/\g.length<=e.length+p.length):=by
 apply Jb;refine(mr f v V).then λM _ G u r C=>⟨_,rfl,?_⟩;subst r;have w:=i.len;refine ez (n:=p.length) (w▸i.gV) (λk s b=>J d b/\∃g,GI S d b s g/\(∀x∈g,x∈e\/x∈p)/\g.length<=e.length+k) ⟨C,_,u,λx c=>Or.inl c,ad _⟩ ?_;rintro k s H I μ F ⟨c,g,l,m,E⟩ B
 refine dit (λb=>?_) λb=>?_
 .let⟨x,o⟩:=cG p k;refine⟨V,V,x,i.MN c o,?_⟩;refine(mF (λh j=>aO (f h j) c.size) (l.done f V) x V).then λL A K t q D=>⟨_,rfl,B V _ _ ⟨c.trans D,A,t.cv (λ_ b=>b) c.size,λy z=>?_,oh q.2⟩⟩;rcases q.1 y z with b|b
  .exact m y b
  .subst b;exact Or.inr (aq o)
 .exact⟨s,g,rfl,l,⟨m,V⟩,c⟩
def tK(a:Int)(d:E):dt cq 310 [vi a] d (14<=a/\a<=17):=by
 apply ze;exact(aX _ _ _ _).then λh e c b=>⟨_,rfl,eU c b⟩
def eO(c:∀h∈S,h<d.size){hO:O}{a:List Int}(m:ap (bH S d) j e)(n:ap (bH S d) hO a)(l:e.length+a.length<=10^12):k8 187 [O.v j,O.v hO] d S (e++a=·):=by
 apply uS;refine(mr c m V).then λq _ p b i g=>⟨_,rfl,?_⟩;subst i;exact GI.all b (g.fz []) c (n.le (tr g b.bh.1)) l λr o k f _ _=>⟨r,_,rfl,k,rfl,f.ext⟩
def sa(t:∀h∈S,h<d.size)(l:ap (bH S d) j e)(a:Nat)(w:a+e.length<=10^12):k8 220 [O.v j,vi a] d S (λg=>(∀x∈g,(a:Int)<=x/\x<a+e.length)/\g.length<=e.length):=by
 apply CX;intro B;have u:=l.len;refine ez (n:=e.length) (u▸l.gV) (λk s b=>J d b/\∃g,GI S d b s g/\(∀x∈g,(a:Int)<=x/\x<a+e.length)/\g.length<=k) ⟨J.push d _,[],GI.nil S d,aL,ad _⟩ ?_;rintro k s C I μ A ⟨c,g,i,m,z⟩ o
 refine dit (λq=>?_) λq=>?_
 .let⟨x,v⟩:=cG e k;refine⟨V,V,x,l.MN c v,λr=>?_,λr=>o V _ _ ⟨c,g,i,m,V⟩⟩;rw[aP (b:=(a:Int)+k) V V];intro D;refine GI.kL i (c.fz []) t V λF E p f _ _=>o V _ _ ⟨f.ext,_,p,?_,bF⟩
  intro y b;rcases List.mem_append.1 b with b|b
  .exact m y b
  .simp at b;omega
 .exact⟨s,g,rfl,i,⟨m,V⟩,c⟩
def lY(o:∀h∈S,h<d.size)(a b:Nat)(q:a+b<=10^12):k8 203 [vi a,vi b] d S (λg=>(∀x∈g,(a:Int)<=x/\x<a+b)/\g.length=b):=by
 apply xQ;intro u;refine ez (n:=b) V (λk s c=>J d c/\∃g,GI S d c s g/\(∀x∈g,(a:Int)<=x/\x<a+b)/\g.length=k) ⟨J.push d _,[],GI.nil S d,aL,rfl⟩ ?_;rintro k s v I μ t ⟨j,g,e,i,r⟩ p
 refine dit (λm=>?_) λm=>?_
 .rw[aP (b:=(a:Int)+k) V V];intro w;refine GI.kL e (j.fz []) o V λA z l f _ _=>p V _ _ ⟨f.ext,_,l,?_,bF⟩
  intro y c;rcases List.mem_append.1 c with c|c
  .exact i y c
  .simp at c;omega
 .exact⟨s,g,rfl,e,⟨i,V⟩,j⟩
def HP(e:List Int):(e.map λx=>[Ce.i x]).flatten=e.map Ce.i:=by induction e<;>simp_all
def GI.set{S X:List Nat}{p d:E}{s:O}{e:List Int}(t:GI S p d s e)(M:Fz X p d){k:Nat}(B:k<e.length)(n:Int):
 fL d s.D (s.off+k*1) 1/\GI S p (ah d s.D (s.off+k*1) [.i n]) s (e.set k n)/\Fz X p (ah d s.D (s.off+k*1) [.i n])/\(∀h,h≠s.D->(ah d s.D (s.off+k*1) [.i n])[h]? =d[h]?):=by
 have R:=t.bh
 have T:=t.len bn
 let⟨v,j,I,g⟩:=t
 have Q:∀h,h≠s.D->(ah d s.D (s.off+k*1) [.i n])[h]? =d[h]? :=λh L=>bd _ _ _ _ L
 let⟨h,D,tail,q,F,u,G,H⟩:=I.aG.resolve_left v
 have N:j.flatten.length=e.length:=by rw[cw g.size,g.len];omega
 have P:j.flatten=e.map Ce.i:=by
  apply gX;intro f;rcases aW f e.length with a|a
  .let⟨x,l⟩:=dB a;let⟨cs,y⟩:=cG j f (by rw[g.len];exact a);have z:cs=[.i x]:=g.dz f cs x y l;have w:=fY (g:=1) g.size y (i:=0) (c:=.i x) (by rw[z];rfl);simp only[eR,jH]at w;rw[w];simp[l]
  .rw[cN V,cN (by simpa using a)]
 have C:s.off+k*1=k:=by rw[q];simp
 have w:s.D=h:=by rw[q];rfl
 refine⟨?_,⟨v,(e.set k n).map λx=>[.i x],⟨?_,Or.inr ⟨h,D,tail,q,F,?_,?_,H⟩⟩,⟨by rw[dY],λcs y=>?_,λU cs x A l=>?_⟩⟩,M.ah (Or.inr R.1) _ _,Q⟩
 .rw[C,w]
  exact u.fL (by simp only[be,aZ,eW];omega)
 .rw[HP,dY,dZ];omega
 .have J:=cD.ah (m:=d) (b:=h) (r:=[.i n]) (o:=k) u
  rw[C,w,HP]
  have K:je (j.flatten++tail) k [.i n]=(e.set k n).map Ce.i++tail:=by
   apply gX;intro f;rw[wt,P];by_cases z:f=k
   .subst z;rw[an ⟨ad _,aL,bF⟩,ax (by simpa using B)];simp[B]
   .rw[ae bF];rcases aW f e.length with a|a
    .rw[ax (by simpa using a),ax (by simpa using a)];simp only[cJ,cr (kG z)]
    .rw[aJ (by simpa using a),aJ (by simpa using a)];simp
  rw[<-K];exact J
 .rw[<-G,HP]
  simp only[be,N,dY,dZ]
 .simp only[Xt]at y
  obtain⟨x,_,rfl⟩:=y
  rfl
 .simp only[cJ,l,nX,DU]at A
  exact A.symm
def uX(k:∀h∈S,h<d.size)(o:ap (bH S d) j e)(m:e.length<=10^12){a:Nat}(l:a<e.length)(n:Int):k8 235 [O.v j,vi a,vi n] d S (e.set a n=·):=by
 apply zC;refine(mr k o m).then λs _ q g b p=>⟨_,rfl,V,?_,?_⟩
 .subst b;have:=g.len bn;omega
 subst b;obtain⟨c,f,i,_⟩:=g.set (p.fz []) l n;exact⟨c,s,_,rfl,f,rfl,i.ext⟩
end
end Go.Proofs.YtkoifinbblcbiaaGreat
section
namespace Go.Vc
variable{l:List cU}{k d a:Nat}{x s:cU}{c:Prop}
open Go.Proofs.YtkoifinbblcbiaaGreat
def Bk.ind{Q:Bk->Prop}(h:∀aB r,(∀s∈aB,∀b∈s.bC,Q b)->Q (.mk aB r)):∀b,Q b
 | .mk aB r=>h aB r λs _ b _=>Bk.ind h b
termination_by b=>SizeOf.sizeOf b
decreasing_by
 rename_i a c
 have d:=oT a
 have e:=oT c
 have f:SizeOf.sizeOf s.bC<SizeOf.sizeOf s:=by cases s;simp;omega
 simp;omega
def Ex.ind{Q:Ex->Prop}(h:∀a bQ bC,(∀e∈bC,Q e)->Q (.mk a bQ bC)):∀e,Q e
 | .mk a bQ bC=>h a bQ bC λe _=>Ex.ind h e
termination_by e=>SizeOf.sizeOf e
decreasing_by
 rename_i a
 have b:=oT a
 simp;omega
def sw(l:List cU):Nat:=(l.map MG.w).sum
def bw(l:List Bk):Nat:=(l.map Bk.w).sum
def en(l:List Ex):Nat:=(l.map Ex.n).sum
@[simp] theorem vC:sw []=0:=rfl
@[simp] theorem zS:bw []=0:=rfl
@[simp] theorem Xb:en []=0:=rfl
def mN(x:cU)(l:List cU):sw (x::l)=x.w+sw l:=by simp[sw]
def uG(x:Bk)(l:List Bk):bw (x::l)=x.w+bw l:=by simp[bw]
def OH(x:Ex)(l:List Ex):en (x::l)=x.n+en l:=by simp[en]
def dC(a b:List cU):sw (a++b)=sw a+sw b:=by simp[sw]
def oY(a b:List Bk):bw (a++b)=bw a+bw b:=by simp[bw]
def NK(a b:List Ex):en (a++b)=en a+en b:=by simp[en]
def Bk.qQ(s:List cU)(r:Int):(Bk.mk s r).w=1+sw s:=Bk.Zb _
def Bk.mu(b:Bk):b.w=1+sw b.aB:=Bk.Zb b
def cU.mu(s:cU):s.w=1+s.args.length+bw s.bC:=rfl
def Ex.SF(o n:Int)(k:List Ex):(Ex.mk o n k).n=1+en k:=by rw[Ex.n];rfl
def Ex.Yy(e:Ex):e.n=1+en e.bC:=by cases e;exact Ex.SF _ _ _
def p7(h:l[k]? =some x):sw (l.take (k+1))=sw (l.take k)+x.w:=by rw[aU h,dC,mN,vC];rfl
def uH{l:List Bk}{x:Bk}(h:l[k]? =some x):bw (l.take (k+1))=bw (l.take k)+x.w:=by rw[aU h,oY,uG,zS];rfl
def Kv{l:List Ex}{x:Ex}(h:l[k]? =some x):en (l.take (k+1))=en (l.take k)+x.n:=by rw[aU h,NK,OH,Xb];rfl
def BP(l:List cU)(k:Nat):sw (l.take k)<=sw l:=by
 have:=dC (l.take k) (l.drop k);rw[dk]at this;omega
def KO(l:List Bk)(k:Nat):bw (l.take k)<=bw l:=by
 have:=oY (l.take k) (l.drop k);rw[dk]at this;omega
def RN(l:List Ex)(k:Nat):en (l.take k)<=en l:=by
 have:=NK (l.take k) (l.drop k);rw[dk]at this;omega
def Pg(h:l[k]? =some x):x.w<=sw l:=by
 have:=p7 h;have:=BP l (k+1);omega
def wX{l:List Bk}{x:Bk}(h:l[k]? =some x):x.w<=bw l:=by
 have:=uH h;have:=KO l (k+1);omega
def gB:∀l:List cU,l.length<=sw l
 |[]=>aL
 |x::l=>by have:=gB l;rw[mN,aZ,cU.mu];omega
def Bk.Ht(b:Bk):1<=b.w:=by rw[Bk.mu];omega
def qy:∀l:List Bk,l.length<=bw l
 |[]=>aL
 |x::l=>by have:=qy l;have:=x.Ht;rw[uG,aZ];omega
def QT:∀l:List Ex,l.length<=en l
 |[]=>aL
 |x::l=>by have:=QT l;rw[OH,aZ,Ex.Yy];omega
def px(a:Int):Prop:=0<=a/\a<=11
instance(a:Int):Decidable (px a):=inferInstanceAs (Decidable (_/\_))
def dn(s:cU):Nat:=if px s.op then 1 else 0
def dc(l:List cU):Nat:=(l.map dn).sum
@[simp] theorem tp:dc []=0:=rfl
def kN(x:cU)(l:List cU):dc (x::l)=dn x+dc l:=by simp[dc]
def cV(a b:List cU):dc (a++b)=dc a+dc b:=by simp[dc]
def qV(h:l[k]? =some x):dc (l.take (k+1))=dc (l.take k)+dn x:=by rw[aU h,cV,kN,tp];rfl
def TC(l:List cU)(k:Nat):dc (l.take k)<=dc l:=by
 have:=cV (l.take k) (l.drop k);rw[dk]at this;omega
def Yf(x:cU):dn x<=1:=by unfold dn;split<;>omega
def tn:∀l:List cU,dc l<=l.length
 |[]=>aL
 |x::l=>by have:=tn l;have:=Yf x;rw[kN,aZ];omega
def BY(a:List bz)(b bQ:Int)(i:Nat):Nat:=if b=8 then(cB a (((cy a bQ)[i]?).getD 0)).length else 0
structure UG(ds:List bz)(d:Nat)(c:Prop)(a:Nat)(s:cU):Prop where
 op:px s.op\/c/\14<=s.op/\s.op<=17
 args:∀x∈s.args,0<=x/\x<(a:Int)
 lM:14<=s.op\/s.op=7\/s.op=8->s.args.length=1
 bZ:0<=s.bZ/\s.bZ<=(a:Int)
 Kr:s.op=7->s.bC.length=2
 all:s.op=8->s.bC.length=(cy ds s.bQ).length/\0<s.bC.length
 call:s.op=9->0<=s.bQ/\s.bQ<(d:Int)
inductive WB(ds:List bz)(d:Nat)(c:Prop):Nat->Bk->Prop
 |mk {a:Nat} {aB:List cU} {r:Int} (fe:∀(i:Nat)(s:cU),aB[i]? =some s->UG ds d c (a+dc (aB.take i)) s)
  (bC:∀(i:Nat)(s:cU)(k:Nat)(b:Bk),aB[i]? =some s->s.bC[k]? =some b->WB ds d c (a+dc (aB.take i)+BY ds s.op s.bQ k) b)
  (res:0<=r/\r<((a+dc aB:Nat):Int)):WB ds d c a (.mk aB r)
structure WS(ds:List bz)(d:Nat)(c:Prop)(a:Nat)(s:cU):Prop where
 fe:UG ds d c a s
 bC:∀(k:Nat)(b:Bk),s.bC[k]? =some b->WB ds d c (a+BY ds s.op s.bQ k) b
def WL(b:List bz)(d:Nat)(c:Prop)(a:Nat)(l:List cU):Prop:=∀(i:Nat)(s:cU),l[i]? =some s->WS b d c (a+dc (l.take i)) s
def WB.aS{e:List bz}{b:Bk}(h:WB e d c a b):WL e d c a b.aB/\0<=b.aT/\b.aT<((a+dc b.aB:Nat):Int):=by
 cases h with
 |mk fe bC j=>exact⟨λi s f=>⟨fe i s f,λk b g=>bC i s k b f g⟩,j⟩
def WB.of{e:List bz}{aB:List cU}{r:Int}(h:WL e d c a aB)(j:0<=r/\r<((a+dc aB:Nat):Int)):WB e d c a (.mk aB r):=
 .mk (λi s b=>(h i s b).fe) (λi s k f b g=>(h i s b).bC k f g) j
def WL.nil(b:List bz)(d:Nat)(c:Prop)(a:Nat):WL b d c a []:=λi s h=>by simp at h
def WL.append{f:List bz}{g:List cU}(h:WL f d c a l)(j:WL f d c (a+dc l) g):WL f d c a (l++g):=λi s e=>by
 rcases aW i l.length with b|b
 .rw[ax b]at e;rw[ny V];exact h i s e
 .rw[aJ b]at e;have:=j _ s e;rw[List.take_append,nG b,cV,<-di];exact this
def WL.lM{e:List bz}(h:WS e d c a s):WL e d c a [s]:=λi x b=>by
 have:i=0:=by have:=aw b;simp at this;omega
 subst this;simp at b;subst b;simpa using h
def WL.yV{b:List bz}(h:WL b d c a l)(e:WS b d c (a+dc l) s):WL b d c a (l++[s]):=h.append (.lM e)
def WL.take{e:List bz}(h:WL e d c a l)(k:Nat):WL e d c a (l.take k):=λi s b=>by
 rw[lH]at b;split at b
 .rw[MB,jf V];exact h i s b
 .simp at b
def WL.drop{b:List bz}(h:WL b d c a l)(k:Nat):WL b d c (a+dc (l.take k)) (l.drop k):=λi s e=>by
 rw[sA]at e;have:=h _ s e;rw[List.take_add,cV,<-di]at this;exact this
end Go.Vc
end
namespace Go.Proofs.YtkoifinbblcbiaaGreat
open Go.Vc
section
variable{m:E}{d p:O}{b:cT}
def vO(b:cT)(bQ:Int)(n:Nat):Prop:=∃q:dy,0<=bQ/\b.cF[bQ.toNat]? =some q/\q.params.length=n
def Ur:cO 9223372036854775808= -9223372036854775808:=bn
def wO(h:fg m d p b)(bQ:Int)(n hO:Nat)(I:n<=9223372036854775807)(H:hO<=1):
 dt cq 200 [.agg #[O.v d,O.v p],vi bQ,vi n,vi hO] m (vO b bQ (n+hO)):=by
 apply Dj
 simp -zeta only[aD,aC]
 intro j
 have i:J m j:=(J.az m).aK _
 have w:∀k∈[m.size],k<j.size:=by simp[j]
 have K:=h.cF.len
 have L:=h.cF.gV
 refine(aX _ _ _ _).aH (J.az _) w λk M o f B=>⟨_,rfl,λa=>?_,λa=>?_⟩
 .have a:=o.1 a
  rw[aP V V]at a
  let⟨q,g⟩:=cG b.cF bQ.toNat
  let⟨e,x,y,l,D,E,s,g1,g2,z,A⟩:=(iK.ext (i.trans f) h.cF).aG g
  refine⟨V,V,e,s,eU ?_ (i.trans f)⟩
  have u:=l.len
  have C:=l.gV
  simp only[aI]
  have r:(e.len:Int)=cO ((n:Int)+(hO:Int))<->e.len=n+hO:=by
   rcases aW (n+hO) 9223372036854775808 with G|F
   .rw[aP V V];omega
   .have c:(n:Int)+(hO:Int)=9223372036854775808:=V;rw[c,Ur];omega
  rw[r,u]
  exact⟨λv=>⟨q,a.1,g,v⟩,λ⟨N,_,c,t⟩=>by rw[g]at c;simp at c;rw[c];exact t⟩
 .refine bV (λ⟨q,e,c,_⟩=>fb o a ?_) (i.trans f)
  have:=aw c
  rw[aP V V]
  omega
def mf(b:cT)(p:dy)(k:Nat)(i:Instr):Prop:=
 if i.op=0 then i.args.length=0/\-999<=i.bQ/\i.bQ<=999
 else if i.op=1\/i.op=2\/i.op=3\/i.op=4\/i.op=11 then i.args.length=2/\i.bQ=0
 else if i.op=5\/i.op=14\/i.op=15\/i.op=18\/i.op=23 then i.args.length=1/\i.bQ=0
 else if i.op=6 then(0<=i.bQ/\i.bQ<(eS b.bo).length)/\i.args.length=(cB b.bo i.bQ).length/\0<=i.bZ/\i.bZ<=p.ak
 else if i.op=9\/i.op=24 then vO b i.bQ i.args.length
 else if i.op=10 then vO b i.bQ (i.args.length+1)/\∀q,b.cF[i.bQ.toNat]? =some q->q.cR.length=0
 else if i.op=16\/i.op=17 then(1<=i.args.length/\i.args.length<=4)/\i.bQ=0
 else if i.op=19 then i.args.length=1/\0<=i.bQ/\i.bQ<=2
 else if i.op=20 then i.args.length=1/\(k:Int)+1<=i.bQ/\i.bQ<=(p.dp.length:Int) -1
 else if i.op=22 then i.args.length=0/\(k:Int)+1<=i.bQ/\i.bQ<=(p.dp.length:Int) -1
 else if i.op=21 then i.args.length=1/\0<(cy b.bo i.bQ).length/\Ot i.eM (cy b.bo i.bQ).length k p.dp.length
 else False
structure iS(b:cT)(p:dy)(k:Nat)(i:Instr):Prop where
 args:∀a∈i.args,0<=a/\a<=p.ak -1
 dst:0<=i.dst/\i.dst<=p.ak -1
 Yg:i.dst=0\/lR i.op
 bZ:i.bZ=0\/i.op=6
 eM:i.op=21\/i.eM.length=0
 op:mf b p k i
structure PA(m:E)(a l:O)(c:O)(p:dy):Prop where
 params:ap m a p.params
 cR:ap m l p.cR
 dp:fj m c p.dp
def PA.ext{m d:E}(a:J m d){b l c:O}{p:dy}(h:PA m b l c p):PA d b l c p:=⟨h.params.ext a,h.cR.ext a,fj.ext a h.dp⟩
def Fg(ai:fg m d p b)(X:dS b.bo){ab ah S:O}{q:dy}(U:PA m ab ah S q)(hr:1<=q.ak/\q.ak<=2000){k:Nat}{i:Instr}(hk:q.dp[k]? =some i):
 dt cq 158 [.agg #[O.v d,O.v p],.agg #[O.v ab,O.v ah,vi q.aT,vi q.ak,O.v S],vi k] m (iS b q k i):=by
 apply zt
 simp -zeta only[aD,aC]
 intro m1 N
 have Z:J m N:=((J.az m).aK _).aK _
 have aJ:=aw hk
 have ac:=U.dp.len
 have aF:=U.dp.gV
 let⟨xa,M,P,hj,g0,g1,g2,g3,g4,g5⟩:=(fj.ext Z U.dp).aG hk
 refine⟨V,V,_,g0,_,g1,_,g2,_,g3,_,g4,_,g5,?_⟩
 intro m3 z
 have r:J m z:=(Z.aK _).ah Z.size _ _
 have ag:J N z:=((J.az N).aK _).ah (ad _) _ _
 have v:∀A∈[N.size,m1.size,m.size],A<z.size:=by
  simp[z,m3,N,m1,av];omega
 clear_value z
 have T:=P.len
 have aH:=hj.len
 have aA:=P.gV
 have er:cO (q.ak -1)=q.ak -1:=aP V V
 rw[er]
 refine dT (n:=i.args.length) (T▸P.gV) (λaa s=>J z s/\∀x∈i.args.take aa,0<=x/\x<=q.ak -1) ⟨J.az _,aL⟩ ?_
 rintro aa m5 ay μ aG ⟨Y,hn⟩ au
 refine dit (λh1=>?_) λh1=>?_
 .let⟨x,a⟩:=cG i.args aa
  refine⟨V,V,x,by simpa using(ag.trans Y).af (P.aG a),?_⟩
  exact(aX _ _ _ _).aH Y v λA w e g f=>⟨_,rfl,λc=>bV (λh=>nb e c (h.args x (aq a))) (r.trans f),λc=>au V _ ⟨f,bB a hn (yb e c)⟩⟩
 .have ak:=db V hn
  refine⟨λs=>J z s/\(0<=i.dst/\i.dst<=q.ak -1)/\(i.dst=0\/lR i.op)/\(i.bZ=0\/i.op=6)/\(i.op=21\/i.eM.length=0),?_,?_⟩
  .refine(aX _ _ _ _).aH Y v λA w e g f=>⟨_,rfl,λc=>bV (λh=>nb e c h.dst) (r.trans f),λc=>?_⟩
   have R:=yb e c
   have tail:∀s:E,J z s->(i.dst=0\/lR i.op)->
    ((i.bZ !=0)=true->((i.op !=6)=true->∃B:Bool,vb false=.bool B/\(B=true<->iS b q k i)/\J m s)/\((i.op !=6)=false->
     ((i.op !=21)=true->((decide ((M.len:Int)>0))=true->∃B:Bool,vb false=.bool B/\(B=true<->iS b q k i)/\J m s)/\((decide ((M.len:Int)>0))=false->J z s/\(0<=i.dst/\i.dst<=q.ak -1)/\(i.dst=0\/lR i.op)/\(i.bZ=0\/i.op=6)/\(i.op=21\/i.eM.length=0)))/\
     ((i.op !=21)=false->J z s/\(0<=i.dst/\i.dst<=q.ak -1)/\(i.dst=0\/lR i.op)/\(i.bZ=0\/i.op=6)/\(i.op=21\/i.eM.length=0))))/\
    ((i.bZ !=0)=false->
     ((i.op !=21)=true->((decide ((M.len:Int)>0))=true->∃B:Bool,vb false=.bool B/\(B=true<->iS b q k i)/\J m s)/\((decide ((M.len:Int)>0))=false->J z s/\(0<=i.dst/\i.dst<=q.ak -1)/\(i.dst=0\/lR i.op)/\(i.bZ=0\/i.op=6)/\(i.op=21\/i.eM.length=0)))/\
     ((i.op !=21)=false->J z s/\(0<=i.dst/\i.dst<=q.ak -1)/\(i.dst=0\/lR i.op)/\(i.bZ=0\/i.op=6)/\(i.op=21\/i.eM.length=0))):=by
    intro s l Q
    have u:(i.bZ=0\/i.op=6)->((i.op !=21)=true->((decide ((M.len:Int)>0))=true->∃B:Bool,vb false=.bool B/\(B=true<->iS b q k i)/\J m s)/\((decide ((M.len:Int)>0))=false->J z s/\(0<=i.dst/\i.dst<=q.ak -1)/\(i.dst=0\/lR i.op)/\(i.bZ=0\/i.op=6)/\(i.op=21\/i.eM.length=0)))/\
     ((i.op !=21)=false->J z s/\(0<=i.dst/\i.dst<=q.ak -1)/\(i.dst=0\/lR i.op)/\(i.bZ=0\/i.op=6)/\(i.op=21\/i.eM.length=0)):=by
     intro t
     refine⟨λa=>⟨λj=>?_,λj=>?_⟩,λa=>?_⟩
     .simp at a j
      exact bV (λh=>by rcases h.eM with o|o<;>omega) (r.trans l)
     .simp at j
      exact⟨l,R,Q,t,Or.inr V⟩
     .simp at a
      exact⟨l,R,Q,t,Or.inl a⟩
    refine⟨λa=>⟨λj=>?_,λj=>u (Or.inr (by simpa using j))⟩,λa=>u (Or.inl (by simpa using a))⟩
    simp at a j
    exact bV (λh=>by rcases h.bZ with o|o<;>contradiction) (r.trans l)
   refine⟨λa=>?_,λa=>tail w f (Or.inl (by simpa using a))⟩
   refine(xT _ _).aH f v λA x e j o=>⟨_,rfl,λG=>?_,λG=>tail x o (Or.inr (yb e G))⟩
   simp at a
   exact bV (λh=>by rcases h.Yg with I|I;exact a I;exact nb e G I) (r.trans o)
  .rintro m8 ⟨x,R,Q,ao,ap⟩
   have y:=r.trans x
   have am:iS b q k i<->mf b q k i:=⟨λh=>h.op,λh=>⟨ak,R,Q,ao,ap,h⟩⟩
   rw[am]
   have K:fg m8 d p b:=fg.ext y ai
   refine⟨λt=>?_,λt=>?_⟩
   .simp only[aI]at t
    have h:mf b q k i<->i.args.length=0/\-999<=i.bQ/\i.bQ<=999:=by rw[mf,an t]
    rw[h]
    refine⟨λg=>?_,λg=>?_⟩
    .simp only[aI]at g
     refine(aX _ _ _ _).aH x v λA H e f c=>⟨_,rfl,eU ?_ (r.trans c)⟩
     rw[e];omega
    .simp only[aj]at g
     exact bV V y
   simp only[aj]at t
   refine⟨λu=>?_,λu=>?_⟩
   .simp only[bR,aI]at u
    have h:mf b q k i<->i.args.length=2/\i.bQ=0:=by rw[mf,ae t,an u]
    rw[h]
    refine⟨λg=>eU ?_ y,λg=>bV ?_ y⟩
    .simp only[aI]at g⊢;omega
    .simp only[aj]at g;omega
   simp only[br,aj]at u
   replace u:¬(i.op=1\/i.op=2\/i.op=3\/i.op=4\/i.op=11):=V
   refine⟨λw=>?_,λw=>?_⟩
   .simp only[bR,aI]at w
    have h:mf b q k i<->i.args.length=1/\i.bQ=0:=by rw[mf,ae t,ae u,an w]
    rw[h]
    refine⟨λg=>eU ?_ y,λg=>bV ?_ y⟩
    .simp only[aI]at g⊢;omega
    .simp only[aj]at g;omega
   simp only[br,aj]at w
   replace w:¬(i.op=5\/i.op=14\/i.op=15\/i.op=18\/i.op=23):=V
   refine⟨λC=>?_,λC=>?_⟩
   .simp only[aI]at C
    have h:mf b q k i<->(0<=i.bQ/\i.bQ<(eS b.bo).length)/\i.args.length=(cB b.bo i.bQ).length/\0<=i.bZ/\i.bZ<=q.ak:=by rw[mf,ae t,ae u,ae w,an C]
    rw[h]
    refine(mq K.bo X _).aH x v ?_
    rintro _ H ⟨aB,rfl,D,f⟩
    refine⟨f,_,rfl,dit (λc=>?_) λc=>?_⟩
    .have al:0<=i.bQ/\i.bQ<(eS b.bo).length:=by
      rcases D with⟨F,L,a,j,o,G⟩|⟨a,_⟩
      .have:=RO b.bo (show F+1<=b.bo.length from aw j);rw[sL j,mU b.bo _ (ad _)]at this;omega
      .omega
     refine(GF (cx.ext f K.bo) X _).aH (x.trans f) v ?_
     rintro _ ar ⟨ax,rfl,W,a⟩
     have af:=W.len
     refine⟨a,_,rfl,λj=>?_,λj=>?_⟩
     .simp only[aI]at j
      refine(aX _ _ _ _).aH ((x.trans f).trans a) v λA az e o G=>⟨_,rfl,eU ?_ (r.trans G)⟩
      rw[e]
      exact⟨λl=>⟨al,V,l⟩,λl=>l.2.2⟩
     .simp only[aj]at j
      exact bV (λl=>j V) ((y.trans f).trans a)
    .refine bV (λl=>?_) (y.trans f)
     rcases D with⟨F,L,a,j,o,G⟩|⟨_,a⟩
     .omega
     .exact a l.1
   simp only[aj]at C
   refine⟨λD=>?_,λD=>?_⟩
   .simp only[bR,aI]at D
    have h:mf b q k i<->vO b i.bQ (i.args.length+0):=by rw[mf,ae t,ae u,ae w,ae C,an D];rfl
    rw[h]
    have L:=wO K i.bQ i.args.length 0 V V
    rw[T]
    refine L.aH x v λA H e f c=>⟨_,rfl,eU e (r.trans c)⟩
   simp only[br,aj]at D
   replace D:¬(i.op=9\/i.op=24):=V
   refine⟨λF=>?_,λF=>?_⟩
   .simp only[aI]at F
    have h:mf b q k i<->vO b i.bQ (i.args.length+1)/\∀q,b.cF[i.bQ.toNat]? =some q->q.cR.length=0:=by rw[mf,ae t,ae u,ae w,ae C,ae D,an F]
    rw[h]
    have L:=wO K i.bQ i.args.length 1 V V
    rw[T]
    refine L.aH x v λA H e f c=>⟨_,rfl,λa=>?_,λa=>bV (λl=>fb e a l.1) (r.trans c)⟩
    let⟨q',j,o,G⟩:=(e.1 a)
    let⟨a',B,c',az,al,aE,f0,f1,f2,f3,f4⟩:=(iK.ext f K.cF).aG o
    have:=K.cF.len
    have:=aw o
    refine⟨V,V,B,f1,eU ?_ (r.trans c)⟩
    have aB:=al.len
    simp only[aI]
    refine⟨λl=>⟨⟨q',j,o,G⟩,λaK I=>?_⟩,λl=>?_⟩
    .rw[o]at I;simp at I;subst I;omega
    .have:=l.2 q' o;omega
   simp only[aj]at F
   refine⟨λB=>?_,λB=>?_⟩
   .simp only[bR,aI]at B
    have h:mf b q k i<->(1<=i.args.length/\i.args.length<=4)/\i.bQ=0:=by rw[mf,ae t,ae u,ae w,ae C,ae D,ae F,an B]
    rw[h]
    refine(aX _ _ _ _).aH x v λA H e f c=>⟨_,rfl,λa=>eU ?_ (r.trans c),λa=>bV ?_ (r.trans c)⟩
    .have a:=e.1 a
     simp only[aI];omega
    .have a:=fb e a;omega
   simp only[br,aj]at B
   replace B:¬(i.op=16\/i.op=17):=V
   refine⟨λG=>?_,λG=>?_⟩
   .simp only[aI]at G
    have h:mf b q k i<->i.args.length=1/\0<=i.bQ/\i.bQ<=2:=by rw[mf,ae t,ae u,ae w,ae C,ae D,ae F,ae B,an G]
    rw[h]
    refine⟨λg=>?_,λg=>?_⟩
    .simp only[aI]at g
     refine(aX _ _ _ _).aH x v λA H e f c=>⟨_,rfl,eU ?_ (r.trans c)⟩
     rw[e];omega
    .simp only[aj]at g
     exact bV V y
   simp only[aj]at G
   have ek:cO ((k:Int)+1)=(k:Int)+1:=aP V V
   have ec:cO ((S.len:Int) -1)=(q.dp.length:Int) -1:=by rw[aP V V,ac]
   rw[ek,ec]
   refine⟨λI=>?_,λI=>?_⟩
   .simp only[aI]at I
    have h:mf b q k i<->i.args.length=1/\(k:Int)+1<=i.bQ/\i.bQ<=(q.dp.length:Int) -1:=by rw[mf,ae t,ae u,ae w,ae C,ae D,ae F,ae B,ae G,an I]
    rw[h]
    refine⟨λg=>?_,λg=>?_⟩
    .simp only[aI]at g
     refine(aX _ _ _ _).aH x v λA H e f c=>⟨_,rfl,eU ?_ (r.trans c)⟩
     rw[e];omega
    .simp only[aj]at g
     exact bV V y
   simp only[aj]at I
   refine⟨λL=>?_,λL=>?_⟩
   .simp only[aI]at L
    have h:mf b q k i<->i.args.length=0/\(k:Int)+1<=i.bQ/\i.bQ<=(q.dp.length:Int) -1:=by rw[mf,ae t,ae u,ae w,ae C,ae D,ae F,ae B,ae G,ae I,an L]
    rw[h]
    refine⟨λg=>?_,λg=>?_⟩
    .simp only[aI]at g
     refine(aX _ _ _ _).aH x v λA H e f c=>⟨_,rfl,eU ?_ (r.trans c)⟩
     rw[e];omega
    .simp only[aj]at g
     exact bV V y
   simp only[aj]at L
   refine⟨λg=>?_,λg=>?_⟩
   .simp only[aI]at g
    have h:mf b q k i<->i.args.length=1/\0<(cy b.bo i.bQ).length/\Ot i.eM (cy b.bo i.bQ).length k q.dp.length:=by rw[mf,ae t,ae u,ae w,ae C,ae D,ae F,ae B,ae G,ae I,ae L,an g]
    rw[h]
    refine(AK K.bo X _).aH x v ?_
    rintro _ H ⟨ax,rfl,W,f⟩
    have af:=W.len
    refine⟨f,_,rfl,λc=>?_,λc=>?_⟩
    .simp only[aI]at c
     refine dit (λa=>?_) λa=>?_
     .rw[af,ac]
      refine(Fh (hj.ext (ag.trans (x.trans f))) _ _ _ V V).aH (x.trans f) v λA ar e j o=>⟨_,rfl,eU ?_ (r.trans o)⟩
      rw[e]
      exact⟨λl=>⟨V,V,l⟩,λl=>l.2.2⟩
     .exact bV (λl=>V) (y.trans f)
    .simp only[aj]at c
     exact bV (λl=>V) (y.trans f)
   .simp only[aj]at g
    have h:mf b q k i<->False:=by rw[mf,ae t,ae u,ae w,ae C,ae D,ae F,ae B,ae G,ae I,ae L,ae g]
    rw[h]
    exact bV (λl=>l) y
end
section
variable{a:E}{d p:O}{b:cT}
structure KI(ds:List bz)(ps:List dy):Prop where
 types:dS ds
 len:1<=ps.length/\ps.length<=4
 dz:∀p∈ps,p.params.length<=3/\Fw ds.length p.params/\zJ ds.length p.aT
 first:∀p,ps[0]? =some p->p.params.length=0/\p.aT=0
def oU(a:E)(c:List Ce)(p:dy):Prop:=∃b,c=[.s b,.i p.aT,.i 0,.i 0,.s .nil]/\ap a b p.params
def oU.ext{a d:E}(h:J a d)(b:List Ce)(c:dy):oU a b c->oU d b c:=λ⟨f,e,g⟩=>⟨f,e,g.ext h⟩
def Tf.aG{s:O}{l:List dy}(h:eT a 5 (oU a) s l){k:Nat}{x:dy}(e:l[k]? =some x):
 ∃b,ap a b x.params/\af a s.D (s.off+k*5)=some (O.v b)/\af a s.D (s.off+k*5+1)=some (vi x.aT)/\af a s.D (s.off+k*5+2)=some (vi 0)/\af a s.D (s.off+k*5+3)=some (vi 0)/\af a s.D (s.off+k*5+4)=some (O.v .nil):=by
 obtain⟨f,⟨b,rfl,d⟩,c⟩:=h.iD k x e
 exact⟨b,d,c 0 (.s b) rfl,c 1 (.i x.aT) rfl,c 2 (.i 0) rfl,c 3 (.i 0) rfl,c 4 (.s .nil) rfl⟩
def uW{D:O}{k:List bz}{j:List dy}(hd:cx a d k)(y:eT a 5 (oU a) D j):
 dt cq 84 [.agg #[O.v d,O.v D]] a (KI k j):=by
 apply BN
 simp -zeta only[aD,aC]
 intro q
 have o:J a q:=(J.az a).aK _
 have z:∀g∈[a.size],g<q.size:=by simp[q]
 have m:=hd.len
 have aa:=y.len
 refine(Fk (cx.ext o hd)).aH (J.az _) z λg m2 c N Q=>⟨_,rfl,λv=>bV (λb=>nb c v b.types) (o.trans N),λv=>?_⟩
 have T:=yb c v
 refine(aX _ _ _ _).aH Q z λg m3 c Z H=>⟨_,rfl,λw=>bV (λb=>nb c w (oh b.len)) (o.trans H),λw=>?_⟩
 have ab:=yb c w
 refine dT (n:=j.length) V (λB e=>J q e/\∀p∈j.take B,p.params.length<=3/\Fw k.length p.params/\zJ k.length p.aT) ⟨H,aL⟩ ?_
 rintro B C X μ hj ⟨A,K⟩ W
 have f:=o.trans A
 refine dit (λR=>?_) λR=>?_
 .let⟨p,e⟩:=cG j B
  let⟨M,l,s,g1,g2,E,F⟩:=Tf.aG (y.mono f (oU.ext f)) e
  have S:=l.len
  refine⟨V,V,_,s,_,g1,_,g2,_,E,_,F,?_⟩
  intro L r
  have i:J C r:=((J.az C).aK _).ah (ad _) _ _
  have I:∀g∈[C.size,a.size],g<r.size:=by
   have:=A.lt (z a.size aL);have:=i.size;simp[r,L,av];simp[r,L,av]at this;omega
  refine dit (λh=>?_) λh=>?_
  .exact bV (λb=>oh ((b.dz p (aq e)).1)) (f.trans i)
  refine(wz (l.ext i) _).aH (J.az _) I λg m7 c x P=>⟨_,rfl,λt=>bV (λb=>nb c t (m▸(b.dz p (aq e)).2.1)) ((f.trans i).trans x),λt=>?_⟩
  have U:=yb c t
  refine(aX _ _ _ _).aH P I λg m8 c Y G=>⟨_,rfl,λu=>?_,λu=>?_⟩
  .refine bV (λb=>nb c u ?_) ((f.trans i).trans G)
   rw[m];exact(b.dz p (aq e)).2.2
  .refine W V _ ⟨(A.trans i).trans G,bB e K ⟨V,m▸U,?_⟩⟩
   have:=yb c u
   rw[m]at this;exact this
 .have r:=db V K
  let⟨p,e⟩:=cG j 0
  let⟨M,l,s,g1,g2,E,F⟩:=Tf.aG (y.mono f (oU.ext f)) e
  have S:=l.len
  refine⟨V,V,_,s,λh=>?_,λh=>?_⟩
  .simp only[aI]at h
   refine⟨V,V,_,g1,eU ?_ f⟩
   simp only[aI]
   refine⟨λx=>⟨T,V,r,λt i=>?_⟩,λb=>(b.first p e).2⟩
   rw[e]at i;simp at i;subst i
   exact⟨V,x⟩
  .simp only[aj]at h
   exact bV (λb=>h (oh ((b.first p e).1))) f
def Dp(M:fg a d p b)(ap:b.cF.length<=4):
 aN cq 85 [.agg #[O.v d,O.v p]] a λal j=>∃L,al=.agg #[O.v d,O.v L]/\eT j 5 (oU j) L b.cF/\J a j:=by
 apply xU
 simp -zeta only[aD,aC]
 intro q k e K l
 have aq:=M.cF.len
 have ah:J a K:=(((J.az a).aK _).aK _|>.aK _).aK _
 have s3:e.size=a.size+3:=by simp[e,k,q]
 have s2:k.size=a.size+2:=by simp[k,q]
 have s1:q.size=a.size+1:=by simp[q]
 have s5:l.size=a.size+4:=by simp[l,K,av,s3]
 have ai:J a l:=ah.ah V _ _
 have aa:cD l e.size kK [.s d,.s (.mk k.size 0 0 0)]:=cD.ah (m:=K) (o:=0) (r:=[.s d,.s (.mk k.size 0 0 0)]) (cD.push e _ _)
 have ag:J e l:=((J.az e).aK _).ah (ad _) _ _
 have ae:gY a l fq 5 (.mk k.size 0 0 0) ([]:List (List Ce)).flatten:=
  (gY.new (((J.az a).aK _).aK _:J a k) fq 5 [] 0 aL:gY a e fq 5 (.mk k.size 0 0 0) []).ext ag
 clear_value l
 refine dT (n:=b.cF.length) V (λC j=>J a j/\l.size<=j.size/\∃g w,cD j e.size kK [.s d,.s g]/\gY a j fq 5 g w.flatten/\gS 5 (oU a) w (b.cF.take C)/\g≠.nil/\q.size<g.D/\g.D≠e.size/\g.len=C)
  ⟨ai,ad _,_,[],aa,ae,by simpa using gS.nil 5 (oU a),aL,bF,bF,rfl⟩ ?_
 rintro C z am μ hk ⟨A,ay,g,w,x,P,I,au,ar,af,R⟩ ak
 refine dit (λT=>?_) λT=>?_
 .let⟨D,Q⟩:=cG b.cF C
  let⟨s,c,an,Z,f,hc,S,g1,g2,g3,g4⟩:=M.cF.aG Q
  refine⟨g,x.cp 1,V,V,s,by simpa using A.af S,V,V,_,by simpa using A.af g2,?_⟩
  intro h
  have B:J z h:=J.push _ _
  refine⟨B.da (x.cp 1),?_⟩
  have jw:fR h z.size 0 [.s s,.i D.aT,.i 0,.i 0,.s .nil]:=(cD.push z _ _).iD
  have ac:=x.ext B
  have aw:h.size=z.size+1:=by simp[h]
  clear_value h
  refine gY.append (zs:=[.s .nil,.i 0,.i 0,.i 0,.s .nil]) (d:=[.s s,.i D.aT,.i 0,.i 0,.s .nil]) (P.ext B) (A.trans B) rfl jw (by simp[R];omega) ?_
  intro v t X Y F ao U W
  have E:∀c,c<h.size->c≠g.D->t[c]? =h[c]? :=λc f G=>U c f (λ_=>G)
  have y:q.size<v.D/\v.D≠e.size:=by
   rcases W with⟨_,i⟩|⟨_,i,_⟩|i
   .rw[i]at F;simp at F
   .rw[i];constructor<;>omega
   .rw[i];constructor<;>omega
  have N:cD t e.size kK [.s d,.s g]:=ac.congr (E _ V (λi=>af i.symm))
  refine⟨λc f=>?_,N.fL aL,?_⟩
  .simp at f
   rcases f with rfl|rfl
   .exact E _ V V
   .exact E _ V V
  intro u
  have ax:u.size=t.size:=by simp[u,av]
  have ab:cD u e.size kK [.s d,.s v]:=cD.ah (m:=t) (o:=1) (r:=[.s v]) N
  have H:∀c,c≠e.size->u[c]? =t[c]? :=λc f=>bd _ _ _ _ f
  have aj:J a u:=Y.ah V _ _
  clear_value u
  refine⟨λc f=>?_,?_⟩
  .simp at f
   rcases f with rfl|rfl
   .exact H _ V
   .exact H _ V
  refine ak V _ ⟨aj,V,v,w++[[.s s,.i D.aT,.i 0,.i 0,.s .nil]],ab,?_,?_,?_,y.1,y.2,by simp[F,R]⟩
  .rw[qR]
   exact(by simpa using X:gY a t fq 5 v (w.flatten++[[.s s,.i D.aT,.i 0,.i 0,.s .nil]].flatten)).congr (H _ y.2)
  .rw[aU Q]
   exact I.yV rfl ⟨s,rfl,Z⟩
  .intro i
   rw[i]at y;simp at y
 .refine⟨d,x.cp 0,g,x.cp 1,?_⟩
  intro h
  have G:∀c,c≠q.size->h[c]? =z[c]? :=λc f=>bd _ _ _ _ f
  have i:J a h:=A.ah V _ _
  refine⟨g,rfl,?_,i⟩
  rw[bX V]at I
  exact(eT.gD (P.congr (G _ V)) I V V).mono (J.az _) (oU.ext i)
structure HI(b:cT)(p:dy):Prop where
 cR:DX p.params p.cR
 ak:(p.params.length:Int)<=p.ak/\1<=p.ak/\p.ak<=2000
 len:1<=p.dp.length/\p.dp.length<=2000
 dz:∀(k:Nat)(i:Instr),p.dp[k]? =some i->iS b p k i
 MW:∀i,p.dp[p.dp.length -1]? =some i->i.op=23\/i.op=24
def Hk(N:fg a d p b)(T:dS b.bo){C K w:O}{q:dy}(m:PA a C K w q):
 dt cq 86 [.agg #[O.v d,O.v p],.agg #[O.v C,O.v K,vi q.aT,vi q.ak,O.v w]] a (HI b q):=by
 apply BK
 simp -zeta only[aD,aC]
 intro L u
 have j:J a u:=((J.az a).aK _).aK _
 have v:∀o∈[L.size,a.size],o<u.size:=by simp[u,L];omega
 clear_value u
 have aa:=m.params.len
 have ab:=m.dp.len
 refine(uV (m.params.ext j) (m.cR.ext j)).aH (J.az _) v λo m3 e P R=>⟨_,rfl,λy=>bV (λf=>nb e y f.cR) (j.trans P),λy=>?_⟩
 have G:=yb e y
 refine(aX _ _ _ _).aH R v λo m4 e h4 D=>⟨_,rfl,λz=>?_,λz=>?_⟩
 .refine bV (λf=>nb e z ?_) (j.trans D)
  have:=f.ak
  split<;>omega
 have S:=yb e z
 refine(aX _ _ _ _).aH D v λo m5 e h7 E=>⟨_,rfl,λA=>bV (λf=>nb e A (oh f.len)) (j.trans E),λA=>?_⟩
 have ad:=yb e A
 have B:(q.params.length:Int)<=q.ak/\1<=q.ak/\q.ak<=2000:=by
  split at S<;>omega
 refine dT (n:=q.dp.length) V (λt U=>J u U/\∀(k:Nat)(i:Instr),k<t->q.dp[k]? =some i->iS b q k i) ⟨E,aL⟩ ?_
 rintro t m6 X μ hj ⟨I,H⟩ W
 have r:=j.trans I
 refine dit (λQ=>?_) λQ=>?_
 .let⟨i,h⟩:=cG q.dp t
  refine(Fg (fg.ext r N) T (m.ext r) B.2 h).aH I v λo Y e l g=>⟨_,rfl,λx=>bV (λf=>nb e x (f.dz t i h)) (j.trans g),λx=>?_⟩
  refine W V _ ⟨g,λk s M c=>?_⟩
  by_cases F:k=t
  .subst F
   rw[h]at c;simp at c;subst c
   exact yb e x
  .exact H k s V c
 .let⟨i,h⟩:=cG q.dp (q.dp.length -1)
  let⟨xa,xj,ha,ac,x,g1,g2,Y,Z,g5⟩:=(fj.ext r m.dp).aG h
  have M:cO ((w.len:Int) -1)=((q.dp.length -1:Nat):Int):=by rw[aP V V];omega
  rw[M]
  have F:∀(k:Nat)(i:Instr),q.dp[k]? =some i->iS b q k i:=λk s c=>H k s (oh (aw c)) c
  refine⟨V,V,_,by simpa using x,λl=>?_,λl=>?_⟩
  .simp only[aI]at l
   refine iR ⟨G,B,V,F,λs c=>?_⟩ r
   rw[h]at c;simp at c;subst c
   exact Or.inl l
  .simp only[aj]at l
   refine⟨V,V,_,by simpa using x,eU ?_ r⟩
   simp only[aI]
   refine⟨λg=>⟨G,B,V,F,λs c=>?_⟩,λf=>?_⟩
   .rw[h]at c;simp at c;subst c
    exact Or.inr g
   .rcases f.MW i h with g|g
    .exact absurd g l
    .exact g
structure ns(b:cT):Prop where
 nT:KI b.bo b.cF
 dz:∀p∈b.cF,HI b p
def tR(h:fg a d p b):dt cq 51 [.agg #[O.v d,O.v p]] a (ns b):=by
 apply zr;simp -zeta only[aD,aC];intro g;have e:J a g:=(J.az a).aK _;have m:∀i∈[a.size],i<g.size:=by simp[g]
 clear_value g;have Q:=h.cF.len;refine dit (λC=>?_) λC=>?_
 .exact bV (λf=>oh f.nT.len) e
 refine(Dp (fg.ext e h) V).aH (J.az _) m ?_;rintro _ R ⟨y,rfl,G,j⟩;refine⟨j,d,y,rfl,?_⟩;refine(uW (cx.ext (e.trans j) h.bo) G).aH j m λi S c M t=>⟨_,rfl,λk=>bV (λf=>nb c k f.nT) (e.trans t),λk=>?_⟩;have w:=yb c k;refine dT (n:=b.cF.length) V (λr l=>J g l/\∀s∈b.cF.take r,HI b s) ⟨t,aL⟩ ?_;rintro r T I μ P ⟨x,v⟩ H
 have q:=e.trans x;refine dit (λD=>?_) λD=>?_
 .let⟨s,o⟩:=cG b.cF r;let⟨K,i,L,E,c,F,z,g1,g2,A,B⟩:=(iK.ext q h.cF).aG o;refine⟨V,V,_,z,_,g1,_,g2,_,A,_,B,?_⟩;exact(Hk (fg.ext q h) w.types ⟨E,c,F⟩).aH x m λi U c N u=>⟨_,rfl,λl=>bV (λf=>nb c l (f.dz s (aq o))) (e.trans u),λl=>H V _ ⟨u,bB o v (yb c l)⟩⟩
 .exact iR ⟨w,db V v⟩ q
end
section
variable{m:E}{s:O}{l:List Int}
def eT.TB{α:Type}{c:Nat}{R:List Ce->α->Prop}{l:List α}(h:eT m c R s l){k:Nat}(n:k<=l.length):eT m c R (s.cut 0 k c) (l.take k):=by
 have b:=h.len;have e:=h.cap;have g:=h.gV;cases s with
 |nil=>
  simp at b;have:k=0:=V;subst this;exact⟨by simp[O.cut],by simp[O.cut],by simp[O.cut],aL⟩
 |zW d o a=>
  simp at b;have:k=0:=V;subst this;exact⟨by simp[O.cut],by simp[O.cut],by simp[O.cut],aL⟩
 |mk d o p i=>
  simp only[O.gH,O.OC]at b e g;refine⟨by simp[O.cut];omega,by simp[O.cut];omega,by simp[O.cut];omega,λj x a=>?_⟩;have f:j<k:=by have:=aw a;simp at this;omega
  rw[lH,an f]at a;have:=h.iD j x a;simpa[O.cut]using this
def pL(bo:O)(t:Int)(m:E):dt cq 194 [O.v bo,vi t] m (zJ bo.len t):=by
 apply Ge;refine⟨λh=>eU ?_ (J.az _),λh=>bV ?_ (J.az _)⟩<;>simp at h
 .simp[zJ,h]
 .unfold zJ;omega
def vV{g:O}(b:ap m g l)(bo:O):dt cq 193 [O.v bo,O.v g] m (Fw bo.len l):=by
 apply Ct;have i:=b.len;refine dT (n:=l.length) (i▸b.gV) (λk a=>J m a/\∀t∈l.take k,zJ bo.len t) ⟨J.az _,aL⟩ ?_;rintro k r I μ q ⟨a,f⟩ o
 refine dit (λh=>?_) λh=>?_
 .let⟨x,c⟩:=cG l k;refine⟨V,V,x,by simpa using a.af (b.aG c),?_⟩;exact(pL _ _ _).then λp s e d=>⟨_,rfl,λh=>bV (λj=>nb e h (j x (aq c))) (a.trans d),λh=>o V _ ⟨a.trans d,bB c f (yb e h)⟩⟩
 .exact iR (db V f) a
def rC(a:Int)(m:E)(d:a≠7/\a≠8):dt cq 96 [vi a] m (lR a):=by
 apply wg;refine⟨λh=>⟨λc=>iR ?_ (J.az _),λc=>⟨λb=>iR ?_ (J.az _),λb=>eU ?_ (J.az _)⟩⟩,λh=>⟨λb=>iR ?_ (J.az _),λb=>eU ?_ (J.az _)⟩⟩<;>simp[lR]at* <;>omega
def qH{bo:O}{a:List bz}(hd:cx m bo a)(s:a.length<=4)(k:∀d∈a,d.cons.length<=3):HA cq 31 [O.v bo] m (vi (eS a).length):=by
 apply Cv;simp -zeta only[aD,aC];have q:=hd.len;refine ez (n:=a.length) V (λj f b=>J m b/\f=(fc a j:Nat)/\fc a j<=3*j) ⟨J.az _,by cases a<;>rfl,by cases a<;>simp[fc]⟩ ?_;rintro j f t I μ r ⟨c,rfl,p⟩ l
 refine dit (λi=>?_) λi=>?_
 .let⟨d,b⟩:=cG a j;let⟨g,e,h,g1,g2⟩:=(cx.ext c hd).aG b;refine⟨V,V,_,h,_,g1,g,g2,?_⟩;intro u v;have o:=k d (aq b);refine l V _ _ ⟨(c.aK _).ah c.size _ _,?_,?_⟩
  .rw[aP V (oh e.len),sL b,e.len];rfl
  .rw[sL b];omega
 .refine⟨?_,c⟩;rw[mU a j V]
def OE{a:List bz}(h:dS a):∀d∈a,d.cons.length<=3:=λd hd=>by
 let⟨k,b⟩:=List.mem_iff_getElem?.1 hd;exact lA h b
def RP:∀(a:List bz)(k:Nat),(eS (a.take k)).length=fc a k
 |[],k=>by simp[eS,QW]
 |d::a,0=>by simp[eS,fc]
 |d::a,k+1=>by
  have:=RP a k;simp only[Ns,eS,my,be,fc]at this⊢;omega
def tx{bo:O}{a:List bz}(hd:cx m bo a)(c:dS a)(t:Int):aN cq 111 [O.v bo,vi t] m λI b=>∃s,I=O.v s/\ap b s (cy a t)/\J m b:=by
 apply Ga;have S:=hd.len;have R:=hd.cap;have g:∀(h:¬(1<=t/\t<=a.length)),ap m .nil (cy a t):=λh=>by
  unfold cy;rw[ae h];exact⟨rfl,ad _,aL,aL⟩
 have:=c.len;refine dit (λh=>?_) λh=>?_
 .exact⟨_,rfl,g V,J.az _⟩
 refine dit (λx=>?_) λx=>?_
 .exact⟨_,rfl,g V,J.az _⟩
 have r:cO (t -1)=((t.toNat -1:Nat):Int):=by rw[aP V V];omega
 rw[r];let⟨d,e⟩:=cG a (t.toNat -1);have u:cy a t=(List.range d.cons.length).map λi=>((fc a (t.toNat -1)+i:Nat):Int):=by
  unfold cy;rw[an V,e];rfl
 rw[u];have P:=rq c (t.toNat -1);have Q:=lA c e;refine⟨V,V,V,?_⟩;have C:cx m (bo.cut 0 (t.toNat -1) 3) (a.take (t.toNat -1)):=eT.TB hd V;have f:=qH C bF (λd hd=>OE c d (dA hd));rw[RP]at f;refine f.then λF p=>⟨_,rfl,?_⟩;let⟨w,D,L,g1,g2⟩:=(cx.ext p hd).aG e;have T:=D.len;refine⟨V,V,w,by simpa using g2,?_⟩;refine ez (n:=d.cons.length) V (λj s b=>J m b/\gY m b aA 1 s (((List.range j).map λi=>((fc a (t.toNat -1)+i:Nat):Int)).map Ce.i)/\s.len=j) ⟨p,by simpa using gY.nil m F aA 1,rfl⟩ ?_;rintro j s G K μ U ⟨o,k,l⟩ H
 refine dit (λy=>?_) λy=>?_
 .intro q;have v:cO (((fc a (t.toNat -1):Nat):Int)+(j:Int))=((fc a (t.toNat -1)+j:Nat):Int):=by rw[aP V V];omega
  have E:q=G.push (.cells (bt [.i (((fc a (t.toNat -1)+j:Nat):Int))]) aA):=by rw[<-v]
  clear_value q;subst E;refine gY.append (zs:=[.i 0]) (d:=[.i ((fc a (t.toNat -1)+j:Nat):Int)]) (k.ext (J.push _ _)) (o.aK _) rfl (cD.push _ _ _).iD (by simp[l];omega) ?_;intro W b z A B M N _;refine H V _ _ ⟨A,?_,by simp[B,l]⟩
  rw[SW,fu,fu];exact z
 .have:j=d.cons.length:=V;subst this;exact⟨_,rfl,ap.gD k bF,o⟩
def PU{a:List bz}{i j:Nat}{d:bz}{f:List Int}(h:a[i]? =some d)(b:d.cons[j]? =some f):cB a ((fc a i+j:Nat):Int)=f:=by
 unfold cB;rw[an V,uc,rp a i j d h (aw b),b];rfl
def MR{bo:O}{a:List bz}(hd:cx m bo a)(q:dS a)(c:Int)(X: -1000000<=c/\c<=1000000):aN cq 218 [O.v bo,vi c] m λS f=>∃R s,S=.tuple #[vi R,.agg #[O.v s]]/\ap f s (cB a c)/\J m f:=by
 apply HR;simp -zeta only[aD,aC];intro g;have P:J m g:=(J.az m).aK _;have ab:m.size<g.size:=by simp[g]
 clear_value g;have Y:=hd.len;have:=q.len;refine ez (n:=a.length) V (λj w f=>J m f/\g.size<=f.size/\w=c -(fc a j:Nat)/\¬(0<=c/\c<fc a j)) ⟨P,ad _,by cases a<;>simp[fc],by cases a<;>simp[fc]⟩ ?_;rintro j w t I μ hj ⟨d,N,rfl,aa⟩ Q
 refine dit (λG=>?_) λG=>?_
 .let⟨x,b⟩:=cG a j;let⟨h,z,D,g1,g2⟩:=(cx.ext d hd).aG b;have Z:=z.len;have U:=rq q j;have W:=lA q b;refine⟨V,V,_,D,_,g1,h,g2,?_⟩;intro m3 u;have e:J t u:=((J.az t).aK _).ah (ad _) _ _;have A:¬(0<=c -(fc a j:Nat)/\c -(fc a j:Nat)<x.cons.length)->I (cO (c -(fc a j:Nat) -(h.len:Int))) (cO ((j:Int)+1)) u/\μ (cO (c -(fc a j:Nat) -(h.len:Int))) (cO ((j:Int)+1)) u<μ (c -(fc a j:Nat)) j t:=by
   intro hq;refine Q V _ _ ⟨d.trans e,bI N e.size,?_,?_⟩
   .rw[aP V V,sL b];omega
   .rw[sL b];omega
  refine⟨λi=>⟨λp=>?_,λp=>A ?_⟩,λi=>A ?_⟩
  .simp only[ar]at i p;let⟨T,r⟩:=cG x.cons ((c -(fc a j:Nat)).toNat);let⟨o,hg,y⟩:=(pw.ext e z).aG r;refine⟨V,V,o,y,?_⟩;intro v;have k:J m v:=(d.trans e).ah (ad _) _ _;refine⟨_,o,rfl,?_,k⟩;have l:cB a c=T:=by
    have:=PU b r;rw[<-this];congr 1;omega
   rw[l];obtain⟨B,H,_,_,E⟩:=hd.aG b;have K:h=B:=by
    have:=d.af E;rw[g2]at this;exact O.BR.1 (by simpa using this)
   subst K;let⟨C,L,F⟩:=H.aG r;have M:o=C:=by
    have:=(d.trans e).af F;rw[y]at this;exact O.BR.1 (by simpa using this)
   subst M;exact L.ext k
  .simp at i p;omega
  .simp at i;omega
 .intro v;have k:J m v:=d.ah (ad _) _ _;refine⟨_,.nil,rfl,?_,k⟩;have l:cB a c=[]:=by
   unfold cB;split
   .rw[cN (by rw[<-mU a j V];omega)];rfl
   .rfl
  rw[l];exact⟨rfl,ad _,aL,aL⟩
def HT{bo:O}{a:List bz}(hd:cx m bo a)(h:dS a)(c:Int)(f: -1000000<=c/\c<=1000000):aN cq 195 [O.v bo,vi c] m λv d=>∃s,v=O.v s/\ap d s (cB a c)/\J m d:=by
 apply Cw;simp -zeta only[aD,aC];refine(MR hd h c f).mono ?_;rintro _ e ⟨t,s,rfl,g,i⟩;refine⟨t,s,rfl,?_⟩;intro k j;have b:J e j:=((J.az e).aK _).ah (ad _) _ _;exact⟨s,rfl,g.ext b,i.trans b⟩
def wu(f:ap m s l)(g:Nat)(e d:Array Value)(t:GL.elem g=true)(q:Int->Prop)
 (p:∀x∈l,∀a,J m a->dt cq g (e.toList++[vi x]++d.toList) a (q x)):
 aN cq 154 [O.v s,.func (.func g) e d] m λz a=>∃r:Int,z=vi r/\J m a/\
  ((r= -1/\∀x∈l,¬q x)\/∃(k:Nat)(x:Int),r=k/\l[k]? =some x/\q x/\∀y∈l.take k,¬q y):=by
 apply qL s (.func g,e,d)
 have u:=f.len
 refine dT (n:=l.length) (u▸f.gV) (λk a=>J m a/\∀y∈l.take k,¬q y) ⟨J.az _,aL⟩ ?_
 rintro k v I μ B ⟨b,i⟩ w
 refine dit (λh=>?_) λh=>?_
 .let⟨x,c⟩:=cG l k
  refine⟨V,V,x,by simpa using b.af (f.aG c),g,rfl,t,?_⟩
  exact(p x (aq c) v b).then λA C o j=>⟨_,rfl,λh=>⟨_,rfl,b.trans j,Or.inr ⟨k,x,rfl,c,o.1 h,i⟩⟩,λh=>w V _ ⟨b.trans j,bB c i (fb o h)⟩⟩
 .exact⟨_,rfl,b,Or.inl ⟨rfl,db V i⟩⟩
def iY(i:ap m s l)(g:Nat)(b a:Array Value)(f:GL.elem g=true)(q:Int->Prop)
 (e:∀x∈l,∀c,J m c->dt cq g (b.toList++[vi x]++a.toList) c (q x)):
 dt cq 78 [O.v s,.func (.func g) b a] m (∃x∈l,q x):=by
 apply pu s (.func g,b,a)
 refine(wu i g b a f q e).mono ?_
 rintro _ p ⟨r,rfl,j,h⟩
 refine⟨_,rfl,eU ?_ j⟩
 simp only[oD,ar]
 rcases h with⟨rfl,h⟩|⟨o,x,rfl,c,d,n⟩
 .exact⟨λk=>V,λ⟨x,c,d⟩=>absurd d (h x c)⟩
 .exact⟨λ_=>⟨x,aq c,d⟩,λ_=>V⟩
end
section
variable{s c k d r:O}{b:E}{e:List Nat}{Q:List Int->Prop}{v:List Int}{x:cU}
structure _root_.Go.Vc.gR where
 params:List Int
 cR:List Int
 aT:Int
 body:Bk
def iU(m:E)(a:List Ce)(r:gR):Prop:=∃p l s,a=[.s p,.s l,.i r.aT,.s s,.i r.body.aT]/\ap m p r.params/\ap m l r.cR/\eP m s r.body.aB
abbrev zK(m:E)(s:O)(l:List gR):Prop:=eT m 5 (iU m) s l
structure eL(m:E)(d r:O)(ds:List bz)(rs:List gR):Prop where
 bo:cx m d ds
 iX:zK m r rs
 types:dS ds
 oJ:rs.length<=4
def iU.le{m b:E}(h:Le m b){a:List Ce}{x:gR}:iU m a x->iU b a x:=λ⟨p,l,s,c,d,e,f⟩=>⟨p,l,s,c,d.le h,e.le h,f.le h⟩
def iU.mono:oG 5 iU:=⟨λh=>iU.le h,λh=>by obtain⟨_,_,_,rfl,_⟩:=h;rfl⟩
def zK.le{m b:E}(a:Le m b){s:O}{l:List gR}(h:zK m s l):zK b s l:=eT.le h a λ_ _=>iU.le a
def zK.aG{m:E}{l:List gR}(h:zK m s l){k:Nat}{x:gR}(f:l[k]? =some x):
 ∃p t b,ap m p x.params/\ap m t x.cR/\eP m b x.body.aB/\af m s.D (s.off+k*5)=some (O.v p)/\af m s.D (s.off+k*5+1)=some (O.v t)/\af m s.D (s.off+k*5+2)=some (vi x.aT)/\af m s.D (s.off+k*5+3)=some (O.v b)/\af m s.D (s.off+k*5+4)=some (vi x.body.aT):=by
 obtain⟨g,⟨p,t,b,rfl,c,d,e⟩,a⟩:=h.iD k x f
 exact⟨p,t,b,c,d,e,a 0 _ rfl,a 1 _ rfl,a 2 _ rfl,a 3 _ rfl,a 4 _ rfl⟩
def eL.le{m b:E}{d r:O}{a:List bz}{e:List gR}(h:eL m d r a e)(c:Le m b):eL b d r a e:=⟨h.bo.le c,h.iX.le c,h.types,h.oJ⟩
def Am(m:E):Le m (bH [] m):=λb o v h=>eQ.2 ⟨aL,h⟩
def FU{a:List bz}(h:dS a)(c:Int):(cB a c).length<=3:=by
 unfold cB;split
 .rcases aW c.toNat (eS a).length with b|b
  .let⟨i,d,e,j,k⟩:=vg a c.toNat b;have f:=rp a i (c.toNat -fc a i) d e V;rw[show fc a i+(c.toNat -fc a i)=c.toNat by omega]at f;let⟨x,g⟩:=cG d.cons (c.toNat -fc a i);rw[f,g];exact(((h.dz i d e).iZ V).2.2.2 x (aq g)).1
  .rw[cN b];simp
 .simp
def Yd{a:List bz}(h:dS a)(t:Int):(cy a t).length<=3:=by
 unfold cy;split
 .cases b:a[t.toNat -1]? with
  |none=>simp
  |some d=>simpa using lA h b
 .simp
def QN{a:List bz}(h:dS a)(b bQ:Int)(k:Nat):BY a b bQ k<=3:=by
 unfold BY;split
 .exact FU h _
 .omega
abbrev FA(f:Nat)(a:List Value)(m:E):Prop:=tg f a m λ_=>True
def oV(f:Nat)(a:List Value)(m:E):Prop:=aN cq f a m λv b=>∃c:Bool,v=.bool c/\J m b
def rN{m:E}{n:Int}(h:J m b):∃k:Int,vi n=vi k/\True/\J m b:=⟨n,rfl,trivial,h⟩
def rA{m:E}{a:Bool}(h:J m b):∃k:Bool,vb a=.bool k/\J m b:=⟨a,rfl,h⟩
def _root_.Go.Vc.dt.any{f:Nat}{a:List Value}{m:E}{p:Prop}(h:dt cq f a m p):oV f a m:=h.mono λ_ _⟨b,e,_,x⟩=>⟨b,e,x⟩
section
variable{f:Nat}{g:List Value}{a m:E}{K:Value->E->Prop}{l:List Nat}
def FA.aH(i:FA f g m)(e:J a m)(o:∀c∈l,c<a.size)(k:∀(n:Int) b,J m b->J a b->K (vi n) b):aN cq f g m λv b=>eF l m b/\K v b:=
 i.mono λ_ b⟨n,h,_,d⟩=>⟨d.dq λc j=>e.lt (o c j),h▸k n b d (e.trans d)⟩
def oV.aH(i:oV f g m)(e:J a m)(n:∀c∈l,c<a.size)(k:∀(c:Bool) b,J m b->J a b->K (vb c) b):aN cq f g m λv b=>eF l m b/\K v b:=
 i.mono λ_ b⟨o,h,d⟩=>⟨d.dq λc j=>e.lt (n c j),h▸k o b d (e.trans d)⟩
def tg.aH{Q:Int->Prop}(i:tg f g m Q)(e:J a m)(o:∀c∈l,c<a.size)(k:∀(n:Int) b,Q n->J m b->J a b->K (vi n) b):aN cq f g m λv b=>eF l m b/\K v b:=
 i.mono λ_ b⟨n,h,q,d⟩=>⟨d.dq λc j=>e.lt (o c j),h▸k n b q d (e.trans d)⟩
def Fy.aH(k:Fy f g m e Q)(i:J a m)(q:∀d∈l,d<a.size)(p:∀s c b,ap (bH e b) s c->Q c->J m b->J a b->K (O.v s) b):aN cq f g m λv b=>eF l m b/\K v b:=
 k.mono λ_ b⟨s,c,j,n,r,h⟩=>⟨h.dq λd o=>i.lt (q d o),j▸p s c b n r h (i.trans h)⟩
def k8.aH(k:k8 f g m e Q)(i:J a m)(q:∀d∈l,d<a.size)(p:∀s c b,GI e m b s c->Q c->J m b->J a b->K (O.v s) b):aN cq f g m λv b=>eF l m b/\K v b:=
 k.mono λ_ b⟨s,c,j,n,r,h⟩=>⟨h.dq λd o=>i.lt (q d o),j▸p s c b n r h (i.trans h)⟩
end
def _root_.Go.Vc.J.Vl{c m:E}(f:J c m){l:List Nat}(e:∀a∈l,a<c.size)(h:J m b):eF l m b:=h.dq λa d=>f.lt (e a d)
def dK{m:E}(D:∀b∈e,b<m.size){bo:O}{a:List bz}(hd:cx (bH e m) bo a)(f:dS a)(c:Int):Fy 199 [O.v bo,vi c] m e (cB a c=·):=by
 apply rJ;have l:cx m bo a:=hd.le (bA _ _);have F:=hd.len;have:=f.len;refine(mq l f c).mono ?_;rintro _ I ⟨K,rfl,k,h⟩;refine⟨_,rfl,dit (λu=>?_) λu=>?_⟩
 .refine⟨_,_,rfl,?_,rfl,h.aK _⟩;have g:cB a c=[]:=by
   rcases k with⟨i,d,v,_⟩|⟨_,b⟩
   .omega
   .unfold cB;split
    .rw[cN V];rfl
    .rfl
  rw[g];exact⟨rfl,ad _,aL,aL⟩
 .rcases k with⟨i,d,rfl,b,A,B⟩|⟨v,_⟩
  .have H:=aw b;let⟨s,n,y,g1,g2⟩:=(hd.le (h.df e)).aG b;have p:cO ((i:Int)+1 -1)=i:=by rw[aP V V];omega
   rw[p];have g2:=(eQ.1 g2).2;refine⟨V,V,s,by simpa using g2,?_⟩;refine(kd (cx.ext h l) f V).then λJ g=>⟨_,rfl,g.da (by simpa using g2),?_⟩;have z:=rq f i;have C:=lA f b;have G:=n.len;let⟨x,o⟩:=cG d.cons ((c -fc a i).toNat);let⟨j,w,t⟩:=pw.aG (eT.le n (g.df e) (mR.le (g.df e))) o;have q:cO (c -(fc a i:Int))=c -fc a i:=aP V V;rw[q];refine⟨V,V,j,(eQ.1 t).2,j,_,rfl,?_,rfl,h.trans g⟩;have r:cB a c=x:=by
    unfold cB;rw[an V];have:=rp a i (c -fc a i).toNat d b V;rw[show c.toNat=fc a i+(c -fc a i).toNat by omega,this,o];rfl
   rw[r];exact w
  .omega
def iy{m:E}(q:∀o∈e,o<m.size){bo:O}{a:List bz}(hd:cx m bo a)(c:dS a)(t:Int):Fy 134 [O.v bo,vi t] m e (cy a t=·):=by
 apply uP;intro D;have L:=hd.len;have:=c.len;have w:J m D:=(J.az m).aK _;refine(aX _ _ _ _).then λo P u i=>⟨_,rfl,λh=>?_,λh=>?_⟩
 .refine⟨_,_,rfl,?_,rfl,w.trans i⟩;have f:cy a t=[]:=by
   unfold cy;rw[ae (oh (nb u h))]
  rw[f];exact⟨rfl,ad _,aL,aL⟩
 .have h:=yb u h;have x:cO (t -1)=((t.toNat -1:Nat):Int):=by rw[aP V V];omega
  rw[x];let⟨d,k⟩:=cG a (t.toNat -1);have y:cy a t=(List.range d.cons.length).map λl=>((fc a (t.toNat -1)+l:Nat):Int):=by
   unfold cy;rw[an V,k];rfl
  rw[y];have H:=rq c (t.toNat -1);have K:=lA c k;refine ez (n:=d.cons.length) V (λj s b=>J m b/\GI e m b s ((List.range j).map λl=>((fc a (t.toNat -1)+l:Nat):Int))) ⟨w.trans i,(GI.nil e m).ext i⟩ ?_;rintro j s Q I μ N ⟨f,v⟩ F
  let⟨g,C,G,g1,g2⟩:=(cx.ext f hd).aG k;have M:=C.len;refine⟨V,V,g,by simpa using g2,dit (λB=>?_) λB=>?_⟩
  .refine(kd (cx.ext f hd) c V).then λR p=>⟨_,rfl,?_⟩;have z:cO (((fc a (t.toNat -1):Nat):Int)+(j:Int))=((fc a (t.toNat -1)+j:Nat):Int):=by rw[aP V V];omega
   rw[z];intro S;refine GI.kL (v.ext p) ((f.trans p).fz []) q bF λr b A g _ _=>F V _ _ ⟨g.ext,?_⟩
   rw[SW,fu];exact A
  .have:j=d.cons.length:=V;subst this;exact⟨_,_,rfl,v.done q bF,rfl,f⟩
def ng{m:E}{bo:O}{b:List bz}(hd:cx m bo b)(l:dS b)(t:Int):dt cq 302 [O.v bo,vi t] m (∃d,1<=t/\b[t.toNat -1]? =some d/\d.cons.length=0):=by
 apply EO;have q:=hd.len;have:=l.len;refine(aX _ _ _ _).then λn r g e=>⟨_,rfl,λh=>?_,λh=>?_⟩
 .have h:=g.1 h;let⟨d,c⟩:=cG b (t.toNat -1);let⟨j,k,p,g1,g2⟩:=(cx.ext e hd).aG c;have i:cO (t -1)=((t.toNat -1:Nat):Int):=by rw[aP V V];omega
  rw[i];refine⟨V,V,j,g2,eU ?_ e⟩;rw[k.len];simp only[aI];exact⟨λh=>⟨d,V,c,V⟩,λ⟨o,_,a,f⟩=>by rw[c]at a;simp at a;subst a;omega⟩
 .refine bV (λ⟨d,a,f,_⟩=>fb g h ⟨a,?_⟩) e;have:=aw f;omega
def AF{m:E}{bo:O}{a:List bz}(hd:cx m bo a)(r:dS a)(u t:Int):
 tg 324 [O.v bo,vi u,vi t] m λk=>k= -1\/∃(l:Nat)(d:bz),k=l+1/\a[l]? =some d/\d.cons.length=0/\d.tf=u/\d.to=t:=by
 apply EB
 have w:=hd.len
 have:=r.len
 refine dT (n:=a.length) V (λ_ b=>J m b) (J.az _) ?_
 rintro k s I μ x c v
 refine⟨λh=>?_,λh=>⟨_,rfl,Or.inl rfl,c⟩⟩
 simp only[ar]at h
 let⟨d,j⟩:=cG a k
 let⟨o,q,p,g1,g2⟩:=(cx.ext c hd).aG j
 have e:=v V s c
 refine⟨V,V,o,g2,λf=>⟨V,V,_,p,λg=>⟨V,V,_,g1,λi=>?_,λ_=>e⟩,λ_=>e⟩,λ_=>e⟩
 rw[q.len]at f
 simp only[aI]at f g i
 refine⟨_,rfl,Or.inr ⟨k,d,?_,j,V,g,i⟩,c⟩
 rw[aP V V]
def sX{m:E}{i p:O}{f t:List Int}(g:ap m c v)(e:ap m i f)(l:ap m p t):oV 299 [O.v c,O.v i,O.v p] m:=by
 apply Ja;have C:=g.len;have r:=e.len;have D:=l.len;have F:=g.gV;refine⟨λ_=>rA (J.az _),λh=>?_⟩;simp only[iN]at h;refine dT (n:=f.length) (r▸e.gV) (λ_ b=>J m b) (J.az _) ?_;rintro k H I μ G a y
 refine⟨λh=>?_,λh=>rA a⟩;simp only[ar]at h;let⟨x,o⟩:=cG f k;refine⟨V,V,x,(e.ext a).aG o,?_⟩;have q:cO ((c.len:Int) -1)=(v.length:Int) -1:=by rw[aP V V];omega
 rw[q];refine(aX _ _ _ _).then λB K s d=>⟨_,rfl,λ_=>rA (a.trans d),λj=>?_⟩;have j:=yb s j;let⟨z,u⟩:=cG v x.toNat;let⟨A,w⟩:=cG t k;exact⟨V,V,x,(e.ext (a.trans d)).aG o,V,V,z,(g.ext (a.trans d)).aG u,V,V,A,(l.ext (a.trans d)).aG w,λ_=>rA (a.trans d),λ_=>y V _ (a.trans d)⟩
def Ni(a:Int)(m:E):oV 297 [vi a] m:=by
 apply GN;have r:∀b:Bool,∃k:Bool,vb b=.bool k/\J m m:=λb=>rA (J.az m);exact⟨λ_=>r _,λ_=>⟨λ_=>r _,λ_=>⟨λ_=>r _,λ_=>⟨λ_=>r _,λ_=>r _⟩⟩⟩⟩
def pv(x:cU)(a k:O):Value:=.agg #[vi x.op,vi x.bQ,vi x.bZ,O.v a,O.v k]
def wQ{m:E}{g:O}(d:ap m c v)(x:cU):oV 298 [O.v c,.agg #[vi x.op,vi x.bQ,vi x.bZ,O.v g,O.v k]] m:=by
 apply BH;simp -zeta only[aD,aC];intro a;have b:J m a:=J.push _ _;have l:∀f∈[m.size],f<a.size:=by simp[a]
 clear_value a;have o:=d.len;have p:=d.gV;refine⟨λ_=>rA b,λ_=>⟨λ_=>?_,λ_=>rA b⟩⟩;refine(aX _ _ _ _).aH (J.az a) l λf q j _ e=>⟨_,rfl,λh=>?_,λ_=>rA (b.trans e)⟩;have h:=j.1 h;have i:cO (x.bZ -1)=((x.bZ.toNat -1:Nat):Int):=by rw[aP V V];omega
 rw[i];let⟨y,n⟩:=cG v (x.bZ.toNat -1);exact⟨V,V,y,(d.ext (b.trans e)).aG n,rA (b.trans e)⟩
def CQ{m:E}{l:O}{t:List bz}{B:List gR}(o:eL m d r t B)(i:ap m c v)(g:ap m l x.args):FA 303 [.agg #[O.v d,O.v r],O.v c,pv x l k] m:=by
 apply wF;simp -zeta only[aD,aC];intro q e;have b:J m e:=(J.push _ _).trans (J.push _ _);have n:∀f∈[q.size,m.size],f<e.size:=by simp[e,q];omega
 clear_value e;have C:=i.len;have D:=i.gV;have F:=g.len;refine⟨λ_=>rN b,λh=>?_⟩;simp only[iN]at h;let⟨y,p⟩:=cG x.args 0;refine⟨V,V,y,(g.ext b).aG p,?_⟩;have u:cO ((c.len:Int) -1)=(v.length:Int) -1:=by rw[aP V V];omega
 rw[u];refine(aX _ _ _ _).aH (J.az e) n λf G w _ j=>⟨_,rfl,λ_=>rN (b.trans j),λh=>?_⟩;have h:=yb w h;have a:=b.trans j;let⟨z,A⟩:=cG v y.toNat;have g1:=(g.ext a).aG p;have g2:=(i.ext a).aG A;refine⟨V,V,y,g1,V,V,z,g2,λ_=>rN a,λ_=>⟨λ_=>⟨λ_=>⟨V,V,y,g1,V,V,z,g2,?_⟩,λ_=>rN a⟩,λ_=>rN a⟩⟩;exact(ng ((o.le a.le).bo) o.types z).any.aH j n λf H I s=>⟨_,rfl,λ_=>rN (b.trans s),λ_=>rN (b.trans s)⟩
def EZ{m:E}{w:O}{H:List bz}{t:List gR}(g:eL m d r H t)(U:ap m c v)(A:ap m w x.args):FA 301 [.agg #[O.v d,O.v r],O.v c,pv x w k] m:=by
 apply xS;simp -zeta only[aD,aC];intro j h;have F:J m h:=(J.push _ _).trans (J.push _ _);have n:∀f∈[j.size,m.size],f<h.size:=by simp[h,j];omega
 clear_value h;have h1:=g.iX.len;have h2:=g.oJ;have h3:=A.len;have I:cO ((r.len:Int) -1)=(t.length:Int) -1:=by rw[aP V V];omega
 rw[I];refine(aX _ _ _ _).aH (J.az h) n λf l S _ u=>⟨_,rfl,λ_=>rN (F.trans u),λy=>?_⟩;have y:=yb S y;have D:=F.trans u;let⟨q,T⟩:=cG t x.bQ.toNat;let⟨Z,ac,s,i,c2,c3,L,g1,g2,M,N⟩:=(g.le D.le).iX.aG T;refine⟨V,V,_,L,_,g1,_,g2,_,M,_,N,?_⟩;intro X b;have G:J l b:=((J.az l).aK _).ah (ad _) _ _;have o:∀f∈[l.size,j.size,m.size],f<b.size:=by
  have P:=n j.size aL;have Q:=n m.size aL;have R:=u.size;have z:b.size=l.size+1:=by simp[b,X,av]
  simp;omega
 clear_value b;have a:=D.trans G;have C:=U.ext a;have B:=A.ext a;have p:=i.ext G;have P:=i.len;have Q:=i.cap;have R:=i.gV;refine⟨λ_=>(sX C B p).aH (J.az b) o λf Y e _=>⟨_,rfl,λ_=>rN (a.trans e),λ_=>rN (a.trans e)⟩,λ_=>⟨λ_=>rN a,λz=>⟨λ_=>rN a,λ_=>?_⟩⟩⟩;simp only[aj]at z;have K:cO ((Z.len:Int) -1)=((q.params.length -1:Nat):Int):=by rw[aP V V];omega
 rw[K];let⟨aa,W⟩:=cG q.params (q.params.length -1);refine⟨V,V,V,(sX C B (eT.TB p V)).aH (J.az b) o λf Y e _=>⟨_,rfl,λ_=>rN (a.trans e),λ_=>⟨V,V,aa,(p.ext e).aG W,?_⟩⟩⟩;exact(AF (g.le (a.trans e).le).bo g.types _ _).aH e o λab m6 _ x6 u6=>⟨_,rfl,rN (a.trans u6)⟩
def WK(a:List bz)(e:List gR)(b:Bk):Prop:=∀(m:E)(d r c t:O)(v:List Int),eL m d r a e->ap m c v->eP m t b.aB->v.length+4*b.w<=10^12->FA 263 [.agg #[O.v d,O.v r],O.v c,.agg #[O.v t,vi b.aT]] m
def J8{m:E}{ab:O}{t:List bz}{Y:List gR}(g:eL m d r t Y)(U:ap m c v)(y:nI m k x.bC)(hb:v.length+4*x.w<=10^12)(ih:∀l∈x.bC,WK t Y l):FA 300 [.agg #[O.v d,O.v r],O.v c,pv x ab k] m:=by
 apply Da;simp -zeta only[aD,aC];intro X p;have i:J m p:=(J.push _ _).trans (J.push _ _);have o:∀l∈[X.size,m.size],l<p.size:=by simp[p,X];omega
 clear_value p;have ac:=y.len;have hw:=cU.mu x;refine(iy (e:=[]) aL (g.le i.le).bo g.types x.bQ).aH (J.az p) o λae cl H w q A _=>⟨_,rfl,?_⟩;subst q;have w:=w.le (bA _ _);have ag:=w.len;have h3:=Yd g.types x.bQ;refine⟨λL aa=>aa=H/\0<=L/\(x.op=8->L=(cy t x.bQ).length),⟨λh=>?_,λh=>⟨rfl,V,λ_=>V⟩⟩,?_⟩
 .simp only[aI]at h;exact⟨rfl,V,λh=>V⟩
 rintro L ah ⟨f,h4,h5⟩;have f:=f.symm;subst f;refine⟨λ_=>rN (i.trans A),λ_=>⟨λ_=>rN (i.trans A),λT=>?_⟩⟩;simp only[iN]at T;subst T;refine ez (n:=x.bC.length) (ac▸y.gV) (λ_ _ b=>J H b) (J.az _) ?_;rintro j z I R μ hj B ad
 have M:=A.trans B;have s:=i.trans M;refine⟨λh=>?_,λ_=>rN s⟩;simp only[ar]at h;let⟨l,u⟩:=cG x.bC j;have W:=ih l (aq u);have af:=wX u;have Z:∀(a:Int)(e:E),J H e->((decide (a<(0:Int)))=true->∃k:Int,vi (-1)=vi k/\True/\J m e)/\((decide (a<(0:Int)))=false->((decide ((j:Int)>(0:Int)))=true->((a !=z)=true->∃k:Int,vi (-1)=vi k/\True/\J m e)/\((a !=z)=false->R a (cO ((j:Int)+1)) e/\μ a (cO ((j:Int)+1)) e<μ z j I))/\((decide ((j:Int)>(0:Int)))=false->R a (cO ((j:Int)+1)) e/\μ a (cO ((j:Int)+1)) e<μ z j I)):=λa e h=>by
  have f:=rN (n:=-1) ((i.trans A).trans h);have D:=ad V a e h
  exact⟨λ_=>f,λ_=>⟨λ_=>⟨λ_=>f,λ_=>D⟩,λ_=>D⟩⟩
 refine⟨λh=>?_,λh=>?_⟩
 .simp only[aI]at h;have h7:=h5 h;let⟨Q,hy⟩:=cG (cy t x.bQ) j;refine⟨V,V,Q,(w.ext B).aG hy,?_⟩;refine(dK (e:=[]) aL (g.le (s.le.trans (Am _))).bo g.types Q).aH M o λD fl e hf q x4 u4=>⟨_,rfl,?_⟩;subst q;have h8:=FU g.types Q;refine(eO (S:=[]) aL (U.le ((i.trans u4).le.trans (Am _))) hf V).aH u4 o λf el m5 he q x5 N=>⟨_,rfl,?_⟩;subst q;let⟨C,G,F,g1⟩:=(y.le (i.trans N).le).aG u;refine⟨V,V,_,F,_,g1,?_⟩;exact(W m5 d r f C _ (g.le (i.trans N).le) ((he.done aL bF).le (bA _ _)) G bF).aH N o λa K P _=>⟨_,rfl,Z a K (((B.trans x4).trans x5).trans P)⟩
 .let⟨C,G,F,g1⟩:=(y.le s.le).aG u;refine⟨V,V,_,F,_,g1,?_⟩;exact(W I d r c C _ (g.le s.le) (U.ext s) G V).aH M o λa K P _=>⟨_,rfl,Z a K (B.trans P)⟩
def Qy{m a:E}(h:J m a)(l:List Int){n:Nat}(c:n=l.length)(b:l.length<=9223372036854775807):ap (a.push (.cells (bt (l.map Ce.i)) aA)) (.mk a.size 0 n n) l:=
 (ap.lit (S:=[]) aA l aL rfl c b).le (bA _ _)
def _root_.Go.Vc.eT.KU{α:Type}{n:E}{b:Nat}{R:List Ce->α->Prop}{l:List α}(h:eT n b R s l){i j:Nat}(u:i<=j)(v:j<=l.length):eT n b R (s.cut i j b) ((l.take j).drop i):=by
 have a:=h.len;have m:=h.cap;have y:=h.gV;have g:(s.cut i j b).len=j -i/\(s.cut i j b).len<=(s.cut i j b).cap:=by
  cases s with
  |nil=>simp at a;simp[O.cut];omega
  |zW d o t=>simp at a;simp[O.cut];omega
  |mk d o r f=>simp at a m;simp[O.cut];omega
 refine⟨by simp[g.1];omega,g.2,V,λk x c=>?_⟩;rw[sA,lH]at c;split at c
 .rename_i w;let⟨p,q,e⟩:=h.iD _ x c;refine⟨p,q,?_⟩;cases s with
  |nil=>simp at a;omega
  |zW d o t=>simp at a;omega
  |mk d o r f=>
   simp at a m;have:¬f=i:=V;simp only[O.cut,this,rS,O.jD,O.mZ]at e⊢;rw[gQ,<-di]at e;exact e
 .simp at c
def om{q:E}{w:O}{P:List bz}{rs:List gR}(B:eL q d r P rs)(hv:ap q c v)(Z:ap q w x.args)(hk:nI q k x.bC)(H:v.length+4*x.w<=10^12)(ih:∀g∈x.bC,WK P rs g):FA 258 [.agg #[O.v d,O.v r],O.v c,pv x w k] q:=by
 apply Ds;simp -zeta only[aD,aC];intro C p;have M:J q p:=(J.push _ _).trans (J.push _ _);have m:∀g∈[C.size,q.size],g<p.size:=by simp[p,C];omega
 clear_value p;have h1:=Z.len;have h2:=Z.cap;have u:∀{n:E},J p n->ap n c v:=λh=>hv.ext (M.trans h);have A:∀{n:E},J p n->ap n w x.args:=λh=>Z.ext (M.trans h);have N:∀{n:E},J p n->eL n d r P rs:=λh=>B.le (M.trans h).le;have o:∀{n:E}{t:Int},J p n->∃k:Int,vi t=vi k/\True/\J q n:=λh=>rN (M.trans h);have Q:∀{n:E}{t k:Int}{g:Bool},J p n->(g=true->∃k:Int,vi t=vi k/\True/\J q n)/\(g=false->∃a:Int,vi k=vi a/\True/\J q n):=λh=>⟨λ_=>o h,λ_=>o h⟩;refine⟨λX=>J p X,⟨λ_=>(Ni x.op p).aH (J.az p) m λg n e _=>⟨_,rfl,λ_=>o e,λ_=>(wQ (u e) x).aH e m λg f l a=>⟨_,rfl,λ_=>o a,λ_=>⟨λ_=>⟨λ_=>⟨λ_=>o a,λ_=>a⟩,λ_=>a⟩,λ_=>a⟩⟩⟩,λ_=>(wQ (u (J.az _)) x).aH (J.az p) m λg f a _=>⟨_,rfl,λ_=>o a,λ_=>⟨λ_=>⟨λ_=>⟨λ_=>o a,λ_=>a⟩,λ_=>a⟩,λ_=>a⟩⟩⟩,?_⟩;intro n e;have T:∀{f:E}{R:O}{ak:List Int}(h:J p f),ap f R ak->oV 299 [O.v c,O.v w,O.v R] f:=λh ht=>sX (u h) (A h) ht;have Kt:∀{f:E}(h:J p f),aN cq 300 [.agg #[O.v d,O.v r],O.v c,.agg #[vi x.op,vi x.bQ,vi x.bZ,O.v w,O.v k]] f λv b=>eF [C.size,q.size] f b/\∃t:Int,v=vi t/\∃k:Int,vi t=vi k/\True/\J q b:=λh=>
  (J8 (N h) (u h) (hk.le (M.trans h).le) H ih).aH h m λt L s U=>⟨t,rfl,o U⟩
 refine⟨λ_=>⟨λ_=>(aX _ _ _ _).any.aH e m λg f l a=>⟨_,rfl,Q a⟩,λ_=>o e⟩,λ_=>⟨λ_=>?_,λ_=>⟨λ_=>?_,λ_=>⟨λ_=>?_,λ_=>⟨λ_=>?_,λ_=>⟨λ_=>?_,λ_=>⟨λ_=>(EZ (N e) (u e) (A e)).aH e m λt f l a=>⟨_,rfl,o a⟩,λ_=>⟨λ_=>?_,λ_=>⟨λ_=>(CQ (N e) (u e) (A e)).aH e m λt f l a=>⟨_,rfl,o a⟩,λ_=>o e⟩⟩⟩⟩⟩⟩⟩⟩⟩
 .intro f;exact(T (e.aK _) (Qy e [0,0] rfl aL)).aH (e.aK _) m λg f l a=>⟨_,rfl,Q a⟩
 .intro f;exact(T (e.aK _) (Qy e [0] rfl aL)).aH (e.aK _) m λg f l a=>⟨_,rfl,Q a⟩
 .refine(mq (N e).bo B.types x.bQ).mono λ_ f⟨R,z,_,l⟩=>?_;subst z;have a:=e.trans l;refine⟨e.Vl m l,_,rfl,λ_=>?_,λ_=>o a⟩;refine(dK (e:=[]) aL ((N a).bo.le (Am _)) B.types x.bQ).aH a m λae G L hf I s U=>⟨_,rfl,aE (s.same C.size (a.lt (m _ aL))) _,?_⟩;refine(T U (hf.le (bA _ _))).aH U m λg D x5 y=>⟨_,rfl,λ_=>?_,λ_=>o y⟩;refine(mq (N y).bo B.types x.bQ).mono λ_ F⟨R,z,_,W⟩=>?_;subst z;exact⟨y.Vl m W,_,rfl,o (y.trans W)⟩
 .intro f;exact(T (e.aK _) (Qy e [0] rfl aL)).aH (e.aK _) m λg f l a=>⟨_,rfl,λ_=>Kt a,λ_=>o a⟩
 .intro f;exact(T (e.aK _) (Qy e [x.bQ] rfl aL)).aH (e.aK _) m λg f l a=>⟨_,rfl,λ_=>Kt a,λ_=>o a⟩
 .have h3:=hv.len;have h4:=hv.gV;refine⟨λg X=>J p X/\(g=true->x.args.length=2/\∃y z G,x.args[0]? =some y/\0<=y/\v[y.toNat]? =some z/\1<=z/\P[z.toNat -1]? =some G),⟨λh=>?_,λ_=>⟨e,sx⟩⟩,?_⟩
  .simp only[aI]at h;let⟨y,I⟩:=cG x.args 0;refine⟨V,V,y,(A e).aG I,?_⟩;have Y:cO ((c.len:Int) -1)=(v.length:Int) -1:=by rw[aP V V];omega
   rw[Y];refine(aX _ _ _ _).aH (J.az n) (λg H=>e.lt (m g H)) λg f aa _ l=>⟨_,rfl,λh=>?_,λh=>⟨e.trans l,sx⟩⟩;have h:=aa.1 h;have a:=e.trans l;let⟨z,K⟩:=cG v y.toNat;refine⟨V,V,y,(A a).aG I,V,V,z,(u a).aG K,?_⟩;refine(ng (N a).bo B.types z).aH (J.az f) (λg H=>a.lt (m g H)) λg L ab _ s=>⟨_,rfl,a.trans s,λh=>?_⟩;obtain⟨G,h5,h6,_⟩:=ab.1 h;exact⟨V,y,z,G,I,V,K,h5,h6⟩
  .rintro g f ⟨l,ah⟩;refine⟨λh=>?_,λ_=>o l⟩;let⟨h5,y,z,G,I,h6,K,h7,aa⟩:=ah h;let⟨ae,hf,g0,g1,g2⟩:=(N l).bo.aG aa;have an:=B.bo.len;have h8:=B.types.len;have h9:=aw aa;have al:=aw K;have Y:cO (z -1)=((z.toNat -1:Nat):Int):=by rw[aP V V];omega
   have ab:=(A l).aG I;have ac:=(u l).aG K;refine⟨V,V,y,ab,V,V,z,ac,?_⟩;rw[Y];refine⟨V,V,_,g0,_,g1,_,g2,?_⟩;intro L;have s:J f L:=J.push _ _;have af:C.size<f.size:=l.lt (m _ aL);have ag:q.size<f.size:=l.lt (m _ aL);refine⟨s.da g0,s.da g1,s.da g2,s.da ac,s.da ab,aE (s.same _ af) _,aE (s.same _ ag) _,?_⟩;intro D;have x5:J f D:=s.ah (ad _) _ _;have am:D.size=f.size+1:=by simp[D,L,av]
   clear_value D;refine⟨V,V,V,?_⟩;intro F;have W:J f F:=x5.trans (J.push _ _);have u6:=l.trans W;have aj:∀g∈[f.size,C.size,q.size],g<F.size:=by simp[F];omega
   refine⟨aE ((J.push D _).same _ V) _,?_⟩;have ai:ap F (w.cut 1 w.len 1) (x.args.drop 1):=by
    have:=(eT.KU (A u6) (i:=1) (j:=x.args.length) V (ad _));rw[fw]at this;rw[h1];exact this
   exact(sX (u u6) ai (Qy x5 [G.tf] rfl aL)).aH (J.az F) aj λg m7 x7 _=>⟨_,rfl,Q (u6.trans x7)⟩
def _root_.Go.Vc.J.oP{c m:E}(h:J c m)(k:J c b){l:List Nat}(e:∀a∈l,a<c.size):eF l m b:=λa d=>by rw[k.same a (e a d),h.same a (e a d)]
def tq(x:cU)(b:Bool)(a:b=true<->0<=x.op/\x.op<=11):dn x=if b=true then 1 else 0:=by
 unfold dn;by_cases h:b=true
 .rw[an h];exact an (a.1 h)
 .rw[ae h];exact ae λc=>h (a.2 c)
def nt{I:List bz}{Z:List gR}:∀a:Bk,WK I Z a:=by
 refine Bk.ind ?_;intro aB Y W D d r c am v R U t j;simp only[Bk.jV,Bk.jx,Bk.qQ]at*;apply AI;simp -zeta only[aD,aC];intro E e;have y:J D e:=(J.push _ _).trans (J.push _ _);have g:∀a∈[E.size,D.size],a<e.size:=by simp[e,E];omega
 clear_value e;have T:=t.len;refine(mr (S:=[]) aL (U.le (y.le.trans (Am _))) V).aH (J.az e) g λs0 _ m2 i K x2 _=>⟨_,rfl,?_⟩;subst K;have C:=BP aB;refine ez (n:=aB.length) (T▸t.gV) (λk s b=>J e b/\∃l,GI [] e b s l/\l.length=v.length+dc (aB.take k)) ⟨x2,_,i,aL⟩ ?_;rintro k s X aa μ hk ⟨z,l,m,hc⟩ G
 have p:=y.trans z;have ac:=tn (aB.take k);have ag:=qS k aB;have ah:=gB (aB.take k);have af:=m.len bn;have q:=(m.done aL (oh (C k))).le (bA _ _);refine⟨λh=>?_,λh=>?_⟩
 .simp only[ar]at h;let⟨x,o⟩:=cG aB k;let⟨ab,kk,O,Q,i,g1,g2,M,N⟩:=(t.le p.le).aG o;have aj:=p7 o;have ai:=C (k+1);have ad:=qV o;refine⟨V,V,_,i,_,g1,_,g2,_,M,_,N,?_⟩;refine(om (R.le p.le) q O Q V (W x (aq o))).aH z g λak F f u=>⟨_,rfl,λ_=>rN (y.trans u),λ_=>⟨V,V,_,f.af i,?_⟩⟩;refine(jR _ _).aH (J.az F) (λa j=>u.lt (g a j)) λa m5 P _ A=>⟨_,rfl,?_⟩;have hd:=tq x a P;have w:=u.trans A;refine⟨λh=>?_,λh=>?_⟩
  .rw[an h]at hd;intro m6;refine GI.kL ((m.ext f).ext A) (w.fz []) aL V λr m7 L B H al=>⟨?_,G V _ _ ⟨B.ext,_,L,bF⟩⟩;exact J.oP (w.aK _) B.ext g
  .rw[ae (by simp[h])]at hd;exact G V _ _ ⟨w,l,(m.ext f).ext A,V⟩
 .refine(aX _ _ _ _).aH (J.az X) (λa j=>z.lt (g a j)) λa F o _ f=>⟨_,rfl,λ_=>rN (p.trans f),λh=>?_⟩;have h:=yb o h;have w:=q.gV;rw[aP V V]at h;let⟨H,u⟩:=cG l Y.toNat;exact⟨V,V,H,(q.ext f).aG u,rN (p.trans f)⟩
end
section
variable{b:E}{d e g k:O}{f:List gR}{c:cU}{h:Nat}
def _root_.Go.Vc.cz{S a:List Nat}{d o:Nat}{l:List Ce}(i:d∈S)(g:∀c∈a,c∈S):Le (bH S b) (bH a (ah b d o l)):=
 pK λc _ e=>⟨λh=>e (g c h),bd _ _ _ _ λf=>e (f▸i)⟩
def ZH(a:Bk):Prop:=∀(b:E)(t:O),eP b t a.aB->∀left:Int,-1<=left->left<=600->tg 306 [.agg #[O.v t,vi a.aT],vi left] b λk=>-1<=k/\k<=600
def I8:∀j:Bk,ZH j:=by
 refine Bk.ind ?_;intro aB aa K b ab q left A C;simp only[Bk.jV,Bk.jx]at*;apply Bz;simp -zeta only[aD,aC];intro f;have w:J b f:=J.push _ _;have F:∀j∈[b.size],j<f.size:=by simp[f]
 clear_value f;have I:=q.len;have r:∀{d:E}{a:Int},J f d->-1<=a/\a<=600->∃k:Int,vi a=vi k/\(-1<=k/\k<=600)/\J b d:=λh o=>⟨_,rfl,o,w.trans h⟩;refine ez (n:=aB.length) (I▸q.gV) (λ_ a d=>J f d/\-1<=a/\a<=600) ⟨J.az _,A,C⟩ ?_;rintro k a M U μ hk ⟨l,o⟩ P
 refine⟨λh=>⟨λ_=>r l V,λB=>?_⟩,λ_=>r l o⟩;simp only[ar]at h;simp only[bE]at B;let⟨c,u⟩:=cG aB k;let⟨g,v,Z,m,X,g1,g2,Y,s⟩:=(q.le (w.trans l).le).aG u;have D:=m.len;rw[aP (b:=a -1) V V];refine ez (n:=c.bC.length) (D▸m.gV) (λ_ a d=>J M d/\-1<=a/\a<=600) ⟨J.az _,V,V⟩ ?_;rintro L Q N W μ2 hj ⟨i,p⟩ O;refine⟨V,V,v,i.af s,λh=>?_,λ_=>P V _ _ ⟨l.trans i,p⟩⟩;simp only[ar]at h;let⟨j,t⟩:=cG c.bC L;let⟨R,H,y,z⟩:=(m.le i.le).aG t;refine⟨V,V,v,i.af s,V,V,_,y,_,z,?_⟩;exact(K c (aq u) j (aq t) N R H Q p.1 p.2).aH (l.trans i) F λe m4 G T S=>⟨_,rfl,λ_=>r S V,λh=>O V _ _ ⟨i.trans T,G⟩⟩
def Mo{t:O}{c:Bk}(g:eP b t c.aB):FA 262 [.agg #[O.v t,vi c.aT]] b:=by
 apply Fc;simp -zeta only[aD,aC];intro a;have d:J b a:=J.push _ _;have f:∀c∈[b.size],c<a.size:=by simp[a]
 clear_value a;exact(I8 c a t (g.le d.le) 600 V V).aH (J.az a) f λn h _ _ e=>⟨_,rfl,λ_=>rN (d.trans e),λ_=>rN (d.trans e)⟩
def pOf(e:gR):dy:=⟨e.params,[],e.aT,0,[]⟩
def oU.mono:oG 5 oU:=⟨λh⟨g,a,b⟩=>⟨g,a,b.le h⟩,λ⟨g,a,_⟩=>by rw[a];rfl⟩
def No{F:List bz}(t:eL b d e F f):aN cq 305 [.agg #[O.v d,O.v e]] b λY g=>∃v,Y=.agg #[O.v d,O.v v]/\eT g 5 (oU g) v (f.map pOf)/\J b g:=by
 apply Hc;simp -zeta only[aD,aC];intro j a2 a3 a4 p;have ac:=t.iX.len;have hf:=t.oJ;have Z:J b a2:=(J.push _ _).trans (J.push _ _);have W:j.size=b.size+1:=by simp[j]
 have X:a2.size=b.size+2:=by simp[a2,W]
 have s3:a3.size=b.size+3:=by simp[a3,X]
 have A:J a3 p:=(J.push a3 _).ah (ad _) _ _;have L:Gr [a3.size,j.size] a2 p fq 5 oU (.mk a2.size 0 0 0) []:=(Gr.new _ (ad _) _ _ _).ext oU.mono A;have D:cD p a3.size kK [.s d,.s (.mk a2.size 0 0 0)]:=cD.ah (m:=a4) (o:=0) (r:=[.s d,.s (.mk a2.size 0 0 0)]) (cD.push a3 _ _);have aa:J a2 p:=(J.push a2 _).trans A;clear_value p;have N:∀l∈[j.size,b.size],l<a2.size/\l∉([]:List Nat):=bF;refine dT (n:=f.length) V (λk g=>J a2 g/\∃s,Gr [a3.size,j.size] a2 g fq 5 oU s ((f.take k).map pOf)/\cD g a3.size kK [.s d,.s s]) ⟨aa,_,L,D⟩ ?_;rintro k Q ab μ hk ⟨u,s,h,B⟩ S
 have z:=Z.trans u;refine dit (λM=>?_) λM=>?_
 .let⟨T,x⟩:=cG f k;have P:zK (bH (s.D::[a3.size,j.size]) Q) e f:=t.iX.le ((Am b).trans ((z.fz []).bH aL λl q=>Or.inr ?_))
  .let⟨y,ae,l,E,c2,c3,G,e1,H,e3,e4⟩:=P.aG x;refine⟨s,B.cp 1,V,V,y,(eQ.1 G).2,V,V,_,(eQ.1 H).2,?_⟩;intro R;refine Gr.box (g:=[.s .nil,.i 0,.i 0,.i 0,.s .nil]) (j:=1) (i:=[.s d,.s s]) (w:=pOf T) oU.mono bn h (u.fz []) ⟨y,rfl,E⟩ bF B aL bn ⟨V,aL⟩ (λl q=>by have C:=N l q;have I:=h.bh;have w:=u.size;omega) λU g K C I z' q'=>S V _ ⟨I.ext,U,?_,C⟩
   rw[aU x,fu];exact K
  .have:=h.bh;simp at q;omega
 .refine⟨d,B.cp 0,s,B.cp 1,?_⟩;intro R;have x:=h.ne B bn;have y:=h.bh;rw[bX V]at h;refine⟨s,rfl,?_,z.ah V _ _⟩;have w:=h.nK oU.mono bF bn bF;exact eT.le w ((cz (a:=[]) aL aL).trans (bA _ _)) λq c=>oU.mono.le ((cz (a:=[]) aL aL).trans (bA _ _))
def xX{r:List bz}(c:eL b d e r f):oV 261 [.agg #[O.v d,O.v e]] b:=by
 apply tS;simp -zeta only[aD,aC];intro g;have a:J b g:=J.push _ _;have i:∀h∈[b.size],h<g.size:=by simp[g]
 clear_value g;have K:=c.iX.len;have G:=c.oJ;refine⟨λ_=>rA a,λ_=>?_⟩;refine(No (c.le a.le)).mono λ_ L⟨F,s,w,j⟩=>?_;subst s;refine⟨j.dq i,_,_,rfl,?_⟩;refine(uW (c.le (a.trans j).le).bo w).any.aH j i λh M R m=>⟨_,rfl,λ_=>rA (a.trans m),λ_=>?_⟩;refine dT (n:=f.length) V (λ_ l=>J g l) m ?_;rintro k N I μ H l y
 refine⟨λv=>?_,λ_=>rA (a.trans l)⟩;simp only[ar]at v;let⟨Q,x⟩:=cG f k;let⟨z,A,h,p,q,B,t,u,C,D,E⟩:=(c.le (a.trans l).le).iX.aG x;refine⟨V,V,z,t,V,V,A,u,?_⟩;exact(uV p q).any.aH l i λh P S o=>⟨_,rfl,λ_=>rA (a.trans o),λ_=>y V _ o⟩
def Fi{z:List bz}(i:eL b d e z f)(G:∀q∈f,q.params.length+4*q.body.w<=10^12):oV 242 [.agg #[O.v d,O.v e]] b:=by
 apply xY;simp -zeta only[aD,aC];intro c;have m:J b c:=J.push _ _;have t:∀a∈[b.size],a<c.size:=by simp[c]
 clear_value c;have T:=i.iX.len;have R:=i.oJ;refine(xX (i.le m.le)).aH (J.az c) t λa U x _=>⟨_,rfl,λ_=>rA (m.trans x),λ_=>?_⟩;refine dT (n:=f.length) V (λ_ g=>J c g) x ?_;rintro k l P μ S o L
 refine⟨λF=>?_,λ_=>rA (m.trans o)⟩;simp only[ar]at F;let⟨q,u⟩:=cG f k;have v:=m.trans o;let⟨M,X,a,y,Q,s,A,B,C,D,E⟩:=(i.le v.le).iX.aG u;refine⟨V,V,_,A,_,B,_,C,_,D,_,E,?_⟩;intro H g;have j:J l g:=(J.push l _).ah (ad _) _ _;have p:∀a∈[l.size,b.size],a<g.size:=by
  have:=o.lt (t b.size aL);have:g.size=l.size+1:=by simp[g,H,av]
  simp;omega
 clear_value g;have r:=v.trans j;refine(Mo (s.le j.le)).aH (J.az g) p λK I h _=>⟨_,rfl,λ_=>rA (r.trans h),λ_=>?_⟩;refine(nt q.body I d e M a q.params (i.le (r.trans h).le) (y.ext (j.trans h)) (s.le (j.trans h).le) (G q (aq u))).aH h p λK W N w=>⟨_,rfl,aE (N.same _ (h.lt (p _ aL))) _,λ_=>rA (r.trans w),λ_=>L V _ ((o.trans j).trans w)⟩
def yw(c:Int)(b:E):oV 121 [vi c] b:=by
 apply sD;have e:∀a:Bool,∃k:Bool,vb a=.bool k/\J b b:=λa=>rA (J.az b);exact⟨λ_=>e _,λ_=>⟨λ_=>e _,λ_=>⟨λ_=>e _,λ_=>e _⟩⟩⟩
def WN(f:List gR)(c:cU):Prop:=c.op=9->0<=c.bQ/\c.bQ<f.length
structure At(b:E)(d e g k:O)(ds:List bz)(f:List gR)(c:cU):Prop where
 Q9:eL b d e ds f
 args:ap b g c.args
 call:WN f c
def At.le{b j:E}{d e g k:O}{a:List bz}{f:List gR}{c:cU}(h:At b d e g k a f c)(i:Le b j):At j d e g k a f c:=⟨h.Q9.le i,h.args.le i,h.call⟩
def dD{o1 o2:Obj}{a c:E}(e:a=b.push o1)(f:c=a.push o2):J b c/\∀d∈[a.size,b.size],d<c.size:=by
 subst e f;exact⟨(J.push _ _).trans (J.push _ _),bF⟩
def nU{o:List bz}(a:At b d e g k o f c)(h:Int):oV 308 [.agg #[O.v d,O.v e],pv c g k,vi h] b:=by
 apply GZ;simp -zeta only[aD,aC];intro s i;let⟨j,q⟩:=dD (a:=s) (c:=i) rfl rfl;clear_value i;have C:=a.Q9.iX.len;refine⟨λl=>?_,λ_=>rA j⟩;simp only[aI]at l;have B:=a.call l;let⟨F,r⟩:=cG f c.bQ.toNat;let⟨E,t,m,v,n,w,x,p,y,z,A⟩:=(a.Q9.le j.le).iX.aG r;exact⟨V,V,t,p,(dv n h).any.aH (J.az i) q λm D u _=>⟨_,rfl,rA (j.trans u)⟩⟩
def mM{q:O}{s:List bz}(j:At b d e g k s f c){v:List Int}(o:ap b q v)(u:∀y∈c.args,0<=y/\y<(v.length:Int))(t:h<c.args.length):oV 304 [.agg #[O.v d,O.v e],O.v q,pv c g k,vi h] b:=by
 apply zd;simp -zeta only[aD,aC];intro x a;let⟨l,n⟩:=dD (a:=x) (c:=a) rfl rfl;clear_value a;have B:=j.args.len;have D:=o.len;let⟨y,p⟩:=dB t;have C:=u y (aq p);let⟨A,w⟩:=cG v y.toNat;refine(yw c.op a).aH (J.az a) n λr E m _=>⟨_,rfl,λ_=>?_,λ_=>rA (l.trans m)⟩;have i:=l.trans m;refine⟨V,V,y,(j.args.ext i).aG p,V,V,A,(o.ext i).aG w,λ_=>?_,λ_=>rA i⟩;exact(nU (j.le i.le) h).aH m n λr F G z=>⟨_,rfl,rA (l.trans z)⟩
def De{r:List bz}(a:At b d e g k r f c)(u:h<c.args.length):oV 336 [.agg #[O.v d,O.v e],pv c g k,vi h] b:=by
 apply wM;simp -zeta only[aD,aC];intro y l;let⟨q,v⟩:=dD (a:=y) (c:=l) rfl rfl;clear_value l;have t:=a.args.len;let⟨A,w⟩:=dB u;refine dT (n:=c.args.length) (t▸a.args.gV) (λ_ i=>J l i) (J.az _) ?_;rintro o E I μ D j z
 have i:=q.trans j;refine⟨λs=>⟨λ_=>?_,λ_=>?_⟩,λ_=>rA i⟩<;>simp only[ar]at s<;>have m:=z V
 .let⟨B,x⟩:=cG c.args o;refine⟨V,V,B,(a.args.ext i).aG x,V,V,A,(a.args.ext i).aG w,λ_=>⟨λ_=>rA i,λ_=>?_⟩,λ_=>m _ j⟩;exact(nU (a.le i.le) o).aH j v λC F G p=>⟨_,rfl,λ_=>rA (q.trans p),λ_=>m _ p⟩
 .exact m _ j
def Be{s r:O}{u:List bz}(i:At b d e g k u f c){z x:List Int}(w:ap b s z)(v:ap b r x)(p:h<c.args.length):oV 321 [.agg #[O.v d,O.v e],pv c g k,vi h,O.v s,O.v r] b:=by
 apply EP;simp -zeta only[aD,aC];intro A l;let⟨a,j⟩:=dD (a:=A) (c:=l) rfl rfl;clear_value l;have C:=i.args.len;let⟨y,q⟩:=dB p;refine⟨V,V,y,(i.args.ext a).aG q,?_⟩;refine(dv (v.ext a) y).any.aH (J.az l) j λo D n _=>⟨_,rfl,λ_=>rA (a.trans n),λ_=>?_⟩;have t:=a.trans n;refine⟨V,V,y,(i.args.ext t).aG q,?_⟩;refine(dv (w.ext t) y).any.aH n j λo E G m=>⟨_,rfl,λ_=>rA (a.trans m),λ_=>?_⟩;exact(De (i.le (a.trans m).le) p).aH m j λo F H B=>⟨_,rfl,rA (a.trans B)⟩
end
section
def XO(b:Bk):Prop:=∀(S:List Nat)(m:E),(∀c∈S,c<m.size)->∀(t a:O)(l:List Int)(n:Int)(k:Nat),eP m t b.aB->ap (bH S m) a l->k<=b.aB.length->l.length+b.w<=10^12->
 Fy 290 [.agg #[O.v t,vi b.aT],vi n,vi k,O.v a] m S λc=>c.length<=l.length+b.w
def _root_.Go.Vc.Xd{σ:Type}{n b:Nat}(l:b<=n)(q:n<=9223372036854775807){m:E}{g:σ}{f:(σ->Int->E->Prop)->(σ->Int->E->Nat)->σ->Int->E->Prop}(Q:Nat->σ->E->Prop)(j:Q b g m)
 (h:∀(k:Nat)(s:σ)(a:E)(I:σ->Int->E->Prop)(μ:σ->Int->E->Nat),b<=k->k<=n->Q k s a->
  (k<n->∀d c,Q (k+1) d c->I d (cO ((k:Int)+1)) c/\μ d (cO ((k:Int)+1)) c<μ s k a)->f I μ s k a):
 ∃(I:σ->Int->E->Prop)(μ:σ->Int->E->Nat),I g b m/\∀s i a,I s i a->f I μ s i a:=by
 refine⟨λs i c=>∃k:Nat,i=k/\b<=k/\k<=n/\Q k s c,λ_ i _=>(n -i).toNat,⟨b,rfl,ad _,l,j⟩,?_⟩
 rintro s i a ⟨k,rfl,o,p,r⟩
 refine h k s a _ _ o p r λe d c t=>?_
 rw[jW e q]
 exact⟨⟨k+1,rfl,V,e,t⟩,DI e⟩
def Eu{S:List Nat}{m:E}(P:∀g∈S,g<m.size){B F G:O}{l:List Int}{x:cU}(K:Int)(q:ap m B x.args)(t:nI m F x.bC)(D:ap (bH S m) G l)(hb:l.length+x.w<=10^12)(U:∀e∈x.bC,XO e):
 Fy 320 [pv x B F,vi K,O.v G] m S λa=>a.length<=l.length+x.w:=by
 apply xw
 simp -zeta only[aD,aC]
 intro b
 have f:J m b:=J.push _ _
 have u:∀e∈[m.size],e<b.size:=by simp[b]
 clear_value b
 have Q:=q.len
 have R:=t.len
 have hw:=cU.mu x
 have H:∀{c:E},J b c->∀g∈S,g<c.size:=λh g C=>aO (P g C) (f.trans h).size
 refine(tK x.op b).any.aH (J.az b) u λe m2 o _=>⟨_,rfl,λ_=>⟨_,_,rfl,D.le ((f.trans o).df S),V,f.trans o⟩,λ_=>?_⟩
 refine ez (n:=x.args.length) (Q▸q.gV) (λv s c=>J b c/\∃a,ap (bH S c) s a/\a.length<=l.length+v) ⟨o,l,D.le ((f.trans o).df S),ad _⟩ ?_
 rintro v s m3 ab μ hj ⟨d,a,j,C⟩ z
 refine dit (λh=>?_) λh=>?_
 .let⟨y,i⟩:=cG x.args v
  have g1:=(q.ext (f.trans d)).aG i
  refine⟨V,V,y,g1,λ_=>⟨V,V,y,g1,λ_=>⟨V,V,y,g1,?_⟩,λ_=>z V _ _ ⟨d,a,j,V⟩⟩,λ_=>z V _ _ ⟨d,a,j,V⟩⟩
  exact(mF (H d) j y V).aH d u λY w I g2 A p k=>⟨_,rfl,z V _ _ ⟨k,w,g2.done (H d) (oh A.2),oh A.2⟩⟩
 .refine ez (n:=x.bC.length) (R▸t.gV) (λi s c=>J b c/\∃a,ap (bH S c) s a/\a.length<=l.length+x.args.length+bw (x.bC.take i)) ⟨d,a,j,bF⟩ ?_
  rintro i Z I I2 μ2 hi ⟨p,w,g2,ae⟩ X
  have k:=f.trans p
  have y:=KO x.bC
  refine⟨λh=>?_,λh=>⟨_,_,rfl,g2,oh (y i),k⟩⟩
  simp only[ar]at h
  let⟨e,r⟩:=cG x.bC i
  let⟨aa,T,L,M⟩:=(t.le k.le).aG r
  have ac:=uH r
  refine⟨V,V,_,L,_,M,?_⟩
  exact(U e (aq r) S I (H p) aa Z w K 0 T g2 (dH _) (oh (y (i+1)))).aH p u λY W m5 N A x5 u5=>⟨_,rfl,X V _ _ ⟨u5,W,N,V⟩⟩
def AB:∀e:Bk,XO e:=by
 refine Bk.ind ?_;intro aB P K S o B ab aa l L Z i G D W;simp only[Bk.jV,Bk.jx,Bk.qQ]at*;apply Ev;simp -zeta only[aD,aC];intro a;have d:J o a:=J.push _ _;have r:∀e∈[o.size],e<a.size:=by simp[a]
 clear_value a;have I:=i.len;have H:∀{c:E},J a c->∀f∈S,f<c.size:=λh f p=>aO (B f p) (d.trans h).size;refine Xd (n:=aB.length) D (I▸i.gV) (λj s c=>J a c/\∃m,ap (bH S c) s m/\m.length<=l.length+sw (aB.take j)) ⟨J.az _,l,G.le (d.df S),V⟩ ?_;rintro j s v T μ _ X ⟨b,m,g,p⟩ M
 have y:=d.trans b;have t:=BP aB;refine⟨λh=>?_,λh=>?_⟩
 .simp only[ar]at h;let⟨R,k⟩:=cG aB j;let⟨U,kk,C,F,w,g1,g2,x,z⟩:=(i.le y.le).aG k;have Y:=p7 k;refine⟨V,V,_,w,_,g1,_,g2,_,x,_,z,?_⟩;exact(Eu (H b) L C F g (oh (t (j+1))) (K R (aq k))).aH b r λN u m3 A q x3 Q=>⟨_,rfl,M V _ _ ⟨Q,u,A,V⟩⟩
 .have A:=t j;have w:∃x k,O.v s=O.v x/\ap (bH S v) x k/\k.length<=l.length+(1+sw aB)/\J o v:=⟨_,_,rfl,g,V,y⟩;refine⟨λ_=>⟨λ_=>?_,λ_=>w⟩,λ_=>w⟩;exact(mF (H b) g P V).aH b r λN u C g2 q F z=>⟨_,rfl,_,_,rfl,g2.done (H b) (oh q.2),oh q.2,d.trans z⟩
def DO{S:List Nat}{m:E}(i:∀d∈S,d<m.size){t:O}{b:Bk}(l:eP m t b.aB)(n:Int)(c:b.w<=10^12):Fy 255 [.agg #[O.v t,vi b.aT],vi n] m S λf=>f.length<=b.w:=by
 apply Hg;simp -zeta only[aD,aC];intro g a;let⟨e,k⟩:=dD (a:=g) (c:=a) rfl rfl;have h:ap (bH S a) (.mk g.size 0 0 0) []:=⟨rfl,ad _,aL,aL⟩;clear_value a;exact(AB b S a (λd j=>e.lt (i d j)) t _ _ n 0 (l.le e.le) h (dH _) (by simpa using c)).aH (J.az a) (λb c=>k b (by simp at c⊢;exact Or.inr c)) λr f j g2 q d _=>⟨_,rfl,_,_,rfl,g2,by simpa using q,e.trans d⟩
section
variable{b:List Nat}{m:E}(e:∀c∈b,c<m.size){d r a k s q p:O}{t:List bz}{w:List gR}{x:cU}(h:At m d r a k t w x){v g u:List Int}(o:ap m s v)(l:∀y∈x.args,0<=y/\y<(v.length:Int))(f:ap m q g)(j:ap m p u)
include e h o l
def y8(M:x.args.length<=10^12):k8 259 [.agg #[O.v d,O.v r],O.v s,pv x a k] m b (pB x.args):=by
 apply um;simp -zeta only[aD,aC];intro I g P;let⟨q,B⟩:=dD (a:=I) (c:=g) rfl rfl;clear_value g;have H:=h.args.len;refine ez (n:=x.args.length) (H▸h.args.gV) (λj v p=>J g p/\∃f,GI b g p v f/\(∀y∈f,y∈x.args)/\f.length<=j) ⟨J.push _ _,[],GI.nil b g,aL,ad _⟩ ?_;rintro j v Q K μ N ⟨E,f,t,u,A⟩ D
 have w:=q.trans E;refine dit (λG=>?_) λG=>?_
 .let⟨y,C⟩:=cG x.args j;refine(mM (h.le w.le) (o.ext w) l (h:=j) V).aH E B λL R F p=>⟨_,rfl,λ_=>⟨V,V,y,(h.args.ext (q.trans p)).aG C,?_⟩,λ_=>D V _ _ ⟨p,f,t.ext F,u,V⟩⟩;intro S;exact GI.kL (t.ext F) (p.fz []) (λc A=>q.lt (e c A)) V λr T g2 z _ _=>⟨J.oP (p.aK _) z.ext B,D V _ _ ⟨z.ext,_,g2,pb u (aq C),bF⟩⟩
 .exact⟨v,f,rfl,t.cv (λ_ h=>h) q.size,⟨u,V⟩,w⟩
include f j
def GJ(W:x.args.length<=10^12):k8 292 [.agg #[O.v d,O.v r],O.v s,pv x a k,O.v q,O.v p] m b (pB x.args):=by
 apply zc;simp -zeta only[aD,aC];intro S u Y;let⟨v,B⟩:=dD (a:=S) (c:=u) rfl rfl;clear_value u;have R:=h.args.len;refine ez (n:=x.args.length) (R▸h.args.gV) (λt D w=>J u w/\∃g,GI b u w D g/\(∀y∈g,y∈x.args)/\g.length<=t) ⟨J.push _ _,[],GI.nil b u,aL,ad _⟩ ?_;rintro t D Z U μ X ⟨M,g,w,z,K⟩ C
 have E:=v.trans M;refine dit (λQ=>?_) λQ=>?_
 .let⟨y,L⟩:=cG x.args t;refine(mM (h.le E.le) (o.ext E) l (h:=t) V).aH M B λP m4 H F=>⟨_,rfl,λ_=>?_,λ_=>C V _ _ ⟨F,g,w.ext H,z,V⟩⟩;have G:=v.trans F;refine(Be (h.le G.le) (f.ext G) (j.ext G) (h:=t) V).aH F B λP m5 N A=>⟨_,rfl,λ_=>⟨V,V,y,(h.args.ext (v.trans A)).aG L,?_⟩,λ_=>C V _ _ ⟨A,g,(w.ext H).ext N,z,V⟩⟩;intro T;exact GI.kL ((w.ext H).ext N) (A.fz []) (λc K=>v.lt (e c K)) V λr T g2 I _ _=>⟨J.oP (A.aK _) I.ext B,C V _ _ ⟨I.ext,_,g2,pb z (aq L),bF⟩⟩
 .exact⟨D,g,rfl,w.cv (λ_ h=>h) v.size,⟨z,V⟩,E⟩
def II(U:g.length<=10^12):k8 294 [.agg #[O.v d,O.v r],O.v s,pv x a k,O.v q,O.v p] m b (pB g):=by
 apply Bg;simp -zeta only[aD,aC];intro Y z;let⟨t,F⟩:=dD (a:=Y) (c:=z) rfl rfl;clear_value z;have af:=h.args.len;have ab:∀{u:E},J z u->∀c∈b,c<u.size:=λh c hc=>aO (e c hc) (t.trans h).size;have X:aN cq 323 [O.v q,O.v p] z λv u=>eF [Y.size,m.size] z u/\∃Z:O,v=O.v Z/\∃A W,O.v Z=O.v A/\GI b m u A W/\pB g W/\J m u:=by
  refine(Nd (S:=[]) aL (f.le (t.le.trans (Am _))) (j.le (t.le.trans (Am _))) U).aH (J.az z) F λA w ag C I Q _=>⟨_,rfl,A,w,rfl,?_,I,t.trans Q⟩;let⟨D,K,g1,g2⟩:=C;exact⟨D,K,g1.cv t.size,g2.mono λ_ _ h=>h⟩
 refine⟨λ_=>X,λ_=>⟨λ_=>X,λ_=>?_⟩⟩;refine(mr (S:=[]) aL (f.le (t.le.trans (Am _))) U).aH (J.az z) F λs0 _ ag D ae Q _=>⟨_,rfl,?_⟩;subst ae;refine ez (n:=x.args.length) (af▸h.args.gV) (λH A u=>J z u/\∃w,GI b m u A w/\pB g w) ⟨Q,g,?_,λ_ h=>h,ad _⟩ ?_
 .let⟨D,K,g1,g2⟩:=D;exact⟨D,K,g1.cv t.size,g2.mono λ_ _ h=>h⟩
 rintro H A m3 ah μ hj ⟨x3,w,C,B⟩ L
 have M:=t.trans x3;refine⟨λT=>?_,λT=>⟨A,w,rfl,C,B,M⟩⟩;simp only[ar]at T;let⟨y,hy⟩:=cG x.args H;refine(mM (h.le M.le) (o.ext M) l (h:=H) V).aH x3 F λac m4 R N=>⟨_,rfl,λ_=>?_,λ_=>L V _ _ ⟨N,w,C.ext R,B⟩⟩;have P:=t.trans N;refine(Be (h.le P.le) (f.ext P) (j.ext P) (h:=H) V).aH N F λac m5 x5 G=>⟨_,rfl,λ_=>⟨V,V,y,(h.args.ext (t.trans G)).aG hy,?_⟩,λ_=>L V _ _ ⟨G,w,(C.ext R).ext x5,B⟩⟩;refine(BO (S:=b) (ab G) (((C.ext R).ext x5).done e (oh B.2)) y (oh B.2)).aH G F λr l2 m6 g2 I x6 u6=>⟨_,rfl,L V _ _ ⟨u6,l2,g2.cv (λ_ h=>h) (t.trans G).size,λaa hz=>B.1 aa (I.1 aa hz),bI I.2 B.2⟩⟩
omit o l
def IJ(hb:x.args.length<10^12):k8 295 [.agg #[O.v d,O.v r],pv x a k,O.v q,O.v p] m b (pB x.args):=by
 apply Bh;simp -zeta only[aD,aC];intro X l aa;let⟨g,w⟩:=dD (a:=X) (c:=l) rfl rfl;clear_value l;have T:=h.args.len;have R:∀{t:E},J l t->∀c∈b,c<t.size:=λh c v=>aO (e c v) (g.trans h).size;refine ez (n:=x.args.length) (T▸h.args.gV) (λA H t=>J l t/\∃i,GI b l t H i/\(∀y∈i,y∈x.args)/\i.length<=A) ⟨J.push _ _,[],GI.nil b l,aL,ad _⟩ ?_;rintro A H m3 Z μ hj ⟨N,i,o,s,v⟩ B
 have M:=g.trans N;refine dit (λS=>?_) λS=>?_
 .let⟨y,z⟩:=cG x.args A;refine(nU (h.le M.le) A).aH N w λK m4 F C=>⟨_,rfl,λ_=>⟨V,V,y,(h.args.ext (g.trans C)).aG z,?_⟩,λ_=>B V _ _ ⟨C,i,o.ext F,s,V⟩⟩;refine(dv (f.ext (g.trans C)) y).any.aH C w λK m5 I D=>⟨_,rfl,λ_=>⟨V,V,y,(h.args.ext (g.trans D)).aG z,?_⟩,λ_=>B V _ _ ⟨D,i,(o.ext F).ext I,s,V⟩⟩;refine(dv (j.ext (g.trans D)) y).any.aH D w λK m6 P u=>⟨_,rfl,λ_=>⟨V,V,y,(h.args.ext (g.trans u)).aG z,?_⟩,λ_=>B V _ _ ⟨u,i,((o.ext F).ext I).ext P,s,V⟩⟩;refine(mF (R u) ((((o.ext F).ext I).ext P).done (λc v=>g.lt (e c v)) V) y V).aH u w λr W m7 g2 L x7 Y=>⟨_,rfl,B V _ _ ⟨Y,W,g2.cv (λ_ h=>h) u.size,λQ U=>?_,oh L.2⟩⟩;rcases L.1 Q U with G|G
  .exact s Q G
  .subst G;exact aq z
 .exact⟨H,i,rfl,o.cv (λ_ h=>h) g.size,⟨s,V⟩,M⟩
end
end
section
variable{m d a:E}{c e:List Nat}{s:O}{l:List Int}{f g:Nat}{K:Value->E->Prop}
def qx{o1 o2 o3:Obj}{a b c:E}(e:a=m.push o1)(f:b=a.push o2)(g:c=b.push o3):J m c/\(∀d∈[b.size,a.size,m.size],d<c.size)/\a.size=m.size+1/\b.size=m.size+2/\c.size=m.size+3:=by
 subst e f g;exact⟨((J.push _ _).trans (J.push _ _)).trans (J.push _ _),bF,aL,aL,aL⟩
def GI.Sr{X:List Nat}{n:E}{g:O}{k:List Int}{a:Int}{K:O->E->Prop}(p:GI c d m s l)(i:GI e n m g k)(j:s.D≠g.D)(q:Fz X d m)(w:l.length<=10^12)
 (t:∀r b,GI c d b r (l++[a])->GI e n b g k->r.D≠g.D->Fz X d b->K r b):jO (m.push (.cells (bt [.i a]) aA)) aA [.i 0] 8 s (.mk m.size 0 1 1) K:=by
 have u:=i.bh
 refine Gr.kL (g:=[.i 0]) ug.mono bn p q rfl V λr b o f z v=>t r b o (i.jz (v _ u.2 (kG j))) ?_ f
 rcases z.2 with h|h
 .rw[h];exact j
 .omega
def GI.any(h:GI c d m s l):GI e d m s l:=by
 let⟨b,a,f,g⟩:=h;exact⟨b,a,f,g.mono λ_ _ h=>h⟩
def eZ(a v:Int):cU:=⟨a,0,0,[v],[]⟩
abbrev GS(c:List Nat)(d m:E)(s:O)(l:List cU):Prop:=Gr c d m gF 5 gC s l
def GS.new(c:List Nat)(m:E):GS c m (m.push (.cells (bt []) gF)) (.mk m.size 0 0 0) []:=Gr.new c (ad _) _ _ _
def GS.kL{c X:List Nat}{d m:E}{s a k:O}{l:List cU}{x:cU}{K:O->E->Prop}(h:GS c d m s l)(i:Fz X d m)(g:ap (bH (s.D::c) m) a x.args)(j:nI (bH (s.D::c) m) k x.bC)(n:l.length<=10^12)
 (f:∀r b,GS c d b r (l++[x])->Fz X d b->m.size<=b.size/\(r.D=s.D\/m.size<=r.D)->(∀e,e<m.size->e≠s.D->b[e]? =m[e]?)->K r b):
 jO (m.push (.cells (bt [.i x.op,.i x.bQ,.i x.bZ,.s a,.s k]) gF)) gF [.i 0,.i 0,.i 0,.s .nil,.s .nil] 72 s (.mk m.size 0 1 1) K:=
 Gr.kL (g:=[.i 0,.i 0,.i 0,.s .nil,.s .nil]) gC.mono bn h i ⟨a,k,rfl,g,j⟩ V f
def GS.all{c X:List Nat}{d m:E}{s x:O}{l e:List cU}{K:O->E->Prop}(h:GS c d m s l)(g:Fz X d m)(i:eP (bH (s.D::c) m) x e)(j:l.length+e.length<=10^12)
 (f:∀r a,GS c d a r (l++e)->Fz X d a->m.size<=a.size/\(r.D=s.D\/m.size<=r.D)->(∀b,b<m.size->b≠s.D->a[b]? =m[b]?)->K r a):
 jO m gF [.i 0,.i 0,.i 0,.s .nil,.s .nil] 72 s x K:=
 Gr.all (g:=[.i 0,.i 0,.i 0,.s .nil,.s .nil]) gC.mono bn h g i V f
def mI{α:Type}(m:E)(a:Nat)(R:List Ce->α->Prop)(b o c:Nat):eT m a R (.mk b o 0 c) []:=⟨rfl,dH _,aL,aL⟩
def jm(n:∀f∈c,f<m.size)(g v:Int):aN cq 227 [vi g,vi v] m λs d=>∃a k,s=pv (eZ g v) a k/\ap (bH c d) a [v]/\nI (bH c d) k []/\J m d:=by
 apply CR;simp -zeta only[aD,aC];intro b e q r;have t:J m b:=J.push _ _;have u:J b e:=J.push _ _;have i:J e q:=J.push _ _;have w:b.size=m.size+1:=by simp[b]
 have p:J m r:=((t.trans u).trans i).ah (ad _) _ _;refine⟨_,_,rfl,?_,mI _ _ _ _ _ _,p⟩;have l:ap (bH (m.size::c) e) (.mk b.size 0 1 1) [v]:=ap.lit aA [v] (λj o=>by
  rcases List.mem_cons.1 o with h|h
  .omega
  .have:=n j h;omega) rfl rfl aL
 exact(l.le (i.df _)).le (cz bg λf h=>ai _ h)
def Rt(f:Nat)(b:List Value)(m:E)(c:List Nat)(Q:List cU->Prop):Prop:=aN cq f b m λv a=>∃s l,v=O.v s/\GS c m a s l/\Q l/\J m a
def Rt.aH{h:List Value}{l:List Nat}{Q:List cU->Prop}(k:Rt f h m c Q)(i:J a m)(q:∀e∈l,e<a.size)(p:∀s d b,GS c m b s d->Q d->J m b->J a b->K (O.v s) b):aN cq f h m λv b=>eF l m b/\K v b:=
 k.mono λ_ b⟨s,d,j,n,r,g⟩=>⟨g.dq λe o=>i.lt (q e o),j▸p s d b n r g (i.trans g)⟩
def eY(w:∀g∈c,g<m.size)(b:Int){p:O}(i:ap m p l)(B:l.length<=10^12):Rt 257 [vi b,O.v p] m c (l.map (eZ b)=·):=by
 apply AT;intro E;have z:=i.len;refine ez (n:=l.length) (z▸i.gV) (λk s d=>J m d/\GS c m d s ((l.take k).map (eZ b))) ⟨J.push m _,by simpa using GS.new c m⟩ ?_;rintro k s F I μ C ⟨e,d⟩ A
 refine dit (λh=>?_) λh=>?_
 .let⟨j,o⟩:=cG l k;refine⟨V,V,j,(i.ext e).aG o,?_⟩;refine(jm (c:=s.D::c) (λg y=>?_) b j).mono λN G⟨a,D,r,u,v,q⟩=>?_
  .have:=d.bh;rcases List.mem_cons.1 y with h|h
   .omega
   .exact e.lt (w g h)
  subst r;refine⟨_,_,_,_,_,rfl,?_⟩;intro H;refine GS.kL (x:=eZ b j) (d.ext gC.mono q) ((e.trans q).fz []) u v bF λM K t f P L=>A V _ _ ⟨f.ext,?_⟩
  rw[aU o,fu];exact t
 .rw[bX V]at d;exact⟨s,_,rfl,d,rfl,e⟩
def oI(a:Int):∀l:List Int,sw (l.map (eZ a))=2*l.length
 |[]=>rfl
 |v::l=>by rw[cK,mN,oI a l,cU.mu];simp[eZ];omega
def jX{a:Int}(h:14<=a):∀l:List Int,dc (l.map (eZ a))=0
 |[]=>rfl
 |v::l=>by
  rw[cK,kN,jX h l];unfold dn;rw[ae (λb:px (eZ a v).op=>by have:=b.2;simp only[eZ]at this;omega)]
def DZ{e:List bz}{a:Nat}{c v:Int}(h:14<=c/\c<=17)(f:0<=v/\v<(a:Int)):WS e g True a (eZ c v):=
 ⟨⟨Or.inr ⟨trivial,h⟩,λx d=>by simp[eZ]at d;subst d;exact f,λ_=>rfl,by simp[eZ],λb=>by simp only[eZ]at b;omega,λb=>by simp only[eZ]at b;omega,λb=>by simp only[eZ]at b;omega⟩,λk d b=>by simp[eZ]at b⟩
def rX{d:List bz}{a:Nat}{b:Int}(h:14<=b/\b<=17)(e:∀v∈l,0<=v/\v<(a:Int)):WL d g True a (l.map (eZ b)):=λi s c=>by
 rw[cJ,jI]at c;obtain⟨v,f,rfl⟩:=c;rw[<-Ok,jX h.1];exact DZ h (e v (aq f))
def nA(f:Nat)(d:List Value)(m:E)(c:List Nat)(Q:Bk->Prop):Prop:=aN cq f d m λv a=>∃s b,v=.agg #[O.v s,vi b.aT]/\eP (bH c a) s b.aB/\Q b/\J m a
def nA.aH{g:List Value}{l:List Nat}{Q:Bk->Prop}(k:nA f g m c Q)(h:J a m)(q:∀d∈l,d<a.size)(p:∀s d b,eP (bH c b) s d.aB->Q d->J m b->J a b->K (.agg #[O.v s,vi d.aT]) b):aN cq f g m λv b=>eF l m b/\K v b:=
 k.mono λ_ b⟨s,d,j,n,r,e⟩=>⟨e.dq λi o=>h.lt (q i o),j▸p s d b n r e (h.trans e)⟩
def KF(f:Nat)(d:List Value)(m:E)(c:List Nat)(Q:cU->Prop):Prop:=aN cq f d m λv b=>∃a k x,v=pv x a k/\ap (bH c b) a x.args/\nI (bH c b) k x.bC/\Q x/\J m b
def KF.aH{e:List Value}{l:List Nat}{Q:cU->Prop}(j:KF f e m c Q)(g:J a m)(s:∀b∈l,b<a.size)(r:∀p k x b,ap (bH c b) p x.args->nI (bH c b) k x.bC->Q x->J m b->J a b->K (pv x p k) b):aN cq f e m λv b=>eF l m b/\K v b:=
 j.mono λ_ b⟨p,k,x,i,n,o,t,d⟩=>⟨d.dq λh q=>g.lt (s h q),i▸r p k x b n o t d (g.trans d)⟩
def bP{b:E}(e:∀a∈c,a<m.size)(i:m.size<=b.size){d:Nat}(g:d<b.size):∀a∈d::c,a<b.size:=λa f=>by
 rcases List.mem_cons.1 f with h|h
 .omega
 .have:=e a h;omega
structure Zz(ds:List bz)(g:Nat)(v lo la:List Int)(b:Bk):Prop where
 aR:∀o∈lo,0<=o/\o<(v.length:Int)
 XG:lo.length+5*b.w<=500
 XE:la.length+1000*b.w<=1000000
 vN:v.length+5*b.w<=1000000
 wb:WB ds g False v.length b
def WM(a:List bz)(d:List gR)(b:Bk):Prop:=∀(c:List Nat)(m:E),(∀e∈c,e<m.size)->∀(g r k t j e:O)(v i h:List Int),eL m g r a d->ap m k v->eP m t b.aB->ap m j i->ap m e h->Zz a d.length v i h b->
 nA 256 [.agg #[O.v g,O.v r],O.v k,.agg #[O.v t,vi b.aT],O.v j,O.v e] m c λf=>WB a d.length True v.length f/\f.w+1050<=1100*b.w
structure Zy(ds:List bz)(g:Nat)(v fl lo la:List Int)(b:Bk):Prop where
 aR:∀o∈lo,0<=o/\o<(v.length:Int)
 fl3:fl.length<=3
 XG:lo.length+3+5*b.w<=500
 XE:la.length+1000*b.w<=1000000
 vN:v.length+3+5*b.w<=1000000
 wb:WB ds g False (v.length+fl.length) b
def JZ(hS:∀a∈c,a<m.size){ao G aV aF az bl a5:O}{ds:List bz}{rs:List gR}{P L lo la:List Int}{i:Bk}(hn:eL m ao G ds rs)(hv:ap m aV P)(hf:ap m aF L)(hs:eP m az i.aB)(u:ap m bl lo)(bd:ap m a5 la)
 (hp:Zy ds rs.length P L lo la i)(ih:WM ds rs i):nA 322 [.agg #[O.v ao,O.v G],O.v aV,O.v aF,.agg #[O.v az,vi i.aT],O.v bl,O.v a5] m c λq=>WB ds rs.length True (P.length+L.length) q/\q.w<=1100*i.w:=by
 apply CP
 simp -zeta only[aD,aC]
 intro d p C
 let⟨w,t,s0,s1,s2⟩:=qx (a:=d) (b:=p) (c:=C) rfl rfl rfl
 clear_value C
 have b7:=hv.len;have bx:=hf.len;have bE:=u.len;have bU:=hp.fl3;have bR:=i.Ht;have bW:=hp.XG;have b6:=hp.vN;have bV:=hp.XE
 refine(eO (S:=[]) aL (hv.le (w.le.trans (Am _))) (hf.le (w.le.trans (Am _))) V).aH (J.az C) t λaM _ b_ gi g x3 _=>⟨_,rfl,?_⟩
 subst g
 refine(DO (S:=[]) aL (hs.le (w.trans x3).le) _ V).aH x3 t λbK ul F hu b5 x4 H=>⟨_,rfl,?_⟩
 intro m5 m6
 have bg:ap F bK ul:=hu.le (bA _ _)
 have bq:J F m6:=(J.push F _).trans (J.push m5 _)
 have u6:=H.trans bq
 have s5:m5.size=F.size+1:=by simp[m5]
 have gm:GI c F m6 (.mk F.size 0 0 0) []:=(GI.nil c F).ext (J.push m5 _)
 have gd:GI c F m6 (.mk m5.size 0 0 0) []:=(GI.nil c m5).cv (λ_ r=>r) V
 clear_value m6
 have z4:=H.size
 refine xe (n:=lo.length) (bE▸u.gV) (λae h sd M=>J F M/\∃U I,GI c F M h U/\GI c F M sd I/\h.D≠sd.D/\(∀o∈U,o∈lo)/\(∀o∈I,o∈lo)/\U.length<=ae/\I.length<=ae) ⟨bq,[],[],gm,gd,bF,aL,aL,ad _,ad _⟩ ?_
 rintro ae h sd m7 br μ hk ⟨x7,U,I,gm,gd,be,a1,a0,cm,cd⟩ bk
 have u7:=H.trans x7
 have v7:=w.trans u7
 refine dit (λr=>?_) λr=>?_
 .let⟨j,hy⟩:=cG lo ae
  have B:=aq hy
  have A:∀M,J m7 M->jO (M.push (.cells (bt [.i j]) aA)) aA [.i 0] 8 h (.mk M.size 0 1 1) λN m'=>eF [p.size,d.size,m.size] (M.push (.cells (bt [.i j]) aA)) m'/\br N sd (cO ((ae:Int)+1)) m'/\μ N sd (cO ((ae:Int)+1)) m'<μ h sd ae m7:=λM aa=>
   GI.Sr (gm.ext aa) (gd.ext aa) be ((x7.trans aa).fz []) V λG m' z g' k f=>⟨J.oP ((u7.trans aa).aK _) (H.trans f.ext) t,bk V _ _ _ ⟨f.ext,_,_,z,g',k,pb a1 B,a0,bF,V⟩⟩
  refine⟨V,V,j,(u.ext v7).aG hy,?_⟩
  refine(dv (bg.ext x7) j).any.aH u7 t λa m8 v b=>⟨_,rfl,λ_=>⟨V,V,j,(u.ext (w.trans b)).aG hy,A m8 v⟩,λ_=>⟨V,V,j,(u.ext (w.trans b)).aG hy,?_⟩⟩
  refine(dv (bd.ext (w.trans b)) j).any.aH b t λa y Q u9=>⟨_,rfl,λ_=>⟨V,V,j,(u.ext (w.trans u9)).aG hy,A y (v.trans Q)⟩,λ_=>⟨V,V,j,(u.ext (w.trans u9)).aG hy,?_⟩⟩
  intro a6
  have aa:=v.trans Q
  exact GI.Sr (gd.ext aa) (gm.ext aa) be.symm ((x7.trans aa).fz []) V λG m' z g' k f=>⟨J.oP ((u7.trans aa).aK _) (H.trans f.ext) t,bk V _ _ _ ⟨f.ext,_,_,g',z,k.symm,a1,pb a0 B,V,bF⟩⟩
 have cm:U.length<=lo.length:=V
 have cd:I.length<=lo.length:=V
 intro m8
 have bY:=gm.bh
 have bS:=gd.bh
 refine ez (n:=L.length) (bx▸hf.gV) (λae s M=>J m7 M/\∃l,GI c m7 M s l/\(∀o∈l,0<=o/\o<((P.length+L.length:Nat):Int))/\l.length<=ae) ⟨J.push _ _,[],GI.nil c m7,aL,ad _⟩ ?_
 rintro bh su y I2 μ2 hj ⟨Q,A,gu,ar,cu⟩ a8
 have u9:=u7.trans Q
 have v9:=w.trans u9
 refine dit (λh2=>?_) λh2=>?_
 .let⟨j,hy⟩:=cG L bh
  refine⟨V,V,j,(hf.ext v9).aG hy,λ_=>?_,λ_=>a8 V _ _ ⟨Q,A,gu,ar,V⟩⟩
  rw[aP (b:=(aV.len:Int)+bh) V V]
  refine(dv ((bg.ext x7).ext Q) _).any.aH u9 t λa a6 ak aU=>⟨_,rfl,λ_=>?_,λ_=>a8 V _ _ ⟨Q.trans ak,A,gu.ext ak,ar,V⟩⟩
  intro bi
  refine GI.kL (gu.ext ak) ((Q.trans ak).fz []) (λa b=>aO (hS a b) (w.trans u7).size) V λG m' z f am Z=>⟨J.oP ((u9.trans ak).aK _) (u7.trans f.ext) t,a8 V _ _ ⟨f.ext,_,z,λo u=>?_,bF⟩⟩
  rcases List.mem_append.1 u with u|u
  .exact ar o u
  .simp at u;omega
 have b4:=gu.bh
 have aZ:=gm.ext Q
 have bv:∀{M:E},J C M->∀a∈p.size::c,a<M.size:=λr=>bP hS (w.trans r).size (r.lt (t _ aL))
 have aK:∀{M:E},J C M->h.D<M.size->∀a∈h.D::p.size::c,a<M.size:=λr T a b=>by
  rcases List.mem_cons.1 b with g|g
  .omega
  .exact bv r a g
 refine(eY (c:=h.D::p.size::c) (aK u9 aZ.bh.2) 14 ((gu.done (S:=c) (λa b=>aO (hS a b) (w.trans u7).size) V).le (bA _ _)) V).aH u9 t λs1 _ a6 g1 g ak aU=>⟨_,rfl,?_⟩
 subst g
 have a3:h.D<a6.size:=ak.lt aZ.bh.2
 refine(eY (c:=s1.D::h.D::p.size::c) (λa b=>?_) 15 ((((gd.done (S:=c) (λa b=>aO (hS a b) (w.trans H).size) V).le (bA _ _)).ext Q).ext ak) V).aH aU t λs2 _ bi g2 g aW bJ=>⟨_,rfl,?_⟩
 .rcases List.mem_cons.1 b with g|g
  .have:=g1.bh;omega
  .exact aK aU a3 a g
 subst g
 have bX:h.D<bi.size:=aW.lt a3
 have b0:=(g1.ext gC.mono aW).bh
 have e2:=g2.nK gC.mono (λb=>by
  have hy:=g2.bh;rcases List.mem_cons.1 b with g|g
  .have:=g1.bh;omega
  .have:=aK aU a3 _ g;omega) bn bF
 refine GS.all (g1.ext gC.mono aW) ((ak.trans aW).fz []) e2 bF λB N g3 f3 z3 q3=>⟨J.oP bJ (u9.trans f3.ext) t,?_⟩
 have al:J y N:=f3.ext
 have aB:=u9.trans al
 have cb:=w.trans aB
 have MZ:WL ds rs.length True (P.length+L.length) (A.map (eZ 14)++I.map (eZ 15)):=by
  refine(rX V ar).append ?_;rw[jX V];refine rX V λo u=>?_;have:=hp.aR o (a0 o u);omega
 have bo:dc (A.map (eZ 14)++I.map (eZ 15))=0:=by rw[cV,jX V,jX V]
 have ca:sw (A.map (eZ 14)++I.map (eZ 15))<=1006:=by rw[dC,oI,oI];omega
 have bb:GI c F N h U:=(gm.ext Q).ext al
 have bD:B.D≠h.D:=g3.Lv bb bn
 have aI:∀{M j:E},J C M->J C j->∀i∈[p.size,d.size,m.size],∀o,af j i o=af M i o:=λr h' i T o=>aE (by rw[h'.same i (t i T),r.same i (t i T)]) o
 have E4:∀{M j:E},J C M->J C j->∀{aw:Prop},aw->af j d.size 0=af M d.size 0/\af j d.size 1=af M d.size 1/\af j m.size 0=af M m.size 0/\af j m.size 1=af M m.size 1/\aw:=λr h' _ hp=>⟨aI r h' _ aL _,aI r h' _ aL _,aI r h' _ aL _,aI r h' _ aL _,hp⟩
 have F4:∀{M:E},Fz [h.D] y M->J F M:=λr=>Fz.ext ((((x7.trans Q).fz [h.D]).trans r).DR λi T=>Or.inr (by simp at T;omega))
 have b3:h.D<y.size:=aZ.bh.2
 have z3:=x3.size
 have tail:∀(M:E)(k:Nat)(ss:O)(q:Bk),GS (k::h.D::p.size::c) y M B (A.map (eZ 14)++I.map (eZ 15))->Fz [h.D] y M->y.size<=k->k<M.size->k≠B.D->eP (bH (k::B.D::h.D::p.size::c) M) ss q.aB->WB ds rs.length True (P.length+L.length) q/\q.w+1050<=1100*i.w->
  let R:E:=ah M k 0 [.s ss,.i q.aT]
  jO R gF [.i 0,.i 0,.i 0,.s .nil,.s .nil] 72 B ss λay M2=>eF [k,p.size,d.size,m.size] R M2/\af M2 k 1=af R k 1/\
   let M3:E:=ah M2 p.size 0 [.s ay,.i q.aT]
   ∃s ab,Value.agg #[O.v ay,vi q.aT]=.agg #[O.v s,vi ab.aT]/\eP (bH c M3) s ab.aB/\(WB ds rs.length True (P.length+L.length) ab/\ab.w<=1100*i.w)/\J m M3:=by
  intro M k ss q z ac bw bO bf au a4 R
  have cc:R.size=M.size:=av _ _ _ _
  have hy:=z.bh
  have bG:eP (bH (B.D::h.D::p.size::c) R) ss q.aB:=au.le (cz aL λa b=>ai _ b)
  have bQ:=Bk.mu q
  have b1:=gB q.aB
  have hF:=F4 ac
  have zF:=hF.size
  have z9:=ac.size
  have g1:GS (h.D::p.size::c) y R B _:=z.re gC.mono (Y:=[k]) ((Fz.az [k] M).ah (Or.inl aL) _ _) aL (by simpa using kG bf) λa b=>Or.inl (ai _ b)
  have f1:Fz [h.D] y R:=ac.ah (Or.inr bw) _ _
  have hw:=a4.2
  refine GS.all g1 f1 bG bF λG M2 g2 f am Z=>⟨λa b=>?_,aE (Z k V bf) _,?_⟩
  .simp at b
   refine Z a ?_ ?_<;>rcases b with rfl|rfl|rfl|rfl<;>omega
  intro M3
  have bL:J m M2:=Fz.ext (((v9.fz [h.D]).trans f).DR λi T=>Or.inr (by simp at T;omega))
  have b8:=g2.bh
  have h5:=g2.nK gC.mono (λb=>by
   rcases List.mem_cons.1 b with g|g
   .omega
   .rcases List.mem_cons.1 g with g|g
    .omega
    .have:=hS _ g;omega) bn bF
  refine⟨G,.mk _ q.aT,rfl,eP.le (cz aL λa b=>ai _ (ai _ b)) h5,⟨WB.of (MZ.append ?_) ?_,?_⟩,bL.ah V _ _⟩
  .rw[bo];exact a4.1.aS.1
  .rw[cV,bo,bT];exact a4.1.aS.2
  .rw[Bk.qQ,dC];omega
 have aR:∀(M:E)(e:List Nat)(K:O->E->Prop),J N M->GS e y M B (A.map (eZ 14)++I.map (eZ 15))->h.D∈e->(∀G j,GI c F j G (U++A)->GS e y j B (A.map (eZ 14)++I.map (eZ 15))->Fz [h.D] y j->M.size<=j.size->(∀i,i<M.size->i≠h.D->j[i]? =M[i]?)->K G j)->jO M aA [.i 0] 8 h su K:=by
  intro M e K hx z bC hK;have bI:ap (bH (h.D::c) M) su A:=by
   refine ap.le ((al.trans hx).df _) (Gr.nK (S:=h.D::c) ug.mono gu.any (λb=>?_) bn V);rcases List.mem_cons.1 b with g|g
   .omega
   .have:=hS _ g;have:=w.size;omega
  exact GI.all (bb.ext hx) ((((x7.trans Q).trans al).trans hx).fz []) (λa b=>aO (hS a b) (w.trans H).size) bI V λG j g' f am Z=>hK G j g' (z.NM gC.mono (Y:=[h.D]) ⟨am.1,λi T hn=>Z i T (by simpa using hn)⟩ (by simpa using bC) (by simpa using bD)) (((al.trans hx).fz [h.D]).trans ⟨am.1,λi T hn=>Z i T (by simpa using hn)⟩) am.1 Z
 have D:∀(M:E)(e:List Nat)(mn ag:O)(v:List Int),(∀a∈e,a<M.size)->Fz [h.D] y M->ap M mn (U++A)->ap M ag v->pB la v->nA 256 [.agg #[O.v ao,O.v G],O.v aM,.agg #[O.v az,vi i.aT],O.v mn,O.v ag] M e λq=>WB ds rs.length True (P.length+L.length) q/\q.w+1050<=1100*i.w:=by
  intro M e mn ag v bu ac h1 h2 h3;have hF:=F4 ac;have hm:=(w.trans H).trans hF;have bB:ap M aM (P++L):=(((gi.done aL bF).le (bA _ _)).ext x4).ext hF;have:=ih e M bu ao G aM az mn ag (P++L) (U++A) v (hn.le hm.le) bB (hs.le hm.le) h1 h2 ⟨λo u=>?_,bF,oh h3.2,bF,by simpa using hp.wb⟩
  .simpa using this
  .simp;rcases List.mem_append.1 u with u|u
   .have:=hp.aR o (a1 o u);omega
   .have:=ar o u;omega
 have b9:=al.size
 have b2:h.D<N.size:=V
 have bZ:B.D<N.size:=g3.bh.2
 have bc:∀{M:E},J C M->N.size<=M.size->∀a∈B.D::h.D::p.size::c,a<M.size:=λr hz a b=>by
  rcases List.mem_cons.1 b with g|g
  .omega
  .exact aK r V a g
 have iH:∀(M:E)(k:Nat)(mn ag:O)(v:List Int),GS (k::h.D::p.size::c) y M B (A.map (eZ 14)++I.map (eZ 15))->Fz [h.D] y M->N.size<=k->k<M.size->ap M mn (U++A)->ap M ag v->pB la v->
  aN cq 256 [.agg #[O.v ao,O.v G],O.v aM,.agg #[O.v az,vi i.aT],O.v mn,O.v ag] M λrv j=>eF [k,p.size,d.size,m.size] M j/\∃a9:O,∃aT:Int,rv=.agg #[O.v a9,vi aT]/\
   let R:E:=ah j k 0 [.s a9,.i aT]
   jO R gF [.i 0,.i 0,.i 0,.s .nil,.s .nil] 72 B a9 λay M2=>eF [k,p.size,d.size,m.size] R M2/\af M2 k 1=af R k 1/\
    let M3:E:=ah M2 p.size 0 [.s ay,.i aT]
    ∃s ab,Value.agg #[O.v ay,vi aT]=.agg #[O.v s,vi ab.aT]/\eP (bH c M3) s ab.aB/\(WB ds rs.length True (P.length+L.length) ab/\ab.w<=1100*i.w)/\J m M3:=by
  intro M k mn ag v z ac h1 h2 h3 h4 h5
  have hM:J C M:=H.trans (F4 ac)
  refine(D M (k::B.D::h.D::p.size::c) mn ag v (λa b=>?_) ac h3 h4 h5).aH (J.az M) (λa b=>?_) λss q j au hq hx _=>⟨_,_,rfl,tail j k ss q (z.ext gC.mono hx) (ac.then hx) V (hx.lt h2) V au hq⟩
  .rcases List.mem_cons.1 b with g|g
   .omega
   .exact bc hM V a g
  .rcases List.mem_cons.1 b with g|g
   .omega
   .exact hM.lt (t a g)
 have aS:∀(M:E)(o:Obj),GS (h.D::p.size::c) y M B (A.map (eZ 14)++I.map (eZ 15))->GS (M.size::h.D::p.size::c) y (M.push o) B (A.map (eZ 14)++I.map (eZ 15)):=λM o z=>
  z.re gC.mono (Y:=[]) ((J.push M o).fz []) aL aL λa b=>by
   rcases List.mem_cons.1 b with g|g
   .exact Or.inr V
   .exact Or.inl g
 have bN:Fz [h.D] y N:=al.fz _
 have aY:∀(M:E)(aX:List Nat)(K:Value->E->Prop),J C M->(∀a∈aX,a<M.size)->(∀s v j,ap j s v->pB la v->J M j->K (O.v s) j)->aN cq 337 [O.v a5,vi (aV.len:Int)] M λP m'=>eF aX M m'/\K P m':=λM aX K hM hL hK=>
  (O9 (S:=[]) aL (bd.le ((w.trans hM).le.trans (Am _))) _ V).aH (J.az M) hL λs v j z aw aa _=>hK s v j ((z.done aL (oh aw.2)).le (bA _ _)) aw aa
 have aJ:∀{M:E}{s:O},GI c F M s (U++A)->ap M s (U++A):=λz=>(z.done (λa b=>aO (hS a b) (w.trans H).size) bF).le (bA _ _)
 have a2:∀{M:E}{k:Nat},J C M->k<M.size->∀a∈[k,p.size,d.size,m.size],a<M.size:=λr T a b=>by
  rcases List.mem_cons.1 b with g|g
  .omega
  .exact r.lt (t a g)
 refine⟨aR N _ _ (J.az _) g3 aL λax aQ ga gs X am Z=>⟨λa b=>Z a (aB.lt (t a b)) (oh (t a b)),E4 aB (H.trans (F4 X)) ⟨?_,?_⟩⟩,?_⟩
 .have aj:=H.trans (F4 X)
  refine aY aQ _ _ aj (λa b=>aj.lt (t a b)) λan v aH ba bm W=>⟨_,rfl,E4 aj (aj.trans W) ⟨?_,?_⟩⟩
  .have aG:=aj.trans W
   have bM:=W.size
   refine(D aH (B.D::h.D::p.size::c) ax an v (bc aG V) (X.then W) ((aJ ga).ext W) ba bm).aH aG t λss q a7 au hq a_ bp=>⟨_,_,rfl,?_⟩
   intro bj
   have ce:=a_.size
   have bs:=(X.then W).then a_
   exact E4 bp (bp.aK _) (tail bj a7.size ss q (aS a7 _ ((gs.ext gC.mono W).ext gC.mono a_)) (bs.push _) V (by simp[bj]) V (au.le (tr (J.push a7 _) (ad _))) hq)
  .intro a7
   have bM:=W.size
   have aG:=aj.trans W
   exact E4 aG (aG.aK _) (iH a7 aH.size ax an v (aS aH _ (gs.ext gC.mono W)) ((X.then W).push _) V (by simp[a7]) (((aJ ga).ext W).ext (J.push _ _)) (ba.ext (J.push _ _)) bm)
 .intro W
  have aj:=H.trans (F4 X)
  have aG:J C W:=aj.aK _
  have a7:J aQ W:=J.push _ _
  refine E4 aj aG (aY W _ _ aG (a2 aG (by simp[W])) λan v ba a_ bj aH=>⟨_,rfl,E4 aG (aG.trans aH) ?_⟩)
  exact iH ba aQ.size ax an v ((aS aQ _ gs).ext gC.mono aH) ((X.then a7).then aH) V (aH.lt (by simp[W])) (((aJ ga).ext a7).ext aH) a_ bj
 .intro W
  have aH:J C W:=aB.aK _
  have bm:J N W:=J.push _ _
  refine E4 aB aH (aR W _ _ bm (aS N _ g3) aL λax a_ ga gs X am Z=>⟨λa b=>Z a (a2 aH (by simp[W]) a b) ?_,E4 aH (H.trans (F4 X)) ?_⟩)
  .rcases List.mem_cons.1 b with g|g
   .omega
   .have:=t a g;omega
  have aG:=H.trans (F4 X)
  have bp:W.size=N.size+1:=by simp[W]
  refine aY a_ _ _ aG (a2 aG V) λan v ba a7 bj aj=>⟨_,rfl,E4 aG (aG.trans aj) ?_⟩
  exact iH ba N.size ax an v (gs.ext gC.mono aj) (X.then aj) (ad _) (aj.lt V) ((aJ ga).ext aj) a7 bj
end
end Go.Proofs.YtkoifinbblcbiaaGreat
