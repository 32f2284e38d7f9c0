/- Part of a proof. -/
import Derived.Test.YtkoifinbblcbiaaGreatSH00
set_option linter.all false
set_option maxHeartbeats 8000000
set_option maxRecDepth 100000
namespace Go.Proofs.YtkoifinbblcbiaaGreat
open Go.Vc
section
open Tryz
variable{m:E}{R:Value->E->Prop}
variable{a b p d e f g h r u v w x y z B:O}{i j k l q o s t C D F G H I J K:Int}
def CP(p:Nat×Nat):=cY m R A0 [p] func167
def zD(p:Nat×Nat):=cY m R A0 [p,.agg [i,j,k,l,a,b]] func168
def rL(a:O):=cY m R A0 [a,i] func169
def Al(i:Int):=cY m R A0 [i] func170
def nU(e:Nat×Nat)(i:Int)(n:Int)(c:O)(m:E)(R:Value->E->Prop):Prop:=
 let k:E:=m.push (.cells (bt [.i i,.i n,.s c]) 46)
 MU m.size m.size (
 ((i==(1:Int))=true->
 R (vb true) k)/\
 ((i==(1:Int))=false->
 let v:E:=k.push (.map #[] 0)
 MU m.size m.size (
 ∃(o:Int->E->Prop)(μ0:Int->E->Nat),
 o (0:Int) v/\
 (∀(b:Int)(f:E),o b f->
 ((decide (b<(c.len:Int)))=true->
 (0:Int)<=b/\b<(c.len:Int)/\
 ∃t:Int,af f c.D (c.off+Int.toNat b*1)=some (vi t)/\
 ∃u:O,af f e.1 (e.2+3+5)=some (O.v u)/\
 aN cq 153 [O.v u,vi t] f λw g=>
 eG [m.size] f g/\
 ∃d:Int,∃q:Bool,w=.tuple #[vi d,vb q]/\
 (q=true->
 ∃l,DR g k.size l/\
 ∃s,DR g k.size s/\
 ∀a:E,DR a k.size (J2 s d (cQ ((vB l d)+(1:Int))))->a.size=g.size->(∀j,j≠k.size->a[j]? =g[j]?)->
 eG [m.size] g a/\
 ∃h:O,af a e.1 (e.2+3+5)=some (O.v h)/\
 (0:Int)<=d/\d<(h.len:Int)/\
 ∃r:Int,af a h.D (h.off+Int.toNat d*3)=some (vi r)/\
 ∃p,DR a k.size p/\
 af a h.D (h.off+Int.toNat d*3)=af a h.D (h.off+Int.toNat d*3)/\
 af a e.1 (e.2+3+5)=af a e.1 (e.2+3+5)/\
 ((decide ((cQ (r+(vB p d)))>(999999:Int)))=true->
 R (vb false) a)/\
 ((decide ((cQ (r+(vB p d)))>(999999:Int)))=false->
 Xo (SV.box m.size 46 [.i i,.i n,.s c]) (SV.box m.size 46 [.i i,.i n,.s c]) (
 o (cQ (b+(1:Int))) a/\μ0 (cQ (b+(1:Int))) a<μ0 b f)))/\
 (q=false->
 Xo (SV.box m.size 46 [.i i,.i n,.s c]) (SV.box m.size 46 [.i i,.i n,.s c]) (
 o (cQ (b+(1:Int))) g/\μ0 (cQ (b+(1:Int))) g<μ0 b f)))/\
 ((decide (b<(c.len:Int)))=false->
 R (vb true) f)))))
def sT(a:Nat×Nat)(b:Int)(d:Int)(e:O)(m:E)(R:Value->E->Prop)(f:nU a b d e m R):aN cq 171 [vp a.1 a.2,.agg #[vi b,vi d,O.v e]] m R:=
 yu (o:=⟨[(5,[(17,.I)])],[],[(5,[54])]⟩) (d:=51) (r:=[.tmp 4]) (a:=[.c (.p a.1 a.2),.agg [.i b,.i d,.s e]]) Pr Zz ZA Tryz.func171 (m:=OL Tryz.f171) (by kernel_rfl) (by kernel_rfl) (by kernel_rfl) (by kernel_rfl) aL (by kernel_rfl) (Eq.mp (by kernel_rfl) f)
def tP(a:O):=cY m R ⟨[(4,[(13,.I)])],[],[]⟩ [a,b] func172
def yY(a:O):=cY m R ⟨[(3,[(3,.S),(8,.I)])],[],[]⟩ [a] func173
def JZ(i:Int):=cY m R A0 [i,j,k] func174
def yW(p:Nat×Nat):=cY m R A0 [p,i,a] func175
def Ap(p:Nat×Nat):=cY m R ⟨[(1,[(2,.I)])],[],[]⟩ [p] func176
def Hg(a:O):=cY m R A0 [a,i] func177
def AN(a:O):=cY m R ⟨[(2,[(5,.I)])],[],[]⟩ [a,b] func178
def EP(i:Int):=cY m R A0 [i] func179
def sB(p:Nat×Nat):=cY m R ⟨[(2,[(5,.I)]),(6,[(6,.I),(7,.I)])],[],[]⟩ [p,a] func180
def zy(a:O):=cY m R ⟨[(3,[(3,.S),(4,.I)])],[],[]⟩ [a] func181
def Dx(a:O):=cY m R ⟨[(4,[(5,.I)])],[],[]⟩ [a,b] func182
def Fx(i:Int):=cY m R ⟨[(3,[(5,.S),(6,.I)])],[],[(3,[28])]⟩ [.agg [i,j,k,a,b,p],d] func183
def IG(i:Int):=cY m R A0 [i] func184
end
section
open Tryz
variable{m:E}{R:Value->E->Prop}
variable{a b c d e f g h p q r u v w x y:O}{i j k l n o s t z A B C D F G H:Int}
def Be(a:O):=cY m R ⟨[(2,[(3,.I)])],[],[]⟩ [a] func185
def Jd(a:O):=cY m R A0 [a,i,j,b] func186
def ve(a:O):=cY m R A0 [a,b] func187
def uK(p:Nat×Nat):=cY m R A0 [p,i] func188
def KA(a:O):=cY m R ⟨[(2,[(3,.I)])],[],[]⟩ [a] func189
def rS(p:Nat×Nat):=cY m R ⟨[(3,[(7,.S),(8,.I)])],[],[(3,[42])]⟩ [p,.agg [i,j,k,l,a,b],c] func190
def Jl(i:Int):=cY m R A0 [i] func191
def yT(a:O):=cY m R ⟨[(4,[(14,.I)]),(9,[(56,.I)]),(15,[(76,.I)])],[(8,[])],[(8,[110]),(9,[110]),(15,[110])]⟩ [a] func192
def CE(a:O):=cY m R ⟨[(2,[(9,.I)])],[],[]⟩ [a,b] func193
def Gp(a:O):=cY m R A0 [a,i] func194
def CH(a:O):=cY m R A0 [a,i] func195
def Au(a:O):=cY m R A0 [a,i] func196
def BQ(a:O):=cY m R ⟨[(6,[(6,.I)]),(12,[(7,.I)])],[],[(6,[105]),(12,[105])]⟩ [a,i] func197
def EM(a:O):=cY m R ⟨[(2,[(5,.I)])],[],[]⟩ [a,i] func198
def rO(a:O):=cY m R A0 [a,i] func199
def Du(a:O):=cY m R A0 [.agg [a,b],i,j,k] func200
def zK(a:O):=cY m R ⟨[(4,[(9,.I)])],[],[]⟩ [a,i,j,k] func201
def AY(a:O):=cY m R ⟨[(3,[(3,.S),(4,.I)]),(7,[(5,.S),(6,.I)])],[],[]⟩ [a] func202
end
section
open Tryz
variable{m:E}{R:Value->E->Prop}
variable{a b c d e f g h p q r u v w x y:O}{i j k l n o s t z A B C D F G H:Int}
def xZ(i:Int):=cY m R ⟨[(3,[(5,.S),(6,.I)])],[],[]⟩ [i,j] func203
def vE(p:Nat×Nat):=cY m R ⟨[(2,[(3,.S),(4,.S),(10,.I)])],[(17,[])],[(2,[104,103]),(17,[108,104,103])]⟩ [p,.agg [a,b],.agg [c,i],d,e] func204
def xQ(p:Nat×Nat):=cY m R A0 [p,.agg [i,j,k,l,a,b]] func205
def Hk(a:O):=cY m R ⟨[(3,[(5,.I),(6,.I)]),(7,[(5,.I),(7,.I)])],[],[]⟩ [a,i] func206
def xO(p:Nat×Nat):=cY m R A0 [p] func207
def Kc(p:Nat×Nat):=cY m R ⟨[(9,[(10,.S),(11,.I)])],[],[(9,[108,106,105])]⟩ [p,.agg [a,b]] func208
def AU(a:O):=cY m R ⟨[(3,[(4,.I)])],[],[(3,[38,37])]⟩ [.agg [a,b]] func209
def yh(a:O):=cY m R ⟨[(3,[(4,.I)])],[],[(3,[40,39])]⟩ [.agg [a,b]] func210
def Hm(a:O):=cY m R ⟨[(3,[(4,.I)])],[],[(3,[40,39])]⟩ [.agg [a,b]] func211
def DE(a:O):=cY m R ⟨[(3,[(3,.S),(4,.I)])],[],[]⟩ [a] func212
def rQ(i:Int):=cY m R A0 [.agg [i,j,k,l,a,b]] func213
def Bf(p:Nat×Nat):=cY m R A0 [p] func214
def Mg(a:O):=cY m R A0 [a] func215
def lZ(s:O)(f:Fn×Array Value×Array Value):=cY m R ⟨[(2,[(8,.I)])],[],[]⟩ [s,.c (.fv f)] func216
def wh(i:Int):=cY m R A0 [.agg [i,j,a]] func217
def Ib(a:O):=cY m R ⟨[(2,[(1,.I),(10,.I)])],[],[(2,[43])]⟩ [a,i] func218
def uE(p:Nat×Nat):=cY m R ⟨[(17,[(16,.S),(17,.S),(18,.I)]),(22,[(20,.I)]),(33,[(23,.I)])],[],[(17,[215,214]),(22,[215,214]),(33,[215,214])]⟩ [p,.agg [a,b],.agg [i,j,k,c,d],e,f] func219
def Dg(a:O):=cY m R ⟨[(3,[(5,.S),(6,.I)])],[],[]⟩ [a,i] func220
end
section
open Tryz
variable{m:E}{R:Value->E->Prop}
variable{a b p d e f g h r u v w x y z B:O}{i j k l q o s t C D F G H I J K:Int}
def BC(p:Nat×Nat):=cY m R A0 [p] func221
def EO(a:O):=cY m R ⟨[(3,[(4,.I)])],[],[(3,[38,37])]⟩ [.agg [a,b]] func222
def Ki(a:O):=cY m R ⟨[(3,[(4,.I)])],[],[(3,[41,40])]⟩ [.agg [a,b]] func223
def xT(a:O):=cY m R ⟨[(5,[(9,.I)])],[],[(5,[67])]⟩ [.agg [a,b],i,j] func224
def wO(p:Nat×Nat):=cY m R ⟨[(1,[(1,.I)])],[],[]⟩ [p,i] func225
def Fg(a:O):=cY m R A0 [.agg [a,i],j,.agg [k,l,q,b,p]] func226
def Da(i:Int):=cY m R A0 [i,j] func227
def yo(a:O):=cY m R A0 [.agg [a,b],i,.agg [p,j]] func228
def DG(a:O):=cY m R A0 [.agg [a,b,i,p,j],.agg [d,k]] func229
def xN(a:O):=cY m R ⟨[(4,[(3,.S),(4,.S),(5,.I)]),(13,[(7,.S),(8,.I)])],[],[(4,[74,73]),(13,[78,74,73])]⟩ [.agg [a,i]] func230
def wW(a:O):=cY m R ⟨[(3,[(2,.I),(8,.I)]),(9,[(10,.S),(12,.I)])],[],[(3,[113,111,110]),(9,[116,113,111,110])]⟩ [.agg [a,b],.agg [p,i],j] func231
def zB(a:O):=cY m R ⟨[(3,[(8,.I)]),(8,[(10,.S),(11,.I)])],[],[(3,[67,65,64]),(8,[70,67,65,64])]⟩ [.agg [a,b],.agg [p,i],d] func232
def BG(a:O):=cY m R ⟨[(1,[(1,.I),(2,.I)])],[],[]⟩ [a,i,j] func233
def xP(p:Nat×Nat):=cY m R A0 [p,i] func234
def zP(a:O):=cY m R A0 [a,i,j] func235
def Bz(a:O):=cY m R ⟨[(3,[(4,.I)])],[(8,[(7,.P)])],[(3,[51,50]),(8,[54,51,50])]⟩ [.agg [a,b]] func236
def sI(r:Nat×Nat)(m:E)(R:Value->E->Prop):Prop:=
 let M:E:=m.push (.cells (bt [.s O.nil,.s O.nil]) 124)
 aN cq 214 [vp r.1 r.2] M λca b=>
 eG [m.size] M b/\
 ∃o:O,ca=O.v o/\
 let b7:E:=b.push (.cells (bt [.s O.nil,.s O.nil]) 124)
 MU b.size b.size (
 let aa:E:=ah b7 b.size 0 [.s o,.s O.nil]
 let aj:E:=aa.push (.cells (bt [.i (1:Int)]) 3)
 aN cq 250 [O.v (O.mk aa.size 0 1 1),vi (0:Int)] aj λcl F=>
 eG [b.size,m.size] aj F/\
 ∃ap:O,∃aI:Int,∃a0:Int,∃bg:Int,∃bz:O,cl=.agg #[O.v ap,vi aI,vi a0,vi bg,O.v bz]/\
 let an:E:=F.push (.cells (bt [.i (1:Int),.i (1:Int)]) 3)
 aN cq 250 [O.v (O.mk F.size 0 2 2),vi (1:Int)] an λct H=>
 eG [b.size,m.size] an H/\
 ∃aq:O,∃aS:Int,∃a9:Int,∃bh:Int,∃bA:O,ct=.agg #[O.v aq,vi aS,vi a9,vi bh,O.v bA]/\
 let ao:E:=H.push (.cells (bt [.i (1:Int)]) 3)
 aN cq 250 [O.v (O.mk H.size 0 1 1),vi (1:Int)] ao λcu I=>
 eG [b.size,m.size] ao I/\
 ∃aA:O,∃aT:Int,∃a_:Int,∃bp:Int,∃bI:O,cu=.agg #[O.v aA,vi aT,vi a_,vi bp,O.v bI]/\
 let N:E:=I.push (.cells (bt [.i (1:Int),.i (0:Int)]) 3)
 aN cq 250 [O.v (O.mk I.size 0 2 2),vi (1:Int)] N λcv t=>
 eG [b.size,m.size] N t/\
 ∃aB:O,∃aU:Int,∃ba:Int,∃bq:Int,∃bJ:O,cv=.agg #[O.v aB,vi aU,vi ba,vi bq,O.v bJ]/\
 let P:E:=t.push (.cells (bt [.i (2:Int),.i (1:Int)]) 3)
 aN cq 250 [O.v (O.mk t.size 0 2 2),vi (1:Int)] P λcw u=>
 eG [b.size,m.size] P u/\
 ∃aC:O,∃aV:Int,∃bb:Int,∃br:Int,∃bK:O,cw=.agg #[O.v aC,vi aV,vi bb,vi br,O.v bK]/\
 let Q:E:=u.push (.cells (bt [.i (1:Int),.i (1:Int)]) 3)
 aN cq 250 [O.v (O.mk u.size 0 2 2),vi (0:Int)] Q λcx a=>
 eG [b.size,m.size] Q a/\
 ∃aD:O,∃aW:Int,∃bc:Int,∃bs:Int,∃bL:O,cx=.agg #[O.v aD,vi aW,vi bc,vi bs,O.v bL]/\
 let S:E:=a.push (.cells (bt [.s ap,.i aI,.i a0,.i bg,.s bz,.s aq,.i aS,.i a9,.i bh,.s bA,.s aA,.i aT,.i a_,.i bp,.s bI,.s aB,.i aU,.i ba,.i bq,.s bJ,.s aC,.i aV,.i bb,.i br,.s bK,.s aD,.i aW,.i bc,.i bs,.s bL]) 175)
 let T:E:=S.push (.cells (bt [.i (3:Int)]) 3)
 aN cq 250 [O.v (O.mk S.size 0 1 1),vi (0:Int)] T λcb v=>
 eG [b.size,m.size] T v/\
 ∃aE:O,∃aX:Int,∃bd:Int,∃bu:Int,∃bM:O,cb=.agg #[O.v aE,vi aX,vi bd,vi bu,O.v bM]/\
 let U:E:=v.push (.cells (bt [.i (0:Int)]) 3)
 aN cq 250 [O.v (O.mk v.size 0 1 1),vi (1:Int)] U λcc w=>
 eG [b.size,m.size] U w/\
 ∃aF:O,∃aY:Int,∃be:Int,∃bv:Int,∃bN:O,cc=.agg #[O.v aF,vi aY,vi be,vi bv,O.v bN]/\
 let V:E:=w.push (.cells (bt [.i (0:Int),.i (1:Int)]) 3)
 aN cq 250 [O.v (O.mk w.size 0 2 2),vi (1:Int)] V λcd x=>
 eG [b.size,m.size] V x/\
 ∃aG:O,∃aZ:Int,∃bf:Int,∃bw:Int,∃bO:O,cd=.agg #[O.v aG,vi aZ,vi bf,vi bw,O.v bO]/\
 let W:E:=x.push (.cells (bt [.i (3:Int),.i (0:Int)]) 3)
 aN cq 250 [O.v (O.mk x.size 0 2 2),vi (3:Int)] W λce y=>
 eG [b.size,m.size] W y/\
 ∃aH:O,∃aJ:Int,∃a1:Int,∃bx:Int,∃bP:O,ce=.agg #[O.v aH,vi aJ,vi a1,vi bx,O.v bP]/\
 let X:E:=y.push (.cells (bt [.i (3:Int)]) 3)
 aN cq 250 [O.v (O.mk y.size 0 1 1),vi (1:Int)] X λcf z=>
 eG [b.size,m.size] X z/\
 ∃ar:O,∃aK:Int,∃a2:Int,∃bi:Int,∃bB:O,cf=.agg #[O.v ar,vi aK,vi a2,vi bi,O.v bB]/\
 let Y:E:=z.push (.cells (bt [.i (1:Int),.i (3:Int),.i (0:Int)]) 3)
 aN cq 250 [O.v (O.mk z.size 0 3 3),vi (0:Int)] Y λcg d=>
 eG [b.size,m.size] Y d/\
 ∃au:O,∃aL:Int,∃a3:Int,∃bj:Int,∃bC:O,cg=.agg #[O.v au,vi aL,vi a3,vi bj,O.v bC]/\
 let Z:E:=d.push (.cells (bt [.s aE,.i aX,.i bd,.i bu,.s bM,.s aF,.i aY,.i be,.i bv,.s bN,.s aG,.i aZ,.i bf,.i bw,.s bO,.s aH,.i aJ,.i a1,.i bx,.s bP,.s ar,.i aK,.i a2,.i bi,.s bB,.s au,.i aL,.i a3,.i bj,.s bC]) 175)
 let ab:E:=Z.push (.cells (bt [.i (0:Int)]) 3)
 aN cq 250 [O.v (O.mk Z.size 0 1 1),vi (0:Int)] ab λch A=>
 eG [b.size,m.size] ab A/\
 ∃av:O,∃aM:Int,∃a4:Int,∃bk:Int,∃bD:O,ch=.agg #[O.v av,vi aM,vi a4,vi bk,O.v bD]/\
 let ac:E:=A.push (.cells (bt [.i (0:Int),.i (0:Int)]) 3)
 aN cq 250 [O.v (O.mk A.size 0 2 2),vi (0:Int)] ac λci B=>
 eG [b.size,m.size] ac B/\
 ∃aw:O,∃aO:Int,∃a5:Int,∃bl:Int,∃bE:O,ci=.agg #[O.v aw,vi aO,vi a5,vi bl,O.v bE]/\
 let ad:E:=B.push (.cells (bt [.i (1:Int),.i (0:Int)]) 3)
 aN cq 250 [O.v (O.mk B.size 0 2 2),vi (0:Int)] ad λcj C=>
 eG [b.size,m.size] ad C/\
 ∃ax:O,∃aP:Int,∃a6:Int,∃bm:Int,∃bF:O,cj=.agg #[O.v ax,vi aP,vi a6,vi bm,O.v bF]/\
 let ae:E:=C.push (.cells (bt [.i (0:Int)]) 3)
 aN cq 250 [O.v (O.mk C.size 0 1 1),vi (1:Int)] ae λck j=>
 eG [b.size,m.size] ae j/\
 ∃ay:O,∃aQ:Int,∃a7:Int,∃bn:Int,∃bG:O,ck=.agg #[O.v ay,vi aQ,vi a7,vi bn,O.v bG]/\
 let ag:E:=j.push (.cells (bt [.s av,.i aM,.i a4,.i bk,.s bD,.s aw,.i aO,.i a5,.i bl,.s bE,.s ax,.i aP,.i a6,.i bm,.s bF,.s ay,.i aQ,.i a7,.i bn,.s bG]) 175)
 let ai:E:=ag.push (.cells (bt []) 3)
 aN cq 250 [O.v (O.mk ag.size 0 0 0),vi (0:Int)] ai λcm D=>
 eG [b.size,m.size] ai D/\
 ∃az:O,∃aR:Int,∃a8:Int,∃bo:Int,∃bH:O,cm=.agg #[O.v az,vi aR,vi a8,vi bo,O.v bH]/\
 aN cq 40 [vp r.1 r.2,vi ((O.mk a.size 0 6 6).len:Int)] D λcn k=>
 eG [b.size,m.size] D k/\
 ∃e:Int,cn=vi e/\
 (0:Int)<=e/\e<((O.mk a.size 0 6 6).len:Int)/\
 ∃bR:O,af k ((O.mk a.size 0 6 6).D) ((O.mk a.size 0 6 6).off+Int.toNat e*5)=some (O.v bR)/\
 ∃bS:Int,af k ((O.mk a.size 0 6 6).D) ((O.mk a.size 0 6 6).off+Int.toNat e*5+1)=some (vi bS)/\
 ∃bT:Int,af k ((O.mk a.size 0 6 6).D) ((O.mk a.size 0 6 6).off+Int.toNat e*5+2)=some (vi bT)/\
 ∃bU:Int,af k ((O.mk a.size 0 6 6).D) ((O.mk a.size 0 6 6).off+Int.toNat e*5+3)=some (vi bU)/\
 ∃bV:O,af k ((O.mk a.size 0 6 6).D) ((O.mk a.size 0 6 6).off+Int.toNat e*5+4)=some (O.v bV)/\
 aN cq 40 [vp r.1 r.2,vi ((O.mk d.size 0 6 6).len:Int)] k λco g=>
 eG [b.size,m.size] k g/\
 ∃i:Int,co=vi i/\
 af g ((O.mk a.size 0 6 6).D) ((O.mk a.size 0 6 6).off+Int.toNat e*5)=af k ((O.mk a.size 0 6 6).D) ((O.mk a.size 0 6 6).off+Int.toNat e*5)/\
 af g ((O.mk a.size 0 6 6).D) ((O.mk a.size 0 6 6).off+Int.toNat e*5+1)=af k ((O.mk a.size 0 6 6).D) ((O.mk a.size 0 6 6).off+Int.toNat e*5+1)/\
 af g ((O.mk a.size 0 6 6).D) ((O.mk a.size 0 6 6).off+Int.toNat e*5+2)=af k ((O.mk a.size 0 6 6).D) ((O.mk a.size 0 6 6).off+Int.toNat e*5+2)/\
 af g ((O.mk a.size 0 6 6).D) ((O.mk a.size 0 6 6).off+Int.toNat e*5+3)=af k ((O.mk a.size 0 6 6).D) ((O.mk a.size 0 6 6).off+Int.toNat e*5+3)/\
 af g ((O.mk a.size 0 6 6).D) ((O.mk a.size 0 6 6).off+Int.toNat e*5+4)=af k ((O.mk a.size 0 6 6).D) ((O.mk a.size 0 6 6).off+Int.toNat e*5+4)/\
 (0:Int)<=i/\i<((O.mk d.size 0 6 6).len:Int)/\
 ∃bW:O,af g ((O.mk d.size 0 6 6).D) ((O.mk d.size 0 6 6).off+Int.toNat i*5)=some (O.v bW)/\
 ∃bX:Int,af g ((O.mk d.size 0 6 6).D) ((O.mk d.size 0 6 6).off+Int.toNat i*5+1)=some (vi bX)/\
 ∃bY:Int,af g ((O.mk d.size 0 6 6).D) ((O.mk d.size 0 6 6).off+Int.toNat i*5+2)=some (vi bY)/\
 ∃bZ:Int,af g ((O.mk d.size 0 6 6).D) ((O.mk d.size 0 6 6).off+Int.toNat i*5+3)=some (vi bZ)/\
 ∃b0:O,af g ((O.mk d.size 0 6 6).D) ((O.mk d.size 0 6 6).off+Int.toNat i*5+4)=some (O.v b0)/\
 aN cq 40 [vp r.1 r.2,vi ((O.mk j.size 0 4 4).len:Int)] g λcp c=>
 eG [b.size,m.size] g c/\
 ∃n:Int,cp=vi n/\
 af c ((O.mk d.size 0 6 6).D) ((O.mk d.size 0 6 6).off+Int.toNat i*5)=af g ((O.mk d.size 0 6 6).D) ((O.mk d.size 0 6 6).off+Int.toNat i*5)/\
 af c ((O.mk d.size 0 6 6).D) ((O.mk d.size 0 6 6).off+Int.toNat i*5+1)=af g ((O.mk d.size 0 6 6).D) ((O.mk d.size 0 6 6).off+Int.toNat i*5+1)/\
 af c ((O.mk d.size 0 6 6).D) ((O.mk d.size 0 6 6).off+Int.toNat i*5+2)=af g ((O.mk d.size 0 6 6).D) ((O.mk d.size 0 6 6).off+Int.toNat i*5+2)/\
 af c ((O.mk d.size 0 6 6).D) ((O.mk d.size 0 6 6).off+Int.toNat i*5+3)=af g ((O.mk d.size 0 6 6).D) ((O.mk d.size 0 6 6).off+Int.toNat i*5+3)/\
 af c ((O.mk d.size 0 6 6).D) ((O.mk d.size 0 6 6).off+Int.toNat i*5+4)=af g ((O.mk d.size 0 6 6).D) ((O.mk d.size 0 6 6).off+Int.toNat i*5+4)/\
 af c ((O.mk a.size 0 6 6).D) ((O.mk a.size 0 6 6).off+Int.toNat e*5)=af g ((O.mk a.size 0 6 6).D) ((O.mk a.size 0 6 6).off+Int.toNat e*5)/\
 af c ((O.mk a.size 0 6 6).D) ((O.mk a.size 0 6 6).off+Int.toNat e*5+1)=af g ((O.mk a.size 0 6 6).D) ((O.mk a.size 0 6 6).off+Int.toNat e*5+1)/\
 af c ((O.mk a.size 0 6 6).D) ((O.mk a.size 0 6 6).off+Int.toNat e*5+2)=af g ((O.mk a.size 0 6 6).D) ((O.mk a.size 0 6 6).off+Int.toNat e*5+2)/\
 af c ((O.mk a.size 0 6 6).D) ((O.mk a.size 0 6 6).off+Int.toNat e*5+3)=af g ((O.mk a.size 0 6 6).D) ((O.mk a.size 0 6 6).off+Int.toNat e*5+3)/\
 af c ((O.mk a.size 0 6 6).D) ((O.mk a.size 0 6 6).off+Int.toNat e*5+4)=af g ((O.mk a.size 0 6 6).D) ((O.mk a.size 0 6 6).off+Int.toNat e*5+4)/\
 (0:Int)<=n/\n<((O.mk j.size 0 4 4).len:Int)/\
 ∃b1:O,af c ((O.mk j.size 0 4 4).D) ((O.mk j.size 0 4 4).off+Int.toNat n*5)=some (O.v b1)/\
 ∃b2:Int,af c ((O.mk j.size 0 4 4).D) ((O.mk j.size 0 4 4).off+Int.toNat n*5+1)=some (vi b2)/\
 ∃b3:Int,af c ((O.mk j.size 0 4 4).D) ((O.mk j.size 0 4 4).off+Int.toNat n*5+2)=some (vi b3)/\
 ∃b4:Int,af c ((O.mk j.size 0 4 4).D) ((O.mk j.size 0 4 4).off+Int.toNat n*5+3)=some (vi b4)/\
 ∃b5:O,af c ((O.mk j.size 0 4 4).D) ((O.mk j.size 0 4 4).off+Int.toNat n*5+4)=some (O.v b5)/\
 let b8:E:=c.push (.cells (bt [.s az,.i aR,.i a8,.i bo,.s bH,.s bR,.i bS,.i bT,.i bU,.s bV,.s bW,.i bX,.i bY,.i bZ,.s b0,.s b1,.i b2,.i b3,.i b4,.s b5]) 175)
 MU b.size b.size (
 let ak:E:=ah b8 b.size 1 [.s (O.mk c.size 0 4 4)]
 let al:E:=ak.push (.cells (bt [.i (4:Int),.i (4:Int),.i (3:Int),.i (2:Int),.i (4:Int)]) 3)
 aN cq 39 [vp r.1 r.2,O.v (O.mk ak.size 0 5 5)] al λcr am=>
 eG [b.size,m.size] al am/\
 ∃h:Int,cr=vi h/\
 MU b.size b.size (
 (0:Int)<=(0:Int)/\(0:Int)<=h/\h<=((O.mk c.size 0 4 4).cap:Int)/\
 MU b.size b.size (
 let b9:E:=ah am b.size 1 [.s (O.cut (O.mk c.size 0 4 4) (Int.toNat (0:Int)) (Int.toNat h) 5)]
 ∃(s:Int->E->Prop)(μ0:Int->E->Nat),
 s (cQ (h -(1:Int))) b9/\
 (∀(f:Int)(p:E),s f p->
 ((decide (f>=(0:Int)))=true->
 MU b.size b.size (
 aN cq 251 [vp r.1 r.2,.agg #[O.v o,O.v (O.cut (O.mk c.size 0 4 4) (Int.toNat (0:Int)) (Int.toNat h) 5)],vi f] p λcs l=>
 eG [b.size,m.size] p l/\
 ∃J:Int,∃K:Int,∃L:O,cs=.agg #[vi J,vi K,O.v L]/\
 let b_:E:=l.push (.cells (bt [.i (0:Int),.i (0:Int),.s O.nil]) 173)
 MU l.size l.size (
 let q:E:=ah b_ l.size 0 [.i J,.i K,.s L]
 MU b.size b.size (
 MU b.size b.size (
 (0:Int)<=f/\f<((O.cut (O.mk c.size 0 4 4) (Int.toNat (0:Int)) (Int.toNat h) 5).len:Int)/\
 ∃b6:O,af q ((O.cut (O.mk c.size 0 4 4) (Int.toNat (0:Int)) (Int.toNat h) 5).D) ((O.cut (O.mk c.size 0 4 4) (Int.toNat (0:Int)) (Int.toNat h) 5).off+Int.toNat f*5)=some (O.v b6)/\
 MU b.size b.size (
 (0:Int)<=f/\f<((O.cut (O.mk c.size 0 4 4) (Int.toNat (0:Int)) (Int.toNat h) 5).len:Int)/\
 ∃bQ:Int,af q ((O.cut (O.mk c.size 0 4 4) (Int.toNat (0:Int)) (Int.toNat h) 5).D) ((O.cut (O.mk c.size 0 4 4) (Int.toNat (0:Int)) (Int.toNat h) 5).off+Int.toNat f*5+1)=some (vi bQ)/\
 MU l.size l.size (
 (0:Int)<=f/\f<((O.cut (O.mk c.size 0 4 4) (Int.toNat (0:Int)) (Int.toNat h) 5).len:Int)/\
 fN q ((O.cut (O.mk c.size 0 4 4) (Int.toNat (0:Int)) (Int.toNat h) 5).D) ((O.cut (O.mk c.size 0 4 4) (Int.toNat (0:Int)) (Int.toNat h) 5).off+Int.toNat f*5) 5/\
 let G:E:=ah q ((O.cut (O.mk c.size 0 4 4) (Int.toNat (0:Int)) (Int.toNat h) 5).D) ((O.cut (O.mk c.size 0 4 4) (Int.toNat (0:Int)) (Int.toNat h) 5).off+Int.toNat f*5) [.s b6,.i bQ,.i J,.i K,.s L]
 eG [l.size,b.size,m.size] q G/\
 Xo (SV.box b.size 124 [.s o,.s (O.cut (O.mk c.size 0 4 4) (Int.toNat (0:Int)) (Int.toNat h) 5)]) (SV.box b.size 124 [.s o,.s (O.cut (O.mk c.size 0 4 4) (Int.toNat (0:Int)) (Int.toNat h) 5)]) (
 Xo (SV.box m.size 124 [.s O.nil,.s O.nil]) (SV.box m.size 124 [.s O.nil,.s O.nil]) (
 s (cQ (f -(1:Int))) G/\μ0 (cQ (f -(1:Int))) G<μ0 f p)))))))))/\
 ((decide (f>=(0:Int)))=false->
 MU b.size b.size (
 MU m.size m.size (
 let l:E:=ah p m.size 0 [.s o,.s (O.cut (O.mk c.size 0 4 4) (Int.toNat (0:Int)) (Int.toNat h) 5)]
 MU m.size m.size (
 R (.agg #[O.v o,O.v (O.cut (O.mk c.size 0 4 4) (Int.toNat (0:Int)) (Int.toNat h) 5)]) l)))))))))
def xS(r:Nat×Nat)(m:E)(R:Value->E->Prop)(a:sI r m R):aN cq 237 [vp r.1 r.2] m R:=
 yu (o:=⟨[(9,[(8,.I)])],[],[(9,[113,112])]⟩) (d:=110) (r:=[.cell 2 124]) (a:=[.c (.p r.1 r.2)]) Pr Zz ZA Tryz.func237 (m:=OL Tryz.f237) (by kernel_rfl) (by kernel_rfl) (by kernel_rfl) (by kernel_rfl) aL (by kernel_rfl) (Eq.mp (by kernel_rfl) a)
def Dm(a:O):=cY m R ⟨[(3,[(4,.I)]),(7,[(5,.S),(6,.I)])],[],[(3,[35,34]),(7,[35,34])]⟩ [.agg [a,b]] func238
end
section
open Tryz
variable{m:E}{R:Value->E->Prop}
variable{a b c d e f g h p q r u v w x y:O}{i j k l n o s t z A B C D F G H:Int}
def Ba(a:O):=cY m R ⟨[(5,[(6,.S),(7,.S),(8,.I)])],[],[(5,[69,68,67])]⟩ [.agg [a,b],.agg [c,d,i,e,j]] func239
def Bp(a:O):=cY m R ⟨[(5,[(9,.S),(10,.S),(11,.S),(12,.I)])],[],[(5,[88,86,84])]⟩ [.agg [a,b],c,.agg [d,i],e] func240
def BA(a:O):=cY m R ⟨[(3,[(3,.S),(4,.I)])],[],[(3,[32])]⟩ [.agg [a,b,i,c,j]] func241
def ym(a:O):=cY m R ⟨[(4,[(3,.I)])],[],[(4,[36])]⟩ [.agg [a,b]] func242
def Bt(a:O):=cY m R ⟨[(3,[(4,.I)])],[],[(3,[46])]⟩ [.agg [a,b,i,c,j]] func243
def xW(p:Nat×Nat):=cY m R ⟨[],[(16,[(8,.T)])],[(16,[94,93])]⟩ [p,.agg [a,b],.agg [i,j,k,c,d]] func244
def Hf(i:Int):=cY m R A0 [.agg [i,j,k,a,b]] func245
def Dy(a:O):=cY m R ⟨[(5,[(3,.S),(4,.S),(6,.I)]),(8,[(3,.S),(7,.I)]),(11,[(4,.S),(7,.I)])],[],[]⟩ [a] func246
def Fc(a:O):=cY m R ⟨[(8,[(10,.S),(11,.S),(12,.I)])],[],[(8,[96,92])]⟩ [.agg [a,i],j,b,k] func247
def Dw(a:O):=cY m R A0 [.agg [a,b],.agg [i,j,k,c,d],l,e] func248
def zw(a:O):=cY m R A0 [.agg [a,b],.agg [i,j,c],d,k] func249
def My(a:O):=cY m R A0 [a,i] func250
def GQ(p:Nat×Nat):=cY m R ⟨[],[(7,[(34,.T)]),(9,[(51,.T)]),(11,[(77,.T)]),(15,[])],[(7,[131,127,125]),(9,[131,127,125]),(11,[131,127,125]),(15,[127,125])]⟩ [p,.agg [a,b],i] func251
def DH(a:O):=cY m R ⟨[(3,[(6,.I)])],[],[(3,[49,47])]⟩ [.agg [a,b],c] func252
def zk(a:O):=cY m R ⟨[(3,[(3,.S),(4,.I)])],[],[(3,[32])]⟩ [.agg [a,b]] func253
def Dj(a:O):=cY m R ⟨[(3,[(5,.S),(6,.I)])],[],[(3,[52])]⟩ [.agg [a,b],i] func254
def Hs(a:O):=cY m R A0 [.agg [a,i],j] func255
def zm(a:O):=cY m R ⟨[(5,[(11,.S),(12,.S),(13,.S),(14,.I)]),(17,[(13,.S),(20,.I)])],[],[(5,[159,156,154]),(17,[164,159,156,154])]⟩ [.agg [a,b],c,.agg [d,i],e,f] func256
end
section
open Tryz
variable{m:E}{R:Value->E->Prop}
variable{a b c d e f g h p q r u v w x y:O}{i j k l n o s t z A B C D F G H:Int}
def Bc(i:Int):=cY m R ⟨[(3,[(5,.S),(6,.I)])],[],[]⟩ [i,a] func257
def DC(a:O):=cY m R ⟨[],[(3,[]),(30,[(151,.T)])],[(3,[188,186]),(30,[188,186])]⟩ [.agg [a,b],c,.agg [i,j,k,d,e]] func258
def uz(a:O):=cY m R ⟨[(3,[(7,.S),(8,.I)])],[],[(3,[36,34])]⟩ [.agg [a,b],c,.agg [i,j,k,d,e]] func259
def Dl(a:O):=cY m R ⟨[(4,[(7,.S),(9,.I)])],[(9,[(10,.S)])],[(4,[78,77,75]),(9,[78,77,75])]⟩ [.agg [a,b],c,.agg [i,j,k,d,e]] func260
def tX(a:O):=cY m R ⟨[(4,[(3,.I)])],[],[(4,[36])]⟩ [.agg [a,b]] func261
def Fl(a:O):=cY m R A0 [.agg [a,i]] func262
def AT(a:O):=cY m R ⟨[(3,[(7,.S),(8,.I)])],[],[(3,[57,55])]⟩ [.agg [a,b],c,.agg [d,i]] func263
def xU(p:Nat×Nat):=cY m R A0 [p,i,j,k] func264
def xX(p:Nat×Nat):=cY m R A0 [p,i] func265
def xV(p:Nat×Nat):=cY m R ⟨[(6,[(9,.I)])],[(4,[])],[(4,[110,109]),(6,[110,109])]⟩ [p,.agg [a,b],.agg [i,j,k,c,d]] func266
def vF(p:Nat×Nat):=cY m R ⟨[(7,[(9,.I)])],[(3,[])],[(3,[93,92]),(7,[93,92])]⟩ [p,.agg [a,b],.agg [i,j,k,c,d]] func267
def tS(p:Nat×Nat):=cY m R ⟨[(2,[(7,.I)]),(7,[(8,.I)])],[],[(2,[84,83]),(7,[84,83])]⟩ [p,.agg [a,b],.agg [i,j,k,c,d]] func268
def Hz(a:O):=cY m R ⟨[(3,[(3,.S),(4,.I)])],[],[]⟩ [a] func269
def IZ(a:O):=cY m R ⟨[(3,[(5,.I),(6,.I)])],[],[]⟩ [a,i] func270
def BH(a:O):=cY m R ⟨[(2,[(3,.I)])],[],[(2,[21])]⟩ [.agg [a,i]] func271
def CR(a:O):=cY m R ⟨[(3,[(7,.S),(8,.I)])],[],[(3,[38])]⟩ [.agg [a,i],j,k] func272
def wY(a:O):=cY m R ⟨[(4,[(5,.S),(6,.T),(7,.I)])],[],[]⟩ [a,i] func273
def Dv(a:O):=cY m R A0 [.agg [a,i],j,k] func274
end
section
open Tryz
variable{m:E}{R:Value->E->Prop}
variable{a b c d e f g h p q r u v w x y:O}{i j k l n o s t z A B C D F G H:Int}
def zq(a:O):=cY m R ⟨[(2,[(3,.I)])],[],[(2,[22])]⟩ [.agg [a,i]] func275
def Hr(a:O):=cY m R ⟨[(2,[(9,.I)])],[],[(2,[40])]⟩ [.agg [a,i],j,k,l] func276
def Hb(a:O):=cY m R ⟨[(4,[(5,.S),(6,.T),(7,.I)])],[],[]⟩ [a,i] func277
def uF(p:Nat×Nat):=cY m R ⟨[(13,[(11,.S),(13,.I)]),(22,[(15,.S),(16,.I)])],[(18,[(14,.I)])],[(13,[154,153]),(18,[154,153]),(22,[154,153])]⟩ [p,.agg [a,b],.agg [i,j,c],d] func278
def Ff(a:O):=cY m R ⟨[(2,[(5,.I)])],[],[]⟩ [a,i] func279
def EW(i:Int):=cY m R A0 [i] func280
def Dn(p:Nat×Nat):=cY m R ⟨[],[(5,[])],[(5,[31,30])]⟩ [p,.agg [a,b]] func281
def Dq(p:Nat×Nat):=cY m R ⟨[(6,[(12,.S),(13,.I)])],[(19,[]),(22,[])],[(6,[144,141]),(19,[151,150,144,141]),(22,[150,144,141])]⟩ [p,.agg [a,b],i,j] func282
def Dr(p:Nat×Nat):=aag m R ⟨[(6,[(9,.S),(10,.S),(11,.I)])],[(13,[(14,.P)]),(15,[])],[(6,[102,100]),(13,[109,108,102,100]),(15,[109,108,102,100])]⟩ [p,.agg [a,b],i] func283
def Db(p:Nat×Nat):=cY m R ⟨[(4,[(8,.S),(9,.I)])],[(10,[])],[(4,[81,79]),(10,[81,79])]⟩ [p,.agg [a,b],i] func284
def EQ(p:Nat×Nat):=cY m R ⟨[(2,[(4,.I)])],[],[(2,[44,40])]⟩ [p,.agg [a,b],c,i,j] func285
def Fb(i:Int):=cY m R A0 [.agg [i,j,a]] func286
def rP(a:O):=cY m R ⟨[(3,[(4,.I)])],[],[(3,[30,29])]⟩ [.agg [a,i]] func287
def Di(a:O):=cY m R ⟨[(2,[(5,.I)])],[],[(2,[23])]⟩ [.agg [a,b],i] func288
def vD(a:O):=cY m R ⟨[(4,[(7,.I)]),(8,[(9,.I)]),(13,[(10,.I)])],[],[(4,[72,71]),(8,[76,72,71]),(13,[76,72,71])]⟩ [.agg [a,b],.agg [c,i],j] func289
def EE(a:O):=cY m R ⟨[(2,[(3,.S),(9,.I)])],[],[(2,[44])]⟩ [.agg [a,i],j,k,b] func290
def Jk(a:O):=cY m R ⟨[(3,[(5,.S),(6,.I)])],[],[]⟩ [a,b] func291
def zn(a:O):=cY m R ⟨[(3,[(11,.S),(12,.I)])],[],[(3,[50,48])]⟩ [.agg [a,b],c,.agg [i,j,k,d,e],f,g] func292
end
section
open Tryz
variable{m:E}{R:Value->E->Prop}
variable{a b c d e f g h p q r u v w x y:O}{i j k l n o s t z A B C D F G H:Int}
def Bb(a:O):=cY m R ⟨[(4,[(11,.S),(13,.I)])],[],[(4,[72,69,67])]⟩ [.agg [a,b],c,.agg [i,j,k,d,e],f,g] func293
def Bq(a:O):=cY m R ⟨[(5,[(11,.S),(12,.I)])],[],[(5,[62,60])]⟩ [.agg [a,b],c,.agg [i,j,k,d,e],f,g] func294
def Br(a:O):=cY m R ⟨[(3,[(9,.S),(10,.I)])],[],[(3,[55,54])]⟩ [.agg [a,b],.agg [i,j,k,c,d],e,f] func295
def Fw(a:O):=cY m R ⟨[(3,[(5,.S),(6,.I)])],[],[]⟩ [a,i] func296
def Ha(i:Int):=cY m R A0 [i] func297
def BT(a:O):=cY m R A0 [a,.agg [i,j,k,b,c]] func298
def Jj(a:O):=cY m R ⟨[(4,[(7,.I)])],[],[]⟩ [a,b,c] func299
def Dk(a:O):=cY m R ⟨[(9,[(9,.I),(10,.I)])],[(5,[(8,.I)])],[(5,[76,74]),(9,[76,74])]⟩ [.agg [a,b],c,.agg [i,j,k,d,e]] func300
def ye(a:O):=cY m R A0 [.agg [a,b],c,.agg [i,j,k,d,e]] func301
def EX(a:O):=cY m R A0 [a,i] func302
def wM(a:O):=cY m R A0 [.agg [a,b],c,.agg [i,j,k,d,e]] func303
def zo(a:O):=cY m R A0 [.agg [a,b],c,.agg [i,j,k,d,e],l] func304
def Ho(a:O):=cY m R ⟨[(3,[(4,.I)])],[],[(3,[37,36])]⟩ [.agg [a,b]] func305
def BL(a:O):=cY m R ⟨[(2,[(1,.I),(5,.I)]),(8,[(1,.I),(6,.I)])],[],[(2,[45]),(8,[45])]⟩ [.agg [a,i],j] func306
def zt(p:Nat×Nat):=cY m R ⟨[(9,[(14,.I)])],[],[(9,[89,88])]⟩ [p,.agg [a,b],.agg [i,j,k,c,d],l] func307
def Hh(a:O):=cY m R A0 [.agg [a,b],.agg [i,j,k,c,d],l] func308
def IH(a:O):=cY m R ⟨[(2,[(7,.I)])],[],[(2,[47])]⟩ [.agg [a,i],j,k] func309
def zp(i:Int):=cY m R A0 [i] func310
end
section
open Tryz
variable{m:E}{R:Value->E->Prop}
variable{a b c d e f g h p q r u v w x y:O}{i j k l n o s t z A B C D F G H:Int}
def wR(p:Nat×Nat):=cY m R A0 [p,.agg [i,j,k,a,b]] func311
def Mq(p:Nat×Nat):=cY m R A0 [p,.agg [a,b],c,i,j] func312
def Kn(i:Int):=cY m R A0 [i,j,a] func313
def Fa(p:Nat×Nat):=cY m R ⟨[(8,[(9,.I)])],[(5,[(7,.P)])],[(5,[51,50,49]),(8,[50,49])]⟩ [p,i] func314
def DF(i:Int):=cY m R A0 [i] func315
def Kj(p:Nat×Nat):=cY m R A0 [p,.agg [a,b],c,i] func316
def Bv(i:Int):=cY m R ⟨[(5,[(1,.I),(5,.I)])],[],[(5,[29])]⟩ [.agg [i,j,a],k] func317
def CY(i:Int):=cY m R ⟨[(3,[(3,.S),(4,.I)])],[],[(3,[35,34])]⟩ [.agg [i,j,k,a,b]] func318
def CV(a:O):=cY m R ⟨[(2,[(5,.I)]),(7,[(6,.I)])],[],[(2,[55]),(7,[55])]⟩ [.agg [a,i],j] func319
def xL(i:Int):=cY m R ⟨[(4,[(2,.S),(7,.I)]),(9,[(2,.S),(8,.I)])],[],[(4,[61]),(9,[61])]⟩ [.agg [i,j,k,a,b],l,c] func320
def EY(a:O):=cY m R A0 [.agg [a,b],.agg [i,j,k,c,d],l,e,f] func321
def CZ(a:O):=cY m R ⟨[(7,[(16,.S),(17,.S),(18,.I)]),(14,[(19,.S),(20,.I)])],[],[(7,[127,124,121]),(14,[127,124,121])]⟩ [.agg [a,b],c,d,.agg [e,i],f,g] func322
def GW(a:O):=cY m R ⟨[(3,[(5,.S),(6,.I)])],[],[]⟩ [a,b] func323
def EJ(a:O):=cY m R ⟨[(2,[(7,.I)])],[],[]⟩ [a,i,j] func324
def vG(p:Nat×Nat):=cY m R A0 [p] func325
def wP(p:Nat×Nat):=cY m R ⟨[(2,[(9,.I)])],[],[(2,[51,50])]⟩ [p,.agg [a,b],.agg [c,i],j] func326
def EI(p:Nat×Nat):=cY m R A0 [p,.agg [a,b],c] func327
def G9(p:Nat×Nat):=cY m R ⟨[(3,[(11,.S),(12,.I)])],[],[(3,[42])]⟩ [p,.agg [a,b],c,d,i] func328
end
section
open Tryz
variable{m:E}{R:Value->E->Prop}
variable{a b c d e f g h p q r u v w x y:O}{i j k l n o s t z A B C D F G H:Int}
def De(p:Nat×Nat):=cY m R ⟨[(7,[(13,.S),(14,.I)])],[(4,[(11,.I)])],[(4,[79,75]),(7,[79,75])]⟩ [p,.agg [a,b],c,i,j] func329
def CT(a:O):=cY m R ⟨[(3,[(5,.S),(6,.I)]),(7,[(7,.T),(8,.I)])],[],[(3,[59]),(7,[59])]⟩ [.agg [a,b],i] func330
def Df(p:Nat×Nat):=cY m R ⟨[(3,[(11,.I)])],[(7,[])],[(3,[130,126]),(7,[130,126])]⟩ [p,.agg [a,b],c,i,j] func331
def Fi(p:Nat×Nat):=cY m R A0 [p] func332
def zO(a:O):=cY m R ⟨[(3,[(5,.S),(6,.I)])],[],[]⟩ [a,i] func333
def EK(a:O):=cY m R A0 [.agg [a,b],c,i] func334
def DA(p:Nat×Nat):=cY m R ⟨[(11,[(9,.S),(11,.I)]),(21,[(15,.S),(16,.I)])],[(6,[(8,.I)]),(8,[(8,.I)]),(17,[(80,.T)])],[(6,[124,122]),(8,[124,122]),(11,[124,122]),(17,[124,122]),(21,[124,122])]⟩ [p,.agg [a,b],i] func335
def wT(a:O):=cY m R ⟨[(2,[(7,.I)])],[],[(2,[46,45])]⟩ [.agg [a,b],.agg [i,j,k,c,d],l] func336
def IC(a:O):=cY m R ⟨[(3,[(5,.S),(6,.I)])],[],[]⟩ [a,i] func337
def zr(p:Nat×Nat):=cY m R ⟨[(2,[(5,.I)])],[],[]⟩ [p,i] func338
def CU(a:O):=cY m R ⟨[(3,[(5,.S),(6,.I)])],[],[(3,[55])]⟩ [.agg [a,b],i] func339
end
end Go.Proofs.YtkoifinbblcbiaaGreat
namespace Go.Proofs.YtkoifinbblcbiaaGreat
open Go.Vc
section
variable{m:E}{a:O}{l:List Int}
def aX(n b a:Int)(m:E):dt cq 41 [vi n,vi b,vi a] m (b<=n/\n<=a):=by
 apply EV;refine⟨λh=>eV ?_ (J.az _),λh=>bV ?_ (J.az _)⟩<;>simp at h
 .simp[h]
 .omega
def jS(a:Int)(m:E):dt cq 179 [vi a] m (0<=a/\a<=11):=by
 apply EP;exact(aX _ _ _ _).then λd e c b=>⟨_,rfl,eV c b⟩
def lS(a:Int):Prop:=0<=a/\a<=11/\a≠7/\a≠8\/a=18\/a=19
def yf(e:Int)(m:E):dt cq 124 [vi e] m (lS e):=by
 apply Kw;refine(jS _ _).then λg i d a=>⟨_,rfl,λh=>?_,λh=>?_⟩
 .have h:=d.1 h;refine⟨λb=>⟨λc=>iS ?_ a,λc=>⟨λf=>iS ?_ a,λf=>eV ?_ a⟩⟩,λb=>⟨λc=>iS ?_ a,λc=>eV ?_ a⟩⟩<;>simp[lS]at* <;>omega
 .have h:=fb d h;refine⟨λb=>iS ?_ a,λb=>eV ?_ a⟩<;>simp[lS]at* <;>omega
def dv(e:ap m a l)(d:Int):dt cq 133 [O.v a,vi d] m (d∈l):=by
 apply Ke;have i:=e.len;refine dV (n:=l.length) (i▸e.gX) (λk b=>J m b/\∀y∈l.take k,y≠d) ⟨J.az _,aL⟩ ?_;rintro k p I μ o ⟨c,g⟩ j
 refine dit (λh=>?_) λh=>?_
 .let⟨x,f⟩:=cG l k;refine⟨V,V,x,by simpa using c.af (e.aH f),λb=>?_,λb=>?_⟩
  .simp only[aI]at b;exact iS (b▸aq f) c
  .simp only[aj]at b;exact j V _ ⟨c,bC f g b⟩
 .exact bV (λb=>db V g d b rfl) c
def zU(n:Nat)(t:Int):Prop:=0<=t/\t<=n
def FG(n:Nat)(l:List Int):Prop:=∀t∈l,zU n t
def wG(c:ap m a l)(bo:O):dt cq 156 [O.v bo,O.v a] m (FG bo.len l):=by
 apply CO;have i:=c.len;refine dV (n:=l.length) (i▸c.gX) (λk b=>J m b/\∀t∈l.take k,zU bo.len t) ⟨J.az _,aL⟩ ?_;rintro k r I μ q ⟨b,g⟩ o
 refine dit (λh=>?_) λh=>?_
 .let⟨x,d⟩:=cG l k;refine⟨V,V,x,by simpa using b.af (c.aH d),?_⟩;exact(aX _ _ _ _).then λp s f e=>⟨_,rfl,λh=>bV (λj=>nb f h (j x (aq d))) (b.trans e),λh=>o V _ ⟨b.trans e,bC d g (yb f h)⟩⟩
 .exact iS (db V g) b
def OD(l:List Int)(c a b:Int):Prop:=(l.length:Int)=c/\∀t∈l,a+1<=t/\t<=b -1
def Fq(f:ap m a l)(o b c:Int)(w: -1<=b/\b<9223372036854775807)(e:0<=c/\c<=9223372036854775807):
 dt cq 201 [O.v a,vi o,vi b,vi c] m (OD l o b c):=by
 apply zK
 have g:=f.len
 refine⟨λh=>?_,λh=>?_⟩
 .simp only[vR]at h
  exact bV (λi=>h (by rw[g];exact i.1)) (J.az _)
 .simp only[iP]at h
  have u:o=(l.length:Int):=by rw[<-h,g]
  subst u
  have r:cQ (b+1)=b+1:=aQ V V
  have s:cQ (c -1)=c -1:=aQ V V
  rw[r,s]
  refine dV (n:=l.length) (g▸f.gX) (λk d=>J m d/\∀t∈l.take k,b+1<=t/\t<=c -1) ⟨J.az _,aL⟩ ?_
  rintro k z I μ y ⟨d,q⟩ t
  refine dit (λh=>?_) λh=>?_
  .let⟨x,j⟩:=cG l k
   refine⟨V,V,x,by simpa using d.af (f.aH j),?_⟩
   exact(aX _ _ _ _).then λv A p e=>⟨_,rfl,λh=>bV (λi=>nb p h (i.2 x (aq j))) (d.trans e),λh=>t V _ ⟨d.trans e,bC j q (yb p h)⟩⟩
  .exact iS ⟨rfl,db V q⟩ d
def Eg(a cT:List Int):Prop:=∀(k:Nat)(v:Int),cT[k]? =some v->(∃t,0<=v/\a[v.toNat]? =some t/\t≠0)/\(∀u:Int,0<k->cT[k -1]? =some u->u<v)
def vh{A cT:O}{p:List Int}(g:ap m A p)(f:ap m cT l):dt cq 157 [O.v A,O.v cT] m (Eg p l):=by
 apply BU;have K:=f.len;have L:=g.len;have T:=g.gX;have F:cQ ((A.len:Int) -1)=(p.length:Int) -1:=by rw[aQ V V,L]
 rw[F];have S:=f.gX;refine dV (n:=l.length) (K▸f.gX) (λk M=>J m M/\∀(j:Nat)(v:Int),j<k->l[j]? =some v->(∃t,0<=v/\p[v.toNat]? =some t/\t≠0)/\(∀u:Int,0<j->l[j -1]? =some u->u<v)) ⟨J.az _,aL⟩ ?_;rintro k N P μ R ⟨i,w⟩ D
 refine dit (λh=>?_) λh=>?_
 .let⟨x,c⟩:=cG l k;have g1:af N cT.D (cT.off+Int.toNat k*1)=some (vi x):=by simpa using i.af (f.aH c)
  refine⟨V,V,x,g1,?_⟩;refine(aX _ _ _ _).then λQ U B d=>⟨_,rfl,λh=>?_,λh=>?_⟩
  .refine bV (λg=>nb B h ?_) (i.trans d);obtain⟨⟨t,b,s,_⟩,_⟩:=g k x c;have:=aw s;omega
  .have C:=yb B h;let⟨t,q⟩:=cG p x.toNat;have H:=(i.trans d).af (g.aH q);have o:=i.trans d;refine⟨V,V,x,d.af g1,V,V,t,by simpa using H,λb=>?_,λb=>?_⟩
   .simp only[aI]at b;refine bV (λa=>?_) o;obtain⟨⟨y,_,e,r⟩,_⟩:=a k x c;rw[q]at e;simp at e;exact r (e▸b)
   .simp only[aj]at b;refine dit (λs=>?_) λs=>?_
    .have G:cQ ((k:Int) -1)=((k -1:Nat):Int):=by rw[aQ V V];omega
     let⟨E,z⟩:=cG l (k -1);rw[G];refine⟨V,V,x,d.af g1,V,V,E,by simpa using o.af (f.aH z),dit (λe=>?_) λe=>?_⟩
     .refine bV (λa=>?_) o;have:=(a k x c).2 E V z;omega
     .refine D V _ ⟨o,λj v I a=>?_⟩
      by_cases r:j=k
      .subst r;rw[c]at a;simp at a;subst a;refine⟨⟨t,C.1,q,b⟩,λu _ y=>?_⟩;rw[z]at y;simp at y;subst y;omega
      .exact w j v V a
    .refine D V _ ⟨o,λj v I a=>?_⟩
     by_cases r:j=k
     .subst r;rw[c]at a;simp at a;subst a;exact⟨⟨t,C.1,q,b⟩,λu e _=>V⟩
     .exact w j v V a
 .exact iS (λj v a=>w j v (oh (aw a)) a) i
end
section
variable{m:E}
structure HM(ds:List bz)(k:Nat)(d:bz):Prop where
 jb:0<d.cons.length->d.cons.length<=3/\d.tm=0/\d.to=0/\∀f∈d.cons,f.length<=3/\FG ds.length f
 Sj:d.cons.length=0->(∀e∈ds.take k,¬(e.cons.length=0/\e.tm=d.tm/\e.to=d.to))/\zU ds.length d.tm/\zU ds.length d.to
structure dU(ds:List bz):Prop where
 len:ds.length<=4
 dA:∀(k:Nat)(d:bz),ds[k]? =some d->HM ds k d
def Hu{bo:O}{h:List bz}(hd:cx m bo h){k:Nat}{d:bz}(H:h[k]? =some d):dt cq 197 [O.v bo,vi k] m (HM h k d):=by
 apply BQ;simp -zeta only[aD,aC];have X:=aw H;have v:=hd.len;let⟨x,z,K,g1,g2⟩:=hd.aH H;refine⟨V,V,_,by simpa using K,_,by simpa using g1,_,by simpa using g2,?_⟩;intro P s;have c:J m s:=((J.az m).aJ _).ah (ad _) _ _;have A:∀t∈[m.size],t<s.size:=by simp[s,P,av]
 have M:=z.len;refine dit (λq=>?_) λq=>?_
 .refine dit (λL=>?_) λL=>?_
  .exact bV (λa=>oh ((a.jb V).1)) c
  refine⟨λf=>?_,λf=>?_⟩
  .simp only[vR]at f;exact bV (λa=>f (a.jb V).2.1) c
  simp only[iP]at f;refine⟨λp=>?_,λp=>?_⟩
  .simp only[vR]at p;exact bV (λa=>p (a.jb V).2.2.1) c
  simp only[iP]at p;refine dV (n:=d.cons.length) (M▸z.gX) (λk B=>J s B/\∀x∈d.cons.take k,x.length<=3/\FG h.length x) ⟨J.az _,aL⟩ ?_;rintro j w I μ N ⟨g,r⟩ D
  refine dit (λy=>?_) λy=>?_
  .let⟨C,u⟩:=cG d.cons j;let⟨E,G,F⟩:=(pE.ext (c.trans g) z).aH u;have R:=G.len;refine⟨V,V,E,by simpa using F,dit (λo=>?_) λo=>?_⟩
   .exact bV (λa=>oh (((a.jb V).2.2.2 C (aq u)).1)) (c.trans g)
   .refine⟨V,V,E,by simpa using F,?_⟩;exact(wG G _).aG g A λt Q l i b=>⟨_,rfl,λe=>bV (λa=>nb l e (v▸((a.jb V).2.2.2 C (aq u)).2)) (c.trans b),λe=>D V _ ⟨b,bC u r ⟨V,v▸yb l e⟩⟩⟩
  .exact iS ⟨λ_=>⟨V,f,p,db V r⟩,λF=>V⟩ (c.trans g)
 .have C:d.cons.length=0:=V;have U:=hd.gX;refine dV (n:=k) V (λk B=>J s B/\∀f∈h.take k,¬(f.cons.length=0/\f.tm=d.tm/\f.to=d.to)) ⟨J.az _,aL⟩ ?_;rintro j w I μ N ⟨g,r⟩ D
  refine dit (λy=>?_) λy=>?_
  .let⟨f,u⟩:=cG h j;let⟨E,G,R,S,T⟩:=(cx.ext (c.trans g) hd).aH u;have W:=G.len;have B:¬(f.cons.length=0/\f.tm=d.tm/\f.to=d.to)->I (cQ ((j:Int)+1)) w/\μ (cQ ((j:Int)+1)) w<μ j w:=λp=>D V _ ⟨g,bC u r p⟩
   refine⟨V,V,E,by simpa using T,λo=>?_,λo=>?_⟩
   .simp only[aI]at o;refine⟨V,V,_,by simpa using R,λi=>?_,λi=>?_⟩
    .simp only[aI]at i;refine⟨V,V,_,by simpa using S,λb=>?_,λb=>?_⟩
     .simp only[aI]at b;have L:f∈h.take k:=by
       rw[List.mem_iff_getElem?];exact⟨j,by rw[lI,an V];exact u⟩
      exact bV (λa=>(a.Sj C).1 f L ⟨V,i,b⟩) (c.trans g)
     .simp only[aj]at b;exact B (λp=>b p.2.2)
    .simp only[aj]at i;exact B (λp=>i p.2.1)
   .simp only[aj]at o;exact B (λp=>o V)
  .have f:j=k:=V;subst f;refine(aX _ _ _ _).aG g A λt Q l i b=>⟨_,rfl,λe=>?_,λe=>bV (λa=>fb l e (v▸(a.Sj C).2.1)) (c.trans b)⟩;have e:=l.1 e;refine(aX _ _ _ _).aG b A λt p l o a=>⟨_,rfl,eV ?_ (c.trans a)⟩;rw[l];rw[v]at e⊢;exact⟨λq=>⟨λF=>V,λ_=>⟨r,e,q⟩⟩,λq=>(q.Sj C).2.2⟩
def Fu{bo:O}{a:List bz}(hd:cx m bo a):dt cq 155 [O.v bo] m (dU a):=by
 apply zN;have u:=hd.len;refine dit (λo=>?_) λo=>?_
 .exact bV (λf=>oh f.len) (J.az _)
 .refine dV (n:=a.length) V (λq r=>J m r/\∀(j:Nat)(d:bz),j<q->a[j]? =some d->HM a j d) ⟨J.az _,aL⟩ ?_;rintro j x I μ w ⟨b,k⟩ s
  refine dit (λp=>?_) λp=>?_
  .let⟨l,e⟩:=cG a j;refine(Hu (cx.ext b hd) e).then λt y h g=>⟨_,rfl,λc=>bV (λf=>nb h c (f.dA j l e)) (b.trans g),λc=>?_⟩;refine s V _ ⟨b.trans g,λi d v bI=>?_⟩
   by_cases f:i=j
   .subst f;rw[e]at bI;simp at bI;subst bI;exact yb h c
   .exact k i d V bI
  .exact iS ⟨V,λi d bI=>k i d (oh (aw bI)) bI⟩ b
end
section
variable{a:Nat}{m:E}
def fc:List bz->Nat->Nat
 |_,0=>0
 |[],_=>0
 |d::b,a+1=>d.cons.length+fc b a
def eT(a:List bz):List (List Int):=a.flatMap bz.cons
def Q4(a:Nat):fc [] a=0:=by cases a<;>rfl
def sP:∀{b:List bz}{a:Nat}{c:bz},b[a]? =some c->fc b (a+1)=fc b a+c.cons.length
 |[],a,c,h=>by simp at h
 |e::b,0,c,h=>by
  simp at h;subst h;simp only[fc];cases b<;>simp[fc]
 |e::b,a+1,c,h=>by
  have:=sP (b:=b) (a:=a) (c:=c) (by simpa using h);simp only[fc]at this⊢;omega
def mX:∀(b:List bz)(a:Nat),b.length<=a->fc b a=(eT b).length
 |[],a,_=>by rw[Q4];rfl
 |d::b,0,h=>by simp at h
 |d::b,a+1,h=>by
  have:=mX b a (by simpa using h);simp only[fc,eT,mG,be]at this⊢;omega
def R1:∀(a:List bz){b c:Nat},b<=c->fc a b<=fc a c
 |[],b,c,_=>by simp[Q4]
 |d::a,0,c,_=>by simp[fc]
 |d::a,b+1,0,h=>V
 |d::a,b+1,c+1,h=>by
  have:=R1 a (b:=b) (c:=c) V;simp only[fc];omega
def lB{b:List bz}(h:dU b){d:bz}(e:b[a]? =some d):d.cons.length<=3:=by
 rcases j9 d.cons.length with c|c
 .omega
 .exact((h.dA a d e).jb c).1
def Ue{b:List bz}(h:dU b):∀a,fc b a<=3*a
 |0=>by cases b<;>simp[fc]
 |a+1=>by
  have e:=Ue h a;rcases aW a b.length with c|c
  .let⟨d,hd⟩:=dC c;rw[sP hd];have:=lB h hd;omega
  .rw[mX b (a+1) V,<-mX b a c];omega
def rB{b:List bz}(h:dU b)(a:Nat):fc b a<=12:=by
 rcases aW a b.length with c|c
 .have:=Ue h a;have:=h.len;omega
 .rw[mX b a c,<-mX b b.length (ad _)];have:=Ue h b.length;have:=h.len;omega
def ry:∀(a:List bz)(i j:Nat)(d:bz),a[i]? =some d->j<d.cons.length->(eT a)[fc a i+j]? =d.cons[j]?
 |[],i,j,d,h,_=>by simp at h
 |e::a,0,j,d,h,b=>by
  simp at h;subst h;simp only[fc,eT,mG,bT];rw[ax b]
 |e::a,i+1,j,d,h,b=>by
  have:=ry a i j d (by simpa using h) b;simp only[fc,eT,mG]at this⊢;rw[aK V,<-this];congr 1;omega
def vu:∀(a:List bz)(c:Nat),c<(eT a).length->∃i d,a[i]? =some d/\fc a i<=c/\c<fc a i+d.cons.length
 |[],c,h=>by simp[eT]at h
 |e::a,c,h=>by
  rcases aW c e.cons.length with b|b
  .exact⟨0,e,aL,by simp[fc],by simpa[fc]using b⟩
  .let⟨i,d,f,g,j⟩:=vu a (c -e.cons.length) (by simp only[eT,mG,be]at h⊢;omega);exact⟨i+1,d,by simpa using f,by simp only[fc];omega,by simp only[fc];omega⟩
def kj{bo:O}{b:List bz}(hd:cx m bo b)(d:dU b)(t:a<=b.length):FI cq 146 [O.v bo,vi a] m (vi (fc b a)):=by
 apply Dd;have r:=hd.len;have:=d.len;refine ez (n:=a) V (λj g c=>J m c/\g=(fc b j:Nat)) ⟨J.az _,by cases b<;>rfl⟩ ?_;rintro j g u I μ s ⟨e,rfl⟩ k
 refine dit (λi=>?_) λi=>?_
 .let⟨l,c⟩:=cG b j;let⟨h,f,o,g1,g2⟩:=(cx.ext e hd).aH c;refine⟨V,V,h,by simpa using g2,?_⟩;refine k V _ _ ⟨e,?_⟩
  have p:=rB d j;have q:=lB d c;rw[aQ V (oh f.len),sP c,f.len];rfl
 .have:j=a:=V;subst this;exact⟨rfl,e⟩
def qP{bo:O}{a:List bz}(hd:cx m bo a)(c:dU a):FI cq 138 [O.v bo] m (vi (eT a).length):=by
 apply CW;have q:=hd.len;have:=c.len;refine ez (n:=a.length) V (λj f b=>J m b/\f=(fc a j:Nat)) ⟨J.az _,by cases a<;>rfl⟩ ?_;rintro j f s I μ r ⟨d,rfl⟩ i
 refine dit (λh=>?_) λh=>?_
 .let⟨k,b⟩:=cG a j;let⟨g,e,l,g1,g2⟩:=(cx.ext d hd).aH b;refine⟨V,V,g,by simpa using g2,?_⟩;refine i V _ _ ⟨d,?_⟩
  have o:=rB c j;have p:=lB c b;rw[aQ V (oh e.len),sP b,e.len];rfl
 .refine⟨?_,d⟩;rw[mX a j V]
def Yf(a:List bz)(c t:Int):Prop:=
 (∃(i:Nat)(d:bz),t=i+1/\a[i]? =some d/\(fc a i:Int)<=c/\c<fc a i+d.cons.length)\/(t= -1/\¬(0<=c/\c<(eT a).length))
def ms{bo:O}{a:List bz}(hd:cx m bo a)(k:dU a)(c:Int):aN cq 198 [O.v bo,vi c] m λE p=>∃u,E=vi u/\Yf a c u/\J m p:=by
 apply EM;have H:=hd.len;have:=k.len;refine dV (n:=a.length) V (λj p=>J m p/\∀(i:Nat)(d:bz),i<j->a[i]? =some d->¬((fc a i:Int)<=c/\c<fc a i+d.cons.length)) ⟨J.az _,aL⟩ ?_;rintro j M I μ L ⟨b,s⟩ D
 refine dit (λz=>?_) λz=>?_
 .let⟨d,h⟩:=cG a j;refine(kj (cx.ext b hd) k V).then λN e=>⟨_,rfl,?_⟩;let⟨l,B,G,g1,g2⟩:=(cx.ext (b.trans e) hd).aH h;refine⟨V,V,l,by simpa using g2,?_⟩;have o:=rB k j;have A:=lB k h;have C:=B.len;have y:cQ (cQ ((fc a j:Int)+(l.len:Int)) -1)=(fc a j:Int)+d.cons.length -1:=by
   rw[aQ (b:=(fc a j:Int)+(l.len:Int)) V V,aQ V V,C]
  rw[y];refine(aX _ _ _ _).then λF P r q=>⟨_,rfl,λf=>?_,λf=>?_⟩
  .have f:=r.1 f;refine⟨_,rfl,Or.inl ⟨j,d,?_,h,V,V⟩,(b.trans e).trans q⟩;rw[aQ V V]
  .refine D V _ ⟨(b.trans e).trans q,λi v K g=>?_⟩
   by_cases w:i=j
   .subst w;rw[h]at g;simp at g;subst g;intro t;exact fb r f ⟨t.1,V⟩
   .exact s i v V g
 .refine⟨_,rfl,Or.inr ⟨rfl,λt=>?_⟩,b⟩;let⟨i,d,o,e,A⟩:=vu a c.toNat V;exact s i d (oh (aw o)) o ⟨V,V⟩
def cE(a:List bz)(c:Int):List Int:=if 0<=c then((eT a)[c.toNat]?).getD []else[]
def GX{bo:O}{a:List bz}(hd:cx m bo a)(d:dU a)(c:Int):aN cq 199 [O.v bo,vi c] m λx l=>∃s,x=O.v s/\ap l s (cE a c)/\J m l:=by
 apply rO;have E:=hd.len;have:=d.len;refine(ms hd d c).mono ?_;rintro _ H ⟨K,rfl,h,e⟩;refine⟨_,rfl,dit (λu=>?_) λu=>?_⟩
 .refine⟨_,rfl,?_,e.aJ _⟩;have g:cE a c=[]:=by
   rcases h with⟨i,f,v,_⟩|⟨_,b⟩
   .omega
   .unfold cE;split
    .rw[cN V];rfl
    .rfl
  rw[g];exact⟨rfl,ad _,aL,aL⟩
 .rcases h with⟨i,f,rfl,b,B,C⟩|⟨v,_⟩
  .have G:=aw b;let⟨q,j,z,g1,g2⟩:=(cx.ext e hd).aH b;have n:cQ ((i:Int)+1 -1)=i:=by rw[aQ V V];omega
   rw[n];refine⟨V,V,q,by simpa using g2,?_⟩;refine(kj (cx.ext e hd) d V).then λI g=>⟨_,rfl,g.da (by simpa using g2),?_⟩;have A:=rB d i;have D:=lB d b;have F:=j.len;let⟨y,k⟩:=cG f.cons ((c -fc a i).toNat);let⟨r,w,t⟩:=(pE.ext g j).aH k;have o:cQ (c -(fc a i:Int))=c -fc a i:=aQ V V;rw[o];refine⟨V,V,r,t,_,rfl,?_,e.trans g⟩;have p:cE a c=y:=by
    unfold cE;rw[an V];have:=ry a i (c -fc a i).toNat f b V;rw[show c.toNat=fc a i+(c -fc a i).toNat by omega,this,k];rfl
   rw[p];exact w
  .omega
def cy(a:List bz)(t:Int):List Int:=
 if 1<=t/\t<=a.length then((a[t.toNat -1]?).map λd=>(List.range d.cons.length).map λi=>((fc a (t.toNat -1)+i:Nat):Int)).getD []else[]
def AW{bo:O}{a:List bz}(hd:cx m bo a)(c:dU a)(t:Int):aN cq 134 [O.v bo,vi t] m λI b=>∃s,I=O.v s/\ap b s (cy a t)/\J m b:=by
 apply uZ;intro r;have S:=hd.len;have:=c.len;have q:J m r:=(J.az m).aJ _;have F:gZ m r aA 1 (.mk m.size 0 0 0) []:=gZ.new (J.az m) aA 1 [] 0 aL;refine(aX _ _ _ _).then λL W l f=>⟨_,rfl,λh=>?_,λh=>?_⟩
 .refine⟨_,rfl,?_,q.trans f⟩;have e:cy a t=[]:=by
   unfold cy;rw[ae (oh (nb l h))]
  rw[e];exact⟨rfl,ad _,aL,aL⟩
 .have h:=yb l h;have v:cQ (t -1)=((t.toNat -1:Nat):Int):=by rw[aQ V V];omega
  rw[v];let⟨e,g⟩:=cG a (t.toNat -1);have w:cy a t=(List.range e.cons.length).map λi=>((fc a (t.toNat -1)+i:Nat):Int):=by
   unfold cy;rw[an V,g];rfl
  rw[w];have Q:=rB c (t.toNat -1);have R:=lB c g;refine ez (n:=e.cons.length) V (λj s b=>J m b/\gZ m b aA 1 s (((List.range j).map λi=>((fc a (t.toNat -1)+i:Nat):Int)).map Ce.i)/\s.len=j) ⟨q.trans f,by simpa using F.ext f,rfl⟩ ?_;rintro j s X K μ U ⟨d,o,p⟩ H
  let⟨y,D,M,g1,g2⟩:=(cx.ext d hd).aH g;have T:=D.len;refine⟨V,V,y,by simpa using g2,dit (λz=>?_) λz=>?_⟩
  .refine(kj (cx.ext d hd) c V).then λG k=>⟨_,rfl,?_⟩;intro u;have x:cQ (((fc a (t.toNat -1):Nat):Int)+(j:Int))=((fc a (t.toNat -1)+j:Nat):Int):=by rw[aQ V V];omega
   have E:u=G.push (.cells (bt [.i (((fc a (t.toNat -1)+j:Nat):Int))]) aA):=by rw[<-x]
   clear_value u;subst E;refine gZ.append (zs:=[.i 0]) (d:=[.i ((fc a (t.toNat -1)+j:Nat):Int)]) ((o.ext k).ext (J.push _ _)) ((d.trans k).aJ _) rfl (cz.push _ _ _).iE (by simp[p];omega) ?_;intro Y b A B C N P _;refine H V _ _ ⟨B,?_,by simp[C,p]⟩
   rw[Tk,fx,fx];exact A
  .have:j=e.cons.length:=V;subst this;exact⟨_,rfl,ap.gE o bF,d⟩
end
section
variable{S:List Nat}{d:E}{s j a h:O}{e g p:List Int}{k f:Nat}{x:Int}{Q:List Int->Prop}{K:Value->E->Prop}
def _root_.Go.Vc.ap.cg{X:List Nat}{a:E}(b:ap (bI S d) s e)(f:Fz X d a)(c:∀h∈X,h∈S)(g:e[k]? =some x):af a s.D (s.off+k*1)=some (vi x):=
 (eR.1 ((b.le (f.df c)).aH g)).2
def _root_.Go.Vc.ap.MW{a:E}(h:ap (bI S d) s e)(b:J d a)(c:e[k]? =some x):af a s.D (s.off+k*1)=some (vi x):=
 h.cg (b.fz []) aL c
def FJ(f:Nat)(b:List Value)(d:E)(S:List Nat)(Q:List Int->Prop):Prop:=aN cq f b d λv a=>∃s e,v=O.v s/\ap (bI S a) s e/\Q e/\J d a
def lg(f:Nat)(b:List Value)(d:E)(S:List Nat)(Q:List Int->Prop):Prop:=aN cq f b d λv a=>∃s e,v=O.v s/\Gr S d a aA 1 uv s e/\Q e/\J d a
def tn(f:Nat)(a:List Value)(d:E)(Q:Int->Prop):Prop:=aN cq f a d λv b=>∃n:Int,v=vi n/\Q n/\J d b
abbrev GI(S:List Nat)(a d:E)(s:O)(e:List Int):Prop:=Gr S a d aA 1 uv s e
def GI.nil(S:List Nat)(d:E):GI S d (d.push (.cells (bt []) aA)) (.mk d.size 0 0 0) []:=Gr.new S (ad _) aA 1 uv
def GI.kM{S X:List Nat}{c d:E}{s:O}{e:List Int}{a:Int}{K:O->E->Prop}(f:GI S c d s e)(g:Fz X c d)(j:∀h∈S,h<c.size)(k:e.length<=10^12)
 (i:∀r b,GI S c b r (e++[a])->Fz X c b->(d.size<=b.size/\(r.D=s.D\/d.size<=r.D))->(∀h,h<d.size->h≠s.D->b[h]? =d[h]?)->K r b):jP (d.push (.cells (bt [.i a]) aA)) aA [.i 0] 8 s (.mk d.size 0 1 1) K:=
 Gr.kM (g:=[.i 0]) uv.mono bh f g rfl V i
def GI.done{S:List Nat}{a d:E}{s:O}{e:List Int}(b:GI S a d s e)(c:∀h∈S,h<a.size)(f:e.length<=10^12):ap (bI S d) s e:=Gr.done uv.mono b c bh V
def GI.all{S X:List Nat}{b d:E}{s x:O}{e g:List Int}{K:O->E->Prop}(c:GI S b d s e)(f:Fz X b d)(k:∀h∈S,h<b.size)(j:ap (bI (s.D::S) d) x g)(l:e.length+g.length<=10^12)
 (i:∀r a,GI S b a r (e++g)->Fz X b a->(d.size<=a.size/\(r.D=s.D\/d.size<=r.D))->(∀h,h<d.size->h≠s.D->a[h]? =d[h]?)->K r a):jP d aA [.i 0] 8 s x K:=
 Gr.all (g:=[.i 0]) uv.mono bh c f j V i
def GI.jA{b a:E}(h:GI S b d s e)(j:a[s.D]? =d[s.D]?):GI S b a s e:=by
 let⟨f,c,g,i⟩:=h;exact⟨f,c,g.congr j,i.mono λ_ _ h=>h⟩
def GI.ext{S:List Nat}{b d a:E}{s:O}{e:List Int}(h:GI S b d s e)(c:J d a):GI S b a s e:=Gr.ext uv.mono h c
def _root_.Go.Vc.Gr.cr{α:Type}{S c:List Nat}{g i d:E}{f b:Nat}{R:E->List Ce->α->Prop}{s:O}{e:List α}(o:oN b R)(k:Gr c i d f b R s e)(p:∀h∈S,h∈c\/d.size<=h)(q:g.size<=i.size):Gr S g d f b R s e:=by
 let⟨l,j,m,n⟩:=k;refine⟨l,j,m.cr q,n.mono λr x=>o.le ((J.az d).bI λh a=>?_)⟩;rcases List.mem_cons.1 a with a|a
 .exact Or.inl (by rw[a];exact bg)
 .exact(p h a).imp (ai _) id
def GI.cr{S a:List Nat}{b c d:E}{s:O}{e:List Int}(f:GI a c d s e)(g:∀h∈S,h∈a)(j:b.size<=c.size):GI S b d s e:=Gr.cr uv.mono f (λh i=>Or.inl (g h i)) j
def lg.then{b:List Value}(h:lg f b d S Q)(k:∀s e a,GI S d a s e->Q e->J d a->K (O.v s) a):aN cq f b d K:=
 h.mono λ_ a⟨s,e,c,g,i,j⟩=>c▸k s e a g i j
def FJ.then{b:List Value}(h:FJ f b d S Q)(k:∀s e a,ap (bI S a) s e->Q e->J d a->K (O.v s) a):aN cq f b d K:=
 h.mono λ_ a⟨s,e,c,g,i,j⟩=>c▸k s e a g i j
def tn.then{b:List Value}{Q:Int->Prop}(h:tn f b d Q)(i:∀n a,Q n->J d a->K (vi n) a):aN cq f b d K:=
 h.mono λ_ a⟨n,e,c,g⟩=>e▸i n a c g
def tz{b:E}{h:Nat}(a:J d b)(c:d.size<=h):Le (bI S d) (bI (h::S) b):=a.bI λf e=>by
 rcases List.mem_cons.1 e with a|a
 .exact Or.inr (by rw[a];exact c)
 .exact Or.inl a
def mu(b:∀h∈S,h<d.size)(i:ap (bI S d) j e)(c:e.length<=10^12):lg 66 [O.v j] d S (e=·):=by
 apply nL;intro k;have a:J d k:=J.push d _;exact GI.all (e:=[]) (X:=[]) (GI.nil S d) (a.fz []) b (i.le (tz a (ad _))) (by simpa using c) λr m g f _ _=>⟨r,e,rfl,by simpa using g,rfl,f.ext⟩
def pH(e g:List Int):Prop:=(∀x∈g,x∈e)/\g.length<=e.length
def pu(h:∀x∈g,x∈e)(b:x∈e):∀y∈g++[x],y∈e:=by
 intro y a;rcases List.mem_append.1 a with a|a
 .exact h y a
 .simp at a;subst a;exact b
def BZ(r:∀h∈S,h<d.size)(b:ap (bI S d) j e)(u:Int)(v:e.length<=10^12):lg 296 [O.v j,vi u] d S (pH e):=by
 apply Fw;intro z;have t:=b.len;refine ez (n:=e.length) (t▸b.gX) (λk s a=>J d a/\∃g,GI S d a s g/\(∀x∈g,x∈e)/\g.length<=k) ⟨J.push d _,[],GI.nil S d,aL,ad _⟩ ?_;rintro k s A I μ y ⟨a,g,c,i,w⟩ m
 refine dit (λp=>?_) λp=>?_
 .let⟨x,l⟩:=cG e k;refine⟨V,V,x,b.MW a l,λq=>⟨V,V,x,b.MW a l,?_⟩,λq=>m V _ _ ⟨a,g,c,i,V⟩⟩;intro B;exact GI.kM c (a.fz []) r V λD C o f _ _=>m V _ _ ⟨f.ext,_,o,pu i (aq l),bF⟩
 .exact⟨s,g,rfl,c,⟨i,V⟩,a⟩
def Ph(r:∀h∈S,h<d.size)(b:ap (bI S d) j e)(u:Int)(v:e.length<=10^12):lg 337 [O.v j,vi u] d S (pH e):=by
 apply IC;intro z;have t:=b.len;refine ez (n:=e.length) (t▸b.gX) (λk s a=>J d a/\∃g,GI S d a s g/\(∀x∈g,x∈e)/\g.length<=k) ⟨J.push d _,[],GI.nil S d,aL,ad _⟩ ?_;rintro k s A I μ y ⟨a,g,c,i,w⟩ m
 refine dit (λp=>?_) λp=>?_
 .let⟨x,l⟩:=cG e k;refine⟨V,V,x,b.MW a l,λq=>⟨V,V,x,b.MW a l,?_⟩,λq=>m V _ _ ⟨a,g,c,i,V⟩⟩;intro B;exact GI.kM c (a.fz []) r V λD C o f _ _=>m V _ _ ⟨f.ext,_,o,pu i (aq l),bF⟩
 .exact⟨s,g,rfl,c,⟨i,V⟩,a⟩
def Nn(u:∀h∈S,h<d.size)(i:ap (bI S d) a e)(v:ap (bI S d) h p)(A:e.length<=10^12):lg 323 [O.v a,O.v h] d S (pH e):=by
 apply GW;intro D;have w:=i.len;refine ez (n:=e.length) (w▸i.gX) (λk s b=>J d b/\∃g,GI S d b s g/\(∀x∈g,x∈e)/\g.length<=k) ⟨J.push d _,[],GI.nil S d,aL,ad _⟩ ?_;rintro k s E I μ C ⟨b,g,j,l,B⟩ o
 refine dit (λr=>?_) λr=>?_
 .let⟨x,m⟩:=cG e k;refine⟨V,V,x,i.MW b m,?_⟩;refine(dv ((v.le (bA _ _)).ext b) x).then λz F _ c=>⟨_,rfl,λt=>⟨V,V,x,i.MW (b.trans c) m,?_⟩,λt=>o V _ _ ⟨b.trans c,g,j.ext c,l,V⟩⟩;intro y;exact GI.kM (j.ext c) ((b.trans c).fz []) u V λG y q f _ _=>o V _ _ ⟨f.ext,_,q,pu l (aq m),bF⟩
 .exact⟨s,g,rfl,j,⟨l,V⟩,b⟩
def _root_.Go.Vc.xt{σ τ:Type}{n:Nat}(p:n<=9223372036854775807){h:σ}{j:τ}{g:(σ->τ->Int->E->Prop)->(σ->τ->Int->E->Nat)->σ->τ->Int->E->Prop}(Q:Nat->σ->τ->E->Prop)(m:Q 0 h j d)
 (l:∀(k:Nat)(s:σ)(t:τ)(a:E)(I:σ->τ->Int->E->Prop)(μ:σ->τ->Int->E->Nat),k<=n->Q k s t a->
  (k<n->∀c e b,Q (k+1) c e b->I c e (cQ ((k:Int)+1)) b/\μ c e (cQ ((k:Int)+1)) b<μ s t k a)->g I μ s t k a):
 ∃(I:σ->τ->Int->E->Prop)(μ:σ->τ->Int->E->Nat),I h j 0 d/\∀s t i a,I s t i a->g I μ s t i a:=by
 refine⟨λs t i b=>∃k:Nat,i=k/\k<=n/\Q k s t b,λ_ _ i _=>(n -i).toNat,⟨0,rfl,dx _,m⟩,?_⟩
 rintro s t i a ⟨k,rfl,o,q⟩
 refine l k s t a _ _ o q λf c e b r=>?_
 rw[jX f p]
 exact⟨⟨k+1,rfl,f,r⟩,DS f⟩
def Xg(e:List Int)(n:Int)(g:List Int):Prop:=(∀x∈g,x∈e\/x=n)/\g.length<=e.length+1
def Co{n:Int}(h:∀x∈g,x∈e\/x=n)(b:x∈e\/x=n):∀y∈g++[x],y∈e\/y=n:=by
 intro y a;rcases List.mem_append.1 a with a|a
 .exact h y a
 .simp at a;subst a;exact b
def mI(o:∀h∈S,h<d.size)(w:ap (bI S d) j e)(t:Int)(M:e.length<10^12):lg 277 [O.v j,vi t] d S (Xg e t):=by
 apply Hb;intro Q;have K:=w.len;refine xt (n:=e.length) (K▸w.gX) (λk s c b=>J d b/\∃g,GI S d b s g/\(∀x∈g,x∈e\/x=t)/\g.length<=k+(if c=true then 1 else 0)) ⟨J.push d _,[],GI.nil S d,aL,ad _⟩ ?_;rintro k s c y I μ P ⟨a,g,p,q,v⟩ D
 have N:g.length<=k+1:=by split at v<;>omega
 refine dit (λu=>?_) λu=>?_
 .let⟨x,z⟩:=cG e k;have G:∀{b:E},J d b->af b j.D (j.off+k*1)=some (vi x):=λu=>w.MW u z;have B:x∈e\/x=t:=Or.inl (aq z);have A:∀m:Bool,(g++[x]).length<=k+1+(if m=true then 1 else 0)->jP (y.push (.cells (bt [.i x]) aA)) aA [.i 0] 8 s (.mk y.size 0 1 1) λr b=>I r m (cQ ((k:Int)+1)) b/\μ r m (cQ ((k:Int)+1)) b<μ s c k y:=λm hd=>
   GI.kM p (a.fz []) o V λr C i f _ _=>D V _ _ _ ⟨f.ext,_,i,Co q B,hd⟩
  refine⟨λl=>⟨V,V,x,G a,λF=>⟨V,V,x,G a,λH=>?_,λH=>⟨V,V,x,G a,A true bF⟩⟩,λF=>⟨V,V,x,G a,A c ?_⟩⟩,λl=>⟨V,V,x,G a,A c ?_⟩⟩
  .have hd:c=false:=by simpa using l
   subst hd;simp at v;intro L;refine GI.kM p (a.fz []) o V λr C i f _ _=>⟨V,V,x,G f.ext,?_⟩;intro R;exact GI.kM i f o bF λr T i f _ _=>D V _ _ _ ⟨f.ext,_,i,Co (Co q (Or.inr rfl)) B,bF⟩
  .simp only[be,aZ,eW];omega
  .simp only[be,aZ,eW];omega
 .refine⟨λl=>?_,λl=>⟨s,g,rfl,p,⟨q,V⟩,a⟩⟩;have hd:c=false:=by simpa using l
  subst hd;simp at v;intro L;exact GI.kM p (a.fz []) o V λr C i f _ _=>⟨r,_,rfl,i,⟨Co q (Or.inr rfl),bF⟩,f.ext⟩
def sJ(y:∀h∈S,h<d.size)(l:ap (bI S d) j e)(B:Int)(C:e.length<=10^12):lg 273 [O.v j,vi B] d S (pH e):=by
 apply wY;intro F;have z:=l.len;refine xt (n:=e.length) (z▸l.gX) (λk s _ a=>J d a/\∃g,GI S d a s g/\(∀x∈g,x∈e)/\g.length<=k) ⟨J.push d _,[],GI.nil S d,aL,ad _⟩ ?_;rintro k s c o I μ E ⟨b,g,i,m,D⟩ q
 refine dit (λu=>?_) λu=>?_
 .let⟨x,p⟩:=cG e k;have G:=l.MW b p;have A:jP (o.push (.cells (bt [.i x]) aA)) aA [.i 0] 8 s (.mk o.size 0 1 1) λr a=>I r c (cQ ((k:Int)+1)) a/\μ r c (cQ ((k:Int)+1)) a<μ s c k o:=
   GI.kM i (b.fz []) y V λr H t f _ _=>q V _ _ _ ⟨f.ext,_,t,pu m (aq p),bF⟩
  exact⟨V,V,x,G,λv=>⟨λw=>q V _ _ _ ⟨b,g,i,m,V⟩,λw=>⟨V,V,x,G,A⟩⟩,λv=>⟨V,V,x,G,A⟩⟩
 .exact⟨s,g,rfl,i,⟨m,V⟩,b⟩
def Pn(f:∀h∈S,h<d.size)(v:ap (bI S d) a e)(i:ap (bI S d) h p)(j:e.length+p.length<=10^12):lg 291 [O.v a,O.v h] d S (λg=>(∀x∈g,x∈e\/x∈p)/\g.length<=e.length+p.length):=by
 apply Jk;refine(mu f v V).then λM _ G u r C=>⟨_,rfl,?_⟩;subst r;have w:=i.len;refine ez (n:=p.length) (w▸i.gX) (λk s b=>J d b/\∃g,GI S d b s g/\(∀x∈g,x∈e\/x∈p)/\g.length<=e.length+k) ⟨C,_,u,λx c=>Or.inl c,ad _⟩ ?_;rintro k s H I μ F ⟨c,g,l,m,E⟩ B
 refine dit (λb=>?_) λb=>?_
 .let⟨x,o⟩:=cG p k;refine⟨V,V,x,i.MW c o,?_⟩;refine(mI (λh j=>aO (f h j) c.size) (l.done f V) x V).then λL A K t q D=>⟨_,rfl,B V _ _ ⟨c.trans D,A,t.cr (λ_ b=>b) c.size,λy z=>?_,oh q.2⟩⟩;rcases q.1 y z with b|b
  .exact m y b
  .subst b;exact Or.inr (aq o)
 .exact⟨s,g,rfl,l,⟨m,V⟩,c⟩
def tR(a:Int)(d:E):dt cq 310 [vi a] d (14<=a/\a<=17):=by
 apply zp;exact(aX _ _ _ _).then λh e c b=>⟨_,rfl,eV c b⟩
def eP(c:∀h∈S,h<d.size){ic:O}{a:List Int}(m:ap (bI S d) j e)(n:ap (bI S d) ic a)(l:e.length+a.length<=10^12):lg 187 [O.v j,O.v ic] d S (e++a=·):=by
 apply ve;refine(mu c m V).then λq _ p b i g=>⟨_,rfl,?_⟩;subst i;exact GI.all b (g.fz []) c (n.le (tz g b.bn.1)) l λr o k f _ _=>⟨r,_,rfl,k,rfl,f.ext⟩
def sj(t:∀h∈S,h<d.size)(l:ap (bI S d) j e)(a:Nat)(w:a+e.length<=10^12):lg 220 [O.v j,vi a] d S (λg=>(∀x∈g,(a:Int)<=x/\x<a+e.length)/\g.length<=e.length):=by
 apply Dg;intro B;have u:=l.len;refine ez (n:=e.length) (u▸l.gX) (λk s b=>J d b/\∃g,GI S d b s g/\(∀x∈g,(a:Int)<=x/\x<a+e.length)/\g.length<=k) ⟨J.push d _,[],GI.nil S d,aL,ad _⟩ ?_;rintro k s C I μ A ⟨c,g,i,m,z⟩ o
 refine dit (λq=>?_) λq=>?_
 .let⟨x,v⟩:=cG e k;refine⟨V,V,x,l.MW c v,λr=>?_,λr=>o V _ _ ⟨c,g,i,m,V⟩⟩;rw[aQ (b:=(a:Int)+k) V V];intro D;refine GI.kM i (c.fz []) t V λF E p f _ _=>o V _ _ ⟨f.ext,_,p,?_,bF⟩
  intro y b;rcases List.mem_append.1 b with b|b
  .exact m y b
  .simp at b;omega
 .exact⟨s,g,rfl,i,⟨m,V⟩,c⟩
def me(o:∀h∈S,h<d.size)(a b:Nat)(q:a+b<=10^12):lg 203 [vi a,vi b] d S (λg=>(∀x∈g,(a:Int)<=x/\x<a+b)/\g.length=b):=by
 apply xZ;intro u;refine ez (n:=b) V (λk s c=>J d c/\∃g,GI S d c s g/\(∀x∈g,(a:Int)<=x/\x<a+b)/\g.length=k) ⟨J.push d _,[],GI.nil S d,aL,rfl⟩ ?_;rintro k s v I μ t ⟨j,g,e,i,r⟩ p
 refine dit (λm=>?_) λm=>?_
 .rw[aQ (b:=(a:Int)+k) V V];intro w;refine GI.kM e (j.fz []) o V λA z l f _ _=>p V _ _ ⟨f.ext,_,l,?_,bF⟩
  intro y c;rcases List.mem_append.1 c with c|c
  .exact i y c
  .simp at c;omega
 .exact⟨s,g,rfl,e,⟨i,V⟩,j⟩
def H9(e:List Int):(e.map λx=>[Ce.i x]).flatten=e.map Ce.i:=by induction e<;>simp_all
def GI.set{S X:List Nat}{p d:E}{s:O}{e:List Int}(t:GI S p d s e)(M:Fz X p d){k:Nat}(B:k<e.length)(n:Int):
 fN d s.D (s.off+k*1) 1/\GI S p (ah d s.D (s.off+k*1) [.i n]) s (e.set k n)/\Fz X p (ah d s.D (s.off+k*1) [.i n])/\(∀h,h≠s.D->(ah d s.D (s.off+k*1) [.i n])[h]? =d[h]?):=by
 have R:=t.bn
 have T:=t.len bh
 let⟨v,j,I,g⟩:=t
 have Q:∀h,h≠s.D->(ah d s.D (s.off+k*1) [.i n])[h]? =d[h]? :=λh L=>bd _ _ _ _ L
 let⟨h,D,tail,q,F,u,G,H⟩:=I.aH.resolve_left v
 have N:j.flatten.length=e.length:=by rw[cw g.size,g.len];omega
 have P:j.flatten=e.map Ce.i:=by
  apply gY;intro f;rcases aW f e.length with a|a
  .let⟨x,l⟩:=dC a;let⟨cs,y⟩:=cG j f (by rw[g.len];exact a);have z:cs=[.i x]:=g.dA f cs x y l;have w:=fZ (g:=1) g.size y (i:=0) (c:=.i x) (by rw[z];rfl);simp only[eS,jJ]at w;rw[w];simp[l]
  .rw[cN V,cN (by simpa using a)]
 have C:s.off+k*1=k:=by rw[q];simp
 have w:s.D=h:=by rw[q];rfl
 refine⟨?_,⟨v,(e.set k n).map λx=>[.i x],⟨?_,Or.inr ⟨h,D,tail,q,F,?_,?_,H⟩⟩,⟨by rw[dZ],λcs y=>?_,λU cs x A l=>?_⟩⟩,M.ah (Or.inr R.1) _ _,Q⟩
 .rw[C,w]
  exact u.fN (by simp only[be,aZ,eW];omega)
 .rw[H9,dZ,eg];omega
 .have J:=cz.ah (m:=d) (b:=h) (r:=[.i n]) (o:=k) u
  rw[C,w,H9]
  have K:jf (j.flatten++tail) k [.i n]=(e.set k n).map Ce.i++tail:=by
   apply gY;intro f;rw[wD,P];by_cases z:f=k
   .subst z;rw[an ⟨ad _,aL,bF⟩,ax (by simpa using B)];simp[B]
   .rw[ae bF];rcases aW f e.length with a|a
    .rw[ax (by simpa using a),ax (by simpa using a)];simp only[cJ,cv (kH z)]
    .rw[aK (by simpa using a),aK (by simpa using a)];simp
  rw[<-K];exact J
 .rw[<-G,H9]
  simp only[be,N,dZ,eg]
 .simp only[XH]at y
  obtain⟨x,_,rfl⟩:=y
  rfl
 .simp only[cJ,l,ov,Ed]at A
  exact A.symm
def vk(k:∀h∈S,h<d.size)(o:ap (bI S d) j e)(m:e.length<=10^12){a:Nat}(l:a<e.length)(n:Int):lg 235 [O.v j,vi a,vi n] d S (e.set a n=·):=by
 apply zP;refine(mu k o m).then λs _ q g b p=>⟨_,rfl,V,?_,?_⟩
 .subst b;have:=g.len bh;omega
 subst b;obtain⟨c,f,i,_⟩:=g.set (p.fz []) l n;exact⟨c,s,_,rfl,f,rfl,i.ext⟩
end
end Go.Proofs.YtkoifinbblcbiaaGreat
section
namespace Go.Vc
variable{l:List cU}{k d a:Nat}{x s:cU}{c:Prop}
open Go.Proofs.YtkoifinbblcbiaaGreat
def Bk.ind{Q:Bk->Prop}(h:∀aB r,(∀s∈aB,∀b∈s.bD,Q b)->Q (.mk aB r)):∀b,Q b
 | .mk aB r=>h aB r λs _ b _=>Bk.ind h b
termination_by b=>SizeOf.sizeOf b
decreasing_by
 rename_i a c
 have d:=oY a
 have e:=oY c
 have f:SizeOf.sizeOf s.bD<SizeOf.sizeOf s:=by cases s;simp;omega
 simp;omega
def Ex.ind{Q:Ex->Prop}(h:∀a bQ bD,(∀e∈bD,Q e)->Q (.mk a bQ bD)):∀e,Q e
 | .mk a bQ bD=>h a bQ bD λe _=>Ex.ind h e
termination_by e=>SizeOf.sizeOf e
decreasing_by
 rename_i a
 have b:=oY a
 simp;omega
def sw(l:List cU):Nat:=(l.map MP.w).sum
def bw(l:List Bk):Nat:=(l.map Bk.w).sum
def en(l:List Ex):Nat:=(l.map Ex.n).sum
@[simp] theorem vL:sw []=0:=rfl
@[simp] theorem Ab:bw []=0:=rfl
@[simp] theorem Xn:en []=0:=rfl
def mQ(x:cU)(l:List cU):sw (x::l)=x.w+sw l:=by simp[sw]
def uQ(x:Bk)(l:List Bk):bw (x::l)=x.w+bw l:=by simp[bw]
def OQ(x:Ex)(l:List Ex):en (x::l)=x.n+en l:=by simp[en]
def dD(a b:List cU):sw (a++b)=sw a+sw b:=by simp[sw]
def pp(a b:List Bk):bw (a++b)=bw a+bw b:=by simp[bw]
def NV(a b:List Ex):en (a++b)=en a+en b:=by simp[en]
def Bk.qT(s:List cU)(r:Int):(Bk.mk s r).w=1+sw s:=Bk.Zo _
def Bk.my(b:Bk):b.w=1+sw b.aB:=Bk.Zo b
def cU.my(s:cU):s.w=1+s.args.length+bw s.bD:=rfl
def Ex.SX(o n:Int)(k:List Ex):(Ex.mk o n k).n=1+en k:=by rw[Ex.n];rfl
def Ex.YK(e:Ex):e.n=1+en e.bD:=by cases e;exact Ex.SX _ _ _
def ql(h:l[k]? =some x):sw (l.take (k+1))=sw (l.take k)+x.w:=by rw[aU h,dD,mQ,vL];rfl
def uR{l:List Bk}{x:Bk}(h:l[k]? =some x):bw (l.take (k+1))=bw (l.take k)+x.w:=by rw[aU h,pp,uQ,Ab];rfl
def KF{l:List Ex}{x:Ex}(h:l[k]? =some x):en (l.take (k+1))=en (l.take k)+x.n:=by rw[aU h,NV,OQ,Xn];rfl
def Ca(l:List cU)(k:Nat):sw (l.take k)<=sw l:=by
 have:=dD (l.take k) (l.drop k);rw[dk]at this;omega
def KY(l:List Bk)(k:Nat):bw (l.take k)<=bw l:=by
 have:=pp (l.take k) (l.drop k);rw[dk]at this;omega
def RZ(l:List Ex)(k:Nat):en (l.take k)<=en l:=by
 have:=NV (l.take k) (l.drop k);rw[dk]at this;omega
def Pp(h:l[k]? =some x):x.w<=sw l:=by
 have:=ql h;have:=Ca l (k+1);omega
def xk{l:List Bk}{x:Bk}(h:l[k]? =some x):x.w<=bw l:=by
 have:=uR h;have:=KY l (k+1);omega
def gC:∀l:List cU,l.length<=sw l
 |[]=>aL
 |x::l=>by have:=gC l;rw[mQ,aZ,cU.my];omega
def Bk.HH(b:Bk):1<=b.w:=by rw[Bk.my];omega
def qD:∀l:List Bk,l.length<=bw l
 |[]=>aL
 |x::l=>by have:=qD l;have:=x.HH;rw[uQ,aZ];omega
def Q1:∀l:List Ex,l.length<=en l
 |[]=>aL
 |x::l=>by have:=Q1 l;rw[OQ,aZ,Ex.YK];omega
def pF(a:Int):Prop:=0<=a/\a<=11
instance(a:Int):Decidable (pF a):=inferInstanceAs (Decidable (_/\_))
def dn(s:cU):Nat:=if pF s.op then 1 else 0
def dc(l:List cU):Nat:=(l.map dn).sum
@[simp] theorem tw:dc []=0:=rfl
def kO(x:cU)(l:List cU):dc (x::l)=dn x+dc l:=by simp[dc]
def cV(a b:List cU):dc (a++b)=dc a+dc b:=by simp[dc]
def qY(h:l[k]? =some x):dc (l.take (k+1))=dc (l.take k)+dn x:=by rw[aU h,cV,kO,tw];rfl
def TU(l:List cU)(k:Nat):dc (l.take k)<=dc l:=by
 have:=cV (l.take k) (l.drop k);rw[dk]at this;omega
def Yr(x:cU):dn x<=1:=by unfold dn;split<;>omega
def tv:∀l:List cU,dc l<=l.length
 |[]=>aL
 |x::l=>by have:=tv l;have:=Yr x;rw[kO,aZ];omega
def Cj(a:List bz)(b bQ:Int)(i:Nat):Nat:=if b=8 then(cE a (((cy a bQ)[i]?).getD 0)).length else 0
structure UX(ds:List bz)(d:Nat)(c:Prop)(a:Nat)(s:cU):Prop where
 op:pF s.op\/c/\14<=s.op/\s.op<=17
 args:∀x∈s.args,0<=x/\x<(a:Int)
 lO:14<=s.op\/s.op=7\/s.op=8->s.args.length=1
 cp:0<=s.cp/\s.cp<=(a:Int)
 KC:s.op=7->s.bD.length=2
 all:s.op=8->s.bD.length=(cy ds s.bQ).length/\0<s.bD.length
 call:s.op=9->0<=s.bQ/\s.bQ<(d:Int)
inductive WB(ds:List bz)(d:Nat)(c:Prop):Nat->Bk->Prop
 |mk {a:Nat} {aB:List cU} {r:Int} (fe:∀(i:Nat)(s:cU),aB[i]? =some s->UX ds d c (a+dc (aB.take i)) s)
  (bD:∀(i:Nat)(s:cU)(k:Nat)(b:Bk),aB[i]? =some s->s.bD[k]? =some b->WB ds d c (a+dc (aB.take i)+Cj ds s.op s.bQ k) b)
  (res:0<=r/\r<((a+dc aB:Nat):Int)):WB ds d c a (.mk aB r)
structure WS(ds:List bz)(d:Nat)(c:Prop)(a:Nat)(s:cU):Prop where
 fe:UX ds d c a s
 bD:∀(k:Nat)(b:Bk),s.bD[k]? =some b->WB ds d c (a+Cj ds s.op s.bQ k) b
def WL(b:List bz)(d:Nat)(c:Prop)(a:Nat)(l:List cU):Prop:=∀(i:Nat)(s:cU),l[i]? =some s->WS b d c (a+dc (l.take i)) s
def WB.aS{e:List bz}{b:Bk}(h:WB e d c a b):WL e d c a b.aB/\0<=b.aT/\b.aT<((a+dc b.aB:Nat):Int):=by
 cases h with
 |mk fe bD j=>exact⟨λi s f=>⟨fe i s f,λk b g=>bD i s k b f g⟩,j⟩
def WB.of{e:List bz}{aB:List cU}{r:Int}(h:WL e d c a aB)(j:0<=r/\r<((a+dc aB:Nat):Int)):WB e d c a (.mk aB r):=
 .mk (λi s b=>(h i s b).fe) (λi s k f b g=>(h i s b).bD k f g) j
def WL.nil(b:List bz)(d:Nat)(c:Prop)(a:Nat):WL b d c a []:=λi s h=>by simp at h
def WL.append{f:List bz}{g:List cU}(h:WL f d c a l)(j:WL f d c (a+dc l) g):WL f d c a (l++g):=λi s e=>by
 rcases aW i l.length with b|b
 .rw[ax b]at e;rw[nF V];exact h i s e
 .rw[aK b]at e;have:=j _ s e;rw[List.take_append,nO b,cV,<-di];exact this
def WL.lO{e:List bz}(h:WS e d c a s):WL e d c a [s]:=λi x b=>by
 have:i=0:=by have:=aw b;simp at this;omega
 subst this;simp at b;subst b;simpa using h
def WL.zg{b:List bz}(h:WL b d c a l)(e:WS b d c (a+dc l) s):WL b d c a (l++[s]):=h.append (.lO e)
def WL.take{e:List bz}(h:WL e d c a l)(k:Nat):WL e d c a (l.take k):=λi s b=>by
 rw[lI]at b;split at b
 .rw[ML,jg V];exact h i s b
 .simp at b
def WL.drop{b:List bz}(h:WL b d c a l)(k:Nat):WL b d c (a+dc (l.take k)) (l.drop k):=λi s e=>by
 rw[sE]at e;have:=h _ s e;rw[List.take_add,cV,<-di]at this;exact this
end Go.Vc
end
namespace Go.Proofs.YtkoifinbblcbiaaGreat
open Go.Vc
section
variable{m:E}{d p:O}{b:cR}
def vV(b:cR)(bQ:Int)(n:Nat):Prop:=∃q:dz,0<=bQ/\b.cF[bQ.toNat]? =some q/\q.params.length=n
def UF:cQ 9223372036854775808= -9223372036854775808:=bh
def wV(h:fj m d p b)(bQ:Int)(n ic:Nat)(I:n<=9223372036854775807)(H:ic<=1):
 dt cq 200 [.agg #[O.v d,O.v p],vi bQ,vi n,vi ic] m (vV b bQ (n+ic)):=by
 apply Du
 simp -zeta only[aD,aC]
 intro j
 have i:J m j:=(J.az m).aJ _
 have w:∀k∈[m.size],k<j.size:=by simp[j]
 have K:=h.cF.len
 have L:=h.cF.gX
 refine(aX _ _ _ _).aG (J.az _) w λk M o f B=>⟨_,rfl,λa=>?_,λa=>?_⟩
 .have a:=o.1 a
  rw[aQ V V]at a
  let⟨q,g⟩:=cG b.cF bQ.toNat
  let⟨e,x,y,l,D,E,s,g1,g2,z,A⟩:=(iN.ext (i.trans f) h.cF).aH g
  refine⟨V,V,e,s,eV ?_ (i.trans f)⟩
  have u:=l.len
  have C:=l.gX
  simp only[aI]
  have r:(e.len:Int)=cQ ((n:Int)+(ic:Int))<->e.len=n+ic:=by
   rcases aW (n+ic) 9223372036854775808 with G|F
   .rw[aQ V V];omega
   .have c:(n:Int)+(ic:Int)=9223372036854775808:=V;rw[c,UF];omega
  rw[r,u]
  exact⟨λv=>⟨q,a.1,g,v⟩,λ⟨N,_,c,t⟩=>by rw[g]at c;simp at c;rw[c];exact t⟩
 .refine bV (λ⟨q,e,c,_⟩=>fb o a ?_) (i.trans f)
  have:=aw c
  rw[aQ V V]
  omega
def mh(b:cR)(p:dz)(k:Nat)(i:Instr):Prop:=
 if i.op=0 then i.args.length=0/\-999<=i.bQ/\i.bQ<=999
 else if i.op=1\/i.op=2\/i.op=3\/i.op=4\/i.op=11 then i.args.length=2/\i.bQ=0
 else if i.op=5\/i.op=14\/i.op=15\/i.op=18\/i.op=23 then i.args.length=1/\i.bQ=0
 else if i.op=6 then(0<=i.bQ/\i.bQ<(eT b.bo).length)/\i.args.length=(cE b.bo i.bQ).length/\0<=i.cp/\i.cp<=p.ak
 else if i.op=9\/i.op=24 then vV b i.bQ i.args.length
 else if i.op=10 then vV b i.bQ (i.args.length+1)/\∀q,b.cF[i.bQ.toNat]? =some q->q.cT.length=0
 else if i.op=16\/i.op=17 then(1<=i.args.length/\i.args.length<=4)/\i.bQ=0
 else if i.op=19 then i.args.length=1/\0<=i.bQ/\i.bQ<=2
 else if i.op=20 then i.args.length=1/\(k:Int)+1<=i.bQ/\i.bQ<=(p.dq.length:Int) -1
 else if i.op=22 then i.args.length=0/\(k:Int)+1<=i.bQ/\i.bQ<=(p.dq.length:Int) -1
 else if i.op=21 then i.args.length=1/\0<(cy b.bo i.bQ).length/\OD i.eN (cy b.bo i.bQ).length k p.dq.length
 else False
structure iT(b:cR)(p:dz)(k:Nat)(i:Instr):Prop where
 args:∀a∈i.args,0<=a/\a<=p.ak -1
 dst:0<=i.dst/\i.dst<=p.ak -1
 Ys:i.dst=0\/lS i.op
 cp:i.cp=0\/i.op=6
 eN:i.op=21\/i.eN.length=0
 op:mh b p k i
structure PI(m:E)(a l:O)(c:O)(p:dz):Prop where
 params:ap m a p.params
 cT:ap m l p.cT
 dq:fq m c p.dq
def PI.ext{m d:E}(a:J m d){b l c:O}{p:dz}(h:PI m b l c p):PI d b l c p:=⟨h.params.ext a,h.cT.ext a,fq.ext a h.dq⟩
def Fp(ai:fj m d p b)(X:dU b.bo){ab ah S:O}{q:dz}(U:PI m ab ah S q)(hr:1<=q.ak/\q.ak<=2000){k:Nat}{i:Instr}(hk:q.dq[k]? =some i):
 dt cq 158 [.agg #[O.v d,O.v p],.agg #[O.v ab,O.v ah,vi q.aT,vi q.ak,O.v S],vi k] m (iT b q k i):=by
 apply zJ
 simp -zeta only[aD,aC]
 intro m1 N
 have Z:J m N:=((J.az m).aJ _).aJ _
 have aJ:=aw hk
 have ac:=U.dq.len
 have aF:=U.dq.gX
 let⟨xa,M,P,hj,g0,g1,g2,g3,g4,g5⟩:=(fq.ext Z U.dq).aH hk
 refine⟨V,V,_,g0,_,g1,_,g2,_,g3,_,g4,_,g5,?_⟩
 intro m3 z
 have r:J m z:=(Z.aJ _).ah Z.size _ _
 have ag:J N z:=((J.az N).aJ _).ah (ad _) _ _
 have v:∀A∈[N.size,m1.size,m.size],A<z.size:=by
  simp[z,m3,N,m1,av];omega
 clear_value z
 have T:=P.len
 have aH:=hj.len
 have aA:=P.gX
 have er:cQ (q.ak -1)=q.ak -1:=aQ V V
 rw[er]
 refine dV (n:=i.args.length) (T▸P.gX) (λaa s=>J z s/\∀x∈i.args.take aa,0<=x/\x<=q.ak -1) ⟨J.az _,aL⟩ ?_
 rintro aa m5 ay μ aG ⟨Y,hn⟩ au
 refine dit (λh1=>?_) λh1=>?_
 .let⟨x,a⟩:=cG i.args aa
  refine⟨V,V,x,by simpa using(ag.trans Y).af (P.aH a),?_⟩
  exact(aX _ _ _ _).aG Y v λA w e g f=>⟨_,rfl,λc=>bV (λh=>nb e c (h.args x (aq a))) (r.trans f),λc=>au V _ ⟨f,bC a hn (yb e c)⟩⟩
 .have ak:=db V hn
  refine⟨λs=>J z s/\(0<=i.dst/\i.dst<=q.ak -1)/\(i.dst=0\/lS i.op)/\(i.cp=0\/i.op=6)/\(i.op=21\/i.eN.length=0),?_,?_⟩
  .refine(aX _ _ _ _).aG Y v λA w e g f=>⟨_,rfl,λc=>bV (λh=>nb e c h.dst) (r.trans f),λc=>?_⟩
   have R:=yb e c
   have tail:∀s:E,J z s->(i.dst=0\/lS i.op)->
    ((i.cp !=0)=true->((i.op !=6)=true->∃B:Bool,vb false=.bool B/\(B=true<->iT b q k i)/\J m s)/\((i.op !=6)=false->
     ((i.op !=21)=true->((decide ((M.len:Int)>0))=true->∃B:Bool,vb false=.bool B/\(B=true<->iT b q k i)/\J m s)/\((decide ((M.len:Int)>0))=false->J z s/\(0<=i.dst/\i.dst<=q.ak -1)/\(i.dst=0\/lS i.op)/\(i.cp=0\/i.op=6)/\(i.op=21\/i.eN.length=0)))/\
     ((i.op !=21)=false->J z s/\(0<=i.dst/\i.dst<=q.ak -1)/\(i.dst=0\/lS i.op)/\(i.cp=0\/i.op=6)/\(i.op=21\/i.eN.length=0))))/\
    ((i.cp !=0)=false->
     ((i.op !=21)=true->((decide ((M.len:Int)>0))=true->∃B:Bool,vb false=.bool B/\(B=true<->iT b q k i)/\J m s)/\((decide ((M.len:Int)>0))=false->J z s/\(0<=i.dst/\i.dst<=q.ak -1)/\(i.dst=0\/lS i.op)/\(i.cp=0\/i.op=6)/\(i.op=21\/i.eN.length=0)))/\
     ((i.op !=21)=false->J z s/\(0<=i.dst/\i.dst<=q.ak -1)/\(i.dst=0\/lS i.op)/\(i.cp=0\/i.op=6)/\(i.op=21\/i.eN.length=0))):=by
    intro s l Q
    have u:(i.cp=0\/i.op=6)->((i.op !=21)=true->((decide ((M.len:Int)>0))=true->∃B:Bool,vb false=.bool B/\(B=true<->iT b q k i)/\J m s)/\((decide ((M.len:Int)>0))=false->J z s/\(0<=i.dst/\i.dst<=q.ak -1)/\(i.dst=0\/lS i.op)/\(i.cp=0\/i.op=6)/\(i.op=21\/i.eN.length=0)))/\
     ((i.op !=21)=false->J z s/\(0<=i.dst/\i.dst<=q.ak -1)/\(i.dst=0\/lS i.op)/\(i.cp=0\/i.op=6)/\(i.op=21\/i.eN.length=0)):=by
     intro t
     refine⟨λa=>⟨λj=>?_,λj=>?_⟩,λa=>?_⟩
     .simp at a j
      exact bV (λh=>by rcases h.eN with o|o<;>omega) (r.trans l)
     .simp at j
      exact⟨l,R,Q,t,Or.inr V⟩
     .simp at a
      exact⟨l,R,Q,t,Or.inl a⟩
    refine⟨λa=>⟨λj=>?_,λj=>u (Or.inr (by simpa using j))⟩,λa=>u (Or.inl (by simpa using a))⟩
    simp at a j
    exact bV (λh=>by rcases h.cp with o|o<;>contradiction) (r.trans l)
   refine⟨λa=>?_,λa=>tail w f (Or.inl (by simpa using a))⟩
   refine(yf _ _).aG f v λA x e j o=>⟨_,rfl,λG=>?_,λG=>tail x o (Or.inr (yb e G))⟩
   simp at a
   exact bV (λh=>by rcases h.Ys with I|I;exact a I;exact nb e G I) (r.trans o)
  .rintro m8 ⟨x,R,Q,ao,ap⟩
   have y:=r.trans x
   have am:iT b q k i<->mh b q k i:=⟨λh=>h.op,λh=>⟨ak,R,Q,ao,ap,h⟩⟩
   rw[am]
   have K:fj m8 d p b:=fj.ext y ai
   refine⟨λt=>?_,λt=>?_⟩
   .simp only[aI]at t
    have h:mh b q k i<->i.args.length=0/\-999<=i.bQ/\i.bQ<=999:=by rw[mh,an t]
    rw[h]
    refine⟨λg=>?_,λg=>?_⟩
    .simp only[aI]at g
     refine(aX _ _ _ _).aG x v λA H e f c=>⟨_,rfl,eV ?_ (r.trans c)⟩
     rw[e];omega
    .simp only[aj]at g
     exact bV V y
   simp only[aj]at t
   refine⟨λu=>?_,λu=>?_⟩
   .simp only[bR,aI]at u
    have h:mh b q k i<->i.args.length=2/\i.bQ=0:=by rw[mh,ae t,an u]
    rw[h]
    refine⟨λg=>eV ?_ y,λg=>bV ?_ y⟩
    .simp only[aI]at g⊢;omega
    .simp only[aj]at g;omega
   simp only[br,aj]at u
   replace u:¬(i.op=1\/i.op=2\/i.op=3\/i.op=4\/i.op=11):=V
   refine⟨λw=>?_,λw=>?_⟩
   .simp only[bR,aI]at w
    have h:mh b q k i<->i.args.length=1/\i.bQ=0:=by rw[mh,ae t,ae u,an w]
    rw[h]
    refine⟨λg=>eV ?_ y,λg=>bV ?_ y⟩
    .simp only[aI]at g⊢;omega
    .simp only[aj]at g;omega
   simp only[br,aj]at w
   replace w:¬(i.op=5\/i.op=14\/i.op=15\/i.op=18\/i.op=23):=V
   refine⟨λC=>?_,λC=>?_⟩
   .simp only[aI]at C
    have h:mh b q k i<->(0<=i.bQ/\i.bQ<(eT b.bo).length)/\i.args.length=(cE b.bo i.bQ).length/\0<=i.cp/\i.cp<=q.ak:=by rw[mh,ae t,ae u,ae w,an C]
    rw[h]
    refine(ms K.bo X _).aG x v ?_
    rintro _ H ⟨aB,rfl,D,f⟩
    refine⟨f,_,rfl,dit (λc=>?_) λc=>?_⟩
    .have al:0<=i.bQ/\i.bQ<(eT b.bo).length:=by
      rcases D with⟨F,L,a,j,o,G⟩|⟨a,_⟩
      .have:=R1 b.bo (show F+1<=b.bo.length from aw j);rw[sP j,mX b.bo _ (ad _)]at this;omega
      .omega
     refine(GX (cx.ext f K.bo) X _).aG (x.trans f) v ?_
     rintro _ ar ⟨ax,rfl,W,a⟩
     have af:=W.len
     refine⟨a,_,rfl,λj=>?_,λj=>?_⟩
     .simp only[aI]at j
      refine(aX _ _ _ _).aG ((x.trans f).trans a) v λA az e o G=>⟨_,rfl,eV ?_ (r.trans G)⟩
      rw[e]
      exact⟨λl=>⟨al,V,l⟩,λl=>l.2.2⟩
     .simp only[aj]at j
      exact bV (λl=>j V) ((y.trans f).trans a)
    .refine bV (λl=>?_) (y.trans f)
     rcases D with⟨F,L,a,j,o,G⟩|⟨_,a⟩
     .omega
     .exact a l.1
   simp only[aj]at C
   refine⟨λD=>?_,λD=>?_⟩
   .simp only[bR,aI]at D
    have h:mh b q k i<->vV b i.bQ (i.args.length+0):=by rw[mh,ae t,ae u,ae w,ae C,an D];rfl
    rw[h]
    have L:=wV K i.bQ i.args.length 0 V V
    rw[T]
    refine L.aG x v λA H e f c=>⟨_,rfl,eV e (r.trans c)⟩
   simp only[br,aj]at D
   replace D:¬(i.op=9\/i.op=24):=V
   refine⟨λF=>?_,λF=>?_⟩
   .simp only[aI]at F
    have h:mh b q k i<->vV b i.bQ (i.args.length+1)/\∀q,b.cF[i.bQ.toNat]? =some q->q.cT.length=0:=by rw[mh,ae t,ae u,ae w,ae C,ae D,an F]
    rw[h]
    have L:=wV K i.bQ i.args.length 1 V V
    rw[T]
    refine L.aG x v λA H e f c=>⟨_,rfl,λa=>?_,λa=>bV (λl=>fb e a l.1) (r.trans c)⟩
    let⟨q',j,o,G⟩:=(e.1 a)
    let⟨a',B,c',az,al,aE,f0,f1,f2,f3,f4⟩:=(iN.ext f K.cF).aH o
    have:=K.cF.len
    have:=aw o
    refine⟨V,V,B,f1,eV ?_ (r.trans c)⟩
    have aB:=al.len
    simp only[aI]
    refine⟨λl=>⟨⟨q',j,o,G⟩,λaK I=>?_⟩,λl=>?_⟩
    .rw[o]at I;simp at I;subst I;omega
    .have:=l.2 q' o;omega
   simp only[aj]at F
   refine⟨λB=>?_,λB=>?_⟩
   .simp only[bR,aI]at B
    have h:mh b q k i<->(1<=i.args.length/\i.args.length<=4)/\i.bQ=0:=by rw[mh,ae t,ae u,ae w,ae C,ae D,ae F,an B]
    rw[h]
    refine(aX _ _ _ _).aG x v λA H e f c=>⟨_,rfl,λa=>eV ?_ (r.trans c),λa=>bV ?_ (r.trans c)⟩
    .have a:=e.1 a
     simp only[aI];omega
    .have a:=fb e a;omega
   simp only[br,aj]at B
   replace B:¬(i.op=16\/i.op=17):=V
   refine⟨λG=>?_,λG=>?_⟩
   .simp only[aI]at G
    have h:mh b q k i<->i.args.length=1/\0<=i.bQ/\i.bQ<=2:=by rw[mh,ae t,ae u,ae w,ae C,ae D,ae F,ae B,an G]
    rw[h]
    refine⟨λg=>?_,λg=>?_⟩
    .simp only[aI]at g
     refine(aX _ _ _ _).aG x v λA H e f c=>⟨_,rfl,eV ?_ (r.trans c)⟩
     rw[e];omega
    .simp only[aj]at g
     exact bV V y
   simp only[aj]at G
   have ek:cQ ((k:Int)+1)=(k:Int)+1:=aQ V V
   have ec:cQ ((S.len:Int) -1)=(q.dq.length:Int) -1:=by rw[aQ V V,ac]
   rw[ek,ec]
   refine⟨λI=>?_,λI=>?_⟩
   .simp only[aI]at I
    have h:mh b q k i<->i.args.length=1/\(k:Int)+1<=i.bQ/\i.bQ<=(q.dq.length:Int) -1:=by rw[mh,ae t,ae u,ae w,ae C,ae D,ae F,ae B,ae G,an I]
    rw[h]
    refine⟨λg=>?_,λg=>?_⟩
    .simp only[aI]at g
     refine(aX _ _ _ _).aG x v λA H e f c=>⟨_,rfl,eV ?_ (r.trans c)⟩
     rw[e];omega
    .simp only[aj]at g
     exact bV V y
   simp only[aj]at I
   refine⟨λL=>?_,λL=>?_⟩
   .simp only[aI]at L
    have h:mh b q k i<->i.args.length=0/\(k:Int)+1<=i.bQ/\i.bQ<=(q.dq.length:Int) -1:=by rw[mh,ae t,ae u,ae w,ae C,ae D,ae F,ae B,ae G,ae I,an L]
    rw[h]
    refine⟨λg=>?_,λg=>?_⟩
    .simp only[aI]at g
     refine(aX _ _ _ _).aG x v λA H e f c=>⟨_,rfl,eV ?_ (r.trans c)⟩
     rw[e];omega
    .simp only[aj]at g
     exact bV V y
   simp only[aj]at L
   refine⟨λg=>?_,λg=>?_⟩
   .simp only[aI]at g
    have h:mh b q k i<->i.args.length=1/\0<(cy b.bo i.bQ).length/\OD i.eN (cy b.bo i.bQ).length k q.dq.length:=by rw[mh,ae t,ae u,ae w,ae C,ae D,ae F,ae B,ae G,ae I,ae L,an g]
    rw[h]
    refine(AW K.bo X _).aG x v ?_
    rintro _ H ⟨ax,rfl,W,f⟩
    have af:=W.len
    refine⟨f,_,rfl,λc=>?_,λc=>?_⟩
    .simp only[aI]at c
     refine dit (λa=>?_) λa=>?_
     .rw[af,ac]
      refine(Fq (hj.ext (ag.trans (x.trans f))) _ _ _ V V).aG (x.trans f) v λA ar e j o=>⟨_,rfl,eV ?_ (r.trans o)⟩
      rw[e]
      exact⟨λl=>⟨V,V,l⟩,λl=>l.2.2⟩
     .exact bV (λl=>V) (y.trans f)
    .simp only[aj]at c
     exact bV (λl=>V) (y.trans f)
   .simp only[aj]at g
    have h:mh b q k i<->False:=by rw[mh,ae t,ae u,ae w,ae C,ae D,ae F,ae B,ae G,ae I,ae L,ae g]
    rw[h]
    exact bV (λl=>l) y
end
section
variable{a:E}{d p:O}{b:cR}
structure KS(ds:List bz)(ps:List dz):Prop where
 types:dU ds
 len:1<=ps.length/\ps.length<=4
 dA:∀p∈ps,p.params.length<=3/\FG ds.length p.params/\zU ds.length p.aT
 first:∀p,ps[0]? =some p->p.params.length=0/\p.aT=0
def oZ(a:E)(c:List Ce)(p:dz):Prop:=∃b,c=[.s b,.i p.aT,.i 0,.i 0,.s .nil]/\ap a b p.params
def oZ.ext{a d:E}(h:J a d)(b:List Ce)(c:dz):oZ a b c->oZ d b c:=λ⟨f,e,g⟩=>⟨f,e,g.ext h⟩
def Tw.aH{s:O}{l:List dz}(h:eU a 5 (oZ a) s l){k:Nat}{x:dz}(e:l[k]? =some x):
 ∃b,ap a b x.params/\af a s.D (s.off+k*5)=some (O.v b)/\af a s.D (s.off+k*5+1)=some (vi x.aT)/\af a s.D (s.off+k*5+2)=some (vi 0)/\af a s.D (s.off+k*5+3)=some (vi 0)/\af a s.D (s.off+k*5+4)=some (O.v .nil):=by
 obtain⟨f,⟨b,rfl,d⟩,c⟩:=h.iE k x e
 exact⟨b,d,c 0 (.s b) rfl,c 1 (.i x.aT) rfl,c 2 (.i 0) rfl,c 3 (.i 0) rfl,c 4 (.s .nil) rfl⟩
def vj{D:O}{k:List bz}{j:List dz}(hd:cx a d k)(y:eU a 5 (oZ a) D j):
 dt cq 84 [.agg #[O.v d,O.v D]] a (KS k j):=by
 apply BY
 simp -zeta only[aD,aC]
 intro q
 have o:J a q:=(J.az a).aJ _
 have z:∀g∈[a.size],g<q.size:=by simp[q]
 have m:=hd.len
 have aa:=y.len
 refine(Fu (cx.ext o hd)).aG (J.az _) z λg m2 c N Q=>⟨_,rfl,λv=>bV (λb=>nb c v b.types) (o.trans N),λv=>?_⟩
 have T:=yb c v
 refine(aX _ _ _ _).aG Q z λg m3 c Z H=>⟨_,rfl,λw=>bV (λb=>nb c w (oh b.len)) (o.trans H),λw=>?_⟩
 have ab:=yb c w
 refine dV (n:=j.length) V (λB e=>J q e/\∀p∈j.take B,p.params.length<=3/\FG k.length p.params/\zU k.length p.aT) ⟨H,aL⟩ ?_
 rintro B C X μ hj ⟨A,K⟩ W
 have f:=o.trans A
 refine dit (λR=>?_) λR=>?_
 .let⟨p,e⟩:=cG j B
  let⟨M,l,s,g1,g2,E,F⟩:=Tw.aH (y.mono f (oZ.ext f)) e
  have S:=l.len
  refine⟨V,V,_,s,_,g1,_,g2,_,E,_,F,?_⟩
  intro L r
  have i:J C r:=((J.az C).aJ _).ah (ad _) _ _
  have I:∀g∈[C.size,a.size],g<r.size:=by
   have:=A.lt (z a.size aL);have:=i.size;simp[r,L,av];simp[r,L,av]at this;omega
  refine dit (λh=>?_) λh=>?_
  .exact bV (λb=>oh ((b.dA p (aq e)).1)) (f.trans i)
  refine(wG (l.ext i) _).aG (J.az _) I λg m7 c x P=>⟨_,rfl,λt=>bV (λb=>nb c t (m▸(b.dA p (aq e)).2.1)) ((f.trans i).trans x),λt=>?_⟩
  have U:=yb c t
  refine(aX _ _ _ _).aG P I λg m8 c Y G=>⟨_,rfl,λu=>?_,λu=>?_⟩
  .refine bV (λb=>nb c u ?_) ((f.trans i).trans G)
   rw[m];exact(b.dA p (aq e)).2.2
  .refine W V _ ⟨(A.trans i).trans G,bC e K ⟨V,m▸U,?_⟩⟩
   have:=yb c u
   rw[m]at this;exact this
 .have r:=db V K
  let⟨p,e⟩:=cG j 0
  let⟨M,l,s,g1,g2,E,F⟩:=Tw.aH (y.mono f (oZ.ext f)) e
  have S:=l.len
  refine⟨V,V,_,s,λh=>?_,λh=>?_⟩
  .simp only[aI]at h
   refine⟨V,V,_,g1,eV ?_ f⟩
   simp only[aI]
   refine⟨λx=>⟨T,V,r,λt i=>?_⟩,λb=>(b.first p e).2⟩
   rw[e]at i;simp at i;subst i
   exact⟨V,x⟩
  .simp only[aj]at h
   exact bV (λb=>h (oh ((b.first p e).1))) f
def Dz(M:fj a d p b)(ap:b.cF.length<=4):
 aN cq 85 [.agg #[O.v d,O.v p]] a λal j=>∃L,al=.agg #[O.v d,O.v L]/\eU j 5 (oZ j) L b.cF/\J a j:=by
 apply yg
 simp -zeta only[aD,aC]
 intro q k e K l
 have aq:=M.cF.len
 have ah:J a K:=(((J.az a).aJ _).aJ _|>.aJ _).aJ _
 have s3:e.size=a.size+3:=by simp[e,k,q]
 have s2:k.size=a.size+2:=by simp[k,q]
 have s1:q.size=a.size+1:=by simp[q]
 have s5:l.size=a.size+4:=by simp[l,K,av,s3]
 have ai:J a l:=ah.ah V _ _
 have aa:cz l e.size kL [.s d,.s (.mk k.size 0 0 0)]:=cz.ah (m:=K) (o:=0) (r:=[.s d,.s (.mk k.size 0 0 0)]) (cz.push e _ _)
 have ag:J e l:=((J.az e).aJ _).ah (ad _) _ _
 have ae:gZ a l fu 5 (.mk k.size 0 0 0) ([]:List (List Ce)).flatten:=
  (gZ.new (((J.az a).aJ _).aJ _:J a k) fu 5 [] 0 aL:gZ a e fu 5 (.mk k.size 0 0 0) []).ext ag
 clear_value l
 refine dV (n:=b.cF.length) V (λC j=>J a j/\l.size<=j.size/\∃g w,cz j e.size kL [.s d,.s g]/\gZ a j fu 5 g w.flatten/\gU 5 (oZ a) w (b.cF.take C)/\g≠.nil/\q.size<g.D/\g.D≠e.size/\g.len=C)
  ⟨ai,ad _,_,[],aa,ae,by simpa using gU.nil 5 (oZ a),aL,bF,bF,rfl⟩ ?_
 rintro C z am μ hk ⟨A,ay,g,w,x,P,I,au,ar,af,R⟩ ak
 refine dit (λT=>?_) λT=>?_
 .let⟨D,Q⟩:=cG b.cF C
  let⟨s,c,an,Z,f,hc,S,g1,g2,g3,g4⟩:=M.cF.aH Q
  refine⟨g,x.cg 1,V,V,s,by simpa using A.af S,V,V,_,by simpa using A.af g2,?_⟩
  intro h
  have B:J z h:=J.push _ _
  refine⟨B.da (x.cg 1),?_⟩
  have jx:fS h z.size 0 [.s s,.i D.aT,.i 0,.i 0,.s .nil]:=(cz.push z _ _).iE
  have ac:=x.ext B
  have aw:h.size=z.size+1:=by simp[h]
  clear_value h
  refine gZ.append (zs:=[.s .nil,.i 0,.i 0,.i 0,.s .nil]) (d:=[.s s,.i D.aT,.i 0,.i 0,.s .nil]) (P.ext B) (A.trans B) rfl jx (by simp[R];omega) ?_
  intro v t X Y F ao U W
  have E:∀c,c<h.size->c≠g.D->t[c]? =h[c]? :=λc f G=>U c f (λ_=>G)
  have y:q.size<v.D/\v.D≠e.size:=by
   rcases W with⟨_,i⟩|⟨_,i,_⟩|i
   .rw[i]at F;simp at F
   .rw[i];constructor<;>omega
   .rw[i];constructor<;>omega
  have N:cz t e.size kL [.s d,.s g]:=ac.congr (E _ V (λi=>af i.symm))
  refine⟨λc f=>?_,N.fN aL,?_⟩
  .simp at f
   rcases f with rfl|rfl
   .exact E _ V V
   .exact E _ V V
  intro u
  have ax:u.size=t.size:=by simp[u,av]
  have ab:cz u e.size kL [.s d,.s v]:=cz.ah (m:=t) (o:=1) (r:=[.s v]) N
  have H:∀c,c≠e.size->u[c]? =t[c]? :=λc f=>bd _ _ _ _ f
  have aj:J a u:=Y.ah V _ _
  clear_value u
  refine⟨λc f=>?_,?_⟩
  .simp at f
   rcases f with rfl|rfl
   .exact H _ V
   .exact H _ V
  refine ak V _ ⟨aj,V,v,w++[[.s s,.i D.aT,.i 0,.i 0,.s .nil]],ab,?_,?_,?_,y.1,y.2,by simp[F,R]⟩
  .rw[qU]
   exact(by simpa using X:gZ a t fu 5 v (w.flatten++[[.s s,.i D.aT,.i 0,.i 0,.s .nil]].flatten)).congr (H _ y.2)
  .rw[aU Q]
   exact I.zg rfl ⟨s,rfl,Z⟩
  .intro i
   rw[i]at y;simp at y
 .refine⟨d,x.cg 0,g,x.cg 1,?_⟩
  intro h
  have G:∀c,c≠q.size->h[c]? =z[c]? :=λc f=>bd _ _ _ _ f
  have i:J a h:=A.ah V _ _
  refine⟨g,rfl,?_,i⟩
  rw[bY V]at I
  exact(eU.gE (P.congr (G _ V)) I V V).mono (J.az _) (oZ.ext i)
structure HR(b:cR)(p:dz):Prop where
 cT:Eg p.params p.cT
 ak:(p.params.length:Int)<=p.ak/\1<=p.ak/\p.ak<=2000
 len:1<=p.dq.length/\p.dq.length<=2000
 dA:∀(k:Nat)(i:Instr),p.dq[k]? =some i->iT b p k i
 Ng:∀i,p.dq[p.dq.length -1]? =some i->i.op=23\/i.op=24
def Hw(N:fj a d p b)(T:dU b.bo){C K w:O}{q:dz}(m:PI a C K w q):
 dt cq 86 [.agg #[O.v d,O.v p],.agg #[O.v C,O.v K,vi q.aT,vi q.ak,O.v w]] a (HR b q):=by
 apply BV
 simp -zeta only[aD,aC]
 intro L u
 have j:J a u:=((J.az a).aJ _).aJ _
 have v:∀o∈[L.size,a.size],o<u.size:=by simp[u,L];omega
 clear_value u
 have aa:=m.params.len
 have ab:=m.dq.len
 refine(vh (m.params.ext j) (m.cT.ext j)).aG (J.az _) v λo m3 e P R=>⟨_,rfl,λy=>bV (λf=>nb e y f.cT) (j.trans P),λy=>?_⟩
 have G:=yb e y
 refine(aX _ _ _ _).aG R v λo m4 e h4 D=>⟨_,rfl,λz=>?_,λz=>?_⟩
 .refine bV (λf=>nb e z ?_) (j.trans D)
  have:=f.ak
  split<;>omega
 have S:=yb e z
 refine(aX _ _ _ _).aG D v λo m5 e h7 E=>⟨_,rfl,λA=>bV (λf=>nb e A (oh f.len)) (j.trans E),λA=>?_⟩
 have ad:=yb e A
 have B:(q.params.length:Int)<=q.ak/\1<=q.ak/\q.ak<=2000:=by
  split at S<;>omega
 refine dV (n:=q.dq.length) V (λt U=>J u U/\∀(k:Nat)(i:Instr),k<t->q.dq[k]? =some i->iT b q k i) ⟨E,aL⟩ ?_
 rintro t m6 X μ hj ⟨I,H⟩ W
 have r:=j.trans I
 refine dit (λQ=>?_) λQ=>?_
 .let⟨i,h⟩:=cG q.dq t
  refine(Fp (fj.ext r N) T (m.ext r) B.2 h).aG I v λo Y e l g=>⟨_,rfl,λx=>bV (λf=>nb e x (f.dA t i h)) (j.trans g),λx=>?_⟩
  refine W V _ ⟨g,λk s M c=>?_⟩
  by_cases F:k=t
  .subst F
   rw[h]at c;simp at c;subst c
   exact yb e x
  .exact H k s V c
 .let⟨i,h⟩:=cG q.dq (q.dq.length -1)
  let⟨xa,xj,ha,ac,x,g1,g2,Y,Z,g5⟩:=(fq.ext r m.dq).aH h
  have M:cQ ((w.len:Int) -1)=((q.dq.length -1:Nat):Int):=by rw[aQ V V];omega
  rw[M]
  have F:∀(k:Nat)(i:Instr),q.dq[k]? =some i->iT b q k i:=λk s c=>H k s (oh (aw c)) c
  refine⟨V,V,_,by simpa using x,λl=>?_,λl=>?_⟩
  .simp only[aI]at l
   refine iS ⟨G,B,V,F,λs c=>?_⟩ r
   rw[h]at c;simp at c;subst c
   exact Or.inl l
  .simp only[aj]at l
   refine⟨V,V,_,by simpa using x,eV ?_ r⟩
   simp only[aI]
   refine⟨λg=>⟨G,B,V,F,λs c=>?_⟩,λf=>?_⟩
   .rw[h]at c;simp at c;subst c
    exact Or.inr g
   .rcases f.Ng i h with g|g
    .exact absurd g l
    .exact g
structure nv(b:cR):Prop where
 nK:KS b.bo b.cF
 dA:∀p∈b.cF,HR b p
def tW(h:fj a d p b):dt cq 51 [.agg #[O.v d,O.v p]] a (nv b):=by
 apply zI;simp -zeta only[aD,aC];intro g;have e:J a g:=(J.az a).aJ _;have m:∀i∈[a.size],i<g.size:=by simp[g]
 clear_value g;have Q:=h.cF.len;refine dit (λC=>?_) λC=>?_
 .exact bV (λf=>oh f.nK.len) e
 refine(Dz (fj.ext e h) V).aG (J.az _) m ?_;rintro _ R ⟨y,rfl,G,j⟩;refine⟨j,d,y,rfl,?_⟩;refine(vj (cx.ext (e.trans j) h.bo) G).aG j m λi S c M t=>⟨_,rfl,λk=>bV (λf=>nb c k f.nK) (e.trans t),λk=>?_⟩;have w:=yb c k;refine dV (n:=b.cF.length) V (λr l=>J g l/\∀s∈b.cF.take r,HR b s) ⟨t,aL⟩ ?_;rintro r T I μ P ⟨x,v⟩ H
 have q:=e.trans x;refine dit (λD=>?_) λD=>?_
 .let⟨s,o⟩:=cG b.cF r;let⟨K,i,L,E,c,F,z,g1,g2,A,B⟩:=(iN.ext q h.cF).aH o;refine⟨V,V,_,z,_,g1,_,g2,_,A,_,B,?_⟩;exact(Hw (fj.ext q h) w.types ⟨E,c,F⟩).aG x m λi U c N u=>⟨_,rfl,λl=>bV (λf=>nb c l (f.dA s (aq o))) (e.trans u),λl=>H V _ ⟨u,bC o v (yb c l)⟩⟩
 .exact iS ⟨w,db V v⟩ q
end
section
variable{m:E}{s:O}{l:List Int}
def eU.TS{α:Type}{c:Nat}{R:List Ce->α->Prop}{l:List α}(h:eU m c R s l){k:Nat}(n:k<=l.length):eU m c R (s.cut 0 k c) (l.take k):=by
 have b:=h.len;have e:=h.cap;have g:=h.gX;cases s with
 |nil=>
  simp at b;have:k=0:=V;subst this;exact⟨by simp[O.cut],by simp[O.cut],by simp[O.cut],aL⟩
 |Af d o a=>
  simp at b;have:k=0:=V;subst this;exact⟨by simp[O.cut],by simp[O.cut],by simp[O.cut],aL⟩
 |mk d o p i=>
  simp only[O.gJ,O.OM]at b e g;refine⟨by simp[O.cut];omega,by simp[O.cut];omega,by simp[O.cut];omega,λj x a=>?_⟩;have f:j<k:=by have:=aw a;simp at this;omega
  rw[lI,an f]at a;have:=h.iE j x a;simpa[O.cut]using this
def pQ(bo:O)(t:Int)(m:E):dt cq 194 [O.v bo,vi t] m (zU bo.len t):=by
 apply Gp;refine⟨λh=>eV ?_ (J.az _),λh=>bV ?_ (J.az _)⟩<;>simp at h
 .simp[zU,h]
 .unfold zU;omega
def we{g:O}(b:ap m g l)(bo:O):dt cq 193 [O.v bo,O.v g] m (FG bo.len l):=by
 apply CE;have i:=b.len;refine dV (n:=l.length) (i▸b.gX) (λk a=>J m a/\∀t∈l.take k,zU bo.len t) ⟨J.az _,aL⟩ ?_;rintro k r I μ q ⟨a,f⟩ o
 refine dit (λh=>?_) λh=>?_
 .let⟨x,c⟩:=cG l k;refine⟨V,V,x,by simpa using a.af (b.aH c),?_⟩;exact(pQ _ _ _).then λp s e d=>⟨_,rfl,λh=>bV (λj=>nb e h (j x (aq c))) (a.trans d),λh=>o V _ ⟨a.trans d,bC c f (yb e h)⟩⟩
 .exact iS (db V f) a
def rG(a:Int)(m:E)(d:a≠7/\a≠8):dt cq 96 [vi a] m (lS a):=by
 apply wt;refine⟨λh=>⟨λc=>iS ?_ (J.az _),λc=>⟨λb=>iS ?_ (J.az _),λb=>eV ?_ (J.az _)⟩⟩,λh=>⟨λb=>iS ?_ (J.az _),λb=>eV ?_ (J.az _)⟩⟩<;>simp[lS]at* <;>omega
def ny{bo:O}{a:List bz}(hd:cx m bo a)(s:a.length<=4)(k:∀d∈a,d.cons.length<=3):FI cq 31 [O.v bo] m (vi (eT a).length):=by
 apply CG;simp -zeta only[aD,aC];have q:=hd.len;refine ez (n:=a.length) V (λj f b=>J m b/\f=(fc a j:Nat)/\fc a j<=3*j) ⟨J.az _,by cases a<;>rfl,by cases a<;>simp[fc]⟩ ?_;rintro j f t I μ r ⟨c,rfl,p⟩ l
 refine dit (λi=>?_) λi=>?_
 .let⟨d,b⟩:=cG a j;let⟨g,e,h,g1,g2⟩:=(cx.ext c hd).aH b;refine⟨V,V,_,h,_,g1,g,g2,?_⟩;intro u v;have o:=k d (aq b);refine l V _ _ ⟨(c.aJ _).ah c.size _ _,?_,?_⟩
  .rw[aQ V (oh e.len),sP b,e.len];rfl
  .rw[sP b];omega
 .refine⟨?_,c⟩;rw[mX a j V]
def KD{a:List bz}(h:dU a):∀d∈a,d.cons.length<=3:=λd hd=>by
 let⟨k,b⟩:=List.mem_iff_getElem?.1 hd;exact lB h b
def R8:∀(a:List bz)(k:Nat),(eT (a.take k)).length=fc a k
 |[],k=>by simp[eT,Q4]
 |d::a,0=>by simp[eT,fc]
 |d::a,k+1=>by
  have:=R8 a k;simp only[NE,eT,mG,be,fc]at this⊢;omega
def tD{bo:O}{a:List bz}(hd:cx m bo a)(c:dU a)(t:Int):aN cq 111 [O.v bo,vi t] m λI b=>∃s,I=O.v s/\ap b s (cy a t)/\J m b:=by
 apply Gk;have S:=hd.len;have R:=hd.cap;have g:∀(h:¬(1<=t/\t<=a.length)),ap m .nil (cy a t):=λh=>by
  unfold cy;rw[ae h];exact⟨rfl,ad _,aL,aL⟩
 have:=c.len;refine dit (λh=>?_) λh=>?_
 .exact⟨_,rfl,g V,J.az _⟩
 refine dit (λx=>?_) λx=>?_
 .exact⟨_,rfl,g V,J.az _⟩
 have r:cQ (t -1)=((t.toNat -1:Nat):Int):=by rw[aQ V V];omega
 rw[r];let⟨d,e⟩:=cG a (t.toNat -1);have u:cy a t=(List.range d.cons.length).map λi=>((fc a (t.toNat -1)+i:Nat):Int):=by
  unfold cy;rw[an V,e];rfl
 rw[u];have P:=rB c (t.toNat -1);have Q:=lB c e;refine⟨V,V,V,?_⟩;have C:cx m (bo.cut 0 (t.toNat -1) 3) (a.take (t.toNat -1)):=eU.TS hd V;have f:=ny C bF (λd hd=>KD c d (dB hd));rw[R8]at f;refine f.then λF p=>⟨_,rfl,?_⟩;let⟨w,D,L,g1,g2⟩:=(cx.ext p hd).aH e;have T:=D.len;refine⟨V,V,w,by simpa using g2,?_⟩;refine ez (n:=d.cons.length) V (λj s b=>J m b/\gZ m b aA 1 s (((List.range j).map λi=>((fc a (t.toNat -1)+i:Nat):Int)).map Ce.i)/\s.len=j) ⟨p,by simpa using gZ.nil m F aA 1,rfl⟩ ?_;rintro j s G K μ U ⟨o,k,l⟩ H
 refine dit (λy=>?_) λy=>?_
 .intro q;have v:cQ (((fc a (t.toNat -1):Nat):Int)+(j:Int))=((fc a (t.toNat -1)+j:Nat):Int):=by rw[aQ V V];omega
  have E:q=G.push (.cells (bt [.i (((fc a (t.toNat -1)+j:Nat):Int))]) aA):=by rw[<-v]
  clear_value q;subst E;refine gZ.append (zs:=[.i 0]) (d:=[.i ((fc a (t.toNat -1)+j:Nat):Int)]) (k.ext (J.push _ _)) (o.aJ _) rfl (cz.push _ _ _).iE (by simp[l];omega) ?_;intro W b z A B M N _;refine H V _ _ ⟨A,?_,by simp[B,l]⟩
  rw[Tk,fx,fx];exact z
 .have:j=d.cons.length:=V;subst this;exact⟨_,rfl,ap.gE k bF,o⟩
def P3{a:List bz}{i j:Nat}{d:bz}{f:List Int}(h:a[i]? =some d)(b:d.cons[j]? =some f):cE a ((fc a i+j:Nat):Int)=f:=by
 unfold cE;rw[an V,uj,ry a i j d h (aw b),b];rfl
def Na{bo:O}{a:List bz}(hd:cx m bo a)(q:dU a)(c:Int)(X: -1000000<=c/\c<=1000000):aN cq 218 [O.v bo,vi c] m λS f=>∃R s,S=.tuple #[vi R,.agg #[O.v s]]/\ap f s (cE a c)/\J m f:=by
 apply Ib;simp -zeta only[aD,aC];intro g;have P:J m g:=(J.az m).aJ _;have ab:m.size<g.size:=by simp[g]
 clear_value g;have Y:=hd.len;have:=q.len;refine ez (n:=a.length) V (λj w f=>J m f/\g.size<=f.size/\w=c -(fc a j:Nat)/\¬(0<=c/\c<fc a j)) ⟨P,ad _,by cases a<;>simp[fc],by cases a<;>simp[fc]⟩ ?_;rintro j w t I μ hj ⟨d,N,rfl,aa⟩ Q
 refine dit (λG=>?_) λG=>?_
 .let⟨x,b⟩:=cG a j;let⟨h,z,D,g1,g2⟩:=(cx.ext d hd).aH b;have Z:=z.len;have U:=rB q j;have W:=lB q b;refine⟨V,V,_,D,_,g1,h,g2,?_⟩;intro m3 u;have e:J t u:=((J.az t).aJ _).ah (ad _) _ _;have A:¬(0<=c -(fc a j:Nat)/\c -(fc a j:Nat)<x.cons.length)->I (cQ (c -(fc a j:Nat) -(h.len:Int))) (cQ ((j:Int)+1)) u/\μ (cQ (c -(fc a j:Nat) -(h.len:Int))) (cQ ((j:Int)+1)) u<μ (c -(fc a j:Nat)) j t:=by
   intro hq;refine Q V _ _ ⟨d.trans e,bJ N e.size,?_,?_⟩
   .rw[aQ V V,sP b];omega
   .rw[sP b];omega
  refine⟨λi=>⟨λp=>?_,λp=>A ?_⟩,λi=>A ?_⟩
  .simp only[ar]at i p;let⟨T,r⟩:=cG x.cons ((c -(fc a j:Nat)).toNat);let⟨o,hg,y⟩:=(pE.ext e z).aH r;refine⟨V,V,o,y,?_⟩;intro v;have k:J m v:=(d.trans e).ah (ad _) _ _;refine⟨_,o,rfl,?_,k⟩;have l:cE a c=T:=by
    have:=P3 b r;rw[<-this];congr 1;omega
   rw[l];obtain⟨B,H,_,_,E⟩:=hd.aH b;have K:h=B:=by
    have:=d.af E;rw[g2]at this;exact O.Cc.1 (by simpa using this)
   subst K;let⟨C,L,F⟩:=H.aH r;have M:o=C:=by
    have:=(d.trans e).af F;rw[y]at this;exact O.Cc.1 (by simpa using this)
   subst M;exact L.ext k
  .simp at i p;omega
  .simp at i;omega
 .intro v;have k:J m v:=d.ah (ad _) _ _;refine⟨_,.nil,rfl,?_,k⟩;have l:cE a c=[]:=by
   unfold cE;split
   .rw[cN (by rw[<-mX a j V];omega)];rfl
   .rfl
  rw[l];exact⟨rfl,ad _,aL,aL⟩
def Ic{bo:O}{a:List bz}(hd:cx m bo a)(h:dU a)(c:Int)(f: -1000000<=c/\c<=1000000):aN cq 195 [O.v bo,vi c] m λv d=>∃s,v=O.v s/\ap d s (cE a c)/\J m d:=by
 apply CH;simp -zeta only[aD,aC];refine(Na hd h c f).mono ?_;rintro _ e ⟨t,s,rfl,g,i⟩;refine⟨t,s,rfl,?_⟩;intro k j;have b:J e j:=((J.az e).aJ _).ah (ad _) _ _;exact⟨s,rfl,g.ext b,i.trans b⟩
def wE(f:ap m s l)(g:Nat)(e d:Array Value)(t:GL.elem g=true)(q:Int->Prop)
 (p:∀x∈l,∀a,J m a->dt cq g (e.toList++[vi x]++d.toList) a (q x)):
 aN cq 154 [O.v s,.func (.func g) e d] m λz a=>∃r:Int,z=vi r/\J m a/\
  ((r= -1/\∀x∈l,¬q x)\/∃(k:Nat)(x:Int),r=k/\l[k]? =some x/\q x/\∀y∈l.take k,¬q y):=by
 apply qO s (.func g,e,d)
 have u:=f.len
 refine dV (n:=l.length) (u▸f.gX) (λk a=>J m a/\∀y∈l.take k,¬q y) ⟨J.az _,aL⟩ ?_
 rintro k v I μ B ⟨b,i⟩ w
 refine dit (λh=>?_) λh=>?_
 .let⟨x,c⟩:=cG l k
  refine⟨V,V,x,by simpa using b.af (f.aH c),g,rfl,t,?_⟩
  exact(p x (aq c) v b).then λA C o j=>⟨_,rfl,λh=>⟨_,rfl,b.trans j,Or.inr ⟨k,x,rfl,c,o.1 h,i⟩⟩,λh=>w V _ ⟨b.trans j,bC c i (fb o h)⟩⟩
 .exact⟨_,rfl,b,Or.inl ⟨rfl,db V i⟩⟩
def iZ(i:ap m s l)(g:Nat)(b a:Array Value)(f:GL.elem g=true)(q:Int->Prop)
 (e:∀x∈l,∀c,J m c->dt cq g (b.toList++[vi x]++a.toList) c (q x)):
 dt cq 78 [O.v s,.func (.func g) b a] m (∃x∈l,q x):=by
 apply pC s (.func g,b,a)
 refine(wE i g b a f q e).mono ?_
 rintro _ p ⟨r,rfl,j,h⟩
 refine⟨_,rfl,eV ?_ j⟩
 simp only[oJ,ar]
 rcases h with⟨rfl,h⟩|⟨o,x,rfl,c,d,n⟩
 .exact⟨λk=>V,λ⟨x,c,d⟩=>absurd d (h x c)⟩
 .exact⟨λ_=>⟨x,aq c,d⟩,λ_=>V⟩
end
section
variable{s c k d r:O}{b:E}{e:List Nat}{Q:List Int->Prop}{v:List Int}{x:cU}
structure _root_.Go.Vc.gT where
 params:List Int
 cT:List Int
 aT:Int
 body:Bk
def iV(m:E)(a:List Ce)(r:gT):Prop:=∃p l s,a=[.s p,.s l,.i r.aT,.s s,.i r.body.aT]/\ap m p r.params/\ap m l r.cT/\eQ m s r.body.aB
abbrev zV(m:E)(s:O)(l:List gT):Prop:=eU m 5 (iV m) s l
structure eM(m:E)(d r:O)(ds:List bz)(rs:List gT):Prop where
 bo:cx m d ds
 iY:zV m r rs
 types:dU ds
 oQ:rs.length<=4
def iV.le{m b:E}(h:Le m b){a:List Ce}{x:gT}:iV m a x->iV b a x:=λ⟨p,l,s,c,d,e,f⟩=>⟨p,l,s,c,d.le h,e.le h,f.le h⟩
def iV.mono:oN 5 iV:=⟨λh=>iV.le h,λh=>by obtain⟨_,_,_,rfl,_⟩:=h;rfl⟩
def zV.le{m b:E}(a:Le m b){s:O}{l:List gT}(h:zV m s l):zV b s l:=eU.le h a λ_ _=>iV.le a
def zV.aH{m:E}{l:List gT}(h:zV m s l){k:Nat}{x:gT}(f:l[k]? =some x):
 ∃p t b,ap m p x.params/\ap m t x.cT/\eQ m b x.body.aB/\af m s.D (s.off+k*5)=some (O.v p)/\af m s.D (s.off+k*5+1)=some (O.v t)/\af m s.D (s.off+k*5+2)=some (vi x.aT)/\af m s.D (s.off+k*5+3)=some (O.v b)/\af m s.D (s.off+k*5+4)=some (vi x.body.aT):=by
 obtain⟨g,⟨p,t,b,rfl,c,d,e⟩,a⟩:=h.iE k x f
 exact⟨p,t,b,c,d,e,a 0 _ rfl,a 1 _ rfl,a 2 _ rfl,a 3 _ rfl,a 4 _ rfl⟩
def eM.le{m b:E}{d r:O}{a:List bz}{e:List gT}(h:eM m d r a e)(c:Le m b):eM b d r a e:=⟨h.bo.le c,h.iY.le c,h.types,h.oQ⟩
def Ay(m:E):Le m (bI [] m):=λb o v h=>eR.2 ⟨aL,h⟩
def Gd{a:List bz}(h:dU a)(c:Int):(cE a c).length<=3:=by
 unfold cE;split
 .rcases aW c.toNat (eT a).length with b|b
  .let⟨i,d,e,j,k⟩:=vu a c.toNat b;have f:=ry a i (c.toNat -fc a i) d e V;rw[show fc a i+(c.toNat -fc a i)=c.toNat by omega]at f;let⟨x,g⟩:=cG d.cons (c.toNat -fc a i);rw[f,g];exact(((h.dA i d e).jb V).2.2.2 x (aq g)).1
  .rw[cN b];simp
 .simp
def Yp{a:List bz}(h:dU a)(t:Int):(cy a t).length<=3:=by
 unfold cy;split
 .cases b:a[t.toNat -1]? with
  |none=>simp
  |some d=>simpa using lB h b
 .simp
def QV{a:List bz}(h:dU a)(b bQ:Int)(k:Nat):Cj a b bQ k<=3:=by
 unfold Cj;split
 .exact Gd h _
 .omega
abbrev FK(f:Nat)(a:List Value)(m:E):Prop:=tn f a m λ_=>True
def pb(f:Nat)(a:List Value)(m:E):Prop:=aN cq f a m λv b=>∃c:Bool,v=.bool c/\J m b
def rN{m:E}{n:Int}(h:J m b):∃k:Int,vi n=vi k/\True/\J m b:=⟨n,rfl,trivial,h⟩
def rA{m:E}{a:Bool}(h:J m b):∃k:Bool,vb a=.bool k/\J m b:=⟨a,rfl,h⟩
def _root_.Go.Vc.dt.any{f:Nat}{a:List Value}{m:E}{p:Prop}(h:dt cq f a m p):pb f a m:=h.mono λ_ _⟨b,e,_,x⟩=>⟨b,e,x⟩
section
variable{f:Nat}{g:List Value}{a m:E}{K:Value->E->Prop}{l:List Nat}
def FK.aG(i:FK f g m)(e:J a m)(o:∀c∈l,c<a.size)(k:∀(n:Int) b,J m b->J a b->K (vi n) b):aN cq f g m λv b=>eG l m b/\K v b:=
 i.mono λ_ b⟨n,h,_,d⟩=>⟨d.dp λc j=>e.lt (o c j),h▸k n b d (e.trans d)⟩
def pb.aG(i:pb f g m)(e:J a m)(n:∀c∈l,c<a.size)(k:∀(c:Bool) b,J m b->J a b->K (vb c) b):aN cq f g m λv b=>eG l m b/\K v b:=
 i.mono λ_ b⟨o,h,d⟩=>⟨d.dp λc j=>e.lt (n c j),h▸k o b d (e.trans d)⟩
def tn.aG{Q:Int->Prop}(i:tn f g m Q)(e:J a m)(o:∀c∈l,c<a.size)(k:∀(n:Int) b,Q n->J m b->J a b->K (vi n) b):aN cq f g m λv b=>eG l m b/\K v b:=
 i.mono λ_ b⟨n,h,q,d⟩=>⟨d.dp λc j=>e.lt (o c j),h▸k n b q d (e.trans d)⟩
def FJ.aG(k:FJ f g m e Q)(i:J a m)(q:∀d∈l,d<a.size)(p:∀s c b,ap (bI e b) s c->Q c->J m b->J a b->K (O.v s) b):aN cq f g m λv b=>eG l m b/\K v b:=
 k.mono λ_ b⟨s,c,j,n,r,h⟩=>⟨h.dp λd o=>i.lt (q d o),j▸p s c b n r h (i.trans h)⟩
def lg.aG(k:lg f g m e Q)(i:J a m)(q:∀d∈l,d<a.size)(p:∀s c b,GI e m b s c->Q c->J m b->J a b->K (O.v s) b):aN cq f g m λv b=>eG l m b/\K v b:=
 k.mono λ_ b⟨s,c,j,n,r,h⟩=>⟨h.dp λd o=>i.lt (q d o),j▸p s c b n r h (i.trans h)⟩
end
def _root_.Go.Vc.J.Vy{c m:E}(f:J c m){l:List Nat}(e:∀a∈l,a<c.size)(h:J m b):eG l m b:=h.dp λa d=>f.lt (e a d)
def dK{m:E}(D:∀b∈e,b<m.size){bo:O}{a:List bz}(hd:cx (bI e m) bo a)(f:dU a)(c:Int):FJ 199 [O.v bo,vi c] m e (cE a c=·):=by
 apply rO;have l:cx m bo a:=hd.le (bA _ _);have F:=hd.len;have:=f.len;refine(ms l f c).mono ?_;rintro _ I ⟨K,rfl,k,h⟩;refine⟨_,rfl,dit (λu=>?_) λu=>?_⟩
 .refine⟨_,_,rfl,?_,rfl,h.aJ _⟩;have g:cE a c=[]:=by
   rcases k with⟨i,d,v,_⟩|⟨_,b⟩
   .omega
   .unfold cE;split
    .rw[cN V];rfl
    .rfl
  rw[g];exact⟨rfl,ad _,aL,aL⟩
 .rcases k with⟨i,d,rfl,b,A,B⟩|⟨v,_⟩
  .have H:=aw b;let⟨s,n,y,g1,g2⟩:=(hd.le (h.df e)).aH b;have p:cQ ((i:Int)+1 -1)=i:=by rw[aQ V V];omega
   rw[p];have g2:=(eR.1 g2).2;refine⟨V,V,s,by simpa using g2,?_⟩;refine(kj (cx.ext h l) f V).then λJ g=>⟨_,rfl,g.da (by simpa using g2),?_⟩;have z:=rB f i;have C:=lB f b;have G:=n.len;let⟨x,o⟩:=cG d.cons ((c -fc a i).toNat);let⟨j,w,t⟩:=pE.aH (eU.le n (g.df e) (mU.le (g.df e))) o;have q:cQ (c -(fc a i:Int))=c -fc a i:=aQ V V;rw[q];refine⟨V,V,j,(eR.1 t).2,j,_,rfl,?_,rfl,h.trans g⟩;have r:cE a c=x:=by
    unfold cE;rw[an V];have:=ry a i (c -fc a i).toNat d b V;rw[show c.toNat=fc a i+(c -fc a i).toNat by omega,this,o];rfl
   rw[r];exact w
  .omega
def iz{m:E}(q:∀o∈e,o<m.size){bo:O}{a:List bz}(hd:cx m bo a)(c:dU a)(t:Int):FJ 134 [O.v bo,vi t] m e (cy a t=·):=by
 apply uZ;intro D;have L:=hd.len;have:=c.len;have w:J m D:=(J.az m).aJ _;refine(aX _ _ _ _).then λo P u i=>⟨_,rfl,λh=>?_,λh=>?_⟩
 .refine⟨_,_,rfl,?_,rfl,w.trans i⟩;have f:cy a t=[]:=by
   unfold cy;rw[ae (oh (nb u h))]
  rw[f];exact⟨rfl,ad _,aL,aL⟩
 .have h:=yb u h;have x:cQ (t -1)=((t.toNat -1:Nat):Int):=by rw[aQ V V];omega
  rw[x];let⟨d,k⟩:=cG a (t.toNat -1);have y:cy a t=(List.range d.cons.length).map λl=>((fc a (t.toNat -1)+l:Nat):Int):=by
   unfold cy;rw[an V,k];rfl
  rw[y];have H:=rB c (t.toNat -1);have K:=lB c k;refine ez (n:=d.cons.length) V (λj s b=>J m b/\GI e m b s ((List.range j).map λl=>((fc a (t.toNat -1)+l:Nat):Int))) ⟨w.trans i,(GI.nil e m).ext i⟩ ?_;rintro j s Q I μ N ⟨f,v⟩ F
  let⟨g,C,G,g1,g2⟩:=(cx.ext f hd).aH k;have M:=C.len;refine⟨V,V,g,by simpa using g2,dit (λB=>?_) λB=>?_⟩
  .refine(kj (cx.ext f hd) c V).then λR p=>⟨_,rfl,?_⟩;have z:cQ (((fc a (t.toNat -1):Nat):Int)+(j:Int))=((fc a (t.toNat -1)+j:Nat):Int):=by rw[aQ V V];omega
   rw[z];intro S;refine GI.kM (v.ext p) ((f.trans p).fz []) q bF λr b A g _ _=>F V _ _ ⟨g.ext,?_⟩
   rw[Tk,fx];exact A
  .have:j=d.cons.length:=V;subst this;exact⟨_,_,rfl,v.done q bF,rfl,f⟩
def nk{m:E}{bo:O}{b:List bz}(hd:cx m bo b)(l:dU b)(t:Int):dt cq 302 [O.v bo,vi t] m (∃d,1<=t/\b[t.toNat -1]? =some d/\d.cons.length=0):=by
 apply EX;have q:=hd.len;have:=l.len;refine(aX _ _ _ _).then λn r g e=>⟨_,rfl,λh=>?_,λh=>?_⟩
 .have h:=g.1 h;let⟨d,c⟩:=cG b (t.toNat -1);let⟨j,k,p,g1,g2⟩:=(cx.ext e hd).aH c;have i:cQ (t -1)=((t.toNat -1:Nat):Int):=by rw[aQ V V];omega
  rw[i];refine⟨V,V,j,g2,eV ?_ e⟩;rw[k.len];simp only[aI];exact⟨λh=>⟨d,V,c,V⟩,λ⟨o,_,a,f⟩=>by rw[c]at a;simp at a;subst a;omega⟩
 .refine bV (λ⟨d,a,f,_⟩=>fb g h ⟨a,?_⟩) e;have:=aw f;omega
def AO{m:E}{bo:O}{a:List bz}(hd:cx m bo a)(r:dU a)(u t:Int):
 tn 324 [O.v bo,vi u,vi t] m λk=>k= -1\/∃(l:Nat)(d:bz),k=l+1/\a[l]? =some d/\d.cons.length=0/\d.tm=u/\d.to=t:=by
 apply EJ
 have w:=hd.len
 have:=r.len
 refine dV (n:=a.length) V (λ_ b=>J m b) (J.az _) ?_
 rintro k s I μ x c v
 refine⟨λh=>?_,λh=>⟨_,rfl,Or.inl rfl,c⟩⟩
 simp only[ar]at h
 let⟨d,j⟩:=cG a k
 let⟨o,q,p,g1,g2⟩:=(cx.ext c hd).aH j
 have e:=v V s c
 refine⟨V,V,o,g2,λf=>⟨V,V,_,p,λg=>⟨V,V,_,g1,λi=>?_,λ_=>e⟩,λ_=>e⟩,λ_=>e⟩
 rw[q.len]at f
 simp only[aI]at f g i
 refine⟨_,rfl,Or.inr ⟨k,d,?_,j,V,g,i⟩,c⟩
 rw[aQ V V]
def tc{m:E}{i p:O}{f t:List Int}(g:ap m c v)(e:ap m i f)(l:ap m p t):pb 299 [O.v c,O.v i,O.v p] m:=by
 apply Jj;have C:=g.len;have r:=e.len;have D:=l.len;have F:=g.gX;refine⟨λ_=>rA (J.az _),λh=>?_⟩;simp only[iP]at h;refine dV (n:=f.length) (r▸e.gX) (λ_ b=>J m b) (J.az _) ?_;rintro k H I μ G a y
 refine⟨λh=>?_,λh=>rA a⟩;simp only[ar]at h;let⟨x,o⟩:=cG f k;refine⟨V,V,x,(e.ext a).aH o,?_⟩;have q:cQ ((c.len:Int) -1)=(v.length:Int) -1:=by rw[aQ V V];omega
 rw[q];refine(aX _ _ _ _).then λB K s d=>⟨_,rfl,λ_=>rA (a.trans d),λj=>?_⟩;have j:=yb s j;let⟨z,u⟩:=cG v x.toNat;let⟨A,w⟩:=cG t k;exact⟨V,V,x,(e.ext (a.trans d)).aH o,V,V,z,(g.ext (a.trans d)).aH u,V,V,A,(l.ext (a.trans d)).aH w,λ_=>rA (a.trans d),λ_=>y V _ (a.trans d)⟩
def Nr(a:Int)(m:E):pb 297 [vi a] m:=by
 apply Ha;have r:∀b:Bool,∃k:Bool,vb b=.bool k/\J m m:=λb=>rA (J.az m);exact⟨λ_=>r _,λ_=>⟨λ_=>r _,λ_=>⟨λ_=>r _,λ_=>⟨λ_=>r _,λ_=>r _⟩⟩⟩⟩
def pD(x:cU)(a k:O):Value:=.agg #[vi x.op,vi x.bQ,vi x.cp,O.v a,O.v k]
def wX{m:E}{g:O}(d:ap m c v)(x:cU):pb 298 [O.v c,.agg #[vi x.op,vi x.bQ,vi x.cp,O.v g,O.v k]] m:=by
 apply BT;simp -zeta only[aD,aC];intro a;have b:J m a:=J.push _ _;have l:∀f∈[m.size],f<a.size:=by simp[a]
 clear_value a;have o:=d.len;have p:=d.gX;refine⟨λ_=>rA b,λ_=>⟨λ_=>?_,λ_=>rA b⟩⟩;refine(aX _ _ _ _).aG (J.az a) l λf q j _ e=>⟨_,rfl,λh=>?_,λ_=>rA (b.trans e)⟩;have h:=j.1 h;have i:cQ (x.cp -1)=((x.cp.toNat -1:Nat):Int):=by rw[aQ V V];omega
 rw[i];let⟨y,n⟩:=cG v (x.cp.toNat -1);exact⟨V,V,y,(d.ext (b.trans e)).aH n,rA (b.trans e)⟩
def C0{m:E}{l:O}{t:List bz}{B:List gT}(o:eM m d r t B)(i:ap m c v)(g:ap m l x.args):FK 303 [.agg #[O.v d,O.v r],O.v c,pD x l k] m:=by
 apply wM;simp -zeta only[aD,aC];intro q e;have b:J m e:=(J.push _ _).trans (J.push _ _);have n:∀f∈[q.size,m.size],f<e.size:=by simp[e,q];omega
 clear_value e;have C:=i.len;have D:=i.gX;have F:=g.len;refine⟨λ_=>rN b,λh=>?_⟩;simp only[iP]at h;let⟨y,p⟩:=cG x.args 0;refine⟨V,V,y,(g.ext b).aH p,?_⟩;have u:cQ ((c.len:Int) -1)=(v.length:Int) -1:=by rw[aQ V V];omega
 rw[u];refine(aX _ _ _ _).aG (J.az e) n λf G w _ j=>⟨_,rfl,λ_=>rN (b.trans j),λh=>?_⟩;have h:=yb w h;have a:=b.trans j;let⟨z,A⟩:=cG v y.toNat;have g1:=(g.ext a).aH p;have g2:=(i.ext a).aH A;refine⟨V,V,y,g1,V,V,z,g2,λ_=>rN a,λ_=>⟨λ_=>⟨λ_=>⟨V,V,y,g1,V,V,z,g2,?_⟩,λ_=>rN a⟩,λ_=>rN a⟩⟩;exact(nk ((o.le a.le).bo) o.types z).any.aG j n λf H I s=>⟨_,rfl,λ_=>rN (b.trans s),λ_=>rN (b.trans s)⟩
def Fh{m:E}{w:O}{H:List bz}{t:List gT}(g:eM m d r H t)(U:ap m c v)(A:ap m w x.args):FK 301 [.agg #[O.v d,O.v r],O.v c,pD x w k] m:=by
 apply ye;simp -zeta only[aD,aC];intro j h;have F:J m h:=(J.push _ _).trans (J.push _ _);have n:∀f∈[j.size,m.size],f<h.size:=by simp[h,j];omega
 clear_value h;have h1:=g.iY.len;have h2:=g.oQ;have h3:=A.len;have I:cQ ((r.len:Int) -1)=(t.length:Int) -1:=by rw[aQ V V];omega
 rw[I];refine(aX _ _ _ _).aG (J.az h) n λf l S _ u=>⟨_,rfl,λ_=>rN (F.trans u),λy=>?_⟩;have y:=yb S y;have D:=F.trans u;let⟨q,T⟩:=cG t x.bQ.toNat;let⟨Z,ac,s,i,c2,c3,L,g1,g2,M,N⟩:=(g.le D.le).iY.aH T;refine⟨V,V,_,L,_,g1,_,g2,_,M,_,N,?_⟩;intro X b;have G:J l b:=((J.az l).aJ _).ah (ad _) _ _;have o:∀f∈[l.size,j.size,m.size],f<b.size:=by
  have P:=n j.size aL;have Q:=n m.size aL;have R:=u.size;have z:b.size=l.size+1:=by simp[b,X,av]
  simp;omega
 clear_value b;have a:=D.trans G;have C:=U.ext a;have B:=A.ext a;have p:=i.ext G;have P:=i.len;have Q:=i.cap;have R:=i.gX;refine⟨λ_=>(tc C B p).aG (J.az b) o λf Y e _=>⟨_,rfl,λ_=>rN (a.trans e),λ_=>rN (a.trans e)⟩,λ_=>⟨λ_=>rN a,λz=>⟨λ_=>rN a,λ_=>?_⟩⟩⟩;simp only[aj]at z;have K:cQ ((Z.len:Int) -1)=((q.params.length -1:Nat):Int):=by rw[aQ V V];omega
 rw[K];let⟨aa,W⟩:=cG q.params (q.params.length -1);refine⟨V,V,V,(tc C B (eU.TS p V)).aG (J.az b) o λf Y e _=>⟨_,rfl,λ_=>rN (a.trans e),λ_=>⟨V,V,aa,(p.ext e).aH W,?_⟩⟩⟩;exact(AO (g.le (a.trans e).le).bo g.types _ _).aG e o λab m6 _ x6 u6=>⟨_,rfl,rN (a.trans u6)⟩
def W0(a:List bz)(e:List gT)(b:Bk):Prop:=∀(m:E)(d r c t:O)(v:List Int),eM m d r a e->ap m c v->eQ m t b.aB->v.length+4*b.w<=10^12->FK 263 [.agg #[O.v d,O.v r],O.v c,.agg #[O.v t,vi b.aT]] m
def Kg{m:E}{ab:O}{t:List bz}{Y:List gT}(g:eM m d r t Y)(U:ap m c v)(y:nQ m k x.bD)(hb:v.length+4*x.w<=10^12)(ih:∀l∈x.bD,W0 t Y l):FK 300 [.agg #[O.v d,O.v r],O.v c,pD x ab k] m:=by
 apply Dk;simp -zeta only[aD,aC];intro X p;have i:J m p:=(J.push _ _).trans (J.push _ _);have o:∀l∈[X.size,m.size],l<p.size:=by simp[p,X];omega
 clear_value p;have ac:=y.len;have hw:=cU.my x;refine(iz (e:=[]) aL (g.le i.le).bo g.types x.bQ).aG (J.az p) o λae cl H w q A _=>⟨_,rfl,?_⟩;subst q;have w:=w.le (bA _ _);have ag:=w.len;have h3:=Yp g.types x.bQ;refine⟨λL aa=>aa=H/\0<=L/\(x.op=8->L=(cy t x.bQ).length),⟨λh=>?_,λh=>⟨rfl,V,λ_=>V⟩⟩,?_⟩
 .simp only[aI]at h;exact⟨rfl,V,λh=>V⟩
 rintro L ah ⟨f,h4,h5⟩;have f:=f.symm;subst f;refine⟨λ_=>rN (i.trans A),λ_=>⟨λ_=>rN (i.trans A),λT=>?_⟩⟩;simp only[iP]at T;subst T;refine ez (n:=x.bD.length) (ac▸y.gX) (λ_ _ b=>J H b) (J.az _) ?_;rintro j z I R μ hj B ad
 have M:=A.trans B;have s:=i.trans M;refine⟨λh=>?_,λ_=>rN s⟩;simp only[ar]at h;let⟨l,u⟩:=cG x.bD j;have W:=ih l (aq u);have af:=xk u;have Z:∀(a:Int)(e:E),J H e->((decide (a<(0:Int)))=true->∃k:Int,vi (-1)=vi k/\True/\J m e)/\((decide (a<(0:Int)))=false->((decide ((j:Int)>(0:Int)))=true->((a !=z)=true->∃k:Int,vi (-1)=vi k/\True/\J m e)/\((a !=z)=false->R a (cQ ((j:Int)+1)) e/\μ a (cQ ((j:Int)+1)) e<μ z j I))/\((decide ((j:Int)>(0:Int)))=false->R a (cQ ((j:Int)+1)) e/\μ a (cQ ((j:Int)+1)) e<μ z j I)):=λa e h=>by
  have f:=rN (n:=-1) ((i.trans A).trans h);have D:=ad V a e h
  exact⟨λ_=>f,λ_=>⟨λ_=>⟨λ_=>f,λ_=>D⟩,λ_=>D⟩⟩
 refine⟨λh=>?_,λh=>?_⟩
 .simp only[aI]at h;have h7:=h5 h;let⟨Q,hy⟩:=cG (cy t x.bQ) j;refine⟨V,V,Q,(w.ext B).aH hy,?_⟩;refine(dK (e:=[]) aL (g.le (s.le.trans (Ay _))).bo g.types Q).aG M o λD fl e hf q x4 u4=>⟨_,rfl,?_⟩;subst q;have h8:=Gd g.types Q;refine(eP (S:=[]) aL (U.le ((i.trans u4).le.trans (Ay _))) hf V).aG u4 o λf el m5 he q x5 N=>⟨_,rfl,?_⟩;subst q;let⟨C,G,F,g1⟩:=(y.le (i.trans N).le).aH u;refine⟨V,V,_,F,_,g1,?_⟩;exact(W m5 d r f C _ (g.le (i.trans N).le) ((he.done aL bF).le (bA _ _)) G bF).aG N o λa K P _=>⟨_,rfl,Z a K (((B.trans x4).trans x5).trans P)⟩
 .let⟨C,G,F,g1⟩:=(y.le s.le).aH u;refine⟨V,V,_,F,_,g1,?_⟩;exact(W I d r c C _ (g.le s.le) (U.ext s) G V).aG M o λa K P _=>⟨_,rfl,Z a K (B.trans P)⟩
def QG{m a:E}(h:J m a)(l:List Int){n:Nat}(c:n=l.length)(b:l.length<=9223372036854775807):ap (a.push (.cells (bt (l.map Ce.i)) aA)) (.mk a.size 0 n n) l:=
 (ap.lit (S:=[]) aA l aL rfl c b).le (bA _ _)
def _root_.Go.Vc.eU.Ld{α:Type}{n:E}{b:Nat}{R:List Ce->α->Prop}{l:List α}(h:eU n b R s l){i j:Nat}(u:i<=j)(v:j<=l.length):eU n b R (s.cut i j b) ((l.take j).drop i):=by
 have a:=h.len;have m:=h.cap;have y:=h.gX;have g:(s.cut i j b).len=j -i/\(s.cut i j b).len<=(s.cut i j b).cap:=by
  cases s with
  |nil=>simp at a;simp[O.cut];omega
  |Af d o t=>simp at a;simp[O.cut];omega
  |mk d o r f=>simp at a m;simp[O.cut];omega
 refine⟨by simp[g.1];omega,g.2,V,λk x c=>?_⟩;rw[sE,lI]at c;split at c
 .rename_i w;let⟨p,q,e⟩:=h.iE _ x c;refine⟨p,q,?_⟩;cases s with
  |nil=>simp at a;omega
  |Af d o t=>simp at a;omega
  |mk d o r f=>
   simp at a m;have:¬f=i:=V;simp only[O.cut,this,rV,O.jF,O.nh]at e⊢;rw[gS,<-di]at e;exact e
 .simp at c
def oG{q:E}{w:O}{P:List bz}{rs:List gT}(B:eM q d r P rs)(hv:ap q c v)(Z:ap q w x.args)(hk:nQ q k x.bD)(H:v.length+4*x.w<=10^12)(ih:∀g∈x.bD,W0 P rs g):FK 258 [.agg #[O.v d,O.v r],O.v c,pD x w k] q:=by
 apply DC;simp -zeta only[aD,aC];intro C p;have M:J q p:=(J.push _ _).trans (J.push _ _);have m:∀g∈[C.size,q.size],g<p.size:=by simp[p,C];omega
 clear_value p;have h1:=Z.len;have h2:=Z.cap;have u:∀{n:E},J p n->ap n c v:=λh=>hv.ext (M.trans h);have A:∀{n:E},J p n->ap n w x.args:=λh=>Z.ext (M.trans h);have N:∀{n:E},J p n->eM n d r P rs:=λh=>B.le (M.trans h).le;have o:∀{n:E}{t:Int},J p n->∃k:Int,vi t=vi k/\True/\J q n:=λh=>rN (M.trans h);have Q:∀{n:E}{t k:Int}{g:Bool},J p n->(g=true->∃k:Int,vi t=vi k/\True/\J q n)/\(g=false->∃a:Int,vi k=vi a/\True/\J q n):=λh=>⟨λ_=>o h,λ_=>o h⟩;refine⟨λX=>J p X,⟨λ_=>(Nr x.op p).aG (J.az p) m λg n e _=>⟨_,rfl,λ_=>o e,λ_=>(wX (u e) x).aG e m λg f l a=>⟨_,rfl,λ_=>o a,λ_=>⟨λ_=>⟨λ_=>⟨λ_=>o a,λ_=>a⟩,λ_=>a⟩,λ_=>a⟩⟩⟩,λ_=>(wX (u (J.az _)) x).aG (J.az p) m λg f a _=>⟨_,rfl,λ_=>o a,λ_=>⟨λ_=>⟨λ_=>⟨λ_=>o a,λ_=>a⟩,λ_=>a⟩,λ_=>a⟩⟩⟩,?_⟩;intro n e;have T:∀{f:E}{R:O}{ak:List Int}(h:J p f),ap f R ak->pb 299 [O.v c,O.v w,O.v R] f:=λh ht=>tc (u h) (A h) ht;have Kt:∀{f:E}(h:J p f),aN cq 300 [.agg #[O.v d,O.v r],O.v c,.agg #[vi x.op,vi x.bQ,vi x.cp,O.v w,O.v k]] f λv b=>eG [C.size,q.size] f b/\∃t:Int,v=vi t/\∃k:Int,vi t=vi k/\True/\J q b:=λh=>
  (Kg (N h) (u h) (hk.le (M.trans h).le) H ih).aG h m λt L s U=>⟨t,rfl,o U⟩
 refine⟨λ_=>⟨λ_=>(aX _ _ _ _).any.aG e m λg f l a=>⟨_,rfl,Q a⟩,λ_=>o e⟩,λ_=>⟨λ_=>?_,λ_=>⟨λ_=>?_,λ_=>⟨λ_=>?_,λ_=>⟨λ_=>?_,λ_=>⟨λ_=>?_,λ_=>⟨λ_=>(Fh (N e) (u e) (A e)).aG e m λt f l a=>⟨_,rfl,o a⟩,λ_=>⟨λ_=>?_,λ_=>⟨λ_=>(C0 (N e) (u e) (A e)).aG e m λt f l a=>⟨_,rfl,o a⟩,λ_=>o e⟩⟩⟩⟩⟩⟩⟩⟩⟩
 .intro f;exact(T (e.aJ _) (QG e [0,0] rfl aL)).aG (e.aJ _) m λg f l a=>⟨_,rfl,Q a⟩
 .intro f;exact(T (e.aJ _) (QG e [0] rfl aL)).aG (e.aJ _) m λg f l a=>⟨_,rfl,Q a⟩
 .refine(ms (N e).bo B.types x.bQ).mono λ_ f⟨R,z,_,l⟩=>?_;subst z;have a:=e.trans l;refine⟨e.Vy m l,_,rfl,λ_=>?_,λ_=>o a⟩;refine(dK (e:=[]) aL ((N a).bo.le (Ay _)) B.types x.bQ).aG a m λae G L hf I s U=>⟨_,rfl,aE (s.same C.size (a.lt (m _ aL))) _,?_⟩;refine(T U (hf.le (bA _ _))).aG U m λg D x5 y=>⟨_,rfl,λ_=>?_,λ_=>o y⟩;refine(ms (N y).bo B.types x.bQ).mono λ_ F⟨R,z,_,W⟩=>?_;subst z;exact⟨y.Vy m W,_,rfl,o (y.trans W)⟩
 .intro f;exact(T (e.aJ _) (QG e [0] rfl aL)).aG (e.aJ _) m λg f l a=>⟨_,rfl,λ_=>Kt a,λ_=>o a⟩
 .intro f;exact(T (e.aJ _) (QG e [x.bQ] rfl aL)).aG (e.aJ _) m λg f l a=>⟨_,rfl,λ_=>Kt a,λ_=>o a⟩
 .have h3:=hv.len;have h4:=hv.gX;refine⟨λg X=>J p X/\(g=true->x.args.length=2/\∃y z G,x.args[0]? =some y/\0<=y/\v[y.toNat]? =some z/\1<=z/\P[z.toNat -1]? =some G),⟨λh=>?_,λ_=>⟨e,sx⟩⟩,?_⟩
  .simp only[aI]at h;let⟨y,I⟩:=cG x.args 0;refine⟨V,V,y,(A e).aH I,?_⟩;have Y:cQ ((c.len:Int) -1)=(v.length:Int) -1:=by rw[aQ V V];omega
   rw[Y];refine(aX _ _ _ _).aG (J.az n) (λg H=>e.lt (m g H)) λg f aa _ l=>⟨_,rfl,λh=>?_,λh=>⟨e.trans l,sx⟩⟩;have h:=aa.1 h;have a:=e.trans l;let⟨z,K⟩:=cG v y.toNat;refine⟨V,V,y,(A a).aH I,V,V,z,(u a).aH K,?_⟩;refine(nk (N a).bo B.types z).aG (J.az f) (λg H=>a.lt (m g H)) λg L ab _ s=>⟨_,rfl,a.trans s,λh=>?_⟩;obtain⟨G,h5,h6,_⟩:=ab.1 h;exact⟨V,y,z,G,I,V,K,h5,h6⟩
  .rintro g f ⟨l,ah⟩;refine⟨λh=>?_,λ_=>o l⟩;let⟨h5,y,z,G,I,h6,K,h7,aa⟩:=ah h;let⟨ae,hf,g0,g1,g2⟩:=(N l).bo.aH aa;have an:=B.bo.len;have h8:=B.types.len;have h9:=aw aa;have al:=aw K;have Y:cQ (z -1)=((z.toNat -1:Nat):Int):=by rw[aQ V V];omega
   have ab:=(A l).aH I;have ac:=(u l).aH K;refine⟨V,V,y,ab,V,V,z,ac,?_⟩;rw[Y];refine⟨V,V,_,g0,_,g1,_,g2,?_⟩;intro L;have s:J f L:=J.push _ _;have af:C.size<f.size:=l.lt (m _ aL);have ag:q.size<f.size:=l.lt (m _ aL);refine⟨s.da g0,s.da g1,s.da g2,s.da ac,s.da ab,aE (s.same _ af) _,aE (s.same _ ag) _,?_⟩;intro D;have x5:J f D:=s.ah (ad _) _ _;have am:D.size=f.size+1:=by simp[D,L,av]
   clear_value D;refine⟨V,V,V,?_⟩;intro F;have W:J f F:=x5.trans (J.push _ _);have u6:=l.trans W;have aj:∀g∈[f.size,C.size,q.size],g<F.size:=by simp[F];omega
   refine⟨aE ((J.push D _).same _ V) _,?_⟩;have ai:ap F (w.cut 1 w.len 1) (x.args.drop 1):=by
    have:=(eU.Ld (A u6) (i:=1) (j:=x.args.length) V (ad _));rw[fy]at this;rw[h1];exact this
   exact(tc (u u6) ai (QG x5 [G.tm] rfl aL)).aG (J.az F) aj λg m7 x7 _=>⟨_,rfl,Q (u6.trans x7)⟩
def _root_.Go.Vc.J.oV{c m:E}(h:J c m)(k:J c b){l:List Nat}(e:∀a∈l,a<c.size):eG l m b:=λa d=>by rw[k.same a (e a d),h.same a (e a d)]
def tx(x:cU)(b:Bool)(a:b=true<->0<=x.op/\x.op<=11):dn x=if b=true then 1 else 0:=by
 unfold dn;by_cases h:b=true
 .rw[an h];exact an (a.1 h)
 .rw[ae h];exact ae λc=>h (a.2 c)
def nA{I:List bz}{Z:List gT}:∀a:Bk,W0 I Z a:=by
 refine Bk.ind ?_;intro aB Y W D d r c am v R U t j;simp only[Bk.jW,Bk.jy,Bk.qT]at*;apply AT;simp -zeta only[aD,aC];intro E e;have y:J D e:=(J.push _ _).trans (J.push _ _);have g:∀a∈[E.size,D.size],a<e.size:=by simp[e,E];omega
 clear_value e;have T:=t.len;refine(mu (S:=[]) aL (U.le (y.le.trans (Ay _))) V).aG (J.az e) g λs0 _ m2 i K x2 _=>⟨_,rfl,?_⟩;subst K;have C:=Ca aB;refine ez (n:=aB.length) (T▸t.gX) (λk s b=>J e b/\∃l,GI [] e b s l/\l.length=v.length+dc (aB.take k)) ⟨x2,_,i,aL⟩ ?_;rintro k s X aa μ hk ⟨z,l,m,hc⟩ G
 have p:=y.trans z;have ac:=tv (aB.take k);have ag:=qV k aB;have ah:=gC (aB.take k);have af:=m.len bh;have q:=(m.done aL (oh (C k))).le (bA _ _);refine⟨λh=>?_,λh=>?_⟩
 .simp only[ar]at h;let⟨x,o⟩:=cG aB k;let⟨ab,kk,O,Q,i,g1,g2,M,N⟩:=(t.le p.le).aH o;have aj:=ql o;have ai:=C (k+1);have ad:=qY o;refine⟨V,V,_,i,_,g1,_,g2,_,M,_,N,?_⟩;refine(oG (R.le p.le) q O Q V (W x (aq o))).aG z g λak F f u=>⟨_,rfl,λ_=>rN (y.trans u),λ_=>⟨V,V,_,f.af i,?_⟩⟩;refine(jS _ _).aG (J.az F) (λa j=>u.lt (g a j)) λa m5 P _ A=>⟨_,rfl,?_⟩;have hd:=tx x a P;have w:=u.trans A;refine⟨λh=>?_,λh=>?_⟩
  .rw[an h]at hd;intro m6;refine GI.kM ((m.ext f).ext A) (w.fz []) aL V λr m7 L B H al=>⟨?_,G V _ _ ⟨B.ext,_,L,bF⟩⟩;exact J.oV (w.aJ _) B.ext g
  .rw[ae (by simp[h])]at hd;exact G V _ _ ⟨w,l,(m.ext f).ext A,V⟩
 .refine(aX _ _ _ _).aG (J.az X) (λa j=>z.lt (g a j)) λa F o _ f=>⟨_,rfl,λ_=>rN (p.trans f),λh=>?_⟩;have h:=yb o h;have w:=q.gX;rw[aQ V V]at h;let⟨H,u⟩:=cG l Y.toNat;exact⟨V,V,H,(q.ext f).aH u,rN (p.trans f)⟩
end
section
variable{b:E}{d e g k:O}{f:List gT}{c:cU}{h:Nat}
def _root_.Go.Vc.cA{S a:List Nat}{d o:Nat}{l:List Ce}(i:d∈S)(g:∀c∈a,c∈S):Le (bI S b) (bI a (ah b d o l)):=
 pP λc _ e=>⟨λh=>e (g c h),bd _ _ _ _ λf=>e (f▸i)⟩
def ZU(a:Bk):Prop:=∀(b:E)(t:O),eQ b t a.aB->∀left:Int,-1<=left->left<=600->tn 306 [.agg #[O.v t,vi a.aT],vi left] b λk=>-1<=k/\k<=600
def Jh:∀j:Bk,ZU j:=by
 refine Bk.ind ?_;intro aB aa K b ab q left A C;simp only[Bk.jW,Bk.jy]at*;apply BL;simp -zeta only[aD,aC];intro f;have w:J b f:=J.push _ _;have F:∀j∈[b.size],j<f.size:=by simp[f]
 clear_value f;have I:=q.len;have r:∀{d:E}{a:Int},J f d->-1<=a/\a<=600->∃k:Int,vi a=vi k/\(-1<=k/\k<=600)/\J b d:=λh o=>⟨_,rfl,o,w.trans h⟩;refine ez (n:=aB.length) (I▸q.gX) (λ_ a d=>J f d/\-1<=a/\a<=600) ⟨J.az _,A,C⟩ ?_;rintro k a M U μ hk ⟨l,o⟩ P
 refine⟨λh=>⟨λ_=>r l V,λB=>?_⟩,λ_=>r l o⟩;simp only[ar]at h;simp only[bG]at B;let⟨c,u⟩:=cG aB k;let⟨g,v,Z,m,X,g1,g2,Y,s⟩:=(q.le (w.trans l).le).aH u;have D:=m.len;rw[aQ (b:=a -1) V V];refine ez (n:=c.bD.length) (D▸m.gX) (λ_ a d=>J M d/\-1<=a/\a<=600) ⟨J.az _,V,V⟩ ?_;rintro L Q N W μ2 hj ⟨i,p⟩ O;refine⟨V,V,v,i.af s,λh=>?_,λ_=>P V _ _ ⟨l.trans i,p⟩⟩;simp only[ar]at h;let⟨j,t⟩:=cG c.bD L;let⟨R,H,y,z⟩:=(m.le i.le).aH t;refine⟨V,V,v,i.af s,V,V,_,y,_,z,?_⟩;exact(K c (aq u) j (aq t) N R H Q p.1 p.2).aG (l.trans i) F λe m4 G T S=>⟨_,rfl,λ_=>r S V,λh=>O V _ _ ⟨i.trans T,G⟩⟩
def Mz{t:O}{c:Bk}(g:eQ b t c.aB):FK 262 [.agg #[O.v t,vi c.aT]] b:=by
 apply Fl;simp -zeta only[aD,aC];intro a;have d:J b a:=J.push _ _;have f:∀c∈[b.size],c<a.size:=by simp[a]
 clear_value a;exact(Jh c a t (g.le d.le) 600 V V).aG (J.az a) f λn h _ _ e=>⟨_,rfl,λ_=>rN (d.trans e),λ_=>rN (d.trans e)⟩
def pOf(e:gT):dz:=⟨e.params,[],e.aT,0,[]⟩
def oZ.mono:oN 5 oZ:=⟨λh⟨g,a,b⟩=>⟨g,a,b.le h⟩,λ⟨g,a,_⟩=>by rw[a];rfl⟩
def Nx{F:List bz}(t:eM b d e F f):aN cq 305 [.agg #[O.v d,O.v e]] b λY g=>∃v,Y=.agg #[O.v d,O.v v]/\eU g 5 (oZ g) v (f.map pOf)/\J b g:=by
 apply Ho;simp -zeta only[aD,aC];intro j a2 a3 a4 p;have ac:=t.iY.len;have hf:=t.oQ;have Z:J b a2:=(J.push _ _).trans (J.push _ _);have W:j.size=b.size+1:=by simp[j]
 have X:a2.size=b.size+2:=by simp[a2,W]
 have s3:a3.size=b.size+3:=by simp[a3,X]
 have A:J a3 p:=(J.push a3 _).ah (ad _) _ _;have L:Gr [a3.size,j.size] a2 p fu 5 oZ (.mk a2.size 0 0 0) []:=(Gr.new _ (ad _) _ _ _).ext oZ.mono A;have D:cz p a3.size kL [.s d,.s (.mk a2.size 0 0 0)]:=cz.ah (m:=a4) (o:=0) (r:=[.s d,.s (.mk a2.size 0 0 0)]) (cz.push a3 _ _);have aa:J a2 p:=(J.push a2 _).trans A;clear_value p;have N:∀l∈[j.size,b.size],l<a2.size/\l∉([]:List Nat):=bF;refine dV (n:=f.length) V (λk g=>J a2 g/\∃s,Gr [a3.size,j.size] a2 g fu 5 oZ s ((f.take k).map pOf)/\cz g a3.size kL [.s d,.s s]) ⟨aa,_,L,D⟩ ?_;rintro k Q ab μ hk ⟨u,s,h,B⟩ S
 have z:=Z.trans u;refine dit (λM=>?_) λM=>?_
 .let⟨T,x⟩:=cG f k;have P:zV (bI (s.D::[a3.size,j.size]) Q) e f:=t.iY.le ((Ay b).trans ((z.fz []).bI aL λl q=>Or.inr ?_))
  .let⟨y,ae,l,E,c2,c3,G,e1,H,e3,e4⟩:=P.aH x;refine⟨s,B.cg 1,V,V,y,(eR.1 G).2,V,V,_,(eR.1 H).2,?_⟩;intro R;refine Gr.box (g:=[.s .nil,.i 0,.i 0,.i 0,.s .nil]) (j:=1) (i:=[.s d,.s s]) (w:=pOf T) oZ.mono bh h (u.fz []) ⟨y,rfl,E⟩ bF B aL bh ⟨V,aL⟩ (λl q=>by have C:=N l q;have I:=h.bn;have w:=u.size;omega) λU g K C I z' q'=>S V _ ⟨I.ext,U,?_,C⟩
   rw[aU x,fx];exact K
  .have:=h.bn;simp at q;omega
 .refine⟨d,B.cg 0,s,B.cg 1,?_⟩;intro R;have x:=h.ne B bh;have y:=h.bn;rw[bY V]at h;refine⟨s,rfl,?_,z.ah V _ _⟩;have w:=h.nT oZ.mono bF bh bF;exact eU.le w ((cA (a:=[]) aL aL).trans (bA _ _)) λq c=>oZ.mono.le ((cA (a:=[]) aL aL).trans (bA _ _))
def yl{r:List bz}(c:eM b d e r f):pb 261 [.agg #[O.v d,O.v e]] b:=by
 apply tX;simp -zeta only[aD,aC];intro g;have a:J b g:=J.push _ _;have i:∀h∈[b.size],h<g.size:=by simp[g]
 clear_value g;have K:=c.iY.len;have G:=c.oQ;refine⟨λ_=>rA a,λ_=>?_⟩;refine(Nx (c.le a.le)).mono λ_ L⟨F,s,w,j⟩=>?_;subst s;refine⟨j.dp i,_,_,rfl,?_⟩;refine(vj (c.le (a.trans j).le).bo w).any.aG j i λh M R m=>⟨_,rfl,λ_=>rA (a.trans m),λ_=>?_⟩;refine dV (n:=f.length) V (λ_ l=>J g l) m ?_;rintro k N I μ H l y
 refine⟨λv=>?_,λ_=>rA (a.trans l)⟩;simp only[ar]at v;let⟨Q,x⟩:=cG f k;let⟨z,A,h,p,q,B,t,u,C,D,E⟩:=(c.le (a.trans l).le).iY.aH x;refine⟨V,V,z,t,V,V,A,u,?_⟩;exact(vh p q).any.aG l i λh P S o=>⟨_,rfl,λ_=>rA (a.trans o),λ_=>y V _ o⟩
def Fs{z:List bz}(i:eM b d e z f)(G:∀q∈f,q.params.length+4*q.body.w<=10^12):pb 242 [.agg #[O.v d,O.v e]] b:=by
 apply ym;simp -zeta only[aD,aC];intro c;have m:J b c:=J.push _ _;have t:∀a∈[b.size],a<c.size:=by simp[c]
 clear_value c;have T:=i.iY.len;have R:=i.oQ;refine(yl (i.le m.le)).aG (J.az c) t λa U x _=>⟨_,rfl,λ_=>rA (m.trans x),λ_=>?_⟩;refine dV (n:=f.length) V (λ_ g=>J c g) x ?_;rintro k l P μ S o L
 refine⟨λF=>?_,λ_=>rA (m.trans o)⟩;simp only[ar]at F;let⟨q,u⟩:=cG f k;have v:=m.trans o;let⟨M,X,a,y,Q,s,A,B,C,D,E⟩:=(i.le v.le).iY.aH u;refine⟨V,V,_,A,_,B,_,C,_,D,_,E,?_⟩;intro H g;have j:J l g:=(J.push l _).ah (ad _) _ _;have p:∀a∈[l.size,b.size],a<g.size:=by
  have:=o.lt (t b.size aL);have:g.size=l.size+1:=by simp[g,H,av]
  simp;omega
 clear_value g;have r:=v.trans j;refine(Mz (s.le j.le)).aG (J.az g) p λK I h _=>⟨_,rfl,λ_=>rA (r.trans h),λ_=>?_⟩;refine(nA q.body I d e M a q.params (i.le (r.trans h).le) (y.ext (j.trans h)) (s.le (j.trans h).le) (G q (aq u))).aG h p λK W N w=>⟨_,rfl,aE (N.same _ (h.lt (p _ aL))) _,λ_=>rA (r.trans w),λ_=>L V _ ((o.trans j).trans w)⟩
def yF(c:Int)(b:E):pb 121 [vi c] b:=by
 apply sH;have e:∀a:Bool,∃k:Bool,vb a=.bool k/\J b b:=λa=>rA (J.az b);exact⟨λ_=>e _,λ_=>⟨λ_=>e _,λ_=>⟨λ_=>e _,λ_=>e _⟩⟩⟩
def W7(f:List gT)(c:cU):Prop:=c.op=9->0<=c.bQ/\c.bQ<f.length
structure At(b:E)(d e g k:O)(ds:List bz)(f:List gT)(c:cU):Prop where
 Rj:eM b d e ds f
 args:ap b g c.args
 call:W7 f c
def At.le{b j:E}{d e g k:O}{a:List bz}{f:List gT}{c:cU}(h:At b d e g k a f c)(i:Le b j):At j d e g k a f c:=⟨h.Rj.le i,h.args.le i,h.call⟩
def dE{o1 o2:Obj}{a c:E}(e:a=b.push o1)(f:c=a.push o2):J b c/\∀d∈[a.size,b.size],d<c.size:=by
 subst e f;exact⟨(J.push _ _).trans (J.push _ _),bF⟩
def om{o:List bz}(a:At b d e g k o f c)(h:Int):pb 308 [.agg #[O.v d,O.v e],pD c g k,vi h] b:=by
 apply Hh;simp -zeta only[aD,aC];intro s i;let⟨j,q⟩:=dE (a:=s) (c:=i) rfl rfl;clear_value i;have C:=a.Rj.iY.len;refine⟨λl=>?_,λ_=>rA j⟩;simp only[aI]at l;have B:=a.call l;let⟨F,r⟩:=cG f c.bQ.toNat;let⟨E,t,m,v,n,w,x,p,y,z,A⟩:=(a.Rj.le j.le).iY.aH r;exact⟨V,V,t,p,(dv n h).any.aG (J.az i) q λm D u _=>⟨_,rfl,rA (j.trans u)⟩⟩
def mP{q:O}{s:List bz}(j:At b d e g k s f c){v:List Int}(o:ap b q v)(u:∀y∈c.args,0<=y/\y<(v.length:Int))(t:h<c.args.length):pb 304 [.agg #[O.v d,O.v e],O.v q,pD c g k,vi h] b:=by
 apply zo;simp -zeta only[aD,aC];intro x a;let⟨l,n⟩:=dE (a:=x) (c:=a) rfl rfl;clear_value a;have B:=j.args.len;have D:=o.len;let⟨y,p⟩:=dC t;have C:=u y (aq p);let⟨A,w⟩:=cG v y.toNat;refine(yF c.op a).aG (J.az a) n λr E m _=>⟨_,rfl,λ_=>?_,λ_=>rA (l.trans m)⟩;have i:=l.trans m;refine⟨V,V,y,(j.args.ext i).aH p,V,V,A,(o.ext i).aH w,λ_=>?_,λ_=>rA i⟩;exact(om (j.le i.le) h).aG m n λr F G z=>⟨_,rfl,rA (l.trans z)⟩
def Dp{r:List bz}(a:At b d e g k r f c)(u:h<c.args.length):pb 336 [.agg #[O.v d,O.v e],pD c g k,vi h] b:=by
 apply wT;simp -zeta only[aD,aC];intro y l;let⟨q,v⟩:=dE (a:=y) (c:=l) rfl rfl;clear_value l;have t:=a.args.len;let⟨A,w⟩:=dC u;refine dV (n:=c.args.length) (t▸a.args.gX) (λ_ i=>J l i) (J.az _) ?_;rintro o E I μ D j z
 have i:=q.trans j;refine⟨λs=>⟨λ_=>?_,λ_=>?_⟩,λ_=>rA i⟩<;>simp only[ar]at s<;>have m:=z V
 .let⟨B,x⟩:=cG c.args o;refine⟨V,V,B,(a.args.ext i).aH x,V,V,A,(a.args.ext i).aH w,λ_=>⟨λ_=>rA i,λ_=>?_⟩,λ_=>m _ j⟩;exact(om (a.le i.le) o).aG j v λC F G p=>⟨_,rfl,λ_=>rA (q.trans p),λ_=>m _ p⟩
 .exact m _ j
def Bo{s r:O}{u:List bz}(i:At b d e g k u f c){z x:List Int}(w:ap b s z)(v:ap b r x)(p:h<c.args.length):pb 321 [.agg #[O.v d,O.v e],pD c g k,vi h,O.v s,O.v r] b:=by
 apply EY;simp -zeta only[aD,aC];intro A l;let⟨a,j⟩:=dE (a:=A) (c:=l) rfl rfl;clear_value l;have C:=i.args.len;let⟨y,q⟩:=dC p;refine⟨V,V,y,(i.args.ext a).aH q,?_⟩;refine(dv (v.ext a) y).any.aG (J.az l) j λo D n _=>⟨_,rfl,λ_=>rA (a.trans n),λ_=>?_⟩;have t:=a.trans n;refine⟨V,V,y,(i.args.ext t).aH q,?_⟩;refine(dv (w.ext t) y).any.aG n j λo E G m=>⟨_,rfl,λ_=>rA (a.trans m),λ_=>?_⟩;exact(Dp (i.le (a.trans m).le) p).aG m j λo F H B=>⟨_,rfl,rA (a.trans B)⟩
end
section
def Yb(b:Bk):Prop:=∀(S:List Nat)(m:E),(∀c∈S,c<m.size)->∀(t a:O)(l:List Int)(n:Int)(k:Nat),eQ m t b.aB->ap (bI S m) a l->k<=b.aB.length->l.length+b.w<=10^12->
 FJ 290 [.agg #[O.v t,vi b.aT],vi n,vi k,O.v a] m S λc=>c.length<=l.length+b.w
def _root_.Go.Vc.Xp{σ:Type}{n b:Nat}(l:b<=n)(q:n<=9223372036854775807){m:E}{g:σ}{f:(σ->Int->E->Prop)->(σ->Int->E->Nat)->σ->Int->E->Prop}(Q:Nat->σ->E->Prop)(j:Q b g m)
 (h:∀(k:Nat)(s:σ)(a:E)(I:σ->Int->E->Prop)(μ:σ->Int->E->Nat),b<=k->k<=n->Q k s a->
  (k<n->∀d c,Q (k+1) d c->I d (cQ ((k:Int)+1)) c/\μ d (cQ ((k:Int)+1)) c<μ s k a)->f I μ s k a):
 ∃(I:σ->Int->E->Prop)(μ:σ->Int->E->Nat),I g b m/\∀s i a,I s i a->f I μ s i a:=by
 refine⟨λs i c=>∃k:Nat,i=k/\b<=k/\k<=n/\Q k s c,λ_ i _=>(n -i).toNat,⟨b,rfl,ad _,l,j⟩,?_⟩
 rintro s i a ⟨k,rfl,o,p,r⟩
 refine h k s a _ _ o p r λe d c t=>?_
 rw[jX e q]
 exact⟨⟨k+1,rfl,V,e,t⟩,DS e⟩
def ED{S:List Nat}{m:E}(P:∀g∈S,g<m.size){B F G:O}{l:List Int}{x:cU}(K:Int)(q:ap m B x.args)(t:nQ m F x.bD)(D:ap (bI S m) G l)(hb:l.length+x.w<=10^12)(U:∀e∈x.bD,Yb e):
 FJ 320 [pD x B F,vi K,O.v G] m S λa=>a.length<=l.length+x.w:=by
 apply xL
 simp -zeta only[aD,aC]
 intro b
 have f:J m b:=J.push _ _
 have u:∀e∈[m.size],e<b.size:=by simp[b]
 clear_value b
 have Q:=q.len
 have R:=t.len
 have hw:=cU.my x
 have H:∀{c:E},J b c->∀g∈S,g<c.size:=λh g C=>aO (P g C) (f.trans h).size
 refine(tR x.op b).any.aG (J.az b) u λe m2 o _=>⟨_,rfl,λ_=>⟨_,_,rfl,D.le ((f.trans o).df S),V,f.trans o⟩,λ_=>?_⟩
 refine ez (n:=x.args.length) (Q▸q.gX) (λv s c=>J b c/\∃a,ap (bI S c) s a/\a.length<=l.length+v) ⟨o,l,D.le ((f.trans o).df S),ad _⟩ ?_
 rintro v s m3 ab μ hj ⟨d,a,j,C⟩ z
 refine dit (λh=>?_) λh=>?_
 .let⟨y,i⟩:=cG x.args v
  have g1:=(q.ext (f.trans d)).aH i
  refine⟨V,V,y,g1,λ_=>⟨V,V,y,g1,λ_=>⟨V,V,y,g1,?_⟩,λ_=>z V _ _ ⟨d,a,j,V⟩⟩,λ_=>z V _ _ ⟨d,a,j,V⟩⟩
  exact(mI (H d) j y V).aG d u λY w I g2 A p k=>⟨_,rfl,z V _ _ ⟨k,w,g2.done (H d) (oh A.2),oh A.2⟩⟩
 .refine ez (n:=x.bD.length) (R▸t.gX) (λi s c=>J b c/\∃a,ap (bI S c) s a/\a.length<=l.length+x.args.length+bw (x.bD.take i)) ⟨d,a,j,bF⟩ ?_
  rintro i Z I I2 μ2 hi ⟨p,w,g2,ae⟩ X
  have k:=f.trans p
  have y:=KY x.bD
  refine⟨λh=>?_,λh=>⟨_,_,rfl,g2,oh (y i),k⟩⟩
  simp only[ar]at h
  let⟨e,r⟩:=cG x.bD i
  let⟨aa,T,L,M⟩:=(t.le k.le).aH r
  have ac:=uR r
  refine⟨V,V,_,L,_,M,?_⟩
  exact(U e (aq r) S I (H p) aa Z w K 0 T g2 (dx _) (oh (y (i+1)))).aG p u λY W m5 N A x5 u5=>⟨_,rfl,X V _ _ ⟨u5,W,N,V⟩⟩
def AM:∀e:Bk,Yb e:=by
 refine Bk.ind ?_;intro aB P K S o B ab aa l L Z i G D W;simp only[Bk.jW,Bk.jy,Bk.qT]at*;apply EE;simp -zeta only[aD,aC];intro a;have d:J o a:=J.push _ _;have r:∀e∈[o.size],e<a.size:=by simp[a]
 clear_value a;have I:=i.len;have H:∀{c:E},J a c->∀f∈S,f<c.size:=λh f p=>aO (B f p) (d.trans h).size;refine Xp (n:=aB.length) D (I▸i.gX) (λj s c=>J a c/\∃m,ap (bI S c) s m/\m.length<=l.length+sw (aB.take j)) ⟨J.az _,l,G.le (d.df S),V⟩ ?_;rintro j s v T μ _ X ⟨b,m,g,p⟩ M
 have y:=d.trans b;have t:=Ca aB;refine⟨λh=>?_,λh=>?_⟩
 .simp only[ar]at h;let⟨R,k⟩:=cG aB j;let⟨U,kk,C,F,w,g1,g2,x,z⟩:=(i.le y.le).aH k;have Y:=ql k;refine⟨V,V,_,w,_,g1,_,g2,_,x,_,z,?_⟩;exact(ED (H b) L C F g (oh (t (j+1))) (K R (aq k))).aG b r λN u m3 A q x3 Q=>⟨_,rfl,M V _ _ ⟨Q,u,A,V⟩⟩
 .have A:=t j;have w:∃x k,O.v s=O.v x/\ap (bI S v) x k/\k.length<=l.length+(1+sw aB)/\J o v:=⟨_,_,rfl,g,V,y⟩;refine⟨λ_=>⟨λ_=>?_,λ_=>w⟩,λ_=>w⟩;exact(mI (H b) g P V).aG b r λN u C g2 q F z=>⟨_,rfl,_,_,rfl,g2.done (H b) (oh q.2),oh q.2,d.trans z⟩
def DY{S:List Nat}{m:E}(i:∀d∈S,d<m.size){t:O}{b:Bk}(l:eQ m t b.aB)(n:Int)(c:b.w<=10^12):FJ 255 [.agg #[O.v t,vi b.aT],vi n] m S λf=>f.length<=b.w:=by
 apply Hs;simp -zeta only[aD,aC];intro g a;let⟨e,k⟩:=dE (a:=g) (c:=a) rfl rfl;have h:ap (bI S a) (.mk g.size 0 0 0) []:=⟨rfl,ad _,aL,aL⟩;clear_value a;exact(AM b S a (λd j=>e.lt (i d j)) t _ _ n 0 (l.le e.le) h (dx _) (by simpa using c)).aG (J.az a) (λb c=>k b (by simp at c⊢;exact Or.inr c)) λr f j g2 q d _=>⟨_,rfl,_,_,rfl,g2,by simpa using q,e.trans d⟩
section
variable{b:List Nat}{m:E}(e:∀c∈b,c<m.size){d r a k s q p:O}{t:List bz}{w:List gT}{x:cU}(h:At m d r a k t w x){v g u:List Int}(o:ap m s v)(l:∀y∈x.args,0<=y/\y<(v.length:Int))(f:ap m q g)(j:ap m p u)
include e h o l
def zl(M:x.args.length<=10^12):lg 259 [.agg #[O.v d,O.v r],O.v s,pD x a k] m b (pH x.args):=by
 apply uz;simp -zeta only[aD,aC];intro I g P;let⟨q,B⟩:=dE (a:=I) (c:=g) rfl rfl;clear_value g;have H:=h.args.len;refine ez (n:=x.args.length) (H▸h.args.gX) (λj v p=>J g p/\∃f,GI b g p v f/\(∀y∈f,y∈x.args)/\f.length<=j) ⟨J.push _ _,[],GI.nil b g,aL,ad _⟩ ?_;rintro j v Q K μ N ⟨E,f,t,u,A⟩ D
 have w:=q.trans E;refine dit (λG=>?_) λG=>?_
 .let⟨y,C⟩:=cG x.args j;refine(mP (h.le w.le) (o.ext w) l (h:=j) V).aG E B λL R F p=>⟨_,rfl,λ_=>⟨V,V,y,(h.args.ext (q.trans p)).aH C,?_⟩,λ_=>D V _ _ ⟨p,f,t.ext F,u,V⟩⟩;intro S;exact GI.kM (t.ext F) (p.fz []) (λc A=>q.lt (e c A)) V λr T g2 z _ _=>⟨J.oV (p.aJ _) z.ext B,D V _ _ ⟨z.ext,_,g2,pu u (aq C),bF⟩⟩
 .exact⟨v,f,rfl,t.cr (λ_ h=>h) q.size,⟨u,V⟩,w⟩
include f j
def G6(W:x.args.length<=10^12):lg 292 [.agg #[O.v d,O.v r],O.v s,pD x a k,O.v q,O.v p] m b (pH x.args):=by
 apply zn;simp -zeta only[aD,aC];intro S u Y;let⟨v,B⟩:=dE (a:=S) (c:=u) rfl rfl;clear_value u;have R:=h.args.len;refine ez (n:=x.args.length) (R▸h.args.gX) (λt D w=>J u w/\∃g,GI b u w D g/\(∀y∈g,y∈x.args)/\g.length<=t) ⟨J.push _ _,[],GI.nil b u,aL,ad _⟩ ?_;rintro t D Z U μ X ⟨M,g,w,z,K⟩ C
 have E:=v.trans M;refine dit (λQ=>?_) λQ=>?_
 .let⟨y,L⟩:=cG x.args t;refine(mP (h.le E.le) (o.ext E) l (h:=t) V).aG M B λP m4 H F=>⟨_,rfl,λ_=>?_,λ_=>C V _ _ ⟨F,g,w.ext H,z,V⟩⟩;have G:=v.trans F;refine(Bo (h.le G.le) (f.ext G) (j.ext G) (h:=t) V).aG F B λP m5 N A=>⟨_,rfl,λ_=>⟨V,V,y,(h.args.ext (v.trans A)).aH L,?_⟩,λ_=>C V _ _ ⟨A,g,(w.ext H).ext N,z,V⟩⟩;intro T;exact GI.kM ((w.ext H).ext N) (A.fz []) (λc K=>v.lt (e c K)) V λr T g2 I _ _=>⟨J.oV (A.aJ _) I.ext B,C V _ _ ⟨I.ext,_,g2,pu z (aq L),bF⟩⟩
 .exact⟨D,g,rfl,w.cr (λ_ h=>h) v.size,⟨z,V⟩,E⟩
def IU(U:g.length<=10^12):lg 294 [.agg #[O.v d,O.v r],O.v s,pD x a k,O.v q,O.v p] m b (pH g):=by
 apply Bq;simp -zeta only[aD,aC];intro Y z;let⟨t,F⟩:=dE (a:=Y) (c:=z) rfl rfl;clear_value z;have af:=h.args.len;have ab:∀{u:E},J z u->∀c∈b,c<u.size:=λh c hc=>aO (e c hc) (t.trans h).size;have X:aN cq 323 [O.v q,O.v p] z λv u=>eG [Y.size,m.size] z u/\∃Z:O,v=O.v Z/\∃A W,O.v Z=O.v A/\GI b m u A W/\pH g W/\J m u:=by
  refine(Nn (S:=[]) aL (f.le (t.le.trans (Ay _))) (j.le (t.le.trans (Ay _))) U).aG (J.az z) F λA w ag C I Q _=>⟨_,rfl,A,w,rfl,?_,I,t.trans Q⟩;let⟨D,K,g1,g2⟩:=C;exact⟨D,K,g1.cr t.size,g2.mono λ_ _ h=>h⟩
 refine⟨λ_=>X,λ_=>⟨λ_=>X,λ_=>?_⟩⟩;refine(mu (S:=[]) aL (f.le (t.le.trans (Ay _))) U).aG (J.az z) F λs0 _ ag D ae Q _=>⟨_,rfl,?_⟩;subst ae;refine ez (n:=x.args.length) (af▸h.args.gX) (λH A u=>J z u/\∃w,GI b m u A w/\pH g w) ⟨Q,g,?_,λ_ h=>h,ad _⟩ ?_
 .let⟨D,K,g1,g2⟩:=D;exact⟨D,K,g1.cr t.size,g2.mono λ_ _ h=>h⟩
 rintro H A m3 ah μ hj ⟨x3,w,C,B⟩ L
 have M:=t.trans x3;refine⟨λT=>?_,λT=>⟨A,w,rfl,C,B,M⟩⟩;simp only[ar]at T;let⟨y,hy⟩:=cG x.args H;refine(mP (h.le M.le) (o.ext M) l (h:=H) V).aG x3 F λac m4 R N=>⟨_,rfl,λ_=>?_,λ_=>L V _ _ ⟨N,w,C.ext R,B⟩⟩;have P:=t.trans N;refine(Bo (h.le P.le) (f.ext P) (j.ext P) (h:=H) V).aG N F λac m5 x5 G=>⟨_,rfl,λ_=>⟨V,V,y,(h.args.ext (t.trans G)).aH hy,?_⟩,λ_=>L V _ _ ⟨G,w,(C.ext R).ext x5,B⟩⟩;refine(BZ (S:=b) (ab G) (((C.ext R).ext x5).done e (oh B.2)) y (oh B.2)).aG G F λr l2 m6 g2 I x6 u6=>⟨_,rfl,L V _ _ ⟨u6,l2,g2.cr (λ_ h=>h) (t.trans G).size,λaa hz=>B.1 aa (I.1 aa hz),bJ I.2 B.2⟩⟩
omit o l
def IV(hb:x.args.length<10^12):lg 295 [.agg #[O.v d,O.v r],pD x a k,O.v q,O.v p] m b (pH x.args):=by
 apply Br;simp -zeta only[aD,aC];intro X l aa;let⟨g,w⟩:=dE (a:=X) (c:=l) rfl rfl;clear_value l;have T:=h.args.len;have R:∀{t:E},J l t->∀c∈b,c<t.size:=λh c v=>aO (e c v) (g.trans h).size;refine ez (n:=x.args.length) (T▸h.args.gX) (λA H t=>J l t/\∃i,GI b l t H i/\(∀y∈i,y∈x.args)/\i.length<=A) ⟨J.push _ _,[],GI.nil b l,aL,ad _⟩ ?_;rintro A H m3 Z μ hj ⟨N,i,o,s,v⟩ B
 have M:=g.trans N;refine dit (λS=>?_) λS=>?_
 .let⟨y,z⟩:=cG x.args A;refine(om (h.le M.le) A).aG N w λK m4 F C=>⟨_,rfl,λ_=>⟨V,V,y,(h.args.ext (g.trans C)).aH z,?_⟩,λ_=>B V _ _ ⟨C,i,o.ext F,s,V⟩⟩;refine(dv (f.ext (g.trans C)) y).any.aG C w λK m5 I D=>⟨_,rfl,λ_=>⟨V,V,y,(h.args.ext (g.trans D)).aH z,?_⟩,λ_=>B V _ _ ⟨D,i,(o.ext F).ext I,s,V⟩⟩;refine(dv (j.ext (g.trans D)) y).any.aG D w λK m6 P u=>⟨_,rfl,λ_=>⟨V,V,y,(h.args.ext (g.trans u)).aH z,?_⟩,λ_=>B V _ _ ⟨u,i,((o.ext F).ext I).ext P,s,V⟩⟩;refine(mI (R u) ((((o.ext F).ext I).ext P).done (λc v=>g.lt (e c v)) V) y V).aG u w λr W m7 g2 L x7 Y=>⟨_,rfl,B V _ _ ⟨Y,W,g2.cr (λ_ h=>h) u.size,λQ U=>?_,oh L.2⟩⟩;rcases L.1 Q U with G|G
  .exact s Q G
  .subst G;exact aq z
 .exact⟨H,i,rfl,o.cr (λ_ h=>h) g.size,⟨s,V⟩,M⟩
end
end
section
variable{m d a:E}{c e:List Nat}{s:O}{l:List Int}{f g:Nat}{K:Value->E->Prop}
def qC{o1 o2 o3:Obj}{a b c:E}(e:a=m.push o1)(f:b=a.push o2)(g:c=b.push o3):J m c/\(∀d∈[b.size,a.size,m.size],d<c.size)/\a.size=m.size+1/\b.size=m.size+2/\c.size=m.size+3:=by
 subst e f g;exact⟨((J.push _ _).trans (J.push _ _)).trans (J.push _ _),bF,aL,aL,aL⟩
def GI.SG{X:List Nat}{n:E}{g:O}{k:List Int}{a:Int}{K:O->E->Prop}(p:GI c d m s l)(i:GI e n m g k)(j:s.D≠g.D)(q:Fz X d m)(w:l.length<=10^12)
 (t:∀r b,GI c d b r (l++[a])->GI e n b g k->r.D≠g.D->Fz X d b->K r b):jP (m.push (.cells (bt [.i a]) aA)) aA [.i 0] 8 s (.mk m.size 0 1 1) K:=by
 have u:=i.bn
 refine Gr.kM (g:=[.i 0]) uv.mono bh p q rfl V λr b o f z v=>t r b o (i.jA (v _ u.2 (kH j))) ?_ f
 rcases z.2 with h|h
 .rw[h];exact j
 .omega
def GI.any(h:GI c d m s l):GI e d m s l:=by
 let⟨b,a,f,g⟩:=h;exact⟨b,a,f,g.mono λ_ _ h=>h⟩
def eZ(a v:Int):cU:=⟨a,0,0,[v],[]⟩
abbrev GS(c:List Nat)(d m:E)(s:O)(l:List cU):Prop:=Gr c d m gG 5 gD s l
def GS.new(c:List Nat)(m:E):GS c m (m.push (.cells (bt []) gG)) (.mk m.size 0 0 0) []:=Gr.new c (ad _) _ _ _
def GS.kM{c X:List Nat}{d m:E}{s a k:O}{l:List cU}{x:cU}{K:O->E->Prop}(h:GS c d m s l)(i:Fz X d m)(g:ap (bI (s.D::c) m) a x.args)(j:nQ (bI (s.D::c) m) k x.bD)(n:l.length<=10^12)
 (f:∀r b,GS c d b r (l++[x])->Fz X d b->m.size<=b.size/\(r.D=s.D\/m.size<=r.D)->(∀e,e<m.size->e≠s.D->b[e]? =m[e]?)->K r b):
 jP (m.push (.cells (bt [.i x.op,.i x.bQ,.i x.cp,.s a,.s k]) gG)) gG [.i 0,.i 0,.i 0,.s .nil,.s .nil] 72 s (.mk m.size 0 1 1) K:=
 Gr.kM (g:=[.i 0,.i 0,.i 0,.s .nil,.s .nil]) gD.mono bh h i ⟨a,k,rfl,g,j⟩ V f
def GS.all{c X:List Nat}{d m:E}{s x:O}{l e:List cU}{K:O->E->Prop}(h:GS c d m s l)(g:Fz X d m)(i:eQ (bI (s.D::c) m) x e)(j:l.length+e.length<=10^12)
 (f:∀r a,GS c d a r (l++e)->Fz X d a->m.size<=a.size/\(r.D=s.D\/m.size<=r.D)->(∀b,b<m.size->b≠s.D->a[b]? =m[b]?)->K r a):
 jP m gG [.i 0,.i 0,.i 0,.s .nil,.s .nil] 72 s x K:=
 Gr.all (g:=[.i 0,.i 0,.i 0,.s .nil,.s .nil]) gD.mono bh h g i V f
def mL{α:Type}(m:E)(a:Nat)(R:List Ce->α->Prop)(b o c:Nat):eU m a R (.mk b o 0 c) []:=⟨rfl,dx _,aL,aL⟩
def jq(n:∀f∈c,f<m.size)(g v:Int):aN cq 227 [vi g,vi v] m λs d=>∃a k,s=pD (eZ g v) a k/\ap (bI c d) a [v]/\nQ (bI c d) k []/\J m d:=by
 apply Da;simp -zeta only[aD,aC];intro b e q r;have t:J m b:=J.push _ _;have u:J b e:=J.push _ _;have i:J e q:=J.push _ _;have w:b.size=m.size+1:=by simp[b]
 have p:J m r:=((t.trans u).trans i).ah (ad _) _ _;refine⟨_,_,rfl,?_,mL _ _ _ _ _ _,p⟩;have l:ap (bI (m.size::c) e) (.mk b.size 0 1 1) [v]:=ap.lit aA [v] (λj o=>by
  rcases List.mem_cons.1 o with h|h
  .omega
  .have:=n j h;omega) rfl rfl aL
 exact(l.le (i.df _)).le (cA bg λf h=>ai _ h)
def RG(f:Nat)(b:List Value)(m:E)(c:List Nat)(Q:List cU->Prop):Prop:=aN cq f b m λv a=>∃s l,v=O.v s/\GS c m a s l/\Q l/\J m a
def RG.aG{h:List Value}{l:List Nat}{Q:List cU->Prop}(k:RG f h m c Q)(i:J a m)(q:∀e∈l,e<a.size)(p:∀s d b,GS c m b s d->Q d->J m b->J a b->K (O.v s) b):aN cq f h m λv b=>eG l m b/\K v b:=
 k.mono λ_ b⟨s,d,j,n,r,g⟩=>⟨g.dp λe o=>i.lt (q e o),j▸p s d b n r g (i.trans g)⟩
def eY(w:∀g∈c,g<m.size)(b:Int){p:O}(i:ap m p l)(B:l.length<=10^12):RG 257 [vi b,O.v p] m c (l.map (eZ b)=·):=by
 apply Bc;intro E;have z:=i.len;refine ez (n:=l.length) (z▸i.gX) (λk s d=>J m d/\GS c m d s ((l.take k).map (eZ b))) ⟨J.push m _,by simpa using GS.new c m⟩ ?_;rintro k s F I μ C ⟨e,d⟩ A
 refine dit (λh=>?_) λh=>?_
 .let⟨j,o⟩:=cG l k;refine⟨V,V,j,(i.ext e).aH o,?_⟩;refine(jq (c:=s.D::c) (λg y=>?_) b j).mono λN G⟨a,D,r,u,v,q⟩=>?_
  .have:=d.bn;rcases List.mem_cons.1 y with h|h
   .omega
   .exact e.lt (w g h)
  subst r;refine⟨_,_,_,_,_,rfl,?_⟩;intro H;refine GS.kM (x:=eZ b j) (d.ext gD.mono q) ((e.trans q).fz []) u v bF λM K t f P L=>A V _ _ ⟨f.ext,?_⟩
  rw[aU o,fx];exact t
 .rw[bY V]at d;exact⟨s,_,rfl,d,rfl,e⟩
def oP(a:Int):∀l:List Int,sw (l.map (eZ a))=2*l.length
 |[]=>rfl
 |v::l=>by rw[cK,mQ,oP a l,cU.my];simp[eZ];omega
def jY{a:Int}(h:14<=a):∀l:List Int,dc (l.map (eZ a))=0
 |[]=>rfl
 |v::l=>by
  rw[cK,kO,jY h l];unfold dn;rw[ae (λb:pF (eZ a v).op=>by have:=b.2;simp only[eZ]at this;omega)]
def Ei{e:List bz}{a:Nat}{c v:Int}(h:14<=c/\c<=17)(f:0<=v/\v<(a:Int)):WS e g True a (eZ c v):=
 ⟨⟨Or.inr ⟨trivial,h⟩,λx d=>by simp[eZ]at d;subst d;exact f,λ_=>rfl,by simp[eZ],λb=>by simp only[eZ]at b;omega,λb=>by simp only[eZ]at b;omega,λb=>by simp only[eZ]at b;omega⟩,λk d b=>by simp[eZ]at b⟩
def sa{d:List bz}{a:Nat}{b:Int}(h:14<=b/\b<=17)(e:∀v∈l,0<=v/\v<(a:Int)):WL d g True a (l.map (eZ b)):=λi s c=>by
 rw[cJ,jK]at c;obtain⟨v,f,rfl⟩:=c;rw[<-Ox,jY h.1];exact Ei h (e v (aq f))
def nG(f:Nat)(d:List Value)(m:E)(c:List Nat)(Q:Bk->Prop):Prop:=aN cq f d m λv a=>∃s b,v=.agg #[O.v s,vi b.aT]/\eQ (bI c a) s b.aB/\Q b/\J m a
def nG.aG{g:List Value}{l:List Nat}{Q:Bk->Prop}(k:nG f g m c Q)(h:J a m)(q:∀d∈l,d<a.size)(p:∀s d b,eQ (bI c b) s d.aB->Q d->J m b->J a b->K (.agg #[O.v s,vi d.aT]) b):aN cq f g m λv b=>eG l m b/\K v b:=
 k.mono λ_ b⟨s,d,j,n,r,e⟩=>⟨e.dp λi o=>h.lt (q i o),j▸p s d b n r e (h.trans e)⟩
def KP(f:Nat)(d:List Value)(m:E)(c:List Nat)(Q:cU->Prop):Prop:=aN cq f d m λv b=>∃a k x,v=pD x a k/\ap (bI c b) a x.args/\nQ (bI c b) k x.bD/\Q x/\J m b
def KP.aG{e:List Value}{l:List Nat}{Q:cU->Prop}(j:KP f e m c Q)(g:J a m)(s:∀b∈l,b<a.size)(r:∀p k x b,ap (bI c b) p x.args->nQ (bI c b) k x.bD->Q x->J m b->J a b->K (pD x p k) b):aN cq f e m λv b=>eG l m b/\K v b:=
 j.mono λ_ b⟨p,k,x,i,n,o,t,d⟩=>⟨d.dp λh q=>g.lt (s h q),i▸r p k x b n o t d (g.trans d)⟩
def bP{b:E}(e:∀a∈c,a<m.size)(i:m.size<=b.size){d:Nat}(g:d<b.size):∀a∈d::c,a<b.size:=λa f=>by
 rcases List.mem_cons.1 f with h|h
 .omega
 .have:=e a h;omega
structure ZM(ds:List bz)(g:Nat)(v lo la:List Int)(b:Bk):Prop where
 aR:∀o∈lo,0<=o/\o<(v.length:Int)
 XV:lo.length+5*b.w<=500
 XU:la.length+1000*b.w<=1000000
 vN:v.length+5*b.w<=1000000
 wb:WB ds g False v.length b
def W3(a:List bz)(d:List gT)(b:Bk):Prop:=∀(c:List Nat)(m:E),(∀e∈c,e<m.size)->∀(g r k t j e:O)(v i h:List Int),eM m g r a d->ap m k v->eQ m t b.aB->ap m j i->ap m e h->ZM a d.length v i h b->
 nG 256 [.agg #[O.v g,O.v r],O.v k,.agg #[O.v t,vi b.aT],O.v j,O.v e] m c λf=>WB a d.length True v.length f/\f.w+1050<=1100*b.w
structure ZL(ds:List bz)(g:Nat)(v fl lo la:List Int)(b:Bk):Prop where
 aR:∀o∈lo,0<=o/\o<(v.length:Int)
 fl3:fl.length<=3
 XV:lo.length+3+5*b.w<=500
 XU:la.length+1000*b.w<=1000000
 vN:v.length+3+5*b.w<=1000000
 wb:WB ds g False (v.length+fl.length) b
def J7(hS:∀a∈c,a<m.size){ao G aV aF az bm a5:O}{ds:List bz}{rs:List gT}{P L lo la:List Int}{i:Bk}(hn:eM m ao G ds rs)(hv:ap m aV P)(hf:ap m aF L)(hs:eQ m az i.aB)(u:ap m bm lo)(bd:ap m a5 la)
 (hp:ZL ds rs.length P L lo la i)(ih:W3 ds rs i):nG 322 [.agg #[O.v ao,O.v G],O.v aV,O.v aF,.agg #[O.v az,vi i.aT],O.v bm,O.v a5] m c λq=>WB ds rs.length True (P.length+L.length) q/\q.w<=1100*i.w:=by
 apply CZ
 simp -zeta only[aD,aC]
 intro d p C
 let⟨w,t,s0,s1,s2⟩:=qC (a:=d) (b:=p) (c:=C) rfl rfl rfl
 clear_value C
 have b7:=hv.len;have bx:=hf.len;have bE:=u.len;have bU:=hp.fl3;have bR:=i.HH;have bW:=hp.XV;have b6:=hp.vN;have bV:=hp.XU
 refine(eP (S:=[]) aL (hv.le (w.le.trans (Ay _))) (hf.le (w.le.trans (Ay _))) V).aG (J.az C) t λaM _ b_ gi g x3 _=>⟨_,rfl,?_⟩
 subst g
 refine(DY (S:=[]) aL (hs.le (w.trans x3).le) _ V).aG x3 t λbK ul F hu b5 x4 H=>⟨_,rfl,?_⟩
 intro m5 m6
 have bg:ap F bK ul:=hu.le (bA _ _)
 have bq:J F m6:=(J.push F _).trans (J.push m5 _)
 have u6:=H.trans bq
 have s5:m5.size=F.size+1:=by simp[m5]
 have gm:GI c F m6 (.mk F.size 0 0 0) []:=(GI.nil c F).ext (J.push m5 _)
 have gd:GI c F m6 (.mk m5.size 0 0 0) []:=(GI.nil c m5).cr (λ_ r=>r) V
 clear_value m6
 have z4:=H.size
 refine xt (n:=lo.length) (bE▸u.gX) (λae h sd M=>J F M/\∃U I,GI c F M h U/\GI c F M sd I/\h.D≠sd.D/\(∀o∈U,o∈lo)/\(∀o∈I,o∈lo)/\U.length<=ae/\I.length<=ae) ⟨bq,[],[],gm,gd,bF,aL,aL,ad _,ad _⟩ ?_
 rintro ae h sd m7 br μ hk ⟨x7,U,I,gm,gd,be,a1,a0,cm,cd⟩ bl
 have u7:=H.trans x7
 have v7:=w.trans u7
 refine dit (λr=>?_) λr=>?_
 .let⟨j,hy⟩:=cG lo ae
  have B:=aq hy
  have A:∀M,J m7 M->jP (M.push (.cells (bt [.i j]) aA)) aA [.i 0] 8 h (.mk M.size 0 1 1) λN m'=>eG [p.size,d.size,m.size] (M.push (.cells (bt [.i j]) aA)) m'/\br N sd (cQ ((ae:Int)+1)) m'/\μ N sd (cQ ((ae:Int)+1)) m'<μ h sd ae m7:=λM aa=>
   GI.SG (gm.ext aa) (gd.ext aa) be ((x7.trans aa).fz []) V λG m' z g' k f=>⟨J.oV ((u7.trans aa).aJ _) (H.trans f.ext) t,bl V _ _ _ ⟨f.ext,_,_,z,g',k,pu a1 B,a0,bF,V⟩⟩
  refine⟨V,V,j,(u.ext v7).aH hy,?_⟩
  refine(dv (bg.ext x7) j).any.aG u7 t λa m8 v b=>⟨_,rfl,λ_=>⟨V,V,j,(u.ext (w.trans b)).aH hy,A m8 v⟩,λ_=>⟨V,V,j,(u.ext (w.trans b)).aH hy,?_⟩⟩
  refine(dv (bd.ext (w.trans b)) j).any.aG b t λa y Q u9=>⟨_,rfl,λ_=>⟨V,V,j,(u.ext (w.trans u9)).aH hy,A y (v.trans Q)⟩,λ_=>⟨V,V,j,(u.ext (w.trans u9)).aH hy,?_⟩⟩
  intro a6
  have aa:=v.trans Q
  exact GI.SG (gd.ext aa) (gm.ext aa) be.symm ((x7.trans aa).fz []) V λG m' z g' k f=>⟨J.oV ((u7.trans aa).aJ _) (H.trans f.ext) t,bl V _ _ _ ⟨f.ext,_,_,g',z,k.symm,a1,pu a0 B,V,bF⟩⟩
 have cm:U.length<=lo.length:=V
 have cd:I.length<=lo.length:=V
 intro m8
 have bY:=gm.bn
 have bS:=gd.bn
 refine ez (n:=L.length) (bx▸hf.gX) (λae s M=>J m7 M/\∃l,GI c m7 M s l/\(∀o∈l,0<=o/\o<((P.length+L.length:Nat):Int))/\l.length<=ae) ⟨J.push _ _,[],GI.nil c m7,aL,ad _⟩ ?_
 rintro bi su y I2 μ2 hj ⟨Q,A,gu,ar,cu⟩ a8
 have u9:=u7.trans Q
 have v9:=w.trans u9
 refine dit (λh2=>?_) λh2=>?_
 .let⟨j,hy⟩:=cG L bi
  refine⟨V,V,j,(hf.ext v9).aH hy,λ_=>?_,λ_=>a8 V _ _ ⟨Q,A,gu,ar,V⟩⟩
  rw[aQ (b:=(aV.len:Int)+bi) V V]
  refine(dv ((bg.ext x7).ext Q) _).any.aG u9 t λa a6 ak aU=>⟨_,rfl,λ_=>?_,λ_=>a8 V _ _ ⟨Q.trans ak,A,gu.ext ak,ar,V⟩⟩
  intro bj
  refine GI.kM (gu.ext ak) ((Q.trans ak).fz []) (λa b=>aO (hS a b) (w.trans u7).size) V λG m' z f am Z=>⟨J.oV ((u9.trans ak).aJ _) (u7.trans f.ext) t,a8 V _ _ ⟨f.ext,_,z,λo u=>?_,bF⟩⟩
  rcases List.mem_append.1 u with u|u
  .exact ar o u
  .simp at u;omega
 have b4:=gu.bn
 have aZ:=gm.ext Q
 have bv:∀{M:E},J C M->∀a∈p.size::c,a<M.size:=λr=>bP hS (w.trans r).size (r.lt (t _ aL))
 have aK:∀{M:E},J C M->h.D<M.size->∀a∈h.D::p.size::c,a<M.size:=λr T a b=>by
  rcases List.mem_cons.1 b with g|g
  .omega
  .exact bv r a g
 refine(eY (c:=h.D::p.size::c) (aK u9 aZ.bn.2) 14 ((gu.done (S:=c) (λa b=>aO (hS a b) (w.trans u7).size) V).le (bA _ _)) V).aG u9 t λs1 _ a6 g1 g ak aU=>⟨_,rfl,?_⟩
 subst g
 have a3:h.D<a6.size:=ak.lt aZ.bn.2
 refine(eY (c:=s1.D::h.D::p.size::c) (λa b=>?_) 15 ((((gd.done (S:=c) (λa b=>aO (hS a b) (w.trans H).size) V).le (bA _ _)).ext Q).ext ak) V).aG aU t λs2 _ bj g2 g aW bJ=>⟨_,rfl,?_⟩
 .rcases List.mem_cons.1 b with g|g
  .have:=g1.bn;omega
  .exact aK aU a3 a g
 subst g
 have bX:h.D<bj.size:=aW.lt a3
 have b0:=(g1.ext gD.mono aW).bn
 have e2:=g2.nT gD.mono (λb=>by
  have hy:=g2.bn;rcases List.mem_cons.1 b with g|g
  .have:=g1.bn;omega
  .have:=aK aU a3 _ g;omega) bh bF
 refine GS.all (g1.ext gD.mono aW) ((ak.trans aW).fz []) e2 bF λB N g3 f3 z3 q3=>⟨J.oV bJ (u9.trans f3.ext) t,?_⟩
 have al:J y N:=f3.ext
 have aB:=u9.trans al
 have cb:=w.trans aB
 have Nj:WL ds rs.length True (P.length+L.length) (A.map (eZ 14)++I.map (eZ 15)):=by
  refine(sa V ar).append ?_;rw[jY V];refine sa V λo u=>?_;have:=hp.aR o (a0 o u);omega
 have bo:dc (A.map (eZ 14)++I.map (eZ 15))=0:=by rw[cV,jY V,jY V]
 have ca:sw (A.map (eZ 14)++I.map (eZ 15))<=1006:=by rw[dD,oP,oP];omega
 have bb:GI c F N h U:=(gm.ext Q).ext al
 have bD:B.D≠h.D:=g3.LJ bb bh
 have aI:∀{M j:E},J C M->J C j->∀i∈[p.size,d.size,m.size],∀o,af j i o=af M i o:=λr h' i T o=>aE (by rw[h'.same i (t i T),r.same i (t i T)]) o
 have E4:∀{M j:E},J C M->J C j->∀{aw:Prop},aw->af j d.size 0=af M d.size 0/\af j d.size 1=af M d.size 1/\af j m.size 0=af M m.size 0/\af j m.size 1=af M m.size 1/\aw:=λr h' _ hp=>⟨aI r h' _ aL _,aI r h' _ aL _,aI r h' _ aL _,aI r h' _ aL _,hp⟩
 have F4:∀{M:E},Fz [h.D] y M->J F M:=λr=>Fz.ext ((((x7.trans Q).fz [h.D]).trans r).Ea λi T=>Or.inr (by simp at T;omega))
 have b3:h.D<y.size:=aZ.bn.2
 have z3:=x3.size
 have tail:∀(M:E)(k:Nat)(ss:O)(q:Bk),GS (k::h.D::p.size::c) y M B (A.map (eZ 14)++I.map (eZ 15))->Fz [h.D] y M->y.size<=k->k<M.size->k≠B.D->eQ (bI (k::B.D::h.D::p.size::c) M) ss q.aB->WB ds rs.length True (P.length+L.length) q/\q.w+1050<=1100*i.w->
  let R:E:=ah M k 0 [.s ss,.i q.aT]
  jP R gG [.i 0,.i 0,.i 0,.s .nil,.s .nil] 72 B ss λay M2=>eG [k,p.size,d.size,m.size] R M2/\af M2 k 1=af R k 1/\
   let M3:E:=ah M2 p.size 0 [.s ay,.i q.aT]
   ∃s ab,Value.agg #[O.v ay,vi q.aT]=.agg #[O.v s,vi ab.aT]/\eQ (bI c M3) s ab.aB/\(WB ds rs.length True (P.length+L.length) ab/\ab.w<=1100*i.w)/\J m M3:=by
  intro M k ss q z ac bw bO bf au a4 R
  have cc:R.size=M.size:=av _ _ _ _
  have hy:=z.bn
  have bG:eQ (bI (B.D::h.D::p.size::c) R) ss q.aB:=au.le (cA aL λa b=>ai _ b)
  have bQ:=Bk.my q
  have b1:=gC q.aB
  have hF:=F4 ac
  have zF:=hF.size
  have z9:=ac.size
  have g1:GS (h.D::p.size::c) y R B _:=z.re gD.mono (Y:=[k]) ((Fz.az [k] M).ah (Or.inl aL) _ _) aL (by simpa using kH bf) λa b=>Or.inl (ai _ b)
  have f1:Fz [h.D] y R:=ac.ah (Or.inr bw) _ _
  have hw:=a4.2
  refine GS.all g1 f1 bG bF λG M2 g2 f am Z=>⟨λa b=>?_,aE (Z k V bf) _,?_⟩
  .simp at b
   refine Z a ?_ ?_<;>rcases b with rfl|rfl|rfl|rfl<;>omega
  intro M3
  have bL:J m M2:=Fz.ext (((v9.fz [h.D]).trans f).Ea λi T=>Or.inr (by simp at T;omega))
  have b8:=g2.bn
  have h5:=g2.nT gD.mono (λb=>by
   rcases List.mem_cons.1 b with g|g
   .omega
   .rcases List.mem_cons.1 g with g|g
    .omega
    .have:=hS _ g;omega) bh bF
  refine⟨G,.mk _ q.aT,rfl,eQ.le (cA aL λa b=>ai _ (ai _ b)) h5,⟨WB.of (Nj.append ?_) ?_,?_⟩,bL.ah V _ _⟩
  .rw[bo];exact a4.1.aS.1
  .rw[cV,bo,bT];exact a4.1.aS.2
  .rw[Bk.qT,dD];omega
 have aR:∀(M:E)(e:List Nat)(K:O->E->Prop),J N M->GS e y M B (A.map (eZ 14)++I.map (eZ 15))->h.D∈e->(∀G j,GI c F j G (U++A)->GS e y j B (A.map (eZ 14)++I.map (eZ 15))->Fz [h.D] y j->M.size<=j.size->(∀i,i<M.size->i≠h.D->j[i]? =M[i]?)->K G j)->jP M aA [.i 0] 8 h su K:=by
  intro M e K hx z bC hK;have bH:ap (bI (h.D::c) M) su A:=by
   refine ap.le ((al.trans hx).df _) (Gr.nT (S:=h.D::c) uv.mono gu.any (λb=>?_) bh V);rcases List.mem_cons.1 b with g|g
   .omega
   .have:=hS _ g;have:=w.size;omega
  exact GI.all (bb.ext hx) ((((x7.trans Q).trans al).trans hx).fz []) (λa b=>aO (hS a b) (w.trans H).size) bH V λG j g' f am Z=>hK G j g' (z.NX gD.mono (Y:=[h.D]) ⟨am.1,λi T hn=>Z i T (by simpa using hn)⟩ (by simpa using bC) (by simpa using bD)) (((al.trans hx).fz [h.D]).trans ⟨am.1,λi T hn=>Z i T (by simpa using hn)⟩) am.1 Z
 have D:∀(M:E)(e:List Nat)(mn ag:O)(v:List Int),(∀a∈e,a<M.size)->Fz [h.D] y M->ap M mn (U++A)->ap M ag v->pH la v->nG 256 [.agg #[O.v ao,O.v G],O.v aM,.agg #[O.v az,vi i.aT],O.v mn,O.v ag] M e λq=>WB ds rs.length True (P.length+L.length) q/\q.w+1050<=1100*i.w:=by
  intro M e mn ag v bu ac h1 h2 h3;have hF:=F4 ac;have hm:=(w.trans H).trans hF;have bB:ap M aM (P++L):=(((gi.done aL bF).le (bA _ _)).ext x4).ext hF;have:=ih e M bu ao G aM az mn ag (P++L) (U++A) v (hn.le hm.le) bB (hs.le hm.le) h1 h2 ⟨λo u=>?_,bF,oh h3.2,bF,by simpa using hp.wb⟩
  .simpa using this
  .simp;rcases List.mem_append.1 u with u|u
   .have:=hp.aR o (a1 o u);omega
   .have:=ar o u;omega
 have b9:=al.size
 have b2:h.D<N.size:=V
 have bZ:B.D<N.size:=g3.bn.2
 have bc:∀{M:E},J C M->N.size<=M.size->∀a∈B.D::h.D::p.size::c,a<M.size:=λr hz a b=>by
  rcases List.mem_cons.1 b with g|g
  .omega
  .exact aK r V a g
 have iI:∀(M:E)(k:Nat)(mn ag:O)(v:List Int),GS (k::h.D::p.size::c) y M B (A.map (eZ 14)++I.map (eZ 15))->Fz [h.D] y M->N.size<=k->k<M.size->ap M mn (U++A)->ap M ag v->pH la v->
  aN cq 256 [.agg #[O.v ao,O.v G],O.v aM,.agg #[O.v az,vi i.aT],O.v mn,O.v ag] M λrv j=>eG [k,p.size,d.size,m.size] M j/\∃a9:O,∃aT:Int,rv=.agg #[O.v a9,vi aT]/\
   let R:E:=ah j k 0 [.s a9,.i aT]
   jP R gG [.i 0,.i 0,.i 0,.s .nil,.s .nil] 72 B a9 λay M2=>eG [k,p.size,d.size,m.size] R M2/\af M2 k 1=af R k 1/\
    let M3:E:=ah M2 p.size 0 [.s ay,.i aT]
    ∃s ab,Value.agg #[O.v ay,vi aT]=.agg #[O.v s,vi ab.aT]/\eQ (bI c M3) s ab.aB/\(WB ds rs.length True (P.length+L.length) ab/\ab.w<=1100*i.w)/\J m M3:=by
  intro M k mn ag v z ac h1 h2 h3 h4 h5
  have hM:J C M:=H.trans (F4 ac)
  refine(D M (k::B.D::h.D::p.size::c) mn ag v (λa b=>?_) ac h3 h4 h5).aG (J.az M) (λa b=>?_) λss q j au hq hx _=>⟨_,_,rfl,tail j k ss q (z.ext gD.mono hx) (ac.then hx) V (hx.lt h2) V au hq⟩
  .rcases List.mem_cons.1 b with g|g
   .omega
   .exact bc hM V a g
  .rcases List.mem_cons.1 b with g|g
   .omega
   .exact hM.lt (t a g)
 have aS:∀(M:E)(o:Obj),GS (h.D::p.size::c) y M B (A.map (eZ 14)++I.map (eZ 15))->GS (M.size::h.D::p.size::c) y (M.push o) B (A.map (eZ 14)++I.map (eZ 15)):=λM o z=>
  z.re gD.mono (Y:=[]) ((J.push M o).fz []) aL aL λa b=>by
   rcases List.mem_cons.1 b with g|g
   .exact Or.inr V
   .exact Or.inl g
 have bN:Fz [h.D] y N:=al.fz _
 have aY:∀(M:E)(aX:List Nat)(K:Value->E->Prop),J C M->(∀a∈aX,a<M.size)->(∀s v j,ap j s v->pH la v->J M j->K (O.v s) j)->aN cq 337 [O.v a5,vi (aV.len:Int)] M λP m'=>eG aX M m'/\K P m':=λM aX K hM hL hK=>
  (Ph (S:=[]) aL (bd.le ((w.trans hM).le.trans (Ay _))) _ V).aG (J.az M) hL λs v j z aw aa _=>hK s v j ((z.done aL (oh aw.2)).le (bA _ _)) aw aa
 have aJ:∀{M:E}{s:O},GI c F M s (U++A)->ap M s (U++A):=λz=>(z.done (λa b=>aO (hS a b) (w.trans H).size) bF).le (bA _ _)
 have a2:∀{M:E}{k:Nat},J C M->k<M.size->∀a∈[k,p.size,d.size,m.size],a<M.size:=λr T a b=>by
  rcases List.mem_cons.1 b with g|g
  .omega
  .exact r.lt (t a g)
 refine⟨aR N _ _ (J.az _) g3 aL λax aP ga gs X am Z=>⟨λa b=>Z a (aB.lt (t a b)) (oh (t a b)),E4 aB (H.trans (F4 X)) ⟨?_,?_⟩⟩,?_⟩
 .have aj:=H.trans (F4 X)
  refine aY aP _ _ aj (λa b=>aj.lt (t a b)) λan v aH ba bn W=>⟨_,rfl,E4 aj (aj.trans W) ⟨?_,?_⟩⟩
  .have aG:=aj.trans W
   have bM:=W.size
   refine(D aH (B.D::h.D::p.size::c) ax an v (bc aG V) (X.then W) ((aJ ga).ext W) ba bn).aG aG t λss q a7 au hq a_ bp=>⟨_,_,rfl,?_⟩
   intro bk
   have ce:=a_.size
   have bs:=(X.then W).then a_
   exact E4 bp (bp.aJ _) (tail bk a7.size ss q (aS a7 _ ((gs.ext gD.mono W).ext gD.mono a_)) (bs.push _) V (by simp[bk]) V (au.le (tz (J.push a7 _) (ad _))) hq)
  .intro a7
   have bM:=W.size
   have aG:=aj.trans W
   exact E4 aG (aG.aJ _) (iI a7 aH.size ax an v (aS aH _ (gs.ext gD.mono W)) ((X.then W).push _) V (by simp[a7]) (((aJ ga).ext W).ext (J.push _ _)) (ba.ext (J.push _ _)) bn)
 .intro W
  have aj:=H.trans (F4 X)
  have aG:J C W:=aj.aJ _
  have a7:J aP W:=J.push _ _
  refine E4 aj aG (aY W _ _ aG (a2 aG (by simp[W])) λan v ba a_ bk aH=>⟨_,rfl,E4 aG (aG.trans aH) ?_⟩)
  exact iI ba aP.size ax an v ((aS aP _ gs).ext gD.mono aH) ((X.then a7).then aH) V (aH.lt (by simp[W])) (((aJ ga).ext a7).ext aH) a_ bk
 .intro W
  have aH:J C W:=aB.aJ _
  have bn:J N W:=J.push _ _
  refine E4 aB aH (aR W _ _ bn (aS N _ g3) aL λax a_ ga gs X am Z=>⟨λa b=>Z a (a2 aH (by simp[W]) a b) ?_,E4 aH (H.trans (F4 X)) ?_⟩)
  .rcases List.mem_cons.1 b with g|g
   .omega
   .have:=t a g;omega
  have aG:=H.trans (F4 X)
  have bp:W.size=N.size+1:=by simp[W]
  refine aY a_ _ _ aG (a2 aG V) λan v ba a7 bk aj=>⟨_,rfl,E4 aG (aG.trans aj) ?_⟩
  exact iI ba N.size ax an v (gs.ext gD.mono aj) (X.then aj) (ad _) (aj.lt V) ((aJ ga).ext aj) a7 bk
end
end Go.Proofs.YtkoifinbblcbiaaGreat
