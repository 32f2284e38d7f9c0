/- Part of a proof. -/
import Derived.Carry
import Derived.ChangeSame
import Derived.ChangeSlices
import Derived.Deep.Slices
import Derived.OpenShut
import Derived.RowKit
import Derived.WideShapes
import Derived.Test.YtbbbdejieenniaaGreatRD00
import Derived.Test.YtbbbdejieenniaaGreatRD02
import Derived.Test.YtbbbdejieenniaaGreatRD04
set_option linter.all false
set_option maxHeartbeats 8000000
set_option maxRecDepth 100000
namespace Go.Proofs.YtbbbdejieenniaaGreat
open Go.Vc
section
variable{a:Int}
structure tq where
 lp:Int
 bI:Int
 df:Bool
 lG:Int
 fr:Int
 Ef:Int
abbrev afE:=List tq
def yy:tq:=⟨-1,0,false,-1,-1,-1⟩
structure Kn where
 aU:afE
 eO:ab
abbrev aq:=List (Option Kn)
def Kn.r(k:Kn)(i:Int):tq:=(k.aU[i.toNat]?).getD yy
inductive ru(k:Kn):Int->Prop
 |vF {i:Int}:0<(k.r i).bI\/(k.r i).df=true->ru k i
 |qe {i:Int}:0<=(k.r i).fr->ru k (k.r i).fr->ru k i
def Kn.tj(k:Kn)(i:Int)(g:tq->tq):Kn:={k with aU:=k.aU.modify i.toNat g}
def Kn.iJ(k:Kn)(i d:Int):Kn:=k.tj i λr=>{r with bI:=r.bI+d}
def Kn.GM(k:Kn)(d f n:Int):Kn:=k.tj d λr=>{r with fr:=f,Ef:=n}
def Kn.js(k:Kn)(i c:Int):Kn:=k.tj i λr=>{r with lG:=c}
def ug(d:Int)(r:tq):tq:=if r.fr=d then{r with fr:=-1,Ef:=-1}else r
def Kn.dY(k:Kn)(d t o:Int):Kn:={k with aU:=(k.aU.set d.toNat ⟨t,o,false,-1,-1,-1⟩).map (ug d)}
section
variable{k:Kn}{i j d t o:Int}
def lR{g:tq->tq}:(k.tj j g).aU.length=k.aU.length:=by simp[Kn.tj]
theorem KB{g:tq->tq}(b:0<=j)(a:0<=i):(k.tj j g).r i=if i=j/\i<k.aU.length then g (k.r i)else k.r i:=by
 grind [Kn.r,Kn.tj,List.length,List.getElem?_eq_getElem,List.getElem?_eq_none]
def BH:(k.dY d t o).aU.length=k.aU.length:=by simp[Kn.dY]
theorem SZ(hd:0<=d){r:tq}(h:r.fr= -1):ug d r=r:=by grind [ug]
theorem Va(hd:0<=d/\d<k.aU.length)(a:0<=i):(k.dY d t o).r i=if i=d then⟨t,o,false,-1,-1,-1⟩else ug d (k.r i):=by
 unfold Kn.r Kn.dY;simp only[eE];by_cases e:i=d
 .grind [List.getElem?_set_self,SZ]
 .rw[aW e,dU V];cases h:k.aU[i.toNat]? with
  |none=>exact(SZ hd.1 O).symm
  |some r=>rfl
end
inductive VH(h:ah)(b:an):Int->Prop
 |bI {f:bW} {i:Int}:f∈b->0<=i->0<bt f.bI i->VH h b (bt f.aU i)
 |Ef {v w:Int}:VH h b v->w∈(bu h v).bJ->1000<=v->1000<=w->VH h b w
def rE(b:af)(t a r:Int):Prop:=∃d,1<=t/\b[t.toNat -1]? =some d/\d.eB=[]/\d.qe=a/\d.to=r
def DT(e:cZ)(g t:Int):Prop:=if g<cF e then g∈cT e.bS t else∃q a,e.di[(g -cF e).toNat]? =some q/\q.aY.getLast?=some a/\rE e.bS t a q.bQ
def FTy(e:cZ)(g:Int):ab:=if g<cF e then cX e.bS g else(dG e (g -cF e)).aY.dropLast
def YV(e:cZ)(h:ah)(w t:Int):Prop:=(t=0->w<1000)/\(0<t->iH h w/\DT e (bu h w).js t)
def HT(e:cZ)(h:ah):Prop:=∀v,iH h v->∀(i:Nat)(w t:Int),(bu h v).bJ[i]? =some w->(FTy e (bu h v).js)[i]? =some t->YV e h w t
def OL(h:ah)(f:bW):Prop:=∀i,0<=i->0<bt f.bI i->iH h (bt f.aU i)
def FC(h:ah):Prop:=∀v,iH h v->∀w∈(bu h v).bJ,1000<=w->iH h w
def YU(h l:ah):Prop:=∀w,iH h w->iH l w->(bu l w).js=(bu h w).js/\(bu l w).bJ=(bu h w).bJ
@[grind cases] structure FW (im:cZ) (h:ah) (fs:an) (f:bW) (k:Kn):Prop where
 aT:k.aU.length=f.aU.length
 bI:∀i,0<=i->(k.r i).bI=bt f.bI i
 rB:∀i,0<=i->(k.r i).lp=0->bt f.aU i<1000
 T9:∀i,0<=i->0<(k.r i).lp->1000<=bt f.aU i
 js:∀i,0<=i->ru k i->0<(k.r i).lp->DT im (bu h (bt f.aU i)).js (k.r i).lp
 SY:∀i,0<=i->0<=(k.r i).lG->1000<=bt f.aU i
 lG:∀i,0<=i->ru k i->0<=(k.r i).lG->(bu h (bt f.aU i)).js=(k.r i).lG
 Gx:∀i,0<=i->0<=(k.r i).fr->1000<=bt f.aU (k.r i).fr
 qe:∀i,0<=i->0<=(k.r i).fr->ru k (k.r i).fr->(bu h (bt f.aU (k.r i).fr)).bJ[(k.r i).Ef.toNat]? =some (bt f.aU i)
 df:∀i,0<=i->(k.r i).df=true->VH h fs (bt f.aU i)
 kp:∀i,0<=i->bt k.eO i<0->bt f.cC i=0
 zy:k.eO.length=k.aU.length
variable{e:cZ}{h l:ah}{b m:an}{f:bW}{k g:Kn}{w d t o:Int}
def VH.aP(f:∀g∈b,g∈m)(r:VH h b w):VH h m w:=by
 induction r with
 |bI a c e=>exact .bI (f _ a) c e
 |Ef _ c e d g=>exact .Ef g c e d
def VH.lv(i:∀g∈b,OL h g)(f:FC h)(r:VH h b w)(j:1000<=w):iH h w:=by
 induction r with
 |bI a c e=>exact i _ a _ c e
 |Ef _ c e d g=>exact f _ (g e) _ c d
theorem VH.qy(j:∀g∈b,OL h g)(k:∀g∈b,OL l g)(g:FC h)(i:FC l)(m:YU h l)(r:VH h b w):VH l b w:=by
 induction r with
 |bI a e c=>exact .bI a e c
 |Ef r e c d f=>exact .Ef f (by rw[(m _ (r.lv j g c) (f.lv k i c)).2];exact e) c d
def FW.iH(F:FW e h b f k)(m:∀g∈b,OL h g)(l:OL h f)(g:FC h){i:Int}(a:ru k i)(d:0<=i)(j:1000<=bt f.aU i):iH h (bt f.aU i):=by
 induction a with
 |vF c=>
  rcases c with c|c
  .exact l _ d cB
  .exact(F.df _ d c).lv m g j
 |qe c a n=>exact g _ (n c (F.Gx _ d c)) _ (aZ (F.qe _ d c a)) j
def FW.ad4(F:FW e h b f k)(m:∀g∈b,OL h g)(r:OL h f)(j:FC h)(n:∀g∈b,OL l g)(s:OL l f)(g:FC l)(q:YU h l){i:Int}(a:ru k i)(d:0<=i)(o:1000<=bt f.aU i):Go.Proofs.YtbbbdejieenniaaGreat.iH l (bt f.aU i):=by
 induction a with
 |vF c=>
  rcases c with c|c
  .exact s _ d cB
  .exact((F.df _ d c).qy m n j g q).lv n g o
 |qe c a t=>
  have u:=F.iH m r j a c (F.Gx _ d c);have p:=t c (F.Gx _ d c);exact g _ p _ (by rw[(q _ u p).2];exact aZ (F.qe _ d c a)) o
def FW.pW(F:FW e h b f k)(j:∀g∈b,OL h g)(o:OL h f)(d:FC h)(p:∀g∈b,OL l g)(r:OL l f)(n:FC l)(g:YU h l):FW e l b f k:=by
 have S:∀{i:Int},ru k i->0<=i->1000<=bt f.aU i->_:=λa c q=>g _ (F.iH j o d a c q) (F.ad4 j o d p r n g a c q);refine⟨F.aT,F.bI,F.rB,F.T9,λi c a t=>?_,F.SY,λi c a s=>?_,F.Gx,λi c m a=>?_,λi c m=>(F.df i c m).qy j p d n g,F.kp,F.zy⟩
 .grind [FW.T9,FW.js]
 .grind [FW.SY,FW.lG]
 .grind [FW.Gx,FW.qe]
@[grind cases] structure vz (k k':Kn):Prop where
 aT:k'.aU.length=k.aU.length
 bI:∀i,0<=i->(k'.r i).bI=(k.r i).bI
 lp:∀i,0<=i->(k'.r i).lp=(k.r i).lp\/(k'.r i).lp= -1
 lG:∀i,0<=i->(k'.r i).lG=(k.r i).lG\/(k'.r i).lG= -1
 fr:∀i,0<=i->((k'.r i).fr=(k.r i).fr/\(k'.r i).Ef=(k.r i).Ef)\/(k'.r i).fr= -1
 df:∀i,0<=i->(k'.r i).df=true->(k.r i).df=true
 eO:k'.eO=k.eO
theorem vz.cU(k:Kn):vz k k:=by constructor<;>grind
def vz.J{a c f:Kn}(h:vz a c)(g:vz c f):vz a f:=
 ⟨g.aT.trans h.aT,λi b=>(g.bI i b).trans (h.bI i b),λi b=>(g.lp i b).elim (λe=>(h.lp i b).imp e.trans e.trans) bR,λi b=>(g.lG i b).elim (λe=>(h.lG i b).imp e.trans e.trans) bR,
  λi b=>(g.fr i b).elim (λe=>(h.fr i b).imp (λd=>⟨e.1.trans d.1,e.2.trans d.2⟩) e.1.trans) bR,λi b e=>h.df i b (g.df i b e),g.eO.trans h.eO⟩
theorem ru.of(d:∀i,0<=i->0<(g.r i).bI->ru k i)(c:∀i,0<=i->(g.r i).df=true->ru k i)(f:∀i,0<=i->0<=(g.r i).fr->(k.r i).fr=(g.r i).fr){i:Int}(a:ru g i)(b:0<=i):ru k i:=by
 induction a with
 |vF e=>exact e.elim (d _ b) (c _ b)
 |qe e a h=>exact .qe cB cB
theorem vz.alv(w:vz k g){i:Int}(a:ru g i)(b:0<=i):ru k i:=
 by grind [ru.of,ru.vF,vz.bI,vz.df,vz.fr]
def FW.Xb(F:FW e h b f k)(w:vz k g):FW e h b f g:=by
 refine⟨w.aT.trans F.aT,λi c=>(w.bI i c).trans (F.bI i c),λi c d=>?_,λi c d=>?_,λi c a d=>?_,λi c d=>?_,λi c a d=>?_,λi c d=>?_,λi c d a=>?_,λi c d=>F.df i c (w.df i c d),by rw[w.eO];exact F.kp,by rw[w.eO,w.aT];exact F.zy⟩
 .grind [vz.lp,FW.rB]
 .grind [vz.lp,FW.T9]
 .grind [vz.lp,FW.js,vz.alv]
 .grind [vz.lG,FW.SY]
 .grind [vz.lG,FW.lG,vz.alv]
 .grind [vz.fr,FW.Gx]
 .grind [vz.fr,FW.qe,vz.alv]
def FW.oY(F:FW e h b f k){bI:ab}(l:∀i,0<=i->g.r i={k.r i with bI:=bt bI i})(m:g.aU.length=k.aU.length/\g.eO=k.eO)(j:∀i,0<=i->0<bt bI i->ru k i):FW e h b {f with bI:=bI} g:=by
 have A:∀{i:Int},ru g i->0<=i->ru k i:=λa c=>a.of (λi c d=>j i c cB) (λi c d=>.vF (bR cB)) (λi c _=>by rw[l i c]) c;constructor<;>grind [FW.aT,FW.rB,FW.T9,FW.SY,FW.df,FW.kp,FW.zy,FW.js,FW.lG,FW.Gx,FW.qe]
def FW.pc(F:FW e h b f k){a:Int}:FW e h b {f with pc:=a} k:=⟨F.aT,F.bI,F.rB,F.T9,F.js,F.SY,F.lG,F.Gx,F.qe,F.df,F.kp,F.zy⟩
def FW.cC(F:FW e h b f k){cC eO:ab}(j:eO.length=k.eO.length)(g:∀i,0<=i->bt eO i<0->bt cC i=0):FW e h b {f with cC:=cC} {k with eO:=eO}:=by
 have A:∀{i:Int},ru {k with eO:=eO} i->ru k i:=λa=>by
  induction a with
  |vF c=>exact .vF c
  |qe c _ d=>exact .qe c d
 exact⟨F.aT,F.bI,F.rB,F.T9,λi d a c=>F.js i d (A a) c,F.SY,λi d a c=>F.lG i d (A a) c,F.Gx,λi d c a=>F.qe i d c (A a),F.df,g,j.trans F.zy⟩
def FW.cG(F:FW e h b f k)(hd:0<=d/\d<f.aU.length/\d<f.bI.length)(q:t=0->w<1000)(t1:0<t->1000<=w)(s:0<o->0<t->DT e (bu h w).js t):FW e h b (f.cG d w o) (k.dY d t o):=by
 have p:0<=d/\d<k.aU.length:=by grind [FW.aT]
 have R:∀i,0<=i->(k.dY d t o).r i=if i=d then⟨t,o,false,-1,-1,-1⟩else ug d (k.r i):=by grind [Va]
 have C:∀r:tq,(ug d r).lp=r.lp/\(ug d r).bI=r.bI/\(ug d r).df=r.df/\(ug d r).lG=r.lG/\(0<=(ug d r).fr->(ug d r).fr=r.fr/\(ug d r).Ef=r.Ef/\r.fr≠d):=λr=>by
  grind [ug]
 have l:∀i,0<=i->bt (f.cG d w o).aU i=if i=d then w else bt f.aU i:=λi c=>ny hd.1 hd.2.1 i c
 have n:∀i,0<=i->bt (f.cG d w o).bI i=if i=d then o else bt f.bI i:=λi c=>ny hd.1 hd.2.2 i c
 have A:∀{i:Int},ru (k.dY d t o) i->0<=i->(i=d/\0<o)\/(i≠d/\ru k i):=λa=>by
  induction a with
  | @vF i g=>
   intro c;rw[R i c]at g;by_cases j:i=d
   .grind
   .grind [ru.vF]
  | @qe i g a m=>
   intro c;have m:=m g;rw[R i c]at g m;by_cases j:i=d
   .grind
   .grind [ru.qe]
 refine⟨by rw[BH,F.aT];simp[bW.cG,jP],λi c=>?_,λi c g=>?_,λi c g=>?_,λi c a g=>?_,λi c g=>?_,λi c a g=>?_,λi c g=>?_,λi c g a=>?_,λi c g=>?_,F.kp,by rw[BH];exact F.zy⟩
 .rw[R i c,n i c];split
  .rfl
  grind [FW.bI]
 .rw[R i c]at g;rw[l i c];by_cases j:i=d
  .grind
  grind [FW.rB]
 .rw[R i c]at g;rw[l i c];by_cases j:i=d
  .grind
  grind [FW.T9]
 .have A:=A a c;rw[R i c]at g⊢;rw[l i c];rcases A with⟨j,m⟩|⟨j,a⟩
  .grind
  grind [FW.js]
 .rw[R i c]at g;rw[l i c];by_cases j:i=d
  .grind
  .rw[aW j]at g⊢;rw[(C _).2.2.2.1]at g;exact F.SY i c g
 .have A:=A a c;rw[R i c]at g⊢;rw[l i c];rcases A with⟨j,m⟩|⟨j,a⟩
  .grind
  grind [FW.lG]
 .rw[R i c]at g⊢;by_cases j:i=d
  .grind
  .rw[aW j]at g⊢;have m:=(C _).2.2.2.2 g;rw[m.1]at g⊢;rw[l _ g,aW m.2.2];exact F.Gx i c g
 .rw[R i c]at g a⊢;rw[l i c];by_cases j:i=d
  .grind
  grind [FW.qe]
 .rw[R i c]at g;rw[l i c];by_cases j:i=d
  .grind
  grind [FW.df]
def FW.tO(F:FW e h b f k)(hd:0<=d/\d<k.aU.length){n:Int}(q:0<=a/\a≠d)(o:(k.r d).bI=0/\(k.r d).df=false)(p:∀i,0<=i->(k.r i).fr≠d)(r:(k.r d).lG<0)(t:1000<=bt f.aU a)
 (u:ru k a->0<(k.r d).lp->DT e (bu h (bt f.aU d)).js (k.r d).lp)(s:ru k a->(bu h (bt f.aU a)).bJ[n.toNat]? =some (bt f.aU d)):FW e h b f (k.GM d a n):=by
 have R:∀i,0<=i->(k.GM d a n).r i=if i=d then{k.r i with fr:=a,Ef:=n}else k.r i:=λi c=>by
  grind [Kn.GM,KB]
 have A:∀{i:Int},ru (k.GM d a n) i->0<=i->(i=d/\ru k a)\/(i≠d/\ru k i):=λj=>by
  induction j with
  | @vF i g=>
   intro c;rw[R i c]at g;by_cases m:i=d
   .grind
   .grind [ru.vF]
  | @qe i g j l=>
   intro c;have l:=l g;rw[R i c]at g l;by_cases m:i=d
   .grind
   .grind [ru.qe]
 refine⟨by unfold Kn.GM;rw[lR,F.aT],λi c=>?_,λi c g=>?_,λi c g=>?_,λi c j g=>?_,λi c g=>?_,λi c j g=>?_,λi c g=>?_,λi c g j=>?_,λi c g=>?_,F.kp,by unfold Kn.GM;rw[lR];exact F.zy⟩
 .grind [FW.bI]
 .grind [FW.rB]
 .grind [FW.T9]
 .grind [FW.js]
 .grind [FW.SY]
 .grind [FW.lG]
 .grind [FW.Gx]
 .grind [FW.qe]
 .grind [FW.df]
def FW.arm(F:FW e h b f k){g:Int}(l:0<=a)(n:1000<=bt f.aU a)(m:(bu h (bt f.aU a)).js=g):FW e h b f (k.js a g):=by
 have R:∀i,0<=i->((k.js a g).r i).lp=(k.r i).lp/\((k.js a g).r i).bI=(k.r i).bI/\((k.js a g).r i).df=(k.r i).df/\((k.js a g).r i).fr=(k.r i).fr/\((k.js a g).r i).Ef=(k.r i).Ef/\(((k.js a g).r i).lG=(k.r i).lG\/i=a/\((k.js a g).r i).lG=g):=λi c=>by
  constructor<;>grind [Kn.js,KB]
 have A:∀{i:Int},ru (k.js a g) i->0<=i->ru k i:=λj c=>j.of (λi c d=>.vF (bC cB)) (λi c d=>.vF (bR cB)) (λi c _=>((R i c).2.2.2.1).symm) c;refine⟨by unfold Kn.js;rw[lR,F.aT],λi c=>(R i c).2.1.trans (F.bI i c),λi c d=>F.rB i c ((R i c).1▸d),λi c d=>F.T9 i c ((R i c).1▸d),λi c j d=>?_,λi c d=>?_,λi c j d=>?_,λi c d=>?_,λi c d j=>?_,λi c d=>F.df i c ((R i c).2.2.1▸d),F.kp,by unfold Kn.js;rw[lR];exact F.zy⟩
 .grind [FW.js]
 .grind [FW.SY]
 .grind [FW.lG]
 .grind [FW.Gx]
 .grind [FW.qe]
end
section
variable{f:dq}
def yK(h i:ah):Prop:=∀(a:Nat)(b:dq),i[a]? =some b->0<b.bT->∃f,h[a]? =some f/\0<f.bT/\b.js=f.js/\b.bJ=f.bJ
def yK.cU(h:ah):yK h h:=λ_ f e p=>⟨f,e,p,O,O⟩
theorem yK.J{a b f:ah}(h:yK a b)(g:yK b f):yK a f:=λi e j k=>by
 let⟨d,hd,c,l,m⟩:=g i e j k;let⟨p,r,q,n,o⟩:=h i d hd c;grind
theorem yK.dY{h:ah}{a:Nat}(c:0<f.bT->∃d,h[a]? =some d/\0<d.bT/\f.js=d.js/\f.bJ=d.bJ):yK h (h.set a f):=λb e g i=>by
 grind [List.getElem?_set_self',ph]
theorem yK.at1{h:ah}{w:Int}(b:iH h w)(a:0<f.bT->f.js=(bu h w).js/\f.bJ=(bu h w).bJ):yK h (h.set (ix w) f):=
 by grind [yK.dY,dy]
theorem yK.pG{h:ah}:yK h (pG h):=λb e a c=>by
 grind [pG]
def yK.kW:∀(j:ab)(h:ah),(∀w∈j,iH h w)->yK h (kW h j)
 |[],h,_=>.cU h
 |w::j,h,a=>by
  have b:=a w cK;exact(yK.at1 b (f:={bu h w with bT:=(bu h w).bT+1}) λ_=>⟨O,O⟩).J (yK.kW j _ λv d=>⟨(a v (aX _ d)).1,(jq.qv b).2 (a v (aX _ d)).2⟩)
theorem yK.jL:∀(n:Nat)(h:ah)(i:ab),D0 h+i.length<=n->yK h (jL h i)
 |n,h,[],_=>by rw[ur];exact .cU h
 |0,h,w::r,b=>by simp at b
 |n+1,h,w::r,b=>by
  simp only[dz]at b;rcases gJ (iH h w)with a|a
  .let⟨f,g⟩:=dy a;by_cases d:(bu h w).bT=1
   .have e:=mr (d:=kX) f;simp only[bn g,kX]at e;simp at e;rw[uv a d];exact(yK.at1 a λh=>by simp[kX]at h).J (yK.jL n _ _ (by simp[kX];omega))
   .have e:=mr (d:={bu h w with bT:=(bu h w).bT -1}) f;simp only[bn g]at e;rw[bn V]at e;rw[sG a d];exact(yK.at1 a (f:={bu h w with bT:=(bu h w).bT -1}) λ_=>⟨O,O⟩).J (yK.jL n _ _ cB)
  .rw[sH a];exact yK.jL n _ _ V
theorem yK.iZ{h:ah}{e:Nat->Int}(f:jd h e){w:Int}(b:iH h w):yK h (iZ h w):=by
 let⟨d,k⟩:=dy b;unfold Go.Proofs.YtbbbdejieenniaaGreat.iZ;split
 .grind [yK.at1,kX,yK.J,yK.pG]
 .rename_i j;refine(yK.at1 b (f:={bu h w with bT:=(bu h w).bT -1}) λ_=>⟨O,O⟩).J (yK.kW _ _ λv g=>?_);let⟨i,a⟩:=nT.1 g;have:=f.qd (kT d) i a;refine⟨a,?_⟩;by_cases e:ix v=ix w
  .grind [jq.GO,bu]
  .rw[jq.ne e];exact this.2
variable{k:cZ}{h i:ah}{w:Int}{e:Nat->Int}
def yK.lv(H:yK h i)(l:iH i w):iH h w/\(bu i w).js=(bu h w).js/\(bu i w).bJ=(bu h w).bJ:=by
 let⟨f,a,d,b,c⟩:=H _ _ (dy l).1 (dy l).2;have:bu h w=f:=by simp[bu,a]
 exact⟨⟨l.1,f,a,d⟩,this▸b,this▸c⟩
def yK.TO(H:yK h i):YU h i:=λ_ _ l=>(H.lv l).2
def FC.of(a:jd h e):FC h:=λv c w d b=>a.qd (kT (dy c).1) d b
def YV.pW{t:Int}(H:YV k h w t)(c:YU h i)(a:1000<=w->iH i w):YV k i w t:=
 ⟨H.1,λb=>let⟨l,g⟩:=H.2 b;⟨a l.1,(((c _ l (a l.1)).1)▸g)⟩⟩
def HT.pW(H:HT k h)(W:yK h i)(e:FC i):HT k i:=λv a j w t b g=>by
 let⟨l,c,d⟩:=W.lv a;refine(H v l j w t (d▸b) (c▸g)).pW W.TO λf=>e v a w (aZ b) f
@[grind cases] structure Xi (h h':ah) (a:Nat) (g:Int) (ws:ab):Prop where
 old:¬jq h a
 bF:h'[a]? =some ⟨1,g,ws⟩
 oth:∀b,b≠a->h'[b]? =h[b]?
variable{a:Nat}{g:Int}{j:ab}
def Xi.TO(N:Xi h i a g j):YU h i:=λw l _=>by
 have:ix w≠a:=λe=>N.old (e▸l.2);grind [bu,Xi.oth]
def Xi.ht(N:Xi h i a g j)(H:HT k h)(n:FC i)(q:∀(c:Nat)(w t:Int),j[c]? =some w->(FTy k g)[c]? =some t->YV k h w t):HT k i:=λv l c w t b d=>by
 by_cases e:ix v=a
 .have:bu i v=⟨1,g,j⟩:=by simp[bu,e,N.bF]
  have m:=aZ b;rw[this]at b d;exact(q c w t b d).pW N.TO (n v l w m)
 .have:bu i v=bu h v:=by simp only[bu,N.oth _ e]
  have r:iH h v:=by let⟨a,f,o,p⟩:=l;exact⟨a,f,((N.oth _ e)▸o),p⟩
  have m:=aZ b;rw[this]at b d;exact(H v r c w t b d).pW N.TO (n v l w m)
theorem Xi.kD(d:jd h e):Xi h (kD h (fG h) ⟨1,g,j⟩) (fG h) g j:=by
 have i:=sW h;refine⟨λ⟨f,a,k⟩=>oh (Bj h f a),?_,λb c=>?_⟩
 .grind [kD,List.getElem?_append_right,List.getElem?_set_self]
 .grind [kD,Nat.lt_or_ge,List.length,List.getElem?_append_left,List.getElem?_append_right,List.getElem?_eq_none,ph]
def Xi.dY(b:h[a]? =some f)(c:¬0<f.bT):Xi h (h.set a ⟨1,g,j⟩) a g j:=
 ⟨λ⟨d,hd,i⟩=>by rw[b]at hd;cases hd;exact c i,lA b,λ_ e=>ph e⟩
end
section
variable{k:Kn}{j n:Int}
def fZ(k:Kn):ab->Kn
 |[]=>k
 |r::a=>fZ (if(k.r r).lp=0 then k else k.iJ r (-1)) a
def KA(t:Int):Int:=if 0<t then 1 else 0
def qA(k:Kn)(a:ab):ab:=a.map λr=>(k.r r).lp
def fY(a:cZ)(b cE:Int)(c:ab)(t:Int):Prop:=
 if b=0 then t=0/\c=[]
 else if b=1\/b=2\/b=3\/b=4 then t=0/\c=[0,0]
 else if b=5 then t=0/\c=[0]
 else if b=6 then cE∈cT a.bS t/\c=cX a.bS cE
 else if b=9 then∃q,a.di[cE.toNat]? =some q/\c=q.aY/\t=q.bQ
 else if b=10 then∃q d,a.di[cE.toNat]? =some q/\q.aY=c++[d]/\rE a.bS t d q.bQ
 else if b=11 then∃u d,c=[u,d]/\rE a.bS u d t
 else False
def uU(a:cZ)(p:eG)(x:Instr)(b:ab)(t:Int):Prop:=
 if x.op=20 then b=[0]else if x.op=23 then b=[p.bQ]/\t=p.bQ else if x.op=24 then fY a 9 x.cE b t/\t=p.bQ else fY a x.op x.cE b t
open Classical in
def Yg(p:eG)(a:cZ)(k:Kn)(x:Instr)(t:Int)(c:Kn):Prop:=
 let b:=fZ k (cO a x)
 (∀r∈cO a x,0<=(b.r r).bI)/\((x.op=9\/x.op=24)->∀r∈fK a x 0 x.aO,ru b r)/\
 if x.op=23\/x.op=24 then(∀i,0<=i->(b.r i).bI<=0)/\(∀n∈b.eO,n<0)/\c=b
 else
  let d:Kn:=if x.dh=0 then b else{b with eO:=gX b.eO (x.dh -1) (-1)}
  if lO x.op then(b.r x.bH).bI<=0/\c=d.dY x.bH t (KA t)else c=d
def jN(k:Kn):ab->Kn
 |[]=>k
 |r::a=>jN (k.iJ r 1) a
def yl(a:cZ)(p:eG)(k:Kn)(x:Instr)(c:Kn):Prop:=
 let b:=bt x.aO 0
 if x.op=22 then c=k
 else if x.op=14 then 0<(k.r b).lp/\ru k b/\c=k.iJ b 1
 else if x.op=15 then 0<(k.r b).lp/\c=k.iJ b (-1)
 else if x.op=16\/x.op=17 then 0<(k.r b).bI/\(∀r∈x.aO.drop 1,(k.r r).fr=b)/\
  ∃n:Int,0<=n/\c={jN (k.iJ b (-1)) (x.aO.drop 1)with eO:=if x.op=17 then gX k.eO b n else k.eO}
 else if x.op=18 then 0<=(k.r b).lp/\0<=((fZ k [b]).r b).bI/\((fZ k [b]).r x.bH).bI<=0/\c=(fZ k [b]).dY x.bH (k.r b).lp (KA (k.r b).lp)
 else if x.op=19 then ru k b/\0<=(k.r b).lG/\∃t,(cX a.bS (k.r b).lG)[x.cE.toNat]? =some t/\(k.r x.bH).bI<=0/\c=(if x.bH=b then k.dY x.bH t 0 else(k.dY x.bH t 0).GM x.bH b x.cE)
 else∃t,uU a p x (qA k x.aO) t/\Yg p a k x t c
def O0(p:eG):Kn:=⟨(List.range p.aU.toNat).map λi=>if i<p.aY.length then⟨bt p.aY i,if bt p.aY i≠0/\(i:Int)∉p.df then 1 else 0,decide ((i:Int)∈p.df),-1,-1,-1⟩else yy,List.replicate p.aU.toNat (-1)⟩
def uA(x:Instr)(k:Nat):ab:=
 if x.op=22 then[x.cE]else if x.op=20 then[(k:Int)+1,x.cE]else if x.op=21 then x.gE else if x.op=23\/x.op=24 then[]else[(k:Int)+1]
@[grind cases] structure Ba (im:cZ) (p:eG) (we:Nat->Option Kn):Prop where
 aT:∀(at_:Nat)(k:Kn),we at_=some k->(k.aU.length:Int)=p.aU
 first:∃k,we 0=some k/\vz (O0 p) k
 qy:∀(at_:Nat)(x:Instr)(k:Kn),p.eA[at_]? =some x->we at_=some k->x.op≠21->∃k',yl im p k x k'/\∀n∈uA x at_,∃k1,we n.toNat=some k1/\vz k' k1
 xW:∀(at_:Nat)(x:Instr)(k:Kn),p.eA[at_]? =some x->we at_=some k->x.op=21->(k.r (bt x.aO 0)).lp=x.cE/\ru k (bt x.aO 0)/\
  ∀(i:Nat)(c:Int),(cT im.bS x.cE)[i]? =some c->(k.r (bt x.aO 0)).lG<0\/(k.r (bt x.aO 0)).lG=c->∃k1,we (bt x.gE i).toNat=some k1/\vz (k.js (bt x.aO 0) c) k1
@[grind cases] structure VS (im:cZ) (we:Nat->Nat->Option Kn) (s:St):Prop where
 aR:HT im s.aR
 first:∀f,s.bq[0]? =some f->(dG im f.fQ).bQ=0
 jO:∀fs f,s.bq=fs++[f]->∃k,we f.fQ.toNat f.pc.toNat=some k/\FW im s.aR fs f k
 sus:∀(j:Nat)(f g:bW),s.bq[j]? =some f->s.bq[j+1]? =some g->∃k,FW im s.aR (s.bq.take j) f k/\(k.r g.bH).bI<=0/\
  ∃k1,we f.fQ.toNat f.pc.toNat=some k1/\vz (k.dY g.bH (dG im g.fQ).bQ (KA (dG im g.fQ).bQ)) k1
variable{a:cZ}{aU:ab}
theorem yL{i:Int}(b:0<=j/\j<k.aU.length)(a:0<=i):(k.iJ j n).r i={k.r i with bI:=(k.r i).bI+if i=j then n else 0}:=by
 unfold Kn.iJ;rw[KB b.1 a];by_cases e:i=j
 .grind
 .rw[aW λh=>e h.1,aW e,Int.add_zero]
theorem rf:(k.iJ j n).aU.length=k.aU.length:=lR
def xX:∀(a:ab)(k:Kn),(fZ k a).eO=k.eO
 |[],_=>O
 |r::a,k=>by rw[fZ,xX a];split<;>rfl
def Gp:∀(a:ab)(k:Kn),(fZ k a).aU.length=k.aU.length
 |[],_=>O
 |r::a,k=>by
  rw[fZ,Gp a];split
  .rfl
  .exact rf
def TR:∀(a:ab)(k:Kn)(bI:ab),(∀i,0<=i->(k.r i).bI=bt bI i)->(∀r∈a,0<=r/\r<k.aU.length/\r<bI.length)->(∀r∈a,((k.r r).lp=0/\bt aU r<1000)\/((k.r r).lp≠0/\1000<=bt aU r))->
 ∀i,0<=i->(fZ k a).r i={k.r i with bI:=bt (cL aU bI a) i}
 |[],k,bI,h,_,_,i,b=>by rw[fZ,cL,<-h i b]
 |r::a,k,bI,h,f,g,i,b=>by
  have l:=f r cK;rw[fZ,cL];rcases g r cK with⟨d,e⟩|⟨d,e⟩
  .rw[bn d,aW V];exact TR a k bI h (λv c=>f v (aX _ c)) (λv c=>g v (aX _ c)) i b
  .rw[aW d,bn e];rw[TR a (k.iJ r (-1)) (gX bI r (bt bI r -1)) (λj m=>?_) (λv c=>?_) (λv c=>?_) i b,yL ⟨l.1,l.2.1⟩ b]
   .grind [yL,ny]
   .grind [rf,jP,List.mem_cons_of_mem]
   grind [List.mem_cons_of_mem,yL]
def JQ:∀(a bI:ab),(∀r∈a,0<=r/\r<bI.length)->∀i,0<=i->bt (cL aU bI a) i<=bt bI i/\(i∈a->1000<=bt aU i->bt (cL aU bI a) i<bt bI i)
 |[],bI,_,i,_=>⟨dT _,sx⟩
 |r::a,bI,h,i,c=>by
  have e:=h r cK;rw[cL];split
  .have d:=JQ a (gX bI r (bt bI r -1)) (λv b=>by rw[jP];exact h v (aX _ b)) i c;grind [ny]
  .have d:=JQ a bI (λv b=>h v (aX _ b)) i c;constructor<;>grind
def Zi{l:ab}(h:∀o∈l,0<=o)(i:Int):0<=bt l i:=by
 unfold bt;rw[fH];cases e:l[i.toNat]? with
 |none=>simp
 |some x=>exact h x (aZ e)
def Uj:∀(a:ab)(k:Kn)(bI:ab),(∀i,0<=i->(k.r i).bI=bt bI i)->(∀r∈a,0<=r/\r<k.aU.length/\r<bI.length)->∀i,0<=i->(jN k a).r i={k.r i with bI:=bt (fe bI a) i}
 |[],k,bI,h,_,i,b=>by rw[jN,fe,<-h i b]
 |r::a,k,bI,h,d,i,b=>by
  have c:=d r cK;rw[jN,fe,Uj a (k.iJ r 1) (gX bI r (bt bI r+1)) (λj e=>?_) (λv f=>?_) i b,yL ⟨c.1,c.2.1⟩ b]
  .grind [yL,ny]
  .grind [rf,jP,List.mem_cons_of_mem]
def Pt:∀(a:ab)(k:Kn),(jN k a).aU.length=k.aU.length
 |[],_=>O
 |r::a,k=>by rw[jN,Pt a,rf]
def uV:∀(a:ab)(k:Kn),(jN k a).eO=k.eO
 |[],_=>O
 |r::a,k=>by rw[jN,uV a];rfl
end
section
variable{P:an}{c:bW}{b:eG}
def adE(a:cZ)(we:Nat->Nat->Option Kn)(h:ah)(d:an)(f:bW):Prop:=∃k,we f.fQ.toNat f.pc.toNat=some k/\FW a h d f k
def Sus(a:cZ)(we:Nat->Nat->Option Kn)(h:ah)(d:an)(f g:bW):Prop:=∃k,FW a h d f k/\(k.r g.bH).bI<=0/\
 ∃b,we f.fQ.toNat f.pc.toNat=some b/\vz (k.dY g.bH (dG a g.fQ).bQ (KA (dG a g.fQ).bQ)) b
variable{a:cZ}{s t:St}{we:Nat->Nat->Option Kn}{h e:ah}{d:an}{f g:bW}
def OL.of(j:eu a s):∀g∈s.bq,OL s.aR g:=λg o i n u=>by
 have H:=j.bq g o;have r:i<g.bI.length:=by
  grind [Int.lt_or_le,List.length,bt,List.getElem?_eq_none]
 have w:=H.lr;have x:=H.lo;have k:=jR n r;have m:=jR (l:=g.aU) n V;have p:=(H.bI _ _ _ k m).2 u;refine⟨p,j.aR.lv _ ?_⟩;have e:=KG H.Qo m k (lE p).symm;have:∀(b:an),g∈b->(∀q∈b,iI a q)->bt g.bI i<=j8 b (ix (bt g.aU i)):=λb=>by
  induction b with
  |nil=>intro h;simp at h
  |cons q b v=>
   intro t f;have y:=ve (aU:=q.aU) (f q cK).Qo (ix (bt g.aU i));have z:=KH (λc d=>f c (aX _ d)) (ix (bt g.aU i));simp only[j8];rcases bo.1 t with e|e
   .subst e;omega
   .have:=v e λc d=>f c (aX _ d);omega
 have:=this _ o j.bq;omega
def Vn(t:VS a we s){kO:an}(J:s.bq=P++c::kO)(p:∀g∈P,OL s.aR g)(r:∀g∈P,OL e g)(y:FC s.aR)(z:FC e)(H:YU s.aR e)(hd:g.bH=c.bH)(K:(dG a g.fQ).bQ=(dG a c.fQ).bQ)
 (l:an){j:Nat}{b f:bW}(n:(P++g::l)[j]? =some b)(I:(P++g::l)[j+1]? =some f)(A:j<P.length):Sus a we e ((P++g::l).take j) b f:=by
 rw[dZ A]at n
 have k:∀q∈P.take j,q∈P:=by grind [List.mem_of_mem_take]
 have o:=aZ n
 have G:∃d,s.bq[j+1]? =some d/\f.bH=d.bH/\(dG a f.fQ).bQ=(dG a d.fQ).bQ:=by
  grind [Nat.lt_or_ge,List.length,List.getElem?_append_left,List.getElem?_append_right]
 let⟨d,v,i,u⟩:=G
 have w:s.bq.take j=(P++g::l).take j:=cB
 have m:(P++g::l).take j=P.take j:=rD V
 let⟨D,F,B,E,x,C⟩:=t.sus j b d cB v
 rw[w]at F
 refine⟨D,F.pW (λq h=>p q (k q (m▸h))) (p b o) y (λq h=>r q (k q (m▸h))) (r b o) z H,by rw[i];exact B,E,x,by rw[i,u];exact C⟩
def UO(V:VS a we s){kO l:an}(b:s.bq=P++c::kO)(e:(dG a g.fQ).bQ=(dG a c.fQ).bQ)(f:t.bq=P++g::l):∀q,t.bq[0]? =some q->(dG a q.fQ).bQ=0:=λq d=>by
 grind [VS.first]
def VS.of1(V:VS a we s){kO:an}(j:s.bq=P++c::kO)(q:∀g∈P,OL s.aR g)(r:∀g∈P,OL t.aR g)(n:FC s.aR)(o:FC t.aR)(u:YU s.aR t.aR)(hd:g.bH=c.bH)(k:(dG a g.fQ).bQ=(dG a c.fQ).bQ)
 (b:t.bq=P++[g])(p:HT a t.aR)(T:adE a we t.aR P g):VS a we t:=by
 refine⟨p,UO V j k b,λd f e=>?_,λx v w h i=>?_⟩
 .rw[b]at e
  let⟨l,m⟩:=List.append_inj' e O
  cases m;subst l;exact T
 .rw[b]at h i⊢
  exact Vn V j q r n o u hd k [] h i cB
def VS.of2{n:bW}(j:VS a we s)(k:s.bq=P++[c])(v:∀g∈P,OL s.aR g)(w:∀g∈P,OL t.aR g)(q:FC s.aR)(r:FC t.aR)(x:YU s.aR t.aR)(hd:g.bH=c.bH)(l:(dG a g.fQ).bQ=(dG a c.fQ).bQ)
 (i:t.bq=P++[g,n])(u:HT a t.aR)(S:Sus a we t.aR P g n)(T:adE a we t.aR (P++[g]) n):VS a we t:=by
 refine⟨u,UO j k l i,λd f e=>?_,λm y z h b=>?_⟩
 .rw[i,show P++[g,n]=(P++[g])++[n]by simp]at e
  let⟨o,p⟩:=List.append_inj' e O
  cases p;subst o;exact T
 .rw[i]at h b⊢
  rcases dJ m P.length with e|e
  .exact Vn j k v w q r x hd l [n] h b e
  .have o:=br b
   simp at o
   have:m=P.length:=V
   subst this
   simp at h b
   subst h;subst b
   rw[show(P++[g,n]).take P.length=P by simp];exact S
def EE(df:ab):∀(a:ab)(k i:Nat)(w:Int),a[i]? =some w->(fJ df k a)[i]? =some (if df.any (λy=>y==((k+i:Nat):Int))then 0 else iV w)
 |[],_,_,_,h=>by simp at h
 |v::a,k,0,w,h=>by simp at h;subst h;rfl
 |v::a,k,i+1,w,h=>by
  rw[fJ,kG,EE df a (k+1) i w cB,show k+1+i=k+(i+1)by omega]
def ad3(c:(b.aY.length:Int)<=b.aU){i:Int}(a:0<=i):(O0 b).r i=if i<b.aY.length then⟨bt b.aY i,if bt b.aY i≠0/\i∉b.df then 1 else 0,decide (i∈b.df),-1,-1,-1⟩else yy:=by
 grind [Kn.r,O0,Nat.lt_or_ge,List.getElem?_range,List.length,List.getElem?_eq_none]
def FW.bF{n l:Int}{j:ab}(r:dG a n=b)(v:(b.aY.length:Int)<=b.aU)(k:j.length=b.aY.length)(x:∀t∈b.aY,0<=t)(y:∀(c:Nat)(w t:Int),j[c]? =some w->b.aY[c]? =some t->YV a h w t)(z:∀c:Int,c∈b.df->0<=c->c<j.length->VH h d (bt j c)):FW a h d (cz a n l j) (O0 b):=by
 have R:=λc e=>ad3 (b:=b) v (i:=c) e;have m:∀c,0<=c->bt (cz a n l j).aU c=if c<j.length then bt j c else 0:=λc e=>by
  grind [cz,bt,List.getElem?_append_left,List.getElem?_append_right,eP,dG,List.length,pR,aZ]
 have u:∀c,0<=c->bt (cz a n l j).bI c=if c<j.length then(if c∈b.df then 0 else iV (bt j c))else 0:=λc e=>by
  simp only[cz,bt,fH];split
  .rename_i f;let⟨w,g⟩:=dV j c.toNat;rw[dZ (by rw[mf];omega),EE _ _ _ _ _ g,g,r];grind [List.any_eq_true]
  .grind [List.getElem?_append_right,mf,eP,dG,List.length,fJ,pR,aZ]
 have W:∀c:Int,0<=c->c<b.aY.length->YV a h (bt j c) (bt b.aY c):=λc e g=>y c.toNat _ _ (jR e V) (jR e g);have s:∀c,0<=c->((O0 b).r c).fr= -1:=λc e=>by rw[R c e];split<;>rfl
 have nc:∀c,0<=c->((O0 b).r c).lG= -1:=λc e=>by rw[R c e];split<;>rfl
 refine⟨by simp[O0,cz,eP,r];omega,λc e=>?_,λc e f=>?_,λc e f=>?_,λc e _ f=>?_,λc e f=>absurd (nc c e) V,λc e _ f=>absurd (nc c e) V,λc e f=>absurd (s c e) V,λc e f=>absurd (s c e) V,λc e f=>?_,λc e _=>?_,by simp[O0]⟩
 .rw[R c e,u c e,k];split
  .rename_i g;have w:=W c e g;have A:=Zi x c;simp only;by_cases q:c∈b.df
   .grind
   .rw[aW q];by_cases o:bt b.aY c=0
    .rw[aW λh=>h.1 o];have:=w.1 o;unfold iV;rw[aW V]
    .rw[bn ⟨o,q⟩];have:=(w.2 V).1.1;unfold iV;rw[bn this]
  .rfl
 .rw[m c e,k];rw[R c e]at f;split at f
  .rename_i g;rw[bn g];exact(W c e g).1 f
  grind
 .rw[m c e,k];rw[R c e]at f;split at f
  .rename_i g;rw[bn g];exact((W c e g).2 f).1.1
  .simp[yy]at f
 .rw[m c e,k];rw[R c e]at f⊢;split at f
  .rename_i g;rw[bn g,bn g];exact((W c e g).2 f).2
  .simp[yy]at f
 .grind [yy]
 .grind [cz,bt,eP,dG,pR,aZ]
end
section
variable{d b c g i:Int}{l:ab}{k:Kn}
def OL.aeN{h:ah}{g:bW}{w o:Int}(hd:0<=d/\d<g.aU.length/\d<g.bI.length)(e:bt g.bI d<=0)(H:OL h (g.cG d w o)):OL h g:=λi a c=>by
 have b:i≠d:=cB;have:=H i a (by simp only[bW.cG];rw[ny hd.1 hd.2.2 i a,aW b];exact c);grind [bW.cG,ny]
theorem OL.iU{h:ah}{f:bW}{bI:ab}(H:OL h f)(b:∀i,0<=i->bt bI i<=bt f.bI i):OL h {f with bI:=bI}:=λi a c=>H i a cB
def UG{a:af}(h:eR a)(c:Int):∀u∈cX a c,zR a.length u:=by
 unfold cX;split
 .cases g:(gR a)[c.toNat]? with
  |none=>simp
  |some f=>
   have e:=aZ g;unfold gR at e;let⟨d,hd,b⟩:=List.mem_flatMap.1 e;let⟨k,i⟩:=cH.1 hd;have:=(h.eS k d i).jw (adn b);exact(this.2.2.2 f b).2
 .simp
def UE{a:af}{c:Int}{i:Nat}(h:(cX a c)[i]? =some b):0<=c/\c<(gR a).length:=by
 grind [cX,gR,br]
def VZ{a:af}(h:eR a)(e:rE a b c g):1<=b/\zR a.length c/\zR a.length g:=by
 let⟨d,j,f,i,k,l⟩:=e;have:=(h.eS _ d f).Qi (by simp[i]);grind
def Zh{a:af}(e:rE a b c g):cT a b=[]:=by
 obtain⟨d,f,h,i,-,-⟩:=e;grind [cT]
def acZ{e:af}{a q:Int}(f:rE e b c g)(h:rE e b a q):c=a/\g=q:=by
 obtain⟨d,-,l,-,m,n⟩:=f;obtain⟨i,-,g2,-,j,k⟩:=h;grind
variable{e:cZ}{s:St}{we:Nat->Nat->Option Kn}{h:ah}{j:an}{f:bW}{x:Instr}{p:eG}
def aac(d:nD e.bS e.di){j cE:Int}(H:fY e j cE l b):(∀u∈l,0<=u)/\0<=b:=by
 have T:=d.dk;have E:=λq i(h:e.di[i]? =some q)=>d.eS q (aZ h);have F:=λu f=>(UG T cE u f).1;have G:cE∈cT e.bS b->1<=b:=λh=>(It h).1;have A:=λb c g h=>VZ (b:=b) (c:=c) (g:=g) T h;unfold fY at H;unfold HL zR at*;grind
def abd(a:nD e.bS e.di)(c:p∈e.di)(H:uU e p x l b):∀u∈l,0<=u:=by
 have:=(a.eS p c).2.2;have S:=λd b h=>(aac a (j:=d) (cE:=x.cE) (b:=b) (l:=l) h).1;unfold uU at H;unfold zR at this;grind
def XG:∀(l:ab)(k:Nat),∀g∈l,g∈jW e x k l\/g∈fK e x k l
 |[],_,g,h=>by simp at h
 |y::l,k,g,h=>by
  simp only[jW,fK];rcases bo.1 h with a|h
  .grind [List.mem_cons_self]
  .rcases XG l (k+1) g h with a|a
   .grind [List.mem_cons_of_mem]
   grind [List.mem_cons_of_mem]
def FW.rtd(F:FW e h j f k)(c:ru k i)(b:0<=i)(g:1000<=bt f.aU i):VH h (j++[f]) (bt f.aU i):=by
 induction c with
 |vF a=>
  rcases a with a|a
  .grind [VH.bI,FW.bI]
  .exact(F.df _ b a).aP λl d=>dN _ d
 |qe a c d=>exact .Ef (d a (F.Gx _ b a)) (aZ (F.qe _ b a c)) (F.Gx _ b a) g
def FW.afr(F:FW e h j f k)(g:∀i,0<=i->(k.r i).bI<=0)(c:ru k i)(b:0<=i)(d:1000<=bt f.aU i):VH h j (bt f.aU i):=by
 induction c with
 |vF a=>
  rcases a with a|a
  .have:=g _ b;omega
  .exact F.df _ b a
 |qe a c l=>exact .Ef (l a (F.Gx _ b a)) (aZ (F.qe _ b a c)) (F.Gx _ b a) d
def FW.wty(F:FW e h j f k)(l:∀g∈j,OL h g)(g:OL h f)(d:FC h)(a:0<=i)(c:0<(k.r i).lp->ru k i):YV e h (bt f.aU i) (k.r i).lp:=
 ⟨F.rB i a,λb=>⟨F.iH l g d (c b) a (F.T9 i a b),F.js i a (c b) b⟩⟩
def aaL(hd:0<=d){g:tq}:(ug d g).fr≠d:=by
 grind [ug]
end
section
variable{j:ab}{b:Nat}
def Md{d:cZ}{c:Instr}:∀{j:ab}{a b:Nat}{r:Int},j[b]? =some r->lB d c (a+b)=true->r∈fK d c a j
 |[],_,_,_,h,_=>by simp at h
 |y::j,a,0,r,h,e=>by simp at h;subst h;simp only[fK];rw[bn cB];exact cK
 |y::j,a,b+1,r,h,e=>by
  have f:=Md (d:=d) (c:=c) (j:=j) (a:=a+1) (b:=b) (sp h) cB;grind [fK,List.mem_cons_of_mem]
def aaq{c:bW}{w:Int}(h:(dQ c j)[b]? =some w):∃r,j[b]? =some r/\w=bt c.aU r:=by
 grind [dQ]
def Gt{k:Kn}{r:Int}(h:j[b]? =some r):(qA k j)[b]? =some (k.r r).lp:=by grind [qA]
def Ir{a b v:Int}(h:a.toNat≠b.toNat):bt (gX j a v) b=bt j b:=by simp[bt,gX,dU h]
variable{d:cZ}{s e:St}{we:Nat->Nat->Option Kn}{h:an}{c:bW}
def WG(fl:∀(aa:Nat)(ac:eG),d.di[aa]? =some ac->Ba d ac (we aa))(N:eu d s)(hf:s.bq=h++[c])(J:VS d we s)
 (hM:pb d s c (fF d c) (cL c.aU c.bI (cO d (fF d c))))(y:e=eD d s h c (fF d c) (cL c.aU c.bI (cO d (fF d c))))(be:eu d e):VS d we e:=by
 have hF:iI d c:=N.bq c (by rw[hf];simp)
 let⟨ac,hp,aQ,hP,a7,hI⟩:=hF.Ky N.iG
 let⟨u,hb,F⟩:=J.jO h c hf
 have aaO:=fl _ ac hp
 generalize fF d c=x at*
 have lr:=hF.lr;have lo:=hF.lo;have lh:=hF.lh
 rw[aQ]at lr lo lh
 have Z:∀r∈x.aO,0<=r/\r<u.aU.length/\r<c.bI.length:=λr v=>by have:=hI.aO r v;rw[F.aT];omega
 have aE:∀r∈cO d x,0<=r/\r<u.aU.length/\r<c.bI.length:=λr v=>Z r (wV v)
 have bl:=hI.bH
 have ar:=JQ (aU:=c.aU) (cO d x) c.bI λr v=>⟨(aE r v).1,(aE r v).2.2⟩
 have au:=my c.aU (cO d x) c.bI
 have T1:=TR (aU:=c.aU) (cO d x) u c.bI F.bI aE
 have a_:=hM.nn
 have aw:=hM.bH
 have nil:cO d x=[]->cL c.aU c.bI (cO d x)=c.bI:=λm=>by rw[m];rfl
 generalize ax:cL c.aU c.bI (cO d x)=bI at*
 have ol:=OL.of N
 have aH:OL s.aR c:=ol c (by rw[hf];simp)
 have ag:∀I∈h,OL s.aR I:=λI R=>ol I (by rw[hf];exact dN _ R)
 have hc:FC s.aR:=FC.of N.aR
 have T:FC e.aR:=FC.of be.aR
 have az:=OL.of be
 have bz:=hF.pc
 have F1:(∀r∈cO d x,0<=(u.r r).lp)->FW d s.aR h {c with bI:=bI} (fZ u (cO d x))/\(∀b,0<=b->(fZ u (cO d x)).r b={u.r b with bI:=bt bI b}):=λht=>by
  have aj:=T1 λr v=>by
   have q:=(aE r v).1;rcases yh 0 (u.r r).lp with m|m
   .exact bR ⟨V,F.T9 r q m⟩
   .have:=ht r v;exact bC ⟨V,F.rB r q V⟩
  refine⟨F.oY aj ⟨Gp _ _,xX _ _⟩ λb q m=>.vF (bC ?_),aj⟩;rw[F.bI b q];have:=(ar b q).1;omega
 have ak:∀{j:an},e.bq=h++j->∀E∈h,OL e.aR E:=λR E Q=>az E (by rw[R];exact dN _ Q)
 have bf:∀{I:bW},e.bq=h++[I]->OL e.aR I:=λR=>az _ (by rw[R];simp)
 have mv:∀{I:bW}{kk:Kn}{aa:Int},FW d s.aR h I kk->YU s.aR e.aR->OL s.aR I->e.bq=h++[{I with pc:=aa}]->FW d e.aR h {I with pc:=aa} kk:=λG st o1 R=>(G.pW ag o1 hc (ak R) (λb q m=>bf R b q m) T st).pc
 have aA:∀{I:bW}{kk:Kn}{H Y ay:Int},FW d s.aR h I kk->I.aU=c.aU->I.bI.length=c.bI.length->OL s.aR I->bt I.bI x.bH<=0->e.bq=h++[I.cG x.bH H ay]->YU s.aR e.aR->(Y=0->H<1000)->(0<Y->1000<=H)->(0<ay->0<Y->DT d (bu e.aR H).js Y)->FW d e.aR h (I.cG x.bH H ay) (kk.dY x.bH Y ay):=λ{I kk H Y ay} G er eo o1 q R st t0 t1 tt=>by
  have hd:0<=x.bH/\x.bH<I.aU.length/\x.bH<I.bI.length:=by rw[er,eo];omega
  exact(G.pW ag o1 hc (ak R) (OL.aeN hd q (bf R)) T st).cG hd t0 t1 tt
 have P:=hI.op
 have ap:x.op≠21->∃k',yl d ac u x k'/\∀aa∈uA x c.pc.toNat,∃S,we c.fQ.toNat aa.toNat=some S/\vz k' S:=aaO.qy _ x u a7 hb
 have kH:∀{I:bW}{k':Kn}{aa:Int},(∀z∈uA x c.pc.toNat,∃S,we c.fQ.toNat z.toNat=some S/\vz k' S)->aa∈uA x c.pc.toNat->e.bq=h++[I]->I.bH=c.bH->I.fQ=c.fQ->I.pc=aa->YU s.aR e.aR->HT d e.aR->FW d e.aR h I k'->VS d we e:=λL hm R hd bb m st hh G=>by
  let⟨S,D,C⟩:=L _ hm;exact J.of1 hf ag (ak R) hc T st hd (by rw[bb]) R hh ⟨S,by rw[m,bb];exact D,G.Xb C⟩
 have en:(((c.pc.toNat:Nat):Int)+1)=c.pc+1:=V
 have nx:¬(20<=x.op/\x.op<=24)->c.pc+1∈uA x c.pc.toNat:=λae=>by
  simp(disch:=omega) only[uA,aW,en];simp
 have ao:OL s.aR {c with bI:=bI}:=aH.iU λb q=>(ar b q).1
 have al:1<=x.aO.length->bt x.aO 0∈x.aO:=λD=>iS V V
 unfold mJ at P
 by_cases a6:x.op=22
 .let⟨k',z,L⟩:=ap V
  simp[yl,eD,cO,cL,a6]at z y ax
  subst y z ax
  exact kH L (aa:=x.cE) (by simp[uA,a6]) O O O O (λ_ _ _=>⟨O,O⟩) J.aR F.pc
 by_cases a3:x.op=14
 .let⟨k',z,L⟩:=ap V
  simp[yl,eD,cO,cL,a3]at z y ax P
  obtain⟨D,C,rfl⟩:=z
  have K:=Z _ (al V)
  let⟨U,A⟩:=hM.dup a3
  generalize bt x.aO 0=B at*
  subst y ax
  have W:yK s.aR (qv s.aR (bt c.aU B)):=yK.at1 U λ_=>⟨O,O⟩
  refine kH L (nx V) O O O O W.TO (J.aR.pW W T) ?_
  have G:FW d s.aR h {c with bI:=gX c.bI B (bt c.bI B+1)} (u.iJ B 1):=F.oY (λb q=>by
   grind [yL,ny,FW.bI]) ⟨rf,O⟩ λb q m=>by
    grind [ny,FW.bI,ru]
  refine mv G W.TO (λb q m=>?_) O
  simp only at m⊢
  rw[ny K.1 K.2.2 b q]at m
  split at m
  .rename_i M;rw[M];exact U
  .exact aH b q m
 by_cases a4:x.op=15
 .let⟨k',z,L⟩:=ap V
  simp[yl,eD,a4]at z y P
  obtain⟨D,rfl⟩:=z
  let⟨ad,A⟩:=Nn.1 P.1
  have et:cO d x=[ad]:=by simp[cO,a4,A]
  rw[et]at F1
  simp[A,fZ,bt]at D F1 y L
  rw[aW V]at F1
  subst y
  let⟨G,aj⟩:=F1 V
  have W:=(yK.jL _ s.aR [bt c.aU ad] bY).J yK.pG
  exact kH L (nx V) O O O O W.TO (J.aR.pW W T) (mv G W.TO ao O)
 by_cases bj:x.op=16\/x.op=17
 .let⟨k',z,L⟩:=ap V
  simp(disch:=omega) only[yl,eD,aW,bn]at z y P
  obtain⟨D,C,aa,bm,rfl⟩:=z
  have K:=Z _ (al P.1.1)
  have et:cO d x=[bt x.aO 0]:=by
   simp(disch:=omega) only[cO,aW,bn,abV P.1.1]
  have am:=hM.Ql bj
  unfold Gb at am
  obtain⟨U,aC,-,aD⟩:=am
  have X:∀r∈x.aO.drop 1,r∈x.aO:=λr v=>uf v
  generalize bt x.aO 0=B at*
  generalize x.aO.drop 1=kO at*
  have aB:bI=gX c.bI B (bt c.bI B -1):=by rw[<-ax,et];simp only[cL,bn U.1]
  have ka:∀b,0<=b->((u.iJ B (-1)).r b)={u.r b with bI:=bt bI b}:=λb q=>by
   rw[yL ⟨K.1,K.2.1⟩ q,aB,ny K.1 K.2.2 b q,F.bI b q];by_cases m:b=B
   .rw[bn m,bn m,m];rfl
   .rw[aW m,aW m,Int.add_zero]
  have kb:∀b,0<=b->((jN (u.iJ B (-1)) kO).r b)={u.r b with bI:=bt (fe bI kO) b}:=λb q=>by
   rw[Uj kO (u.iJ B (-1)) bI (λb q=>by rw[ka b q]) (λr v=>by rw[rf,au];exact Z r (X r v)) b q,ka b q]
  have av:ru u B:=.vF (bC D)
  have ai:∀b,0<=b->b∉kO->bt (fe bI kO) b=bt bI b:=λb q hm=>PA q kO bI λad A=>⟨(Z ad (X ad A)).1,by rw[au];exact(Z ad (X ad A)).2.2,λm=>hm (m▸A)⟩
  have G:FW d s.aR h {c with bI:=fe bI kO} (jN (u.iJ B (-1)) kO):=F.oY kb ⟨by rw[Pt,rf],by rw[uV];rfl⟩ λb q m=>by
   by_cases hm:b∈kO
   .exact .qe (by rw[C b hm];exact K.1) (by rw[C b hm];exact av)
   .rw[ai b q hm]at m;exact .vF (bC (by rw[F.bI b q];have:=(ar b q).1;omega))
  have aq:OL s.aR {c with bI:=fe bI kO}:=λb q m=>by
   by_cases hm:b∈kO
   .have hw:bt c.aU b∈dQ c kO:=gK.2 ⟨b,hm,O⟩;rw[<-aC]at hw;let⟨m1,m2⟩:=nT.1 hw;exact hc _ U _ m1 m2
   .simp only[ai b q hm]at m;exact ao b q m
  have W:yK s.aR e.aR:=by
   rw[y];split
   .exact yK.at1 U λae=>by simp at ae
   .exact yK.iZ N.aR U
  have z:∀b,0<=b->bt (if x.op=17 then gX u.eO B aa else u.eO) b<0->bt u.eO b<0/\(x.op=17->b≠B):=λb q m=>by
   split at m
   .rename_i af;have L:b≠B:=λM=>by
     subst M;rcases dJ b.toNat u.eO.length with aJ|aJ
     .rw[aa3 ⟨q,V⟩]at m;omega
     .unfold bt gX at m;rw[fH,jE (sp aJ)]at m;simp at m
    rw[Ir V]at m;exact⟨m,λ_=>L⟩
   .exact⟨m,λae=>absurd ae (by assumption)⟩
  have af:=nx V
  by_cases hh:(bu s.aR (bt c.aU B)).bT=1/\x.op=17
  .rw[bn hh]at y
   subst y
   exact kH L af O O O O W.TO (J.aR.pW W T) (mv (G.cC (by rw[uV];split<;>simp[jP,Kn.iJ,Kn.tj]) λb q m=>by
    let⟨M,d2⟩:=z b q m;exact(ny K.1 V b q).trans ((aW (d2 hh.2)).trans (F.kp b q M))) W.TO aq O)
  .rw[aW hh]at y
   subst y
   exact kH L af O O O O W.TO (J.aR.pW W T) (mv (G.cC (by rw[uV];split<;>simp[jP,Kn.iJ,Kn.tj]) λb q m=>F.kp b q (z b q m).1) W.TO aq O)
 by_cases bv:x.op=18
 .let⟨k',z,L⟩:=ap V
  simp(disch:=omega) only[yl,eD,aW,bn]at z y P
  obtain⟨D,-,C,rfl⟩:=z
  have K:=Z _ (al V)
  have et:cO d x=[bt x.aO 0]:=by
   simp(disch:=omega) only[cO,bn];let⟨ad,A⟩:=Nn.1 P.1;rw[A];rfl
  let⟨G,aj⟩:=F1 λr v=>by rw[et]at v;simp at v;rw[v];exact D
  subst y
  have X:lO x.op:=by unfold lO;omega
  have M:iV (bt c.aU (bt x.aO 0))=KA (u.r (bt x.aO 0)).lp:=by
   unfold iV KA;rcases yh 0 (u.r (bt x.aO 0)).lp with m|m
   .rw[bn m,bn (F.T9 _ K.1 m)]
   .have:=F.rB _ K.1 (show(u.r (bt x.aO 0)).lp=0 by omega);rw[aW V,aW V]
  refine kH L (nx V) O O O O (λ_ _ _=>⟨O,O⟩) J.aR ?_
  rw[<-et,M]
  refine aA G.pc O au ao (aw X) (by rw[M]) (λ_ _ _=>⟨O,O⟩) (F.rB _ K.1) (F.T9 _ K.1) λ_ ht=>F.js _ K.1 (.vF (bC ?_)) ht
  rw[F.bI _ K.1]
  have:=(ar _ K.1).2 (by rw[et];simp) (F.T9 _ K.1 ht)
  have:=Zi a_ (bt x.aO 0);omega
 by_cases a5:x.op=19
 .let⟨k',z,L⟩:=ap V
  simp(disch:=omega) only[yl,eD,aW,bn]at z y P
  obtain⟨D,C,Y,h3,h4,rfl⟩:=z
  have K:=Z _ (al V)
  have eo:=nil (by simp[cO,a5])
  let⟨U,aP⟩:=hM.tO a5
  generalize bt x.aO 0=B at*
  subst y
  have X:lO x.op:=by unfold lO;omega
  have aq:=jR P.2.1 aP
  have ai:=F.lG _ K.1 D C
  have av:=UE h3
  have hw:YV d s.aR (bt (bu s.aR (bt c.aU B)).bJ x.cE) Y:=J.aR _ U _ _ _ aq (by
   unfold FTy;rw[ai,bn (by unfold cF;omega)];exact h3)
  have af:=nx V
  refine kH L af O O O O (λ_ _ _=>⟨O,O⟩) J.aR ?_
  subst eo
  have am:=aA (I:={c with pc:=c.pc+1}) (H:=bt (bu s.aR (bt c.aU B)).bJ x.cE) (Y:=Y) (ay:=0) F.pc O O aH (aw X) O (λ_ _ _=>⟨O,O⟩) hw.1 (λht=>(hw.2 ht).1.1) λae=>absurd ae cD
  by_cases A:x.bH=B
  .rw[bn A];exact am
  .rw[aW A]
   have hd:0<=x.bH/\x.bH<u.aU.length:=by rw[F.aT];omega
   have M:=λb q=>Va (k:=u) (t:=Y) (o:=0) hd (i:=b) q
   have gr:∀b,0<=b->bt (bW.cG {c with pc:=c.pc+1} x.bH (bt (bu s.aR (bt c.aU B)).bJ x.cE) 0).aU b=if b=x.bH then bt (bu s.aR (bt c.aU B)).bJ x.cE else bt c.aU b:=λb q=>ny bl.1 (by show x.bH<(c.aU.length:Int);omega) b q
   refine am.tO ⟨hd.1,by rw[BH];exact hd.2⟩ ⟨K.1,λm=>A m.symm⟩ (by rw[M _ hd.1,bn O];exact⟨O,O⟩) (λb q=>?_) (by rw[M _ hd.1,bn O];exact(by decide:(-1:Int)<0)) ?_ (λ_ ht=>?_) λ_=>?_
   .rw[M b q];split
    .simp;omega
    .exact aaL hd.1
   .rw[gr B K.1,aW λm=>A m.symm];exact U.1
   .rw[M _ hd.1,bn O]at ht⊢
    rw[gr _ hd.1,bn O];exact(hw.2 ht).2
   .rw[gr B K.1,aW λm=>A m.symm,gr _ hd.1,bn O];exact aq
 by_cases aD:x.op=21
 .let⟨D,C,h3⟩:=aaO.xW _ x u a7 hb aD
  simp(disch:=omega) only[eD,aW,bn]at y P
  have K:=Z _ (al V)
  have eo:=nil (by simp[cO,aD])
  let⟨U,ai⟩:=hM.xW aD
  generalize bt x.aO 0=B at*
  subst y
  let⟨S,b1,b2⟩:=h3 (tH (cT d.bS x.cE) (bu s.aR (bt c.aU B)).js) (bu s.aR (bt c.aU B)).js (by
   have A:tH (cT d.bS x.cE) (bu s.aR (bt c.aU B)).js<(cT d.bS x.cE).length:=mB ⟨_,ai,bO⟩;rw[abp A];have:=List.findIdx_getElem (xs:=cT d.bS x.cE) (p:=λM=>M==(bu s.aR (bt c.aU B)).js) (w:=A);exact vw some (eq_of_beq this)) (by
   rcases yh (u.r B).lG 0 with m|m
   .exact bC m
   .exact bR (F.lG B K.1 C m).symm)
  refine J.of1 hf ag (ak O) hc T (λ_ _ _=>⟨O,O⟩) (by rfl) (by rfl) O J.aR ⟨S,b1,?_⟩
  rw[eo]
  exact((F.arm K.1 U.1 O).Xb b2).pc
 let⟨k',z,L⟩:=ap aD
 simp(disch:=omega) only[yl,aW]at z
 obtain⟨Y,A,-,U,z⟩:=z
 have nn:=abd N.iG.mN (aZ hp) A
 have aG:∀r∈x.aO,0<=(u.r r).lp:=λr v=>nn _ (gK.2 ⟨r,v,O⟩)
 let⟨G,aj⟩:=F1 λr v=>aG r (wV v)
 have bh:∀{b:Int},ru (fZ u (cO d x)) b->0<=b->ru u b:=λB q=>B.of (λb q m=>.vF (bC (by rw[aj b q]at m;simp only at m;rw[F.bI b q];have:=(ar b q).1;omega))) (λb q m=>.vF (bR (by rw[aj b q]at m;exact m))) (λb q _=>by rw[aj b q]) q
 have a2:∀a1:ab,qA u x.aO=a1->(∀M∈a1,M=0)->∀r∈x.aO,(u.r r).lp=0:=λa1 m hz r v=>hz _ (m▸gK.2 ⟨r,v,O⟩)
 have bi:∀r∈x.aO,(u.r r).lp≠0->ru u r:=λr v ht=>by
  have q:=(Z r v).1;have bg:r∈cO d x->ru u r:=λhm=>.vF (bC (by
   rw[F.bI r q];have:=(ar r q).2 hm (F.T9 r q (oh (aG r v)));have:=Zi a_ r;omega))
  by_cases bc:x.op=15\/x.op=6\/x.op=10\/x.op=11\/x.op=18\/x.op=23
  .exact bg (by unfold cO;rw[bn bc];exact v)
  by_cases h9:x.op=9\/x.op=24
  .have et:cO d x=jW d x 0 x.aO:=by unfold cO;rw[aW bc,aW V,bn h9]
   rcases XG (e:=d) (x:=x) x.aO 0 r v with m|m
   .exact bg (et▸m)
   .exact bh (U h9 r m) q
  exfalso;apply ht;simp(disch:=omega) only[uU,fY,aW]at A;(repeat' split at A)<;>first|exact a2 _ A bO r v|exact a2 _ A.2 bO r v|exact A.elim
 have av:∀r∈x.aO,YV d s.aR (bt c.aU r) (u.r r).lp:=λr v=>F.wty ag aH hc (Z r v).1 λht=>bi r v V
 have aI:∀(b:Nat)(H M:Int),(dQ c x.aO)[b]? =some H->(qA u x.aO)[b]? =some M->YV d s.aR H M:=λb H M D C=>by
  obtain⟨r,v,rfl⟩:=aaq D;rw[Gt v]at C;cases C;exact av r (aZ v)
 unfold uU at A
 by_cases aC:x.op=20
 .rw[bn aC]at A
  simp[eD,aC,lO,cO]at y z
  have eo:=nil (by simp[cO,aC])
  have aO:x.dh=0:=by have:=hI.dh;omega
  rw[bn aO]at z
  subst y z eo
  refine kH L (aa:=if bt c.aU (bt x.aO 0)=0 then x.cE else c.pc+1) ?_ O O O O (λ_ _ _=>⟨O,O⟩) J.aR F.pc
  simp(disch:=omega) only[uA,aW,bn,en];split<;>simp
 rw[aW aC]at A
 by_cases aK:x.op=23
 .rw[bn aK]at A
  rw[bn (bC aK)]at z
  obtain⟨hz,aN,rfl⟩:=z
  rw[aW V,aW V,bn V]at P
  have a0:=al V
  have K:=Z _ a0
  have wt:=av _ a0
  have aS:(u.r (bt x.aO 0)).lp=ac.bQ:=by
   have:=Gt (k:=u) (jR (l:=x.aO) (i:=0) V V);rw[A.1]at this;simpa using this.symm
  simp(disch:=omega) only[eD,aW]at y
  rcases adr h with m|⟨am,E,m⟩
  .subst m
   simp only[List.getLast?_nil]at y
   subst y
   exact⟨J.aR,λE m=>by simp at m,λB aB m=>by simp at m,λaF B aB m=>by simp at m⟩
  .rw[List.concat_eq_append]at m
   subst m
   simp only[List.getLast?_append,List.getLast?_singleton,Option.some_or,List.dropLast_concat]at y
   subst y
   have ai:s.bq=am++E::[c]:=by rw[hf];simp
   let⟨kq,Fq,bo,S,b1,b2⟩:=J.sus am.length E c (by rw[ai];simp) (by rw[ai];simp)
   rw[ai,List.take_left' O]at Fq
   have aq:=N.uK am.length E c (by rw[ai];simp) (by rw[ai];simp)
   have aL:=N.bq E (by rw[ai];simp)
   have aM:iV (bt c.aU (bt x.aO 0))=KA ac.bQ:=by
    unfold iV KA;rcases yh 0 ac.bQ with m|m
    .rw[bn m,bn (wt.2 V).1.1]
    .have:=nn _ (gK.2 ⟨_,a0,O⟩);have:=wt.1 V;rw[aW V,aW V]
   rw[aQ]at b2
   have aV:=aL.lr;have aT:=aL.lo
   refine J.of1 ai (λI R=>ag I (dN _ R)) (λI R=>az I (dN _ R)) hc T (λ_ _ _=>⟨O,O⟩) (by rfl) (by rfl) O J.aR ⟨S,b1,FW.Xb (k:=kq.dY c.bH ac.bQ (KA ac.bQ)) ?_ b2⟩
   rw[aM]
   exact Fq.cG ⟨aq.1,V,aq.2.1⟩ (λm=>wt.1 V) (λm=>(wt.2 V).1.1) λ_ m=>by rw[<-aS]at m⊢;exact(wt.2 m).2
 rw[aW aK]at A
 by_cases aL:x.op=24
 .rw[bn aL]at A
  rw[bn (bR aL)]at z
  obtain⟨hz,aN,rfl⟩:=z
  obtain⟨A,rfl⟩:=A
  simp[fY]at A
  let⟨E,Q,ts,te⟩:=A
  have K:dG d x.cE=E:=by simp[dG,Q]
  simp(disch:=omega) only[eD,aW,bn]at y
  subst y
  have am:=N.iG.eS E (aZ Q)
  have wl:(dQ c x.aO).length=E.aY.length:=by rw[<-ts];simp[dQ,qA]
  refine J.of1 hf ag (ak O) hc T (λ_ _ _=>⟨O,O⟩) (g:=cz d x.cE c.bH (dQ c x.aO)) O (by show(dG d x.cE).bQ=_;rw[K,aQ,te]) O J.aR ?_
  let⟨k0,c0,c1⟩:=(fl _ E Q).first
  refine⟨k0,c0,FW.Xb ?_ c1⟩
  refine FW.bF K am.aU.1 wl (λM A=>((N.iG.mN.eS E (aZ Q)).2.1 M A).1) (λb H M D C=>aI b H M D (ts▸C)) λb hi q aP=>?_
  let⟨r,v⟩:=dV x.aO b.toNat (by have:(dQ c x.aO).length=x.aO.length:=(by simp[dQ]);omega)
  have aX:bt (dQ c x.aO) b=bt c.aU r:=by simp[bt,dQ,v]
  have aS:r∈fK d x 0 x.aO:=Md v (by
   unfold lB;rw[K,Xd];exact⟨b,hi,eX⟩)
  have aM:=U (bR aL) r aS
  have r0:=(Z r (aZ v)).1
  rw[aX]
  refine(FW.afr G hz aM r0 (F.T9 r r0 ?_):)
  let⟨aF,hj⟩:=cH.1 hi
  obtain⟨⟨M,_,aV,bs⟩,-⟩:=am.df aF b hj
  have C:=Gt (k:=u) v
  rw[ts,aV]at C
  have:=aG r (aZ v)
  cases C;omega
 simp(disch:=omega) only[fY,aW]at A z
 have af:=nx V
 have aY:∀(H:Int)(cy:ab),0<=x.op/\x.op<6->Y=0->H<1000->e={s with cy:=cy,bq:=h++[bW.cG {c with bI:=bI,pc:=c.pc+1} x.bH H 0]}->VS d we e:=λH cy ho t0 hw y=>by
  have X:lO x.op:=by unfold lO;omega
  have:=hI.dh;rw[bn X,bn V]at z;obtain⟨aq,rfl⟩:=z;subst t0 y;exact kH L af O O O O (λ_ _ _=>⟨O,O⟩) J.aR (aA G.pc O au ao (aw X) O (λ_ _ _=>⟨O,O⟩) (λ_=>hw) (λae=>absurd ae cD) λae=>absurd ae cD)
 by_cases e0:x.op=0
 .simp(disch:=omega) only[eD,aW,bn]at y A P
  exact aY _ _ V A.1 V y
 by_cases e1:x.op=1\/x.op=2\/x.op=3\/x.op=4
 .simp(disch:=omega) only[eD,aW,bn]at y A
  exact aY _ _ V A.1 (oh ((Qq x.op (bt c.aU (bt x.aO 0)) (bt c.aU (bt x.aO 1))).2)) y
 by_cases e5:x.op=5
 .simp(disch:=omega) only[eD,aW,bn]at y A P
  have a0:=al V
  exact aY _ _ V A.1 ((av _ a0).1 (a2 _ A.2 bO _ a0)) y
 by_cases e6:x.op=6
 .simp(disch:=omega) only[eD,aW,bn]at y A P
  have X:lO x.op:=by unfold lO;omega
  rw[bn X]at z
  obtain⟨aq,rfl⟩:=z
  have bp:=(It A.1).1
  have a0:x.cE<cF d:=by unfold cF;omega
  have aN:FTy d x.cE=qA u x.aO:=by unfold FTy;rw[bn a0,A.2]
  have aT:DT d x.cE Y:=by unfold DT;rw[bn a0];exact A.1
  have bd:∀(B:Nat)(h':ah)(cC:ab),Xi s.aR h' B x.cE (dQ c x.aO)->(∀b,0<=b->bt (if x.dh=0 then fZ u (cO d x)else{fZ u (cO d x)with eO:=gX (fZ u (cO d x)).eO (x.dh -1) (-1)}:Kn).eO b<0->bt cC b=0)->e={s with aR:=h',bq:=h++[bW.cG {c with bI:=bI,pc:=c.pc+1,cC:=cC} x.bH (1000+(B:Int)) 1]}->VS d we e:=λB h' cC ai hh y=>by
   subst y;refine kH L af O O O O ai.TO (ai.ht J.aR T λb H M D C=>aI b H M D (aN▸C)) ?_;have m1:KA Y=1:=bn V;rw[m1];have G2:=G.cC (by split<;>simp[jP]) hh;refine aA ?_ O au ao (aw X) O ai.TO (λm=>V) (λ_=>V) λ_ _=>?_
   .split<;>rename_i hi<;>simp only[hi,yi,nv]at G2<;>exact G2.pc
   .have:bu h' (1000+(B:Int))=⟨1,x.cE,dQ c x.aO⟩:=by unfold bu;rw[sL,ai.bF];rfl
    rw[this];exact aT
  by_cases hh:x.dh≠0/\bt c.cC (x.dh -1)≠0
  .have bx:(c.cC.length:Int)=ac.aU:=lh
   have a8:=iS (l:=c.cC) (i:=x.dh -1) V V
   have ba:1000<=bt c.cC (x.dh -1):=by
    rcases hF.cC _ a8 with m|m
    .exact absurd m hh.2
    .exact m
   obtain⟨aJ,bk,bw⟩:jJ s.aR (ix (bt c.cC (x.dh -1))):=iC λL=>by
    have D:=N.qV _ L;rw[hf,iT,lU]at D;have C:=wJ (l:=c.cC) (f:=ix (bt c.cC (x.dh -1))) (by rw[lE ba];exact a8);have h3:=zY h (ix (bt c.cC (x.dh -1)));omega
   refine bd (ix (bt c.cC (x.dh -1))) _ (gX c.cC (x.dh -1) 0) (Xi.dY bk V) (λb q m=>?_) ?_
   .rw[aW hh.1]at m
    rw[ny V V b q]
    split
    .rfl
    .rename_i a9
     refine F.kp b q ?_
     have e':bt (gX (fZ u (cO d x)).eO (x.dh -1) (-1)) b<0:=m
     rw[Ir V,xX]at e';exact e'
   .rw[y,bn hh,lE ba]
  .refine bd (fG s.aR) _ c.cC (Xi.kD N.aR) (λb q m=>?_) ?_
   .split at m
    .exact F.kp b q (by rw[xX]at m;exact m)
    .rename_i hi
     by_cases a9:b=x.dh -1
     .subst a9
      rcases gJ (bt c.cC (x.dh -1)=0)with m|m
      .exact m
      .exact absurd ⟨hi,m⟩ hh
     .refine F.kp b q ?_
      have e':bt (gX (fZ u (cO d x)).eO (x.dh -1) (-1)) b<0:=m
      rw[Ir V,xX]at e';exact e'
   .rw[y,aW hh]
 have aO:x.dh=0:=by have:=hI.dh;omega
 rw[bn aO]at z
 by_cases e9:x.op=9
 .simp(disch:=omega) only[eD,aW,bn]at y A
  have X:lO x.op:=by unfold lO;omega
  rw[bn X]at z
  obtain⟨aq,rfl⟩:=z
  let⟨E,Q,ts,te⟩:=A
  have K:dG d x.cE=E:=by simp[dG,Q]
  subst y
  have am:=N.iG.eS E (aZ Q)
  have wl:(dQ c x.aO).length=E.aY.length:=by rw[<-ts];simp[dQ,qA]
  refine J.of2 hf ag (ak O) hc T (λ_ _ _=>⟨O,O⟩) (by rfl) (by rfl) O J.aR ?_ ?_
  .let⟨S,b1,b2⟩:=L _ af
   refine⟨_,G.pc,aq,S,b1,?_⟩
   show vz ((fZ u (cO d x)).dY x.bH (dG d x.cE).bQ (KA (dG d x.cE).bQ)) S
   rw[K,<-te];exact b2
  .let⟨k0,c0,c1⟩:=(fl _ E Q).first
   refine⟨k0,c0,FW.Xb ?_ c1⟩
   refine FW.bF K am.aU.1 wl (λM A=>((N.iG.mN.eS E (aZ Q)).2.1 M A).1) (λb H M D C=>aI b H M D (ts▸C)) λb hi q aP=>?_
   let⟨r,v⟩:=dV x.aO b.toNat (by have:(dQ c x.aO).length=x.aO.length:=(by simp[dQ]);omega)
   have aX:bt (dQ c x.aO) b=bt c.aU r:=by simp[bt,dQ,v]
   have aS:r∈fK d x 0 x.aO:=Md v (by
    unfold lB;rw[K,Xd];exact⟨b,hi,eX⟩)
   have aM:=U (bC e9) r aS
   have r0:=(Z r (aZ v)).1
   rw[aX]
   refine FW.rtd (f:={c with bI:=bI,pc:=c.pc+1}) G.pc aM r0 (F.T9 r r0 ?_)
   let⟨aF,hj⟩:=cH.1 hi
   obtain⟨⟨M,_,aV,bs⟩,-⟩:=am.df aF b hj
   have C:=Gt (k:=u) v
   rw[ts,aV]at C
   have:=aG r (aZ v)
   cases C;omega
 by_cases aX:x.op=10
 .simp(disch:=omega) only[eD,aW,bn]at y A P
  have X:lO x.op:=by unfold lO;omega
  rw[bn X]at z
  obtain⟨aq,rfl⟩:=z
  let⟨E,aB,Q,ts,te⟩:=A
  obtain⟨⟨q',bo,aJ,aF⟩,-⟩:=P
  have bp:=(VZ N.iG.mN.dk te).1
  have eg:cF d+x.cE -cF d=x.cE:=V
  have K:dG d (cF d+x.cE -cF d)=E:=by rw[eg];simp[dG,Q]
  have aN:FTy d (cF d+x.cE)=qA u x.aO:=by unfold FTy;rw[aW V,K,ts];simp
  have aT:DT d (cF d+x.cE) Y:=by
   unfold DT;rw[aW V,eg];exact⟨E,aB,Q,by rw[ts];simp,te⟩
  have ai:Xi s.aR (kD s.aR (fG s.aR) ⟨1,cF d+x.cE,dQ c x.aO⟩) (fG s.aR) (cF d+x.cE) (dQ c x.aO):=Xi.kD N.aR
  subst y
  refine kH L af O O O O ai.TO (ai.ht J.aR T λb H M D C=>aI b H M D (aN▸C)) ?_
  have m1:KA Y=1:=bn V
  rw[m1]
  refine aA G.pc O au ao (aw X) O ai.TO (λm=>V) (λ_=>V) λ_ _=>?_
  simp only[bu,sL,ai.bF];exact aT
 by_cases aM:x.op=11
 .simp(disch:=omega) only[eD,aW,bn]at y A P
  have X:lO x.op:=by unfold lO;omega
  rw[bn X]at z
  obtain⟨aq,rfl⟩:=z
  let⟨M,ad,ts,te⟩:=A
  obtain⟨aF,a0,a8,aS,ai,-⟩:=hM.apply aM
  have g0:=jR (l:=x.aO) (i:=0) V V
  have g1:=jR (l:=x.aO) (i:=1) V V
  have y0:=Gt (k:=u) g0
  have y1:=Gt (k:=u) g1
  rw[ts]at y0 y1
  have y0:(u.r (bt x.aO 0)).lp=M:=sp y0.symm
  have y1:(u.r (bt x.aO 1)).lp=ad:=sp y1.symm
  have w0:=av _ (aZ g0)
  have w1:=av _ (aZ g1)
  rw[y0]at w0;rw[y1]at w1
  have u1:=(VZ N.iG.mN.dk te).1
  have tg:=(w0.2 V).2
  generalize bt c.aU (bt x.aO 0)=H at*
  generalize bt c.aU (bt x.aO 1)=wa at*
  unfold DT at tg
  rw[aW V]at tg
  let⟨E,aB,Q,aN,aP⟩:=tg
  obtain⟨rfl,rfl⟩:=acZ te aP
  have K:dG d ((bu s.aR H).js -cF d)=E:=by simp[dG,Q]
  rw[K]at aS ai
  subst y
  have W:=yK.iZ N.aR aF
  have am:=N.iG.eS E (aZ Q)
  have aT:OL _ {c with bI:=bI,pc:=c.pc+1}:=λb q m=>az {c with bI:=bI,pc:=c.pc+1} bO b q m
  have aJ:E.aY=E.aY.dropLast++[ad]:=by
   let⟨j,m⟩:=List.getLast?_eq_some_iff.1 aN;rw[m];simp
  have aV:=az (cz d ((bu s.aR H).js -cF d) x.bH ((bu s.aR H).bJ++[wa])) bO
  have el:E.df=[]:=cp.1 ai
  refine J.of2 hf ag (ak O) hc T W.TO (by rfl) (by rfl) O (J.aR.pW W T) ?_ ?_
  .let⟨S,b1,b2⟩:=L _ af
   refine⟨_,G.pc.pW ag (λb q m=>ao b q m) hc (ak O) (λb q m=>aT b q m) T W.TO,aq,S,b1,?_⟩
   show vz ((fZ u (cO d x)).dY x.bH (dG d ((bu s.aR H).js -cF d)).bQ (KA (dG d ((bu s.aR H).js -cF d)).bQ)) S
   rw[K];exact b2
  .let⟨k0,c0,c1⟩:=(fl _ E Q).first
   refine⟨k0,c0,FW.Xb ?_ c1⟩
   have wl:((bu s.aR H).bJ++[wa]).length=E.aY.length:=eX
   have pn:∀M∈E.aY,0<=M:=λM A=>((N.iG.mN.eS E (aZ Q)).2.1 M A).1
   refine FW.bF K am.aU.1 wl pn (λb w' u' D C=>?_) (by rw[el];simp)
   have old:YV d s.aR w' u':=by
    rw[aJ]at C;have a9:E.aY.dropLast.length=(bu s.aR H).bJ.length:=eX;rcases dJ b (bu s.aR H).bJ.length with m|m
    .rw[dZ m]at D;rw[dZ V]at C;exact J.aR H aF b w' u' D (by unfold FTy;rw[aW V,K];exact C)
    .rw[dP m]at D;rw[dP V]at C;have:b -(bu s.aR H).bJ.length=0:=by have:=br D;simp at this;omega
     rw[this]at D;rw[show b -E.aY.dropLast.length=0 by omega]at C;simp at D C;subst D;subst C;exact w1
   refine old.pW W.TO λhp=>?_
   have bm:=pn u' (aZ C)
   have ew:bt (cz d ((bu s.aR H).js -cF d) x.bH ((bu s.aR H).bJ++[wa])).aU b=w':=by
    simp only[cz,bt,fH];rw[dZ (by have:=br D;simpa using this)];simp[D]
   have:=aV b V (by
    simp only[cz,bt,fH];rw[dZ (by rw[mf];have:=br D;simpa using this)];simp only[fq];rw[EE _ _ _ _ _ D,K,el];simp[iV,hp])
   rw[ew]at this;exact this
 simp(disch:=omega) only[aW]at A
end
section
variable{a:cZ}{s:St}{we:Nat->Nat->Option Kn}{dL:Int}
def VS.XU(V:VS a we s)(n:Int):VS a we {s with eC:=n}:=⟨V.aR,V.first,V.jO,V.sus⟩
theorem VS.qy(i:∀(n:Nat)(p:eG),a.di[n]? =some p->Ba a p (we n))(d:eu a s)(c:VS a we s):VS a we (qy a s):=by
 have b:=O8 d;by_cases m:s.eC=3
 .let⟨j,h,l⟩:=d.split m;unfold Go.Proofs.YtbbbdejieenniaaGreat.qy at b⊢;rw[aW V]at b⊢;have f:s.bq.getLast?=some h:=cB;have g:s.bq.dropLast=j:=cB;rw[f,g]at b⊢;simp only at b⊢;split
  .exact c.XU 1
  .rename_i k;rw[aW k]at b;split
   .rename_i e;rw[bn e]at b;exact WG i d l c e O b
   .exact c.XU 2
 .grind [ua]
theorem VS.jC(k:∀(n:Nat)(p:eG),a.di[n]? =some p->Ba a p (we n))(c:iB a):VS a we (jC a dL):=by
 let⟨p,d⟩:=dV a.di 0 c.mN.aT.1;have e:dG a 0=p:=by grind [dG]
 have m:=c.mN.first p d;let⟨r,h,i⟩:=(k 0 p d).first;refine⟨λz⟨_,u,o,_⟩=>by simp[Go.Proofs.YtbbbdejieenniaaGreat.jC]at o,λx g=>by simp[Go.Proofs.YtbbbdejieenniaaGreat.jC]at g;subst g;show(dG a 0).bQ=0;rw[e];exact m.2,λb f j=>?_,λw s t _ v=>?_⟩
 .have:b=[]/\cz a 0 0 []=f:=by
   have e:[cz a 0 0 []]=b++[f]:=j;cases b with
   |nil=>simpa using e
   |cons l q=>simp at e
  obtain⟨rfl,rfl⟩:=this;exact⟨r,h,FW.Xb (FW.bF e (c.eS p (aZ d)).aU.1 cB cB (λq A y l=>by simp at l) λq _ _ l=>by simp at l;omega) i⟩
 .grind [br,jC]
theorem VS.bA(b:∀(n:Nat)(p:eG),a.di[n]? =some p->Ba a p (we n))(c:iB a)(d:0<=dL/\dL<=40):∀n,VS a we (bA a n (Go.Proofs.YtbbbdejieenniaaGreat.jC a dL))
 |0=>VS.jC b c
 |n+1=>by rw[xV];exact(VS.bA b c d n).qy b (xU n (AT c d))
theorem VS.j8(l:eu a s)(h:VS a we s){j:Nat}{f:bW}(c:s.bq[j]? =some f):∃k,we f.fQ.toNat f.pc.toNat=some k/\k.aU.length=f.aU.length/\∀r,0<=r->(k.r r).bI=bt f.bI r\/∃g,s.bq[j+1]? =some g/\r=g.bH:=by
 rcases dJ (j+1) s.bq.length with m|m
 .let⟨g,d⟩:=dV s.bq (j+1);let⟨k,F,n,p,b1,b2⟩:=h.sus j f g c d;refine⟨p,b1,by rw[b2.aT,BH,F.aT],λr b=>?_⟩;by_cases e:r=g.bH
  .exact bR ⟨g,d,e⟩
  .refine bC ?_;rw[b2.bI r b];have o:=l.uK j f g c d;have i:=l.bq f (aZ c);have n:=i.lr;have q:=i.lo;rw[Va ⟨o.1,by rw[F.aT];omega⟩ b,aW e];unfold ug;split<;>exact F.bI r b
 .have e:s.bq=s.bq.take j++[f]:=by
   have:=bX c;rw[rO V]at this;exact this
  let⟨k,d,F⟩:=h.jO _ f e;exact⟨k,d,F.aT,λr b=>bC (F.bI r b)⟩
end
section
variable{l:afE}{r:tq}{o e:Nat}{new:ae}{g:tq->tq}
def BG(r:tq):ae:=[.i r.lp,.i r.bI,.t r.df,.i r.lG,.i r.fr,.i r.Ef]
def NM(l:afE):ae:=(l.map BG).flatten
def KJ(l:afE):∀a∈l.map BG,a.length=6:=λa h=>by obtain⟨r,_,rfl⟩:=gK.1 h;rfl
theorem uB(l:afE):(NM l).length=l.length*6:=by unfold NM;rw[dS (KJ l),jX]
def YI{i:Nat}(h:l[i]? =some r){j:Nat}{c:Ce}(a:(BG r)[j]? =some c):(NM l)[i*6+j]? =some c:=
 jt (KJ l) cB a
def YJ{i:Nat}{a:tq}(h:l[i]? =some r)(b:o+new.length<=6)(c:kJ (BG r) o new=BG a):kJ (NM l) (i*6+o) new=NM (l.set i a):=by
 unfold NM;rw[Ar _ i (BG r) o new (KJ l) cB b,c,No]
theorem Bv{k:Kn}{i:Int}(a:0<=i)(b:i<k.aU.length):k.aU[i.toNat]? =some (k.r i):=by
 grind [dV,Kn.r]
def XJ{k:Kn}{i:Int}(a:0<=i)(b:i<k.aU.length):(k.tj i g).aU=k.aU.set i.toNat (g (k.r i)):=by
 have h:=Bv a b;unfold Kn.tj;apply ft;grind [List.getElem?_set_self,List.getElem?_set_ne]
@[grind cases] structure me (ro:ag) (m:bg) (k b:Nat) (rs ks:E) (kn:Kn):Prop where
 bV:dF m b zO [.s rs,.s ks]
 jv:ro b=k
 aU:iE ro m rp 6 k rs (NM kn.aU)
 eO:iE ro m bB 1 k ks (kn.eO.map Ce.i)
 jw:1<=kn.aU.length/\kn.aU.length<=2000
 zy:kn.eO.length=kn.aU.length
section
variable{c f:ag}{m d:bg}{k b:Nat}{a ks:E}{kn:Kn}{i:Int}{p:Nat->Prop}
theorem me.GN(h:me c m k b a ks kn):a.len=kn.aU.length:=by grind [me.aU,iE.aT,uB]
theorem me.XC(h:me c m k b a ks kn):ks.len=kn.aU.length:=by grind [me.eO,iE.aT,me.zy]
def me.adf(h:me c m k b a ks kn):a.cap≠0:=by grind [me.aU,iE.le,me.GN,me.jw]
def me.ad2(h:me c m k b a ks kn):ks.cap≠0:=by grind [me.eO,iE.le,me.XC,me.jw]
def iE.adH{d k:Nat}{s:E}{l:ae}(h:iE c m e d k s l)(f:s.cap≠0):∃b a tail,s=.mk b 0 s.len a/\c b=k/\dF m b e (l++tail):=by
 grind [iE.bt]
def dF.Z0{b a c:Nat}{l g:ae}(h:dF m b e l)(d:dF m a c g)(i:e≠c):b≠a:=λf=>by
 subst f;have:=h.symm.trans d;grind
def me.nes(h:me c m k b a ks kn):b≠a.bz/\b≠ks.bz/\a.bz≠ks.bz:=by
 obtain⟨b1,i,t1,f,_,d⟩:=iE.adH h.aU h.adf;obtain⟨b2,j,t2,g,_,e⟩:=iE.adH h.eO h.ad2;rw[f,g];exact⟨dF.Z0 h.bV d cD,dF.Z0 h.bV e cD,dF.Z0 d e cD⟩
def me.fO(h:me c m k b a ks kn)(e:dI p c m f d)(g:¬p k):me f d k b a ks kn:=
 by constructor<;>grind [me.bV,dF.congr,dI.fR,dF.lt,me.jv,dI.jv,me.aU,iE.fO,me.eO,me.jw,me.zy]
def me.ext(h:me c m k b a ks kn)(x:D m d):me c d k b a ks kn:=
 by constructor<;>grind [me.bV,dF.ext,me.jv,me.aU,iE.fR,D.bG,iE.bz,me.eO,me.jw,me.zy]
def me.dx(h:me c m k b a ks kn)(l:0<=i)(n:i<kn.aU.length):aS m a.bz (a.off+i.toNat*6)=some (vi (kn.r i).lp)/\aS m a.bz (a.off+i.toNat*6+1)=some (vi (kn.r i).bI)/\aS m a.bz (a.off+i.toNat*6+2)=some (vb (kn.r i).df)/\
 aS m a.bz (a.off+i.toNat*6+3)=some (vi (kn.r i).lG)/\aS m a.bz (a.off+i.toNat*6+4)=some (vi (kn.r i).fr)/\aS m a.bz (a.off+i.toNat*6+5)=some (vi (kn.r i).Ef):=by
 have o:=h.aU.kZ
 have g:=λ{d:Nat}{f:Ce}(hj:(BG (kn.r i))[d]? =some f)=>o _ _ (YI (Bv l n) hj)
 have e:∀d,a.off+i.toNat*6+d=a.off+(i.toNat*6+d):=cB
 rw[e 1,e 2,e 3,e 4,e 5]
 exact⟨g (d:=0) O,g (d:=1) O,g (d:=2) O,g (d:=3) O,g (d:=4) O,g (d:=5) O⟩
def me.wr(h:me c m k b a ks kn)(d:0<=i)(e:i<kn.aU.length){o n:Nat}(f:o+n<=6):jb m a.bz (a.off+i.toNat*6+o) n:=by
 have:=h.aU.wr (o:=i.toNat*6+o) (n:=n) (by rw[uB];omega);grind [Nat.add_assoc]
def me.cG(h:me c m k b a ks kn)(d:0<=i)(e:i<kn.aU.length)(j:o+new.length<=6)(f:kJ (BG (kn.r i)) o new=BG (g (kn.r i))):me c (aV m a.bz (a.off+i.toNat*6+o) new) k b a ks (kn.tj i g):=by
 have⟨l,p,n⟩:=h.nes;refine⟨h.bV.congr (cq _ _ _ _ l),h.jv,?_,h.eO.fR (λ_=>cq _ _ _ _ n.symm) (λ_=>O),by rw[lR];exact h.jw,by rw[lR];exact h.zy⟩;rw[XJ d e,<-YJ (Bv d e) j f,iv];exact h.aU.dY (by rw[uB];omega)
def me.qF(h:me c m k b a ks kn)(d:∀b,m.size<=b->c b=0)(new:ae):dI (·=k) c m c (aV m a.bz o new):=dI.aV d (h.aU.bz h.adf).2 _ _
def me.adY(h:me c m k b a ks kn)(d:0<=i)(e:i<kn.aU.length):aS m ks.bz (ks.off+i.toNat*1)=some (vi (bt kn.eO i)):=by
 have:=h.eO.kZ i.toNat (.i (bt kn.eO i)) (by rw[eE,jR d cB];rfl);rw[nu];exact this
def me.wrK(h:me c m k b a ks kn)(d:0<=i)(e:i<kn.aU.length):jb m ks.bz (ks.off+i.toNat*1) 1:=by grind [me.eO,iE.SE,me.zy]
theorem me.ade(h:me c m k b a ks kn)(d:0<=i)(g:i<kn.aU.length)(v:Int):me c (aV m ks.bz (ks.off+i.toNat*1) [.i v]) k b a ks {kn with eO:=gX kn.eO i v}:=by
 have⟨j,e,f⟩:=h.nes;exact⟨h.bV.congr (cq _ _ _ _ e),h.jv,h.aU.fR (λ_=>cq _ _ _ _ f) (λ_=>O),h.eO.gX d cB v,h.jw,by rw[jP];exact h.zy⟩
def me.SX(h:me c m k b a ks kn)(d:∀b,m.size<=b->c b=0)(o:Nat)(new:ae):dI (·=k) c m c (aV m ks.bz o new):=dI.aV d (h.eO.bz h.ad2).2 _ _
end
@[grind cases] structure nY (kn:Kn) (n:Nat) (B:Int):Prop where
 aT:kn.aU.length=n
 bI:∀i,0<=i->0<=(kn.r i).bI/\(kn.r i).bI<=B
 fr:∀i,0<=i->(kn.r i).fr<n
 lG:∀i,0<=i->-1<=(kn.r i).lG/\(kn.r i).lG<=1000
 CM:∃rank:Int->Nat,∀i,0<=i->0<=(kn.r i).fr->rank (kn.r i).fr<rank i
end
section
variable{f:tq->tq}
variable{j r:ag}{m p:bg}{k b n:Nat}{h ks:E}{kn q:Kn}{i d t o B:Int}{l:tq->tq}
def me.jB(a:me j m k b h ks kn):aS m b 0=some h.v/\aS m b 1=some ks.v:=⟨a.bV.dx 0,a.bV.dx 1⟩
def Qd(a:0<=i)(b:i<kn.aU.length)(c:l (kn.r i)=kn.r i):kn.tj i l=kn:=by
 have e:(kn.tj i l).aU=kn.aU:=by
  rw[XJ a b,c];apply ft;grind [List.getElem?_set_self,Bv,List.getElem?_set_ne]
 cases kn;simp only[Kn.tj]at e⊢;rw[e]
theorem Bz:(kn.tj i f).tj i l=kn.tj i λr=>l (f r):=by
 grind [Kn.tj,Function.comp_def]
def O1(a:0<=i)(b:i<kn.aU.length)(c:f (kn.r i)=l (kn.r i)):kn.tj i f=kn.tj i l:=by
 unfold Kn.tj;congr 1;apply ft;grind [Bv]
def vz.ok(h:nY kn n B)(w:vz kn q):nY q n B:=by
 let⟨b,c⟩:=h.CM;refine⟨w.aT.trans h.aT,λi a=>by rw[w.bI i a];exact h.bI i a,λi a=>?_,λi a=>?_,b,λi a e=>?_⟩
 .grind [nY.fr,vz.fr]
 .grind [nY.lG,vz.lG]
 .grind [vz.fr]
theorem nY.aP(h:nY kn n B){a:Int}(c:B<=a):nY kn n a:=⟨h.aT,λi b=>⟨(h.bI i b).1,Int.le_trans (h.bI i b).2 c⟩,h.fr,h.lG,h.CM⟩
theorem nY.iJ(h:nY kn n B)(b:0<=i/\i<n){e B':Int}(g:B<=B')(k:0<=(kn.r i).bI+e/\(kn.r i).bI+e<=B'):nY (kn.iJ i e) n B':=by
 let⟨f,d⟩:=h.CM;have c:=h.aT;have R:∀{j:Int},0<=j->(kn.iJ i e).r j={kn.r j with bI:=(kn.r j).bI+if j=i then e else 0}:=λa=>yL ⟨b.1,V⟩ a;refine⟨by rw[rf,c],λj a=>?_,λj a=>by rw[R a];exact h.fr j a,λj a=>by rw[R a];exact h.lG j a,f,λj a q=>by rw[R a]at q⊢;exact d j a q⟩;have:=h.bI j a;grind
def nY.dY(h:nY kn n B)(hd:0<=d/\d<n){B':Int}(g:B<=B')(c:0<=o/\o<=B'):nY (kn.dY d t o) n B':=by
 let⟨f,i⟩:=h.CM;have b:=h.aT;have R:∀{j:Int},0<=j->(kn.dY d t o).r j=if j=d then⟨t,o,false,-1,-1,-1⟩else ug d (kn.r j):=by grind [Va]
 have C:∀r:tq,(ug d r).bI=r.bI/\(ug d r).lG=r.lG/\((ug d r).fr=r.fr\/(ug d r).fr= -1):=λr=>by
  grind [ug]
 refine⟨by rw[BH,b],λj a=>?_,λj a=>?_,λj a=>?_,f,λj a q=>?_⟩
 .rw[R a];split
  .exact c
  .rw[(C _).1];have:=h.bI j a;omega
 .rw[R a];split
  .grind
  .have:=h.fr j a;rcases(C (kn.r j)).2.2 with e|e<;>omega
 .rw[R a];split
  .grind
  .rw[(C _).2.1];exact h.lG j a
 .rw[R a]at q⊢;split at q
  .simp at q
  grind [Kn.r]
def aaa(hd:0<=d/\d<kn.aU.length){j:Int}(a:0<=j):((kn.dY d t o).r j).fr≠d:=by
 grind [Va,ug]
def nY.GM(h:nY kn n B)(hd:0<=d/\d<n){a f:Int}(i:0<=a/\a<n/\a≠d)(k:∀j,0<=j->(kn.r j).fr≠d):nY (kn.GM d a f) n B:=by
 let⟨c,l⟩:=h.CM;have e:=h.aT;have R:∀{j:Int},0<=j->(kn.GM d a f).r j=if j=d/\j<kn.aU.length then{kn.r j with fr:=a,Ef:=f}else kn.r j:=λb=>KB hd.1 b
 refine⟨by unfold Kn.GM;rw[lR,e],λj b=>?_,λj b=>?_,λj b=>?_,λj=>if j=d then c a+1 else c j,λj b q=>?_⟩
 .grind [nY.bI]
 .grind [nY.fr]
 .rw[R b];split<;>exact h.lG j b
 .rw[R b]at q⊢;by_cases g:j=d
  .grind
  grind [Kn.r]
def nY.js(h:nY kn n B){c:Int}(b:0<=i)(e: -1<=c/\c<=1000):nY (kn.js i c) n B:=by
 let⟨d,f⟩:=h.CM;have R:∀{j:Int},0<=j->(kn.js i c).r j=if j=i/\j<kn.aU.length then{kn.r j with lG:=c}else kn.r j:=λa=>KB b a
 refine⟨by unfold Kn.js;rw[lR,h.aT],λj a=>?_,λj a=>?_,λj a=>?_,d,λj a q=>?_⟩
 .grind [nY.bI]
 .grind [nY.fr]
 .grind [nY.lG]
 .grind
def nY.eO(h:nY kn n B){l:ab}:nY {kn with eO:=l} n B:=⟨h.aT,h.bI,h.fr,h.lG,h.CM⟩
def oF(c:me j m k b h ks kn)(g:nY kn n B)(t:i<n):bK dO 155 [vp b 0,vi i] m λx p=>∃r:Bool,x=vb r/\p=m/\(r=true<->0<=i/\ru kn i):=by
 let⟨w,u⟩:=g.CM;apply Bp (b,0);simp -zeta only;refine⟨λa M=>M=m/\a<n/\(0<=a/\ru kn a<->0<=i/\ru kn i),λa _=>if 0<=a then w a+1 else 0,⟨O,t,Rf⟩,?_⟩;rintro a M ⟨rfl,C,f⟩;have D:=g.aT;have E:=c.GN;refine⟨λhd=>?_,λhd=>⟨false,O,O,λe=>(by cases e),λc=>by have:=f.2 c;simp at hd;omega⟩⟩;simp only[bh]at hd;let⟨y,g1,g2,z,s,A⟩:=c.dx hd V;refine⟨h,c.jB.1,hd,V,_,g1,λe=>?_,λe=>?_⟩
 .simp only[bh]at e;exact⟨true,O,O,λ_=>f.1 ⟨hd,.vF (bC e)⟩,λ_=>O⟩
 have q:¬0<(kn.r a).bI:=sp e;refine⟨h,c.jB.1,hd,V,_,g2,λe=>⟨true,O,O,λ_=>f.1 ⟨hd,.vF (bR e)⟩,λ_=>O⟩,λe=>?_⟩;have v:0<=(kn.r a).fr/\ru kn (kn.r a).fr<->0<=a/\ru kn a:=⟨λc=>⟨hd,.qe c.1 c.2⟩,λc=>by
  rcases c.2 with d|⟨l,o⟩
  .rcases d with d|d
   .exact absurd d q
   .rw[d]at e;cases e
  .exact⟨l,o⟩⟩
 refine⟨h,c.jB.1,hd,V,_,s,⟨O,g.fr a hd,v.trans f⟩,?_⟩;simp only[hd,yi];split
 .rename_i d;have:=u a hd d;omega
 .omega
def sI(q:∀b,m.size<=b->j b=0)(c:me j m k b h ks kn)(f:nY kn n B)(y:B<=1000000000)(a:0<=i)(z:i<n):
 bK dO 156 [vp b 0,vi i] m λv p=>∃r:Bool,v=vb r/\me j p k b h ks (kn.iJ i (-1))/\dI (·=k) j m j p/\(r=true<->0<=((kn.iJ i (-1)).r i).bI):=by
 have A:=f.aT
 have D:=c.GN
 have C:=f.bI i a
 let⟨t,g1,g2,u,w,x⟩:=c.dx a V
 apply CY (b,0)
 simp -zeta only
 have s:eJ ((kn.r i).bI -1)=(kn.r i).bI+ -1:=iz
 refine⟨h,c.jB.1,a,V,_,g1,a,V,c.wr a V V,?_⟩
 intro e
 have d:me j e k b h ks (kn.iJ i (-1)):=c.cG (g:=λr=>{r with bI:=r.bI+ -1}) a V bO (by rw[s];rfl)
 have l:dI (·=k) j m j e:=c.qF q _
 obtain⟨_,o,_⟩:=d.dx a (by rw[rf];omega)
 refine⟨h,d.jB.1,a,V,_,o,_,O,d,l,?_⟩
 simp
def wg(d:Int):Nat->Kn->Kn
 |0,k=>k
 |j+1,k=>(wg d j k).tj j (ug d)
def Sg:∀j,(wg d j kn).aU.length=kn.aU.length
 |0=>O
 |j+1=>by rw[wg,lR,Sg j]
def PH:∀j,(wg d j kn).eO=kn.eO
 |0=>O
 |j+1=>by rw[wg,Kn.tj];exact PH j
theorem Sf:∀(j q:Nat),(wg d j kn).aU[q]? =if q<j then(kn.aU[q]?).map (ug d)else kn.aU[q]?
 |0,q=>by simp[wg]
 |j+1,q=>by
  rw[wg,Kn.tj];simp only[aeS,Sf j q];grind [False]
def Yq{a:Nat}(b:a=kn.aU.length):(wg d a kn).aU=kn.aU.map (ug d):=by
 apply ft;grind [Sf,List.getElem?_eq_none]
end
section
variable{c r:ag}{e p:bg}{h b q:Nat}{f ks:E}{kn v:Kn}{u a t l B:Int}{s:tq->tq}
def xy:bK dO 58 [] e λv p=>v=.agg #[vi (-1),vi 0,vb false,vi (-1),vi (-1),vi (-1)]/\D e p:=by
 apply Dc;unfold xz;simp -zeta only[dR];intro a c;have f:=pz a;have d:=px a;refine⟨trivial,by simp only[c,bD];omega,λj b=>?_⟩;rw[cq _ _ _ _ V];exact d.bG j b
def qj(K:∀b,e.size<=b->c b=0)(s:me c e h b f ks kn)(hd:0<=a/\a<kn.aU.length):
 bK dO 158 [vp b 0,vi a,vi t,vi l] e λaa p=>∃r:Bool,aa=vb r/\dI (·=h) c e c p/\(r=true->(kn.r a).bI<=0/\me c p h b f ks (kn.dY a t l))/\((kn.r a).bI<=0->r=true):=by
 have ac:=s.GN
 have hs:=s.jw
 obtain⟨g0,g1,g2,g3,g4,g5⟩:=s.dx hd.1 hd.2
 apply Er (b,0)
 simp -zeta only
 refine⟨f,s.jB.1,hd.1,V,_,g1,λw=>⟨false,O,dI.cU _ K,λw=>(by cases w),λs=>by simp at w;omega⟩,λw=>?_⟩
 have w:(kn.r a).bI<=0:=cB
 refine⟨f,s.jB.1,(xy (e:=e)).aP ?_⟩
 rintro _ L ⟨rfl,E⟩
 have F:dI (·=h) c e c L:=dI.fC E K
 have A:me c L h b f ks kn:=s.ext E
 refine⟨-1,0,false,-1,-1,-1,O,E.da s.jB.1,hd.1,V,by have:=A.wr (o:=0) (n:=6) hd.1 hd.2 V;simpa using this,?_⟩
 intro N
 have x:me c N h b f ks (kn.tj a λ_=>⟨-1,0,false,-1,-1,-1⟩):=A.cG (o:=0) (g:=λ_=>⟨-1,0,false,-1,-1,-1⟩) hd.1 hd.2 bO O
 have G:dI (·=h) c e c N:=F.J (A.qF F.bF _)
 have l2:(kn.tj a λ_=>⟨-1,0,false,-1,-1,-1⟩).aU.length=kn.aU.length:=lR
 refine⟨f,x.jB.1,f,x.jB.1,hd.1,V,by have:=x.wr (o:=0) (n:=1) hd.1 V V;simpa using this,?_⟩
 intro P
 have B:me c P h b f ks ((kn.tj a λ_=>⟨-1,0,false,-1,-1,-1⟩).tj a λr=>{r with lp:=t}):=x.cG (o:=0) (g:=λr=>{r with lp:=t}) hd.1 V bO O
 have H:dI (·=h) c e c P:=G.J (x.qF G.bF _)
 have l3:=lR (k:=kn.tj a λ_=>⟨-1,0,false,-1,-1,-1⟩) (j:=a) (g:=λr=>{r with lp:=t})
 refine⟨hd.1,V,B.wr (o:=1) hd.1 V V,?_⟩
 intro Q
 have z:=B.cG (o:=1) (new:=[.i l]) (g:=λr=>{r with bI:=l}) hd.1 V bO O
 have W:dI (·=h) c e c Q:=H.J (B.qF H.bF _)
 have Y:(((kn.tj a λ_=>⟨-1,0,false,-1,-1,-1⟩).tj a λr=>{r with lp:=t}).tj a λr=>{r with bI:=l})={kn with aU:=kn.aU.set a.toNat ⟨t,l,false,-1,-1,-1⟩}:=by
  simp only[Kn.tj];congr 1;apply ft;intro v;simp only[aeS];by_cases J:a.toNat=v
  .grind [List.getElem?_set_self,Bv]
  .rw[dU J];simp[J]
 rw[Y]at z
 change me c Q h b f ks _ at z
 refine⟨f,z.jB.1,gP (n:=kn.aU.length) V (λq M=>me c M h b f ks (wg a q {kn with aU:=kn.aU.set a.toNat ⟨t,l,false,-1,-1,-1⟩})/\dI (·=h) c e c M) ⟨z,W⟩ ?_⟩
 rintro q M ab μ hj ⟨u,y⟩ T
 have lj:(wg a q {kn with aU:=kn.aU.set a.toNat ⟨t,l,false,-1,-1,-1⟩}).aU.length=kn.aU.length:=by rw[Sg];simp
 refine dit (λU=>?_) λU=>?_
 .obtain⟨_,_,_,_,Z,_⟩:=u.dx (i:=q) V V
  refine⟨f,u.jB.1,V,V,_,Z,λv=>?_,λv=>?_⟩
  .simp only[bP]at v
   refine⟨f,u.jB.1,f,u.jB.1,V,V,u.wr V V V,?_⟩
   intro R
   have C:me c R h b f ks _:=u.cG (i:=q) (o:=4) (new:=[.i (-1)]) (g:=λr=>{r with fr:=-1}) V V bO O
   have I:dI (·=h) c e c R:=y.J (u.qF y.bF _)
   have l5:=lR (k:=wg a q {kn with aU:=kn.aU.set a.toNat ⟨t,l,false,-1,-1,-1⟩}) (j:=q) (g:=λr=>{r with fr:=-1})
   refine⟨V,V,C.wr V V V,?_⟩
   intro S
   have D:=C.cG (i:=q) (o:=5) (new:=[.i (-1)]) (g:=λr=>{r with Ef:=-1}) V V bO O
   have X:dI (·=h) c e c S:=I.J (C.qF I.bF _)
   change me c S h b f ks _ at D
   refine T V _ ⟨?_,X⟩
   rw[wg]
   rw[Bz]at D
   rw[O1 (l:=λr=>{r with fr:=-1,Ef:=-1}) V V (by unfold ug;rw[bn v])]
   exact D
  .simp only[bd,ne_eq]at v
   refine T V _ ⟨?_,y⟩
   rw[wg,Qd V V (by unfold ug;rw[aW v])];exact u
 .have:q=kn.aU.length:=V
  refine⟨true,O,y,λ_=>⟨w,?_⟩,λ_=>O⟩
  have I:wg a q {kn with aU:=kn.aU.set a.toNat ⟨t,l,false,-1,-1,-1⟩}=kn.dY a t l:=by
   have C:=Yq (kn:={kn with aU:=kn.aU.set a.toNat ⟨t,l,false,-1,-1,-1⟩}) (d:=a) (a:=q) cB;have D:=PH (kn:={kn with aU:=kn.aU.set a.toNat ⟨t,l,false,-1,-1,-1⟩}) (d:=a) q;unfold Kn.dY;revert C D;generalize wg a q _=kj;intro C D;cases kj;grind
  grind
def zC{s:E}{a:List ae}(d:s.len=q)(c:a.length=q)(f:∀b∈a,b.length=6)(b:jG e s.bz s.off a.flatten)(g:q<=1000000000):
 bK dO 154 [s.v] e λv p=>∃r,v=r.v/\jy e p rp 6 r a.flatten/\D e p:=by
 apply od
 exact V7 (b:=[.i 0,.i 0,.t false,.i 0,.i 0,.i 0]) d c f b V
def rI(v:∀b,e.size<=b->c b=0)(a:me c e h b f ks kn)(q:Nat):
 bK dO 108 [vp b 0] e λB p=>∃r l A z,B=vp l 0/\me r p q l A z kn/\dI (λ_=>False) c e r p:=by
 have w:=a.GN
 have x:=a.jw
 have u:=a.zy
 apply Bq (b,0)
 simp -zeta only
 refine⟨f,a.jB.1,ks,a.jB.2,(zC w bO (KJ _) a.aU.kZ V).aP ?_⟩
 rintro _ E ⟨o,rfl,o1,k⟩
 obtain⟨F,m,t,_⟩:=jy.KL o1 k v q
 have y:=(a.ext k).eO.oN V
 refine⟨o,O,k.da a.jB.2,(gT y V).aP ?_⟩
 rintro _ d ⟨s,rfl,o2,C⟩
 obtain⟨j,g,a2,_⟩:=jy.KL o2 C m.bF q
 refine⟨s,O,?_⟩
 intro n
 obtain⟨D,G⟩:=pu n
 have i:dI (λ_=>False) j d (oH j d.size q) n:=dI.oH D g.bF bY V q
 refine⟨oH j d.size q,d.size,o,s,O,⟨dF.push d _ _,gU,(t.fO g id).fO i id,a2.fO i id,x,u⟩,(m.J g).J i⟩
end
section
def ZK(b r:tq):tq:=if r.lp≠b.lp then{r with lp:=-1}else r
def ZL(b r:tq):tq:=if r.lG≠b.lG\/r.lp<0 then{r with lG:=-1}else r
def ZM(b r:tq):tq:=if r.fr≠b.fr\/r.Ef≠b.Ef\/r.lp<0 then{r with fr:=-1,Ef:=-1}else r
def jn4(b r:tq):tq:={r with df:=r.df&&b.df}
def jn(b r:tq):tq:=jn4 b (ZM b (ZL b (ZK b r)))
def mL(a:Kn):Nat->Kn->Kn
 |0,k=>k
 |j+1,k=>(mL a j k).tj j (jn (a.r j))
variable{f h:ag}{m e:bg}{k b n:Nat}{j ks:E}{kn c a:Kn}{i d t o B:Int}{g:tq->tq}
theorem Tt(a:0<=i)(b:i<kn.aU.length):(kn.tj i g).r i=g (kn.r i):=by grind [KB]
def xC:∀j,(mL a j kn).aU.length=kn.aU.length
 |0=>O
 |j+1=>by rw[mL,lR,xC j]
def Ey:∀j,(mL a j kn).eO=kn.eO
 |0=>O
 |j+1=>by rw[mL,Kn.tj];exact Ey j
theorem P4:∀(j:Nat){i:Int},0<=i->(mL a j kn).r i=if i<j/\i<kn.aU.length then jn (a.r i) (kn.r i)else kn.r i
 |0,i,b=>by rw[aW V];rfl
 |j+1,i,b=>by
  rw[mL,KB V b,P4 j b,xC];grind [List.length]
theorem Qs(h:¬i<kn.aU.length):kn.r i=yy:=by
 grind [Kn.r,List.getElem?_eq_none]
theorem ZO(b r:tq):(jn b r).bI=r.bI:=by grind [jn,jn4,ZM,ZL,ZK]
theorem ZP(b r:tq):((jn b r).lp=r.lp/\r.lp=b.lp)\/(jn b r).lp= -1:=by
 grind [jn,jn4,ZM,ZL,ZK]
theorem ZN(b r:tq):((jn b r).lG=r.lG/\r.lG=b.lG)\/(jn b r).lG= -1:=by
 grind [ZM,ZK,jn,jn4,ZL]
theorem abP(b r:tq):((jn b r).fr=r.fr/\(jn b r).Ef=r.Ef/\r.fr=b.fr/\r.Ef=b.Ef)\/(jn b r).fr= -1:=by
 grind [ZL,ZK,jn,jn4,ZM]
theorem Xz(b r:tq):(jn b r).df=(r.df&&b.df):=by
 grind [ZM,ZL,ZK,jn,jn4]
def Yx(d:kn.aU.length=a.aU.length)(c:kn.eO=a.eO)(e:∀j:Nat,j<kn.aU.length->(kn.r j).bI=(a.r j).bI):vz kn (mL a kn.aU.length kn)/\vz a (mL a kn.aU.length kn):=by
 have R:∀{i:Int},0<=i->(mL a kn.aU.length kn).r i=if i<kn.aU.length then jn (a.r i) (kn.r i)else kn.r i:=λ{i} b=>by
  grind [P4]
 have E:∀{i:Int},0<=i->(kn.r i).bI=(a.r i).bI:=λ{i} b=>by
  by_cases h:i<kn.aU.length
  .have:=e i.toNat V;grind
  .grind [Qs]
 have N:∀{i:Int},0<=i->¬i<kn.aU.length->kn.r i=a.r i:=by grind [Qs]
 refine⟨⟨xC _,λi b=>?_,λi b=>?_,λi b=>?_,λi b=>?_,λi b=>?_,Ey _⟩,⟨(xC _).trans d,λi b=>?_,λi b=>?_,λi b=>?_,λi b=>?_,λi b=>?_,(Ey _).trans c⟩⟩
 .grind [ZO]
 .grind [ZP]
 .grind [ZN]
 .grind [abP]
 .grind [Xz]
 .grind [ZO]
 .grind [ZP]
 .grind [ZN]
 .grind [abP]
 .grind [Xz]
end
section
variable{j:bg}{f:tq->tq}{c:Nat}{K:bg->Prop}
variable{e u:ag}{m l:bg}{k q b p n:Nat}{a ks s r:E}{kn h:Kn}{i d t o B:Int}{g:tq->tq}
def nA(e:ag)(m:bg)(k b:Nat)(a ks:E)(kn:Kn)(i:Int)(j:bg)(g:tq->tq):Prop:=me e m k b a ks (kn.tj i g)/\dI (·=k) e j e m
def nA.cG{j:bg}(h:nA e m k b a ks kn i j g)(c:0<=i)(d:i<kn.aU.length){o:Nat}{new:ae}{f:tq->tq}(n:o+new.length<=6)(l:kJ (BG (g (kn.r i))) o new=BG (f (g (kn.r i)))):
 nA e (aV m a.bz (a.off+i.toNat*6+o) new) k b a ks kn i j λr=>f (g r):=by
 refine⟨?_,h.2.J (h.1.qF h.2.bF _)⟩
 have:=h.1.cG (i:=i) (o:=o) (new:=new) (g:=f) c (by rw[lR];exact d) n (by rw[Tt c d];exact l)
 rwa[Bz]at this
def nA.bG(h:nA e m k b a ks kn i j g)(c:0<=i)(d:i<kn.aU.length)(n:f (g (kn.r i))=g (kn.r i)):nA e m k b a ks kn i j λr=>f (g r):=by
 refine⟨?_,h.2⟩;have l:kn.tj i (λr=>f (g r))=kn.tj i g:=by
  rw[<-Bz,Qd c (by rw[lR];exact d) (by rw[Tt c d];exact n)]
 rw[l];exact h.1
def nA.eqv(h:nA e m k b a ks kn i j g)(c:0<=i)(d:i<kn.aU.length)(l:f (kn.r i)=g (kn.r i)):nA e m k b a ks kn i j f:=by
 refine⟨?_,h.2⟩;rw[O1 c d l];exact h.1
def nA.dx{j:bg}(h:nA e m k b a ks kn i j g)(c:0<=i)(d:i<kn.aU.length):aS m a.bz (a.off+i.toNat*6)=some (vi (g (kn.r i)).lp)/\aS m a.bz (a.off+i.toNat*6+1)=some (vi (g (kn.r i)).bI)/\aS m a.bz (a.off+i.toNat*6+2)=some (vb (g (kn.r i)).df)/\
 aS m a.bz (a.off+i.toNat*6+3)=some (vi (g (kn.r i)).lG)/\aS m a.bz (a.off+i.toNat*6+4)=some (vi (g (kn.r i)).fr)/\aS m a.bz (a.off+i.toNat*6+5)=some (vi (g (kn.r i)).Ef):=by
 have:=h.1.dx (i:=i) c (by rw[lR];exact d)
 grind [Tt]
theorem nA.wr{j:bg}(h:nA e m k b a ks kn i j g)(c:0<=i)(d:i<kn.aU.length){o n:Nat}(f:o+n<=6):jb m a.bz (a.off+i.toNat*6+o) n:=h.1.wr c (by rw[lR];exact d) f
theorem nA.eV(n:nA e m k b a ks kn i j g){l:bg}{h:tq->tq}(o:nA e l k b a ks kn i j h)(d:c<j.size)(f:e c≠k):gS [c] m l:=λx p=>by
 have:x=c:=sp p;subst this;rw[n.2.fR x d f,o.2.fR x d f]
def nA.mM{o:Nat}{x:Ce}(n:nA e m k b a ks kn i j g)(d:0<=i)(h:i<kn.aU.length)(t:c<j.size)(u:e c≠k)(q:o+1<=6)(p:kJ (BG (g (kn.r i))) o [x]=BG (f (kn.r i)))
 (s:∀M,nA e M k b a ks kn i j f->K M):jb m a.bz (a.off+i.toNat*6+o) 1/\let l:=aV m a.bz (a.off+i.toNat*6+o) [x];gS [c] m l/\K l:=by
 have T:=n.cG d h (o:=o) (new:=[x]) (f:=λ_=>f (kn.r i)) q p
 have r:=T.eqv d h (f:=f) O
 grind [nA.wr,nA.eV]
def nA.ry(t:nA e m k b a ks kn i j g)(h:0<=i)(l:i<kn.aU.length)(n:c<j.size)(p:e c≠k)(v:f (kn.r i)={g (kn.r i)with fr:=-1,Ef:=-1})
 (u:∀M,nA e M k b a ks kn i j f->K M):jb m a.bz (a.off+i.toNat*6+4) 1/\let d:=aV m a.bz (a.off+i.toNat*6+4) [.i (-1)];gS [c] m d/\jb d a.bz (a.off+i.toNat*6+5) 1/\let q:=aV d a.bz (a.off+i.toNat*6+5) [.i (-1)];gS [c] d q/\K q:=by
 obtain⟨s,a2,T⟩:=t.mM (o:=4) (x:=.i (-1)) (f:=λr=>{g r with fr:=-1}) (K:=λM=>nA e M k b a ks kn i j λr=>{g r with fr:=-1}) h l n p V O (λ_=>id)
 refine⟨s,a2,?_⟩
 exact T.mM (o:=5) (x:=.i (-1)) (f:=f) h l n p V (by rw[v];rfl) u
def Y5(kn h:Kn):Prop:=kn.eO=h.eO/\∀j:Nat,j<kn.aU.length->(kn.r j).bI=(h.r j).bI
def IK(hn:∀b,m.size<=b->e b=0)(d:me e m k b a ks kn)(H:me e m q p s r h)(hl:kn.aU.length=h.aU.length)(hk:k≠0)(ae:q≠k):
 bK dO 161 [vp b 0,vp p 0] m λag l=>∃z:Bool,ag=vb z/\dI (·=k) e m e l/\(z=true->me e l k b a ks (mL h kn.aU.length kn)/\vz kn (mL h kn.aU.length kn)/\vz h (mL h kn.aU.length kn))/\(z=true<->Y5 kn h):=by
 have aj:=d.GN
 have ak:=H.GN
 have hs:=d.jw
 have s1:=d.zy
 have s2:=H.zy
 apply CX (b,0) (p,0)
 simp -zeta only[dR]
 refine⟨ks,d.jB.2,r,H.jB.2,(kC (d.eO.oN V) (H.eO.oN V)).aP ?_⟩
 rintro _ m1 ⟨z,rfl,y,U⟩
 have Y:dI (·=k) e m e m1:=dI.fC U hn
 refine⟨z,O,λu=>⟨false,O,Y,λu=>(by cases u),λu=>(by cases u),λd=>absurd d.1 (nb y u)⟩,λu=>?_⟩
 have aa:=yb y u
 refine⟨a,(d.ext U).jB.1,gP (n:=kn.aU.length) V (λj M=>me e M k b a ks (mL h j kn)/\dI (·=k) e m e M/\∀B:Nat,B<j->(kn.r B).bI=(h.r B).bI) ⟨d.ext U,Y,V⟩ ?_⟩
 rintro j M ab μ hj ⟨I,G,T⟩ af
 have J:me e M q p s r h:=H.fO G ae
 refine dit (λac=>?_) λac=>?_
 .have ai:(j:Int)<kn.aU.length:=V
  have lj:(mL h j kn).aU.length=kn.aU.length:=xC j
  have Z:(mL h j kn).r j=kn.r j:=by rw[P4 j V,aW V]
  obtain⟨f0,f1,f2,f3,f4,f5⟩:=J.dx (i:=j) V V
  refine⟨a,I.jB.1,V,V,s,J.jB.1,V,V,_,f0,_,f1,_,f2,_,f3,_,f4,_,f5,?_⟩
  intro P
  have z2:=pz P
  have W:=px P
  have L1:=I.bV.lt
  have L2:=J.bV.lt
  have E:=(J.aU.bz J.adf).1
  have A:∀{c:Nat},c<M.size->∀o,aS P c o=aS M c o:=λw o=>bE (W.bG _ w) o
  have ah:=I.ext W
  have r0:e M.size=0:=G.bF _ bY
  clear_value P
  refine⟨A E _,A E _,A E _,A E _,A E _,A E _,A L2 _,A L1 _,?_⟩
  intro v
  have z3:v.size=M.size+1:=by simp only[v,bD];omega
  have x3:D M v:=⟨V,λc w=>by simp only[v];rw[cq _ _ _ _ V];exact W.bG c w⟩
  clear_value v
  have ad:=I.ext x3
  have S:dI (·=k) e m e v:=G.J (dI.fC x3 G.bF)
  have Q:nA e v k b a ks (mL h j kn) j v id:=⟨by rw[Qd V V O];exact ad,dI.cU _ S.bF⟩
  have f:(0:Int)<=j:=V
  have g:(j:Int)<(mL h j kn).aU.length:=V
  have w:M.size<v.size:=V
  have y:e M.size≠k:=by rw[r0];exact hk.symm
  obtain⟨t0,t1,_⟩:=Q.dx f g
  refine⟨_,t1,λB=>⟨false,O,S,λu=>(by cases u),λu=>(by cases u),λd=>by
   have t:=d.2 j V;rw[<-Z]at t;simp only[id,T5,ne_eq]at B;exact absurd t B⟩,λB=>⟨λN=>nA e N k b a ks (mL h j kn) j v (ZK (h.r j)),⟨_,t0,λt=>?_,λt=>?_⟩,?_⟩⟩
  .exact Q.mM (o:=0) (x:=.i (-1)) f g w y V (by unfold ZK;rw[bn (sp t)];rfl) λ_=>id
  .exact Q.eqv f g (by unfold ZK;rw[aW (sp t)];rfl)
  intro N1 L
  obtain⟨u0,_,_,u3,_,_⟩:=L.dx f g
  refine⟨λN=>nA e N k b a ks (mL h j kn) j v λz=>ZL (h.r j) (ZK (h.r j) z),⟨_,u3,λt=>?_,λt=>⟨_,u0,λC=>?_,λC=>?_⟩⟩,?_⟩
  .exact L.mM (o:=3) (x:=.i (-1)) f g w y V (by unfold ZL;rw[bn (bC (sp t))];rfl) λ_=>id
  .exact L.mM (o:=3) (x:=.i (-1)) f g w y V (by unfold ZL;rw[bn (bR (sp C))];rfl) λ_=>id
  .exact L.eqv f g (by unfold ZL;rw[aW (λd=>d.elim (sp t) (sp C))])
  intro N2 F
  obtain⟨w0,_,_,_,w4,w5⟩:=F.dx f g
  refine⟨λN=>nA e N k b a ks (mL h j kn) j v λz=>ZM (h.r j) (ZL (h.r j) (ZK (h.r j) z)),⟨_,w4,λt=>?_,λt=>⟨_,w5,λC=>?_,λC=>⟨_,w0,λp2=>?_,λp2=>?_⟩⟩⟩,?_⟩
  .exact F.ry f g w y (by unfold ZM;rw[bn (bC (sp t))]) λ_=>id
  .exact F.ry f g w y (by unfold ZM;rw[bn (bR (bC (sp C)))]) λ_=>id
  .exact F.ry f g w y (by unfold ZM;rw[bn (bR (bR (sp p2)))]) λ_=>id
  .exact F.eqv f g (by unfold ZM;rw[aW (λd=>d.elim (sp t) λd=>d.elim (sp C) (sp p2))])
  intro N3 R
  obtain⟨_,_,v2,_⟩:=R.dx f g
  have kH:∀N,nA e N k b a ks (mL h j kn) j v (jn (h.r j))->ab (eJ ((j:Int)+1)) N/\μ (eJ ((j:Int)+1)) N<μ j M:=λN X=>
   af V N ⟨X.1,S.J X.2,λK hq=>by
    by_cases u:K=j
    .subst u;have:(id ((mL h K kn).r K)).bI=(h.r K).bI:=sp B;rw[id,Z]at this;exact this
    .exact T K V⟩
  refine⟨_,v2,λt=>?_,λt=>?_⟩
  .exact R.mM (o:=2) f g w y V (by show kJ (BG _) 2 [.t _]=BG (jn4 _ _);unfold jn4;rw[t];simp[BG,kJ]) kH
  .exact R.mM (o:=2) f g w y V (by show kJ (BG _) 2 [.t _]=BG (jn4 _ _);unfold jn4;rw[t];simp[BG,kJ]) kH
 .have f:j=kn.aU.length:=V
  subst f
  obtain⟨g,t⟩:=Yx hl aa T
  exact⟨true,O,G,λ_=>⟨I,g,t⟩,λ_=>⟨aa,T⟩,λ_=>O⟩
end
section
def HM(e:ag)(m:bg)(w:Nat)(B:Int)(i:Nat):Option (Nat×Nat)->Option Kn->Prop
 |none,none=>True
 |some q,some kn=>q.2=0/\∃u ks,me e m (10+i) q.1 u ks kn/\nY kn w B
 |_,_=>False
@[grind cases] structure rc (m0:bg) (ro:ag) (m:bg) (v:Nat) (d f a l c bs:E) (p:eG) (L:aq) (B:Int):Prop where
 cW:Bs m0 ro m
 bV:dF m v jg [.s d,.s f,.s a,.s l,.i p.bQ,.i p.aU,.s c,.s bs]
 jv:ro v=4
 jI:∃Q:List (Option (Nat×Nat)),Q.length=L.length/\iE ro m nJ 1 3 bs (Q.map Ce.pp)/\∀(i:Nat) q o,Q[i]? =some q->L[i]? =some o->HM ro m p.aU.toNat B i q o
 aT:1<=L.length/\L.length<=1000000
open Classical in
noncomputable def xe (L:aq) (kn:Kn) (i:Nat):Option aq:=
 match L[i]? with
 |some none=>some (L.set i (some kn))
 |some (some old)=>if Y5 old kn then some (L.set i (some (mL kn old.aU.length old)))else none
 |none=>none
variable{k m r:bg}{e s:ag}{v b w:Nat}{d f a l c h u ks:E}{p:eG}{L:aq}{B:Int}{kn t:Kn}{g:Int}{q:Option (Nat×Nat)}{j:Option Kn}{i:Nat}
theorem HM.fO{P:Nat->Prop}(h:HM e m w B i q j)(d:dI P e m s r)(f:¬P (10+i)):HM s r w B i q j:=by
 cases q<;>cases j<;>first|exact h|skip
 let⟨a,u,ks,b,c⟩:=h;exact⟨a,u,ks,b.fO d f,c⟩
theorem HM.aP{a:Int}(h:HM e m w B i q j)(f:B<=a):HM e m w a i q j:=by
 cases q<;>cases j<;>first|exact h|skip
 let⟨b,u,ks,c,d⟩:=h;exact⟨b,u,ks,c,d.aP f⟩
theorem rc.aP{b:Int}(g:rc k e m v d f a l c h p L B)(i:B<=b):rc k e m v d f a l c h p L b:=by
 constructor<;>grind [rc.jI,rc.cW,rc.bV,rc.jv,HM.aP,rc.aT]
theorem Bs.SW{P:Nat->Prop}(B:Bs k e m)(h:dI P e m s r)(c:¬P 0):Bs k s r:=
 ⟨⟨fD B.cW.aQ h.aQ,λb a=>(h.fR b (B.cW.lt a) cB).trans (B.cW.bG b a)⟩,λb a=>by rw[h.jv b (B.cW.lt a)];exact B.mq b a,h.bF⟩
def rc.fO{P:Nat->Prop}(g:rc k e m v d f a l c h p L B)(i:dI P e m s r)(j:∀b,P b->b=5\/b=7):rc k s r v d f a l c h p L B:=by
 constructor<;>grind [rc.jI,rc.cW,Bs.SW,rc.bV,dF.congr,dI.fR,dF.lt,rc.jv,dI.jv,iE.fO,HM.fO,rc.aT]
def tL(w:rc k e m v d f a l c h p L B)(X:me e m 5 b u ks kn)(ok:nY kn p.aU.toNat B)(P:0<=g/\g<L.length):
 bK dO 112 [vp v 0,vp b 0,vi g] m λaf r=>∃D s,af=vb D/\dI (λz=>z=3\/10<=z) e m s r/\(D=true->∃t,rc k s r v d f a l c h p (L.set g.toNat (some t)) B/\vz kn t/\(∀old,L[g.toNat]? =some (some old)->vz old t)/\xe L kn g.toNat=some (L.set g.toNat (some t)))/\(D=false->xe L kn g.toNat=none):=by
 let⟨Q,U,E,T⟩:=w.jI
 have Y:=w.aT
 have ah:h.len=Q.length:=by have:=E.aT;simp at this;omega
 have aa:h.cap≠0:=by have:=E.le;omega
 let⟨j,N⟩:=dV L g.toNat
 let⟨q,Z⟩:=dV Q g.toNat
 have W:aS m h.bz (h.off+g.toNat*1)=some (Ce.v (.pp q)):=by
  have:=E.kZ g.toNat (.pp q) cB;grind
 have K:aS m v 7=some h.v:=w.bV.dx 7
 apply yu (v,0) (b,0)
 simp -zeta only
 have M:=T _ q j Z N
 refine⟨h,K,P.1,V,q,W,λx=>?_,λx=>?_⟩
 .have:q=none:=sp x
  subst this
  cases j with
  |some z=>exact M.elim
  |none=>
   refine⟨h,K,(rI w.cW.bF X (10+g.toNat)).aP ?_⟩
   rintro _ R ⟨F,b1,ac,ab,rfl,K1,y⟩
   have h1:=w.fO y (λ_=>False.elim)
   let⟨Q1,ag,H,ae⟩:=w.jI
   have H:=E.fO y id
   refine⟨some (b1,0),O,bE (y.fR v w.bV.lt id) _,P.1,V,?_,?_⟩
   .have:=H.wr (o:=g.toNat) (n:=1) cB
    grind
   intro S
   have J:dI (·=3) F R F S:=dI.aV y.bF (H.bz aa).2 _ _
   have A:h.off+g.toNat*1=h.off+g.toNat:=V
   have ad:iE F S nJ 1 3 h (kJ (Q.map Ce.pp) g.toNat [.pp (some (b1,0))]):=by
    have:=H.dY (o:=g.toNat) (new:=[.pp (some (b1,0))]) cB;grind
   have I:dI (λz=>z=3\/10<=z) e m F S:=(y.aP λ_=>False.elim).J (J.aP λ_ x=>bC x)
   refine⟨true,F,O,I,λ_=>⟨kn,⟨w.cW.SW I V,?_,(I.jv v w.bV.lt).trans w.jv,⟨Q.set g.toNat (some (b1,0)),by simp[U],?_,?_⟩,sp Y⟩,vz.cU _,λold x=>cB,by unfold xe;rw[N]⟩,λx=>by cases x⟩
   .grind [dF.congr]
   .grind [kJ,List.map,List.map_set]
   .intro i q' o' C A
    by_cases G:g.toNat=i
    .subst G
     rw[fu V]at C A
     cases C;cases A
     exact⟨O,ac,ab,K1.fO J V,ok⟩
    .rw[dU G]at C A
     exact((T i q' o' C A).fO y id).fO J V
 .cases q with
  |none=>cases x
  |some q=>
   cases j with
   |none=>exact M.elim
   |some old=>
    let⟨H,ae,ac,F,ad⟩:=M
    let⟨qb,qo⟩:=q
    simp only at H F
    subst H
    refine⟨h,K,P.1,V,some (qb,0),W,(IK w.cW.bF F X cB V V).aP ?_⟩
    rintro _ R ⟨D,rfl,y,hr,S⟩
    refine⟨D,O,D,e,O,y.aP λz x=>V,λx=>?_,λx=>?_⟩
    rotate_left
    .grind [xe]
    let⟨I,w1,w2⟩:=hr x
    generalize ab:mL kn old.aU.length old=t at*
    have J:dI (λz=>z=3\/10<=z) e m e R:=by grind [dI.aP]
    refine⟨t,⟨w.cW.SW J V,w.bV.congr (y.fR v w.bV.lt cB),w.jv,⟨Q,by simp[U],E.fO y V,?_⟩,sp Y⟩,w2,λag e'=>cB,by unfold xe;rw[N];simp only[];rw[bn (S.1 x),ab]⟩
    intro i q' o' C A
    by_cases G:g.toNat=i
    .subst G
     rw[fu V]at A
     rw[Z]at C
     cases C;cases A
     exact⟨O,ae,ac,I,vz.ok ad w1⟩
    .grind [HM.fO]
end
section
@[grind cases] structure Vx (m0:bg) (d f a l c:E) (im:cZ) (p:eG):Prop where
 ok:iB im
 ql:p∈im.di
 bS:dA m0 d im.bS
 mN:oW m0 f im.di
 aY:ba m0 a p.aY
 df:ba m0 l p.df
 eA:je m0 c p.eA
@[grind cases] structure Wk (m0:bg) (ro:ag) (m:bg) (b:Nat) (rs ks:E) (kn:Kn) (n:Nat) (B:Int):Prop where
 bs:Bs m0 ro m
 ql:me ro m 5 b rs ks kn
 ok:nY kn n B
def nC(u:Nat)(d:ap)(j:bg)(e:ag)(m:bg)(b:Nat)(k ks:E)(n:Nat)(B:Int)(Q:Kn->Prop)(F:Option Kn):Prop:=
 bK dO u d m λw q=>∃c r,w=vb c/\dI (·=5) e m r q/\(c=true->∃a,Wk j r q b k ks a n B/\Q a/\F=some a)/\(c=false->F=none)
open Classical in
noncomputable def Qa (h:cZ) (x:Instr) (kn:Kn):Option Kn:=
 if ru kn (bt x.aO 0)/\0<=(kn.r (bt x.aO 0)).lG/\x.cE<(cX h.bS (kn.r (bt x.aO 0)).lG).length/\(kn.r x.bH).bI<=0 then
  some (if x.bH=bt x.aO 0 then kn.dY x.bH (((cX h.bS (kn.r (bt x.aO 0)).lG)[x.cE.toNat]?).getD 0) 0 else(kn.dY x.bH (((cX h.bS (kn.r (bt x.aO 0)).lG)[x.cE.toNat]?).getD 0) 0).GM x.bH (bt x.aO 0) x.cE)
 else none
variable{j m q:bg}{e r:ag}{v b n H:Nat}{w u y z c G k ks A I:E}{h:cZ}{p:eG}{L:aq}{B F:Int}{kn C:Kn}{x:Instr}{s:Int}
def Wk.ext(h:Wk j e m b k ks kn n B)(a:D m q):Wk j e q b k ks kn n B:=⟨⟨h.bs.cW.J a,h.bs.mq,λc d=>h.bs.bF c (fD a.aQ d)⟩,h.ql.ext a,h.ok⟩
theorem Wk.of(h:Wk j e m b k ks kn n B)(a:dI (·=5) e m r q)(c:me r q 5 b k ks C)(d:nY C n F):Wk j r q b k ks C n F:=⟨h.bs.SW a cD,c,d⟩
def nC.no{K:Kn->Prop}{F:Option Kn}(f:dI (·=5) e m r q)(d:F=none):∃c r,vb false=vb c/\dI (·=5) e m r q/\(c=true->∃a,Wk j r q b k ks a n B/\K a/\F=some a)/\(c=false->F=none):=⟨false,r,O,f,λa=>(by cases a),λ_=>d⟩
def Vx.dk(C:Vx j w u y z c h p):eR h.bS:=C.ok.mN.dk
theorem yl.tO(b:x.op=19){k a:Kn}(c:ru k (bt x.aO 0))(d:0<=(k.r (bt x.aO 0)).lG)(g:(cX h.bS (k.r (bt x.aO 0)).lG)[x.cE.toNat]? =some s)(e:(k.r x.bH).bI<=0)
 (f:a=(if x.bH=bt x.aO 0 then k.dY x.bH s 0 else(k.dY x.bH s 0).GM x.bH (bt x.aO 0) x.cE)):yl h p k x a:=by
 grind [yl]
def Dd(M:Vx j w u y z c h p)(hb:dF m v jg [.s w,.s u,.s y,.s z,.i p.bQ,.i p.aU,.s c,.s G])(W:Wk j e m b k ks kn p.aU.toNat B)(hB:0<=B)(hx:iP h p H x)(ag:x.op=19)(ha:ba j A x.aO):
 nC 159 [vp v 0,vp b 0,.agg #[vi x.op,vi x.bH,vi x.cE,vi x.dh,A.v,I.v]] j e m b k ks p.aU.toNat B (yl h p kn x) (Qa h x kn):=by
 have R:=hx.op
 unfold mJ at R
 simp only[ag]at R
 simp+decide only[nv,yi]at R
 let⟨aq,aj,av⟩:=R
 have aw:=(M.ok.eS p M.ql).aU
 have az:=ha.aT
 have ai:=aZ (jR (l:=x.aO) (i:=0) V V)
 have K:=hx.aO _ ai
 have F:=hx.bH
 have au:=W.ok.aT
 have ax:=W.ql.GN
 generalize hA:bt x.aO 0=r0 at*
 have P:¬(ru kn r0/\0<=(kn.r r0).lG/\x.cE<(cX h.bS (kn.r r0).lG).length/\(kn.r x.bH).bI<=0)->Qa h x kn=none:=by grind [Qa]
 unfold nC
 apply zr (v,0) (b,0)
 simp -zeta only[dR]
 intro q
 obtain⟨x1,z1⟩:=pu q
 clear_value q
 have Y:=W.ext x1
 have g0:aS q A.bz (A.off+Int.toNat 0*1)=some (vi r0):=by
  have:=ha.bt (jR (l:=x.aO) (i:=0) V V);rw[hA]at this;exact Y.bs.cW.aS cB
 let⟨q0,q1,q2,q3,q4,q5⟩:=Y.ql.dx (i:=r0) K.1 V
 refine⟨V,V,r0,g0,k,Y.ql.jB.1,K.1,V,_,q0,_,q1,_,q2,_,q3,_,q4,_,q5,?_⟩
 intro m2 T
 have z2:m2.size=m.size+2:=cB
 have x2:D q T:=by grind [D.cU,D.bZ,D.aV]
 have U:=x1.J x2
 have Q:∀c∈[q.size,m.size],c<T.size:=by grind [bD]
 have N:=W.ext U
 have n0:∀c∈[q.size,m.size],e c≠5:=λc E=>by
  have:m.size<=c:=by simp at E;omega
  rw[W.bs.bF c this];decide
 have c3:dI (·=5) e m e T:=dI.fC U W.bs.bF
 clear_value T
 refine(oF N.ql N.ok V).aP ?_
 rintro _ _ ⟨r,rfl,rfl,S⟩
 refine⟨cY.eV Q,r,O,λn=>nC.no c3 (P λC=>nb S n ⟨K.1,C.1⟩),λn=>?_⟩
 have n:r=true:=cB
 have af:=(S.1 n).2
 refine⟨λn=>nC.no c3 (P λC=>by have:=C.2.1;simp at n;omega),λn=>?_⟩
 have ah:0<=(kn.r r0).lG:=cB
 have ar:=W.ok.lG r0 K.1
 refine⟨w,U.aS (hb.dx 0),(uy (dA.ext N.bs.cW M.bS) M.dk V).aP ?_⟩
 rintro _ m4 ⟨ab,rfl,hs,L⟩
 have ay:=hs.aT
 have Z:=N.ext L
 have ao:=U.J L
 have c4:dI (·=5) e m e m4:=dI.fC ao W.bs.bF
 refine⟨L.eV Q,ab,O,λn=>nC.no c4 (P λC=>by have:=C.2.2.1;simp at n;omega),λn=>?_⟩
 have al:x.cE<(cX h.bS (kn.r r0).lG).length:=cB
 let⟨s,ht⟩:=dV (cX h.bS (kn.r r0).lG) x.cE.toNat
 have gt:aS m4 ab.bz (ab.off+x.cE.toNat*1)=some (vi s):=hs.bt ht
 refine⟨aj,V,s,gt,(qj (t:=s) (l:=0) Z.bs.bF Z.ql (a:=x.bH) V).aP ?_⟩
 rintro _ m5 ⟨r,rfl,c5,S,am⟩
 have aa:=c4.J c5
 have an:gS [q.size,m.size] m4 m5:=by grind [dI.Df]
 refine⟨an,r,O,λn=>nC.no aa (P λC=>by rw[am C.2.2.2]at n;cases n),λn=>?_⟩
 let⟨ho,C⟩:=S cB
 have hY:Qa h x kn=some (if x.bH=r0 then kn.dY x.bH s 0 else(kn.dY x.bH s 0).GM x.bH r0 x.cE):=by
  unfold Qa;rw[hA,bn ⟨af,ah,al,ho⟩,ht];rfl
 have ae:=W.ok.dY (d:=x.bH) (t:=s) (o:=0) V (dT B) ⟨dT 0,hB⟩
 have W5:=Z.of c5 C ae
 refine⟨λn=>?_,λn=>?_⟩
 .have ak:x.bH≠r0:=cB
  refine⟨k,C.jB.1,k,C.jB.1,F.1,V,C.wr (o:=4) F.1 cB V,?_⟩
  intro J
  have X:me e J 5 b k ks _:=C.cG (i:=x.bH) (o:=4) (new:=[.i r0]) (g:=λr=>{r with fr:=r0}) F.1 cB bO O
  have c6:dI (·=5) _ m5 _ J:=C.qF aa.bF (o:=k.off+x.bH.toNat*6+4) [.i r0]
  have z5:=c5.aQ
  have ac:gS [q.size,m.size] m5 J:=c6.Df λc E=>⟨by have:=Q c E;have:=L.aQ;omega,n0 c E⟩
  have ad:dI (·=5) e m e J:=aa.J c6
  have z6:=c6.aQ
  clear_value J
  refine⟨ac,bE (ac _ bO) _,bE (ac _ bO) _,F.1,V,X.wr (o:=5) F.1 (by rw[lR,BH];omega) V,?_⟩
  intro m7
  have K7:=X.cG (i:=x.bH) (o:=5) (new:=[.i x.cE]) (g:=λr=>{r with Ef:=x.cE}) F.1 (by rw[lR,BH];omega) bO O
  have c7:=X.qF ad.bF (o:=k.off+x.bH.toNat*6+5) [.i x.cE]
  rw[Bz]at K7
  change me e m7 5 b k ks ((kn.dY x.bH s 0).GM x.bH r0 x.cE)at K7
  have aC:gS [q.size,m.size] J m7:=c7.Df λc E=>⟨by have:=Q c E;have:=L.aQ;omega,n0 c E⟩
  have aB:=ae.GM (d:=x.bH) (a:=r0) (f:=x.cE) V ⟨K.1,V,ak.symm⟩ λaA hj=>aaa V hj
  have ap:dI (·=5) e m e m7:=ad.J c7
  grind [Wk.of,yl.tO]
 .grind [yl.tO]
end
section
variable{r m j:bg}{e F:ag}{v b q u k:Nat}{A f a l c z h ks s y:E}{w:cZ}{p:eG}{B:Int}{kn C:Kn}{x:Instr}{g:Int}
def Yk(f:me e m k b h ks kn):bK dO 237 [h.v,.func (.func 238) #[] #[]] m λw j=>∃r,w=vb r/\D m j/\(r=false<->∀d,0<=d->(kn.r d).bI<=0):=by
 have F:=f.GN;have G:=f.jw;apply mU h (.func 238,#[],#[]);have:bK dO 255 [h.v,.func (.func 238) #[] #[]] m λw j=>∃r:Int,w=vi r/\D m j/\(r<0->∀a:Nat,a<kn.aU.length->(kn.r a).bI<=0)/\(0<=r->∃a:Nat,0<(kn.r a).bI):=by
  apply ns h (.func 238,#[],#[]);refine gP (n:=kn.aU.length) V (λq M=>D m M/\∀a:Nat,a<q->(kn.r a).bI<=0) ⟨cY,V⟩ ?_;rintro q M I μ E ⟨c,C⟩ s
  refine⟨λg=>?_,λg=>?_⟩
  .simp only[bh]at g;let⟨t,u,v,x,y,z⟩:=(f.ext c).dx (i:=q) V V;refine⟨V,V,_,t,_,u,_,v,_,x,_,y,_,z,238,O,cD,?_⟩;simp only[iA,fP];apply vJ;simp -zeta only[dR];intro o;have l:=px o;refine⟨_,O,λp=>⟨_,O,c.J l,λA=>V,λ_=>⟨q,sp p⟩⟩,λA=>s V _ ⟨c.J l,λa B=>?_⟩⟩;grind
  .grind [decide_eq_false_iff_not]
 refine this.aP ?_;rintro _ t ⟨r,rfl,c,l,p⟩;refine⟨_,O,_,O,c,λg d o=>?_,λf=>?_⟩;rotate_left
 .grind
 by_cases a:d<kn.aU.length
 .have:=l cB d.toNat V;grind
 .rw[Qs a];exact dT _
def VY{s:E}{q:ab}(h:ba m s q):fW dO 81 [s.v,.func (.func 239) #[] #[]] m (∃y∈q,0<=y):=by
 refine jV h 239 #[] #[] cD (λy=>0<=y) λy _ j a=>?_;simp only[iA,fP];apply vK;grind [D.cU]
open Classical in
def VL(x:Instr)(g:Int)(a b:Kn):Prop:=
 if x.op=23\/x.op=24 then(∀i,0<=i->(a.r i).bI<=0)/\(∀q∈a.eO,q<0)/\b=a
 else
  let c:Kn:=if x.dh=0 then a else{a with eO:=gX a.eO (x.dh -1) (-1)}
  if lO x.op then(a.r x.bH).bI<=0/\b=c.dY x.bH g (KA g)else b=c
open Classical in
noncomputable def Ke (x:Instr) (g:Int) (a:Kn):Option Kn:=
 if x.op=23\/x.op=24 then if(∀i,0<=i->(a.r i).bI<=0)/\(∀q∈a.eO,q<0)then some a else none
 else if x.dh≠0/\bt a.eO (x.dh -1)≠x.aO.length then none
 else if lO x.op then if(a.r x.bH).bI<=0 then some ((if x.dh=0 then a else{a with eO:=gX a.eO (x.dh -1) (-1)}).dY x.bH g (KA g))else none
 else some (if x.dh=0 then a else{a with eO:=gX a.eO (x.dh -1) (-1)})
def Al(W:Wk r e m b h ks kn p.aU.toNat B)(hB:1<=B)(hx:iP w p u x)(aa:x.op≠7/\x.op≠8)(ha:ba r s x.aO)(ht:0<=g)(hr:1<=p.aU)(af:x.dh=0\/1<=x.dh/\x.dh<=p.aU):
 nC 207 [vp v 0,vp b 0,.agg #[vi x.op,vi x.bH,vi x.cE,vi x.dh,s.v,y.v],vi g] r e m b h ks p.aU.toNat B (VL x g kn) (Ke x g kn):=by
 have ae:=hx.bH
 have ac:=ha.aT
 have ai:=W.ok.aT
 have al:=W.ql.GN
 have ah:=W.ql.zy
 have aj:=W.ql.XC
 have an:=W.ql.jw
 unfold nC
 apply xA (v,0) (b,0)
 simp -zeta only[dR]
 intro n
 obtain⟨H,z1⟩:=pu n
 have a:=W.ext H
 have N:dI (·=5) e m e n:=dI.fC H W.bs.bF
 have D:∀c∈[m.size],c<n.size:=cB
 have n0:∀c∈[m.size],e c≠5:=λc T=>by
  rw[W.bs.bF c cB];decide
 refine⟨λY M=>M=n/\(Y=true<->x.op=23\/x.op=24),⟨λf=>⟨O,by simp at f;simp[f]⟩,λf=>⟨O,by simp at f;simp[f]⟩⟩,?_⟩
 rintro Y M ⟨hM,ab⟩
 obtain rfl:n=M:=hM.symm
 refine⟨λf=>?_,λf=>?_⟩
 .have A:=ab.1 f
  refine⟨h,a.ql.jB.1,(Yk a.ql).aP ?_⟩
  rintro _ E ⟨Q,rfl,C,I⟩
  have F:=a.ext C
  have l:dI (·=5) e m e E:=dI.fC (H.J C) W.bs.bF
  refine⟨C.eV D,Q,O,λq=>?_,λq=>nC.no l (by
   unfold Ke;rw[bn A,aW];intro z;have:=I.2 z.1;simp at q;rw[q]at this;cases this)⟩
  have I:=I.1 cB
  refine⟨ks,F.ql.jB.2,(VY (F.ql.eO.oN V)).aP ?_⟩
  rintro _ J ⟨G,rfl,S,j⟩
  have K:=F.ext j
  have L:dI (·=5) e m e J:=dI.fC ((H.J C).J j) W.bs.bF
  refine⟨j.eV λc T=>cw (D c T) C.aQ,G,O,!G,e,O,L,λk=>⟨kn,K,?_,?_⟩,λk=>?_⟩
  .grind [VL]
  .unfold Ke
   rw[bn A,bn]
   constructor<;>grind
  .unfold Ke
   rw[bn A,aW]
   intro z
   let⟨R,P,U⟩:=yb S k
   have:=z.2 R P
   omega
 .have A:¬(x.op=23\/x.op=24):=cB
  refine⟨λM=>dI (·=5) e n e M/\me e M 5 b h ks (if x.dh=0 then kn else{kn with eO:=gX kn.eO (x.dh -1) (-1)})/\¬(x.dh≠0/\bt kn.eO (x.dh -1)≠x.aO.length),⟨λq=>?_,λq=>?_⟩,?_⟩
  .have F:x.dh≠0:=cB
   have C:eJ (x.dh -1)=x.dh -1:=by grind [de]
   rw[C]
   refine⟨ks,a.ql.jB.2,V,V,_,a.ql.adY (i:=x.dh -1) V V,λk=>nC.no N (by
    unfold Ke;rw[aW A,bn ⟨F,by rw[<-ac];simpa using k⟩]),λk=>⟨ks,a.ql.jB.2,V,V,a.ql.wrK V V,?_⟩⟩
   intro E
   have l:=a.ql.SX a.bs.bF (ks.off+(x.dh -1).toNat*1) [.i (-1)]
   constructor<;>grind [dI.Df,Wk.ql,me.ade]
  .have C:x.dh=0:=cB
   refine⟨dI.cU _ a.bs.bF,?_,λz=>z.1 C⟩
   grind [Wk.ql]
  rintro E ⟨l,K,ag⟩
  have z2:=l.aQ
  generalize U:(if x.dh=0 then kn else{kn with eO:=gX kn.eO (x.dh -1) (-1)})=k2 at K
  have am:∀I,k2.r I=kn.r I:=λI=>by rw[<-U];split<;>rfl
  have ak:k2.aU.length=kn.aU.length:=cB
  have X:nY k2 p.aU.toNat B:=by
   rw[<-U];split
   .exact W.ok
   .exact W.ok.eO
  refine(qL x.op E aa).aP ?_
  rintro _ J ⟨G,rfl,S,j⟩
  have L:=K.ext j
  have z:dI (·=5) e m e J:=(N.J l).J (dI.fC j l.bF)
  refine⟨j.eV λF C=>cw (D F C) z2,G,O,λk=>⟨true,e,O,z,λ_=>⟨k2,W.of z L X,?_,?_⟩,λf=>by cases f⟩,λk=>?_⟩
  .grind [VL]
  .grind [Ke]
  .have e1:(if(1:Int)<g then 1 else g)=KA g:=by unfold KA;split<;>split<;>omega
   rw[e1]
   refine(qj (t:=g) (l:=KA g) z.bF L (a:=x.bH) V).aP ?_
   rintro _ m4 ⟨Z,rfl,Q,h4,ad⟩
   have P:=z.J Q
   refine⟨Q.Df λF C=>⟨cw (cw (D F C) z2) j.aQ,n0 F C⟩,Z,O,Z,e,O,P,λR=>?_,λR=>?_⟩
   rotate_left
   .grind [Ke]
   let⟨ho,K4⟩:=h4 R
   refine⟨_,W.of P K4 (X.dY V (dT B) (by unfold KA;split<;>omega)),?_,?_⟩
   .grind [VL]
   grind [Ke]
end
section
variable{h:Int}
def _root_.Go.Vc.fX.ac1{α:Type}{m:bg}{d:Nat}{R:ae->α->Prop}{s:E}{y:List α}(e:fX m d R s y){i h:Nat}(q:i<=h)(r:h<=y.length):fX m d R (s.cut i h d) ((y.take h).drop i):=by
 have a:=e.aT;have l:=e.ms;have u:=e.kK;have j:(s.cut i h d).len=h -i/\(s.cut i h d).len<=(s.cut i h d).cap:=by
  cases s with
  |nil=>simp at a;simp[E.cut];omega
  |DK b o sp=>simp at a;simp[E.cut];omega
  |mk b o A c=>simp at a l;simp[E.cut];omega
 refine⟨by simp[j.1];omega,j.2,V,λk x f=>?_⟩;rw[rL,lQ]at f;split at f
 .rename_i t;let⟨n,p,g⟩:=e.kZ _ x f;refine⟨n,p,?_⟩;cases s with
  |nil=>simp at a;omega
  |DK b o sp=>simp at a;omega
  |mk b o A c=>
   simp at a l;have:¬c=i:=V;simp only[E.cut,this,nv,E.lT,E.vP]at g⊢;rw[oB,<-iv]at g;exact g
 .simp at f
variable{C m J:bg}{r K:ag}{v b A F k:Nat}{d f a y c G w ks z H:E}{s:cZ}{p:eG}{B:Int}{kn I:Kn}{x:Instr}{t:Int}
def ZY{i:Int}{g a:tq->tq}(b:∀r,g (a r)=a (g r)):(kn.tj i g).tj h a=(kn.tj h a).tj i g:=by
 simp only[Kn.tj];congr 1;apply ft;grind [Function.comp_def]
def Yi{i e g:Int}:(kn.iJ i e).iJ h g=(kn.iJ h g).iJ i e:=ZY λr=>by
 grind
def wY{i e:Int}:∀(q:ab)(kn:Kn),jN (kn.iJ i e) q=(jN kn q).iJ i e
 |[],_=>O
 |r::q,kn=>by rw[jN,Yi,wY q];rfl
def Ps:∀(q:ab)(r:Int)(kn:Kn),jN kn (q++[r])=(jN kn q).iJ r 1
 |[],r,kn=>O
 |y::q,r,kn=>by rw[eT,jN,Ps q r];rfl
def RW:∀(q:ab){kn:Kn}{B:Int},nY kn A B->(∀r∈q,0<=r/\r<A)->nY (jN kn q) A (B+q.length)
 |[],kn,B,h,_=>by simpa[jN]using h
 |r::q,kn,B,h,a=>by
  have b:=a r cK;have d:=h.bI r b.1;have:=RW q (h.iJ (e:=1) (B':=B+1) b V V) λy c=>a y (aX _ c);grind [jN,nY.aP]
def Pu:∀(q:ab){kn:Kn}{a:Int},(∀r∈q,0<=r/\r<kn.aU.length)->0<=a->(kn.r a).bI<=((jN kn q).r a).bI
 |[],kn,a,_,_=>dT _
 |r::q,kn,a,b,c=>by
  have e:=b r cK;rw[jN];have:=Pu q (kn:=kn.iJ r 1) (a:=a) (λy d=>by rw[rf];exact b y (aX _ d)) c;grind [Int.le_trans,yL]
def yl.Z2(h:x.op=16\/x.op=17){k a:Kn}(b:0<(k.r (bt x.aO 0)).bI)(c:∀r∈x.aO.drop 1,(k.r r).fr=bt x.aO 0){q:Int}(e:0<=q)
 (d:a={jN (k.iJ (bt x.aO 0) (-1)) (x.aO.drop 1)with eO:=if x.op=17 then gX k.eO (bt x.aO 0) q else k.eO}):yl s p k x a:=by
 unfold yl
 grind
def sM(kn:Kn)(a:Int):Nat->ab->ab->Prop
 |_,[],b=>b=[]
 |i,t::c,b=>if t=0 then sM kn a (i+1) c b else match b with
  |[]=>False
  |f::b=>(kn.r f).fr=a/\(kn.r f).Ef=i/\sM kn a (i+1) c b
section
variable{kn:Kn}{a t u:Int}{i:Nat}{g e:ab}
def UZ(h:t=0):sM kn a i (t::g) e=sM kn a (i+1) g e:=by cases e<;>simp[sM,h]
def WC(h:t≠0):sM kn a i (t::g) []=False:=by simp[sM,h]
def UY(h:t≠0):sM kn a i (t::g) (u::e)=((kn.r u).fr=a/\(kn.r u).Ef=i/\sM kn a (i+1) g e):=by simp[sM,h]
end
open Classical in
noncomputable def Qm (s:cZ) (x:Instr) (kn:Kn):Option Kn:=
 if 0<(kn.r (bt x.aO 0)).bI/\0<=(kn.r (bt x.aO 0)).lG/\¬(x.op=17/\0<=bt kn.eO (bt x.aO 0))/\sM kn (bt x.aO 0) 0 (cX s.bS (kn.r (bt x.aO 0)).lG) (x.aO.drop 1)then
  some {jN (kn.iJ (bt x.aO 0) (-1)) (x.aO.drop 1)with eO:=if x.op=17 then gX kn.eO (bt x.aO 0) (cX s.bS (kn.r (bt x.aO 0)).lG).length else kn.eO}
 else none
def Si{y:ab}{i:Nat}{a:Int}(h:y[i]? =some a):y.drop i=a::y.drop (i+1):=by
 grind [br,List.drop_eq_getElem_cons,List.getElem?_eq_getElem,Option.some.inj]
def De(ac:Vx C d f a y c s p)(hb:dF m v jg [.s d,.s f,.s a,.s y,.i p.bQ,.i p.aU,.s c,.s G])(W:Wk C r m b w ks kn p.aU.toNat B)(hB:0<=B/\B<=1000000)(hx:iP s p F x)(ai:x.op=16\/x.op=17)(ha:ba C z x.aO):
 nC 157 [vp v 0,vp b 0,.agg #[vi x.op,vi x.bH,vi x.cE,vi x.dh,z.v,H.v]] C r m b w ks p.aU.toNat (B+3) (yl s p kn x) (Qm s x kn):=by
 have aG:1<=x.aO.length/\x.aO.length<=4:=by
  have e:=hx.op;unfold mJ at e;rcases ai with u|u;all_goals
   simp only[u]at e
   simp+decide only[nv,yi]at e
   exact e.1
 have aO:=(ac.ok.eS p ac.ql).aU
 have aq:=ha.aT
 have am:=jR (l:=x.aO) (i:=0) V V
 have E:=hx.aO _ (aZ am)
 have aM:=W.ok.aT
 have aP:=W.ql.GN
 have aL:=W.ql.zy
 have aN:=W.ql.XC
 have ad:∀k∈x.aO.drop 1,0<=k/\k<p.aU.toNat:=λk I=>by
  have:=hx.aO k (uf I);omega
 generalize R:bt x.aO 0=r0 at*
 have Z:¬(0<(kn.r r0).bI/\0<=(kn.r r0).lG/\¬(x.op=17/\0<=bt kn.eO r0)/\sM kn r0 0 (cX s.bS (kn.r r0).lG) (x.aO.drop 1))->Qm s x kn=none:=λe=>by unfold Qm;rw[R,aW e]
 unfold nC
 apply zt (v,0) (b,0)
 simp -zeta only[dR]
 intro T
 obtain⟨x1,z1⟩:=pu T
 have W1:=W.ext x1
 have g0:aS T z.bz (z.off+Int.toNat 0*1)=some (vi r0):=W1.bs.cW.aS (by simpa using ha.bt am)
 let⟨q0,q1,q2,q3,q4,q5⟩:=W1.ql.dx (i:=r0) E.1 V
 refine⟨V,V,r0,g0,w,W1.ql.jB.1,E.1,V,_,q0,_,q1,_,q2,_,q3,_,q4,_,q5,?_⟩
 intro m2 m3
 have z2:m2.size=m.size+2:=by simp[m2];omega
 have x2:D T m3:=((D.cU T).bZ _).aV V _ _
 have x3:=x1.J x2
 have ag:∀c∈[T.size,m.size],c<m3.size:=by simp[m3,bD];omega
 have W3:=W.ext x3
 have n0:∀c∈[T.size,m.size],r c≠5:=λc hc=>by
  have:m.size<=c:=by simp at hc;omega
  rw[W.bs.bF c this];decide
 have c3:dI (·=5) r m r m3:=dI.fC x3 W.bs.bF
 refine⟨λM=>M=m3/\0<(kn.r r0).bI/\0<=(kn.r r0).lG/\¬(x.op=17/\0<=bt kn.eO r0),⟨λu=>nC.no c3 (Z λe=>by have:=e.1;simp at u;omega),λu=>⟨λK=>nC.no c3 (Z λe=>by have:=e.2.1;simp at K;omega),λK=>⟨λQ=>?_,λQ=>?_⟩⟩⟩,?_⟩
 .refine⟨ks,W3.ql.jB.2,E.1,V,_,W3.ql.adY E.1 V,λJ=>nC.no c3 (Z λe=>e.2.2.1 ⟨sp Q,sp J⟩),λJ=>⟨O,?_,?_,?_⟩⟩
  .simp at u;omega
  .simpa using K
  .simp at J;omega
 .refine⟨O,?_,?_,?_⟩
  .simp at u;omega
  .simpa using K
  .simp at Q;omega
 rintro au ⟨A,aj,ay,aw⟩
 obtain rfl:m3=au:=A.symm
 have aH:=W.ok.lG r0 E.1
 refine⟨d,x3.aS (hb.dx 0),V,V,oh ha.ms,(uy (dA.ext W3.bs.cW ac.bS) ac.dk V).aP ?_⟩
 rintro _ U ⟨ae,rfl,hs,x4⟩
 have aC:=hs.aT
 have Y:=W3.ext x4
 have aE:=x3.J x4
 have aB:∀c∈[T.size,m.size],c<U.size:=λc hc=>cw (ag c hc) x4.aQ
 have c4:dI (·=5) r m r U:=dI.fC aE W.bs.bF
 have ao:ba U (z.cut 1 z.len 1) (x.aO.drop 1):=by
  have:=fX.ac1 (ha.ext Y.bs.cW) (i:=1) (h:=x.aO.length) V bY;rw[fw]at this;rw[aq];exact this
 have an:=ao.aT
 refine⟨x4.eV ag,ae,O,bE (x4.bG _ (ag m.size bO)) _,?_⟩
 refine gL (n:=(cX s.bS (kn.r r0).lG).length) (oh hs.kK) (λh ab M=>M=U/\∃t,t<=(x.aO.drop 1).length/\ba U ab ((x.aO.drop 1).drop t)/\(∀k∈(x.aO.drop 1).take t,(kn.r k).fr=r0)/\(sM kn r0 h ((cX s.bS (kn.r r0).lG).drop h) ((x.aO.drop 1).drop t)<->sM kn r0 0 (cX s.bS (kn.r r0).lG) (x.aO.drop 1))) ⟨O,0,iD _,sp ao,bO,Rf⟩ ?_
 rintro h ab av aF μ hj ⟨A,t,hi,hu,hd,L⟩ ar
 obtain rfl:U=av:=A.symm
 have ak:=hu.aT
 have aI:((x.aO.drop 1).drop t).length=(x.aO.drop 1).length -t:=eX
 refine dit (λu=>?_) λu=>?_
 .let⟨aa,hy⟩:=dV (cX s.bS (kn.r r0).lG) h
  rw[Si hy]at L
  refine⟨V,V,aa,by simpa using hs.bt hy,λS=>ar V _ _ ⟨O,t,hi,hu,hd,by rw[<-L,UZ (sp S)]⟩,λS=>⟨λP=>nC.no c4 (Z λe=>?_),λP=>?_⟩⟩
  .have e:=L.2 e.2.2.2
   have:(x.aO.drop 1).drop t=[]:=cp.1 (by simp at P;omega)
   rw[this,WC (sp S)]at e
   exact e
  have ah:0<ab.len:=by simp at P;omega
  let⟨k,I⟩:=dV ((x.aO.drop 1).drop t) 0
  have X:(x.aO.drop 1)[t]? =some k:=by rw[rL]at I;simpa using I
  have N:=ad k (aZ X)
  rw[Si X,UY (sp S)]at L
  obtain⟨_,_,_,_,w4,w5⟩:=Y.ql.dx (i:=k) N.1 V
  have gr:aS U ab.bz (ab.off+Int.toNat 0*1)=some (vi k):=by simpa using hu.bt I
  refine⟨w,Y.ql.jB.1,V,V,k,gr,N.1,V,_,w4,λK=>nC.no c4 (Z λe=>by have:=(L.2 e.2.2.2).1;simp at K;exact K this),λK=>⟨w,Y.ql.jB.1,V,V,k,gr,N.1,V,_,w5,λQ=>nC.no c4 (Z λe=>by have:=(L.2 e.2.2.2).2.1;simp at Q;exact Q this),λQ=>⟨V,V,oh hu.ms,ar V _ _ ⟨O,t+1,V,?_,?_,?_⟩⟩⟩⟩
  rotate_right
  .rw[<-L]
   exact⟨λe=>⟨sp K,sp Q,e⟩,λe=>e.2.2⟩
  .have:=fX.ac1 hu (i:=1) (h:=((x.aO.drop 1).drop t).length) V bY
   rw[fw,<-ak]at this
   have J:((x.aO.drop 1).drop t).drop 1=(x.aO.drop 1).drop (t+1):=List.drop_drop
   rw[<-J];exact this
  .have K:(kn.r k).fr=r0:=sp K
   intro af J
   rw[bX X]at J
   rcases bU.1 J with e|e
   .exact hd af e
   .simp at e;subst e;exact K
 .have aA:h=(cX s.bS (kn.r r0).lG).length:=V
  rw[aA,List.drop_length,sM]at L
  refine⟨λP=>nC.no c4 (Z λe=>by
   have:=L.2 e.2.2.2;rw[this]at ak;simp at P ak;omega),λP=>?_⟩
  have ax:=L.1 (cp.1 (by simp at P;omega))
  have hY:Qm s x kn=some {jN (kn.iJ r0 (-1)) (x.aO.drop 1)with eO:=if x.op=17 then gX kn.eO r0 (cX s.bS (kn.r r0).lG).length else kn.eO}:=by
   unfold Qm;rw[R,bn ⟨aj,ay,aw,ax⟩]
  have az:t=(x.aO.drop 1).length:=by simp at P;omega
  have ap:∀k∈x.aO.drop 1,(kn.r k).fr=r0:=λk I=>hd k (by rw[az,fw];exact I)
  refine⟨V,V,oh ha.ms,gP (n:=(x.aO.drop 1).length) eX (λt M=>me r M 5 b w ks (jN kn ((x.aO.drop 1).take t))/\dI (·=5) r U r M) ⟨by simpa[jN]using Y.ql,dI.cU _ Y.bs.bF⟩ ?_⟩
  rintro t M I2 μ2 aK ⟨A,cM⟩ aD
  have aa:=RW ((x.aO.drop 1).take t) W.ok λk I=>ad k (gW I)
  have lM:=aa.aT
  have tl:((x.aO.drop 1).take t).length<=3:=eX
  have zM:=cM.aQ
  have ah:∀c∈[T.size,m.size],c<M.size:=λc hc=>cw (aB c hc) zM
  refine dit (λu=>?_) λu=>?_
  .have e':t<(x.aO.drop 1).length:=by rw[<-an];simpa using u
   let⟨k,I⟩:=dV (x.aO.drop 1) t
   have N:=ad k (aZ I)
   have af:ba M (z.cut 1 z.len 1) (x.aO.drop 1):=by
    have:=fX.ac1 (ha.ext (Y.bs.SW cM cD).cW) (i:=1) (h:=x.aO.length) V bY;rw[fw]at this;rw[aq];exact this
   obtain⟨_,w1,_⟩:=A.dx (i:=k) N.1 V
   have ho:=aa.bI k N.1
   refine⟨V,sp u,k,by simpa using af.bt I,w,A.jB.1,N.1,V,_,w1,N.1,V,A.wr N.1 V V,?_⟩
   intro M2
   have hw:eJ (((jN kn ((x.aO.drop 1).take t)).r k).bI+1)=((jN kn ((x.aO.drop 1).take t)).r k).bI+1:=iz
   have X:me r M2 5 b w ks ((jN kn ((x.aO.drop 1).take t)).iJ k 1):=A.cG (g:=λJ=>{J with bI:=J.bI+1}) N.1 V bO (by rw[hw];rfl)
   have cc:=A.qF cM.bF (o:=w.off+k.toNat*6+1) [.i (eJ (((jN kn ((x.aO.drop 1).take t)).r k).bI+1))]
   refine⟨cc.Df λJ S=>⟨ah J S,n0 J S⟩,aD V _ ⟨?_,cM.J cc⟩⟩
   rw[bX I,Ps];exact X
  .have ei:t=(x.aO.drop 1).length:=by
    have:¬t<(x.aO.drop 1).length:=by rw[<-an];simpa using u
    omega
   subst ei
   rw[fw]at A aa tl
   have lM:=aa.aT
   obtain⟨_,w1,_⟩:=A.dx (i:=r0) E.1 V
   have ho:=aa.bI r0 E.1
   have aJ:=Pu (x.aO.drop 1) (kn:=kn) (a:=r0) (λk I=>oh (ad k I)) E.1
   refine⟨w,A.jB.1,E.1,V,_,w1,E.1,V,A.wr E.1 V V,?_⟩
   intro M2
   have hw:eJ (((jN kn (x.aO.drop 1)).r r0).bI -1)=((jN kn (x.aO.drop 1)).r r0).bI+ -1:=iz
   have X:me r M2 5 b w ks ((jN kn (x.aO.drop 1)).iJ r0 (-1)):=A.cG (g:=λJ=>{J with bI:=J.bI+ -1}) E.1 V bO (by rw[hw];rfl)
   have cc:dI (·=5) r M r M2:=A.qF cM.bF (o:=w.off+r0.toNat*6+1) [.i (eJ (((jN kn (x.aO.drop 1)).r r0).bI -1))]
   have al:nY ((jN kn (x.aO.drop 1)).iJ r0 (-1)) p.aU.toNat (B+3):=aa.iJ V V V
   have l2:=al.aT
   have kk:(jN kn (x.aO.drop 1)).eO=kn.eO:=uV _ _
   have c2:=c4.J (cM.J cc)
   have z2:=cc.aQ
   refine⟨cc.Df λJ S=>⟨ah J S,n0 J S⟩,λN=>?_,λN=>?_⟩
   .have N:x.op=17:=sp N
    refine⟨ks,X.jB.2,E.1,V,X.wrK E.1 V,?_⟩
    intro M3
    have K3:=X.ade E.1 V (ae.len:Int)
    have af:dI (·=5) r M2 r M3:=X.SX c2.bF (ks.off+r0.toNat*1) [.i (ae.len:Int)]
    refine⟨af.Df λJ S=>⟨cw (ah J S) z2,n0 J S⟩,true,r,O,c2.J af,λ_=>⟨_,W.of (c2.J af) K3 al.eO,yl.Z2 ai (R▸aj) (R▸ap) (q:=(ae.len:Int)) V ?_,?_⟩,λu=>by cases u⟩
    .rw[R,bn N,wY]
     simp only[Kn.iJ,Kn.tj,kk]
    .rw[hY,bn N,wY,<-aC]
     simp only[Kn.iJ,Kn.tj,kk]
   .have N:x.op≠17:=sp N
    refine⟨true,r,O,c2,λ_=>⟨_,W.of c2 X al,yl.Z2 ai (R▸aj) (R▸ap) (q:=0) V ?_,?_⟩,λu=>by cases u⟩
    .rw[R,aW N,wY,<-kk]
     rfl
    .rw[hY,aW N,wY,<-kk]
     rfl
end
section
variable{a r:Int}
variable{m:bg}{d f s bS:E}{b:af}{e:cZ}{h:ab}{g cE t c:Int}
theorem rE.aba{b:af}(g:eR b){t c:Int}(h:rE b t a r)(d:rE b c a r):t=c:=by
 have e:∀{t c:Int},rE b t a r->rE b c a r->¬t<c:=λ{t c} h d hlt=>by
  let⟨x,m,f,n,o,p⟩:=h;let⟨y,g1,g2,j,k,l⟩:=d;have:=((g.eS _ y g2).Qi cB).1 x (by
   refine kT (i:=t.toNat -1) ?_;rw[lQ,bn V];exact f)
  grind
 have:=e h d;have:=e d h;omega
theorem rE.afk{b:af}{t c:Int}(h:rE b t a r)(d:rE b t a c):r=c:=by
 obtain⟨x,_,f,_,_,g⟩:=h;obtain⟨y,_,g2,_,_,e⟩:=d;grind
def Cr(hd:dA m d b):bK dO 235 [E.v d,vi t] m λz y=>∃a r u i,z=.tuple #[.agg #[vi a,vi r,E.v u],vb i]/\D m y/\(i=true->rE b t a r)/\(∀e g,rE b t e g->i=true):=by
 apply ID;simp -zeta only[kL];intro q;have c:=px q;clear_value q;have B:=hd.aT;have C:=hd.kK;refine⟨λf=>?_,λf=>⟨λj=>?_,λj=>?_⟩⟩
 .intro k;exact⟨_,_,_,_,O,c.aV bY _ _,λh=>(by cases h),λe g⟨x,n,_⟩=>by simp at f;omega⟩
 .intro k;exact⟨_,_,_,_,O,c.aV bY _ _,λh=>(by cases h),λe g⟨x,n,o,_⟩=>by have:=br o;simp at j;omega⟩
 .have f:1<=t:=cB;have j:t<=d.len:=cB;have w:eJ (t -1)=((t.toNat -1:Nat):Int):=by grind [de]
  let⟨x,p⟩:=dV b (t.toNat -1);obtain⟨u,v,s,g1,g2⟩:=(dA.ext c hd).bt p;have F:=v.aT;rw[w];refine⟨V,V,u,g2,λl=>?_,λl=>⟨V,V,_,s,_,g1,u,g2,?_⟩⟩
  .intro k;refine⟨_,_,_,_,O,c.aV bY _ _,λh=>(by cases h),λe g⟨G,n,o,A,_⟩=>?_⟩;grind
  .intro k;refine⟨_,_,_,_,O,c.aV bY _ _,λ_=>⟨x,f,p,cp.1 ?_,O,O⟩,λ_ _ _=>O⟩;simp at l;omega
def Oa(hd:dA m d b):bK dO 236 [d.v,vi a,vi r] m λG C=>∃t,G=vi t/\D m C/\(0<=t->rE b t a r)/\(∀s,rE b s a r->0<=t):=by
 apply IE;simp -zeta only[dR];have K:=hd.aT;have P:=hd.kK;refine gP (n:=b.length) V (λj M=>D m M/\∀i:Nat,i<j->¬rE b ((i+1:Nat):Int) a r) ⟨D.cU m,V⟩ ?_;rintro j M I μ N ⟨g,R⟩ l
 refine⟨λo=>?_,λo=>⟨_,O,g,λh=>absurd h cD,λs⟨H,J,w,y⟩=>?_⟩⟩;rotate_left
 .grind
 simp only[bh]at o;let⟨x,B⟩:=dV b j;let⟨F,A,v,g1,g2⟩:=(dA.ext g hd).bt B;have q:=A.aT;refine⟨V,V,_,v,_,g1,F,g2,?_⟩;intro S E;have f:D m E:=(g.bZ _).aV cB _ _;have k:¬(x.eB=[]/\x.qe=a/\x.to=r)->∀i:Nat,i<j+1->¬rE b ((i+1:Nat):Int) a r:=λQ i L z=>by
  by_cases u:i=j
  .subst u;obtain⟨H,_,w,y⟩:=z;grind
  .grind
 refine⟨λp=>⟨λc=>⟨λe=>?_,λe=>l V _ ⟨f,k λh=>by simp at e;exact e h.2.2⟩⟩,λc=>l V _ ⟨f,k λh=>by simp at c;exact c h.2.1⟩⟩,λp=>l V _ ⟨f,k λh=>by rw[h.1]at q;simp at p q;omega⟩⟩;refine⟨_,O,f,λ_=>?_,λ_ _=>by rw[Pf V];omega⟩;rw[Pf V];refine⟨x,V,?_,cp.1 cB,sp c,sp e⟩;grind
end
section
variable{q:eG}{a u:Int}
variable{m:bg}{d f s bS:E}{h:af}{e:cZ}{g:ab}{b cE t c:Int}
theorem fY.ov(h:b=0):fY e b cE [] 0:=by grind [fY]
theorem fY.Nk(h:b=1\/b=2\/b=3\/b=4):fY e b cE [0,0] 0:=by grind [fY]
theorem fY.mM(h:b=5):fY e b cE [0] 0:=by grind [fY]
theorem fY.lG(h:b=6)(a:cE∈cT e.bS t):fY e b cE (cX e.bS cE) t:=by
 grind [fY]
theorem fY.jF(h:b=9)(a:e.di[cE.toNat]? =some q):fY e b cE q.aY q.bQ:=by
 grind [fY]
def fY.afg(h:b=10)(c:e.di[cE.toNat]? =some q)(d:q.aY=g++[a])(f:rE e.bS t a q.bQ):fY e b cE g t:=by
 grind [fY]
def fY.nE(h:b=11)(c:rE e.bS u a t):fY e b cE [u,a] t:=by
 grind [fY]
def sT0(h:b=0)(a:fY e b cE g t):g=[]:=by grind [fY]
theorem sT2(h:b=1\/b=2\/b=3\/b=4)(a:fY e b cE g t):g=[0,0]:=by grind [fY]
theorem sT5(h:b=5)(a:fY e b cE g t):g=[0]:=by grind [fY]
def sT6(h:b=6)(a:fY e b cE g t):cE∈cT e.bS t/\g=cX e.bS cE:=by grind [fY]
theorem sT9(h:b=9)(a:fY e b cE g t):∃q,e.di[cE.toNat]? =some q/\g=q.aY/\t=q.bQ:=by grind [fY]
theorem aec(h:b=10)(c:fY e b cE g t):∃q a,e.di[cE.toNat]? =some q/\q.aY=g++[a]/\rE e.bS t a q.bQ:=by grind [fY]
def aed(h:b=11)(c:fY e b cE g t):∃u a,g=[u,a]/\rE e.bS u a t:=by unfold fY at c;rw[aW V,aW V,aW V,aW V,aW V,aW V,bn h]at c;exact c
def sTx(h:¬(b=0\/b=1\/b=2\/b=3\/b=4\/b=5\/b=6\/b=9\/b=10\/b=11))(a:fY e b cE g t):False:=by
 grind [fY]
def rE.nn{r:Int}(e:eR h)(b:rE h u a r):0<=r:=by
 let⟨x,f,c,g,i,d⟩:=b;have:=((e.eS _ x c).Qi cB).2.2;rw[<-d];exact this.1
theorem nD.bQ{p:eG}(h:nD e.bS e.di)(a:p∈e.di):0<=p.bQ:=(h.eS p a).2.2.1
def xw(so:nD e.bS e.di)(hd:dA m d e.bS)(hf:oW m f e.di)(z:ba m s g)(al:g.length<=1000000)(hn:b=6->-1000000<=cE/\cE<=1000000)(H:(b=0->-999<=cE/\cE<=999)/\(b=1\/b=2\/b=3\/b=4\/b=5\/b=11->cE=0)/\(b=9\/b=10->0<=cE/\cE<e.di.length)):
 bK dO 206 [.agg #[d.v,f.v],vi b,vi cE,s.v] m λag m'=>∃t o,ag=.tuple #[vi t,vb o]/\D m m'/\(o=true->0<=t/\fY e b cE g t)/\((∃h,fY e b cE g h)->o=true):=by
 have ht:=so.dk
 apply tK
 simp -zeta only[dR]
 intro x
 obtain⟨l,z1⟩:=pu x
 have Z:∀c∈[m.size],c<x.size:=eX
 have Y:=z.aT
 have K:∀{t:Int}{M:bg},D m M->(¬∃h,fY e b cE g h)->∃h o,(.tuple #[vi t,vb false]:Value)=.tuple #[vi h,vb o]/\D m M/\(o=true->0<=h/\fY e b cE g h)/\((∃h,fY e b cE g h)->o=true):=λU hn=>⟨_,false,O,U,λi=>(by cases i),λi=>absurd i hn⟩
 refine⟨λN=>⟨λ_=>⟨λ_=>?_,λk=>absurd (H.1 (sp N)).2 (sp k)⟩,λk=>absurd (H.1 (sp N)).1 (sp k)⟩,λN=>⟨λy=>?_,λy=>⟨λh5=>?_,λh5=>⟨λF=>?_,λF=>⟨λG=>?_,λG=>⟨λP=>?_,λP=>K l λ⟨h,i⟩=>sTx (by simp at N y h5 F G P;omega) i⟩⟩⟩⟩⟩⟩
 .refine⟨0,_,O,l,λk=>?_,λ⟨h,i⟩=>by have:=sT0 (sp N) i;subst this;simp at Y;simp[Y]⟩
  have:g=[]:=cp.1 (by simp at k;omega)
  grind [fY.ov]
 .intro n
  have j:D m n:=l.bZ _
  have p:ba n (.mk x.size 0 2 2) [0,0]:=ba.ju (jy.bF (D.cU x) bB 1 ([0,0].map Ce.i) 2 bO) bO
  have z2:x.size<=n.size:=by simp[n]
  refine⟨λ_=>(kC (z.ext j) p).aP ?_,λk=>absurd (H.2.1 (by simp at y;omega)) (sp k)⟩
  grind [D.eV,D.J,sT2,fY.Nk]
 .intro n
  have j:D m n:=l.bZ _
  have p:ba n (.mk x.size 0 1 1) [0]:=ba.ju (jy.bF (D.cU x) bB 1 ([0].map Ce.i) 1 bO) bO
  have z2:x.size<=n.size:=by simp[n]
  refine⟨λ_=>(kC (z.ext j) p).aP ?_,λk=>absurd (H.2.1 (by simp at h5;omega)) (sp k)⟩
  grind [D.eV,D.J,sT5,fY.mM]
 .have F:b=11:=sp F
  refine⟨λk=>K l λ⟨h,i⟩=>(by obtain⟨u,a,y,_⟩:=aed F i;rw[y]at Y;simp at k Y;omega),λk=>?_⟩
  have k:s.len=2:=by simp at k;omega
  let⟨u,R⟩:=dV g 0
  let⟨a,J⟩:=dV g 1
  have aa:g=[u,a]:=by
   match g,R,J,(by omega:g.length=2)with
   |[_,_],R,J,_=>simp at R J;rw[R,J]
  have L:aS x s.bz (s.off+Int.toNat 0*1)=some (vi u):=by simpa using(z.ext l).bt R
  have kH:∀{M:bg}{A E:Int}{o:Bool},D m M->(o=true->rE e.bS u A E)->o=true->a=A->∃h C,(.tuple #[vi E,vb (cE==0)]:Value)=.tuple #[vi h,vb C]/\D m M/\(C=true->0<=h/\fY e b cE g h)/\((∃h,fY e b cE g h)->C=true):=λU p v r=>
   ⟨_,_,O,U,λ_=>(by
    have p:=p v;rw[aa];exact⟨p.nn ht,fY.nE F (r▸p)⟩),λ_=>by rw[H.2.1 V];rfl⟩
  have X:∀{M:bg}{A E T:Int}{o:Bool},D m M->(o=true->rE e.bS u A E)->(∀a' w,rE e.bS u a' w->o=true)->¬(o=true/\a=A)->∃h C,(.tuple #[vi T,vb false]:Value)=.tuple #[vi h,vb C]/\D m M/\(C=true->0<=h/\fY e b cE g h)/\((∃h,fY e b cE g h)->C=true):=λU p hB hn=>K U λ⟨h,i⟩=>by
   let⟨u',a',y,h2⟩:=aed F i;rw[aa]at y;simp at y;obtain⟨rfl,rfl⟩:=y;have v:=hB _ _ h2;obtain⟨W,_,g2,_,g4,_⟩:=p v;obtain⟨ac,_,k2,_,k4,_⟩:=h2;grind
  refine⟨V,V,u,L,(Cr (dA.ext l hd)).aP ?_,?_⟩
  .rintro _ n ⟨A,E,T,o,rfl,j,p,Q⟩
   refine⟨j.eV Z,A,E,T,o,O,?_⟩
   intro S
   have B:=px S
   have b0:m.size<n.size:=cw V j.aQ
   refine⟨B.da (j.aS L),bE (B.bG _ b0) _,?_⟩
   intro I
   have w:D m I:=((l.J j).J B).aV (VI l.aQ j.aQ) _ _
   refine⟨λv=>⟨V,V,a,by simpa using(z.ext w).bt J,λr=>kH w p v (sp r),λr=>X w p Q λi=>by simp at r;exact r i.2⟩,λv=>X w p Q λi=>by rw[i.1]at v;cases v⟩
  .intro n
   have j:=px n
   have z2:n.size=m.size+2:=by simp[n];omega
   have ab:∀c∈[x.size,m.size],c<n.size:=eX
   refine⟨j.da L,bE (j.bG _ V) _,(Cr (dA.ext (l.J j) hd)).aP ?_⟩
   rintro _ S ⟨A,E,T,o,rfl,B,p,Q⟩
   refine⟨B.eV ab,A,E,T,o,O,?_⟩
   intro I
   have w:D m I:=((l.J j).J B).aV V _ _
   refine⟨λv=>⟨V,V,a,by simpa using(z.ext w).bt J,λr=>kH w p v (sp r),λr=>X w p Q λi=>by simp at r;exact r i.2⟩,λv=>X w p Q λi=>by rw[i.1]at v;cases v⟩
 .have G:b=6:=sp G
  refine(HY (dA.ext l hd) ht cE (hn G)).aP ?_
  rintro _ n ⟨t,q,rfl,v,j,X,R⟩
  refine⟨j.eV Z,t,q,O,?_⟩
  intro S I
  have w:=py I
  have aa:∀c∈[n.size,m.size],c<I.size:=by have:=l.aQ;have:=j.aQ;simp[I,S,bD];omega
  have A:=(l.J j).J w
  refine⟨λk=>(kC (z.ext A) (v.ext w)).aP ?_,λk=>K A λ⟨h,i⟩=>by have:=R h (sT6 G i).1;simp at k;omega⟩
  rintro _ m5 ⟨E,rfl,J,Q⟩
  have k:0<=t:=cB
  refine⟨Q.eV aa,E,O,t,E,O,A.J Q,λT=>⟨k,?_⟩,λ⟨h,i⟩=>J.2 (sT6 G i).2⟩
  grind [fY.lG]
 .have P:b=9\/b=10:=cB
  have ah:=hf.aT
  refine⟨λk=>absurd (H.2.2 P).1 cB,λQ=>⟨λk=>absurd (H.2.2 P).2 cB,λr=>?_⟩⟩
  have Q:0<=cE:=cB
  have r:cE<e.di.length:=cB
  let⟨q,v⟩:=dV e.di cE.toNat
  let⟨a,C,I,aj,L,g1,g2⟩:=(oW.ext l hf).bt v
  have aa:=I.aT
  have af:=aZ v
  have ak:=(so.eS q af).1
  have ai:=I.ms
  refine⟨Q,V,a,L,Q,V,q.bQ,g2,λe9=>(kC (z.ext l) I).aP ?_,λe9=>⟨λw=>K l λ⟨h,i⟩=>(by
   obtain⟨q',W,A,k2,_⟩:=aec cB i;rw[v]at A;cases A;have R:eJ ((a.len:Int) -1)=(a.len:Int) -1:=by grind [de]
   rw[R]at w;rw[k2]at aa;simp at w aa;omega),λw=>?_⟩⟩
  .grind [D.eV,D.J,nD.bQ,sT9,fY.jF]
  .have ac:b=10:=cB
   have R:eJ ((a.len:Int) -1)=(a.len:Int) -1:=by grind [de]
   rw[R]at w⊢
   have w:1<=a.len:=cB
   have et:((a.len:Int) -1).toNat=q.aY.length -1:=V
   let⟨W,hy⟩:=dV q.aY (q.aY.length -1)
   refine⟨V,V,W,by rw[et];exact I.bt hy,(Oa (dA.ext l hd)).aP ?_⟩
   rintro _ n ⟨t,rfl,j,p,ad⟩
   have ab:∀{h},fY e b cE g h->q.aY=g++[W]/\rE e.bS h W q.bQ:=λ{h} i=>by
    grind [aec]
   refine⟨j.eV Z,t,O,λA=>⟨V,V,V,?_⟩,λA=>K (l.J j) λ⟨h,i⟩=>by have:=ad h (ab i).2;simp at A;omega⟩
   have ae:ba n (a.cut (Int.toNat 0) ((a.len:Int) -1).toNat 1) (q.aY.take (q.aY.length -1)):=by
    grind [fX.SZ,ba.ext]
   refine(kC (z.ext (l.J j)) ae).aP ?_
   rintro _ S ⟨E,rfl,J,B⟩
   have A:0<=t:=cB
   refine⟨B.eV λc X=>cw (Z c X) j.aQ,E,O,t,E,O,(l.J j).J B,λT=>⟨A,fY.afg ac v ?_ (p A)⟩,λ⟨h,i⟩=>J.2 (by rw[(ab i).1];simp)⟩
   rw[J.1 T]
   have:=bX hy
   grind
end
section
variable{r:Int}{l:ab}
variable{a:cZ}{p:eG}{x:Instr}{kn b:Kn}{t:Int}{d n:Nat}{B:Int}{c:ab}
theorem fY.aba(f:eR a.bS){b cE d:Int}(h:fY a b cE c t)(e:fY a b cE c d):t=d:=by
 unfold fY at h e;grind [Us,rE.aba,rE.afk,List.append_cancel_left]
def CH(a:cZ)(x:Instr)(l:ab):ab:=if x.op=9\/x.op=24 then jW a x 0 l else l
def Nh:∀(l:ab)(r:Int)(k:Kn),fZ k (l++[r])=if((fZ k l).r r).lp=0 then fZ k l else(fZ k l).iJ r (-1)
 |[],r,k=>O
 |y::l,r,k=>by rw[eT,fZ,Nh l];rfl
def Gq:∀(l:ab)(k:Kn)(i:Int),(∀r∈l,0<=r/\r<k.aU.length)->0<=i->((fZ k l).r i).lp=(k.r i).lp
 |[],k,i,_,_=>O
 |r::l,k,i,b,a=>by
  have d:=b r cK;rw[fZ];split
  .exact Gq l k i (λy c=>b y (aX _ c)) a
  .rw[Gq l _ i (λy c=>by rw[rf];exact b y (aX _ c)) a,yL d a]
def Q0:∀(l:ab)(k:Kn)(i:Int),(∀r∈l,0<=r/\r<k.aU.length)->0<=i->((fZ k l).r i).bI<=(k.r i).bI
 |[],k,i,_,_=>dT _
 |r::l,k,i,a,c=>by
  have d:=a r cK;rw[fZ];split
  .exact Q0 l k i (λy b=>a y (aX _ b)) c
  .refine Int.le_trans (Q0 l _ i (λy b=>by rw[rf];exact a y (aX _ b)) c) ?_;grind [yL]
def Lv:∀(l a:ab)(k:Kn),fZ k (l++a)=fZ (fZ k l) a
 |[],_,_=>O
 |r::l,a,k=>by rw[eT,fZ,Lv l];rfl
def Vo:∀(l:ab)(k:Kn),(∀r∈l,(k.r r).lp=0)->fZ k l=k
 |[],_,_=>O
 |r::l,k,h=>by rw[fZ,bn (h r cK)];exact Vo l k λy a=>h y (aX _ a)
def Zg(h:mJ a p d x)(b:eR a.bS)(c:nD a.bS a.di):x.aO.length<=4:=by
 have f:∀{q:eG}{i:Nat},a.di[i]? =some q->q.aY.length<=3:=λe=>(c.eS _ (aZ e)).1;have:=Ed b x.cE;unfold mJ rS at h;grind (splits:=20)
theorem Q7{i:Nat}(h:x.aO[i]? =some r):(qA kn x.aO)[i]? =some (kn.r r).lp:=by simp[qA,h]
def YQ(d:uU a p x (qA kn x.aO) t)(f:x.op≠15/\x.op≠16/\x.op≠17/\x.op≠18):fZ kn (cO a x)=fZ kn (CH a x x.aO):=by
 have z:∀{l:ab},qA kn x.aO=l->(∀y∈l,y=0)->∀r∈x.aO,(kn.r r).lp=0:=λe b r c=>b _ (e▸gK.2 ⟨r,c,O⟩);have g:=Vo x.aO kn;unfold uU fY at d;unfold cO CH;grind [fZ]
def Pc:CH a x (l++[r])=CH a x l++(if(x.op=9\/x.op=24)/\lB a x l.length=true then[]else[r]):=by
 grind [CH,sj,jW,lB,List.length]
def Pd(h:r∈CH a x l):r∈l:=by
 grind [CH,uG]
open Classical in
def Yg.of(d:x.op≠15/\x.op≠16/\x.op≠17/\x.op≠18)(g:uU a p x (qA kn x.aO) t)(h:nY (fZ kn (CH a x x.aO)) n B)(e:∀r∈x.aO,0<=r)(f:(x.op=9\/x.op=24)->∀r∈fK a x 0 x.aO,ru (fZ kn (CH a x x.aO)) r)
 (i:VL x t (fZ kn (CH a x x.aO)) b):Yg p a kn x t b:=by
 unfold Yg
 rw[YQ g d]
 refine⟨λr c=>(h.bI r ?_).1,f,?_⟩
 .refine e r ?_
  unfold cO at c
  repeat' (split at c)
  .exact c
  .exact gW c
  .exact uG c
  .simp at c
 .grind [VL]
def yl.use(h:x.op≠22/\x.op≠14/\x.op≠15/\x.op≠16/\x.op≠17/\x.op≠18/\x.op≠19)(d:uU a p x (qA kn x.aO) t)(c:Yg p a kn x t b):yl a p kn x b:=by
 grind [yl]
end
section
abbrev VG:=dI (λk=>k=5\/k=7)
def oE(f:Nat)(c:ap)(s:bg)(k:ag)(m:bg)(b:Nat)(u ks:E)(n:Nat)(B:Int)(Q:Kn->Prop)(F:Option Kn):Prop:=
 bK dO f c m λw y=>∃g z,w=vb g/\VG k m z y/\(g=true->∃a,Wk s z y b u ks a n B/\Q a/\F=some a)/\(g=false->F=none)
open Classical in
noncomputable def TU (h:cZ) (p:eG) (e:Instr) (kn:Kn):Option Kn:=
 if a:∃t,uU h p e (qA kn e.aO) t then
  if(∀g∈CH h e e.aO,0<=((fZ kn (CH h e e.aO)).r g).bI)/\((e.op=9\/e.op=24)->∀g∈fK h e 0 e.aO,ru (fZ kn (CH h e e.aO)) g)then Ke e a.choose (fZ kn (CH h e e.aO))else none
 else none
@[grind cases] structure CL (m0 m M:bg) (ro ro2:ag) (im:cZ) (x:Instr) (kn:Kn) (b:Nat) (rs ks:E) (n:Nat) (B:Int) (T:E) (ts ll:ab) (df:E) (i:Nat):Prop where
 wk:Wk m0 ro2 M b rs ks (fZ kn (CH im x (x.aO.take i))) n B
 fO:VG ro m ro2 M
 ty:iE ro2 M bB 1 0 T (ts.map Ce.i)
 qB:iE ro2 M bB 1 7 df (ll.map Ce.i)
 p7:ll.length<=i/\∀r∈ll,r∈x.aO/\(x.op=9\/x.op=24)/\r∈fK im x 0 (x.aO.take i)
 UU:(x.op=9\/x.op=24)->∀r∈fK im x 0 (x.aO.take i),r∈ll
variable{s m y M o:bg}{k z j:ag}{v b n C i:Nat}{d f a l c F u ks I J T df:E}{h:cZ}{p:eG}{B A:Int}{kn H:Kn}{e:Instr}{t g:Int}{w q:ab}{K:Kn->Prop}
def oE.no{F:Option Kn}(d:VG k m z y)(c:F=none):∃g z,vb false=vb g/\VG k m z y/\(g=true->∃a,Wk s z y b u ks a n B/\K a/\F=some a)/\(g=false->F=none):=⟨false,z,O,d,λe=>(by cases e),λ_=>c⟩
theorem ZH{a:Int}{k:Kn}(h:e.op=20\/e.op=23):Ke e t k=Ke e a k:=by
 grind [Ke,lO]
open Classical in
def XZ(d:eR h.bS)(a:uU h p e (qA kn e.aO) t)(c:e.op≠23->t=g):TU h p e kn=
 if(∀g∈CH h e e.aO,0<=((fZ kn (CH h e e.aO)).r g).bI)/\((e.op=9\/e.op=24)->∀g∈fK h e 0 e.aO,ru (fZ kn (CH h e e.aO)) g)then Ke e g (fZ kn (CH h e e.aO))else none:=by
 unfold TU
 have b:∃t,uU h p e (qA kn e.aO) t:=⟨t,a⟩
 grind [Ke,fZ,CH,ZH,uU,fY.aba]
def abb(i:Nat):∃a,CH h e e.aO=CH h e (e.aO.take i)++a/\∀g∈a,g∈e.aO:=by
 have b:=j9 i e.aO;unfold CH;split
 .have c:=sj h e (e.aO.take i) (e.aO.drop i) 0;grind [List.mem_of_mem_drop,uG]
 .grind [List.drop,List.mem_of_mem_drop]
def abc(o:eR h.bS)(c:uU h p e (qA kn e.aO) t)(a:∀g∈e.aO,0<=g/\g<kn.aU.length)(k:g∈CH h e (e.aO.take i))(q:((fZ kn (CH h e (e.aO.take i))).r g).bI<0):TU h p e kn=none:=by
 rw[XZ (g:=t) o c λ_=>O,aW];intro f;let⟨n,b,j⟩:=abb (h:=h) (e:=e) i;have l:=a g (gW (Pd k));have d:=f.1 g cB;rw[b,Lv]at d;have:=Q0 n (fZ kn (CH h e (e.aO.take i))) g (λy m=>by rw[Gp];exact a y (j y m)) l.1;omega
def iE.LQ{a c b:Nat}{s:E}{l:ae}(h:iE k m a c b s l)(e:D m y):iE k y a c b s l:=by grind [iE.fR,D.bG,iE.bz]
def CL.ext(a:CL s m M k j h e kn b u ks n B T w q df i)(c:D M o):CL s m o k j h e kn b u ks n B T w q df i:=
 ⟨a.wk.ext c,a.fO.J (dI.fC c a.fO.bF),a.ty.LQ c,a.qB.LQ c,a.p7,a.UU⟩
def CL.adj(a:CL s m M k j h e kn b u ks n B T w q df i)(f:e.aO[i]? =some g)(o:∀g∈e.aO,0<=g/\g<kn.aU.length)(p:(kn.r g).lp=0)(r:(e.op=9\/e.op=24)->¬lB h e i=true):
 CL s m M k j h e kn b u ks n B T w q df (i+1):=by
 have l:(e.aO.take i).length=i:=by have:=br f;simp;omega
 have t:=o g (aZ f)
 refine⟨?_,a.fO,a.ty,a.qB,⟨by have:=a.p7.1;omega,λy d=>⟨(a.p7.2 y d).1,(a.p7.2 y d).2.1,by rw[bX f,lx];exact dN _ (a.p7.2 y d).2.2⟩⟩,λv y d=>?_⟩
 .rw[bX f,Pc,l,aW (λc=>r c.1 c.2),Nh,bn (by rw[Gq _ _ _ (λy d=>o y (gW (Pd d))) t.1];exact p)]
  exact a.wk
 .rw[bX f,lx,eW,l]at d
  grind [CL.UU,fK]
def CL.Ni(a:CL s m M k j h e kn b u ks n B T w q df i)(f:e.aO[i]? =some g)(A:∀g∈e.aO,0<=g/\g<kn.aU.length)(G:(kn.r g).lp≠0)(t:¬((e.op=9\/e.op=24)/\lB h e i=true))(H:B<=1000000):
 bK dO 156 [vp b 0,vi g] M λv o=>∃l:Bool,v=vb l/\dI (·=5) j M j o/\VG k m j o/\(l=true->CL s m o k j h e kn b u ks n B T w q df (i+1))/\(l=false->g∈CH h e (e.aO.take (i+1))/\((fZ kn (CH h e (e.aO.take (i+1)))).r g).bI<0):=by
 have r:(e.aO.take i).length=i:=by have:=br f;simp;omega
 have C:=A g (aZ f)
 have I:=a.wk.ok.aT
 have J:=Gp (CH h e (e.aO.take i)) kn
 have L:((fZ kn (CH h e (e.aO.take i))).r g).lp=(kn.r g).lp:=Gq _ _ _ (λy d=>A y (gW (Pd d))) C.1
 refine(sI a.fO.bF a.wk.ql a.wk.ok V C.1 V).aP ?_
 rintro _ o ⟨l,rfl,E,p,K⟩
 have x:VG j M j o:=by grind [dI.aP]
 have F:fZ kn (CH h e (e.aO.take (i+1)))=(fZ kn (CH h e (e.aO.take i))).iJ g (-1):=by
  rw[bX f,Pc,r,aW t,Nh,aW cB]
 refine⟨l,O,p,a.fO.J x,λD=>⟨?_,a.fO.J x,a.ty.fO p cD,a.qB.fO p cD,⟨by have:=a.p7.1;omega,λy d=>⟨(a.p7.2 y d).1,(a.p7.2 y d).2.1,by rw[bX f,lx];exact dN _ (a.p7.2 y d).2.2⟩⟩,λz y d=>?_⟩,λD=>⟨?_,?_⟩⟩
 rotate_right
 .grind
 rotate_right
 .rw[bX f,Pc,r,aW t];simp
 .grind [CL.wk,Wk.ok,yL,Wk.of,nY.iJ]
 .rw[bX f,lx,eW,r]at d
  rcases bU.1 d with d|d
  .exact a.UU z y d
  .rw[fK,aW (λc=>t ⟨z,c⟩)]at d;simp[fK]at d
def CL.afm{G:E->bg->Prop}(p:CL s m M k j h e kn b u ks n B T w q df i)(r:e.aO[i]? =some g)(A:(e.op=9\/e.op=24)/\lB h e i=true)(P:e.aO.length<=4)
 {d:Nat}(y:∀l o f a,gS [d] (M.push (.cells (db [.i g]) bB)) o->CL s m o k f h e kn b u ks n B T w a l (i+1)->G l o)(N:d<M.size)(I:j d=0):mj (M.push (.cells (db [.i g]) bB)) bB [.i 0] 8 df (.mk M.size 0 1 1) G:=by
 have x:(e.aO.take i).length=i:=by have:=br r;simp;omega
 have L:=br r
 have a:=p.ext (D.push M (.cells (db [.i g]) bB))
 have z:=p.qB.aT
 have K:=p.p7.1
 simp at z
 refine iE.fx (f:=[.i 0]) (new:=[.i g]) a.qB a.fO.bF bO (dF.push M [.i g] bB).kZ (by simp only[E.kv];omega) λf l o F t=>?_
 have v:VG j (M.push (.cells (db [.i g]) bB)) f o:=by grind [dI.aP]
 have eV:gS [d] (M.push (.cells (db [.i g]) bB)) o:=λc J=>by
  grind
 refine y l o f (q++[g]) eV ⟨?_,a.fO.J v,a.ty.fO t cD,sp F,⟨eX,λH C=>?_⟩,λO H C=>?_⟩
 .rw[bX r,Pc,x,bn A,fP]
  exact⟨a.wk.bs.SW t cD,a.wk.ql.fO t cD,a.wk.ok⟩
 .grind [bX,lx,CL.p7,aZ,List.mem_append_right,fK]
 .grind [bX,lx,CL.UU,fK]
end
section
variable{s m J M H:bg}{j y o:ag}{u b L A h:Nat}{d f a l c C w ks k F T df:E}{e:cZ}{g:eG}{B G:Int}{kn I:Kn}{x:Instr}{t r:Int}{z q:ab}{K:Kn->Prop}
theorem aa4{l:ab}{h:Nat}{w:Int}{j:Nat}(a:h<l.length):(gX l h w)[j]? =if j=h then some w else l[j]? :=by
 grind [gX,Int.toNat_natCast,List.getElem?_set_self,List.getElem?_set_ne]
def aaT(i:iB e)(j:x.op=9\/x.op=24)(o:uU e g x z t){h:Nat}{y:Int}(a:lB e x h=true)(p:z[h]? =some y):y≠0:=by
 have b:fY e 9 x.cE z t:=by
  grind [uU]
 unfold fY at b;rw[aW cD,aW cD,aW cD,aW cD,bn O]at b;obtain⟨q,c,l,_⟩:=b;unfold lB dG at a;rw[c]at a;simp only[uj,Xd,bP]at a;obtain⟨r,f,rfl⟩:=a;let⟨k,d⟩:=cH.1 f;obtain⟨⟨u,_,m,n⟩,_⟩:=(i.eS q (aZ c)).df k _ d;grind [Int.toNat_natCast]
def P7{q:eG}{h:Nat}(a:e.di[x.cE.toNat]? =some q):lB e x h=true<->(h:Int)∈q.df:=by
 grind [lB,dG]
def Tu(h:mJ e g A x):(x.op=0->-999<=x.cE/\x.cE<=999)/\(x.op=1\/x.op=2\/x.op=3\/x.op=4\/x.op=5\/x.op=11->x.cE=0)/\(x.op=9\/x.op=10\/x.op=24->0<=x.cE/\x.cE<e.di.length):=by
 unfold mJ rS at h;have:=λq(h:e.di[x.cE.toNat]? =some q)=>br h;grind (splits:=20)
def Et(U:Vx s d f a l c e g)(hb:dF m u jg [.s d,.s f,.s a,.s l,.i g.bQ,.i g.aU,.s c,.s C])(hv:j u=4)(Z:Wk s j m b w ks kn g.aU.toNat B)(hB:1<=B/\B<=1000000)(Q:iP e g A x)(ha:ba s k x.aO)
 (aE:x.op≠22/\x.op≠14/\x.op≠15/\x.op≠16/\x.op≠17/\x.op≠18/\x.op≠19)(av:x.op≠7/\x.op≠8):
 oE 160 [vp u 0,vp b 0,.agg #[vi x.op,vi x.bH,vi x.cE,vi x.dh,k.v,F.v]] s j m b w ks g.aU.toNat B (yl e g kn x) (TU e g x kn):=by
 have so:=U.ok.mN
 have ay:=Zg Q.op so.dk so
 have aI:=(U.ok.eS g U.ql).aU
 have au:=ha.aT
 have aO:=Z.ok.aT
 have aQ:=Z.ql.GN
 have ad:∀r∈x.aO,0<=r/\r<kn.aU.length:=λr H=>by have:=Q.aO r H;omega
 have aT:(qA kn x.aO).length=x.aO.length:=by simp[qA]
 unfold oE
 apply Am (u,0) (b,0)
 simp -zeta only[dR,fq]
 intro Y
 obtain⟨x1,z1⟩:=pu Y
 refine⟨V,V,V,V,?_⟩
 intro m2
 have x2:D m m2:=x1.bZ _
 have z2:m2.size=m.size+2:=by simp[m2];omega
 have a2:iE j m2 bB 1 0 (.mk Y.size 0 k.len k.len) ((eP k.len).map Ce.i):=by
  have:=jy.bF (D.cU Y) bB 1 ((eP k.len).map Ce.i) k.len (by simp[lH]);rw[<-pI]at this⊢;exact iE.ju this λ_=>Z.bs.bF _ (by show m.size<=Y.size;omega)
 refine gP (n:=x.aO.length) V (λh M=>D m M/\m2.size<=M.size/\∃I:ab,I.length=x.aO.length/\iE j M bB 1 0 (.mk Y.size 0 k.len k.len) (I.map Ce.i)/\∀X,X<h->I[X]? =(qA kn x.aO)[X]?) ⟨x2,bY,_,by rw[lH,au],a2,V⟩ ?_
 rintro h M aL μ hi ⟨xM,zM,I,P,aM,aG⟩ aa
 have WM:=Z.ext xM
 refine dit (λG=>?_) λG=>?_
 .let⟨r,H⟩:=dV x.aO h
  have rr:=ad r (aZ H)
  obtain⟨w0,_⟩:=WM.ql.dx (i:=r) rr.1 V
  have gr:aS M k.bz (k.off+h*1)=some (vi r):=WM.bs.cW.aS (ha.bt H)
  refine⟨V,V,r,gr,w,WM.ql.jB.1,rr.1,V,_,w0,V,by simp only[E.kv];omega,?_,?_⟩
  .grind [iE.SE]
  intro J
  have a3:iE j J bB 1 0 (.mk Y.size 0 k.len k.len) ((gX I h (kn.r r).lp).map Ce.i):=by
   grind [iE.gX]
  have K:D m J:=xM.aV (by show m.size<=Y.size;omega) _ _
  have z:J.size=M.size:=bD _ _ _ _
  have eV:gS [m.size] M J:=λc hc=>by
   have:c=m.size:=sp hc;subst this;exact cq _ _ _ _ (by show m.size≠Y.size;omega)
  refine⟨eV,aa V _ ⟨K,V,_,by rw[jP,P],a3,λX hj=>?_⟩⟩
  grind [aa4,Q7]
 have aH:I=qA kn x.aO:=by
  apply ft;grind
 subst aH
 clear aa G aG
 generalize hT:E.mk Y.size 0 k.len k.len=T at*
 have aN:T.len=x.aO.length:=by rw[<-hT];exact au
 have cM:VG j m j M:=dI.fC xM Z.bs.bF
 have af:=hb.ext xM
 have mM:(x.op=23\/x.op=20)->x.aO.length=1:=λz=>by
  have:=Q.op;unfold mJ at this;rcases z with z|z<;>simp only[z]at this<;>simp+decide only[nv,yi]at this<;>exact this.1
 have g1:x.aO.length=1->∃L,qA kn x.aO=[L]/\aS M T.bz (T.off+Int.toNat 0*1)=some (vi L):=λh1=>by
  let⟨L,R⟩:=dV (qA kn x.aO) 0;refine⟨L,?_,?_⟩
  .have N:(qA kn x.aO).length=1:=V;match qA kn x.aO,R,N with
   |[_],R,_=>simp at R;rw[R]
  .have:=aM.kZ 0 (.i L) (by rw[eE,R];rfl);exact this
 have an:∀{J:bg},D M J->ba J T (qA kn x.aO):=λxx=>(aM.LQ xx).oN V
 have aq:∀c∈[m.size],c<M.size:=eX
 refine⟨λbQ ok J=>D M J/\(ok=true->0<=bQ/\∃t,uU e g x (qA kn x.aO) t/\(x.op≠23->t=bQ))/\(ok=false->¬∃t,uU e g x (qA kn x.aO) t),⟨λac=>?_,λac=>⟨λae=>?_,λae=>⟨λai=>?_,λai=>?_⟩⟩⟩,?_⟩
 .have ac:x.op=23:=sp ac
  let⟨L,R,gy⟩:=g1 (mM (bC ac))
  refine⟨V,V,L,gy,g.bQ,af.dx 4,cY,λG=>⟨dT 0,g.bQ,?_,λc=>absurd ac c⟩,λG⟨t,z⟩=>?_⟩
  .have G:L=g.bQ:=sp G
   unfold uU
   grind
  .unfold uU at z
   grind
 .have ae:x.op=20:=sp ae
  let⟨L,R,gy⟩:=g1 (mM (bR ae))
  refine⟨V,V,L,gy,cY,λG=>⟨dT 0,0,?_,λ_=>O⟩,λG⟨t,z⟩=>?_⟩
  .grind [uU]
  grind [uU]
 .have ai:x.op=24:=sp ai
  refine⟨d,af.dx 0,f,af.dx 1,(xw so (dA.ext WM.bs.cW U.bS) (oW.ext WM.bs.cW U.mN) (an cY) V (λz=>absurd z cD) ⟨λz=>absurd z cD,λz=>absurd z cD,λ_=>(Tu Q.op).2.2 V⟩).aP ?_⟩
  rintro _ J ⟨t,S,rfl,K,ht,ag⟩
  have hU:∀N,uU e g x (qA kn x.aO) N<->fY e 9 x.cE (qA kn x.aO) N/\N=g.bQ:=λN=>by
   grind [uU]
  refine⟨K.eV aq,t,S,O,λG=>⟨g.bQ,(af.ext K).dx 4,K,λW=>?_,λW⟨N,z⟩=>?_⟩,λG=>⟨K,λW=>(by cases W),λ_⟨N,z⟩=>?_⟩⟩
  .grind
  .grind [fY.aba]
  grind
 .have ac:x.op≠23:=sp ac
  have ae:x.op≠20:=sp ae
  have ai:x.op≠24:=sp ai
  refine⟨d,af.dx 0,f,af.dx 1,(xw so (dA.ext WM.bs.cW U.bS) (oW.ext WM.bs.cW U.mN) (an cY) V (λz=>?_) ⟨(Tu Q.op).1,(Tu Q.op).2.1,λz=>(Tu Q.op).2.2 V⟩).aP ?_⟩
  .have:=Q.op
   unfold mJ at this
   simp only[z]at this
   simp+decide only[nv,yi]at this
   have:=this.1
   have W:=tF so.dk e.bS.length
   grind [qI]
  rintro _ J ⟨t,S,rfl,K,ht,ag⟩
  have hU:∀N,uU e g x (qA kn x.aO) N<->fY e x.op x.cE (qA kn x.aO) N:=λN=>by
   grind [uU]
  refine⟨K.eV aq,t,S,O,K,λG=>?_,λG⟨N,z⟩=>?_⟩
  .grind
  grind
 rintro bQ ok J ⟨K,aD,aC⟩
 have am:=xM.J K
 have ah:VG j m j J:=dI.fC am Z.bs.bF
 refine⟨λG=>oE.no ah (by unfold TU;rw[dif_neg (aC (sp G))]),λG=>?_⟩
 let⟨aK,t,hU,aJ⟩:=aD (sp G)
 have r0:j m.size=0:=Z.bs.bF _ bY
 have aV:=K.aQ
 have ao:=hb.ext am
 have az:x.dh=0\/1<=x.dh/\x.dh<=g.aU:=by
  rcases Q.dh with z|z
  .exact bC z
  .have:=Q.op;unfold mJ at this;simp only[z]at this;grind
 refine⟨λdf N=>∃o q,CL s J N j o e x kn b w ks g.aU.toNat B T (qA kn x.aO) q df x.aO.length,?_,?_⟩
 .refine gL (n:=x.aO.length) V (λh df N=>∃o q,CL s J N j o e x kn b w ks g.aU.toNat B T (qA kn x.aO) q df h) ⟨j,[],⟨?_,dI.cU _ ah.bF,aM.LQ K,⟨O,bY,bC O⟩,⟨bY,bO⟩,by simp[fK]⟩⟩ ?_
  .have:CH e x (x.aO.take 0)=[]:=by unfold CH;split<;>simp[jW]
   rw[this];exact Z.ext am
  rintro h df N I2 μ2 hi ⟨o,q,S⟩ aa
  have zN:=S.fO.aQ
  have ak:m.size<J.size:=V
  have bN:m.size<N.size/\o m.size=0:=⟨V,(S.fO.jv _ ak).trans r0⟩
  have cN:VG j m o N:=ah.J S.fO
  have aw:dF N u jg [.s d,.s f,.s a,.s l,.i g.bQ,.i g.aU,.s c,.s C]:=ao.congr (S.fO.fR u ao.lt (by rw[hv];decide))
  refine⟨λG=>?_,λG=>?_⟩
  .simp only[bh]at G
   have G:h<x.aO.length:=V
   let⟨r,H⟩:=dV x.aO h
   have gr:aS N k.bz (k.off+h*1)=some (vi r):=S.wk.bs.cW.aS (ha.bt H)
   have gy:aS N T.bz (T.off+h*1)=some (vi (kn.r r).lp):=by
    have:=S.ty.kZ h (.i (kn.r r).lp) (by rw[eE,Q7 H];rfl);rw[nu];exact this
   refine⟨V,V,r,gr,V,V,_,gy,λe0=>aa V _ _ ⟨o,q,S.adj H ad (sp e0) λho W=>aaT U.ok ho hU W (Q7 H) (sp e0)⟩,λe0=>?_⟩
   have y0:(kn.r r).lp≠0:=sp e0
   have tk:∀{N2:bg},D N N2->¬((x.op=9\/x.op=24)/\lB e x h=true)->bK dO 156 [vp b 0,vi r] N2 λaB N3=>gS [m.size] N2 N3/\∃I:Bool,aB=vb I/\
    ((!I)=true->∃r y,vb false=vb r/\VG j m y N3/\(r=true->∃W,Wk s y N3 b w ks W g.aU.toNat B/\yl e g kn x W/\TU e g x kn=some W)/\(r=false->TU e g x kn=none))/\
    ((!I)=false->I2 df (eJ ((h:Int)+1)) N3/\μ2 df (eJ ((h:Int)+1)) N3<μ2 df h N):=λ{N2} xN hn=>by
    refine((S.ext xN).Ni H ad y0 hn hB.2).aP ?_
    rintro _ N3 ⟨I,rfl,c5,c7,P,ax⟩
    refine⟨c5.Df λL R=>?_,I,O,λW=>oE.no (ah.J c7) (have z:=ax (sp W);abc so.dk hU ad z.1 z.2),λW=>aa V _ _ ⟨o,q,P (sp W)⟩⟩
    have:L=m.size:=sp R
    grind
   refine⟨λe9=>?_,λe9=>⟨λag=>?_,λag=>tk cY (by simp at e9 ag;omega)⟩⟩
   all_goals
    have h9:x.op=9\/x.op=24:=by first|exact bC (sp e9)|exact bR (sp ag)
    have al:=Q.op
    unfold mJ at al
    rw[aW V,aW V,aW V,aW V,bn h9]at al
    let⟨I,n0,P,aF⟩:=al
    have ar:=oW.ext S.wk.bs.cW U.mN
    have aR:=ar.aT
    let⟨a1,b1,ia,ib,w0,w1,w2⟩:=ar.bt P
    have aP:=br P
    refine⟨f,aw.dx 1,n0,V,b1,w1,(lF ib h).aP ?_⟩
    rintro _ N2 ⟨r2,rfl,ap,xN⟩
    refine⟨xN.eV (sp bN.1),r2,O,λet=>?_,λef=>tk xN λhc=>fb ap ef ((P7 P).1 hc.2)⟩
    exact(S.ext xN).afm H ⟨h9,(P7 P).2 (ap.1 et)⟩ ay (λaU N3 aj aA eV S'=>⟨eV,aa V _ _ ⟨aj,aA,S'⟩⟩) (cw bN.1 xN.aQ) bN.2
  grind
 .rintro df N ⟨o,q,S⟩
  have zN:=S.fO.aQ
  have ak:m.size<J.size:=V
  have bN:m.size<N.size/\o m.size=0:=⟨V,(S.fO.jv _ ak).trans r0⟩
  have cN:VG j m o N:=ah.J S.fO
  have aB:=S.qB.aT
  simp at aB
  have ap:=S.p7
  have ag:=S.wk
  have ar:=S.UU
  rw[fw]at ag ar
  have aA:=S.qB.oN V
  have hF:=XZ (p:=g) so.dk hU aJ
  refine gP (n:=q.length) V (λX N'=>N'=N/\∀r∈q.take X,ru (fZ kn (CH e x x.aO)) r) ⟨O,bO⟩ ?_
  rintro X N' I3 μ3 hj ⟨ax,al⟩ aa
  obtain rfl:N=N':=ax.symm
  refine dit (λG=>?_) λG=>?_
  .let⟨r,H⟩:=dV q X
   have rr:=ad r (ap.2 r (aZ H)).1
   refine⟨V,V,r,aA.bt H,(oF ag.ql ag.ok V).aP ?_⟩
   rintro _ _ ⟨I,rfl,rfl,P⟩
   refine⟨cY.eV (sp bN.1),I,O,λW=>oE.no cN (by
    rw[hF,aW];intro hc;have hm:=ap.2 r (aZ H);rw[fw]at hm;rw[P.2 ⟨rr.1,hc.2 hm.2.1 r hm.2.2⟩]at W;cases W),λW=>aa V _ ⟨O,λaw hz=>?_⟩⟩
   rw[bX H]at hz
   grind
  .have:X=q.length:=V
   subst this
   rw[fw]at al
   refine(Al (v:=u) (y:=F) ag hB.1 Q av (S.wk.bs.cW|>λ_=>ha) aK aI.2.1 az).aP ?_
   rintro _ N2 ⟨I,aj,rfl,c5,P,aF⟩
   have hc:(∀r∈CH e x x.aO,0<=((fZ kn (CH e x x.aO)).r r).bI)/\((x.op=9\/x.op=24)->∀r∈fK e x 0 x.aO,ru (fZ kn (CH e x x.aO)) r):=⟨λr H=>(ag.ok.bI r (ad r (Pd H)).1).1,λho r H=>al r (ar ho r H)⟩
   rw[hF,bn hc]
   have c7:VG o N aj N2:=c5.aP λ_ G=>bC G
   refine⟨c5.Df λL R=>?_,I,O,I,aj,O,cN.J c7,λW=>?_,aF⟩
   .grind
   .let⟨k',W',hf,aw⟩:=P W
    refine⟨k',W',yl.use aE hU (Yg.of V hU ag.ok (λr H=>(ad r H).1) hc.2 ?_),aw⟩
    grind [VL]
end
section
variable{w m q U M N:bg}{k u W:ag}{v b n J P C:Nat}{A:ap}{H f a I c K s ks G L T df:E}{j:cZ}{h:eG}{B z:Int}{kn R:Kn}{x:Instr}{y r:Int}{X S:ab}{Q:Kn->Prop}{F:Option Kn}
theorem oE.up(h:oE C A w k q b s ks n B Q F)(p:D m q)(x:m.size<q.size)(j:∀b,m.size<=b->k b=0)(i:B<=z):
 bK dO C A q λv c=>gS [m.size] q c/\∃a:Bool,v=vb a/\∃r u,vb a=vb r/\VG k m u c/\(r=true->∃d,Wk w u c b s ks d n z/\Q d/\F=some d)/\(r=false->F=none):=by
 refine bK.aP h ?_
 rintro _ c ⟨a,u,rfl,e,l,o⟩
 refine⟨e.Df λE y=>?_,a,O,a,u,O,(dI.fC p j).J e,λf=>?_,o⟩
 .grind
 .let⟨t,d,g⟩:=l f
  exact⟨t,⟨d.bs,d.ql,d.ok.aP i⟩,g⟩
theorem nC.up(h:nC C A w k q b s ks n B Q F)(o:D m q)(j:m.size<q.size)(l:∀b,m.size<=b->k b=0)(i:B<=z):
 bK dO C A q λp d=>gS [m.size] q d/\∃a:Bool,p=vb a/\∃r u,vb a=vb r/\VG k m u d/\(r=true->∃c,Wk w u d b s ks c n z/\Q c/\F=some c)/\(r=false->F=none):=
 oE.up (bK.aP h λ_ _⟨a,u,c,f,g⟩=>⟨a,u,c,f.aP λ_ e=>bC e,g⟩) o j l i
open Classical in
noncomputable def sF (j:cZ) (h:eG) (x:Instr) (kn:Kn):Option Kn:=
 let a:=bt x.aO 0
 if x.op=22 then some kn
 else if x.op=14 then if 0<(kn.r a).lp/\ru kn a then some (kn.iJ a 1)else none
 else if x.op=15 then if 0<(kn.r a).lp/\0<=((kn.iJ a (-1)).r a).bI then some (kn.iJ a (-1))else none
 else if x.op=16\/x.op=17 then Qm j x kn
 else if x.op=18 then if 0<=(kn.r a).lp/\0<=((fZ kn [a]).r a).bI/\((fZ kn [a]).r x.bH).bI<=0 then some ((fZ kn [a]).dY x.bH (kn.r a).lp (KA (kn.r a).lp))else none
 else if x.op=19 then Qa j x kn
 else TU j h x kn
def yl.Oe(a:x.op=22):yl j h kn x kn:=by grind [yl]
theorem yl.dup(a:x.op=14)(b:0<(kn.r (bt x.aO 0)).lp)(c:ru kn (bt x.aO 0)):yl j h kn x (kn.iJ (bt x.aO 0) 1):=by
 grind [yl]
theorem yl.Bg(a:x.op=15)(b:0<(kn.r (bt x.aO 0)).lp):yl j h kn x (kn.iJ (bt x.aO 0) (-1)):=by
 grind [yl]
def yl.pW(b:x.op=18)(c:0<=(kn.r (bt x.aO 0)).lp){a:Kn}(f:fZ kn [bt x.aO 0]=a)(d:0<=(a.r (bt x.aO 0)).bI)(e:(a.r x.bH).bI<=0):
 yl j h kn x (a.dY x.bH (kn.r (bt x.aO 0)).lp (KA (kn.r (bt x.aO 0)).lp)):=by
 grind [yl]
def ZX(y:Int):0<=KA y/\KA y<=1:=by grind [KA]
def XI{y:Int}(h:0<=y):(if(1:Int)<y then 1 else y)=KA y:=by
 grind [KA]
open Classical in
def Bt(P:Vx w H f a I c j h)(hb:dF m v jg [.s H,.s f,.s a,.s I,.i h.bQ,.i h.aU,.s c,.s K])(hv:k v=4)(aa:Wk w k m b s ks kn h.aU.toNat B)(hB:1<=B/\B<=1000000)(Q:iP j h J x)(Y:ba w G x.aO):
 oE 110 [vp v 0,vp b 0,.agg #[vi x.op,vi x.bH,vi x.cE,vi x.dh,G.v,L.v]] w k m b s ks h.aU.toNat (B+3) (yl j h kn x) (sF j h x kn):=by
 have av:=Y.aT
 have aq:=aa.ok.aT
 have au:=aa.ql.GN
 have ai:=Q.bH
 have ao:x.bH<kn.aU.length:=by have:=(P.ok.eS h P.ql).aU;omega
 have ar:=(P.ok.eS h P.ql).aU
 have an:x.op≠7/\x.op≠8:=by
  have E:=Q.op;unfold mJ at E;constructor<;>intro y<;>simp only[y]at E<;>simp+decide only[nv]at E
 unfold oE
 apply yv (v,0) (b,0)
 simp -zeta only[dR]
 intro q
 have T:=px q
 have z1:m.size<q.size:=by simp[q]
 have n:=aa.ext T
 have hn:=aa.bs.bF
 have F:VG k m k q:=dI.fC T hn
 have ah:=hb.ext T
 have S:∀u∈[m.size],u<q.size:=cB
 have n0:∀u∈[m.size],k u≠5:=cB
 have mM:(x.op=14\/x.op=15\/x.op=18)->∃r,bt x.aO 0=r/\x.aO.length=1/\(0<=r/\r<kn.aU.length)/\aS q G.bz (G.off+Int.toNat 0*1)=some (vi r):=λE=>by
  have h1:x.aO.length=1:=by
   have:=Q.op;unfold mJ at this;rcases E with E|E|E<;>simp only[E]at this<;>simp+decide only[nv,yi]at this<;>exact this.1
  have ak:=jR (l:=x.aO) (i:=0) V V;have:=Q.aO _ (aZ ak);exact⟨_,O,h1,V,n.bs.cW.aS (by simpa using Y.bt ak)⟩
 refine⟨λam=>⟨true,k,O,F,λ_=>⟨kn,⟨n.bs,n.ql,n.ok.aP V⟩,yl.Oe cB,by unfold sF;simp only[];rw[bn cB]⟩,λy=>by cases y⟩,λam=>⟨λab=>?_,λab=>⟨λac=>?_,λac=>⟨λad=>?_,λad=>⟨λW=>?_,λW=>⟨λae=>?_,λae=>?_⟩⟩⟩⟩⟩⟩
 .have ab:x.op=14:=cB
  let⟨r,hA,hl,A,N⟩:=mM (bC ab)
  have C:sF j h x kn=if 0<(kn.r r).lp/\ru kn r then some (kn.iJ r 1)else none:=by grind [sF]
  obtain⟨w0,w1,_⟩:=n.ql.dx (i:=r) A.1 V
  refine⟨s,n.ql.jB.1,V,V,r,N,A.1,V,_,w0,λy=>oE.no F cB,λy=>⟨V,V,r,N,(oF n.ql n.ok V).aP ?_⟩⟩
  rintro _ _ ⟨u,rfl,rfl,z⟩
  have ho:=n.ok.bI r A.1
  refine⟨cY.eV S,u,O,λX=>oE.no F cB,λX=>⟨s,n.ql.jB.1,V,V,r,N,A.1,V,_,w1,A.1,V,n.ql.wr A.1 V V,?_⟩⟩
  intro m2
  have M:eJ ((kn.r r).bI+1)=(kn.r r).bI+1:=by grind [de]
  have U:me k m2 5 b s ks (kn.iJ r 1):=n.ql.cG (g:=λu=>{u with bI:=u.bI+1}) A.1 V bO (by rw[M];rfl)
  have D:dI (·=5) k _ k m2:=n.ql.qF n.bs.bF (o:=s.off+r.toNat*6+1) [.i (eJ ((kn.r r).bI+1))]
  refine⟨D.Df λu z=>⟨S u z,n0 u z⟩,true,k,O,F.J (D.aP λ_ y=>bC y),λ_=>⟨_,n.of D U (n.ok.iJ V V V),?_,?_⟩,λy=>by cases y⟩
  .grind [yl.dup]
  grind
 .have ac:x.op=15:=cB
  let⟨r,hA,hl,A,N⟩:=mM (bR (bC ac))
  have C:sF j h x kn=if 0<(kn.r r).lp/\0<=((kn.iJ r (-1)).r r).bI then some (kn.iJ r (-1))else none:=by grind [sF]
  obtain⟨w0,w1,_⟩:=n.ql.dx (i:=r) A.1 V
  refine⟨s,n.ql.jB.1,V,V,r,N,A.1,V,_,w0,λy=>⟨V,V,r,N,(sI n.bs.bF n.ql n.ok V A.1 V).aP ?_⟩,λy=>oE.no F cB⟩
  rintro _ m2 ⟨u,rfl,U,D,z⟩
  have ho:=n.ok.bI r A.1
  refine⟨D.Df λu z=>⟨S u z,n0 u z⟩,u,O,u,k,O,F.J (D.aP λ_ y=>bC y),λX=>⟨_,n.of D U (n.ok.iJ V V ?_),?_,?_⟩,λX=>?_⟩
  rotate_right
  .grind
  rotate_right
  .grind
  .grind [yL]
  grind [yl.Bg]
 .have ad:x.op=16\/x.op=17:=cB
  have C:sF j h x kn=Qm j x kn:=by grind [sF]
  rw[C]
  exact(De P ah n V Q ad Y).up T z1 hn (dT _)
 .have W:x.op=18:=cB
  let⟨r,hA,hl,A,N⟩:=mM (bR (bR W))
  have C:sF j h x kn=if 0<=(kn.r r).lp/\0<=((fZ kn [r]).r r).bI/\((fZ kn [r]).r x.bH).bI<=0 then some ((fZ kn [r]).dY x.bH (kn.r r).lp (KA (kn.r r).lp))else none:=by grind [sF]
  obtain⟨w0,w1,_⟩:=n.ql.dx (i:=r) A.1 V
  have ho:=n.ok.bI r A.1
  refine⟨s,n.ql.jB.1,V,V,r,N,A.1,V,_,w0,λy=>oE.no F cB,λy=>⟨λe2=>⟨V,V,r,N,(sI n.bs.bF n.ql n.ok V A.1 V).aP ?_⟩,λe2=>?_⟩⟩
  .rintro _ m2 ⟨u,rfl,U,D,z⟩
   have e2:0<(kn.r r).lp:=cB
   have ek:fZ kn [r]=kn.iJ r (-1):=by rw[fZ,aW (Int.ne_of_gt e2)];rfl
   rw[ek]at C
   refine⟨D.Df λu z=>⟨S u z,n0 u z⟩,u,O,λX=>oE.no (F.J (D.aP λ_ y=>bC y)) cB,λX=>?_⟩
   have z:=z.1 cB
   have al:=z
   rw[yL V A.1]at al
   simp only[yi]at al
   have ap:=n.ok.iJ (i:=r) (e:=-1) (B':=B+3) V V V
   have hm:=XI (y:=(kn.r r).lp) V
   have af:=ZX (kn.r r).lp
   rw[hm]
   refine(qj (t:=(kn.r r).lp) (l:=KA (kn.r r).lp) D.bF U (a:=x.bH) ⟨ai.1,by rw[rf];exact ao⟩).aP ?_
   rintro _ m3 ⟨q3,rfl,R,h3,ag⟩
   have aj:=D.J R
   refine⟨R.Df λu z=>⟨cw (S u z) D.aQ,n0 u z⟩,q3,O,q3,k,O,F.J (aj.aP λ_ y=>bC y),λM=>?_,λM=>by rw[C,aW];intro E;rw[ag E.2.2]at M;cases M⟩
   let⟨Z,K3⟩:=h3 M
   refine⟨_,n.of aj K3 (ap.dY (B':=B+3) ⟨ai.1,V⟩ (dT _) ⟨af.1,V⟩),?_,by rw[C,bn ⟨Int.le_of_lt e2,z,Z⟩]⟩
   have:=yl.pW (j:=j) (h:=h) (kn:=kn) (a:=kn.iJ r (-1)) W cB cB cB Z
   rwa[hA]at this
  .have D:(kn.r r).lp=0:=cB
   have hm:=XI (y:=(kn.r r).lp) V
   have af:=ZX (kn.r r).lp
   rw[hm]
   refine(qj (t:=(kn.r r).lp) (l:=KA (kn.r r).lp) n.bs.bF n.ql (a:=x.bH) V).aP ?_
   rintro _ m3 ⟨q3,rfl,R,h3,ag⟩
   have ek:fZ kn [r]=kn:=by grind [fZ]
   rw[ek]at C
   refine⟨R.Df λu z=>⟨S u z,n0 u z⟩,q3,O,q3,k,O,F.J (R.aP λ_ y=>bC y),λM=>?_,λM=>by rw[C,aW];intro E;rw[ag E.2.2]at M;cases M⟩
   let⟨Z,K3⟩:=h3 M
   refine⟨_,n.of R K3 (n.ok.dY (B':=B+3) ⟨ai.1,V⟩ V ⟨af.1,V⟩),?_,by rw[C,bn ⟨V,ho.1,Z⟩]⟩
   have:=yl.pW (j:=j) (h:=h) (kn:=kn) (a:=kn) W cB cB cB Z
   rwa[hA]at this
 .have ae:x.op=19:=cB
  have C:sF j h x kn=Qa j x kn:=by grind [sF]
  rw[C]
  exact(Dd P ah n V Q ae Y).up T z1 hn V
 .have z:x.op≠22/\x.op≠14/\x.op≠15/\x.op≠16/\x.op≠17/\x.op≠18/\x.op≠19:=cB
  have C:sF j h x kn=TU j h x kn:=by grind [sF]
  rw[C]
  exact(Et P ah hv n hB Q Y z an).up T z1 hn V
end
section
abbrev CV:=dI (λk=>k=3\/k=5\/k=7\/10<=k)
@[grind cases] structure Pn (q:Nat) (L L':aq):Prop where
 aT:L'.length=L.length
 iU:∀(i:Nat) old,L[i]? =some (some old)->∃k',L'[i]? =some (some k')/\vz old k'
 bG:∀i,i<q->L'[i]? =L[i]?
def Xg(L:aq)(h:Int)(k:Kn):Prop:=0<=h/\∃G,L[h.toNat]? =some (some G)/\vz k G
def HN(e:cZ)(p:eG)(L:aq)(h:Nat)(x:Instr)(kn:Kn):Prop:=
 (x.op≠21->∃a,yl e p kn x a/\∀s∈uA x h,Xg L s a)/\
 (x.op=21->(kn.r (bt x.aO 0)).lp=x.cE/\ru kn (bt x.aO 0)/\∀(h:Nat)(j:Int),(cT e.bS x.cE)[h]? =some j->(kn.r (bt x.aO 0)).lG<0\/(kn.r (bt x.aO 0)).lG=j->Xg L (bt x.gE h) (kn.js (bt x.aO 0) j))
def Wv{α:Type}(f:Nat->α->Option α)(a:α):Nat->Option α
 |0=>some a
 |s+1=>(Wv f a s).bind (f s)
def P3{α:Type}{f:Nat->α->Option α}{a:α}{s k:Nat}(h:Wv f a s=none)(b:s<=k):Wv f a k=none:=by
 induction k with
 |zero=>rw[show 0=s by omega];exact h
 |succ k c=>
  by_cases e:s=k+1
  .rw[<-e];exact h
  .grind [Wv]
def vd{α:Type}{f:Nat->α->Option α}{a b:α}{s:Nat}(h:Wv f a s=some b):Wv f a (s+1)=f s b:=by rw[Wv,h];rfl
noncomputable def Ym (e:cZ) (x:Instr) (kn:Kn) (j:Nat) (L:aq):Option aq:=
 if 0<=(kn.r (bt x.aO 0)).lG/\(kn.r (bt x.aO 0)).lG≠bt (cT e.bS x.cE) j then some L else xe L (kn.js (bt x.aO 0) (bt (cT e.bS x.cE) j)) (bt x.gE j).toNat
open Classical in
noncomputable def uc (e:cZ) (x:Instr) (kn:Kn) (L:aq):Option aq:=
 if(kn.r (bt x.aO 0)).lp=x.cE/\ru kn (bt x.aO 0)then Wv (Ym e x kn) L (cT e.bS x.cE).length else none
variable{y m F D M S:bg}{t z u:ag}{v b s A q:Nat}{d f a C j I w ks Q H:E}{e:cZ}{p:eG}{L k r:aq}{B B' N:Int}{kn K G R:Kn}{x:Instr}{h:Int}
def Pn.cU:Pn q L L:=by constructor<;>grind [vz.cU]
def Pn.J(a:Pn q L k)(g:Pn q k r):Pn q L r:=⟨g.aT.trans a.aT,λh old e=>by
 let⟨G,c,f⟩:=a.iU h old e;let⟨R,d,i⟩:=g.iU h G c;exact⟨R,d,f.J i⟩,λh b=>(g.bG h b).trans (a.bG h b)⟩
def Pn.dY(b:0<=N/\N<L.length)(a:(q:Int)<=N)(h:∀old,L[N.toNat]? =some (some old)->vz old K):Pn q L (L.set N.toNat (some K)):=by
 constructor<;>grind [List.getElem?_set_ne,List.getElem?_set_self,vz.cU]
theorem Xg.aP(b:Xg L h G)(w:Pn q L k):Xg k h G:=by
 let⟨c,R,e,f⟩:=b;let⟨d,a,g⟩:=w.iU _ _ e;exact⟨c,d,a,f.J g⟩
def HN.aP{f:Nat}(d:HN e p L f x kn)(w:Pn q L k):HN e p k f x kn:=
 ⟨λc=>by obtain⟨m,a,b⟩:=d.1 c;exact⟨m,a,λs g=>(b s g).aP w⟩,λc=>by obtain⟨a,b,l⟩:=d.2 c;exact⟨a,b,λh j g i=>(l h j g i).aP w⟩⟩
def aa7{a j e:Int}:(kn.js a j).js a e=kn.js a e:=Bz
def Yp{a:af}(h:eR a){t j:Int}(b:j∈cT a t):0<=j/\j<=1000:=by
 grind [cT,tF,nK]
def iE.abN{e c:Nat}{s:E}{C:ae}(h:jy m D e c s C)(d:∀b,m.size<=b->t b=0):iE t D e c 0 s C:=
 iE.ju h λf=>by
  rcases h.bt with a|⟨b,j,tail,a,h2,_⟩
  .exact absurd a f
  .rw[a];exact d b h2
def Wk.cv(h:Wk y t m b w ks kn s B)(c:Bs y z D){P:Nat->Prop}(d:dI P t m z D)(a:¬P 5):Wk y z D b w ks kn s B:=⟨c,h.ql.fO d a,h.ok⟩
open Classical in
def xB(X:Vx y d f a C j e p)(aB:rc y t m v d f a C j I p L B)(aa:Wk y t m b w ks kn p.aU.toNat B)(hL:L.length=p.eA.length)(hx:iP e p A x)(am:x.op=21)(ha:ba y Q x.aO)(hj:ba y H x.gE):
 bK dO 109 [vp v 0,vp b 0,.agg #[vi x.op,vi x.bH,vi x.cE,vi x.dh,Q.v,H.v]] m λai D=>∃J z,ai=vb J/\CV t m z D/\(J=true->∃k,rc y z D v d f a C j I p k B/\Pn (A+1) L k/\HN e p k A x kn/\uc e x kn L=some k)/\(J=false->uc e x kn L=none):=by
 have aU:=ha.aT
 have aQ:=aa.ok.aT
 have aT:=aa.ql.GN
 have aR:=(X.ok.eS p X.ql).aU
 have ad:=hx.op
 unfold mJ at ad
 simp only[am]at ad
 simp+decide only[nv,yi]at ad
 obtain⟨h1,_,aL,aE⟩:=ad
 have an:=jR (l:=x.aO) (i:=0) V V
 have Z:=hx.aO _ (aZ an)
 generalize hA:bt x.aO 0=r0 at*
 apply va (v,0) (b,0)
 simp -zeta only[dR]
 intro F
 have x1:=px F
 have z1:m.size<F.size:=by simp[F]
 have R:=aa.ext x1
 have hn:=aa.bs.bF
 have c1:CV t m t F:=dI.fC x1 hn
 have V1:=aB.fO (P:=λ_=>False) (dI.fC x1 hn) (λ_=>False.elim)
 have ap:∀q∈[m.size],q<F.size:=cB
 have aI:t m.size=0:=cB
 have no:∀{M:bg}{u:ag},CV t m u M->uc e x kn L=none->∃J z,vb false=vb J/\CV t m z M/\(J=true->∃k,rc y z M v d f a C j I p k B/\Pn (A+1) L k/\HN e p k A x kn/\uc e x kn L=some k)/\(J=false->uc e x kn L=none):=cB
 have hF:uc e x kn L=if(kn.r r0).lp=x.cE/\ru kn r0 then Wv (Ym e x kn) L (cT e.bS x.cE).length else none:=by grind [uc]
 have hG:∀{s:Nat}{E:Int}{r:aq},(cT e.bS x.cE)[s]? =some E->Ym e x kn s r=if 0<=(kn.r r0).lG/\(kn.r r0).lG≠E then some r else xe r (kn.js r0 E) (bt x.gE s).toNat:=λ{s E r} S=>by
  grind [jR,cT,br,Int.toNat_natCast,Ym]
 have gr:aS F Q.bz (Q.off+Int.toNat 0*1)=some (vi r0):=R.bs.cW.aS (by simpa using ha.bt an)
 obtain⟨w0,_,_,w3,_⟩:=R.ql.dx (i:=r0) Z.1 V
 refine⟨w,R.ql.jB.1,V,V,r0,gr,Z.1,V,_,w0,λG=>no c1 cB,λG=>⟨V,V,r0,gr,(oF R.ql R.ok V).aP ?_⟩⟩
 rintro _ M ⟨q,rfl,hM,hq⟩
 obtain rfl:F=M:=hM.symm
 refine⟨cY.eV ap,q,O,λeq=>no c1 cB,λeq=>⟨_,w3,d,V1.bV.dx 0,(vG (dA.ext R.bs.cW X.bS) X.dk x.cE).aP ?_⟩⟩
 rintro _ m2 ⟨ax,rfl,hs,h3,x2⟩
 have au:=iE.abN hs R.bs.bF
 have aH:=au.aT
 simp at aH
 have lp:(kn.r r0).lp=x.cE:=cB
 have aC:=(hq.1 cB).2
 rw[bn ⟨lp,aC⟩]at hF
 have c2:CV t m t m2:=c1.J (dI.fC x2 R.bs.bF)
 have W2:=R.ext x2
 have V2:=V1.fO (P:=λ_=>False) (dI.fC x2 R.bs.bF) (λ_=>False.elim)
 have zm:=x2.aQ
 refine⟨x2.eV ap,ax,O,gP (n:=(cT e.bS x.cE).length) V (λs M=>∃u r kc,CV t m2 u M/\rc y u M v d f a C j I p r B/\Wk y u M b w ks kc p.aU.toNat B/\(∀G,kc.js r0 G=kn.js r0 G)/\Pn (A+1) L r/\iE u M bB 1 0 ax ((cT e.bS x.cE).map Ce.i)/\Wv (Ym e x kn) L s=some r/\
  ∀(h:Nat)(j:Int),h<s->(cT e.bS x.cE)[h]? =some j->(kn.r r0).lG<0\/(kn.r r0).lG=j->Xg r (bt x.gE h) (kn.js r0 j)) ⟨t,L,kn,dI.cU _ c2.bF,V2,W2,λ_=>O,Pn.cU,au,O,V⟩ ?_⟩
 rintro s M az μ aM ⟨u,r,kc,W,VM,U,ac,lw,af,ab,hh⟩ aw
 have zM:=W.aQ
 have bM:m.size<M.size/\u m.size=0:=⟨V,(W.jv _ V).trans aI⟩
 have cA:=c2.J W
 refine dit (λG=>?_) λG=>?_
 .let⟨E,S⟩:=dV (cT e.bS x.cE) s
  have aX:=Yp X.dk (aZ S)
  have aP:=U.ok.aT
  have aK:s<x.gE.length:=V
  have ae:=jR (l:=x.gE) (i:=s) V V
  rw[fq]at ae
  have aN:=aE _ (aZ ae)
  have go:((kn.r r0).lG<0\/(kn.r r0).lG=E)->∃aj:bg->Prop,(jb M w.bz (w.off+r0.toNat*6+3) 1/\let N:bg:=aV M w.bz (w.off+r0.toNat*6+3) [.i E];gS [m.size] M N/\aj N)/\∀N,aj N->(0:Int)<=s/\(s:Int)<H.len/\
   ∃ay:Int,aS N H.bz (H.off+(s:Int).toNat*1)=some (vi ay)/\bK dO 112 [vp v 0,vp b 0,vi ay] N λai T=>gS [m.size] N T/\∃q:Bool,ai=vb q/\
    ((!q)=true->∃J z,vb false=vb J/\CV t m z T/\(J=true->∃k,rc y z T v d f a C j I p k B/\Pn (A+1) L k/\HN e p k A x kn/\uc e x kn L=some k)/\(J=false->uc e x kn L=none))/\
    ((!q)=false->az (eJ ((s:Int)+1)) T/\μ (eJ ((s:Int)+1)) T<μ s M):=λaJ=>by
   have ak:dI (·=5) u M u (aV M w.bz (w.off+r0.toNat*6+3) [.i E]):=U.ql.qF W.bF _
   refine⟨λaA=>aA=aV M w.bz (w.off+r0.toNat*6+3) [.i E],⟨U.ql.wr Z.1 V V,ak.Df λE S=>?_,O⟩,?_⟩
   .grind
   intro N ar
   have K4:me u N 5 b w ks (kc.js r0 E):=by rw[ar];exact U.ql.cG (i:=r0) (o:=3) (new:=[.i E]) (g:=λJ=>{J with lG:=E}) Z.1 V bO O
   have Y:dI (·=5) u M u N:=cB
   clear ar ak
   have W4:=U.of Y K4 (U.ok.js Z.1 (c:=E) V)
   have V4:=VM.fO Y (λ_ G=>bC G)
   have z4:=Y.aQ
   have aF:aS N H.bz (H.off+(s:Int).toNat*1)=some (vi (bt x.gE s)):=by
    have:=W4.bs.cW.aS (hj.bt ae);rwa[fq]
   have aO:=hj.aT
   refine⟨V,V,_,aF,(tL V4 W4.ql W4.ok (g:=bt x.gE s) cB).aP ?_⟩
   rintro _ T ⟨q,ah,rfl,c5,hq,aG⟩
   have hb:Ym e x kn s r=xe r (kc.js r0 E) (bt x.gE s).toNat:=by rw[hG S,aW V,ac]
   have aD:CV u N ah T:=by grind [dI.aP]
   have al:CV t m2 ah T:=(W.J (Y.aP λ_ G=>bR (bC G))).J aD
   refine⟨c5.Df λE S=>?_,q,O,λeq=>no (c2.J al) (by rw[hF];exact P3 (s:=s+1) (by rw[vd ab,hb];exact aG cB) V),λeq=>?_⟩
   .grind
   let⟨K,V5,w1,w2,w3⟩:=hq cB
   have av:Pn (A+1) r (r.set (bt x.gE s).toNat (some K)):=Pn.dY cB V w2
   refine aw V _ ⟨ah,_,kc.js r0 E,al,V5,W4.cv V5.cW c5 cD,λG=>by rw[aa7,ac],lw.J av,(af.fO Y cD).fO c5 cD,by rw[vd ab,hb,w3],λh j hi hc ao=>?_⟩
   .by_cases ei:h=s
    .subst ei
     rw[S]at hc;cases hc
     rw[ac]at w1
     exact⟨V,K,fu (by rw[lw.aT,hL];omega),w1⟩
    .exact(hh h j V hc ao).aP av
  refine⟨V,V,E,(af.oN V).bt S,λe1=>⟨λe2=>aw V _ ⟨u,r,kc,W,VM,U,ac,lw,af,by rw[vd ab,hG S,bn ⟨sp e1,sp e2⟩],λh j hi hc ao=>?_⟩,λe2=>go (bR cB)⟩,λe1=>go (bC cB)⟩
  grind
 .have N:s=(cT e.bS x.cE).length:=V
  refine⟨true,u,O,cA,λ_=>⟨r,VM,lw,⟨λS=>absurd am S,λ_=>?_⟩,by rw[hF,<-N];exact ab⟩,λG=>by cases G⟩
  grind
end
section
noncomputable def vM (h:cZ) (p:eG) (e:Nat) (x:Instr) (kn:Kn) (L:aq):Option aq:=
 if x.op=21 then uc h x kn L else(sF h p x kn).bind λa=>Wv (λj L=>xe L a (bt (uA x e) j).toNat) L (uA x e).length
variable{w g j F M R:bg}{t H y:ag}{v b I e q:Nat}{d f a C c s J ks z A:E}{h:cZ}{p:eG}{L k u:aq}{B Q T:Int}{kn K N P:Kn}{x:Instr}{S:Int}
def YC(g:iP h p e x)(f:p.eA[e]? =some x)(k:pd h p)(i:x.op≠21):∀I∈uA x e,(e:Int)+1<=I/\I<=(p.eA.length:Int) -1:=by
 have j:=br f;have b:=g.op;unfold mJ at b;intro I a;unfold uA at a;by_cases d:x.op=22
 .simp only[d]at b a;grind
 by_cases c:x.op=20
 .simp only[c]at b a;grind
 grind [List.length,pd.Of]
def aaW(a:x.op≠21):(uA x e).length<=2:=by
 grind [uA]
def YB(i:x.op≠21)(l:e<=1000000):bK dO 111 [.agg #[vi x.op,vi x.bH,vi x.cE,vi x.dh,z.v,A.v],vi e] g λw F=>∃s,w=s.v/\jy g F bB 1 s ((uA x e).map Ce.i)/\D g F:=by
 apply Bn;simp -zeta only[dR];intro j;have b:=px j;have k:eJ ((e:Int)+1)=(e:Int)+1:=by grind [de]
 rw[k];have mk:∀(y:ab),∃s,(E.v (.mk j.size 0 y.length y.length))=s.v/\jy g (j.push (.cells (db (y.map Ce.i)) bB)) bB 1 s (y.map Ce.i)/\D g (j.push (.cells (db (y.map Ce.i)) bB)):=λy=>
  ⟨_,O,(jy.bF (D.cU j) bB 1 (y.map Ce.i) y.length bO).cW b.aQ,b.bZ _⟩
 unfold uA;refine⟨λc=>?_,λc=>⟨λd=>?_,λd=>⟨λf=>absurd cB i,λf=>⟨λh=>?_,λh=>?_⟩⟩⟩⟩
 .intro a;rw[bn cB];exact mk [x.cE]
 .intro a;rw[aW cB,bn cB];exact mk [(e:Int)+1,x.cE]
 .grind [jy.gN]
 .intro a;rw[aW cB,aW cB,aW cB,aW cB];exact mk [(e:Int)+1]
def vL(Z:Vx w d f a C c h p)(T:rc w t g v d f a C c s p L B)(hB:1<=B/\B<=1000000)(hL:L.length=p.eA.length)(ao:L[e]? =some (some kn))(ai:p.eA[e]? =some x):
 bK dO 60 [vp v 0,vi e] g λaf F=>∃R H,af=vb R/\CV t g H F/\(R=true->∃k,rc w H F v d f a C c s p k (B+3)/\Pn (e+1) L k/\HN h p k e x kn/\vM h p e x kn L=some k)/\(R=false->vM h p e x kn L=none):=by
 let⟨al,hQ,hA,hC⟩:=T.jI
 have aL:=br ao
 have aq:=Z.ok.eS p Z.ql
 have hx:=aq.eS e x ai
 let⟨qc,hq⟩:=dV al e
 have ap:=hC e qc (some kn) hq ao
 obtain⟨kb,ae,ad,rfl,K0,ay⟩:∃kb ae ad,qc=some (kb,0)/\me t g (10+e) kb ae ad kn/\nY kn p.aU.toNat B:=by
  cases qc with
  |none=>exact ap.elim
  |some qc=>
   let⟨E,ae,ad,I,Q⟩:=ap;let⟨kb,S⟩:=qc;simp only at E I;subst E;exact⟨kb,ae,ad,O,I,Q⟩
 let⟨z,A,ia,ij,g0,g1,g2,g3,g4,g5⟩:=Z.eA.bt ai
 have aJ:=Z.eA.aT
 have aH:s.len=al.length:=by have:=hA.aT;simp at this;omega
 have gQ:aS g s.bz (s.off+e*1)=some (Ce.v (.pp (some (kb,0)))):=by
  have:=hA.kZ e (.pp (some (kb,0))) cB;grind
 have G:∀{ax:Nat}{af:Value},aS w c.bz ax=some af->aS g c.bz ax=some af:=λah=>T.cW.cW.aS ah
 have b7:aS g v 7=some s.v:=T.bV.dx 7
 have b6:aS g v 6=some c.v:=T.bV.dx 6
 apply uh (v,0)
 simp -zeta only[dR,fq]
 refine⟨λaw xp M=>∃y b J ks,aw=some (b,0)/\CV t g y M/\rc w y M v d f a C c s p L B/\Wk w y M b J ks kn p.aU.toNat B/\xp.2=0/\dF M xp.1 fA [.i x.op,.i x.bH,.i x.cE,.i x.dh,.s z,.s A]/\y xp.1=0,⟨s,b7,V,V,_,gQ,c,b6,V,V,_,G g0,_,G g1,_,G g2,_,G g3,_,G g4,_,G g5,?_,?_⟩,?_⟩
 .refine(rI T.cW.bF K0 5).aP ?_
  rintro _ j ⟨U,b1,ab,aa,rfl,K1,S⟩
  have E:=S.FV
  have V1:=T.fO S (λ_=>False.elim)
  refine⟨some (b1,0),O,E.da (G g0),E.da (G g1),E.da (G g2),E.da (G g3),E.da (G g4),E.da (G g5),E.da b6,?_⟩
  intro m2
  have I:=px m2
  have P:dF m2 j.size fA [.i 0,.i 0,.i 0,.i 0,.s .nil,.s .nil]:=dF.push j _ _
  refine⟨I.da (E.aS (G g0)),I.da (E.aS (G g1)),I.da (E.aS (G g2)),I.da (E.aS (G g3)),I.da (E.aS (G g4)),I.da (E.aS (G g5)),I.da (E.aS b6),I.da (E.aS gQ),I.da (E.aS b7),?_⟩
  intro W
  have Y:D j W:=by grind [D.aV]
  have k3:dF W j.size fA [.i x.op,.i x.bH,.i x.cE,.i x.dh,.s z,.s A]:=dF.aV (m:=g) (o:=0) (r:=[.i x.op,.i x.bH,.i x.cE,.i x.dh,.s z,.s A]) P
  have Q:dI (λ_=>False) U j U W:=dI.fC Y S.bF
  have X:=V1.fO Q (λ_=>False.elim)
  exact⟨U,b1,ab,aa,O,(S.J Q).aP λ_=>False.elim,X,⟨X.cW,K1.fO Q id,ay⟩,O,k3,S.bF _ bY⟩
 .intro j
  obtain⟨E,z1⟩:=pu j
  have N:dF j g.size fA [.i 0,.i 0,.i 0,.i 0,.s .nil,.s .nil]:=dF.push g _ _
  have cc:dI (λ_=>False) t g t j:=dI.fC E T.cW.bF
  refine⟨E.da (G g0),E.da (G g1),E.da (G g2),E.da (G g3),E.da (G g4),E.da (G g5),E.da b6,E.da gQ,E.da b7,(rI cc.bF (K0.fO cc id) 5).aP ?_⟩
  rintro _ m2 ⟨U,b1,ab,aa,rfl,K1,S⟩
  have I:=S.FV
  have aj:=E.J I
  refine⟨I.eV cB,some (b1,0),O,I.da (E.aS (G g0)),I.da (E.aS (G g1)),I.da (E.aS (G g2)),I.da (E.aS (G g3)),I.da (E.aS (G g4)),I.da (E.aS (G g5)),I.da (E.aS b6),?_⟩
  intro W
  have k3:dF W g.size fA [.i x.op,.i x.bH,.i x.cE,.i x.dh,.s z,.s A]:=dF.aV (m:=g) (o:=0) (r:=[.i x.op,.i x.bH,.i x.cE,.i x.dh,.s z,.s A]) (N.ext I)
  have Y:D g W:=by grind [D.aV]
  have r0:U g.size=0:=(S.jv _ V).trans (T.cW.bF _ bY)
  have Q:dI (·=0) U m2 U W:=dI.aV S.bF r0 _ _
  have ac:dI (λ_=>False) t g U W:=⟨Y.aQ,λb hb=>(S.jv b V),Q.bF,λb hb _=>Y.bG b hb⟩
  have X:=T.fO ac (λ_=>False.elim)
  exact⟨U,b1,ab,aa,O,ac.aP λ_=>False.elim,X,⟨X.cW,K1.fO Q cD,ay⟩,O,k3,r0⟩
 rintro aw ⟨xb,xo⟩ M ⟨y,b,J,ks,rfl,cM,VM,WM,av,kx,rx⟩
 simp only at av kx rx
 subst av
 have no:∀{M:bg}{y:ag},CV t g y M->vM h p e x kn L=none->∃R H,vb false=vb R/\CV t g H M/\(R=true->∃k,rc w H M v d f a C c s p k (B+3)/\Pn (e+1) L k/\HN h p k e x kn/\vM h p e x kn L=some k)/\(R=false->vM h p e x kn L=none):=cB
 refine⟨_,kx.dx 0,λS=>⟨_,kx.dx 0,_,kx.dx 1,_,kx.dx 2,_,kx.dx 3,_,kx.dx 4,_,kx.dx 5,?_⟩,λS=>⟨_,kx.dx 0,_,kx.dx 1,_,kx.dx 2,_,kx.dx 3,_,kx.dx 4,_,kx.dx 5,?_⟩⟩
 .refine(xB Z VM WM hL hx cB ia ij).aP ?_
  rintro _ M2 ⟨R,I,rfl,Q,hr,ak⟩
  have hF:vM h p e x kn L=uc h x kn L:=by grind [vM]
  rw[hF]
  refine⟨R,O,R,I,O,cM.J Q,λe2=>?_,ak⟩
  grind [rc.aP]
 .have ac:x.op≠21:=cB
  refine(Bt Z VM.bV VM.jv WM hB hx ia).aP ?_
  rintro _ M2 ⟨R,I,rfl,Q,hr,ak⟩
  have am:CV y M I M2:=by grind [dI.aP]
  have ab:dF M2 xb fA [.i x.op,.i x.bH,.i x.cE,.i x.dh,.s z,.s A]:=kx.congr (Q.fR xb kx.lt cB)
  refine⟨R,O,λe2=>no (cM.J am) (by unfold vM;rw[aW ac,ak cB];rfl),λe2=>⟨_,ab.dx 0,_,ab.dx 1,_,ab.dx 2,_,ab.dx 3,_,ab.dx 4,_,ab.dx 5,(YB ac cB).aP ?_⟩⟩
  let⟨k',W2,aB,aI⟩:=hr cB
  have hF:vM h p e x kn L=Wv (λE L=>xe L k' (bt (uA x e) E).toNat) L (uA x e).length:=by grind [vM]
  have V2:=(VM.fO Q (λ_ S=>S)).aP (show B<=B+3 by omega)
  rintro _ M3 ⟨aA,rfl,hs,Y⟩
  have au:=iE.abN hs Q.bF
  have aD:=au.aT
  simp at aD
  have aK:=aaW (e:=e) ac
  have cx:dI (λ_=>False) I M2 I M3:=dI.fC Y Q.bF
  have X:=V2.fO cx (λ_=>False.elim)
  have W3:=W2.ext Y
  have cA:CV t g I M3:=(cM.J am).J (cx.aP λ_=>False.elim)
  refine⟨aA,O,gP (n:=(uA x e).length) V (λE aa=>∃U u,CV I M3 U aa/\rc w U aa v d f a C c s p u (B+3)/\Wk w U aa b J ks k' p.aU.toNat (B+3)/\Pn (e+1) L u/\iE U aa bB 1 0 aA ((uA x e).map Ce.i)/\Wv (λE L=>xe L k' (bt (uA x e) E).toNat) L E=some u/\∀W∈(uA x e).take E,Xg u W k')
   ⟨I,L,dI.cU _ cA.bF,X,W3,Pn.cU,au,O,bO⟩ ?_⟩
  rintro E aa aG μ hj ⟨U,u,cN,VN,WN,lw,ar,aj,hh⟩ aF
  refine dit (λS=>?_) λS=>?_
  .let⟨W,hy⟩:=dV (uA x e) E
   have aM:=YC hx ai aq ac W (aZ hy)
   refine⟨V,V,W,(ar.oN V).bt hy,(tL VN WN.ql WN.ok (g:=W) cB).aP ?_⟩
   rintro _ N2 ⟨q,az,rfl,c5,hq,aC⟩
   have ey:bt (uA x e) E=W:=by
    have:=jR (l:=uA x e) (i:=(E:Int)) V V;grind [Int.toNat_natCast]
   have an:CV U aa az N2:=by grind [dI.aP]
   refine⟨q,O,λeq=>no (cA.J (cN.J an)) (by rw[hF];exact P3 (s:=E+1) (by rw[vd aj,ey];exact aC cB) V),λeq=>?_⟩
   let⟨K,V5,w1,w2,w3⟩:=hq cB
   have aE:Pn (e+1) u (u.set W.toNat (some K)):=Pn.dY cB V w2
   refine aF V _ ⟨az,_,cN.J an,V5,WN.cv V5.cW c5 cD,lw.J aE,ar.fO c5 cD,by rw[vd aj,ey,w3],λaN hz=>?_⟩
   rw[bX hy]at hz
   rcases bU.1 hz with hz|hz
   .grind [Xg.aP]
   .simp at hz;subst hz
    exact⟨V,K,fu cB,w1⟩
  .have:E=(uA x e).length:=V
   subst this
   rw[fw]at hh
   exact⟨true,U,O,cA.J cN,λ_=>⟨u,VN,lw,⟨λ_=>⟨k',aB,hh⟩,λah=>absurd ah ac⟩,by rw[hF];exact aj⟩,λS=>by cases S⟩
end
section
variable{g:Kn}
def Nt(L:aq)(e:Nat):Option Kn:=(L[e]?).join
def Qw(p:eG)(e:Nat):tq:=⟨bt p.aY e,if bt p.aY e≠0/\(e:Int)∉p.df then 1 else 0,decide ((e:Int)∈p.df),-1,-1,-1⟩
@[grind cases] structure Nr (p:eG) (n j q:Nat) (kn:Kn):Prop where
 aT:kn.aU.length=n
 YW:∀i:Nat,i<j->i<n->kn.r i=Qw p i
 unk:∀i:Nat,j<=i->i<q->i<n->kn.r i=yy
 eO:∀i:Nat,i<q->i<n->bt kn.eO i= -1
variable{s m H G M A:bg}{t I J:ag}{v b n C q j:Nat}{d f a l c r u ks N P:E}{o:cZ}{p:eG}{L y z:aq}{B w K:Int}{kn F h D:Kn}{x:Instr}{e:Int}
theorem DY{e:Nat}:Nt L e=some g<->L[e]? =some (some g):=by
 grind [Nt]
theorem Xg.we(a:Xg L e g):∃h,Nt L e.toNat=some h/\vz g h:=by
 obtain⟨_,h,b,w⟩:=a;grind [DY]
def Nr.cr(h:Nr p n p.aY.length n kn)(d:p.aU.toNat=n)(g:kn.eO.length=n)(i:p.aY.length<=n):vz (O0 p) kn:=by
 have c:(O0 p).aU.length=n:=by grind [O0]
 have R:∀{e:Int},0<=e->kn.r e=(O0 p).r e:=λ{e} a=>by
  by_cases f:e<n
  .have b:(O0 p).r e=if e.toNat<p.aY.length then Qw p e.toNat else yy:=by
    unfold Kn.r O0;simp only[eE];rw[aeX V];rfl
   grind [Nr.YW,Nr.unk]
  .grind [Qs,Nr.aT]
 refine⟨by rw[h.aT,c],λe a=>by rw[R a],λe a=>bC (by rw[R a]),λe a=>bC (by rw[R a]),λe a=>bC ⟨by rw[R a],by rw[R a]⟩,λe a b=>by rw[<-R a];exact b,?_⟩;unfold O0;simp only[d];apply ft;grind [jR,Int.toNat_natCast,Nr.eO,List.getElem?_eq_none]
def Nr.eq(h:Nr p n p.aY.length n kn)(d:p.aU.toNat=n)(c:kn.eO.length=n)(f:p.aY.length<=n):kn=O0 p:=by
 have w:=h.cr d c f;have a:kn.aU=(O0 p).aU:=by
  apply ft;intro e;by_cases j:e<n
  .have b:=Bv (k:=kn) (i:=(e:Int)) V cB;have g:(O0 p).aU[e]? =some (if e<p.aY.length then Qw p e else yy):=by
    unfold O0;simp only[eE];rw[aeX V];rfl
   grind [Int.toNat_natCast,Nr.YW,Nr.unk]
  .grind [O0,List.length,List.getElem?_eq_none,Nr.aT]
 have b:=w.eO;cases kn;simp only at a b;rw[a,b]
def Nr.ok(h:Nr p n p.aY.length n kn):nY kn n 1:=by
 have R:∀{e:Int},0<=e->((kn.r e).bI=0\/(kn.r e).bI=1)/\(kn.r e).fr= -1/\(kn.r e).lG= -1:=λ{e} a=>by
  by_cases c:e<n
  .have b:((e.toNat:Nat):Int)=e:=V;by_cases d:e.toNat<p.aY.length
   .grind [Nr.YW,Qw]
   .have:=h.unk e.toNat V V V;rw[b]at this;rw[this];exact⟨bC O,O,O⟩
  .rw[Qs cB];exact⟨bC O,O,O⟩
 refine⟨h.aT,λe a=>oh ((R a).1),λe a=>oh ((R a).2.1),λe a=>oh ((R a).2.2),λ_=>0,λe a b=>oh ((R a).2.1)⟩
def aaP(V:rc s t m v d f a l c r p L B)(n:Xg L 0 (O0 p))(D:1<=p.aU)(k:∀(e:Nat) kn x,L[e]? =some (some kn)->p.eA[e]? =some x->HN o p L e x kn):Ba o p (Nt L):=by
 let⟨Q,A,z,w⟩:=V.jI;refine⟨λe g b=>?_,n.we,λe x g i b h=>?_,λe x g i b h=>?_⟩
 .have b:=DY.1 b;have C:=br b;let⟨j,q⟩:=dV Q e;have:=w e j _ q b;cases j with
  |none=>exact this.elim
  |some j=>
   obtain⟨_,u,ks,_,y⟩:=this;have:=y.aT;omega
 .let⟨y,j,q⟩:=(k e g x (DY.1 b) i).1 h;grind [Xg.we]
 .let⟨j,q,y⟩:=(k e g x (DY.1 b) i).2 h;grind [Xg.we]
end
section
@[grind cases] structure LH (m0:bg) (ro:ag) (m:bg) (v:Nat) (d f a l c bs:E) (p:eG) (N:Nat):Prop where
 cW:Bs m0 ro m
 bV:dF m v jg [.s d,.s f,.s a,.s l,.i p.bQ,.i p.aU,.s c,.s bs]
 jv:ro v=4
 qB:iE ro m nJ 1 3 bs ((List.replicate N none).map Ce.pp)
variable{h m H r M z:bg}{g s J:ag}{v b n A q j N k:Nat}{d f a l c e t ks Q R I:E}{C:cZ}{p:eG}{L w y:aq}{B u K:Int}{kn G D F:Kn}{x:Instr}{i:Int}
def LH.fO{P:Nat->Prop}(b:LH h g m v d f a l c e p N)(i:dI P g m s r)(j:¬P 0/\¬P 3/\¬P 4):LH h s r v d f a l c e p N:=
 by constructor<;>grind [LH.cW,Bs.SW,LH.bV,dF.congr,dI.fR,dF.lt,LH.jv,dI.jv,LH.qB,iE.fO]
def Nr.s1(h:Nr p n 0 j kn)(e:j<n)(f:kn.eO.length=n):Nr p n 0 (j+1) {(kn.tj j λ_=>yy)with eO:=gX kn.eO j (-1)}:=by
 have b:=h.aT;have R:∀i:Nat,i<n->(Kn.mk (kn.tj j λ_=>yy).aU (gX kn.eO j (-1))).r i=if(i:Int)=j then yy else kn.r i:=λi a=>by
  show(kn.tj j λ_=>yy).r i=_;grind [KB]
 refine⟨by show(kn.tj j λ_=>yy).aU.length=n;rw[lR,b],λi d _=>V,λi _ a c=>?_,λi a c=>?_⟩
 .grind [Nr.unk]
 .show bt (gX kn.eO j (-1)) i= -1;grind [ny,Nr.eO]
def Nr.s2(h:Nr p n j n kn):Nr p n (j+1) n (kn.tj j λ_=>Qw p j):=by
 have b:=h.aT;have R:∀i:Nat,i<n->(kn.tj j λ_=>Qw p j).r i=if(i:Int)=j then Qw p j else kn.r i:=λi a=>by
  grind [KB]
 refine⟨by rw[lR,b],λi a c=>?_,λi a _ c=>?_,h.eO⟩
 .grind [Nr.YW]
 .grind [Nr.unk]
theorem X0(n:Nat):na [.pp none] n=(List.replicate n none).map Ce.pp:=by
 induction n with
 |zero=>rfl
 |succ n a=>
  have e:na [.pp none] (n+1)=[.pp none]++na [.pp none] n:=by simp[na,mC]
  rw[e,a];rfl
theorem Vz(n:Nat):na [.i 0,.i 0,.t false,.i 0,.i 0,.i 0] n=NM (List.replicate n ⟨0,0,false,0,0,0⟩):=by
 induction n with
 |zero=>rfl
 |succ n a=>
  have e:na [.i 0,.i 0,.t false,.i 0,.i 0,.i 0] (n+1)=[.i 0,.i 0,.t false,.i 0,.i 0,.i 0]++na [.i 0,.i 0,.t false,.i 0,.i 0,.i 0] n:=by simp[na,mC]
  rw[e,a];rfl
theorem LH.jC(j:LH h g m v d f a l c e p N)(z:1<=N/\N<=1000000)(w:me g m 10 b t ks kn)(x:nY kn p.aU.toNat B)(C:e.len=N):
 rc h g (aV m e.bz (e.off+0*1) [.pp (some (b,0))]) v d f a l c e p ((some kn)::List.replicate (N -1) none) B:=by
 have A:=j.qB.aT
 have s:e.cap≠0:=by have:=j.qB.le;omega
 have r:dI (·=3) g m g (aV m e.bz (e.off+0*1) [.pp (some (b,0))]):=dI.aV j.cW.bF (j.qB.bz s).2 _ _
 have D:List.replicate N (none:Option (Nat×Nat))=none::List.replicate (N -1) none:=by
  rw[<-mC];congr 1;omega
 have y:=j.qB.dY (o:=0) (new:=[.pp (some (b,0))]) cB
 refine⟨j.cW.SW r cD,j.bV.congr (r.fR v j.bV.lt cB),j.jv,⟨some (b,0)::List.replicate (N -1) none,bO,?_,?_⟩,eX⟩
 .grind [kJ]
 .intro i q E k n
  cases i with
  |zero=>
   simp at k n
   subst k;subst n
   exact⟨O,t,ks,w.fO r cD,x⟩
  |succ i=>
   simp only[kG,List.getElem?_replicate]at k n
   split at k
   .rename_i u
    rw[bn u]at n
    simp at k n;subst k;subst n;trivial
   .cases k
end
section
noncomputable def Vl (u:cZ) (e:eG) (y:Nat) (L:aq):Option aq:=
 match e.eA[y]?,L[y]? with
 |some x,some (some kn)=>vM u e y x kn L
 |_,_=>some L
noncomputable def YS (u:cZ) (e:eG):Option aq:=Wv (Vl u e) (some (O0 e)::List.replicate (e.eA.length -1) none) e.eA.length
def acY(u:cZ)(e:eG)(C:bg)(s:E)(L:aq):Prop:=
 ∃H t v d f a l c B,rc H t C v d f a l c s e L B/\L.length=e.eA.length/\Ba u e (Nt L)/\YS u e=some L
variable{H A I C M Q:bg}{t U h:ag}{v b s R q j N k:Nat}{d f a l c w z ks X Y J:E}{u:cZ}{e:eG}{L P G:aq}{B K W:Int}{kn T S F:Kn}{x:Instr}{y:Int}
def Eu(ad:gY A d J u)(ok:iB u)(hp:u.di[k]? =some e):
 bK dO 33 [.agg #[d.v,J.v],vi k] A λaC C=>∃ap Q,aC=.tuple #[ap.v,vb Q]/\D A C/\(Q=true->∃L,acY u e C ap L)/\(Q=false->YS u e=none):=by
 have an:=ok.eS e (aZ hp)
 have az:=an.aU
 have aJ:=an.aT
 have aH:=br hp
 have aK:=ad.di.aT
 apply Kw
 simp -zeta only[dR,fq]
 intro I
 obtain⟨x1,z1⟩:=pu I
 refine(yR (ad.ext x1)).aP ?_
 rintro _ m2 ⟨U,f,sb,rfl,ai,aA,x2⟩
 have ai:=ai.2 ⟨ok.mN,λq hq=>(ok.eS q hq).df⟩
 obtain⟨rfl,hf⟩:=aA ai
 have z2:=x2.aQ
 refine⟨x2.eV cB,U,f,sb,O,?_⟩
 intro m3 H
 have x4:D m2 H:=by grind [D.cU,D.bZ,D.aV]
 have z4:H.size=m2.size+1:=by grind [bD]
 have aj:=(x1.J x2).J x4
 have h4:=ad.ext aj
 let⟨a,l,c,ia,il,ic,g0,g1,g2,g3,g4⟩:=h4.di.bt hp
 have aq:Vx H U f a l c u e:=⟨ok,aZ hp,h4.bS,oW.ext x4 hf,ia,il,ic⟩
 have aE:=ia.aT
 have ac:=ic.aT
 have aF:Bs H (λ_=>0) H:=⟨cY,λ_ _=>O,λ_ _=>O⟩
 refine⟨λxp M=>xp.2=0/\∃t w,LH H t M xp.1 U f a l c w e e.eA.length/\w.len=e.eA.length,⟨V,V,a,g0,l,g1,_,g2,_,g3,c,g4,V,V,c,g4,⟨V,V,V,V,?_⟩,?_⟩,?_⟩
 .intro B
  obtain⟨E,z5⟩:=pu B
  have X:dF B H.size nJ (na [.pp none] c.len):=dF.push H _ _
  refine⟨E.da g0,E.da g1,E.da g2,E.da g3,E.da g4,bE (E.bG _ V) _,bE (E.bG _ V) _,bE (E.bG _ V) _,?_⟩
  intro P
  obtain⟨K,z6⟩:=pu P
  have Y:dF P B.size jg [.s .nil,.s .nil,.s .nil,.s .nil,.i 0,.i 0,.s .nil,.s .nil]:=dF.push B _ _
  refine⟨K.da (E.aS g4),bE (K.bG _ V) _,K.da (E.aS g0),K.da (E.aS g1),K.da (E.aS g2),K.da (E.aS g3),K.da (E.aS g4),bE (K.bG _ V) _,bE (K.bG _ V) _,bE (K.bG _ V) _,?_⟩
  intro R
  have W:D B R:=by grind [D.aV]
  have z7:R.size=P.size:=bD _ _ _ _
  have T:dF R B.size jg [.s U,.s f,.s a,.s l,.i e.bQ,.i e.aU,.s c,.s (.mk H.size 0 c.len c.len)]:=dF.aV (m:=A) (o:=0) (r:=[.s U,.s f,.s a,.s l,.i e.bQ,.i e.aU,.s c,.s (.mk H.size 0 c.len c.len)]) Y
  refine⟨O,oH (oH (λ_=>0) H.size 3) B.size 4,.mk H.size 0 c.len c.len,⟨⟨E.J W,λb S=>by rw[fL V,fL V],λb S=>by rw[fL V,fL V]⟩,T,gU,⟨by simp[ac],bY,bR ⟨H.size,c.len,[],O,by rw[fL V,gU],?_,by simp[ac]⟩⟩⟩,by simp[ac]⟩
  grind [X0,dF.ext]
 .intro B
  obtain⟨E,z5⟩:=pu B
  have X:dF B H.size jg [.s .nil,.s .nil,.s .nil,.s .nil,.i 0,.i 0,.s .nil,.s .nil]:=dF.push H _ _
  refine⟨E.da g4,bE (E.bG _ V) _,E.da g0,E.da g1,E.da g2,E.da g3,E.da g4,bE (E.bG _ V) _,bE (E.bG _ V) _,bE (E.bG _ V) _,V,V,V,V,?_⟩
  intro P
  obtain⟨K,z6⟩:=pu P
  have Y:dF P B.size nJ (na [.pp none] c.len):=dF.push B _ _
  refine⟨K.da (E.aS g0),K.da (E.aS g1),K.da (E.aS g2),K.da (E.aS g3),K.da (E.aS g4),bE (K.bG _ V) _,bE (K.bG _ V) _,bE (K.bG _ V) _,?_⟩
  intro R
  have W:D H R:=by grind [D.J,D.aV]
  have z7:R.size=P.size:=bD _ _ _ _
  have T:dF R H.size jg [.s U,.s f,.s a,.s l,.i e.bQ,.i e.aU,.s c,.s (.mk B.size 0 c.len c.len)]:=dF.aV (m:=A) (o:=0) (r:=[.s U,.s f,.s a,.s l,.i e.bQ,.i e.aU,.s c,.s (.mk B.size 0 c.len c.len)]) (X.ext K)
  have Z:dF R B.size nJ (na [.pp none] c.len):=by grind [dF.congr,cq]
  refine⟨O,oH (oH (λ_=>0) H.size 4) B.size 3,.mk B.size 0 c.len c.len,⟨⟨W,λb S=>by rw[fL V,fL V],λb S=>by rw[fL V,fL V]⟩,T,by rw[fL V,gU],⟨by simp[ac],bY,bR ⟨B.size,c.len,[],O,gU,?_,by simp[ac]⟩⟩⟩,by simp[ac]⟩
  grind [X0]
 rintro⟨v,vo⟩ M ⟨ao,t,w,S,au⟩
 simp only at ao S
 subst ao
 have SM:∀{N N':bg}{r1 r2:ag},Bs H r1 N->Bs H r2 N'->gS [m2.size,A.size] N N':=λb1 b2=>D.wK b1.cW b2.cW cB
 obtain⟨s,hn⟩:∃s,s=e.aU.toNat:=⟨_,O⟩
 refine⟨λfirst N=>∃t fb z ks kn,first=(fb,0)/\LH H t N v U f a l c w e e.eA.length/\me t N 10 fb z ks kn/\kn.aU.length=s,⟨_,S.bV.dx 5,_,S.bV.dx 5,⟨V,V,V,V,?_⟩,⟨V,V,V,V,?_⟩⟩,?_⟩
 .rw[<-hn]
  intro B
  obtain⟨E,z5⟩:=pu B
  have X:dF B M.size rp (na [.i 0,.i 0,.t false,.i 0,.i 0,.i 0] s):=dF.push M _ _
  refine⟨E.da (S.bV.dx 5),V,V,V,V,?_⟩
  intro P
  obtain⟨K,z6⟩:=pu P
  have Y:dF P B.size bB (na [.i 0] s):=dF.push B _ _
  refine⟨K.da (E.aS (S.bV.dx 5)),?_⟩
  intro R
  obtain⟨W,z7⟩:=pu R
  have T:dF R P.size zO [.s (.mk M.size 0 s s),.s (.mk B.size 0 s s)]:=dF.push P _ _
  have Z:dI (λ_=>False) t M (oH t M.size 10) B:=dI.oH E S.cW.bF bY V 10
  have c6:dI (λ_=>False) (oH t M.size 10) B (oH (oH t M.size 10) B.size 10) P:=dI.oH K Z.bF bY V 10
  have c7:=dI.oH (p:=λ_=>False) W c6.bF (aeU P.size) V 10
  refine⟨oH (oH (oH t M.size 10) B.size 10) P.size 10,P.size,.mk M.size 0 s s,.mk B.size 0 s s,⟨List.replicate s ⟨0,0,false,0,0,0⟩,List.replicate s 0⟩,O,S.fO ((Z.J c6).J c7) ⟨id,id,id⟩,⟨T,gU,⟨by simp[uB],bY,bR ⟨M.size,s,[],O,by rw[fL V,fL V,gU],?_,by simp[uB]⟩⟩,⟨bO,bY,bR ⟨B.size,s,[],O,by rw[fL V,gU],?_,bO⟩⟩,eX,bO⟩,bO⟩
  .grind [Vz,dF.ext,D.J]
  grind [pI,eP,dF.ext]
 .rw[<-hn]
  intro B
  obtain⟨E,z5⟩:=pu B
  have X:dF B M.size bB (na [.i 0] s):=dF.push M _ _
  refine⟨E.da (S.bV.dx 5),V,V,V,V,?_⟩
  intro P
  obtain⟨K,z6⟩:=pu P
  have Y:dF P B.size rp (na [.i 0,.i 0,.t false,.i 0,.i 0,.i 0] s):=dF.push B _ _
  refine⟨K.da (E.aS (S.bV.dx 5)),?_⟩
  intro R
  obtain⟨W,z7⟩:=pu R
  have T:dF R P.size zO [.s (.mk B.size 0 s s),.s (.mk M.size 0 s s)]:=dF.push P _ _
  have Z:dI (λ_=>False) t M (oH t M.size 10) B:=dI.oH E S.cW.bF bY V 10
  have c6:dI (λ_=>False) (oH t M.size 10) B (oH (oH t M.size 10) B.size 10) P:=dI.oH K Z.bF bY V 10
  have c7:=dI.oH (p:=λ_=>False) W c6.bF (aeU P.size) V 10
  refine⟨oH (oH (oH t M.size 10) B.size 10) P.size 10,P.size,.mk B.size 0 s s,.mk M.size 0 s s,⟨List.replicate s ⟨0,0,false,0,0,0⟩,List.replicate s 0⟩,O,S.fO ((Z.J c6).J c7) ⟨id,id,id⟩,⟨T,gU,⟨by simp[uB],bY,bR ⟨B.size,s,[],O,by rw[fL V,gU],?_,by simp[uB]⟩⟩,⟨bO,bY,bR ⟨M.size,s,[],O,by rw[fL V,fL V,gU],?_,bO⟩⟩,eX,bO⟩,bO⟩
  .grind [Vz,dF.ext]
  grind [pI,eP,dF.ext,D.J]
 clear S t M
 rintro _ M ⟨t,fb,z,ks,kn,rfl,S,ae,aw⟩
 have aL:=ae.GN
 have aI:=ae.XC
 refine⟨z,ae.jB.1,gP (n:=s) V (λj N=>∃h E,LH H h N v U f a l c w e e.eA.length/\me h N 10 fb z ks E/\Nr e s 0 j E) ⟨t,kn,S,ae,⟨aw,V,V,V⟩⟩ ?_⟩
 rintro j N ak μ hj ⟨h,E,K,R,W⟩ aa
 have am:=W.aT
 have av:=R.zy
 refine⟨λB=>?_,λB=>?_⟩
 .have B:j<s:=cB
  refine⟨z,R.jB.1,ks,R.jB.2,(xy (e:=N)).aP ?_⟩
  rintro _ N2 ⟨rfl,x3⟩
  have c3:dI (λ_=>False) h N h N2:=dI.fC x3 K.cW.bF
  have X:=K.fO c3 ⟨id,id,id⟩
  have K3:=R.ext x3
  refine⟨SM K.cW X.cW,-1,0,false,-1,-1,-1,O,by first|exact x3.da R.jB.1|exact x3.da R.jB.2,by first|exact x3.da R.jB.2|exact x3.da R.jB.1,V,V,by have:=K3.wr (i:=j) (o:=0) (n:=6) V V V;simpa using this,?_⟩
  intro N3
  have K4:me h N3 10 fb z ks (E.tj j λ_=>yy):=by
   have:=K3.cG (i:=(j:Int)) (o:=0) (new:=[.i (-1),.i 0,.t false,.i (-1),.i (-1),.i (-1)]) (g:=λ_=>yy) V V bO O;grind
  have c4:dI (·=10) h N2 h N3:=K3.qF c3.bF _
  have P:=X.fO c4 cD
  refine⟨SM X.cW P.cW,V,V,by have:=K4.wrK (i:=j) V cB;rwa[fq]at this,?_⟩
  intro N4
  have K5:me h N4 10 fb z ks {(E.tj j λ_=>yy)with eO:=gX (E.tj j λ_=>yy).eO j (-1)}:=by
   grind [me.ade]
  have Z:dI (·=10) h N3 h N4:=K4.SX c4.bF _ _
  have Y:=P.fO Z cD
  exact⟨SM P.cW Y.cW,aa B _ ⟨h,_,Y,K5,W.s1 B V⟩⟩
 have ej:j=s:=cB
 subst ej
 clear aa B
 refine⟨a,K.bV.dx 2,gP (n:=e.aY.length) V (λq N=>∃h E,LH H h N v U f a l c w e e.eA.length/\me h N 10 fb z ks E/\Nr e j q j E) ⟨h,E,K,R,W⟩ ?_⟩
 clear K R W am av h E N
 rintro q N ak μ hq ⟨h,E,K,R,W⟩ aa
 have am:=W.aT
 refine⟨λB=>?_,λB=>?_⟩
 .have B:q<e.aY.length:=cB
  let⟨ab,ht⟩:=dV e.aY q
  have af:bt e.aY q=ab:=by
   grind [jR,Int.toNat_natCast,Option.some.inj]
  have e0:E.r q=yy:=cB
  refine⟨V,V,ab,K.cW.cW.aS (ia.bt ht),z,R.jB.1,V,V,l,K.bV.dx 3,(lF (il.ext K.cW.cW) q).aP ?_⟩
  rintro _ N2 ⟨Q,rfl,hr,x3⟩
  have c3:dI (λ_=>False) h N h N2:=dI.fC x3 K.cW.bF
  have X:=K.fO c3 ⟨id,id,id⟩
  have K3:=R.ext x3
  have al:Q=decide ((q:Int)∈e.df):=by cases Q<;>simp_all
  refine⟨SM K.cW X.cW,Q,O,by have:=K3.wr (i:=q) (o:=0) (n:=1) V V V;simpa using this,?_⟩
  intro N3
  have K4:me h N3 10 fb z ks (E.tj q λQ=>{Q with lp:=ab}):=by
   have:=K3.cG (i:=(q:Int)) (o:=0) (new:=[.i ab]) (g:=λQ=>{Q with lp:=ab}) V V bO O;grind
  have c4:dI (·=10) h N2 h N3:=K3.qF c3.bF _
  have P:=X.fO c4 cD
  refine⟨SM X.cW P.cW,by have:=K4.wr (i:=q) (o:=2) (n:=1) V cB V;rwa[fq]at this,?_⟩
  intro N4
  have K5:me h N4 10 fb z ks (E.tj q λT=>{T with lp:=ab,df:=Q}):=by
   have:=K4.cG (i:=(q:Int)) (o:=2) (new:=[.t Q]) (g:=λT=>{T with df:=Q}) V cB bO O;grind [Bz]
  have Z:dI (·=10) h N3 h N4:=K4.qF c4.bF _
  have Y:=P.fO Z cD
  have kH:¬(ab≠0/\Q=false)->me h N4 10 fb z ks (E.tj q λ_=>Qw e q):=λah=>by
   rw[O1 (l:=λT=>{T with lp:=ab,df:=Q}) V V ?_]
   .exact K5
   .rw[e0];unfold Qw yy;grind
  refine⟨SM P.cW Y.cW,λe1=>⟨Q,?_,λe2=>?_,λe2=>aa B _ ⟨h,_,Y,kH (λhc=>by rw[hc.2]at e2;cases e2),W.s2⟩⟩,λe1=>aa B _ ⟨h,_,Y,kH (λhc=>hc.1 cB),W.s2⟩⟩
  .obtain⟨_,_,w2,_⟩:=K5.dx (i:=q) V cB
   grind [Tt,Int.toNat_natCast]
  .refine⟨by have:=K5.wr (i:=q) (o:=1) (n:=1) V cB V;rwa[fq]at this,?_⟩
   intro N5
   have K6:me h N5 10 fb z ks (E.tj q λT=>{T with lp:=ab,df:=Q,bI:=1}):=by
    have:=K5.cG (i:=(q:Int)) (o:=1) (new:=[.i 1]) (g:=λT=>{T with bI:=1}) V cB bO O;grind [Bz]
   have c6:dI (·=10) h N4 h N5:=K5.qF Z.bF _
   have V6:=Y.fO c6 cD
   have K7:me h N5 10 fb z ks (E.tj q λ_=>Qw e q):=by
    rw[O1 (l:=λT=>{T with lp:=ab,df:=Q,bI:=1}) V V ?_]
    .exact K6
    .grind [Qw,yy]
   exact⟨SM Y.cW V6.cW,aa B _ ⟨h,_,V6,K7,W.s2⟩⟩
 have eq:q=e.aY.length:=cB
 subst eq
 clear aa B
 have aG:w.cap≠0:=by have:=K.qB.le;omega
 have X:=K.jC V R (hn▸W.ok) au
 have w0:=W.cr hn.symm cB V
 have ek:=W.eq hn.symm cB V
 refine⟨w,K.bV.dx 7,V,V,by have:=K.qB.wr (o:=0) (n:=1) cB;simpa using this,?_⟩
 intro N2
 change rc H h N2 v U f a l c w e _ 1 at X
 refine⟨SM K.cW X.cW,c,X.bV.dx 6,gP (n:=e.eA.length) V (λq N=>∃ah L,rc H ah N v U f a l c w e L (1+3*(q:Int))/\L.length=e.eA.length/\Xg L 0 (O0 e)/\Wv (Vl u e) (some (O0 e)::List.replicate (e.eA.length -1) none) q=some L/\∀(y:Nat) kn x,y<q->L[y]? =some (some kn)->e.eA[y]? =some x->HN u e L y x kn)
  ⟨h,_,X.aP V,eX,⟨dT 0,E,O,w0⟩,by rw[ek];rfl,V⟩ ?_⟩
 rintro q N3 ak μ hq ⟨ah,L,P,hL,h0,af,hs⟩ aa
 refine⟨λB=>?_,λB=>?_⟩
 .have B:q<e.eA.length:=cB
  let⟨ar,hQ,hA,hC⟩:=P.jI
  let⟨qc,ax⟩:=dV ar q
  let⟨ab,ho⟩:=dV L q
  have al:=hC q qc ab ax ho
  have gq:aS N3 w.bz (w.off+q*1)=some (Ce.v (.pp qc)):=by
   have:=hA.kZ q (.pp qc) cB;grind
  refine⟨w,P.bV.dx 7,V,V,qc,gq,λe1=>?_,λe1=>?_⟩
  .obtain⟨Z,rfl⟩:∃Z,ab=some Z:=by
    cases qc with
    |none=>simp at e1
    |some aD=>cases ab with
     |none=>exact al.elim
     |some Z=>exact⟨Z,O⟩
   let⟨x,hx⟩:=dV e.eA q
   refine(vL aq P V hL ho hx).aP ?_
   rintro _ N4 ⟨Q,aB,rfl,c4,hr,ay⟩
   have eF:Vl u e q L=vM u e q x Z L:=by grind [Vl]
   have b4:=P.cW.SW c4 V
   refine⟨SM P.cW b4,Q,O,λe2=>⟨_,false,O,aj.J b4.cW,λad=>(by cases ad),λ_=>P3 (s:=q+1) (by rw[vd af,eF];exact ay cB) V⟩,λe2=>?_⟩
   let⟨G,Y,lw,st,w3⟩:=hr cB
   refine aa B _ ⟨aB,G,Y.aP V,lw.aT.trans hL,h0.aP lw,by rw[vd af,eF,w3],λy F T hi h1 h2=>?_⟩
   by_cases ei:y=q
   .grind
   .rw[lw.bG y V]at h1
    exact(hs y F T V h1 h2).aP lw
  .have Y:ab=none:=by
    cases qc with
    |some aD=>simp at e1
    |none=>cases ab with
     |none=>rfl
     |some Z=>exact al.elim
   refine aa B _ ⟨ah,L,P.aP V,hL,h0,by
    rw[vd af];unfold Vl;rw[ho,Y];cases e.eA[q]? <;>rfl,λy F T hi h1 h2=>?_⟩
   grind
 .have eq:q=e.eA.length:=cB
  exact⟨w,P.bV.dx 7,w,true,O,aj.J P.cW.cW,λ_=>⟨L,H,ah,v,U,f,a,l,c,_,P,hL,aaP P h0 az.2.1 λy kn x h1 h2=>hs y kn x cB h1 h2,by unfold YS;have T:=af;rw[eq]at T;exact T⟩,λB=>by cases B⟩
end
section
variable{m:bg}{d p:E}{a:cZ}
def LI(a:cZ):Prop:=∀p∈a.di,∃L,YS a p=some L/\Ba a p (Nt L)
noncomputable def Zj (a:cZ) (n:Nat):Nat->Option Kn:=Nt ((YS a (dG a n)).getD [])
def LI.aaO(h:LI a)(n:Nat)(p:eG)(b:a.di[n]? =some p):Ba a p (Zj a n):=by
 let⟨L,e,f⟩:=h p (aZ b);have:dG a n=p:=by simp[dG,b]
 grind [Zj]
def zZ(h:gY m d p a):bK dO 11 [.agg #[d.v,p.v]] m λK C=>∃b,K=vb b/\D m C/\(b=true->iB a/\LI a)/\(b=false->¬(iB a/\LI a)):=by
 apply GD;simp -zeta only[dR];intro E;obtain⟨x,z1⟩:=pu E;refine(pt (h.ext x)).aP ?_;rintro _ F ⟨b,rfl,w,q⟩;have t:=x.J q;have T:=q.aQ;refine⟨q.eV eX,b,O,λe=>⟨false,O,t,λh=>(by cases h),λ_ g=>nb w e g.1⟩,λe=>?_⟩;have o:=yb w e;have R:=h.di.aT;have P:=o.mN.aT;refine gP (n:=a.di.length) V (λk M=>D F M/\∀i p,i<k->a.di[i]? =some p->∃L,YS a p=some L/\Ba a p (Nt L)) ⟨cY,V⟩ ?_;rintro k M N μ Q ⟨s,v⟩ G
 have X:=t.J s;refine dit (λe=>?_) λe=>?_
 .let⟨H,l⟩:=dV a.di k;refine(Eu (h.ext X) o l).aP ?_;rintro _ S ⟨J,I,rfl,r,A,B⟩;refine⟨r.eV (by have:=s.aQ;simp;omega),J,I,O,λf=>⟨false,O,X.J r,λh=>(by cases h),λ_ g=>?_⟩,λf=>G V _ ⟨s.J r,λi p j c=>?_⟩⟩
  .obtain⟨L,u,_⟩:=g.2 H (aZ l);rw[B (sp f)]at u;cases u
  .by_cases y:i=k
   .subst y;rw[l]at c;cases c;obtain⟨L,_,_,_,_,_,_,_,_,_,_,_,z,u⟩:=A (sp f);exact⟨L,u,z⟩
   .exact v i p V c
 .exact⟨true,O,X,λ_=>⟨o,λp c=>by
   let⟨i,j⟩:=cH.1 c;exact v i p (oh (br j)) j⟩,λh=>by cases h⟩
end
section
variable{m:bg}{d p:E}{b:cZ}{f a:Nat}{q:eG}{kn:Kn}
def Oc(j:gY m d p b)(A:iB b)(x:LI b)(h:b.di[f]? =some q)(ha:a<q.eA.length)(i:Zj b f a=some kn):
 bK dO 41 [.agg #[d.v,p.v],vi f,vi a] m λC y=>∃k c g ks,C=Ce.v (.pp (some (c,0)))/\me k y (10+a) c g ks kn/\D m y:=by
 apply IJ
 simp -zeta only[dR]
 intro T
 obtain⟨E,z1⟩:=pu T
 refine(zZ (j.ext E)).aP ?_
 rintro _ m2 ⟨c,rfl,n,-,M⟩
 have z2:=n.aQ
 have X:=E.J n
 refine⟨n.eV cB,c,O,λe=>absurd ⟨A,x⟩ (M cB),λ_=>?_⟩
 have hl:=j.di.aT
 have ac:=br h
 obtain⟨aa,ae,H,ia,il,S,g0,g1,g2,g3,J⟩:=(j.ext X).di.bt h
 have ab:=S.aT
 refine⟨λe=>by simp at e;omega,λ_=>⟨λe=>by simp at e;omega,λ_=>⟨λe=>by simp at e;omega,λ_=>⟨V,V,H,J,λe=>by simp at e;omega,λ_=>?_⟩⟩⟩⟩
 refine(Eu (j.ext X) A h).aP ?_
 rintro _ z ⟨s,B,rfl,F,R,ad⟩
 obtain⟨Y,o,_⟩:=x q (aZ h)
 have I:B=true:=by
  grind
 obtain⟨Z,m0,k,C,d',f',a',l',c',W,G,hL,_,r⟩:=R I
 rw[o]at r;cases r
 have N:dG b f=q:=by simp[dG,h]
 unfold Zj at i
 rw[N,o]at i
 have i:=DY.1 i
 obtain⟨Q,hQ,v,L⟩:=G.jI
 let⟨l,P⟩:=dV Q a
 have w:=L a l _ P i
 obtain⟨c,rfl,g,ks,K⟩:∃c,l=some (c,0)/\∃g ks,me k z (10+a) c g ks kn:=by
  cases l with
  |none=>exact w.elim
  |some U=>
   obtain⟨z0,z1⟩:=U;obtain⟨t,g,ks,u,_⟩:=w;simp only at t u;subst t;exact⟨z0,O,g,ks,u⟩
 have u:=v.aT
 simp at u
 have t:aS z s.bz (s.off+a*1)=some (Ce.v (.pp (some (c,0)))):=by
  have:=v.kZ a (.pp (some (c,0))) cB;grind
 exact⟨F.eV cB,s,B,O,V,V,_,t,k,c,g,ks,O,K,X.J F⟩
end
section
variable{c:bg}{d p:E}{a:cZ}{f b:Nat}{q:eG}{kn:Kn}
def NZ(s:gY c d p a)(ok:iB a)(Y:LI a)(U:a.di[f]? =some q)(S:b<q.eA.length)(W:Zj a f b=some kn):
 bK dO 20 [.agg #[d.v,p.v],vi f,vi b] c λac A=>∃H,ac=H.v/\ba A H (kn.aU.map (·.lp))/\D c A:=by
 apply Iz
 simp -zeta only[dR]
 intro Z
 obtain⟨I,z1⟩:=pu Z
 refine(Oc (s.ext I) ok Y U S W).aP ?_
 rintro _ g ⟨ro,R,G,ks,rfl,K,v⟩
 have z2:=v.aQ
 have X:=K.GN
 have hs:=K.jw
 generalize hn:kn.aU.length=n at*
 refine⟨v.eV eX,some (R,0),O,sx,λ_=>⟨_,O,G,K.jB.1,V,V,V,V,?_⟩⟩
 rw[X,fq]
 intro u
 obtain⟨J,z3⟩:=pu u
 have N:dF u g.size bB ((eP n).map Ce.i):=by
  rw[<-pI];exact dF.push g _ _
 refine⟨_,O,G,(K.ext J).jB.1,gP (n:=n) V (λe M=>D g M/\u.size<=M.size/\∃l:ab,l.length=n/\dF M g.size bB (l.map Ce.i)/\∀j,j<e->l[j]? =(kn.aU[j]?).map (·.lp)) ⟨J,bY,_,lH n,N,V⟩ ?_⟩
 rintro e M ad μ hi ⟨w,zM,l,t,B,z⟩ aa
 have Q:=K.ext w
 refine⟨λh=>?_,λh=>?_⟩
 .have h:e<n:=by simp at h;omega
  let⟨w0,w1,w2,w3,w4,w5⟩:=Q.dx (i:=e) V V
  refine⟨V,V,_,w0,_,w1,_,w2,_,w3,_,w4,_,w5,?_⟩
  intro m4 C
  obtain⟨L,z5⟩:=pv C
  have x:=B.ext L
  refine⟨V,by simp only[E.kv];omega,x.jb eX,?_⟩
  intro F
  have P:dF F g.size bB ((l.set e (kn.r e).lp).map Ce.i):=by
   have:=dF.aV (m:=C) (o:=e) (r:=[.i (kn.r e).lp]) x;rw[Au]at this;simpa[F]using this
  refine⟨λae T=>cq _ _ _ _ (by simp at T⊢;omega),aa V _ ⟨(w.J L).aV bY _ _,by rw[bD];omega,_,sp t,P,λj af=>?_⟩⟩
  by_cases y:e=j
  .subst y
   rw[fu V]
   have:=Bv (k:=kn) (i:=(e:Int)) V V
   rw[fq]at this
   rw[this];rfl
  .rw[dU y];exact z j V
 .have x:e=n:=by simp at h;omega
  subst x
  refine⟨_,O,?_,I.J (v.J w)⟩
  have y:l=kn.aU.map (·.lp):=by
   apply ft;intro j;rw[eE];by_cases s:j<e
   .exact z j s
   .rw[jE V,jE V];rfl
  rw[<-y]
  exact ba.ju (f:=g) ⟨by simp[t],bR ⟨g.size,e,[],O,bY,by rw[fP];exact B,by simp[t],bY⟩⟩ V
end
section
section
open Tryz
variable{a:bg}{R:aj}
def yw(b:E):=eK a R ⟨[(17,[(15,.I)])],[],[(17,[189,187,185,183,181,179])]⟩ [b] func6
end
variable{a:bg}
def PY{d:E}{b:af}(hd:dA a d b)(c:eR b)(t:Int):bK dO 21 [d.v,vi t] a λv e=>∃s,v=s.v/\ba e s (cT b t)/\D a e:=by
 apply Kh;refine(xr hd).aP ?_;rintro _ j ⟨f,rfl,h,i⟩;refine⟨f,O,λg=>absurd c (nb h g),λ_=>(vG (dA.ext i hd) c t).aP ?_⟩;grind [ba.ju,D.J]
def Bw{eA:E}(h:JT a eA):bK dO 6 [eA.v] a (LwR a):=by
 apply yw;simp(config:={maxSteps:=1000000}) -zeta only[dR];refine⟨λ_=>⟨O,cY⟩,λaG=>?_⟩;refine(I5 h).aP λ_ Q⟨am,ar,b,d,e,hi,U⟩=>⟨am,ar,d,e,?_⟩;have p:gY Q am ar b:=⟨hi.bS.le fN,mh.le fN hi.di⟩;intro m2 m3;obtain⟨x3,z3⟩:=pv m3;refine(NX (p.ext x3) d).aP λ_ m4⟨aS,e,ho,x4⟩=>⟨x4.eV eX,_,_,_,aS,_,e,?_⟩;intro m5 m6;obtain⟨x6,z6⟩:=pv m6;have z4:=x4.aQ;have X6:=(x3.J x4).J x6;refine(Mw (p.ext X6) d).aP λ_ m7⟨aU,e,hw,X⟩=>⟨X.eV eX,_,_,_,aU,_,e,?_⟩;intro m8 m9;obtain⟨x9,z9⟩:=pv m9;have z7:=X.aQ;have u:∀c∈[m7.size,m4.size,Q.size],c<m9.size:=eX;have aV:=(x6.J X).J x9;have Y:∀{M:bg},D m9 M->_:=λ{M} x=>EA (m:=M) (ho.2.1.ext (aV.J x)) (hw.2.1.ext (x9.J x)) (qH b d).eC (qH b d).iQ (qH b d).dg (qH b d).eC (qH b d).iQ (qH b d).dg;refine(Y cY).bL cY u λc a_ g A _=>⟨c,O,?_⟩;obtain rfl:=g.2 ⟨O,O,O,O⟩;have G:=((X6.J X).J x9).J A;have AZ:=A.aQ;refine⟨sx,λ_=>⟨sx,λ_=>⟨λhn=>?_,λhy=>?_⟩⟩⟩
 .refine(Y A).bL A u λc aP g q _=>⟨c,O,λ_=>⟨bO,(U.J G).J q⟩,λh=>?_⟩;rw[g.2 ⟨O,O,O,O⟩]at h;simp at h
 let⟨o,aX⟩:=ac4 (a:=b) (dL:=d) (sp hy);refine(zZ (p.ext G)).aP λ_ aP⟨c,e,q,P,_⟩=>⟨q.eV λy z=>oh (u y z),c,e,λe=>?_,λe=>?_⟩
 .have f:=A.J q;refine(Y f).bL f u λc ac g B _=>⟨c,O,λ_=>⟨bO,(U.J (G.J q)).J B⟩,λh=>?_⟩;rw[g.2 ⟨O,O,O,O⟩]at h;simp at h
 obtain⟨_,P⟩:=P (sp e);have bf:=q.aQ;have ak:=G.J q;refine(Iy (p.ext ak) o.1 o.2).aP λ_ ac⟨fs,e,hs,B⟩=>⟨B.eV λy z=>oh (u y z),_,_,_,_,.nil,.nil,fs,true,e,?_⟩;intro ba aQ;obtain⟨av,bi⟩:=pv aQ;have bh:=B.aQ;have al:=(ak.J B).J av;have S:=AT o.1 o.2;simp only[dm]at aG;have t:eJ ((eA.len:Int)*13)=((eA.len*13:Nat):Int):=by rw[iz];rfl
 rw[t,show Int.tmod ((eA.len*13:Nat):Int) 110=((eA.len*13%110:Nat):Int)from O];have hj:eA.len*13%110<=110:=V;generalize eA.len*13%110=j at hj;have aj:=LV (p.ext al) (hs.ext av) (S.afj (AU b d) V) (by simp[jC]) (j:Int);have er:QA b (jC b d) j=⟨bA b j (jC b d),true⟩:=bn ⟨S,V,V⟩;rw[er]at aj;have R:=xU j S;have ag:=R.pL (AW j S (AU b d) V) V;have aB:=VS.bA P.aaO o.1 o.2 j;generalize bA b j (jC b d)=st at*;refine⟨cD,aj.aP λ_ ad⟨ro,o2,h2,Z,e,N⟩=>⟨N.bs.cW.eV λy z=>by
  rcases bo.1 z with e|e
  .omega
  .have:=u y e;omega,_,_,_,_,o2,h2,Z,true,e,?_⟩⟩
 have aA:kd ad o2 h2 Z st:=N.Mp ag;have aw:=N.bs.cW;clear N;intro bb ae;obtain⟨ax,bk⟩:=pv ae;have bj:=aw.aQ;have H:=(al.J aw).J ax;have C:=aA.ext ax;have a0:=C.bq.aT;have aY:=ag.kV;have aF:∀{M:bg},ae.size<=M.size->∀c∈[ad.size,ac.size,m7.size,m4.size,Q.size],c<M.size:=eX;refine⟨sx,λ_=>⟨sx,λ_=>⟨λe=>⟨?_,U.J H⟩,λe=>?_⟩⟩⟩
 .have I:st.bq=[]:=cp.1 (by simp at e;omega);simp[R.cr.2 I]
 have a4:st.bq.length≠0:=by simp at e;omega
 have aN:eJ ((Z.len:Int) -1)=((st.bq.length -1:Nat):Int):=by rw[iz];omega
 let⟨f,L⟩:=dV st.bq (st.bq.length -1);have aM:st.bq=st.bq.take (st.bq.length -1)++[f]:=by
  have:=bX L;rw[rO V]at this;exact this
 let⟨kn,hk,W⟩:=aB.jO _ f aM;let⟨fr,fo,fh,jr,jo,jh,g0,g1,g2,g3,g4,g5⟩:=C.bq.bt L;rw[aN,fq];refine⟨V,V,_,g0,_,g1,_,g2,_,g3,_,g4,_,g5,?_⟩;intro bc aq;obtain⟨ay,bl⟩:=pv aq;have F:=R.bq f (aZ L);have a7:=F.fQ;have aK:=F.pc;have aI:=F.lr;have aH:=F.lo;let⟨au,hq⟩:=dV b.di f.fQ.toNat;have aC:dG b f.fQ=au:=by simp[dG,hq]
 rw[aC]at aK aI aH;have a8:=(o.1.eS au (aZ hq)).aU;have J:((f.fQ.toNat:Nat):Int)=f.fQ:=V;have e2:((f.pc.toNat:Nat):Int)=f.pc:=V;have ai:=NZ (p.ext (H.J ay)) o.1 P hq (b:=f.pc.toNat) V hk;rw[J,e2]at ai;refine ai.aP ?_;rintro _ aR ⟨aT,rfl,ap,ah⟩;have bm:=ah.aQ;have aL:=ap.aT;have a3:=W.aT;rw[jX]at aL;have a5:=jo.aT;have a9:=jr.aT;have ab:∀{M:bg},aq.size<=M.size->∀c∈ae.size::[ad.size,ac.size,m7.size,m4.size,Q.size],c<M.size:=λh c g=>by
  rcases bo.1 g with e|e
  .omega
  .exact aF V c e
 refine⟨ah.eV (ab bY),aT,O,gP (n:=kn.aU.length) V (λ_ M2=>D aR M2) cY ?_⟩;rintro r M2 I2 μ2 hr v af;have w:=(ay.J ah).J v;refine⟨λe=>?_,λe=>⟨eX,(U.J H).J w⟩⟩;have e:r<kn.aU.length:=by simp at e;omega
 have c1:=Bv (k:=kn) (i:=(r:Int)) V V;rw[fq]at c1;have c2:=(ap.ext v).bt (k:=r) (x:=(kn.r r).lp) (by rw[eE,c1];rfl);have c3:=jR (l:=f.bI) (i:=(r:Int)) V V;rw[fq]at c3;have c5:=jR (l:=f.aU) (i:=(r:Int)) V V;rw[fq]at c5;have z2:=v.aQ;refine⟨V,V,_,(jr.ext w).bt c5,V,V,_,c2,λI=>⟨λJ=>absurd (W.rB r V (sp I)) (by simp at J;omega),λJ=>?_⟩,λI=>?_⟩;all_goals
  refine⟨V,V,_,c2,(PY (p.ext (H.J w)).bS o.1.mN.dk (kn.r r).lp).aP ?_⟩
  rintro _ bd ⟨cs,rfl,ao,s⟩
  have an:=ao.aT
  refine⟨s.eV (ab V),cs,O,λt=>⟨V,V,_,(jo.ext (w.J s)).bt c3,λK=>?_,λ_=>af V _ (v.J s)⟩,λ_=>af V _ (v.J s)⟩
  have t:(cT b.bS (kn.r r).lp)≠[]:=λh=>by rw[h]at an;simp at an t;omega
  have K:0<bt f.bI r:=sp K
  have ht:0<(kn.r r).lp:=by
   refine Int.not_le.1 λh=>t ?_;unfold cT;rw[aW V]
  have aJ:iH st.aR (bt f.aU r):=OL.of R f (aZ L) r V K
  have hp:=W.T9 r V ht
  have T:=W.js r V (.vF (bC (by rw[W.bI r V];exact K))) ht
  have aD:(bu st.aR (bt f.aU r)).js∈cT b.bS (kn.r r).lp:=by
   unfold DT at T;split at T
   .exact T
   .obtain⟨_,_,_,_,ha⟩:=T;exact absurd (Zh ha) t
  let⟨aa,a6⟩:=dy aJ
  have aE:=br aa
  have a1:=C.aR.aT
  have a2:=ag.aR
  unfold ix at aa aE
  have aO:eJ (bt f.aU r -1000)=bt f.aU r -1000:=iz
  obtain⟨_,_,_,d1,_⟩:=(gA.ext (w.J s) C.aR).bt aa
  rw[aO]
  refine⟨λe=>by simp at e;omega,λ_=>⟨λe=>by simp at e;omega,λ_=>⟨V,V,_,d1,(Tm ao).aP ?_⟩⟩⟩
  rintro _ be ⟨c,rfl,g,az⟩
  have bp:=s.aQ
  exact⟨az.eV (ab V),c,O,λe=>absurd aD (nb g e),λ_=>af V _ ((v.J s).J az)⟩
end
end Go.Proofs.YtbbbdejieenniaaGreat
namespace Go.Vc
section
variable{t:TypeId}{a:Addr}
open Go.ChangeShapes Go.WideShapes Go.RowKit
section
variable{H:Type}{b:TypeId×Value->H}{P:Program}{w:World}
def Zb(b:TypeId×Value->H)(P:Program)(w:World)(t:TypeId)(Q:ae->Prop):Prop:=
 ∀(n:Nat)(a:ap)(x:DataW H×aI),DataW.trod b P w 0 (λ_=>true) true n t a=some x->∃c,a=c.map Ce.v/\Q c
theorem Zb.aP{Q Q':ae->Prop}(h:Zb b P w t Q)(f:∀a,Q a->Q' a):Zb b P w t Q':=λn a x g=>
 let⟨c,d,e⟩:=h n a x g
 ⟨c,d,f _ e⟩
theorem Yn{v:Value}(h:w.cell? a=some v):a.spot=none:=by
 unfold World.cell? at h;split at h
 .split at h
  .cases h
  .rename_i b;simpa using b
 .cases h
theorem Yj(h:a.spot=none)(i:Nat):a.add i=⟨a.block,a.off+i,none⟩:=by
 obtain⟨b,o,s⟩:=a;grind [Go.Addr.add]
end
variable{H:Type}{b:TypeId×Value->H}{P:Program}
theorem Ii(k:laidOutB P=true){W i:World}(j:Below W.heap.size W i):∀{d:List TypeId}{g:ap}{e:List (DataW H)}{c:aI},
 (d.all λt=>P.readableRec t&&decide (t<P.types.size))=true->DataW.TrodAll b P W 0 (λ_=>true) true d g e c->(∀x∈c,x.block<W.heap.size)->∀sp:Nat->Bool,(∀p∈c,sp p.block=true)->
 DataW.TrodAll b P i 0 sp true d g e c
 |[],_,_,_,_,h,_,_,_=>by
  obtain⟨rfl,rfl,rfl⟩:=trodAll_nil h;exact trodAll_mk0
 |t::d,_,_,_,f,h,l,sp,m=>by
  obtain⟨v,g,r,e,p,q,rfl,rfl,rfl,n,o⟩:=trodAll_cons h;simp only[SH,eZ,bh]at f;exact⟨p,q,WideElems.Trod_stays k f.1.1 f.1.2 n (λx a=>j.same (l x (by simp[a]))) (λx a=>m x (by simp[a])),Ii k j cB o (λx a=>l x (by simp[a])) sp (λx a=>m x (by simp[a])),O⟩
def Rz{f:Func}{s:ChangeSpec}{W c:World}{d:Array Value}{a:List (DataW H)}{h:aI}
 (D:laidOutB P=true)(G:(f.params.toList.all λt=>P.readableRec t&&decide (t<P.types.size))=true)(w:f.resultTypes=#[t])(o:P.underlying t=some .bool)(l:s.vars=[])
 (e:DataW.Whole b P f.params.toList s.vars false W d.toList a [] h)(C:(s.fn H (a++[])).args=a)(q:(s.fn H (a++[])).results=[.lit (.bool true)])(r:(s.fn H (a++[])).vars=[])
 (n:Below W.heap.size W c):s.post b P f false true false false W d (.bool true) c:=by
 have k:∀p∈h,p.block<W.heap.size:=λp u=>by simpa using e.lt p u
 have j:=e
 obtain⟨p,I,B,i,rfl,A,E⟩:=e
 rw[l]at i
 obtain⟨_,rfl⟩:=trodVars_none i
 simp only[fP]at k A j
 have m:∀sp:Nat->Bool,(∀x∈p,sp x.block=true)->DataW.TrodAll b P c 0 sp true f.params.toList d.toList (s.fn H (a++[])).args p:=λsp F=>by
  grind [Ii]
 have y:∀sp:Nat->Bool,DataW.TrodVars b P c sp s.vars (s.fn H (a++[])).vars []:=λsp=>by rw[l,r];rfl
 have v:∀(g:Nat)(sp:Nat->Bool)(hd:Bool),DataW.TrodAll b P c g sp hd f.resultTypes.toList ((Value.bool true).resultList f.resultTypes.size) (s.fn H (a++[])).results []:=λg sp hd=>by
  rw[q,w];exact trodAll_cons_mk (shut_bool o _) trodAll_mk0
 refine⟨a,[],p,[],p,[],j,v _ _ _,m _ (λx z=>by simpa using k x z),y _,n.frame _,λ_=>?_⟩
 constructor<;>grind [Go.RowKit.ok_one,Go.RowKit.okWide_bool_mk,Go.ChangeShapes.trodAll_append,Go.RowKit.Below.frozen]
end
end Go.Vc
section
namespace Go.Proofs.YtbbbdejieenniaaGreat
open Go.Vc Go.ChangeShapes
def YE{H:Type}{x:TypeId×Value->H}{P:Program}{w:World}{t e r:Nat}{v:Value}{u:DataW H}{J:aI}(p:P.underlying t=some (.slice e))(B:P.underlying e=some (.int .u8))(A:P.cellsOf e=1)
 (F:Value.okWide P w .any r t v)(y:DataW.Trod x P w 0 (λ_=>true) true t v u J):∃s,v=s.v/\JT w.heap s:=by
 obtain⟨K,q,h,rfl⟩:=Go.WideShapes.okWide_slice p F
 obtain⟨M,C⟩:=y
 rcases open_ints p B A C with⟨b,_⟩|⟨d,Q,L,g,b,_,D,N,I,_,l,G⟩
 .simp[Value.cells]at b
  obtain⟨rfl,rfl,rfl⟩:=b
  exact⟨.nil,O,bY,λk a=>by simp at a⟩
 .simp[Value.cells]at b
  obtain⟨rfl,rfl,rfl⟩:=b
  simp only[yi]at I
  rcases FY h with i|i
  .subst i
   have:q=0:=V
   subst this
   obtain⟨c,o,s⟩:=d
   cases s with
   |none=>exact⟨.mk c o 0 0,O,bY,λk a=>by simp at a⟩
   |some sp=>exact⟨.DK c o sp,O,bY,λk a=>by simp at a⟩
  .have z:=l 0 V
   have n:d.spot=none:=by
    have:=Yn z;simpa[Addr.add]using this
   obtain⟨c,o,s⟩:=d
   simp only at n
   subst n
   refine⟨.mk c o q h,O,D,λk a=>?_⟩
   simp only[E.kv]at a
   have m:k<g.length:=V
   have j:=l k m
   have f:=G (g.getD k 0) (by rw[fH,abp m];simp)
   rw[Lit.wf,eZ,bh,bh]at f
   refine⟨g.getD k 0,f.1,f.2,?_⟩
   .rw[Yj O,Eb]at j
    simpa using j
end Go.Proofs.YtbbbdejieenniaaGreat
end
