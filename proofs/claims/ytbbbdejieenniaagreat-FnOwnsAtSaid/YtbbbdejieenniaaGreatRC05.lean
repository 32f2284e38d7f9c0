/- Part of a proof. -/
import Derived.Carry
import Derived.ChangeSame
import Derived.ChangeSlices
import Derived.Deep.Slices
import Derived.OpenShut
import Derived.RowKit
import Derived.WideShapes
import Derived.Test.YtbbbdejieenniaaGreatRC00
import Derived.Test.YtbbbdejieenniaaGreatRC02
import Derived.Test.YtbbbdejieenniaaGreatRC04
set_option linter.all false
set_option maxHeartbeats 8000000
set_option maxRecDepth 100000
namespace Go.Proofs.YtbbbdejieenniaaGreat
open Go.Vc
section
variable{a:Int}
structure tp where
 lS:Int
 bI:Int
 df:Bool
 lF:Int
 fr:Int
 Ea:Int
abbrev afz:=List tp
def yu:tp:=⟨-1,0,false,-1,-1,-1⟩
structure Kn where
 aU:afz
 eO:ab
abbrev aq:=List (Option Kn)
def Kn.r(k:Kn)(i:Int):tp:=(k.aU[i.toNat]?).getD yu
inductive ru(k:Kn):Int->Prop
 |wA {i:Int}:0<(k.r i).bI\/(k.r i).df=true->ru k i
 |qe {i:Int}:0<=(k.r i).fr->ru k (k.r i).fr->ru k i
def Kn.th(k:Kn)(i:Int)(g:tp->tp):Kn:={k with aU:=k.aU.modify i.toNat g}
def Kn.iJ(k:Kn)(i d:Int):Kn:=k.th i λr=>{r with bI:=r.bI+d}
def Kn.GH(k:Kn)(d f n:Int):Kn:=k.th d λr=>{r with fr:=f,Ea:=n}
def Kn.jx(k:Kn)(i c:Int):Kn:=k.th i λr=>{r with lF:=c}
def uf(d:Int)(r:tp):tp:=if r.fr=d then{r with fr:=-1,Ea:=-1}else r
def Kn.dX(k:Kn)(d t o:Int):Kn:={k with aU:=(k.aU.set d.toNat ⟨t,o,false,-1,-1,-1⟩).map (uf d)}
section
variable{k:Kn}{i j d t o:Int}
def lQ{g:tp->tp}:(k.th j g).aU.length=k.aU.length:=by simp[Kn.th]
theorem Kz{g:tp->tp}(b:0<=j)(a:0<=i):(k.th j g).r i=if i=j/\i<k.aU.length then g (k.r i)else k.r i:=by
 grind [Kn.r,Kn.th,List.length,List.getElem?_eq_getElem,List.getElem?_eq_none]
def BA:(k.dX d t o).aU.length=k.aU.length:=by simp[Kn.dX]
theorem SW(hd:0<=d){r:tp}(h:r.fr= -1):uf d r=r:=by grind [uf]
theorem U6(hd:0<=d/\d<k.aU.length)(a:0<=i):(k.dX d t o).r i=if i=d then⟨t,o,false,-1,-1,-1⟩else uf d (k.r i):=by
 unfold Kn.r Kn.dX;simp only[eJ];by_cases e:i=d
 .grind [List.getElem?_set_self,SW]
 .rw[aW e,eu V];cases h:k.aU[i.toNat]? with
  |none=>exact(SW hd.1 O).symm
  |some r=>rfl
end
inductive VD(h:ah)(b:an):Int->Prop
 |bI {f:bW} {i:Int}:f∈b->0<=i->0<bt f.bI i->VD h b (bt f.aU i)
 |Ea {v w:Int}:VD h b v->w∈(bz h v).bJ->1000<=v->1000<=w->VD h b w
def rL(b:af)(t a r:Int):Prop:=∃d,1<=t/\b[t.toNat -1]? =some d/\d.eB=[]/\d.qe=a/\d.to=r
def HL(e:da)(g t:Int):Prop:=if g<cF e then g∈cX e.bT t else∃q a,e.di[(g -cF e).toNat]? =some q/\q.aY.getLast?=some a/\rL e.bT t a q.bQ
def FTy(e:da)(g:Int):ab:=if g<cF e then cW e.bT g else(dG e (g -cF e)).aY.dropLast
def YR(e:da)(h:ah)(w t:Int):Prop:=(t=0->w<1000)/\(0<t->iI h w/\HL e (bz h w).jx t)
def HT(e:da)(h:ah):Prop:=∀v,iI h v->∀(i:Nat)(w t:Int),(bz h v).bJ[i]? =some w->(FTy e (bz h v).jx)[i]? =some t->YR e h w t
def OL(h:ah)(f:bW):Prop:=∀i,0<=i->0<bt f.bI i->iI h (bt f.aU i)
def FC(h:ah):Prop:=∀v,iI h v->∀w∈(bz h v).bJ,1000<=w->iI h w
def YQ(h l:ah):Prop:=∀w,iI h w->iI l w->(bz l w).jx=(bz h w).jx/\(bz l w).bJ=(bz h w).bJ
@[grind cases] structure FW (im:da) (h:ah) (fs:an) (f:bW) (k:Kn):Prop where
 aT:k.aU.length=f.aU.length
 bI:∀i,0<=i->(k.r i).bI=bt f.bI i
 rV:∀i,0<=i->(k.r i).lS=0->bt f.aU i<1000
 UX:∀i,0<=i->0<(k.r i).lS->1000<=bt f.aU i
 jx:∀i,0<=i->ru k i->0<(k.r i).lS->HL im (bz h (bt f.aU i)).jx (k.r i).lS
 SU:∀i,0<=i->0<=(k.r i).lF->1000<=bt f.aU i
 lF:∀i,0<=i->ru k i->0<=(k.r i).lF->(bz h (bt f.aU i)).jx=(k.r i).lF
 Gt:∀i,0<=i->0<=(k.r i).fr->1000<=bt f.aU (k.r i).fr
 qe:∀i,0<=i->0<=(k.r i).fr->ru k (k.r i).fr->(bz h (bt f.aU (k.r i).fr)).bJ[(k.r i).Ea.toNat]? =some (bt f.aU i)
 df:∀i,0<=i->(k.r i).df=true->VD h fs (bt f.aU i)
 kp:∀i,0<=i->bt k.eO i<0->bt f.cC i=0
 zq:k.eO.length=k.aU.length
variable{e:da}{h l:ah}{b m:an}{f:bW}{k g:Kn}{w d t o:Int}
def VD.aP(f:∀g∈b,g∈m)(r:VD h b w):VD h m w:=by
 induction r with
 |bI a c e=>exact .bI (f _ a) c e
 |Ea _ c e d g=>exact .Ea g c e d
def VD.lv(i:∀g∈b,OL h g)(f:FC h)(r:VD h b w)(j:1000<=w):iI h w:=by
 induction r with
 |bI a c e=>exact i _ a _ c e
 |Ea _ c e d g=>exact f _ (g e) _ c d
theorem VD.qy(j:∀g∈b,OL h g)(k:∀g∈b,OL l g)(g:FC h)(i:FC l)(m:YQ h l)(r:VD h b w):VD l b w:=by
 induction r with
 |bI a e c=>exact .bI a e c
 |Ea r e c d f=>exact .Ea f (by rw[(m _ (r.lv j g c) (f.lv k i c)).2];exact e) c d
def FW.iI(F:FW e h b f k)(m:∀g∈b,OL h g)(l:OL h f)(g:FC h){i:Int}(a:ru k i)(d:0<=i)(j:1000<=bt f.aU i):iI h (bt f.aU i):=by
 induction a with
 |wA c=>
  rcases c with c|c
  .exact l _ d cB
  .exact(F.df _ d c).lv m g j
 |qe c a n=>exact g _ (n c (F.Gt _ d c)) _ (aZ (F.qe _ d c a)) j
def FW.adZ(F:FW e h b f k)(m:∀g∈b,OL h g)(r:OL h f)(j:FC h)(n:∀g∈b,OL l g)(s:OL l f)(g:FC l)(q:YQ h l){i:Int}(a:ru k i)(d:0<=i)(o:1000<=bt f.aU i):Go.Proofs.YtbbbdejieenniaaGreat.iI l (bt f.aU i):=by
 induction a with
 |wA c=>
  rcases c with c|c
  .exact s _ d cB
  .exact((F.df _ d c).qy m n j g q).lv n g o
 |qe c a t=>
  have u:=F.iI m r j a c (F.Gt _ d c);have p:=t c (F.Gt _ d c);exact g _ p _ (by rw[(q _ u p).2];exact aZ (F.qe _ d c a)) o
def FW.pW(F:FW e h b f k)(j:∀g∈b,OL h g)(o:OL h f)(d:FC h)(p:∀g∈b,OL l g)(r:OL l f)(n:FC l)(g:YQ h l):FW e l b f k:=by
 have S:∀{i:Int},ru k i->0<=i->1000<=bt f.aU i->_:=λa c q=>g _ (F.iI j o d a c q) (F.adZ j o d p r n g a c q);refine⟨F.aT,F.bI,F.rV,F.UX,λi c a t=>?_,F.SU,λi c a s=>?_,F.Gt,λi c m a=>?_,λi c m=>(F.df i c m).qy j p d n g,F.kp,F.zq⟩
 .grind [FW.UX,FW.jx]
 .grind [FW.SU,FW.lF]
 .grind [FW.Gt,FW.qe]
@[grind cases] structure vy (k k':Kn):Prop where
 aT:k'.aU.length=k.aU.length
 bI:∀i,0<=i->(k'.r i).bI=(k.r i).bI
 lS:∀i,0<=i->(k'.r i).lS=(k.r i).lS\/(k'.r i).lS= -1
 lF:∀i,0<=i->(k'.r i).lF=(k.r i).lF\/(k'.r i).lF= -1
 fr:∀i,0<=i->((k'.r i).fr=(k.r i).fr/\(k'.r i).Ea=(k.r i).Ea)\/(k'.r i).fr= -1
 df:∀i,0<=i->(k'.r i).df=true->(k.r i).df=true
 eO:k'.eO=k.eO
theorem vy.cT(k:Kn):vy k k:=by constructor<;>grind
def vy.J{a c f:Kn}(h:vy a c)(g:vy c f):vy a f:=
 ⟨g.aT.trans h.aT,λi b=>(g.bI i b).trans (h.bI i b),λi b=>(g.lS i b).elim (λe=>(h.lS i b).imp e.trans e.trans) bR,λi b=>(g.lF i b).elim (λe=>(h.lF i b).imp e.trans e.trans) bR,
  λi b=>(g.fr i b).elim (λe=>(h.fr i b).imp (λd=>⟨e.1.trans d.1,e.2.trans d.2⟩) e.1.trans) bR,λi b e=>h.df i b (g.df i b e),g.eO.trans h.eO⟩
theorem ru.of(d:∀i,0<=i->0<(g.r i).bI->ru k i)(c:∀i,0<=i->(g.r i).df=true->ru k i)(f:∀i,0<=i->0<=(g.r i).fr->(k.r i).fr=(g.r i).fr){i:Int}(a:ru g i)(b:0<=i):ru k i:=by
 induction a with
 |wA e=>exact e.elim (d _ b) (c _ b)
 |qe e a h=>exact .qe cB cB
theorem vy.alv(w:vy k g){i:Int}(a:ru g i)(b:0<=i):ru k i:=
 by grind [ru.of,ru.wA,vy.bI,vy.df,vy.fr]
def FW.WZ(F:FW e h b f k)(w:vy k g):FW e h b f g:=by
 refine⟨w.aT.trans F.aT,λi c=>(w.bI i c).trans (F.bI i c),λi c d=>?_,λi c d=>?_,λi c a d=>?_,λi c d=>?_,λi c a d=>?_,λi c d=>?_,λi c d a=>?_,λi c d=>F.df i c (w.df i c d),by rw[w.eO];exact F.kp,by rw[w.eO,w.aT];exact F.zq⟩
 .grind [vy.lS,FW.rV]
 .grind [vy.lS,FW.UX]
 .grind [vy.lS,FW.jx,vy.alv]
 .grind [vy.lF,FW.SU]
 .grind [vy.lF,FW.lF,vy.alv]
 .grind [vy.fr,FW.Gt]
 .grind [vy.fr,FW.qe,vy.alv]
def FW.oY(F:FW e h b f k){bI:ab}(l:∀i,0<=i->g.r i={k.r i with bI:=bt bI i})(m:g.aU.length=k.aU.length/\g.eO=k.eO)(j:∀i,0<=i->0<bt bI i->ru k i):FW e h b {f with bI:=bI} g:=by
 have A:∀{i:Int},ru g i->0<=i->ru k i:=λa c=>a.of (λi c d=>j i c cB) (λi c d=>.wA (bR cB)) (λi c _=>by rw[l i c]) c;constructor<;>grind [FW.aT,FW.rV,FW.UX,FW.SU,FW.df,FW.kp,FW.zq,FW.jx,FW.lF,FW.Gt,FW.qe]
def FW.pc(F:FW e h b f k){a:Int}:FW e h b {f with pc:=a} k:=⟨F.aT,F.bI,F.rV,F.UX,F.jx,F.SU,F.lF,F.Gt,F.qe,F.df,F.kp,F.zq⟩
def FW.cC(F:FW e h b f k){cC eO:ab}(j:eO.length=k.eO.length)(g:∀i,0<=i->bt eO i<0->bt cC i=0):FW e h b {f with cC:=cC} {k with eO:=eO}:=by
 have A:∀{i:Int},ru {k with eO:=eO} i->ru k i:=λa=>by
  induction a with
  |wA c=>exact .wA c
  |qe c _ d=>exact .qe c d
 exact⟨F.aT,F.bI,F.rV,F.UX,λi d a c=>F.jx i d (A a) c,F.SU,λi d a c=>F.lF i d (A a) c,F.Gt,λi d c a=>F.qe i d c (A a),F.df,g,j.trans F.zq⟩
def FW.cG(F:FW e h b f k)(hd:0<=d/\d<f.aU.length/\d<f.bI.length)(q:t=0->w<1000)(t1:0<t->1000<=w)(s:0<o->0<t->HL e (bz h w).jx t):FW e h b (f.cG d w o) (k.dX d t o):=by
 have p:0<=d/\d<k.aU.length:=by grind [FW.aT]
 have R:∀i,0<=i->(k.dX d t o).r i=if i=d then⟨t,o,false,-1,-1,-1⟩else uf d (k.r i):=by grind [U6]
 have C:∀r:tp,(uf d r).lS=r.lS/\(uf d r).bI=r.bI/\(uf d r).df=r.df/\(uf d r).lF=r.lF/\(0<=(uf d r).fr->(uf d r).fr=r.fr/\(uf d r).Ea=r.Ea/\r.fr≠d):=λr=>by
  grind [uf]
 have l:∀i,0<=i->bt (f.cG d w o).aU i=if i=d then w else bt f.aU i:=λi c=>ny hd.1 hd.2.1 i c
 have n:∀i,0<=i->bt (f.cG d w o).bI i=if i=d then o else bt f.bI i:=λi c=>ny hd.1 hd.2.2 i c
 have A:∀{i:Int},ru (k.dX d t o) i->0<=i->(i=d/\0<o)\/(i≠d/\ru k i):=λa=>by
  induction a with
  | @wA i g=>
   intro c;rw[R i c]at g;by_cases j:i=d
   .grind
   .grind [ru.wA]
  | @qe i g a m=>
   intro c;have m:=m g;rw[R i c]at g m;by_cases j:i=d
   .grind
   .grind [ru.qe]
 refine⟨by rw[BA,F.aT];simp[bW.cG,jO],λi c=>?_,λi c g=>?_,λi c g=>?_,λi c a g=>?_,λi c g=>?_,λi c a g=>?_,λi c g=>?_,λi c g a=>?_,λi c g=>?_,F.kp,by rw[BA];exact F.zq⟩
 .rw[R i c,n i c];split
  .rfl
  grind [FW.bI]
 .rw[R i c]at g;rw[l i c];by_cases j:i=d
  .grind
  grind [FW.rV]
 .rw[R i c]at g;rw[l i c];by_cases j:i=d
  .grind
  grind [FW.UX]
 .have A:=A a c;rw[R i c]at g⊢;rw[l i c];rcases A with⟨j,m⟩|⟨j,a⟩
  .grind
  grind [FW.jx]
 .rw[R i c]at g;rw[l i c];by_cases j:i=d
  .grind
  .rw[aW j]at g⊢;rw[(C _).2.2.2.1]at g;exact F.SU i c g
 .have A:=A a c;rw[R i c]at g⊢;rw[l i c];rcases A with⟨j,m⟩|⟨j,a⟩
  .grind
  grind [FW.lF]
 .rw[R i c]at g⊢;by_cases j:i=d
  .grind
  .rw[aW j]at g⊢;have m:=(C _).2.2.2.2 g;rw[m.1]at g⊢;rw[l _ g,aW m.2.2];exact F.Gt i c g
 .rw[R i c]at g a⊢;rw[l i c];by_cases j:i=d
  .grind
  grind [FW.qe]
 .rw[R i c]at g;rw[l i c];by_cases j:i=d
  .grind
  grind [FW.df]
def FW.tL(F:FW e h b f k)(hd:0<=d/\d<k.aU.length){n:Int}(q:0<=a/\a≠d)(o:(k.r d).bI=0/\(k.r d).df=false)(p:∀i,0<=i->(k.r i).fr≠d)(r:(k.r d).lF<0)(t:1000<=bt f.aU a)
 (u:ru k a->0<(k.r d).lS->HL e (bz h (bt f.aU d)).jx (k.r d).lS)(s:ru k a->(bz h (bt f.aU a)).bJ[n.toNat]? =some (bt f.aU d)):FW e h b f (k.GH d a n):=by
 have R:∀i,0<=i->(k.GH d a n).r i=if i=d then{k.r i with fr:=a,Ea:=n}else k.r i:=λi c=>by
  grind [Kn.GH,Kz]
 have A:∀{i:Int},ru (k.GH d a n) i->0<=i->(i=d/\ru k a)\/(i≠d/\ru k i):=λj=>by
  induction j with
  | @wA i g=>
   intro c;rw[R i c]at g;by_cases m:i=d
   .grind
   .grind [ru.wA]
  | @qe i g j l=>
   intro c;have l:=l g;rw[R i c]at g l;by_cases m:i=d
   .grind
   .grind [ru.qe]
 refine⟨by unfold Kn.GH;rw[lQ,F.aT],λi c=>?_,λi c g=>?_,λi c g=>?_,λi c j g=>?_,λi c g=>?_,λi c j g=>?_,λi c g=>?_,λi c g j=>?_,λi c g=>?_,F.kp,by unfold Kn.GH;rw[lQ];exact F.zq⟩
 .grind [FW.bI]
 .grind [FW.rV]
 .grind [FW.UX]
 .grind [FW.jx]
 .grind [FW.SU]
 .grind [FW.lF]
 .grind [FW.Gt]
 .grind [FW.qe]
 .grind [FW.df]
def FW.arm(F:FW e h b f k){g:Int}(l:0<=a)(n:1000<=bt f.aU a)(m:(bz h (bt f.aU a)).jx=g):FW e h b f (k.jx a g):=by
 have R:∀i,0<=i->((k.jx a g).r i).lS=(k.r i).lS/\((k.jx a g).r i).bI=(k.r i).bI/\((k.jx a g).r i).df=(k.r i).df/\((k.jx a g).r i).fr=(k.r i).fr/\((k.jx a g).r i).Ea=(k.r i).Ea/\(((k.jx a g).r i).lF=(k.r i).lF\/i=a/\((k.jx a g).r i).lF=g):=λi c=>by
  constructor<;>grind [Kn.jx,Kz]
 have A:∀{i:Int},ru (k.jx a g) i->0<=i->ru k i:=λj c=>j.of (λi c d=>.wA (bC cB)) (λi c d=>.wA (bR cB)) (λi c _=>((R i c).2.2.2.1).symm) c;refine⟨by unfold Kn.jx;rw[lQ,F.aT],λi c=>(R i c).2.1.trans (F.bI i c),λi c d=>F.rV i c ((R i c).1▸d),λi c d=>F.UX i c ((R i c).1▸d),λi c j d=>?_,λi c d=>?_,λi c j d=>?_,λi c d=>?_,λi c d j=>?_,λi c d=>F.df i c ((R i c).2.2.1▸d),F.kp,by unfold Kn.jx;rw[lQ];exact F.zq⟩
 .grind [FW.jx]
 .grind [FW.SU]
 .grind [FW.lF]
 .grind [FW.Gt]
 .grind [FW.qe]
end
section
variable{f:dt}
def yG(h i:ah):Prop:=∀(a:Nat)(b:dt),i[a]? =some b->0<b.bS->∃f,h[a]? =some f/\0<f.bS/\b.jx=f.jx/\b.bJ=f.bJ
def yG.cT(h:ah):yG h h:=λ_ f e p=>⟨f,e,p,O,O⟩
theorem yG.J{a b f:ah}(h:yG a b)(g:yG b f):yG a f:=λi e j k=>by
 let⟨d,hd,c,l,m⟩:=g i e j k;let⟨p,r,q,n,o⟩:=h i d hd c;grind
theorem yG.dX{h:ah}{a:Nat}(c:0<f.bS->∃d,h[a]? =some d/\0<d.bS/\f.jx=d.jx/\f.bJ=d.bJ):yG h (h.set a f):=λb e g i=>by
 grind [List.getElem?_set_self',ph]
theorem yG.at1{h:ah}{w:Int}(b:iI h w)(a:0<f.bS->f.jx=(bz h w).jx/\f.bJ=(bz h w).bJ):yG h (h.set (ix w) f):=
 by grind [yG.dX,dz]
theorem yG.pG{h:ah}:yG h (pG h):=λb e a c=>by
 grind [pG]
def yG.kV:∀(j:ab)(h:ah),(∀w∈j,iI h w)->yG h (kV h j)
 |[],h,_=>.cT h
 |w::j,h,a=>by
  have b:=a w cK;exact(yG.at1 b (f:={bz h w with bS:=(bz h w).bS+1}) λ_=>⟨O,O⟩).J (yG.kV j _ λv d=>⟨(a v (aX _ d)).1,(jq.qv b).2 (a v (aX _ d)).2⟩)
theorem yG.jK:∀(n:Nat)(h:ah)(i:ab),DV h+i.length<=n->yG h (jK h i)
 |n,h,[],_=>by rw[uq];exact .cT h
 |0,h,w::r,b=>by simp at b
 |n+1,h,w::r,b=>by
  simp only[dy]at b;rcases gJ (iI h w)with a|a
  .let⟨f,g⟩:=dz a;by_cases d:(bz h w).bS=1
   .have e:=mr (d:=kW) f;simp only[bn g,kW]at e;simp at e;rw[ur a d];exact(yG.at1 a λh=>by simp[kW]at h).J (yG.jK n _ _ (by simp[kW];omega))
   .have e:=mr (d:={bz h w with bS:=(bz h w).bS -1}) f;simp only[bn g]at e;rw[bn V]at e;rw[sF a d];exact(yG.at1 a (f:={bz h w with bS:=(bz h w).bS -1}) λ_=>⟨O,O⟩).J (yG.jK n _ _ cB)
  .rw[sG a];exact yG.jK n _ _ V
theorem yG.iZ{h:ah}{e:Nat->Int}(f:jd h e){w:Int}(b:iI h w):yG h (iZ h w):=by
 let⟨d,k⟩:=dz b;unfold Go.Proofs.YtbbbdejieenniaaGreat.iZ;split
 .grind [yG.at1,kW,yG.J,yG.pG]
 .rename_i j;refine(yG.at1 b (f:={bz h w with bS:=(bz h w).bS -1}) λ_=>⟨O,O⟩).J (yG.kV _ _ λv g=>?_);let⟨i,a⟩:=nT.1 g;have:=f.qd (kQ d) i a;refine⟨a,?_⟩;by_cases e:ix v=ix w
  .grind [jq.GK,bz]
  .rw[jq.ne e];exact this.2
variable{k:da}{h i:ah}{w:Int}{e:Nat->Int}
def yG.lv(H:yG h i)(l:iI i w):iI h w/\(bz i w).jx=(bz h w).jx/\(bz i w).bJ=(bz h w).bJ:=by
 let⟨f,a,d,b,c⟩:=H _ _ (dz l).1 (dz l).2;have:bz h w=f:=by simp[bz,a]
 exact⟨⟨l.1,f,a,d⟩,this▸b,this▸c⟩
def yG.TJ(H:yG h i):YQ h i:=λ_ _ l=>(H.lv l).2
def FC.of(a:jd h e):FC h:=λv c w d b=>a.qd (kQ (dz c).1) d b
def YR.pW{t:Int}(H:YR k h w t)(c:YQ h i)(a:1000<=w->iI i w):YR k i w t:=
 ⟨H.1,λb=>let⟨l,g⟩:=H.2 b;⟨a l.1,(((c _ l (a l.1)).1)▸g)⟩⟩
def HT.pW(H:HT k h)(W:yG h i)(e:FC i):HT k i:=λv a j w t b g=>by
 let⟨l,c,d⟩:=W.lv a;refine(H v l j w t (d▸b) (c▸g)).pW W.TJ λf=>e v a w (aZ b) f
@[grind cases] structure Xe (h h':ah) (a:Nat) (g:Int) (ws:ab):Prop where
 old:¬jq h a
 bF:h'[a]? =some ⟨1,g,ws⟩
 oth:∀b,b≠a->h'[b]? =h[b]?
variable{a:Nat}{g:Int}{j:ab}
def Xe.TJ(N:Xe h i a g j):YQ h i:=λw l _=>by
 have:ix w≠a:=λe=>N.old (e▸l.2);grind [bz,Xe.oth]
def Xe.ht(N:Xe h i a g j)(H:HT k h)(n:FC i)(q:∀(c:Nat)(w t:Int),j[c]? =some w->(FTy k g)[c]? =some t->YR k h w t):HT k i:=λv l c w t b d=>by
 by_cases e:ix v=a
 .have:bz i v=⟨1,g,j⟩:=by simp[bz,e,N.bF]
  have m:=aZ b;rw[this]at b d;exact(q c w t b d).pW N.TJ (n v l w m)
 .have:bz i v=bz h v:=by simp only[bz,N.oth _ e]
  have r:iI h v:=by let⟨a,f,o,p⟩:=l;exact⟨a,f,((N.oth _ e)▸o),p⟩
  have m:=aZ b;rw[this]at b d;exact(H v r c w t b d).pW N.TJ (n v l w m)
theorem Xe.kC(d:jd h e):Xe h (kC h (fF h) ⟨1,g,j⟩) (fF h) g j:=by
 have i:=sV h;refine⟨λ⟨f,a,k⟩=>oh (Bf h f a),?_,λb c=>?_⟩
 .grind [kC,List.getElem?_append_right,List.getElem?_set_self]
 .grind [kC,Nat.lt_or_ge,List.length,List.getElem?_append_left,List.getElem?_append_right,List.getElem?_eq_none,ph]
def Xe.dX(b:h[a]? =some f)(c:¬0<f.bS):Xe h (h.set a ⟨1,g,j⟩) a g j:=
 ⟨λ⟨d,hd,i⟩=>by rw[b]at hd;cases hd;exact c i,lz b,λ_ e=>ph e⟩
end
section
variable{k:Kn}{j n:Int}
def fZ(k:Kn):ab->Kn
 |[]=>k
 |r::a=>fZ (if(k.r r).lS=0 then k else k.iJ r (-1)) a
def Ky(t:Int):Int:=if 0<t then 1 else 0
def qA(k:Kn)(a:ab):ab:=a.map λr=>(k.r r).lS
def fY(a:da)(b cE:Int)(c:ab)(t:Int):Prop:=
 if b=0 then t=0/\c=[]
 else if b=1\/b=2\/b=3\/b=4 then t=0/\c=[0,0]
 else if b=5 then t=0/\c=[0]
 else if b=6 then cE∈cX a.bT t/\c=cW a.bT cE
 else if b=9 then∃q,a.di[cE.toNat]? =some q/\c=q.aY/\t=q.bQ
 else if b=10 then∃q d,a.di[cE.toNat]? =some q/\q.aY=c++[d]/\rL a.bT t d q.bQ
 else if b=11 then∃u d,c=[u,d]/\rL a.bT u d t
 else False
def uT(a:da)(p:eE)(x:Instr)(b:ab)(t:Int):Prop:=
 if x.op=20 then b=[0]else if x.op=23 then b=[p.bQ]/\t=p.bQ else if x.op=24 then fY a 9 x.cE b t/\t=p.bQ else fY a x.op x.cE b t
open Classical in
def Yc(p:eE)(a:da)(k:Kn)(x:Instr)(t:Int)(c:Kn):Prop:=
 let b:=fZ k (cO a x)
 (∀r∈cO a x,0<=(b.r r).bI)/\((x.op=9\/x.op=24)->∀r∈fJ a x 0 x.aO,ru b r)/\
 if x.op=23\/x.op=24 then(∀i,0<=i->(b.r i).bI<=0)/\(∀n∈b.eO,n<0)/\c=b
 else
  let d:Kn:=if x.dh=0 then b else{b with eO:=gX b.eO (x.dh -1) (-1)}
  if lL x.op then(b.r x.bH).bI<=0/\c=d.dX x.bH t (Ky t)else c=d
def jM(k:Kn):ab->Kn
 |[]=>k
 |r::a=>jM (k.iJ r 1) a
def yg(a:da)(p:eE)(k:Kn)(x:Instr)(c:Kn):Prop:=
 let b:=bt x.aO 0
 if x.op=22 then c=k
 else if x.op=14 then 0<(k.r b).lS/\ru k b/\c=k.iJ b 1
 else if x.op=15 then 0<(k.r b).lS/\c=k.iJ b (-1)
 else if x.op=16\/x.op=17 then 0<(k.r b).bI/\(∀r∈x.aO.drop 1,(k.r r).fr=b)/\
  ∃n:Int,0<=n/\c={jM (k.iJ b (-1)) (x.aO.drop 1)with eO:=if x.op=17 then gX k.eO b n else k.eO}
 else if x.op=18 then 0<=(k.r b).lS/\0<=((fZ k [b]).r b).bI/\((fZ k [b]).r x.bH).bI<=0/\c=(fZ k [b]).dX x.bH (k.r b).lS (Ky (k.r b).lS)
 else if x.op=19 then ru k b/\0<=(k.r b).lF/\∃t,(cW a.bT (k.r b).lF)[x.cE.toNat]? =some t/\(k.r x.bH).bI<=0/\c=(if x.bH=b then k.dX x.bH t 0 else(k.dX x.bH t 0).GH x.bH b x.cE)
 else∃t,uT a p x (qA k x.aO) t/\Yc p a k x t c
def OX(p:eE):Kn:=⟨(List.range p.aU.toNat).map λi=>if i<p.aY.length then⟨bt p.aY i,if bt p.aY i≠0/\(i:Int)∉p.df then 1 else 0,decide ((i:Int)∈p.df),-1,-1,-1⟩else yu,List.replicate p.aU.toNat (-1)⟩
def uz(x:Instr)(k:Nat):ab:=
 if x.op=22 then[x.cE]else if x.op=20 then[(k:Int)+1,x.cE]else if x.op=21 then x.gE else if x.op=23\/x.op=24 then[]else[(k:Int)+1]
@[grind cases] structure AX (im:da) (p:eE) (vX:Nat->Option Kn):Prop where
 aT:∀(at_:Nat)(k:Kn),vX at_=some k->(k.aU.length:Int)=p.aU
 first:∃k,vX 0=some k/\vy (OX p) k
 qy:∀(at_:Nat)(x:Instr)(k:Kn),p.eA[at_]? =some x->vX at_=some k->x.op≠21->∃k',yg im p k x k'/\∀n∈uz x at_,∃k1,vX n.toNat=some k1/\vy k' k1
 xS:∀(at_:Nat)(x:Instr)(k:Kn),p.eA[at_]? =some x->vX at_=some k->x.op=21->(k.r (bt x.aO 0)).lS=x.cE/\ru k (bt x.aO 0)/\
  ∀(i:Nat)(c:Int),(cX im.bT x.cE)[i]? =some c->(k.r (bt x.aO 0)).lF<0\/(k.r (bt x.aO 0)).lF=c->∃k1,vX (bt x.gE i).toNat=some k1/\vy (k.jx (bt x.aO 0) c) k1
@[grind cases] structure VS (im:da) (vX:Nat->Nat->Option Kn) (s:St):Prop where
 aR:HT im s.aR
 first:∀f,s.bq[0]? =some f->(dG im f.fP).bQ=0
 jN:∀fs f,s.bq=fs++[f]->∃k,vX f.fP.toNat f.pc.toNat=some k/\FW im s.aR fs f k
 sus:∀(j:Nat)(f g:bW),s.bq[j]? =some f->s.bq[j+1]? =some g->∃k,FW im s.aR (s.bq.take j) f k/\(k.r g.bH).bI<=0/\
  ∃k1,vX f.fP.toNat f.pc.toNat=some k1/\vy (k.dX g.bH (dG im g.fP).bQ (Ky (dG im g.fP).bQ)) k1
variable{a:da}{aU:ab}
theorem yH{i:Int}(b:0<=j/\j<k.aU.length)(a:0<=i):(k.iJ j n).r i={k.r i with bI:=(k.r i).bI+if i=j then n else 0}:=by
 unfold Kn.iJ;rw[Kz b.1 a];by_cases e:i=j
 .grind
 .rw[aW λh=>e h.1,aW e,Int.add_zero]
theorem rf:(k.iJ j n).aU.length=k.aU.length:=lQ
def xT:∀(a:ab)(k:Kn),(fZ k a).eO=k.eO
 |[],_=>O
 |r::a,k=>by rw[fZ,xT a];split<;>rfl
def Gk:∀(a:ab)(k:Kn),(fZ k a).aU.length=k.aU.length
 |[],_=>O
 |r::a,k=>by
  rw[fZ,Gk a];split
  .rfl
  .exact rf
def TN:∀(a:ab)(k:Kn)(bI:ab),(∀i,0<=i->(k.r i).bI=bt bI i)->(∀r∈a,0<=r/\r<k.aU.length/\r<bI.length)->(∀r∈a,((k.r r).lS=0/\bt aU r<1000)\/((k.r r).lS≠0/\1000<=bt aU r))->
 ∀i,0<=i->(fZ k a).r i={k.r i with bI:=bt (cL aU bI a) i}
 |[],k,bI,h,_,_,i,b=>by rw[fZ,cL,<-h i b]
 |r::a,k,bI,h,f,g,i,b=>by
  have l:=f r cK;rw[fZ,cL];rcases g r cK with⟨d,e⟩|⟨d,e⟩
  .rw[bn d,aW V];exact TN a k bI h (λv c=>f v (aX _ c)) (λv c=>g v (aX _ c)) i b
  .rw[aW d,bn e];rw[TN a (k.iJ r (-1)) (gX bI r (bt bI r -1)) (λj m=>?_) (λv c=>?_) (λv c=>?_) i b,yH ⟨l.1,l.2.1⟩ b]
   .grind [yH,ny]
   .grind [rf,jO,List.mem_cons_of_mem]
   grind [List.mem_cons_of_mem,yH]
def JO:∀(a bI:ab),(∀r∈a,0<=r/\r<bI.length)->∀i,0<=i->bt (cL aU bI a) i<=bt bI i/\(i∈a->1000<=bt aU i->bt (cL aU bI a) i<bt bI i)
 |[],bI,_,i,_=>⟨dT _,sx⟩
 |r::a,bI,h,i,c=>by
  have e:=h r cK;rw[cL];split
  .have d:=JO a (gX bI r (bt bI r -1)) (λv b=>by rw[jO];exact h v (aX _ b)) i c;grind [ny]
  .have d:=JO a bI (λv b=>h v (aX _ b)) i c;constructor<;>grind
def Zd{l:ab}(h:∀o∈l,0<=o)(i:Int):0<=bt l i:=by
 unfold bt;rw[fG];cases e:l[i.toNat]? with
 |none=>simp
 |some x=>exact h x (aZ e)
def Ue:∀(a:ab)(k:Kn)(bI:ab),(∀i,0<=i->(k.r i).bI=bt bI i)->(∀r∈a,0<=r/\r<k.aU.length/\r<bI.length)->∀i,0<=i->(jM k a).r i={k.r i with bI:=bt (fe bI a) i}
 |[],k,bI,h,_,i,b=>by rw[jM,fe,<-h i b]
 |r::a,k,bI,h,d,i,b=>by
  have c:=d r cK;rw[jM,fe,Ue a (k.iJ r 1) (gX bI r (bt bI r+1)) (λj e=>?_) (λv f=>?_) i b,yH ⟨c.1,c.2.1⟩ b]
  .grind [yH,ny]
  .grind [rf,jO,List.mem_cons_of_mem]
def Pq:∀(a:ab)(k:Kn),(jM k a).aU.length=k.aU.length
 |[],_=>O
 |r::a,k=>by rw[jM,Pq a,rf]
def uU:∀(a:ab)(k:Kn),(jM k a).eO=k.eO
 |[],_=>O
 |r::a,k=>by rw[jM,uU a];rfl
end
section
variable{P:an}{c:bW}{b:eE}
def adz(a:da)(vX:Nat->Nat->Option Kn)(h:ah)(d:an)(f:bW):Prop:=∃k,vX f.fP.toNat f.pc.toNat=some k/\FW a h d f k
def Sus(a:da)(vX:Nat->Nat->Option Kn)(h:ah)(d:an)(f g:bW):Prop:=∃k,FW a h d f k/\(k.r g.bH).bI<=0/\
 ∃b,vX f.fP.toNat f.pc.toNat=some b/\vy (k.dX g.bH (dG a g.fP).bQ (Ky (dG a g.fP).bQ)) b
variable{a:da}{s t:St}{vX:Nat->Nat->Option Kn}{h e:ah}{d:an}{f g:bW}
def OL.of(j:dZ a s):∀g∈s.bq,OL s.aR g:=λg o i n u=>by
 have H:=j.bq g o;have r:i<g.bI.length:=by
  grind [Int.lt_or_le,List.length,bt,List.getElem?_eq_none]
 have w:=H.lr;have x:=H.lo;have k:=jT n r;have m:=jT (l:=g.aU) n V;have p:=(H.bI _ _ _ k m).2 u;refine⟨p,j.aR.lv _ ?_⟩;have e:=KE H.Ql m k (lD p).symm;have:∀(b:an),g∈b->(∀q∈b,iH a q)->bt g.bI i<=jX b (ix (bt g.aU i)):=λb=>by
  induction b with
  |nil=>intro h;simp at h
  |cons q b v=>
   intro t f;have y:=vd (aU:=q.aU) (f q cK).Ql (ix (bt g.aU i));have z:=KF (λc d=>f c (aX _ d)) (ix (bt g.aU i));simp only[jX];rcases bo.1 t with e|e
   .subst e;omega
   .have:=v e λc d=>f c (aX _ d);omega
 have:=this _ o j.bq;omega
def Vj(t:VS a vX s){kN:an}(J:s.bq=P++c::kN)(p:∀g∈P,OL s.aR g)(r:∀g∈P,OL e g)(y:FC s.aR)(z:FC e)(H:YQ s.aR e)(hd:g.bH=c.bH)(K:(dG a g.fP).bQ=(dG a c.fP).bQ)
 (l:an){j:Nat}{b f:bW}(n:(P++g::l)[j]? =some b)(I:(P++g::l)[j+1]? =some f)(A:j<P.length):Sus a vX e ((P++g::l).take j) b f:=by
 rw[dY A]at n
 have k:∀q∈P.take j,q∈P:=by grind [List.mem_of_mem_take]
 have o:=aZ n
 have G:∃d,s.bq[j+1]? =some d/\f.bH=d.bH/\(dG a f.fP).bQ=(dG a d.fP).bQ:=by
  grind [Nat.lt_or_ge,List.length,List.getElem?_append_left,List.getElem?_append_right]
 let⟨d,v,i,u⟩:=G
 have w:s.bq.take j=(P++g::l).take j:=cB
 have m:(P++g::l).take j=P.take j:=rC V
 let⟨D,F,B,E,x,C⟩:=t.sus j b d cB v
 rw[w]at F
 refine⟨D,F.pW (λq h=>p q (k q (m▸h))) (p b o) y (λq h=>r q (k q (m▸h))) (r b o) z H,by rw[i];exact B,E,x,by rw[i,u];exact C⟩
def UH(V:VS a vX s){kN l:an}(b:s.bq=P++c::kN)(e:(dG a g.fP).bQ=(dG a c.fP).bQ)(f:t.bq=P++g::l):∀q,t.bq[0]? =some q->(dG a q.fP).bQ=0:=λq d=>by
 grind [VS.first]
def VS.of1(V:VS a vX s){kN:an}(j:s.bq=P++c::kN)(q:∀g∈P,OL s.aR g)(r:∀g∈P,OL t.aR g)(n:FC s.aR)(o:FC t.aR)(u:YQ s.aR t.aR)(hd:g.bH=c.bH)(k:(dG a g.fP).bQ=(dG a c.fP).bQ)
 (b:t.bq=P++[g])(p:HT a t.aR)(T:adz a vX t.aR P g):VS a vX t:=by
 refine⟨p,UH V j k b,λd f e=>?_,λx v w h i=>?_⟩
 .rw[b]at e
  let⟨l,m⟩:=List.append_inj' e O
  cases m;subst l;exact T
 .rw[b]at h i⊢
  exact Vj V j q r n o u hd k [] h i cB
def VS.of2{n:bW}(j:VS a vX s)(k:s.bq=P++[c])(v:∀g∈P,OL s.aR g)(w:∀g∈P,OL t.aR g)(q:FC s.aR)(r:FC t.aR)(x:YQ s.aR t.aR)(hd:g.bH=c.bH)(l:(dG a g.fP).bQ=(dG a c.fP).bQ)
 (i:t.bq=P++[g,n])(u:HT a t.aR)(S:Sus a vX t.aR P g n)(T:adz a vX t.aR (P++[g]) n):VS a vX t:=by
 refine⟨u,UH j k l i,λd f e=>?_,λm y z h b=>?_⟩
 .rw[i,show P++[g,n]=(P++[g])++[n]by simp]at e
  let⟨o,p⟩:=List.append_inj' e O
  cases p;subst o;exact T
 .rw[i]at h b⊢
  rcases dJ m P.length with e|e
  .exact Vj j k v w q r x hd l [n] h b e
  .have o:=br b
   simp at o
   have:m=P.length:=V
   subst this
   simp at h b
   subst h;subst b
   rw[show(P++[g,n]).take P.length=P by simp];exact S
def Ez(df:ab):∀(a:ab)(k i:Nat)(w:Int),a[i]? =some w->(fI df k a)[i]? =some (if df.any (λy=>y==((k+i:Nat):Int))then 0 else iV w)
 |[],_,_,_,h=>by simp at h
 |v::a,k,0,w,h=>by simp at h;subst h;rfl
 |v::a,k,i+1,w,h=>by
  rw[fI,kE,Ez df a (k+1) i w cB,show k+1+i=k+(i+1)by omega]
def adY(c:(b.aY.length:Int)<=b.aU){i:Int}(a:0<=i):(OX b).r i=if i<b.aY.length then⟨bt b.aY i,if bt b.aY i≠0/\i∉b.df then 1 else 0,decide (i∈b.df),-1,-1,-1⟩else yu:=by
 grind [Kn.r,OX,Nat.lt_or_ge,List.getElem?_range,List.length,List.getElem?_eq_none]
def FW.bF{n l:Int}{j:ab}(r:dG a n=b)(v:(b.aY.length:Int)<=b.aU)(k:j.length=b.aY.length)(x:∀t∈b.aY,0<=t)(y:∀(c:Nat)(w t:Int),j[c]? =some w->b.aY[c]? =some t->YR a h w t)(z:∀c:Int,c∈b.df->0<=c->c<j.length->VD h d (bt j c)):FW a h d (cz a n l j) (OX b):=by
 have R:=λc e=>adY (b:=b) v (i:=c) e;have m:∀c,0<=c->bt (cz a n l j).aU c=if c<j.length then bt j c else 0:=λc e=>by
  grind [cz,bt,List.getElem?_append_left,List.getElem?_append_right,eP,dG,List.length,pR,aZ]
 have u:∀c,0<=c->bt (cz a n l j).bI c=if c<j.length then(if c∈b.df then 0 else iV (bt j c))else 0:=λc e=>by
  simp only[cz,bt,fG];split
  .rename_i f;let⟨w,g⟩:=dU j c.toNat;rw[dY (by rw[mf];omega),Ez _ _ _ _ _ g,g,r];grind [List.any_eq_true]
  .grind [List.getElem?_append_right,mf,eP,dG,List.length,fI,pR,aZ]
 have W:∀c:Int,0<=c->c<b.aY.length->YR a h (bt j c) (bt b.aY c):=λc e g=>y c.toNat _ _ (jT e V) (jT e g);have s:∀c,0<=c->((OX b).r c).fr= -1:=λc e=>by rw[R c e];split<;>rfl
 have nc:∀c,0<=c->((OX b).r c).lF= -1:=λc e=>by rw[R c e];split<;>rfl
 refine⟨by simp[OX,cz,eP,r];omega,λc e=>?_,λc e f=>?_,λc e f=>?_,λc e _ f=>?_,λc e f=>absurd (nc c e) V,λc e _ f=>absurd (nc c e) V,λc e f=>absurd (s c e) V,λc e f=>absurd (s c e) V,λc e f=>?_,λc e _=>?_,by simp[OX]⟩
 .rw[R c e,u c e,k];split
  .rename_i g;have w:=W c e g;have A:=Zd x c;simp only;by_cases q:c∈b.df
   .grind
   .rw[aW q];by_cases o:bt b.aY c=0
    .rw[aW λh=>h.1 o];have:=w.1 o;unfold iV;rw[aW V]
    .rw[bn ⟨o,q⟩];have:=(w.2 V).1.1;unfold iV;rw[bn this]
  .rfl
 .rw[m c e,k];rw[R c e]at f;split at f
  .rename_i g;rw[bn g];exact(W c e g).1 f
  grind
 .rw[m c e,k];rw[R c e]at f;split at f
  .rename_i g;rw[bn g];exact((W c e g).2 f).1.1
  .simp[yu]at f
 .rw[m c e,k];rw[R c e]at f⊢;split at f
  .rename_i g;rw[bn g,bn g];exact((W c e g).2 f).2
  .simp[yu]at f
 .grind [yu]
 .grind [cz,bt,eP,dG,pR,aZ]
end
section
variable{d g c e i:Int}{l:ab}{k:Kn}
def OL.aeI{h:ah}{g:bW}{w o:Int}(hd:0<=d/\d<g.aU.length/\d<g.bI.length)(e:bt g.bI d<=0)(H:OL h (g.cG d w o)):OL h g:=λi a c=>by
 have b:i≠d:=cB;have:=H i a (by simp only[bW.cG];rw[ny hd.1 hd.2.2 i a,aW b];exact c);grind [bW.cG,ny]
theorem OL.iU{h:ah}{f:bW}{bI:ab}(H:OL h f)(b:∀i,0<=i->bt bI i<=bt f.bI i):OL h {f with bI:=bI}:=λi a c=>H i a cB
def UB{a:af}(h:eT a)(c:Int):∀u∈cW a c,zL a.length u:=by
 unfold cW;split
 .cases g:(gR a)[c.toNat]? with
  |none=>simp
  |some f=>
   have e:=aZ g;unfold gR at e;let⟨d,hd,b⟩:=List.mem_flatMap.1 e;let⟨k,i⟩:=cH.1 hd;have:=(h.eR k d i).ju (adi b);exact(this.2.2.2 f b).2
 .simp
def Uz{a:af}{c:Int}{i:Nat}(h:(cW a c)[i]? =some g):0<=c/\c<(gR a).length:=by
 grind [cW,gR,br]
def VV{a:af}(h:eT a)(b:rL a g c e):1<=g/\zL a.length c/\zL a.length e:=by
 let⟨d,j,f,i,k,l⟩:=b;have:=(h.eR _ d f).Qf (by simp[i]);grind
def acU{a:af}{b q:Int}(f:rL a g c e)(h:rL a g b q):c=b/\e=q:=by
 obtain⟨d,-,l,-,m,n⟩:=f;obtain⟨i,-,g2,-,j,k⟩:=h;grind
variable{b:da}{s:St}{vX:Nat->Nat->Option Kn}{h:ah}{j:an}{f:bW}{x:Instr}{p:eE}
def Z7(d:nD b.bT b.di){j cE:Int}(H:fY b j cE l g):(∀u∈l,0<=u)/\0<=g:=by
 have T:=d.dm;have E:=λq i(h:b.di[i]? =some q)=>d.eR q (aZ h);have F:=λu f=>(UB T cE u f).1;have G:cE∈cX b.bT g->1<=g:=λh=>(Iq h).1;have A:=λg c e h=>VV (g:=g) (c:=c) (e:=e) T h;unfold fY at H;unfold HI zL at*;grind
def aa8(a:nD b.bT b.di)(c:p∈b.di)(H:uT b p x l g):∀u∈l,0<=u:=by
 have:=(a.eR p c).2.2;have S:=λd g h=>(Z7 a (j:=d) (cE:=x.cE) (g:=g) (l:=l) h).1;unfold uT at H;unfold zL at this;grind
def XB:∀(l:ab)(k:Nat),∀e∈l,e∈jV b x k l\/e∈fJ b x k l
 |[],_,e,h=>by simp at h
 |y::l,k,e,h=>by
  simp only[jV,fJ];rcases bo.1 h with a|h
  .grind [List.mem_cons_self]
  .rcases XB l (k+1) e h with a|a
   .grind [List.mem_cons_of_mem]
   grind [List.mem_cons_of_mem]
def FW.rtd(F:FW b h j f k)(c:ru k i)(a:0<=i)(g:1000<=bt f.aU i):VD h (j++[f]) (bt f.aU i):=by
 induction c with
 |wA e=>
  rcases e with e|e
  .grind [VD.bI,FW.bI]
  .exact(F.df _ a e).aP λl d=>dN _ d
 |qe e c d=>exact .Ea (d e (F.Gt _ a e)) (aZ (F.qe _ a e c)) (F.Gt _ a e) g
def FW.afm(F:FW b h j f k)(g:∀i,0<=i->(k.r i).bI<=0)(c:ru k i)(a:0<=i)(d:1000<=bt f.aU i):VD h j (bt f.aU i):=by
 induction c with
 |wA e=>
  rcases e with e|e
  .have:=g _ a;omega
  .exact F.df _ a e
 |qe e c l=>exact .Ea (l e (F.Gt _ a e)) (aZ (F.qe _ a e c)) (F.Gt _ a e) d
def FW.wty(F:FW b h j f k)(l:∀g∈j,OL h g)(g:OL h f)(e:FC h)(a:0<=i)(d:0<(k.r i).lS->ru k i):YR b h (bt f.aU i) (k.r i).lS:=
 ⟨F.rV i a,λc=>⟨F.iI l g e (d c) a (F.UX i a c),F.jx i a (d c) c⟩⟩
def aaG(hd:0<=d){e:tp}:(uf d e).fr≠d:=by
 grind [uf]
end
section
variable{j:ab}{b:Nat}
def Mc{d:da}{c:Instr}:∀{j:ab}{a b:Nat}{r:Int},j[b]? =some r->lA d c (a+b)=true->r∈fJ d c a j
 |[],_,_,_,h,_=>by simp at h
 |y::j,a,0,r,h,e=>by simp at h;subst h;simp only[fJ];rw[bn cB];exact cK
 |y::j,a,b+1,r,h,e=>by
  have f:=Mc (d:=d) (c:=c) (j:=j) (a:=a+1) (b:=b) (sp h) cB;grind [fJ,List.mem_cons_of_mem]
def aal{c:bW}{w:Int}(h:(dQ c j)[b]? =some w):∃r,j[b]? =some r/\w=bt c.aU r:=by
 grind [dQ]
def Gn{k:Kn}{r:Int}(h:j[b]? =some r):(qA k j)[b]? =some (k.r r).lS:=by grind [qA]
def Ip{a b v:Int}(h:a.toNat≠b.toNat):bt (gX j a v) b=bt j b:=by simp[bt,gX,eu h]
variable{d:da}{s e:St}{vX:Nat->Nat->Option Kn}{h:an}{c:bW}
def WA(fl:∀(aa:Nat)(ac:eE),d.di[aa]? =some ac->AX d ac (vX aa))(N:dZ d s)(hf:s.bq=h++[c])(J:VS d vX s)
 (hM:pb d s c (fE d c) (cL c.aU c.bI (cO d (fE d c))))(y:e=eD d s h c (fE d c) (cL c.aU c.bI (cO d (fE d c))))(be:dZ d e):VS d vX e:=by
 have hF:iH d c:=N.bq c (by rw[hf];simp)
 let⟨ac,hp,aQ,hP,a7,hI⟩:=hF.Kw N.iG
 let⟨u,hb,F⟩:=J.jN h c hf
 have aaJ:=fl _ ac hp
 generalize fE d c=x at*
 have lr:=hF.lr;have lo:=hF.lo;have lh:=hF.lh
 rw[aQ]at lr lo lh
 have Z:∀r∈x.aO,0<=r/\r<u.aU.length/\r<c.bI.length:=λr v=>by have:=hI.aO r v;rw[F.aT];omega
 have aE:∀r∈cO d x,0<=r/\r<u.aU.length/\r<c.bI.length:=λr v=>Z r (wS v)
 have bl:=hI.bH
 have ar:=JO (aU:=c.aU) (cO d x) c.bI λr v=>⟨(aE r v).1,(aE r v).2.2⟩
 have au:=my c.aU (cO d x) c.bI
 have T1:=TN (aU:=c.aU) (cO d x) u c.bI F.bI aE
 have a_:=hM.nn
 have aw:=hM.bH
 have nil:cO d x=[]->cL c.aU c.bI (cO d x)=c.bI:=λm=>by rw[m];rfl
 generalize ax:cL c.aU c.bI (cO d x)=bI at*
 have ol:=OL.of N
 have aH:OL s.aR c:=ol c (by rw[hf];simp)
 have ag:∀I∈h,OL s.aR I:=λI R=>ol I (by rw[hf];exact dN _ R)
 have hc:FC s.aR:=FC.of N.aR
 have T:FC e.aR:=FC.of be.aR
 have az:=OL.of be
 have bx:=hF.pc
 have F1:(∀r∈cO d x,0<=(u.r r).lS)->FW d s.aR h {c with bI:=bI} (fZ u (cO d x))/\(∀b,0<=b->(fZ u (cO d x)).r b={u.r b with bI:=bt bI b}):=λht=>by
  have aj:=T1 λr v=>by
   have q:=(aE r v).1;rcases yd 0 (u.r r).lS with m|m
   .exact bR ⟨V,F.UX r q m⟩
   .have:=ht r v;exact bC ⟨V,F.rV r q V⟩
  refine⟨F.oY aj ⟨Gk _ _,xT _ _⟩ λb q m=>.wA (bC ?_),aj⟩;rw[F.bI b q];have:=(ar b q).1;omega
 have ak:∀{j:an},e.bq=h++j->∀E∈h,OL e.aR E:=λR E Q=>az E (by rw[R];exact dN _ Q)
 have bf:∀{I:bW},e.bq=h++[I]->OL e.aR I:=λR=>az _ (by rw[R];simp)
 have mv:∀{I:bW}{kk:Kn}{aa:Int},FW d s.aR h I kk->YQ s.aR e.aR->OL s.aR I->e.bq=h++[{I with pc:=aa}]->FW d e.aR h {I with pc:=aa} kk:=λG st o1 R=>(G.pW ag o1 hc (ak R) (λb q m=>bf R b q m) T st).pc
 have aA:∀{I:bW}{kk:Kn}{H Y ay:Int},FW d s.aR h I kk->I.aU=c.aU->I.bI.length=c.bI.length->OL s.aR I->bt I.bI x.bH<=0->e.bq=h++[I.cG x.bH H ay]->YQ s.aR e.aR->(Y=0->H<1000)->(0<Y->1000<=H)->(0<ay->0<Y->HL d (bz e.aR H).jx Y)->FW d e.aR h (I.cG x.bH H ay) (kk.dX x.bH Y ay):=λ{I kk H Y ay} G er eo o1 q R st t0 t1 tt=>by
  have hd:0<=x.bH/\x.bH<I.aU.length/\x.bH<I.bI.length:=by rw[er,eo];omega
  exact(G.pW ag o1 hc (ak R) (OL.aeI hd q (bf R)) T st).cG hd t0 t1 tt
 have P:=hI.op
 have ap:x.op≠21->∃k',yg d ac u x k'/\∀aa∈uz x c.pc.toNat,∃S,vX c.fP.toNat aa.toNat=some S/\vy k' S:=aaJ.qy _ x u a7 hb
 have kG:∀{I:bW}{k':Kn}{aa:Int},(∀z∈uz x c.pc.toNat,∃S,vX c.fP.toNat z.toNat=some S/\vy k' S)->aa∈uz x c.pc.toNat->e.bq=h++[I]->I.bH=c.bH->I.fP=c.fP->I.pc=aa->YQ s.aR e.aR->HT d e.aR->FW d e.aR h I k'->VS d vX e:=λL hm R hd bb m st hh G=>by
  let⟨S,D,C⟩:=L _ hm;exact J.of1 hf ag (ak R) hc T st hd (by rw[bb]) R hh ⟨S,by rw[m,bb];exact D,G.WZ C⟩
 have en:(((c.pc.toNat:Nat):Int)+1)=c.pc+1:=V
 have nx:¬(20<=x.op/\x.op<=24)->c.pc+1∈uz x c.pc.toNat:=λae=>by
  simp(disch:=omega) only[uz,aW,en];simp
 have ao:OL s.aR {c with bI:=bI}:=aH.iU λb q=>(ar b q).1
 have al:1<=x.aO.length->bt x.aO 0∈x.aO:=λD=>iS V V
 unfold mJ at P
 by_cases a6:x.op=22
 .let⟨k',z,L⟩:=ap V
  simp[yg,eD,cO,cL,a6]at z y ax
  subst y z ax
  exact kG L (aa:=x.cE) (by simp[uz,a6]) O O O O (λ_ _ _=>⟨O,O⟩) J.aR F.pc
 by_cases a3:x.op=14
 .let⟨k',z,L⟩:=ap V
  simp[yg,eD,cO,cL,a3]at z y ax P
  obtain⟨D,C,rfl⟩:=z
  have K:=Z _ (al V)
  let⟨U,A⟩:=hM.dup a3
  generalize bt x.aO 0=B at*
  subst y ax
  have W:yG s.aR (qv s.aR (bt c.aU B)):=yG.at1 U λ_=>⟨O,O⟩
  refine kG L (nx V) O O O O W.TJ (J.aR.pW W T) ?_
  have G:FW d s.aR h {c with bI:=gX c.bI B (bt c.bI B+1)} (u.iJ B 1):=F.oY (λb q=>by
   grind [yH,ny,FW.bI]) ⟨rf,O⟩ λb q m=>by
    grind [ny,FW.bI,ru]
  refine mv G W.TJ (λb q m=>?_) O
  simp only at m⊢
  rw[ny K.1 K.2.2 b q]at m
  split at m
  .rename_i M;rw[M];exact U
  .exact aH b q m
 by_cases a4:x.op=15
 .let⟨k',z,L⟩:=ap V
  simp[yg,eD,a4]at z y P
  obtain⟨D,rfl⟩:=z
  let⟨ad,A⟩:=Nm.1 P.1
  have et:cO d x=[ad]:=by simp[cO,a4,A]
  rw[et]at F1
  simp[A,fZ,bt]at D F1 y L
  rw[aW V]at F1
  subst y
  let⟨G,aj⟩:=F1 V
  have W:=(yG.jK _ s.aR [bt c.aU ad] bY).J yG.pG
  exact kG L (nx V) O O O O W.TJ (J.aR.pW W T) (mv G W.TJ ao O)
 by_cases bj:x.op=16\/x.op=17
 .let⟨k',z,L⟩:=ap V
  simp(disch:=omega) only[yg,eD,aW,bn]at z y P
  obtain⟨D,C,aa,bm,rfl⟩:=z
  have K:=Z _ (al P.1.1)
  have et:cO d x=[bt x.aO 0]:=by
   simp(disch:=omega) only[cO,aW,bn,abQ P.1.1]
  have am:=hM.Qi bj
  unfold FX at am
  obtain⟨U,aC,-,aD⟩:=am
  have X:∀r∈x.aO.drop 1,r∈x.aO:=λr v=>ue v
  generalize bt x.aO 0=B at*
  generalize x.aO.drop 1=kN at*
  have aB:bI=gX c.bI B (bt c.bI B -1):=by rw[<-ax,et];simp only[cL,bn U.1]
  have ka:∀b,0<=b->((u.iJ B (-1)).r b)={u.r b with bI:=bt bI b}:=λb q=>by
   rw[yH ⟨K.1,K.2.1⟩ q,aB,ny K.1 K.2.2 b q,F.bI b q];by_cases m:b=B
   .rw[bn m,bn m,m];rfl
   .rw[aW m,aW m,Int.add_zero]
  have kb:∀b,0<=b->((jM (u.iJ B (-1)) kN).r b)={u.r b with bI:=bt (fe bI kN) b}:=λb q=>by
   rw[Ue kN (u.iJ B (-1)) bI (λb q=>by rw[ka b q]) (λr v=>by rw[rf,au];exact Z r (X r v)) b q,ka b q]
  have av:ru u B:=.wA (bC D)
  have ai:∀b,0<=b->b∉kN->bt (fe bI kN) b=bt bI b:=λb q hm=>Px q kN bI λad A=>⟨(Z ad (X ad A)).1,by rw[au];exact(Z ad (X ad A)).2.2,λm=>hm (m▸A)⟩
  have G:FW d s.aR h {c with bI:=fe bI kN} (jM (u.iJ B (-1)) kN):=F.oY kb ⟨by rw[Pq,rf],by rw[uU];rfl⟩ λb q m=>by
   by_cases hm:b∈kN
   .exact .qe (by rw[C b hm];exact K.1) (by rw[C b hm];exact av)
   .rw[ai b q hm]at m;exact .wA (bC (by rw[F.bI b q];have:=(ar b q).1;omega))
  have aq:OL s.aR {c with bI:=fe bI kN}:=λb q m=>by
   by_cases hm:b∈kN
   .have hw:bt c.aU b∈dQ c kN:=gK.2 ⟨b,hm,O⟩;rw[<-aC]at hw;let⟨m1,m2⟩:=nT.1 hw;exact hc _ U _ m1 m2
   .simp only[ai b q hm]at m;exact ao b q m
  have W:yG s.aR e.aR:=by
   rw[y];split
   .exact yG.at1 U λae=>by simp at ae
   .exact yG.iZ N.aR U
  have z:∀b,0<=b->bt (if x.op=17 then gX u.eO B aa else u.eO) b<0->bt u.eO b<0/\(x.op=17->b≠B):=λb q m=>by
   split at m
   .rename_i af;have L:b≠B:=λM=>by
     subst M;rcases dJ b.toNat u.eO.length with aJ|aJ
     .rw[aaY ⟨q,V⟩]at m;omega
     .unfold bt gX at m;rw[fG,lp (sp aJ)]at m;simp at m
    rw[Ip V]at m;exact⟨m,λ_=>L⟩
   .exact⟨m,λae=>absurd ae (by assumption)⟩
  have af:=nx V
  by_cases hh:(bz s.aR (bt c.aU B)).bS=1/\x.op=17
  .rw[bn hh]at y
   subst y
   exact kG L af O O O O W.TJ (J.aR.pW W T) (mv (G.cC (by rw[uU];split<;>simp[jO,Kn.iJ,Kn.th]) λb q m=>by
    let⟨M,d2⟩:=z b q m;exact(ny K.1 V b q).trans ((aW (d2 hh.2)).trans (F.kp b q M))) W.TJ aq O)
  .rw[aW hh]at y
   subst y
   exact kG L af O O O O W.TJ (J.aR.pW W T) (mv (G.cC (by rw[uU];split<;>simp[jO,Kn.iJ,Kn.th]) λb q m=>F.kp b q (z b q m).1) W.TJ aq O)
 by_cases bu:x.op=18
 .let⟨k',z,L⟩:=ap V
  simp(disch:=omega) only[yg,eD,aW,bn]at z y P
  obtain⟨D,-,C,rfl⟩:=z
  have K:=Z _ (al V)
  have et:cO d x=[bt x.aO 0]:=by
   simp(disch:=omega) only[cO,bn];let⟨ad,A⟩:=Nm.1 P.1;rw[A];rfl
  let⟨G,aj⟩:=F1 λr v=>by rw[et]at v;simp at v;rw[v];exact D
  subst y
  have X:lL x.op:=by unfold lL;omega
  have M:iV (bt c.aU (bt x.aO 0))=Ky (u.r (bt x.aO 0)).lS:=by
   unfold iV Ky;rcases yd 0 (u.r (bt x.aO 0)).lS with m|m
   .rw[bn m,bn (F.UX _ K.1 m)]
   .have:=F.rV _ K.1 (show(u.r (bt x.aO 0)).lS=0 by omega);rw[aW V,aW V]
  refine kG L (nx V) O O O O (λ_ _ _=>⟨O,O⟩) J.aR ?_
  rw[<-et,M]
  refine aA G.pc O au ao (aw X) (by rw[M]) (λ_ _ _=>⟨O,O⟩) (F.rV _ K.1) (F.UX _ K.1) λ_ ht=>F.jx _ K.1 (.wA (bC ?_)) ht
  rw[F.bI _ K.1]
  have:=(ar _ K.1).2 (by rw[et];simp) (F.UX _ K.1 ht)
  have:=Zd a_ (bt x.aO 0);omega
 by_cases a5:x.op=19
 .let⟨k',z,L⟩:=ap V
  simp(disch:=omega) only[yg,eD,aW,bn]at z y P
  obtain⟨D,C,Y,h3,h4,rfl⟩:=z
  have K:=Z _ (al V)
  have eo:=nil (by simp[cO,a5])
  let⟨U,aP⟩:=hM.tL a5
  generalize bt x.aO 0=B at*
  subst y
  have X:lL x.op:=by unfold lL;omega
  have aq:=jT P.2.1 aP
  have ai:=F.lF _ K.1 D C
  have av:=Uz h3
  have hw:YR d s.aR (bt (bz s.aR (bt c.aU B)).bJ x.cE) Y:=J.aR _ U _ _ _ aq (by
   unfold FTy;rw[ai,bn (by unfold cF;omega)];exact h3)
  have af:=nx V
  refine kG L af O O O O (λ_ _ _=>⟨O,O⟩) J.aR ?_
  subst eo
  have am:=aA (I:={c with pc:=c.pc+1}) (H:=bt (bz s.aR (bt c.aU B)).bJ x.cE) (Y:=Y) (ay:=0) F.pc O O aH (aw X) O (λ_ _ _=>⟨O,O⟩) hw.1 (λht=>(hw.2 ht).1.1) λae=>absurd ae cD
  by_cases A:x.bH=B
  .rw[bn A];exact am
  .rw[aW A]
   have hd:0<=x.bH/\x.bH<u.aU.length:=by rw[F.aT];omega
   have M:=λb q=>U6 (k:=u) (t:=Y) (o:=0) hd (i:=b) q
   have gr:∀b,0<=b->bt (bW.cG {c with pc:=c.pc+1} x.bH (bt (bz s.aR (bt c.aU B)).bJ x.cE) 0).aU b=if b=x.bH then bt (bz s.aR (bt c.aU B)).bJ x.cE else bt c.aU b:=λb q=>ny bl.1 (by show x.bH<(c.aU.length:Int);omega) b q
   refine am.tL ⟨hd.1,by rw[BA];exact hd.2⟩ ⟨K.1,λm=>A m.symm⟩ (by rw[M _ hd.1,bn O];exact⟨O,O⟩) (λb q=>?_) (by rw[M _ hd.1,bn O];exact(by decide:(-1:Int)<0)) ?_ (λ_ ht=>?_) λ_=>?_
   .rw[M b q];split
    .simp;omega
    .exact aaG hd.1
   .rw[gr B K.1,aW λm=>A m.symm];exact U.1
   .rw[M _ hd.1,bn O]at ht⊢
    rw[gr _ hd.1,bn O];exact(hw.2 ht).2
   .rw[gr B K.1,aW λm=>A m.symm,gr _ hd.1,bn O];exact aq
 by_cases aD:x.op=21
 .let⟨D,C,h3⟩:=aaJ.xS _ x u a7 hb aD
  simp(disch:=omega) only[eD,aW,bn]at y P
  have K:=Z _ (al V)
  have eo:=nil (by simp[cO,aD])
  let⟨U,ai⟩:=hM.xS aD
  generalize bt x.aO 0=B at*
  subst y
  let⟨S,b1,b2⟩:=h3 (tG (cX d.bT x.cE) (bz s.aR (bt c.aU B)).jx) (bz s.aR (bt c.aU B)).jx (by
   have A:tG (cX d.bT x.cE) (bz s.aR (bt c.aU B)).jx<(cX d.bT x.cE).length:=mB ⟨_,ai,bO⟩;rw[abk A];have:=List.findIdx_getElem (xs:=cX d.bT x.cE) (p:=λM=>M==(bz s.aR (bt c.aU B)).jx) (w:=A);exact vv some (eq_of_beq this)) (by
   rcases yd (u.r B).lF 0 with m|m
   .exact bC m
   .exact bR (F.lF B K.1 C m).symm)
  refine J.of1 hf ag (ak O) hc T (λ_ _ _=>⟨O,O⟩) (by rfl) (by rfl) O J.aR ⟨S,b1,?_⟩
  rw[eo]
  exact((F.arm K.1 U.1 O).WZ b2).pc
 let⟨k',z,L⟩:=ap aD
 simp(disch:=omega) only[yg,aW]at z
 obtain⟨Y,A,-,U,z⟩:=z
 have nn:=aa8 N.iG.mT (aZ hp) A
 have aG:∀r∈x.aO,0<=(u.r r).lS:=λr v=>nn _ (gK.2 ⟨r,v,O⟩)
 let⟨G,aj⟩:=F1 λr v=>aG r (wS v)
 have bh:∀{b:Int},ru (fZ u (cO d x)) b->0<=b->ru u b:=λB q=>B.of (λb q m=>.wA (bC (by rw[aj b q]at m;simp only at m;rw[F.bI b q];have:=(ar b q).1;omega))) (λb q m=>.wA (bR (by rw[aj b q]at m;exact m))) (λb q _=>by rw[aj b q]) q
 have a2:∀a1:ab,qA u x.aO=a1->(∀M∈a1,M=0)->∀r∈x.aO,(u.r r).lS=0:=λa1 m hz r v=>hz _ (m▸gK.2 ⟨r,v,O⟩)
 have bi:∀r∈x.aO,(u.r r).lS≠0->ru u r:=λr v ht=>by
  have q:=(Z r v).1;have bg:r∈cO d x->ru u r:=λhm=>.wA (bC (by
   rw[F.bI r q];have:=(ar r q).2 hm (F.UX r q (oh (aG r v)));have:=Zd a_ r;omega))
  by_cases bc:x.op=15\/x.op=6\/x.op=10\/x.op=11\/x.op=18\/x.op=23
  .exact bg (by unfold cO;rw[bn bc];exact v)
  by_cases h9:x.op=9\/x.op=24
  .have et:cO d x=jV d x 0 x.aO:=by unfold cO;rw[aW bc,aW V,bn h9]
   rcases XB (b:=d) (x:=x) x.aO 0 r v with m|m
   .exact bg (et▸m)
   .exact bh (U h9 r m) q
  exfalso;apply ht;simp(disch:=omega) only[uT,fY,aW]at A;(repeat' split at A)<;>first|exact a2 _ A bO r v|exact a2 _ A.2 bO r v|exact A.elim
 have av:∀r∈x.aO,YR d s.aR (bt c.aU r) (u.r r).lS:=λr v=>F.wty ag aH hc (Z r v).1 λht=>bi r v V
 have aI:∀(b:Nat)(H M:Int),(dQ c x.aO)[b]? =some H->(qA u x.aO)[b]? =some M->YR d s.aR H M:=λb H M D C=>by
  obtain⟨r,v,rfl⟩:=aal D;rw[Gn v]at C;cases C;exact av r (aZ v)
 unfold uT at A
 by_cases aC:x.op=20
 .rw[bn aC]at A
  simp[eD,aC,lL,cO]at y z
  have eo:=nil (by simp[cO,aC])
  have aO:x.dh=0:=by have:=hI.dh;omega
  rw[bn aO]at z
  subst y z eo
  refine kG L (aa:=if bt c.aU (bt x.aO 0)=0 then x.cE else c.pc+1) ?_ O O O O (λ_ _ _=>⟨O,O⟩) J.aR F.pc
  simp(disch:=omega) only[uz,aW,bn,en];split<;>simp
 rw[aW aC]at A
 by_cases aK:x.op=23
 .rw[bn aK]at A
  rw[bn (bC aK)]at z
  obtain⟨hz,aN,rfl⟩:=z
  rw[aW V,aW V,bn V]at P
  have a0:=al V
  have K:=Z _ a0
  have wt:=av _ a0
  have aS:(u.r (bt x.aO 0)).lS=ac.bQ:=by
   have:=Gn (k:=u) (jT (l:=x.aO) (i:=0) V V);rw[A.1]at this;simpa using this.symm
  simp(disch:=omega) only[eD,aW]at y
  rcases adm h with m|⟨am,E,m⟩
  .subst m
   simp only[List.getLast?_nil]at y
   subst y
   exact⟨J.aR,λE m=>by simp at m,λB aB m=>by simp at m,λaF B aB m=>by simp at m⟩
  .rw[List.concat_eq_append]at m
   subst m
   simp only[List.getLast?_append,List.getLast?_singleton,Option.some_or,List.dropLast_concat]at y
   subst y
   have ai:s.bq=am++E::[c]:=by rw[hf];simp
   let⟨kq,Fq,bo,S,b1,b2⟩:=J.sus am.length E c (by rw[ai];simp) (by rw[ai];simp)
   rw[ai,List.take_left' O]at Fq
   have aq:=N.uJ am.length E c (by rw[ai];simp) (by rw[ai];simp)
   have aL:=N.bq E (by rw[ai];simp)
   have aM:iV (bt c.aU (bt x.aO 0))=Ky ac.bQ:=by
    unfold iV Ky;rcases yd 0 ac.bQ with m|m
    .rw[bn m,bn (wt.2 V).1.1]
    .have:=nn _ (gK.2 ⟨_,a0,O⟩);have:=wt.1 V;rw[aW V,aW V]
   rw[aQ]at b2
   have aV:=aL.lr;have aT:=aL.lo
   refine J.of1 ai (λI R=>ag I (dN _ R)) (λI R=>az I (dN _ R)) hc T (λ_ _ _=>⟨O,O⟩) (by rfl) (by rfl) O J.aR ⟨S,b1,FW.WZ (k:=kq.dX c.bH ac.bQ (Ky ac.bQ)) ?_ b2⟩
   rw[aM]
   exact Fq.cG ⟨aq.1,V,aq.2.1⟩ (λm=>wt.1 V) (λm=>(wt.2 V).1.1) λ_ m=>by rw[<-aS]at m⊢;exact(wt.2 m).2
 rw[aW aK]at A
 by_cases aL:x.op=24
 .rw[bn aL]at A
  rw[bn (bR aL)]at z
  obtain⟨hz,aN,rfl⟩:=z
  obtain⟨A,rfl⟩:=A
  simp[fY]at A
  let⟨E,Q,ts,te⟩:=A
  have K:dG d x.cE=E:=by simp[dG,Q]
  simp(disch:=omega) only[eD,aW,bn]at y
  subst y
  have am:=N.iG.eR E (aZ Q)
  have wl:(dQ c x.aO).length=E.aY.length:=by rw[<-ts];simp[dQ,qA]
  refine J.of1 hf ag (ak O) hc T (λ_ _ _=>⟨O,O⟩) (g:=cz d x.cE c.bH (dQ c x.aO)) O (by show(dG d x.cE).bQ=_;rw[K,aQ,te]) O J.aR ?_
  let⟨k0,c0,c1⟩:=(fl _ E Q).first
  refine⟨k0,c0,FW.WZ ?_ c1⟩
  refine FW.bF K am.aU.1 wl (λM A=>((N.iG.mT.eR E (aZ Q)).2.1 M A).1) (λb H M D C=>aI b H M D (ts▸C)) λb hi q aP=>?_
  let⟨r,v⟩:=dU x.aO b.toNat (by have:(dQ c x.aO).length=x.aO.length:=(by simp[dQ]);omega)
  have aX:bt (dQ c x.aO) b=bt c.aU r:=by simp[bt,dQ,v]
  have aS:r∈fJ d x 0 x.aO:=Mc v (by
   unfold lA;rw[K,W7];exact⟨b,hi,eX⟩)
  have aM:=U (bR aL) r aS
  have r0:=(Z r (aZ v)).1
  rw[aX]
  refine(FW.afm G hz aM r0 (F.UX r r0 ?_):)
  let⟨aF,hj⟩:=cH.1 hi
  obtain⟨⟨M,_,aV,bs⟩,-⟩:=am.df aF b hj
  have C:=Gn (k:=u) v
  rw[ts,aV]at C
  have:=aG r (aZ v)
  cases C;omega
 simp(disch:=omega) only[fY,aW]at A z
 have af:=nx V
 have aY:∀(H:Int)(cw:ab),0<=x.op/\x.op<6->Y=0->H<1000->e={s with cw:=cw,bq:=h++[bW.cG {c with bI:=bI,pc:=c.pc+1} x.bH H 0]}->VS d vX e:=λH cw ho t0 hw y=>by
  have X:lL x.op:=by unfold lL;omega
  have:=hI.dh;rw[bn X,bn V]at z;obtain⟨aq,rfl⟩:=z;subst t0 y;exact kG L af O O O O (λ_ _ _=>⟨O,O⟩) J.aR (aA G.pc O au ao (aw X) O (λ_ _ _=>⟨O,O⟩) (λ_=>hw) (λae=>absurd ae cD) λae=>absurd ae cD)
 by_cases e0:x.op=0
 .simp(disch:=omega) only[eD,aW,bn]at y A P
  exact aY _ _ V A.1 V y
 by_cases e1:x.op=1\/x.op=2\/x.op=3\/x.op=4
 .simp(disch:=omega) only[eD,aW,bn]at y A
  exact aY _ _ V A.1 (oh ((Qn x.op (bt c.aU (bt x.aO 0)) (bt c.aU (bt x.aO 1))).2)) y
 by_cases e5:x.op=5
 .simp(disch:=omega) only[eD,aW,bn]at y A P
  have a0:=al V
  exact aY _ _ V A.1 ((av _ a0).1 (a2 _ A.2 bO _ a0)) y
 by_cases e6:x.op=6
 .simp(disch:=omega) only[eD,aW,bn]at y A P
  have X:lL x.op:=by unfold lL;omega
  rw[bn X]at z
  obtain⟨aq,rfl⟩:=z
  have bp:=(Iq A.1).1
  have a0:x.cE<cF d:=by unfold cF;omega
  have aN:FTy d x.cE=qA u x.aO:=by unfold FTy;rw[bn a0,A.2]
  have aT:HL d x.cE Y:=by unfold HL;rw[bn a0];exact A.1
  have bd:∀(B:Nat)(h':ah)(cC:ab),Xe s.aR h' B x.cE (dQ c x.aO)->(∀b,0<=b->bt (if x.dh=0 then fZ u (cO d x)else{fZ u (cO d x)with eO:=gX (fZ u (cO d x)).eO (x.dh -1) (-1)}:Kn).eO b<0->bt cC b=0)->e={s with aR:=h',bq:=h++[bW.cG {c with bI:=bI,pc:=c.pc+1,cC:=cC} x.bH (1000+(B:Int)) 1]}->VS d vX e:=λB h' cC ai hh y=>by
   subst y;refine kG L af O O O O ai.TJ (ai.ht J.aR T λb H M D C=>aI b H M D (aN▸C)) ?_;have m1:Ky Y=1:=bn V;rw[m1];have G2:=G.cC (by split<;>simp[jO]) hh;refine aA ?_ O au ao (aw X) O ai.TJ (λm=>V) (λ_=>V) λ_ _=>?_
   .split<;>rename_i hi<;>simp only[hi,yf,nv]at G2<;>exact G2.pc
   .have:bz h' (1000+(B:Int))=⟨1,x.cE,dQ c x.aO⟩:=by unfold bz;rw[sK,ai.bF];rfl
    rw[this];exact aT
  by_cases hh:x.dh≠0/\bt c.cC (x.dh -1)≠0
  .have bw:(c.cC.length:Int)=ac.aU:=lh
   have a8:=iS (l:=c.cC) (i:=x.dh -1) V V
   have ba:1000<=bt c.cC (x.dh -1):=by
    rcases hF.cC _ a8 with m|m
    .exact absurd m hh.2
    .exact m
   obtain⟨aJ,bk,bv⟩:jI s.aR (ix (bt c.cC (x.dh -1))):=iC λL=>by
    have D:=N.qV _ L;rw[hf,iT,lU]at D;have C:=wG (l:=c.cC) (f:=ix (bt c.cC (x.dh -1))) (by rw[lD ba];exact a8);have h3:=zU h (ix (bt c.cC (x.dh -1)));omega
   refine bd (ix (bt c.cC (x.dh -1))) _ (gX c.cC (x.dh -1) 0) (Xe.dX bk V) (λb q m=>?_) ?_
   .rw[aW hh.1]at m
    rw[ny V V b q]
    split
    .rfl
    .rename_i a9
     refine F.kp b q ?_
     have e':bt (gX (fZ u (cO d x)).eO (x.dh -1) (-1)) b<0:=m
     rw[Ip V,xT]at e';exact e'
   .rw[y,bn hh,lD ba]
  .refine bd (fF s.aR) _ c.cC (Xe.kC N.aR) (λb q m=>?_) ?_
   .split at m
    .exact F.kp b q (by rw[xT]at m;exact m)
    .rename_i hi
     by_cases a9:b=x.dh -1
     .subst a9
      rcases gJ (bt c.cC (x.dh -1)=0)with m|m
      .exact m
      .exact absurd ⟨hi,m⟩ hh
     .refine F.kp b q ?_
      have e':bt (gX (fZ u (cO d x)).eO (x.dh -1) (-1)) b<0:=m
      rw[Ip V,xT]at e';exact e'
   .rw[y,aW hh]
 have aO:x.dh=0:=by have:=hI.dh;omega
 rw[bn aO]at z
 by_cases e9:x.op=9
 .simp(disch:=omega) only[eD,aW,bn]at y A
  have X:lL x.op:=by unfold lL;omega
  rw[bn X]at z
  obtain⟨aq,rfl⟩:=z
  let⟨E,Q,ts,te⟩:=A
  have K:dG d x.cE=E:=by simp[dG,Q]
  subst y
  have am:=N.iG.eR E (aZ Q)
  have wl:(dQ c x.aO).length=E.aY.length:=by rw[<-ts];simp[dQ,qA]
  refine J.of2 hf ag (ak O) hc T (λ_ _ _=>⟨O,O⟩) (by rfl) (by rfl) O J.aR ?_ ?_
  .let⟨S,b1,b2⟩:=L _ af
   refine⟨_,G.pc,aq,S,b1,?_⟩
   show vy ((fZ u (cO d x)).dX x.bH (dG d x.cE).bQ (Ky (dG d x.cE).bQ)) S
   rw[K,<-te];exact b2
  .let⟨k0,c0,c1⟩:=(fl _ E Q).first
   refine⟨k0,c0,FW.WZ ?_ c1⟩
   refine FW.bF K am.aU.1 wl (λM A=>((N.iG.mT.eR E (aZ Q)).2.1 M A).1) (λb H M D C=>aI b H M D (ts▸C)) λb hi q aP=>?_
   let⟨r,v⟩:=dU x.aO b.toNat (by have:(dQ c x.aO).length=x.aO.length:=(by simp[dQ]);omega)
   have aX:bt (dQ c x.aO) b=bt c.aU r:=by simp[bt,dQ,v]
   have aS:r∈fJ d x 0 x.aO:=Mc v (by
    unfold lA;rw[K,W7];exact⟨b,hi,eX⟩)
   have aM:=U (bC e9) r aS
   have r0:=(Z r (aZ v)).1
   rw[aX]
   refine FW.rtd (f:={c with bI:=bI,pc:=c.pc+1}) G.pc aM r0 (F.UX r r0 ?_)
   let⟨aF,hj⟩:=cH.1 hi
   obtain⟨⟨M,_,aV,bs⟩,-⟩:=am.df aF b hj
   have C:=Gn (k:=u) v
   rw[ts,aV]at C
   have:=aG r (aZ v)
   cases C;omega
 by_cases aX:x.op=10
 .simp(disch:=omega) only[eD,aW,bn]at y A P
  have X:lL x.op:=by unfold lL;omega
  rw[bn X]at z
  obtain⟨aq,rfl⟩:=z
  let⟨E,aB,Q,ts,te⟩:=A
  obtain⟨⟨q',bo,aJ,aF⟩,-⟩:=P
  have bp:=(VV N.iG.mT.dm te).1
  have eg:cF d+x.cE -cF d=x.cE:=V
  have K:dG d (cF d+x.cE -cF d)=E:=by rw[eg];simp[dG,Q]
  have aN:FTy d (cF d+x.cE)=qA u x.aO:=by unfold FTy;rw[aW V,K,ts];simp
  have aT:HL d (cF d+x.cE) Y:=by
   unfold HL;rw[aW V,eg];exact⟨E,aB,Q,by rw[ts];simp,te⟩
  have ai:Xe s.aR (kC s.aR (fF s.aR) ⟨1,cF d+x.cE,dQ c x.aO⟩) (fF s.aR) (cF d+x.cE) (dQ c x.aO):=Xe.kC N.aR
  subst y
  refine kG L af O O O O ai.TJ (ai.ht J.aR T λb H M D C=>aI b H M D (aN▸C)) ?_
  have m1:Ky Y=1:=bn V
  rw[m1]
  refine aA G.pc O au ao (aw X) O ai.TJ (λm=>V) (λ_=>V) λ_ _=>?_
  simp only[bz,sK,ai.bF];exact aT
 by_cases aM:x.op=11
 .simp(disch:=omega) only[eD,aW,bn]at y A P
  have X:lL x.op:=by unfold lL;omega
  rw[bn X]at z
  obtain⟨aq,rfl⟩:=z
  let⟨M,ad,ts,te⟩:=A
  obtain⟨aF,a0,a8,aS,ai,-⟩:=hM.apply aM
  have g0:=jT (l:=x.aO) (i:=0) V V
  have g1:=jT (l:=x.aO) (i:=1) V V
  have y0:=Gn (k:=u) g0
  have y1:=Gn (k:=u) g1
  rw[ts]at y0 y1
  have y0:(u.r (bt x.aO 0)).lS=M:=sp y0.symm
  have y1:(u.r (bt x.aO 1)).lS=ad:=sp y1.symm
  have w0:=av _ (aZ g0)
  have w1:=av _ (aZ g1)
  rw[y0]at w0;rw[y1]at w1
  have u1:=(VV N.iG.mT.dm te).1
  have tg:=(w0.2 V).2
  generalize bt c.aU (bt x.aO 0)=H at*
  generalize bt c.aU (bt x.aO 1)=wa at*
  unfold HL at tg
  rw[aW V]at tg
  let⟨E,aB,Q,aN,aP⟩:=tg
  obtain⟨rfl,rfl⟩:=acU te aP
  have K:dG d ((bz s.aR H).jx -cF d)=E:=by simp[dG,Q]
  rw[K]at aS ai
  subst y
  have W:=yG.iZ N.aR aF
  have am:=N.iG.eR E (aZ Q)
  have aT:OL _ {c with bI:=bI,pc:=c.pc+1}:=λb q m=>az {c with bI:=bI,pc:=c.pc+1} bO b q m
  have aJ:E.aY=E.aY.dropLast++[ad]:=by
   let⟨j,m⟩:=List.getLast?_eq_some_iff.1 aN;rw[m];simp
  have aV:=az (cz d ((bz s.aR H).jx -cF d) x.bH ((bz s.aR H).bJ++[wa])) bO
  have el:E.df=[]:=cp.1 ai
  refine J.of2 hf ag (ak O) hc T W.TJ (by rfl) (by rfl) O (J.aR.pW W T) ?_ ?_
  .let⟨S,b1,b2⟩:=L _ af
   refine⟨_,G.pc.pW ag (λb q m=>ao b q m) hc (ak O) (λb q m=>aT b q m) T W.TJ,aq,S,b1,?_⟩
   show vy ((fZ u (cO d x)).dX x.bH (dG d ((bz s.aR H).jx -cF d)).bQ (Ky (dG d ((bz s.aR H).jx -cF d)).bQ)) S
   rw[K];exact b2
  .let⟨k0,c0,c1⟩:=(fl _ E Q).first
   refine⟨k0,c0,FW.WZ ?_ c1⟩
   have wl:((bz s.aR H).bJ++[wa]).length=E.aY.length:=eX
   have pn:∀M∈E.aY,0<=M:=λM A=>((N.iG.mT.eR E (aZ Q)).2.1 M A).1
   refine FW.bF K am.aU.1 wl pn (λb w' u' D C=>?_) (by rw[el];simp)
   have old:YR d s.aR w' u':=by
    rw[aJ]at C;have a9:E.aY.dropLast.length=(bz s.aR H).bJ.length:=eX;rcases dJ b (bz s.aR H).bJ.length with m|m
    .rw[dY m]at D;rw[dY V]at C;exact J.aR H aF b w' u' D (by unfold FTy;rw[aW V,K];exact C)
    .rw[dP m]at D;rw[dP V]at C;have:b -(bz s.aR H).bJ.length=0:=by have:=br D;simp at this;omega
     rw[this]at D;rw[show b -E.aY.dropLast.length=0 by omega]at C;simp at D C;subst D;subst C;exact w1
   refine old.pW W.TJ λhp=>?_
   have bm:=pn u' (aZ C)
   have ew:bt (cz d ((bz s.aR H).jx -cF d) x.bH ((bz s.aR H).bJ++[wa])).aU b=w':=by
    simp only[cz,bt,fG];rw[dY (by have:=br D;simpa using this)];simp[D]
   have:=aV b V (by
    simp only[cz,bt,fG];rw[dY (by rw[mf];have:=br D;simpa using this)];simp only[fR];rw[Ez _ _ _ _ _ D,K,el];simp[iV,hp])
   rw[ew]at this;exact this
 simp(disch:=omega) only[aW]at A
end
section
variable{a:da}{s:St}{vX:Nat->Nat->Option Kn}{dL:Int}
def VS.XQ(V:VS a vX s)(n:Int):VS a vX {s with eC:=n}:=⟨V.aR,V.first,V.jN,V.sus⟩
theorem VS.qy(i:∀(n:Nat)(p:eE),a.di[n]? =some p->AX a p (vX n))(d:dZ a s)(c:VS a vX s):VS a vX (qy a s):=by
 have b:=O1 d;by_cases m:s.eC=3
 .let⟨j,h,l⟩:=d.split m;unfold Go.Proofs.YtbbbdejieenniaaGreat.qy at b⊢;rw[aW V]at b⊢;have f:s.bq.getLast?=some h:=cB;have g:s.bq.dropLast=j:=cB;rw[f,g]at b⊢;simp only at b⊢;split
  .exact c.XQ 1
  .rename_i k;rw[aW k]at b;split
   .rename_i e;rw[bn e]at b;exact WA i d l c e O b
   .exact c.XQ 2
 .grind [tZ]
theorem VS.jC(k:∀(n:Nat)(p:eE),a.di[n]? =some p->AX a p (vX n))(c:iB a):VS a vX (jC a dL):=by
 let⟨p,d⟩:=dU a.di 0 c.mT.aT.1;have e:dG a 0=p:=by grind [dG]
 have m:=c.mT.first p d;let⟨r,h,i⟩:=(k 0 p d).first;refine⟨λz⟨_,u,o,_⟩=>by simp[Go.Proofs.YtbbbdejieenniaaGreat.jC]at o,λx g=>by simp[Go.Proofs.YtbbbdejieenniaaGreat.jC]at g;subst g;show(dG a 0).bQ=0;rw[e];exact m.2,λb f j=>?_,λw s t _ v=>?_⟩
 .have:b=[]/\cz a 0 0 []=f:=by
   have e:[cz a 0 0 []]=b++[f]:=j;cases b with
   |nil=>simpa using e
   |cons l q=>simp at e
  obtain⟨rfl,rfl⟩:=this;exact⟨r,h,FW.WZ (FW.bF e (c.eR p (aZ d)).aU.1 cB cB (λq A y l=>by simp at l) λq _ _ l=>by simp at l;omega) i⟩
 .grind [br,jC]
theorem VS.bA(b:∀(n:Nat)(p:eE),a.di[n]? =some p->AX a p (vX n))(c:iB a)(d:0<=dL/\dL<=40):∀n,VS a vX (bA a n (Go.Proofs.YtbbbdejieenniaaGreat.jC a dL))
 |0=>VS.jC b c
 |n+1=>by rw[xR];exact(VS.bA b c d n).qy b (xQ n (AO c d))
theorem VS.jX(l:dZ a s)(h:VS a vX s){j:Nat}{f:bW}(c:s.bq[j]? =some f):∃k,vX f.fP.toNat f.pc.toNat=some k/\k.aU.length=f.aU.length/\∀r,0<=r->(k.r r).bI=bt f.bI r\/∃g,s.bq[j+1]? =some g/\r=g.bH:=by
 rcases dJ (j+1) s.bq.length with m|m
 .let⟨g,d⟩:=dU s.bq (j+1);let⟨k,F,n,p,b1,b2⟩:=h.sus j f g c d;refine⟨p,b1,by rw[b2.aT,BA,F.aT],λr b=>?_⟩;by_cases e:r=g.bH
  .exact bR ⟨g,d,e⟩
  .refine bC ?_;rw[b2.bI r b];have o:=l.uJ j f g c d;have i:=l.bq f (aZ c);have n:=i.lr;have q:=i.lo;rw[U6 ⟨o.1,by rw[F.aT];omega⟩ b,aW e];unfold uf;split<;>exact F.bI r b
 .have e:s.bq=s.bq.take j++[f]:=by
   have:=bX c;rw[ye V]at this;exact this
  let⟨k,d,F⟩:=h.jN _ f e;exact⟨k,d,F.aT,λr b=>bC (F.bI r b)⟩
end
section
variable{l:afz}{r:tp}{o e:Nat}{new:ae}{g:tp->tp}
def Bz(r:tp):ae:=[.i r.lS,.i r.bI,.t r.df,.i r.lF,.i r.fr,.i r.Ea]
def NL(l:afz):ae:=(l.map Bz).flatten
def KH(l:afz):∀a∈l.map Bz,a.length=6:=λa h=>by obtain⟨r,_,rfl⟩:=gK.1 h;rfl
theorem uA(l:afz):(NL l).length=l.length*6:=by unfold NL;rw[dS (KH l),jW]
def YE{i:Nat}(h:l[i]? =some r){j:Nat}{c:Ce}(a:(Bz r)[j]? =some c):(NL l)[i*6+j]? =some c:=
 js (KH l) cB a
def YF{i:Nat}{a:tp}(h:l[i]? =some r)(b:o+new.length<=6)(c:kH (Bz r) o new=Bz a):kH (NL l) (i*6+o) new=NL (l.set i a):=by
 unfold NL;rw[An _ i (Bz r) o new (KH l) cB b,c,Nn]
theorem Bq{k:Kn}{i:Int}(a:0<=i)(b:i<k.aU.length):k.aU[i.toNat]? =some (k.r i):=by
 grind [dU,Kn.r]
def XE{k:Kn}{i:Int}(a:0<=i)(b:i<k.aU.length):(k.th i g).aU=k.aU.set i.toNat (g (k.r i)):=by
 have h:=Bq a b;unfold Kn.th;apply fq;grind [List.getElem?_set_self,List.getElem?_set_ne]
@[grind cases] structure me (ro:ag) (m:bh) (k b:Nat) (rs ks:E) (kn:Kn):Prop where
 bV:dF m b zI [.s rs,.s ks]
 jt:ro b=k
 aU:iE ro m rp 6 k rs (NL kn.aU)
 eO:iE ro m bB 1 k ks (kn.eO.map Ce.i)
 ju:1<=kn.aU.length/\kn.aU.length<=2000
 zq:kn.eO.length=kn.aU.length
section
variable{c f:ag}{m d:bh}{k b:Nat}{a ks:E}{kn:Kn}{i:Int}{p:Nat->Prop}
theorem me.GJ(h:me c m k b a ks kn):a.len=kn.aU.length:=by grind [me.aU,iE.aT,uA]
theorem me.Xy(h:me c m k b a ks kn):ks.len=kn.aU.length:=by grind [me.eO,iE.aT,me.zq]
def me.ac8(h:me c m k b a ks kn):a.cap≠0:=by grind [me.aU,iE.le,me.GJ,me.ju]
def me.adX(h:me c m k b a ks kn):ks.cap≠0:=by grind [me.eO,iE.le,me.Xy,me.ju]
def iE.adC{d k:Nat}{s:E}{l:ae}(h:iE c m e d k s l)(f:s.cap≠0):∃b a tail,s=.mk b 0 s.len a/\c b=k/\dF m b e (l++tail):=by
 grind [iE.bt]
def dF.ZV{b a c:Nat}{l g:ae}(h:dF m b e l)(d:dF m a c g)(i:e≠c):b≠a:=λf=>by
 subst f;have:=h.symm.trans d;grind
def me.nes(h:me c m k b a ks kn):b≠a.bu/\b≠ks.bu/\a.bu≠ks.bu:=by
 obtain⟨b1,i,t1,f,_,d⟩:=iE.adC h.aU h.ac8;obtain⟨b2,j,t2,g,_,e⟩:=iE.adC h.eO h.adX;rw[f,g];exact⟨dF.ZV h.bV d cD,dF.ZV h.bV e cD,dF.ZV d e cD⟩
def me.fN(h:me c m k b a ks kn)(e:dI p c m f d)(g:¬p k):me f d k b a ks kn:=
 by constructor<;>grind [me.bV,dF.congr,dI.fQ,dF.lt,me.jt,dI.jt,me.aU,iE.fN,me.eO,me.ju,me.zq]
def me.ext(h:me c m k b a ks kn)(x:D m d):me c d k b a ks kn:=
 by constructor<;>grind [me.bV,dF.ext,me.jt,me.aU,iE.fQ,D.bG,iE.bu,me.eO,me.ju,me.zq]
def me.dx(h:me c m k b a ks kn)(l:0<=i)(n:i<kn.aU.length):aS m a.bu (a.off+i.toNat*6)=some (vi (kn.r i).lS)/\aS m a.bu (a.off+i.toNat*6+1)=some (vi (kn.r i).bI)/\aS m a.bu (a.off+i.toNat*6+2)=some (vb (kn.r i).df)/\
 aS m a.bu (a.off+i.toNat*6+3)=some (vi (kn.r i).lF)/\aS m a.bu (a.off+i.toNat*6+4)=some (vi (kn.r i).fr)/\aS m a.bu (a.off+i.toNat*6+5)=some (vi (kn.r i).Ea):=by
 have o:=h.aU.kY
 have g:=λ{d:Nat}{f:Ce}(hj:(Bz (kn.r i))[d]? =some f)=>o _ _ (YE (Bq l n) hj)
 have e:∀d,a.off+i.toNat*6+d=a.off+(i.toNat*6+d):=cB
 rw[e 1,e 2,e 3,e 4,e 5]
 exact⟨g (d:=0) O,g (d:=1) O,g (d:=2) O,g (d:=3) O,g (d:=4) O,g (d:=5) O⟩
def me.wr(h:me c m k b a ks kn)(d:0<=i)(e:i<kn.aU.length){o n:Nat}(f:o+n<=6):jb m a.bu (a.off+i.toNat*6+o) n:=by
 have:=h.aU.wr (o:=i.toNat*6+o) (n:=n) (by rw[uA];omega);grind [Nat.add_assoc]
def me.cG(h:me c m k b a ks kn)(d:0<=i)(e:i<kn.aU.length)(j:o+new.length<=6)(f:kH (Bz (kn.r i)) o new=Bz (g (kn.r i))):me c (aV m a.bu (a.off+i.toNat*6+o) new) k b a ks (kn.th i g):=by
 have⟨l,p,n⟩:=h.nes;refine⟨h.bV.congr (cq _ _ _ _ l),h.jt,?_,h.eO.fQ (λ_=>cq _ _ _ _ n.symm) (λ_=>O),by rw[lQ];exact h.ju,by rw[lQ];exact h.zq⟩;rw[XE d e,<-YF (Bq d e) j f,iv];exact h.aU.dX (by rw[uA];omega)
def me.qF(h:me c m k b a ks kn)(d:∀b,m.size<=b->c b=0)(new:ae):dI (·=k) c m c (aV m a.bu o new):=dI.aV d (h.aU.bu h.ac8).2 _ _
def me.adT(h:me c m k b a ks kn)(d:0<=i)(e:i<kn.aU.length):aS m ks.bu (ks.off+i.toNat*1)=some (vi (bt kn.eO i)):=by
 have:=h.eO.kY i.toNat (.i (bt kn.eO i)) (by rw[eJ,jT d cB];rfl);rw[nu];exact this
def me.wrK(h:me c m k b a ks kn)(d:0<=i)(e:i<kn.aU.length):jb m ks.bu (ks.off+i.toNat*1) 1:=by grind [me.eO,iE.SA,me.zq]
theorem me.ac7(h:me c m k b a ks kn)(d:0<=i)(g:i<kn.aU.length)(v:Int):me c (aV m ks.bu (ks.off+i.toNat*1) [.i v]) k b a ks {kn with eO:=gX kn.eO i v}:=by
 have⟨j,e,f⟩:=h.nes;exact⟨h.bV.congr (cq _ _ _ _ e),h.jt,h.aU.fQ (λ_=>cq _ _ _ _ f) (λ_=>O),h.eO.gX d cB v,h.ju,by rw[jO];exact h.zq⟩
def me.SS(h:me c m k b a ks kn)(d:∀b,m.size<=b->c b=0)(o:Nat)(new:ae):dI (·=k) c m c (aV m ks.bu o new):=dI.aV d (h.eO.bu h.adX).2 _ _
end
@[grind cases] structure nY (kn:Kn) (n:Nat) (B:Int):Prop where
 aT:kn.aU.length=n
 bI:∀i,0<=i->0<=(kn.r i).bI/\(kn.r i).bI<=B
 fr:∀i,0<=i->(kn.r i).fr<n
 lF:∀i,0<=i->-1<=(kn.r i).lF/\(kn.r i).lF<=1000
 CI:∃rank:Int->Nat,∀i,0<=i->0<=(kn.r i).fr->rank (kn.r i).fr<rank i
end
section
variable{f:tp->tp}
variable{j r:ag}{m p:bh}{k b n:Nat}{h ks:E}{kn q:Kn}{i d t o B:Int}{l:tp->tp}
def me.jB(a:me j m k b h ks kn):aS m b 0=some h.v/\aS m b 1=some ks.v:=⟨a.bV.dx 0,a.bV.dx 1⟩
def Qa(a:0<=i)(b:i<kn.aU.length)(c:l (kn.r i)=kn.r i):kn.th i l=kn:=by
 have e:(kn.th i l).aU=kn.aU:=by
  rw[XE a b,c];apply fq;grind [List.getElem?_set_self,Bq,List.getElem?_set_ne]
 cases kn;simp only[Kn.th]at e⊢;rw[e]
theorem Bt:(kn.th i f).th i l=kn.th i λr=>l (f r):=by
 grind [Kn.th,Function.comp_def]
def OY(a:0<=i)(b:i<kn.aU.length)(c:f (kn.r i)=l (kn.r i)):kn.th i f=kn.th i l:=by
 unfold Kn.th;congr 1;apply fq;grind [Bq]
def vy.ok(h:nY kn n B)(w:vy kn q):nY q n B:=by
 let⟨b,c⟩:=h.CI;refine⟨w.aT.trans h.aT,λi a=>by rw[w.bI i a];exact h.bI i a,λi a=>?_,λi a=>?_,b,λi a e=>?_⟩
 .grind [nY.fr,vy.fr]
 .grind [nY.lF,vy.lF]
 .grind [vy.fr]
theorem nY.aP(h:nY kn n B){a:Int}(c:B<=a):nY kn n a:=⟨h.aT,λi b=>⟨(h.bI i b).1,Int.le_trans (h.bI i b).2 c⟩,h.fr,h.lF,h.CI⟩
theorem nY.iJ(h:nY kn n B)(b:0<=i/\i<n){e B':Int}(g:B<=B')(k:0<=(kn.r i).bI+e/\(kn.r i).bI+e<=B'):nY (kn.iJ i e) n B':=by
 let⟨f,d⟩:=h.CI;have c:=h.aT;have R:∀{j:Int},0<=j->(kn.iJ i e).r j={kn.r j with bI:=(kn.r j).bI+if j=i then e else 0}:=λa=>yH ⟨b.1,V⟩ a;refine⟨by rw[rf,c],λj a=>?_,λj a=>by rw[R a];exact h.fr j a,λj a=>by rw[R a];exact h.lF j a,f,λj a q=>by rw[R a]at q⊢;exact d j a q⟩;have:=h.bI j a;grind
def nY.dX(h:nY kn n B)(hd:0<=d/\d<n){B':Int}(g:B<=B')(c:0<=o/\o<=B'):nY (kn.dX d t o) n B':=by
 let⟨f,i⟩:=h.CI;have b:=h.aT;have R:∀{j:Int},0<=j->(kn.dX d t o).r j=if j=d then⟨t,o,false,-1,-1,-1⟩else uf d (kn.r j):=by grind [U6]
 have C:∀r:tp,(uf d r).bI=r.bI/\(uf d r).lF=r.lF/\((uf d r).fr=r.fr\/(uf d r).fr= -1):=λr=>by
  grind [uf]
 refine⟨by rw[BA,b],λj a=>?_,λj a=>?_,λj a=>?_,f,λj a q=>?_⟩
 .rw[R a];split
  .exact c
  .rw[(C _).1];have:=h.bI j a;omega
 .rw[R a];split
  .grind
  .have:=h.fr j a;rcases(C (kn.r j)).2.2 with e|e<;>omega
 .rw[R a];split
  .grind
  .rw[(C _).2.1];exact h.lF j a
 .rw[R a]at q⊢;split at q
  .simp at q
  grind [Kn.r]
def Z5(hd:0<=d/\d<kn.aU.length){j:Int}(a:0<=j):((kn.dX d t o).r j).fr≠d:=by
 grind [U6,uf]
def nY.GH(h:nY kn n B)(hd:0<=d/\d<n){a f:Int}(i:0<=a/\a<n/\a≠d)(k:∀j,0<=j->(kn.r j).fr≠d):nY (kn.GH d a f) n B:=by
 let⟨c,l⟩:=h.CI;have e:=h.aT;have R:∀{j:Int},0<=j->(kn.GH d a f).r j=if j=d/\j<kn.aU.length then{kn.r j with fr:=a,Ea:=f}else kn.r j:=λb=>Kz hd.1 b
 refine⟨by unfold Kn.GH;rw[lQ,e],λj b=>?_,λj b=>?_,λj b=>?_,λj=>if j=d then c a+1 else c j,λj b q=>?_⟩
 .grind [nY.bI]
 .grind [nY.fr]
 .rw[R b];split<;>exact h.lF j b
 .rw[R b]at q⊢;by_cases g:j=d
  .grind
  grind [Kn.r]
def nY.jx(h:nY kn n B){c:Int}(b:0<=i)(e: -1<=c/\c<=1000):nY (kn.jx i c) n B:=by
 let⟨d,f⟩:=h.CI;have R:∀{j:Int},0<=j->(kn.jx i c).r j=if j=i/\j<kn.aU.length then{kn.r j with lF:=c}else kn.r j:=λa=>Kz b a
 refine⟨by unfold Kn.jx;rw[lQ,h.aT],λj a=>?_,λj a=>?_,λj a=>?_,d,λj a q=>?_⟩
 .grind [nY.bI]
 .grind [nY.fr]
 .grind [nY.lF]
 .grind
def nY.eO(h:nY kn n B){l:ab}:nY {kn with eO:=l} n B:=⟨h.aT,h.bI,h.fr,h.lF,h.CI⟩
def oE(c:me j m k b h ks kn)(g:nY kn n B)(t:i<n):bK dO 155 [vp b 0,vi i] m λx p=>∃r:Bool,x=vb r/\p=m/\(r=true<->0<=i/\ru kn i):=by
 let⟨w,u⟩:=g.CI;apply Bl (b,0);simp -zeta only;refine⟨λa M=>M=m/\a<n/\(0<=a/\ru kn a<->0<=i/\ru kn i),λa _=>if 0<=a then w a+1 else 0,⟨O,t,Rb⟩,?_⟩;rintro a M ⟨rfl,C,f⟩;have D:=g.aT;have E:=c.GJ;refine⟨λhd=>?_,λhd=>⟨false,O,O,λe=>(by cases e),λc=>by have:=f.2 c;simp at hd;omega⟩⟩;simp only[bg]at hd;let⟨y,g1,g2,z,s,A⟩:=c.dx hd V;refine⟨h,c.jB.1,hd,V,_,g1,λe=>?_,λe=>?_⟩
 .simp only[bg]at e;exact⟨true,O,O,λ_=>f.1 ⟨hd,.wA (bC e)⟩,λ_=>O⟩
 have q:¬0<(kn.r a).bI:=sp e;refine⟨h,c.jB.1,hd,V,_,g2,λe=>⟨true,O,O,λ_=>f.1 ⟨hd,.wA (bR e)⟩,λ_=>O⟩,λe=>?_⟩;have v:0<=(kn.r a).fr/\ru kn (kn.r a).fr<->0<=a/\ru kn a:=⟨λc=>⟨hd,.qe c.1 c.2⟩,λc=>by
  rcases c.2 with d|⟨l,o⟩
  .rcases d with d|d
   .exact absurd d q
   .rw[d]at e;cases e
  .exact⟨l,o⟩⟩
 refine⟨h,c.jB.1,hd,V,_,s,⟨O,g.fr a hd,v.trans f⟩,?_⟩;simp only[hd,yf];split
 .rename_i d;have:=u a hd d;omega
 .omega
def sH(q:∀b,m.size<=b->j b=0)(c:me j m k b h ks kn)(f:nY kn n B)(y:B<=1000000000)(a:0<=i)(z:i<n):
 bK dO 156 [vp b 0,vi i] m λv p=>∃r:Bool,v=vb r/\me j p k b h ks (kn.iJ i (-1))/\dI (·=k) j m j p/\(r=true<->0<=((kn.iJ i (-1)).r i).bI):=by
 have A:=f.aT
 have D:=c.GJ
 have C:=f.bI i a
 let⟨t,g1,g2,u,w,x⟩:=c.dx a V
 apply CT (b,0)
 simp -zeta only
 have s:eI ((kn.r i).bI -1)=(kn.r i).bI+ -1:=iz
 refine⟨h,c.jB.1,a,V,_,g1,a,V,c.wr a V V,?_⟩
 intro e
 have d:me j e k b h ks (kn.iJ i (-1)):=c.cG (g:=λr=>{r with bI:=r.bI+ -1}) a V bO (by rw[s];rfl)
 have l:dI (·=k) j m j e:=c.qF q _
 obtain⟨_,o,_⟩:=d.dx a (by rw[rf];omega)
 refine⟨h,d.jB.1,a,V,_,o,_,O,d,l,?_⟩
 simp
def vY(d:Int):Nat->Kn->Kn
 |0,k=>k
 |j+1,k=>(vY d j k).th j (uf d)
def Sd:∀j,(vY d j kn).aU.length=kn.aU.length
 |0=>O
 |j+1=>by rw[vY,lQ,Sd j]
def PE:∀j,(vY d j kn).eO=kn.eO
 |0=>O
 |j+1=>by rw[vY,Kn.th];exact PE j
theorem Sc:∀(j q:Nat),(vY d j kn).aU[q]? =if q<j then(kn.aU[q]?).map (uf d)else kn.aU[q]?
 |0,q=>by simp[vY]
 |j+1,q=>by
  rw[vY,Kn.th];simp only[aeN,Sc j q];grind [False]
def Ym{a:Nat}(b:a=kn.aU.length):(vY d a kn).aU=kn.aU.map (uf d):=by
 apply fq;grind [Sc,List.getElem?_eq_none]
end
section
variable{c r:ag}{e p:bh}{h b q:Nat}{f ks:E}{kn v:Kn}{u a t l B:Int}{s:tp->tp}
def xr:bK dO 58 [] e λv p=>v=.agg #[vi (-1),vi 0,vb false,vi (-1),vi (-1),vi (-1)]/\D e p:=by
 apply CZ;unfold xt;simp -zeta only[dR];intro a c;have f:=pz a;have d:=px a;refine⟨trivial,by simp only[c,bD];omega,λj b=>?_⟩;rw[cq _ _ _ _ V];exact d.bG j b
def qj(K:∀b,e.size<=b->c b=0)(s:me c e h b f ks kn)(hd:0<=a/\a<kn.aU.length):
 bK dO 158 [vp b 0,vi a,vi t,vi l] e λaa p=>∃r:Bool,aa=vb r/\dI (·=h) c e c p/\(r=true->(kn.r a).bI<=0/\me c p h b f ks (kn.dX a t l))/\((kn.r a).bI<=0->r=true):=by
 have ac:=s.GJ
 have hs:=s.ju
 obtain⟨g0,g1,g2,g3,g4,g5⟩:=s.dx hd.1 hd.2
 apply El (b,0)
 simp -zeta only
 refine⟨f,s.jB.1,hd.1,V,_,g1,λw=>⟨false,O,dI.cT _ K,λw=>(by cases w),λs=>by simp at w;omega⟩,λw=>?_⟩
 have w:(kn.r a).bI<=0:=cB
 refine⟨f,s.jB.1,(xr (e:=e)).aP ?_⟩
 rintro _ L ⟨rfl,E⟩
 have F:dI (·=h) c e c L:=dI.fB E K
 have A:me c L h b f ks kn:=s.ext E
 refine⟨-1,0,false,-1,-1,-1,O,E.cZ s.jB.1,hd.1,V,by have:=A.wr (o:=0) (n:=6) hd.1 hd.2 V;simpa using this,?_⟩
 intro N
 have x:me c N h b f ks (kn.th a λ_=>⟨-1,0,false,-1,-1,-1⟩):=A.cG (o:=0) (g:=λ_=>⟨-1,0,false,-1,-1,-1⟩) hd.1 hd.2 bO O
 have G:dI (·=h) c e c N:=F.J (A.qF F.bF _)
 have l2:(kn.th a λ_=>⟨-1,0,false,-1,-1,-1⟩).aU.length=kn.aU.length:=lQ
 refine⟨f,x.jB.1,f,x.jB.1,hd.1,V,by have:=x.wr (o:=0) (n:=1) hd.1 V V;simpa using this,?_⟩
 intro P
 have B:me c P h b f ks ((kn.th a λ_=>⟨-1,0,false,-1,-1,-1⟩).th a λr=>{r with lS:=t}):=x.cG (o:=0) (g:=λr=>{r with lS:=t}) hd.1 V bO O
 have H:dI (·=h) c e c P:=G.J (x.qF G.bF _)
 have l3:=lQ (k:=kn.th a λ_=>⟨-1,0,false,-1,-1,-1⟩) (j:=a) (g:=λr=>{r with lS:=t})
 refine⟨hd.1,V,B.wr (o:=1) hd.1 V V,?_⟩
 intro Q
 have z:=B.cG (o:=1) (new:=[.i l]) (g:=λr=>{r with bI:=l}) hd.1 V bO O
 have W:dI (·=h) c e c Q:=H.J (B.qF H.bF _)
 have Y:(((kn.th a λ_=>⟨-1,0,false,-1,-1,-1⟩).th a λr=>{r with lS:=t}).th a λr=>{r with bI:=l})={kn with aU:=kn.aU.set a.toNat ⟨t,l,false,-1,-1,-1⟩}:=by
  simp only[Kn.th];congr 1;apply fq;intro v;simp only[aeN];by_cases J:a.toNat=v
  .grind [List.getElem?_set_self,Bq]
  .rw[eu J];simp[J]
 rw[Y]at z
 change me c Q h b f ks _ at z
 refine⟨f,z.jB.1,gP (n:=kn.aU.length) V (λq M=>me c M h b f ks (vY a q {kn with aU:=kn.aU.set a.toNat ⟨t,l,false,-1,-1,-1⟩})/\dI (·=h) c e c M) ⟨z,W⟩ ?_⟩
 rintro q M ab μ hj ⟨u,y⟩ T
 have lj:(vY a q {kn with aU:=kn.aU.set a.toNat ⟨t,l,false,-1,-1,-1⟩}).aU.length=kn.aU.length:=by rw[Sd];simp
 refine dit (λU=>?_) λU=>?_
 .obtain⟨_,_,_,_,Z,_⟩:=u.dx (i:=q) V V
  refine⟨f,u.jB.1,V,V,_,Z,λv=>?_,λv=>?_⟩
  .simp only[bP]at v
   refine⟨f,u.jB.1,f,u.jB.1,V,V,u.wr V V V,?_⟩
   intro R
   have C:me c R h b f ks _:=u.cG (i:=q) (o:=4) (new:=[.i (-1)]) (g:=λr=>{r with fr:=-1}) V V bO O
   have I:dI (·=h) c e c R:=y.J (u.qF y.bF _)
   have l5:=lQ (k:=vY a q {kn with aU:=kn.aU.set a.toNat ⟨t,l,false,-1,-1,-1⟩}) (j:=q) (g:=λr=>{r with fr:=-1})
   refine⟨V,V,C.wr V V V,?_⟩
   intro S
   have D:=C.cG (i:=q) (o:=5) (new:=[.i (-1)]) (g:=λr=>{r with Ea:=-1}) V V bO O
   have X:dI (·=h) c e c S:=I.J (C.qF I.bF _)
   change me c S h b f ks _ at D
   refine T V _ ⟨?_,X⟩
   rw[vY]
   rw[Bt]at D
   rw[OY (l:=λr=>{r with fr:=-1,Ea:=-1}) V V (by unfold uf;rw[bn v])]
   exact D
  .simp only[ba,ne_eq]at v
   refine T V _ ⟨?_,y⟩
   rw[vY,Qa V V (by unfold uf;rw[aW v])];exact u
 .have:q=kn.aU.length:=V
  refine⟨true,O,y,λ_=>⟨w,?_⟩,λ_=>O⟩
  have I:vY a q {kn with aU:=kn.aU.set a.toNat ⟨t,l,false,-1,-1,-1⟩}=kn.dX a t l:=by
   have C:=Ym (kn:={kn with aU:=kn.aU.set a.toNat ⟨t,l,false,-1,-1,-1⟩}) (d:=a) (a:=q) cB;have D:=PE (kn:={kn with aU:=kn.aU.set a.toNat ⟨t,l,false,-1,-1,-1⟩}) (d:=a) q;unfold Kn.dX;revert C D;generalize vY a q _=kj;intro C D;cases kj;grind
  grind
def zw{s:E}{a:List ae}(d:s.len=q)(c:a.length=q)(f:∀b∈a,b.length=6)(b:jF e s.bu s.off a.flatten)(g:q<=1000000000):
 bK dO 154 [s.v] e λv p=>∃r,v=r.v/\jw e p rp 6 r a.flatten/\D e p:=by
 apply od
 exact VX (b:=[.i 0,.i 0,.t false,.i 0,.i 0,.i 0]) d c f b V
def rG(v:∀b,e.size<=b->c b=0)(a:me c e h b f ks kn)(q:Nat):
 bK dO 108 [vp b 0] e λB p=>∃r l A z,B=vp l 0/\me r p q l A z kn/\dI (λ_=>False) c e r p:=by
 have w:=a.GJ
 have x:=a.ju
 have u:=a.zq
 apply Bm (b,0)
 simp -zeta only
 refine⟨f,a.jB.1,ks,a.jB.2,(zw w bO (KH _) a.aU.kY V).aP ?_⟩
 rintro _ E ⟨o,rfl,o1,k⟩
 obtain⟨F,m,t,_⟩:=jw.KJ o1 k v q
 have y:=(a.ext k).eO.oL V
 refine⟨o,O,k.cZ a.jB.2,(gT y V).aP ?_⟩
 rintro _ d ⟨s,rfl,o2,C⟩
 obtain⟨j,g,a2,_⟩:=jw.KJ o2 C m.bF q
 refine⟨s,O,?_⟩
 intro n
 obtain⟨D,G⟩:=pu n
 have i:dI (λ_=>False) j d (oG j d.size q) n:=dI.oG D g.bF bY V q
 refine⟨oG j d.size q,d.size,o,s,O,⟨dF.push d _ _,gU,(t.fN g id).fN i id,a2.fN i id,x,u⟩,(m.J g).J i⟩
end
section
def ZF(b r:tp):tp:=if r.lS≠b.lS then{r with lS:=-1}else r
def ZG(b r:tp):tp:=if r.lF≠b.lF\/r.lS<0 then{r with lF:=-1}else r
def ZH(b r:tp):tp:=if r.fr≠b.fr\/r.Ea≠b.Ea\/r.lS<0 then{r with fr:=-1,Ea:=-1}else r
def jn4(b r:tp):tp:={r with df:=r.df&&b.df}
def jn(b r:tp):tp:=jn4 b (ZH b (ZG b (ZF b r)))
def mL(a:Kn):Nat->Kn->Kn
 |0,k=>k
 |j+1,k=>(mL a j k).th j (jn (a.r j))
variable{f h:ag}{m e:bh}{k b n:Nat}{j ks:E}{kn c a:Kn}{i d t o B:Int}{g:tp->tp}
theorem Tn(a:0<=i)(b:i<kn.aU.length):(kn.th i g).r i=g (kn.r i):=by grind [Kz]
def xy:∀j,(mL a j kn).aU.length=kn.aU.length
 |0=>O
 |j+1=>by rw[mL,lQ,xy j]
def Es:∀j,(mL a j kn).eO=kn.eO
 |0=>O
 |j+1=>by rw[mL,Kn.th];exact Es j
theorem P1:∀(j:Nat){i:Int},0<=i->(mL a j kn).r i=if i<j/\i<kn.aU.length then jn (a.r i) (kn.r i)else kn.r i
 |0,i,b=>by rw[aW V];rfl
 |j+1,i,b=>by
  rw[mL,Kz V b,P1 j b,xy];grind [List.length]
theorem Qp(h:¬i<kn.aU.length):kn.r i=yu:=by
 grind [Kn.r,List.getElem?_eq_none]
theorem ZJ(b r:tp):(jn b r).bI=r.bI:=by grind [jn,jn4,ZH,ZG,ZF]
theorem ZK(b r:tp):((jn b r).lS=r.lS/\r.lS=b.lS)\/(jn b r).lS= -1:=by
 grind [jn,jn4,ZH,ZG,ZF]
theorem ZI(b r:tp):((jn b r).lF=r.lF/\r.lF=b.lF)\/(jn b r).lF= -1:=by
 grind [ZH,ZF,jn,jn4,ZG]
theorem abK(b r:tp):((jn b r).fr=r.fr/\(jn b r).Ea=r.Ea/\r.fr=b.fr/\r.Ea=b.Ea)\/(jn b r).fr= -1:=by
 grind [ZG,ZF,jn,jn4,ZH]
theorem Xv(b r:tp):(jn b r).df=(r.df&&b.df):=by
 grind [ZH,ZG,ZF,jn,jn4]
def Yt(d:kn.aU.length=a.aU.length)(c:kn.eO=a.eO)(e:∀j:Nat,j<kn.aU.length->(kn.r j).bI=(a.r j).bI):vy kn (mL a kn.aU.length kn)/\vy a (mL a kn.aU.length kn):=by
 have R:∀{i:Int},0<=i->(mL a kn.aU.length kn).r i=if i<kn.aU.length then jn (a.r i) (kn.r i)else kn.r i:=λ{i} b=>by
  grind [P1]
 have E:∀{i:Int},0<=i->(kn.r i).bI=(a.r i).bI:=λ{i} b=>by
  by_cases h:i<kn.aU.length
  .have:=e i.toNat V;grind
  .grind [Qp]
 have N:∀{i:Int},0<=i->¬i<kn.aU.length->kn.r i=a.r i:=by grind [Qp]
 refine⟨⟨xy _,λi b=>?_,λi b=>?_,λi b=>?_,λi b=>?_,λi b=>?_,Es _⟩,⟨(xy _).trans d,λi b=>?_,λi b=>?_,λi b=>?_,λi b=>?_,λi b=>?_,(Es _).trans c⟩⟩
 .grind [ZJ]
 .grind [ZK]
 .grind [ZI]
 .grind [abK]
 .grind [Xv]
 .grind [ZJ]
 .grind [ZK]
 .grind [ZI]
 .grind [abK]
 .grind [Xv]
end
section
variable{j:bh}{f:tp->tp}{c:Nat}{K:bh->Prop}
variable{e u:ag}{m l:bh}{k q b p n:Nat}{a ks s r:E}{kn h:Kn}{i d t o B:Int}{g:tp->tp}
def nA(e:ag)(m:bh)(k b:Nat)(a ks:E)(kn:Kn)(i:Int)(j:bh)(g:tp->tp):Prop:=me e m k b a ks (kn.th i g)/\dI (·=k) e j e m
def nA.cG{j:bh}(h:nA e m k b a ks kn i j g)(c:0<=i)(d:i<kn.aU.length){o:Nat}{new:ae}{f:tp->tp}(n:o+new.length<=6)(l:kH (Bz (g (kn.r i))) o new=Bz (f (g (kn.r i)))):
 nA e (aV m a.bu (a.off+i.toNat*6+o) new) k b a ks kn i j λr=>f (g r):=by
 refine⟨?_,h.2.J (h.1.qF h.2.bF _)⟩
 have:=h.1.cG (i:=i) (o:=o) (new:=new) (g:=f) c (by rw[lQ];exact d) n (by rw[Tn c d];exact l)
 rwa[Bt]at this
def nA.bG(h:nA e m k b a ks kn i j g)(c:0<=i)(d:i<kn.aU.length)(n:f (g (kn.r i))=g (kn.r i)):nA e m k b a ks kn i j λr=>f (g r):=by
 refine⟨?_,h.2⟩;have l:kn.th i (λr=>f (g r))=kn.th i g:=by
  rw[<-Bt,Qa c (by rw[lQ];exact d) (by rw[Tn c d];exact n)]
 rw[l];exact h.1
def nA.eqv(h:nA e m k b a ks kn i j g)(c:0<=i)(d:i<kn.aU.length)(l:f (kn.r i)=g (kn.r i)):nA e m k b a ks kn i j f:=by
 refine⟨?_,h.2⟩;rw[OY c d l];exact h.1
def nA.dx{j:bh}(h:nA e m k b a ks kn i j g)(c:0<=i)(d:i<kn.aU.length):aS m a.bu (a.off+i.toNat*6)=some (vi (g (kn.r i)).lS)/\aS m a.bu (a.off+i.toNat*6+1)=some (vi (g (kn.r i)).bI)/\aS m a.bu (a.off+i.toNat*6+2)=some (vb (g (kn.r i)).df)/\
 aS m a.bu (a.off+i.toNat*6+3)=some (vi (g (kn.r i)).lF)/\aS m a.bu (a.off+i.toNat*6+4)=some (vi (g (kn.r i)).fr)/\aS m a.bu (a.off+i.toNat*6+5)=some (vi (g (kn.r i)).Ea):=by
 have:=h.1.dx (i:=i) c (by rw[lQ];exact d)
 grind [Tn]
theorem nA.wr{j:bh}(h:nA e m k b a ks kn i j g)(c:0<=i)(d:i<kn.aU.length){o n:Nat}(f:o+n<=6):jb m a.bu (a.off+i.toNat*6+o) n:=h.1.wr c (by rw[lQ];exact d) f
theorem nA.eW(n:nA e m k b a ks kn i j g){l:bh}{h:tp->tp}(o:nA e l k b a ks kn i j h)(d:c<j.size)(f:e c≠k):gS [c] m l:=λx p=>by
 have:x=c:=sp p;subst this;rw[n.2.fQ x d f,o.2.fQ x d f]
def nA.mM{o:Nat}{x:Ce}(n:nA e m k b a ks kn i j g)(d:0<=i)(h:i<kn.aU.length)(t:c<j.size)(u:e c≠k)(q:o+1<=6)(p:kH (Bz (g (kn.r i))) o [x]=Bz (f (kn.r i)))
 (s:∀M,nA e M k b a ks kn i j f->K M):jb m a.bu (a.off+i.toNat*6+o) 1/\let l:=aV m a.bu (a.off+i.toNat*6+o) [x];gS [c] m l/\K l:=by
 have T:=n.cG d h (o:=o) (new:=[x]) (f:=λ_=>f (kn.r i)) q p
 have r:=T.eqv d h (f:=f) O
 grind [nA.wr,nA.eW]
def nA.ry(t:nA e m k b a ks kn i j g)(h:0<=i)(l:i<kn.aU.length)(n:c<j.size)(p:e c≠k)(v:f (kn.r i)={g (kn.r i)with fr:=-1,Ea:=-1})
 (u:∀M,nA e M k b a ks kn i j f->K M):jb m a.bu (a.off+i.toNat*6+4) 1/\let d:=aV m a.bu (a.off+i.toNat*6+4) [.i (-1)];gS [c] m d/\jb d a.bu (a.off+i.toNat*6+5) 1/\let q:=aV d a.bu (a.off+i.toNat*6+5) [.i (-1)];gS [c] d q/\K q:=by
 obtain⟨s,a2,T⟩:=t.mM (o:=4) (x:=.i (-1)) (f:=λr=>{g r with fr:=-1}) (K:=λM=>nA e M k b a ks kn i j λr=>{g r with fr:=-1}) h l n p V O (λ_=>id)
 refine⟨s,a2,?_⟩
 exact T.mM (o:=5) (x:=.i (-1)) (f:=f) h l n p V (by rw[v];rfl) u
def Y1(kn h:Kn):Prop:=kn.eO=h.eO/\∀j:Nat,j<kn.aU.length->(kn.r j).bI=(h.r j).bI
def II(hn:∀b,m.size<=b->e b=0)(d:me e m k b a ks kn)(H:me e m q p s r h)(hl:kn.aU.length=h.aU.length)(hk:k≠0)(ae:q≠k):
 bK dO 161 [vp b 0,vp p 0] m λag l=>∃z:Bool,ag=vb z/\dI (·=k) e m e l/\(z=true->me e l k b a ks (mL h kn.aU.length kn)/\vy kn (mL h kn.aU.length kn)/\vy h (mL h kn.aU.length kn))/\(z=true<->Y1 kn h):=by
 have aj:=d.GJ
 have ak:=H.GJ
 have hs:=d.ju
 have s1:=d.zq
 have s2:=H.zq
 apply CS (b,0) (p,0)
 simp -zeta only[dR]
 refine⟨ks,d.jB.2,r,H.jB.2,(kA (d.eO.oL V) (H.eO.oL V)).aP ?_⟩
 rintro _ m1 ⟨z,rfl,y,U⟩
 have Y:dI (·=k) e m e m1:=dI.fB U hn
 refine⟨z,O,λu=>⟨false,O,Y,λu=>(by cases u),λu=>(by cases u),λd=>absurd d.1 (nb y u)⟩,λu=>?_⟩
 have aa:=yb y u
 refine⟨a,(d.ext U).jB.1,gP (n:=kn.aU.length) V (λj M=>me e M k b a ks (mL h j kn)/\dI (·=k) e m e M/\∀B:Nat,B<j->(kn.r B).bI=(h.r B).bI) ⟨d.ext U,Y,V⟩ ?_⟩
 rintro j M ab μ hj ⟨I,G,T⟩ af
 have J:me e M q p s r h:=H.fN G ae
 refine dit (λac=>?_) λac=>?_
 .have ai:(j:Int)<kn.aU.length:=V
  have lj:(mL h j kn).aU.length=kn.aU.length:=xy j
  have Z:(mL h j kn).r j=kn.r j:=by rw[P1 j V,aW V]
  obtain⟨f0,f1,f2,f3,f4,f5⟩:=J.dx (i:=j) V V
  refine⟨a,I.jB.1,V,V,s,J.jB.1,V,V,_,f0,_,f1,_,f2,_,f3,_,f4,_,f5,?_⟩
  intro P
  have z2:=pz P
  have W:=px P
  have L1:=I.bV.lt
  have L2:=J.bV.lt
  have E:=(J.aU.bu J.ac8).1
  have A:∀{c:Nat},c<M.size->∀o,aS P c o=aS M c o:=λw o=>bE (W.bG _ w) o
  have ah:=I.ext W
  have r0:e M.size=0:=G.bF _ bY
  clear_value P
  refine⟨A E _,A E _,A E _,A E _,A E _,A E _,A L2 _,A L1 _,?_⟩
  intro v
  have z3:v.size=M.size+1:=by simp only[v,bD];omega
  have x3:D M v:=⟨V,λc w=>by simp only[v];rw[cq _ _ _ _ V];exact W.bG c w⟩
  clear_value v
  have ad:=I.ext x3
  have S:dI (·=k) e m e v:=G.J (dI.fB x3 G.bF)
  have Q:nA e v k b a ks (mL h j kn) j v id:=⟨by rw[Qa V V O];exact ad,dI.cT _ S.bF⟩
  have f:(0:Int)<=j:=V
  have g:(j:Int)<(mL h j kn).aU.length:=V
  have w:M.size<v.size:=V
  have y:e M.size≠k:=by rw[r0];exact hk.symm
  obtain⟨t0,t1,_⟩:=Q.dx f g
  refine⟨_,t1,λB=>⟨false,O,S,λu=>(by cases u),λu=>(by cases u),λd=>by
   have t:=d.2 j V;rw[<-Z]at t;simp only[id,TW,ne_eq]at B;exact absurd t B⟩,λB=>⟨λN=>nA e N k b a ks (mL h j kn) j v (ZF (h.r j)),⟨_,t0,λt=>?_,λt=>?_⟩,?_⟩⟩
  .exact Q.mM (o:=0) (x:=.i (-1)) f g w y V (by unfold ZF;rw[bn (sp t)];rfl) λ_=>id
  .exact Q.eqv f g (by unfold ZF;rw[aW (sp t)];rfl)
  intro N1 L
  obtain⟨u0,_,_,u3,_,_⟩:=L.dx f g
  refine⟨λN=>nA e N k b a ks (mL h j kn) j v λz=>ZG (h.r j) (ZF (h.r j) z),⟨_,u3,λt=>?_,λt=>⟨_,u0,λC=>?_,λC=>?_⟩⟩,?_⟩
  .exact L.mM (o:=3) (x:=.i (-1)) f g w y V (by unfold ZG;rw[bn (bC (sp t))];rfl) λ_=>id
  .exact L.mM (o:=3) (x:=.i (-1)) f g w y V (by unfold ZG;rw[bn (bR (sp C))];rfl) λ_=>id
  .exact L.eqv f g (by unfold ZG;rw[aW (λd=>d.elim (sp t) (sp C))])
  intro N2 F
  obtain⟨w0,_,_,_,w4,w5⟩:=F.dx f g
  refine⟨λN=>nA e N k b a ks (mL h j kn) j v λz=>ZH (h.r j) (ZG (h.r j) (ZF (h.r j) z)),⟨_,w4,λt=>?_,λt=>⟨_,w5,λC=>?_,λC=>⟨_,w0,λp2=>?_,λp2=>?_⟩⟩⟩,?_⟩
  .exact F.ry f g w y (by unfold ZH;rw[bn (bC (sp t))]) λ_=>id
  .exact F.ry f g w y (by unfold ZH;rw[bn (bR (bC (sp C)))]) λ_=>id
  .exact F.ry f g w y (by unfold ZH;rw[bn (bR (bR (sp p2)))]) λ_=>id
  .exact F.eqv f g (by unfold ZH;rw[aW (λd=>d.elim (sp t) λd=>d.elim (sp C) (sp p2))])
  intro N3 R
  obtain⟨_,_,v2,_⟩:=R.dx f g
  have kG:∀N,nA e N k b a ks (mL h j kn) j v (jn (h.r j))->ab (eI ((j:Int)+1)) N/\μ (eI ((j:Int)+1)) N<μ j M:=λN X=>
   af V N ⟨X.1,S.J X.2,λK hq=>by
    by_cases u:K=j
    .subst u;have:(id ((mL h K kn).r K)).bI=(h.r K).bI:=sp B;rw[id,Z]at this;exact this
    .exact T K V⟩
  refine⟨_,v2,λt=>?_,λt=>?_⟩
  .exact R.mM (o:=2) f g w y V (by show kH (Bz _) 2 [.t _]=Bz (jn4 _ _);unfold jn4;rw[t];simp[Bz,kH]) kG
  .exact R.mM (o:=2) f g w y V (by show kH (Bz _) 2 [.t _]=Bz (jn4 _ _);unfold jn4;rw[t];simp[Bz,kH]) kG
 .have f:j=kn.aU.length:=V
  subst f
  obtain⟨g,t⟩:=Yt hl aa T
  exact⟨true,O,G,λ_=>⟨I,g,t⟩,λ_=>⟨aa,T⟩,λ_=>O⟩
end
section
def HJ(e:ag)(m:bh)(w:Nat)(B:Int)(i:Nat):Option (Nat×Nat)->Option Kn->Prop
 |none,none=>True
 |some q,some kn=>q.2=0/\∃u ks,me e m (10+i) q.1 u ks kn/\nY kn w B
 |_,_=>False
@[grind cases] structure rc (m0:bh) (ro:ag) (m:bh) (v:Nat) (d f a l c bs:E) (p:eE) (L:aq) (B:Int):Prop where
 cV:Bs m0 ro m
 bV:dF m v jg [.s d,.s f,.s a,.s l,.i p.bQ,.i p.aU,.s c,.s bs]
 jt:ro v=4
 jH:∃Q:List (Option (Nat×Nat)),Q.length=L.length/\iE ro m nJ 1 3 bs (Q.map Ce.pp)/\∀(i:Nat) q o,Q[i]? =some q->L[i]? =some o->HJ ro m p.aU.toNat B i q o
 aT:1<=L.length/\L.length<=1000000
open Classical in
noncomputable def wY (L:aq) (kn:Kn) (i:Nat):Option aq:=
 match L[i]? with
 |some none=>some (L.set i (some kn))
 |some (some old)=>if Y1 old kn then some (L.set i (some (mL kn old.aU.length old)))else none
 |none=>none
variable{k m r:bh}{e s:ag}{v b w:Nat}{d f a l c h u ks:E}{p:eE}{L:aq}{B:Int}{kn t:Kn}{g:Int}{q:Option (Nat×Nat)}{j:Option Kn}{i:Nat}
theorem HJ.fN{P:Nat->Prop}(h:HJ e m w B i q j)(d:dI P e m s r)(f:¬P (10+i)):HJ s r w B i q j:=by
 cases q<;>cases j<;>first|exact h|skip
 let⟨a,u,ks,b,c⟩:=h;exact⟨a,u,ks,b.fN d f,c⟩
theorem HJ.aP{a:Int}(h:HJ e m w B i q j)(f:B<=a):HJ e m w a i q j:=by
 cases q<;>cases j<;>first|exact h|skip
 let⟨b,u,ks,c,d⟩:=h;exact⟨b,u,ks,c,d.aP f⟩
theorem rc.aP{b:Int}(g:rc k e m v d f a l c h p L B)(i:B<=b):rc k e m v d f a l c h p L b:=by
 constructor<;>grind [rc.jH,rc.cV,rc.bV,rc.jt,HJ.aP,rc.aT]
theorem Bs.SR{P:Nat->Prop}(B:Bs k e m)(h:dI P e m s r)(c:¬P 0):Bs k s r:=
 ⟨⟨fC B.cV.aQ h.aQ,λb a=>(h.fQ b (B.cV.lt a) cB).trans (B.cV.bG b a)⟩,λb a=>by rw[h.jt b (B.cV.lt a)];exact B.mq b a,h.bF⟩
def rc.fN{P:Nat->Prop}(g:rc k e m v d f a l c h p L B)(i:dI P e m s r)(j:∀b,P b->b=5\/b=7):rc k s r v d f a l c h p L B:=by
 constructor<;>grind [rc.jH,rc.cV,Bs.SR,rc.bV,dF.congr,dI.fQ,dF.lt,rc.jt,dI.jt,iE.fN,HJ.fN,rc.aT]
def tK(w:rc k e m v d f a l c h p L B)(X:me e m 5 b u ks kn)(ok:nY kn p.aU.toNat B)(P:0<=g/\g<L.length):
 bK dO 112 [vp v 0,vp b 0,vi g] m λaf r=>∃D s,af=vb D/\dI (λz=>z=3\/10<=z) e m s r/\(D=true->∃t,rc k s r v d f a l c h p (L.set g.toNat (some t)) B/\vy kn t/\(∀old,L[g.toNat]? =some (some old)->vy old t)/\wY L kn g.toNat=some (L.set g.toNat (some t)))/\(D=false->wY L kn g.toNat=none):=by
 let⟨Q,U,E,T⟩:=w.jH
 have Y:=w.aT
 have ah:h.len=Q.length:=by have:=E.aT;simp at this;omega
 have aa:h.cap≠0:=by have:=E.le;omega
 let⟨j,N⟩:=dU L g.toNat
 let⟨q,Z⟩:=dU Q g.toNat
 have W:aS m h.bu (h.off+g.toNat*1)=some (Ce.v (.pp q)):=by
  have:=E.kY g.toNat (.pp q) cB;grind
 have K:aS m v 7=some h.v:=w.bV.dx 7
 apply yp (v,0) (b,0)
 simp -zeta only
 have M:=T _ q j Z N
 refine⟨h,K,P.1,V,q,W,λx=>?_,λx=>?_⟩
 .have:q=none:=sp x
  subst this
  cases j with
  |some z=>exact M.elim
  |none=>
   refine⟨h,K,(rG w.cV.bF X (10+g.toNat)).aP ?_⟩
   rintro _ R ⟨F,b1,ac,ab,rfl,K1,y⟩
   have h1:=w.fN y (λ_=>False.elim)
   let⟨Q1,ag,H,ae⟩:=w.jH
   have H:=E.fN y id
   refine⟨some (b1,0),O,bE (y.fQ v w.bV.lt id) _,P.1,V,?_,?_⟩
   .have:=H.wr (o:=g.toNat) (n:=1) cB
    grind
   intro S
   have J:dI (·=3) F R F S:=dI.aV y.bF (H.bu aa).2 _ _
   have A:h.off+g.toNat*1=h.off+g.toNat:=V
   have ad:iE F S nJ 1 3 h (kH (Q.map Ce.pp) g.toNat [.pp (some (b1,0))]):=by
    have:=H.dX (o:=g.toNat) (new:=[.pp (some (b1,0))]) cB;grind
   have I:dI (λz=>z=3\/10<=z) e m F S:=(y.aP λ_=>False.elim).J (J.aP λ_ x=>bC x)
   refine⟨true,F,O,I,λ_=>⟨kn,⟨w.cV.SR I V,?_,(I.jt v w.bV.lt).trans w.jt,⟨Q.set g.toNat (some (b1,0)),by simp[U],?_,?_⟩,sp Y⟩,vy.cT _,λold x=>cB,by unfold wY;rw[N]⟩,λx=>by cases x⟩
   .grind [dF.congr]
   .grind [kH,List.map,List.map_set]
   .intro i q' o' C A
    by_cases G:g.toNat=i
    .subst G
     rw[ft V]at C A
     cases C;cases A
     exact⟨O,ac,ab,K1.fN J V,ok⟩
    .rw[eu G]at C A
     exact((T i q' o' C A).fN y id).fN J V
 .cases q with
  |none=>cases x
  |some q=>
   cases j with
   |none=>exact M.elim
   |some old=>
    let⟨H,ae,ac,F,ad⟩:=M
    let⟨qb,qo⟩:=q
    simp only at H F
    subst H
    refine⟨h,K,P.1,V,some (qb,0),W,(II w.cV.bF F X cB V V).aP ?_⟩
    rintro _ R ⟨D,rfl,y,hr,S⟩
    refine⟨D,O,D,e,O,y.aP λz x=>V,λx=>?_,λx=>?_⟩
    rotate_left
    .grind [wY]
    let⟨I,w1,w2⟩:=hr x
    generalize ab:mL kn old.aU.length old=t at*
    have J:dI (λz=>z=3\/10<=z) e m e R:=by grind [dI.aP]
    refine⟨t,⟨w.cV.SR J V,w.bV.congr (y.fQ v w.bV.lt cB),w.jt,⟨Q,by simp[U],E.fN y V,?_⟩,sp Y⟩,w2,λag e'=>cB,by unfold wY;rw[N];simp only[];rw[bn (S.1 x),ab]⟩
    intro i q' o' C A
    by_cases G:g.toNat=i
    .subst G
     rw[ft V]at A
     rw[Z]at C
     cases C;cases A
     exact⟨O,ae,ac,I,vy.ok ad w1⟩
    .grind [HJ.fN]
end
section
@[grind cases] structure Vx (m0:bh) (d f a l c:E) (im:da) (p:eE):Prop where
 ok:iB im
 ql:p∈im.di
 bT:dE m0 d im.bT
 mT:oW m0 f im.di
 aY:be m0 a p.aY
 df:be m0 l p.df
 eA:je m0 c p.eA
@[grind cases] structure Wk (m0:bh) (ro:ag) (m:bh) (b:Nat) (rs ks:E) (kn:Kn) (n:Nat) (B:Int):Prop where
 bs:Bs m0 ro m
 ql:me ro m 5 b rs ks kn
 ok:nY kn n B
def nC(u:Nat)(d:ap)(j:bh)(e:ag)(m:bh)(b:Nat)(k ks:E)(n:Nat)(B:Int)(Q:Kn->Prop)(F:Option Kn):Prop:=
 bK dO u d m λw q=>∃c r,w=vb c/\dI (·=5) e m r q/\(c=true->∃a,Wk j r q b k ks a n B/\Q a/\F=some a)/\(c=false->F=none)
open Classical in
noncomputable def P7 (h:da) (x:Instr) (kn:Kn):Option Kn:=
 if ru kn (bt x.aO 0)/\0<=(kn.r (bt x.aO 0)).lF/\x.cE<(cW h.bT (kn.r (bt x.aO 0)).lF).length/\(kn.r x.bH).bI<=0 then
  some (if x.bH=bt x.aO 0 then kn.dX x.bH (((cW h.bT (kn.r (bt x.aO 0)).lF)[x.cE.toNat]?).getD 0) 0 else(kn.dX x.bH (((cW h.bT (kn.r (bt x.aO 0)).lF)[x.cE.toNat]?).getD 0) 0).GH x.bH (bt x.aO 0) x.cE)
 else none
variable{j m q:bh}{e r:ag}{v b n H:Nat}{w u y z c G k ks A I:E}{h:da}{p:eE}{L:aq}{B F:Int}{kn C:Kn}{x:Instr}{s:Int}
def Wk.ext(h:Wk j e m b k ks kn n B)(a:D m q):Wk j e q b k ks kn n B:=⟨⟨h.bs.cV.J a,h.bs.mq,λc d=>h.bs.bF c (fC a.aQ d)⟩,h.ql.ext a,h.ok⟩
theorem Wk.of(h:Wk j e m b k ks kn n B)(a:dI (·=5) e m r q)(c:me r q 5 b k ks C)(d:nY C n F):Wk j r q b k ks C n F:=⟨h.bs.SR a cD,c,d⟩
def nC.no{K:Kn->Prop}{F:Option Kn}(f:dI (·=5) e m r q)(d:F=none):∃c r,vb false=vb c/\dI (·=5) e m r q/\(c=true->∃a,Wk j r q b k ks a n B/\K a/\F=some a)/\(c=false->F=none):=⟨false,r,O,f,λa=>(by cases a),λ_=>d⟩
def Vx.dm(C:Vx j w u y z c h p):eT h.bT:=C.ok.mT.dm
theorem yg.tL(b:x.op=19){k a:Kn}(c:ru k (bt x.aO 0))(d:0<=(k.r (bt x.aO 0)).lF)(g:(cW h.bT (k.r (bt x.aO 0)).lF)[x.cE.toNat]? =some s)(e:(k.r x.bH).bI<=0)
 (f:a=(if x.bH=bt x.aO 0 then k.dX x.bH s 0 else(k.dX x.bH s 0).GH x.bH (bt x.aO 0) x.cE)):yg h p k x a:=by
 grind [yg]
def C0(M:Vx j w u y z c h p)(hb:dF m v jg [.s w,.s u,.s y,.s z,.i p.bQ,.i p.aU,.s c,.s G])(W:Wk j e m b k ks kn p.aU.toNat B)(hB:0<=B)(hx:iP h p H x)(ag:x.op=19)(ha:be j A x.aO):
 nC 159 [vp v 0,vp b 0,.agg #[vi x.op,vi x.bH,vi x.cE,vi x.dh,A.v,I.v]] j e m b k ks p.aU.toNat B (yg h p kn x) (P7 h x kn):=by
 have R:=hx.op
 unfold mJ at R
 simp only[ag]at R
 simp+decide only[nv,yf]at R
 let⟨aq,aj,av⟩:=R
 have aw:=(M.ok.eR p M.ql).aU
 have az:=ha.aT
 have ai:=aZ (jT (l:=x.aO) (i:=0) V V)
 have K:=hx.aO _ ai
 have F:=hx.bH
 have au:=W.ok.aT
 have ax:=W.ql.GJ
 generalize hA:bt x.aO 0=r0 at*
 have P:¬(ru kn r0/\0<=(kn.r r0).lF/\x.cE<(cW h.bT (kn.r r0).lF).length/\(kn.r x.bH).bI<=0)->P7 h x kn=none:=by grind [P7]
 unfold nC
 apply zn (v,0) (b,0)
 simp -zeta only[dR]
 intro q
 obtain⟨x1,z1⟩:=pu q
 clear_value q
 have Y:=W.ext x1
 have g0:aS q A.bu (A.off+Int.toNat 0*1)=some (vi r0):=by
  have:=ha.bt (jT (l:=x.aO) (i:=0) V V);rw[hA]at this;exact Y.bs.cV.aS cB
 let⟨q0,q1,q2,q3,q4,q5⟩:=Y.ql.dx (i:=r0) K.1 V
 refine⟨V,V,r0,g0,k,Y.ql.jB.1,K.1,V,_,q0,_,q1,_,q2,_,q3,_,q4,_,q5,?_⟩
 intro m2 T
 have z2:m2.size=m.size+2:=cB
 have x2:D q T:=by grind [D.cT,D.bZ,D.aV]
 have U:=x1.J x2
 have Q:∀c∈[q.size,m.size],c<T.size:=by grind [bD]
 have N:=W.ext U
 have n0:∀c∈[q.size,m.size],e c≠5:=λc E=>by
  have:m.size<=c:=by simp at E;omega
  rw[W.bs.bF c this];decide
 have c3:dI (·=5) e m e T:=dI.fB U W.bs.bF
 clear_value T
 refine(oE N.ql N.ok V).aP ?_
 rintro _ _ ⟨r,rfl,rfl,S⟩
 refine⟨cY.eW Q,r,O,λn=>nC.no c3 (P λC=>nb S n ⟨K.1,C.1⟩),λn=>?_⟩
 have n:r=true:=cB
 have af:=(S.1 n).2
 refine⟨λn=>nC.no c3 (P λC=>by have:=C.2.1;simp at n;omega),λn=>?_⟩
 have ah:0<=(kn.r r0).lF:=cB
 have ar:=W.ok.lF r0 K.1
 refine⟨w,U.aS (hb.dx 0),(ux (dE.ext N.bs.cV M.bT) M.dm V).aP ?_⟩
 rintro _ m4 ⟨ab,rfl,hs,L⟩
 have ay:=hs.aT
 have Z:=N.ext L
 have ao:=U.J L
 have c4:dI (·=5) e m e m4:=dI.fB ao W.bs.bF
 refine⟨L.eW Q,ab,O,λn=>nC.no c4 (P λC=>by have:=C.2.2.1;simp at n;omega),λn=>?_⟩
 have al:x.cE<(cW h.bT (kn.r r0).lF).length:=cB
 let⟨s,ht⟩:=dU (cW h.bT (kn.r r0).lF) x.cE.toNat
 have gt:aS m4 ab.bu (ab.off+x.cE.toNat*1)=some (vi s):=hs.bt ht
 refine⟨aj,V,s,gt,(qj (t:=s) (l:=0) Z.bs.bF Z.ql (a:=x.bH) V).aP ?_⟩
 rintro _ m5 ⟨r,rfl,c5,S,am⟩
 have aa:=c4.J c5
 have an:gS [q.size,m.size] m4 m5:=by grind [dI.Db]
 refine⟨an,r,O,λn=>nC.no aa (P λC=>by rw[am C.2.2.2]at n;cases n),λn=>?_⟩
 let⟨ho,C⟩:=S cB
 have hY:P7 h x kn=some (if x.bH=r0 then kn.dX x.bH s 0 else(kn.dX x.bH s 0).GH x.bH r0 x.cE):=by
  unfold P7;rw[hA,bn ⟨af,ah,al,ho⟩,ht];rfl
 have ae:=W.ok.dX (d:=x.bH) (t:=s) (o:=0) V (dT B) ⟨dT 0,hB⟩
 have W5:=Z.of c5 C ae
 refine⟨λn=>?_,λn=>?_⟩
 .have ak:x.bH≠r0:=cB
  refine⟨k,C.jB.1,k,C.jB.1,F.1,V,C.wr (o:=4) F.1 cB V,?_⟩
  intro J
  have X:me e J 5 b k ks _:=C.cG (i:=x.bH) (o:=4) (new:=[.i r0]) (g:=λr=>{r with fr:=r0}) F.1 cB bO O
  have c6:dI (·=5) _ m5 _ J:=C.qF aa.bF (o:=k.off+x.bH.toNat*6+4) [.i r0]
  have z5:=c5.aQ
  have ac:gS [q.size,m.size] m5 J:=c6.Db λc E=>⟨by have:=Q c E;have:=L.aQ;omega,n0 c E⟩
  have ad:dI (·=5) e m e J:=aa.J c6
  have z6:=c6.aQ
  clear_value J
  refine⟨ac,bE (ac _ bO) _,bE (ac _ bO) _,F.1,V,X.wr (o:=5) F.1 (by rw[lQ,BA];omega) V,?_⟩
  intro m7
  have K7:=X.cG (i:=x.bH) (o:=5) (new:=[.i x.cE]) (g:=λr=>{r with Ea:=x.cE}) F.1 (by rw[lQ,BA];omega) bO O
  have c7:=X.qF ad.bF (o:=k.off+x.bH.toNat*6+5) [.i x.cE]
  rw[Bt]at K7
  change me e m7 5 b k ks ((kn.dX x.bH s 0).GH x.bH r0 x.cE)at K7
  have aC:gS [q.size,m.size] J m7:=c7.Db λc E=>⟨by have:=Q c E;have:=L.aQ;omega,n0 c E⟩
  have aB:=ae.GH (d:=x.bH) (a:=r0) (f:=x.cE) V ⟨K.1,V,ak.symm⟩ λaA hj=>Z5 V hj
  have ap:dI (·=5) e m e m7:=ad.J c7
  grind [Wk.of,yg.tL]
 .grind [yg.tL]
end
section
variable{r m j:bh}{e F:ag}{v b q u k:Nat}{A f a l c z h ks s y:E}{w:da}{p:eE}{B:Int}{kn C:Kn}{x:Instr}{g:Int}
def Yg(f:me e m k b h ks kn):bK dO 237 [h.v,.func (.func 238) #[] #[]] m λw j=>∃r,w=vb r/\D m j/\(r=false<->∀d,0<=d->(kn.r d).bI<=0):=by
 have F:=f.GJ;have G:=f.ju;apply mU h (.func 238,#[],#[]);have:bK dO 255 [h.v,.func (.func 238) #[] #[]] m λw j=>∃r:Int,w=vi r/\D m j/\(r<0->∀a:Nat,a<kn.aU.length->(kn.r a).bI<=0)/\(0<=r->∃a:Nat,0<(kn.r a).bI):=by
  apply ns h (.func 238,#[],#[]);refine gP (n:=kn.aU.length) V (λq M=>D m M/\∀a:Nat,a<q->(kn.r a).bI<=0) ⟨cY,V⟩ ?_;rintro q M I μ E ⟨c,C⟩ s
  refine⟨λg=>?_,λg=>?_⟩
  .simp only[bg]at g;let⟨t,u,v,x,y,z⟩:=(f.ext c).dx (i:=q) V V;refine⟨V,V,_,t,_,u,_,v,_,x,_,y,_,z,238,O,cD,?_⟩;simp only[iA,fO];apply vG;simp -zeta only[dR];intro o;have l:=px o;refine⟨_,O,λp=>⟨_,O,c.J l,λA=>V,λ_=>⟨q,sp p⟩⟩,λA=>s V _ ⟨c.J l,λa B=>?_⟩⟩;grind
  .grind [decide_eq_false_iff_not]
 refine this.aP ?_;rintro _ t ⟨r,rfl,c,l,p⟩;refine⟨_,O,_,O,c,λg d o=>?_,λf=>?_⟩;rotate_left
 .grind
 by_cases a:d<kn.aU.length
 .have:=l cB d.toNat V;grind
 .rw[Qp a];exact dT _
def VU{s:E}{q:ab}(h:be m s q):fX dO 81 [s.v,.func (.func 239) #[] #[]] m (∃y∈q,0<=y):=by
 refine jU h 239 #[] #[] cD (λy=>0<=y) λy _ j a=>?_;simp only[iA,fO];apply vH;grind [D.cT]
open Classical in
def VH(x:Instr)(g:Int)(a b:Kn):Prop:=
 if x.op=23\/x.op=24 then(∀i,0<=i->(a.r i).bI<=0)/\(∀q∈a.eO,q<0)/\b=a
 else
  let c:Kn:=if x.dh=0 then a else{a with eO:=gX a.eO (x.dh -1) (-1)}
  if lL x.op then(a.r x.bH).bI<=0/\b=c.dX x.bH g (Ky g)else b=c
open Classical in
noncomputable def Kc (x:Instr) (g:Int) (a:Kn):Option Kn:=
 if x.op=23\/x.op=24 then if(∀i,0<=i->(a.r i).bI<=0)/\(∀q∈a.eO,q<0)then some a else none
 else if x.dh≠0/\bt a.eO (x.dh -1)≠x.aO.length then none
 else if lL x.op then if(a.r x.bH).bI<=0 then some ((if x.dh=0 then a else{a with eO:=gX a.eO (x.dh -1) (-1)}).dX x.bH g (Ky g))else none
 else some (if x.dh=0 then a else{a with eO:=gX a.eO (x.dh -1) (-1)})
def Ah(W:Wk r e m b h ks kn p.aU.toNat B)(hB:1<=B)(hx:iP w p u x)(aa:x.op≠7/\x.op≠8)(ha:be r s x.aO)(ht:0<=g)(hr:1<=p.aU)(af:x.dh=0\/1<=x.dh/\x.dh<=p.aU):
 nC 207 [vp v 0,vp b 0,.agg #[vi x.op,vi x.bH,vi x.cE,vi x.dh,s.v,y.v],vi g] r e m b h ks p.aU.toNat B (VH x g kn) (Kc x g kn):=by
 have ae:=hx.bH
 have ac:=ha.aT
 have ai:=W.ok.aT
 have al:=W.ql.GJ
 have ah:=W.ql.zq
 have aj:=W.ql.Xy
 have an:=W.ql.ju
 unfold nC
 apply xu (v,0) (b,0)
 simp -zeta only[dR]
 intro n
 obtain⟨H,z1⟩:=pu n
 have a:=W.ext H
 have N:dI (·=5) e m e n:=dI.fB H W.bs.bF
 have D:∀c∈[m.size],c<n.size:=cB
 have n0:∀c∈[m.size],e c≠5:=λc T=>by
  rw[W.bs.bF c cB];decide
 refine⟨λY M=>M=n/\(Y=true<->x.op=23\/x.op=24),⟨λf=>⟨O,by simp at f;simp[f]⟩,λf=>⟨O,by simp at f;simp[f]⟩⟩,?_⟩
 rintro Y M ⟨hM,ab⟩
 obtain rfl:n=M:=hM.symm
 refine⟨λf=>?_,λf=>?_⟩
 .have A:=ab.1 f
  refine⟨h,a.ql.jB.1,(Yg a.ql).aP ?_⟩
  rintro _ E ⟨Q,rfl,C,I⟩
  have F:=a.ext C
  have l:dI (·=5) e m e E:=dI.fB (H.J C) W.bs.bF
  refine⟨C.eW D,Q,O,λq=>?_,λq=>nC.no l (by
   unfold Kc;rw[bn A,aW];intro z;have:=I.2 z.1;simp at q;rw[q]at this;cases this)⟩
  have I:=I.1 cB
  refine⟨ks,F.ql.jB.2,(VU (F.ql.eO.oL V)).aP ?_⟩
  rintro _ J ⟨G,rfl,S,j⟩
  have K:=F.ext j
  have L:dI (·=5) e m e J:=dI.fB ((H.J C).J j) W.bs.bF
  refine⟨j.eW λc T=>cr (D c T) C.aQ,G,O,!G,e,O,L,λk=>⟨kn,K,?_,?_⟩,λk=>?_⟩
  .grind [VH]
  .unfold Kc
   rw[bn A,bn]
   constructor<;>grind
  .unfold Kc
   rw[bn A,aW]
   intro z
   let⟨R,P,U⟩:=yb S k
   have:=z.2 R P
   omega
 .have A:¬(x.op=23\/x.op=24):=cB
  refine⟨λM=>dI (·=5) e n e M/\me e M 5 b h ks (if x.dh=0 then kn else{kn with eO:=gX kn.eO (x.dh -1) (-1)})/\¬(x.dh≠0/\bt kn.eO (x.dh -1)≠x.aO.length),⟨λq=>?_,λq=>?_⟩,?_⟩
  .have F:x.dh≠0:=cB
   have C:eI (x.dh -1)=x.dh -1:=by grind [de]
   rw[C]
   refine⟨ks,a.ql.jB.2,V,V,_,a.ql.adT (i:=x.dh -1) V V,λk=>nC.no N (by
    unfold Kc;rw[aW A,bn ⟨F,by rw[<-ac];simpa using k⟩]),λk=>⟨ks,a.ql.jB.2,V,V,a.ql.wrK V V,?_⟩⟩
   intro E
   have l:=a.ql.SS a.bs.bF (ks.off+(x.dh -1).toNat*1) [.i (-1)]
   constructor<;>grind [dI.Db,Wk.ql,me.ac7]
  .have C:x.dh=0:=cB
   refine⟨dI.cT _ a.bs.bF,?_,λz=>z.1 C⟩
   grind [Wk.ql]
  rintro E ⟨l,K,ag⟩
  have z2:=l.aQ
  generalize U:(if x.dh=0 then kn else{kn with eO:=gX kn.eO (x.dh -1) (-1)})=k2 at K
  have am:∀I,k2.r I=kn.r I:=λI=>by rw[<-U];split<;>rfl
  have ak:k2.aU.length=kn.aU.length:=cB
  have X:nY k2 p.aU.toNat B:=by
   rw[<-U];split
   .exact W.ok
   .exact W.ok.eO
  refine(qL x.op E aa).aP ?_
  rintro _ J ⟨G,rfl,S,j⟩
  have L:=K.ext j
  have z:dI (·=5) e m e J:=(N.J l).J (dI.fB j l.bF)
  refine⟨j.eW λF C=>cr (D F C) z2,G,O,λk=>⟨true,e,O,z,λ_=>⟨k2,W.of z L X,?_,?_⟩,λf=>by cases f⟩,λk=>?_⟩
  .grind [VH]
  .grind [Kc]
  .have e1:(if(1:Int)<g then 1 else g)=Ky g:=by unfold Ky;split<;>split<;>omega
   rw[e1]
   refine(qj (t:=g) (l:=Ky g) z.bF L (a:=x.bH) V).aP ?_
   rintro _ m4 ⟨Z,rfl,Q,h4,ad⟩
   have P:=z.J Q
   refine⟨Q.Db λF C=>⟨cr (cr (D F C) z2) j.aQ,n0 F C⟩,Z,O,Z,e,O,P,λR=>?_,λR=>?_⟩
   rotate_left
   .grind [Kc]
   let⟨ho,K4⟩:=h4 R
   refine⟨_,W.of P K4 (X.dX V (dT B) (by unfold Ky;split<;>omega)),?_,?_⟩
   .grind [VH]
   grind [Kc]
end
section
variable{h:Int}
def _root_.Go.Vc.fW.acW{α:Type}{m:bh}{d:Nat}{R:ae->α->Prop}{s:E}{y:List α}(e:fW m d R s y){i h:Nat}(q:i<=h)(r:h<=y.length):fW m d R (s.cut i h d) ((y.take h).drop i):=by
 have a:=e.aT;have l:=e.ms;have u:=e.kM;have j:(s.cut i h d).len=h -i/\(s.cut i h d).len<=(s.cut i h d).cap:=by
  cases s with
  |nil=>simp at a;simp[E.cut];omega
  |DG b o sp=>simp at a;simp[E.cut];omega
  |mk b o A c=>simp at a l;simp[E.cut];omega
 refine⟨by simp[j.1];omega,j.2,V,λk x f=>?_⟩;rw[rJ,lP]at f;split at f
 .rename_i t;let⟨n,p,g⟩:=e.kY _ x f;refine⟨n,p,?_⟩;cases s with
  |nil=>simp at a;omega
  |DG b o sp=>simp at a;omega
  |mk b o A c=>
   simp at a l;have:¬c=i:=V;simp only[E.cut,this,nv,E.lT,E.vL]at g⊢;rw[oB,<-iv]at g;exact g
 .simp at f
variable{C m J:bh}{r K:ag}{v b A F k:Nat}{d f a y c G w ks z H:E}{s:da}{p:eE}{B:Int}{kn I:Kn}{x:Instr}{t:Int}
def ZT{i:Int}{g a:tp->tp}(b:∀r,g (a r)=a (g r)):(kn.th i g).th h a=(kn.th h a).th i g:=by
 simp only[Kn.th];congr 1;apply fq;grind [Function.comp_def]
def Ye{i e g:Int}:(kn.iJ i e).iJ h g=(kn.iJ h g).iJ i e:=ZT λr=>by
 grind
def wV{i e:Int}:∀(q:ab)(kn:Kn),jM (kn.iJ i e) q=(jM kn q).iJ i e
 |[],_=>O
 |r::q,kn=>by rw[jM,Ye,wV q];rfl
def Pp:∀(q:ab)(r:Int)(kn:Kn),jM kn (q++[r])=(jM kn q).iJ r 1
 |[],r,kn=>O
 |y::q,r,kn=>by rw[eS,jM,Pp q r];rfl
def RS:∀(q:ab){kn:Kn}{B:Int},nY kn A B->(∀r∈q,0<=r/\r<A)->nY (jM kn q) A (B+q.length)
 |[],kn,B,h,_=>by simpa[jM]using h
 |r::q,kn,B,h,a=>by
  have b:=a r cK;have d:=h.bI r b.1;have:=RS q (h.iJ (e:=1) (B':=B+1) b V V) λy c=>a y (aX _ c);grind [jM,nY.aP]
def Pr:∀(q:ab){kn:Kn}{a:Int},(∀r∈q,0<=r/\r<kn.aU.length)->0<=a->(kn.r a).bI<=((jM kn q).r a).bI
 |[],kn,a,_,_=>dT _
 |r::q,kn,a,b,c=>by
  have e:=b r cK;rw[jM];have:=Pr q (kn:=kn.iJ r 1) (a:=a) (λy d=>by rw[rf];exact b y (aX _ d)) c;grind [Int.le_trans,yH]
def yg.ZX(h:x.op=16\/x.op=17){k a:Kn}(b:0<(k.r (bt x.aO 0)).bI)(c:∀r∈x.aO.drop 1,(k.r r).fr=bt x.aO 0){q:Int}(e:0<=q)
 (d:a={jM (k.iJ (bt x.aO 0) (-1)) (x.aO.drop 1)with eO:=if x.op=17 then gX k.eO (bt x.aO 0) q else k.eO}):yg s p k x a:=by
 unfold yg
 grind
def sL(kn:Kn)(a:Int):Nat->ab->ab->Prop
 |_,[],b=>b=[]
 |i,t::c,b=>if t=0 then sL kn a (i+1) c b else match b with
  |[]=>False
  |f::b=>(kn.r f).fr=a/\(kn.r f).Ea=i/\sL kn a (i+1) c b
section
variable{kn:Kn}{a t u:Int}{i:Nat}{g e:ab}
def UT(h:t=0):sL kn a i (t::g) e=sL kn a (i+1) g e:=by cases e<;>simp[sL,h]
def Wx(h:t≠0):sL kn a i (t::g) []=False:=by simp[sL,h]
def US(h:t≠0):sL kn a i (t::g) (u::e)=((kn.r u).fr=a/\(kn.r u).Ea=i/\sL kn a (i+1) g e):=by simp[sL,h]
end
open Classical in
noncomputable def Qj (s:da) (x:Instr) (kn:Kn):Option Kn:=
 if 0<(kn.r (bt x.aO 0)).bI/\0<=(kn.r (bt x.aO 0)).lF/\¬(x.op=17/\0<=bt kn.eO (bt x.aO 0))/\sL kn (bt x.aO 0) 0 (cW s.bT (kn.r (bt x.aO 0)).lF) (x.aO.drop 1)then
  some {jM (kn.iJ (bt x.aO 0) (-1)) (x.aO.drop 1)with eO:=if x.op=17 then gX kn.eO (bt x.aO 0) (cW s.bT (kn.r (bt x.aO 0)).lF).length else kn.eO}
 else none
def Se{y:ab}{i:Nat}{a:Int}(h:y[i]? =some a):y.drop i=a::y.drop (i+1):=by
 grind [br,List.drop_eq_getElem_cons,List.getElem?_eq_getElem,Option.some.inj]
def Da(ac:Vx C d f a y c s p)(hb:dF m v jg [.s d,.s f,.s a,.s y,.i p.bQ,.i p.aU,.s c,.s G])(W:Wk C r m b w ks kn p.aU.toNat B)(hB:0<=B/\B<=1000000)(hx:iP s p F x)(ai:x.op=16\/x.op=17)(ha:be C z x.aO):
 nC 157 [vp v 0,vp b 0,.agg #[vi x.op,vi x.bH,vi x.cE,vi x.dh,z.v,H.v]] C r m b w ks p.aU.toNat (B+3) (yg s p kn x) (Qj s x kn):=by
 have aG:1<=x.aO.length/\x.aO.length<=4:=by
  have e:=hx.op;unfold mJ at e;rcases ai with u|u;all_goals
   simp only[u]at e
   simp+decide only[nv,yf]at e
   exact e.1
 have aO:=(ac.ok.eR p ac.ql).aU
 have aq:=ha.aT
 have am:=jT (l:=x.aO) (i:=0) V V
 have E:=hx.aO _ (aZ am)
 have aM:=W.ok.aT
 have aP:=W.ql.GJ
 have aL:=W.ql.zq
 have aN:=W.ql.Xy
 have ad:∀k∈x.aO.drop 1,0<=k/\k<p.aU.toNat:=λk I=>by
  have:=hx.aO k (ue I);omega
 generalize R:bt x.aO 0=r0 at*
 have Z:¬(0<(kn.r r0).bI/\0<=(kn.r r0).lF/\¬(x.op=17/\0<=bt kn.eO r0)/\sL kn r0 0 (cW s.bT (kn.r r0).lF) (x.aO.drop 1))->Qj s x kn=none:=λe=>by unfold Qj;rw[R,aW e]
 unfold nC
 apply zo (v,0) (b,0)
 simp -zeta only[dR]
 intro T
 obtain⟨x1,z1⟩:=pu T
 have W1:=W.ext x1
 have g0:aS T z.bu (z.off+Int.toNat 0*1)=some (vi r0):=W1.bs.cV.aS (by simpa using ha.bt am)
 let⟨q0,q1,q2,q3,q4,q5⟩:=W1.ql.dx (i:=r0) E.1 V
 refine⟨V,V,r0,g0,w,W1.ql.jB.1,E.1,V,_,q0,_,q1,_,q2,_,q3,_,q4,_,q5,?_⟩
 intro m2 m3
 have z2:m2.size=m.size+2:=by simp[m2];omega
 have x2:D T m3:=((D.cT T).bZ _).aV V _ _
 have x3:=x1.J x2
 have ag:∀c∈[T.size,m.size],c<m3.size:=by simp[m3,bD];omega
 have W3:=W.ext x3
 have n0:∀c∈[T.size,m.size],r c≠5:=λc hc=>by
  have:m.size<=c:=by simp at hc;omega
  rw[W.bs.bF c this];decide
 have c3:dI (·=5) r m r m3:=dI.fB x3 W.bs.bF
 refine⟨λM=>M=m3/\0<(kn.r r0).bI/\0<=(kn.r r0).lF/\¬(x.op=17/\0<=bt kn.eO r0),⟨λu=>nC.no c3 (Z λe=>by have:=e.1;simp at u;omega),λu=>⟨λK=>nC.no c3 (Z λe=>by have:=e.2.1;simp at K;omega),λK=>⟨λQ=>?_,λQ=>?_⟩⟩⟩,?_⟩
 .refine⟨ks,W3.ql.jB.2,E.1,V,_,W3.ql.adT E.1 V,λJ=>nC.no c3 (Z λe=>e.2.2.1 ⟨sp Q,sp J⟩),λJ=>⟨O,?_,?_,?_⟩⟩
  .simp at u;omega
  .simpa using K
  .simp at J;omega
 .refine⟨O,?_,?_,?_⟩
  .simp at u;omega
  .simpa using K
  .simp at Q;omega
 rintro au ⟨A,aj,ay,aw⟩
 obtain rfl:m3=au:=A.symm
 have aH:=W.ok.lF r0 E.1
 refine⟨d,x3.aS (hb.dx 0),V,V,oh ha.ms,(ux (dE.ext W3.bs.cV ac.bT) ac.dm V).aP ?_⟩
 rintro _ U ⟨ae,rfl,hs,x4⟩
 have aC:=hs.aT
 have Y:=W3.ext x4
 have aE:=x3.J x4
 have aB:∀c∈[T.size,m.size],c<U.size:=λc hc=>cr (ag c hc) x4.aQ
 have c4:dI (·=5) r m r U:=dI.fB aE W.bs.bF
 have ao:be U (z.cut 1 z.len 1) (x.aO.drop 1):=by
  have:=fW.acW (ha.ext Y.bs.cV) (i:=1) (h:=x.aO.length) V bY;rw[fu]at this;rw[aq];exact this
 have an:=ao.aT
 refine⟨x4.eW ag,ae,O,bE (x4.bG _ (ag m.size bO)) _,?_⟩
 refine gL (n:=(cW s.bT (kn.r r0).lF).length) (oh hs.kM) (λh ab M=>M=U/\∃t,t<=(x.aO.drop 1).length/\be U ab ((x.aO.drop 1).drop t)/\(∀k∈(x.aO.drop 1).take t,(kn.r k).fr=r0)/\(sL kn r0 h ((cW s.bT (kn.r r0).lF).drop h) ((x.aO.drop 1).drop t)<->sL kn r0 0 (cW s.bT (kn.r r0).lF) (x.aO.drop 1))) ⟨O,0,iD _,sp ao,bO,Rb⟩ ?_
 rintro h ab av aF μ hj ⟨A,t,hi,hu,hd,L⟩ ar
 obtain rfl:U=av:=A.symm
 have ak:=hu.aT
 have aI:((x.aO.drop 1).drop t).length=(x.aO.drop 1).length -t:=eX
 refine dit (λu=>?_) λu=>?_
 .let⟨aa,hy⟩:=dU (cW s.bT (kn.r r0).lF) h
  rw[Se hy]at L
  refine⟨V,V,aa,by simpa using hs.bt hy,λS=>ar V _ _ ⟨O,t,hi,hu,hd,by rw[<-L,UT (sp S)]⟩,λS=>⟨λP=>nC.no c4 (Z λe=>?_),λP=>?_⟩⟩
  .have e:=L.2 e.2.2.2
   have:(x.aO.drop 1).drop t=[]:=cp.1 (by simp at P;omega)
   rw[this,Wx (sp S)]at e
   exact e
  have ah:0<ab.len:=by simp at P;omega
  let⟨k,I⟩:=dU ((x.aO.drop 1).drop t) 0
  have X:(x.aO.drop 1)[t]? =some k:=by rw[rJ]at I;simpa using I
  have N:=ad k (aZ X)
  rw[Se X,US (sp S)]at L
  obtain⟨_,_,_,_,w4,w5⟩:=Y.ql.dx (i:=k) N.1 V
  have gr:aS U ab.bu (ab.off+Int.toNat 0*1)=some (vi k):=by simpa using hu.bt I
  refine⟨w,Y.ql.jB.1,V,V,k,gr,N.1,V,_,w4,λK=>nC.no c4 (Z λe=>by have:=(L.2 e.2.2.2).1;simp at K;exact K this),λK=>⟨w,Y.ql.jB.1,V,V,k,gr,N.1,V,_,w5,λQ=>nC.no c4 (Z λe=>by have:=(L.2 e.2.2.2).2.1;simp at Q;exact Q this),λQ=>⟨V,V,oh hu.ms,ar V _ _ ⟨O,t+1,V,?_,?_,?_⟩⟩⟩⟩
  rotate_right
  .rw[<-L]
   exact⟨λe=>⟨sp K,sp Q,e⟩,λe=>e.2.2⟩
  .have:=fW.acW hu (i:=1) (h:=((x.aO.drop 1).drop t).length) V bY
   rw[fu,<-ak]at this
   have J:((x.aO.drop 1).drop t).drop 1=(x.aO.drop 1).drop (t+1):=List.drop_drop
   rw[<-J];exact this
  .have K:(kn.r k).fr=r0:=sp K
   intro af J
   rw[bX X]at J
   rcases bU.1 J with e|e
   .exact hd af e
   .simp at e;subst e;exact K
 .have aA:h=(cW s.bT (kn.r r0).lF).length:=V
  rw[aA,List.drop_length,sL]at L
  refine⟨λP=>nC.no c4 (Z λe=>by
   have:=L.2 e.2.2.2;rw[this]at ak;simp at P ak;omega),λP=>?_⟩
  have ax:=L.1 (cp.1 (by simp at P;omega))
  have hY:Qj s x kn=some {jM (kn.iJ r0 (-1)) (x.aO.drop 1)with eO:=if x.op=17 then gX kn.eO r0 (cW s.bT (kn.r r0).lF).length else kn.eO}:=by
   unfold Qj;rw[R,bn ⟨aj,ay,aw,ax⟩]
  have az:t=(x.aO.drop 1).length:=by simp at P;omega
  have ap:∀k∈x.aO.drop 1,(kn.r k).fr=r0:=λk I=>hd k (by rw[az,fu];exact I)
  refine⟨V,V,oh ha.ms,gP (n:=(x.aO.drop 1).length) eX (λt M=>me r M 5 b w ks (jM kn ((x.aO.drop 1).take t))/\dI (·=5) r U r M) ⟨by simpa[jM]using Y.ql,dI.cT _ Y.bs.bF⟩ ?_⟩
  rintro t M I2 μ2 aK ⟨A,cM⟩ aD
  have aa:=RS ((x.aO.drop 1).take t) W.ok λk I=>ad k (gW I)
  have lM:=aa.aT
  have tl:((x.aO.drop 1).take t).length<=3:=eX
  have zM:=cM.aQ
  have ah:∀c∈[T.size,m.size],c<M.size:=λc hc=>cr (aB c hc) zM
  refine dit (λu=>?_) λu=>?_
  .have e':t<(x.aO.drop 1).length:=by rw[<-an];simpa using u
   let⟨k,I⟩:=dU (x.aO.drop 1) t
   have N:=ad k (aZ I)
   have af:be M (z.cut 1 z.len 1) (x.aO.drop 1):=by
    have:=fW.acW (ha.ext (Y.bs.SR cM cD).cV) (i:=1) (h:=x.aO.length) V bY;rw[fu]at this;rw[aq];exact this
   obtain⟨_,w1,_⟩:=A.dx (i:=k) N.1 V
   have ho:=aa.bI k N.1
   refine⟨V,sp u,k,by simpa using af.bt I,w,A.jB.1,N.1,V,_,w1,N.1,V,A.wr N.1 V V,?_⟩
   intro M2
   have hw:eI (((jM kn ((x.aO.drop 1).take t)).r k).bI+1)=((jM kn ((x.aO.drop 1).take t)).r k).bI+1:=iz
   have X:me r M2 5 b w ks ((jM kn ((x.aO.drop 1).take t)).iJ k 1):=A.cG (g:=λJ=>{J with bI:=J.bI+1}) N.1 V bO (by rw[hw];rfl)
   have cc:=A.qF cM.bF (o:=w.off+k.toNat*6+1) [.i (eI (((jM kn ((x.aO.drop 1).take t)).r k).bI+1))]
   refine⟨cc.Db λJ S=>⟨ah J S,n0 J S⟩,aD V _ ⟨?_,cM.J cc⟩⟩
   rw[bX I,Pp];exact X
  .have ei:t=(x.aO.drop 1).length:=by
    have:¬t<(x.aO.drop 1).length:=by rw[<-an];simpa using u
    omega
   subst ei
   rw[fu]at A aa tl
   have lM:=aa.aT
   obtain⟨_,w1,_⟩:=A.dx (i:=r0) E.1 V
   have ho:=aa.bI r0 E.1
   have aJ:=Pr (x.aO.drop 1) (kn:=kn) (a:=r0) (λk I=>oh (ad k I)) E.1
   refine⟨w,A.jB.1,E.1,V,_,w1,E.1,V,A.wr E.1 V V,?_⟩
   intro M2
   have hw:eI (((jM kn (x.aO.drop 1)).r r0).bI -1)=((jM kn (x.aO.drop 1)).r r0).bI+ -1:=iz
   have X:me r M2 5 b w ks ((jM kn (x.aO.drop 1)).iJ r0 (-1)):=A.cG (g:=λJ=>{J with bI:=J.bI+ -1}) E.1 V bO (by rw[hw];rfl)
   have cc:dI (·=5) r M r M2:=A.qF cM.bF (o:=w.off+r0.toNat*6+1) [.i (eI (((jM kn (x.aO.drop 1)).r r0).bI -1))]
   have al:nY ((jM kn (x.aO.drop 1)).iJ r0 (-1)) p.aU.toNat (B+3):=aa.iJ V V V
   have l2:=al.aT
   have kk:(jM kn (x.aO.drop 1)).eO=kn.eO:=uU _ _
   have c2:=c4.J (cM.J cc)
   have z2:=cc.aQ
   refine⟨cc.Db λJ S=>⟨ah J S,n0 J S⟩,λN=>?_,λN=>?_⟩
   .have N:x.op=17:=sp N
    refine⟨ks,X.jB.2,E.1,V,X.wrK E.1 V,?_⟩
    intro M3
    have K3:=X.ac7 E.1 V (ae.len:Int)
    have af:dI (·=5) r M2 r M3:=X.SS c2.bF (ks.off+r0.toNat*1) [.i (ae.len:Int)]
    refine⟨af.Db λJ S=>⟨cr (ah J S) z2,n0 J S⟩,true,r,O,c2.J af,λ_=>⟨_,W.of (c2.J af) K3 al.eO,yg.ZX ai (R▸aj) (R▸ap) (q:=(ae.len:Int)) V ?_,?_⟩,λu=>by cases u⟩
    .rw[R,bn N,wV]
     simp only[Kn.iJ,Kn.th,kk]
    .rw[hY,bn N,wV,<-aC]
     simp only[Kn.iJ,Kn.th,kk]
   .have N:x.op≠17:=sp N
    refine⟨true,r,O,c2,λ_=>⟨_,W.of c2 X al,yg.ZX ai (R▸aj) (R▸ap) (q:=0) V ?_,?_⟩,λu=>by cases u⟩
    .rw[R,aW N,wV,<-kk]
     rfl
    .rw[hY,aW N,wV,<-kk]
     rfl
end
section
variable{a r:Int}
variable{m:bh}{d f s bT:E}{b:af}{e:da}{h:ab}{g cE t c:Int}
theorem rL.aa5{b:af}(g:eT b){t c:Int}(h:rL b t a r)(d:rL b c a r):t=c:=by
 have e:∀{t c:Int},rL b t a r->rL b c a r->¬t<c:=λ{t c} h d hlt=>by
  let⟨x,m,f,n,o,p⟩:=h;let⟨y,g1,g2,j,k,l⟩:=d;have:=((g.eR _ y g2).Qf cB).1 x (by
   refine kQ (i:=t.toNat -1) ?_;rw[lP,bn V];exact f)
  grind
 have:=e h d;have:=e d h;omega
theorem rL.aff{b:af}{t c:Int}(h:rL b t a r)(d:rL b t a c):r=c:=by
 obtain⟨x,_,f,_,_,g⟩:=h;obtain⟨y,_,g2,_,_,e⟩:=d;grind
def Cm(hd:dE m d b):bK dO 235 [E.v d,vi t] m λz y=>∃a r u i,z=.tuple #[.agg #[vi a,vi r,E.v u],vb i]/\D m y/\(i=true->rL b t a r)/\(∀e g,rL b t e g->i=true):=by
 apply IA;simp -zeta only[kJ];intro q;have c:=px q;clear_value q;have B:=hd.aT;have C:=hd.kM;refine⟨λf=>?_,λf=>⟨λj=>?_,λj=>?_⟩⟩
 .intro k;exact⟨_,_,_,_,O,c.aV bY _ _,λh=>(by cases h),λe g⟨x,n,_⟩=>by simp at f;omega⟩
 .intro k;exact⟨_,_,_,_,O,c.aV bY _ _,λh=>(by cases h),λe g⟨x,n,o,_⟩=>by have:=br o;simp at j;omega⟩
 .have f:1<=t:=cB;have j:t<=d.len:=cB;have w:eI (t -1)=((t.toNat -1:Nat):Int):=by grind [de]
  let⟨x,p⟩:=dU b (t.toNat -1);obtain⟨u,v,s,g1,g2⟩:=(dE.ext c hd).bt p;have F:=v.aT;rw[w];refine⟨V,V,u,g2,λl=>?_,λl=>⟨V,V,_,s,_,g1,u,g2,?_⟩⟩
  .intro k;refine⟨_,_,_,_,O,c.aV bY _ _,λh=>(by cases h),λe g⟨G,n,o,A,_⟩=>?_⟩;grind
  .intro k;refine⟨_,_,_,_,O,c.aV bY _ _,λ_=>⟨x,f,p,cp.1 ?_,O,O⟩,λ_ _ _=>O⟩;simp at l;omega
def NY(hd:dE m d b):bK dO 236 [d.v,vi a,vi r] m λG C=>∃t,G=vi t/\D m C/\(0<=t->rL b t a r)/\(∀s,rL b s a r->0<=t):=by
 apply IC;simp -zeta only[dR];have K:=hd.aT;have P:=hd.kM;refine gP (n:=b.length) V (λj M=>D m M/\∀i:Nat,i<j->¬rL b ((i+1:Nat):Int) a r) ⟨D.cT m,V⟩ ?_;rintro j M I μ N ⟨g,R⟩ l
 refine⟨λo=>?_,λo=>⟨_,O,g,λh=>absurd h cD,λs⟨H,J,w,y⟩=>?_⟩⟩;rotate_left
 .grind
 simp only[bg]at o;let⟨x,B⟩:=dU b j;let⟨F,A,v,g1,g2⟩:=(dE.ext g hd).bt B;have q:=A.aT;refine⟨V,V,_,v,_,g1,F,g2,?_⟩;intro S E;have f:D m E:=(g.bZ _).aV cB _ _;have k:¬(x.eB=[]/\x.qe=a/\x.to=r)->∀i:Nat,i<j+1->¬rL b ((i+1:Nat):Int) a r:=λQ i L z=>by
  by_cases u:i=j
  .subst u;obtain⟨H,_,w,y⟩:=z;grind
  .grind
 refine⟨λp=>⟨λc=>⟨λe=>?_,λe=>l V _ ⟨f,k λh=>by simp at e;exact e h.2.2⟩⟩,λc=>l V _ ⟨f,k λh=>by simp at c;exact c h.2.1⟩⟩,λp=>l V _ ⟨f,k λh=>by rw[h.1]at q;simp at p q;omega⟩⟩;refine⟨_,O,f,λ_=>?_,λ_ _=>by rw[Pc V];omega⟩;rw[Pc V];refine⟨x,V,?_,cp.1 cB,sp c,sp e⟩;grind
end
section
variable{q:eE}{a u:Int}
variable{m:bh}{d f s bT:E}{h:af}{e:da}{g:ab}{b cE t c:Int}
theorem fY.ov(h:b=0):fY e b cE [] 0:=by grind [fY]
theorem fY.Nj(h:b=1\/b=2\/b=3\/b=4):fY e b cE [0,0] 0:=by grind [fY]
theorem fY.mM(h:b=5):fY e b cE [0] 0:=by grind [fY]
theorem fY.lF(h:b=6)(a:cE∈cX e.bT t):fY e b cE (cW e.bT cE) t:=by
 grind [fY]
theorem fY.jE(h:b=9)(a:e.di[cE.toNat]? =some q):fY e b cE q.aY q.bQ:=by
 grind [fY]
def fY.afb(h:b=10)(c:e.di[cE.toNat]? =some q)(d:q.aY=g++[a])(f:rL e.bT t a q.bQ):fY e b cE g t:=by
 grind [fY]
def fY.nE(h:b=11)(c:rL e.bT u a t):fY e b cE [u,a] t:=by
 grind [fY]
def sT0(h:b=0)(a:fY e b cE g t):g=[]:=by grind [fY]
theorem sT2(h:b=1\/b=2\/b=3\/b=4)(a:fY e b cE g t):g=[0,0]:=by grind [fY]
theorem sT5(h:b=5)(a:fY e b cE g t):g=[0]:=by grind [fY]
def sT6(h:b=6)(a:fY e b cE g t):cE∈cX e.bT t/\g=cW e.bT cE:=by grind [fY]
theorem sT9(h:b=9)(a:fY e b cE g t):∃q,e.di[cE.toNat]? =some q/\g=q.aY/\t=q.bQ:=by grind [fY]
theorem ad7(h:b=10)(c:fY e b cE g t):∃q a,e.di[cE.toNat]? =some q/\q.aY=g++[a]/\rL e.bT t a q.bQ:=by grind [fY]
def ad8(h:b=11)(c:fY e b cE g t):∃u a,g=[u,a]/\rL e.bT u a t:=by unfold fY at c;rw[aW V,aW V,aW V,aW V,aW V,aW V,bn h]at c;exact c
def sTx(h:¬(b=0\/b=1\/b=2\/b=3\/b=4\/b=5\/b=6\/b=9\/b=10\/b=11))(a:fY e b cE g t):False:=by
 grind [fY]
def rL.nn{r:Int}(e:eT h)(b:rL h u a r):0<=r:=by
 let⟨x,f,c,g,i,d⟩:=b;have:=((e.eR _ x c).Qf cB).2.2;rw[<-d];exact this.1
theorem nD.bQ{p:eE}(h:nD e.bT e.di)(a:p∈e.di):0<=p.bQ:=(h.eR p a).2.2.1
def xl(so:nD e.bT e.di)(hd:dE m d e.bT)(hf:oW m f e.di)(z:be m s g)(al:g.length<=1000000)(hn:b=6->-1000000<=cE/\cE<=1000000)(H:(b=0->-999<=cE/\cE<=999)/\(b=1\/b=2\/b=3\/b=4\/b=5\/b=11->cE=0)/\(b=9\/b=10->0<=cE/\cE<e.di.length)):
 bK dO 206 [.agg #[d.v,f.v],vi b,vi cE,s.v] m λag m'=>∃t o,ag=.tuple #[vi t,vb o]/\D m m'/\(o=true->0<=t/\fY e b cE g t)/\((∃h,fY e b cE g h)->o=true):=by
 have ht:=so.dm
 apply tJ
 simp -zeta only[dR]
 intro x
 obtain⟨l,z1⟩:=pu x
 have Z:∀c∈[m.size],c<x.size:=eX
 have Y:=z.aT
 have K:∀{t:Int}{M:bh},D m M->(¬∃h,fY e b cE g h)->∃h o,(.tuple #[vi t,vb false]:Value)=.tuple #[vi h,vb o]/\D m M/\(o=true->0<=h/\fY e b cE g h)/\((∃h,fY e b cE g h)->o=true):=λU hn=>⟨_,false,O,U,λi=>(by cases i),λi=>absurd i hn⟩
 refine⟨λN=>⟨λ_=>⟨λ_=>?_,λk=>absurd (H.1 (sp N)).2 (sp k)⟩,λk=>absurd (H.1 (sp N)).1 (sp k)⟩,λN=>⟨λy=>?_,λy=>⟨λh5=>?_,λh5=>⟨λF=>?_,λF=>⟨λG=>?_,λG=>⟨λP=>?_,λP=>K l λ⟨h,i⟩=>sTx (by simp at N y h5 F G P;omega) i⟩⟩⟩⟩⟩⟩
 .refine⟨0,_,O,l,λk=>?_,λ⟨h,i⟩=>by have:=sT0 (sp N) i;subst this;simp at Y;simp[Y]⟩
  have:g=[]:=cp.1 (by simp at k;omega)
  grind [fY.ov]
 .intro n
  have j:D m n:=l.bZ _
  have p:be n (.mk x.size 0 2 2) [0,0]:=be.jA (jw.bF (D.cT x) bB 1 ([0,0].map Ce.i) 2 bO) bO
  have z2:x.size<=n.size:=by simp[n]
  refine⟨λ_=>(kA (z.ext j) p).aP ?_,λk=>absurd (H.2.1 (by simp at y;omega)) (sp k)⟩
  grind [D.eW,D.J,sT2,fY.Nj]
 .intro n
  have j:D m n:=l.bZ _
  have p:be n (.mk x.size 0 1 1) [0]:=be.jA (jw.bF (D.cT x) bB 1 ([0].map Ce.i) 1 bO) bO
  have z2:x.size<=n.size:=by simp[n]
  refine⟨λ_=>(kA (z.ext j) p).aP ?_,λk=>absurd (H.2.1 (by simp at h5;omega)) (sp k)⟩
  grind [D.eW,D.J,sT5,fY.mM]
 .have F:b=11:=sp F
  refine⟨λk=>K l λ⟨h,i⟩=>(by obtain⟨u,a,y,_⟩:=ad8 F i;rw[y]at Y;simp at k Y;omega),λk=>?_⟩
  have k:s.len=2:=by simp at k;omega
  let⟨u,R⟩:=dU g 0
  let⟨a,J⟩:=dU g 1
  have aa:g=[u,a]:=by
   match g,R,J,(by omega:g.length=2)with
   |[_,_],R,J,_=>simp at R J;rw[R,J]
  have L:aS x s.bu (s.off+Int.toNat 0*1)=some (vi u):=by simpa using(z.ext l).bt R
  have kG:∀{M:bh}{A E:Int}{o:Bool},D m M->(o=true->rL e.bT u A E)->o=true->a=A->∃h C,(.tuple #[vi E,vb (cE==0)]:Value)=.tuple #[vi h,vb C]/\D m M/\(C=true->0<=h/\fY e b cE g h)/\((∃h,fY e b cE g h)->C=true):=λU p v r=>
   ⟨_,_,O,U,λ_=>(by
    have p:=p v;rw[aa];exact⟨p.nn ht,fY.nE F (r▸p)⟩),λ_=>by rw[H.2.1 V];rfl⟩
  have X:∀{M:bh}{A E T:Int}{o:Bool},D m M->(o=true->rL e.bT u A E)->(∀a' w,rL e.bT u a' w->o=true)->¬(o=true/\a=A)->∃h C,(.tuple #[vi T,vb false]:Value)=.tuple #[vi h,vb C]/\D m M/\(C=true->0<=h/\fY e b cE g h)/\((∃h,fY e b cE g h)->C=true):=λU p hB hn=>K U λ⟨h,i⟩=>by
   let⟨u',a',y,h2⟩:=ad8 F i;rw[aa]at y;simp at y;obtain⟨rfl,rfl⟩:=y;have v:=hB _ _ h2;obtain⟨W,_,g2,_,g4,_⟩:=p v;obtain⟨ac,_,k2,_,k4,_⟩:=h2;grind
  refine⟨V,V,u,L,(Cm (dE.ext l hd)).aP ?_,?_⟩
  .rintro _ n ⟨A,E,T,o,rfl,j,p,Q⟩
   refine⟨j.eW Z,A,E,T,o,O,?_⟩
   intro S
   have B:=px S
   have b0:m.size<n.size:=cr V j.aQ
   refine⟨B.cZ (j.aS L),bE (B.bG _ b0) _,?_⟩
   intro I
   have w:D m I:=((l.J j).J B).aV (VE l.aQ j.aQ) _ _
   refine⟨λv=>⟨V,V,a,by simpa using(z.ext w).bt J,λr=>kG w p v (sp r),λr=>X w p Q λi=>by simp at r;exact r i.2⟩,λv=>X w p Q λi=>by rw[i.1]at v;cases v⟩
  .intro n
   have j:=px n
   have z2:n.size=m.size+2:=by simp[n];omega
   have ab:∀c∈[x.size,m.size],c<n.size:=eX
   refine⟨j.cZ L,bE (j.bG _ V) _,(Cm (dE.ext (l.J j) hd)).aP ?_⟩
   rintro _ S ⟨A,E,T,o,rfl,B,p,Q⟩
   refine⟨B.eW ab,A,E,T,o,O,?_⟩
   intro I
   have w:D m I:=((l.J j).J B).aV V _ _
   refine⟨λv=>⟨V,V,a,by simpa using(z.ext w).bt J,λr=>kG w p v (sp r),λr=>X w p Q λi=>by simp at r;exact r i.2⟩,λv=>X w p Q λi=>by rw[i.1]at v;cases v⟩
 .have G:b=6:=sp G
  refine(HV (dE.ext l hd) ht cE (hn G)).aP ?_
  rintro _ n ⟨t,q,rfl,v,j,X,R⟩
  refine⟨j.eW Z,t,q,O,?_⟩
  intro S I
  have w:=py I
  have aa:∀c∈[n.size,m.size],c<I.size:=by have:=l.aQ;have:=j.aQ;simp[I,S,bD];omega
  have A:=(l.J j).J w
  refine⟨λk=>(kA (z.ext A) (v.ext w)).aP ?_,λk=>K A λ⟨h,i⟩=>by have:=R h (sT6 G i).1;simp at k;omega⟩
  rintro _ m5 ⟨E,rfl,J,Q⟩
  have k:0<=t:=cB
  refine⟨Q.eW aa,E,O,t,E,O,A.J Q,λT=>⟨k,?_⟩,λ⟨h,i⟩=>J.2 (sT6 G i).2⟩
  grind [fY.lF]
 .have P:b=9\/b=10:=cB
  have ah:=hf.aT
  refine⟨λk=>absurd (H.2.2 P).1 cB,λQ=>⟨λk=>absurd (H.2.2 P).2 cB,λr=>?_⟩⟩
  have Q:0<=cE:=cB
  have r:cE<e.di.length:=cB
  let⟨q,v⟩:=dU e.di cE.toNat
  let⟨a,C,I,aj,L,g1,g2⟩:=(oW.ext l hf).bt v
  have aa:=I.aT
  have af:=aZ v
  have ak:=(so.eR q af).1
  have ai:=I.ms
  refine⟨Q,V,a,L,Q,V,q.bQ,g2,λe9=>(kA (z.ext l) I).aP ?_,λe9=>⟨λw=>K l λ⟨h,i⟩=>(by
   obtain⟨q',W,A,k2,_⟩:=ad7 cB i;rw[v]at A;cases A;have R:eI ((a.len:Int) -1)=(a.len:Int) -1:=by grind [de]
   rw[R]at w;rw[k2]at aa;simp at w aa;omega),λw=>?_⟩⟩
  .grind [D.eW,D.J,nD.bQ,sT9,fY.jE]
  .have ac:b=10:=cB
   have R:eI ((a.len:Int) -1)=(a.len:Int) -1:=by grind [de]
   rw[R]at w⊢
   have w:1<=a.len:=cB
   have et:((a.len:Int) -1).toNat=q.aY.length -1:=V
   let⟨W,hy⟩:=dU q.aY (q.aY.length -1)
   refine⟨V,V,W,by rw[et];exact I.bt hy,(NY (dE.ext l hd)).aP ?_⟩
   rintro _ n ⟨t,rfl,j,p,ad⟩
   have ab:∀{h},fY e b cE g h->q.aY=g++[W]/\rL e.bT h W q.bQ:=λ{h} i=>by
    grind [ad7]
   refine⟨j.eW Z,t,O,λA=>⟨V,V,V,?_⟩,λA=>K (l.J j) λ⟨h,i⟩=>by have:=ad h (ab i).2;simp at A;omega⟩
   have ae:be n (a.cut (Int.toNat 0) ((a.len:Int) -1).toNat 1) (q.aY.take (q.aY.length -1)):=by
    grind [fW.SW,be.ext]
   refine(kA (z.ext (l.J j)) ae).aP ?_
   rintro _ S ⟨E,rfl,J,B⟩
   have A:0<=t:=cB
   refine⟨B.eW λc X=>cr (Z c X) j.aQ,E,O,t,E,O,(l.J j).J B,λT=>⟨A,fY.afb ac v ?_ (p A)⟩,λ⟨h,i⟩=>J.2 (by rw[(ab i).1];simp)⟩
   rw[J.1 T]
   have:=bX hy
   grind
end
section
variable{r:Int}{l:ab}
variable{a:da}{p:eE}{x:Instr}{kn b:Kn}{t:Int}{d n:Nat}{B:Int}{c:ab}
theorem fY.aa5(f:eT a.bT){b cE d:Int}(h:fY a b cE c t)(e:fY a b cE c d):t=d:=by
 unfold fY at h e;grind [Un,rL.aa5,rL.aff,List.append_cancel_left]
def CD(a:da)(x:Instr)(l:ab):ab:=if x.op=9\/x.op=24 then jV a x 0 l else l
def Ng:∀(l:ab)(r:Int)(k:Kn),fZ k (l++[r])=if((fZ k l).r r).lS=0 then fZ k l else(fZ k l).iJ r (-1)
 |[],r,k=>O
 |y::l,r,k=>by rw[eS,fZ,Ng l];rfl
def Gl:∀(l:ab)(k:Kn)(i:Int),(∀r∈l,0<=r/\r<k.aU.length)->0<=i->((fZ k l).r i).lS=(k.r i).lS
 |[],k,i,_,_=>O
 |r::l,k,i,b,a=>by
  have d:=b r cK;rw[fZ];split
  .exact Gl l k i (λy c=>b y (aX _ c)) a
  .rw[Gl l _ i (λy c=>by rw[rf];exact b y (aX _ c)) a,yH d a]
def QX:∀(l:ab)(k:Kn)(i:Int),(∀r∈l,0<=r/\r<k.aU.length)->0<=i->((fZ k l).r i).bI<=(k.r i).bI
 |[],k,i,_,_=>dT _
 |r::l,k,i,a,c=>by
  have d:=a r cK;rw[fZ];split
  .exact QX l k i (λy b=>a y (aX _ b)) c
  .refine Int.le_trans (QX l _ i (λy b=>by rw[rf];exact a y (aX _ b)) c) ?_;grind [yH]
def Lt:∀(l a:ab)(k:Kn),fZ k (l++a)=fZ (fZ k l) a
 |[],_,_=>O
 |r::l,a,k=>by rw[eS,fZ,Lt l];rfl
def Vk:∀(l:ab)(k:Kn),(∀r∈l,(k.r r).lS=0)->fZ k l=k
 |[],_,_=>O
 |r::l,k,h=>by rw[fZ,bn (h r cK)];exact Vk l k λy a=>h y (aX _ a)
def Zc(h:mJ a p d x)(b:eT a.bT)(c:nD a.bT a.di):x.aO.length<=4:=by
 have f:∀{q:eE}{i:Nat},a.di[i]? =some q->q.aY.length<=3:=λe=>(c.eR _ (aZ e)).1;have:=DZ b x.cE;unfold mJ rQ at h;grind (splits:=20)
theorem Q4{i:Nat}(h:x.aO[i]? =some r):(qA kn x.aO)[i]? =some (kn.r r).lS:=by simp[qA,h]
def YM(d:uT a p x (qA kn x.aO) t)(f:x.op≠15/\x.op≠16/\x.op≠17/\x.op≠18):fZ kn (cO a x)=fZ kn (CD a x x.aO):=by
 have z:∀{l:ab},qA kn x.aO=l->(∀y∈l,y=0)->∀r∈x.aO,(kn.r r).lS=0:=λe b r c=>b _ (e▸gK.2 ⟨r,c,O⟩);have g:=Vk x.aO kn;unfold uT fY at d;unfold cO CD;grind [fZ]
def O9:CD a x (l++[r])=CD a x l++(if(x.op=9\/x.op=24)/\lA a x l.length=true then[]else[r]):=by
 grind [CD,sg,jV,lA,List.length]
def Pa(h:r∈CD a x l):r∈l:=by
 grind [CD,uF]
open Classical in
def Yc.of(d:x.op≠15/\x.op≠16/\x.op≠17/\x.op≠18)(g:uT a p x (qA kn x.aO) t)(h:nY (fZ kn (CD a x x.aO)) n B)(e:∀r∈x.aO,0<=r)(f:(x.op=9\/x.op=24)->∀r∈fJ a x 0 x.aO,ru (fZ kn (CD a x x.aO)) r)
 (i:VH x t (fZ kn (CD a x x.aO)) b):Yc p a kn x t b:=by
 unfold Yc
 rw[YM g d]
 refine⟨λr c=>(h.bI r ?_).1,f,?_⟩
 .refine e r ?_
  unfold cO at c
  repeat' (split at c)
  .exact c
  .exact gW c
  .exact uF c
  .simp at c
 .grind [VH]
def yg.use(h:x.op≠22/\x.op≠14/\x.op≠15/\x.op≠16/\x.op≠17/\x.op≠18/\x.op≠19)(d:uT a p x (qA kn x.aO) t)(c:Yc p a kn x t b):yg a p kn x b:=by
 grind [yg]
end
section
abbrev VC:=dI (λk=>k=5\/k=7)
def oD(f:Nat)(c:ap)(s:bh)(k:ag)(m:bh)(b:Nat)(u ks:E)(n:Nat)(B:Int)(Q:Kn->Prop)(F:Option Kn):Prop:=
 bK dO f c m λw y=>∃g z,w=vb g/\VC k m z y/\(g=true->∃a,Wk s z y b u ks a n B/\Q a/\F=some a)/\(g=false->F=none)
open Classical in
noncomputable def TP (h:da) (p:eE) (e:Instr) (kn:Kn):Option Kn:=
 if a:∃t,uT h p e (qA kn e.aO) t then
  if(∀g∈CD h e e.aO,0<=((fZ kn (CD h e e.aO)).r g).bI)/\((e.op=9\/e.op=24)->∀g∈fJ h e 0 e.aO,ru (fZ kn (CD h e e.aO)) g)then Kc e a.choose (fZ kn (CD h e e.aO))else none
 else none
@[grind cases] structure CH (m0 m M:bh) (ro ro2:ag) (im:da) (x:Instr) (kn:Kn) (b:Nat) (rs ks:E) (n:Nat) (B:Int) (T:E) (ts ll:ab) (df:E) (i:Nat):Prop where
 wk:Wk m0 ro2 M b rs ks (fZ kn (CD im x (x.aO.take i))) n B
 fN:VC ro m ro2 M
 ty:iE ro2 M bB 1 0 T (ts.map Ce.i)
 qB:iE ro2 M bB 1 7 df (ll.map Ce.i)
 p7:ll.length<=i/\∀r∈ll,r∈x.aO/\(x.op=9\/x.op=24)/\r∈fJ im x 0 (x.aO.take i)
 UP:(x.op=9\/x.op=24)->∀r∈fJ im x 0 (x.aO.take i),r∈ll
variable{s m y M o:bh}{k z j:ag}{v b n C i:Nat}{d f a l c F u ks I J T df:E}{h:da}{p:eE}{B A:Int}{kn H:Kn}{e:Instr}{t g:Int}{w q:ab}{K:Kn->Prop}
def oD.no{F:Option Kn}(d:VC k m z y)(c:F=none):∃g z,vb false=vb g/\VC k m z y/\(g=true->∃a,Wk s z y b u ks a n B/\K a/\F=some a)/\(g=false->F=none):=⟨false,z,O,d,λe=>(by cases e),λ_=>c⟩
theorem ZC{a:Int}{k:Kn}(h:e.op=20\/e.op=23):Kc e t k=Kc e a k:=by
 grind [Kc,lL]
open Classical in
def XU(d:eT h.bT)(a:uT h p e (qA kn e.aO) t)(c:e.op≠23->t=g):TP h p e kn=
 if(∀g∈CD h e e.aO,0<=((fZ kn (CD h e e.aO)).r g).bI)/\((e.op=9\/e.op=24)->∀g∈fJ h e 0 e.aO,ru (fZ kn (CD h e e.aO)) g)then Kc e g (fZ kn (CD h e e.aO))else none:=by
 unfold TP
 have b:∃t,uT h p e (qA kn e.aO) t:=⟨t,a⟩
 grind [Kc,fZ,CD,ZC,uT,fY.aa5]
def aa6(i:Nat):∃a,CD h e e.aO=CD h e (e.aO.take i)++a/\∀g∈a,g∈e.aO:=by
 have b:=j8 i e.aO;unfold CD;split
 .have c:=sg h e (e.aO.take i) (e.aO.drop i) 0;grind [List.mem_of_mem_drop,uF]
 .grind [List.drop,List.mem_of_mem_drop]
def aa7(o:eT h.bT)(c:uT h p e (qA kn e.aO) t)(a:∀g∈e.aO,0<=g/\g<kn.aU.length)(k:g∈CD h e (e.aO.take i))(q:((fZ kn (CD h e (e.aO.take i))).r g).bI<0):TP h p e kn=none:=by
 rw[XU (g:=t) o c λ_=>O,aW];intro f;let⟨n,b,j⟩:=aa6 (h:=h) (e:=e) i;have l:=a g (gW (Pa k));have d:=f.1 g cB;rw[b,Lt]at d;have:=QX n (fZ kn (CD h e (e.aO.take i))) g (λy m=>by rw[Gk];exact a y (j y m)) l.1;omega
def iE.LO{a c b:Nat}{s:E}{l:ae}(h:iE k m a c b s l)(e:D m y):iE k y a c b s l:=by grind [iE.fQ,D.bG,iE.bu]
def CH.ext(a:CH s m M k j h e kn b u ks n B T w q df i)(c:D M o):CH s m o k j h e kn b u ks n B T w q df i:=
 ⟨a.wk.ext c,a.fN.J (dI.fB c a.fN.bF),a.ty.LO c,a.qB.LO c,a.p7,a.UP⟩
def CH.ade(a:CH s m M k j h e kn b u ks n B T w q df i)(f:e.aO[i]? =some g)(o:∀g∈e.aO,0<=g/\g<kn.aU.length)(p:(kn.r g).lS=0)(r:(e.op=9\/e.op=24)->¬lA h e i=true):
 CH s m M k j h e kn b u ks n B T w q df (i+1):=by
 have l:(e.aO.take i).length=i:=by have:=br f;simp;omega
 have t:=o g (aZ f)
 refine⟨?_,a.fN,a.ty,a.qB,⟨by have:=a.p7.1;omega,λy d=>⟨(a.p7.2 y d).1,(a.p7.2 y d).2.1,by rw[bX f,ln];exact dN _ (a.p7.2 y d).2.2⟩⟩,λv y d=>?_⟩
 .rw[bX f,O9,l,aW (λc=>r c.1 c.2),Ng,bn (by rw[Gl _ _ _ (λy d=>o y (gW (Pa d))) t.1];exact p)]
  exact a.wk
 .rw[bX f,ln,eV,l]at d
  grind [CH.UP,fJ]
def CH.Nh(a:CH s m M k j h e kn b u ks n B T w q df i)(f:e.aO[i]? =some g)(A:∀g∈e.aO,0<=g/\g<kn.aU.length)(G:(kn.r g).lS≠0)(t:¬((e.op=9\/e.op=24)/\lA h e i=true))(H:B<=1000000):
 bK dO 156 [vp b 0,vi g] M λv o=>∃l:Bool,v=vb l/\dI (·=5) j M j o/\VC k m j o/\(l=true->CH s m o k j h e kn b u ks n B T w q df (i+1))/\(l=false->g∈CD h e (e.aO.take (i+1))/\((fZ kn (CD h e (e.aO.take (i+1)))).r g).bI<0):=by
 have r:(e.aO.take i).length=i:=by have:=br f;simp;omega
 have C:=A g (aZ f)
 have I:=a.wk.ok.aT
 have J:=Gk (CD h e (e.aO.take i)) kn
 have L:((fZ kn (CD h e (e.aO.take i))).r g).lS=(kn.r g).lS:=Gl _ _ _ (λy d=>A y (gW (Pa d))) C.1
 refine(sH a.fN.bF a.wk.ql a.wk.ok V C.1 V).aP ?_
 rintro _ o ⟨l,rfl,E,p,K⟩
 have x:VC j M j o:=by grind [dI.aP]
 have F:fZ kn (CD h e (e.aO.take (i+1)))=(fZ kn (CD h e (e.aO.take i))).iJ g (-1):=by
  rw[bX f,O9,r,aW t,Ng,aW cB]
 refine⟨l,O,p,a.fN.J x,λD=>⟨?_,a.fN.J x,a.ty.fN p cD,a.qB.fN p cD,⟨by have:=a.p7.1;omega,λy d=>⟨(a.p7.2 y d).1,(a.p7.2 y d).2.1,by rw[bX f,ln];exact dN _ (a.p7.2 y d).2.2⟩⟩,λz y d=>?_⟩,λD=>⟨?_,?_⟩⟩
 rotate_right
 .grind
 rotate_right
 .rw[bX f,O9,r,aW t];simp
 .grind [CH.wk,Wk.ok,yH,Wk.of,nY.iJ]
 .rw[bX f,ln,eV,r]at d
  rcases bU.1 d with d|d
  .exact a.UP z y d
  .rw[fJ,aW (λc=>t ⟨z,c⟩)]at d;simp[fJ]at d
def CH.afh{G:E->bh->Prop}(p:CH s m M k j h e kn b u ks n B T w q df i)(r:e.aO[i]? =some g)(A:(e.op=9\/e.op=24)/\lA h e i=true)(P:e.aO.length<=4)
 {d:Nat}(y:∀l o f a,gS [d] (M.push (.cells (db [.i g]) bB)) o->CH s m o k f h e kn b u ks n B T w a l (i+1)->G l o)(N:d<M.size)(I:j d=0):mj (M.push (.cells (db [.i g]) bB)) bB [.i 0] 8 df (.mk M.size 0 1 1) G:=by
 have x:(e.aO.take i).length=i:=by have:=br r;simp;omega
 have L:=br r
 have a:=p.ext (D.push M (.cells (db [.i g]) bB))
 have z:=p.qB.aT
 have K:=p.p7.1
 simp at z
 refine iE.fw (f:=[.i 0]) (new:=[.i g]) a.qB a.fN.bF bO (dF.push M [.i g] bB).kY (by simp only[E.ku];omega) λf l o F t=>?_
 have v:VC j (M.push (.cells (db [.i g]) bB)) f o:=by grind [dI.aP]
 have eW:gS [d] (M.push (.cells (db [.i g]) bB)) o:=λc J=>by
  grind
 refine y l o f (q++[g]) eW ⟨?_,a.fN.J v,a.ty.fN t cD,sp F,⟨eX,λH C=>?_⟩,λO H C=>?_⟩
 .rw[bX r,O9,x,bn A,fO]
  exact⟨a.wk.bs.SR t cD,a.wk.ql.fN t cD,a.wk.ok⟩
 .grind [bX,ln,CH.p7,aZ,List.mem_append_right,fJ]
 .grind [bX,ln,CH.UP,fJ]
end
section
variable{s m J M H:bh}{j y o:ag}{u b L A h:Nat}{d f a l c C w ks k F T df:E}{e:da}{g:eE}{B G:Int}{kn I:Kn}{x:Instr}{t r:Int}{z q:ab}{K:Kn->Prop}
theorem aaZ{l:ab}{h:Nat}{w:Int}{j:Nat}(a:h<l.length):(gX l h w)[j]? =if j=h then some w else l[j]? :=by
 grind [gX,Int.toNat_natCast,List.getElem?_set_self,List.getElem?_set_ne]
def aaO(i:iB e)(j:x.op=9\/x.op=24)(o:uT e g x z t){h:Nat}{y:Int}(a:lA e x h=true)(p:z[h]? =some y):y≠0:=by
 have b:fY e 9 x.cE z t:=by
  grind [uT]
 unfold fY at b;rw[aW cD,aW cD,aW cD,aW cD,bn O]at b;obtain⟨q,c,l,_⟩:=b;unfold lA dG at a;rw[c]at a;simp only[ui,W7,bP]at a;obtain⟨r,f,rfl⟩:=a;let⟨k,d⟩:=cH.1 f;obtain⟨⟨u,_,m,n⟩,_⟩:=(i.eR q (aZ c)).df k _ d;grind [Int.toNat_natCast]
def P4{q:eE}{h:Nat}(a:e.di[x.cE.toNat]? =some q):lA e x h=true<->(h:Int)∈q.df:=by
 grind [lA,dG]
def Tp(h:mJ e g A x):(x.op=0->-999<=x.cE/\x.cE<=999)/\(x.op=1\/x.op=2\/x.op=3\/x.op=4\/x.op=5\/x.op=11->x.cE=0)/\(x.op=9\/x.op=10\/x.op=24->0<=x.cE/\x.cE<e.di.length):=by
 unfold mJ rQ at h;have:=λq(h:e.di[x.cE.toNat]? =some q)=>br h;grind (splits:=20)
def En(U:Vx s d f a l c e g)(hb:dF m u jg [.s d,.s f,.s a,.s l,.i g.bQ,.i g.aU,.s c,.s C])(hv:j u=4)(Z:Wk s j m b w ks kn g.aU.toNat B)(hB:1<=B/\B<=1000000)(Q:iP e g A x)(ha:be s k x.aO)
 (aE:x.op≠22/\x.op≠14/\x.op≠15/\x.op≠16/\x.op≠17/\x.op≠18/\x.op≠19)(av:x.op≠7/\x.op≠8):
 oD 160 [vp u 0,vp b 0,.agg #[vi x.op,vi x.bH,vi x.cE,vi x.dh,k.v,F.v]] s j m b w ks g.aU.toNat B (yg e g kn x) (TP e g x kn):=by
 have so:=U.ok.mT
 have ay:=Zc Q.op so.dm so
 have aI:=(U.ok.eR g U.ql).aU
 have au:=ha.aT
 have aO:=Z.ok.aT
 have aQ:=Z.ql.GJ
 have ad:∀r∈x.aO,0<=r/\r<kn.aU.length:=λr H=>by have:=Q.aO r H;omega
 have aT:(qA kn x.aO).length=x.aO.length:=by simp[qA]
 unfold oD
 apply Ai (u,0) (b,0)
 simp -zeta only[dR,fR]
 intro Y
 obtain⟨x1,z1⟩:=pu Y
 refine⟨V,V,V,V,?_⟩
 intro m2
 have x2:D m m2:=x1.bZ _
 have z2:m2.size=m.size+2:=by simp[m2];omega
 have a2:iE j m2 bB 1 0 (.mk Y.size 0 k.len k.len) ((eP k.len).map Ce.i):=by
  have:=jw.bF (D.cT Y) bB 1 ((eP k.len).map Ce.i) k.len (by simp[lG]);rw[<-pI]at this⊢;exact iE.jA this λ_=>Z.bs.bF _ (by show m.size<=Y.size;omega)
 refine gP (n:=x.aO.length) V (λh M=>D m M/\m2.size<=M.size/\∃I:ab,I.length=x.aO.length/\iE j M bB 1 0 (.mk Y.size 0 k.len k.len) (I.map Ce.i)/\∀X,X<h->I[X]? =(qA kn x.aO)[X]?) ⟨x2,bY,_,by rw[lG,au],a2,V⟩ ?_
 rintro h M aL μ hi ⟨xM,zM,I,P,aM,aG⟩ aa
 have WM:=Z.ext xM
 refine dit (λG=>?_) λG=>?_
 .let⟨r,H⟩:=dU x.aO h
  have rr:=ad r (aZ H)
  obtain⟨w0,_⟩:=WM.ql.dx (i:=r) rr.1 V
  have gr:aS M k.bu (k.off+h*1)=some (vi r):=WM.bs.cV.aS (ha.bt H)
  refine⟨V,V,r,gr,w,WM.ql.jB.1,rr.1,V,_,w0,V,by simp only[E.ku];omega,?_,?_⟩
  .grind [iE.SA]
  intro J
  have a3:iE j J bB 1 0 (.mk Y.size 0 k.len k.len) ((gX I h (kn.r r).lS).map Ce.i):=by
   grind [iE.gX]
  have K:D m J:=xM.aV (by show m.size<=Y.size;omega) _ _
  have z:J.size=M.size:=bD _ _ _ _
  have eW:gS [m.size] M J:=λc hc=>by
   have:c=m.size:=sp hc;subst this;exact cq _ _ _ _ (by show m.size≠Y.size;omega)
  refine⟨eW,aa V _ ⟨K,V,_,by rw[jO,P],a3,λX hj=>?_⟩⟩
  grind [aaZ,Q4]
 have aH:I=qA kn x.aO:=by
  apply fq;grind
 subst aH
 clear aa G aG
 generalize hT:E.mk Y.size 0 k.len k.len=T at*
 have aN:T.len=x.aO.length:=by rw[<-hT];exact au
 have cM:VC j m j M:=dI.fB xM Z.bs.bF
 have af:=hb.ext xM
 have mM:(x.op=23\/x.op=20)->x.aO.length=1:=λz=>by
  have:=Q.op;unfold mJ at this;rcases z with z|z<;>simp only[z]at this<;>simp+decide only[nv,yf]at this<;>exact this.1
 have g1:x.aO.length=1->∃L,qA kn x.aO=[L]/\aS M T.bu (T.off+Int.toNat 0*1)=some (vi L):=λh1=>by
  let⟨L,R⟩:=dU (qA kn x.aO) 0;refine⟨L,?_,?_⟩
  .have N:(qA kn x.aO).length=1:=V;match qA kn x.aO,R,N with
   |[_],R,_=>simp at R;rw[R]
  .have:=aM.kY 0 (.i L) (by rw[eJ,R];rfl);exact this
 have an:∀{J:bh},D M J->be J T (qA kn x.aO):=λxx=>(aM.LO xx).oL V
 have aq:∀c∈[m.size],c<M.size:=eX
 refine⟨λbQ ok J=>D M J/\(ok=true->0<=bQ/\∃t,uT e g x (qA kn x.aO) t/\(x.op≠23->t=bQ))/\(ok=false->¬∃t,uT e g x (qA kn x.aO) t),⟨λac=>?_,λac=>⟨λae=>?_,λae=>⟨λai=>?_,λai=>?_⟩⟩⟩,?_⟩
 .have ac:x.op=23:=sp ac
  let⟨L,R,gy⟩:=g1 (mM (bC ac))
  refine⟨V,V,L,gy,g.bQ,af.dx 4,cY,λG=>⟨dT 0,g.bQ,?_,λc=>absurd ac c⟩,λG⟨t,z⟩=>?_⟩
  .have G:L=g.bQ:=sp G
   unfold uT
   grind
  .unfold uT at z
   grind
 .have ae:x.op=20:=sp ae
  let⟨L,R,gy⟩:=g1 (mM (bR ae))
  refine⟨V,V,L,gy,cY,λG=>⟨dT 0,0,?_,λ_=>O⟩,λG⟨t,z⟩=>?_⟩
  .grind [uT]
  grind [uT]
 .have ai:x.op=24:=sp ai
  refine⟨d,af.dx 0,f,af.dx 1,(xl so (dE.ext WM.bs.cV U.bT) (oW.ext WM.bs.cV U.mT) (an cY) V (λz=>absurd z cD) ⟨λz=>absurd z cD,λz=>absurd z cD,λ_=>(Tp Q.op).2.2 V⟩).aP ?_⟩
  rintro _ J ⟨t,S,rfl,K,ht,ag⟩
  have hU:∀N,uT e g x (qA kn x.aO) N<->fY e 9 x.cE (qA kn x.aO) N/\N=g.bQ:=λN=>by
   grind [uT]
  refine⟨K.eW aq,t,S,O,λG=>⟨g.bQ,(af.ext K).dx 4,K,λW=>?_,λW⟨N,z⟩=>?_⟩,λG=>⟨K,λW=>(by cases W),λ_⟨N,z⟩=>?_⟩⟩
  .grind
  .grind [fY.aa5]
  grind
 .have ac:x.op≠23:=sp ac
  have ae:x.op≠20:=sp ae
  have ai:x.op≠24:=sp ai
  refine⟨d,af.dx 0,f,af.dx 1,(xl so (dE.ext WM.bs.cV U.bT) (oW.ext WM.bs.cV U.mT) (an cY) V (λz=>?_) ⟨(Tp Q.op).1,(Tp Q.op).2.1,λz=>(Tp Q.op).2.2 V⟩).aP ?_⟩
  .have:=Q.op
   unfold mJ at this
   simp only[z]at this
   simp+decide only[nv,yf]at this
   have:=this.1
   have W:=tE so.dm e.bT.length
   grind [qI]
  rintro _ J ⟨t,S,rfl,K,ht,ag⟩
  have hU:∀N,uT e g x (qA kn x.aO) N<->fY e x.op x.cE (qA kn x.aO) N:=λN=>by
   grind [uT]
  refine⟨K.eW aq,t,S,O,K,λG=>?_,λG⟨N,z⟩=>?_⟩
  .grind
  grind
 rintro bQ ok J ⟨K,aD,aC⟩
 have am:=xM.J K
 have ah:VC j m j J:=dI.fB am Z.bs.bF
 refine⟨λG=>oD.no ah (by unfold TP;rw[dif_neg (aC (sp G))]),λG=>?_⟩
 let⟨aK,t,hU,aJ⟩:=aD (sp G)
 have r0:j m.size=0:=Z.bs.bF _ bY
 have aV:=K.aQ
 have ao:=hb.ext am
 have az:x.dh=0\/1<=x.dh/\x.dh<=g.aU:=by
  rcases Q.dh with z|z
  .exact bC z
  .have:=Q.op;unfold mJ at this;simp only[z]at this;grind
 refine⟨λdf N=>∃o q,CH s J N j o e x kn b w ks g.aU.toNat B T (qA kn x.aO) q df x.aO.length,?_,?_⟩
 .refine gL (n:=x.aO.length) V (λh df N=>∃o q,CH s J N j o e x kn b w ks g.aU.toNat B T (qA kn x.aO) q df h) ⟨j,[],⟨?_,dI.cT _ ah.bF,aM.LO K,⟨O,bY,bC O⟩,⟨bY,bO⟩,by simp[fJ]⟩⟩ ?_
  .have:CD e x (x.aO.take 0)=[]:=by unfold CD;split<;>simp[jV]
   rw[this];exact Z.ext am
  rintro h df N I2 μ2 hi ⟨o,q,S⟩ aa
  have zN:=S.fN.aQ
  have ak:m.size<J.size:=V
  have bN:m.size<N.size/\o m.size=0:=⟨V,(S.fN.jt _ ak).trans r0⟩
  have cN:VC j m o N:=ah.J S.fN
  have aw:dF N u jg [.s d,.s f,.s a,.s l,.i g.bQ,.i g.aU,.s c,.s C]:=ao.congr (S.fN.fQ u ao.lt (by rw[hv];decide))
  refine⟨λG=>?_,λG=>?_⟩
  .simp only[bg]at G
   have G:h<x.aO.length:=V
   let⟨r,H⟩:=dU x.aO h
   have gr:aS N k.bu (k.off+h*1)=some (vi r):=S.wk.bs.cV.aS (ha.bt H)
   have gy:aS N T.bu (T.off+h*1)=some (vi (kn.r r).lS):=by
    have:=S.ty.kY h (.i (kn.r r).lS) (by rw[eJ,Q4 H];rfl);rw[nu];exact this
   refine⟨V,V,r,gr,V,V,_,gy,λe0=>aa V _ _ ⟨o,q,S.ade H ad (sp e0) λho W=>aaO U.ok ho hU W (Q4 H) (sp e0)⟩,λe0=>?_⟩
   have y0:(kn.r r).lS≠0:=sp e0
   have tk:∀{N2:bh},D N N2->¬((x.op=9\/x.op=24)/\lA e x h=true)->bK dO 156 [vp b 0,vi r] N2 λaB N3=>gS [m.size] N2 N3/\∃I:Bool,aB=vb I/\
    ((!I)=true->∃r y,vb false=vb r/\VC j m y N3/\(r=true->∃W,Wk s y N3 b w ks W g.aU.toNat B/\yg e g kn x W/\TP e g x kn=some W)/\(r=false->TP e g x kn=none))/\
    ((!I)=false->I2 df (eI ((h:Int)+1)) N3/\μ2 df (eI ((h:Int)+1)) N3<μ2 df h N):=λ{N2} xN hn=>by
    refine((S.ext xN).Nh H ad y0 hn hB.2).aP ?_
    rintro _ N3 ⟨I,rfl,c5,c7,P,ax⟩
    refine⟨c5.Db λL R=>?_,I,O,λW=>oD.no (ah.J c7) (have z:=ax (sp W);aa7 so.dm hU ad z.1 z.2),λW=>aa V _ _ ⟨o,q,P (sp W)⟩⟩
    have:L=m.size:=sp R
    grind
   refine⟨λe9=>?_,λe9=>⟨λag=>?_,λag=>tk cY (by simp at e9 ag;omega)⟩⟩
   all_goals
    have h9:x.op=9\/x.op=24:=by first|exact bC (sp e9)|exact bR (sp ag)
    have al:=Q.op
    unfold mJ at al
    rw[aW V,aW V,aW V,aW V,bn h9]at al
    let⟨I,n0,P,aF⟩:=al
    have ar:=oW.ext S.wk.bs.cV U.mT
    have aR:=ar.aT
    let⟨a1,b1,ia,ib,w0,w1,w2⟩:=ar.bt P
    have aP:=br P
    refine⟨f,aw.dx 1,n0,V,b1,w1,(lE ib h).aP ?_⟩
    rintro _ N2 ⟨r2,rfl,ap,xN⟩
    refine⟨xN.eW (sp bN.1),r2,O,λet=>?_,λef=>tk xN λhc=>fb ap ef ((P4 P).1 hc.2)⟩
    exact(S.ext xN).afh H ⟨h9,(P4 P).2 (ap.1 et)⟩ ay (λaU N3 aj aA eW S'=>⟨eW,aa V _ _ ⟨aj,aA,S'⟩⟩) (cr bN.1 xN.aQ) bN.2
  grind
 .rintro df N ⟨o,q,S⟩
  have zN:=S.fN.aQ
  have ak:m.size<J.size:=V
  have bN:m.size<N.size/\o m.size=0:=⟨V,(S.fN.jt _ ak).trans r0⟩
  have cN:VC j m o N:=ah.J S.fN
  have aB:=S.qB.aT
  simp at aB
  have ap:=S.p7
  have ag:=S.wk
  have ar:=S.UP
  rw[fu]at ag ar
  have aA:=S.qB.oL V
  have hF:=XU (p:=g) so.dm hU aJ
  refine gP (n:=q.length) V (λX N'=>N'=N/\∀r∈q.take X,ru (fZ kn (CD e x x.aO)) r) ⟨O,bO⟩ ?_
  rintro X N' I3 μ3 hj ⟨ax,al⟩ aa
  obtain rfl:N=N':=ax.symm
  refine dit (λG=>?_) λG=>?_
  .let⟨r,H⟩:=dU q X
   have rr:=ad r (ap.2 r (aZ H)).1
   refine⟨V,V,r,aA.bt H,(oE ag.ql ag.ok V).aP ?_⟩
   rintro _ _ ⟨I,rfl,rfl,P⟩
   refine⟨cY.eW (sp bN.1),I,O,λW=>oD.no cN (by
    rw[hF,aW];intro hc;have hm:=ap.2 r (aZ H);rw[fu]at hm;rw[P.2 ⟨rr.1,hc.2 hm.2.1 r hm.2.2⟩]at W;cases W),λW=>aa V _ ⟨O,λaw hz=>?_⟩⟩
   rw[bX H]at hz
   grind
  .have:X=q.length:=V
   subst this
   rw[fu]at al
   refine(Ah (v:=u) (y:=F) ag hB.1 Q av (S.wk.bs.cV|>λ_=>ha) aK aI.2.1 az).aP ?_
   rintro _ N2 ⟨I,aj,rfl,c5,P,aF⟩
   have hc:(∀r∈CD e x x.aO,0<=((fZ kn (CD e x x.aO)).r r).bI)/\((x.op=9\/x.op=24)->∀r∈fJ e x 0 x.aO,ru (fZ kn (CD e x x.aO)) r):=⟨λr H=>(ag.ok.bI r (ad r (Pa H)).1).1,λho r H=>al r (ar ho r H)⟩
   rw[hF,bn hc]
   have c7:VC o N aj N2:=c5.aP λ_ G=>bC G
   refine⟨c5.Db λL R=>?_,I,O,I,aj,O,cN.J c7,λW=>?_,aF⟩
   .grind
   .let⟨k',W',hf,aw⟩:=P W
    refine⟨k',W',yg.use aE hU (Yc.of V hU ag.ok (λr H=>(ad r H).1) hc.2 ?_),aw⟩
    grind [VH]
end
section
variable{w m q U M N:bh}{k u W:ag}{v b n J P C:Nat}{A:ap}{H f a I c K s ks G L T df:E}{j:da}{h:eE}{B z:Int}{kn R:Kn}{x:Instr}{y r:Int}{X S:ab}{Q:Kn->Prop}{F:Option Kn}
theorem oD.up(h:oD C A w k q b s ks n B Q F)(p:D m q)(x:m.size<q.size)(j:∀b,m.size<=b->k b=0)(i:B<=z):
 bK dO C A q λv c=>gS [m.size] q c/\∃a:Bool,v=vb a/\∃r u,vb a=vb r/\VC k m u c/\(r=true->∃d,Wk w u c b s ks d n z/\Q d/\F=some d)/\(r=false->F=none):=by
 refine bK.aP h ?_
 rintro _ c ⟨a,u,rfl,e,l,o⟩
 refine⟨e.Db λE y=>?_,a,O,a,u,O,(dI.fB p j).J e,λf=>?_,o⟩
 .grind
 .let⟨t,d,g⟩:=l f
  exact⟨t,⟨d.bs,d.ql,d.ok.aP i⟩,g⟩
theorem nC.up(h:nC C A w k q b s ks n B Q F)(o:D m q)(j:m.size<q.size)(l:∀b,m.size<=b->k b=0)(i:B<=z):
 bK dO C A q λp d=>gS [m.size] q d/\∃a:Bool,p=vb a/\∃r u,vb a=vb r/\VC k m u d/\(r=true->∃c,Wk w u d b s ks c n z/\Q c/\F=some c)/\(r=false->F=none):=
 oD.up (bK.aP h λ_ _⟨a,u,c,f,g⟩=>⟨a,u,c,f.aP λ_ e=>bC e,g⟩) o j l i
open Classical in
noncomputable def sE (j:da) (h:eE) (x:Instr) (kn:Kn):Option Kn:=
 let a:=bt x.aO 0
 if x.op=22 then some kn
 else if x.op=14 then if 0<(kn.r a).lS/\ru kn a then some (kn.iJ a 1)else none
 else if x.op=15 then if 0<(kn.r a).lS/\0<=((kn.iJ a (-1)).r a).bI then some (kn.iJ a (-1))else none
 else if x.op=16\/x.op=17 then Qj j x kn
 else if x.op=18 then if 0<=(kn.r a).lS/\0<=((fZ kn [a]).r a).bI/\((fZ kn [a]).r x.bH).bI<=0 then some ((fZ kn [a]).dX x.bH (kn.r a).lS (Ky (kn.r a).lS))else none
 else if x.op=19 then P7 j x kn
 else TP j h x kn
def yg.Oc(a:x.op=22):yg j h kn x kn:=by grind [yg]
theorem yg.dup(a:x.op=14)(b:0<(kn.r (bt x.aO 0)).lS)(c:ru kn (bt x.aO 0)):yg j h kn x (kn.iJ (bt x.aO 0) 1):=by
 grind [yg]
theorem yg.Bc(a:x.op=15)(b:0<(kn.r (bt x.aO 0)).lS):yg j h kn x (kn.iJ (bt x.aO 0) (-1)):=by
 grind [yg]
def yg.pW(b:x.op=18)(c:0<=(kn.r (bt x.aO 0)).lS){a:Kn}(f:fZ kn [bt x.aO 0]=a)(d:0<=(a.r (bt x.aO 0)).bI)(e:(a.r x.bH).bI<=0):
 yg j h kn x (a.dX x.bH (kn.r (bt x.aO 0)).lS (Ky (kn.r (bt x.aO 0)).lS)):=by
 grind [yg]
def ZS(y:Int):0<=Ky y/\Ky y<=1:=by grind [Ky]
def XD{y:Int}(h:0<=y):(if(1:Int)<y then 1 else y)=Ky y:=by
 grind [Ky]
open Classical in
def Bo(P:Vx w H f a I c j h)(hb:dF m v jg [.s H,.s f,.s a,.s I,.i h.bQ,.i h.aU,.s c,.s K])(hv:k v=4)(aa:Wk w k m b s ks kn h.aU.toNat B)(hB:1<=B/\B<=1000000)(Q:iP j h J x)(Y:be w G x.aO):
 oD 110 [vp v 0,vp b 0,.agg #[vi x.op,vi x.bH,vi x.cE,vi x.dh,G.v,L.v]] w k m b s ks h.aU.toNat (B+3) (yg j h kn x) (sE j h x kn):=by
 have av:=Y.aT
 have aq:=aa.ok.aT
 have au:=aa.ql.GJ
 have ai:=Q.bH
 have ao:x.bH<kn.aU.length:=by have:=(P.ok.eR h P.ql).aU;omega
 have ar:=(P.ok.eR h P.ql).aU
 have an:x.op≠7/\x.op≠8:=by
  have E:=Q.op;unfold mJ at E;constructor<;>intro y<;>simp only[y]at E<;>simp+decide only[nv]at E
 unfold oD
 apply yr (v,0) (b,0)
 simp -zeta only[dR]
 intro q
 have T:=px q
 have z1:m.size<q.size:=by simp[q]
 have n:=aa.ext T
 have hn:=aa.bs.bF
 have F:VC k m k q:=dI.fB T hn
 have ah:=hb.ext T
 have S:∀u∈[m.size],u<q.size:=cB
 have n0:∀u∈[m.size],k u≠5:=cB
 have mM:(x.op=14\/x.op=15\/x.op=18)->∃r,bt x.aO 0=r/\x.aO.length=1/\(0<=r/\r<kn.aU.length)/\aS q G.bu (G.off+Int.toNat 0*1)=some (vi r):=λE=>by
  have h1:x.aO.length=1:=by
   have:=Q.op;unfold mJ at this;rcases E with E|E|E<;>simp only[E]at this<;>simp+decide only[nv,yf]at this<;>exact this.1
  have ak:=jT (l:=x.aO) (i:=0) V V;have:=Q.aO _ (aZ ak);exact⟨_,O,h1,V,n.bs.cV.aS (by simpa using Y.bt ak)⟩
 refine⟨λam=>⟨true,k,O,F,λ_=>⟨kn,⟨n.bs,n.ql,n.ok.aP V⟩,yg.Oc cB,by unfold sE;simp only[];rw[bn cB]⟩,λy=>by cases y⟩,λam=>⟨λab=>?_,λab=>⟨λac=>?_,λac=>⟨λad=>?_,λad=>⟨λW=>?_,λW=>⟨λae=>?_,λae=>?_⟩⟩⟩⟩⟩⟩
 .have ab:x.op=14:=cB
  let⟨r,hA,hl,A,N⟩:=mM (bC ab)
  have C:sE j h x kn=if 0<(kn.r r).lS/\ru kn r then some (kn.iJ r 1)else none:=by grind [sE]
  obtain⟨w0,w1,_⟩:=n.ql.dx (i:=r) A.1 V
  refine⟨s,n.ql.jB.1,V,V,r,N,A.1,V,_,w0,λy=>oD.no F cB,λy=>⟨V,V,r,N,(oE n.ql n.ok V).aP ?_⟩⟩
  rintro _ _ ⟨u,rfl,rfl,z⟩
  have ho:=n.ok.bI r A.1
  refine⟨cY.eW S,u,O,λX=>oD.no F cB,λX=>⟨s,n.ql.jB.1,V,V,r,N,A.1,V,_,w1,A.1,V,n.ql.wr A.1 V V,?_⟩⟩
  intro m2
  have M:eI ((kn.r r).bI+1)=(kn.r r).bI+1:=by grind [de]
  have U:me k m2 5 b s ks (kn.iJ r 1):=n.ql.cG (g:=λu=>{u with bI:=u.bI+1}) A.1 V bO (by rw[M];rfl)
  have D:dI (·=5) k _ k m2:=n.ql.qF n.bs.bF (o:=s.off+r.toNat*6+1) [.i (eI ((kn.r r).bI+1))]
  refine⟨D.Db λu z=>⟨S u z,n0 u z⟩,true,k,O,F.J (D.aP λ_ y=>bC y),λ_=>⟨_,n.of D U (n.ok.iJ V V V),?_,?_⟩,λy=>by cases y⟩
  .grind [yg.dup]
  grind
 .have ac:x.op=15:=cB
  let⟨r,hA,hl,A,N⟩:=mM (bR (bC ac))
  have C:sE j h x kn=if 0<(kn.r r).lS/\0<=((kn.iJ r (-1)).r r).bI then some (kn.iJ r (-1))else none:=by grind [sE]
  obtain⟨w0,w1,_⟩:=n.ql.dx (i:=r) A.1 V
  refine⟨s,n.ql.jB.1,V,V,r,N,A.1,V,_,w0,λy=>⟨V,V,r,N,(sH n.bs.bF n.ql n.ok V A.1 V).aP ?_⟩,λy=>oD.no F cB⟩
  rintro _ m2 ⟨u,rfl,U,D,z⟩
  have ho:=n.ok.bI r A.1
  refine⟨D.Db λu z=>⟨S u z,n0 u z⟩,u,O,u,k,O,F.J (D.aP λ_ y=>bC y),λX=>⟨_,n.of D U (n.ok.iJ V V ?_),?_,?_⟩,λX=>?_⟩
  rotate_right
  .grind
  rotate_right
  .grind
  .grind [yH]
  grind [yg.Bc]
 .have ad:x.op=16\/x.op=17:=cB
  have C:sE j h x kn=Qj j x kn:=by grind [sE]
  rw[C]
  exact(Da P ah n V Q ad Y).up T z1 hn (dT _)
 .have W:x.op=18:=cB
  let⟨r,hA,hl,A,N⟩:=mM (bR (bR W))
  have C:sE j h x kn=if 0<=(kn.r r).lS/\0<=((fZ kn [r]).r r).bI/\((fZ kn [r]).r x.bH).bI<=0 then some ((fZ kn [r]).dX x.bH (kn.r r).lS (Ky (kn.r r).lS))else none:=by grind [sE]
  obtain⟨w0,w1,_⟩:=n.ql.dx (i:=r) A.1 V
  have ho:=n.ok.bI r A.1
  refine⟨s,n.ql.jB.1,V,V,r,N,A.1,V,_,w0,λy=>oD.no F cB,λy=>⟨λe2=>⟨V,V,r,N,(sH n.bs.bF n.ql n.ok V A.1 V).aP ?_⟩,λe2=>?_⟩⟩
  .rintro _ m2 ⟨u,rfl,U,D,z⟩
   have e2:0<(kn.r r).lS:=cB
   have ek:fZ kn [r]=kn.iJ r (-1):=by rw[fZ,aW (Int.ne_of_gt e2)];rfl
   rw[ek]at C
   refine⟨D.Db λu z=>⟨S u z,n0 u z⟩,u,O,λX=>oD.no (F.J (D.aP λ_ y=>bC y)) cB,λX=>?_⟩
   have z:=z.1 cB
   have al:=z
   rw[yH V A.1]at al
   simp only[yf]at al
   have ap:=n.ok.iJ (i:=r) (e:=-1) (B':=B+3) V V V
   have hm:=XD (y:=(kn.r r).lS) V
   have af:=ZS (kn.r r).lS
   rw[hm]
   refine(qj (t:=(kn.r r).lS) (l:=Ky (kn.r r).lS) D.bF U (a:=x.bH) ⟨ai.1,by rw[rf];exact ao⟩).aP ?_
   rintro _ m3 ⟨q3,rfl,R,h3,ag⟩
   have aj:=D.J R
   refine⟨R.Db λu z=>⟨cr (S u z) D.aQ,n0 u z⟩,q3,O,q3,k,O,F.J (aj.aP λ_ y=>bC y),λM=>?_,λM=>by rw[C,aW];intro E;rw[ag E.2.2]at M;cases M⟩
   let⟨Z,K3⟩:=h3 M
   refine⟨_,n.of aj K3 (ap.dX (B':=B+3) ⟨ai.1,V⟩ (dT _) ⟨af.1,V⟩),?_,by rw[C,bn ⟨Int.le_of_lt e2,z,Z⟩]⟩
   have:=yg.pW (j:=j) (h:=h) (kn:=kn) (a:=kn.iJ r (-1)) W cB cB cB Z
   rwa[hA]at this
  .have D:(kn.r r).lS=0:=cB
   have hm:=XD (y:=(kn.r r).lS) V
   have af:=ZS (kn.r r).lS
   rw[hm]
   refine(qj (t:=(kn.r r).lS) (l:=Ky (kn.r r).lS) n.bs.bF n.ql (a:=x.bH) V).aP ?_
   rintro _ m3 ⟨q3,rfl,R,h3,ag⟩
   have ek:fZ kn [r]=kn:=by grind [fZ]
   rw[ek]at C
   refine⟨R.Db λu z=>⟨S u z,n0 u z⟩,q3,O,q3,k,O,F.J (R.aP λ_ y=>bC y),λM=>?_,λM=>by rw[C,aW];intro E;rw[ag E.2.2]at M;cases M⟩
   let⟨Z,K3⟩:=h3 M
   refine⟨_,n.of R K3 (n.ok.dX (B':=B+3) ⟨ai.1,V⟩ V ⟨af.1,V⟩),?_,by rw[C,bn ⟨V,ho.1,Z⟩]⟩
   have:=yg.pW (j:=j) (h:=h) (kn:=kn) (a:=kn) W cB cB cB Z
   rwa[hA]at this
 .have ae:x.op=19:=cB
  have C:sE j h x kn=P7 j x kn:=by grind [sE]
  rw[C]
  exact(C0 P ah n V Q ae Y).up T z1 hn V
 .have z:x.op≠22/\x.op≠14/\x.op≠15/\x.op≠16/\x.op≠17/\x.op≠18/\x.op≠19:=cB
  have C:sE j h x kn=TP j h x kn:=by grind [sE]
  rw[C]
  exact(En P ah hv n hB Q Y z an).up T z1 hn V
end
section
abbrev CV:=dI (λk=>k=3\/k=5\/k=7\/10<=k)
@[grind cases] structure Pk (q:Nat) (L L':aq):Prop where
 aT:L'.length=L.length
 iU:∀(i:Nat) old,L[i]? =some (some old)->∃k',L'[i]? =some (some k')/\vy old k'
 bG:∀i,i<q->L'[i]? =L[i]?
def Xc(L:aq)(h:Int)(k:Kn):Prop:=0<=h/\∃G,L[h.toNat]? =some (some G)/\vy k G
def HK(e:da)(p:eE)(L:aq)(h:Nat)(x:Instr)(kn:Kn):Prop:=
 (x.op≠21->∃a,yg e p kn x a/\∀s∈uz x h,Xc L s a)/\
 (x.op=21->(kn.r (bt x.aO 0)).lS=x.cE/\ru kn (bt x.aO 0)/\∀(h:Nat)(j:Int),(cX e.bT x.cE)[h]? =some j->(kn.r (bt x.aO 0)).lF<0\/(kn.r (bt x.aO 0)).lF=j->Xc L (bt x.gE h) (kn.jx (bt x.aO 0) j))
def Wr{α:Type}(f:Nat->α->Option α)(a:α):Nat->Option α
 |0=>some a
 |s+1=>(Wr f a s).bind (f s)
def PZ{α:Type}{f:Nat->α->Option α}{a:α}{s k:Nat}(h:Wr f a s=none)(b:s<=k):Wr f a k=none:=by
 induction k with
 |zero=>rw[show 0=s by omega];exact h
 |succ k c=>
  by_cases e:s=k+1
  .rw[<-e];exact h
  .grind [Wr]
def va{α:Type}{f:Nat->α->Option α}{a b:α}{s:Nat}(h:Wr f a s=some b):Wr f a (s+1)=f s b:=by rw[Wr,h];rfl
noncomputable def Yi (e:da) (x:Instr) (kn:Kn) (j:Nat) (L:aq):Option aq:=
 if 0<=(kn.r (bt x.aO 0)).lF/\(kn.r (bt x.aO 0)).lF≠bt (cX e.bT x.cE) j then some L else wY L (kn.jx (bt x.aO 0) (bt (cX e.bT x.cE) j)) (bt x.gE j).toNat
open Classical in
noncomputable def ub (e:da) (x:Instr) (kn:Kn) (L:aq):Option aq:=
 if(kn.r (bt x.aO 0)).lS=x.cE/\ru kn (bt x.aO 0)then Wr (Yi e x kn) L (cX e.bT x.cE).length else none
variable{y m F D M S:bh}{t z u:ag}{v b s A q:Nat}{d f a C j I w ks Q H:E}{e:da}{p:eE}{L k r:aq}{B B' N:Int}{kn K G R:Kn}{x:Instr}{h:Int}
def Pk.cT:Pk q L L:=by constructor<;>grind [vy.cT]
def Pk.J(a:Pk q L k)(g:Pk q k r):Pk q L r:=⟨g.aT.trans a.aT,λh old e=>by
 let⟨G,c,f⟩:=a.iU h old e;let⟨R,d,i⟩:=g.iU h G c;exact⟨R,d,f.J i⟩,λh b=>(g.bG h b).trans (a.bG h b)⟩
def Pk.dX(b:0<=N/\N<L.length)(a:(q:Int)<=N)(h:∀old,L[N.toNat]? =some (some old)->vy old K):Pk q L (L.set N.toNat (some K)):=by
 constructor<;>grind [List.getElem?_set_ne,List.getElem?_set_self,vy.cT]
theorem Xc.aP(b:Xc L h G)(w:Pk q L k):Xc k h G:=by
 let⟨c,R,e,f⟩:=b;let⟨d,a,g⟩:=w.iU _ _ e;exact⟨c,d,a,f.J g⟩
def HK.aP{f:Nat}(d:HK e p L f x kn)(w:Pk q L k):HK e p k f x kn:=
 ⟨λc=>by obtain⟨m,a,b⟩:=d.1 c;exact⟨m,a,λs g=>(b s g).aP w⟩,λc=>by obtain⟨a,b,l⟩:=d.2 c;exact⟨a,b,λh j g i=>(l h j g i).aP w⟩⟩
def aa2{a j e:Int}:(kn.jx a j).jx a e=kn.jx a e:=Bt
def Yl{a:af}(h:eT a){t j:Int}(b:j∈cX a t):0<=j/\j<=1000:=by
 grind [cX,tE,nK]
def iE.abI{e c:Nat}{s:E}{C:ae}(h:jw m D e c s C)(d:∀b,m.size<=b->t b=0):iE t D e c 0 s C:=
 iE.jA h λf=>by
  rcases h.bt with a|⟨b,j,tail,a,h2,_⟩
  .exact absurd a f
  .rw[a];exact d b h2
def Wk.cv(h:Wk y t m b w ks kn s B)(c:Bs y z D){P:Nat->Prop}(d:dI P t m z D)(a:¬P 5):Wk y z D b w ks kn s B:=⟨c,h.ql.fN d a,h.ok⟩
open Classical in
def xw(X:Vx y d f a C j e p)(aB:rc y t m v d f a C j I p L B)(aa:Wk y t m b w ks kn p.aU.toNat B)(hL:L.length=p.eA.length)(hx:iP e p A x)(am:x.op=21)(ha:be y Q x.aO)(hj:be y H x.gE):
 bK dO 109 [vp v 0,vp b 0,.agg #[vi x.op,vi x.bH,vi x.cE,vi x.dh,Q.v,H.v]] m λai D=>∃J z,ai=vb J/\CV t m z D/\(J=true->∃k,rc y z D v d f a C j I p k B/\Pk (A+1) L k/\HK e p k A x kn/\ub e x kn L=some k)/\(J=false->ub e x kn L=none):=by
 have aU:=ha.aT
 have aQ:=aa.ok.aT
 have aT:=aa.ql.GJ
 have aR:=(X.ok.eR p X.ql).aU
 have ad:=hx.op
 unfold mJ at ad
 simp only[am]at ad
 simp+decide only[nv,yf]at ad
 obtain⟨h1,_,aL,aE⟩:=ad
 have an:=jT (l:=x.aO) (i:=0) V V
 have Z:=hx.aO _ (aZ an)
 generalize hA:bt x.aO 0=r0 at*
 apply uZ (v,0) (b,0)
 simp -zeta only[dR]
 intro F
 have x1:=px F
 have z1:m.size<F.size:=by simp[F]
 have R:=aa.ext x1
 have hn:=aa.bs.bF
 have c1:CV t m t F:=dI.fB x1 hn
 have V1:=aB.fN (P:=λ_=>False) (dI.fB x1 hn) (λ_=>False.elim)
 have ap:∀q∈[m.size],q<F.size:=cB
 have aI:t m.size=0:=cB
 have no:∀{M:bh}{u:ag},CV t m u M->ub e x kn L=none->∃J z,vb false=vb J/\CV t m z M/\(J=true->∃k,rc y z M v d f a C j I p k B/\Pk (A+1) L k/\HK e p k A x kn/\ub e x kn L=some k)/\(J=false->ub e x kn L=none):=cB
 have hF:ub e x kn L=if(kn.r r0).lS=x.cE/\ru kn r0 then Wr (Yi e x kn) L (cX e.bT x.cE).length else none:=by grind [ub]
 have hG:∀{s:Nat}{E:Int}{r:aq},(cX e.bT x.cE)[s]? =some E->Yi e x kn s r=if 0<=(kn.r r0).lF/\(kn.r r0).lF≠E then some r else wY r (kn.jx r0 E) (bt x.gE s).toNat:=λ{s E r} S=>by
  grind [jT,cX,br,Int.toNat_natCast,Yi]
 have gr:aS F Q.bu (Q.off+Int.toNat 0*1)=some (vi r0):=R.bs.cV.aS (by simpa using ha.bt an)
 obtain⟨w0,_,_,w3,_⟩:=R.ql.dx (i:=r0) Z.1 V
 refine⟨w,R.ql.jB.1,V,V,r0,gr,Z.1,V,_,w0,λG=>no c1 cB,λG=>⟨V,V,r0,gr,(oE R.ql R.ok V).aP ?_⟩⟩
 rintro _ M ⟨q,rfl,hM,hq⟩
 obtain rfl:F=M:=hM.symm
 refine⟨cY.eW ap,q,O,λeq=>no c1 cB,λeq=>⟨_,w3,d,V1.bV.dx 0,(Cn (dE.ext R.bs.cV X.bT) X.dm x.cE).aP ?_⟩⟩
 rintro _ m2 ⟨ax,rfl,hs,h3,x2⟩
 have au:=iE.abI hs R.bs.bF
 have aH:=au.aT
 simp at aH
 have lS:(kn.r r0).lS=x.cE:=cB
 have aC:=(hq.1 cB).2
 rw[bn ⟨lS,aC⟩]at hF
 have c2:CV t m t m2:=c1.J (dI.fB x2 R.bs.bF)
 have W2:=R.ext x2
 have V2:=V1.fN (P:=λ_=>False) (dI.fB x2 R.bs.bF) (λ_=>False.elim)
 have zm:=x2.aQ
 refine⟨x2.eW ap,ax,O,gP (n:=(cX e.bT x.cE).length) V (λs M=>∃u r kc,CV t m2 u M/\rc y u M v d f a C j I p r B/\Wk y u M b w ks kc p.aU.toNat B/\(∀G,kc.jx r0 G=kn.jx r0 G)/\Pk (A+1) L r/\iE u M bB 1 0 ax ((cX e.bT x.cE).map Ce.i)/\Wr (Yi e x kn) L s=some r/\
  ∀(h:Nat)(j:Int),h<s->(cX e.bT x.cE)[h]? =some j->(kn.r r0).lF<0\/(kn.r r0).lF=j->Xc r (bt x.gE h) (kn.jx r0 j)) ⟨t,L,kn,dI.cT _ c2.bF,V2,W2,λ_=>O,Pk.cT,au,O,V⟩ ?_⟩
 rintro s M az μ aM ⟨u,r,kc,W,VM,U,ac,lw,af,ab,hh⟩ aw
 have zM:=W.aQ
 have bM:m.size<M.size/\u m.size=0:=⟨V,(W.jt _ V).trans aI⟩
 have cA:=c2.J W
 refine dit (λG=>?_) λG=>?_
 .let⟨E,S⟩:=dU (cX e.bT x.cE) s
  have aX:=Yl X.dm (aZ S)
  have aP:=U.ok.aT
  have aK:s<x.gE.length:=V
  have ae:=jT (l:=x.gE) (i:=s) V V
  rw[fR]at ae
  have aN:=aE _ (aZ ae)
  have go:((kn.r r0).lF<0\/(kn.r r0).lF=E)->∃aj:bh->Prop,(jb M w.bu (w.off+r0.toNat*6+3) 1/\let N:bh:=aV M w.bu (w.off+r0.toNat*6+3) [.i E];gS [m.size] M N/\aj N)/\∀N,aj N->(0:Int)<=s/\(s:Int)<H.len/\
   ∃ay:Int,aS N H.bu (H.off+(s:Int).toNat*1)=some (vi ay)/\bK dO 112 [vp v 0,vp b 0,vi ay] N λai T=>gS [m.size] N T/\∃q:Bool,ai=vb q/\
    ((!q)=true->∃J z,vb false=vb J/\CV t m z T/\(J=true->∃k,rc y z T v d f a C j I p k B/\Pk (A+1) L k/\HK e p k A x kn/\ub e x kn L=some k)/\(J=false->ub e x kn L=none))/\
    ((!q)=false->az (eI ((s:Int)+1)) T/\μ (eI ((s:Int)+1)) T<μ s M):=λaJ=>by
   have ak:dI (·=5) u M u (aV M w.bu (w.off+r0.toNat*6+3) [.i E]):=U.ql.qF W.bF _
   refine⟨λaA=>aA=aV M w.bu (w.off+r0.toNat*6+3) [.i E],⟨U.ql.wr Z.1 V V,ak.Db λE S=>?_,O⟩,?_⟩
   .grind
   intro N ar
   have K4:me u N 5 b w ks (kc.jx r0 E):=by rw[ar];exact U.ql.cG (i:=r0) (o:=3) (new:=[.i E]) (g:=λJ=>{J with lF:=E}) Z.1 V bO O
   have Y:dI (·=5) u M u N:=cB
   clear ar ak
   have W4:=U.of Y K4 (U.ok.jx Z.1 (c:=E) V)
   have V4:=VM.fN Y (λ_ G=>bC G)
   have z4:=Y.aQ
   have aF:aS N H.bu (H.off+(s:Int).toNat*1)=some (vi (bt x.gE s)):=by
    have:=W4.bs.cV.aS (hj.bt ae);rwa[fR]
   have aO:=hj.aT
   refine⟨V,V,_,aF,(tK V4 W4.ql W4.ok (g:=bt x.gE s) cB).aP ?_⟩
   rintro _ T ⟨q,ah,rfl,c5,hq,aG⟩
   have hb:Yi e x kn s r=wY r (kc.jx r0 E) (bt x.gE s).toNat:=by rw[hG S,aW V,ac]
   have aD:CV u N ah T:=by grind [dI.aP]
   have al:CV t m2 ah T:=(W.J (Y.aP λ_ G=>bR (bC G))).J aD
   refine⟨c5.Db λE S=>?_,q,O,λeq=>no (c2.J al) (by rw[hF];exact PZ (s:=s+1) (by rw[va ab,hb];exact aG cB) V),λeq=>?_⟩
   .grind
   let⟨K,V5,w1,w2,w3⟩:=hq cB
   have av:Pk (A+1) r (r.set (bt x.gE s).toNat (some K)):=Pk.dX cB V w2
   refine aw V _ ⟨ah,_,kc.jx r0 E,al,V5,W4.cv V5.cV c5 cD,λG=>by rw[aa2,ac],lw.J av,(af.fN Y cD).fN c5 cD,by rw[va ab,hb,w3],λh j hi hc ao=>?_⟩
   .by_cases ei:h=s
    .subst ei
     rw[S]at hc;cases hc
     rw[ac]at w1
     exact⟨V,K,ft (by rw[lw.aT,hL];omega),w1⟩
    .exact(hh h j V hc ao).aP av
  refine⟨V,V,E,(af.oL V).bt S,λe1=>⟨λe2=>aw V _ ⟨u,r,kc,W,VM,U,ac,lw,af,by rw[va ab,hG S,bn ⟨sp e1,sp e2⟩],λh j hi hc ao=>?_⟩,λe2=>go (bR cB)⟩,λe1=>go (bC cB)⟩
  grind
 .have N:s=(cX e.bT x.cE).length:=V
  refine⟨true,u,O,cA,λ_=>⟨r,VM,lw,⟨λS=>absurd am S,λ_=>?_⟩,by rw[hF,<-N];exact ab⟩,λG=>by cases G⟩
  grind
end
section
noncomputable def vJ (h:da) (p:eE) (e:Nat) (x:Instr) (kn:Kn) (L:aq):Option aq:=
 if x.op=21 then ub h x kn L else(sE h p x kn).bind λa=>Wr (λj L=>wY L a (bt (uz x e) j).toNat) L (uz x e).length
variable{w g j F M R:bh}{t H y:ag}{v b I e q:Nat}{d f a C c s J ks z A:E}{h:da}{p:eE}{L k u:aq}{B Q T:Int}{kn K N P:Kn}{x:Instr}{S:Int}
def Yy(g:iP h p e x)(f:p.eA[e]? =some x)(k:pd h p)(i:x.op≠21):∀I∈uz x e,(e:Int)+1<=I/\I<=(p.eA.length:Int) -1:=by
 have j:=br f;have b:=g.op;unfold mJ at b;intro I a;unfold uz at a;by_cases d:x.op=22
 .simp only[d]at b a;grind
 by_cases c:x.op=20
 .simp only[c]at b a;grind
 grind [List.length,pd.Od]
def aaR(a:x.op≠21):(uz x e).length<=2:=by
 grind [uz]
def Yx(i:x.op≠21)(l:e<=1000000):bK dO 111 [.agg #[vi x.op,vi x.bH,vi x.cE,vi x.dh,z.v,A.v],vi e] g λw F=>∃s,w=s.v/\jw g F bB 1 s ((uz x e).map Ce.i)/\D g F:=by
 apply Bi;simp -zeta only[dR];intro j;have b:=px j;have k:eI ((e:Int)+1)=(e:Int)+1:=by grind [de]
 rw[k];have mk:∀(y:ab),∃s,(E.v (.mk j.size 0 y.length y.length))=s.v/\jw g (j.push (.cells (db (y.map Ce.i)) bB)) bB 1 s (y.map Ce.i)/\D g (j.push (.cells (db (y.map Ce.i)) bB)):=λy=>
  ⟨_,O,(jw.bF (D.cT j) bB 1 (y.map Ce.i) y.length bO).cV b.aQ,b.bZ _⟩
 unfold uz;refine⟨λc=>?_,λc=>⟨λd=>?_,λd=>⟨λf=>absurd cB i,λf=>⟨λh=>?_,λh=>?_⟩⟩⟩⟩
 .intro a;rw[bn cB];exact mk [x.cE]
 .intro a;rw[aW cB,bn cB];exact mk [(e:Int)+1,x.cE]
 .grind [jw.gN]
 .intro a;rw[aW cB,aW cB,aW cB,aW cB];exact mk [(e:Int)+1]
def vI(Z:Vx w d f a C c h p)(T:rc w t g v d f a C c s p L B)(hB:1<=B/\B<=1000000)(hL:L.length=p.eA.length)(ao:L[e]? =some (some kn))(ai:p.eA[e]? =some x):
 bK dO 60 [vp v 0,vi e] g λaf F=>∃R H,af=vb R/\CV t g H F/\(R=true->∃k,rc w H F v d f a C c s p k (B+3)/\Pk (e+1) L k/\HK h p k e x kn/\vJ h p e x kn L=some k)/\(R=false->vJ h p e x kn L=none):=by
 let⟨al,hQ,hA,hC⟩:=T.jH
 have aL:=br ao
 have aq:=Z.ok.eR p Z.ql
 have hx:=aq.eR e x ai
 let⟨qc,hq⟩:=dU al e
 have ap:=hC e qc (some kn) hq ao
 obtain⟨kb,ae,ad,rfl,K0,ay⟩:∃kb ae ad,qc=some (kb,0)/\me t g (10+e) kb ae ad kn/\nY kn p.aU.toNat B:=by
  cases qc with
  |none=>exact ap.elim
  |some qc=>
   let⟨E,ae,ad,I,Q⟩:=ap;let⟨kb,S⟩:=qc;simp only at E I;subst E;exact⟨kb,ae,ad,O,I,Q⟩
 let⟨z,A,ia,ij,g0,g1,g2,g3,g4,g5⟩:=Z.eA.bt ai
 have aJ:=Z.eA.aT
 have aH:s.len=al.length:=by have:=hA.aT;simp at this;omega
 have gQ:aS g s.bu (s.off+e*1)=some (Ce.v (.pp (some (kb,0)))):=by
  have:=hA.kY e (.pp (some (kb,0))) cB;grind
 have G:∀{ax:Nat}{af:Value},aS w c.bu ax=some af->aS g c.bu ax=some af:=λah=>T.cV.cV.aS ah
 have b7:aS g v 7=some s.v:=T.bV.dx 7
 have b6:aS g v 6=some c.v:=T.bV.dx 6
 apply ug (v,0)
 simp -zeta only[dR,fR]
 refine⟨λaw xp M=>∃y b J ks,aw=some (b,0)/\CV t g y M/\rc w y M v d f a C c s p L B/\Wk w y M b J ks kn p.aU.toNat B/\xp.2=0/\dF M xp.1 fx [.i x.op,.i x.bH,.i x.cE,.i x.dh,.s z,.s A]/\y xp.1=0,⟨s,b7,V,V,_,gQ,c,b6,V,V,_,G g0,_,G g1,_,G g2,_,G g3,_,G g4,_,G g5,?_,?_⟩,?_⟩
 .refine(rG T.cV.bF K0 5).aP ?_
  rintro _ j ⟨U,b1,ab,aa,rfl,K1,S⟩
  have E:=S.FO
  have V1:=T.fN S (λ_=>False.elim)
  refine⟨some (b1,0),O,E.cZ (G g0),E.cZ (G g1),E.cZ (G g2),E.cZ (G g3),E.cZ (G g4),E.cZ (G g5),E.cZ b6,?_⟩
  intro m2
  have I:=px m2
  have P:dF m2 j.size fx [.i 0,.i 0,.i 0,.i 0,.s .nil,.s .nil]:=dF.push j _ _
  refine⟨I.cZ (E.aS (G g0)),I.cZ (E.aS (G g1)),I.cZ (E.aS (G g2)),I.cZ (E.aS (G g3)),I.cZ (E.aS (G g4)),I.cZ (E.aS (G g5)),I.cZ (E.aS b6),I.cZ (E.aS gQ),I.cZ (E.aS b7),?_⟩
  intro W
  have Y:D j W:=by grind [D.aV]
  have k3:dF W j.size fx [.i x.op,.i x.bH,.i x.cE,.i x.dh,.s z,.s A]:=dF.aV (m:=g) (o:=0) (r:=[.i x.op,.i x.bH,.i x.cE,.i x.dh,.s z,.s A]) P
  have Q:dI (λ_=>False) U j U W:=dI.fB Y S.bF
  have X:=V1.fN Q (λ_=>False.elim)
  exact⟨U,b1,ab,aa,O,(S.J Q).aP λ_=>False.elim,X,⟨X.cV,K1.fN Q id,ay⟩,O,k3,S.bF _ bY⟩
 .intro j
  obtain⟨E,z1⟩:=pu j
  have N:dF j g.size fx [.i 0,.i 0,.i 0,.i 0,.s .nil,.s .nil]:=dF.push g _ _
  have cc:dI (λ_=>False) t g t j:=dI.fB E T.cV.bF
  refine⟨E.cZ (G g0),E.cZ (G g1),E.cZ (G g2),E.cZ (G g3),E.cZ (G g4),E.cZ (G g5),E.cZ b6,E.cZ gQ,E.cZ b7,(rG cc.bF (K0.fN cc id) 5).aP ?_⟩
  rintro _ m2 ⟨U,b1,ab,aa,rfl,K1,S⟩
  have I:=S.FO
  have aj:=E.J I
  refine⟨I.eW cB,some (b1,0),O,I.cZ (E.aS (G g0)),I.cZ (E.aS (G g1)),I.cZ (E.aS (G g2)),I.cZ (E.aS (G g3)),I.cZ (E.aS (G g4)),I.cZ (E.aS (G g5)),I.cZ (E.aS b6),?_⟩
  intro W
  have k3:dF W g.size fx [.i x.op,.i x.bH,.i x.cE,.i x.dh,.s z,.s A]:=dF.aV (m:=g) (o:=0) (r:=[.i x.op,.i x.bH,.i x.cE,.i x.dh,.s z,.s A]) (N.ext I)
  have Y:D g W:=by grind [D.aV]
  have r0:U g.size=0:=(S.jt _ V).trans (T.cV.bF _ bY)
  have Q:dI (·=0) U m2 U W:=dI.aV S.bF r0 _ _
  have ac:dI (λ_=>False) t g U W:=⟨Y.aQ,λb hb=>(S.jt b V),Q.bF,λb hb _=>Y.bG b hb⟩
  have X:=T.fN ac (λ_=>False.elim)
  exact⟨U,b1,ab,aa,O,ac.aP λ_=>False.elim,X,⟨X.cV,K1.fN Q cD,ay⟩,O,k3,r0⟩
 rintro aw ⟨xb,xo⟩ M ⟨y,b,J,ks,rfl,cM,VM,WM,av,kx,rx⟩
 simp only at av kx rx
 subst av
 have no:∀{M:bh}{y:ag},CV t g y M->vJ h p e x kn L=none->∃R H,vb false=vb R/\CV t g H M/\(R=true->∃k,rc w H M v d f a C c s p k (B+3)/\Pk (e+1) L k/\HK h p k e x kn/\vJ h p e x kn L=some k)/\(R=false->vJ h p e x kn L=none):=cB
 refine⟨_,kx.dx 0,λS=>⟨_,kx.dx 0,_,kx.dx 1,_,kx.dx 2,_,kx.dx 3,_,kx.dx 4,_,kx.dx 5,?_⟩,λS=>⟨_,kx.dx 0,_,kx.dx 1,_,kx.dx 2,_,kx.dx 3,_,kx.dx 4,_,kx.dx 5,?_⟩⟩
 .refine(xw Z VM WM hL hx cB ia ij).aP ?_
  rintro _ M2 ⟨R,I,rfl,Q,hr,ak⟩
  have hF:vJ h p e x kn L=ub h x kn L:=by grind [vJ]
  rw[hF]
  refine⟨R,O,R,I,O,cM.J Q,λe2=>?_,ak⟩
  grind [rc.aP]
 .have ac:x.op≠21:=cB
  refine(Bo Z VM.bV VM.jt WM hB hx ia).aP ?_
  rintro _ M2 ⟨R,I,rfl,Q,hr,ak⟩
  have am:CV y M I M2:=by grind [dI.aP]
  have ab:dF M2 xb fx [.i x.op,.i x.bH,.i x.cE,.i x.dh,.s z,.s A]:=kx.congr (Q.fQ xb kx.lt cB)
  refine⟨R,O,λe2=>no (cM.J am) (by unfold vJ;rw[aW ac,ak cB];rfl),λe2=>⟨_,ab.dx 0,_,ab.dx 1,_,ab.dx 2,_,ab.dx 3,_,ab.dx 4,_,ab.dx 5,(Yx ac cB).aP ?_⟩⟩
  let⟨k',W2,aB,aI⟩:=hr cB
  have hF:vJ h p e x kn L=Wr (λE L=>wY L k' (bt (uz x e) E).toNat) L (uz x e).length:=by grind [vJ]
  have V2:=(VM.fN Q (λ_ S=>S)).aP (show B<=B+3 by omega)
  rintro _ M3 ⟨aA,rfl,hs,Y⟩
  have au:=iE.abI hs Q.bF
  have aD:=au.aT
  simp at aD
  have aK:=aaR (e:=e) ac
  have cx:dI (λ_=>False) I M2 I M3:=dI.fB Y Q.bF
  have X:=V2.fN cx (λ_=>False.elim)
  have W3:=W2.ext Y
  have cA:CV t g I M3:=(cM.J am).J (cx.aP λ_=>False.elim)
  refine⟨aA,O,gP (n:=(uz x e).length) V (λE aa=>∃U u,CV I M3 U aa/\rc w U aa v d f a C c s p u (B+3)/\Wk w U aa b J ks k' p.aU.toNat (B+3)/\Pk (e+1) L u/\iE U aa bB 1 0 aA ((uz x e).map Ce.i)/\Wr (λE L=>wY L k' (bt (uz x e) E).toNat) L E=some u/\∀W∈(uz x e).take E,Xc u W k')
   ⟨I,L,dI.cT _ cA.bF,X,W3,Pk.cT,au,O,bO⟩ ?_⟩
  rintro E aa aG μ hj ⟨U,u,cN,VN,WN,lw,ar,aj,hh⟩ aF
  refine dit (λS=>?_) λS=>?_
  .let⟨W,hy⟩:=dU (uz x e) E
   have aM:=Yy hx ai aq ac W (aZ hy)
   refine⟨V,V,W,(ar.oL V).bt hy,(tK VN WN.ql WN.ok (g:=W) cB).aP ?_⟩
   rintro _ N2 ⟨q,az,rfl,c5,hq,aC⟩
   have ey:bt (uz x e) E=W:=by
    have:=jT (l:=uz x e) (i:=(E:Int)) V V;grind [Int.toNat_natCast]
   have an:CV U aa az N2:=by grind [dI.aP]
   refine⟨q,O,λeq=>no (cA.J (cN.J an)) (by rw[hF];exact PZ (s:=E+1) (by rw[va aj,ey];exact aC cB) V),λeq=>?_⟩
   let⟨K,V5,w1,w2,w3⟩:=hq cB
   have aE:Pk (e+1) u (u.set W.toNat (some K)):=Pk.dX cB V w2
   refine aF V _ ⟨az,_,cN.J an,V5,WN.cv V5.cV c5 cD,lw.J aE,ar.fN c5 cD,by rw[va aj,ey,w3],λaN hz=>?_⟩
   rw[bX hy]at hz
   rcases bU.1 hz with hz|hz
   .grind [Xc.aP]
   .simp at hz;subst hz
    exact⟨V,K,ft cB,w1⟩
  .have:E=(uz x e).length:=V
   subst this
   rw[fu]at hh
   exact⟨true,U,O,cA.J cN,λ_=>⟨u,VN,lw,⟨λ_=>⟨k',aB,hh⟩,λah=>absurd ah ac⟩,by rw[hF];exact aj⟩,λS=>by cases S⟩
end
section
variable{g:Kn}
def Ns(L:aq)(e:Nat):Option Kn:=(L[e]?).join
def Qt(p:eE)(e:Nat):tp:=⟨bt p.aY e,if bt p.aY e≠0/\(e:Int)∉p.df then 1 else 0,decide ((e:Int)∈p.df),-1,-1,-1⟩
@[grind cases] structure Nq (p:eE) (n j q:Nat) (kn:Kn):Prop where
 aT:kn.aU.length=n
 YS:∀i:Nat,i<j->i<n->kn.r i=Qt p i
 unk:∀i:Nat,j<=i->i<q->i<n->kn.r i=yu
 eO:∀i:Nat,i<q->i<n->bt kn.eO i= -1
variable{s m H G M A:bh}{t I J:ag}{v b n C q j:Nat}{d f a l c r u ks N P:E}{o:da}{p:eE}{L y z:aq}{B w K:Int}{kn F h D:Kn}{x:Instr}{e:Int}
theorem DT{e:Nat}:Ns L e=some g<->L[e]? =some (some g):=by
 grind [Ns]
theorem Xc.vX(a:Xc L e g):∃h,Ns L e.toNat=some h/\vy g h:=by
 obtain⟨_,h,b,w⟩:=a;grind [DT]
def Nq.cy(h:Nq p n p.aY.length n kn)(d:p.aU.toNat=n)(g:kn.eO.length=n)(i:p.aY.length<=n):vy (OX p) kn:=by
 have c:(OX p).aU.length=n:=by grind [OX]
 have R:∀{e:Int},0<=e->kn.r e=(OX p).r e:=λ{e} a=>by
  by_cases f:e<n
  .have b:(OX p).r e=if e.toNat<p.aY.length then Qt p e.toNat else yu:=by
    unfold Kn.r OX;simp only[eJ];rw[aeS V];rfl
   grind [Nq.YS,Nq.unk]
  .grind [Qp,Nq.aT]
 refine⟨by rw[h.aT,c],λe a=>by rw[R a],λe a=>bC (by rw[R a]),λe a=>bC (by rw[R a]),λe a=>bC ⟨by rw[R a],by rw[R a]⟩,λe a b=>by rw[<-R a];exact b,?_⟩;unfold OX;simp only[d];apply fq;grind [jT,Int.toNat_natCast,Nq.eO,List.getElem?_eq_none]
def Nq.eq(h:Nq p n p.aY.length n kn)(d:p.aU.toNat=n)(c:kn.eO.length=n)(f:p.aY.length<=n):kn=OX p:=by
 have w:=h.cy d c f;have a:kn.aU=(OX p).aU:=by
  apply fq;intro e;by_cases j:e<n
  .have b:=Bq (k:=kn) (i:=(e:Int)) V cB;have g:(OX p).aU[e]? =some (if e<p.aY.length then Qt p e else yu):=by
    unfold OX;simp only[eJ];rw[aeS V];rfl
   grind [Int.toNat_natCast,Nq.YS,Nq.unk]
  .grind [OX,List.length,List.getElem?_eq_none,Nq.aT]
 have b:=w.eO;cases kn;simp only at a b;rw[a,b]
def Nq.ok(h:Nq p n p.aY.length n kn):nY kn n 1:=by
 have R:∀{e:Int},0<=e->((kn.r e).bI=0\/(kn.r e).bI=1)/\(kn.r e).fr= -1/\(kn.r e).lF= -1:=λ{e} a=>by
  by_cases c:e<n
  .have b:((e.toNat:Nat):Int)=e:=V;by_cases d:e.toNat<p.aY.length
   .grind [Nq.YS,Qt]
   .have:=h.unk e.toNat V V V;rw[b]at this;rw[this];exact⟨bC O,O,O⟩
  .rw[Qp cB];exact⟨bC O,O,O⟩
 refine⟨h.aT,λe a=>oh ((R a).1),λe a=>oh ((R a).2.1),λe a=>oh ((R a).2.2),λ_=>0,λe a b=>oh ((R a).2.1)⟩
def aaK(V:rc s t m v d f a l c r p L B)(n:Xc L 0 (OX p))(D:1<=p.aU)(k:∀(e:Nat) kn x,L[e]? =some (some kn)->p.eA[e]? =some x->HK o p L e x kn):AX o p (Ns L):=by
 let⟨Q,A,z,w⟩:=V.jH;refine⟨λe g b=>?_,n.vX,λe x g i b h=>?_,λe x g i b h=>?_⟩
 .have b:=DT.1 b;have C:=br b;let⟨j,q⟩:=dU Q e;have:=w e j _ q b;cases j with
  |none=>exact this.elim
  |some j=>
   obtain⟨_,u,ks,_,y⟩:=this;have:=y.aT;omega
 .let⟨y,j,q⟩:=(k e g x (DT.1 b) i).1 h;grind [Xc.vX]
 .let⟨j,q,y⟩:=(k e g x (DT.1 b) i).2 h;grind [Xc.vX]
end
section
@[grind cases] structure LF (m0:bh) (ro:ag) (m:bh) (v:Nat) (d f a l c bs:E) (p:eE) (N:Nat):Prop where
 cV:Bs m0 ro m
 bV:dF m v jg [.s d,.s f,.s a,.s l,.i p.bQ,.i p.aU,.s c,.s bs]
 jt:ro v=4
 qB:iE ro m nJ 1 3 bs ((List.replicate N none).map Ce.pp)
variable{h m H r M z:bh}{g s J:ag}{v b n A q j N k:Nat}{d f a l c e t ks Q R I:E}{C:da}{p:eE}{L w y:aq}{B u K:Int}{kn G D F:Kn}{x:Instr}{i:Int}
def LF.fN{P:Nat->Prop}(b:LF h g m v d f a l c e p N)(i:dI P g m s r)(j:¬P 0/\¬P 3/\¬P 4):LF h s r v d f a l c e p N:=
 by constructor<;>grind [LF.cV,Bs.SR,LF.bV,dF.congr,dI.fQ,dF.lt,LF.jt,dI.jt,LF.qB,iE.fN]
def Nq.s1(h:Nq p n 0 j kn)(e:j<n)(f:kn.eO.length=n):Nq p n 0 (j+1) {(kn.th j λ_=>yu)with eO:=gX kn.eO j (-1)}:=by
 have b:=h.aT;have R:∀i:Nat,i<n->(Kn.mk (kn.th j λ_=>yu).aU (gX kn.eO j (-1))).r i=if(i:Int)=j then yu else kn.r i:=λi a=>by
  show(kn.th j λ_=>yu).r i=_;grind [Kz]
 refine⟨by show(kn.th j λ_=>yu).aU.length=n;rw[lQ,b],λi d _=>V,λi _ a c=>?_,λi a c=>?_⟩
 .grind [Nq.unk]
 .show bt (gX kn.eO j (-1)) i= -1;grind [ny,Nq.eO]
def Nq.s2(h:Nq p n j n kn):Nq p n (j+1) n (kn.th j λ_=>Qt p j):=by
 have b:=h.aT;have R:∀i:Nat,i<n->(kn.th j λ_=>Qt p j).r i=if(i:Int)=j then Qt p j else kn.r i:=λi a=>by
  grind [Kz]
 refine⟨by rw[lQ,b],λi a c=>?_,λi a _ c=>?_,h.eO⟩
 .grind [Nq.YS]
 .grind [Nq.unk]
theorem XV(n:Nat):na [.pp none] n=(List.replicate n none).map Ce.pp:=by
 induction n with
 |zero=>rfl
 |succ n a=>
  have e:na [.pp none] (n+1)=[.pp none]++na [.pp none] n:=by simp[na,mC]
  rw[e,a];rfl
theorem Vu(n:Nat):na [.i 0,.i 0,.t false,.i 0,.i 0,.i 0] n=NL (List.replicate n ⟨0,0,false,0,0,0⟩):=by
 induction n with
 |zero=>rfl
 |succ n a=>
  have e:na [.i 0,.i 0,.t false,.i 0,.i 0,.i 0] (n+1)=[.i 0,.i 0,.t false,.i 0,.i 0,.i 0]++na [.i 0,.i 0,.t false,.i 0,.i 0,.i 0] n:=by simp[na,mC]
  rw[e,a];rfl
theorem LF.jC(j:LF h g m v d f a l c e p N)(z:1<=N/\N<=1000000)(w:me g m 10 b t ks kn)(x:nY kn p.aU.toNat B)(C:e.len=N):
 rc h g (aV m e.bu (e.off+0*1) [.pp (some (b,0))]) v d f a l c e p ((some kn)::List.replicate (N -1) none) B:=by
 have A:=j.qB.aT
 have s:e.cap≠0:=by have:=j.qB.le;omega
 have r:dI (·=3) g m g (aV m e.bu (e.off+0*1) [.pp (some (b,0))]):=dI.aV j.cV.bF (j.qB.bu s).2 _ _
 have D:List.replicate N (none:Option (Nat×Nat))=none::List.replicate (N -1) none:=by
  rw[<-mC];congr 1;omega
 have y:=j.qB.dX (o:=0) (new:=[.pp (some (b,0))]) cB
 refine⟨j.cV.SR r cD,j.bV.congr (r.fQ v j.bV.lt cB),j.jt,⟨some (b,0)::List.replicate (N -1) none,bO,?_,?_⟩,eX⟩
 .grind [kH]
 .intro i q E k n
  cases i with
  |zero=>
   simp at k n
   subst k;subst n
   exact⟨O,t,ks,w.fN r cD,x⟩
  |succ i=>
   simp only[kE,List.getElem?_replicate]at k n
   split at k
   .rename_i u
    rw[bn u]at n
    simp at k n;subst k;subst n;trivial
   .cases k
end
section
noncomputable def Vh (u:da) (e:eE) (y:Nat) (L:aq):Option aq:=
 match e.eA[y]?,L[y]? with
 |some x,some (some kn)=>vJ u e y x kn L
 |_,_=>some L
noncomputable def YO (u:da) (e:eE):Option aq:=Wr (Vh u e) (some (OX e)::List.replicate (e.eA.length -1) none) e.eA.length
def acT(u:da)(e:eE)(C:bh)(s:E)(L:aq):Prop:=
 ∃H t v d f a l c B,rc H t C v d f a l c s e L B/\L.length=e.eA.length/\AX u e (Ns L)/\YO u e=some L
variable{H A I C M Q:bh}{t U h:ag}{v b s R q j N k:Nat}{d f a l c w z ks X Y J:E}{u:da}{e:eE}{L P G:aq}{B K W:Int}{kn T S F:Kn}{x:Instr}{y:Int}
def Eo(ad:gY A d J u)(ok:iB u)(hp:u.di[k]? =some e):
 bK dO 33 [.agg #[d.v,J.v],vi k] A λaC C=>∃ap Q,aC=.tuple #[ap.v,vb Q]/\D A C/\(Q=true->∃L,acT u e C ap L)/\(Q=false->YO u e=none):=by
 have an:=ok.eR e (aZ hp)
 have az:=an.aU
 have aJ:=an.aT
 have aH:=br hp
 have aK:=ad.di.aT
 apply Ku
 simp -zeta only[dR,fR]
 intro I
 obtain⟨x1,z1⟩:=pu I
 refine(yN (ad.ext x1)).aP ?_
 rintro _ m2 ⟨U,f,sb,rfl,ai,aA,x2⟩
 have ai:=ai.2 ⟨ok.mT,λq hq=>(ok.eR q hq).df⟩
 obtain⟨rfl,hf⟩:=aA ai
 have z2:=x2.aQ
 refine⟨x2.eW cB,U,f,sb,O,?_⟩
 intro m3 H
 have x4:D m2 H:=by grind [D.cT,D.bZ,D.aV]
 have z4:H.size=m2.size+1:=by grind [bD]
 have aj:=(x1.J x2).J x4
 have h4:=ad.ext aj
 let⟨a,l,c,ia,il,ic,g0,g1,g2,g3,g4⟩:=h4.di.bt hp
 have aq:Vx H U f a l c u e:=⟨ok,aZ hp,h4.bT,oW.ext x4 hf,ia,il,ic⟩
 have aE:=ia.aT
 have ac:=ic.aT
 have aF:Bs H (λ_=>0) H:=⟨cY,λ_ _=>O,λ_ _=>O⟩
 refine⟨λxp M=>xp.2=0/\∃t w,LF H t M xp.1 U f a l c w e e.eA.length/\w.len=e.eA.length,⟨V,V,a,g0,l,g1,_,g2,_,g3,c,g4,V,V,c,g4,⟨V,V,V,V,?_⟩,?_⟩,?_⟩
 .intro B
  obtain⟨E,z5⟩:=pu B
  have X:dF B H.size nJ (na [.pp none] c.len):=dF.push H _ _
  refine⟨E.cZ g0,E.cZ g1,E.cZ g2,E.cZ g3,E.cZ g4,bE (E.bG _ V) _,bE (E.bG _ V) _,bE (E.bG _ V) _,?_⟩
  intro P
  obtain⟨K,z6⟩:=pu P
  have Y:dF P B.size jg [.s .nil,.s .nil,.s .nil,.s .nil,.i 0,.i 0,.s .nil,.s .nil]:=dF.push B _ _
  refine⟨K.cZ (E.aS g4),bE (K.bG _ V) _,K.cZ (E.aS g0),K.cZ (E.aS g1),K.cZ (E.aS g2),K.cZ (E.aS g3),K.cZ (E.aS g4),bE (K.bG _ V) _,bE (K.bG _ V) _,bE (K.bG _ V) _,?_⟩
  intro R
  have W:D B R:=by grind [D.aV]
  have z7:R.size=P.size:=bD _ _ _ _
  have T:dF R B.size jg [.s U,.s f,.s a,.s l,.i e.bQ,.i e.aU,.s c,.s (.mk H.size 0 c.len c.len)]:=dF.aV (m:=A) (o:=0) (r:=[.s U,.s f,.s a,.s l,.i e.bQ,.i e.aU,.s c,.s (.mk H.size 0 c.len c.len)]) Y
  refine⟨O,oG (oG (λ_=>0) H.size 3) B.size 4,.mk H.size 0 c.len c.len,⟨⟨E.J W,λb S=>by rw[fK V,fK V],λb S=>by rw[fK V,fK V]⟩,T,gU,⟨by simp[ac],bY,bR ⟨H.size,c.len,[],O,by rw[fK V,gU],?_,by simp[ac]⟩⟩⟩,by simp[ac]⟩
  grind [XV,dF.ext]
 .intro B
  obtain⟨E,z5⟩:=pu B
  have X:dF B H.size jg [.s .nil,.s .nil,.s .nil,.s .nil,.i 0,.i 0,.s .nil,.s .nil]:=dF.push H _ _
  refine⟨E.cZ g4,bE (E.bG _ V) _,E.cZ g0,E.cZ g1,E.cZ g2,E.cZ g3,E.cZ g4,bE (E.bG _ V) _,bE (E.bG _ V) _,bE (E.bG _ V) _,V,V,V,V,?_⟩
  intro P
  obtain⟨K,z6⟩:=pu P
  have Y:dF P B.size nJ (na [.pp none] c.len):=dF.push B _ _
  refine⟨K.cZ (E.aS g0),K.cZ (E.aS g1),K.cZ (E.aS g2),K.cZ (E.aS g3),K.cZ (E.aS g4),bE (K.bG _ V) _,bE (K.bG _ V) _,bE (K.bG _ V) _,?_⟩
  intro R
  have W:D H R:=by grind [D.J,D.aV]
  have z7:R.size=P.size:=bD _ _ _ _
  have T:dF R H.size jg [.s U,.s f,.s a,.s l,.i e.bQ,.i e.aU,.s c,.s (.mk B.size 0 c.len c.len)]:=dF.aV (m:=A) (o:=0) (r:=[.s U,.s f,.s a,.s l,.i e.bQ,.i e.aU,.s c,.s (.mk B.size 0 c.len c.len)]) (X.ext K)
  have Z:dF R B.size nJ (na [.pp none] c.len):=by grind [dF.congr,cq]
  refine⟨O,oG (oG (λ_=>0) H.size 4) B.size 3,.mk B.size 0 c.len c.len,⟨⟨W,λb S=>by rw[fK V,fK V],λb S=>by rw[fK V,fK V]⟩,T,by rw[fK V,gU],⟨by simp[ac],bY,bR ⟨B.size,c.len,[],O,gU,?_,by simp[ac]⟩⟩⟩,by simp[ac]⟩
  grind [XV]
 rintro⟨v,vo⟩ M ⟨ao,t,w,S,au⟩
 simp only at ao S
 subst ao
 have SM:∀{N N':bh}{r1 r2:ag},Bs H r1 N->Bs H r2 N'->gS [m2.size,A.size] N N':=λb1 b2=>D.wH b1.cV b2.cV cB
 obtain⟨s,hn⟩:∃s,s=e.aU.toNat:=⟨_,O⟩
 refine⟨λfirst N=>∃t fb z ks kn,first=(fb,0)/\LF H t N v U f a l c w e e.eA.length/\me t N 10 fb z ks kn/\kn.aU.length=s,⟨_,S.bV.dx 5,_,S.bV.dx 5,⟨V,V,V,V,?_⟩,⟨V,V,V,V,?_⟩⟩,?_⟩
 .rw[<-hn]
  intro B
  obtain⟨E,z5⟩:=pu B
  have X:dF B M.size rp (na [.i 0,.i 0,.t false,.i 0,.i 0,.i 0] s):=dF.push M _ _
  refine⟨E.cZ (S.bV.dx 5),V,V,V,V,?_⟩
  intro P
  obtain⟨K,z6⟩:=pu P
  have Y:dF P B.size bB (na [.i 0] s):=dF.push B _ _
  refine⟨K.cZ (E.aS (S.bV.dx 5)),?_⟩
  intro R
  obtain⟨W,z7⟩:=pu R
  have T:dF R P.size zI [.s (.mk M.size 0 s s),.s (.mk B.size 0 s s)]:=dF.push P _ _
  have Z:dI (λ_=>False) t M (oG t M.size 10) B:=dI.oG E S.cV.bF bY V 10
  have c6:dI (λ_=>False) (oG t M.size 10) B (oG (oG t M.size 10) B.size 10) P:=dI.oG K Z.bF bY V 10
  have c7:=dI.oG (p:=λ_=>False) W c6.bF (aeP P.size) V 10
  refine⟨oG (oG (oG t M.size 10) B.size 10) P.size 10,P.size,.mk M.size 0 s s,.mk B.size 0 s s,⟨List.replicate s ⟨0,0,false,0,0,0⟩,List.replicate s 0⟩,O,S.fN ((Z.J c6).J c7) ⟨id,id,id⟩,⟨T,gU,⟨by simp[uA],bY,bR ⟨M.size,s,[],O,by rw[fK V,fK V,gU],?_,by simp[uA]⟩⟩,⟨bO,bY,bR ⟨B.size,s,[],O,by rw[fK V,gU],?_,bO⟩⟩,eX,bO⟩,bO⟩
  .grind [Vu,dF.ext,D.J]
  grind [pI,eP,dF.ext]
 .rw[<-hn]
  intro B
  obtain⟨E,z5⟩:=pu B
  have X:dF B M.size bB (na [.i 0] s):=dF.push M _ _
  refine⟨E.cZ (S.bV.dx 5),V,V,V,V,?_⟩
  intro P
  obtain⟨K,z6⟩:=pu P
  have Y:dF P B.size rp (na [.i 0,.i 0,.t false,.i 0,.i 0,.i 0] s):=dF.push B _ _
  refine⟨K.cZ (E.aS (S.bV.dx 5)),?_⟩
  intro R
  obtain⟨W,z7⟩:=pu R
  have T:dF R P.size zI [.s (.mk B.size 0 s s),.s (.mk M.size 0 s s)]:=dF.push P _ _
  have Z:dI (λ_=>False) t M (oG t M.size 10) B:=dI.oG E S.cV.bF bY V 10
  have c6:dI (λ_=>False) (oG t M.size 10) B (oG (oG t M.size 10) B.size 10) P:=dI.oG K Z.bF bY V 10
  have c7:=dI.oG (p:=λ_=>False) W c6.bF (aeP P.size) V 10
  refine⟨oG (oG (oG t M.size 10) B.size 10) P.size 10,P.size,.mk B.size 0 s s,.mk M.size 0 s s,⟨List.replicate s ⟨0,0,false,0,0,0⟩,List.replicate s 0⟩,O,S.fN ((Z.J c6).J c7) ⟨id,id,id⟩,⟨T,gU,⟨by simp[uA],bY,bR ⟨B.size,s,[],O,by rw[fK V,gU],?_,by simp[uA]⟩⟩,⟨bO,bY,bR ⟨M.size,s,[],O,by rw[fK V,fK V,gU],?_,bO⟩⟩,eX,bO⟩,bO⟩
  .grind [Vu,dF.ext]
  grind [pI,eP,dF.ext,D.J]
 clear S t M
 rintro _ M ⟨t,fb,z,ks,kn,rfl,S,ae,aw⟩
 have aL:=ae.GJ
 have aI:=ae.Xy
 refine⟨z,ae.jB.1,gP (n:=s) V (λj N=>∃h E,LF H h N v U f a l c w e e.eA.length/\me h N 10 fb z ks E/\Nq e s 0 j E) ⟨t,kn,S,ae,⟨aw,V,V,V⟩⟩ ?_⟩
 rintro j N ak μ hj ⟨h,E,K,R,W⟩ aa
 have am:=W.aT
 have av:=R.zq
 refine⟨λB=>?_,λB=>?_⟩
 .have B:j<s:=cB
  refine⟨z,R.jB.1,ks,R.jB.2,(xr (e:=N)).aP ?_⟩
  rintro _ N2 ⟨rfl,x3⟩
  have c3:dI (λ_=>False) h N h N2:=dI.fB x3 K.cV.bF
  have X:=K.fN c3 ⟨id,id,id⟩
  have K3:=R.ext x3
  refine⟨SM K.cV X.cV,-1,0,false,-1,-1,-1,O,by first|exact x3.cZ R.jB.1|exact x3.cZ R.jB.2,by first|exact x3.cZ R.jB.2|exact x3.cZ R.jB.1,V,V,by have:=K3.wr (i:=j) (o:=0) (n:=6) V V V;simpa using this,?_⟩
  intro N3
  have K4:me h N3 10 fb z ks (E.th j λ_=>yu):=by
   have:=K3.cG (i:=(j:Int)) (o:=0) (new:=[.i (-1),.i 0,.t false,.i (-1),.i (-1),.i (-1)]) (g:=λ_=>yu) V V bO O;grind
  have c4:dI (·=10) h N2 h N3:=K3.qF c3.bF _
  have P:=X.fN c4 cD
  refine⟨SM X.cV P.cV,V,V,by have:=K4.wrK (i:=j) V cB;rwa[fR]at this,?_⟩
  intro N4
  have K5:me h N4 10 fb z ks {(E.th j λ_=>yu)with eO:=gX (E.th j λ_=>yu).eO j (-1)}:=by
   grind [me.ac7]
  have Z:dI (·=10) h N3 h N4:=K4.SS c4.bF _ _
  have Y:=P.fN Z cD
  exact⟨SM P.cV Y.cV,aa B _ ⟨h,_,Y,K5,W.s1 B V⟩⟩
 have ej:j=s:=cB
 subst ej
 clear aa B
 refine⟨a,K.bV.dx 2,gP (n:=e.aY.length) V (λq N=>∃h E,LF H h N v U f a l c w e e.eA.length/\me h N 10 fb z ks E/\Nq e j q j E) ⟨h,E,K,R,W⟩ ?_⟩
 clear K R W am av h E N
 rintro q N ak μ hq ⟨h,E,K,R,W⟩ aa
 have am:=W.aT
 refine⟨λB=>?_,λB=>?_⟩
 .have B:q<e.aY.length:=cB
  let⟨ab,ht⟩:=dU e.aY q
  have af:bt e.aY q=ab:=by
   grind [jT,Int.toNat_natCast,Option.some.inj]
  have e0:E.r q=yu:=cB
  refine⟨V,V,ab,K.cV.cV.aS (ia.bt ht),z,R.jB.1,V,V,l,K.bV.dx 3,(lE (il.ext K.cV.cV) q).aP ?_⟩
  rintro _ N2 ⟨Q,rfl,hr,x3⟩
  have c3:dI (λ_=>False) h N h N2:=dI.fB x3 K.cV.bF
  have X:=K.fN c3 ⟨id,id,id⟩
  have K3:=R.ext x3
  have al:Q=decide ((q:Int)∈e.df):=by cases Q<;>simp_all
  refine⟨SM K.cV X.cV,Q,O,by have:=K3.wr (i:=q) (o:=0) (n:=1) V V V;simpa using this,?_⟩
  intro N3
  have K4:me h N3 10 fb z ks (E.th q λQ=>{Q with lS:=ab}):=by
   have:=K3.cG (i:=(q:Int)) (o:=0) (new:=[.i ab]) (g:=λQ=>{Q with lS:=ab}) V V bO O;grind
  have c4:dI (·=10) h N2 h N3:=K3.qF c3.bF _
  have P:=X.fN c4 cD
  refine⟨SM X.cV P.cV,by have:=K4.wr (i:=q) (o:=2) (n:=1) V cB V;rwa[fR]at this,?_⟩
  intro N4
  have K5:me h N4 10 fb z ks (E.th q λT=>{T with lS:=ab,df:=Q}):=by
   have:=K4.cG (i:=(q:Int)) (o:=2) (new:=[.t Q]) (g:=λT=>{T with df:=Q}) V cB bO O;grind [Bt]
  have Z:dI (·=10) h N3 h N4:=K4.qF c4.bF _
  have Y:=P.fN Z cD
  have kG:¬(ab≠0/\Q=false)->me h N4 10 fb z ks (E.th q λ_=>Qt e q):=λah=>by
   rw[OY (l:=λT=>{T with lS:=ab,df:=Q}) V V ?_]
   .exact K5
   .rw[e0];unfold Qt yu;grind
  refine⟨SM P.cV Y.cV,λe1=>⟨Q,?_,λe2=>?_,λe2=>aa B _ ⟨h,_,Y,kG (λhc=>by rw[hc.2]at e2;cases e2),W.s2⟩⟩,λe1=>aa B _ ⟨h,_,Y,kG (λhc=>hc.1 cB),W.s2⟩⟩
  .obtain⟨_,_,w2,_⟩:=K5.dx (i:=q) V cB
   grind [Tn,Int.toNat_natCast]
  .refine⟨by have:=K5.wr (i:=q) (o:=1) (n:=1) V cB V;rwa[fR]at this,?_⟩
   intro N5
   have K6:me h N5 10 fb z ks (E.th q λT=>{T with lS:=ab,df:=Q,bI:=1}):=by
    have:=K5.cG (i:=(q:Int)) (o:=1) (new:=[.i 1]) (g:=λT=>{T with bI:=1}) V cB bO O;grind [Bt]
   have c6:dI (·=10) h N4 h N5:=K5.qF Z.bF _
   have V6:=Y.fN c6 cD
   have K7:me h N5 10 fb z ks (E.th q λ_=>Qt e q):=by
    rw[OY (l:=λT=>{T with lS:=ab,df:=Q,bI:=1}) V V ?_]
    .exact K6
    .grind [Qt,yu]
   exact⟨SM Y.cV V6.cV,aa B _ ⟨h,_,V6,K7,W.s2⟩⟩
 have eq:q=e.aY.length:=cB
 subst eq
 clear aa B
 have aG:w.cap≠0:=by have:=K.qB.le;omega
 have X:=K.jC V R (hn▸W.ok) au
 have w0:=W.cy hn.symm cB V
 have ek:=W.eq hn.symm cB V
 refine⟨w,K.bV.dx 7,V,V,by have:=K.qB.wr (o:=0) (n:=1) cB;simpa using this,?_⟩
 intro N2
 change rc H h N2 v U f a l c w e _ 1 at X
 refine⟨SM K.cV X.cV,c,X.bV.dx 6,gP (n:=e.eA.length) V (λq N=>∃ah L,rc H ah N v U f a l c w e L (1+3*(q:Int))/\L.length=e.eA.length/\Xc L 0 (OX e)/\Wr (Vh u e) (some (OX e)::List.replicate (e.eA.length -1) none) q=some L/\∀(y:Nat) kn x,y<q->L[y]? =some (some kn)->e.eA[y]? =some x->HK u e L y x kn)
  ⟨h,_,X.aP V,eX,⟨dT 0,E,O,w0⟩,by rw[ek];rfl,V⟩ ?_⟩
 rintro q N3 ak μ hq ⟨ah,L,P,hL,h0,af,hs⟩ aa
 refine⟨λB=>?_,λB=>?_⟩
 .have B:q<e.eA.length:=cB
  let⟨ar,hQ,hA,hC⟩:=P.jH
  let⟨qc,ax⟩:=dU ar q
  let⟨ab,ho⟩:=dU L q
  have al:=hC q qc ab ax ho
  have gq:aS N3 w.bu (w.off+q*1)=some (Ce.v (.pp qc)):=by
   have:=hA.kY q (.pp qc) cB;grind
  refine⟨w,P.bV.dx 7,V,V,qc,gq,λe1=>?_,λe1=>?_⟩
  .obtain⟨Z,rfl⟩:∃Z,ab=some Z:=by
    cases qc with
    |none=>simp at e1
    |some aD=>cases ab with
     |none=>exact al.elim
     |some Z=>exact⟨Z,O⟩
   let⟨x,hx⟩:=dU e.eA q
   refine(vI aq P V hL ho hx).aP ?_
   rintro _ N4 ⟨Q,aB,rfl,c4,hr,ay⟩
   have eF:Vh u e q L=vJ u e q x Z L:=by grind [Vh]
   have b4:=P.cV.SR c4 V
   refine⟨SM P.cV b4,Q,O,λe2=>⟨_,false,O,aj.J b4.cV,λad=>(by cases ad),λ_=>PZ (s:=q+1) (by rw[va af,eF];exact ay cB) V⟩,λe2=>?_⟩
   let⟨G,Y,lw,st,w3⟩:=hr cB
   refine aa B _ ⟨aB,G,Y.aP V,lw.aT.trans hL,h0.aP lw,by rw[va af,eF,w3],λy F T hi h1 h2=>?_⟩
   by_cases ei:y=q
   .grind
   .rw[lw.bG y V]at h1
    exact(hs y F T V h1 h2).aP lw
  .have Y:ab=none:=by
    cases qc with
    |some aD=>simp at e1
    |none=>cases ab with
     |none=>rfl
     |some Z=>exact al.elim
   refine aa B _ ⟨ah,L,P.aP V,hL,h0,by
    rw[va af];unfold Vh;rw[ho,Y];cases e.eA[q]? <;>rfl,λy F T hi h1 h2=>?_⟩
   grind
 .have eq:q=e.eA.length:=cB
  exact⟨w,P.bV.dx 7,w,true,O,aj.J P.cV.cV,λ_=>⟨L,H,ah,v,U,f,a,l,c,_,P,hL,aaK P h0 az.2.1 λy kn x h1 h2=>hs y kn x cB h1 h2,by unfold YO;have T:=af;rw[eq]at T;exact T⟩,λB=>by cases B⟩
end
section
variable{m:bh}{d p:E}{a:da}
def LG(a:da):Prop:=∀p∈a.di,∃L,YO a p=some L/\AX a p (Ns L)
noncomputable def Ze (a:da) (n:Nat):Nat->Option Kn:=Ns ((YO a (dG a n)).getD [])
def LG.aaJ(h:LG a)(n:Nat)(p:eE)(b:a.di[n]? =some p):AX a p (Ze a n):=by
 let⟨L,e,f⟩:=h p (aZ b);have:dG a n=p:=by simp[dG,b]
 grind [Ze]
def zV(h:gY m d p a):bK dO 11 [.agg #[d.v,p.v]] m λK C=>∃b,K=vb b/\D m C/\(b=true->iB a/\LG a)/\(b=false->¬(iB a/\LG a)):=by
 apply Gw;simp -zeta only[dR];intro E;obtain⟨x,z1⟩:=pu E;refine(pt (h.ext x)).aP ?_;rintro _ F ⟨b,rfl,w,q⟩;have t:=x.J q;have T:=q.aQ;refine⟨q.eW eX,b,O,λe=>⟨false,O,t,λh=>(by cases h),λ_ g=>nb w e g.1⟩,λe=>?_⟩;have o:=yb w e;have R:=h.di.aT;have P:=o.mT.aT;refine gP (n:=a.di.length) V (λk M=>D F M/\∀i p,i<k->a.di[i]? =some p->∃L,YO a p=some L/\AX a p (Ns L)) ⟨cY,V⟩ ?_;rintro k M N μ Q ⟨s,v⟩ G
 have X:=t.J s;refine dit (λe=>?_) λe=>?_
 .let⟨H,l⟩:=dU a.di k;refine(Eo (h.ext X) o l).aP ?_;rintro _ S ⟨J,I,rfl,r,A,B⟩;refine⟨r.eW (by have:=s.aQ;simp;omega),J,I,O,λf=>⟨false,O,X.J r,λh=>(by cases h),λ_ g=>?_⟩,λf=>G V _ ⟨s.J r,λi p j c=>?_⟩⟩
  .obtain⟨L,u,_⟩:=g.2 H (aZ l);rw[B (sp f)]at u;cases u
  .by_cases y:i=k
   .subst y;rw[l]at c;cases c;obtain⟨L,_,_,_,_,_,_,_,_,_,_,_,z,u⟩:=A (sp f);exact⟨L,u,z⟩
   .exact v i p V c
 .exact⟨true,O,X,λ_=>⟨o,λp c=>by
   let⟨i,j⟩:=cH.1 c;exact v i p (oh (br j)) j⟩,λh=>by cases h⟩
end
section
variable{c:bh}{d p:E}{b:da}{f a:Nat}{q:eE}{kn:Kn}
def Oa(k:gY c d p b)(A:iB b)(x:LG b)(i:b.di[f]? =some q)(ha:a<q.eA.length)(j:Ze b f a=some kn):
 bK dO 41 [.agg #[d.v,p.v],vi f,vi a] c λC y=>∃l e h ks,C=Ce.v (.pp (some (e,0)))/\me l y (10+a) e h ks kn/\D c y:=by
 apply IH
 simp -zeta only[dR]
 intro T
 obtain⟨E,z1⟩:=pu T
 refine(zV (k.ext E)).aP ?_
 rintro _ m2 ⟨e,rfl,n,-,M⟩
 have z2:=n.aQ
 have X:=E.J n
 refine⟨n.eW cB,e,O,λg=>absurd ⟨A,x⟩ (M cB),λ_=>?_⟩
 have hl:=k.di.aT
 have ac:=br i
 obtain⟨aa,ae,H,ia,il,S,g0,g1,g2,g3,J⟩:=(k.ext X).di.bt i
 have ab:=S.aT
 refine⟨λg=>by simp at g;omega,λ_=>⟨λg=>by simp at g;omega,λ_=>⟨λg=>by simp at g;omega,λ_=>⟨V,V,H,J,λg=>by simp at g;omega,λ_=>?_⟩⟩⟩⟩
 refine(Eo (k.ext X) A i).aP ?_
 rintro _ z ⟨s,B,rfl,F,R,ad⟩
 obtain⟨Y,o,_⟩:=x q (aZ i)
 have I:B=true:=by
  grind
 obtain⟨Z,m0,l,C,d',f',a',l',c',W,G,hL,_,r⟩:=R I
 rw[o]at r;cases r
 have N:dG b f=q:=by simp[dG,i]
 unfold Ze at j
 rw[N,o]at j
 have j:=DT.1 j
 obtain⟨Q,hQ,v,L⟩:=G.jH
 let⟨m,P⟩:=dU Q a
 have w:=L a m _ P j
 obtain⟨e,rfl,h,ks,K⟩:∃e,m=some (e,0)/\∃h ks,me l z (10+a) e h ks kn:=by
  cases m with
  |none=>exact w.elim
  |some U=>
   obtain⟨z0,z1⟩:=U;obtain⟨t,h,ks,u,_⟩:=w;simp only at t u;subst t;exact⟨z0,O,h,ks,u⟩
 have u:=v.aT
 simp at u
 have t:aS z s.bu (s.off+a*1)=some (Ce.v (.pp (some (e,0)))):=by
  have:=v.kY a (.pp (some (e,0))) cB;grind
 exact⟨F.eW cB,s,B,O,V,V,_,t,l,e,h,ks,O,K,X.J F⟩
def PV(Q:gY c d p b)(ok:iB b)(X:LG b)(T:b.di[f]? =some q)(R:a<q.eA.length)(U:Ze b f a=some kn):
 bK dO 19 [.agg #[d.v,p.v],vi f,vi a] c λaa y=>∃C,aa=C.v/\be y C (kn.aU.map (·.bI))/\D c y:=by
 apply Kf
 simp -zeta only[dR]
 intro Y
 obtain⟨F,z1⟩:=pu Y
 refine(Oa (Q.ext F) ok X T R U).aP ?_
 rintro _ g ⟨ro,N,A,ks,rfl,K,v⟩
 have z2:=v.aQ
 have W:=K.GJ
 have hs:=K.ju
 generalize hn:kn.aU.length=n at*
 refine⟨v.eW cB,some (N,0),O,λh=>by simp at h,λ_=>⟨_,O,A,K.jB.1,V,V,V,V,?_⟩⟩
 rw[W,fR]
 intro t
 obtain⟨G,z3⟩:=pu t
 have I:dF t g.size bB ((eP n).map Ce.i):=by
  grind [pI,dF.push]
 refine⟨_,O,A,(K.ext G).jB.1,gP (n:=n) V (λe M=>D g M/\t.size<=M.size/\∃l:ab,l.length=n/\dF M g.size bB (l.map Ce.i)/\∀j,j<e->l[j]? =(kn.aU[j]?).map (·.bI)) ⟨G,bY,_,lG n,I,V⟩ ?_⟩
 rintro e M ac μ hi ⟨w,zM,l,s,B,hj⟩ Z
 have L:=K.ext w
 refine⟨λh=>?_,λh=>?_⟩
 .have h:e<n:=cB
  obtain⟨w0,w1,w2,w3,w4,w5⟩:=L.dx (i:=e) V V
  refine⟨V,V,_,w0,_,w1,_,w2,_,w3,_,w4,_,w5,?_⟩
  intro m4 u
  have H:D M u:=by grind [D.push,D.aV]
  have z5:u.size=M.size+1:=by grind [bD]
  have x:=B.ext H
  refine⟨V,by simp only[E.ku];omega,x.jb eX,?_⟩
  intro z
  have J:dF z g.size bB ((l.set e (kn.r e).bI).map Ce.i):=by
   have:=dF.aV (m:=u) (o:=e) (r:=[.i (kn.r e).bI]) x;rw[Ao]at this;simpa[z]using this
  refine⟨λad S=>cq _ _ _ _ (by simp at S⊢;omega),Z V _ ⟨(w.J H).aV bY _ _,by rw[bD];omega,_,sp s,J,λj ae=>?_⟩⟩
  by_cases P:e=j
  .subst P
   rw[ft V]
   have:=Bq (k:=kn) (i:=(e:Int)) V V
   grind [Int.toNat_natCast]
  grind [List.getElem?_set_ne]
 .have u:e=n:=cB
  subst u
  refine⟨_,O,?_,F.J (v.J w)⟩
  have x:l=kn.aU.map (·.bI):=by
   apply fq;grind [List.getElem?_eq_none]
  rw[<-x]
  exact be.jA (f:=g) ⟨by simp[s],bR ⟨g.size,e,[],O,bY,by rw[fO];exact B,by simp[s],bY⟩⟩ V
end
section
section
open Tryz
variable{a:bh}{R:aj}
def GG(b:E):=eN a R ⟨[(13,[(13,.I)]),(20,[(16,.I)])],[],[(13,[155,153,151,149,147]),(20,[158,155,153,151,149,147])]⟩ [b] func5
end
variable{a:bh}
def Mb{eA:E}(h:JR a eA):bK dO 5 [eA.v] a (LwR a):=by
 apply GG;simp(config:={maxSteps:=1000000}) -zeta only[dR];refine⟨λ_=>⟨O,cY⟩,λaB=>?_⟩;refine(IY h).aP λ_ H⟨ag,ak,b,d,e,hi,x1⟩=>⟨ag,ak,d,e,?_⟩;have q:gY H ag ak b:=⟨hi.bT.le fL,mh.le fL hi.di⟩;intro m2 m3;obtain⟨x3,z3⟩:=pv m3;refine(NW (q.ext x3) d).aP λ_ Y⟨aN,e,ho,x4⟩=>⟨x4.eW eX,_,_,_,aN,_,e,?_⟩;intro m5 m6;obtain⟨x6,z6⟩:=pv m6;have z4:=x4.aQ;have X6:=(x3.J x4).J x6;refine(Mu (q.ext X6) d).aP λ_ Z⟨aP,e,hw,L⟩=>⟨L.eW eX,_,_,_,aP,_,e,?_⟩;intro m8 m9;obtain⟨x9,z9⟩:=pv m9;have z7:=L.aQ;have r:∀c∈[Z.size,Y.size,H.size],c<m9.size:=eX;have aQ:=(x6.J L).J x9;have P:∀{M:bh},D m9 M->_:=λ{M} x=>Eu (m:=M) (ho.2.1.ext (aQ.J x)) (hw.2.1.ext (x9.J x)) (qH b d).eC (qH b d).iQ (qH b d).dg (qH b d).eC (qH b d).iQ (qH b d).dg;refine(P cY).bL cY r λc a1 o w _=>⟨c,O,?_⟩;obtain rfl:=o.2 ⟨O,O,O,O⟩;have A:=((X6.J L).J x9).J w;have AU:=w.aQ;refine⟨sx,λ_=>⟨sx,λ_=>⟨λhn=>?_,λhy=>?_⟩⟩⟩
 .refine(P w).bL w r λc aJ o p _=>⟨c,O,λ_=>⟨bO,(x1.J A).J p⟩,λh=>?_⟩;rw[o.2 ⟨O,O,O,O⟩]at h;simp at h
 let⟨g,aR⟩:=acZ (a:=b) (dL:=d) (sp hy);refine(zV (q.ext A)).aP λ_ aJ⟨c,e,p,C,_⟩=>⟨p.eW λu v=>by have:=r u v;omega,c,e,λe=>?_,λe=>?_⟩
 .have f:=w.J p;refine(P f).bL f r λc U o y _=>⟨c,O,λ_=>⟨bO,(x1.J (A.J p)).J y⟩,λh=>?_⟩;rw[o.2 ⟨O,O,O,O⟩]at h;simp at h
 obtain⟨_,C⟩:=C (sp e);have a5:=p.aQ;have ad:=A.J p;refine(Iw (q.ext ad) g.1 g.2).aP λ_ U⟨fs,e,hs,y⟩=>⟨y.eW λu v=>by have:=r u v;omega,_,_,_,_,.nil,.nil,fs,true,e,?_⟩;intro a2 aK;obtain⟨an,a7⟩:=pv aK;have a6:=y.aQ;have ae:=(ad.J y).J an;have I:=AO g.1 g.2;simp only[dk]at aB;have e3:eI ((eA.len:Int)*17)=((eA.len*17:Nat):Int):=by rw[iz];rfl
 rw[e3,show Int.tmod ((eA.len*17:Nat):Int) 130=((eA.len*17%130:Nat):Int)from O];have hj:eA.len*17%130<=130:=V;generalize eA.len*17%130=j at hj;have ac:=LR (q.ext ae) (hs.ext an) (I.afe (AP b d) V) (by simp[jC]) (j:Int);have er:Qx b (jC b d) j=⟨bA b j (jC b d),true⟩:=bn ⟨I,V,V⟩;rw[er]at ac;have aa:=xQ j I;have am:=aa.pL (AQ j I (AP b d) V) V;have ar:=VS.bA C.aaJ g.1 g.2 j;generalize bA b j (jC b d)=st at*;refine⟨cD,ac.aP λ_ W⟨ro,o2,h2,B,e,N⟩=>⟨N.bs.cV.eW λu v=>by
  rcases bo.1 v with e|e
  .omega
  .have:=r u e;omega,_,_,_,_,o2,h2,B,true,e,?_⟩⟩
 have aq:j9 W o2 h2 B st:=N.Mo am;have ao:=N.bs.cV;clear N;intro a3 X;obtain⟨ap,a9⟩:=pv X;have a8:=ao.aQ;have af:=(ae.J ao).J ap;have SF:=aq.ext ap;have aU:=SF.bq.aT;have aT:=am.kU;have az:∀{M:bh},X.size<=M.size->∀c∈[W.size,U.size,Z.size,Y.size,H.size],c<M.size:=eX;refine⟨sx,λ_=>⟨sx,λ_=>gP (n:=st.bq.length) V (λ_ M=>D X M) cY ?_⟩⟩;rintro G M aS μ ay z aM
 have SM:=SF.ext z;refine⟨λe=>?_,λe=>⟨O,(x1.J af).J z⟩⟩;simp only[bg]at e;have ay:G<st.bq.length:=V;let⟨f,R⟩:=dU st.bq G;obtain⟨fr,fo,fh,jr,jo,jh,g0,g1,g2,g3,g4,g5⟩:=SM.bq.bt R;refine⟨V,V,_,g0,_,g1,_,g2,_,g3,_,g4,_,g5,?_⟩;intro a4 ai;obtain⟨J,a_⟩:=pv ai;have zM:=z.aQ;have F:=aa.bq f (aZ R);have aY:=F.fP;have aG:=F.pc;have aD:=F.lr;have aC:=F.lo;obtain⟨kn,hk,aW,aF⟩:=ar.jX aa R;let⟨al,S⟩:=dU b.di f.fP.toNat;have au:dG b f.fP=al:=by simp[dG,S]
 rw[au]at aG aD aC;have e1:((f.fP.toNat:Nat):Int)=f.fP:=V;have e2:((f.pc.toNat:Nat):Int)=f.pc:=V;have ab:=PV (q.ext (af.J (z.J J))) g.1 C S (a:=f.pc.toNat) V hk;rw[e1,e2]at ab;refine ab.aP ?_;rintro _ aL ⟨aO,rfl,ah,K⟩;have aH:=ah.aT;rw[jW]at aH;have aX:=jo.aT;have a0:=(g.1.eR al (aZ S)).aU;have aA:∀c∈M.size::[W.size,U.size,Z.size,Y.size,H.size],c<ai.size:=λc o=>by
  rcases bo.1 o with e|e
  .omega
  .exact az V c e
 refine⟨K.eW aA,aO,O,λe=>by simp at e;omega,λ_=>gP (n:=kn.aU.length) V (λ_ M2=>D aL M2) cY ?_⟩;rintro s M2 I2 μ2 hr t aj;refine⟨λe=>?_,λe=>aM V _ (z.J ((J.J K).J t))⟩;have e:s<kn.aU.length:=by simp at e;omega
 have c1:=Bq (k:=kn) (i:=(s:Int)) V V;rw[fR]at c1;have c2:=(ah.ext t).bt (k:=s) (x:=(kn.r s).bI) (by rw[eJ,c1];rfl);have c3:=jT (l:=f.bI) (i:=(s:Int)) V V;rw[fR]at c3;have c4:=(jo.ext ((J.J K).J t)).bt c3;refine⟨V,V,_,c2,V,V,_,c4,λaE=>?_,λ_=>aj V _ t⟩;rcases aF s V with Q|⟨av,hg,Q⟩
 .simp[Q]at aE
 .have aV:=br hg;have aI:eI ((B.len:Int) -1)=(B.len:Int) -1:=iz;have T:eI ((G:Int)+1)=((G+1:Nat):Int):=by rw[iz];rfl
  obtain⟨_,_,_,_,_,_,_,_,aw,_⟩:=(SM.bq).bt hg;have ax:=((J.J K).J t).aS aw;refine⟨λe=>by rw[aI]at e;simp at e;omega,λ_=>⟨by rw[T];omega,by rw[T];omega,av.bH,by rw[T];exact ax,λe=>by simp at e;exact absurd Q e,λ_=>aj V _ t⟩⟩
end
end Go.Proofs.YtbbbdejieenniaaGreat
namespace Go.Vc
section
variable{t:TypeId}{a:Addr}
open Go.ChangeShapes Go.WideShapes Go.RowKit
section
variable{H:Type}{b:TypeId×Value->H}{P:Program}{w:World}
def Y7(b:TypeId×Value->H)(P:Program)(w:World)(t:TypeId)(Q:ae->Prop):Prop:=
 ∀(n:Nat)(a:ap)(x:DataW H×aI),DataW.trod b P w 0 (λ_=>true) true n t a=some x->∃c,a=c.map Ce.v/\Q c
theorem Y7.aP{Q Q':ae->Prop}(h:Y7 b P w t Q)(f:∀a,Q a->Q' a):Y7 b P w t Q':=λn a x g=>
 let⟨c,d,e⟩:=h n a x g
 ⟨c,d,f _ e⟩
theorem Yj{v:Value}(h:w.cell? a=some v):a.spot=none:=by
 unfold World.cell? at h;split at h
 .split at h
  .cases h
  .rename_i b;simpa using b
 .cases h
theorem Yf(h:a.spot=none)(i:Nat):a.add i=⟨a.block,a.off+i,none⟩:=by
 obtain⟨b,o,s⟩:=a;grind [Go.Addr.add]
end
variable{H:Type}{b:TypeId×Value->H}{P:Program}
theorem Ig(k:laidOutB P=true){W i:World}(j:Below W.heap.size W i):∀{d:List TypeId}{g:ap}{e:List (DataW H)}{c:aI},
 (d.all λt=>P.readableRec t&&decide (t<P.types.size))=true->DataW.TrodAll b P W 0 (λ_=>true) true d g e c->(∀x∈c,x.block<W.heap.size)->∀sp:Nat->Bool,(∀p∈c,sp p.block=true)->
 DataW.TrodAll b P i 0 sp true d g e c
 |[],_,_,_,_,h,_,_,_=>by
  obtain⟨rfl,rfl,rfl⟩:=trodAll_nil h;exact trodAll_mk0
 |t::d,_,_,_,f,h,l,sp,m=>by
  obtain⟨v,g,r,e,p,q,rfl,rfl,rfl,n,o⟩:=trodAll_cons h;simp only[SD,eZ,bg]at f;exact⟨p,q,WideElems.Trod_stays k f.1.1 f.1.2 n (λx a=>j.same (l x (by simp[a]))) (λx a=>m x (by simp[a])),Ig k j cB o (λx a=>l x (by simp[a])) sp (λx a=>m x (by simp[a])),O⟩
def Rw{f:Func}{s:ChangeSpec}{W c:World}{d:Array Value}{a:List (DataW H)}{h:aI}
 (D:laidOutB P=true)(G:(f.params.toList.all λt=>P.readableRec t&&decide (t<P.types.size))=true)(w:f.resultTypes=#[t])(o:P.underlying t=some .bool)(l:s.vars=[])
 (e:DataW.Whole b P f.params.toList s.vars false W d.toList a [] h)(C:(s.fn H (a++[])).args=a)(q:(s.fn H (a++[])).results=[.lit (.bool true)])(r:(s.fn H (a++[])).vars=[])
 (n:Below W.heap.size W c):s.post b P f false true false false W d (.bool true) c:=by
 have k:∀p∈h,p.block<W.heap.size:=λp u=>by simpa using e.lt p u
 have j:=e
 obtain⟨p,I,B,i,rfl,A,E⟩:=e
 rw[l]at i
 obtain⟨_,rfl⟩:=trodVars_none i
 simp only[fO]at k A j
 have m:∀sp:Nat->Bool,(∀x∈p,sp x.block=true)->DataW.TrodAll b P c 0 sp true f.params.toList d.toList (s.fn H (a++[])).args p:=λsp F=>by
  grind [Ig]
 have y:∀sp:Nat->Bool,DataW.TrodVars b P c sp s.vars (s.fn H (a++[])).vars []:=λsp=>by rw[l,r];rfl
 have v:∀(g:Nat)(sp:Nat->Bool)(hd:Bool),DataW.TrodAll b P c g sp hd f.resultTypes.toList ((Value.bool true).resultList f.resultTypes.size) (s.fn H (a++[])).results []:=λg sp hd=>by
  rw[q,w];exact trodAll_cons_mk (shut_bool o _) trodAll_mk0
 refine⟨a,[],p,[],p,[],j,v _ _ _,m _ (λx z=>by simpa using k x z),y _,n.frame _,λ_=>?_⟩
 constructor<;>grind [Go.RowKit.ok_one,Go.RowKit.okWide_bool_mk,Go.ChangeShapes.trodAll_append,Go.RowKit.Below.frozen]
end
end Go.Vc
section
namespace Go.Proofs.YtbbbdejieenniaaGreat
open Go.Vc Go.ChangeShapes
def YA{H:Type}{x:TypeId×Value->H}{P:Program}{w:World}{t e r:Nat}{v:Value}{u:DataW H}{J:aI}(p:P.underlying t=some (.slice e))(B:P.underlying e=some (.int .u8))(A:P.cellsOf e=1)
 (F:Value.okWide P w .any r t v)(y:DataW.Trod x P w 0 (λ_=>true) true t v u J):∃s,v=s.v/\JR w.heap s:=by
 obtain⟨K,q,h,rfl⟩:=Go.WideShapes.okWide_slice p F
 obtain⟨M,C⟩:=y
 rcases open_ints p B A C with⟨b,_⟩|⟨d,Q,L,g,b,_,D,N,I,_,l,G⟩
 .simp[Value.cells]at b
  obtain⟨rfl,rfl,rfl⟩:=b
  exact⟨.nil,O,bY,λk a=>by simp at a⟩
 .simp[Value.cells]at b
  obtain⟨rfl,rfl,rfl⟩:=b
  simp only[yf]at I
  rcases FT h with i|i
  .subst i
   have:q=0:=V
   subst this
   obtain⟨c,o,s⟩:=d
   cases s with
   |none=>exact⟨.mk c o 0 0,O,bY,λk a=>by simp at a⟩
   |some sp=>exact⟨.DG c o sp,O,bY,λk a=>by simp at a⟩
  .have z:=l 0 V
   have n:d.spot=none:=by
    have:=Yj z;simpa[Addr.add]using this
   obtain⟨c,o,s⟩:=d
   simp only at n
   subst n
   refine⟨.mk c o q h,O,D,λk a=>?_⟩
   simp only[E.ku]at a
   have m:k<g.length:=V
   have j:=l k m
   have f:=G (g.getD k 0) (by rw[fG,abk m];simp)
   rw[Lit.wf,eZ,bg,bg]at f
   refine⟨g.getD k 0,f.1,f.2,?_⟩
   .rw[Yf O,DX]at j
    simpa using j
end Go.Proofs.YtbbbdejieenniaaGreat
end
