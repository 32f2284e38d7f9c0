/- Part of a proof, joined by a program. -/
import Derived.Carry
import Derived.ChangeSame
import Derived.ChangeSlices
import Derived.Deep.Slices
import Derived.OpenShut
import Derived.RowKit
import Derived.WideShapes
import Derived.Test.YtakpkjhmbbfniaaGreatU01
import Derived.Test.YtakpkjhmbbfniaaGreatU09
import Derived.Test.YtakpkjhmbbfniaaGreatU12
import Derived.Test.YtakpkjhmbbfniaaGreatU14
import Derived.Test.YtakpkjhmbbfniaaGreatU15
import Derived.Test.YtakpkjhmbbfniaaGreatU16
set_option linter.unusedVariables false
set_option linter.unusedSimpArgs false
set_option linter.defProp false
set_option linter.constructorNameAsVariable false
set_option maxHeartbeats 8000000
set_option maxRecDepth 100000
namespace Go.Proofs.YtakpkjhmbbfniaaGreat
open Go.Vc
section
variable{p:cL}{f:a9}{m d i j:I}{r o e:O}{a b:Nat}
structure Ps(p:cL)(f:a9):Prop where
 eU:0<=f.eU/\f.eU<p.cB.length
 pc:0<=f.pc/\f.pc<(dF p f.eU).cG.length
 lr:(f.av.length:Int)=(dF p f.eU).av
 lo:(f.aV.length:Int)=(dF p f.eU).av
 lh:(f.be.length:Int)=(dF p f.eU).av
 dh:∀(k:Nat)(w o:Int),f.av[k]? =some w->f.aV[k]? =some o->(gF w\/1000<=w)/\(0<=o/\o<=999999)
def Ps.aV(h:Ps p f):∀o∈f.aV,0<=o/\o<=999999:=λo c=>by
 obtain⟨b,a⟩:=List.mem_iff_getElem?.1 c;have:=ax a;have e:=h.lr;have g:=h.lo;obtain⟨w,d⟩:=ag (l:=f.av) (k:=b) V;exact(h.dh b w o d a).2
def Bn{S aa:O}(U:eX m S aa p)(P:au m r f.av)(C:au m o f.aV)(he:au m e f.be):
 dq bY 25 [.agg #[O.v S,O.v aa],.agg #[vi f.eU,vi f.pc,vi f.dst,O.v r,O.v o,O.v e]] m (Ps p f):=by
 apply vX
 simp -zeta only[aE,aD]
 intro d i
 have G:J m i:=((J.aC m).aM _).aM _
 have s1:d.size=m.size+1:=by simp[d]
 have s2:i.size=m.size+2:=by simp[i,s1]
 clear_value i
 have al:=U.cB.len
 have an:=P.len
 have ai:=C.len
 have ah:=he.len
 have ao:=P.gA
 refine⟨λB=>bX (λa=>by have:=a.eU;simp at B;omega) G,λB=>⟨λH=>bX (λa=>by have:=a.eU;simp at H;omega) G,λH=>?_⟩⟩
 simp at B H
 obtain⟨af,Y⟩:=ag (l:=p.cB) (k:=f.eU.toNat) V
 have h:dF p f.eU=af:=by simp[dF,Y]
 obtain⟨pa,pl,pc,aj,am,ac,k0,k1,k2,k3,k4⟩:=(U.ext G).cB.u Y
 have ak:=ac.len
 refine⟨B,V,pa,k0,pl,k1,_,k2,_,k3,pc,k4,?_⟩
 intro m3 v
 have x4:J i v:=((J.aC i).aM _).aj (ad _) _ _
 have s4:v.size=i.size+1:=by simp[v,m3,az]
 clear_value v
 have g:=G.trans x4
 have hl:∀b∈[i.size,d.size,m.size],b<v.size:=bF
 refine⟨λI=>bX (λa=>by have:=a.pc;simp at I;omega) g,λI=>⟨λK=>bX (λa=>by have:=a.pc;rw[h]at this;simp at K;omega) g,λK=>⟨λL=>bX (λa=>by have:=a.lr;rw[h]at this;simp at L;omega) g,λL=>⟨λM=>bX (λa=>by have:=a.lo;rw[h]at this;simp at M;omega) g,λM=>⟨λN=>bX (λa=>by have:=a.lh;rw[h]at this;simp at N;omega) g,λN=>?_⟩⟩⟩⟩⟩
 simp at I K L M N
 refine eg (n:=f.av.length) V (λc m'=>J v m'/\∀(j:Nat)(w o:Int),j<c->f.av[j]? =some w->f.aV[j]? =some o->(gF w\/1000<=w)/\(0<=o/\o<=999999)) ⟨J.aC _,λj w o W=>absurd W (fy _)⟩ ?_
 rintro c m5 ab μ a ⟨R,Z⟩ ae
 refine dit (λh8=>?_) λh8=>?_
 ·obtain⟨w,q⟩:=ag (l:=f.av) (k:=c) V
  obtain⟨x,z⟩:=ag (l:=f.aV) (k:=c) V
  refine⟨V,V,w,by simpa using(P.ext (g.trans R)).u q,(oZ w m5).aG R hl λb6 u T ap A=>⟨b6,rfl,?_⟩⟩
  have X:D u o.F (o.off+Int.toNat (c:Int)*1)=some (vi x):=by simpa using(C.ext (g.trans A)).u z
  have jJ:(gF w\/1000<=w)->(0:Int)<=c/\(c:Int)<(o.len:Int)/\∃Q:Int,D u o.F (o.off+Int.toNat (c:Int)*1)=some (vi Q)/\((decide (Q<(0:Int)))=true->∃s:Bool,vb false=.bool s/\(s=true<->Ps p f)/\J m u)/\
   ((decide (Q<(0:Int)))=false->(0:Int)<=c/\(c:Int)<(o.len:Int)/\∃t:Int,D u o.F (o.off+Int.toNat (c:Int)*1)=some (vi t)/\((decide (t>(999999:Int)))=true->∃s:Bool,vb false=.bool s/\(s=true<->Ps p f)/\J m u)/\
   ((decide (t>(999999:Int)))=false->ab (cO ((c:Int)+(1:Int))) u/\μ (cO ((c:Int)+(1:Int))) u<μ c m5)):=λhi=>
   ⟨V,V,x,X,λt=>bX (λa=>by have:=(a.dh c w x q z).2;simp at t;omega) (g.trans A),λt=>⟨V,V,x,X,λs=>bX (λa=>by have:=(a.dh c w x q z).2;simp at s;omega) (g.trans A),λs=>ae V _ ⟨A,λj w' o' W F E=>by
    rcases aX j c with y|y
    ·exact Z j w' o' y F E
    ·have:j=c:=V;subst this;rw[q]at F;rw[z]at E;simp at F E;subst F;subst E;simp at t s;exact⟨hi,V⟩⟩⟩⟩
  refine⟨λt=>⟨λs=>bX (λa=>?_) (g.trans A),λs=>jJ (Or.inr (by simp at s;omega))⟩,λt=>jJ (Or.inl (yb T t))⟩
  rcases(a.dh c w x q z).1 with y|y
  ·exact nb T t y
  ·simp at s;omega
 ·refine je ⟨V,by rw[h];omega,by rw[h];omega,by rw[h];omega,by rw[h];omega,λj w o q C=>Z j w o (by have:=ax q;omega) q C⟩ (g.trans R)
structure GG(a b:Nat)(m m':I):Prop where
 size:m.size<=m'.size
 same:∀c,c<m.size->c≠a->c≠b->m'[c]? =m[c]?
def GG.aC(a b:Nat)(m:I):GG a b m m:=⟨ad _,λ_ _ _ _=>rfl⟩
def GG.ext(h:GG a b m d)(f:J d i):GG a b m i:=⟨bI h.size f.size,λc e g j=>by rw[f.same c (aK e h.size)];exact h.same c e g j⟩
def GG.trans(h:GG a b m d)(j:GG a b d i):GG a b m i:=⟨bI h.size j.size,λc g e f=>by rw[j.same c (aK g h.size) e f];exact h.same c g e f⟩
def GG.aj(h:GG a b m d){c:Nat}(i:c=a\/c=b)(o:Nat)(l:List Ce):GG a b m (aj d c o l):=
 ⟨by rw[az];exact h.size,λx j f g=>by rw[bn l d c o (by rcases i with e|e<;>rw[e]<;>assumption)];exact h.same x j f g⟩
def GG.Ej{f:I}(h:GG a b m f)(c:J j m)(g:j.size<=a)(i:j.size<=b):J j f:=
 ⟨bI c.size h.size,λd e=>by rw[h.same d (c.lt e) V V];exact c.same d e⟩
structure TU(h:List bL)(f:a9):Prop where
 aV:∀(k:Nat)(w o:Int),f.av[k]? =some w->f.aV[k]? =some o->0<o->iX h w
 be:∀w∈f.be,w≠0->1000<=w/\∃c,h[ix w]? =some c/\c.aQ<0
def Sg{w:Int}{n:Nat}(b:Ev w)(f:n<=1000000000):(0<=cO (w -1000)/\cO (w -1000)<n)<->(1000<=w/\ix w<n):=by
 obtain⟨c,d⟩:=b;rcases wP w (-9223372036854774808)with a|a
 ·have e:cO (w -1000)=w -1000+18446744073709551616:=by
   unfold cO;rw[IntKind.wrap_i64];omega
  unfold ix;rw[e];constructor<;>intro h<;>omega
 ·unfold ix;rw[aP V V];omega
structure Li(m:I)(ob hb n:Nat)(fo fh:Nat->Int):Prop where
 aV:cD m ob aB ((qI n fo).map Ce.i)
 be:cD m hb aB ((qI n fh).map Ce.i)
 ne:ob≠hb
def JS{hp:O}{h:List bL}{u p:Nat}{t s:Nat->Int}(x0:J j m)(hh:cW j hp h)(hr:au j r f.av)(L:au j o f.aV)(he:au j e f.be)(al:j.size<=u)(ak:j.size<=p)(T:Li m u p h.length t s)
 (aj:Pq f)(aB:h.length<=1000000000)(ay:f.av.length=f.aV.length/\f.be.length=f.aV.length/\f.aV.length<=10000000)(am:∀o∈f.aV,0<=o/\o<=999999)(aw:∀a,0<=t a/\t a<=1000000000000000)(ap:∀a,0<=s a/\s a<=1000000000):
 aN bY 26 [.agg #[vi f.eU,vi f.pc,vi f.dst,O.v r,O.v o,O.v e],O.v hp,O.v (.mk u 0 h.length h.length),O.v (.mk p 0 h.length h.length)] m λv P=>
  ∃b:Bool,v=vb b/\(b=true<->TU h f)/\(b=true->Li P u p h.length (λa=>t a+cz f.av f.aV a) (λa=>s a+dJ f.be a))/\GG u p m P:=by
 apply uL
 simp -zeta only[aE,aD]
 intro d
 have x1:J m d:=(J.aC m).aM _
 have s1:d.size=m.size+1:=by simp[d]
 clear_value d
 have aO:=hr.len
 have aL:=L.len
 have aJ:=he.len
 have aK:=hh.len
 obtain⟨aG,aH,aI⟩:=ay
 have aR:=T.aV.lt
 have aQ:=T.be.lt
 simp -zeta only[O.fZ,O.jb,O.mN,bQ]
 have aa:∀ah:Nat,Int.toNat (ah:Int)=ah:=λah=>V
 refine eg (n:=f.aV.length) V (λc P=>GG u p m P/\m.size<P.size/\Li P u p h.length (λa=>t a+cz (f.av.take c) (f.aV.take c) a) (λa=>s a+dJ (f.be.take c) a)/\(∀(q:Nat)(w o:Int),q<c->f.av[q]? =some w->f.aV[q]? =some o->0<o->iX h w)/\
  (∀w∈f.be.take c,w≠0->1000<=w/\∃y,h[ix w]? =some y/\y.aQ<0)) ⟨(GG.aC _ _ _).ext x1,V,by simpa[cz,dJ]using(⟨T.aV.ext x1,T.be.ext x1,T.ne⟩:Li d u p h.length t s),λq w o hj=>absurd hj (fy _),E⟩ ?_
 rintro c i aF μ hk ⟨t2,z2,x,q2,Z⟩ ao
 have X2:=t2.Ej x0 al ak
 rw[aa,dP]
 refine dit (λh1=>?_) λh1=>?_
 ·obtain⟨w,A⟩:=ag (l:=f.av) (k:=c) V
  obtain⟨z,N⟩:=ag (l:=f.aV) (k:=c) V
  obtain⟨v,F⟩:=ag (l:=f.be) (k:=c) V
  have gw:∀{M:I},J j M->D M r.F (r.off+c)=some (vi w):=λS=>by simpa using(hr.ext S).u A
  have gq:∀{M:I},J j M->D M o.F (o.off+c)=some (vi z):=λS=>by simpa using(L.ext S).u N
  have gv:∀{M:I},J j M->D M e.F (e.off+c)=some (vi v):=λS=>by simpa using(he.ext S).u F
  have aC:=aj.1 w (ar A)
  have an:=aj.2.2 v (ar F)
  have aM:=am z (ar N)
  refine⟨V,V,z,gq X2,λM=>GG u p i M/\m.size<M.size/\Li M u p h.length (λa=>t a+cz (f.av.take (c+1)) (f.aV.take (c+1)) a) (λa=>s a+dJ (f.be.take c) a)/\(0<z->iX h w),⟨λh2=>?_,λh2=>?_⟩,?_⟩
  ·have H:0<z:=by simpa using h2
   refine⟨V,V,w,gw X2,(nJ (cW.ext X2 hh) aC.2).mono ?_⟩
   rintro _ m3 ⟨a,Y,rfl,Q,ab,C⟩
   have z3:=C.size
   refine⟨C.de bF,a,Y,rfl,λB=>⟨false,rfl,?_,E,t2.ext C⟩,λB=>?_⟩
   ·simp only[ji,YC]
    exactλht=>nb Q B (ht.aV c w z A N H)
   have K:=yb Q B
   have W:=ax (cq K).1
   have U:=ab (by simpa using B)
   subst U
   have G:=x.aV.ext C
   have X:=x.be.ext C
   have q1:=Dn (av:=f.av.take c) (aV:=f.aV.take c) (n:=999999) V (λo L=>am o (cw L)) (ix w)
   have q6:(f.aV.take c).length<=10000000:=bF
   have q7:=aw (ix w)
   rw[aa,dP]
   refine⟨V,V,_,rK G W,V,V,KV G W,?_⟩
   rw[show cO (t (ix w)+cz (f.av.take c) (f.aV.take c) (ix w)+z)=t (ix w)+cz (f.av.take c) (f.aV.take c) (ix w)+z from aP V V]
   have R:=FV G (ix w) (t (ix w)+cz (f.av.take c) (f.aV.take c) (ix w)+z)
   rw[eH (g:=λa=>t a+cz (f.av.take (c+1)) (f.aV.take (c+1)) a)]at R
   ·exact⟨λb ac=>bn _ _ _ _ (by simp at ac;omega),((GG.aC _ _ _).ext C).aj (Or.inl rfl) _ _,by rw[az];omega,⟨R,X.congr (bn _ _ _ _ λe=>x.ne e.symm),x.ne⟩,λ_=>K⟩
   ·intro b p
    rw[rj A N]
    by_cases e:b=ix w
    ·subst e;rw[aq rfl,aq (gC K.1).symm];omega
    ·rw[ae e,ae (λaf=>e (by rw[af,jZ]))];omega
  ·have H:z=0:=by simp at h2;omega
   refine⟨GG.aC _ _ _,z2,⟨?_,x.be,x.ne⟩,λhp=>V⟩
   rw[eH (g:=λa=>t a+cz (f.av.take c) (f.aV.take c) a)]
   ·exact x.aV
   ·intro b p;rw[rj A N,H];split<;>omega
  rintro m3 ⟨t3,z3,G,aA⟩
  have Q:=t2.trans t3
  have X3:=Q.Ej x0 al ak
  have fx:∀(q:Nat)(w o:Int),q<c+1->f.av[q]? =some w->f.aV[q]? =some o->0<o->iX h w:=λq w' o' hj Y X=>by
   rcases aX q c with K|K
   ·exact q2 q w' o' K Y X
   ·have:q=c:=V;subst this;rw[A]at Y;rw[N]at X;simp at Y X;subst Y;subst X;exact aA
  have ad:=Sg (n:=h.length) an aB
  refine⟨V,V,v,gv X3,λB=>⟨V,V,v,gv X3,?_⟩,λB=>?_⟩
  ·have ab:v≠0:=by simpa using B
   have ai:∀{M:I},GG u p m M->¬(1000<=v/\∃y,h[ix v]? =some y/\y.aQ<0)->∃b:Bool,vb false=vb b/\(b=true<->TU h f)/\(b=true->Li M u p h.length (λa=>t a+cz f.av f.aV a) (λa=>s a+dJ f.be a))/\GG u p m M:=λht hn=>
    ⟨false,rfl,by simp only[ji,YC];exactλhk=>hn (hk.be v (ar F) ab),E,ht⟩
   refine⟨λW=>ai Q λ⟨H,y,C,_⟩=>?_,λW=>⟨λh5=>ai Q λ⟨H,y,C,_⟩=>?_,λh5=>?_⟩⟩
   ·have:=(ad.2 ⟨H,ax C⟩).1;simp at W;omega
   ·have:=(ad.2 ⟨H,ax C⟩).2;simp at h5;omega
   simp at W h5
   obtain⟨H,C⟩:=ad.1 ⟨W,V⟩
   have ew:cO (v -1000)=(ix v:Nat):=by have:=an.2;unfold ix;rw[aP V V];omega
   rw[ew,aa]
   obtain⟨y,hc⟩:=ag C
   obtain⟨cf,_,c0,_,_⟩:=(cW.ext X3 hh).u hc
   refine⟨V,V,y.aQ,c0,λK=>ai Q λ⟨_,c',g3,g4⟩=>?_,λK=>?_⟩
   ·rw[hc]at g3;simp at g3;subst g3;simp at K;omega
   have q1:=ap (ix v)
   have q2:=jO (f.be.take c) (ix v)
   have q3:=gB (f.be.take c) (ix v)
   have q4:(f.be.take c).length<=10000000:=bF
   rw[dP]
   refine⟨V,V,_,rK G.be C,V,V,KV G.be C,?_⟩
   rw[show cO (s (ix v)+dJ (f.be.take c) (ix v)+1)=s (ix v)+dJ (f.be.take c) (ix v)+1 from aP V V]
   have R:=FV G.be (ix v) (s (ix v)+dJ (f.be.take c) (ix v)+1)
   rw[eH (g:=λa=>s a+dJ (f.be.take (c+1)) a)]at R
   ·refine⟨λb ac=>bn _ _ _ _ (by simp at ac;omega),ao V _ ⟨Q.aj (Or.inr rfl) _ _,by rw[az];exact z3,⟨G.aV.congr (bn _ _ _ _ x.ne),R,x.ne⟩,fx,bA F Z λ_=>⟨H,y,hc,by simp at K;omega⟩⟩⟩
   ·intro b p
    rw[pA F]
    by_cases e:b=ix v
    ·subst e;rw[aq rfl,aq (gC H).symm];omega
    ·rw[ae e,ae (λaf=>e (by rw[af,jZ]))];omega
  ·have ab:v=0:=by simpa using B
   refine ao V _ ⟨Q,z3,⟨G.aV,?_,x.ne⟩,fx,bA F Z λC=>absurd ab C⟩
   rw[eH (g:=λa=>s a+dJ (f.be.take c) a)]
   ·exact G.be
   ·intro b p;rw[pA F,ae V];omega
 ·have z:f.av.take c=f.av:=cE V
  have B:f.aV.take c=f.aV:=cE V
  have U:f.be.take c=f.be:=cE V
  rw[z,B,U]at x
  rw[U]at Z
  exact⟨true,rfl,by simp only[true_iff];exact⟨λq w o A L=>q2 q w o (by have:=ax A;omega) A L,Z⟩,λ_=>x,t2⟩
end
section
def TL(a:List a9)(k:Nat)(f:a9):Prop:=(lW a k=none->f.dst=0)/\∀p,lW a k=some p->0<=f.dst/\f.dst<p.aV.length/\u p.aV f.dst=0
structure P6(im:cL)(s:St)(k:Nat)(f:a9):Prop where
 v:Ps im f
 dst:TL s.ak k f
 Wg:TU s.heap f
def P6.ok{c:cL}{s:St}{k:Nat}{f:a9}(h:P6 c s k f):HM c s.heap (lW s.ak k) f:=
 ⟨h.v.eU,h.v.pc,h.v.lr,h.v.lo,h.v.lh,⟨λj w o b a=>⟨(h.v.dh j w o b a).1,(h.v.dh j w o b a).2,h.Wg.aV j w o b a⟩⟩,h.dst.1,h.dst.2⟩
def Kl.w{m:cL}{s:St}(h:Kl m s){k:Nat}{f:a9}(d:s.ak[k]? =some f):P6 m s k f:=by
 have F:=h.ak k f d;refine⟨⟨F.eU,F.pc,F.lr,F.lo,F.lh,λj w o b c=>⟨(F.av.dh j w o b c).1,(F.av.dh j w o b c).2.1⟩⟩,⟨F.first,F.next⟩,λj w o b c=>(F.av.dh j w o b c).2.2,λw b q=>?_⟩;obtain⟨g,n⟩:=(h.be.dg f (ar d) w b).resolve_left q;obtain⟨e,i⟩:=ag n;refine⟨g,e,i,Int.not_le.1 λp=>?_⟩;have r:=h.be.kJ _ e i p;have t:=MP (ar d) (b:=ix w);have u:=qA (l:=f.be) (a:=ix w) (by rw[gC g];exact b);omega
section
variable{m:I}{d p bq c b:O}{a:cL}{s:St}
def Bp(aS:eX m d p a)(aW:lO a)(T:fA m bq c b s)(ac:Bd s):dq bY 13 [.agg #[O.v d,O.v p],Pg s bq c b] m (cA a s):=by
 apply vY;simp -zeta only[aE,aD];intro m1 Q;have x2:J m Q:=((J.aC m).aM _).aM _;have s1:m1.size=m.size+1:=by simp[m1]
 have s2:Q.size=m.size+2:=by simp[Q,s1]
 clear_value Q;have hl:∀z∈[m1.size,m.size],z<Q.size:=bF;have aQ:=T.ak.len;have a7:=T.heap.len;have a8:=ac.lh;have v:∀{M:I},J Q M->¬Kl a s->∃C:Bool,vb false=.bool C/\(C=true<->cA a s)/\J m M:=λhx N=>bX (λh=>N (Lp h)) (x2.trans hx);have au:(s.ak=[])<->((b.len:Int)=0):=by rw[aQ];simp
 refine⟨λM=>J Q M/\(0<=s.cR/\s.cR<=3)/\(s.cR=0<->s.ak=[])/\gF s.value/\(s.value≠0->s.cR=0),?_,?_⟩
 ·refine⟨λA=>v (J.aC _) λi=>by have:=i.cR;simp at A;omega,λA=>⟨λx=>v (J.aC _) λi=>by have:=i.cR;simp at x;omega,λx=>⟨λH=>v (J.aC _) λi=>?_,λH=>?_⟩⟩⟩
  ·have:=i.done;rw[au,<-CM]at this;rw[this]at H;cases H
  have ai:0<=s.cR/\s.cR<=3:=by simp at A x;omega
  have ah:s.cR=0<->s.ak=[]:=by rw[au];exact(CM _ _).1 H
  refine(oZ _ _).aG (J.aC _) hl λj m3 e F _=>⟨j,rfl,λB=>v F λi=>nb e B i.value,λB=>⟨λf=>⟨λh=>v F λi=>?_,λh=>?_⟩,λf=>?_⟩⟩
  ·have:=i.rR (by simpa using f);simp at h;exact h this
  ·exact⟨F,ai,ah,yb e B,λ_=>by simpa using h⟩
  ·exact⟨F,ai,ah,yb e B,λh=>by simp at f;exact absurd f h⟩
 rintro m3 ⟨F,ai,ah,hv,a0⟩;refine⟨λA=>v F λi=>by have:=i.dQ;simp at A;omega,λA=>⟨λx=>v F λi=>by have:=i.dQ;simp at x;omega,λx=>⟨λH=>v F λi=>by have:=i.bG;simp at H;omega,λH=>⟨λB=>v F λi=>by have:=i.bG;simp at B;omega,λB=>?_⟩⟩⟩⟩;have aU:0<=s.dQ/\s.dQ<=40:=by simp at A x;omega
 have aM:0<=s.bG/\s.bG<=s.dQ:=by simp at H B;omega
 rw[aP V V];refine⟨λf=>v F λi=>by have:=i.ln;simp at f;omega,λf=>?_⟩;have aN:(s.ak.length:Int)<=s.bG+1:=by simp at f;omega
 clear A x H B f;have X3:=x2.trans F;refine(zy (T.ext X3).heap ac.heap V).mono ?_;rintro _ m4 ⟨ct,b4,rfl,ap,aZ,aF⟩;have x4:=F.trans aF;have z4:=x4.size;have z3:=F.size;refine⟨aF.de λz L=>F.lt (hl z L),ct,b4,rfl,λA=>v x4 λi=>nb ap A i.heap,λA=>?_⟩;have aw:=yb ap A;obtain⟨ob,rfl,a_,B4⟩:=aZ (by simpa using A);have bf:=B4.lt;refine(lI (T.ext (x2.trans x4)).bq 24 #[] #[] bd (λaj=>¬gF aj) (λaj _ m' hx=>?_)).aG x4 hl ?_
 ·apply tQ;refine(oZ _ _).then λz K L x5=>⟨z,rfl,fB ?_ x5⟩;rw[<-L];simp
 intro b5 K aq aG x5;have z5:=x5.size;have bg:=aG.size;refine⟨b5,rfl,λx=>v x5 λi=>?_,λx=>?_⟩
 ·obtain⟨aj,hx,N⟩:=aq.1 x;exact N (i.bq aj hx)
 have aY:∀aa∈s.bq,gF aa:=λaa N=>dG λE=>by have:=aq.2 ⟨aa,N,E⟩;rw[x]at this;cases this
 have en:Int.toNat (c.len:Int)=s.heap.length:=V;rw[en];refine⟨V,V,V,V,?_⟩;intro U;have aH:J K U:=(J.aC K).aM _;have s6:U.size=K.size+1:=by simp[U]
 have H6:cD U K.size aB ((qI s.heap.length (λ_=>0)).map Ce.i):=JA K _;clear_value U;have x6:=x5.trans aH;have X6:=x2.trans x6;have T6:Li U ob K.size s.heap.length (dw s.heap) (λ_=>0):=⟨B4.ext (aG.trans aH),H6,V⟩;have aV:m.size<=ob:=by have:=X3.size;omega
 have al:∀aa:Nat,Int.toNat (aa:Int)=aa:=λaa=>V;have a6:s.ak.length<=41:=V;have rb:∀e,0<=dw s.heap e/\dw s.heap e<=3*s.heap.length:=λe=>⟨nQ _ _,zk _ _ λq E=>(aw.cells q E).fl⟩;refine eg (n:=s.ak.length) V (λj M=>GG ob K.size U M/\Li M ob K.size s.heap.length (λe=>dw s.heap e+eu (s.ak.take j) e) (λe=>holds (s.ak.take j) e)/\∀(r:Nat)(o:a9),r<j->s.ak[r]? =some o->P6 a s r o)
  ⟨GG.aC _ _ _,by simpa[eu,holds]using T6,λr o P=>absurd P (fy _)⟩ ?_
 rintro j Z a5 μ i ⟨t7,R,am⟩ a1
 have x7:J Q Z:=t7.Ej x6 V V;have S:=x2.trans x7;have bb:∀z∈[m1.size,m.size],z<Z.size:=λz L=>x7.lt (hl z L);have z7:=x7.size;have bc:=R.aV.lt;have ba:=R.be.lt;rw[al];refine dit (λH=>?_) λH=>?_
 ·obtain⟨o,t⟩:=ag (l:=s.ak) (k:=j) V;have av:=ar t;obtain⟨a3,a2,ae,hr,ho,Y,g0,g1,g2,g3,g4,g5⟩:=T.ak.u t;refine⟨V,V,_,S.D g0,_,S.D g1,_,S.D g2,a3,S.D g3,a2,S.D g4,ae,S.D g5,?_⟩;intro m8 m9;have X:J Z m9:=((J.aC Z).aM _).aj (ad _) _ _;have s9:m9.size=Z.size+1:=by simp[m9,m8,az]
  clear_value m9;have X9:=S.trans X;have l9:∀z∈[Z.size,m1.size,m.size],z<m9.size:=bF;refine(Bn (aS.ext X9) (hr.ext X9) (ho.ext X9) (Y.ext X9)).aG (J.aC _) l9 λaJ y an G _=>⟨aJ,rfl,λB=>v ((x7.trans X).trans G) λi=>nb an B (i.w t).v,λB=>?_⟩;have hV:=yb an B;have W:=(x7.trans X).trans G;have af:=x2.trans W;refine⟨λM=>y=M/\TL s.ak j o,?_,?_⟩
  ·have ay:(cO ((j:Int) -1)=((j -1:Nat):Int))\/j=0:=by
    rcases jm j with f|f
    ·exact Or.inr f
    ·exact Or.inl (by rw[aP V V];omega)
   have jJ:0<j->((decide (o.dst<(0:Int)))=true->∃C:Bool,vb false=.bool C/\(C=true<->cA a s)/\J m y)/\((decide (o.dst<(0:Int)))=false->
    (0:Int)<=(cO ((j:Int) -(1:Int)))/\(cO ((j:Int) -(1:Int)))<(b.len:Int)/\
    ∃ab:O,D y b.F (b.off+Int.toNat (cO ((j:Int) -(1:Int)))*6+4)=some (O.v ab)/\
    ((decide (o.dst>=(ab.len:Int)))=true->∃C:Bool,vb false=.bool C/\(C=true<->cA a s)/\J m y)/\
    ((decide (o.dst>=(ab.len:Int)))=false->(0:Int)<=(cO ((j:Int) -(1:Int)))/\(cO ((j:Int) -(1:Int)))<(b.len:Int)/\
    ∃w:O,D y b.F (b.off+Int.toNat (cO ((j:Int) -(1:Int)))*6+4)=some (O.v w)/\
    (0:Int)<=o.dst/\o.dst<(w.len:Int)/\∃ak:Int,D y w.F (w.off+Int.toNat o.dst*1)=some (vi ak)/\
    ((ak !=(0:Int))=true->∃C:Bool,vb false=.bool C/\(C=true<->cA a s)/\J m y)/\((ak !=(0:Int))=false->y=y/\TL s.ak j o))):=λaL=>by
    have e1:=ay.resolve_right V
    rw[e1,al]
    obtain⟨r,rfl⟩:∃r,j=r+1:=⟨j -1,V⟩
    have ej:r+1 -1=r:=V
    rw[ej]
    obtain⟨pf,ak⟩:=ag (l:=s.ak) (k:=r) V
    obtain⟨pr,po,pe,aO,ao,aI,y0,y1,y2,y3,y4,y5⟩:=T.ak.u ak
    have aK:=ao.len
    have ab:lW s.ak (r+1)=some pf:=ak
    refine⟨λf=>v W λi=>?_,λf=>⟨V,V,po,af.D y4,λh=>v W λi=>?_,λh=>⟨V,V,po,af.D y4,by simpa using f,by simp at h;omega,u pf.aV o.dst,?_,λw=>v W λi=>?_,λw=>⟨rfl,⟨λN=>(by rw[ab]at N;cases N),λaC hq=>?_⟩⟩⟩⟩⟩
    ·have:=((i.w t).dst.2 pf ab).1;simp at f;omega
    ·have:=((i.w t).dst.2 pf ab).2.1;simp at h;omega
    ·simp at f h
     exact(ao.ext af).EF f V
    ·have:=((i.w t).dst.2 pf ab).2.2;simp at w;exact w this
    ·rw[ab]at hq;simp at hq;subst hq
     simp at f h w;exact⟨f,V,w⟩
   refine⟨λf=>⟨λh=>v W λaA=>?_,λh=>⟨λw=>by simp at f w;omega,λw=>⟨rfl,⟨λ_=>by simpa using h,λaC hq=>?_⟩⟩⟩⟩,λf=>⟨λh=>jJ (by simp at h;omega),λh=>by simp at f h;omega⟩⟩
   ·simp at f;subst f;have:=(aA.w t).dst.1 rfl;simp at h;exact h this
   ·simp at f;subst f;simp[lW]at hq
  ·rintro _ ⟨rfl,hD⟩;have aT:=ac.lr o av;have v1:=hV.lr;have v2:=hV.lo;have v3:=hV.lh;have vP:=G.size;have aI:Li y ob K.size s.heap.length (λe=>dw s.heap e+eu (s.ak.take j) e) (λe=>holds (s.ak.take j) e):=⟨R.aV.ext (X.trans G),R.be.ext (X.trans G),R.ne⟩;have aR:∀e,0<=dw s.heap e+eu (s.ak.take j) e/\dw s.heap e+eu (s.ak.take j) e<=1000000000000000:=λe=>by
    have q1:=rb e;have q2:=HJ (a:=s.ak.take j) (n:=10000000) (k:=999999) V (λab w=>⟨(ac.lr ab (cw w)).2.1,by
     obtain⟨r,P⟩:=List.mem_iff_getElem?.1 w;have ak:r<j:=by have:=ax P;simp at this;omega
     rw[di ak]at P;exact(am r ab ak P).v.aV⟩) e
    have q3:(s.ak.take j).length<=41:=bF;omega
   have aO:∀e,0<=holds (s.ak.take j) e/\holds (s.ak.take j) e<=1000000000:=λe=>by
    have q2:=Iw (a:=s.ak.take j) (n:=10000000) (λab w=>(ac.lr ab (cw w)).2.2) e;have q3:(s.ak.take j).length<=41:=bF;have q4:=tK (s.ak.take j) e;omega
   refine(JS (j:=m) af T.heap hr ho Y aV V aI (ac.ak o av) V ⟨V,V,aT.2.1⟩ hV.aV aR aO).mono ?_;rintro _ ay ⟨aK,rfl,ao,aL,aA⟩;have aC:GG ob K.size U ay:=(t7.ext (X.trans G)).trans aA;have a4:J Q ay:=aC.Ej x6 V V;refine⟨λz L=>aA.same z (G.lt (l9 z L)) (by simp at L;omega) (by simp at L;omega),aK,rfl,λf=>v a4 λi=>nb ao f (i.w t).Wg,λf=>a1 V _ ⟨aC,?_,λr ab P w=>?_⟩⟩
   ·have ak:=aL (by simpa using f);refine⟨?_,?_,ak.ne⟩
    ·rw[eH (g:=λe=>dw s.heap e+eu (s.ak.take j) e+cz o.av o.aV e)]
     ·exact ak.aV
     ·intro z L;rw[KK t];omega
    ·rw[eH (g:=λe=>holds (s.ak.take j) e+dJ o.be e)]
     ·exact ak.be
     ·intro z L;rw[Ix t]
   ·rcases aX r j with h|h
    ·exact am r ab h w
    ·have:r=j:=V;subst this;rw[t]at w;simp at w;subst w;exact⟨hV,hD,yb ao f⟩
 rw[cE V]at R;have hW:∀(r:Nat)(o:a9),s.ak[r]? =some o->P6 a s r o:=λr o t=>am r o (by have:=ax t;omega) t;refine eg (n:=s.heap.length) V (λj M=>J Z M/\∀(e:Nat)(q:bL),e<j->s.heap[e]? =some q->(0<q.aQ->q.aQ=dw s.heap e+eu s.ak e)/\(q.aQ<0->holds s.ak e=1)) ⟨J.aC _,λe q ha=>absurd ha (fy _)⟩ ?_;rintro w m8 I2 μ2 av ⟨x8,ak⟩ ao;have X8:=S.trans x8;rw[al];refine dit (λB=>?_) λB=>?_
 ·have af:w<s.heap.length:=V;obtain⟨q,ab⟩:=ag af;obtain⟨o,_,g0,g1,g2⟩:=T.heap.u ab;refine⟨λM=>J m8 M/\(0<q.aQ->q.aQ=dw s.heap w+eu s.ak w)/\(q.aQ<0->holds s.ak w=1),?_,?_⟩
  ·refine⟨V,V,_,X8.D g0,_,X8.D g1,o,X8.D g2,?_⟩;intro m9 y;have G:J m8 y:=((J.aC m8).aM _).aj (ad _) _ _;clear_value y;have W:=(x7.trans x8).trans G;have go:=rK (R.aV.ext (x8.trans G)) af;have gh:=rK (R.be.ext (x8.trans G)) af;simp -zeta only[O.fZ,O.jb,O.mN,bQ,dP];have be:(0<q.aQ->q.aQ=dw s.heap w+eu s.ak w)->((decide (q.aQ<(0:Int)))=true->(0:Int)<=w/\(w:Int)<(s.heap.length:Int)/\∃an:Int,D y K.size w=some (vi an)/\
    ((an !=(1:Int))=true->∃C:Bool,vb false=.bool C/\(C=true<->cA a s)/\J m y)/\((an !=(1:Int))=false->J m8 y/\(0<q.aQ->q.aQ=dw s.heap w+eu s.ak w)/\(q.aQ<0->holds s.ak w=1)))/\
    ((decide (q.aQ<(0:Int)))=false->J m8 y/\(0<q.aQ->q.aQ=dw s.heap w+eu s.ak w)/\(q.aQ<0->holds s.ak w=1)):=λE=>
    ⟨λf=>⟨V,V,_,gh,λh=>v W λi=>by have:=i.be.ju w q ab (by simpa using f);simp at h;exact h this,λh=>⟨G,E,λ_=>by simpa using h⟩⟩,λf=>⟨G,E,λh=>by simp at f;omega⟩⟩
   refine⟨λf=>⟨V,V,_,go,λh=>v W λi=>?_,λh=>be λ_=>by simpa using h⟩,λf=>be λh=>by simp at f;omega⟩;have:=i.NS w q ab (by simpa using f);simp at h;exact h this
  ·rintro m9 ⟨X,y,G⟩;refine ao V _ ⟨x8.trans X,λe ae ha Y=>?_⟩;rcases aX e w with h|h
   ·exact ak e ae h Y
   ·have:e=w:=V;subst this;rw[ab]at Y;simp at Y;subst Y;exact⟨y,G⟩
 ·refine je (Jw ⟨aW,ai,ah,hv,a0,aU,aM,aN,aY,aw,λr o t=>(hW r o t).ok,⟨λo t h y=>?_,λW q E N=>(ak W q (by have:=ax E;omega) E).2 N,λW q E N=>?_⟩,λe q E c=>(ak e q (by have:=ax E;omega) E).1 c⟩) X8
  ·obtain⟨r,P⟩:=tR t;by_cases G:h=0
   ·exact Or.inl G
   ·obtain⟨A,q,x,_⟩:=(hW r o P).Wg.be h y G;exact Or.inr ⟨A,ax x⟩
  ·refine Iy λo t h y ae=>?_;obtain⟨r,P⟩:=tR t;obtain⟨A,G,x,H⟩:=(hW r o P).Wg.be h y V;rw[ae,jZ,E]at x;simp at x;subst x;omega
def qY(k:eX m d p a)(u:fA m bq c b s)(t:Bd s):dq bY 7 [.agg #[O.v d,O.v p],Pg s bq c b] m (cA a s):=by
 apply vV;simp -zeta only[aE,aD];intro i e;have f:J m e:=((J.aC m).aM _).aM _;have v:i.size=m.size+1:=by simp[i]
 have z:e.size=m.size+2:=by simp[e,v]
 clear_value e;have l:∀n∈[i.size,m.size],n<e.size:=bF;refine(Bl (k.ext f)).aG (J.aC _) l λo x j g _=>⟨o,rfl,λh=>?_,λh=>bX (λq=>fb j h q.fP) (f.trans g)⟩;refine(Bp (k.ext (f.trans g)) (j.1 h) (u.ext (f.trans g)) t).aG g l λq y r A w=>⟨q,rfl,fB r (f.trans w)⟩
end
end
structure FP(m:I)(fb fo:Nat)(f:a9)(r o h:O):Prop where
 g3:D m fb (fo+3)=some (O.v r)
 g4:D m fb (fo+4)=some (O.v o)
 g5:D m fb (fo+5)=some (O.v h)
 av:au m r f.av
 aV:au m o f.aV
 be:au m h f.be
def FP.ext{m d:I}{b c:Nat}{f:a9}{r o h:O}(F:FP m b c f r o h)(a:J m d):FP d b c f r o h:=⟨a.D F.g3,a.D F.g4,a.D F.g5,F.av.ext a,F.aV.ext a,F.be.ext a⟩


section
section
variable{l:I}{p q:Nat->Nat}{m k:I}{n e:Nat}{a:List Ce}{bq g c:O}{j:List Int}{i:List bL}{d:List a9}{f:a9}{r o h:O}{b:List (List Ce)}
end
section
variable{i:I}{k:Nat->Nat}{m:I}{j:Nat}{d p bq g b:O}{c:Int}{s:St}{e:List a9}{f:a9}{r o h:O}{a:List (List Ce)}
end
end
section
section
variable{i:I}{k:Nat->Nat}{m:I}{j:Nat}{d p bq g b:O}{c:Int}{s:St}{e:List a9}{f:a9}{r o h:O}{a:List (List Ce)}
end
end
section
variable{a:I}{b c d n i:Nat}{av aV be:List Int}
section
variable{u:I}{e:Nat->Nat}{m:I}{v:Nat}{k p bq t l:O}{g:Int}{s:St}{q:List a9}{f:a9}{r o h:O}{j:List (List Ce)}
def nu.none{e:Nat->Nat}{m:I}:nu e m .nil []:=⟨[],gY.iC (iZ.nil m m _ _) (λa=>absurd rfl a),rfl,E,E⟩
end
def rX.E8{f:I}(N:rX f a b c d n av aV be)(g:i<n)(v:Int):fu a b i 1/\rX f (aj a b i [.i v]) b c d n (av.set i v) aV be:=by
 have e:=N.lo;refine⟨N.kr.fu (by simp[N.len.1];omega),N.ext.aj e.1 _ _,by rw[az];exact e,?_,N.ko.congr (bn _ _ _ _ V),N.kh.congr (bn _ _ _ _ V),by simp[N.len]⟩;have:=cD.aj (m:=a) (o:=i) (r:=[.i v]) N.kr;rw[xF]at this;exact this
def rX.xG{f:I}(N:rX f a b c d n av aV be)(g:i<n)(v:Int):fu a c i 1/\rX f (aj a c i [.i v]) b c d n av (aV.set i v) be:=by
 have e:=N.lo;refine⟨N.ko.fu (by simp[N.len.2.1];omega),N.ext.aj e.2.1 _ _,by rw[az];exact e,N.kr.congr (bn _ _ _ _ V),?_,N.kh.congr (bn _ _ _ _ V),by simp[N.len]⟩;have:=cD.aj (m:=a) (o:=i) (r:=[.i v]) N.ko;rw[xF]at this;exact this
section
variable{t:I}{v:Nat->Nat}{m:I}{u:Nat}{j p bq q k:O}{e:Int}{s:St}{l:List a9}{f:a9}{r o h:O}{g:List (List Ce)}
end
end
section
section
variable{g:I}{j:Nat->Nat}{m:I}{i:Nat}{d p bq e b:O}{s:St}{c:List a9}{f:a9}{r o h:O}{a:List (List Ce)}
end
end
section
section
variable{c:I}{f:Nat->Nat}{m:I}{e:Nat}{d p bq b a:O}{s:St}
end
end
end Go.Proofs.YtakpkjhmbbfniaaGreat
section
namespace Go.Vc
def fU.jN{m:I}{l:List Ce}{b o:Nat}{r:List Ce}(h:fU m b o l)(k:fU m b (o+l.length) r):fU m b o (l++r):=λi d a=>by
 rcases aX i l.length with c|c
 ·rw[aw c]at a;exact h i d a
 ·rw[aF c]at a;have:=k _ d a;rwa[show o+l.length+(i -l.length)=o+i by omega]at this
end Go.Vc
namespace Go.Proofs.YtakpkjhmbbfniaaGreat
open Go.Vc
variable{m:I}{e:List Ce}{d:Nat->Nat}
def iZ.Pd{c:I}{s:O}{a n:Nat}(g:iZ m c a n s e)(l:J m c)(j:∀b,m.size<=b->d b=0)(k:Nat):∃f,dA (λ_=>False) d m f c/\gY f c a n k s e/\∀b,f b=d b\/f b=k:=by
 rcases g.u with h|⟨b,i,tail,h,h2,h3,h4,h5⟩
 ·exact⟨d,dA.fj _ l j,gY.iC g λo=>absurd h o,λb=>Or.inl rfl⟩
 ·refine⟨uz d b k,dA.uz l j h2 h3.lt k,gY.iC g λ_=>by rw[h];exact iE _ _ _,λi=>?_⟩;by_cases a:i=b
  ·rw[a];exact Or.inr (iE _ _ _)
  ·exact Or.inl (eZ a)
def Fj{N:Nat}{C:O}{h:List bL}(U:∀b,m.size<=b->d b=0)(R:∀b,b<m.size->d b≠3)(B:cW m C h)(hN:N<=m.size)(T:∀c∈h,c.aI.length<=3)(ah:h.length<=1000000000):
 aN bY 75 [O.v C] m λad p=>∃e s,ad=O.v s/\eB N e p s h/\dA (λa=>a=3) d m e p/\J m p:=by
 apply zO
 intro D
 have x1:J m D:=(J.aC m).aM _
 clear_value D
 have hl:=B.len
 have ac:∀{e:Nat->Nat}{M:I},dA (λa=>a=3) d m e M->J m M:=λc=>⟨c.size,λb f=>c.fw b f (R b f)⟩
 refine dt (σ:=O) (n:=h.length) V (λa s M=>∃e,eB N e M s (h.take a)/\dA (λa=>a=3) d m e M) ⟨d,⟨[],⟨E,E,Or.inl rfl⟩,by simpa using fX.nil _ _,Ur.nil⟩,dA.fj _ x1 U⟩ ?_
 rintro a s m2 ae μ hk ⟨j,g,b⟩ aa
 have y:=ac b
 have K:Int.toNat (a:Int)=a:=V
 rw[K]
 refine dit (λQ=>?_) λQ=>?_
 ·obtain⟨c,o⟩:=ag (l:=h) (k:=a) V
  obtain⟨L,S,z,A,P⟩:=(cW.ext y B).u o
  have af:=T c (ar o)
  refine⟨V,V,c.aQ,z,V,V,c.lA,A,V,V,L,P,(fG S V).mono ?_⟩
  rintro _ i ⟨q,rfl,r,u⟩
  refine⟨q,rfl,u.dk A,u.dk z,?_⟩
  intro f
  have v:J i f:=(J.aC i).aM _
  have Z:cD f i.size qK [.i c.aQ,.i c.lA,.s q]:=cD.push i _ _
  clear_value f
  have t:=u.trans v
  have G:dA (λ_=>False) j m2 j f:=dA.fj _ t b.new
  have w:dA (λa=>a=3) d m j f:=b.trans (dA.fj _ t b.new)
  have Y:au f q c.aI:=(au.iC r V).ext v
  have X:c.aI≠[]->j q.F=0:=λW=>b.new _ ((FB.iC r W).1)
  have hz:=b.size
  refine eB.push (g.fe G id id) w.new (x:=.mk i.size 0 1 1) rfl Z.jA Y (Rq.of g (λF=>t.same _ (g.F F).2) (λ_=>r.ext v) X V) bF λab ai m5 H F=>?_
  exact aa V _ _ ⟨ab,by rw[bK o];exact H,w.trans F⟩
 ·rw[cE V]at g
  exact⟨j,s,rfl,g,b,y⟩
structure Yo(N:Nat)(d:Nat->Nat)(m:I)(r:O)(h:List bL)(css0 css:List (List Ce))(k:Nat):Prop where
 qQ:gY d m qK 3 3 r css.flatten
 len:css.length=h.length
 size:∀cs∈css,cs.length=3
 done:∀(j:Nat)(cs:List Ce)(c:bL),j<k->css[j]? =some cs->h[j]? =some c->FZ N d m cs c
 jJ:∀j,k<=j->css[j]? =css0[j]?
 YH:∀(i j:Nat)(ci cj:List Ce)(a b:O),i<k->j<k->css[i]? =some ci->css[j]? =some cj->ci[2]? =some (.s a)->cj[2]? =some (.s b)->i≠j->a.len≠0->b.len≠0->a.F≠b.F
end Go.Proofs.YtakpkjhmbbfniaaGreat
end
namespace Go.Proofs.YtakpkjhmbbfniaaGreat
open Go.Vc
section
variable{a e:Nat->Nat}{m g d:I}{p:Nat->Prop}
structure Bs(d:I)(a:Nat->Nat)(m:I):Prop where
 cF:J d m
 jW:∀b,b<d.size->a b=0
 new:∀b,m.size<=b->a b=0
structure qN(d:I)(a:Nat->Nat)(m:I)(bq hp fr:O)(s:St):Prop where
 bs:Bs d a m
 bq:gY a m aB 1 2 bq (s.bq.map Ce.i)
 heap:eB d.size a m hp s.heap
 ak:nu a m fr s.ak
structure EC(s:St):Prop where
 bq:s.bq.length<=900000000
 fl:∀c∈s.heap,c.aI.length<=3
 heap:s.heap.length<=900000000
 ln:s.ak.length<=1000
 ak:∀f∈s.ak,f.av.length<=1000000/\f.aV.length<=1000000/\f.be.length<=1000000
def UR(d:I)(a:Nat->Nat)(m:I)(s:St)(v:Value)(g:I):Prop:=∃e bq c b,v=Pg s bq c b/\qN d e g bq c b s/\dA (λ_=>False) a m e g
abbrev UH:=dA (λk=>2<=k)
def UH.none(h:UH a m e g)(d:∀b,b<m.size->a b<=1):dA (λ_=>False) a m e g:=⟨h.size,h.iS,h.new,λb c _=>h.fw b c (by have:=d b c;omega)⟩
def dA.Ej(h:dA (λ_=>False) a m e g):J m g:=⟨h.size,λb c=>h.fw b c id⟩
def Bs.fe(B:Bs d a m)(h:dA (λ_=>False) a m e g):Bs d e g:=⟨B.cF.trans h.Ej,λb c=>by rw[h.iS b (B.cF.lt c)];exact B.jW b c,h.new⟩
def dA.Xj(h:dA p a m e g){l:List Nat}(d:∀b∈l,b<m.size/\¬p (a b)):dV l m g:=λb c=>h.fw b (d b c).1 (d b c).2
structure TJ(d:I)(a:Nat->Nat)(m:I)(e:Nat->Nat)(M:I)(q r:O)(s:St):Prop where
 fe:UH a m e M
 bq:gY e M aB 1 2 q (s.bq.map Ce.i)
 heap:eB d.size e M r s.heap
def TJ.rI{i j:Nat->Nat}{f g:I}{q r:O}{s:St}(h:TJ d a m i f q r s)(e:dA p i f j g)(c:∀k,p k->4<=k):TJ d a m j g q r s:=
 ⟨h.fe.trans (e.mono λk b=>by have:=c k b;omega),h.bq.fe e λb=>by have:=c _ b;omega,h.heap.fe e (λb=>by have:=c _ b;omega) λb=>by have:=c _ b;omega⟩
structure Ym(a:Nat->Nat)(m:I)(r:O)(fs:List a9)(css0 css:List (List Ce))(k:Nat):Prop where
 qQ:gY a m ez 6 4 r css.flatten
 len:css.length=fs.length
 size:∀cs∈css,cs.length=6
 done:∀(j:Nat)(cs:List Ce)(f:a9),j<k->css[j]? =some cs->fs[j]? =some f->Rk a m j cs f
 jJ:∀j,k<=j->css[j]? =css0[j]?
end
section
variable{d:Nat->Nat}{e:I}
abbrev z7:List Ce:=[.i 0,.i 0,.i 0,.i 0,.s .nil,.s .nil,.s .nil]
structure Km(m0:I)(ro:Nat->Nat)(m m2:I)(s:St)(ro':Nat->Nat)(M:I)(q r:Option O)(ob:Option Nat):Prop where
 fe:UH ro m ro' M
 ext:J m2 M
 Wc:r=none->∀b,ro' b≠3
 box:∀b,m.size<=b->b<m2.size->ro' b=8
 bq:∀x,q=some x->gY ro' M aB 1 2 x (s.bq.map Ce.i)
 heap:∀x,r=some x->eB m0.size ro' M x s.heap
 ob:∀x,ob=some x->m2.size<=x/\ro' x=8/\cD M x jR z7
section
variable{h:I}{i:Nat->Nat}{m g:I}{s:St}{f:Nat->Nat}{M:I}{q r:Option O}{j:Option Nat}
def Km.fx(k:Km h i m g s f M q r j)(n:dA (λa=>a=3) f M d e)(p:J M e)(C:∀b,m.size<=b->b<g.size->d b=8){u o:Option O}{t:Option Nat}(z:r=none\/dA (λ_=>False) f M d e)(B:o=none->∀b,d b≠3)
 (w:∀x,u=some x->q=some x\/gY d e aB 1 2 x (s.bq.map Ce.i))(y:∀x,o=some x->r=some x\/eB h.size d e x s.heap)(A:∀x,t=some x->j=some x\/(g.size<=x/\d x=8/\cD e x jR z7)):Km h i m g s d e u o t:=
 ⟨k.fe.trans (n.mono λa c=>V),k.ext.trans p,B,C,λx c=>(w x c).elim (λa=>(k.bq x a).fe n bd) id,
  λx c=>(y x c).elim (λa=>z.elim (λl=>by rw[l]at a;cases a) λl=>(k.heap x a).fe l id id) id,
  λx c=>(A x c).elim (λa=>by
   obtain⟨v,b,l⟩:=k.ob x a;exact⟨v,by rw[n.iS _ l.lt];exact b,l.ext p⟩) id⟩
def Km.OY(a:Km h i m g s f M q r j){p:Nat->Prop}(l:dA p f M d e):∀b,m.size<=b->b<g.size->d b=8:=λb k c=>by rw[l.iS b (a.ext.lt c)];exact a.box b k c
def Km.c(b:Km h i m g s f M none r j){x:O}(n:iZ M e aB 1 x (s.bq.map Ce.i))(k:J M e):∃d,Km h i m g s d e (some x) r j:=by
 obtain⟨d,C,A,l⟩:=iZ.Pd n k b.fe.new 2;exact⟨d,b.fx (C.mono λ_=>False.elim) k (b.OY C) (Or.inr C) (λa c=>by have:=l c;have:=b.Wc a c;omega) (λy a=>Or.inr (by simp at a;subst a;exact A)) (λy a=>Or.inl a) λy a=>Or.inl a⟩
def Km.a(b:Km h i m g s f M q r j)(c:J M e):Km h i m g s f e q r j:=
 have C:dA (λ_=>False) f M f e:=dA.fj _ c b.fe.new
 b.fx (C.mono λ_=>False.elim) c (b.OY C) (Or.inr C) b.Wc (λy a=>Or.inl a) (λy a=>Or.inl a) λy a=>Or.inl a
def Km.b(b:Km h i m g s f M q r none){e:I}(a:e=M.push (.cells (br z7) jR)):∃d,Km h i m g s d e q r (some M.size):=by
 have l:J M e:=by rw[a];exact J.push _ _
 have C:dA (λ_=>False) f M (uz f M.size 8) e:=dA.uz l b.fe.new (ad _) (by rw[a];simp) 8;refine⟨_,b.fx (C.mono λ_=>False.elim) l (b.OY C) (Or.inr C) (λn c=>?_) (λy a=>Or.inl a) (λy a=>Or.inl a) λy j=>Or.inr ?_⟩
 ·by_cases k:c=M.size
  ·rw[k,iE];decide
  ·rw[eZ k];exact b.Wc n c
 ·simp at j;subst j;exact⟨b.ext.size,iE _ _ _,by rw[a];exact cD.push _ _ _⟩
end
def DE{w:I}{u:Nat->Nat}{a:I}{bq hp fr:O}{s:St}(al:Bs w u a)(aw:∀c,u c<=1)(hs:fA a bq hp fr s)(ai:EC s):aN bY 44 [Pg s bq hp fr] a (UR w u a s):=by
 apply xU;simp -zeta only[aE,aD];intro v i;have s1:v.size=a.size+1:=by simp[v]
 have s2:i.size=a.size+2:=by simp[i,s1]
 have x2:J a i:=((J.aC a).aM _).aM _;obtain⟨d,ap⟩:∃d,d=uz (uz u a.size 8) v.size 8:=⟨_,rfl⟩;have C2:dA (λ_=>False) u a d i:=by
  rw[ap];exact(dA.uz (m':=v) (k:=8) ((J.aC a).aM _) al.new (ad _) V).trans (dA.uz (m':=i) (k:=8) ((J.aC v).aM _) (λc Q=>by rw[eZ V];exact al.new c V) (ad _) V)
 have r0:d a.size=8/\d v.size=8:=by rw[ap];exact⟨by rw[eZ V,iE],iE _ _ _⟩
 have P:Km w u a i s d i none none none:=by
  refine⟨C2.mono λ_=>False.elim,J.aC _,λ_ c=>?_,λc h1 h2=>?_,E,E,E⟩
  ·rw[ap];unfold uz;split
   ·decide
   ·split
    ·decide
    ·have:=aw c;omega
  ·rcases aX c v.size with h|h
   ·have:c=a.size:=V;subst this;exact r0.1
   ·have:c=v.size:=V;subst this;exact r0.2
 clear_value i;clear ap;have hN:=al.cF.size;have a9:=ai.bq;have a8:=ai.heap;have a5:=ai.ln;have cC:∀{b:Nat->Nat}{M:I}{j:Option O}{l:Option Nat}{ab:Value->I->Prop},Km w u a i s b M none j l->(∀A g G,Km w u a i s G g (some A) j l->J M g->M.size<=g.size->ab (O.v A) g)->aN bY 72 [O.v bq] M ab:=λh hK=>
  (fG (hs.bq.ext (x2.trans h.ext)) V).mono λ_ g⟨A,p,z,y⟩=>by
   obtain⟨G,h'⟩:=h.c z y;rw[p];exact hK A g G h' y y.size
 have cH:∀{b:Nat->Nat}{M:I}{q:Option O}{l:Option Nat}{ab:Value->I->Prop},Km w u a i s b M q none l->(∀A g G,Km w u a i s G g q (some A) l->J M g->M.size<=g.size->ab (O.v A) g)->aN bY 75 [O.v hp] M ab:=λ{b M q l ab} h hK=>
  (Fj (N:=w.size) h.fe.new (λc _=>h.Wc rfl c) (hs.ext (x2.trans h.ext)).heap (by have:=h.ext.size;omega) ai.fl V).mono λ_ g⟨G,A,p,aQ,am,y⟩=>by
   rw[p];exact hK A g G (h.fx am y (h.OY am) (Or.inl rfl) (λp=>by cases p) (λe p=>Or.inl p) (λe p=>Or.inr (by simp at p;subst p;exact aQ)) λe p=>Or.inl p) y y.size
 have kp:∀{M g:I},J M g->i.size<=M.size->∀R,D g a.size R=D M a.size R:=λy aC R=>aJ (y.same _ V) R;refine⟨λz M=>z.2=0/\∃b q j L,TJ w u a b M q j s/\i.size<=z.1/\i.size<=M.size/\b z.1=8/\b a.size=8/\b v.size=8/\cD M z.1 jR [.i s.cR,.i s.value,.i s.bG,.i s.dQ,.s q,.s j,.s (.mk L 0 0 0)],?_,?_⟩
 ·have ij:∀{b:Nat->Nat}{M:I}{q j:O}{l L:Nat},Km w u a i s b M (some q) (some j) (some l)->(λ(z:Nat×Nat) M=>z.2=0/\∃b q j L,TJ w u a b M q j s/\i.size<=z.1/\i.size<=M.size/\b z.1=8/\b a.size=8/\b v.size=8/\cD M z.1 jR [.i s.cR,.i s.value,.i s.bG,.i s.dQ,.s q,.s j,.s (.mk L 0 0 0)]) (l,0) (aj M l 0 [.i s.cR,.i s.value,.i s.bG,.i s.dQ,.s q,.s j,.s (.mk L 0 0 0)]):=λ{b M q j l L} h=>by
   obtain⟨H,c,av⟩:=h.ob l rfl;have am:dA (λe=>e=8) b M b (aj M l 0 [.i s.cR,.i s.value,.i s.bG,.i s.dQ,.s q,.s j,.s (.mk L 0 0 0)]):=dA.aj h.fe.new c _ _;exact⟨rfl,b,q,j,L,(⟨h.fe,h.bq q rfl,h.heap j rfl⟩:TJ w u a b M q j s).rI am λe hk=>V,H,by rw[az];exact h.ext.size,c,h.box _ V V,h.box _ V V,cD.aj (m:=M) (o:=0) av⟩
  have t:i.size<=i.size:=ad _;repeat' first
   |exact ij P
   |(refine cC P ?_;intro A g G P B C;have F:=t;have t:=bI t C)
   |(refine cH P ?_;intro A g G P B C;have F:=t;have t:=bI t C)
   |(intro C;have B:J _ C:=(J.aC _).aM _;have K:Array.size C=_+1:=YI _;have F:=t;have t:=bI t B.size;first|(obtain⟨G,P⟩:=P.b (e:=C) rfl;clear_value C)|(have P:=P.a B;clear_value C))
   |(refine And.intro (kp B F _) ?_)
   |(refine And.intro (J.de B λc Q=>by simp at Q;omega) ?_)
   |(refine⟨_,rfl,?_⟩)
   |(refine And.intro ?_ ?_)
 ·rintro⟨l,oo⟩ m3 ⟨rfl,a3,q,j,L,K3,aT,z3,r3,a0,a1,aG⟩;simp only[]at aT r3 aG;have aR:∀{b:Nat->Nat}{M:I},UH u a b M->J a M:=λav=>(av.none λc _=>aw c).Ej;have a7:=hs.ak.len;simp -zeta only[bQ];refine eg (n:=s.ak.length) V (λe M=>∃b fc,TJ w u a b M q j s/\nu b M fc (s.ak.take e)/\i.size<=M.size/\b l=8/\b a.size=8/\b v.size=8/\cD M l jR [.i s.cR,.i s.value,.i s.bG,.i s.dQ,.s q,.s j,.s fc])
   ⟨a3,_,K3,⟨[],⟨E,E,Or.inl rfl⟩,E,E,E⟩,z3,r3,a0,a1,aG⟩ ?_
  rintro e F a4 μ hk ⟨Z,fc,K9,F9,z9,r9,a2,aI,C⟩ aV
  have en:Int.toNat (e:Int)=e:=V;rw[en];have K:=aR K9.fe;have a_:=C.lt;refine dit (λh1=>?_) λh1=>?_
  ·have aS:e<s.ak.length:=V;obtain⟨ah,hf⟩:=ag aS;have a6:=ai.ak ah (ar hf);obtain⟨ra,oa,ha,ir,io,ih,g0,g1,g2,g3,g4,g5⟩:=hs.ak.u hf;refine⟨V,V,_,K.D g0,_,K.D g1,_,K.D g2,ra,K.D g3,oa,K.D g4,ha,K.D g5,?_⟩;intro ax ac;have ak:J F ac:=((J.aC F).aM _).aj (ad _) _ _;have be:ac.size=F.size+1:=by simp[ac,ax,az]
   clear_value ac;have aA:dA (λ_=>False) Z F (uz Z F.size 8) ac:=dA.uz ak K9.fe.new (ad _) V 8;have t:∀{M g:I}{c:Nat},J M g->c<M.size->∀R,D g c R=D M c R:=λy aC R=>aJ (y.same _ aC) R;have bl:∀{M:I},ac.size<=M.size->∀c∈[F.size,v.size,a.size],c<M.size:=λh c Q=>by simp at Q;omega
   refine⟨fc,(C.ext ak).cy 6,(fG (ir.ext (K.trans ak)) V).mono ?_⟩;rintro _ ba ⟨qr,rfl,aW,B⟩;obtain⟨bc,au,aL,_⟩:=iZ.Pd aW B aA.new (10+3*e);have bh:=B.size;refine⟨B.de (bl (ad _)),qr,rfl,t B V _,t B V _,t B V _,t B V _,t B V _,t B V _,(fG (io.ext (K.trans (ak.trans B))) V).mono ?_⟩;rintro _ bb ⟨qo,rfl,aY,S⟩;obtain⟨bd,an,aM,_⟩:=iZ.Pd aY S au.new (11+3*e);have bi:=S.size;refine⟨S.de (bl V),qo,rfl,t S V _,t S V _,t S V _,t S V _,t S V _,(fG (ih.ext (K.trans (ak.trans (B.trans S)))) V).mono ?_⟩;rintro _ W ⟨qh,rfl,aZ,aa⟩;obtain⟨Y,ae,aO,_⟩:=iZ.Pd aZ aa an.new (12+3*e);have bj:=aa.size;refine⟨aa.de (bl V),qh,rfl,t aa V _,t aa V _,t aa V _,t aa V _,?_⟩;intro X;have aK:J W X:=(J.aC W).aM _;have bf:X.size=W.size+1:=by simp[X]
   have aU:cD X W.size ez [.i ah.eU,.i ah.pc,.i ah.dst,.s qr,.s qo,.s qh]:=cD.push W _ _;clear_value X;have af:dA (λ_=>False) Y W Y X:=dA.fj _ aK ae.new;have D9:dA (λ_=>False) Z F Y X:=(((aA.trans au).trans an).trans ae).trans af;have T:Y F.size=8/\Y a.size=8/\Y v.size=8/\Y l=8:=⟨by rw[ae.iS _ V,an.iS _ V,au.iS _ V];exact iE _ _ _,by rw[D9.iS _ V];exact a2,by rw[D9.iS _ V];exact aI,by rw[D9.iS _ V];exact r9⟩;have tk:(s.ak.take e).length=e:=bF;refine⟨t aK V _,nu.push (a:=ah) (F9.fe D9 λ_ _=>id) af.new (x:=.mk W.size 0 1 1) rfl aU.jA (by rw[tk];exact(((aL.fe an id).fe ae id).fe af id)) (by rw[tk];exact(aM.fe ae id).fe af id) (by rw[tk];exact aO.fe af id) V λU aB aq aP H=>?_⟩;have bk:=H.size;have ao:U F.size=8/\U a.size=8/\U v.size=8/\U l=8:=⟨by rw[H.iS _ V];exact T.1,by rw[H.iS _ V];exact T.2.1,by rw[H.iS _ V];exact T.2.2.1,by rw[H.iS _ V];exact T.2.2.2⟩;have aF:cD aq l jR [.i s.cR,.i s.value,.i s.bG,.i s.dQ,.s q,.s j,.s fc]:=(C.ext D9.Ej).congr (H.fw _ V (by rw[T.2.2.2];decide));refine⟨H.Xj λc Q=>by simp at Q;rcases Q with p|p|p<;>rw[p]<;>refine⟨V,?_⟩<;>simp[T.1,T.2.1,T.2.2.1],aF.fu E,?_⟩;intro aH;have ay:dA (λe=>e=8) U aq U aH:=dA.aj H.new (show(λe=>e=8) (U l)from ao.2.2.2) _ _;have bg:aH.size=aq.size:=az _ _ _ _;refine⟨λc Q=>bn _ _ _ _ (by simp at Q;omega),aV V _ ⟨U,aB,((K9.rI D9 λ_=>False.elim).rI H λe hk=>V).rI ay λe hk=>V,?_,V,ao.2.2.2,ao.2.1,ao.2.2.1,cD.aj (m:=aq) (o:=6) (r:=[.s aB]) aF⟩⟩;rw[bK hf];exact aP.fe ay λe hk=>V
  ·rw[cE V]at F9;refine⟨_,C.cy 0,_,C.cy 1,_,C.cy 2,_,C.cy 3,_,C.cy 4,_,C.cy 5,_,C.cy 6,?_⟩;intro ax;have B:dA (λe=>e=8) Z F Z ax:=dA.aj K9.fe.new (show(λe=>e=8) (Z v.size)from aI) _ _;have t:=K9.rI B λe hk=>V;have H:=t.fe.none λc _=>aw c;exact⟨Z,q,j,fc,rfl,⟨al.fe H,t.bq,t.heap,F9.fe B λe hk=>V⟩,H⟩
end
section
variable{n e:Nat}{a M b:I}
def Oz:St:=⟨0,0,0,0,[],[],[]⟩
structure YG where
 s:St
 ok:Bool
def cA.iN{j:cL}{s:St}(h:cA j s)(b:Sm n s)(o:n<=900000000):EC s:=by
 refine⟨by have:=b.bq;omega,λc e=>(h.heap.cell c e).fl,by have:=b.heap;omega,?_,λf g=>?_⟩
 ·have:=h.ln;have:=h.bG;have:=h.dQ;omega
 ·have a:=h.ak f g;obtain⟨p,_,i,d,_⟩:=a.IB h.fP;have k:=a.lr;have l:=a.lo;have m:=a.lh;rw[i]at k l m;have:=d.av;omega
def Bd.sm{s:St}(h:Bd s)(a:s.heap.length<=n)(b:s.bq.length<=n):Sm n s:=⟨a,b,λg c w d=>((h.ak g c).1 w d).2⟩
section
variable{c:I}{d:Nat->Nat}{m:I}{bq g f:O}{s:St}
def qN.IU(h:qN c d m bq g f s)(a:EC s):fA m bq g f s:=
 ⟨h.bq.pw (by have:=a.bq;omega),h.heap.cells (by have:=a.heap;omega),h.ak.IU (by have:=a.ln;omega) a.ak⟩
def qN.eA(h:qN c d m bq g f s){b:I}(l:J m b){a:Nat}{i:List Ce}(k:m.size<=a)(j:cD b a e i):AA c (uz d a 1) b a e i bq g f s.bq s.heap s.ak:=by
 have C:dA (λ_=>False) d m (uz d a 1) b:=dA.uz l h.bs.new k j.lt 1;have B:=h.bs.fe C;exact⟨B.cF,B.jW,B.new,j,iE _ _ _,h.bq.fe C id,h.heap.fe C id id,h.ak.fe C λ_ _=>id⟩
def qN.nil{c m:I}(a:J c m):qN c (λ_=>0) m .nil .nil .nil Oz:=
 ⟨⟨a,λ_ _=>rfl,λ_ _=>rfl⟩,⟨by simp[Oz],E,Or.inl rfl⟩,⟨[],⟨E,E,Or.inl rfl⟩,by simpa[Oz]using fX.nil _ _,Ur.nil⟩,nu.none⟩
def AA.IU{h e:Nat}{a:List Ce}(L:AA c d m h e a bq g f s.bq s.heap s.ak)(b:EC s):fA m bq g f s:=
 qN.IU (d:=d) ⟨⟨L.cF,L.jW,L.new⟩,L.bq,L.heap,L.ak⟩ b
end
def gY.up{c:Nat->Nat}{m f:I}{g k:Nat}{s:O}{l:List Ce}(h:gY c m e g k s l)(n:k≠0)(i:∀b,b<a.size->c b=0)(j:∀b,a.size<=b->b<m.size->f[b]? =m[b]?):gY c f e g k s l:=
 h.fw (λd=>j _ (Es λo=>n (by rw[<-(h.F d).2];exact i _ o)) (h.F d).1) λ_=>rfl
def qN.Oi{m:I}{r:Nat->Nat}{bq q o:O}{s:St}(h:qN a r M bq q o s)(D:m.size<=a.size)(E:M.size<=b.size)(d:∀c,a.size<=c->c<M.size->b[c]? =M[c]?)(B:J m b):qN m r b bq q o s:=by
 have f:=h.bs.jW;refine⟨⟨B,λc g=>f c V,λc g=>h.bs.new c V⟩,h.bq.up bd f d,?_,?_⟩
 ·obtain⟨i,t,u,v⟩:=h.heap;refine⟨i,t.up bd f d,u.mono λk C⟨j,x,l,n⟩=>⟨j,x,mC l λg=>d _ (n g).2.1 (nv l g),λg=>?_⟩,v⟩;obtain⟨y,z,w,tail,A,p⟩:=n g;exact⟨y,V,w,tail,A,p.congr (d _ z p.lt)⟩
 ·obtain⟨i,g⟩:=h.ak;exact⟨i,g.qQ.up bd f d,g.len,g.size,λw k j t u=>by
   obtain⟨y,x,v,e,l,n,p⟩:=g.dh w k j t u;exact⟨y,x,v,e,l.up V f d,n.up V f d,p.up V f d⟩⟩
def qN.box{m:I}{e:Nat->Nat}{bq c b:O}{s:St}(h:qN a e M bq c b s)(d:J m a){nb:Nat}(f:m.size<=nb)(i:nb<a.size)(o:Nat)(l:List Ce):qN m e (aj M nb o l) bq c b s:=
 h.Oi d.size (wR (az _ _ _ _).symm) (λg j _=>bn _ _ _ _ V) ((d.trans h.bs.cF).aj f _ _)
def qN.ext{e:I}{f:Nat->Nat}{bq d c:O}{s:St}(h:qN e f M bq d c s)(a:J M b):qN e f b bq d c s:=h.Oi (ad _) a.size (λg _ i=>a.same g i) (h.bs.cF.trans a)
def Bs.Dt(m:I):Bs m (λ_=>0) m:=⟨J.aC _,λ_ _=>rfl,λ_ _=>rfl⟩
section
variable{m:I}{d p bq j g:O}{k:cL}{s:St}
variable(c:eX m d p k)(f:fA m bq j g s)(h:Bd s)(i:s.bq.length<=10000000)
include c f h i
omit c f in
end
end
section
variable{M:I}
def Pa{k b:Nat}(a:b<k)(h:k<=M.size):(M.extract 0 k)[b]? =M[b]? :=((J.Mk h).same b (by rw[kL h];exact a)).symm
def qN.old{a M':I}{g:Nat->Nat}{bq d c:O}{s:St}(h:qN a g M bq d c s)(f:M.size<=M'.size)(i:∀b,a.size<=b->b<M.size->M'[b]? =M[b]?):qN (M'.extract 0 a.size) g M' bq d c s:=
 have e:=bI h.bs.cF.size f
 h.Oi (by rw[kL e];exact ad _) f i (J.Mk e)
def AA.old{a M M':I}{i:Nat->Nat}{c e:Nat}{d:List Ce}{bq h f:O}{s:St}(L:AA a i M c e d bq h f s.bq s.heap s.ak)(j:a.size<=c)(k:M.size<=M'.size)(g:∀b,a.size<=b->b<M.size->M'[b]? =M[b]?):AA (M'.extract 0 a.size) i M' c e d bq h f s.bq s.heap s.ak:=
 have N:=qN.old (s:=s) ⟨⟨L.cF,L.jW,L.new⟩,L.bq,L.heap,L.ak⟩ k g
 ⟨N.bs.cF,N.bs.jW,N.bs.new,L.box.congr (g _ j L.box.lt),L.Pc,N.bq,N.heap,N.ak⟩
def Ud{Y:List Nat}{m:I}(f:Fz Y m M):Le (bz Y m) (M.extract 0 m.size):=λc o v e=>by
 obtain⟨d,a⟩:=dN.1 e;have b:=tJ a;rw[aJ ((Pa b f.size).trans (f.same c b d))];exact a
def Yn(f:cL)(d:Nat)(e:O)(m:I)(P:Nat)(v:Value)(a:I):Prop:=∃n g bq c b s,v=Pg s bq c b/\qN (a.extract 0 n) g a bq c b s/\m.size<=n/\n<=a.size/\cA f s/\Sm 100000 s/\Rd d e P a/\Fz [d] m a
section
variable{f:List Nat}{a:I}{b P:Nat}{e d p:O}{c:cL}
def Fo(N:Rd b e P a)(hP:P+100<=10000000000000000)(hd:bR (bz [b] a) d c.aY)(hp:fW (bz [b] a) p c.cB)(R:lO c):aN bY 18 [vp b 0,.agg #[O.v d,O.v p]] a (Yn c b e a (P+6)):=by
 apply yf (b,0);simp -zeta only[aE,aD];have hr:=N.lt;intro l t;obtain⟨x2,r⟩:=dj (a:=l) (b:=t) rfl rfl;have s1:l.size=a.size+1:=by simp[l]
 have B2:cD t a.size tz [.s d,.s p]:=(cD.push a _ _).ext (J.push l _);clear_value t;have r2:Rs b e a P t:=⟨x2.fz _,N.ext x2⟩;intro T;have x3:J t T:=J.push _ _;have A:∀o,D T a.size o=D t a.size o:=λo=>aJ (x3.same _ B2.lt) o;refine⟨A _,A _,A _,A _,?_⟩;refine(xA r2 V [40,40,12,3,0,20] rfl rfl E).mono λ_ j⟨dQ,h,aF,r4,w⟩=>?_;have z3:=x3.size;have z2:=x2.size;have w:Fz [b] T j:=w;have z4:=w.size;have aZ:=r l.size E;have hm:0<=dQ/\dQ<=40:=by simp at aF;omega
 have B:∀o,D j a.size o=D T a.size o:=λo=>aJ (w.same _ V bF) o;refine⟨w.de λf g=>by have:=r f g;simp at g⊢;omega,dQ,h,B _,B _,B _,B _,?_⟩;have aH:∀{M:I},Fz [b] a M->eX M d p c:=λK=>have aq:=(K.cK (S:=[b]) E).trans (bo _ _);⟨hd.le aq,fW.le aq hp⟩;refine(Cm (aH r4.f) R dQ).mono ?_;rintro _ u ⟨bq,aG,fr,rfl,x,b1,b2,b3,b4,a0,q1,q2,q3,q4,q5,au,q6,k4⟩;have z5:=x.size;have G5:∀o,D u a.size o=D j a.size o:=λo=>aJ (x.same _ V) o;refine⟨x.de λf g=>by have:=r f g;omega,_,_,_,_,_,_,_,rfl,G5 _,G5 _,?_⟩;intro n;have x6:J u n:=J.push _ _;have kb:cD n u.size bC (SB d p (kA c dQ) bq aG fr):=cD.push u _ _;have L6:=Q4 (t:=j) (Mk:=[.s d,.s p]) ⟨q1,q2,q3,q4,q5⟩ au q6 k4 x6 (ad _) kb;have s6:n.size=u.size+1:=by simp[n]
 clear_value n;have r6:=(r4.ext x).ext x6;have L:∀{M:I},n.size<=M.size->Lw b [u.size,l.size,a.size] M:=λaY=>lw hr bF;refine(bM r6.r V 60).mono λ_ m7⟨C,h,aQ,aR,d7,Y⟩=>⟨(L (ad _)).de Y,C,h,?_⟩;have z7:=Y.size;refine(bM d7 V 200).mono λ_ m8⟨F,h,aS,aT,d8,Z⟩=>⟨(L z7).de Z,F,h,?_⟩;have z8:=Z.size;refine(bM d8 V 20).mono λ_ m9⟨G,h,aU,aV,d9,f9⟩=>⟨(L V).de f9,G,h,?_⟩;have z9:=f9.size;refine(bM d9 V 100).mono λ_ ab⟨H,h,aW,aX,aw,U⟩=>⟨(L V).de U,H,h,?_⟩;have vP:=U.size;have ai:=((Y.trans Z).trans f9).trans U;have aK:=r6.to ai aw;have af:=J.push ab (.cells (br [.i C,.i F,.i G,.i 100000,.i 0,.i H]) aB);have a3:=af.size;refine(xA aK V [C,F,G,100000,0,H] rfl rfl E).mono λ_ y⟨ac,h,aj,am,v⟩=>?_;have v:Fz [b] (ab.push (.cells (br [.i C,.i F,.i G,.i 100000,.i 0,.i H]) aB)) y:=v;refine⟨(L (bI (by omega:n.size<=ab.size) af.size)).de v,ac,h,?_⟩;have a4:=v.size;obtain⟨q,rfl⟩:∃q:Nat,ac=q:=⟨ac.toNat,by simp at aj;omega⟩;have hn:q<=100000:=by simp at aj;omega
 have X:=(ai.trans (af.fz _)).trans v;have ay:=((x.trans x6).fz [b]).trans X;have ah:=L6.old (s:=kA c dQ) (M':=y) V X.size λf h1 h2=>X.same f h2 bF;have e0:(y.extract 0 j.size).size=j.size:=kL V;have w4:Le (bz [b] a) (y.extract 0 j.size):=(r4.f.cK E).trans (Ud ay);refine(Nj (s:=kA c dQ) ah ⟨hd.le w4,fW.le w4 hp⟩ (Jv R hm) (Nl c dQ) q hn V).mono ?_;rintro _ z ⟨⟨nn,rfl⟩,a2,aI,aC,ax,i,ap⟩;have ak:=Jx q (Jv R hm);have Q:=Jy q (Jv R hm) (Nl c dQ) V;have al:=ak.iN Q V;generalize aA c q (kA c dQ)=st at*;have aO:=i.cF;have a5:=ap.size;have ao:∀f,f<j.size->z[f]? =y[f]? :=λf g=>(aO.same f V).trans (Pa g V);have aL:Rs b e a (P+6) z:=by
  have K:Fz [b] a z:=⟨V,λf g hn=>(ao f V).trans (am.f.same f g hn)⟩;exact⟨K,(N.JT am.r K (ao b V)).mono V⟩
 refine⟨ap.gD λf g=>⟨by have:=r f g;omega,ah.jW f (by have:=r f g;omega)⟩,nn,rfl,_,i.box.cy 2,_,i.box.cy 3,_,i.box.cy 4,_,i.box.cy 5,aI,i.box.cy 6,aC,i.box.cy 7,ax,i.box.cy 8,(DE (Bs.Dt z) (λ_=>dZ _) (i.IU al) al).mono ?_⟩;rintro _ a1 ⟨aM,ae,aa,W,rfl,av,ar⟩;have ag:=ar.Ej;have aP:=ag.size;refine⟨ag.de λf g=>by have:=r f g;omega,_,_,_,_,ae,aa,W,rfl,?_⟩;have an:=(aL.ext ag).put N (k:=l.size) V 0 [.i st.cR,.i st.value,.i st.bG,.i st.dQ,.s ae,.s aa,.s W];exact⟨z.size,aM,ae,aa,W,st,rfl,av.old (wR (az _ _ _ _).symm) λf g _=>bn _ _ _ _ V,V,by rw[az];exact aP,ak,⟨by have:=Q.heap;omega,by have:=Q.bq;omega,Q.xl⟩,an.r,an.f⟩
end
end
section
variable{q:O}
def cA.WK{r:cL}{s:St}(h:cA r s)(d:Sm 100000 s):Bd s:=by
 have n:=h.iN d V;have j:=h.bG;have x:=h.dQ;have v:=d.heap;have C:=Lp h;have u:=n.ln;refine⟨⟨V,V⟩,λg j w a=>?_,λf b=>?_,V,V,λf b=>by have:=n.ak f b;omega⟩
 ·have c:=h.heap.cell g j;rcases wP g.aQ 1 with e|e
  ·have:=(c.uH e).2.1 w a;exact⟨V,V⟩
  ·rcases(c.ov V).1 w a with e|⟨e,m,i,_⟩
   ·exact⟨by have:=e.1;omega,by have:=e.2;omega⟩
   ·have:=ax i;have:=gC e;exact⟨V,V⟩
 ·obtain⟨c,p⟩:=List.mem_iff_getElem?.1 b;have F:=C.ak c f p;refine⟨λw a=>⟨?_,d.xl f b w a⟩,λt q=>?_,λw a=>?_⟩
  ·rcases(h.ak f b).Oj w a with e|e
   ·have:=e.1;omega
   ·omega
  ·obtain⟨o,m⟩:=List.mem_iff_getElem?.1 q;have:=F.lr;have:=F.lo;have:=ax m;obtain⟨w,a⟩:=ag (l:=f.av) (k:=o) V;have:=(F.av.dh o w t a m).2.1;exact⟨V,V⟩
  ·rcases C.be.dg f b w a with e|⟨e,i⟩
   ·exact⟨V,V⟩
   ·have:=gC e;exact⟨V,V⟩
structure Mv(n:Nat)(ro:Nat->Nat)(M:I)(ro':Nat->Nat)(M':I):Prop where
 size:M.size<=M'.size
 fw:∀b,b<M.size->n<=b->M'[b]? =M[b]?
 iS:∀b,b<M.size->ro' b=ro b
 new:∀b,M'.size<=b->ro' b=0
 jW:∀b,b<n->ro b=0
section
variable{n:Nat}{a d:Nat->Nat}{M b:I}
def gY.mv{e f k:Nat}{s:O}{l:List Ce}(h:gY a M e f k s l)(v:Mv n a M d b)(g:k≠0):gY d b e f k s l:=
 h.fw (λc=>v.fw _ (h.F c).1 (Es λe=>g (by rw[<-(h.F c).2];exact v.jW _ e))) λc=>v.iS _ (h.F c).1
def eB.mv{j:O}{i:List bL}(u:eB n a M j i)(v:Mv n a M d b):eB n d b j i:=by
 obtain⟨p,k,l,m⟩:=u;refine⟨p,k.mv v bd,l.mono λx w⟨r,q,f,g⟩=>⟨r,q,mC f λc=>v.fw _ (nv f c) (g c).2.1,λc=>?_⟩,m⟩;obtain⟨s,h,o,tail,t,e⟩:=g c;exact⟨(v.iS _ e.lt).trans s,h,o,tail,t,e.congr (v.fw _ e.lt h)⟩
def Rk.mv{i:Nat}{c:List Ce}{f:a9}(v:Mv n a M d b):Rk a M i c f->Rk d b i c f:=λ⟨r,o,k,j,e,g,h⟩=>⟨r,o,k,j,e.mv v V,g.mv v V,h.mv v V⟩
def qO.mv{e:O}{g:List a9}{f:a9}{r o h:O}{c:List (List Ce)}(T:qO a M e g f r o h c)(v:Mv n a M d b):qO d b e g f r o h c:=
 ⟨T.qQ.mv v bd,T.len,T.size,λm i j k l=>(T.dh m i j k l).mv v,T.av.mv v V,T.aV.mv v V,T.be.mv v V⟩
def nu.mv{c:O}{e:List a9}(l:nu a M c e)(v:Mv n a M d b):nu d b c e:=by
 obtain⟨g,h⟩:=l;exact⟨g,h.qQ.mv v bd,h.len,h.size,λm f i j k=>(h.dh m f i j k).mv v⟩
def qO.put{d:O}{b:List a9}{f g:a9}{s o p n m j:O}{h:List (List Ce)}(T:qO a M d b f s o p h)(w:∀e,M.size<=e->a e=0){i:Nat}(x:i<6){c:Ce}
 (v:iD [.i f.eU,.i f.pc,.i f.dst,.s s,.s o,.s p] i [c]=[.i g.eU,.i g.pc,.i g.dst,.s n,.s m,.s j])(t:gY a M aB 1 (10+3*b.length) n (g.av.map Ce.i))(q:gY a M aB 1 (11+3*b.length) m (g.aV.map Ce.i))(r:gY a M aB 1 (12+3*b.length) j (g.be.map Ce.i)):
 fu M d.F (d.off+b.length*6+i) 1/\qO a (aj M d.F (d.off+b.length*6+i) [c]) d b g n m j h/\dA (λk=>4<=k/\k≠9) a M a (aj M d.F (d.off+b.length*6+i) [c]):=by
 have u:=T.F
 have e:dA (λk=>k=4) a M a (aj M d.F (d.off+b.length*6+i) [c]):=dA.aj w u.1 _ _
 have l:h.flatten.length=b.length*6:=by rw[cX T.size,T.len]
 refine⟨by rw[dE];exact T.qQ.wr (by simp only[bg,l,ba,eG];omega),⟨?_,T.len,T.size,T.vD e λk q r=>V,t.fe e V,q.fe e V,r.fe e V⟩,e.mono λk y=>V⟩
 have:=T.qQ.set (o:=b.length*6+i) (new:=[c]) (by simp[l];omega)
 rw[lH _ _ _ _ V,l,Er,v]at this
 rw[dE];exact this
end
structure SO(n:Nat)(ro:Nat->Nat)(M:I)(bq hp fr:O)(s:St):Prop where
 le:n<=M.size
 jW:∀b,b<n->ro b=0
 new:∀b,M.size<=b->ro b=0
 bq:gY ro M aB 1 2 bq (s.bq.map Ce.i)
 heap:eB n ro M hp s.heap
 ak:nu ro M fr s.ak
structure FS(s:St):Prop where
 xl:Bd s
 iN:EC s
section
variable{n:Nat}{a e:Nat->Nat}{M b:I}{bq d c:O}{s:St}
def SO.of(N:qN (M.extract 0 n) a M bq d c s)(h:n<=M.size):SO n a M bq d c s:=⟨h,λb e=>N.bs.jW b (by rw[kL h];exact e),N.bs.new,N.bq,by have:=N.heap;rwa[kL h]at this,N.ak⟩
def SO.mv(w:SO n a M bq d c s)(v:Mv n a M e b):SO n e b bq d c s:=⟨bI w.le v.size,λf g=>(v.iS f (aK g w.le)).trans (w.jW f g),v.new,w.bq.mv v bd,w.heap.mv v,w.ak.mv v⟩
def SO.Xd(w:SO n a M bq d c s){h:Nat}(f:Fz [h] M b)(j:h<n):Mv n a M a b:=⟨f.size,λe g i=>f.same e g bF,λ_ _=>rfl,λe g=>w.new e (bI f.size g),w.jW⟩
def SO.fe{p:Nat->Prop}(w:SO n a M bq d c s)(C:dA p a M e b):n<=b.size/\(∀f,f<n->e f=0)/\∀f,b.size<=f->e f=0:=⟨bI w.le C.size,λf g=>(C.iS f (aK g w.le)).trans (w.jW f g),C.new⟩
def SO.box(w:SO n a M bq d c s){b:Nat}(g:a b=1)(o:Nat)(l:List Ce):SO n a (aj M b o l) bq d c s:=by
 have C:dA (λk=>k=1) a M a (aj M b o l):=dA.aj w.new g _ _;obtain⟨e,b,f⟩:=w.fe C;exact⟨e,b,f,w.bq.fe C bd,w.heap.fe C bd bd,w.ak.fe C λk h=>V⟩
def SO.I9(w:SO n a M bq d c s)(C:dA (λk=>k=2) a M e b){l:List Int}(A:gY e b aB 1 2 q (l.map Ce.i)):SO n e b q d c {s with bq:=l}:=
 let⟨f,g,h⟩:=w.fe C
 ⟨f,g,h,A,w.heap.fe C bd bd,w.ak.fe C λk i=>V⟩
def SO.jf(w:SO n a M bq d c s)(C:dA (λk=>k=3) a M e b){h:List bL}(A:eB n e b q h):SO n e b bq q c {s with heap:=h}:=
 let⟨f,g,i⟩:=w.fe C
 ⟨f,g,i,w.bq.fe C bd,A,w.ak.fe C λk j=>V⟩
def SO.kW(w:SO n a M bq d c s)(C:dA (λk=>4<=k/\k≠9) a M e b){l:List a9}(A:nu e b q l):SO n e b bq d q {s with ak:=l}:=
 let⟨f,g,h⟩:=w.fe C
 ⟨f,g,h,w.bq.fe C bd,w.heap.fe C bd bd,A⟩
def SO.IU(w:SO n a M bq d c s)(h:EC s):fA M bq d c s:=⟨w.bq.pw (by have:=h.bq;omega),w.heap.cells (by have:=h.heap;omega),w.ak.IU (by have:=h.ln;omega) h.ak⟩
end
end
section
variable{K:Int->I->Prop}{p:Nat->Prop}
def SP(n h:Nat)(f:O)(g:I)(P:Nat)(v:Value)(a:I):Prop:=∃bq e d s,v=Pg s bq e d/\(∀c,a.size<=c.size->(∀b,b<a.size->n<=b->c[b]? =a[b]?)->fA c bq e d s)/\Bd s/\Rs h f g P a
structure SQ(n rb:Nat)(bs:O)(ma:I)(k1 k2 Q:Nat)(ro:Nat->Nat)(M:I)(bq hp fr:O)(s:St):Prop where
 w:SO n ro M bq hp fr s
 r:Rs rb bs ma Q M
 k1:ro k1=1/\k1<M.size/\n<=k1
 k2:ro k2=1/\k2<M.size/\n<=k2
 fs:FS s
section
variable{n b m q Q w P t:Nat}{j bq h f:O}{e M d:I}{r u:Nat->Nat}{s v:St}{L:List Nat}
def SQ.fz(a:SQ n b j e m q Q r M bq h f s)(g:b<n)(c:Fz [b] M d)(i:Rs b j e w d):SQ n b j e m q w r d bq h f s:=
 ⟨a.w.mv (a.w.Xd c g),i,⟨a.k1.1,aK a.k1.2.1 c.size,a.k1.2.2⟩,⟨a.k2.1,aK a.k2.2.1 c.size,a.k2.2.2⟩,a.fs⟩
def SQ.ext(a:SQ n b j e m q Q r M bq h f s)(c:b<n)(x:J M d):SQ n b j e m q Q r d bq h f s:=a.fz c (x.fz _) (a.r.ext x)
def SQ.ft(c:SQ n b j e m q Q r M bq h f s)(o:b<n)(k:∀a∈L,a=m\/a=q)(i:Fz [b] M d):dV L M d:=i.de λa l=>by
 have:=c.k1;have:=c.k2;rcases k a l with g|g<;>simp only[ka]<;>omega
def SQ.gk(a:SQ n b j e m q Q r M bq h f s)(g:b<n)(c:Fz [b] M d)(o:Nat):D d q o=D M q o:=aJ (c.same _ a.k2.2.1 (by have:=a.k2;simp only[ka];omega)) o
def SQ.done(a:SQ n b j e m q Q r M bq h f s)(v:Rd b j t e)(C:e.size<=n)(x:Q<=P){o c g p:Int}(A:Ev g)(l:List Ce):SP n b j e P (.agg #[vi o,vi c,vi g,vi p,O.v bq,O.v h,O.v f]) (aj M m 0 l):=by
 have w:=a.w.box a.k1.1 0 l;have u:=a.r.put v (k:=m) (by have:=a.k1;omega) 0 l;exact⟨bq,h,f,⟨o,c,g,p,s.bq,s.heap,s.ak⟩,rfl,λd z B=>have i:=(w.mv ⟨z,B,λ_ _=>rfl,λc y=>w.new c (bI z y),w.jW⟩).IU a.fs.iN;⟨i.bq,i.heap,i.ak⟩,⟨A,a.fs.xl.heap,a.fs.xl.ak,a.fs.xl.lh,a.fs.xl.lf,a.fs.xl.lr⟩,u.f,u.r.mono x⟩
def SQ.box(a:SQ n b j e m q Q r M bq h f s)(c:Rd b j t e)(d:e.size<=n)(o:Nat)(l:List Ce):SQ n b j e m q Q r (aj M q o l) bq h f s:=
 ⟨a.w.box a.k2.1 o l,a.r.put c (by have:=a.k2;omega) o l,by rw[az];exact a.k1,by rw[az];exact a.k2,a.fs⟩
def SQ.kv(l:SQ n b j e m q Q r M bq h f s)(g:b<n)(u:Q<=10000000000000000)(p:∀a∈L,a=m\/a=q)(a:List Int){c:List Ce}{i:Nat}(w:c=a.map Ce.i)(v:i=a.length)(z:0<a.length/\a.length<=100)
 (y:∀t d,t∈a->SQ n b j e m q (Q+1) r d bq h f s->Fz [b] (M.push (.cells (br c) aB)) d->K t d):aN bY 40 [vp b 0,O.v (.mk M.size 0 i i)] (M.push (.cells (br c) aB)) λC d=>dV L (M.push (.cells (br c) aB)) d/\∃t:Int,C=vi t/\K t d:=
 have x:=J.push M (.cells (br c) aB)
 (xA l.r u a w v z).mono λ_ d⟨t,o,A,B,k⟩=>⟨(l.ext g x).ft g p k,t,o,y t d A ((l.ext g x).fz g k B) k⟩
def SQ.pick(c:SQ n b j e m q Q r M bq h f s)(i:b<n)(o:Q<=10000000000000000)(l:∀a∈L,a=m\/a=q)(g:Int)
 (p:∀t d,0<=t->(t<g\/t=0)->SQ n b j e m q (Q+1) r d bq h f s->Fz [b] M d->K t d):aN bY 34 [vp b 0,vi g] M λx d=>dV L M d/\∃t:Int,x=vi t/\K t d:=
 (bM c.r.r o g).mono λ_ d⟨t,k,v,w,u,a⟩=>⟨c.ft i l a,t,k,p t d v w (c.fz i a (c.r.to a u)) a⟩
def SQ.fe(a:SQ n b j e m q Q r M bq h f s)(l:Rd b j t e)(E:e.size<=n)(C:dA p r M u d)(h:∀k,p k->2<=k){x o k:O}(B:SO n u d x o k v)(z:FS v):SQ n b j e m q Q u d x o k v:=
 have D:=l.lt
 have w:∀c,c<n->d[c]? =M[c]? :=λc g=>C.fw c (aK g a.w.le) λy=>by have:=h _ y;have:=a.w.jW c g;omega
 have i:Fz [b] e d:=⟨bI a.r.f.size C.size,λc g A=>(w c V).trans (a.r.f.same c g A)⟩
 ⟨B,⟨i,l.JT a.r.r i (w b V)⟩,⟨(C.iS _ a.k1.2.1).trans a.k1.1,aK a.k1.2.1 C.size,a.k1.2.2⟩,⟨(C.iS _ a.k2.2.1).trans a.k2.1,aK a.k2.2.1 C.size,a.k2.2.2⟩,z⟩
def SQ.de(g:SQ n b j e m q Q r M bq h f s)(i:∀a∈L,a=m\/a=q)(C:dA p r M u d)(h:∀k,p k->2<=k):dV L M d:=λa k=>by
 have l:=g.k1;have o:=g.k2;rcases i a k with c|c<;>subst c<;>exact C.fw _ V λc=>by have:=h _ c;omega
def SQ.ib(t:SQ n b j e m q Q r M bq h f s)(u:cO ((f.len:Int) -1)>=0):∃a g l o k d,s.ak=a++[g]/\qO r M f a g l o k d/\cO ((f.len:Int) -1)=(a.length:Int)/\f.len=a.length+1:=by
 have F:=t.w.ak;have p:=t.fs.iN.ln;rcases List.eq_nil_or_concat s.ak with c|⟨a,g,c⟩
 ·rw[c]at F;obtain⟨d,i⟩:=F;have:=i.qQ.len;rw[cX i.size,i.len]at this;simp only[eG]at this;rw[aP V V]at u;omega
 ·rw[List.concat_eq_append]at c;rw[c]at F p;obtain⟨l,o,k,d,T⟩:=F.ib;have:=T.C0;simp at p;exact⟨a,g,l,o,k,d,c,T,by rw[aP V V];omega,this⟩
def FS.ib(i:FS s){d:List a9}{j g:a9}(h:s.ak=d++[j])(k:Pq g)(l:g.av.length<=1000000/\g.aV.length<=1000000/\g.be.length<=1000000):FS {s with ak:=d++[g]}:=by
 have b:=i.xl;have c:=i.iN;have e:∀x∈d,x∈s.ak:=λx a=>by rw[h];simp[a]
 have f:=c.ln;rw[h]at f;simp at f;refine⟨⟨b.bG,b.heap,λx a=>?_,b.lh,bF,λx a=>?_⟩,⟨c.bq,c.fl,c.heap,bF,λx a=>?_⟩⟩<;>rcases List.mem_append.1 a with a|a
 ·exact b.ak x (e x a)
 ·simp at a;rw[a];exact k
 ·exact b.lr x (e x a)
 ·simp at a;rw[a];omega
 ·exact c.ak x (e x a)
 ·simp at a;rw[a];exact l
def SQ.rV(c:SQ n b j e m q Q r M bq h f s)(o:Rd b j t e)(p:e.size<=n){l:List a9}{z g:a9}(y:s.ak=l++[z]){J H I:O}{w:List (List Ce)}(T:qO r d f l g J H I w)(C:dA (λk=>4<=k/\k≠9) r M r d)(E:Pq g)(G:g.av.length<=1000000/\g.aV.length<=1000000/\g.be.length<=1000000)
 (A:∀a∈L,a=m\/a=q)(B:Q<=P){v a i x:Int}(D:Ev i)(u:List Ce):dV L M d/\SP n b j e P (.agg #[vi v,vi a,vi i,vi x,O.v bq,O.v h,O.v f]) (aj d m 0 u):=
 ⟨c.de A C λk F=>V,(c.fe o p C (λk F=>V) (c.w.kW C T.rV) (c.fs.ib y E G)).done o p B D u⟩
def DZ{im:cL}(Q:Rd b j t e)(W:e.size<=n)(ac:SO n r M bq h f s)(ah:Rs b j e P M)(hP:P+100<=10000000000000000)(ok:cA im s)(hS:Sm 100000 s):aN bY 17 [vp b 0,Pg s bq h f] M (SP n b j e (P+6)):=by
 apply wE (b,0);simp(config:={maxSteps:=1000000}) -zeta only[aE,aD];have m:b<n:=by have:=Q.lt;omega
 have le:=ac.le;intro Y m2;have s1:Y.size=M.size+1:=by simp[Y]
 have s2:m2.size=M.size+2:=by simp[m2,s1]
 have x2:J M m2:=(J.push M _).trans (J.push Y _);clear_value m2;clear_value Y;have q2:SQ n b j e Y.size M.size P (uz (uz r M.size 1) Y.size 1) m2 bq h f s:=⟨ac.mv ⟨x2.size,λaa hb _=>x2.same aa hb,λaa hb=>by rw[eZ V,eZ V],λaa hb=>by rw[eZ V,eZ V];exact ac.new aa V,ac.jW⟩,ah.ext x2,⟨iE _ _ _,V,V⟩,⟨by rw[eZ V];exact iE _ _ _,V,V⟩,⟨ok.WK hS,ok.iN hS V⟩⟩;generalize uz (uz r M.size 1) Y.size 1=ro2 at q2;have H:∀aa∈[Y.size,M.size],aa=Y.size\/aa=M.size:=E;have hc:=q2.fs.xl.bG;have aC:=ok.dQ;refine q2.pick m V H 30 λaF z _ _ p f3=>?_;have al:SP n b j e (P+6) (.agg #[vi s.cR,vi s.value,vi s.bG,vi s.dQ,O.v bq,O.v h,O.v f]) (aj z Y.size 0 [.i s.cR,.i s.value,.i s.bG,.i s.dQ,.s bq,.s h,.s f]):=p.done Q W V hc _;have JX:∀q∈s.ak,(1<=q.av.length/\q.av.length<=2000)/\q.aV.length<=2000/\1<=q.be.length:=λq hf=>by
  have hG:=ok.ak q hf;obtain⟨pg,_,ax,aw,_⟩:=hG.IB ok.fP;have X:=hG.lr;have aa:=hG.lo;have ab:=hG.lh;rw[ax]at X aa ab;have:=aw.av;omega
 have HB:∀(X:O)(C N:Nat)(ls:List Int){G:List Ce}{ab:Nat},ro2 C=4->C<z.size->G=ls.map Ce.i->ab=ls.length->0<ls.length/\ls.length<=100->∀{an:Int->Int->I->Prop},(∀K y d,0<=K->(K<(X.len:Int)\/K=0)->y∈ls->SQ n b j e Y.size M.size (P+3) ro2 d bq h f s->Mv n ro2 z ro2 d->an K y d)->
  (aN bY 34 [vp b 0,vi (X.len:Int)] z λR v=>dV [Y.size,M.size] z v/\∃K:Int,R=vi K/\D v C N=D z C N/\D v M.size 6=D z M.size 6/\(D (v.push (.cells (br G) aB)) C N=D v C N/\D (v.push (.cells (br G) aB)) M.size 6=D v M.size 6/\D (v.push (.cells (br G) aB)) C N=D v C N/\D (v.push (.cells (br G) aB)) M.size 6=D v M.size 6/\
   aN bY 40 [vp b 0,O.v (.mk v.size 0 ab ab)] (v.push (.cells (br G) aB)) λR L=>dV [Y.size,M.size] (v.push (.cells (br G) aB)) L/\∃y:Int,R=vi y/\D L C N=D (v.push (.cells (br G) aB)) C N/\D L M.size 6=D (v.push (.cells (br G) aB)) M.size 6/\an K y L))/\
  (D (z.push (.cells (br G) aB)) C N=D z C N/\D (z.push (.cells (br G) aB)) M.size 6=D z M.size 6/\D (z.push (.cells (br G) aB)) C N=D z C N/\D (z.push (.cells (br G) aB)) M.size 6=D z M.size 6/\
   aN bY 34 [vp b 0,vi (X.len:Int)] (z.push (.cells (br G) aB)) λR v=>dV [Y.size,M.size] (z.push (.cells (br G) aB)) v/\∃K:Int,R=vi K/\D v C N=D (z.push (.cells (br G) aB)) C N/\D v M.size 6=D (z.push (.cells (br G) aB)) M.size 6/\
    aN bY 40 [vp b 0,O.v (.mk z.size 0 ab ab)] v λR L=>dV [Y.size,M.size] v L/\∃y:Int,R=vi y/\D L C N=D v C N/\D L M.size 6=D v M.size 6/\an K y L):=λX C N ls G ab h4 az h1 h2 h3{an} hX=>by
  have nb:C∉[b]:=λx=>by simp at x;have:=q2.w.jW b m;rw[x]at h4;omega
  have ge:∀{M1 M2:I},z.size<=M1.size->Fz [b] M1 M2->D M2 C N=D M1 C N:=λay q=>aJ (q.same C V nb) N
  refine⟨?_,?_⟩
  ·refine p.pick m V H (X.len:Int) λK v k0 ae B f4=>?_
   have U:=J.push v (.cells (br G) aB)
   have z4:=f4.size
   refine⟨ge (ad _) f4,p.gk m f4 _,ge z4 (U.fz _),B.gk m (U.fz _) _,ge z4 (U.fz _),B.gk m (U.fz _) _,B.kv m V H ls h1 h2 h3 λy L A w T=>⟨ge (bI z4 U.size) T,(B.ext m U).gk m T _,hX K y L k0 ae A w (p.w.Xd ((f4.trans (U.fz _)).trans T) m)⟩⟩
  ·have Z:=J.push z (.cells (br G) aB)
   have B:=p.ext m Z
   have z4:=Z.size
   have S:au (bz [b] (z.push (.cells (br G) aB))) (.mk z.size 0 ab ab) ls:=au.lit aB ls (by simp;exact p.r.r.lt) h1 h2 V
   refine⟨ge (ad _) (Z.fz _),p.gk m (Z.fz _) _,ge (ad _) (Z.fz _),p.gk m (Z.fz _) _,B.pick m V H (X.len:Int) λK m5 k0 ae F f5=>⟨ge z4 f5,B.gk m f5 _,?_⟩⟩
   refine(jw F.r.r V (au.le (f5.cK E) S) h3.1).mono λ_ L⟨y,x,A,r6,T⟩=>⟨F.ft m H T,y,x,ge (bI z4 f5.size) T,F.gk m T _,hX K y L k0 ae A (F.fz m T (F.r.to T r6)) (p.w.Xd (((Z.fz _).trans f5).trans T) m)⟩
 refine⟨λ_=>?_,λ_=>⟨λ_=>?_,λ_=>⟨λ_=>?_,λ_=>⟨λ_=>?_,λ_=>⟨λ_=>?_,λ_=>⟨λ_=>⟨λA=>?_,λ_=>al⟩,λ_=>⟨λ_=>⟨λA=>?_,λ_=>al⟩,λ_=>⟨λ_=>⟨λA=>?_,λ_=>al⟩,λ_=>⟨λ_=>⟨λA=>?_,λ_=>al⟩,λ_=>⟨λ_=>⟨λA=>?_,λ_=>al⟩,λ_=>al⟩⟩⟩⟩⟩⟩⟩⟩⟩⟩
 ·exact p.kv m V H [0,1,2,3,4,-1] rfl rfl E λy v _ B _=>(B.box Q W _ _).done Q W V hc _
 ·refine p.kv m V H [0,41,-1,cO (s.dQ+1)] rfl rfl E λy v A B _=>(B.box Q W _ _).done Q W V ?_ _;rw[aP V V]at A;simp at A;exact⟨V,V⟩
 ·exact p.kv m V H [5,1000,0] rfl rfl E λy v _ B _=>(B.box Q W _ _).done Q W V hc _
 ·have Z:=J.push z (.cells (br [.i 5,.i 1000]) aB);refine⟨p.gk m (Z.fz _) _,p.kv m V H [5,1000] rfl rfl E λy m5 _ F f5=>⟨(p.ext m Z).gk m f5 _,?_⟩⟩;intro L;have x6:J m5 L:=J.push _ _;have jA:fU L m5.size 0 [.i y]:=(cD.push m5 [.i y] aB).jA;clear_value L;have w:=F.ext m x6;have ol:=w.w.bq.len;have os:=hS.bq;simp at ol;refine⟨F.gk m (x6.fz _) _,w.w.bq.append (zs:=[.i 0]) w.w.new rfl jA bF λu ai m7 af S=>⟨w.de H S λK hk=>V,?_⟩⟩;have q7:=w.fe Q W S (λK hk=>V) (w.w.I9 (l:=s.bq++[y]) S (by rw[eQ];exact af)) ⟨⟨w.fs.xl.bG,w.fs.xl.heap,w.fs.xl.ak,w.fs.xl.lh,w.fs.xl.lf,w.fs.xl.lr⟩,⟨bF,w.fs.iN.fl,w.fs.iN.heap,w.fs.iN.ln,w.fs.iN.ak⟩⟩;exact(q7.box Q W _ _).done Q W V hc _
 ·have aA:=p.w.heap.len;refine⟨λh1=>?_,λ_=>al⟩;simp only[mz,ao]at h1;refine p.pick m V H (h.len:Int) λX v a0 a1 B f4=>?_;obtain⟨ab,ap⟩:=ag (l:=s.heap) (k:=X.toNat) V;obtain⟨_,g0,-⟩:=B.w.heap.cy ap;have hb:=B.w.heap.F (a:=X.toNat) V;have nb:h.F≠b:=λx=>by have:=B.w.jW b m;rw[x]at hb;omega
  have U:=J.push v (.cells (br [.i 1,.i (-1)]) aB);have e5:=λaf=>aJ (U.same _ hb.2) af;refine⟨a0,V,_,g0,e5 _,B.gk m (U.fz _) _,B.gk m (U.fz _) _,B.kv m V H [1,-1] rfl rfl E λy L _ w T=>?_⟩;have e6:=λaf=>aJ (T.same h.F (aK hb.2 U.size) (by simpa using nb)) af;have F:=B.ext m U;refine⟨e6 _,F.gk m T _,F.gk m T _,a0,V,w.w.heap.wr (o:=0) V V,?_⟩;obtain⟨av,S⟩:=w.w.heap.Du w.w.new ap (cO (ab.aQ+y));have ak:=w.fs.xl;have am:=w.fs.iN;refine⟨w.de H S λK hk=>V,SQ.done (w.fe Q W S (λK hk=>V) (w.w.jf S av) ⟨⟨ak.bG,λaq hx=>?_,ak.ak,by simpa using ak.lh,ak.lf,ak.lr⟩,⟨am.bq,λaq hx=>?_,by simpa using am.heap,am.ln,am.ak⟩⟩) Q W V hc _⟩
  ·rcases cx hx with x|x
   ·exact ak.heap aq x
   ·rw[x];exact ak.heap ab (ar ap)
  ·rcases cx hx with x|x
   ·exact am.fl aq x
   ·rw[x];exact am.fl ab (ar ap)
 ·simp only[wS,ao]at A;have Z:=J.push z (.cells (br [.i 0,.i 1,.i 99,.i (-1)]) aB);refine⟨p.gk m (Z.fz _) _,p.kv m V H [0,1,99,-1] rfl rfl E λy m5 _ F f5=>⟨(p.ext m Z).gk m f5 _,?_⟩⟩;obtain⟨fs,q,ah,af,ai,ak,x,T,ew,el⟩:=F.ib A;have U:q∈s.ak:=by rw[x];simp
  have ff:=F.fs.xl.ak q U;have fl:=F.fs.iN.ak q U;rw[ew];obtain⟨wr,T',S⟩:=T.put (i:=1) (g:={q with pc:=y}) (c:=.i y) F.w.new bd rfl T.av T.aV T.be;exact⟨V,V,wr,F.rV Q W x T' S ff fl H V hc _⟩
 ·simp only[wS,ao]at A;obtain⟨fs,q,ah,af,ai,ak,x,T,ew,el⟩:=p.ib A;have U:q∈s.ak:=by rw[x];simp
  have ff:=p.fs.xl.ak q U;have fl:=p.fs.iN.ak q U;rw[ew];obtain⟨_,_,_,_,g4,_⟩:=T.jA;have hl:=JX q U;refine⟨V,V,af,g4,(oR p.r.r V (T.aV.pw V) V).mono λ_ v⟨X,l',e',ap,aq,hm,r4,f4⟩=>⟨p.ft m H f4,X,e',p.gk m f4 _,V,V,?_⟩⟩;have av:=ap.aZ;have R:Mv n ro2 z (uz ro2 X.F (11+3*fs.length)) v:=⟨f4.size,λaa hb am=>f4.same aa hb bF,λaa hb=>eZ V,λaa hb=>by rw[eZ V];exact p.w.new aa (bI f4.size hb),p.w.jW⟩;have z4:=f4.size;have ae:=p.k1;have am:=p.k2;have B:SQ n b j e Y.size M.size (P+4) (uz ro2 X.F (11+3*fs.length)) v bq h f s:=⟨p.w.mv R,p.r.to f4 r4,⟨(R.iS _ ae.2.1).trans ae.1,V,ae.2.2⟩,⟨(R.iS _ am.2.1).trans am.1,V,am.2.2⟩,p.fs⟩;have T4:=T.mv R;obtain⟨wr,T',S⟩:=T4.put (i:=4) (g:={q with aV:=l'}) (c:=.s X) B.w.new bd rfl T4.av (gY.iC (GI.bq ap) λ_=>iE _ _ _) T4.be;exact⟨wr,B.rV Q W x T' S ⟨ff.1,λac hw=>(hm ac hw).elim (ff.2.1 ac) λx=>⟨V,V⟩,ff.2.2⟩ ⟨fl.1,by show l'.length<=_;omega,fl.2.2⟩ H V hc _⟩
 ·simp only[wS,ao]at A;obtain⟨fs,q,ah,af,ai,ak,x,T,ew,el⟩:=p.ib A;have U:q∈s.ak:=by rw[x];simp
  have ff:=p.fs.xl.ak q U;have fl:=p.fs.iN.ak q U;have hl:=JX q U;rw[ew];obtain⟨_,_,_,B,_⟩:=T.jA;have v:=T.av.len;simp at v;refine⟨V,V,ah,B,V,V,ah,B,HB ah f.F _ [0,5,1000,1003,-1000] T.F.1 T.F.2 rfl rfl E λK y L k0 ae A w R=>?_⟩;obtain⟨T',S⟩:=(T.mv R).E8 w.w.new k0 V y;exact⟨k0,V,(T.mv R).av.P1 k0 V,w.rV Q W x T' S ⟨λac hw=>(cx hw).elim (ff.1 ac) λx=>by simp at A;exact⟨V,V⟩,ff.2⟩ ⟨by show(q.av.set _ _).length<=_;simp;omega,fl.2⟩ H V hc _⟩
 ·simp only[wS,ao]at A;obtain⟨fs,q,ah,af,ai,ak,x,T,ew,el⟩:=p.ib A;have U:q∈s.ak:=by rw[x];simp
  have ff:=p.fs.xl.ak q U;have fl:=p.fs.iN.ak q U;have hl:=JX q U;rw[ew];obtain⟨_,_,_,_,_,B⟩:=T.jA;have v:=T.be.len;simp at v;refine⟨V,V,ai,B,V,V,ai,B,HB ai f.F _ [1000,1,1001] T.F.1 T.F.2 rfl rfl E λK y L k0 ae A w R=>?_⟩;obtain⟨T',S⟩:=(T.mv R).Dv w.w.new k0 V y;exact⟨k0,V,(T.mv R).be.P1 k0 V,w.rV Q W x T' S ⟨ff.1,ff.2.1,λac hw=>(cx hw).elim (ff.2.2 ac) λx=>by simp at A;exact⟨V,V⟩⟩ ⟨fl.1,fl.2.1,by show(q.be.set _ _).length<=_;simp;omega⟩ H V hc _⟩
 ·simp only[wS,ao]at A;have Z:=J.push z (.cells (br [.i 0,.i 1,.i 99,.i (-1)]) aB);refine⟨p.gk m (Z.fz _) _,p.kv m V H [0,1,99,-1] rfl rfl E λy m5 _ F f5=>⟨(p.ext m Z).gk m f5 _,?_⟩⟩;obtain⟨fs,q,ah,af,ai,ak,x,T,ew,el⟩:=F.ib A;have U:q∈s.ak:=by rw[x];simp
  have ff:=F.fs.xl.ak q U;have fl:=F.fs.iN.ak q U;rw[ew];obtain⟨wr,T',S⟩:=T.put (i:=2) (g:={q with dst:=y}) (c:=.i y) F.w.new bd rfl T.av T.aV T.be;exact⟨V,V,wr,F.rV Q W x T' S ff fl H V hc _⟩
end
end
section
def QI(S:List Nat)(m:I):(Vc.bz S m).size=m.size:=by simp[Vc.bz]
def QH{S:List Nat}{m:I}{b:Nat}(h:b∉S):(Vc.bz S m)[b]? =m[b]? :=by
 unfold Vc.bz;rw[UA];cases m[b]? <;>simp[h]
def AR(S:List Nat)(v:Value)(c:I):Prop:=∃d p e bq b a s,v=.tuple #[.agg #[O.v d,O.v p],Pg s bq b a]/\eX (bz S c) d p e/\fA (bz S c) bq b a s/\Bd s
section
variable{b:List Nat}{a:I}{c P:Nat}{d:O}
def Dy(L:∀e∈b,e<a.size)(r:c∈b)(m:Rd c d P a)(hP:P+3000+4*(300+40*Cg 18)<=10000000000000000):aN bY 10 [vp c 0] a λW m'=>AR b W m'/\Fz [c] a m':=by
 apply we (c,0);simp -zeta only[aE,aD];have v:=m.lt;intro f aa;have C:BS [f.size,a.size] c d a P aa:=BS.Xi (BS.kv (S:=b) m _).1 _;have s1:f.size=a.size+1:=by simp[f]
 clear_value aa;refine C.call (S:=b) v (λ_ e=>e) (GY (C.hS L) (by simp[r]) C.s.r V) λt w x j _ t3 b3 f3=>?_;intro m4 m5;obtain⟨F,l5,-⟩:=b3.box (S:=b) (m1:=m4) (m2:=m5) rfl rfl rfl;clear_value m5;have U:=IT.mn _ _ _ _ _ l5 t3;refine(rG (a:=⟨x.1,x.2⟩) ⟨U.1.le (bo _ _),fW.le (bo _ _) U.2⟩).mono λ_ g⟨W,p,hv,A⟩=>⟨(F.lw v λ_ e=>e).de (A.fz _),W,p,λq=>?_,λhy=>?_⟩;all_goals
  have h:=F.to (A.fz _) (F.s.r.ext A)
  have z:=IT.mn _ _ _ _ _ (BS.le (B:=[j.size,f.size,a.size]) r (A.fz [c])) U
  have i:=h.ft
 ·intro l Q R;have u:J g l:=J.push _ _;have N:cD l g.size ez [.i 0,.i 0,.i 0,.s .nil,.s .nil,.s .nil]:=cD.push _ _ _;have Y:=h.to (u.fz _) (h.s.r.ext u);have t7:=IT.mn _ _ _ _ _ (BS.le (B:=[j.size,f.size,a.size]) r (u.fz [c])) z;clear_value l;obtain⟨G,l8⟩:=Y.put (S:=b) m (by simp:a.size∈_) [.s t,.s w];obtain⟨H,O⟩:=G.put (S:=b) m (by simp:f.size∈_) [.i 3,.i 0,.i 0,.i 0,.s .nil,.s .nil,.s (.mk g.size 0 1 1)];have K:=IT.mn _ _ _ _ _ ((l8.trans O).trans (gL _ λ_=>eO _)) t7;have ha:=i a.size E;have k:=i f.size E;have T:cD R g.size ez [.i 0,.i 0,.i 0,.s .nil,.s .nil,.s .nil]:=(N.congr (bn _ _ _ _ V)).congr (bn _ _ _ _ V);have Z:g.size∉b:=λM=>by have:=L _ M;omega
  have o:∀{X:I},au X .nil []:=⟨rfl,dZ _,E,E⟩;refine⟨⟨t,w,⟨x.1,x.2⟩,.nil,.nil,.mk g.size 0 1 1,⟨3,0,0,0,[],[],[⟨0,0,0,[],[],[]⟩]⟩,rfl,⟨K.1,K.2⟩,⟨o,⟨rfl,dZ _,E,E⟩,⟨rfl,ad _,E,λy ab s=>?_⟩⟩,⟨⟨E,E⟩,by simp[Pr],by simp[Pq],E,E,E⟩⟩,H.s.f⟩;cases y with
  |zero=>
   simp at s;subst s;exact⟨_,⟨.nil,.nil,.nil,rfl,o,o,o⟩,HI Z T.jA⟩
  |succ y=>simp at s
 ·have ok:lO ⟨x.1,x.2⟩:=hv.1 (by simpa using hy);have Z:Le (bz ([j.size,f.size,a.size]++b) g) (bz [c] g):=gL _ (by simp[r]);refine(Fo h.s.r V (z.1.le Z) (fW.le Z z.2) ok).mono λ_ l⟨am,ro,bq,hp,fr,aq,p,ae,q,ai,an,ag,r7,u⟩=>?_;have X:∀o,D l j.size o=D g j.size o:=λo=>kg u v (i _ E) o;refine⟨(h.lw v λ_ e=>e).de u,_,_,_,_,bq,hp,fr,p,X _,X _,?_⟩;have ap:c<g.size:=h.s.r.lt;refine(DZ (n:=am) h.s.r q (SO.of ae ai) ⟨u,r7⟩ V an ag).mono λ_ Q⟨T,N,K,s,p,aj,ah,y⟩=>?_;have ab:∀e,e<g.size->e≠c->Q[e]? =l[e]? :=λe k q=>(y.f.same e k (by simpa using q)).trans (u.same e k (by simpa using q)).symm;have Y:∀o,D Q j.size o=D l j.size o:=λo=>aJ (ab _ (i _ E).2 (by have:=i j.size E;omega)) o;refine⟨λe k=>ab e (i e k).2 (by have:=i e k;omega),_,_,_,_,T,N,K,p,Y _,Y _,?_⟩;intro R al;have G:=h.to y.f y.r;have t8:=IT.mn _ _ _ _ _ (BS.le (B:=[j.size,f.size,a.size]) r y.f) z;obtain⟨H,O⟩:=G.put (S:=b) m (by simp:a.size∈_) [.s t,.s w];obtain⟨af,ak⟩:=H.put (S:=b) m (by simp:f.size∈_) [.i s.cR,.i s.value,.i s.bG,.i s.dQ,.s T,.s N,.s K];have ac:=IT.mn _ _ _ _ _ ((O.trans ak).trans (gL _ λ_=>eO _)) t8;have ha:=i a.size E;have k:=i f.size E;refine⟨⟨t,w,⟨x.1,x.2⟩,T,N,K,s,rfl,⟨ac.1,ac.2⟩,aj _ (by rw[QI];simp[al,R,az]) λe _ ao=>?_,ah⟩,af.s.f⟩;rw[QH λM=>by have:=L e M;have:=h.s.f.size;omega];exact(bn _ _ _ _ V).trans (bn _ _ _ _ V)
def oA{cG:O}(h:Ki a cG):aN bY 6 [O.v cG] a λv z=>AR [] v z/\J a z:=by
 apply sa;simp -zeta only[aE,aD];intro g e;obtain⟨i,l⟩:=dj (a:=g) (b:=e) rfl rfl;have X:g.size=a.size+1:=by simp[g]
 clear_value e;refine(Fy (m:=e) ⟨h.1,λk c=>let⟨v,p,b,s⟩:=h.2 k c;⟨v,p,b,i.D s⟩⟩).mono λ_ U⟨d,f,C,u⟩=>⟨u.de l,(e.size,0),f,?_⟩;have T:=C.lt;have Q:=l a.size E;have R:=l g.size E;refine(Dy (b:=[g.size,a.size,e.size]) bF E C (by simp[Cg])).mono λ_ n⟨⟨j,B,L,bq,y,w,P,f,x,t,K⟩,r⟩=>?_;refine⟨r.de λb k=>by have:=l b k;simp only[ka];omega,j,B,_,_,_,_,bq,y,w,f,?_⟩;intro W A;have Y:=r.size;have M:∀{b o:Nat}{v:Value},D (bz [g.size,a.size,e.size] n) b o=some v->D (bz [] A) b o=some v:=λh=>by
  obtain⟨H,I⟩:=dN.1 h;simp at H;refine dN.2 ⟨E,?_⟩;rw[aJ ((bn _ _ _ _ V).trans (bn _ _ _ _ V))];exact I
 have c:Le (bz [g.size,a.size,e.size] n) (bz [] A):=λb o v h=>M h;refine⟨⟨j,B,L,bq,y,w,P,rfl,⟨x.aY.le c,fW.le c x.cB⟩,⟨t.bq.le c,dT.le t.heap c λG F⟨q,f,h⟩=>⟨q,f,h.le c⟩,dT.le t.ak c λG F⟨N,o,h,f,p,b,j⟩=>⟨N,o,h,f,p.le c,b.le c,j.le c⟩⟩,K⟩,?_⟩;have q:Fz [e.size] e n:=(u.fz _).trans r;have s:J a n:=⟨by have:=i.size;have:=u.size;omega,λb k=>(q.same b (i.lt k) (by have:=i.size;simp;omega)).trans (i.same b k)⟩;exact(s.aj V _ _).aj V _ _
end
end
section
def OG(f:Nat->Nat):∀n,∃B,∀i,i<n->f i<=B
 |0=>⟨0,E⟩
 |n+1=>let⟨B,h⟩:=OG f n;⟨B+f n,λi a=>by
  rcases aX i n with e|e
  ·have:=h i e;omega
  ·have:i=n:=V;subst this;omega⟩
def cA.CU{z:cL}{s:St}(e:cA z s)(p:s.cR=0):s.heap=[]:=by
 have j:=e.done.1 p;obtain⟨o,w⟩:=e.heap.JK;obtain⟨B,q⟩:=OG o s.heap.length;apply dG;intro u;have C:0<s.heap.length:=List.length_pos_iff.2 u;have iX:∀f,∃(b:Nat)(c:bL),s.heap[b]? =some c/\0<c.aQ/\f<=o b:=λf=>by
  induction f with
  |zero=>
   obtain⟨c,d⟩:=ag (l:=s.heap) (k:=s.heap.length -1) V;refine⟨_,c,d,?_,dZ _⟩;have i:=e.iy c d;rcases wP c.aQ 0 with g|g
   ·have:=e.ju _ ⟨c,d,g⟩;rw[j]at this;simp[holds]at this
   ·omega
  |succ f y=>
   obtain⟨b,c,d,v,t⟩:=y;have:=e.heap.ex b c d v;rw[j]at this;simp only[eu]at this;obtain⟨g,r,m⟩:=IY (h:=s.heap) (a:=b) V;obtain⟨n,i⟩:=List.mem_iff_getElem?.1 r;have x:=w n g i _ m V;rw[jZ]at x;refine⟨n,g,i,?_,V⟩;apply dG;intro A;have:=((e.heap.cell g (ar i)).uH V).2.1 _ m;omega
 obtain⟨b,c,d,_,t⟩:=iX (B+1);have:=q b (ax d);omega
def cA.fx{a:cL}{s:St}(h:cA a s):cA a {s with dQ:=40}:=⟨h.fP,h.cR,h.done,h.value,h.rR,E,⟨h.bG.1,by have:=h.bG;have:=h.dQ;show s.bG<=40;omega⟩,h.ln,h.bq,h.heap,h.iy,h.ak,h.first,h.chain,h.ju,h.kJ⟩
def fA.le{m f:I}{bq d c:O}{s:St}(b:fA m bq d c s)(a:Le m f):fA f bq d c s:=⟨b.bq.le a,dT.le b.heap a λk j⟨n,e,h⟩=>⟨n,e,h.le a⟩,dT.le b.ak a λk j⟨r,o,h,e,g,i,l⟩=>⟨r,o,h,e,g.le a,i.le a,l.le a⟩⟩
def Xr(m:I)(v:Value)(a:I):Prop:=v=vb true/\J m a
def LI{b c:Bool}{p:Prop}(a:b=true<->p)(d:c=true<->p):b=c:=by cases b<;>cases c<;>simp_all
section
variable{m:I}{d p bq b a:O}{c:cL}{s:St}
def kE(k:eX m d p c)(n:fA m bq b a s)(j:Bd s):dq bY 8 [.agg #[O.v d,O.v p],Pg s bq b a] m (cA c s):=by
 apply vZ;simp -zeta only[aE,aD];intro o q;obtain⟨e,l⟩:=dj (a:=o) (b:=q) rfl rfl;exact(Ct (k.ext e) (n.ext e) j).mono λ_ r⟨f,h,i,g⟩=>⟨g.de l,f,h,f,rfl,i,e.trans g⟩
end
end
section
variable{c b:Nat}{d:List a9}{f:a9}{e:cL}{s:St}{o w:Int}
def fN{α:Type}(g:α->Int):List α->Int
 |[]=>0
 |x::l=>g x+fN g l
def oB(f:Nat->Int):Nat->Int
 |0=>0
 |b+1=>oB f b+f b
section
variable{α:Type}{g:α->Int}
def QO(l r:List α):fN g (l++r)=fN g l+fN g r:=by
 induction l with
 |nil=>simp[fN]
 |cons x l a=>simp only[cN,fN,a];omega
def jD{l:List α}{x:α}(h:l[c]? =some x):fN g (l.take (c+1))=fN g (l.take c)+g x:=by
 rw[bK h,QO];simp[fN]
def nL{B:Int}(l:List α)(h:∀x∈l,0<=g x/\g x<=B):0<=fN g l/\fN g l<=B*l.length:=by
 induction l with
 |nil=>simp[fN]
 |cons x l b=>
  have c:=h x aS;have d:=b λy a=>h y (ah _ a);have e:B*((l.length+1:Nat):Int)=B*l.length+B:=by rw[Int.natCast_add,Int.mul_add];simp
  simp only[fN,ba];omega
end
def qL(f g:Nat->Int)(b:Nat):oB (λa=>f a+g a) b=oB f b+oB g b:=by
 induction b with
 |zero=>rfl
 |succ b a=>simp only[oB,a];omega
def rJ(b:Nat):oB (λ_=>0) b=0:=by
 induction b with
 |zero=>rfl
 |succ b a=>simp[oB,a]
def KU(w o:Int)(b:Nat):oB (λa:Nat=>if w=1000+(a:Int)then o else 0) b=if 1000<=w/\w<1000+b then o else 0:=by
 induction b with
 |zero=>rw[ae V];rfl
 |succ b a=>
  simp only[oB,a];split<;>split<;>split<;>omega
def O2{α:Type}{g:α->Int}{f:Nat->Int}{a:List α}(h:∀c x,a[c]? =some x->f c=g x):fN g a=oB f a.length:=by
 have:∀c,c<=a.length->fN g (a.take c)=oB f c:=λc=>by
  induction c with
  |zero=>intro _;simp[fN,oB]
  |succ c d=>
   intro e;obtain⟨x,b⟩:=ag (l:=a) (k:=c) V;rw[jD b,d V];simp only[oB,h c x b]
 have:=this a.length (ad _);rwa[eT]at this
def pt(w:Int):Int:=if 1000<=w then 1 else 0
def PY(w:Int):Int:=if w=0 then 0 else 1
def MT(l:List Int)(h:∀w∈l,1000<=w->w<1000+b):fN pt l=oB (dJ l) b:=by
 induction l with
 |nil=>exact(rJ b).symm
 |cons w l d=>
  have e:dJ (w::l)=λa:Nat=>(if w=1000+(a:Int)then 1 else 0)+dJ l a:=rfl;have f:=h w aS;rw[e,qL,KU,<-d λv c=>h v (ah _ c)];simp only[fN,pt];split<;>split<;>omega
def RX(l:List Int)(h:∀w∈l,w=0\/1000<=w):fN PY l=fN pt l:=by
 induction l with
 |nil=>rfl
 |cons w l b=>
  have c:=h w aS;simp only[fN,b λv a=>h v (ah _ a),PY,pt];split<;>split<;>omega
def vA(f:a9):Int:=fN PY f.be
def Dj(c:bL):Int:=if c.aQ<0 then 1 else 0
def PE(d:List a9)(h:∀f∈d,∀w∈f.be,w=0\/1000<=w/\w<1000+b):fN vA d=oB (holds d) b:=by
 induction d with
 |nil=>exact(rJ b).symm
 |cons f d k=>
  have g:holds (f::d)=λc=>dJ f.be c+holds d c:=rfl;have e:=h f aS;rw[g,qL,<-k λi j=>h i (ah _ j),<-MT f.be λw a l=>by have:=e w a;omega];simp only[fN,vA];rw[RX f.be λw a=>by have:=e w a;omega]
def PD(b:f∈d){a:Nat}(h:(1000+(a:Int))∈f.be):0<holds d a:=by
 induction d with
 |nil=>simp at b
 |cons g d c=>
  have e:=gB g.be a;have i:0<=holds d a:=by
   clear c b;induction d with
   |nil=>simp[holds]
   |cons g d c=>have:=gB g.be a;simp only[holds];omega
  simp only[holds];rcases List.mem_cons.1 b with rfl|b
  ·have:=qA h;omega
  ·have:=c b;omega
def cA.QF(h:cA e s):fN Dj s.heap=fN vA s.ak:=by
 rw[PE (b:=s.heap.length) s.ak λf j w k=>?_]
 ·refine O2 λd l i=>?_;unfold Dj;split
  ·rename_i b;exact h.ju d ⟨l,i,b⟩
  ·rename_i b;exact h.kJ d λ⟨m,c,g⟩=>by rw[i]at c;cases c;exact b g
 ·rcases(h.ak f j).be w k with d|d
  ·exact Or.inl d
  ·refine Or.inr ⟨d,?_⟩;have b:=PD j (a:=(w -1000).toNat) (by rw[show(1000+((w -1000).toNat:Int))=w by omega];exact k);apply dG;intro g;have:=h.kJ (w -1000).toNat λ⟨m,c,_⟩=>by have:=ax c;omega
   omega
def MV(c:bL):Int:=if 0<c.aQ then c.aQ else 0
def GW(c:bL):Int:=fN pt c.aI
def IM(f:a9):Int:=fN (λo=>o) f.aV
def PG(l:List bL)(h:∀c∈l,∀w∈c.aI,1000<=w->w<1000+b):fN GW l=oB (dw l) b:=by
 induction l with
 |nil=>exact(rJ b).symm
 |cons c l f=>
  have e:dw (c::l)=λa=>dJ c.aI a+dw l a:=rfl;rw[e,qL,<-f λg d=>h g (ah _ d),<-MT c.aI (h c aS)];rfl
def IE{b:Nat}:∀(d a:List Int),d.length=a.length->(∀(c:Nat)(o w:Int),a[c]? =some o->d[c]? =some w->o=0\/1000<=w/\w<1000+b)->fN (λo=>o) a=oB (cz d a) b
 |[],[],_,_=>(rJ b).symm
 |[],_::_,h,_=>by simp at h
 |_::_,[],h,_=>by simp at h
 |r::d,o::a,g,h=>by
  have f:cz (r::d) (o::a)=λe:Nat=>(if r=1000+(e:Int)then o else 0)+cz d a e:=rfl;have k:=h 0 o r rfl rfl;rw[f,qL,KU,<-IE d a (by simpa using g) λc o w i j=>h (c+1) o w i j];simp only[fN];split<;>omega
def PF(d:List a9)(h:∀f∈d,f.av.length=f.aV.length/\∀(c:Nat)(o w:Int),f.aV[c]? =some o->f.av[c]? =some w->o=0\/1000<=w/\w<1000+b):fN IM d=oB (eu d) b:=by
 induction d with
 |nil=>exact(rJ b).symm
 |cons f d k=>
  have g:eu (f::d)=λa=>cz f.av f.aV a+eu d a:=rfl;have e:=h f aS;rw[g,qL,<-k λi j=>h i (ah _ j),<-IE f.av f.aV e.1 e.2];rfl
def QY:∀{b a:List Int},(∀x∈a,0<=x)->a[c]? =some o->b[c]? =some w->1000<=w->o<=cz b a (ix w):=by
 induction c with
 |zero=>
  intro b a f d e g;cases a with
  |nil=>simp at d
  |cons i a=>
   cases b with
   |nil=>simp at e
   |cons r b=>
    simp at d e;subst d e;have:=nO (av:=b) (aV:=a) (λx h=>f x (ah _ h)) (ix r);simp only[cz];rw[aq (by rw[gC g])];omega
 |succ c j=>
  intro b a f d e g;cases a with
  |nil=>simp at d
  |cons i a=>
   cases b with
   |nil=>simp at e
   |cons r b=>
    have:=j (b:=b) (a:=a) (λx h=>f x (ah _ h)) (by simpa using d) (by simpa using e) g;have:=f i aS;simp only[cz];split<;>omega
def R9(h:∀f∈d,fO e f)(b:f∈d)(a:Nat):cz f.av f.aV a<=eu d a:=by
 induction d with
 |nil=>simp at b
 |cons g d i=>
  have j:=nO (av:=g.av) (h g aS).IN a;have k:=Dp (λg c=>h g (ah _ c)) a;simp only[eu];rcases List.mem_cons.1 b with rfl|b
  ·omega
  ·have:=i (λg c=>h g (ah _ c)) b;omega
def cA.Tb(h:cA e s)(i:f∈s.ak)(j:f.aV[c]? =some o)(l:f.av[c]? =some w):0<=o/\o<=999999/\(o=0\/1000<=w/\w<1000+s.heap.length):=by
 have F:=h.ak f i;obtain⟨g,m⟩:=F.aV c o w j l;rcases wP 0 o with k|k
 ·have b:=m k;have p:=QY F.IN j l b;have q:=R9 h.ak i (ix w);obtain⟨d,a,n⟩:=h.heap.lv (ix w) V;have r:=h.heap.ex (ix w) d a n;have t:=(h.heap.cell d (ar a)).hi;have u:=nQ s.heap (ix w);have v:=ax a;have x:=gC b;exact⟨g,V,Or.inr ⟨b,V⟩⟩
 ·exact⟨g,V,Or.inl V⟩
def cA.RO(h:cA e s){c:bL}(b:c∈s.heap)(f:w∈c.aI)(a:1000<=w):w<1000+s.heap.length:=by
 obtain⟨_,g,d,_⟩:=h.heap.field b f a;have:=ax d;have:=gC a;omega
def cA.TW(h:cA e s):fN MV s.heap=fN GW s.heap+fN IM s.ak:=by
 rw[PG (b:=s.heap.length) s.heap λi b w d a=>h.RO b d a,PF (b:=s.heap.length) s.ak λf k=>?_,<-qL]
 ·refine O2 λg i b=>?_;unfold MV;split
  ·rename_i a;exact(h.heap.ex g i b a).symm
  ·rename_i a;have l:¬jB s.heap g:=λ⟨p,j,m⟩=>by rw[b]at j;cases j;exact a m
   rw[h.heap.QS l,h.heap.SZ l];rfl
 ·have F:=h.ak f k;have:=F.lr;have:=F.lo;exact⟨V,λc o w g d=>(h.Tb k g d).2.2⟩
end
section
section
variable{m:I}
def td{cG:O}(v:Ki m cG):aN bY 4 [O.v cG] m (Xr m):=by
 apply qy;simp(config:={maxSteps:=1000000}) -zeta only[aE,aD];refine⟨λ_=>⟨rfl,J.aC _⟩,λ_=>?_⟩;refine(oA v).mono λ_ h⟨⟨G,R,im,bq,hp,fr,s,Y,L,hs,b⟩,S⟩=>⟨G,R,_,_,_,_,bq,hp,fr,Y,?_⟩;have y:eX h G R im:=⟨L.aY.le (bo _ _),fW.le (bo _ _) L.cB⟩;have e:=hs.le (bo _ _);intro o U W p;have z1:o.size=h.size+1:=by simp[o]
 have E:J h p:=(((J.push h _).trans (J.push o _)).aj (ad _) _ _).aj V _ _;have z4:p.size=h.size+2:=by simp[p,W,U,o,az]
 clear_value p;have z:∀u∈[o.size,h.size],u<p.size:=bF;refine(qY (y.ext E) (e.ext E) b).aG (J.aC _) z λu m5 w T _=>⟨u,rfl,?_⟩;have t:=E.trans T;refine(kE (y.ext t) (e.ext t) b).aG T z λc D x x6 u6=>⟨c,rfl,?_⟩;have i:=t.trans x6;obtain rfl:=LI w x;refine⟨λv=>by simp at v,λ_=>⟨λ_=>?_,λhy=>?_⟩⟩
 ·exact(kE (y.ext i) (e.ext i) b).aG u6 z λc d x a f=>⟨c,rfl,by rw[LI w x];simp,(S.trans i).trans a⟩
 have ok:=w.1 (by simpa using hy);have N:=e.ext i;have aj:=e.heap.len;have ai:=e.ak.len;have lh:=b.lh;have lf:=b.lf;have kb:∀a,0<=fN Dj (s.heap.take a)/\fN Dj (s.heap.take a)<=10000000:=λa=>by
  have:=nL (g:=Dj) (B:=1) (s.heap.take a) λc _=>by unfold Dj;split<;>omega
  rw[cZ]at this;omega
 have Z:∀f∈s.ak,0<=vA f/\vA f<=10000000:=λf d=>by
  have:=nL (g:=PY) (B:=1) f.be λc _=>by unfold PY;split<;>omega
  have:=(b.lr f d).2.2;unfold vA;omega
 have aa:∀a,0<=fN vA (s.ak.take a)/\fN vA (s.ak.take a)<=100000000000000:=λa=>by
  have:=nL (g:=vA) (B:=10000000) (s.ak.take a) λf d=>Z f (cw d);rw[cZ]at this;omega
 refine dt (σ:=Int) (n:=s.heap.length) V (λa c M=>c=fN Dj (s.heap.take a)/\J D M) ⟨by simp[fN],J.aC _⟩ ?_;rintro a c M af μ hk ⟨rfl,X⟩ Q
 refine dit (λh1=>?_) λh1=>?_
 ·obtain⟨H,q⟩:=ag (l:=s.heap) (k:=a) V;obtain⟨f,F,r,A,C⟩:=cW.u (cW.ext X N.heap) q;refine⟨V,V,_,by simpa using r,dit (λj=>?_) λj=>?_⟩
  ·refine Q V _ _ ⟨?_,X⟩
   have:=kb a;rw[aP V V,jD q,Dj,aq j]
  ·refine Q V _ _ ⟨?_,X⟩
   rw[jD q,Dj,ae j];omega
 rw[dD V];refine dt (σ:=Int) (n:=s.ak.length) V (λa c M=>c=fN vA (s.ak.take a)/\J D M) ⟨by simp[fN],X⟩ ?_;rintro C c M2 I2 μ2 al ⟨rfl,F⟩ ab;refine dit (λh3=>?_) λh3=>?_
 ·obtain⟨f,d⟩:=ag (l:=s.ak) (k:=C) V;have lr:=(b.lr f (ar d)).2.2;have nb:∀j,0<=fN PY (f.be.take j)/\fN PY (f.be.take j)<=10000000:=λj=>by
   have:=nL (g:=PY) (B:=1) (f.be.take j) λc _=>by unfold PY;split<;>omega
   rw[cZ]at this;omega
  have ah:=aa C;refine dt (σ:=Int) (n:=f.be.length) V (λj c M=>c=fN vA (s.ak.take C)+fN PY (f.be.take j)/\J D M) ⟨by simp[fN],F⟩ ?_;rintro j c M3 I3 μ3 hj ⟨rfl,r⟩ P;obtain⟨an,am,K,hr,ho,I,_,_,_,_,_,H⟩:=jy.u (jy.ext r N.ak) d;have ak:=I.len;refine⟨V,V,K,by simpa using H,dit (λh4=>?_) λh4=>?_⟩
  ·obtain⟨ac,A⟩:=ag (l:=f.be) (k:=j) V;refine⟨V,V,K,by simpa using H,V,V,ac,by simpa using I.u A,λq=>?_,λq=>?_⟩
   ·simp only[tC]at q;refine P V _ _ ⟨?_,r⟩;have:=nb j;rw[aP V V,jD A,PY,ae q];omega
   ·simp only[fE]at q;refine P V _ _ ⟨?_,r⟩;rw[jD A,PY,aq q];omega
  ·refine ab V _ _ ⟨?_,r⟩;rw[jD d,vA,dD (l:=f.be) V]
 rw[dD V];exact⟨by rw[ok.QF];simp,(S.trans i).trans F⟩
end
end
end Go.Proofs.YtakpkjhmbbfniaaGreat
section
namespace Go.Vc
variable{t:TypeId}{a:Addr}
open Go.ChangeShapes Go.WideShapes Go.RowKit
section
variable{H:Type}{b:TypeId×Value->H}{P:Program}{w:World}
def Qd(b:TypeId×Value->H)(P:Program)(w:World)(t:TypeId)(Q:List Ce->Prop):Prop:=
 ∀(n:Nat)(a:List Value)(x:DataW H×List MemPlace),DataW.trod b P w 0 (λ_=>true) true n t a=some x->∃c,a=c.map Ce.v/\Q c
def Qd.mono{Q Q':List Ce->Prop}(h:Qd b P w t Q)(f:∀a,Q a->Q' a):Qd b P w t Q':=λn a x g=>
 let⟨c,d,e⟩:=h n a x g
 ⟨c,d,f _ e⟩
def Pv{v:Value}(h:w.cell? a=some v):a.spot=none:=by
 unfold World.cell? at h;split at h
 ·split at h
  ·cases h
  ·rename_i b;simpa using b
 ·cases h
def Pt(h:a.spot=none)(i:Nat):a.add i=⟨a.block,a.off+i,none⟩:=by
 obtain⟨c,o,s⟩:=a;simp only at h;subst h;unfold Addr.add;by_cases b:i=0
 ·subst b;simp
 ·simp[b]
end
section
variable{H:Type}{b:TypeId×Value->H}{P:Program}
def AW(l:laidOutB P=true){W j:World}(k:Below W.heap.size W j):∀{f:List TypeId}{i:List Value}{g:List (DataW H)}{d:List MemPlace},
 (f.all λt=>P.readableRec t&&decide (t<P.types.size))=true->DataW.TrodAll b P W 0 (λ_=>true) true f i g d->(∀x∈d,x.block<W.heap.size)->∀e:Nat->Bool,(∀p∈d,e p.block=true)->
 DataW.TrodAll b P j 0 e true f i g d
 |[],_,_,_,_,h,_,_,_=>by
  obtain⟨rfl,rfl,rfl⟩:=trodAll_nil h;exact trodAll_mk0
 |t::f,_,_,_,c,h,m,e,n=>by
  obtain⟨v,i,s,g,p,r,rfl,rfl,rfl,o,q⟩:=trodAll_cons h;simp only[KY,bE,ao]at c;exact⟨p,r,WideElems.Trod_stays l c.1.1 c.1.2 o (λx a=>k.same (m x (by simp[a]))) (λx a=>n x (by simp[a])),AW l k (by simpa using c.2) q (λx a=>m x (by simp[a])) e (λx a=>n x (by simp[a])),rfl⟩
def AM{f:Func}{s:ChangeSpec}{W g:World}{i:Array Value}{d:List (DataW H)}{o:List MemPlace}
 (K:laidOutB P=true)(M:(f.params.toList.all λt=>P.readableRec t&&decide (t<P.types.size))=true)(A:f.resultTypes=#[t])(v:P.underlying t=some .bool)(C:s.vars=[])
 (j:DataW.Whole b P f.params.toList s.vars false W i.toList d [] o)(G:(s.fn H (d++[])).args=d)(I:(s.fn H (d++[])).results=[.lit (.bool true)])(J:(s.fn H (d++[])).vars=[])
 (k:Below W.heap.size W g):s.post b P f false true false false W i (.bool true) g:=by
 have h:∀a∈o,a.block<W.heap.size:=λa l=>by simpa using j.lt a l
 have r:=j
 obtain⟨a,O,F,q,rfl,D,N⟩:=j
 rw[C]at q
 obtain⟨_,rfl⟩:=trodVars_none q
 simp only[gV]at h D r
 have u:∀c:Nat->Bool,(∀x∈a,c x.block=true)->DataW.TrodAll b P g 0 c true f.params.toList i.toList (s.fn H (d++[])).args a:=λc L=>by
  rw[G];exact AW K k M F h c L
 have B:∀c:Nat->Bool,DataW.TrodVars b P g c s.vars (s.fn H (d++[])).vars []:=λc=>by rw[C,J];rfl
 have z:∀(e:Nat)(c:Nat->Bool)(w:Bool),DataW.TrodAll b P g e c w f.resultTypes.toList ((Value.bool true).resultList f.resultTypes.size) (s.fn H (d++[])).results []:=λe c w=>by
  rw[I,A];exact trodAll_cons_mk (shut_bool v _) trodAll_mk0
 refine⟨d,[],a,[],a,[],r,z _ _ _,u _ (λx m=>by simpa using h x m),B _,k.frame _,λ_=>?_⟩
 refine⟨ok_one A rfl (okWide_bool_mk v _),_,_,([]++a)++[],⟨[]++a,[],trodAll_append (u _ (λ_ _=>rfl)) (z _ _ _),B _,rfl,?_,λE=>by cases E⟩,?_⟩
 ·intro e n l
  have y:MemPlace.cell e n∈a:=by simpa using l
  rw[k.frozen (p:=⟨e,n,none⟩) (h _ y)]
  exact D e n y
 ·intro x m _
  simpa using m
end
end Go.Vc
end
section
namespace Go.Proofs.YtakpkjhmbbfniaaGreat
open Go.Vc Go.ChangeShapes
def KG{H:Type}{x:TypeId×Value->H}{P:Program}{w:World}{t e r:Nat}{v:Value}{u:DataW H}{I:List MemPlace}(p:P.underlying t=some (.slice e))(B:P.underlying e=some (.int .u8))(A:P.cellsOf e=1)
 (E:Value.okWide P w .any r t v)(y:DataW.Trod x P w 0 (λ_=>true) true t v u I):∃s,v=O.v s/\Ki w.heap s:=by
 obtain⟨J,q,h,rfl⟩:=Go.WideShapes.okWide_slice p E
 obtain⟨L,C⟩:=y
 rcases open_ints p B A C with⟨b,_⟩|⟨d,N,K,g,b,_,D,M,G,_,l,F⟩
 ·simp[Value.cells]at b
  obtain⟨rfl,rfl,rfl⟩:=b
  exact⟨.nil,rfl,ad _,λk a=>by simp at a⟩
 ·simp[Value.cells]at b
  obtain⟨rfl,rfl,rfl⟩:=b
  simp only[Up]at G
  rcases jm h with i|i
  ·subst i
   have:q=0:=V
   subst this
   obtain⟨c,o,s⟩:=d
   cases s with
   |none=>exact⟨.mk c o 0 0,rfl,ad _,λk a=>by simp at a⟩
   |some f=>exact⟨.Bi c o f,rfl,ad _,λk a=>by simp at a⟩
  ·have z:=l 0 V
   have n:d.spot=none:=by
    have:=Pv z;simpa[Addr.add]using this
   obtain⟨c,o,s⟩:=d
   simp only at n
   subst n
   refine⟨.mk c o q h,rfl,D,λk a=>?_⟩
   simp only[O.fZ]at a
   have m:k<g.length:=V
   have j:=l k m
   have f:=F (g.getD k 0) (by rw[iH,List.getElem?_eq_getElem m];simp)
   rw[Lit.wf,bE,ao,ao]at f
   refine⟨g.getD k 0,f.1,f.2,?_⟩
   ·rw[Pt rfl,xf]at j
    simpa using j
end Go.Proofs.YtakpkjhmbbfniaaGreat
end
namespace Go.Proofs.YtakpkjhmbbfniaaGreat
open Go.Vc
section
def JW{m:I}{f:O}{a:List Int}(e:au m f a)(h:∀x∈a,0<=x/\x<=999999)(u:a.length<=10000000):aN bY 9 [O.v f] m λv p=>v=vi (fN (λo=>o) a)/\J m p:=by
 apply EO;have t:=e.len;refine dt (σ:=Int) (n:=a.length) V (λb c M=>c=fN (λo=>o) (a.take b)/\J m M) ⟨by simp[fN],J.aC _⟩ ?_;rintro b c M r μ s ⟨rfl,X⟩ q
 refine dit (λi=>?_) λi=>?_
 ·obtain⟨x,d⟩:=ag (l:=a) (k:=b) V;refine⟨V,V,x,by simpa using(e.ext X).u d,q V _ _ ⟨?_,X⟩⟩;have:=nL (g:=λo=>o) (B:=999999) (a.take b) λc j=>h c (cw j);rw[cZ]at this;have:=h x (ar d);rw[aP V V,jD d]
 ·rw[dD V];exact⟨rfl,X⟩
section
variable{m:I}
def qZ{cG:O}(E:Ki m cG):aN bY 5 [O.v cG] m (Xr m):=by
 apply px;simp(config:={maxSteps:=1000000}) -zeta only[aE,aD];refine⟨λ_=>⟨rfl,J.aC _⟩,λ_=>?_⟩;refine(oA E).mono λ_ q⟨⟨R,Z,im,bq,hp,fr,s,D,U,hs,h⟩,x1⟩=>⟨R,Z,_,_,_,_,bq,hp,fr,D,?_⟩;have G:eX q R Z im:=⟨U.aY.le (bo _ _),fW.le (bo _ _) U.cB⟩;have p:=hs.le (bo _ _);intro t a2 a3 u;have z1:t.size=q.size+1:=by simp[t]
 have P:J q u:=(((J.push q _).trans (J.push t _)).aj (ad _) _ _).aj V _ _;have z4:u.size=q.size+2:=by simp[u,a3,a2,t,az]
 clear_value u;have z:∀j∈[t.size,q.size],j<u.size:=bF;refine(qY (G.ext P) (p.ext P) h).aG (J.aC _) z λj m5 v x5 _=>⟨j,rfl,?_⟩;have C:=P.trans x5;refine(kE (G.ext C) (p.ext C) h).aG x5 z λc L e x6 u6=>⟨c,rfl,?_⟩;have r:=C.trans x6;obtain rfl:=LI v e;refine⟨λE=>by simp at E,λ_=>⟨λ_=>?_,λhy=>?_⟩⟩
 ·exact(kE (G.ext r) (p.ext r) h).aG u6 z λc b e a d=>⟨c,rfl,by rw[LI v e];simp,(x1.trans r).trans a⟩
 have d:=v.1 (by simpa using hy);have K:=p.ext r;have aj:=p.heap.len;have ai:=p.ak.len;have lh:=h.lh;have lf:=h.lf;have pb:∀a,0<=fN MV (s.heap.take a)/\fN MV (s.heap.take a)<=9999990000000:=λa=>by
  have:=nL (g:=MV) (B:=999999) (s.heap.take a) λc e=>by
   have:=(d.heap.cell c (cw e)).hi;unfold MV;split<;>omega
  rw[cZ]at this;omega
 have aa:∀c∈s.heap,0<=GW c/\GW c<=3:=λc e=>by
  have:=nL (g:=pt) (B:=1) c.aI λc _=>by unfold pt;split<;>omega
  have:=(d.heap.cell c e).fl;unfold GW;omega
 have tb:∀a,0<=fN GW (s.heap.take a)/\fN GW (s.heap.take a)<=30000000:=λa=>by
  have:=nL (g:=GW) (B:=3) (s.heap.take a) λc e=>aa c (cw e);rw[cZ]at this;omega
 have aV:∀f∈s.ak,∀o∈f.aV,0<=o/\o<=999999:=λf b o I=>by
  obtain⟨a,H⟩:=List.mem_iff_getElem?.1 I;have Q:=d.ak f b;have:=Q.lr;have:=Q.lo;have:=ax H;obtain⟨ab,w⟩:=ag (l:=f.av) (k:=a) V;have:=d.Tb b H w;omega
 have Y:∀f∈s.ak,0<=IM f/\IM f<=9999990000000:=λf b=>by
  have:=nL (g:=λo=>o) (B:=999999) f.aV (aV f b);have:=(h.lr f b).2.1;unfold IM;omega
 have ob:∀a,0<=fN IM (s.ak.take a)/\fN IM (s.ak.take a)<=9999990000000*10000:=λa=>by
  have F:=nL (g:=IM) (B:=9999990000000) (s.ak.take a) λf b=>Y f (cw b);rw[cZ]at F;have:=d.ln;have:=d.bG;have:=d.dQ;omega
 refine tc (σ:=Int) (τ:=Int) (n:=s.heap.length) V (λa c N M=>c=fN MV (s.heap.take a)/\N=fN GW (s.heap.take a)/\J L M) ⟨by simp[fN],by simp[fN],J.aC _⟩ ?_;rintro a c N M af μ H ⟨rfl,rfl,X⟩ ac
 refine dit (λF=>?_) λF=>?_
 ·obtain⟨x,i⟩:=ag (l:=s.heap) (k:=a) V;have tk:=tb a;have tx:=aa x (ar i);have f3:=(d.heap.cell x (ar i)).fl;obtain⟨_,_,g0,_,_⟩:=cW.u (cW.ext X K.heap) i;refine⟨V,V,_,by simpa using g0,?_⟩;refine dt (σ:=Int) (n:=x.aI.length) V (λA c M=>c=fN GW (s.heap.take a)+fN pt (x.aI.take A)/\J L M) ⟨by simp[fN],X⟩ ?_;rintro A c M3 I3 μ3 hj ⟨rfl,y⟩ W;obtain⟨f,T,_,_,S⟩:=cW.u (cW.ext y K.heap) i;have ah:=T.len;refine⟨V,V,f,by simpa using S,dit (λh4=>?_) λh4=>?_⟩
  ·obtain⟨ab,w⟩:=ag (l:=x.aI) (k:=A) V;refine⟨V,V,f,by simpa using S,V,V,ab,by simpa using T.u w,dit (λh5=>?_) λh5=>?_⟩
   ·refine W V _ _ ⟨?_,y⟩;have:=nL (g:=pt) (B:=1) (x.aI.take A) λc _=>by unfold pt;split<;>omega
    rw[cZ]at this;rw[aP V V,jD w,pt,aq V];omega
   ·refine W V _ _ ⟨?_,y⟩;rw[jD w,pt,ae V];omega
  ·have:=pb a;have:=(d.heap.cell x (ar i)).hi;refine ac V _ _ _ ⟨?_,?_,y⟩
   ·rw[jD i,MV,aP (by split<;>omega) (by split<;>omega)]
   ·rw[jD i,GW,dD (l:=x.aI) V]
 rw[dD V];have tk:=tb s.heap.length;rw[eT]at tk;refine dt (σ:=Int) (n:=s.ak.length) V (λa c M=>c=fN GW s.heap+fN IM (s.ak.take a)/\J L M) ⟨by simp[fN],X⟩ ?_;rintro x c M2 W μ2 ah ⟨rfl,i⟩ T;refine dit (λS=>?_) λS=>?_
 ·obtain⟨f,b⟩:=ag (l:=s.ak) (k:=x) V;obtain⟨N,o,hh,hr,I,hH,_,_,_,_,A,g5⟩:=jy.u (jy.ext i K.ak) b;refine⟨V,V,o,by simpa using A,?_⟩;refine(JW I (aV f (ar b)) (h.lr f (ar b)).2.1).mono λak M3⟨D,y⟩=>⟨λj v=>y.same j (i.lt (u6.lt (z j v))),_,D,?_⟩;refine T V _ _ ⟨?_,i.trans y⟩;have:=ob x;have:=Y f (ar b);unfold IM at this;rw[jD b,IM,aP V V];omega
 rw[dD V];exact⟨by rw[d.TW];simp,(x1.trans r).trans i⟩
end
end
end Go.Proofs.YtakpkjhmbbfniaaGreat
