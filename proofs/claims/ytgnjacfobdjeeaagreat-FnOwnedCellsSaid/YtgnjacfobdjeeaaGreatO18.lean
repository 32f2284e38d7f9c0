/- Part of a proof, joined by a program. -/
import Derived.Carry
import Derived.ChangeSame
import Derived.ChangeSlices
import Derived.Deep.Slices
import Derived.OpenShut
import Derived.RowKit
import Derived.WideShapes
import Derived.Test.YtgnjacfobdjeeaaGreatO01
import Derived.Test.YtgnjacfobdjeeaaGreatO12
import Derived.Test.YtgnjacfobdjeeaaGreatO16
import Derived.Test.YtgnjacfobdjeeaaGreatO17
set_option linter.unusedVariables false
set_option linter.unusedSimpArgs false
set_option linter.defProp false
set_option linter.constructorNameAsVariable false
set_option maxHeartbeats 8000000
set_option maxRecDepth 100000
namespace Go.Proofs.YtgnjacfobdjeeaaGreat
open Go.Vc
section
def tf(f:Nat->Bool):Nat->List Int
 |0=>[]
 |n+1=>tf f n++(if f n=true then[(n:Int)]else[])
section
variable{f:Nat->Bool}
def I9:∀{n:Nat}{x:Int},x∈tf f n<->∃k:Nat,k<n/\x=(k:Int)/\f k=true
 |0,x=>by simp[tf]
 |n+1,x=>by
  rw[tf,GO,I9];constructor
  ·rintro(⟨k,a,b,c⟩|h)
   ·exact⟨k,V,b,c⟩
   ·split at h
    ·simp at h;exact⟨n,V,h,by assumption⟩
    ·simp at h
  ·rintro⟨k,a,b,c⟩;by_cases e:k=n
   ·subst e;right;rw[aq c];simp[b]
   ·exact Or.inl ⟨k,V,b,c⟩
def I8:∀n:Nat,(tf f n).length<=n
 |0=>by simp[tf]
 |n+1=>by have:=I8 n;rw[tf,a9];split<;>simp<;>omega
def Nm:∀n:Nat,(tf f n).Pairwise (·<·)
 |0=>by simp[tf]
 |n+1=>by
  rw[tf,List.pairwise_append];refine⟨Nm n,by split<;>simp,λc b d a=>?_⟩;obtain⟨k,h,e,_⟩:=I9.1 b;split at a<;>simp at a
  omega
end
open Classical in
noncomputable def Uq (b:cD) (s:St):List Int:=if cN b s then tf (λa=>decide (0<dD s.ak a)) s.heap.length else[]
def cN.Vx{c:cD}{s:St}(h:cN c s):PD s.heap s.ak:=by
 have C:=EI h;refine⟨λf b=>?_,λf b=>let⟨j,a⟩:=oN b;(C.ak j f a).av⟩;obtain⟨j,a⟩:=oN b;have d:=(C.ak j f a).lr;have e:=(C.ak j f a).lo;omega
section
variable{m:I}{d p bo a b:O}{c:cD}{s:St}
def rp(N:eV m d p c)(C:ft m bo a b s)(u:zw s):If 16 [.agg #[O.v d,O.v p],OJ s bo a b] m (Uq c s):=by
 apply wc;simp -zeta only[aE,aD];intro D F;obtain⟨l,v⟩:=di (a:=D) (c:=F) rfl rfl;clear_value F;refine(Cu (N.ext l) (C.ext l) u).aG (J.aC _) v λg X h o _=>⟨g,rfl,λt=>⟨.nil,rfl,?_,l.trans o⟩,λt=>?_⟩
 ·rw[Uq,ae (nb h t)];exact⟨rfl,dH _,E,E⟩
 have i:=yb h t;have A:=l.trans o;have L:s.ak.length<=41:=by have:=i.depth;have:=i.bI;have:=i.dK;omega
 refine(ur (C.ext A) u L i.Vx).mono λ_ e⟨S,r,B,z⟩=>⟨z.da (λg h=>o.lt (v g h)),S,r,?_⟩;have P:=B.len;rw[lR]at P;have fL:=u.lh;have Q:∀g∈[D.size,m.size],g<e.size:=λg h=>(o.trans z).lt (v g h);intro w;have R:iO e w aB 1 (.mk e.size 0 0 0) []:=iO.new (J.aC e) aB 1 [] 0 E;have T:J e w:=J.push e _;clear_value w;rw[Uq,aq i];refine dC (n:=s.heap.length) V (λk y M=>J e M/\iO e M aB 1 y ((tf (λq=>decide (0<dD s.ak q)) k).map Ce.i)) ⟨T,by simpa[tf]using R⟩ ?_;rintro k y Y U μ W ⟨j,x⟩ G
 have pl:=I8 (f:=λq=>decide (0<dD s.ak q)) k;refine dit (λK=>?_) λK=>?_
 ·have I:=(B.ext j).u (qK (f:=dD s.ak) (show k<s.heap.length by omega));refine⟨V,V,_,by simpa using I,dit (λq=>?_) λq=>?_⟩
  ·intro Z;refine nT x j V λq' m8 M H=>⟨J.zE (j.aM _) H Q,G V _ _ ⟨H,?_⟩⟩;rw[tf,aq (by simpa using q)];exact M
  ·refine G V _ _ ⟨j,?_⟩
   rw[tf,ae (by simpa using q),fx];exact x
 ·have r:k=s.heap.length:=V;subst r;exact⟨y,rfl,ar.ij x V,(A.trans z).trans j⟩
def Df{h a:Nat}{b:Nat->Bool}(B:cB m h lT (sZ a b))(p:a<1000000000):If 38 [O.v (.mk h 0 a a)] m (tf b a):=by
 apply xt;refine dC (n:=a) V (λk q M=>J m M/\iO m M aB 1 q ((tf b k).map Ce.i)) ⟨J.aC _,by simpa[tf]using iO.nil _ _ _ _⟩ ?_;rintro k q r I μ o ⟨c,g⟩ i
 have u:=I8 (f:=b) k;refine dit (λd=>?_) λd=>?_
 ·simp only[O.fj]at d;refine⟨V,by simp only[O.fj];omega,b k,by simpa using LC (B.ext c) (show k<a by omega),λe=>?_,λe=>?_⟩
  ·intro s;refine nT g c V λv t j l=>i V _ _ ⟨l,?_⟩
   rw[tf,aq e];exact j
  ·refine i V _ _ ⟨c,?_⟩
   rw[tf,ae (by simp[e]),fx];exact g
 ·simp only[O.fj]at d;have e:k=a:=V;subst e;exact⟨q,rfl,ar.ij g V,c⟩
def Bm(ah:eV m d p c)(D:ft m bo a b s)(B:zw s):If 14 [.agg #[O.v d,O.v p],OJ s bo a b] m (Uq c s):=by
 apply vU;simp -zeta only[aE,aD];intro aa ab;obtain⟨G,Y⟩:=di (a:=aa) (c:=ab) rfl rfl;clear_value ab;refine(qY (ah.ext G) (D.ext G) B).aG (J.aC _) Y λj h o S _=>⟨j,rfl,λN=>⟨.nil,rfl,?_,G.trans S⟩,λN=>?_⟩
 ·rw[Uq,ae (nb o N)];exact⟨rfl,dH _,E,E⟩
 have t:=yb o N;have L:=G.trans S;have hd:s.ak.length<=41:=by have:=t.depth;have:=t.bI;have:=t.dK;omega
 have ap:=D.heap.len;have an:=D.ak.len;have fL:=B.lh;have K:=t.Vx;have en:Int.toNat (a.len:Int)=s.heap.length:=V;rw[en];refine⟨V,V,V,V,?_⟩;intro y;have l3:∀j∈[aa.size,m.size],j<h.size:=λj o=>S.lt (Y j o);have B4:cB y h.size lT (sZ s.heap.length λ_=>false):=OV h _;have x4:J h y:=J.push h _;have z4:y.size=h.size+1:=by simp[y]
 clear_value y;rw[Uq,aq t];have nn:∀g e,0<=dD (s.ak.take g) e:=λg e=>Dq (λf i=>t.ak f (cT i)) e;refine dO (n:=s.ak.length) V (λg M=>J h M/\h.size<M.size/\cB M h.size lT (sZ s.heap.length λe=>decide (0<dD (s.ak.take g) e))) ⟨x4,V,by simpa[dD]using B4⟩ ?_;rintro i m5 al μ hi ⟨z,z5,I⟩ aj
 refine dit (λh1=>?_) λh1=>?_
 ·obtain⟨f,P⟩:=ag (l:=s.ak) (k:=i) V;have v:=au P;have av:=B.lr f v;have ar:=K.len f v;have r:=L.trans z;obtain⟨ak,Q,q,Z,C,he,g0,g1,g2,g3,g4,g5⟩:=D.ak.u P;have aA:=Z.len;have ay:=C.len;have ei:Int.toNat (i:Int)=i:=V;rw[ei];refine⟨V,V,_,r.D g0,_,r.D g1,_,r.D g2,ak,r.D g3,Q,r.D g4,q,r.D g5,?_⟩;intro m6 m7;have T:J m5 m7:=(J.push m5 _).aj (ad _) _ _;clear_value m7;refine dO (n:=f.aW.length) V (λg M=>J h M/\h.size<M.size/\cB M h.size lT (sZ s.heap.length λe=>decide (0<dD (s.ak.take i) e+cz (f.av.take g) (f.aW.take g) e))) ⟨z.trans T,T.lt z5,by simpa[cz]using I.ext T⟩ ?_;rintro g m8 am ν hk ⟨H,U,u⟩ ac;have X:=L.trans H;have ek:Int.toNat (g:Int)=g:=V;rw[ek];refine dit (λh2=>?_) λh2=>?_
  ·obtain⟨w,x⟩:=ag (l:=f.av) (k:=g) V;obtain⟨R,F⟩:=ag (l:=f.aW) (k:=g) V;have W:=(K.av f v).df g w R x F;have no:∀e,0<=cz (f.av.take g) (f.aW.take g) e:=λe=>px (λQ C=>(K.aW v Q (cT C)).1) e;refine⟨V,V,R,by simpa using(C.ext X).u F,λA=>?_,λA=>?_⟩
   ·simp only[ao]at A;have M:=W.2.2 A;have aw:=ax (cp M).1;have af:=(B.ak f v).1 w (au x);have e1:cK (w -1000)=(ix w:Nat):=by have:=M.1;have:=af.2;unfold ix;rw[aP V V];omega
    have e2:Int.toNat ((ix w:Nat):Int)=ix w:=V;refine⟨V,V,w,by simpa using(Z.ext X).u x,?_⟩;rw[e1,e2];simp -zeta only[O.fj,O.iT,O.lY,bN,dG];refine⟨V,V,u.fm (by rw[xc];omega),?_⟩;intro m9;have B9:=OW u (ix w);refine⟨λj o=>bh _ _ _ _ (by simp at o;have:=l3;simp at this;have:=z.size;omega),ac V _ ⟨H.aj (ad _) _ _,by simp only[m9];rw[az];exact U,?_⟩⟩;rw[show(λe=>decide (0<dD (s.ak.take i) e+cz (f.av.take (g+1)) (f.aW.take (g+1)) e))=kX (λe=>decide (0<dD (s.ak.take i) e+cz (f.av.take g) (f.aW.take g) e)) (ix w)from funext λe=>?_]
    ·exact B9
    ·rw[mT x F];have:=no e;have:=nn i e;by_cases q:e=ix w
     ·subst q;rw[tV,aq (gP M.1).symm];simp;omega
     ·rw[mE q,ae (λai=>q (by rw[ai,jL])),Int.add_zero]
   ·have M:R=0:=by have:=W.2.1.1;simp at A;omega
    refine ac V m8 ⟨H,U,?_⟩;rw[show(λe=>decide (0<dD (s.ak.take i) e+cz (f.av.take (g+1)) (f.aW.take (g+1)) e))=(λe=>decide (0<dD (s.ak.take i) e+cz (f.av.take g) (f.aW.take g) e))from funext λe=>by rw[mT x F,M];simp];exact u
  ·rw[bZ (l:=f.av) V,bZ (l:=f.aW) V]at u;refine aj V m8 ⟨H,U,?_⟩
   rw[show(λe=>decide (0<dD (s.ak.take (i+1)) e))=(λe=>decide (0<dD (s.ak.take i) e+cz f.av f.aW e))from funext λe=>by rw[EY P]];exact u
 ·rw[bZ (l:=s.ak) V]at I;exact(Df I V).mono λ_ m6⟨f,q,u,r⟩=>⟨r.da λj o=>by have:=l3 j o;have:=z.size;omega,f,q,f,rfl,u,(L.trans z).trans r⟩
end
end
section
variable{a:Nat}{c:bM}
section
variable{m:I}{s d:O}{b:List Int}{h:List bM}
def LR(d:ar m s b)(g:Int):dm bY 18 [O.v s,vi g] m (g∈b):=by
 apply Hc;have o:=d.len;refine dO (n:=b.length) (o▸d.fL) (λf M=>J m M/\g∉b.take f) ⟨J.aC _,E⟩ ?_;rintro f r I μ q ⟨x,c⟩ p
 refine dit (λj=>?_) λj=>?_
 ·obtain⟨y,e⟩:=ag (l:=b) (k:=f) V;refine⟨V,V,y,by simpa using(d.ext x).u e,λa=>iN ?_ x,λa=>p V _ ⟨x,?_⟩⟩
  ·simp at a;exact a▸au e
  ·simp at a;rw[bH e,GO];simp only[jm];exactλh=>h.elim c λi=>a i.symm
 ·rw[bZ V]at c;exact bX c x
def Hb(c:ar m s b)(d:b.Pairwise (·<·)):dm bY 20 [O.v s] m True:=by
 apply Bt;have r:=c.len;have fL:=c.fL;refine Mr (γ:=Nat) (λa i M=>i=(a:Int)+1/\J m M) (λa=>b.length -a) 0 ⟨rfl,J.aC _⟩ ?_;rintro a _ u I μ ⟨rfl,x⟩ q
 refine⟨λh=>?_,λh=>iN trivial x⟩;simp only[ao]at h;obtain⟨y,g⟩:=ag (l:=b) (k:=a+1) V;obtain⟨z,i⟩:=ag (l:=b) (k:=a) V;have j:cK ((a:Int)+1 -1)=a:=by rw[aP V V];omega
 have e:Int.toNat ((a:Int)+1)=a+1:=V;have o:cK ((a:Int)+1+1)=((a+1:Nat):Int)+1:=by rw[aP V V];omega
 have t:z<y:=by
  obtain⟨p,n⟩:=List.getElem?_eq_some_iff.1 i;obtain⟨f,e⟩:=List.getElem?_eq_some_iff.1 g;have:=List.pairwise_iff_getElem.1 d a (a+1) p f V;rw[n,e]at this;exact this
 rw[j,e,o];exact⟨V,V,y,by simpa using(c.ext x).u g,V,V,z,by simpa using(c.ext x).u i,λf=>by simp at f;omega,λ_=>q (a+1) _ _ ⟨rfl,x⟩ (by show b.length -(a+1)<b.length -a;omega)⟩
def IL(f:cV m d h)(n:ME h)(p:h.length<=1000000000)(r:Ev h)(g:h[a]? =some c)(v:0<c.aQ):GQ bY 42 [O.v d,vi a] m (vi (dq h a)):=by
 apply Db;refine(qe f n p).mono λ_ y⟨s,i,j,l,q,x⟩=>⟨s,i,j,λe=>absurd r (nb l e),λe=>?_⟩;obtain⟨t,rfl,_,B⟩:=q (by simpa using e);have o:=ax g;have w:=f.len;obtain⟨u,_,k,_⟩:=(cV.ext x f).u g;exact⟨λb=>by simp at b;omega,λ_=>⟨λb=>by simp at b;omega,λ_=>⟨V,V,c.aQ,by simpa using k,λb=>by simp at b;omega,λ_=>⟨V,by simp only[O.fj];omega,dq h a,by simpa using pY B o,rfl,x⟩⟩⟩⟩
def J9(e:cV m d h)(k:ME h)(l:h.length<=1000000000)(f:Ev h)(b:h[a]? =some c)(i:0<c.aQ):GQ bY 19 [O.v d,vi a] m (vi (c.aQ -dq h a)):=by
 apply EQ;have r:=ax b;have s:=e.len;obtain⟨n,_,g,_⟩:=cV.u e b;refine⟨V,V,c.aQ,by simpa using g,(IL e k l f b i).mono λ_ t⟨j,x⟩=>⟨_,j,?_,?_,x⟩⟩
 ·exact x.dg (by simpa using g)
 ·have o:=(f.cells c (au b)).hi;have p:=f.dq a c b i;have q:=nV h a;rw[aP V V]
end
section
variable{m:I}
def wa{cE:O}(i:Ge m cE):aN bY 13 [O.v cE] m λv r=>AR [] v r/\J m r:=by
 apply rW;simp -zeta only[aE,aD];intro b a;obtain⟨d,f⟩:=di (a:=b) (c:=a) rfl rfl;have N:b.size=m.size+1:=by simp[b]
 clear_value a;refine(FE (i.ext d)).mono λ_ K⟨F,g,t,l⟩=>⟨l.da f,(a.size,0),g,?_⟩;have I:=t.lt;have G:=f m.size E;have H:=f b.size E;refine(Dz (a:=[b.size,m.size,a.size]) bK E t (by simp[Cg])).mono λ_ k⟨⟨n,s,B,bo,q,o,D,g,p,A,z⟩,h⟩=>?_;refine⟨h.da λc e=>by have:=f c e;simp only[jm];omega,n,s,_,_,_,_,bo,q,o,g,?_⟩;intro L C;have P:=h.size;have j:Le (bA [b.size,m.size,a.size] k) (bA [] C):=λc M v i=>by
  obtain⟨x,y⟩:=dP.1 i;simp at x;refine dP.2 ⟨E,?_⟩;rw[aI ((bh _ _ _ _ V).trans (bh _ _ _ _ V))];exact y
 refine⟨⟨n,s,B,bo,q,o,D,rfl,⟨p.aT.le j,gB.le j p.cA⟩,A.le j,z⟩,?_⟩;have u:Fz [a.size] a k:=(l.fz _).trans h;have w:J m k:=⟨by have:=d.size;have:=l.size;omega,λc e=>(u.same c (d.lt e) (by have:=d.size;simp;omega)).trans (d.same c e)⟩;exact(w.aj V _ _).aj V _ _
def xz{cE:O}(h:Ge m cE):aN bY 4 [O.v cE] m (YP m):=by
 apply tQ;simp(config:={maxSteps:=1000000}) -zeta only[aE,aD];refine⟨λ_=>⟨rfl,J.aC _⟩,λ_=>?_⟩;refine(wa h).mono λ_ p⟨⟨M,Y,U,bo,T,fr,s,i,R,hs,q,_⟩,x1⟩=>⟨M,Y,_,_,_,_,bo,T,fr,i,?_⟩;have x:eV p M Y U:=⟨R.aT.le (bt _ _),gB.le (bt _ _) R.cA⟩;have o:=hs.le (bt _ _);intro j a2 a3 t;have z1:j.size=p.size+1:=by simp[j]
 have G:J p t:=(((J.push p _).trans (J.push j _)).aj (ad _) _ _).aj V _ _;have z4:t.size=p.size+2:=by simp[t,a3,a2,j,az]
 clear_value t;have S:∀b∈[j.size,p.size],b<t.size:=bK;refine(Bm (x.ext G) (o.ext G) q).mono λ_ W⟨ae,i,y,H⟩=>⟨H.da S,ae,i,?_⟩;have g:=G.trans H;have f:∀b∈[j.size,p.size],b<W.size:=λb e=>H.lt (S b e);refine(rp (x.ext g) (o.ext g) q).mono λ_ m6⟨F,i,B,I⟩=>⟨I.da f,F,i,?_⟩;refine(sH (y.ext I) B).aG I f λb m7 e x7 Z=>⟨b,rfl,?_⟩;obtain rfl:=e.2 rfl;have L:=g.trans Z;refine⟨λh=>by simp at h,λ_=>?_⟩;refine(qY (x.ext L) (o.ext L) q).aG Z f λc ak hc ap u=>⟨c,rfl,λhn=>?_,λhy=>?_⟩;all_goals have K:=g.trans u
 ·exact(rp (x.ext K) (o.ext K) q).mono λ_ v⟨F,i,B,d⟩=>⟨d.da (λb e=>u.lt (f b e)),F,i,(sH (y.ext (u.trans d)) B).aG (u.trans d) f λb w e z r=>⟨b,rfl,by rw[e.2 rfl],(x1.trans g).trans r⟩⟩
 have z:=yb hc hy;have ab:=EI z;have N:Uq U s=tf (λa=>decide (0<dD s.ak a)) s.heap.length:=aq z;have aj:=o.heap.len;have fL:=q.lh;refine dO (n:=s.heap.length) V (λd r=>J W r) u ?_;rintro d al ah μ hk r X
 have ac:=g.trans r;refine⟨λQ=>?_,λQ=>?_⟩
 ·simp only[ao]at Q;obtain⟨c,w⟩:=ag (l:=s.heap) (k:=d) V;obtain⟨ai,hF,P,g1,g2⟩:=cV.u (cV.ext ac o.heap) w;refine⟨V,V,c.aQ,by simpa using P,?_⟩;refine(LR (y.ext r) d).aG r f λb am e aa D=>⟨b,rfl,?_⟩;have C:b=true<->0<dD s.ak d:=by
   rw[e,N,I9];constructor
   ·rintro⟨v,_,i,h⟩;have:v=d:=V;subst this;simpa using h
   ·exactλh=>⟨d,V,rfl,by simpa using h⟩
  refine⟨aa.dg (by simpa using P),aI (aa.same _ (r.lt (f j.size E))) _,dit (λA=>?_) λA=>?_⟩
  ·have ex:=z.heap.ex d c w A;refine(J9 (cV.ext (g.trans D) o.heap) q.heap V ab.heap w A).aG D f λan ar af=>⟨_,rfl,λh=>?_,λ_=>X V _ af⟩;rw[show c.aQ -dq s.heap d=dD s.ak d by omega]at h;by_cases v:b=true
   ·simp[v,C.1 v]at h
   ·have:¬0<dD s.ak d:=λh=>v (C.2 h);simp[v,this]at h
  ·have:¬0<dD s.ak d:=λh=>by
    obtain⟨c',v,T⟩:=z.heap.lv d h;rw[w]at v;simp at v;subst v;omega
   have:b=false:=by simpa usingλh=>this (C.1 h)
   subst this;exact⟨λh=>by simp at h,λ_=>X V _ D⟩
 ·exact(Hb (y.ext r) (by rw[N];exact Nm _)).aG r f λb w e A v=>⟨b,rfl,by rw[e.2 trivial],(x1.trans g).trans v⟩
end
end
end Go.Proofs.YtgnjacfobdjeeaaGreat
section
namespace Go.Vc
variable{t:TypeId}{a:Addr}
open Go.ChangeShapes Go.WideShapes Go.RowKit
section
variable{H:Type}{b:TypeId×Value->H}{P:Program}{w:World}
def Ql(b:TypeId×Value->H)(P:Program)(w:World)(t:TypeId)(Q:List Ce->Prop):Prop:=
 ∀(n:Nat)(a:List Value)(x:DataW H×List MemPlace),DataW.trod b P w 0 (λ_=>true) true n t a=some x->∃c,a=c.map Ce.v/\Q c
def Ql.mono{Q Q':List Ce->Prop}(h:Ql b P w t Q)(f:∀a,Q a->Q' a):Ql b P w t Q':=λn a x g=>
 let⟨c,d,e⟩:=h n a x g
 ⟨c,d,f _ e⟩
def PH{v:Value}(h:w.cell? a=some v):a.spot=none:=by
 unfold World.cell? at h;split at h
 ·split at h
  ·cases h
  ·rename_i b;simpa using b
 ·cases h
def PF(h:a.spot=none)(i:Nat):a.add i=⟨a.block,a.off+i,none⟩:=by
 obtain⟨c,o,s⟩:=a;simp only at h;subst h;unfold Addr.add;by_cases b:i=0
 ·subst b;simp
 ·simp[b]
end
section
variable{H:Type}{b:TypeId×Value->H}{P:Program}
def AX(l:laidOutB P=true){W j:World}(k:Below W.heap.size W j):∀{f:List TypeId}{i:List Value}{g:List (DataW H)}{d:List MemPlace},
 (f.all λt=>P.readableRec t&&decide (t<P.types.size))=true->DataW.TrodAll b P W 0 (λ_=>true) true f i g d->(∀x∈d,x.block<W.heap.size)->∀e:Nat->Bool,(∀p∈d,e p.block=true)->
 DataW.TrodAll b P j 0 e true f i g d
 |[],_,_,_,_,h,_,_,_=>by
  obtain⟨rfl,rfl,rfl⟩:=trodAll_nil h;exact trodAll_mk0
 |t::f,_,_,_,c,h,m,e,n=>by
  obtain⟨v,i,s,g,p,r,rfl,rfl,rfl,o,q⟩:=trodAll_cons h;simp only[Li,bC,ao]at c;exact⟨p,r,WideElems.Trod_stays l c.1.1 c.1.2 o (λx a=>k.same (m x (by simp[a]))) (λx a=>n x (by simp[a])),AX l k (by simpa using c.2) q (λx a=>m x (by simp[a])) e (λx a=>n x (by simp[a])),rfl⟩
def Kc{f:Func}{s:ChangeSpec}{W g:World}{i:Array Value}{d:List (DataW H)}{o:List MemPlace}
 (K:laidOutB P=true)(M:(f.params.toList.all λt=>P.readableRec t&&decide (t<P.types.size))=true)(A:f.resultTypes=#[t])(v:P.underlying t=some .bool)(C:s.vars=[])
 (j:DataW.Whole b P f.params.toList s.vars false W i.toList d [] o)(G:(s.fn H (d++[])).args=d)(I:(s.fn H (d++[])).results=[.lit (.bool true)])(J:(s.fn H (d++[])).vars=[])
 (k:Below W.heap.size W g):s.post b P f false true false false W i (.bool true) g:=by
 have h:∀a∈o,a.block<W.heap.size:=λa l=>by simpa using j.lt a l
 have r:=j
 obtain⟨a,O,F,q,rfl,D,N⟩:=j
 rw[C]at q
 obtain⟨_,rfl⟩:=trodVars_none q
 simp only[fx]at h D r
 have u:∀c:Nat->Bool,(∀x∈a,c x.block=true)->DataW.TrodAll b P g 0 c true f.params.toList i.toList (s.fn H (d++[])).args a:=λc L=>by
  rw[G];exact AX K k M F h c L
 have B:∀c:Nat->Bool,DataW.TrodVars b P g c s.vars (s.fn H (d++[])).vars []:=λc=>by rw[C,J];rfl
 have z:∀(e:Nat)(c:Nat->Bool)(w:Bool),DataW.TrodAll b P g e c w f.resultTypes.toList ((Value.bool true).resultList f.resultTypes.size) (s.fn H (d++[])).results []:=λe c w=>by
  rw[I,A];exact trodAll_cons_mk (shut_bool v _) trodAll_mk0
 refine⟨d,[],a,[],a,[],r,z _ _ _,u _ (λx m=>by simpa using h x m),B _,k.frame _,λ_=>?_⟩
 refine⟨ok_one A rfl (okWide_bool_mk v _),_,_,([]++a)++[],⟨[]++a,[],trodAll_append (u _ (λ_ _=>rfl)) (z _ _ _),B _,rfl,?_,λE=>by cases E⟩,?_⟩
 ·intro e n l
  have y:MemPlace.cell e n∈a:=by simpa using l
  rw[k.frozen (p:=⟨e,n,none⟩) (h _ y)]
  exact D e n y
 ·intro x m _
  simpa using m
end
end Go.Vc
end
section
namespace Go.Proofs.YtgnjacfobdjeeaaGreat
open Go.Vc Go.ChangeShapes
def PV{H:Type}{x:TypeId×Value->H}{P:Program}{w:World}{t e r:Nat}{v:Value}{u:DataW H}{I:List MemPlace}(p:P.underlying t=some (.slice e))(B:P.underlying e=some (.int .u8))(A:P.cellsOf e=1)
 (E:Value.okWide P w .any r t v)(y:DataW.Trod x P w 0 (λ_=>true) true t v u I):∃s,v=O.v s/\Ge w.heap s:=by
 obtain⟨J,q,h,rfl⟩:=Go.WideShapes.okWide_slice p E
 obtain⟨L,C⟩:=y
 rcases open_ints p B A C with⟨b,_⟩|⟨d,N,K,g,b,_,D,M,G,_,l,F⟩
 ·simp[Value.cells]at b
  obtain⟨rfl,rfl,rfl⟩:=b
  exact⟨.nil,rfl,ad _,λk a=>by simp at a⟩
 ·simp[Value.cells]at b
  obtain⟨rfl,rfl,rfl⟩:=b
  simp only[JV]at G
  rcases jq h with i|i
  ·subst i
   have:q=0:=V
   subst this
   obtain⟨c,o,s⟩:=d
   cases s with
   |none=>exact⟨.mk c o 0 0,rfl,ad _,λk a=>by simp at a⟩
   |some f=>exact⟨.Bj c o f,rfl,ad _,λk a=>by simp at a⟩
  ·have z:=l 0 V
   have n:d.spot=none:=by
    have:=PH z;simpa[Addr.add]using this
   obtain⟨c,o,s⟩:=d
   simp only at n
   subst n
   refine⟨.mk c o q h,rfl,D,λk a=>?_⟩
   simp only[O.fj]at a
   have m:k<g.length:=V
   have j:=l k m
   have f:=F (g.getD k 0) (by rw[iH,List.getElem?_eq_getElem m];simp)
   rw[Lit.wf,bC,ao,ao]at f
   refine⟨g.getD k 0,f.1,f.2,?_⟩
   ·rw[PF rfl,xf]at j
    simpa using j
end Go.Proofs.YtgnjacfobdjeeaaGreat
end
