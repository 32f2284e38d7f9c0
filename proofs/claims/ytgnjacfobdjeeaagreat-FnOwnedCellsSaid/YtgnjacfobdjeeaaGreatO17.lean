/- Part of a proof, joined by a program. -/
import Derived.Test.YtgnjacfobdjeeaaGreatO12
import Derived.Test.YtgnjacfobdjeeaaGreatO14
import Derived.Test.YtgnjacfobdjeeaaGreatO16
set_option linter.unusedVariables false
set_option linter.unusedSimpArgs false
set_option linter.defProp false
set_option linter.constructorNameAsVariable false
set_option maxHeartbeats 8000000
set_option maxRecDepth 100000
namespace Go.Proofs.YtgnjacfobdjeeaaGreat
open Go.Vc
section
variable{m:I}{b:List bM}{w:Int}{d:bM}{a:Nat}{W:List Nat}
def pb(n:Int)(m:I):dm bY 67 [vi n] m (gA n):=by
 apply EN;refine⟨λb=>fA ?_ (J.aC _),λb=>bX (λa=>?_) (J.aC _)⟩
 ·simp at b;simp[gA,b]
 ·simp at b;have:=a.1;omega
def Dj{f:O}(d:cV m f b)(k:Ew w):dm bY 165 [O.v f,vi w] m (oL b w):=by
 apply xy;refine(nO d k.2).mono ?_;rintro _ l ⟨a,h,rfl,e,_,g⟩;refine⟨a,h,rfl,λc=>iN (Or.inr (e.1 c)) g,λc=>?_⟩;refine(pb w l).then λi o j n=>⟨i,rfl,fA ?_ (g.trans n)⟩;rw[j];exact⟨Or.inl,λd=>d.resolve_right (fb e c)⟩
structure Gg(b:List bM)(d:bM):Prop where
 lo: -1<=d.aQ
 lp:0<=d.lp/\d.lp<=99
 fl:d.aK.length<=3
 uH:d.aQ<1->d.lp=0
 jx:d.aQ=0->d.aK=[]
 dh:∀w∈d.aK,oL b w/\(d.aQ<0->w=0)
def Gg.ok(a:Gg b d)(f:d.aQ<=999999):mI b d:=
 ⟨a.fl,a.lo,f,λe=>⟨a.uH e,λw c=>by
  by_cases g:d.aQ<0
  ·exact(a.dh w c).2 g
  ·rw[a.jx V]at c;simp at c,a.jx⟩,λ_=>⟨λw c=>(a.dh w c).1,a.lp⟩⟩
def mI.v(a:mI b d):Gg b d:=by
 refine⟨a.lo,?_,a.fl,λg=>(a.uH g).1,λf=>(a.uH V).2.2 f,λw e=>⟨?_,λh=>(a.uH V).2.1 w e⟩⟩
 ·by_cases c:0<d.aQ
  ·exact(a.oC c).2
  ·have:=(a.uH V).1;omega
 ·by_cases c:0<d.aQ
  ·exact(a.oC c).1 w e
  ·have:=(a.uH V).2.1 w e;exact Or.inl (by subst this;exact⟨bd,bd⟩)
def Gg.cases(c:Gg b d)(e:w∈d.aK):jc b w\/w<1000:=by
 rcases(c.dh w e).1 with a|a
 ·have:=a.2;exact Or.inr V
 ·exact Or.inl a
def Dc{B j:O}(K:cV m B b)(z:ar m j d.aK)(N:∀w∈d.aK,Ew w):dm bY 122 [O.v B,.agg #[vi d.aQ,vi d.lp,O.v j]] m (Gg b d):=by
 apply xp;simp -zeta only[aE,aD];intro e;have f:J m e:=(J.aC m).aM _;have T:e.size=m.size+1:=by simp[e]
 clear_value e;have A:=z.len;have L:∀F∈[m.size],F<e.size:=bK;refine⟨λo=>bX (λc=>by have:=c.lo;simp at o;omega) f,λo=>⟨λp=>bX (λc=>by have:=c.lp;simp at p;omega) f,λp=>⟨λq=>bX (λc=>by have:=c.lp;simp at q;omega) f,λq=>⟨λt=>bX (λc=>by have:=c.fl;simp at t;omega) f,λt=>?_⟩⟩⟩⟩;simp at o p q t;refine⟨λM=>M=e/\(d.aQ<1->d.lp=0)/\(d.aQ=0->d.aK=[]),?_,?_⟩
 ·have zero:(d.aQ<1->d.lp=0)->((d.aQ==(0:Int))=true->((decide ((j.len:Int)>(0:Int)))=true->∃a:Bool,vb false=.bool a/\(a=true<->Gg b d)/\J m e)/\
   ((decide ((j.len:Int)>(0:Int)))=false->e=e/\(d.aQ<1->d.lp=0)/\(d.aQ=0->d.aK=[])))/\((d.aQ==(0:Int))=false->e=e/\(d.aQ<1->d.lp=0)/\(d.aQ=0->d.aK=[])):=λh=>
   ⟨λg=>⟨λa=>bX (λc=>by have:=c.jx (by simpa using g);rw[this]at A;simp at a A;omega) f,λa=>⟨rfl,h,λ_=>List.length_eq_zero_iff.1 (by simp at a;omega)⟩⟩,λg=>⟨rfl,h,λa=>by simp at g;exact absurd a g⟩⟩
  refine⟨λg=>⟨λa=>bX (λc=>by have:=c.uH (by simpa using g);simp at a;exact a this) f,λa=>zero λ_=>by simpa using a⟩,λg=>zero λa=>by simp at g;omega⟩
 ·rintro P ⟨rfl,I,H⟩;refine dO (n:=d.aK.length) V (λy h=>J P h/\∀w∈d.aK.take y,oL b w/\(d.aQ<0->w=0)) ⟨J.aC _,E⟩ ?_;rintro y S Q μ R ⟨s,x⟩ D
  refine dit (λg=>?_) λg=>?_
  ·obtain⟨w,h⟩:=ag (l:=d.aK) (k:=y) V;refine⟨V,V,w,by simpa using(z.ext (f.trans s)).u h,(Dj (cV.ext (f.trans s) K) (N w (au h))).aG s L λG C v U r=>⟨G,rfl,λa=>bX (λc=>nb v a (c.dh w (au h)).1) (f.trans r),λa=>⟨λu=>⟨λi=>bX (λc=>?_) (f.trans r),λi=>?_⟩,λu=>?_⟩⟩⟩
   ·have:=(c.dh w (au h)).2 (by simpa using u);simp at i;exact i this
   ·exact D V C ⟨r,bD h x ⟨yb v a,λ_=>by simpa using i⟩⟩
   ·exact D V C ⟨r,bD h x ⟨yb v a,λi=>by simp at u;omega⟩⟩
  ·exact iN ⟨o,⟨p,q⟩,V,I,H,cF V x⟩ (f.trans s)
def fN(mk:Nat->Bool):Nat->List bM->Nat->Int
 |_,[],_=>0
 |i,d::b,a=>(if mk i=true then 0 else dS d.aK a)+fN mk (i+1) b a
def By:∀(i:Nat)(b:List bM)(a:Nat),fN (λ_=>false) i b a=dq b a
 |_,[],_=>rfl
 |i,d::b,a=>by simp[fN,dq,By (i+1) b a]
def Dr(mk:Nat->Bool):∀(i:Nat)(b:List bM)(a:Nat),0<=fN mk i b a
 |_,[],_=>dZ 0
 |i,d::b,a=>by have:=Dr mk (i+1) b a;have:=gL d.aK a;simp only[fN];split<;>omega
def Np(mk:Nat->Bool):∀(i:Nat)(b:List bM)(a:Nat),fN mk i b a<=dq b a
 |_,[],_=>dZ 0
 |i,d::b,a=>by have:=Np mk (i+1) b a;have:=gL d.aK a;simp only[fN,dq];split<;>omega
def GG{mk e:Nat->Bool}:∀{i:Nat}{b:List bM}{a:Nat},(∀j,i<=j->mk j=e j)->fN mk i b a=fN e i b a
 |_,[],_,_=>rfl
 |i,d::b,a,c=>by simp only[fN];rw[c i (ad _),GG λj f=>c j V]
def KY{mk:Nat->Bool}:∀{e:Nat}{b:List bM}{f:Nat}{d:bM},b[f]? =some d->mk (e+f)=false->∀a,fN (kX mk (e+f)) e b a=fN mk e b a -dS d.aK a
 |_,[],_,_,b,_,_=>by simp at b
 |e,m::b,0,d,j,l,a=>by
  simp at j;subst j;have g:=GG (mk:=kX mk e) (e:=mk) (i:=e+1) (b:=b) (a:=a) λo n=>mE V;rw[iJ]at l⊢;simp only[fN,tV,l,g];simp;omega
 |e,m::b,f+1,d,j,l,a=>by
  have g:e+(f+1)=e+1+f:=V;have:=KY (mk:=mk) (e:=e+1) (b:=b) (f:=f) (d:=d) (by simpa using j) (by rw[<-g];exact l) a;simp only[fN];rw[g,this,mE V];omega
def No{mk:Nat->Bool}:∀{e:Nat}{b:List bM}{j:Nat}{d:bM},b[j]? =some d->mk (e+j)=false->∀a,dS d.aK a<=fN mk e b a
 |_,[],_,_,b,_,_=>by simp at b
 |e,l::b,0,d,f,g,a=>by
  simp at f;subst f;have:=Dr mk (e+1) b a;simp only[iJ]at g;simp only[fN,g];simp;omega
 |e,l::b,j+1,d,f,g,a=>by
  have:=No (mk:=mk) (e:=e+1) (b:=b) (j:=j) (d:=d) (by simpa using f) (by rw[<-g];congr 1;omega) a;have:=gL l.aK a;simp only[fN];split<;>omega
def KX{mk:Nat->Bool}:∀{i:Nat}{b:List bM}{a:Nat},0<fN mk i b a->∃(k:Nat)(d:bM),b[k]? =some d/\mk (i+k)=false/\(1000+(a:Int))∈d.aK
 |_,[],_,b=>by simp[fN]at b
 |i,c::b,a,g=>by
  simp only[fN]at g;by_cases f:mk i=false/\0<dS c.aK a
  ·exact⟨0,c,rfl,f.1,LZ f.2⟩
  ·have:0<fN mk (i+1) b a:=by
    have:=gL c.aK a;split at g
    ·omega
    ·rename_i h;have:¬0<dS c.aK a:=λe=>f ⟨by simpa using h,e⟩;omega
   obtain⟨k,d,h,e,j⟩:=KX this;exact⟨k+1,d,by simpa using h,by rw[<-e];congr 1;omega,j⟩
def Qi(b:List bM)(mk:Nat->Bool):Prop:=
 ∃t:Nat->Nat,(∀j,mk j=true->t j<=kW mk b.length)/\∀(i:Nat)(d:bM),b[i]? =some d->∀w∈d.aK,1000<=w->mk (ix w)=true->mk i=true/\t i<t (ix w)
def Qi.set{mk:Nat->Bool}(u:Qi b mk)(t:a<b.length)(k:mk a=false)(B:fN mk 0 b a=0):Qi b (kX mk a):=by
 obtain⟨A,n,s⟩:=u;have r:=xg k t;have v:∀(c:Nat)(d:bM),b[c]? =some d->(1000+(a:Int))∈d.aK->mk c=true:=λc d f g=>by
  cases e:mk c
  ·have h:=No (mk:=mk) (e:=0) f (by rw[bN];exact e) a;have j:=sJ g;omega
  ·rfl
 refine⟨λx=>if x=a then kW mk b.length+1 else A x,λy o=>?_,λc d f w g q p=>?_⟩
 ·simp only[r];split
  ·omega
  ·rename_i h;rw[mE h]at o;have:=n y o;omega
 ·by_cases h:ix w=a
  ·have e:=v c d f (by rw[<-h,gP q];exact g);have l:c≠a:=λj=>by rw[j,k]at e;cases e
   simp only[aq h,ae l];exact⟨zq e,by have:=n c e;omega⟩
  ·rw[mE h]at p;obtain⟨m,z⟩:=s c d f w g q p;have l:c≠a:=λj=>by rw[j,k]at m;cases m
   simp only[ae h,ae l];exact⟨zq m,z⟩
def MR(f:Nat->Nat):∀n,∃B,∀i,i<n->f i<=B
 |0=>⟨0,λi a=>absurd a (fy _)⟩
 |n+1=>by
  obtain⟨B,c⟩:=MR f n;refine⟨B+f n,λi a=>?_⟩;rcases aV i n with b|b
  ·have:=c i b;omega
  ·have:i=n:=V;subst this;omega
def Sd{mk:Nat->Bool}(r:Qi b mk)(q:∀d∈b,∀w∈d.aK,1000<=w->ix w<b.length)(o:∀a,a<b.length->fN mk 0 b a=0->mk a=true):
 kW mk b.length=b.length<->Qb b:=by
 rw[Io]
 constructor
 ·intro g
  obtain⟨t,e,c⟩:=r
  refine⟨λx=>b.length -t x,λi d h w j f=>?_⟩
  have k:=q d (au h) w j f
  have:=(c i d h w j f (g _ k)).2
  have:=e _ (g _ k)
  have:=CS mk b.length
  show b.length -t (ix w)<b.length -t i
  omega
 ·rintro⟨h,s⟩
  obtain⟨B,m⟩:=MR h b.length
  have u:∀(n i:Nat),B -h i<n->i<b.length->mk i=true:=by
   intro n;induction n with
   |zero=>intro i g;omega
   |succ n t=>
    intro i g p;refine o i p (Int.le_antisymm (Int.not_lt.1 λf=>?_) (Dr _ _ _ _));obtain⟨k,d,e,c,l⟩:=KX f;rw[bN]at c;have:=s k d e _ l V;rw[jL]at this;have j:=ax e;have:=m k j;rw[t k V j]at c;cases c
  exactλi g=>u (B -h i+1) i V g
structure Ey(b:List bM)(mk:Nat->Bool)(W:List Nat)(lf:Nat->Int):Prop where
 IZ:W.Nodup
 un:∀a∈W,a<b.length/\mk a=false
 zero:∀a,a<b.length->(lf a=0<->(mk a=true\/a∈W))
def Dl:∀(n:Nat)(W:List Nat),W.Nodup->(∀a∈W,a<n)->W.length<=n
 |0,[],_,_=>ad _
 |0,a::_,_,b=>absurd (b a E) (fy _)
 |n+1,W,d,b=>by
  by_cases e:n∈W
  ·have f:=Dl n (W.erase n) (d.erase n) λa c=>by
    have:=d.mem_erase_iff.1 c;have:=b a this.2;omega
   rw[List.length_erase_of_mem e]at f;omega
  ·have:=Dl n W d λa c=>by
    have:=b a c;have:a≠n:=λf=>e (f▸c);omega
   omega
def Ey.len{mk:Nat->Bool}{d:Nat->Int}(K:Ey b mk W d):W.length<=b.length:=Dl _ _ K.IZ λa c=>(K.un a c).1
def Ey.UP{mk:Nat->Bool}{f:Nat->Int}(K:Ey b mk (W++[a]) f):Ey b (kX mk a) W f:=by
 obtain⟨g,i,h⟩:=List.nodup_append.1 K.IZ;refine⟨g,λx c=>?_,λx c=>?_⟩
 ·have d:=K.un x (bB _ c);refine⟨d.1,?_⟩;rw[mE λe=>h x c a E e];exact d.2
 ·rw[K.zero x c];by_cases e:x=a
  ·subst e;simp[tV]
  ·rw[mE e];simp[e]
def Ey.rG{mk:Nat->Bool}{g lf':Nat->Int}(K:Ey b mk W g)(i:a<b.length)(j:∀x,lf' x=if x=a then g x -1 else g x)(l:0<g a):
 (lf' a=0->Ey b mk (W++[a]) lf')/\(lf' a≠0->Ey b mk W lf'):=by
 have f:mk a≠true/\a∉W:=by
  have:=(K.zero a i).2;constructor
  ·intro d;have:=this (Or.inl d);omega
  ·intro d;have:=this (Or.inr d);omega
 refine⟨λh=>⟨?_,λx c=>?_,λx c=>?_⟩,λh=>⟨K.IZ,K.un,λx c=>?_⟩⟩
 ·rw[YJ]
  refine⟨K.IZ,E,λx c y k e=>?_⟩
  simp at k;subst k;subst e;exact f.2 c
 ·rcases List.mem_append.1 c with c|c
  ·exact K.un x c
  ·simp at c;subst c;exact⟨i,by simpa using f.1⟩
 ·by_cases e:x=a
  ·subst e;simp[h]
  ·rw[j x,ae e,K.zero x c];simp[e]
 ·by_cases e:x=a
  ·subst e
   constructor
   ·intro d;exact absurd d h
   ·rintro(d|d)
    ·exact absurd d f.1
    ·exact absurd d f.2
  ·rw[j x,ae e,K.zero x c]
end
section
variable{c:Nat->Nat}{m:I}{b d a:Nat}{s:O}{e:Nat->Int}
def RS(W:List Nat):List Int:=W.map λ(a:Nat)=>(a:Int)
def HQ(W:List Nat):(RS W).length=W.length:=by simp[RS]
def Ir(W:List Nat)(a:Nat):RS (W++[a])=RS W++[(a:Int)]:=by simp[RS]
def Td(h:gX c m aB 1 b s ((qJ d e).map Ce.i))(i:d<=9223372036854775807)(g:a<d):D m s.F (s.off+Int.toNat (a:Int)*1)=some (vi (e a)):=by
 have:=(h.ov (by rw[lR];exact i)).u (qK (f:=e) g);simpa using this
def Ra(h:gX c m aB 1 b s ((qJ d e).map Ce.i)):s.len=d:=by have:=h.len;simp[lR]at this;omega
def Ux{g:Nat->Int}(h:gX c m aB 1 b s ((qJ d e).map Ce.i))(q:a<d){v:Int}(o:∀f,f<d->g f=if f=a then v else e f)(p:∀f,m.size<=f->c f=0):
 fm m s.F (s.off+Int.toNat (a:Int)*1) 1/\gX c (aj m s.F (s.off+Int.toNat (a:Int)*1) [.i v]) aB 1 b s ((qJ d g).map Ce.i)/\dy (λj=>j=b) c m c (aj m s.F (s.off+Int.toNat (a:Int)*1) [.i v]):=by
 have i:(0:Int)<=(a:Int):=V
 have j:(a:Int)<((qJ d e).length:Nat):=by rw[lR];omega
 have k:=h.gU i j v
 have l:gU (qJ d e) (a:Int) v=qJ d g:=by
  unfold gU;rw[show Int.toNat (a:Int)=a by omega,Pw];exact eG λf n=>(o f n).symm
 rw[l]at k
 have r:=Ra h
 have t:=h.le
 exact⟨h.P9 i j,k,dy.aj p (h.F V).2 _ _⟩
def U0(m:I)(h:List bM)(v:Value)(c:I):Prop:=∃(s:O)(b:Bool),v=.tuple #[O.v s,vb b]/\(b=true<->Ev h)/\
 (b=true->∃a,s=.mk a 0 h.length h.length/\m.size<=a/\cB c a aB ((qJ h.length (dq h)).map Ce.i))/\J m c
def qe{S:O}{h:List bM}(A:cV m S h)(aU:ME h)(bn:h.length<=1000000000):aN bY 68 [O.v S] m (U0 m h):=by
 apply uO;simp -zeta only[aE,aD];have hl:=A.len;have en:Int.toNat (S.len:Int)=h.length:=V;rw[en];refine⟨V,V,V,V,?_⟩;intro m1;have x1:J m m1:=(J.aC m).aM _;have B1:cB m1 m.size aB ((qJ h.length (λ_=>0)).map Ce.i):=JN m _;clear_value m1;have no:∀{M:I},J m M->¬Ev h->U0 m h (.tuple #[O.v O.nil,vb false]) M:=λZ L=>⟨.nil,false,rfl,by simp[L],E,Z⟩;have ap:∀d:Nat,Int.toNat (d:Int)=d:=λd=>V;simp -zeta only[O.fj,O.iT,O.lY,bN];refine dO (n:=h.length) V (λy p=>J m p/\cB p m.size aB ((qJ h.length (λa=>dq (h.take y) a)).map Ce.i)/\∀j∈h.take y,Gg h j) ⟨x1,by simpa[dq]using B1,E⟩ ?_;rintro y m2 bv μ hi ⟨x2,B2,ak⟩ aa
 have bE:=B2.lt;have h3:∀j∈h.take y,j.aK.length<=3:=λj hm=>(ak j hm).fl;refine dit (λh1=>?_) λh1=>?_
 ·obtain⟨j,t⟩:=ag (l:=h) (k:=y) V;have af:=au t;obtain⟨e,hf,g0,g1,g2⟩:=(cV.ext x2 A).u t;rw[ap];refine⟨V,V,j.aQ,g0,j.lp,g1,e,g2,?_⟩;intro R P;have q:J m2 P:=((J.aC m2).aM _).aj (ad _) _ _;have s4:P.size=m2.size+1:=by simp[P,R,az]
  clear_value P;refine(Dc (cV.ext (x2.trans q) A) (hf.ext q) (aU j af)).aG (J.aC _) bK λo m5 Y u _=>⟨o,rfl,λh2=>no ((x2.trans q).trans u) λB=>nb Y h2 (B.cells j af).v,λh2=>?_⟩;have C:=yb Y h2;have bf:=C.fl;have z5:=u.size;have W:=B2.ext (q.trans u);have f5:=hf.ext (q.trans u);have X5:=(x2.trans q).trans u;have al:=hf.len;refine dO (n:=j.aK.length) V (λb p=>J m p/\m2.size<p.size/\ar p e j.aK/\cB p m.size aB ((qJ h.length (λa=>dq (h.take y) a+dS (j.aK.take b) a)).map Ce.i)) ⟨X5,V,f5,by simpa[dS]using W⟩ ?_;rintro b r aj ν B ⟨Q,z6,H,p⟩ U;refine dit (λh4=>?_) λh4=>?_
  ·obtain⟨w,N⟩:=ag (l:=j.aK) (k:=b) V;have aw:=au N;have aR:=aU j af w aw;refine⟨V,V,w,by simpa using H.u N,(nO (cV.ext Q A) aR.2).mono ?_⟩;rintro _ s ⟨a,X,rfl,T,ab,K⟩;have z7:=K.size;refine⟨K.da bK,a,X,rfl,λG=>?_,λG=>?_⟩
   ·have ai:=T.1 G;have ah:=ax (cp ai).1;have e1:=ab G;subst e1;have x:=p.ext K;have q1:=zn (h.take y) (ix w) h3;have q2:=jM (j.aK.take b) (ix w);have q3:=nV (h.take y) (ix w);have q4:=gL (j.aK.take b) (ix w);have q5:(h.take y).length<=h.length:=bK;have q6:(j.aK.take b).length<=3:=bK;rw[ap,dG];refine⟨V,V,_,pY x ah,V,V,Lc x ah,?_⟩;rw[show cK (dq (h.take y) (ix w)+dS (j.aK.take b) (ix w)+1)=dq (h.take y) (ix w)+dS (j.aK.take b) (ix w)+1 from aP V V];have F:=FY x (ix w) (dq (h.take y) (ix w)+dS (j.aK.take b) (ix w)+1);rw[eG (g:=λa=>dq (h.take y) a+dS (j.aK.take (b+1)) a)]at F
    ·refine⟨λo Y=>bh _ _ _ _ (by simp at Y;omega),U V _ ⟨(Q.trans K).aj (ad _) _ _,by rw[az];omega,?_,F⟩⟩;obtain⟨f0,aT,_,_,w2⟩:=A.u t;have er:f0=e:=by have:=x2.D w2;rw[g2]at this;exact(O.GM.1 (mB this)).symm
     subst er;exact aT.ext ((Q.trans K).aj (ad _) _ _)
    ·intro o Y;rw[pw N];by_cases z:o=ix w
     ·subst z;rw[aq rfl,aq (gP ai.1).symm];omega
     ·rw[ae z,ae (λac=>z (by rw[ac,jL]))];omega
   ·refine U V s ⟨Q.trans K,V,H.ext K,?_⟩;have bk:w<1000:=(C.cases aw).resolve_left (fb T G);rw[eG (g:=λa=>dq (h.take y) a+dS (j.aK.take b) a)]
    ·exact p.ext K
    ·intro o Y;rw[pw N,ae V];omega
  ·have x:j.aK.take b=j.aK:=bZ V;rw[x]at p;refine aa V r ⟨Q,?_,bD t ak C⟩
   rw[eG (g:=λa=>dq (h.take y) a+dS j.aK a)]
   ·exact p
   ·intro o Y;exact K4 t o
 have ei:h.take y=h:=bZ V;rw[ei]at B2 ak h3;clear aa
 have a3:∀j∈h,∀w∈j.aK,jc h w\/w<1000:=λj u w N=>(ak j u).cases N;have ai:∀j∈h,∀w∈j.aK,1000<=w->ix w<h.length:=λj hm w N S=>by
  rcases a3 j hm w N with h1|h1
  ·exact ax (cp h1).1
  ·omega
 refine⟨λM=>m2=M/\mC h,⟨λh2=>?_,λh2=>⟨rfl,λj u=>?_⟩⟩,?_⟩
 ·simp at h2;rw[aP V V];obtain⟨j,u⟩:=ag (l:=h) (k:=h.length -1) V;obtain⟨e,hf,g1,_,_⟩:=(cV.ext x2 A).u u;have z:Int.toNat ((S.len:Int) -1)=h.length -1:=V;rw[z];refine⟨V,V,j.aQ,g1,λh3=>no x2 λB=>?_,λh3=>⟨rfl,λam hd=>?_⟩⟩
  ·exact B.iA j u (by simpa using h3)
  ·rw[u]at hd;simp at hd;subst hd;simpa using h3
 ·have:=ax u;simp at h2;omega
 rintro _ ⟨rfl,bo⟩;refine(zG (Mo B2 V) (by rw[lR];exact bn)).mono ?_;rintro _ R ⟨C,rfl,or,x3⟩;have z3:=x3.size;have B3:=B2.ext x3;have X3:=x2.trans x3;have bI:=x2.size;obtain⟨F,aI⟩:∃F:Nat->Nat,F=λo=>if C.Dk=false/\o=C.F then 2 else if o=m.size then 1 else 0:=⟨_,rfl⟩
 have aH:C.Dk=false->m2.size<=C.F/\C.F<R.size:=λL=>by
  have aj:C≠.nil:=λz=>by rw[z]at L;simp at L
  exact⟨or.F.resolve_left aj,or.lt.resolve_left aj⟩
 have aY:∀o,o≠m.size->(C.Dk=false->o≠C.F)->F o=0:=λo h4 G=>by
  rw[aI];exact(ae λA=>G A.1 A.2).trans (ae h4)
 have bu:F m.size=1:=by
  rw[aI];exact(ae λA=>by have:=aH A.1;omega).trans (aq rfl)
 have bq:∀o,R.size<=o->F o=0:=λo Y=>aY o V λL=>by have:=aH L;omega
 have bb:∀o,o<m.size->F o=0:=λo Y=>aY o V λL=>by have:=aH L;omega
 have A3:gX F R aB 1 2 C ((qJ h.length (dq h)).map Ce.i):=gX.ij or λaj=>by
  rw[aI];refine aq ⟨?_,rfl⟩;cases C with
  |nil=>exact absurd rfl aj
  |_=>rfl
 have bB:=Ra A3;clear aH aY aI;have aK:∀{c a8:Nat->Nat}{M M':I},dy (λb=>b=2\/b=6) c M a8 M'->To c M a8 M':=λu=>u.mono λb B=>V;have aO:∀{c:Nat->Nat}{M:I},dy (λb=>b=2\/b=6) F R c M->J m M:=λu=>((aK u).cG X3 bb).1;have a7:∀{c:Nat->Nat}{M:I},dy (λb=>b=2\/b=6) F R c M->cB M m.size aB ((qJ h.length (dq h)).map Ce.i):=λu=>B3.congr (u.fu _ B3.lt (by rw[bu];decide));have bs:gX F R aB 1 6 .nil (([]:List Int).map Ce.i):=⟨E,E,Or.inl rfl⟩;refine⟨C,rfl,dC (σ:=O) (n:=h.length) V (λb T M=>∃c W,dy (λb=>b=2\/b=6) F R c M/\gX c M aB 1 2 C ((qJ h.length (dq h)).map Ce.i)/\gX c M aB 1 6 T ((RS W).map Ce.i)/\W.Nodup/\(∀a∈W,a<b)/\(∀a,a<b->(dq h a=0<->a∈W))/\
  ∀(a:Nat)(j:bM),a<b->h[a]? =some j->0<j.aQ->dq h a<=j.aQ/\j.aQ<=999999) ⟨F,[],dy.aC _ bq,A3,bs,E,E,E,E⟩ ?_⟩
 rintro b T P I2 μ2 B ⟨ab,W,C4,A4,W4,av,al,aJ,aG⟩ aa
 have X4:=aO C4;refine dit (λh4=>?_) λh4=>?_
 ·have an:b<h.length:=V;obtain⟨j,ac⟩:=ag an;obtain⟨e,hf,g0,g1,g2⟩:=(cV.ext X4 A).u ac;rw[ap];refine⟨V,V,j.aQ,g0,j.lp,g1,e,g2,?_⟩;intro m5 r;have Q:J P r:=((J.aC P).aM _).aj (ad _) _ _;have s6:r.size=P.size+1:=by simp[r,m5,az]
  clear_value r;have ay:dy (λb=>b=2\/b=6) ab P ab r:=dy.fe _ Q C4.new;have C6:=C4.trans ay;have F6:dy (λ_=>False) ab P ab r:=dy.fe _ Q C4.new;have A6:=A4.eY F6 id;have W6:=W4.eY F6 id;have g6:=pY (a7 C6) an;have fw:(0<j.aQ->dq h b<=j.aQ/\j.aQ<=999999)->∀(a:Nat)(j:bM),a<b+1->h[a]? =some j->0<j.aQ->dq h a<=j.aQ/\j.aQ<=999999:=λL a am q hd=>by
   rcases aV a b with U|U
   ·exact aG a am U hd
   ·have:a=b:=V;subst this;rw[ac]at hd;simp at hd;subst hd;exact L
  have jG:(0<j.aQ->dq h b<=j.aQ/\j.aQ<=999999)->((0:Int)<=b/\(b:Int)<(h.length:Int)/\∃t:Int,D r m.size (b*1)=some (vi t)/\
   ((t==(0:Int))=true->let x:I:=r.push (.cells (br [.i (b:Int)]) 3)
    iS x 3 [.i (0:Int)] 8 T (O.mk r.size 0 1 1) λH p=>dV [P.size] x p/\I2 H (cK ((b:Int)+(1:Int))) p/\μ2 H (cK ((b:Int)+(1:Int))) p<μ2 T b P)/\
   ((t==(0:Int))=false->I2 T (cK ((b:Int)+(1:Int))) r/\μ2 T (cK ((b:Int)+(1:Int))) r<μ2 T b P)):=λL=>by
   refine⟨V,V,_,by rw[dG];exact g6,λH=>?_,λH=>?_⟩
   ·intro s
    have K:J r s:=(J.aC r).aM _
    have k7:cB s r.size 3 [.i (b:Int)]:=cB.push r _ _
    have s7:s.size=r.size+1:=by simp[s]
    have F7:dy (λ_=>False) ab r ab s:=dy.fe _ K C6.new
    have C7:dy (λb=>b=2\/b=6) F R ab s:=C6.trans (dy.fe _ K C6.new)
    have aA:=W6.len
    simp[HQ]at aA
    have aF:W.length<=h.length:=Dl _ _ av λa q=>by have:=al a q;omega
    refine gX.append (zs:=[.i 0]) (c:=[.i (b:Int)]) (W6.eY F7 id) C7.new E k7.je (by simp only[O.fj];omega) λt a6 m8 aC c8=>⟨?_,?_⟩
    ·exact(aK (c8.mono λp hj=>Or.inr hj)).da (by simp;exact⟨V,C4.new _ (ad _)⟩)
    ·refine aa V _ _ ⟨t,W++[b],C7.trans (c8.mono λp hj=>Or.inr hj),(A6.eY F7 id).eY c8 bd,by rw[Ir];simpa using aC,?_,λa q=>?_,λa q=>?_,fw L⟩
     ·rw[YJ]
      refine⟨av,E,λx Z aM X z=>?_⟩
      simp at X;subst X;subst z;have:=al _ Z;omega
     ·rcases List.mem_append.1 q with q|q
      ·have:=al a q;omega
      ·simp at q;omega
     ·rcases aV a b with X|X
      ·rw[aJ a X];simp;omega
      ·have:a=b:=V
       subst this
       simp at H;simp[H]
   ·refine aa V _ _ ⟨ab,W,C6,A6,W6,av,λa q=>by have:=al a q;omega,λa q=>?_,fw L⟩
    rcases aV a b with X|X
    ·exact aJ a X
    ·have:a=b:=V
     subst this
     simp at H
     simp only[H,Y4]
     intro hm;have:=al _ hm;omega
  refine⟨λG=>⟨V,V,_,by rw[dG];exact g6,λU=>no (X4.trans Q) λB=>?_,λU=>⟨λH=>no (X4.trans Q) λB=>?_,λH=>jG λ_=>by simp at U H;omega⟩⟩,λG=>jG λU=>by simp at G;omega⟩
  ·have:=B.dq b j ac (by simpa using G);simp at U;omega
  ·have:=(B.cells j (au ac)).hi;simp at H;omega
 have bg:b=h.length:=V;subst bg;clear aa h4
 have be:∀j∈h,mI h j:=λj u=>by
  obtain⟨a,q⟩:=List.mem_iff_getElem?.1 u;refine(ak j u).ok ?_;rcases Gc 0 j.aQ with S|S
  ·exact(aG a j (ax q) q S).2
  ·omega
 have bm:∀(a:Nat)(j:bM),h[a]? =some j->0<j.aQ->dq h a<=j.aQ:=λa j q S=>(aG a j (ax q) q S).1;have bj:∀mk a,fN mk 0 h a<=3*h.length:=λmk a=>by
  have:=Np mk 0 h a;have:=zn h a λj hm=>(ak j hm).fl;omega
 have K0:Ey h (λ_=>false) W (fN (λ_=>false) 0 h):=⟨av,λa q=>⟨al a q,rfl⟩,λa q=>by rw[By,aJ a q];simp⟩;have c0:kW (λ_=>false) h.length=0:=by
  generalize h.length=d;induction d with
  |zero=>rfl
  |succ d Q=>simp[kW,Q]
 refine Pz (γ:=(Nat->Bool)×List Nat) (λQ T a5 M=>∃c,a5=(kW Q.1 h.length:Nat)/\dy (λb=>b=2\/b=6) F R c M/\gX c M aB 1 2 C ((qJ h.length (fN Q.1 0 h)).map Ce.i)/\gX c M aB 1 6 T ((RS Q.2).map Ce.i)/\Ey h Q.1 Q.2 (fN Q.1 0 h)/\Qi h Q.1)
  (λQ=>h.length -kW Q.1 h.length) (λ_=>false,W) ⟨ab,by rw[c0];rfl,C4,by rw[eG (g:=dq h) λo _=>By 0 h o];exact A4,W4,K0,λ_=>0,E,E⟩ ?_
 clear C4 A4 W4 K0 c0 X4 av al aJ aG;rintro⟨mk,W⟩ T a5 m5 I3 μ3 ⟨ac,rfl,C5,A5,W5,K5,O5⟩ aa
 simp only at A5 W5 K5 O5 aa
 have X5:=aO C5;have aA:=W5.len;simp[HQ]at aA;have bw:=K5.len;refine⟨λG=>?_,λG=>?_⟩
 ·simp only[mH,ao]at G;have aj:W≠[]:=λz=>by subst z;simp at aA;omega
  obtain⟨W',a,rfl⟩:∃W' a,W=W'++[a]:=⟨W.dropLast,W.getLast aj,(gV aj).symm⟩;rw[Ir]at W5;obtain⟨p1,p2,p3⟩:=W5.UP;rw[HQ]at p1 p2 p3;have e1:cK ((T.len:Int) -1)=(W'.length:Int):=by rw[aP V V];omega
  obtain⟨aC,aS⟩:=K5.un a E;obtain⟨j,aF⟩:=ag aC;have af:=au aF;have bf:=(ak j af).fl;obtain⟨e,hf,g0,g1,g2⟩:=(cV.ext X5 A).u aF;rw[e1,ap];have bC:=W5.le;refine⟨V,V,a,p2,V,V,?_⟩;rw[ap];refine⟨j.aQ,g0,j.lp,g1,e,g2,?_⟩;intro r s;have K:J m5 s:=((J.aC m5).aM _).aj (ad _) _ _;have s7:s.size=m5.size+1:=by simp[s,r,az]
  clear_value s;have F7:dy (λ_=>False) ac m5 ac s:=dy.fe _ K C5.new;have C7:dy (λb=>b=2\/b=6) F R ac s:=C5.trans (dy.fe _ K C5.new);have bz:=hf.len;have hz:fN mk 0 h a=0:=(K5.zero a aC).2 (Or.inr E);have O7:=O5.set aC aS hz;have aW:=λx=>KY (mk:=mk) (e:=0) aF (by rw[bN];exact aS) x;simp only[bN]at aW;have es:=xg aS aC;have bx:=CS (kX mk a) h.length;have K7:Ey h (kX mk a) W' (λx=>fN (kX mk a) 0 h x+dS (j.aK.drop 0) x):=by
   have:=K5.UP;refine⟨this.IZ,this.un,λx Z=>?_⟩;rw[<-this.zero x Z,aW,List.drop_zero];constructor<;>intro h<;>omega
  refine⟨V,V,V,dC (σ:=O) (n:=j.aK.length) V (λp wk M=>∃c W2,dy (λb=>b=2\/b=6) ac s c M/\gX c M aB 1 2 C ((qJ h.length (λx=>fN (kX mk a) 0 h x+dS (j.aK.drop p) x)).map Ce.i)/\gX c M aB 1 6 wk ((RS W2).map Ce.i)/\Ey h (kX mk a) W2 (λx=>fN (kX mk a) 0 h x+dS (j.aK.drop p) x))
   ⟨ac,W',dy.aC _ C7.new,?_,?_,K7⟩ ?_⟩
  ·have:=A5.eY F7 id;rw[eG (g:=fN mk 0 h) λo _=>by simp only[aW,List.drop_zero];omega];exact this
  ·exact p3.eY F7 id
  rintro p wk m8 I4 μ4 hj ⟨t,W2,C8,A8,W8,K8⟩ aX;have X8:=aO (C7.trans C8);have T8:=aK C8;have r7:m5.size<m8.size/\t m5.size=0:=⟨by have:=C8.size;omega,by rw[C8.iW _ V];exact C5.new _ (ad _)⟩;refine dit (λU=>?_) λU=>?_
  ·obtain⟨w,N⟩:=ag (l:=j.aK) (k:=p) V;have aw:=au N;have aR:=aU j af w aw;have a4:j.aK.drop p=w::j.aK.drop (p+1):=by
    rw[oD (ax N)];congr 1;exact(List.getElem?_eq_some_iff.1 N).2
   obtain⟨f0,aT,_,_,w2⟩:=A.u aF;have er:f0=e:=by have:=X5.D w2;rw[g2]at this;exact(O.GM.1 (mB this)).symm
   subst er;refine⟨V,V,w,by simpa using(aT.ext X8).u N,(nO (cV.ext X8 A) aR.2).mono ?_⟩;rintro _ m9 ⟨a6,b9,rfl,a2,bl,x9⟩;have z9:=x9.size;have F9:dy (λ_=>False) t m8 t m9:=dy.fe _ x9 C8.new;have C9:dy (λb=>b=2\/b=6) ac s t m9:=C8.trans (dy.fe _ x9 C8.new);have A9:=A8.eY F9 id;have W9:=W8.eY F9 id;refine⟨x9.da bK,a6,b9,rfl,λH=>?_,λH=>?_⟩
   ·have ai:=a2.1 H;have ah:=ax (cp ai).1;have e9:=bl H;subst e9;have am:∀x,dS (j.aK.drop p) x=(if x=ix w then 1 else 0)+dS (j.aK.drop (p+1)) x:=λx=>by rw[a4,gK ai.1]
    have bc:=am (ix w);rw[aq rfl]at bc;have n1:=Dr (kX mk a) 0 h (ix w);have n2:=bj (kX mk a) (ix w);have n3:=gL (j.aK.drop (p+1)) (ix w);have n4:=jM (j.aK.drop (p+1)) (ix w);have n5:(j.aK.drop (p+1)).length<=3:=bK;obtain⟨u1,u2,u3⟩:=Ux (e:=λx=>fN (kX mk a) 0 h x+dS (j.aK.drop p) x) (g:=λx=>fN (kX mk a) 0 h x+dS (j.aK.drop (p+1)) x) A9 ah (v:=fN (kX mk a) 0 h (ix w)+dS (j.aK.drop (p+1)) (ix w)) (λo _=>by
     rw[am];by_cases z:o=ix w
     ·subst z;rw[aq rfl]
     ·rw[ae z,ae z];omega) C9.new
    refine⟨V,V,_,Td A9 V ah,V,V,u1,?_⟩;rw[show cK (fN (kX mk a) 0 h (ix w)+dS (j.aK.drop p) (ix w) -1)=fN (kX mk a) 0 h (ix w)+dS (j.aK.drop (p+1)) (ix w)by rw[aP V V];omega];intro Q;have ay:dy (λb=>b=2\/b=6) ac s t Q:=C9.trans (u3.mono λb B=>Or.inl B);have bG:Q.size=m9.size:=az _ _ _ _;have aM:gX t Q aB 1 6 wk ((RS W2).map Ce.i):=W9.eY u3 bd;obtain⟨v1,v2⟩:=K8.rG (lf':=λx=>fN (kX mk a) 0 h x+dS (j.aK.drop (p+1)) x) ah (λx=>by
     rw[am];split<;>omega) (show 0<fN (kX mk a) 0 h (ix w)+dS (j.aK.drop p) (ix w)by omega)
    have a_:To t m9 t Q:=u3.mono λb B=>V;have aZ:gX t Q aB 1 2 C ((qJ h.length (λx=>fN (kX mk a) 0 h x+dS (j.aK.drop (p+1)) x)).map Ce.i):=u2;clear_value Q;clear u2;refine⟨a_.da (by simp;exact⟨V,r7.2⟩),V,V,_,Td aZ V ah,λX=>?_,λX=>?_⟩
    ·intro an;have a9:J Q an:=(J.aC Q).aM _;have bp:cB an Q.size 3 [.i (ix w:Int)]:=cB.push Q _ _;have bH:an.size=Q.size+1:=by simp[an]
     have a1:dy (λ_=>False) t Q t an:=dy.fe _ a9 ay.new;have a0:dy (λb=>b=2\/b=6) ac s t an:=ay.trans (dy.fe _ a9 ay.new);have bi:=aM.len;simp[HQ]at bi;have bA:=K8.len;refine gX.append (zs:=[.i 0]) (c:=[.i (ix w:Int)]) (aM.eY a1 id) a0.new E bp.je (by simp only[O.fj];omega) λbt q2 bF ba aQ=>⟨?_,?_⟩
     ·exact(aK (aQ.mono λp hj=>Or.inr hj)).da (by simp;exact⟨V,r7.2⟩)
     ·exact aX V _ _ ⟨bt,W2++[ix w],a0.trans (aQ.mono λp hj=>Or.inr hj),(aZ.eY a1 id).eY aQ bd,by rw[Ir];simpa using ba,v1 (by simpa using X)⟩
    ·exact aX V _ _ ⟨t,W2,ay,aZ,aM,v2 (by simpa using X)⟩
   ·have bk:w<1000:=(a3 j af w aw).resolve_left (fb a2 H);have am:∀x,dS (j.aK.drop (p+1)) x=dS (j.aK.drop p) x:=λx=>by
     rw[a4];simp only[dS];rw[ae V];omega
    refine aX V _ _ ⟨t,W2,C9,?_,W9,?_⟩
    ·rw[eG (g:=λx=>fN (kX mk a) 0 h x+dS (j.aK.drop p) x) λo _=>by rw[am]];exact A9
    ·exact⟨K8.IZ,K8.un,λx Z=>by rw[am];exact K8.zero x Z⟩
  ·have Q:j.aK.drop p=[]:=Gd V;have H:∀x,fN (kX mk a) 0 h x+dS (j.aK.drop p) x=fN (kX mk a) 0 h x:=λx=>by rw[Q];simp[dS]
   rw[show cK ((kW mk h.length:Nat)+1:Int)=((kW (kX mk a) h.length:Nat):Int)by rw[es,aP V V];omega];refine aa (kX mk a,W2) _ _ m8 ⟨t,rfl,C7.trans C8,?_,W8,⟨K8.IZ,K8.un,λx Z=>by have:=K8.zero x Z;rw[H]at this;exact this⟩,O7⟩ (by simp only[];omega)
   rw[eG (g:=λx=>fN (kX mk a) 0 h x+dS (j.aK.drop p) x) λo _=>(H o).symm];exact A8
 ·simp only[mH,bP]at G;have r:W=[]:=List.length_eq_zero_iff.1 V;subst r;have s:=Sd O5 ai λa q p=>((K5.zero a q).1 p).resolve_right E;refine⟨_,_,rfl,?_,λ_=>⟨m.size,rfl,ad _,a7 C5⟩,X5⟩;rw[aL,show((kW mk h.length:Nat):Int)=(S.len:Int)<->kW mk h.length=h.length by omega,s];exact⟨λq=>⟨bo,be,bm,q⟩,λB=>B.JX⟩
end
section
variable{j:cD}{f:aZ}{m d i:I}{r o e:O}{a b:Nat}
structure PE(j:cD)(f:aZ):Prop where
 eS:0<=f.eS/\f.eS<j.cA.length
 pc:0<=f.pc/\f.pc<(dF j f.eS).cE.length
 lr:(f.av.length:Int)=(dF j f.eS).av
 lo:(f.aW.length:Int)=(dF j f.eS).av
 lh:(f.bn.length:Int)=(dF j f.eS).av
 df:∀(k:Nat)(w o:Int),f.av[k]? =some w->f.aW[k]? =some o->(gA w\/1000<=w)/\(0<=o/\o<=999999)
def PE.aW(h:PE j f):∀o∈f.aW,0<=o/\o<=999999:=λo c=>by
 obtain⟨b,a⟩:=List.mem_iff_getElem?.1 c;have:=ax a;have e:=h.lr;have g:=h.lo;obtain⟨w,d⟩:=ag (l:=f.av) (k:=b) V;exact(h.df b w o d a).2
def Bp{S aa:O}(U:eV m S aa j)(N:ar m r f.av)(B:ar m o f.aW)(he:ar m e f.bn):
 dm bY 71 [.agg #[O.v S,O.v aa],.agg #[vi f.eS,vi f.pc,vi f.dst,O.v r,O.v o,O.v e]] m (PE j f):=by
 apply vY
 simp -zeta only[aE,aD]
 intro P d
 have F:J m d:=((J.aC m).aM _).aM _
 have s1:P.size=m.size+1:=by simp[P]
 have s2:d.size=m.size+2:=by simp[d,s1]
 clear_value d
 have al:=U.cA.len
 have an:=N.len
 have ai:=B.len
 have ah:=he.len
 have ao:=N.fL
 refine⟨λA=>bX (λa=>by have:=a.eS;simp at A;omega) F,λA=>⟨λG=>bX (λa=>by have:=a.eS;simp at G;omega) F,λG=>?_⟩⟩
 simp at A G
 obtain⟨af,Y⟩:=ag (l:=j.cA) (k:=f.eS.toNat) V
 have i:dF j f.eS=af:=by simp[dF,Y]
 obtain⟨pa,pl,pc,aj,am,ac,k0,k1,k2,k3,k4⟩:=(U.ext F).cA.u Y
 have ak:=ac.len
 refine⟨A,V,pa,k0,pl,k1,_,k2,_,k3,pc,k4,?_⟩
 intro m3 u
 have x4:J d u:=((J.aC d).aM _).aj (ad _) _ _
 have s4:u.size=d.size+1:=by simp[u,m3,az]
 clear_value u
 have g:=F.trans x4
 have hl:∀b∈[d.size,P.size,m.size],b<u.size:=bK
 refine⟨λH=>bX (λa=>by have:=a.pc;simp at H;omega) g,λH=>⟨λI=>bX (λa=>by have:=a.pc;rw[i]at this;simp at I;omega) g,λI=>⟨λK=>bX (λa=>by have:=a.lr;rw[i]at this;simp at K;omega) g,λK=>⟨λL=>bX (λa=>by have:=a.lo;rw[i]at this;simp at L;omega) g,λL=>⟨λM=>bX (λa=>by have:=a.lh;rw[i]at this;simp at M;omega) g,λM=>?_⟩⟩⟩⟩⟩
 simp at H I K L M
 refine dO (n:=f.av.length) V (λc m'=>J u m'/\∀(h:Nat)(w o:Int),h<c->f.av[h]? =some w->f.aW[h]? =some o->(gA w\/1000<=w)/\(0<=o/\o<=999999)) ⟨J.aC _,λh w o W=>absurd W (fy _)⟩ ?_
 rintro c m5 ab μ a ⟨R,Z⟩ ae
 refine dit (λh8=>?_) λh8=>?_
 ·obtain⟨w,p⟩:=ag (l:=f.av) (k:=c) V
  obtain⟨v,y⟩:=ag (l:=f.aW) (k:=c) V
  refine⟨V,V,w,by simpa using(N.ext (g.trans R)).u p,(pb w m5).aG R hl λb6 t T ap z=>⟨b6,rfl,?_⟩⟩
  have X:D t o.F (o.off+Int.toNat (c:Int)*1)=some (vi v):=by simpa using(B.ext (g.trans z)).u y
  have jG:(gA w\/1000<=w)->(0:Int)<=c/\(c:Int)<(o.len:Int)/\∃Q:Int,D t o.F (o.off+Int.toNat (c:Int)*1)=some (vi Q)/\((decide (Q<(0:Int)))=true->∃q:Bool,vb false=.bool q/\(q=true<->PE j f)/\J m t)/\
   ((decide (Q<(0:Int)))=false->(0:Int)<=c/\(c:Int)<(o.len:Int)/\∃s:Int,D t o.F (o.off+Int.toNat (c:Int)*1)=some (vi s)/\((decide (s>(999999:Int)))=true->∃q:Bool,vb false=.bool q/\(q=true<->PE j f)/\J m t)/\
   ((decide (s>(999999:Int)))=false->ab (cK ((c:Int)+(1:Int))) t/\μ (cK ((c:Int)+(1:Int))) t<μ c m5)):=λhi=>
   ⟨V,V,v,X,λs=>bX (λa=>by have:=(a.df c w v p y).2;simp at s;omega) (g.trans z),λs=>⟨V,V,v,X,λq=>bX (λa=>by have:=(a.df c w v p y).2;simp at q;omega) (g.trans z),λq=>ae V _ ⟨z,λh w' o' W E C=>by
    rcases aV h c with x|x
    ·exact Z h w' o' x E C
    ·have:h=c:=V;subst this;rw[p]at E;rw[y]at C;simp at E C;subst E;subst C;simp at s q;exact⟨hi,V⟩⟩⟩⟩
  refine⟨λs=>⟨λq=>bX (λa=>?_) (g.trans z),λq=>jG (Or.inr (by simp at q;omega))⟩,λs=>jG (Or.inl (yb T s))⟩
  rcases(a.df c w v p y).1 with x|x
  ·exact nb T s x
  ·simp at q;omega
 ·refine iN ⟨V,by rw[i];omega,by rw[i];omega,by rw[i];omega,by rw[i];omega,λh w o p B=>Z h w o (by have:=ax p;omega) p B⟩ (g.trans R)
structure GU(a b:Nat)(m m':I):Prop where
 size:m.size<=m'.size
 same:∀c,c<m.size->c≠a->c≠b->m'[c]? =m[c]?
def GU.aC(a b:Nat)(m:I):GU a b m m:=⟨ad _,λ_ _ _ _=>rfl⟩
def GU.ext{g:I}(h:GU a b m g)(f:J g d):GU a b m d:=⟨bJ h.size f.size,λc e i j=>by rw[f.same c (aJ e h.size)];exact h.same c e i j⟩
def GU.trans{j:I}(h:GU a b m j)(i:GU a b j d):GU a b m d:=⟨bJ h.size i.size,λc g e f=>by rw[i.same c (aJ g h.size) e f];exact h.same c g e f⟩
def GU.aj{d:I}(h:GU a b m d){c:Nat}(i:c=a\/c=b)(o:Nat)(l:List Ce):GU a b m (aj d c o l):=
 ⟨by rw[az];exact h.size,λx j f g=>by rw[bh l d c o (by rcases i with e|e<;>rw[e]<;>assumption)];exact h.same x j f g⟩
def GU.Ek{f:I}(h:GU a b m f)(c:J i m)(g:i.size<=a)(j:i.size<=b):J i f:=
 ⟨bJ c.size h.size,λd e=>by rw[h.same d (c.lt e) V V];exact c.same d e⟩
structure Uh(h:List bM)(f:aZ):Prop where
 aW:∀(k:Nat)(w o:Int),f.av[k]? =some w->f.aW[k]? =some o->0<o->jc h w
 bn:∀w∈f.bn,w≠0->1000<=w/\∃c,h[ix w]? =some c/\c.aQ<0
def Sn{w:Int}{n:Nat}(b:Ew w)(f:n<=1000000000):(0<=cK (w -1000)/\cK (w -1000)<n)<->(1000<=w/\ix w<n):=by
 obtain⟨c,d⟩:=b;rcases Gc w (-9223372036854774808)with a|a
 ·have e:cK (w -1000)=w -1000+18446744073709551616:=by
   unfold cK;rw[IntKind.wrap_i64];omega
  unfold ix;rw[e];constructor<;>intro h<;>omega
 ·unfold ix;rw[aP V V];omega
structure Lu(m:I)(ob hb n:Nat)(fo fh:Nat->Int):Prop where
 aW:cB m ob aB ((qJ n fo).map Ce.i)
 bn:cB m hb aB ((qJ n fh).map Ce.i)
 ne:ob≠hb
def J5{hp:O}{h:List bM}{t j:Nat}{s q:Nat->Int}(x0:J i m)(hh:cV i hp h)(hr:ar i r f.av)(K:ar i o f.aW)(he:ar i e f.bn)(al:i.size<=t)(ak:i.size<=j)(T:Lu m t j h.length s q)
 (aj:PC f)(aB:h.length<=1000000000)(ay:f.av.length=f.aW.length/\f.bn.length=f.aW.length/\f.aW.length<=10000000)(am:∀o∈f.aW,0<=o/\o<=999999)(aw:∀a,0<=s a/\s a<=1000000000000000)(ap:∀a,0<=q a/\q a<=1000000000):
 aN bY 72 [.agg #[vi f.eS,vi f.pc,vi f.dst,O.v r,O.v o,O.v e],O.v hp,O.v (.mk t 0 h.length h.length),O.v (.mk j 0 h.length h.length)] m λv N=>
  ∃b:Bool,v=vb b/\(b=true<->Uh h f)/\(b=true->Lu N t j h.length (λa=>s a+cz f.av f.aW a) (λa=>q a+dS f.bn a))/\GU t j m N:=by
 apply uN
 simp -zeta only[aE,aD]
 intro S
 have x1:J m S:=(J.aC m).aM _
 have s1:S.size=m.size+1:=by simp[S]
 clear_value S
 have aO:=hr.len
 have aL:=K.len
 have aJ:=he.len
 have aK:=hh.len
 obtain⟨aG,aH,aI⟩:=ay
 have aR:=T.aW.lt
 have aQ:=T.bn.lt
 simp -zeta only[O.fj,O.iT,O.lY,bN]
 have aa:∀ah:Nat,Int.toNat (ah:Int)=ah:=λah=>V
 refine dO (n:=f.aW.length) V (λc N=>GU t j m N/\m.size<N.size/\Lu N t j h.length (λa=>s a+cz (f.av.take c) (f.aW.take c) a) (λa=>q a+dS (f.bn.take c) a)/\(∀(p:Nat)(w o:Int),p<c->f.av[p]? =some w->f.aW[p]? =some o->0<o->jc h w)/\
  (∀w∈f.bn.take c,w≠0->1000<=w/\∃x,h[ix w]? =some x/\x.aQ<0)) ⟨(GU.aC _ _ _).ext x1,V,by simpa[cz,dS]using(⟨T.aW.ext x1,T.bn.ext x1,T.ne⟩:Lu S t j h.length s q),λp w o hj=>absurd hj (fy _),E⟩ ?_
 rintro c d aF μ hk ⟨t2,z2,u,q2,Z⟩ ao
 have X2:=t2.Ek x0 al ak
 rw[aa,dG]
 refine dit (λh1=>?_) λh1=>?_
 ·obtain⟨w,z⟩:=ag (l:=f.av) (k:=c) V
  obtain⟨y,L⟩:=ag (l:=f.aW) (k:=c) V
  obtain⟨v,C⟩:=ag (l:=f.bn) (k:=c) V
  have gw:∀{M:I},J i M->D M r.F (r.off+c)=some (vi w):=λR=>by simpa using(hr.ext R).u z
  have gq:∀{M:I},J i M->D M o.F (o.off+c)=some (vi y):=λR=>by simpa using(K.ext R).u L
  have gv:∀{M:I},J i M->D M e.F (e.off+c)=some (vi v):=λR=>by simpa using(he.ext R).u C
  have aC:=aj.1 w (au z)
  have an:=aj.2.2 v (au C)
  have aM:=am y (au L)
  refine⟨V,V,y,gq X2,λM=>GU t j d M/\m.size<M.size/\Lu M t j h.length (λa=>s a+cz (f.av.take (c+1)) (f.aW.take (c+1)) a) (λa=>q a+dS (f.bn.take c) a)/\(0<y->jc h w),⟨λh2=>?_,λh2=>?_⟩,?_⟩
  ·have G:0<y:=by simpa using h2
   refine⟨V,V,w,gw X2,(nO (cV.ext X2 hh) aC.2).mono ?_⟩
   rintro _ m3 ⟨a,Y,rfl,P,ab,B⟩
   have z3:=B.size
   refine⟨B.da bK,a,Y,rfl,λA=>⟨false,rfl,?_,E,t2.ext B⟩,λA=>?_⟩
   ·simp only[ib,Y4]
    exactλht=>nb P A (ht.aW c w y z L G)
   have H:=yb P A
   have W:=ax (cp H).1
   have U:=ab (by simpa using A)
   subst U
   have F:=u.aW.ext B
   have X:=u.bn.ext B
   have q1:=Dp (av:=f.av.take c) (aW:=f.aW.take c) (n:=999999) V (λo K=>am o (cT K)) (ix w)
   have q6:(f.aW.take c).length<=10000000:=bK
   have q7:=aw (ix w)
   rw[aa,dG]
   refine⟨V,V,_,pY F W,V,V,Lc F W,?_⟩
   rw[show cK (s (ix w)+cz (f.av.take c) (f.aW.take c) (ix w)+y)=s (ix w)+cz (f.av.take c) (f.aW.take c) (ix w)+y from aP V V]
   have Q:=FY F (ix w) (s (ix w)+cz (f.av.take c) (f.aW.take c) (ix w)+y)
   rw[eG (g:=λa=>s a+cz (f.av.take (c+1)) (f.aW.take (c+1)) a)]at Q
   ·exact⟨λb ac=>bh _ _ _ _ (by simp at ac;omega),((GU.aC _ _ _).ext B).aj (Or.inl rfl) _ _,by rw[az];omega,⟨Q,X.congr (bh _ _ _ _ λe=>u.ne e.symm),u.ne⟩,λ_=>H⟩
   ·intro b j
    rw[mT z L]
    by_cases e:b=ix w
    ·subst e;rw[aq rfl,aq (gP H.1).symm];omega
    ·rw[ae e,ae (λaf=>e (by rw[af,jL]))];omega
  ·have G:y=0:=by simp at h2;omega
   refine⟨GU.aC _ _ _,z2,⟨?_,u.bn,u.ne⟩,λhp=>V⟩
   rw[eG (g:=λa=>s a+cz (f.av.take c) (f.aW.take c) a)]
   ·exact u.aW
   ·intro b j;rw[mT z L,G];split<;>omega
  rintro m3 ⟨t3,z3,F,aA⟩
  have P:=t2.trans t3
  have X3:=P.Ek x0 al ak
  have fw:∀(p:Nat)(w o:Int),p<c+1->f.av[p]? =some w->f.aW[p]? =some o->0<o->jc h w:=λp w' o' hj Y X=>by
   rcases aV p c with H|H
   ·exact q2 p w' o' H Y X
   ·have:p=c:=V;subst this;rw[z]at Y;rw[L]at X;simp at Y X;subst Y;subst X;exact aA
  have ad:=Sn (n:=h.length) an aB
  refine⟨V,V,v,gv X3,λA=>⟨V,V,v,gv X3,?_⟩,λA=>?_⟩
  ·have ab:v≠0:=by simpa using A
   have ai:∀{M:I},GU t j m M->¬(1000<=v/\∃x,h[ix v]? =some x/\x.aQ<0)->∃b:Bool,vb false=vb b/\(b=true<->Uh h f)/\(b=true->Lu M t j h.length (λa=>s a+cz f.av f.aW a) (λa=>q a+dS f.bn a))/\GU t j m M:=λht hn=>
    ⟨false,rfl,by simp only[ib,Y4];exactλhk=>hn (hk.bn v (au C) ab),E,ht⟩
   refine⟨λW=>ai P λ⟨G,x,B,_⟩=>?_,λW=>⟨λh5=>ai P λ⟨G,x,B,_⟩=>?_,λh5=>?_⟩⟩
   ·have:=(ad.2 ⟨G,ax B⟩).1;simp at W;omega
   ·have:=(ad.2 ⟨G,ax B⟩).2;simp at h5;omega
   simp at W h5
   obtain⟨G,B⟩:=ad.1 ⟨W,V⟩
   have ew:cK (v -1000)=(ix v:Nat):=by have:=an.2;unfold ix;rw[aP V V];omega
   rw[ew,aa]
   obtain⟨x,hc⟩:=ag B
   obtain⟨cf,_,c0,_,_⟩:=(cV.ext X3 hh).u hc
   refine⟨V,V,x.aQ,c0,λH=>ai P λ⟨_,c',g3,g4⟩=>?_,λH=>?_⟩
   ·rw[hc]at g3;simp at g3;subst g3;simp at H;omega
   have q1:=ap (ix v)
   have q2:=jM (f.bn.take c) (ix v)
   have q3:=gL (f.bn.take c) (ix v)
   have q4:(f.bn.take c).length<=10000000:=bK
   rw[dG]
   refine⟨V,V,_,pY F.bn B,V,V,Lc F.bn B,?_⟩
   rw[show cK (q (ix v)+dS (f.bn.take c) (ix v)+1)=q (ix v)+dS (f.bn.take c) (ix v)+1 from aP V V]
   have Q:=FY F.bn (ix v) (q (ix v)+dS (f.bn.take c) (ix v)+1)
   rw[eG (g:=λa=>q a+dS (f.bn.take (c+1)) a)]at Q
   ·refine⟨λb ac=>bh _ _ _ _ (by simp at ac;omega),ao V _ ⟨P.aj (Or.inr rfl) _ _,by rw[az];exact z3,⟨F.aW.congr (bh _ _ _ _ u.ne),Q,u.ne⟩,fw,bD C Z λ_=>⟨G,x,hc,by simp at H;omega⟩⟩⟩
   ·intro b j
    rw[pw C]
    by_cases e:b=ix v
    ·subst e;rw[aq rfl,aq (gP G).symm];omega
    ·rw[ae e,ae (λaf=>e (by rw[af,jL]))];omega
  ·have ab:v=0:=by simpa using A
   refine ao V _ ⟨P,z3,⟨F.aW,?_,u.ne⟩,fw,bD C Z λB=>absurd ab B⟩
   rw[eG (g:=λa=>q a+dS (f.bn.take c) a)]
   ·exact F.bn
   ·intro b j;rw[pw C,ae V];omega
 ·have y:f.av.take c=f.av:=bZ V
  have A:f.aW.take c=f.aW:=bZ V
  have U:f.bn.take c=f.bn:=bZ V
  rw[y,A,U]at u
  rw[U]at Z
  exact⟨true,rfl,by simp only[true_iff];exact⟨λp w o z K=>q2 p w o (by have:=ax z;omega) z K,Z⟩,λ_=>u,t2⟩
end
section
def T0(a:List aZ)(k:Nat)(f:aZ):Prop:=(lZ a k=none->f.dst=0)/\∀p,lZ a k=some p->0<=f.dst/\f.dst<p.aW.length/\u p.aW f.dst=0
structure Qd(im:cD)(s:St)(k:Nat)(f:aZ):Prop where
 v:PE im f
 dst:T0 s.ak k f
 WA:Uh s.heap f
def Qd.ok{c:cD}{s:St}{k:Nat}{f:aZ}(h:Qd c s k f):HY c s.heap (lZ s.ak k) f:=
 ⟨h.v.eS,h.v.pc,h.v.lr,h.v.lo,h.v.lh,⟨λj w o b a=>⟨(h.v.df j w o b a).1,(h.v.df j w o b a).2,h.WA.aW j w o b a⟩⟩,h.dst.1,h.dst.2⟩
def KA.w{m:cD}{s:St}(h:KA m s){k:Nat}{f:aZ}(d:s.ak[k]? =some f):Qd m s k f:=by
 have F:=h.ak k f d;refine⟨⟨F.eS,F.pc,F.lr,F.lo,F.lh,λj w o b c=>⟨(F.av.df j w o b c).1,(F.av.df j w o b c).2.1⟩⟩,⟨F.first,F.next⟩,λj w o b c=>(F.av.df j w o b c).2.2,λw b q=>?_⟩;obtain⟨g,n⟩:=(h.bn.dh f (au d) w b).resolve_left q;obtain⟨e,i⟩:=ag n;refine⟨g,e,i,Int.not_le.1 λp=>?_⟩;have r:=h.bn.lL _ e i p;have t:=Nf (au d) (b:=ix w);have u:=sJ (l:=f.bn) (f:=ix w) (by rw[gP g];exact b);omega
section
variable{m:I}{d p bo c b:O}{a:cD}{s:St}
def Br(aS:eV m d p a)(aX:lO a)(T:ft m bo c b s)(ac:zw s):dm bY 41 [.agg #[O.v d,O.v p],OJ s bo c b] m (cN a s):=by
 apply vZ;simp -zeta only[aE,aD];intro m1 Q;have x2:J m Q:=((J.aC m).aM _).aM _;have s1:m1.size=m.size+1:=by simp[m1]
 have s2:Q.size=m.size+2:=by simp[Q,s1]
 clear_value Q;have hl:∀z∈[m1.size,m.size],z<Q.size:=bK;have aQ:=T.ak.len;have a8:=T.heap.len;have a9:=ac.lh;have v:∀{M:I},J Q M->¬KA a s->∃C:Bool,vb false=.bool C/\(C=true<->cN a s)/\J m M:=λhx N=>bX (λh=>N (EI h)) (x2.trans hx);have ar:(s.ak=[])<->((b.len:Int)=0):=by rw[aQ];simp
 refine⟨λM=>J Q M/\(0<=s.cL/\s.cL<=3)/\(s.cL=0<->s.ak=[])/\gA s.value/\(s.value≠0->s.cL=0),?_,?_⟩
 ·refine⟨λA=>v (J.aC _) λi=>by have:=i.cL;simp at A;omega,λA=>⟨λx=>v (J.aC _) λi=>by have:=i.cL;simp at x;omega,λx=>⟨λH=>v (J.aC _) λi=>?_,λH=>?_⟩⟩⟩
  ·have:=i.done;rw[ar,<-CO]at this;rw[this]at H;cases H
  have ai:0<=s.cL/\s.cL<=3:=by simp at A x;omega
  have ah:s.cL=0<->s.ak=[]:=by rw[ar];exact(CO _ _).1 H
  refine(pb _ _).aG (J.aC _) hl λj m3 e F _=>⟨j,rfl,λB=>v F λi=>nb e B i.value,λB=>⟨λf=>⟨λh=>v F λi=>?_,λh=>?_⟩,λf=>?_⟩⟩
  ·have:=i.rL (by simpa using f);simp at h;exact h this
  ·exact⟨F,ai,ah,yb e B,λ_=>by simpa using h⟩
  ·exact⟨F,ai,ah,yb e B,λh=>by simp at f;exact absurd f h⟩
 rintro m3 ⟨F,ai,ah,hv,a1⟩;refine⟨λA=>v F λi=>by have:=i.dK;simp at A;omega,λA=>⟨λx=>v F λi=>by have:=i.dK;simp at x;omega,λx=>⟨λH=>v F λi=>by have:=i.bI;simp at H;omega,λH=>⟨λB=>v F λi=>by have:=i.bI;simp at B;omega,λB=>?_⟩⟩⟩⟩;have aU:0<=s.dK/\s.dK<=40:=by simp at A x;omega
 have aM:0<=s.bI/\s.bI<=s.dK:=by simp at H B;omega
 rw[aP V V];refine⟨λf=>v F λi=>by have:=i.depth;simp at f;omega,λf=>?_⟩;have aN:(s.ak.length:Int)<=s.bI+1:=by simp at f;omega
 clear A x H B f;have X3:=x2.trans F;refine(qe (T.ext X3).heap ac.heap V).mono ?_;rintro _ m4 ⟨ct,b4,rfl,ap,a0,aF⟩;have x4:=F.trans aF;have z4:=x4.size;have z3:=F.size;refine⟨aF.da λz L=>F.lt (hl z L),ct,b4,rfl,λA=>v x4 λi=>nb ap A i.heap,λA=>?_⟩;have aw:=yb ap A;obtain⟨ob,rfl,a_,B4⟩:=a0 (by simpa using A);have be:=B4.lt;refine(lG (T.ext (x2.trans x4)).bo 70 #[] #[] bd (λaj=>¬gA aj) (λaj _ m' hx=>?_)).aG x4 hl ?_
 ·apply tP;refine(pb _ _).then λz K L x5=>⟨z,rfl,fA ?_ x5⟩;rw[<-L];simp
 intro b5 K aq aG x5;have z5:=x5.size;have bf:=aG.size;refine⟨b5,rfl,λx=>v x5 λi=>?_,λx=>?_⟩
 ·obtain⟨aj,hx,N⟩:=aq.1 x;exact N (i.bo aj hx)
 have aY:∀aa∈s.bo,gA aa:=λaa N=>eA λE=>by have:=aq.2 ⟨aa,N,E⟩;rw[x]at this;cases this
 have en:Int.toNat (c.len:Int)=s.heap.length:=V;rw[en];refine⟨V,V,V,V,?_⟩;intro U;have aH:J K U:=(J.aC K).aM _;have s6:U.size=K.size+1:=by simp[U]
 have H6:cB U K.size aB ((qJ s.heap.length (λ_=>0)).map Ce.i):=JN K _;clear_value U;have x6:=x5.trans aH;have X6:=x2.trans x6;have T6:Lu U ob K.size s.heap.length (dq s.heap) (λ_=>0):=⟨B4.ext (aG.trans aH),H6,V⟩;have aW:m.size<=ob:=by have:=X3.size;omega
 have al:∀aa:Nat,Int.toNat (aa:Int)=aa:=λaa=>V;have a7:s.ak.length<=41:=V;have rb:∀e,0<=dq s.heap e/\dq s.heap e<=3*s.heap.length:=λe=>⟨nV _ _,zn _ _ λq E=>(aw.cells q E).fl⟩;refine dO (n:=s.ak.length) V (λj M=>GU ob K.size U M/\Lu M ob K.size s.heap.length (λe=>dq s.heap e+dD (s.ak.take j) e) (λe=>holds (s.ak.take j) e)/\∀(r:Nat)(o:aZ),r<j->s.ak[r]? =some o->Qd a s r o)
  ⟨GU.aC _ _ _,by simpa[dD,holds]using T6,λr o P=>absurd P (fy _)⟩ ?_
 rintro j Z a6 μ i ⟨t7,R,am⟩ a2
 have x7:J Q Z:=t7.Ek x6 V V;have S:=x2.trans x7;have bb:∀z∈[m1.size,m.size],z<Z.size:=λz L=>x7.lt (hl z L);have z7:=x7.size;have bc:=R.aW.lt;have ba:=R.bn.lt;rw[al];refine dit (λH=>?_) λH=>?_
 ·obtain⟨o,t⟩:=ag (l:=s.ak) (k:=j) V;have av:=au t;obtain⟨a4,a3,ae,hr,ho,Y,g0,g1,g2,g3,g4,g5⟩:=T.ak.u t;refine⟨V,V,_,S.D g0,_,S.D g1,_,S.D g2,a4,S.D g3,a3,S.D g4,ae,S.D g5,?_⟩;intro m8 m9;have X:J Z m9:=((J.aC Z).aM _).aj (ad _) _ _;have s9:m9.size=Z.size+1:=by simp[m9,m8,az]
  clear_value m9;have X9:=S.trans X;have l9:∀z∈[Z.size,m1.size,m.size],z<m9.size:=bK;refine(Bp (aS.ext X9) (hr.ext X9) (ho.ext X9) (Y.ext X9)).aG (J.aC _) l9 λaJ y an G _=>⟨aJ,rfl,λB=>v ((x7.trans X).trans G) λi=>nb an B (i.w t).v,λB=>?_⟩;have hV:=yb an B;have W:=(x7.trans X).trans G;have af:=x2.trans W;refine⟨λM=>y=M/\T0 s.ak j o,?_,?_⟩
  ·have ay:(cK ((j:Int) -1)=((j -1:Nat):Int))\/j=0:=by
    rcases jq j with f|f
    ·exact Or.inr f
    ·exact Or.inl (by rw[aP V V];omega)
   have jG:0<j->((decide (o.dst<(0:Int)))=true->∃C:Bool,vb false=.bool C/\(C=true<->cN a s)/\J m y)/\((decide (o.dst<(0:Int)))=false->
    (0:Int)<=(cK ((j:Int) -(1:Int)))/\(cK ((j:Int) -(1:Int)))<(b.len:Int)/\
    ∃ab:O,D y b.F (b.off+Int.toNat (cK ((j:Int) -(1:Int)))*6+4)=some (O.v ab)/\
    ((decide (o.dst>=(ab.len:Int)))=true->∃C:Bool,vb false=.bool C/\(C=true<->cN a s)/\J m y)/\
    ((decide (o.dst>=(ab.len:Int)))=false->(0:Int)<=(cK ((j:Int) -(1:Int)))/\(cK ((j:Int) -(1:Int)))<(b.len:Int)/\
    ∃w:O,D y b.F (b.off+Int.toNat (cK ((j:Int) -(1:Int)))*6+4)=some (O.v w)/\
    (0:Int)<=o.dst/\o.dst<(w.len:Int)/\∃ak:Int,D y w.F (w.off+Int.toNat o.dst*1)=some (vi ak)/\
    ((ak !=(0:Int))=true->∃C:Bool,vb false=.bool C/\(C=true<->cN a s)/\J m y)/\((ak !=(0:Int))=false->y=y/\T0 s.ak j o))):=λaL=>by
    have e1:=ay.resolve_right V
    rw[e1,al]
    obtain⟨r,rfl⟩:∃r,j=r+1:=⟨j -1,V⟩
    have ej:r+1 -1=r:=V
    rw[ej]
    obtain⟨pf,ak⟩:=ag (l:=s.ak) (k:=r) V
    obtain⟨pr,po,pe,aO,ao,aI,y0,y1,y2,y3,y4,y5⟩:=T.ak.u ak
    have aK:=ao.len
    have ab:lZ s.ak (r+1)=some pf:=ak
    refine⟨λf=>v W λi=>?_,λf=>⟨V,V,po,af.D y4,λh=>v W λi=>?_,λh=>⟨V,V,po,af.D y4,by simpa using f,by simp at h;omega,u pf.aW o.dst,?_,λw=>v W λi=>?_,λw=>⟨rfl,⟨λN=>(by rw[ab]at N;cases N),λaC hq=>?_⟩⟩⟩⟩⟩
    ·have:=((i.w t).dst.2 pf ab).1;simp at f;omega
    ·have:=((i.w t).dst.2 pf ab).2.1;simp at h;omega
    ·simp at f h
     exact(ao.ext af).EG f V
    ·have:=((i.w t).dst.2 pf ab).2.2;simp at w;exact w this
    ·rw[ab]at hq;simp at hq;subst hq
     simp at f h w;exact⟨f,V,w⟩
   refine⟨λf=>⟨λh=>v W λaA=>?_,λh=>⟨λw=>by simp at f w;omega,λw=>⟨rfl,⟨λ_=>by simpa using h,λaC hq=>?_⟩⟩⟩⟩,λf=>⟨λh=>jG (by simp at h;omega),λh=>by simp at f h;omega⟩⟩
   ·simp at f;subst f;have:=(aA.w t).dst.1 rfl;simp at h;exact h this
   ·simp at f;subst f;simp[lZ]at hq
  ·rintro _ ⟨rfl,hD⟩;have aT:=ac.lr o av;have v1:=hV.lr;have v2:=hV.lo;have v3:=hV.lh;have vP:=G.size;have aI:Lu y ob K.size s.heap.length (λe=>dq s.heap e+dD (s.ak.take j) e) (λe=>holds (s.ak.take j) e):=⟨R.aW.ext (X.trans G),R.bn.ext (X.trans G),R.ne⟩;have aR:∀e,0<=dq s.heap e+dD (s.ak.take j) e/\dq s.heap e+dD (s.ak.take j) e<=1000000000000000:=λe=>by
    have q1:=rb e;have q2:=HU (a:=s.ak.take j) (n:=10000000) (k:=999999) V (λab w=>⟨(ac.lr ab (cT w)).2.1,by
     obtain⟨r,P⟩:=List.mem_iff_getElem?.1 w;have ak:r<j:=by have:=ax P;simp at this;omega
     rw[dj ak]at P;exact(am r ab ak P).v.aW⟩) e
    have q3:(s.ak.take j).length<=41:=bK;omega
   have aO:∀e,0<=holds (s.ak.take j) e/\holds (s.ak.take j) e<=1000000000:=λe=>by
    have q2:=II (a:=s.ak.take j) (n:=10000000) (λab w=>(ac.lr ab (cT w)).2.2) e;have q3:(s.ak.take j).length<=41:=bK;have q4:=tJ (s.ak.take j) e;omega
   refine(J5 (i:=m) af T.heap hr ho Y aW V aI (ac.ak o av) V ⟨V,V,aT.2.1⟩ hV.aW aR aO).mono ?_;rintro _ ay ⟨aK,rfl,ao,aL,aA⟩;have aC:GU ob K.size U ay:=(t7.ext (X.trans G)).trans aA;have a5:J Q ay:=aC.Ek x6 V V;refine⟨λz L=>aA.same z (G.lt (l9 z L)) (by simp at L;omega) (by simp at L;omega),aK,rfl,λf=>v a5 λi=>nb ao f (i.w t).WA,λf=>a2 V _ ⟨aC,?_,λr ab P w=>?_⟩⟩
   ·have ak:=aL (by simpa using f);refine⟨?_,?_,ak.ne⟩
    ·rw[eG (g:=λe=>dq s.heap e+dD (s.ak.take j) e+cz o.av o.aW e)]
     ·exact ak.aW
     ·intro z L;rw[EY t];omega
    ·rw[eG (g:=λe=>holds (s.ak.take j) e+dS o.bn e)]
     ·exact ak.bn
     ·intro z L;rw[IJ t]
   ·rcases aV r j with h|h
    ·exact am r ab h w
    ·have:r=j:=V;subst this;rw[t]at w;simp at w;subst w;exact⟨hV,hD,yb ao f⟩
 rw[bZ V]at R;have hW:∀(r:Nat)(o:aZ),s.ak[r]? =some o->Qd a s r o:=λr o t=>am r o (by have:=ax t;omega) t;refine dO (n:=s.heap.length) V (λj M=>J Z M/\∀(e:Nat)(q:bM),e<j->s.heap[e]? =some q->(0<q.aQ->q.aQ=dq s.heap e+dD s.ak e)/\(q.aQ<0->holds s.ak e=1)) ⟨J.aC _,λe q ha=>absurd ha (fy _)⟩ ?_;rintro w m8 I2 μ2 av ⟨x8,ak⟩ ao;have X8:=S.trans x8;rw[al];refine dit (λB=>?_) λB=>?_
 ·have af:w<s.heap.length:=V;obtain⟨q,ab⟩:=ag af;obtain⟨o,_,g0,g1,g2⟩:=T.heap.u ab;refine⟨λM=>J m8 M/\(0<q.aQ->q.aQ=dq s.heap w+dD s.ak w)/\(q.aQ<0->holds s.ak w=1),?_,?_⟩
  ·refine⟨V,V,_,X8.D g0,_,X8.D g1,o,X8.D g2,?_⟩;intro m9 y;have G:J m8 y:=((J.aC m8).aM _).aj (ad _) _ _;clear_value y;have W:=(x7.trans x8).trans G;have go:=pY (R.aW.ext (x8.trans G)) af;have gh:=pY (R.bn.ext (x8.trans G)) af;simp -zeta only[O.fj,O.iT,O.lY,bN,dG];have bn:(0<q.aQ->q.aQ=dq s.heap w+dD s.ak w)->((decide (q.aQ<(0:Int)))=true->(0:Int)<=w/\(w:Int)<(s.heap.length:Int)/\∃an:Int,D y K.size w=some (vi an)/\
    ((an !=(1:Int))=true->∃C:Bool,vb false=.bool C/\(C=true<->cN a s)/\J m y)/\((an !=(1:Int))=false->J m8 y/\(0<q.aQ->q.aQ=dq s.heap w+dD s.ak w)/\(q.aQ<0->holds s.ak w=1)))/\
    ((decide (q.aQ<(0:Int)))=false->J m8 y/\(0<q.aQ->q.aQ=dq s.heap w+dD s.ak w)/\(q.aQ<0->holds s.ak w=1)):=λE=>
    ⟨λf=>⟨V,V,_,gh,λh=>v W λi=>by have:=i.bn.jy w q ab (by simpa using f);simp at h;exact h this,λh=>⟨G,E,λ_=>by simpa using h⟩⟩,λf=>⟨G,E,λh=>by simp at f;omega⟩⟩
   refine⟨λf=>⟨V,V,_,go,λh=>v W λi=>?_,λh=>bn λ_=>by simpa using h⟩,λf=>bn λh=>by simp at f;omega⟩;have:=i.Oc w q ab (by simpa using f);simp at h;exact h this
  ·rintro m9 ⟨X,y,G⟩;refine ao V _ ⟨x8.trans X,λe ae ha Y=>?_⟩;rcases aV e w with h|h
   ·exact ak e ae h Y
   ·have:e=w:=V;subst this;rw[ab]at Y;simp at Y;subst Y;exact⟨y,G⟩
 ·refine iN (JJ ⟨aX,ai,ah,hv,a1,aU,aM,aN,aY,aw,λr o t=>(hW r o t).ok,⟨λo t h y=>?_,λW q E N=>(ak W q (by have:=ax E;omega) E).2 N,λW q E N=>?_⟩,λe q E c=>(ak e q (by have:=ax E;omega) E).1 c⟩) X8
  ·obtain⟨r,P⟩:=oN t;by_cases G:h=0
   ·exact Or.inl G
   ·obtain⟨A,q,x,_⟩:=(hW r o P).WA.bn h y G;exact Or.inr ⟨A,ax x⟩
  ·refine IK λo t h y ae=>?_;obtain⟨r,P⟩:=oN t;obtain⟨A,G,x,H⟩:=(hW r o P).WA.bn h y V;rw[ae,jL,E]at x;simp at x;subst x;omega
def qY(k:eV m d p a)(u:ft m bo c b s)(t:zw s):dm bY 17 [.agg #[O.v d,O.v p],OJ s bo c b] m (cN a s):=by
 apply vW;simp -zeta only[aE,aD];intro i e;have f:J m e:=((J.aC m).aM _).aM _;have v:i.size=m.size+1:=by simp[i]
 have z:e.size=m.size+2:=by simp[e,v]
 clear_value e;have l:∀n∈[i.size,m.size],n<e.size:=bK;refine(Bn (k.ext f)).aG (J.aC _) l λo x j g _=>⟨o,rfl,λh=>?_,λh=>bX (λq=>fb j h q.fK) (f.trans g)⟩;refine(Br (k.ext (f.trans g)) (j.1 h) (u.ext (f.trans g)) t).aG g l λq y r A w=>⟨q,rfl,fA r (f.trans w)⟩
end
end
end Go.Proofs.YtgnjacfobdjeeaaGreat
section
namespace Go.Vc
def fQ.jK{m:I}{b o:Nat}{l r:List Ce}(h:fQ m b o l)(k:fQ m b (o+l.length) r):fQ m b o (l++r):=λi d a=>by
 rcases aV i l.length with c|c
 ·rw[aw c]at a;exact h i d a
 ·rw[aF c]at a;have:=k _ d a;rwa[show o+l.length+(i -l.length)=o+i by omega]at this
end Go.Vc
namespace Go.Proofs.YtgnjacfobdjeeaaGreat
open Go.Vc
variable{m:I}{d:Nat->Nat}
def iO.Ps{a:I}{s:O}{l:List Ce}{e n:Nat}(f:iO m a e n s l)(j:J m a)(i:∀b,m.size<=b->d b=0)(k:Nat):∃c,dy (λ_=>False) d m c a/\gX c a e n k s l/\∀b,c b=d b\/c b=k:=by
 rcases f.u with h|⟨b,g,tail,h,h2,h3,h4,h5⟩
 ·exact⟨d,dy.fe _ j i,gX.ij f λo=>absurd h o,λb=>Or.inl rfl⟩
 ·refine⟨uA d b k,dy.uA j i h2 h3.lt k,gX.ij f λ_=>by rw[h];exact iF _ _ _,λg=>?_⟩;by_cases e:g=b
  ·rw[e];exact Or.inr (iF _ _ _)
  ·exact Or.inl (eX e)
def Fo{N:Nat}{C:O}{h:List bM}(U:∀b,m.size<=b->d b=0)(R:∀b,b<m.size->d b≠3)(B:cV m C h)(hN:N<=m.size)(T:∀c∈h,c.aK.length<=3)(ah:h.length<=1000000000):
 aN bY 160 [O.v C] m λad p=>∃e s,ad=O.v s/\ez N e p s h/\dy (λa=>a=3) d m e p/\J m p:=by
 apply zR
 intro D
 have x1:J m D:=(J.aC m).aM _
 clear_value D
 have hl:=B.len
 have ac:∀{e:Nat->Nat}{M:I},dy (λa=>a=3) d m e M->J m M:=λc=>⟨c.size,λb f=>c.fu b f (R b f)⟩
 refine dC (σ:=O) (n:=h.length) V (λa s M=>∃e,ez N e M s (h.take a)/\dy (λa=>a=3) d m e M) ⟨d,⟨[],⟨E,E,Or.inl rfl⟩,by simpa using fU.nil _ _,UF.nil⟩,dy.fe _ x1 U⟩ ?_
 rintro a s m2 ae μ hk ⟨j,g,b⟩ aa
 have y:=ac b
 have K:Int.toNat (a:Int)=a:=V
 rw[K]
 refine dit (λQ=>?_) λQ=>?_
 ·obtain⟨c,o⟩:=ag (l:=h) (k:=a) V
  obtain⟨L,S,z,A,P⟩:=(cV.ext y B).u o
  have af:=T c (au o)
  refine⟨V,V,c.aQ,z,V,V,c.lp,A,V,V,L,P,(fE S V).mono ?_⟩
  rintro _ i ⟨q,rfl,r,u⟩
  refine⟨q,rfl,u.dg A,u.dg z,?_⟩
  intro f
  have v:J i f:=(J.aC i).aM _
  have Z:cB f i.size qL [.i c.aQ,.i c.lp,.s q]:=cB.push i _ _
  clear_value f
  have t:=u.trans v
  have G:dy (λ_=>False) j m2 j f:=dy.fe _ t b.new
  have w:dy (λa=>a=3) d m j f:=b.trans (dy.fe _ t b.new)
  have Y:ar f q c.aK:=(ar.ij r V).ext v
  have X:c.aK≠[]->j q.F=0:=λW=>b.new _ ((FB.ij r W).1)
  have hz:=b.size
  refine ez.push (g.eY G id id) w.new (x:=.mk i.size 0 1 1) rfl Z.je Y (Rz.of g (λF=>t.same _ (g.F F).2) (λ_=>r.ext v) X V) bK λab ai m5 H F=>?_
  exact aa V _ _ ⟨ab,by rw[bH o];exact H,w.trans F⟩
 ·rw[bZ V]at g
  exact⟨j,s,rfl,g,b,y⟩
structure YO(N:Nat)(d:Nat->Nat)(m:I)(r:O)(h:List bM)(css0 css:List (List Ce))(k:Nat):Prop where
 qQ:gX d m qL 3 3 r css.flatten
 len:css.length=h.length
 size:∀cs∈css,cs.length=3
 done:∀(j:Nat)(cs:List Ce)(c:bM),j<k->css[j]? =some cs->h[j]? =some c->Gf N d m cs c
 jG:∀j,k<=j->css[j]? =css0[j]?
 Y9:∀(i j:Nat)(ci cj:List Ce)(a b:O),i<k->j<k->css[i]? =some ci->css[j]? =some cj->ci[2]? =some (.s a)->cj[2]? =some (.s b)->i≠j->a.len≠0->b.len≠0->a.F≠b.F
end Go.Proofs.YtgnjacfobdjeeaaGreat
end
namespace Go.Proofs.YtgnjacfobdjeeaaGreat
open Go.Vc
section
variable{a e:Nat->Nat}{m g d:I}{p:Nat->Prop}
structure Bs(d:I)(a:Nat->Nat)(m:I):Prop where
 cG:J d m
 jV:∀b,b<d.size->a b=0
 new:∀b,m.size<=b->a b=0
structure qN(d:I)(a:Nat->Nat)(m:I)(bo hp fr:O)(s:St):Prop where
 bs:Bs d a m
 bo:gX a m aB 1 2 bo (s.bo.map Ce.i)
 heap:ez d.size a m hp s.heap
 ak:nC a m fr s.ak
structure ED(s:St):Prop where
 bo:s.bo.length<=900000000
 fl:∀c∈s.heap,c.aK.length<=3
 heap:s.heap.length<=900000000
 depth:s.ak.length<=1000
 ak:∀f∈s.ak,f.av.length<=1000000/\f.aW.length<=1000000/\f.bn.length<=1000000
def Vb(d:I)(a:Nat->Nat)(m:I)(s:St)(v:Value)(g:I):Prop:=∃e bo c b,v=OJ s bo c b/\qN d e g bo c b s/\dy (λ_=>False) a m e g
abbrev UZ:=dy (λk=>2<=k)
def UZ.none(h:UZ a m e g)(d:∀b,b<m.size->a b<=1):dy (λ_=>False) a m e g:=⟨h.size,h.iW,h.new,λb c _=>h.fu b c (by have:=d b c;omega)⟩
def dy.Ek(h:dy (λ_=>False) a m e g):J m g:=⟨h.size,λb c=>h.fu b c id⟩
def Bs.eY(B:Bs d a m)(h:dy (λ_=>False) a m e g):Bs d e g:=⟨B.cG.trans h.Ek,λb c=>by rw[h.iW b (B.cG.lt c)];exact B.jV b c,h.new⟩
def dy.XJ(h:dy p a m e g){l:List Nat}(d:∀b∈l,b<m.size/\¬p (a b)):dV l m g:=λb c=>h.fu b (d b c).1 (d b c).2
structure TZ(d:I)(a:Nat->Nat)(m:I)(e:Nat->Nat)(M:I)(q r:O)(s:St):Prop where
 eY:UZ a m e M
 bo:gX e M aB 1 2 q (s.bo.map Ce.i)
 heap:ez d.size e M r s.heap
def TZ.rG{i j:Nat->Nat}{f g:I}{q r:O}{s:St}(h:TZ d a m i f q r s)(e:dy p i f j g)(c:∀k,p k->4<=k):TZ d a m j g q r s:=
 ⟨h.eY.trans (e.mono λk b=>by have:=c k b;omega),h.bo.eY e λb=>by have:=c _ b;omega,h.heap.eY e (λb=>by have:=c _ b;omega) λb=>by have:=c _ b;omega⟩
structure YM(a:Nat->Nat)(m:I)(r:O)(fs:List aZ)(css0 css:List (List Ce))(k:Nat):Prop where
 qQ:gX a m eg 6 4 r css.flatten
 len:css.length=fs.length
 size:∀cs∈css,cs.length=6
 done:∀(j:Nat)(cs:List Ce)(f:aZ),j<k->css[j]? =some cs->fs[j]? =some f->Rq a m j cs f
 jG:∀j,k<=j->css[j]? =css0[j]?
end
section
variable{d:Nat->Nat}{e:I}
abbrev z7:List Ce:=[.i 0,.i 0,.i 0,.i 0,.s .nil,.s .nil,.s .nil]
structure KB(m0:I)(ro:Nat->Nat)(m m2:I)(s:St)(ro':Nat->Nat)(M:I)(q r:Option O)(ob:Option Nat):Prop where
 eY:UZ ro m ro' M
 ext:J m2 M
 Wx:r=none->∀b,ro' b≠3
 box:∀b,m.size<=b->b<m2.size->ro' b=8
 bo:∀x,q=some x->gX ro' M aB 1 2 x (s.bo.map Ce.i)
 heap:∀x,r=some x->ez m0.size ro' M x s.heap
 ob:∀x,ob=some x->m2.size<=x/\ro' x=8/\cB M x jP z7
section
variable{h:I}{i:Nat->Nat}{m g:I}{s:St}{f:Nat->Nat}{M:I}{q r:Option O}{j:Option Nat}
def KB.fw(k:KB h i m g s f M q r j)(n:dy (λa=>a=3) f M d e)(p:J M e)(C:∀b,m.size<=b->b<g.size->d b=8){u o:Option O}{t:Option Nat}(z:r=none\/dy (λ_=>False) f M d e)(B:o=none->∀b,d b≠3)
 (w:∀x,u=some x->q=some x\/gX d e aB 1 2 x (s.bo.map Ce.i))(y:∀x,o=some x->r=some x\/ez h.size d e x s.heap)(A:∀x,t=some x->j=some x\/(g.size<=x/\d x=8/\cB e x jP z7)):KB h i m g s d e u o t:=
 ⟨k.eY.trans (n.mono λa c=>V),k.ext.trans p,B,C,λx c=>(w x c).elim (λa=>(k.bo x a).eY n bd) id,
  λx c=>(y x c).elim (λa=>z.elim (λl=>by rw[l]at a;cases a) λl=>(k.heap x a).eY l id id) id,
  λx c=>(A x c).elim (λa=>by
   obtain⟨v,b,l⟩:=k.ob x a;exact⟨v,by rw[n.iW _ l.lt];exact b,l.ext p⟩) id⟩
def KB.Ph(a:KB h i m g s f M q r j){p:Nat->Prop}(l:dy p f M d e):∀b,m.size<=b->b<g.size->d b=8:=λb k c=>by rw[l.iW b (a.ext.lt c)];exact a.box b k c
def KB.c(b:KB h i m g s f M none r j){x:O}(n:iO M e aB 1 x (s.bo.map Ce.i))(k:J M e):∃d,KB h i m g s d e (some x) r j:=by
 obtain⟨d,C,A,l⟩:=iO.Ps n k b.eY.new 2;exact⟨d,b.fw (C.mono λ_=>False.elim) k (b.Ph C) (Or.inr C) (λa c=>by have:=l c;have:=b.Wx a c;omega) (λy a=>Or.inr (by simp at a;subst a;exact A)) (λy a=>Or.inl a) λy a=>Or.inl a⟩
def KB.a(b:KB h i m g s f M q r j)(c:J M e):KB h i m g s f e q r j:=
 have C:dy (λ_=>False) f M f e:=dy.fe _ c b.eY.new
 b.fw (C.mono λ_=>False.elim) c (b.Ph C) (Or.inr C) b.Wx (λy a=>Or.inl a) (λy a=>Or.inl a) λy a=>Or.inl a
def KB.b(b:KB h i m g s f M q r none){e:I}(a:e=M.push (.cells (br z7) jP)):∃d,KB h i m g s d e q r (some M.size):=by
 have l:J M e:=by rw[a];exact J.push _ _
 have C:dy (λ_=>False) f M (uA f M.size 8) e:=dy.uA l b.eY.new (ad _) (by rw[a];simp) 8;refine⟨_,b.fw (C.mono λ_=>False.elim) l (b.Ph C) (Or.inr C) (λn c=>?_) (λy a=>Or.inl a) (λy a=>Or.inl a) λy j=>Or.inr ?_⟩
 ·by_cases k:c=M.size
  ·rw[k,iF];decide
  ·rw[eX k];exact b.Wx n c
 ·simp at j;subst j;exact⟨b.ext.size,iF _ _ _,by rw[a];exact cB.push _ _ _⟩
end
def DF{w:I}{u:Nat->Nat}{a:I}{bo hp fr:O}{s:St}(al:Bs w u a)(aw:∀c,u c<=1)(hs:ft a bo hp fr s)(ai:ED s):aN bY 116 [OJ s bo hp fr] a (Vb w u a s):=by
 apply xX;simp -zeta only[aE,aD];intro v i;have s1:v.size=a.size+1:=by simp[v]
 have s2:i.size=a.size+2:=by simp[i,s1]
 have x2:J a i:=((J.aC a).aM _).aM _;obtain⟨d,ap⟩:∃d,d=uA (uA u a.size 8) v.size 8:=⟨_,rfl⟩;have C2:dy (λ_=>False) u a d i:=by
  rw[ap];exact(dy.uA (m':=v) (k:=8) ((J.aC a).aM _) al.new (ad _) V).trans (dy.uA (m':=i) (k:=8) ((J.aC v).aM _) (λc Q=>by rw[eX V];exact al.new c V) (ad _) V)
 have r0:d a.size=8/\d v.size=8:=by rw[ap];exact⟨by rw[eX V,iF],iF _ _ _⟩
 have P:KB w u a i s d i none none none:=by
  refine⟨C2.mono λ_=>False.elim,J.aC _,λ_ c=>?_,λc h1 h2=>?_,E,E,E⟩
  ·rw[ap];unfold uA;split
   ·decide
   ·split
    ·decide
    ·have:=aw c;omega
  ·rcases aV c v.size with h|h
   ·have:c=a.size:=V;subst this;exact r0.1
   ·have:c=v.size:=V;subst this;exact r0.2
 clear_value i;clear ap;have hN:=al.cG.size;have a9:=ai.bo;have a8:=ai.heap;have a5:=ai.depth;have cC:∀{b:Nat->Nat}{M:I}{j:Option O}{l:Option Nat}{ab:Value->I->Prop},KB w u a i s b M none j l->(∀A g G,KB w u a i s G g (some A) j l->J M g->M.size<=g.size->ab (O.v A) g)->aN bY 57 [O.v bo] M ab:=λh hK=>
  (fE (hs.bo.ext (x2.trans h.ext)) V).mono λ_ g⟨A,p,z,y⟩=>by
   obtain⟨G,h'⟩:=h.c z y;rw[p];exact hK A g G h' y y.size
 have cH:∀{b:Nat->Nat}{M:I}{q:Option O}{l:Option Nat}{ab:Value->I->Prop},KB w u a i s b M q none l->(∀A g G,KB w u a i s G g q (some A) l->J M g->M.size<=g.size->ab (O.v A) g)->aN bY 160 [O.v hp] M ab:=λ{b M q l ab} h hK=>
  (Fo (N:=w.size) h.eY.new (λc _=>h.Wx rfl c) (hs.ext (x2.trans h.ext)).heap (by have:=h.ext.size;omega) ai.fl V).mono λ_ g⟨G,A,p,aQ,am,y⟩=>by
   rw[p];exact hK A g G (h.fw am y (h.Ph am) (Or.inl rfl) (λp=>by cases p) (λe p=>Or.inl p) (λe p=>Or.inr (by simp at p;subst p;exact aQ)) λe p=>Or.inl p) y y.size
 have kp:∀{M g:I},J M g->i.size<=M.size->∀R,D g a.size R=D M a.size R:=λy aC R=>aI (y.same _ V) R;refine⟨λz M=>z.2=0/\∃b q j L,TZ w u a b M q j s/\i.size<=z.1/\i.size<=M.size/\b z.1=8/\b a.size=8/\b v.size=8/\cB M z.1 jP [.i s.cL,.i s.value,.i s.bI,.i s.dK,.s q,.s j,.s (.mk L 0 0 0)],?_,?_⟩
 ·have il:∀{b:Nat->Nat}{M:I}{q j:O}{l L:Nat},KB w u a i s b M (some q) (some j) (some l)->(λ(z:Nat×Nat) M=>z.2=0/\∃b q j L,TZ w u a b M q j s/\i.size<=z.1/\i.size<=M.size/\b z.1=8/\b a.size=8/\b v.size=8/\cB M z.1 jP [.i s.cL,.i s.value,.i s.bI,.i s.dK,.s q,.s j,.s (.mk L 0 0 0)]) (l,0) (aj M l 0 [.i s.cL,.i s.value,.i s.bI,.i s.dK,.s q,.s j,.s (.mk L 0 0 0)]):=λ{b M q j l L} h=>by
   obtain⟨H,c,av⟩:=h.ob l rfl;have am:dy (λe=>e=8) b M b (aj M l 0 [.i s.cL,.i s.value,.i s.bI,.i s.dK,.s q,.s j,.s (.mk L 0 0 0)]):=dy.aj h.eY.new c _ _;exact⟨rfl,b,q,j,L,(⟨h.eY,h.bo q rfl,h.heap j rfl⟩:TZ w u a b M q j s).rG am λe hk=>V,H,by rw[az];exact h.ext.size,c,h.box _ V V,h.box _ V V,cB.aj (m:=M) (o:=0) av⟩
  have t:i.size<=i.size:=ad _;repeat' first
   |exact il P
   |(refine cC P ?_;intro A g G P B C;have F:=t;have t:=bJ t C)
   |(refine cH P ?_;intro A g G P B C;have F:=t;have t:=bJ t C)
   |(intro C;have B:J _ C:=(J.aC _).aM _;have K:Array.size C=_+1:=Za _;have F:=t;have t:=bJ t B.size;first|(obtain⟨G,P⟩:=P.b (e:=C) rfl;clear_value C)|(have P:=P.a B;clear_value C))
   |(refine And.intro (kp B F _) ?_)
   |(refine And.intro (J.da B λc Q=>by simp at Q;omega) ?_)
   |(refine⟨_,rfl,?_⟩)
   |(refine And.intro ?_ ?_)
 ·rintro⟨l,oo⟩ m3 ⟨rfl,a3,q,j,L,K3,aT,z3,r3,a0,a1,aG⟩;simp only[]at aT r3 aG;have aR:∀{b:Nat->Nat}{M:I},UZ u a b M->J a M:=λav=>(av.none λc _=>aw c).Ek;have a7:=hs.ak.len;simp -zeta only[bN];refine dO (n:=s.ak.length) V (λe M=>∃b fc,TZ w u a b M q j s/\nC b M fc (s.ak.take e)/\i.size<=M.size/\b l=8/\b a.size=8/\b v.size=8/\cB M l jP [.i s.cL,.i s.value,.i s.bI,.i s.dK,.s q,.s j,.s fc])
   ⟨a3,_,K3,⟨[],⟨E,E,Or.inl rfl⟩,E,E,E⟩,z3,r3,a0,a1,aG⟩ ?_
  rintro e F a4 μ hk ⟨Z,fc,K9,F9,z9,r9,a2,aJ,C⟩ aW
  have en:Int.toNat (e:Int)=e:=V;rw[en];have K:=aR K9.eY;have a_:=C.lt;refine dit (λh1=>?_) λh1=>?_
  ·have aS:e<s.ak.length:=V;obtain⟨ah,hf⟩:=ag aS;have a6:=ai.ak ah (au hf);obtain⟨ra,oa,ha,ir,io,ih,g0,g1,g2,g3,g4,g5⟩:=hs.ak.u hf;refine⟨V,V,_,K.D g0,_,K.D g1,_,K.D g2,ra,K.D g3,oa,K.D g4,ha,K.D g5,?_⟩;intro ax ac;have ak:J F ac:=((J.aC F).aM _).aj (ad _) _ _;have be:ac.size=F.size+1:=by simp[ac,ax,az]
   clear_value ac;have aA:dy (λ_=>False) Z F (uA Z F.size 8) ac:=dy.uA ak K9.eY.new (ad _) V 8;have t:∀{M g:I}{c:Nat},J M g->c<M.size->∀R,D g c R=D M c R:=λy aC R=>aI (y.same _ aC) R;have bl:∀{M:I},ac.size<=M.size->∀c∈[F.size,v.size,a.size],c<M.size:=λh c Q=>by simp at Q;omega
   refine⟨fc,(C.ext ak).cy 6,(fE (ir.ext (K.trans ak)) V).mono ?_⟩;rintro _ ba ⟨qr,rfl,aX,B⟩;obtain⟨bc,ar,aL,_⟩:=iO.Ps aX B aA.new (10+3*e);have bi:=B.size;refine⟨B.da (bl (ad _)),qr,rfl,t B V _,t B V _,t B V _,t B V _,t B V _,t B V _,(fE (io.ext (K.trans (ak.trans B))) V).mono ?_⟩;rintro _ bb ⟨qo,rfl,aY,S⟩;obtain⟨bd,an,aM,_⟩:=iO.Ps aY S ar.new (11+3*e);have bj:=S.size;refine⟨S.da (bl V),qo,rfl,t S V _,t S V _,t S V _,t S V _,t S V _,(fE (ih.ext (K.trans (ak.trans (B.trans S)))) V).mono ?_⟩;rintro _ W ⟨qh,rfl,aZ,aa⟩;obtain⟨Y,ae,aO,_⟩:=iO.Ps aZ aa an.new (12+3*e);have bk:=aa.size;refine⟨aa.da (bl V),qh,rfl,t aa V _,t aa V _,t aa V _,t aa V _,?_⟩;intro X;have aK:J W X:=(J.aC W).aM _;have bf:X.size=W.size+1:=by simp[X]
   have aU:cB X W.size eg [.i ah.eS,.i ah.pc,.i ah.dst,.s qr,.s qo,.s qh]:=cB.push W _ _;clear_value X;have af:dy (λ_=>False) Y W Y X:=dy.fe _ aK ae.new;have D9:dy (λ_=>False) Z F Y X:=(((aA.trans ar).trans an).trans ae).trans af;have T:Y F.size=8/\Y a.size=8/\Y v.size=8/\Y l=8:=⟨by rw[ae.iW _ V,an.iW _ V,ar.iW _ V];exact iF _ _ _,by rw[D9.iW _ V];exact a2,by rw[D9.iW _ V];exact aJ,by rw[D9.iW _ V];exact r9⟩;have tk:(s.ak.take e).length=e:=bK;refine⟨t aK V _,nC.push (a:=ah) (F9.eY D9 λ_ _=>id) af.new (x:=.mk W.size 0 1 1) rfl aU.je (by rw[tk];exact(((aL.eY an id).eY ae id).eY af id)) (by rw[tk];exact(aM.eY ae id).eY af id) (by rw[tk];exact aO.eY af id) V λU aB aq aP H=>?_⟩;have bm:=H.size;have ao:U F.size=8/\U a.size=8/\U v.size=8/\U l=8:=⟨by rw[H.iW _ V];exact T.1,by rw[H.iW _ V];exact T.2.1,by rw[H.iW _ V];exact T.2.2.1,by rw[H.iW _ V];exact T.2.2.2⟩;have aF:cB aq l jP [.i s.cL,.i s.value,.i s.bI,.i s.dK,.s q,.s j,.s fc]:=(C.ext D9.Ek).congr (H.fu _ V (by rw[T.2.2.2];decide));refine⟨H.XJ λc Q=>by simp at Q;rcases Q with p|p|p<;>rw[p]<;>refine⟨V,?_⟩<;>simp[T.1,T.2.1,T.2.2.1],aF.fm E,?_⟩;intro aH;have ay:dy (λe=>e=8) U aq U aH:=dy.aj H.new (show(λe=>e=8) (U l)from ao.2.2.2) _ _;have bg:aH.size=aq.size:=az _ _ _ _;refine⟨λc Q=>bh _ _ _ _ (by simp at Q;omega),aW V _ ⟨U,aB,((K9.rG D9 λ_=>False.elim).rG H λe hk=>V).rG ay λe hk=>V,?_,V,ao.2.2.2,ao.2.1,ao.2.2.1,cB.aj (m:=aq) (o:=6) (r:=[.s aB]) aF⟩⟩;rw[bH hf];exact aP.eY ay λe hk=>V
  ·rw[bZ V]at F9;refine⟨_,C.cy 0,_,C.cy 1,_,C.cy 2,_,C.cy 3,_,C.cy 4,_,C.cy 5,_,C.cy 6,?_⟩;intro ax;have B:dy (λe=>e=8) Z F Z ax:=dy.aj K9.eY.new (show(λe=>e=8) (Z v.size)from aJ) _ _;have t:=K9.rG B λe hk=>V;have H:=t.eY.none λc _=>aw c;exact⟨Z,q,j,fc,rfl,⟨al.eY H,t.bo,t.heap,F9.eY B λe hk=>V⟩,H⟩
end
section
variable{n e:Nat}{a M b:I}
def ON:St:=⟨0,0,0,0,[],[],[]⟩
structure Y8 where
 s:St
 ok:Bool
def cN.iQ{j:cD}{s:St}(h:cN j s)(b:Sm n s)(o:n<=900000000):ED s:=by
 refine⟨by have:=b.bo;omega,λc e=>(h.heap.cell c e).fl,by have:=b.heap;omega,?_,λf g=>?_⟩
 ·have:=h.depth;have:=h.bI;have:=h.dK;omega
 ·have a:=h.ak f g;obtain⟨p,_,i,d,_⟩:=a.IP h.fK;have k:=a.lr;have l:=a.lo;have m:=a.lh;rw[i]at k l m;have:=d.av;omega
def zw.sm{s:St}(h:zw s)(a:s.heap.length<=n)(b:s.bo.length<=n):Sm n s:=⟨a,b,λg c w d=>((h.ak g c).1 w d).2⟩
section
variable{c:I}{d:Nat->Nat}{m:I}{bo g f:O}{s:St}
def qN.Jc(h:qN c d m bo g f s)(a:ED s):ft m bo g f s:=
 ⟨h.bo.ov (by have:=a.bo;omega),h.heap.cells (by have:=a.heap;omega),h.ak.Jc (by have:=a.depth;omega) a.ak⟩
def qN.eu(h:qN c d m bo g f s){b:I}(l:J m b){a:Nat}{i:List Ce}(k:m.size<=a)(j:cB b a e i):zy c (uA d a 1) b a e i bo g f s.bo s.heap s.ak:=by
 have C:dy (λ_=>False) d m (uA d a 1) b:=dy.uA l h.bs.new k j.lt 1;have B:=h.bs.eY C;exact⟨B.cG,B.jV,B.new,j,iF _ _ _,h.bo.eY C id,h.heap.eY C id id,h.ak.eY C λ_ _=>id⟩
def qN.nil{c m:I}(a:J c m):qN c (λ_=>0) m .nil .nil .nil ON:=
 ⟨⟨a,λ_ _=>rfl,λ_ _=>rfl⟩,⟨by simp[ON],E,Or.inl rfl⟩,⟨[],⟨E,E,Or.inl rfl⟩,by simpa[ON]using fU.nil _ _,UF.nil⟩,nC.none⟩
def zy.Jc{h e:Nat}{a:List Ce}(L:zy c d m h e a bo g f s.bo s.heap s.ak)(b:ED s):ft m bo g f s:=
 qN.Jc (d:=d) ⟨⟨L.cG,L.jV,L.new⟩,L.bo,L.heap,L.ak⟩ b
end
def gX.up{c:Nat->Nat}{m f:I}{g k:Nat}{s:O}{l:List Ce}(h:gX c m e g k s l)(n:k≠0)(i:∀b,b<a.size->c b=0)(j:∀b,a.size<=b->b<m.size->f[b]? =m[b]?):gX c f e g k s l:=
 h.fu (λd=>j _ (Es λo=>n (by rw[<-(h.F d).2];exact i _ o)) (h.F d).1) λ_=>rfl
def qN.Oz{m:I}{r:Nat->Nat}{bo q o:O}{s:St}(h:qN a r M bo q o s)(D:m.size<=a.size)(E:M.size<=b.size)(d:∀c,a.size<=c->c<M.size->b[c]? =M[c]?)(B:J m b):qN m r b bo q o s:=by
 have f:=h.bs.jV;refine⟨⟨B,λc g=>f c V,λc g=>h.bs.new c V⟩,h.bo.up bd f d,?_,?_⟩
 ·obtain⟨i,t,u,v⟩:=h.heap;refine⟨i,t.up bd f d,u.mono λk C⟨j,x,l,n⟩=>⟨j,x,mJ l λg=>d _ (n g).2.1 (nD l g),λg=>?_⟩,v⟩;obtain⟨y,z,w,tail,A,p⟩:=n g;exact⟨y,V,w,tail,A,p.congr (d _ z p.lt)⟩
 ·obtain⟨i,g⟩:=h.ak;exact⟨i,g.qQ.up bd f d,g.len,g.size,λw k j t u=>by
   obtain⟨y,x,v,e,l,n,p⟩:=g.df w k j t u;exact⟨y,x,v,e,l.up V f d,n.up V f d,p.up V f d⟩⟩
def qN.box{m:I}{e:Nat->Nat}{bo c b:O}{s:St}(h:qN a e M bo c b s)(d:J m a){nb:Nat}(f:m.size<=nb)(i:nb<a.size)(o:Nat)(l:List Ce):qN m e (aj M nb o l) bo c b s:=
 h.Oz d.size (rP (az _ _ _ _).symm) (λg j _=>bh _ _ _ _ V) ((d.trans h.bs.cG).aj f _ _)
def qN.ext{e:I}{f:Nat->Nat}{bo d c:O}{s:St}(h:qN e f M bo d c s)(a:J M b):qN e f b bo d c s:=h.Oz (ad _) a.size (λg _ i=>a.same g i) (h.bs.cG.trans a)
def Bs.Du(m:I):Bs m (λ_=>0) m:=⟨J.aC _,λ_ _=>rfl,λ_ _=>rfl⟩
section
variable{m:I}{d p bo j g:O}{k:cD}{s:St}
variable(c:eV m d p k)(f:ft m bo j g s)(h:zw s)(i:s.bo.length<=10000000)
include c f h i
omit c f in
end
end
section
variable{M:I}
def Pp{k b:Nat}(a:b<k)(h:k<=M.size):(M.extract 0 k)[b]? =M[b]? :=((J.My h).same b (by rw[kG h];exact a)).symm
def qN.old{a M':I}{g:Nat->Nat}{bo d c:O}{s:St}(h:qN a g M bo d c s)(f:M.size<=M'.size)(i:∀b,a.size<=b->b<M.size->M'[b]? =M[b]?):qN (M'.extract 0 a.size) g M' bo d c s:=
 have e:=bJ h.bs.cG.size f
 h.Oz (by rw[kG e];exact ad _) f i (J.My e)
def zy.old{a M M':I}{i:Nat->Nat}{c e:Nat}{d:List Ce}{bo h f:O}{s:St}(L:zy a i M c e d bo h f s.bo s.heap s.ak)(j:a.size<=c)(k:M.size<=M'.size)(g:∀b,a.size<=b->b<M.size->M'[b]? =M[b]?):zy (M'.extract 0 a.size) i M' c e d bo h f s.bo s.heap s.ak:=
 have N:=qN.old (s:=s) ⟨⟨L.cG,L.jV,L.new⟩,L.bo,L.heap,L.ak⟩ k g
 ⟨N.bs.cG,N.bs.jV,N.bs.new,L.box.congr (g _ j L.box.lt),L.Pr,N.bo,N.heap,N.ak⟩
def Ut{Y:List Nat}{m:I}(f:Fz Y m M):Le (bA Y m) (M.extract 0 m.size):=λc o v e=>by
 obtain⟨d,a⟩:=dP.1 e;have b:=lC a;rw[aI ((Pp b f.size).trans (f.same c b d))];exact a
def YN(f:cD)(d:Nat)(e:O)(m:I)(P:Nat)(v:Value)(a:I):Prop:=∃n g bo c b s,v=OJ s bo c b/\qN (a.extract 0 n) g a bo c b s/\m.size<=n/\n<=a.size/\cN f s/\Sm 100000 s/\Rd d e P a/\Fz [d] m a
section
variable{f:List Nat}{a:I}{b P:Nat}{e d p:O}{c:cD}
def Ft(N:Rd b e P a)(hP:P+100<=10000000000000000)(hd:bR (bA [b] a) d c.aT)(hp:gB (bA [b] a) p c.cA)(R:lO c):aN bY 61 [vp b 0,.agg #[O.v d,O.v p]] a (YN c b e a (P+6)):=by
 apply yi (b,0);simp -zeta only[aE,aD];have hr:=N.lt;intro l t;obtain⟨x2,r⟩:=di (a:=l) (c:=t) rfl rfl;have s1:l.size=a.size+1:=by simp[l]
 have B2:cB t a.size tv [.s d,.s p]:=(cB.push a _ _).ext (J.push l _);clear_value t;have r2:Rs b e a P t:=⟨x2.fz _,N.ext x2⟩;intro T;have x3:J t T:=J.push _ _;have A:∀o,D T a.size o=D t a.size o:=λo=>aI (x3.same _ B2.lt) o;refine⟨A _,A _,A _,A _,?_⟩;refine(xD r2 V [40,40,12,3,0,20] rfl rfl E).mono λ_ j⟨dK,h,aF,r4,w⟩=>?_;have z3:=x3.size;have z2:=x2.size;have w:Fz [b] T j:=w;have z4:=w.size;have aZ:=r l.size E;have hm:0<=dK/\dK<=40:=by simp at aF;omega
 have B:∀o,D j a.size o=D T a.size o:=λo=>aI (w.same _ V bK) o;refine⟨w.da λf g=>by have:=r f g;simp at g⊢;omega,dK,h,B _,B _,B _,B _,?_⟩;have aH:∀{M:I},Fz [b] a M->eV M d p c:=λK=>have aq:=(K.cJ (S:=[b]) E).trans (bt _ _);⟨hd.le aq,gB.le aq hp⟩;refine(Cn (aH r4.f) R dK).mono ?_;rintro _ u ⟨bo,aG,fr,rfl,x,b1,b2,b3,b4,a0,q1,q2,q3,q4,q5,au,q6,k4⟩;have z5:=x.size;have G5:∀o,D u a.size o=D j a.size o:=λo=>aI (x.same _ V) o;refine⟨x.da λf g=>by have:=r f g;omega,_,_,_,_,_,_,_,rfl,G5 _,G5 _,?_⟩;intro n;have x6:J u n:=J.push _ _;have kb:cB n u.size bF (SB d p (ku c dK) bo aG fr):=cB.push u _ _;have L6:=Q8 (t:=j) (My:=[.s d,.s p]) ⟨q1,q2,q3,q4,q5⟩ au q6 k4 x6 (ad _) kb;have s6:n.size=u.size+1:=by simp[n]
 clear_value n;have r6:=(r4.ext x).ext x6;have L:∀{M:I},n.size<=M.size->Lw b [u.size,l.size,a.size] M:=λaY=>lw hr bK;refine(bO r6.r V 60).mono λ_ m7⟨C,h,aQ,aR,d7,Y⟩=>⟨(L (ad _)).da Y,C,h,?_⟩;have z7:=Y.size;refine(bO d7 V 200).mono λ_ m8⟨F,h,aS,aT,d8,Z⟩=>⟨(L z7).da Z,F,h,?_⟩;have z8:=Z.size;refine(bO d8 V 20).mono λ_ m9⟨G,h,aU,aV,d9,f9⟩=>⟨(L V).da f9,G,h,?_⟩;have z9:=f9.size;refine(bO d9 V 100).mono λ_ ab⟨H,h,aW,aX,aw,U⟩=>⟨(L V).da U,H,h,?_⟩;have vP:=U.size;have ai:=((Y.trans Z).trans f9).trans U;have aK:=r6.to ai aw;have af:=J.push ab (.cells (br [.i C,.i F,.i G,.i 100000,.i 0,.i H]) aB);have a3:=af.size;refine(xD aK V [C,F,G,100000,0,H] rfl rfl E).mono λ_ y⟨ac,h,aj,am,v⟩=>?_;have v:Fz [b] (ab.push (.cells (br [.i C,.i F,.i G,.i 100000,.i 0,.i H]) aB)) y:=v;refine⟨(L (bJ (by omega:n.size<=ab.size) af.size)).da v,ac,h,?_⟩;have a4:=v.size;obtain⟨q,rfl⟩:∃q:Nat,ac=q:=⟨ac.toNat,by simp at aj;omega⟩;have hn:q<=100000:=by simp at aj;omega
 have X:=(ai.trans (af.fz _)).trans v;have ay:=((x.trans x6).fz [b]).trans X;have ah:=L6.old (s:=ku c dK) (M':=y) V X.size λf h1 h2=>X.same f h2 bK;have e0:(y.extract 0 j.size).size=j.size:=kG V;have w4:Le (bA [b] a) (y.extract 0 j.size):=(r4.f.cJ E).trans (Ut ay);refine(Nz (s:=ku c dK) ah ⟨hd.le w4,gB.le w4 hp⟩ (JI R hm) (NB c dK) q hn V).mono ?_;rintro _ z ⟨⟨nn,rfl⟩,a2,aJ,aC,ax,i,ap⟩;have ak:=JK q (JI R hm);have Q:=JL q (JI R hm) (NB c dK) V;have al:=ak.iQ Q V;generalize aA c q (ku c dK)=st at*;have aO:=i.cG;have a5:=ap.size;have ao:∀f,f<j.size->z[f]? =y[f]? :=λf g=>(aO.same f V).trans (Pp g V);have aL:Rs b e a (P+6) z:=by
  have K:Fz [b] a z:=⟨V,λf g hn=>(ao f V).trans (am.f.same f g hn)⟩;exact⟨K,(N.J6 am.r K (ao b V)).mono V⟩
 refine⟨ap.fW λf g=>⟨by have:=r f g;omega,ah.jV f (by have:=r f g;omega)⟩,nn,rfl,_,i.box.cy 2,_,i.box.cy 3,_,i.box.cy 4,_,i.box.cy 5,aJ,i.box.cy 6,aC,i.box.cy 7,ax,i.box.cy 8,(DF (Bs.Du z) (λ_=>dH _) (i.Jc al) al).mono ?_⟩;rintro _ a1 ⟨aM,ae,aa,W,rfl,av,ar⟩;have ag:=ar.Ek;have aP:=ag.size;refine⟨ag.da λf g=>by have:=r f g;omega,_,_,_,_,ae,aa,W,rfl,?_⟩;have an:=(aL.ext ag).put N (k:=l.size) V 0 [.i st.cL,.i st.value,.i st.bI,.i st.dK,.s ae,.s aa,.s W];exact⟨z.size,aM,ae,aa,W,st,rfl,av.old (rP (az _ _ _ _).symm) λf g _=>bh _ _ _ _ V,V,by rw[az];exact aP,ak,⟨by have:=Q.heap;omega,by have:=Q.bo;omega,Q.xl⟩,an.r,an.f⟩
end
end
section
variable{q:O}
def cN.Xj{t:cD}{s:St}{p:Nat}(h:cN t s)(d:Sm p s)(z:p<=10000000):zw s:=by
 have n:=h.iQ d V;have j:=h.bI;have y:=h.dK;have x:=d.heap;have C:=EI h;have v:=n.depth;refine⟨⟨V,V⟩,λg j w a=>?_,λf b=>?_,V,V,λf b=>by have:=n.ak f b;omega⟩
 ·have c:=h.heap.cell g j;rcases Gc g.aQ 1 with e|e
  ·have:=(c.uH e).2.1 w a;exact⟨V,V⟩
  ·rcases(c.oC V).1 w a with e|⟨e,m,i,_⟩
   ·exact⟨by have:=e.1;omega,by have:=e.2;omega⟩
   ·have:=ax i;have:=gP e;exact⟨V,V⟩
 ·obtain⟨c,q⟩:=List.mem_iff_getElem?.1 b;have F:=C.ak c f q;refine⟨λw a=>⟨?_,d.xl f b w a⟩,λu r=>?_,λw a=>?_⟩
  ·rcases(h.ak f b).OA w a with e|e
   ·have:=e.1;omega
   ·omega
  ·obtain⟨o,m⟩:=List.mem_iff_getElem?.1 r;have:=F.lr;have:=F.lo;have:=ax m;obtain⟨w,a⟩:=ag (l:=f.av) (k:=o) V;have:=(F.av.df o w u a m).2.1;exact⟨V,V⟩
  ·rcases C.bn.dh f b w a with e|⟨e,i⟩
   ·exact⟨V,V⟩
   ·have:=gP e;exact⟨V,V⟩
structure Mv(n:Nat)(ro:Nat->Nat)(M:I)(ro':Nat->Nat)(M':I):Prop where
 size:M.size<=M'.size
 fu:∀b,b<M.size->n<=b->M'[b]? =M[b]?
 iW:∀b,b<M.size->ro' b=ro b
 new:∀b,M'.size<=b->ro' b=0
 jV:∀b,b<n->ro b=0
section
variable{n:Nat}{a d:Nat->Nat}{M b:I}
def gX.mv{e f k:Nat}{s:O}{l:List Ce}(h:gX a M e f k s l)(v:Mv n a M d b)(g:k≠0):gX d b e f k s l:=
 h.fu (λc=>v.fu _ (h.F c).1 (Es λe=>g (by rw[<-(h.F c).2];exact v.jV _ e))) λc=>v.iW _ (h.F c).1
def ez.mv{j:O}{i:List bM}(u:ez n a M j i)(v:Mv n a M d b):ez n d b j i:=by
 obtain⟨p,k,l,m⟩:=u;refine⟨p,k.mv v bd,l.mono λx w⟨r,q,f,g⟩=>⟨r,q,mJ f λc=>v.fu _ (nD f c) (g c).2.1,λc=>?_⟩,m⟩;obtain⟨s,h,o,tail,t,e⟩:=g c;exact⟨(v.iW _ e.lt).trans s,h,o,tail,t,e.congr (v.fu _ e.lt h)⟩
def Rq.mv{i:Nat}{c:List Ce}{f:aZ}(v:Mv n a M d b):Rq a M i c f->Rq d b i c f:=λ⟨r,o,k,j,e,g,h⟩=>⟨r,o,k,j,e.mv v V,g.mv v V,h.mv v V⟩
def qO.mv{e:O}{g:List aZ}{f:aZ}{r o h:O}{c:List (List Ce)}(T:qO a M e g f r o h c)(v:Mv n a M d b):qO d b e g f r o h c:=
 ⟨T.qQ.mv v bd,T.len,T.size,λm i j k l=>(T.df m i j k l).mv v,T.av.mv v V,T.aW.mv v V,T.bn.mv v V⟩
def nC.mv{c:O}{e:List aZ}(l:nC a M c e)(v:Mv n a M d b):nC d b c e:=by
 obtain⟨g,h⟩:=l;exact⟨g,h.qQ.mv v bd,h.len,h.size,λm f i j k=>(h.df m f i j k).mv v⟩
def qO.put{d:O}{b:List aZ}{f g:aZ}{s o p n m j:O}{h:List (List Ce)}(T:qO a M d b f s o p h)(w:∀e,M.size<=e->a e=0){i:Nat}(x:i<6){c:Ce}
 (v:iE [.i f.eS,.i f.pc,.i f.dst,.s s,.s o,.s p] i [c]=[.i g.eS,.i g.pc,.i g.dst,.s n,.s m,.s j])(t:gX a M aB 1 (10+3*b.length) n (g.av.map Ce.i))(q:gX a M aB 1 (11+3*b.length) m (g.aW.map Ce.i))(r:gX a M aB 1 (12+3*b.length) j (g.bn.map Ce.i)):
 fm M d.F (d.off+b.length*6+i) 1/\qO a (aj M d.F (d.off+b.length*6+i) [c]) d b g n m j h/\dy (λk=>4<=k/\k≠9) a M a (aj M d.F (d.off+b.length*6+i) [c]):=by
 have u:=T.F
 have e:dy (λk=>k=4) a M a (aj M d.F (d.off+b.length*6+i) [c]):=dy.aj w u.1 _ _
 have l:h.flatten.length=b.length*6:=by rw[cX T.size,T.len]
 refine⟨by rw[dB];exact T.qQ.wr (by simp only[a9,l,bg,eF];omega),⟨?_,T.len,T.size,T.vC e λk q r=>V,t.eY e V,q.eY e V,r.eY e V⟩,e.mono λk y=>V⟩
 have:=T.qQ.set (o:=b.length*6+i) (new:=[c]) (by simp[l];omega)
 rw[lF _ _ _ _ V,l,Er,v]at this
 rw[dB];exact this
end
structure SO(n:Nat)(ro:Nat->Nat)(M:I)(bo hp fr:O)(s:St):Prop where
 le:n<=M.size
 jV:∀b,b<n->ro b=0
 new:∀b,M.size<=b->ro b=0
 bo:gX ro M aB 1 2 bo (s.bo.map Ce.i)
 heap:ez n ro M hp s.heap
 ak:nC ro M fr s.ak
structure FS(s:St):Prop where
 xl:zw s
 iQ:ED s
 lo:s.bo.length<=1000000/\s.heap.length<=1000000
section
variable{n:Nat}{a e:Nat->Nat}{M b:I}{bo d c:O}{s:St}
def SO.of(N:qN (M.extract 0 n) a M bo d c s)(h:n<=M.size):SO n a M bo d c s:=⟨h,λb e=>N.bs.jV b (by rw[kG h];exact e),N.bs.new,N.bo,by have:=N.heap;rwa[kG h]at this,N.ak⟩
def SO.mv(w:SO n a M bo d c s)(v:Mv n a M e b):SO n e b bo d c s:=⟨bJ w.le v.size,λf g=>(v.iW f (aJ g w.le)).trans (w.jV f g),v.new,w.bo.mv v bd,w.heap.mv v,w.ak.mv v⟩
def SO.XC(w:SO n a M bo d c s){h:Nat}(f:Fz [h] M b)(j:h<n):Mv n a M a b:=⟨f.size,λe g i=>f.same e g bK,λ_ _=>rfl,λe g=>w.new e (bJ f.size g),w.jV⟩
def SO.eY{p:Nat->Prop}(w:SO n a M bo d c s)(C:dy p a M e b):n<=b.size/\(∀f,f<n->e f=0)/\∀f,b.size<=f->e f=0:=⟨bJ w.le C.size,λf g=>(C.iW f (aJ g w.le)).trans (w.jV f g),C.new⟩
def SO.box(w:SO n a M bo d c s){b:Nat}(g:a b=1)(o:Nat)(l:List Ce):SO n a (aj M b o l) bo d c s:=by
 have C:dy (λk=>k=1) a M a (aj M b o l):=dy.aj w.new g _ _;obtain⟨e,b,f⟩:=w.eY C;exact⟨e,b,f,w.bo.eY C bd,w.heap.eY C bd bd,w.ak.eY C λk h=>V⟩
def SO.Jm(w:SO n a M bo d c s)(C:dy (λk=>k=2) a M e b){l:List Int}(A:gX e b aB 1 2 q (l.map Ce.i)):SO n e b q d c {s with bo:=l}:=
 let⟨f,g,h⟩:=w.eY C
 ⟨f,g,h,A,w.heap.eY C bd bd,w.ak.eY C λk i=>V⟩
def SO.jh(w:SO n a M bo d c s)(C:dy (λk=>k=3) a M e b){h:List bM}(A:ez n e b q h):SO n e b bo q c {s with heap:=h}:=
 let⟨f,g,i⟩:=w.eY C
 ⟨f,g,i,w.bo.eY C bd,A,w.ak.eY C λk j=>V⟩
def SO.kQ(w:SO n a M bo d c s)(C:dy (λk=>4<=k/\k≠9) a M e b){l:List aZ}(A:nC e b q l):SO n e b bo d q {s with ak:=l}:=
 let⟨f,g,h⟩:=w.eY C
 ⟨f,g,h,w.bo.eY C bd,w.heap.eY C bd bd,A⟩
def SO.Jc(w:SO n a M bo d c s)(h:ED s):ft M bo d c s:=⟨w.bo.ov (by have:=h.bo;omega),w.heap.cells (by have:=h.heap;omega),w.ak.Jc (by have:=h.depth;omega) h.ak⟩
end
end
section
variable{K:Int->I->Prop}{p:Nat->Prop}
def SP(n h:Nat)(f:O)(g:I)(P:Nat)(v:Value)(a:I):Prop:=∃bo e d s,v=OJ s bo e d/\(∀c,a.size<=c.size->(∀b,b<a.size->n<=b->c[b]? =a[b]?)->ft c bo e d s)/\zw s/\(s.bo.length<=1000000/\s.heap.length<=1000000)/\Rs h f g P a
structure SQ(n rb:Nat)(bs:O)(ma:I)(k1 k2 Q:Nat)(ro:Nat->Nat)(M:I)(bo hp fr:O)(s:St):Prop where
 w:SO n ro M bo hp fr s
 r:Rs rb bs ma Q M
 k1:ro k1=1/\k1<M.size/\n<=k1
 k2:ro k2=1/\k2<M.size/\n<=k2
 fs:FS s
section
variable{n b m q Q w P t:Nat}{j bo h f:O}{e M d:I}{r u:Nat->Nat}{s v:St}{L:List Nat}
def SQ.fz(a:SQ n b j e m q Q r M bo h f s)(g:b<n)(c:Fz [b] M d)(i:Rs b j e w d):SQ n b j e m q w r d bo h f s:=
 ⟨a.w.mv (a.w.XC c g),i,⟨a.k1.1,aJ a.k1.2.1 c.size,a.k1.2.2⟩,⟨a.k2.1,aJ a.k2.2.1 c.size,a.k2.2.2⟩,a.fs⟩
def SQ.ext(a:SQ n b j e m q Q r M bo h f s)(c:b<n)(x:J M d):SQ n b j e m q Q r d bo h f s:=a.fz c (x.fz _) (a.r.ext x)
def SQ.fq(c:SQ n b j e m q Q r M bo h f s)(o:b<n)(k:∀a∈L,a=m\/a=q)(i:Fz [b] M d):dV L M d:=i.da λa l=>by
 have:=c.k1;have:=c.k2;rcases k a l with g|g<;>simp only[jm]<;>omega
def SQ.gk(a:SQ n b j e m q Q r M bo h f s)(g:b<n)(c:Fz [b] M d)(o:Nat):D d q o=D M q o:=aI (c.same _ a.k2.2.1 (by have:=a.k2;simp only[jm];omega)) o
def SQ.done(a:SQ n b j e m q Q r M bo h f s)(v:Rd b j t e)(C:e.size<=n)(x:Q<=P){o c g p:Int}(A:Ew g)(l:List Ce):SP n b j e P (.agg #[vi o,vi c,vi g,vi p,O.v bo,O.v h,O.v f]) (aj M m 0 l):=by
 have w:=a.w.box a.k1.1 0 l;have u:=a.r.put v (k:=m) (by have:=a.k1;omega) 0 l;exact⟨bo,h,f,⟨o,c,g,p,s.bo,s.heap,s.ak⟩,rfl,λd z B=>have i:=(w.mv ⟨z,B,λ_ _=>rfl,λc y=>w.new c (bJ z y),w.jV⟩).Jc a.fs.iQ;⟨i.bo,i.heap,i.ak⟩,⟨A,a.fs.xl.heap,a.fs.xl.ak,a.fs.xl.lh,a.fs.xl.lf,a.fs.xl.lr⟩,a.fs.lo,u.f,u.r.mono x⟩
def SQ.box(a:SQ n b j e m q Q r M bo h f s)(c:Rd b j t e)(d:e.size<=n)(o:Nat)(l:List Ce):SQ n b j e m q Q r (aj M q o l) bo h f s:=
 ⟨a.w.box a.k2.1 o l,a.r.put c (by have:=a.k2;omega) o l,by rw[az];exact a.k1,by rw[az];exact a.k2,a.fs⟩
def SQ.kj(l:SQ n b j e m q Q r M bo h f s)(g:b<n)(u:Q<=10000000000000000)(p:∀a∈L,a=m\/a=q)(a:List Int){c:List Ce}{i:Nat}(w:c=a.map Ce.i)(v:i=a.length)(z:0<a.length/\a.length<=100)
 (y:∀t d,t∈a->SQ n b j e m q (Q+1) r d bo h f s->Fz [b] (M.push (.cells (br c) aB)) d->K t d):aN bY 84 [vp b 0,O.v (.mk M.size 0 i i)] (M.push (.cells (br c) aB)) λC d=>dV L (M.push (.cells (br c) aB)) d/\∃t:Int,C=vi t/\K t d:=
 have x:=J.push M (.cells (br c) aB)
 (xD l.r u a w v z).mono λ_ d⟨t,o,A,B,k⟩=>⟨(l.ext g x).fq g p k,t,o,y t d A ((l.ext g x).fz g k B) k⟩
def SQ.pick(c:SQ n b j e m q Q r M bo h f s)(i:b<n)(o:Q<=10000000000000000)(l:∀a∈L,a=m\/a=q)(g:Int)
 (p:∀t d,0<=t->(t<g\/t=0)->SQ n b j e m q (Q+1) r d bo h f s->Fz [b] M d->K t d):aN bY 81 [vp b 0,vi g] M λx d=>dV L M d/\∃t:Int,x=vi t/\K t d:=
 (bO c.r.r o g).mono λ_ d⟨t,k,v,w,u,a⟩=>⟨c.fq i l a,t,k,p t d v w (c.fz i a (c.r.to a u)) a⟩
def SQ.eY(a:SQ n b j e m q Q r M bo h f s)(l:Rd b j t e)(E:e.size<=n)(C:dy p r M u d)(h:∀k,p k->2<=k){x o k:O}(B:SO n u d x o k v)(z:FS v):SQ n b j e m q Q u d x o k v:=
 have D:=l.lt
 have w:∀c,c<n->d[c]? =M[c]? :=λc g=>C.fu c (aJ g a.w.le) λy=>by have:=h _ y;have:=a.w.jV c g;omega
 have i:Fz [b] e d:=⟨bJ a.r.f.size C.size,λc g A=>(w c V).trans (a.r.f.same c g A)⟩
 ⟨B,⟨i,l.J6 a.r.r i (w b V)⟩,⟨(C.iW _ a.k1.2.1).trans a.k1.1,aJ a.k1.2.1 C.size,a.k1.2.2⟩,⟨(C.iW _ a.k2.2.1).trans a.k2.1,aJ a.k2.2.1 C.size,a.k2.2.2⟩,z⟩
def SQ.da(g:SQ n b j e m q Q r M bo h f s)(i:∀a∈L,a=m\/a=q)(C:dy p r M u d)(h:∀k,p k->2<=k):dV L M d:=λa k=>by
 have l:=g.k1;have o:=g.k2;rcases i a k with c|c<;>subst c<;>exact C.fu _ V λc=>by have:=h _ c;omega
def SQ.hO(t:SQ n b j e m q Q r M bo h f s)(u:cK ((f.len:Int) -1)>=0):∃a g l o k d,s.ak=a++[g]/\qO r M f a g l o k d/\cK ((f.len:Int) -1)=(a.length:Int)/\f.len=a.length+1:=by
 have F:=t.w.ak;have p:=t.fs.iQ.depth;rcases List.eq_nil_or_concat s.ak with c|⟨a,g,c⟩
 ·rw[c]at F;obtain⟨d,i⟩:=F;have:=i.qQ.len;rw[cX i.size,i.len]at this;simp only[eF]at this;rw[aP V V]at u;omega
 ·rw[List.concat_eq_append]at c;rw[c]at F p;obtain⟨l,o,k,d,T⟩:=F.hO;have:=T.C0;simp at p;exact⟨a,g,l,o,k,d,c,T,by rw[aP V V];omega,this⟩
def FS.hO(h:FS s){d:List aZ}{j g:aZ}(i:s.ak=d++[j])(k:PC g)(l:g.av.length<=1000000/\g.aW.length<=1000000/\g.bn.length<=1000000):FS {s with ak:=d++[g]}:=by
 have b:=h.xl;have c:=h.iQ;have e:∀x∈d,x∈s.ak:=λx a=>by rw[i];simp[a]
 have f:=c.depth;rw[i]at f;simp at f;refine⟨⟨b.bI,b.heap,λx a=>?_,b.lh,bK,λx a=>?_⟩,⟨c.bo,c.fl,c.heap,bK,λx a=>?_⟩,h.lo⟩<;>rcases List.mem_append.1 a with a|a
 ·exact b.ak x (e x a)
 ·simp at a;rw[a];exact k
 ·exact b.lr x (e x a)
 ·simp at a;rw[a];omega
 ·exact c.ak x (e x a)
 ·simp at a;rw[a];exact l
def SQ.rR(c:SQ n b j e m q Q r M bo h f s)(o:Rd b j t e)(p:e.size<=n){l:List aZ}{z g:aZ}(y:s.ak=l++[z]){J H I:O}{w:List (List Ce)}(T:qO r d f l g J H I w)(C:dy (λk=>4<=k/\k≠9) r M r d)(E:PC g)(G:g.av.length<=1000000/\g.aW.length<=1000000/\g.bn.length<=1000000)
 (A:∀a∈L,a=m\/a=q)(B:Q<=P){v a i x:Int}(D:Ew i)(u:List Ce):dV L M d/\SP n b j e P (.agg #[vi v,vi a,vi i,vi x,O.v bo,O.v h,O.v f]) (aj d m 0 u):=
 ⟨c.da A C λk F=>V,(c.eY o p C (λk F=>V) (c.w.kQ C T.rR) (c.fs.hO y E G)).done o p B D u⟩
def D0{im:cD}(Q:Rd b j t e)(W:e.size<=n)(ac:SO n r M bo h f s)(ah:Rs b j e P M)(hP:P+100<=10000000000000000)(ok:cN im s)(hS:Sm 100000 s):aN bY 60 [vp b 0,OJ s bo h f] M (SP n b j e (P+6)):=by
 apply wG (b,0);simp(config:={maxSteps:=1000000}) -zeta only[aE,aD];have m:b<n:=by have:=Q.lt;omega
 have le:=ac.le;intro Y m2;have s1:Y.size=M.size+1:=by simp[Y]
 have s2:m2.size=M.size+2:=by simp[m2,s1]
 have x2:J M m2:=(J.push M _).trans (J.push Y _);clear_value m2;clear_value Y;have q2:SQ n b j e Y.size M.size P (uA (uA r M.size 1) Y.size 1) m2 bo h f s:=⟨ac.mv ⟨x2.size,λaa hb _=>x2.same aa hb,λaa hb=>by rw[eX V,eX V],λaa hb=>by rw[eX V,eX V];exact ac.new aa V,ac.jV⟩,ah.ext x2,⟨iF _ _ _,V,V⟩,⟨by rw[eX V];exact iF _ _ _,V,V⟩,⟨ok.Xj hS V,ok.iQ hS V,by have:=hS.bo;omega,by have:=hS.heap;omega⟩⟩;generalize uA (uA r M.size 1) Y.size 1=ro2 at q2;have H:∀aa∈[Y.size,M.size],aa=Y.size\/aa=M.size:=E;have hc:=q2.fs.xl.bI;have aC:=ok.dK;refine q2.pick m V H 30 λaF z _ _ p f3=>?_;have al:SP n b j e (P+6) (.agg #[vi s.cL,vi s.value,vi s.bI,vi s.dK,O.v bo,O.v h,O.v f]) (aj z Y.size 0 [.i s.cL,.i s.value,.i s.bI,.i s.dK,.s bo,.s h,.s f]):=p.done Q W V hc _;have Ka:∀q∈s.ak,(1<=q.av.length/\q.av.length<=2000)/\q.aW.length<=2000/\1<=q.bn.length:=λq hf=>by
  have hG:=ok.ak q hf;obtain⟨pg,_,ax,aw,_⟩:=hG.IP ok.fK;have X:=hG.lr;have aa:=hG.lo;have ab:=hG.lh;rw[ax]at X aa ab;have:=aw.av;omega
 have HO:∀(X:O)(C N:Nat)(ls:List Int){G:List Ce}{ab:Nat},ro2 C=4->C<z.size->G=ls.map Ce.i->ab=ls.length->0<ls.length/\ls.length<=100->∀{an:Int->Int->I->Prop},(∀K y d,0<=K->(K<(X.len:Int)\/K=0)->y∈ls->SQ n b j e Y.size M.size (P+3) ro2 d bo h f s->Mv n ro2 z ro2 d->an K y d)->
  (aN bY 81 [vp b 0,vi (X.len:Int)] z λR w=>dV [Y.size,M.size] z w/\∃K:Int,R=vi K/\D w C N=D z C N/\D w M.size 6=D z M.size 6/\(D (w.push (.cells (br G) aB)) C N=D w C N/\D (w.push (.cells (br G) aB)) M.size 6=D w M.size 6/\D (w.push (.cells (br G) aB)) C N=D w C N/\D (w.push (.cells (br G) aB)) M.size 6=D w M.size 6/\
   aN bY 84 [vp b 0,O.v (.mk w.size 0 ab ab)] (w.push (.cells (br G) aB)) λR L=>dV [Y.size,M.size] (w.push (.cells (br G) aB)) L/\∃y:Int,R=vi y/\D L C N=D (w.push (.cells (br G) aB)) C N/\D L M.size 6=D (w.push (.cells (br G) aB)) M.size 6/\an K y L))/\
  (D (z.push (.cells (br G) aB)) C N=D z C N/\D (z.push (.cells (br G) aB)) M.size 6=D z M.size 6/\D (z.push (.cells (br G) aB)) C N=D z C N/\D (z.push (.cells (br G) aB)) M.size 6=D z M.size 6/\
   aN bY 81 [vp b 0,vi (X.len:Int)] (z.push (.cells (br G) aB)) λR w=>dV [Y.size,M.size] (z.push (.cells (br G) aB)) w/\∃K:Int,R=vi K/\D w C N=D (z.push (.cells (br G) aB)) C N/\D w M.size 6=D (z.push (.cells (br G) aB)) M.size 6/\
    aN bY 84 [vp b 0,O.v (.mk z.size 0 ab ab)] w λR L=>dV [Y.size,M.size] w L/\∃y:Int,R=vi y/\D L C N=D w C N/\D L M.size 6=D w M.size 6/\an K y L):=λX C N ls G ab h4 az h1 h2 h3{an} hX=>by
  have nb:C∉[b]:=λx=>by simp at x;have:=q2.w.jV b m;rw[x]at h4;omega
  have ge:∀{M1 M2:I},z.size<=M1.size->Fz [b] M1 M2->D M2 C N=D M1 C N:=λay q=>aI (q.same C V nb) N
  refine⟨?_,?_⟩
  ·refine p.pick m V H (X.len:Int) λK w k0 ae B f4=>?_
   have U:=J.push w (.cells (br G) aB)
   have z4:=f4.size
   refine⟨ge (ad _) f4,p.gk m f4 _,ge z4 (U.fz _),B.gk m (U.fz _) _,ge z4 (U.fz _),B.gk m (U.fz _) _,B.kj m V H ls h1 h2 h3 λy L A v T=>⟨ge (bJ z4 U.size) T,(B.ext m U).gk m T _,hX K y L k0 ae A v (p.w.XC ((f4.trans (U.fz _)).trans T) m)⟩⟩
  ·have Z:=J.push z (.cells (br G) aB)
   have B:=p.ext m Z
   have z4:=Z.size
   have S:ar (bA [b] (z.push (.cells (br G) aB))) (.mk z.size 0 ab ab) ls:=ar.lit aB ls (by simp;exact p.r.r.lt) h1 h2 V
   refine⟨ge (ad _) (Z.fz _),p.gk m (Z.fz _) _,ge (ad _) (Z.fz _),p.gk m (Z.fz _) _,B.pick m V H (X.len:Int) λK m5 k0 ae F f5=>⟨ge z4 f5,B.gk m f5 _,?_⟩⟩
   refine(jw F.r.r V (ar.le (f5.cJ E) S) h3.1).mono λ_ L⟨y,x,A,r6,T⟩=>⟨F.fq m H T,y,x,ge (bJ z4 f5.size) T,F.gk m T _,hX K y L k0 ae A (F.fz m T (F.r.to T r6)) (p.w.XC (((Z.fz _).trans f5).trans T) m)⟩
 refine⟨λ_=>?_,λ_=>⟨λ_=>?_,λ_=>⟨λ_=>?_,λ_=>⟨λ_=>?_,λ_=>⟨λ_=>?_,λ_=>⟨λ_=>⟨λA=>?_,λ_=>al⟩,λ_=>⟨λ_=>⟨λA=>?_,λ_=>al⟩,λ_=>⟨λ_=>⟨λA=>?_,λ_=>al⟩,λ_=>⟨λ_=>⟨λA=>?_,λ_=>al⟩,λ_=>⟨λ_=>⟨λA=>?_,λ_=>al⟩,λ_=>al⟩⟩⟩⟩⟩⟩⟩⟩⟩⟩
 ·exact p.kj m V H [0,1,2,3,4,-1] rfl rfl E λy w _ B _=>(B.box Q W _ _).done Q W V hc _
 ·refine p.kj m V H [0,41,-1,cK (s.dK+1)] rfl rfl E λy w A B _=>(B.box Q W _ _).done Q W V ?_ _;rw[aP V V]at A;simp at A;exact⟨V,V⟩
 ·exact p.kj m V H [5,1000,0] rfl rfl E λy w _ B _=>(B.box Q W _ _).done Q W V hc _
 ·have Z:=J.push z (.cells (br [.i 5,.i 1000]) aB);refine⟨p.gk m (Z.fz _) _,p.kj m V H [5,1000] rfl rfl E λy m5 _ F f5=>⟨(p.ext m Z).gk m f5 _,?_⟩⟩;intro L;have x6:J m5 L:=J.push _ _;have je:fQ L m5.size 0 [.i y]:=(cB.push m5 [.i y] aB).je;clear_value L;have v:=F.ext m x6;have ol:=v.w.bo.len;have os:=hS.bo;simp at ol;refine⟨F.gk m (x6.fz _) _,v.w.bo.append (zs:=[.i 0]) v.w.new rfl je bK λu ai m7 af S=>⟨v.da H S λK hk=>V,?_⟩⟩;have q7:=v.eY Q W S (λK hk=>V) (v.w.Jm (l:=s.bo++[y]) S (by rw[eP];exact af)) ⟨⟨v.fs.xl.bI,v.fs.xl.heap,v.fs.xl.ak,v.fs.xl.lh,v.fs.xl.lf,v.fs.xl.lr⟩,⟨bK,v.fs.iQ.fl,v.fs.iQ.heap,v.fs.iQ.depth,v.fs.iQ.ak⟩,bK,v.fs.lo.2⟩;exact(q7.box Q W _ _).done Q W V hc _
 ·have aA:=p.w.heap.len;refine⟨λh1=>?_,λ_=>al⟩;simp only[mH,ao]at h1;refine p.pick m V H (h.len:Int) λX w a0 a1 B f4=>?_;obtain⟨ab,ap⟩:=ag (l:=s.heap) (k:=X.toNat) V;obtain⟨_,g0,-⟩:=B.w.heap.cy ap;have hb:=B.w.heap.F (a:=X.toNat) V;have nb:h.F≠b:=λx=>by have:=B.w.jV b m;rw[x]at hb;omega
  have U:=J.push w (.cells (br [.i 1,.i (-1)]) aB);have e5:=λaf=>aI (U.same _ hb.2) af;refine⟨a0,V,_,g0,e5 _,B.gk m (U.fz _) _,B.gk m (U.fz _) _,B.kj m V H [1,-1] rfl rfl E λy L _ v T=>?_⟩;have e6:=λaf=>aI (T.same h.F (aJ hb.2 U.size) (by simpa using nb)) af;have F:=B.ext m U;refine⟨e6 _,F.gk m T _,F.gk m T _,a0,V,v.w.heap.wr (o:=0) V V,?_⟩;obtain⟨av,S⟩:=v.w.heap.Dv v.w.new ap (cK (ab.aQ+y));have ak:=v.fs.xl;have am:=v.fs.iQ;refine⟨v.da H S λK hk=>V,SQ.done (v.eY Q W S (λK hk=>V) (v.w.jh S av) ⟨⟨ak.bI,λaq hx=>?_,ak.ak,by simpa using ak.lh,ak.lf,ak.lr⟩,⟨am.bo,λaq hx=>?_,by simpa using am.heap,am.depth,am.ak⟩,by simpa using v.fs.lo⟩) Q W V hc _⟩
  ·rcases cx hx with x|x
   ·exact ak.heap aq x
   ·rw[x];exact ak.heap ab (au ap)
  ·rcases cx hx with x|x
   ·exact am.fl aq x
   ·rw[x];exact am.fl ab (au ap)
 ·simp only[wS,ao]at A;have Z:=J.push z (.cells (br [.i 0,.i 1,.i 99,.i (-1)]) aB);refine⟨p.gk m (Z.fz _) _,p.kj m V H [0,1,99,-1] rfl rfl E λy m5 _ F f5=>⟨(p.ext m Z).gk m f5 _,?_⟩⟩;obtain⟨fs,q,ah,af,ai,ak,x,T,ew,el⟩:=F.hO A;have U:q∈s.ak:=by rw[x];simp
  have ff:=F.fs.xl.ak q U;have fl:=F.fs.iQ.ak q U;rw[ew];obtain⟨wr,T',S⟩:=T.put (i:=1) (g:={q with pc:=y}) (c:=.i y) F.w.new bd rfl T.av T.aW T.bn;exact⟨V,V,wr,F.rR Q W x T' S ff fl H V hc _⟩
 ·simp only[wS,ao]at A;obtain⟨fs,q,ah,af,ai,ak,x,T,ew,el⟩:=p.hO A;have U:q∈s.ak:=by rw[x];simp
  have ff:=p.fs.xl.ak q U;have fl:=p.fs.iQ.ak q U;rw[ew];obtain⟨_,_,_,_,g4,_⟩:=T.je;have hl:=Ka q U;refine⟨V,V,af,g4,(oU p.r.r V (T.aW.ov V) V).mono λ_ w⟨X,l',e',ap,aq,hm,r4,f4⟩=>⟨p.fq m H f4,X,e',p.gk m f4 _,V,V,?_⟩⟩;have av:=ap.aY;have R:Mv n ro2 z (uA ro2 X.F (11+3*fs.length)) w:=⟨f4.size,λaa hb am=>f4.same aa hb bK,λaa hb=>eX V,λaa hb=>by rw[eX V];exact p.w.new aa (bJ f4.size hb),p.w.jV⟩;have z4:=f4.size;have ae:=p.k1;have am:=p.k2;have B:SQ n b j e Y.size M.size (P+4) (uA ro2 X.F (11+3*fs.length)) w bo h f s:=⟨p.w.mv R,p.r.to f4 r4,⟨(R.iW _ ae.2.1).trans ae.1,V,ae.2.2⟩,⟨(R.iW _ am.2.1).trans am.1,V,am.2.2⟩,p.fs⟩;have T4:=T.mv R;obtain⟨wr,T',S⟩:=T4.put (i:=4) (g:={q with aW:=l'}) (c:=.s X) B.w.new bd rfl T4.av (gX.ij (GI.bo ap) λ_=>iF _ _ _) T4.bn;exact⟨wr,B.rR Q W x T' S ⟨ff.1,λac hw=>(hm ac hw).elim (ff.2.1 ac) λx=>⟨V,V⟩,ff.2.2⟩ ⟨fl.1,by show l'.length<=_;omega,fl.2.2⟩ H V hc _⟩
 ·simp only[wS,ao]at A;obtain⟨fs,q,ah,af,ai,ak,x,T,ew,el⟩:=p.hO A;have U:q∈s.ak:=by rw[x];simp
  have ff:=p.fs.xl.ak q U;have fl:=p.fs.iQ.ak q U;have hl:=Ka q U;rw[ew];obtain⟨_,_,_,B,_⟩:=T.je;have w:=T.av.len;simp at w;refine⟨V,V,ah,B,V,V,ah,B,HO ah f.F _ [0,5,1000,1003,-1000] T.F.1 T.F.2 rfl rfl E λK y L k0 ae A v R=>?_⟩;obtain⟨T',S⟩:=(T.mv R).Fe v.w.new k0 V y;exact⟨k0,V,(T.mv R).av.P9 k0 V,v.rR Q W x T' S ⟨λac hw=>(cx hw).elim (ff.1 ac) λx=>by simp at A;exact⟨V,V⟩,ff.2⟩ ⟨by show(q.av.set _ _).length<=_;simp;omega,fl.2⟩ H V hc _⟩
 ·simp only[wS,ao]at A;obtain⟨fs,q,ah,af,ai,ak,x,T,ew,el⟩:=p.hO A;have U:q∈s.ak:=by rw[x];simp
  have ff:=p.fs.xl.ak q U;have fl:=p.fs.iQ.ak q U;have hl:=Ka q U;rw[ew];obtain⟨_,_,_,_,_,B⟩:=T.je;have w:=T.bn.len;simp at w;refine⟨V,V,ai,B,V,V,ai,B,HO ai f.F _ [1000,1,1001] T.F.1 T.F.2 rfl rfl E λK y L k0 ae A v R=>?_⟩;obtain⟨T',S⟩:=(T.mv R).Dw v.w.new k0 V y;exact⟨k0,V,(T.mv R).bn.P9 k0 V,v.rR Q W x T' S ⟨ff.1,ff.2.1,λac hw=>(cx hw).elim (ff.2.2 ac) λx=>by simp at A;exact⟨V,V⟩⟩ ⟨fl.1,fl.2.1,by show(q.bn.set _ _).length<=_;simp;omega⟩ H V hc _⟩
 ·simp only[wS,ao]at A;have Z:=J.push z (.cells (br [.i 0,.i 1,.i 99,.i (-1)]) aB);refine⟨p.gk m (Z.fz _) _,p.kj m V H [0,1,99,-1] rfl rfl E λy m5 _ F f5=>⟨(p.ext m Z).gk m f5 _,?_⟩⟩;obtain⟨fs,q,ah,af,ai,ak,x,T,ew,el⟩:=F.hO A;have U:q∈s.ak:=by rw[x];simp
  have ff:=F.fs.xl.ak q U;have fl:=F.fs.iQ.ak q U;rw[ew];obtain⟨wr,T',S⟩:=T.put (i:=2) (g:={q with dst:=y}) (c:=.i y) F.w.new bd rfl T.av T.aW T.bn;exact⟨V,V,wr,F.rR Q W x T' S ff fl H V hc _⟩
end
end
section
def QQ(S:List Nat)(m:I):(Vc.bA S m).size=m.size:=by simp[Vc.bA]
def QP{S:List Nat}{m:I}{b:Nat}(h:b∉S):(Vc.bA S m)[b]? =m[b]? :=by
 unfold Vc.bA;rw[UR];cases m[b]? <;>simp[h]
def AR(S:List Nat)(v:Value)(c:I):Prop:=∃d p e bo b a s,v=.tuple #[.agg #[O.v d,O.v p],OJ s bo b a]/\eV (bA S c) d p e/\ft (bA S c) bo b a s/\zw s/\s.bo.length<=1000000/\s.heap.length<=1000000
section
variable{a:List Nat}{m:I}{b P:Nat}{c:O}
def Dz(L:∀d∈a,d<m.size)(r:b∈a)(l:Rd b c P m)(hP:P+3000+4*(300+40*Cg 18)<=10000000000000000):aN bY 36 [vp b 0] m λW m'=>AR a W m'/\Fz [b] m m':=by
 apply wh (b,0);simp -zeta only[aE,aD];have v:=l.lt;intro e aa;have C:BS [e.size,m.size] b c m P aa:=BS.XI (BS.kj (S:=a) l _).1 _;have s1:e.size=m.size+1:=by simp[e]
 clear_value aa;refine C.call (S:=a) v (λ_ d=>d) (Hf (C.hS L) (by simp[r]) C.s.r V) λt w x i _ t3 b3 f3=>?_;intro m4 m5;obtain⟨F,l5,-⟩:=b3.box (S:=a) (m1:=m4) (m2:=m5) rfl rfl rfl;clear_value m5;have U:=IT.mn _ _ _ _ _ l5 t3;refine(rD (b:=⟨x.1,x.2⟩) ⟨U.1.le (bt _ _),gB.le (bt _ _) U.2⟩).mono λ_ f⟨W,p,hv,A⟩=>⟨(F.lw v λ_ d=>d).da (A.fz _),W,p,λq=>?_,λhy=>?_⟩;all_goals
  have g:=F.to (A.fz _) (F.s.r.ext A)
  have z:=IT.mn _ _ _ _ _ (BS.le (B:=[i.size,e.size,m.size]) r (A.fz [b])) U
  have h:=g.fq
 ·intro k Q R;have u:J f k:=J.push _ _;have N:cB k f.size eg [.i 0,.i 0,.i 0,.s .nil,.s .nil,.s .nil]:=cB.push _ _ _;have Y:=g.to (u.fz _) (g.s.r.ext u);have t7:=IT.mn _ _ _ _ _ (BS.le (B:=[i.size,e.size,m.size]) r (u.fz [b])) z;clear_value k;obtain⟨G,l8⟩:=Y.put (S:=a) l (by simp:m.size∈_) [.s t,.s w];obtain⟨H,O⟩:=G.put (S:=a) l (by simp:e.size∈_) [.i 3,.i 0,.i 0,.i 0,.s .nil,.s .nil,.s (.mk f.size 0 1 1)];have K:=IT.mn _ _ _ _ _ ((l8.trans O).trans (gJ _ λ_=>dE _)) t7;have ha:=h m.size E;have j:=h e.size E;have T:cB R f.size eg [.i 0,.i 0,.i 0,.s .nil,.s .nil,.s .nil]:=(N.congr (bh _ _ _ _ V)).congr (bh _ _ _ _ V);have Z:f.size∉a:=λM=>by have:=L _ M;omega
  have o:∀{X:I},ar X .nil []:=⟨rfl,dH _,E,E⟩;refine⟨⟨t,w,⟨x.1,x.2⟩,.nil,.nil,.mk f.size 0 1 1,⟨3,0,0,0,[],[],[⟨0,0,0,[],[],[]⟩]⟩,rfl,⟨K.1,K.2⟩,⟨o,⟨rfl,dH _,E,E⟩,⟨rfl,ad _,E,λy ab s=>?_⟩⟩,⟨⟨E,E⟩,by simp[ME],by simp[PC],E,E,E⟩,E⟩,H.s.f⟩;cases y with
  |zero=>
   simp at s;subst s;exact⟨_,⟨.nil,.nil,.nil,rfl,o,o,o⟩,HT Z T.je⟩
  |succ y=>simp at s
 ·have ok:lO ⟨x.1,x.2⟩:=hv.1 (by simpa using hy);have Z:Le (bA ([i.size,e.size,m.size]++a) f) (bA [b] f):=gJ _ (by simp[r]);refine(Ft g.s.r V (z.1.le Z) (gB.le Z z.2) ok).mono λ_ k⟨an,ro,bo,hp,fr,au,p,ae,q,ai,ao,ag,r7,u⟩=>?_;have X:∀o,D k i.size o=D f i.size o:=λo=>kg u v (h _ E) o;refine⟨(g.lw v λ_ d=>d).da u,_,_,_,_,bo,hp,fr,p,X _,X _,?_⟩;have aq:b<f.size:=g.s.r.lt;refine(D0 (n:=an) g.s.r q (SO.of ae ai) ⟨u,r7⟩ V ao ag).mono λ_ Q⟨T,N,K,s,p,ak,ah,aj,y⟩=>?_;have ab:∀d,d<f.size->d≠b->Q[d]? =k[d]? :=λd j q=>(y.f.same d j (by simpa using q)).trans (u.same d j (by simpa using q)).symm;have Y:∀o,D Q i.size o=D k i.size o:=λo=>aI (ab _ (h _ E).2 (by have:=h i.size E;omega)) o;refine⟨λd j=>ab d (h d j).2 (by have:=h d j;omega),_,_,_,_,T,N,K,p,Y _,Y _,?_⟩;intro R am;have G:=g.to y.f y.r;have t8:=IT.mn _ _ _ _ _ (BS.le (B:=[i.size,e.size,m.size]) r y.f) z;obtain⟨H,O⟩:=G.put (S:=a) l (by simp:m.size∈_) [.s t,.s w];obtain⟨af,al⟩:=H.put (S:=a) l (by simp:e.size∈_) [.i s.cL,.i s.value,.i s.bI,.i s.dK,.s T,.s N,.s K];have ac:=IT.mn _ _ _ _ _ ((O.trans al).trans (gJ _ λ_=>dE _)) t8;have ha:=h m.size E;have j:=h e.size E;refine⟨⟨t,w,⟨x.1,x.2⟩,T,N,K,s,rfl,⟨ac.1,ac.2⟩,ak _ (by rw[QQ];simp[am,R,az]) λd _ ap=>?_,ah,aj⟩,af.s.f⟩;rw[QP λM=>by have:=L d M;have:=g.s.f.size;omega];exact(bh _ _ _ _ V).trans (bh _ _ _ _ V)
end
end
section
def OU(f:Nat->Nat):∀n,∃B,∀i,i<n->f i<=B
 |0=>⟨0,E⟩
 |n+1=>let⟨B,h⟩:=OU f n;⟨B+f n,λi a=>by
  rcases aV i n with e|e
  ·have:=h i e;omega
  ·have:i=n:=V;subst this;omega⟩
def cN.CU{z:cD}{s:St}(e:cN z s)(p:s.cL=0):s.heap=[]:=by
 have j:=e.done.1 p;obtain⟨o,w⟩:=e.heap.JX;obtain⟨B,q⟩:=OU o s.heap.length;apply eA;intro u;have C:0<s.heap.length:=List.length_pos_iff.2 u;have jc:∀f,∃(b:Nat)(c:bM),s.heap[b]? =some c/\0<c.aQ/\f<=o b:=λf=>by
  induction f with
  |zero=>
   obtain⟨c,d⟩:=ag (l:=s.heap) (k:=s.heap.length -1) V;refine⟨_,c,d,?_,dH _⟩;have i:=e.iA c d;rcases Gc c.aQ 0 with g|g
   ·have:=e.jy _ ⟨c,d,g⟩;rw[j]at this;simp[holds]at this
   ·omega
  |succ f y=>
   obtain⟨b,c,d,v,t⟩:=y;have:=e.heap.ex b c d v;rw[j]at this;simp only[dD]at this;obtain⟨g,r,m⟩:=Jf (h:=s.heap) (f:=b) V;obtain⟨n,i⟩:=List.mem_iff_getElem?.1 r;have x:=w n g i _ m V;rw[jL]at x;refine⟨n,g,i,?_,V⟩;apply eA;intro A;have:=((e.heap.cell g (au i)).uH V).2.1 _ m;omega
 obtain⟨b,c,d,_,t⟩:=jc (B+1);have:=q b (ax d);omega
def cN.fw{a:cD}{s:St}(h:cN a s):cN a {s with dK:=40}:=⟨h.fK,h.cL,h.done,h.value,h.rL,E,⟨h.bI.1,by have:=h.bI;have:=h.dK;show s.bI<=40;omega⟩,h.depth,h.bo,h.heap,h.iA,h.ak,h.first,h.chain,h.jy,h.lL⟩
def ft.le{m f:I}{bo d c:O}{s:St}(b:ft m bo d c s)(a:Le m f):ft f bo d c s:=⟨b.bo.le a,dW.le b.heap a λk j⟨n,e,h⟩=>⟨n,e,h.le a⟩,dW.le b.ak a λk j⟨r,o,h,e,g,i,l⟩=>⟨r,o,h,e,g.le a,i.le a,l.le a⟩⟩
def YP(m:I)(v:Value)(a:I):Prop:=v=vb true/\J m a
section
variable{m:I}{d p bo b a:O}{c:cD}{s:St}
end
end
end Go.Proofs.YtgnjacfobdjeeaaGreat
