/- Part of a proof, joined by a program. -/
import Derived.Test.YtgnjacfobdjeeaaGreatW13
import Derived.Test.YtgnjacfobdjeeaaGreatW15
import Derived.Test.YtgnjacfobdjeeaaGreatW17
import Derived.Test.YtgnjacfobdjeeaaGreatW18
set_option linter.unusedVariables false
set_option linter.unusedSimpArgs false
set_option linter.defProp false
set_option linter.constructorNameAsVariable false
set_option maxHeartbeats 8000000
set_option maxRecDepth 100000
namespace Go.Proofs.YtgnjacfobdjeeaaGreat
open Go.Vc
section
variable{a b:Nat}
def rH(mk:Nat->Bool):Nat->Nat
 |0=>0
 |n+1=>rH mk n+(if mk n=true then 1 else 0)
def JB(mk:Nat->Bool):∀n,rH mk n<=n
 |0=>ad _
 |n+1=>by have:=JB mk n;simp only[rH];split<;>omega
def OD{mk:Nat->Bool}:∀{a:Nat},(rH mk a=a<->∀i,i<a->mk i=true)
 |0=>by simp[rH]
 |a+1=>by
  have g:=JB mk a;have b:=OD (mk:=mk) (a:=a);simp only[rH];constructor
  ·intro h i f;have c:mk a=true:=by by_cases e:mk a=true;exact e;rw[ae e]at h;omega
   rw[ao c]at h;rcases be i a with d|d
   ·exact b.1 V i d
   ·have:i=a:=V;rw[this];exact c
  ·intro h;rw[ao (h a V),b.2 λi f=>h i V]
def JZ{mk a:Nat->Bool}:∀{n:Nat},(∀i,i<n->mk i=a i)->rH mk n=rH a n
 |0,_=>rfl
 |n+1,h=>by simp only[rH];rw[JZ λi b=>h i V,h n V]
def nN(mk:Nat->Bool)(a:Nat):Nat->Bool:=λx=>if x=a then true else mk x
def Hm(mk:Nat->Bool)(a:Nat):nN mk a a=true:=ao rfl
def qL{mk:Nat->Bool}(h:b≠a):nN mk a b=mk b:=ae h
def Bn{mk:Nat->Bool}(h:mk b=true):nN mk a b=true:=by unfold nN;split;rfl;exact h
def ER{mk:Nat->Bool}{a:Nat}(h:mk a=false):∀{n:Nat},a<n->rH (nN mk a) n=rH mk n+1
 |0,c=>absurd c (jC _)
 |n+1,c=>by
  simp only[rH];rcases be a n with b|b
  ·rw[ER h b,qL V];omega
  ·have e:a=n:=V;subst e;rw[Hm,ao rfl,h,ae D,JZ (a:=mk) λi d=>qL V]
def RX(h:List bX)(mk:Nat->Bool):Prop:=
 ∃t:Nat->Nat,(∀j,mk j=true->t j<=rH mk h.length)/\∀(i:Nat)(c:bX),h[i]? =some c->mk i=true->∀w∈c.aL,1000<=w->mk (ix w)=true/\t (ix w)<t i
def YV(mk:Nat->Bool)(a:List Int):Prop:=∀w∈a,1000<=w->mk (ix w)=true
def RX.set{h:List bX}{mk:Nat->Bool}(v:RX h mk){k:bX}(m:h[a]? =some k)(f:mk a=false)(t:YV mk k.aL):RX h (nN mk a):=by
 obtain⟨A,l,s⟩:=v;have u:=ax m;have r:=ER f u;refine⟨λx=>if x=a then rH mk h.length+1 else A x,λy o=>?_,λj d b n w q p=>?_⟩
 ·simp only[r];split
  ·omega
  ·rename_i c;rw[qL c]at o;have:=l y o;omega
 ·by_cases g:j=a
  ·subst g;rw[m]at b;simp at b;subst b;have c:=t w q p;have i:ix w≠j:=λe=>by rw[e,f]at c;cases c
   simp only[ao,ae i];exact⟨Bn c,by have:=l _ c;omega⟩
  ·rw[qL g]at n;obtain⟨c,z⟩:=s j d b n w q p;have i:ix w≠a:=λe=>by rw[e,f]at c;cases c
   simp only[ae g,ae i];exact⟨Bn c,z⟩
end
structure gH(m:I)(aW hp fr:O)(s:St):Prop where
 aW:ap m aW s.aW
 heap:dN m hp s.heap
 az:lF m fr s.az
def gH.ext{m d:I}{aW c b:O}{s:St}(h:gH m aW c b s)(a:J m d):gH d aW c b s:=⟨h.aW.ext a,dN.ext a h.heap,lF.ext a h.az⟩
def TF(f:aX):Prop:=(∀w∈f.u,Lu w)/\(∀w∈f.aR,Lu w)/\(∀w∈f.bo,Lu w)
structure Nb(s:St):Prop where
 bq:Lu s.bq
 heap:WZ s.heap
 az:∀f∈s.az,TF f
 lh:s.heap.length<=10000000
 lf:s.az.length<=10000000
 lr:∀f∈s.az,f.u.length<=10000000/\f.aR.length<=10000000/\f.bo.length<=10000000
def Tz(s:St)(aW b a:O):Value:=.agg #[vi s.bU,vi s.value,vi s.bq,vi s.bA,O.v aW,O.v b,O.v a]
section
variable{a:List aX}{i:Nat}{f:aX}
def Qd(c:a[i]? =some f)(b:Nat):holds (a.take (i+1)) b=holds (a.take i) b+eL f.bo b:=by
 rw[bn c,eB,iN]
def Rw(c:a[i]? =some f)(b:Nat):gN (a.take (i+1)) b=gN (a.take i) b+dj f.u f.aR b:=by
 rw[bn c,fL,kG]
def Dy:∀{u aR:List Int}{a:Nat}{w o:Int},u[a]? =some w->aR[a]? =some o->∀b,dj (u.take (a+1)) (aR.take (a+1)) b=dj (u.take a) (aR.take a) b+(if w=1000+(b:Int)then o else 0)
 |[],_,_,_,_,h,_,_=>by simp at h
 |_::_,[],_,_,_,_,h,_=>by simp at h
 |r::f,p::e,0,w,o,c,d,b=>by simp at c d;subst c;subst d;simp[dj]
 |r::f,p::e,a+1,w,o,c,d,b=>by
  have:=Dy (u:=f) (aR:=e) (a:=a) (by simpa using c) (by simpa using d) b;simp only[Mk,dj]at this⊢;omega
def OW:∀{a:List aX}{n:Nat},(∀f∈a,f.bo.length<=n)->∀b,holds a b<=a.length*n
 |[],n,_,b=>by simp[holds]
 |f::a,n,h,b=>by
  have c:=OW (a:=a) λg d=>h g (by simp[d]);have e:=c b;have i:=lO f.bo b;have j:=h f D;simp only[holds,aY];have:((a.length+1:Nat):Int)*n=a.length*n+n:=by push_cast;rw[YB];omega
  omega
def Kx:∀{u aR:List Int}{n:Int},0<=n->(∀o∈aR,0<=o/\o<=n)->∀a,0<=dj u aR a/\dj u aR a<=aR.length*n
 |[],aR,n,b,h,a=>by simp[dj];exact Int.mul_nonneg V b
 |_::_,[],n,b,h,a=>by simp[dj]
 |r::e,o::c,n,b,h,a=>by
  have f:=Kx (u:=e) (aR:=c) b (λx d=>h x (by simp[d])) a;have d:=h o D;have:((c.length+1:Nat):Int)*n=c.length*n+n:=by push_cast;rw[YB];omega
  simp only[dj,aY];split<;>omega
def Q1:∀{a:List aX}{n:Nat}{k:Int},0<=k->(∀f∈a,f.aR.length<=n/\∀o∈f.aR,0<=o/\o<=k)->∀b,0<=gN a b/\gN a b<=a.length*(n*k)
 |[],n,k,_,_,b=>by simp[gN]
 |f::a,n,k,c,h,b=>by
  have e:=Q1 (a:=a) c (λg d=>h g (by simp[d])) b;obtain⟨j,d⟩:=h f D;have g:=Kx (u:=f.u) c d b;have i:(f.aR.length:Int)*k<=n*k:=Int.mul_le_mul_of_nonneg_right V c;have:((a.length+1:Nat):Int)*(n*k)=a.length*(n*k)+n*k:=by push_cast;rw[YB];omega
  simp only[gN,aY];omega
section
variable{m:I}{d p aW c b:O}{e:cH}{s:St}
end
end
section
def OA(a:Int):(a==(0:Int))=decide (a=0):=by by_cases h:a=0<;>simp[h]
def Oz(a b:Int):(!((a==(0:Int))==(b==(0:Int))))=false<->(a=0<->b=0):=by
 rw[OA,OA];by_cases c:a=0<;>by_cases d:b=0<;>simp[c,d]
section
variable{m:I}{d p aW b a:O}{c:cH}{s:St}
structure W0(h:List bX)(fs:List aX):Prop where
 len:∀f∈fs,f.aR.length=f.u.length
 u:∀f∈fs,R9 h f
def W0.aR{h:List bX}{a:List aX}(H:W0 h a){f:aX}(b:f∈a):∀o∈f.aR,0<=o/\o<=999999:=λo e=>by
 obtain⟨d,c⟩:=List.mem_iff_getElem?.1 e;obtain⟨w,g⟩:=ag (l:=f.u) (k:=d) (by have:=ax c;have:=H.len f b;omega);exact((H.u f b).dt d w o g c).2.1
end
end
section
variable{m:I}{b:List bX}{w:Int}{d:bX}{a:Nat}{W:List Nat}{e:Nat->Int}
def qH(n:Int)(m:I):dJ cw 67 [vi n] m (iu n):=by
 apply GW;refine⟨λb=>ft ?_ (J.aB _),λb=>cK (λa=>?_) (J.aB _)⟩
 ·simp at b;simp[iu,b]
 ·simp at b;have:=a.1;omega
def Fl{f:O}(d:dN m f b)(k:Lu w):dJ cw 165 [O.v f,vi w] m (sY b w):=by
 apply zG;refine(gT d k.2).mono ?_;rintro _ l ⟨a,h,rfl,e,_,g⟩;refine⟨a,h,rfl,λc=>jG (Or.inr (e.1 c)) g,λc=>?_⟩;refine(qH w l).then λi o j n=>⟨i,rfl,ft ?_ (g.trans n)⟩;rw[j];exact⟨Or.inl,λd=>d.resolve_right (fb e c)⟩
structure Ih(b:List bX)(d:bX):Prop where
 lo: -1<=d.aS
 jQ:0<=d.jQ/\d.jQ<=99
 fl:d.aL.length<=3
 Dh:d.aS<1->d.jQ=0
 jc:d.aS=0->d.aL=[]
 cv:∀w∈d.aL,sY b w/\(d.aS<0->w=0)
def Ih.ok(a:Ih b d)(f:d.aS<=999999):wD b d:=
 ⟨a.fl,a.lo,f,λe=>⟨a.Dh e,λw c=>by
  by_cases g:d.aS<0
  ·exact(a.cv w c).2 g
  ·rw[a.jc V]at c;simp at c,a.jc⟩,λ_=>⟨λw c=>(a.cv w c).1,a.jQ⟩⟩
def wD.v(a:wD b d):Ih b d:=by
 refine⟨a.lo,?_,a.fl,λg=>(a.Dh g).1,λf=>(a.Dh V).2.2 f,λw e=>⟨?_,λh=>(a.Dh V).2.1 w e⟩⟩
 ·by_cases c:0<d.aS
  ·exact(a.qQ c).2
  ·have:=(a.Dh V).1;omega
 ·by_cases c:0<d.aS
  ·exact(a.qQ c).1 w e
  ·have:=(a.Dh V).2.1 w e;exact Or.inl (by subst this;exact⟨bh,bh⟩)
def Ih.cases(c:Ih b d)(e:w∈d.aL):gE b w\/w<1000:=by
 rcases(c.cv w e).1 with a|a
 ·have:=a.2;exact Or.inr V
 ·exact Or.inl a
def Fa{B j:O}(K:dN m B b)(z:ap m j d.aL)(N:∀w∈d.aL,Lu w):dJ cw 122 [O.v B,.agg #[vi d.aS,vi d.jQ,O.v j]] m (Ih b d):=by
 apply zy;simp -zeta only[aD,aC];intro e;have f:J m e:=(J.aB m).aK _;have T:e.size=m.size+1:=by simp[e]
 clear_value e;have A:=z.len;have L:∀F∈[m.size],F<e.size:=bJ;refine⟨λo=>cK (λc=>by have:=c.lo;simp at o;omega) f,λo=>⟨λp=>cK (λc=>by have:=c.jQ;simp at p;omega) f,λp=>⟨λq=>cK (λc=>by have:=c.jQ;simp at q;omega) f,λq=>⟨λt=>cK (λc=>by have:=c.fl;simp at t;omega) f,λt=>?_⟩⟩⟩⟩;simp at o p q t;refine⟨λM=>M=e/\(d.aS<1->d.jQ=0)/\(d.aS=0->d.aL=[]),?_,?_⟩
 ·have zero:(d.aS<1->d.jQ=0)->((d.aS==(0:Int))=true->((decide ((j.len:Int)>(0:Int)))=true->∃a:Bool,vb false=.bool a/\(a=true<->Ih b d)/\J m e)/\
   ((decide ((j.len:Int)>(0:Int)))=false->e=e/\(d.aS<1->d.jQ=0)/\(d.aS=0->d.aL=[])))/\((d.aS==(0:Int))=false->e=e/\(d.aS<1->d.jQ=0)/\(d.aS=0->d.aL=[])):=λh=>
   ⟨λg=>⟨λa=>cK (λc=>by have:=c.jc (by simpa using g);rw[this]at A;simp at a A;omega) f,λa=>⟨rfl,h,λ_=>List.length_eq_zero_iff.1 (by simp at a;omega)⟩⟩,λg=>⟨rfl,h,λa=>by simp at g;exact absurd a g⟩⟩
  refine⟨λg=>⟨λa=>cK (λc=>by have:=c.Dh (by simpa using g);simp at a;exact a this) f,λa=>zero λ_=>by simpa using a⟩,λg=>zero λa=>by simp at g;omega⟩
 ·rintro P ⟨rfl,I,H⟩;refine eU (n:=d.aL.length) V (λy h=>J P h/\∀w∈d.aL.take y,sY b w/\(d.aS<0->w=0)) ⟨J.aB _,D⟩ ?_;rintro y S Q μ R ⟨s,x⟩ E
  refine dit (λg=>?_) λg=>?_
  ·obtain⟨w,h⟩:=ag (l:=d.aL) (k:=y) V;refine⟨V,V,w,by simpa using(z.ext (f.trans s)).E h,(Fl (dN.ext (f.trans s) K) (N w (ar h))).aI s L λG C v U r=>⟨G,rfl,λa=>cK (λc=>nb v a (c.cv w (ar h)).1) (f.trans r),λa=>⟨λu=>⟨λi=>cK (λc=>?_) (f.trans r),λi=>?_⟩,λu=>?_⟩⟩⟩
   ·have:=(c.cv w (ar h)).2 (by simpa using u);simp at i;exact i this
   ·exact E V C ⟨r,bV h x ⟨yb v a,λ_=>by simpa using i⟩⟩
   ·exact E V C ⟨r,bV h x ⟨yb v a,λi=>by simp at u;omega⟩⟩
  ·exact jG ⟨o,⟨p,q⟩,V,I,H,dq V x⟩ (f.trans s)
def gQ(mk:Nat->Bool):Nat->List bX->Nat->Int
 |_,[],_=>0
 |i,d::b,a=>(if mk i=true then 0 else eL d.aL a)+gQ mk (i+1) b a
def DC:∀(i:Nat)(b:List bX)(a:Nat),gQ (λ_=>false) i b a=fy b a
 |_,[],_=>rfl
 |i,d::b,a=>by simp[gQ,fy,DC (i+1) b a]
def Fw(mk:Nat->Bool):∀(i:Nat)(b:List bX)(a:Nat),0<=gQ mk i b a
 |_,[],_=>cE 0
 |i,d::b,a=>by have:=Fw mk (i+1) b a;have:=iG d.aL a;simp only[gQ];split<;>omega
def Pc(mk:Nat->Bool):∀(i:Nat)(b:List bX)(a:Nat),gQ mk i b a<=fy b a
 |_,[],_=>cE 0
 |i,d::b,a=>by have:=Pc mk (i+1) b a;have:=iG d.aL a;simp only[gQ,fy];split<;>omega
def IC{mk e:Nat->Bool}:∀{i:Nat}{b:List bX}{a:Nat},(∀j,i<=j->mk j=e j)->gQ mk i b a=gQ e i b a
 |_,[],_,_=>rfl
 |i,d::b,a,c=>by simp only[gQ];rw[c i (ad _),IC λj f=>c j V]
def MK{mk:Nat->Bool}:∀{e:Nat}{b:List bX}{f:Nat}{d:bX},b[f]? =some d->mk (e+f)=false->∀a,gQ (nN mk (e+f)) e b a=gQ mk e b a -eL d.aL a
 |_,[],_,_,b,_,_=>by simp at b
 |e,m::b,0,d,j,l,a=>by
  simp at j;subst j;have g:=IC (mk:=nN mk e) (e:=mk) (i:=e+1) (b:=b) (a:=a) λo n=>qL V;rw[ju]at l⊢;simp only[gQ,Hm,l,g];simp;omega
 |e,m::b,f+1,d,j,l,a=>by
  have g:e+(f+1)=e+1+f:=V;have:=MK (mk:=mk) (e:=e+1) (b:=b) (f:=f) (d:=d) (by simpa using j) (by rw[<-g];exact l) a;simp only[gQ];rw[g,this,qL V];omega
def Pb{mk:Nat->Bool}:∀{e:Nat}{b:List bX}{j:Nat}{d:bX},b[j]? =some d->mk (e+j)=false->∀a,eL d.aL a<=gQ mk e b a
 |_,[],_,_,b,_,_=>by simp at b
 |e,l::b,0,d,f,g,a=>by
  simp at f;subst f;have:=Fw mk (e+1) b a;simp only[ju]at g;simp only[gQ,g];simp;omega
 |e,l::b,j+1,d,f,g,a=>by
  have:=Pb (mk:=mk) (e:=e+1) (b:=b) (j:=j) (d:=d) (by simpa using f) (by rw[<-g];congr 1;omega) a;have:=iG l.aL a;simp only[gQ];split<;>omega
def MJ{mk:Nat->Bool}:∀{i:Nat}{b:List bX}{a:Nat},0<gQ mk i b a->∃(k:Nat)(d:bX),b[k]? =some d/\mk (i+k)=false/\(1000+(a:Int))∈d.aL
 |_,[],_,b=>by simp[gQ]at b
 |i,c::b,a,g=>by
  simp only[gQ]at g;by_cases f:mk i=false/\0<eL c.aL a
  ·exact⟨0,c,rfl,f.1,NF f.2⟩
  ·have:0<gQ mk (i+1) b a:=by
    have:=iG c.aL a;split at g
    ·omega
    ·rename_i h;have:¬0<eL c.aL a:=λe=>f ⟨by simpa using h,e⟩;omega
   obtain⟨k,d,h,e,j⟩:=MJ this;exact⟨k+1,d,by simpa using h,by rw[<-e];congr 1;omega,j⟩
def RY(b:List bX)(mk:Nat->Bool):Prop:=
 ∃t:Nat->Nat,(∀j,mk j=true->t j<=rH mk b.length)/\∀(i:Nat)(d:bX),b[i]? =some d->∀w∈d.aL,1000<=w->mk (ix w)=true->mk i=true/\t i<t (ix w)
def RY.set{mk:Nat->Bool}(u:RY b mk)(t:a<b.length)(k:mk a=false)(B:gQ mk 0 b a=0):RY b (nN mk a):=by
 obtain⟨A,n,s⟩:=u;have r:=ER k t;have v:∀(c:Nat)(d:bX),b[c]? =some d->(1000+(a:Int))∈d.aL->mk c=true:=λc d f g=>by
  cases e:mk c
  ·have h:=Pb (mk:=mk) (e:=0) f (by rw[cC];exact e) a;have j:=um g;omega
  ·rfl
 refine⟨λx=>if x=a then rH mk b.length+1 else A x,λy o=>?_,λc d f w g q p=>?_⟩
 ·simp only[r];split
  ·omega
  ·rename_i h;rw[qL h]at o;have:=n y o;omega
 ·by_cases h:ix w=a
  ·have e:=v c d f (by rw[<-h,iI q];exact g);have l:c≠a:=λj=>by rw[j,k]at e;cases e
   simp only[ao h,ae l];exact⟨Bn e,by have:=n c e;omega⟩
  ·rw[qL h]at p;obtain⟨m,z⟩:=s c d f w g q p;have l:c≠a:=λj=>by rw[j,k]at m;cases m
   simp only[ae h,ae l];exact⟨Bn m,z⟩
def OB(f:Nat->Nat):∀n,∃B,∀i,i<n->f i<=B
 |0=>⟨0,λi a=>absurd a (jC _)⟩
 |n+1=>by
  obtain⟨B,c⟩:=OB f n;refine⟨B+f n,λi a=>?_⟩;rcases be i n with b|b
  ·have:=c i b;omega
  ·have:i=n:=V;subst this;omega
def Ul{mk:Nat->Bool}(r:RY b mk)(q:∀d∈b,∀w∈d.aL,1000<=w->ix w<b.length)(o:∀a,a<b.length->gQ mk 0 b a=0->mk a=true):
 rH mk b.length=b.length<->VV b:=by
 rw[OD]
 constructor
 ·intro g
  obtain⟨t,e,c⟩:=r
  refine⟨λx=>b.length -t x,λi d h w j f=>?_⟩
  have k:=q d (ar h) w j f
  have:=(c i d h w j f (g _ k)).2
  have:=e _ (g _ k)
  have:=JB mk b.length
  show b.length -t (ix w)<b.length -t i
  omega
 ·rintro⟨h,s⟩
  obtain⟨B,m⟩:=OB h b.length
  have u:∀(n i:Nat),B -h i<n->i<b.length->mk i=true:=by
   intro n;induction n with
   |zero=>intro i g;omega
   |succ n t=>
    intro i g p;refine o i p (Int.le_antisymm (Int.not_lt.1 λf=>?_) (Fw _ _ _ _));obtain⟨k,d,e,c,l⟩:=MJ f;rw[cC]at c;have:=s k d e _ l V;rw[mO]at this;have j:=ax e;have:=m k j;rw[t k V j]at c;cases c
  exactλi g=>u (B -h i+1) i V g
structure Gx(b:List bX)(mk:Nat->Bool)(W:List Nat)(e:Nat->Int):Prop where
 Kr:W.Nodup
 un:∀a∈W,a<b.length/\mk a=false
 zero:∀a,a<b.length->(e a=0<->(mk a=true\/a∈W))
def Fq:∀(n:Nat)(W:List Nat),W.Nodup->(∀a∈W,a<n)->W.length<=n
 |0,[],_,_=>ad _
 |0,a::_,_,b=>absurd (b a D) (jC _)
 |n+1,W,d,b=>by
  by_cases e:n∈W
  ·have f:=Fq n (W.erase n) (d.erase n) λa c=>by
    have:=d.mem_erase_iff.1 c;have:=b a this.2;omega
   rw[List.length_erase_of_mem e]at f;omega
  ·have:=Fq n W d λa c=>by
    have:=b a c;have:a≠n:=λf=>e (f▸c);omega
   omega
def Gx.len{mk:Nat->Bool}(K:Gx b mk W e):W.length<=b.length:=Fq _ _ K.Kr λa c=>(K.un a c).1
def Gx.Uo{mk:Nat->Bool}(K:Gx b mk (W++[a]) e):Gx b (nN mk a) W e:=by
 obtain⟨g,i,h⟩:=List.nodup_append.1 K.Kr;refine⟨g,λx d=>?_,λx d=>?_⟩
 ·have f:=K.un x (bL _ d);refine⟨f.1,?_⟩;rw[qL λc=>h x d a D c];exact f.2
 ·rw[K.zero x d];by_cases c:x=a
  ·subst c;simp[Hm]
  ·rw[qL c];simp[c]
def Gx.mB{mk:Nat->Bool}{lf':Nat->Int}(K:Gx b mk W e)(i:a<b.length)(j:∀x,lf' x=if x=a then e x -1 else e x)(l:0<e a):
 (lf' a=0->Gx b mk (W++[a]) lf')/\(lf' a≠0->Gx b mk W lf'):=by
 have g:mk a≠true/\a∉W:=by
  have:=(K.zero a i).2;constructor
  ·intro d;have:=this (Or.inl d);omega
  ·intro d;have:=this (Or.inr d);omega
 refine⟨λh=>⟨?_,λx c=>?_,λx c=>?_⟩,λh=>⟨K.Kr,K.un,λx c=>?_⟩⟩
 ·rw[List.nodup_append]
  refine⟨K.Kr,D,λx c y k f=>?_⟩
  simp at k;subst k;subst f;exact g.2 c
 ·rcases List.mem_append.1 c with c|c
  ·exact K.un x c
  ·simp at c;subst c;exact⟨i,by simpa using g.1⟩
 ·by_cases f:x=a
  ·subst f;simp[h]
  ·rw[j x,ae f,K.zero x c];simp[f]
 ·by_cases f:x=a
  ·subst f
   constructor
   ·intro d;exact absurd d h
   ·rintro(d|d)
    ·exact absurd d g.1
    ·exact absurd d g.2
  ·rw[j x,ae f,K.zero x c]
end
section
variable{c:Nat->Nat}{m:I}{b d a:Nat}{s:O}{e:Nat->Int}
def T0(W:List Nat):List Int:=W.map λ(a:Nat)=>(a:Int)
def JD(W:List Nat):(T0 W).length=W.length:=by simp[T0]
def J1(W:List Nat)(a:Nat):T0 (W++[a])=T0 W++[(a:Int)]:=by simp[T0]
def Vj(h:gY c m aE 1 b s ((xW d e).map Ce.i))(i:d<=9223372036854775807)(g:a<d):af m s.F (s.off+Int.toNat (a:Int)*1)=some (vi (e a)):=by
 have:=(h.mZ (by rw[qO];exact i)).E (Gi (f:=e) g);simpa using this
def Td(h:gY c m aE 1 b s ((xW d e).map Ce.i)):s.len=d:=by have:=h.len;simp[qO]at this;omega
def Wq{g:Nat->Int}(h:gY c m aE 1 b s ((xW d e).map Ce.i))(q:a<d){v:Int}(o:∀f,f<d->g f=if f=a then v else e f)(p:∀f,m.size<=f->c f=0):
 fH m s.F (s.off+Int.toNat (a:Int)*1) 1/\gY c (ai m s.F (s.off+Int.toNat (a:Int)*1) [.i v]) aE 1 b s ((xW d g).map Ce.i)/\dv (λj=>j=b) c m c (ai m s.F (s.off+Int.toNat (a:Int)*1) [.i v]):=by
 have i:(0:Int)<=(a:Int):=V
 have j:(a:Int)<((xW d e).length:Nat):=by rw[qO];omega
 have k:=h.gF i j v
 have l:gF (xW d e) (a:Int) v=xW d g:=by
  unfold gF;rw[show Int.toNat (a:Int)=a by omega,Q5];exact jA λf n=>(o f n).symm
 rw[l]at k
 have r:=Td h
 have t:=h.le
 exact⟨h.Og i j,k,dv.ai p (h.F V).2 _ _⟩
def WU(m:I)(h:List bX)(v:Value)(c:I):Prop:=∃(s:O)(b:Bool),v=.tuple #[O.v s,vb b]/\(b=true<->PJ h)/\
 (b=true->∃a,s=.mk a 0 h.length h.length/\m.size<=a/\cF c a aE ((xW h.length (fy h)).map Ce.i))/\J m c
def BC{R:O}{h:List bX}(A:dN m R h)(aV:WZ h)(bo:h.length<=1000000000):aO cw 68 [O.v R] m (WU m h):=by
 apply wN;simp -zeta only[aD,aC];have hl:=A.len;have en:Int.toNat (R.len:Int)=h.length:=V;rw[en];refine⟨V,V,V,V,?_⟩;intro m1;have x1:J m m1:=(J.aB m).aK _;have B1:cF m1 m.size aE ((xW h.length (λ_=>0)).map Ce.i):=Te m _;clear_value m1;have no:∀{M:I},J m M->¬PJ h->WU m h (.tuple #[O.v O.nil,vb false]) M:=λY K=>⟨.nil,false,rfl,by simp[K],D,Y⟩;have aw:∀d:Nat,Int.toNat (d:Int)=d:=λd=>V;simp -zeta only[O.iE,O.jm,O.ta,cC];refine eU (n:=h.length) V (λy p=>J m p/\cF p m.size aE ((xW h.length (λa=>fy (h.take y) a)).map Ce.i)/\∀j∈h.take y,Ih h j) ⟨x1,by simpa[fy]using B1,D⟩ ?_;rintro y m2 bv μ hi ⟨x2,B2,al⟩ aa
 have bD:=B2.lt;have h3:∀j∈h.take y,j.aL.length<=3:=λj hm=>(al j hm).fl;refine dit (λh1=>?_) λh1=>?_
 ·obtain⟨j,t⟩:=ag (l:=h) (k:=y) V;have ah:=ar t;obtain⟨e,hf,g0,g1,g2⟩:=(dN.ext x2 A).E t;rw[aw];refine⟨V,V,j.aS,g0,j.jQ,g1,e,g2,?_⟩;intro Q N;have q:J m2 N:=((J.aB m2).aK _).ai (ad _) _ _;have s4:N.size=m2.size+1:=by simp[N,Q,av]
  clear_value N;refine(Fa (dN.ext (x2.trans q) A) (hf.ext q) (aV j ah)).aI (J.aB _) bJ λo Z X u _=>⟨o,rfl,λh2=>no ((x2.trans q).trans u) λB=>nb X h2 (B.cells j ah).v,λh2=>?_⟩;have C:=yb X h2;have bg:=C.fl;have z5:=u.size;have U:=B2.ext (q.trans u);have f5:=hf.ext (q.trans u);have X5:=(x2.trans q).trans u;have am:=hf.len;refine eU (n:=j.aL.length) V (λb p=>J m p/\m2.size<p.size/\ap p e j.aL/\cF p m.size aE ((xW h.length (λa=>fy (h.take y) a+eL (j.aL.take b) a)).map Ce.i)) ⟨X5,V,f5,by simpa[eL]using U⟩ ?_;rintro b r ak ν B ⟨P,z6,G,p⟩ T;refine dit (λh4=>?_) λh4=>?_
  ·obtain⟨w,L⟩:=ag (l:=j.aL) (k:=b) V;have az:=ar L;have aS:=aV j ah w az;refine⟨V,V,w,by simpa using G.E L,(gT (dN.ext P A) aS.2).mono ?_⟩;rintro _ s ⟨a,W,rfl,S,ab,H⟩;have z7:=H.size;refine⟨H.dm bJ,a,W,rfl,λF=>?_,λF=>?_⟩
   ·have aj:=S.1 F;have ai:=ax (bZ aj).1;have e1:=ab F;subst e1;have x:=p.ext H;have q1:=JH (h.take y) (ix w) h3;have q2:=lO (j.aL.take b) (ix w);have q3:=ur (h.take y) (ix w);have q4:=iG (j.aL.take b) (ix w);have q5:(h.take y).length<=h.length:=bJ;have q6:(j.aL.take b).length<=3:=bJ;rw[aw,gX];refine⟨V,V,_,EB x ai,V,V,Tf x ai,?_⟩;rw[show cW (fy (h.take y) (ix w)+eL (j.aL.take b) (ix w)+1)=fy (h.take y) (ix w)+eL (j.aL.take b) (ix w)+1 from aQ V V];have E:=Qy x (ix w) (fy (h.take y) (ix w)+eL (j.aL.take b) (ix w)+1);rw[jA (g:=λa=>fy (h.take y) a+eL (j.aL.take (b+1)) a)]at E
    ·refine⟨λo X=>bd _ _ _ _ (by simp at X;omega),T V _ ⟨(P.trans H).ai (ad _) _ _,by rw[av];omega,?_,E⟩⟩;obtain⟨f0,aU,_,_,w2⟩:=A.E t;have er:f0=e:=by have:=x2.af w2;rw[g2]at this;exact(O.Gp.1 (lV this)).symm
     subst er;exact aU.ext ((P.trans H).ai (ad _) _ _)
    ·intro o X;rw[Fs L];by_cases z:o=ix w
     ·subst z;rw[ao rfl,ao (iI aj.1).symm];omega
     ·rw[ae z,ae (λac=>z (by rw[ac,mO]))];omega
   ·refine T V s ⟨P.trans H,V,G.ext H,?_⟩;have bl:w<1000:=(C.cases az).resolve_left (fb S F);rw[jA (g:=λa=>fy (h.take y) a+eL (j.aL.take b) a)]
    ·exact p.ext H
    ·intro o X;rw[Fs L,ae V];omega
  ·have x:j.aL.take b=j.aL:=cN V;rw[x]at p;refine aa V r ⟨P,?_,bV t al C⟩
   rw[jA (g:=λa=>fy (h.take y) a+eL j.aL a)]
   ·exact p
   ·intro o X;exact Ry t o
 have ei:h.take y=h:=cN V;rw[ei]at B2 al h3;clear aa
 have a3:∀j∈h,∀w∈j.aL,gE h w\/w<1000:=λj u w L=>(al j u).cases L;have aj:∀j∈h,∀w∈j.aL,1000<=w->ix w<h.length:=λj hm w L R=>by
  rcases a3 j hm w L with h1|h1
  ·exact ax (bZ h1).1
  ·omega
 refine⟨λM=>m2=M/\pp h,⟨λh2=>?_,λh2=>⟨rfl,λj u=>?_⟩⟩,?_⟩
 ·simp at h2;rw[aQ V V];obtain⟨j,u⟩:=ag (l:=h) (k:=h.length -1) V;obtain⟨e,hf,g1,_,_⟩:=(dN.ext x2 A).E u;have z:Int.toNat ((R.len:Int) -1)=h.length -1:=V;rw[z];refine⟨V,V,j.aS,g1,λh3=>no x2 λB=>?_,λh3=>⟨rfl,λan hd=>?_⟩⟩
  ·exact B.jB j u (by simpa using h3)
  ·rw[u]at hd;simp at hd;subst hd;simpa using h3
 ·have:=ax u;simp at h2;omega
 rintro _ ⟨rfl,bp⟩;refine(eF (Us B2 V) (by rw[qO];exact bo)).mono ?_;rintro _ Q ⟨C,rfl,or,x3⟩;have z3:=x3.size;have B3:=B2.ext x3;have X3:=x2.trans x3;have bK:=x2.size;obtain⟨E,aK⟩:∃E:Nat->Nat,E=λo=>if C.Fm=false/\o=C.F then 2 else if o=m.size then 1 else 0:=⟨_,rfl⟩
 have aJ:C.Fm=false->m2.size<=C.F/\C.F<Q.size:=λK=>by
  have ak:C≠.nil:=λz=>by rw[z]at K;simp at K
  exact⟨or.F.resolve_left ak,or.lt.resolve_left ak⟩
 have aY:∀o,o≠m.size->(C.Fm=false->o≠C.F)->E o=0:=λo h4 F=>by
  rw[aK];exact(ae λA=>F A.1 A.2).trans (ae h4)
 have bu:E m.size=1:=by
  rw[aK];exact(ae λA=>by have:=aJ A.1;omega).trans (ao rfl)
 have br:∀o,Q.size<=o->E o=0:=λo X=>aY o V λK=>by have:=aJ K;omega
 have bb:∀o,o<m.size->E o=0:=λo X=>aY o V λK=>by have:=aJ K;omega
 have A3:gY E Q aE 1 2 C ((xW h.length (fy h)).map Ce.i):=gY.fV or λak=>by
  rw[aK];refine ao ⟨?_,rfl⟩;cases C with
  |nil=>exact absurd rfl ak
  |_=>rfl
 have bB:=Td A3;clear aJ aY aK;have aM:∀{c a8:Nat->Nat}{M M':I},dv (λb=>b=2\/b=6) c M a8 M'->To c M a8 M':=λu=>u.mono λb B=>V;have aP:∀{c:Nat->Nat}{M:I},dv (λb=>b=2\/b=6) E Q c M->J m M:=λu=>((aM u).bY X3 bb).1;have a7:∀{c:Nat->Nat}{M:I},dv (λb=>b=2\/b=6) E Q c M->cF M m.size aE ((xW h.length (fy h)).map Ce.i):=λu=>B3.congr (u.dW _ B3.lt (by rw[bu];decide));have bs:gY E Q aE 1 6 .nil (([]:List Int).map Ce.i):=⟨D,D,Or.inl rfl⟩;refine⟨C,rfl,dU (σ:=O) (n:=h.length) V (λb S M=>∃c W,dv (λb=>b=2\/b=6) E Q c M/\gY c M aE 1 2 C ((xW h.length (fy h)).map Ce.i)/\gY c M aE 1 6 S ((T0 W).map Ce.i)/\W.Nodup/\(∀a∈W,a<b)/\(∀a,a<b->(fy h a=0<->a∈W))/\
  ∀(a:Nat)(j:bX),a<b->h[a]? =some j->0<j.aS->fy h a<=j.aS/\j.aS<=999999) ⟨E,[],dv.aB _ br,A3,bs,D,D,D,D⟩ ?_⟩
 rintro b S N I2 μ2 B ⟨ab,W,C4,A4,W4,ay,am,aL,aI⟩ aa
 have X4:=aP C4;refine dit (λh4=>?_) λh4=>?_
 ·have aq:b<h.length:=V;obtain⟨j,ac⟩:=ag aq;obtain⟨e,hf,g0,g1,g2⟩:=(dN.ext X4 A).E ac;rw[aw];refine⟨V,V,j.aS,g0,j.jQ,g1,e,g2,?_⟩;intro Z r;have P:J N r:=((J.aB N).aK _).ai (ad _) _ _;have s6:r.size=N.size+1:=by simp[r,Z,av]
  clear_value r;have aA:dv (λb=>b=2\/b=6) ab N ab r:=dv.eN _ P C4.new;have C6:=C4.trans aA;have F6:dv (λ_=>False) ab N ab r:=dv.eN _ P C4.new;have A6:=A4.eV F6 id;have W6:=W4.eV F6 id;have g6:=EB (a7 C6) aq;have iV:(0<j.aS->fy h b<=j.aS/\j.aS<=999999)->∀(a:Nat)(j:bX),a<b+1->h[a]? =some j->0<j.aS->fy h a<=j.aS/\j.aS<=999999:=λK a an q hd=>by
   rcases be a b with T|T
   ·exact aI a an T hd
   ·have:a=b:=V;subst this;rw[ac]at hd;simp at hd;subst hd;exact K
  have jW:(0<j.aS->fy h b<=j.aS/\j.aS<=999999)->((0:Int)<=b/\(b:Int)<(h.length:Int)/\∃t:Int,af r m.size (b*1)=some (vi t)/\
   ((t==(0:Int))=true->let x:I:=r.push (.cells (bG [.i (b:Int)]) 3)
    jE x 3 [.i (0:Int)] 8 S (O.mk r.size 0 1 1) λG p=>eE [N.size] x p/\I2 G (cW ((b:Int)+(1:Int))) p/\μ2 G (cW ((b:Int)+(1:Int))) p<μ2 S b N)/\
   ((t==(0:Int))=false->I2 S (cW ((b:Int)+(1:Int))) r/\μ2 S (cW ((b:Int)+(1:Int))) r<μ2 S b N)):=λK=>by
   refine⟨V,V,_,by rw[gX];exact g6,λG=>?_,λG=>?_⟩
   ·intro s
    have H:J r s:=(J.aB r).aK _
    have k7:cF s r.size 3 [.i (b:Int)]:=cF.push r _ _
    have s7:s.size=r.size+1:=by simp[s]
    have F7:dv (λ_=>False) ab r ab s:=dv.eN _ H C6.new
    have C7:dv (λb=>b=2\/b=6) E Q ab s:=C6.trans (dv.eN _ H C6.new)
    have aB:=W6.len
    simp[JD]at aB
    have aH:W.length<=h.length:=Fq _ _ ay λa q=>by have:=am a q;omega
    refine gY.append (c:=[.i 0]) (d:=[.i (b:Int)]) (W6.eV F7 id) C7.new D k7.iP (by simp only[O.iE];omega) λt a6 m8 aG c8=>⟨?_,?_⟩
    ·exact(aM (c8.mono λp hj=>Or.inr hj)).dm (by simp;exact⟨V,C4.new _ (ad _)⟩)
    ·refine aa V _ _ ⟨t,W++[b],C7.trans (c8.mono λp hj=>Or.inr hj),(A6.eV F7 id).eV c8 bh,by rw[J1];simpa using aG,?_,λa q=>?_,λa q=>?_,iV K⟩
     ·rw[List.nodup_append]
      refine⟨ay,D,λx Y aN U z=>?_⟩
      simp at U;subst U;subst z;have:=am _ Y;omega
     ·rcases List.mem_append.1 q with q|q
      ·have:=am a q;omega
      ·simp at q;omega
     ·rcases be a b with U|U
      ·rw[aL a U];simp;omega
      ·have:a=b:=V
       subst this
       simp at G;simp[G]
   ·refine aa V _ _ ⟨ab,W,C6,A6,W6,ay,λa q=>by have:=am a q;omega,λa q=>?_,iV K⟩
    rcases be a b with U|U
    ·exact aL a U
    ·have:a=b:=V
     subst this
     simp at G
     simp only[G,false_iff]
     intro hm;have:=am _ hm;omega
  refine⟨λF=>⟨V,V,_,by rw[gX];exact g6,λT=>no (X4.trans P) λB=>?_,λT=>⟨λG=>no (X4.trans P) λB=>?_,λG=>jW λ_=>by simp at T G;omega⟩⟩,λF=>jW λT=>by simp at F;omega⟩
  ·have:=B.fy b j ac (by simpa using F);simp at T;omega
  ·have:=(B.cells j (ar ac)).hi;simp at G;omega
 have bi:b=h.length:=V;subst bi;clear aa h4
 have bf:∀j∈h,wD h j:=λj u=>by
  obtain⟨a,q⟩:=List.mem_iff_getElem?.1 u;refine(al j u).ok ?_;rcases If 0 j.aS with R|R
  ·exact(aI a j (ax q) q R).2
  ·omega
 have bn:∀(a:Nat)(j:bX),h[a]? =some j->0<j.aS->fy h a<=j.aS:=λa j q R=>(aI a j (ax q) q R).1;have bk:∀mk a,gQ mk 0 h a<=3*h.length:=λmk a=>by
  have:=Pc mk 0 h a;have:=JH h a λj hm=>(al j hm).fl;omega
 have K0:Gx h (λ_=>false) W (gQ (λ_=>false) 0 h):=⟨ay,λa q=>⟨am a q,rfl⟩,λa q=>by rw[DC,aL a q];simp⟩;have c0:rH (λ_=>false) h.length=0:=by
  generalize h.length=d;induction d with
  |zero=>rfl
  |succ d P=>simp[rH,P]
 refine Ux (γ:=(Nat->Bool)×List Nat) (λP S a5 M=>∃c,a5=(rH P.1 h.length:Nat)/\dv (λb=>b=2\/b=6) E Q c M/\gY c M aE 1 2 C ((xW h.length (gQ P.1 0 h)).map Ce.i)/\gY c M aE 1 6 S ((T0 P.2).map Ce.i)/\Gx h P.1 P.2 (gQ P.1 0 h)/\RY h P.1)
  (λP=>h.length -rH P.1 h.length) (λ_=>false,W) ⟨ab,by rw[c0];rfl,C4,by rw[jA (g:=fy h) λo _=>DC 0 h o];exact A4,W4,K0,λ_=>0,D,D⟩ ?_
 clear C4 A4 W4 K0 c0 X4 ay am aL aI;rintro⟨mk,W⟩ S a5 Z I3 μ3 ⟨ac,rfl,C5,A5,W5,K5,O5⟩ aa
 simp only at A5 W5 K5 O5 aa
 have X5:=aP C5;have aB:=W5.len;simp[JD]at aB;have bw:=K5.len;refine⟨λF=>?_,λF=>?_⟩
 ·simp only[kU,au]at F;have ak:W≠[]:=λz=>by subst z;simp at aB;omega
  obtain⟨W',a,rfl⟩:∃W' a,W=W'++[a]:=⟨W.dropLast,W.getLast ak,(dX ak).symm⟩;rw[J1]at W5;obtain⟨p1,p2,p3⟩:=W5.Uo;rw[JD]at p1 p2 p3;have e1:cW ((S.len:Int) -1)=(W'.length:Int):=by rw[aQ V V];omega
  obtain⟨aG,aT⟩:=K5.un a D;obtain⟨j,aH⟩:=ag aG;have ah:=ar aH;have bg:=(al j ah).fl;obtain⟨e,hf,g0,g1,g2⟩:=(dN.ext X5 A).E aH;rw[e1,aw];have bC:=W5.le;refine⟨V,V,a,p2,V,V,?_⟩;rw[aw];refine⟨j.aS,g0,j.jQ,g1,e,g2,?_⟩;intro r s;have H:J Z s:=((J.aB Z).aK _).ai (ad _) _ _;have s7:s.size=Z.size+1:=by simp[s,r,av]
  clear_value s;have F7:dv (λ_=>False) ac Z ac s:=dv.eN _ H C5.new;have C7:dv (λb=>b=2\/b=6) E Q ac s:=C5.trans (dv.eN _ H C5.new);have bz:=hf.len;have hz:gQ mk 0 h a=0:=(K5.zero a aG).2 (Or.inr D);have O7:=O5.set aG aT hz;have aW:=λx=>MK (mk:=mk) (e:=0) aH (by rw[cC];exact aT) x;simp only[cC]at aW;have es:=ER aT aG;have bx:=JB (nN mk a) h.length;have K7:Gx h (nN mk a) W' (λx=>gQ (nN mk a) 0 h x+eL (j.aL.drop 0) x):=by
   have:=K5.Uo;refine⟨this.Kr,this.un,λx Y=>?_⟩;rw[<-this.zero x Y,aW,List.drop_zero];constructor<;>intro h<;>omega
  refine⟨V,V,V,dU (σ:=O) (n:=j.aL.length) V (λp wk M=>∃c W2,dv (λb=>b=2\/b=6) ac s c M/\gY c M aE 1 2 C ((xW h.length (λx=>gQ (nN mk a) 0 h x+eL (j.aL.drop p) x)).map Ce.i)/\gY c M aE 1 6 wk ((T0 W2).map Ce.i)/\Gx h (nN mk a) W2 (λx=>gQ (nN mk a) 0 h x+eL (j.aL.drop p) x))
   ⟨ac,W',dv.aB _ C7.new,?_,?_,K7⟩ ?_⟩
  ·have:=A5.eV F7 id;rw[jA (g:=gQ mk 0 h) λo _=>by simp only[aW,List.drop_zero];omega];exact this
  ·exact p3.eV F7 id
  rintro p wk m8 I4 μ4 hj ⟨t,W2,C8,A8,W8,K8⟩ aX;have X8:=aP (C7.trans C8);have T8:=aM C8;have r7:Z.size<m8.size/\t Z.size=0:=⟨by have:=C8.size;omega,by rw[C8.iW _ V];exact C5.new _ (ad _)⟩;refine dit (λT=>?_) λT=>?_
  ·obtain⟨w,L⟩:=ag (l:=j.aL) (k:=p) V;have az:=ar L;have aS:=aV j ah w az;have a4:j.aL.drop p=w::j.aL.drop (p+1):=by
    rw[pW (ax L)];congr 1;exact(List.getElem?_eq_some_iff.1 L).2
   obtain⟨f0,aU,_,_,w2⟩:=A.E aH;have er:f0=e:=by have:=X5.af w2;rw[g2]at this;exact(O.Gp.1 (lV this)).symm
   subst er;refine⟨V,V,w,by simpa using(aU.ext X8).E L,(gT (dN.ext X8 A) aS.2).mono ?_⟩;rintro _ m9 ⟨a6,b9,rfl,a2,bm,x9⟩;have z9:=x9.size;have F9:dv (λ_=>False) t m8 t m9:=dv.eN _ x9 C8.new;have C9:dv (λb=>b=2\/b=6) ac s t m9:=C8.trans (dv.eN _ x9 C8.new);have A9:=A8.eV F9 id;have W9:=W8.eV F9 id;refine⟨x9.dm bJ,a6,b9,rfl,λG=>?_,λG=>?_⟩
   ·have aj:=a2.1 G;have ai:=ax (bZ aj).1;have e9:=bm G;subst e9;have an:∀x,eL (j.aL.drop p) x=(if x=ix w then 1 else 0)+eL (j.aL.drop (p+1)) x:=λx=>by rw[a4,iF aj.1]
    have bc:=an (ix w);rw[ao rfl]at bc;have n1:=Fw (nN mk a) 0 h (ix w);have n2:=bk (nN mk a) (ix w);have n3:=iG (j.aL.drop (p+1)) (ix w);have n4:=lO (j.aL.drop (p+1)) (ix w);have n5:(j.aL.drop (p+1)).length<=3:=bJ;obtain⟨u1,u2,u3⟩:=Wq (e:=λx=>gQ (nN mk a) 0 h x+eL (j.aL.drop p) x) (g:=λx=>gQ (nN mk a) 0 h x+eL (j.aL.drop (p+1)) x) A9 ai (v:=gQ (nN mk a) 0 h (ix w)+eL (j.aL.drop (p+1)) (ix w)) (λo _=>by
     rw[an];by_cases z:o=ix w
     ·subst z;rw[ao rfl]
     ·rw[ae z,ae z];omega) C9.new
    refine⟨V,V,_,Vj A9 V ai,V,V,u1,?_⟩;rw[show cW (gQ (nN mk a) 0 h (ix w)+eL (j.aL.drop p) (ix w) -1)=gQ (nN mk a) 0 h (ix w)+eL (j.aL.drop (p+1)) (ix w)by rw[aQ V V];omega];intro P;have aA:dv (λb=>b=2\/b=6) ac s t P:=C9.trans (u3.mono λb B=>Or.inl B);have bF:P.size=m9.size:=av _ _ _ _;have aN:gY t P aE 1 6 wk ((T0 W2).map Ce.i):=W9.eV u3 bh;obtain⟨v1,v2⟩:=K8.mB (lf':=λx=>gQ (nN mk a) 0 h x+eL (j.aL.drop (p+1)) x) ai (λx=>by
     rw[an];split<;>omega) (show 0<gQ (nN mk a) 0 h (ix w)+eL (j.aL.drop p) (ix w)by omega)
    have a_:To t m9 t P:=u3.mono λb B=>V;have aZ:gY t P aE 1 2 C ((xW h.length (λx=>gQ (nN mk a) 0 h x+eL (j.aL.drop (p+1)) x)).map Ce.i):=u2;clear_value P;clear u2;refine⟨a_.dm (by simp;exact⟨V,r7.2⟩),V,V,_,Vj aZ V ai,λU=>?_,λU=>?_⟩
    ·intro aq;have a9:J P aq:=(J.aB P).aK _;have bq:cF aq P.size 3 [.i (ix w:Int)]:=cF.push P _ _;have bI:aq.size=P.size+1:=by simp[aq]
     have a1:dv (λ_=>False) t P t aq:=dv.eN _ a9 aA.new;have a0:dv (λb=>b=2\/b=6) ac s t aq:=aA.trans (dv.eN _ a9 aA.new);have bj:=aN.len;simp[JD]at bj;have bA:=K8.len;refine gY.append (c:=[.i 0]) (d:=[.i (ix w:Int)]) (aN.eV a1 id) a0.new D bq.iP (by simp only[O.iE];omega) λbt q2 bE ba aR=>⟨?_,?_⟩
     ·exact(aM (aR.mono λp hj=>Or.inr hj)).dm (by simp;exact⟨V,r7.2⟩)
     ·exact aX V _ _ ⟨bt,W2++[ix w],a0.trans (aR.mono λp hj=>Or.inr hj),(aZ.eV a1 id).eV aR bh,by rw[J1];simpa using ba,v1 (by simpa using U)⟩
    ·exact aX V _ _ ⟨t,W2,aA,aZ,aN,v2 (by simpa using U)⟩
   ·have bl:w<1000:=(a3 j ah w az).resolve_left (fb a2 G);have an:∀x,eL (j.aL.drop (p+1)) x=eL (j.aL.drop p) x:=λx=>by
     rw[a4];simp only[eL];rw[ae V];omega
    refine aX V _ _ ⟨t,W2,C9,?_,W9,?_⟩
    ·rw[jA (g:=λx=>gQ (nN mk a) 0 h x+eL (j.aL.drop p) x) λo _=>by rw[an]];exact A9
    ·exact⟨K8.Kr,K8.un,λx Y=>by rw[an];exact K8.zero x Y⟩
  ·have P:j.aL.drop p=[]:=Ig V;have G:∀x,gQ (nN mk a) 0 h x+eL (j.aL.drop p) x=gQ (nN mk a) 0 h x:=λx=>by rw[P];simp[eL]
   rw[show cW ((rH mk h.length:Nat)+1:Int)=((rH (nN mk a) h.length:Nat):Int)by rw[es,aQ V V];omega];refine aa (nN mk a,W2) _ _ m8 ⟨t,rfl,C7.trans C8,?_,W8,⟨K8.Kr,K8.un,λx Y=>by have:=K8.zero x Y;rw[G]at this;exact this⟩,O7⟩ (by simp only[];omega)
   rw[jA (g:=λx=>gQ (nN mk a) 0 h x+eL (j.aL.drop p) x) λo _=>(G o).symm];exact A8
 ·simp only[kU,bH]at F;have r:W=[]:=List.length_eq_zero_iff.1 V;subst r;have s:=Ul O5 aj λa q p=>((K5.zero a q).1 p).resolve_right D;refine⟨_,_,rfl,?_,λ_=>⟨m.size,rfl,ad _,a7 C5⟩,X5⟩;rw[aF,show((rH mk h.length:Nat):Int)=(R.len:Int)<->rH mk h.length=h.length by omega,s];exact⟨λq=>⟨bp,bf,bn,q⟩,λB=>B.Nh⟩
end
section
variable{j:cH}{f:aX}{m d i:I}{r o e:O}{a b:Nat}
structure Rb(j:cH)(f:aX):Prop where
 eP:0<=f.eP/\f.eP<j.cA.length
 pc:0<=f.pc/\f.pc<(dx j f.eP).cL.length
 lr:(f.u.length:Int)=(dx j f.eP).u
 lo:(f.aR.length:Int)=(dx j f.eP).u
 lh:(f.bo.length:Int)=(dx j f.eP).u
 dt:∀(k:Nat)(w o:Int),f.u[k]? =some w->f.aR[k]? =some o->(iu w\/1000<=w)/\(0<=o/\o<=999999)
def Rb.aR(h:Rb j f):∀o∈f.aR,0<=o/\o<=999999:=λo c=>by
 obtain⟨b,a⟩:=List.mem_iff_getElem?.1 c;have:=ax a;have e:=h.lr;have g:=h.lo;obtain⟨w,d⟩:=ag (l:=f.u) (k:=b) V;exact(h.dt b w o d a).2
def Dr{R aa:O}(T:eu m R aa j)(M:ap m r f.u)(B:ap m o f.aR)(he:ap m e f.bo):
 dJ cw 71 [.agg #[O.v R,O.v aa],.agg #[vi f.eP,vi f.pc,vi f.dst,O.v r,O.v o,O.v e]] m (Rb j f):=by
 apply ym
 simp -zeta only[aD,aC]
 intro N d
 have E:J m d:=((J.aB m).aK _).aK _
 have s1:N.size=m.size+1:=by simp[N]
 have s2:d.size=m.size+2:=by simp[d,s1]
 clear_value d
 have am:=T.cA.len
 have ao:=M.len
 have aj:=B.len
 have ai:=he.len
 have aq:=M.fS
 refine⟨λA=>cK (λa=>by have:=a.eP;simp at A;omega) E,λA=>⟨λF=>cK (λa=>by have:=a.eP;simp at F;omega) E,λF=>?_⟩⟩
 simp at A F
 obtain⟨ah,X⟩:=ag (l:=j.cA) (k:=f.eP.toNat) V
 have i:dx j f.eP=ah:=by simp[dx,X]
 obtain⟨pa,pl,pc,ak,an,ac,k0,k1,k2,k3,k4⟩:=(T.ext E).cA.E X
 have al:=ac.len
 refine⟨A,V,pa,k0,pl,k1,_,k2,_,k3,pc,k4,?_⟩
 intro m3 u
 have x4:J d u:=((J.aB d).aK _).ai (ad _) _ _
 have s4:u.size=d.size+1:=by simp[u,m3,av]
 clear_value u
 have g:=E.trans x4
 have hl:∀b∈[d.size,N.size,m.size],b<u.size:=bJ
 refine⟨λG=>cK (λa=>by have:=a.pc;simp at G;omega) g,λG=>⟨λH=>cK (λa=>by have:=a.pc;rw[i]at this;simp at H;omega) g,λH=>⟨λI=>cK (λa=>by have:=a.lr;rw[i]at this;simp at I;omega) g,λI=>⟨λK=>cK (λa=>by have:=a.lo;rw[i]at this;simp at K;omega) g,λK=>⟨λL=>cK (λa=>by have:=a.lh;rw[i]at this;simp at L;omega) g,λL=>?_⟩⟩⟩⟩⟩
 simp at G H I K L
 refine eU (n:=f.u.length) V (λc m'=>J u m'/\∀(h:Nat)(w o:Int),h<c->f.u[h]? =some w->f.aR[h]? =some o->(iu w\/1000<=w)/\(0<=o/\o<=999999)) ⟨J.aB _,λh w o U=>absurd U (jC _)⟩ ?_
 rintro c Z ab μ a ⟨Q,Y⟩ ae
 refine dit (λh8=>?_) λh8=>?_
 ·obtain⟨w,p⟩:=ag (l:=f.u) (k:=c) V
  obtain⟨v,y⟩:=ag (l:=f.aR) (k:=c) V
  refine⟨V,V,w,by simpa using(M.ext (g.trans Q)).E p,(qH w Z).aI Q hl λb6 t S ar z=>⟨b6,rfl,?_⟩⟩
  have W:af t o.F (o.off+Int.toNat (c:Int)*1)=some (vi v):=by simpa using(B.ext (g.trans z)).E y
  have jW:(iu w\/1000<=w)->(0:Int)<=c/\(c:Int)<(o.len:Int)/\∃P:Int,af t o.F (o.off+Int.toNat (c:Int)*1)=some (vi P)/\((decide (P<(0:Int)))=true->∃q:Bool,vb false=.bool q/\(q=true<->Rb j f)/\J m t)/\
   ((decide (P<(0:Int)))=false->(0:Int)<=c/\(c:Int)<(o.len:Int)/\∃s:Int,af t o.F (o.off+Int.toNat (c:Int)*1)=some (vi s)/\((decide (s>(999999:Int)))=true->∃q:Bool,vb false=.bool q/\(q=true<->Rb j f)/\J m t)/\
   ((decide (s>(999999:Int)))=false->ab (cW ((c:Int)+(1:Int))) t/\μ (cW ((c:Int)+(1:Int))) t<μ c Z)):=λhi=>
   ⟨V,V,v,W,λs=>cK (λa=>by have:=(a.dt c w v p y).2;simp at s;omega) (g.trans z),λs=>⟨V,V,v,W,λq=>cK (λa=>by have:=(a.dt c w v p y).2;simp at q;omega) (g.trans z),λq=>ae V _ ⟨z,λh w' o' U D C=>by
    rcases be h c with x|x
    ·exact Y h w' o' x D C
    ·have:h=c:=V;subst this;rw[p]at D;rw[y]at C;simp at D C;subst D;subst C;simp at s q;exact⟨hi,V⟩⟩⟩⟩
  refine⟨λs=>⟨λq=>cK (λa=>?_) (g.trans z),λq=>jW (Or.inr (by simp at q;omega))⟩,λs=>jW (Or.inl (yb S s))⟩
  rcases(a.dt c w v p y).1 with x|x
  ·exact nb S s x
  ·simp at q;omega
 ·refine jG ⟨V,by rw[i];omega,by rw[i];omega,by rw[i];omega,by rw[i];omega,λh w o p B=>Y h w o (by have:=ax p;omega) p B⟩ (g.trans Q)
structure II(a b:Nat)(m m':I):Prop where
 size:m.size<=m'.size
 same:∀c,c<m.size->c≠a->c≠b->m'[c]? =m[c]?
def II.aB(a b:Nat)(m:I):II a b m m:=⟨ad _,λ_ _ _ _=>rfl⟩
def II.ext{g:I}(h:II a b m g)(f:J g d):II a b m d:=⟨cg h.size f.size,λc e i j=>by rw[f.same c (aP e h.size)];exact h.same c e i j⟩
def II.trans{j:I}(h:II a b m j)(i:II a b j d):II a b m d:=⟨cg h.size i.size,λc g e f=>by rw[i.same c (aP g h.size) e f];exact h.same c g e f⟩
def II.ai{d:I}(h:II a b m d){c:Nat}(i:c=a\/c=b)(o:Nat)(l:List Ce):II a b m (ai d c o l):=
 ⟨by rw[av];exact h.size,λx j f g=>by rw[bd l d c o (by rcases i with e|e<;>rw[e]<;>assumption)];exact h.same x j f g⟩
def II.Gk{f:I}(h:II a b m f)(c:J i m)(g:i.size<=a)(j:i.size<=b):J i f:=
 ⟨cg c.size h.size,λd e=>by rw[h.same d (c.lt e) V V];exact c.same d e⟩
structure Wa(h:List bX)(f:aX):Prop where
 aR:∀(k:Nat)(w o:Int),f.u[k]? =some w->f.aR[k]? =some o->0<o->gE h w
 bo:∀w∈f.bo,w≠0->1000<=w/\∃c,h[ix w]? =some c/\c.aS<0
def Uv{w:Int}{n:Nat}(b:Lu w)(f:n<=1000000000):(0<=cW (w -1000)/\cW (w -1000)<n)<->(1000<=w/\ix w<n):=by
 obtain⟨c,d⟩:=b;rcases If w (-9223372036854774808)with a|a
 ·have e:cW (w -1000)=w -1000+18446744073709551616:=by
   unfold cW;rw[IntKind.wrap_i64];omega
  unfold ix;rw[e];constructor<;>intro h<;>omega
 ·unfold ix;rw[aQ V V];omega
structure Ng(m:I)(ob hb n:Nat)(fo fh:Nat->Int):Prop where
 aR:cF m ob aE ((xW n fo).map Ce.i)
 bo:cF m hb aE ((xW n fh).map Ce.i)
 ne:ob≠hb
def LN{hp:O}{h:List bX}{t j:Nat}{s q:Nat->Int}(x0:J i m)(hh:dN i hp h)(hr:ap i r f.u)(K:ap i o f.aR)(he:ap i e f.bo)(am:i.size<=t)(al:i.size<=j)(T:Ng m t j h.length s q)
 (ak:TF f)(aB:h.length<=1000000000)(az:f.u.length=f.aR.length/\f.bo.length=f.aR.length/\f.aR.length<=10000000)(an:∀o∈f.aR,0<=o/\o<=999999)(ay:∀a,0<=s a/\s a<=1000000000000000)(aw:∀a,0<=q a/\q a<=1000000000):
 aO cw 72 [.agg #[vi f.eP,vi f.pc,vi f.dst,O.v r,O.v o,O.v e],O.v hp,O.v (.mk t 0 h.length h.length),O.v (.mk j 0 h.length h.length)] m λv N=>
  ∃b:Bool,v=vb b/\(b=true<->Wa h f)/\(b=true->Ng N t j h.length (λa=>s a+dj f.u f.aR a) (λa=>q a+eL f.bo a))/\II t j m N:=by
 apply wL
 simp -zeta only[aD,aC]
 intro S
 have x1:J m S:=(J.aB m).aK _
 have s1:S.size=m.size+1:=by simp[S]
 clear_value S
 have aN:=hr.len
 have aL:=K.len
 have aJ:=he.len
 have aK:=hh.len
 obtain⟨aG,aH,aI⟩:=az
 have aS:=T.aR.lt
 have aP:=T.bo.lt
 simp -zeta only[O.iE,O.jm,O.ta,cC]
 have aa:∀ai:Nat,Int.toNat (ai:Int)=ai:=λai=>V
 refine eU (n:=f.aR.length) V (λc N=>II t j m N/\m.size<N.size/\Ng N t j h.length (λa=>s a+dj (f.u.take c) (f.aR.take c) a) (λa=>q a+eL (f.bo.take c) a)/\(∀(p:Nat)(w o:Int),p<c->f.u[p]? =some w->f.aR[p]? =some o->0<o->gE h w)/\
  (∀w∈f.bo.take c,w≠0->1000<=w/\∃y,h[ix w]? =some y/\y.aS<0)) ⟨(II.aB _ _ _).ext x1,V,by simpa[dj,eL]using(⟨T.aR.ext x1,T.bo.ext x1,T.ne⟩:Ng S t j h.length s q),λp w o hj=>absurd hj (jC _),D⟩ ?_
 rintro c d aF μ hk ⟨t2,z2,x,q2,Z⟩ au
 have X2:=t2.Gk x0 am al
 rw[aa,gX]
 refine dit (λh1=>?_) λh1=>?_
 ·obtain⟨w,A⟩:=ag (l:=f.u) (k:=c) V
  obtain⟨z,L⟩:=ag (l:=f.aR) (k:=c) V
  obtain⟨v,E⟩:=ag (l:=f.bo) (k:=c) V
  have gw:∀{M:I},J i M->af M r.F (r.off+c)=some (vi w):=λR=>by simpa using(hr.ext R).E A
  have gq:∀{M:I},J i M->af M o.F (o.off+c)=some (vi z):=λR=>by simpa using(K.ext R).E L
  have gv:∀{M:I},J i M->af M e.F (e.off+c)=some (vi v):=λR=>by simpa using(he.ext R).E E
  have aE:=ak.1 w (ar A)
  have aq:=ak.2.2 v (ar E)
  have aM:=an z (ar L)
  refine⟨V,V,z,gq X2,λM=>II t j d M/\m.size<M.size/\Ng M t j h.length (λa=>s a+dj (f.u.take (c+1)) (f.aR.take (c+1)) a) (λa=>q a+eL (f.bo.take c) a)/\(0<z->gE h w),⟨λh2=>?_,λh2=>?_⟩,?_⟩
  ·have G:0<z:=by simpa using h2
   refine⟨V,V,w,gw X2,(gT (dN.ext X2 hh) aE.2).mono ?_⟩
   rintro _ m3 ⟨a,Y,rfl,P,ab,C⟩
   have z3:=C.size
   refine⟨C.dm bJ,a,Y,rfl,λB=>⟨false,rfl,?_,D,t2.ext C⟩,λB=>?_⟩
   ·simp only[iT,false_iff]
    exactλht=>nb P B (ht.aR c w z A L G)
   have H:=yb P B
   have W:=ax (bZ H).1
   have U:=ab (by simpa using B)
   subst U
   have F:=x.aR.ext C
   have X:=x.bo.ext C
   have q1:=Kx (u:=f.u.take c) (aR:=f.aR.take c) (n:=999999) V (λo K=>an o (fR K)) (ix w)
   have q6:(f.aR.take c).length<=10000000:=bJ
   have q7:=ay (ix w)
   rw[aa,gX]
   refine⟨V,V,_,EB F W,V,V,Tf F W,?_⟩
   rw[show cW (s (ix w)+dj (f.u.take c) (f.aR.take c) (ix w)+z)=s (ix w)+dj (f.u.take c) (f.aR.take c) (ix w)+z from aQ V V]
   have Q:=Qy F (ix w) (s (ix w)+dj (f.u.take c) (f.aR.take c) (ix w)+z)
   rw[jA (g:=λa=>s a+dj (f.u.take (c+1)) (f.aR.take (c+1)) a)]at Q
   ·exact⟨λb ac=>bd _ _ _ _ (by simp at ac;omega),((II.aB _ _ _).ext C).ai (Or.inl rfl) _ _,by rw[av];omega,⟨Q,X.congr (bd _ _ _ _ λe=>x.ne e.symm),x.ne⟩,λ_=>H⟩
   ·intro b j
    rw[Dy A L]
    by_cases e:b=ix w
    ·subst e;rw[ao rfl,ao (iI H.1).symm];omega
    ·rw[ae e,ae (λah=>e (by rw[ah,mO]))];omega
  ·have G:z=0:=by simp at h2;omega
   refine⟨II.aB _ _ _,z2,⟨?_,x.bo,x.ne⟩,λhp=>V⟩
   rw[jA (g:=λa=>s a+dj (f.u.take c) (f.aR.take c) a)]
   ·exact x.aR
   ·intro b j;rw[Dy A L,G];split<;>omega
  rintro m3 ⟨t3,z3,F,aA⟩
  have P:=t2.trans t3
  have X3:=P.Gk x0 am al
  have iV:∀(p:Nat)(w o:Int),p<c+1->f.u[p]? =some w->f.aR[p]? =some o->0<o->gE h w:=λp w' o' hj Y X=>by
   rcases be p c with H|H
   ·exact q2 p w' o' H Y X
   ·have:p=c:=V;subst this;rw[A]at Y;rw[L]at X;simp at Y X;subst Y;subst X;exact aA
  have ad:=Uv (n:=h.length) aq aB
  refine⟨V,V,v,gv X3,λB=>⟨V,V,v,gv X3,?_⟩,λB=>?_⟩
  ·have ab:v≠0:=by simpa using B
   have aj:∀{M:I},II t j m M->¬(1000<=v/\∃y,h[ix v]? =some y/\y.aS<0)->∃b:Bool,vb false=vb b/\(b=true<->Wa h f)/\(b=true->Ng M t j h.length (λa=>s a+dj f.u f.aR a) (λa=>q a+eL f.bo a))/\II t j m M:=λht hn=>
    ⟨false,rfl,by simp only[iT,false_iff];exactλhk=>hn (hk.bo v (ar E) ab),D,ht⟩
   refine⟨λW=>aj P λ⟨G,y,C,_⟩=>?_,λW=>⟨λh5=>aj P λ⟨G,y,C,_⟩=>?_,λh5=>?_⟩⟩
   ·have:=(ad.2 ⟨G,ax C⟩).1;simp at W;omega
   ·have:=(ad.2 ⟨G,ax C⟩).2;simp at h5;omega
   simp at W h5
   obtain⟨G,C⟩:=ad.1 ⟨W,V⟩
   have ew:cW (v -1000)=(ix v:Nat):=by have:=aq.2;unfold ix;rw[aQ V V];omega
   rw[ew,aa]
   obtain⟨y,hc⟩:=ag C
   obtain⟨cf,_,c0,_,_⟩:=(dN.ext X3 hh).E hc
   refine⟨V,V,y.aS,c0,λH=>aj P λ⟨_,c',g3,g4⟩=>?_,λH=>?_⟩
   ·rw[hc]at g3;simp at g3;subst g3;simp at H;omega
   have q1:=aw (ix v)
   have q2:=lO (f.bo.take c) (ix v)
   have q3:=iG (f.bo.take c) (ix v)
   have q4:(f.bo.take c).length<=10000000:=bJ
   rw[gX]
   refine⟨V,V,_,EB F.bo C,V,V,Tf F.bo C,?_⟩
   rw[show cW (q (ix v)+eL (f.bo.take c) (ix v)+1)=q (ix v)+eL (f.bo.take c) (ix v)+1 from aQ V V]
   have Q:=Qy F.bo (ix v) (q (ix v)+eL (f.bo.take c) (ix v)+1)
   rw[jA (g:=λa=>q a+eL (f.bo.take (c+1)) a)]at Q
   ·refine⟨λb ac=>bd _ _ _ _ (by simp at ac;omega),au V _ ⟨P.ai (Or.inr rfl) _ _,by rw[av];exact z3,⟨F.aR.congr (bd _ _ _ _ x.ne),Q,x.ne⟩,iV,bV E Z λ_=>⟨G,y,hc,by simp at H;omega⟩⟩⟩
   ·intro b j
    rw[Fs E]
    by_cases e:b=ix v
    ·subst e;rw[ao rfl,ao (iI G).symm];omega
    ·rw[ae e,ae (λah=>e (by rw[ah,mO]))];omega
  ·have ab:v=0:=by simpa using B
   refine au V _ ⟨P,z3,⟨F.aR,?_,x.ne⟩,iV,bV E Z λC=>absurd ab C⟩
   rw[jA (g:=λa=>q a+eL (f.bo.take c) a)]
   ·exact F.bo
   ·intro b j;rw[Fs E,ae V];omega
 ·have z:f.u.take c=f.u:=cN V
  have B:f.aR.take c=f.aR:=cN V
  have U:f.bo.take c=f.bo:=cN V
  rw[z,B,U]at x
  rw[U]at Z
  exact⟨true,rfl,by simp only[true_iff];exact⟨λp w o A K=>q2 p w o (by have:=ax A;omega) A K,Z⟩,λ_=>x,t2⟩
end
section
def VZ(a:List aX)(k:Nat)(f:aX):Prop:=(zN a k=none->f.dst=0)/\∀p,zN a k=some p->0<=f.dst/\f.dst<p.aR.length/\E p.aR f.dst=0
structure RQ(im:cH)(s:St)(k:Nat)(f:aX):Prop where
 v:Rb im f
 dst:VZ s.az k f
 YR:Wa s.heap f
def RQ.ok{c:cH}{s:St}{k:Nat}{f:aX}(h:RQ c s k f):RP c s.heap (zN s.az k) f:=
 ⟨h.v.eP,h.v.pc,h.v.lr,h.v.lo,h.v.lh,⟨λj w o b a=>⟨(h.v.dt j w o b a).1,(h.v.dt j w o b a).2,h.YR.aR j w o b a⟩⟩,h.dst.1,h.dst.2⟩
def Oq.w{m:cH}{s:St}(h:Oq m s){k:Nat}{f:aX}(d:s.az[k]? =some f):RQ m s k f:=by
 have F:=h.az k f d;refine⟨⟨F.eP,F.pc,F.lr,F.lo,F.lh,λj w o b c=>⟨(F.u.dt j w o b c).1,(F.u.dt j w o b c).2.1⟩⟩,⟨F.first,F.next⟩,λj w o b c=>(F.u.dt j w o b c).2.2,λw b q=>?_⟩;obtain⟨g,n⟩:=(h.bo.cv f (ar d) w b).resolve_left q;obtain⟨e,i⟩:=ag n;refine⟨g,e,i,Int.not_le.1 λp=>?_⟩;have r:=h.bo.nu _ e i p;have t:=OV (ar d) (b:=ix w);have u:=um (l:=f.bo) (f:=ix w) (by rw[iI g];exact b);omega
section
variable{m:I}{d p aW c b:O}{a:cH}{s:St}
def Dw(aT:eu m d p a)(aZ:gP a)(S:gH m aW c b s)(ac:Nb s):dJ cw 41 [.agg #[O.v d,O.v p],Tz s aW c b] m (dh a s):=by
 apply yv;simp -zeta only[aD,aC];intro m1 P;have x2:J m P:=((J.aB m).aK _).aK _;have s1:m1.size=m.size+1:=by simp[m1]
 have s2:P.size=m.size+2:=by simp[P,s1]
 clear_value P;have hl:∀y∈[m1.size,m.size],y<P.size:=bJ;have aR:=S.az.len;have a9:=S.heap.len;have a_:=ac.lh;have u:∀{M:I},J P M->¬Oq a s->∃B:Bool,vb false=.bool B/\(B=true<->dh a s)/\J m M:=λhx L=>cK (λh=>L (Sj h)) (x2.trans hx);have aw:(s.az=[])<->((b.len:Int)=0):=by rw[aR];simp
 refine⟨λM=>J P M/\(0<=s.bU/\s.bU<=3)/\(s.bU=0<->s.az=[])/\iu s.value/\(s.value≠0->s.bU=0),?_,?_⟩
 ·refine⟨λz=>u (J.aB _) λi=>by have:=i.bU;simp at z;omega,λz=>⟨λw=>u (J.aB _) λi=>by have:=i.bU;simp at w;omega,λw=>⟨λG=>u (J.aB _) λi=>?_,λG=>?_⟩⟩⟩
  ·have:=i.done;rw[aw,<-Oz]at this;rw[this]at G;cases G
  have aj:0<=s.bU/\s.bU<=3:=by simp at z w;omega
  have ai:s.bU=0<->s.az=[]:=by rw[aw];exact(Oz _ _).1 G
  refine(qH _ _).aI (J.aB _) hl λj m3 e D _=>⟨j,rfl,λA=>u D λi=>nb e A i.value,λA=>⟨λf=>⟨λh=>u D λi=>?_,λh=>?_⟩,λf=>?_⟩⟩
  ·have:=i.ve (by simpa using f);simp at h;exact h this
  ·exact⟨D,aj,ai,yb e A,λ_=>by simpa using h⟩
  ·exact⟨D,aj,ai,yb e A,λh=>by simp at f;exact absurd f h⟩
 rintro m3 ⟨D,aj,ai,hv,a2⟩;refine⟨λz=>u D λi=>by have:=i.bA;simp at z;omega,λz=>⟨λw=>u D λi=>by have:=i.bA;simp at w;omega,λw=>⟨λG=>u D λi=>by have:=i.bq;simp at G;omega,λG=>⟨λA=>u D λi=>by have:=i.bq;simp at A;omega,λA=>?_⟩⟩⟩⟩;have aV:0<=s.bA/\s.bA<=40:=by simp at z w;omega
 have aN:0<=s.bq/\s.bq<=s.bA:=by simp at G A;omega
 rw[aQ V V];refine⟨λf=>u D λi=>by have:=i.depth;simp at f;omega,λf=>?_⟩;have aO:(s.az.length:Int)<=s.bq+1:=by simp at f;omega
 clear z w G A f;have X3:=x2.trans D;refine(BC (S.ext X3).heap ac.heap V).mono ?_;rintro _ m4 ⟨ct,b4,rfl,aq,a1,aG⟩;have x4:=D.trans aG;have z4:=x4.size;have z3:=D.size;refine⟨aG.dm λy K=>D.lt (hl y K),ct,b4,rfl,λz=>u x4 λi=>nb aq z i.heap,λz=>?_⟩;have az:=yb aq z;obtain⟨ob,rfl,ba,B4⟩:=a1 (by simpa using z);have bf:=B4.lt;refine(iK (S.ext (x2.trans x4)).aW 70 #[] #[] bh (λak=>¬iu ak) (λak _ m' hx=>?_)).aI x4 hl ?_
 ·apply vJ;refine(qH _ _).then λy H K x5=>⟨y,rfl,ft ?_ x5⟩;rw[<-K];simp
 intro b5 H au aH x5;have z5:=x5.size;have bg:=aH.size;refine⟨b5,rfl,λw=>u x5 λi=>?_,λw=>?_⟩
 ·obtain⟨ak,hx,L⟩:=au.1 w;exact L (i.aW ak hx)
 have a0:∀aa∈s.aW,iu aa:=λaa L=>dK λC=>by have:=au.2 ⟨aa,L,C⟩;rw[w]at this;cases this
 have en:Int.toNat (c.len:Int)=s.heap.length:=V;rw[en];refine⟨V,V,V,V,?_⟩;intro T;have aI:J H T:=(J.aB H).aK _;have s6:T.size=H.size+1:=by simp[T]
 have H6:cF T H.size aE ((xW s.heap.length (λ_=>0)).map Ce.i):=Te H _;clear_value T;have x6:=x5.trans aI;have X6:=x2.trans x6;have T6:Ng T ob H.size s.heap.length (fy s.heap) (λ_=>0):=⟨B4.ext (aH.trans aI),H6,V⟩;have aY:m.size<=ob:=by have:=X3.size;omega
 have am:∀aa:Nat,Int.toNat (aa:Int)=aa:=λaa=>V;have a8:s.az.length<=41:=V;have rb:∀e,0<=fy s.heap e/\fy s.heap e<=3*s.heap.length:=λe=>⟨ur _ _,JH _ _ λq C=>(az.cells q C).fl⟩;refine eU (n:=s.az.length) V (λj M=>II ob H.size T M/\Ng M ob H.size s.heap.length (λe=>fy s.heap e+gN (s.az.take j) e) (λe=>holds (s.az.take j) e)/\∀(r:Nat)(o:aX),r<j->s.az[r]? =some o->RQ a s r o)
  ⟨II.aB _ _ _,by simpa[gN,holds]using T6,λr o N=>absurd N (jC _)⟩ ?_
 rintro j Y a7 μ i ⟨t7,Q,an⟩ a3
 have x7:J P Y:=t7.Gk x6 V V;have R:=x2.trans x7;have bc:∀y∈[m1.size,m.size],y<Y.size:=λy K=>x7.lt (hl y K);have z7:=x7.size;have bd:=Q.aR.lt;have bb:=Q.bo.lt;rw[am];refine dit (λG=>?_) λG=>?_
 ·obtain⟨o,t⟩:=ag (l:=s.az) (k:=j) V;have ay:=ar t;obtain⟨a5,a4,ae,hr,ho,X,g0,g1,g2,g3,g4,g5⟩:=S.az.E t;refine⟨V,V,_,R.af g0,_,R.af g1,_,R.af g2,a5,R.af g3,a4,R.af g4,ae,R.af g5,?_⟩;intro Z m9;have W:J Y m9:=((J.aB Y).aK _).ai (ad _) _ _;have s9:m9.size=Y.size+1:=by simp[m9,Z,av]
  clear_value m9;have X9:=R.trans W;have l9:∀y∈[Y.size,m1.size,m.size],y<m9.size:=bJ;refine(Dr (aT.ext X9) (hr.ext X9) (ho.ext X9) (X.ext X9)).aI (J.aB _) l9 λaK x ao F _=>⟨aK,rfl,λA=>u ((x7.trans W).trans F) λi=>nb ao A (i.w t).v,λA=>?_⟩;have hV:=yb ao A;have U:=(x7.trans W).trans F;have ah:=x2.trans U;refine⟨λM=>x=M/\VZ s.az j o,?_,?_⟩
  ·have aA:(cW ((j:Int) -1)=((j -1:Nat):Int))\/j=0:=by
    rcases jT j with f|f
    ·exact Or.inr f
    ·exact Or.inl (by rw[aQ V V];omega)
   have jW:0<j->((decide (o.dst<(0:Int)))=true->∃B:Bool,vb false=.bool B/\(B=true<->dh a s)/\J m x)/\((decide (o.dst<(0:Int)))=false->
    (0:Int)<=(cW ((j:Int) -(1:Int)))/\(cW ((j:Int) -(1:Int)))<(b.len:Int)/\
    ∃ab:O,af x b.F (b.off+Int.toNat (cW ((j:Int) -(1:Int)))*6+4)=some (O.v ab)/\
    ((decide (o.dst>=(ab.len:Int)))=true->∃B:Bool,vb false=.bool B/\(B=true<->dh a s)/\J m x)/\
    ((decide (o.dst>=(ab.len:Int)))=false->(0:Int)<=(cW ((j:Int) -(1:Int)))/\(cW ((j:Int) -(1:Int)))<(b.len:Int)/\
    ∃v:O,af x b.F (b.off+Int.toNat (cW ((j:Int) -(1:Int)))*6+4)=some (O.v v)/\
    (0:Int)<=o.dst/\o.dst<(v.len:Int)/\∃al:Int,af x v.F (v.off+Int.toNat o.dst*1)=some (vi al)/\
    ((al !=(0:Int))=true->∃B:Bool,vb false=.bool B/\(B=true<->dh a s)/\J m x)/\((al !=(0:Int))=false->x=x/\VZ s.az j o))):=λaM=>by
    have e1:=aA.resolve_right V
    rw[e1,am]
    obtain⟨r,rfl⟩:∃r,j=r+1:=⟨j -1,V⟩
    have ej:r+1 -1=r:=V
    rw[ej]
    obtain⟨pf,al⟩:=ag (l:=s.az) (k:=r) V
    obtain⟨pr,po,pe,aP,ap,aJ,y0,y1,y2,y3,y4,y5⟩:=S.az.E al
    have aL:=ap.len
    have ab:zN s.az (r+1)=some pf:=al
    refine⟨λf=>u U λi=>?_,λf=>⟨V,V,po,ah.af y4,λh=>u U λi=>?_,λh=>⟨V,V,po,ah.af y4,by simpa using f,by simp at h;omega,E pf.aR o.dst,?_,λv=>u U λi=>?_,λv=>⟨rfl,⟨λL=>(by rw[ab]at L;cases L),λaF hq=>?_⟩⟩⟩⟩⟩
    ·have:=((i.w t).dst.2 pf ab).1;simp at f;omega
    ·have:=((i.w t).dst.2 pf ab).2.1;simp at h;omega
    ·simp at f h
     exact(ap.ext ah).pu f V
    ·have:=((i.w t).dst.2 pf ab).2.2;simp at v;exact v this
    ·rw[ab]at hq;simp at hq;subst hq
     simp at f h v;exact⟨f,V,v⟩
   refine⟨λf=>⟨λh=>u U λaB=>?_,λh=>⟨λv=>by simp at f v;omega,λv=>⟨rfl,⟨λ_=>by simpa using h,λaF hq=>?_⟩⟩⟩⟩,λf=>⟨λh=>jW (by simp at h;omega),λh=>by simp at f h;omega⟩⟩
   ·simp at f;subst f;have:=(aB.w t).dst.1 rfl;simp at h;exact h this
   ·simp at f;subst f;simp[zN]at hq
  ·rintro _ ⟨rfl,hD⟩;have aU:=ac.lr o ay;have v1:=hV.lr;have v2:=hV.lo;have v3:=hV.lh;have uG:=F.size;have aJ:Ng x ob H.size s.heap.length (λe=>fy s.heap e+gN (s.az.take j) e) (λe=>holds (s.az.take j) e):=⟨Q.aR.ext (W.trans F),Q.bo.ext (W.trans F),Q.ne⟩;have aS:∀e,0<=fy s.heap e+gN (s.az.take j) e/\fy s.heap e+gN (s.az.take j) e<=1000000000000000:=λe=>by
    have q1:=rb e;have q2:=Q1 (a:=s.az.take j) (n:=10000000) (k:=999999) V (λab v=>⟨(ac.lr ab (fR v)).2.1,by
     obtain⟨r,N⟩:=List.mem_iff_getElem?.1 v;have al:r<j:=by have:=ax N;simp at this;omega
     rw[dC al]at N;exact(an r ab al N).v.aR⟩) e
    have q3:(s.az.take j).length<=41:=bJ;omega
   have aP:∀e,0<=holds (s.az.take j) e/\holds (s.az.take j) e<=1000000000:=λe=>by
    have q2:=OW (a:=s.az.take j) (n:=10000000) (λab v=>(ac.lr ab (fR v)).2.2) e;have q3:(s.az.take j).length<=41:=bJ;have q4:=zr (s.az.take j) e;omega
   refine(LN (i:=m) ah S.heap hr ho X aY V aJ (ac.az o ay) V ⟨V,V,aU.2.1⟩ hV.aR aS aP).mono ?_;rintro _ aA ⟨aL,rfl,ap,aM,aB⟩;have aF:II ob H.size T aA:=(t7.ext (W.trans F)).trans aB;have a6:J P aA:=aF.Gk x6 V V;refine⟨λy K=>aB.same y (F.lt (l9 y K)) (by simp at K;omega) (by simp at K;omega),aL,rfl,λf=>u a6 λi=>nb ap f (i.w t).YR,λf=>a3 V _ ⟨aF,?_,λr ab N v=>?_⟩⟩
   ·have al:=aM (by simpa using f);refine⟨?_,?_,al.ne⟩
    ·rw[jA (g:=λe=>fy s.heap e+gN (s.az.take j) e+dj o.u o.aR e)]
     ·exact al.aR
     ·intro y K;rw[Rw t];omega
    ·rw[jA (g:=λe=>holds (s.az.take j) e+eL o.bo e)]
     ·exact al.bo
     ·intro y K;rw[Qd t]
   ·rcases be r j with h|h
    ·exact an r ab h v
    ·have:r=j:=V;subst this;rw[t]at v;simp at v;subst v;exact⟨hV,hD,yb ap f⟩
 rw[cN V]at Q;have hW:∀(r:Nat)(o:aX),s.az[r]? =some o->RQ a s r o:=λr o t=>an r o (by have:=ax t;omega) t;refine eU (n:=s.heap.length) V (λj M=>J Y M/\∀(e:Nat)(q:bX),e<j->s.heap[e]? =some q->(0<q.aS->q.aS=fy s.heap e+gN s.az e)/\(q.aS<0->holds s.az e=1)) ⟨J.aB _,λe q ha=>absurd ha (jC _)⟩ ?_;rintro v Z I2 μ2 ay ⟨x8,al⟩ ap;have X8:=R.trans x8;rw[am];refine dit (λA=>?_) λA=>?_
 ·have ah:v<s.heap.length:=V;obtain⟨q,ab⟩:=ag ah;obtain⟨o,_,g0,g1,g2⟩:=S.heap.E ab;refine⟨λM=>J Z M/\(0<q.aS->q.aS=fy s.heap v+gN s.az v)/\(q.aS<0->holds s.az v=1),?_,?_⟩
  ·refine⟨V,V,_,X8.af g0,_,X8.af g1,o,X8.af g2,?_⟩;intro m9 x;have F:J Z x:=((J.aB Z).aK _).ai (ad _) _ _;clear_value x;have U:=(x7.trans x8).trans F;have go:=EB (Q.aR.ext (x8.trans F)) ah;have gh:=EB (Q.bo.ext (x8.trans F)) ah;simp -zeta only[O.iE,O.jm,O.ta,cC,gX];have bo:(0<q.aS->q.aS=fy s.heap v+gN s.az v)->((decide (q.aS<(0:Int)))=true->(0:Int)<=v/\(v:Int)<(s.heap.length:Int)/\∃ao:Int,af x H.size v=some (vi ao)/\
    ((ao !=(1:Int))=true->∃B:Bool,vb false=.bool B/\(B=true<->dh a s)/\J m x)/\((ao !=(1:Int))=false->J Z x/\(0<q.aS->q.aS=fy s.heap v+gN s.az v)/\(q.aS<0->holds s.az v=1)))/\
    ((decide (q.aS<(0:Int)))=false->J Z x/\(0<q.aS->q.aS=fy s.heap v+gN s.az v)/\(q.aS<0->holds s.az v=1)):=λC=>
    ⟨λf=>⟨V,V,_,gh,λh=>u U λi=>by have:=i.bo.kj v q ab (by simpa using f);simp at h;exact h this,λh=>⟨F,C,λ_=>by simpa using h⟩⟩,λf=>⟨F,C,λh=>by simp at f;omega⟩⟩
   refine⟨λf=>⟨V,V,_,go,λh=>u U λi=>?_,λh=>bo λ_=>by simpa using h⟩,λf=>bo λh=>by simp at f;omega⟩;have:=i.SC v q ab (by simpa using f);simp at h;exact h this
  ·rintro m9 ⟨W,x,F⟩;refine ap V _ ⟨x8.trans W,λe ae ha X=>?_⟩;rcases be e v with h|h
   ·exact al e ae h X
   ·have:e=v:=V;subst this;rw[ab]at X;simp at X;subst X;exact⟨x,F⟩
 ·refine jG (Qx ⟨aZ,aj,ai,hv,a2,aV,aN,aO,a0,az,λr o t=>(hW r o t).ok,⟨λo t h x=>?_,λU q C L=>(al U q (by have:=ax C;omega) C).2 L,λU q C L=>?_⟩,λe q C c=>(al e q (by have:=ax C;omega) C).1 c⟩) X8
  ·obtain⟨r,N⟩:=G8 t;by_cases F:h=0
   ·exact Or.inl F
   ·obtain⟨z,q,w,_⟩:=(hW r o N).YR.bo h x F;exact Or.inr ⟨z,ax w⟩
  ·refine Kf λo t h x ae=>?_;obtain⟨r,N⟩:=G8 t;obtain⟨z,F,w,G⟩:=(hW r o N).YR.bo h x V;rw[ae,mO,C]at w;simp at w;subst w;omega
def Dm(k:eu m d p a)(u:gH m aW c b s)(t:Nb s):dJ cw 17 [.agg #[O.v d,O.v p],Tz s aW c b] m (dh a s):=by
 apply yh;simp -zeta only[aD,aC];intro i e;have f:J m e:=((J.aB m).aK _).aK _;have v:i.size=m.size+1:=by simp[i]
 have z:e.size=m.size+2:=by simp[e,v]
 clear_value e;have l:∀n∈[i.size,m.size],n<e.size:=bJ;refine(ou (k.ext f)).aI (J.aB _) l λo x j g _=>⟨o,rfl,λh=>?_,λh=>cK (λq=>fb j h q.fe) (f.trans g)⟩;refine(Dw (k.ext (f.trans g)) (j.1 h) (u.ext (f.trans g)) t).aI g l λq y r A w=>⟨q,rfl,ft r (f.trans w)⟩
end
end
end Go.Proofs.YtgnjacfobdjeeaaGreat
section
namespace Go.Vc
def fN.kv{m:I}{b o:Nat}{l r:List Ce}(h:fN m b o l)(k:fN m b (o+l.length) r):fN m b o (l++r):=λi d a=>by
 rcases be i l.length with c|c
 ·rw[aw c]at a;exact h i d a
 ·rw[aG c]at a;have:=k _ d a;rwa[show o+l.length+(i -l.length)=o+i by omega]at this
def eH.SZ{α:Type}{m:I}{e:Nat}{R:List Ce->α->Prop}{s:O}{d:List α}(j:eH m e R s d)(o:∀f x,R f x->f.length=e):∃a,gD e R a d/\fN m s.F s.off a.flatten:=by
 have:∀b,b<=d.length->∃a,gD e R a (d.take b)/\fN m s.F s.off a.flatten:=by
  intro b;induction b with
  |zero=>intro _;exact⟨[],by simpa using gD.nil e R,λi g c=>by simp at c⟩
  |succ b q=>
   intro r;obtain⟨a,c,g⟩:=q V;obtain⟨x,i⟩:=ag (l:=d) (k:=b) V;obtain⟨f,h,n⟩:=j.iP b x i;refine⟨a++[f],by rw[bn i];exact c.yy (o f x h) h,?_⟩;rw[qB];refine g.kv ?_;have p:a.flatten.length=b*e:=by rw[cr c.size,c.len,fY,iO V]
   rw[p];simpa using n
 obtain⟨a,c,g⟩:=this d.length (ad _);rw[eZ]at c;exact⟨a,c,g⟩
end Go.Vc
namespace Go.Proofs.YtgnjacfobdjeeaaGreat
open Go.Vc
variable{m:I}{s:O}{d:Nat->Nat}
def gG.KE{a:I}{l:List Ce}{e n:Nat}(f:gG m a e n s l)(j:J m a)(i:∀b,m.size<=b->d b=0)(k:Nat):∃c,dv (λ_=>False) d m c a/\gY c a e n k s l/\∀b,c b=d b\/c b=k:=by
 rcases f.E with h|⟨b,g,tail,h,h2,h3,h4,h5⟩
 ·exact⟨d,dv.eN _ j i,gY.fV f λo=>absurd h o,λb=>Or.inl rfl⟩
 ·refine⟨pT d b k,dv.pT j i h2 h3.lt k,gY.fV f λ_=>by rw[h];exact gJ _ _ _,λg=>?_⟩;by_cases e:g=b
  ·rw[e];exact Or.inr (gJ _ _ _)
  ·exact Or.inl (eM e)
structure Y3(N:Nat)(d:Nat->Nat)(m:I)(r:O)(h:List bX)(css0 css:List (List Ce))(k:Nat):Prop where
 pS:gY d m nh 3 3 r css.flatten
 len:css.length=h.length
 size:∀cs∈css,cs.length=3
 done:∀(j:Nat)(cs:List Ce)(c:bX),j<k->css[j]? =some cs->h[j]? =some c->xG N d m cs c
 jW:∀j,k<=j->css[j]? =css0[j]?
 sep:∀(i j:Nat)(ci cj:List Ce)(a b:O),i<k->j<k->css[i]? =some ci->css[j]? =some cj->ci[2]? =some (.s a)->cj[2]? =some (.s b)->i≠j->a.len≠0->b.len≠0->a.F≠b.F
def zV{a:List (List Ce)}{n:Nat}(d:s.len=n)(g:a.length=n)(k:∀b∈a,b.length=3)(j:fN m s.F s.off a.flatten)(t:n<=1000000000):
 aO cw 132 [O.v s] m λv c=>∃r,v=O.v r/\gG m c nh 3 r a.flatten/\J m c:=by
 apply mQ
 refine⟨λh=>?_,λh=>?_⟩
 ·cases s with
  |nil=>simp at d;have:a=[]:=List.length_eq_zero_iff.1 V;subst this;exact⟨.nil,rfl,gG.nil _ _ _ _,J.aB _⟩
  |mk b o f e=>simp at h
  |zn b o e=>simp at h
 ·intro e
  have b:J m e:=(J.aB m).aK _
  have i:gG m e nh 3 (.mk m.size 0 0 0) []:=gG.new (J.aB m) nh 3 [] 0 D
  refine gG.append (c:=[.i 0,.i 0,.s .nil]) (i:=a.flatten) i b (by rw[cr k,g,d];rfl) (b.iP j) bJ λr c b f l o p q=>⟨r,rfl,by simpa using b,f⟩
def Fb{R:Nat}{hp:O}{u:List bX}(hn:∀b,m.size<=b->d b=0)(h3:∀b,b<m.size->d b≠3)(hh:dN m hp u)(hN:R<=m.size)(aA:∀c∈u,c.aL.length<=3)(aE:u.length<=1000000000):
 aO cw 78 [O.v hp] m λaH m'=>∃aa s,aH=O.v s/\dT R aa m' s u/\dv (λa=>a=3) d m aa m'/\J m m':=by
 apply zA
 simp -zeta only[aD,aC]
 have hl:=hh.len
 obtain⟨ab,w,jg⟩:=hh.SZ (λB aq⟨ah,f,_⟩=>by rw[f];rfl)
 refine(zV hl w.len w.size jg aE).mono ?_
 rintro _ m1 ⟨A,rfl,or,x1⟩
 obtain⟨h,C1,A1,_⟩:=gG.KE or x1 hn 3
 have aN:A.len=u.length:=by have:=A1.len;rw[cr w.size,w.len]at this;omega
 refine⟨A,rfl,?_⟩
 have aG:∀{aa:Nat->Nat}{M:I},dv (λa=>a=3) d m aa M->J m M:=λc=>⟨c.size,λb p=>c.dW b p (h3 b p)⟩
 refine eU (n:=u.length) V (λa M=>∃i,Y3 R h M A u ab i a/\dv (λa=>a=3) d m h M) ⟨ab,⟨A1,w.len,w.size,λj _ _ r=>absurd r (jC _),λ_ _=>rfl,λF _ _ _ _ _ H=>absurd H (jC _)⟩,C1.mono λ_=>False.elim⟩ ?_
 rintro a K aJ μ hk ⟨i,e,x⟩ aF
 have X2:=aG x
 have en:Int.toNat (a:Int)=a:=V
 rw[en]
 refine dit (λW=>?_) λW=>?_
 ·have am:a<u.length:=V
  obtain⟨c,Y⟩:=ag am
  obtain⟨ah,hf,g0,g1,g2⟩:=(dN.ext X2 hh).E Y
  have aM:=aA c (ar Y)
  refine⟨V,V,c.aS,g0,c.jQ,g1,ah,g2,?_⟩
  intro m3 L
  have x4:J K L:=((J.aB K).aK _).ai (ad _) _ _
  have s4:L.size=K.size+1:=by simp[L,m3,av]
  clear_value L
  refine(eF (hf.ext x4) V).mono ?_
  rintro _ N ⟨q,rfl,oq,x5⟩
  have aI:=x4.trans x5
  have Q:dv (λ_=>False) h K h N:=dv.eN _ aI x.new
  have A5:=e.pS.eV Q id
  have aK:=e.len
  have ak:a*3+2+1<=i.flatten.length:=by rw[cr e.size];have:(a+1)*3<=i.length*3:=db _ V;omega
  obtain⟨B,Z⟩:=ag (l:=i) (k:=a) V
  obtain⟨af,aj⟩:=ag (l:=ab) (k:=a) (by rw[w.len];exact am)
  have au:B=af:=by have:=e.jW a (ad _);rw[Z,aj]at this;simpa using this
  obtain⟨f0,aw,aL⟩:=w.dt a af c aj Y
  rw[au,aw]at Z
  have az:A.cap≠0:=λf=>by have:=A1.le;omega
  have rb:=A5.F az
  have c6:∀ao,dv (λa=>a=3) h N h (ai N A.F (A.off+(a*3+2)) ao):=λao=>dv.ai Q.new rb.2 _ _
  have ay:h K.size=0:=x.new _ (ad _)
  refine⟨x5.dm bJ,q,rfl,V,V,?_⟩
  rw[df]
  refine⟨A5.wr ak,?_⟩
  intro m6
  have P:=c6 [.s q]
  have ac:c.aL≠[]->h q.F=0/\L.size<=q.F:=λz=>by
   have:=(FB.fV oq z).1;exact⟨x.new _ V,this⟩
  have iq:ap N q c.aL:=ap.fV oq V
  have L6:xG R h m6 [.i c.aS,.i c.jQ,.s q] c:=xG.eV P bh _ _ ⟨q,rfl,iq,λz=>⟨(ac z).1,by have:=(ac z).2;have:=x.size;omega,(FB.fV oq z).2⟩⟩
  have ae:(i.set a [.i c.aS,.i c.jQ,.s q])[a]? =some [.i c.aS,.i c.jQ,.s q]:=dE (ax Z)
  refine⟨(P.mono λa hk=>by omega:To h N h m6).dm (by simp;exact⟨by have:=x5.size;omega,ay⟩),aF V _ ⟨i.set a [.i c.aS,.i c.jQ,.s q],⟨?_,by simpa using e.len,λc' y=>?_,λj c' U r y E=>?_,λj r=>?_,?_⟩,(x.trans (Q.mono λ_=>False.elim)).trans P⟩⟩
  ·have:=A5.set (o:=a*3+2) (new:=[.s q]) ak
   rw[Bq i a _ 2 [.s q] e.size Z D]at this
   exact this
  ·rcases di y with g|g
   ·exact e.size c' g
   ·rw[g];rfl
  ·rcases be j a with g|g
   ·rw[cy V]at y
    exact xG.eV P bh _ _ (xG.eV Q id _ _ (e.done j c' U g y E))
   ·have:j=a:=V
    subst this
    rw[ae]at y
    simp at y;subst y
    rw[Y]at E;simp at E;subst E;exact L6
  ·rw[cy V];exact e.jW j V
  ·have an:∀(j:Nat)(t:List Ce)(b:O),j<a->i[j]? =some t->t[2]? =some (.s b)->q.len≠0->b.len≠0->q.F≠b.F:=λj t b r v p g G=>by
    obtain⟨U,E⟩:=ag (l:=u) (k:=j) V;obtain⟨b',f,ib,_⟩:=e.done j t U r v E;rw[f]at p;simp at p;subst p;have z:U.aL≠[]:=λf=>by have:=ib.len;rw[f]at this;simp at this;exact G this
    have aB:c.aL≠[]:=λf=>by have:=iq.len;rw[f]at this;simp at this;exact g this
    have:=iB ib z;have:=(ac aB).2;omega
   intro F j T t S b H r C v X p al g G
   by_cases ik:F=a
   ·subst ik
    rw[ae]at C
    rw[cy al]at v
    simp at C;subst C;simp at X;subst X
    exact an j t b V v p g G
   ·rw[cy (λf=>ik f.symm)]at C
    by_cases jk:j=a
    ·subst jk
     rw[ae]at v
     simp at v;subst v;simp at p;subst p
     exact kd (an F T S V C X G g)
    ·rw[cy (λf=>jk f.symm)]at v
     exact e.sep F j T t S b V V C v X p al g G
 ·have f:∀{j:Nat}{B:List Ce},i[j]? =some B->j<a:=λr=>by have:=ax r;have:=e.len;omega
  exact⟨h,A,rfl,⟨i,e.pS,⟨e.len,e.size,λj B aq W g=>e.done j B aq (f W) W g⟩,λF j T t S b H r=>e.sep F j T t S b (f H) (f r) H r⟩,x,X2⟩
end Go.Proofs.YtgnjacfobdjeeaaGreat
end
namespace Go.Proofs.YtgnjacfobdjeeaaGreat
open Go.Vc
section
variable{a g:Nat->Nat}{m h e:I}{s:St}{d:List (List Ce)}
structure Bs(e:I)(a:Nat->Nat)(m:I):Prop where
 bY:J e m
 jK:∀b,b<e.size->a b=0
 new:∀b,m.size<=b->a b=0
structure pR(e:I)(a:Nat->Nat)(m:I)(aW hp fr:O)(s:St):Prop where
 bs:Bs e a m
 aW:gY a m aE 1 2 aW (s.aW.map Ce.i)
 heap:dT e.size a m hp s.heap
 az:oU a m fr s.az
structure GF(s:St):Prop where
 aW:s.aW.length<=900000000
 fl:∀c∈s.heap,c.aL.length<=3
 heap:s.heap.length<=900000000
 depth:s.az.length<=1000
 az:∀f∈s.az,f.u.length<=1000000/\f.aR.length<=1000000/\f.bo.length<=1000000
def Xb(e:I)(a:Nat->Nat)(m:I)(s:St)(v:Value)(h:I):Prop:=∃g aW c b,v=Tz s aW c b/\pR e g h aW c b s/\dv (λ_=>False) a m g h
abbrev Wx:=dv (λk=>2<=k)
def Wx.none(c:Wx a m g h)(e:∀b,b<m.size->a b<=1):dv (λ_=>False) a m g h:=⟨c.size,c.iW,c.new,λb d _=>c.dW b d (by have:=e b d;omega)⟩
def dv.Gk(b:dv (λ_=>False) a m g h):J m h:=⟨b.size,λc d=>b.dW c d id⟩
def Bs.eV(B:Bs e a m)(b:dv (λ_=>False) a m g h):Bs e g h:=⟨B.bY.trans b.Gk,λc d=>by rw[b.iW c (B.bY.lt d)];exact B.jK c d,b.new⟩
structure Wy(e:I)(a:Nat->Nat)(m:I)(g:Nat->Nat)(M:I)(q r:O)(s:St):Prop where
 eV:Wx a m g M
 aW:gY g M aE 1 2 q (s.aW.map Ce.i)
 heap:dT e.size g M r s.heap
def Wy.mB{i j:Nat->Nat}{f g:I}{q r:O}(h:Wy e a m i f q r s){p:Nat->Prop}(d:dv p i f j g)(c:∀k,p k->4<=k):Wy e a m j g q r s:=
 ⟨h.eV.trans (d.mono λk b=>by have:=c k b;omega),h.aW.eV d λb=>by have:=c _ b;omega,h.heap.eV d (λb=>by have:=c _ b;omega) λb=>by have:=c _ b;omega⟩
def yx{s:O}{n:Nat}(c:s.len=n)(g:d.length=n)(k:∀a∈d,a.length=6)(j:fN m s.F s.off d.flatten)(t:n<=1000000000):
 aO cw 79 [O.v s] m λv h=>∃r,v=O.v r/\gG m h dB 6 r d.flatten/\J m h:=by
 apply mz
 refine⟨λb=>?_,λb=>?_⟩
 ·cases s with
  |nil=>simp at c;have:d=[]:=List.length_eq_zero_iff.1 V;subst this;exact⟨.nil,rfl,gG.nil _ _ _ _,J.aB _⟩
  |mk a o f e=>simp at b
  |zn a o e=>simp at b
 ·intro e
  have a:J m e:=(J.aB m).aK _
  have i:gG m e dB 6 (.mk m.size 0 0 0) []:=gG.new (J.aB m) dB 6 [] 0 D
  refine gG.append (c:=[.i 0,.i 0,.i 0,.s .nil,.s .nil,.s .nil]) (i:=d.flatten) i a (by rw[cr k,g,c];rfl) (a.iP j) bJ λr h a f l o p q=>⟨r,rfl,by simpa using a,f⟩
structure Y1(a:Nat->Nat)(m:I)(r:O)(fs:List aX)(css0 d:List (List Ce))(k:Nat):Prop where
 pS:gY a m dB 6 4 r d.flatten
 len:d.length=fs.length
 size:∀cs∈d,cs.length=6
 done:∀(j:Nat)(cs:List Ce)(f:aX),j<k->d[j]? =some cs->fs[j]? =some f->RO a m j cs f
 jW:∀j,k<=j->d[j]? =css0[j]?
def Qq{k o:Nat}{a:List Ce}{x:Ce}(e:∀a∈d,a.length=6)(b:d[k]? =some a)(g:o<6):iX d.flatten (k*6+o) [x]=(d.set k (a.set o x)).flatten/\(∀c∈d.set k (a.set o x),c.length=6)/\(d.set k (a.set o x))[k]? =some (a.set o x):=by
 refine⟨Bq d k a o [x] e b bJ,λc f=>?_,dE (ax b)⟩;rcases di f with h|h
 ·exact e c h
 ·rw[h,dZ];exact e a (ar b)
def Dq{aW hp z:O}(am:Bs e a m)(aA:∀c,a c<=1)(W:gH m aW hp z s)(ae:GF s):aO cw 46 [Tz s aW hp z] m (Xb e a m s):=by
 apply yl;simp -zeta only[aD,aC];intro h C;have s1:h.size=m.size+1:=by simp[h]
 have s2:C.size=m.size+2:=by simp[C,s1]
 have x2:J m C:=((J.aB m).aK _).aK _;obtain⟨H,ap⟩:∃H,H=pT (pT a m.size 8) h.size 8:=⟨_,rfl⟩;have C2:dv (λ_=>False) a m H C:=by
  rw[ap];exact(dv.pT (m':=h) (k:=8) ((J.aB m).aK _) am.new (ad _) V).trans (dv.pT (m':=C) (k:=8) ((J.aB h).aK _) (λc hb=>by rw[eM V];exact am.new c V) (ad _) V)
 have r0:H m.size=8/\H h.size=8:=by rw[ap];exact⟨by rw[eM V,gJ],gJ _ _ _⟩
 have a2:∀c,H c=8\/H c<=1:=λc=>by
  rw[ap];unfold pT;split
  ·exact Or.inl rfl
  ·split
   ·exact Or.inl rfl
   ·exact Or.inr (aA c)
 have aZ:cF C h.size iz [.i 0,.i 0,.i 0,.i 0,.s .nil,.s .nil,.s .nil]:=cF.push h _ _;have br:cF C m.size iz [.i s.bU,.i s.value,.i s.bq,.i s.bA,.s aW,.s hp,.s z]:=(cF.push m _ _).ext (J.push h _);clear_value C;clear ap;have hN:=am.bY.size;have bp:=ae.aW;have bo:=ae.heap;have bk:=ae.depth;refine(eF (W.aW.ext x2) V).mono ?_;rintro _ m3 ⟨aj,rfl,oq,K⟩;obtain⟨ba,C3,A3,a3⟩:=gG.KE oq K C2.new 2;have z3:=K.size;have kp:∀{M M':I},J M M'->m.size<M.size->∀i,af M' m.size i=af M m.size i:=λhx ac i=>aN (hx.same _ ac) i;have X3:=x2.trans K;refine⟨K.dm bJ,aj,rfl,kp K V _,kp K V _,(Fb (R:=e.size) C3.new (λc _=>by have:=a3 c;have:=a2 c;omega) (W.ext X3).heap V ae.fl V).mono ?_⟩;rintro _ m4 ⟨bb,ak,rfl,H4,C4,x4⟩;have z4:=x4.size;have X4:=X3.trans x4;have K4:Wy e a m bb m4 aj ak s:=⟨((C2.trans C3).mono λ_=>False.elim:Wx a m ba m3).trans (C4.mono λb T=>V),A3.eV C4 bh,H4⟩;have aY:=W.az.len;obtain⟨ao,t,jg⟩:=(W.ext X4).az.SZ (λS al⟨_,_,_,v,_⟩=>by rw[v];rfl);refine⟨x4.dm bJ,ak,rfl,kp x4 V _,(yx aY t.len t.size jg V).mono ?_⟩;rintro _ m5 ⟨j,rfl,of,x5⟩;obtain⟨w,P,A5,bs⟩:=gG.KE of x5 C4.new 4;have z5:=x5.size;have K5:=K4.mB P λ_=>False.elim;refine⟨x5.dm bJ,j,rfl,?_⟩;intro m6 m7 G;have r5:w m.size=8/\w h.size=8:=⟨by rw[P.iW _ V,C4.iW _ V,C3.iW _ V];exact r0.1,by rw[P.iW _ V,C4.iW _ V,C3.iW _ V];exact r0.2⟩;have C8:dv (λb=>b=8) w m5 w G:=((dv.ai P.new (show(λb=>b=8) (w m.size)from r5.1) _ _).trans (dv.ai (by rw[av];exact P.new) (show(λb=>b=8) (w m.size)from r5.1) _ _)).trans (dv.ai (by rw[av,av];exact P.new) (show(λb=>b=8) (w m.size)from r5.1) _ _);have K8:Wy e a m w G aj ak s:=K5.mB C8 λb T=>V;have A8:gY w G dB 6 4 j ao.flatten:=A5.eV C8 bh;have a0:cF G h.size iz [.i 0,.i 0,.i 0,.i 0,.s .nil,.s .nil,.s .nil]:=((aZ.ext (K.trans (x4.trans x5))).congr (by
  show(ai (ai (ai m5 m.size 4 _) m.size 5 _) m.size 6 _)[h.size]? =_;rw[bd _ _ _ _ V,bd _ _ _ _ V,bd _ _ _ _ V]))
 have s8:G.size=m5.size:=by simp[G,m7,m6,av]
 clear_value G;have bn:j.len=s.az.length:=by have:=A8.len;rw[cr t.size,t.len]at this;omega
 refine eU (n:=s.az.length) V (λb M=>∃g d,Wy e a m g M aj ak s/\Y1 g M j s.az ao d b/\m5.size<=M.size/\g m.size=8/\g h.size=8/\cF M h.size iz [.i 0,.i 0,.i 0,.i 0,.s .nil,.s .nil,.s .nil])
  ⟨w,ao,K8,⟨A8,t.len,t.size,λA _ _ hj=>absurd hj (jC _),λ_ _=>rfl⟩,V,r5.1,r5.2,a0⟩ ?_
 rintro b q bc μ T ⟨D,d,K9,f,z9,r9,aJ,a1⟩ a6
 have en:Int.toNat (b:Int)=b:=V;rw[en];have aR:∀{g:Nat->Nat}{M:I},Wx a m g M->J m M:=λaP=>(aP.none λc _=>aA c).Gk;refine dit (λh1=>?_) λh1=>?_
 ·have aI:b<s.az.length:=V;obtain⟨p,hf⟩:=ag aI;have bm:=ae.az p (ar hf);obtain⟨aQ,ab⟩:=ag (l:=ao) (k:=b) (by rw[t.len];exact aI);obtain⟨ra,oa,ha,e0,ir,io,ih⟩:=t.dt b aQ p ab hf;have aH:d[b]? =some [.i p.eP,.i p.pc,.i p.dst,.s ra,.s oa,.s ha]:=by rw[f.jW b (ad _),ab,e0]
  have U:∀(i:Nat)(al:Ce),[Ce.i p.eP,.i p.pc,.i p.dst,.s ra,.s oa,.s ha][i]? =some al->af q j.F (j.off+b*6+i)=some al.v:=λi al hx=>by
   have:=f.pS.iP (b*6+i) al (fK f.size aH hx);rwa[<-df]at this
  obtain⟨r',o',h',jr,jo,jh,_,_,_,y3,y4,y5⟩:=W.az.E hf;have X9:=aR K9.eV;have er:r'=ra/\o'=oa/\h'=ha:=by
   obtain⟨bg,⟨bf,b1,c1,e1,_⟩,bq⟩:=W.az.iP b p hf;have g3:af m4 z.F (z.off+b*6+3)=some (O.v ra):=by
    have:=jg (b*6+3) (.s ra) (fK t.size ab (by rw[e0];rfl));rwa[<-df]at this
   have g4:af m4 z.F (z.off+b*6+4)=some (O.v oa):=by
    have:=jg (b*6+4) (.s oa) (fK t.size ab (by rw[e0];rfl));rwa[<-df]at this
   have g5:af m4 z.F (z.off+b*6+5)=some (O.v ha):=by
    have:=jg (b*6+5) (.s ha) (fK t.size ab (by rw[e0];rfl));rwa[<-df]at this
   rw[X4.af y3]at g3;rw[X4.af y4]at g4;rw[X4.af y5]at g5;exact⟨O.Gp.1 (lV g3),O.Gp.1 (lV g4),O.Gp.1 (lV g5)⟩
  obtain⟨rfl,rfl,rfl⟩:=er;refine⟨V,V,_,U 0 _ rfl,_,U 1 _ rfl,_,U 2 _ rfl,_,U 3 _ rfl,_,U 4 _ rfl,_,U 5 _ rfl,?_⟩;intro aB X;have au:J q X:=((J.aB q).aK _).ai (ad _) _ _;have bx:X.size=q.size+1:=by simp[X,aB,av]
  clear_value X;have aG:dv (λ_=>False) D q (pT D q.size 8) X:=dv.pT au K9.eV.new (ad _) V 8;refine(eF (jr.ext (X9.trans au)) V).mono ?_;rintro _ bt ⟨qr,rfl,a7,y⟩;obtain⟨bv,az,aK,_⟩:=gG.KE a7 y aG.new (10+3*b);have bA:=y.size;have r:∀{M M':I}{c:Nat},J M M'->c<M.size->∀i,af M' c i=af M c i:=λhx ac i=>aN (hx.same _ ac) i;have bl:∀{M:I},X.size<=M.size->∀c∈[q.size,m.size,h.size],c<M.size:=λbi c hb=>by simp at hb;omega
  refine⟨y.dm (bl (ad _)),qr,rfl,r y V _,r y V _,r y V _,r y V _,r y V _,(eF (jo.ext (X9.trans (au.trans y))) V).mono ?_⟩;rintro _ bu ⟨qo,rfl,a8,E⟩;obtain⟨bw,an,aL,_⟩:=gG.KE a8 E az.new (11+3*b);have bB:=E.size;refine⟨E.dm (bl V),qo,rfl,r E V _,r E V _,r E V _,r E V _,(eF (jh.ext (X9.trans (au.trans (y.trans E)))) V).mono ?_⟩;rintro _ aE ⟨qh,rfl,a9,Z⟩;obtain⟨u,F,aM,_⟩:=gG.KE a9 Z an.new (12+3*b);have bC:=Z.size;have Q:dv (λ_=>False) D q u aE:=((aG.trans az).trans an).trans F;have R:u q.size=8/\u m.size=8/\u h.size=8:=⟨by rw[F.iW _ V,an.iW _ V,az.iW _ V];exact gJ _ _ _,by rw[Q.iW _ V];exact r9,by rw[Q.iW _ V];exact aJ⟩;have A9:=f.pS.eV Q id;have aX:j.cap≠0:=λv=>by have:=f.pS.le;omega
  have Y:=A9.F aX;have a_:j.F≠m.size/\j.F≠h.size/\j.F≠q.size:=⟨λv=>by have:=Y.2;rw[v,R.2.1]at this;omega,λv=>by have:=Y.2;rw[v,R.2.2]at this;omega,λv=>by have:=Y.2;rw[v,R.1]at this;omega⟩;have bj:=f.len;have Dj:∀B,B<6->b*6+B+1<=d.flatten.length:=λB ho=>by rw[cr f.size];have:(b+1)*6<=d.length*6:=db _ V;omega
  have sm:∀{M:I}(B:Nat)(ah:List Ce),eE [q.size,m.size,h.size] M (ai M j.F B ah):=λB ah c hb=>bd _ _ _ _ (by simp at hb;omega);have gg:∀{M:I}(B:Nat)(ah:List Ce)(i:Nat),af (ai M j.F B ah) m.size i=af M m.size i:=λB ah i=>aN (bd _ _ _ _ (λv=>a_.1 v.symm)) i;refine⟨Z.dm (bl V),qh,rfl,r Z V _,r Z V _,r Z V _,V,V,?_⟩;simp -zeta only[df];refine⟨A9.wr (Dj 3 bh),?_⟩;obtain⟨e1,f1,aT⟩:=Qq (x:=.s qr) (o:=3) f.size aH bh;have aw:=A9.set (o:=b*6+3) (new:=[.s qr]) (Dj 3 bh);rw[e1]at aw;intro a4;obtain⟨e2,f2,aU⟩:=Qq (x:=.s qo) (o:=4) f1 aT bh;have ay:=aw.set (o:=b*6+4) (new:=[.s qo]) (by have:=Dj 4 bh;rw[cr f.size]at this;rw[cr f1,dZ];exact this);rw[e2]at ay;refine⟨sm _ _,gg _ _ _,gg _ _ _,V,V,aw.wr (by have:=Dj 4 bh;rw[cr f.size]at this;rw[cr f1,dZ];exact this),?_⟩;intro a5;obtain⟨e3,f3,aV⟩:=Qq (x:=.s qh) (o:=5) f2 aU bh;have aF:=ay.set (o:=b*6+5) (new:=[.s qh]) (by have:=Dj 5 bh;rw[cr f.size]at this;rw[cr f2,dZ,dZ];exact this);rw[e3]at aF;refine⟨sm _ _,gg _ _ _,V,V,ay.wr (by have:=Dj 5 bh;rw[cr f.size]at this;rw[cr f2,dZ,dZ];exact this),?_⟩;intro aq;have L:dv (λb=>b=4) u aE u aq:=((dv.ai F.new (show(λb=>b=4) (u j.F)from Y.2) _ _).trans (dv.ai (by rw[av];exact F.new) (show(λb=>b=4) (u j.F)from Y.2) _ _)).trans (dv.ai (by rw[av,av];exact F.new) (show(λb=>b=4) (u j.F)from Y.2) _ _);have bz:aq.size=aE.size:=by simp[aq,a5,a4,av]
  have ug:RO u aq b [.i p.eP,.i p.pc,.i p.dst,.s qr,.s qo,.s qh] p:=⟨qr,qo,qh,rfl,(((aK.eV an id).eV F id).eV L V),(aL.eV F id).eV L V,aM.eV L V⟩;refine⟨sm _ _,a6 V _ ⟨u,_,(K9.mB Q λ_=>False.elim).mB L λb T=>V,⟨aF,by simp;exact f.len,f3,λA S aS hj aa hg=>?_,λA hj=>?_⟩,V,R.2.1,R.2.2,(a1.ext Q.Gk).congr (L.dW _ V (by rw[R.2.2];decide))⟩⟩
  ·rcases be A b with h5|h5
   ·rw[cy V,cy V,cy V]at aa;exact((f.done A S aS h5 aa hg).eV Q λ_ _ _=>id).eV L λb T _=>V
   ·have:A=b:=V;subst this;rw[aV]at aa;simp at aa;subst aa;rw[hf]at hg;simp at hg;subst hg;exact ug
  ·rw[cy V,cy V,cy V];exact f.jW A V
 ·intro aB;have u:dv (λb=>b=8) D q D aB:=dv.ai K9.eV.new (show(λb=>b=8) (D h.size)from aJ) _ _;have r:=K9.mB u λb T=>V;have ac:∀{A:Nat}{S:List Ce},d[A]? =some S->A<b:=λhj=>by have:=ax hj;have:=f.len;omega
  have y:oU D q j s.az:=⟨d,f.pS,f.len,f.size,λi S p h1 v=>f.done i S p (ac h1) h1 v⟩;have p:=r.eV.none λc _=>aA c;exact⟨D,aj,ak,j,rfl,⟨am.eV p,r.aW,r.heap,y.eV u λb T=>V⟩,p⟩
end
section
variable{e:Nat->Nat}{d:I}
abbrev z7:List Ce:=[.i 0,.i 0,.i 0,.i 0,.s .nil,.s .nil,.s .nil]
structure QD(m0:I)(ro:Nat->Nat)(m m2:I)(s:St)(ro':Nat->Nat)(M:I)(q r:Option O)(ob:Option Nat):Prop where
 eV:Wx ro m ro' M
 ext:J m2 M
 ZR:r=none->∀b,ro' b≠3
 box:∀b,m.size<=b->b<m2.size->ro' b=8
 aW:∀x,q=some x->gY ro' M aE 1 2 x (s.aW.map Ce.i)
 heap:∀x,r=some x->dT m0.size ro' M x s.heap
 ob:∀x,ob=some x->m2.size<=x/\ro' x=8/\cF M x iz z7
section
variable{h:I}{i:Nat->Nat}{m g:I}{s:St}{f:Nat->Nat}{M:I}{q r:Option O}{j:Option Nat}
def QD.iV(k:QD h i m g s f M q r j)(n:dv (λa=>a=3) f M e d)(p:J M d)(C:∀b,m.size<=b->b<g.size->e b=8){u o:Option O}{t:Option Nat}(z:r=none\/dv (λ_=>False) f M e d)(B:o=none->∀b,e b≠3)
 (w:∀x,u=some x->q=some x\/gY e d aE 1 2 x (s.aW.map Ce.i))(y:∀x,o=some x->r=some x\/dT h.size e d x s.heap)(A:∀x,t=some x->j=some x\/(g.size<=x/\e x=8/\cF d x iz z7)):QD h i m g s e d u o t:=
 ⟨k.eV.trans (n.mono λa c=>V),k.ext.trans p,B,C,λx c=>(w x c).elim (λa=>(k.aW x a).eV n bh) id,
  λx c=>(y x c).elim (λa=>z.elim (λl=>by rw[l]at a;cases a) λl=>(k.heap x a).eV l id id) id,
  λx c=>(A x c).elim (λa=>by
   obtain⟨v,b,l⟩:=k.ob x a;exact⟨v,by rw[n.iW _ l.lt];exact b,l.ext p⟩) id⟩
def QD.SI(a:QD h i m g s f M q r j){p:Nat->Prop}(l:dv p f M e d):∀b,m.size<=b->b<g.size->e b=8:=λb k c=>by rw[l.iW b (a.ext.lt c)];exact a.box b k c
def QD.c(b:QD h i m g s f M none r j){x:O}(n:gG M d aE 1 x (s.aW.map Ce.i))(k:J M d):∃e,QD h i m g s e d (some x) r j:=by
 obtain⟨e,C,A,l⟩:=gG.KE n k b.eV.new 2;exact⟨e,b.iV (C.mono λ_=>False.elim) k (b.SI C) (Or.inr C) (λa c=>by have:=l c;have:=b.ZR a c;omega) (λy a=>Or.inr (by simp at a;subst a;exact A)) (λy a=>Or.inl a) λy a=>Or.inl a⟩
def QD.a(a:QD h i m g s f M q r j)(b:J M d):QD h i m g s f d q r j:=
 have C:dv (λ_=>False) f M f d:=dv.eN _ b a.eV.new
 a.iV (C.mono λ_=>False.elim) b (a.SI C) (Or.inr C) a.ZR (λy e=>Or.inl e) (λy e=>Or.inl e) λy e=>Or.inl e
def QD.b(b:QD h i m g s f M q r none){d:I}(a:d=M.push (.cells (bG z7) iz)):∃e,QD h i m g s e d q r (some M.size):=by
 have l:J M d:=by rw[a];exact J.push _ _
 have C:dv (λ_=>False) f M (pT f M.size 8) d:=dv.pT l b.eV.new (ad _) (by rw[a];simp) 8;refine⟨_,b.iV (C.mono λ_=>False.elim) l (b.SI C) (Or.inr C) (λn c=>?_) (λy a=>Or.inl a) (λy a=>Or.inl a) λy j=>Or.inr ?_⟩
 ·by_cases k:c=M.size
  ·rw[k,gJ];decide
  ·rw[eM k];exact b.ZR n c
 ·simp at j;subst j;exact⟨b.ext.size,gJ _ _ _,by rw[a];exact cF.push _ _ _⟩
end
end
section
variable{n e:Nat}{m2 a M b:I}
def Lk:St:=⟨0,0,0,0,[],[],[]⟩
structure Za where
 s:St
 ok:Bool
open Classical in
noncomputable def ID (b:cH) (s:St) (a:Int):Za:=if dh b s/\0<=a/\a<=100000 then⟨aA b a.toNat s,true⟩else⟨Lk,false⟩
def dh.lE{j:cH}{s:St}(h:dh j s)(b:Sm n s)(o:n<=900000000):GF s:=by
 refine⟨by have:=b.aW;omega,λc e=>(h.heap.cell c e).fl,by have:=b.heap;omega,?_,λf g=>?_⟩
 ·have:=h.depth;have:=h.bq;have:=h.bA;omega
 ·have a:=h.az f g;obtain⟨p,_,i,d,_⟩:=a.Im h.fe;have k:=a.lr;have l:=a.lo;have m:=a.lh;rw[i]at k l m;have:=d.u;omega
def Nb.sm{s:St}(h:Nb s)(a:s.heap.length<=n)(b:s.aW.length<=n):Sm n s:=⟨a,b,λg c w d=>((h.az g c).1 w d).2⟩
section
variable{c:I}{d:Nat->Nat}{m:I}{aW g f:O}{s:St}
def pR.Fv(h:pR c d m aW g f s)(a:GF s):gH m aW g f s:=
 ⟨h.aW.mZ (by have:=a.aW;omega),h.heap.cells (by have:=a.heap;omega),h.az.Fv (by have:=a.depth;omega) a.az⟩
def pR.cO(h:pR c d m aW g f s)(k:J m m2){a:Nat}{b:List Ce}(j:m.size<=a)(i:cF m2 a e b):tJ c (pT d a 1) m2 a e b aW g f s.aW s.heap s.az:=by
 have C:dv (λ_=>False) d m (pT d a 1) m2:=dv.pT k h.bs.new j i.lt 1;have B:=h.bs.eV C;exact⟨B.bY,B.jK,B.new,i,gJ _ _ _,h.aW.eV C id,h.heap.eV C id id,h.az.eV C λ_ _=>id⟩
def pR.nil{c m:I}(a:J c m):pR c (λ_=>0) m .nil .nil .nil Lk:=
 ⟨⟨a,λ_ _=>rfl,λ_ _=>rfl⟩,⟨by simp[Lk],D,Or.inl rfl⟩,⟨[],⟨D,D,Or.inl rfl⟩,by simpa[Lk]using gD.nil _ _,WA.nil⟩,oU.none⟩
def tJ.Fv{h e:Nat}{a:List Ce}(L:tJ c d m h e a aW g f s.aW s.heap s.az)(b:GF s):gH m aW g f s:=
 pR.Fv (d:=d) ⟨⟨L.bY,L.jK,L.new⟩,L.aW,L.heap,L.az⟩ b
end
def V7(m:I)(x:Za)(v:Value)(c:I):Prop:=∃d aW b a,v=.tuple #[Tz x.s aW b a,vb x.ok]/\pR m d c aW b a x.s
def gY.up{c:Nat->Nat}{m f:I}{g k:Nat}{s:O}{l:List Ce}(h:gY c m e g k s l)(n:k≠0)(i:∀b,b<a.size->c b=0)(j:∀b,a.size<=b->b<m.size->f[b]? =m[b]?):gY c f e g k s l:=
 h.dW (λd=>j _ (vg λo=>n (by rw[<-(h.F d).2];exact i _ o)) (h.F d).1) λ_=>rfl
def pR.Qm{m:I}{r:Nat->Nat}{aW q o:O}{s:St}(h:pR a r M aW q o s)(D:m.size<=a.size)(E:M.size<=b.size)(d:∀c,a.size<=c->c<M.size->b[c]? =M[c]?)(B:J m b):pR m r b aW q o s:=by
 have f:=h.bs.jK;refine⟨⟨B,λc g=>f c V,λc g=>h.bs.new c V⟩,h.aW.up bh f d,?_,?_⟩
 ·obtain⟨i,t,u,v⟩:=h.heap;refine⟨i,t.up bh f d,u.mono λk C⟨j,x,l,n⟩=>⟨j,x,gL l λg=>d _ (n g).2.1 (iB l g),λg=>?_⟩,v⟩;obtain⟨y,z,w,tail,A,p⟩:=n g;exact⟨y,V,w,tail,A,p.congr (d _ z p.lt)⟩
 ·obtain⟨i,g⟩:=h.az;exact⟨i,g.pS.up bh f d,g.len,g.size,λw k j t u=>by
   obtain⟨y,x,v,e,l,n,p⟩:=g.dt w k j t u;exact⟨y,x,v,e,l.up V f d,n.up V f d,p.up V f d⟩⟩
def pR.box{m:I}{e:Nat->Nat}{aW c b:O}{s:St}(h:pR a e M aW c b s)(d:J m a){nb:Nat}(f:m.size<=nb)(i:nb<a.size)(o:Nat)(l:List Ce):pR m e (ai M nb o l) aW c b s:=
 h.Qm d.size (yY (av _ _ _ _).symm) (λg j _=>bd _ _ _ _ V) ((d.trans h.bs.bY).ai f _ _)
def pR.ext{e:I}{f:Nat->Nat}{aW d c:O}{s:St}(h:pR e f M aW d c s)(a:J M b):pR e f b aW d c s:=h.Qm (ad _) a.size (λg _ i=>a.same g i) (h.bs.bY.trans a)
def Bs.FA(m:I):Bs m (λ_=>0) m:=⟨J.aB _,λ_ _=>rfl,λ_ _=>rfl⟩
section
variable{m:I}{d p aW j i:O}{k:cH}{s:St}
def Oc{m:I}{a:Nat}(d:J m m2)(b:J m2 M)(c:m.size<=a){x:Za}(e:x=⟨Lk,false⟩)(l:List Ce):V7 m x (.tuple #[.agg #[vi (0:Int),vi (0:Int),vi (0:Int),vi (0:Int),O.v O.nil,O.v O.nil,O.v O.nil],vb false]) (ai M a 0 l):=by
 subst e;exact⟨_,.nil,.nil,.nil,rfl,pR.nil ((d.trans b).ai c _ _)⟩
variable(f:eu m d p k)(g:gH m aW j i s)(c:Nb s)(h:s.aW.length<=10000000)
include f g c h
omit f g in
def We:Sm 10000000 s:=c.sm c.lh h
omit f g in
end
end
section
def pR.old{c M a:I}{i:Nat->Nat}{aW f d:O}{s:St}(h:pR c i M aW f d s)(g:M.size<=a.size)(j:∀b,c.size<=b->b<M.size->a[b]? =M[b]?):pR (a.extract 0 c.size) i a aW f d s:=
 have e:=cg h.bs.bY.size g
 h.Qm (by rw[nL e];exact ad _) g j (J.Lr e)
def tJ.old{d M b:I}{k:Nat->Nat}{e g:Nat}{f:List Ce}{aW j h:O}{a:St}(L:tJ d k M e g f aW j h a.aW a.heap a.az)(l:d.size<=e)(m:M.size<=b.size)(i:∀c,d.size<=c->c<M.size->b[c]? =M[c]?):tJ (b.extract 0 d.size) k b e g f aW j h a.aW a.heap a.az:=
 have N:=pR.old (s:=a) ⟨⟨L.bY,L.jK,L.new⟩,L.aW,L.heap,L.az⟩ m i
 ⟨N.bs.bY,N.bs.jK,N.bs.new,L.box.congr (i _ l L.box.lt),L.PG,N.aW,N.heap,N.az⟩
section
variable{S:List Nat}{m:I}{c P:Nat}{a d p:O}{b:cH}
end
end
section
variable{q:O}
def dh.Xu{t:cH}{s:St}{p:Nat}(h:dh t s)(d:Sm p s)(z:p<=10000000):Nb s:=by
 have n:=h.lE d V;have j:=h.bq;have y:=h.bA;have x:=d.heap;have C:=Sj h;have v:=n.depth;refine⟨⟨V,V⟩,λg j w a=>?_,λf b=>?_,V,V,λf b=>by have:=n.az f b;omega⟩
 ·have c:=h.heap.cell g j;rcases If g.aS 1 with e|e
  ·have:=(c.Dh e).2.1 w a;exact⟨V,V⟩
  ·rcases(c.qQ V).1 w a with e|⟨e,m,i,_⟩
   ·exact⟨by have:=e.1;omega,by have:=e.2;omega⟩
   ·have:=ax i;have:=iI e;exact⟨V,V⟩
 ·obtain⟨c,q⟩:=List.mem_iff_getElem?.1 b;have F:=C.az c f q;refine⟨λw a=>⟨?_,d.Dj f b w a⟩,λu r=>?_,λw a=>?_⟩
  ·rcases(h.az f b).MM w a with e|e
   ·have:=e.1;omega
   ·omega
  ·obtain⟨o,m⟩:=List.mem_iff_getElem?.1 r;have:=F.lr;have:=F.lo;have:=ax m;obtain⟨w,a⟩:=ag (l:=f.u) (k:=o) V;have:=(F.u.dt o w u a m).2.1;exact⟨V,V⟩
  ·rcases C.bo.cv f b w a with e|⟨e,i⟩
   ·exact⟨V,V⟩
   ·have:=iI e;exact⟨V,V⟩
structure Mv(n:Nat)(ro:Nat->Nat)(M:I)(ro':Nat->Nat)(M':I):Prop where
 size:M.size<=M'.size
 dW:∀b,b<M.size->n<=b->M'[b]? =M[b]?
 iW:∀b,b<M.size->ro' b=ro b
 new:∀b,M'.size<=b->ro' b=0
 jK:∀b,b<n->ro b=0
section
variable{n:Nat}{a c:Nat->Nat}{M b:I}
def gY.mv{e f k:Nat}{s:O}{l:List Ce}(h:gY a M e f k s l)(v:Mv n a M c b)(g:k≠0):gY c b e f k s l:=
 h.dW (λd=>v.dW _ (h.F d).1 (vg λe=>g (by rw[<-(h.F d).2];exact v.jK _ e))) λd=>v.iW _ (h.F d).1
def dT.mv{j:O}{i:List bX}(u:dT n a M j i)(v:Mv n a M c b):dT n c b j i:=by
 obtain⟨p,k,l,m⟩:=u;refine⟨p,k.mv v bh,l.mono λx w⟨r,q,f,g⟩=>⟨r,q,gL f λd=>v.dW _ (iB f d) (g d).2.1,λd=>?_⟩,m⟩;obtain⟨s,h,o,tail,t,e⟩:=g d;exact⟨(v.iW _ e.lt).trans s,h,o,tail,t,e.congr (v.dW _ e.lt h)⟩
def RO.mv{i:Nat}{d:List Ce}{f:aX}(v:Mv n a M c b):RO a M i d f->RO c b i d f:=λ⟨r,o,k,j,e,g,h⟩=>⟨r,o,k,j,e.mv v V,g.mv v V,h.mv v V⟩
def sL.mv{e:O}{g:List aX}{f:aX}{r o h:O}{d:List (List Ce)}(T:sL a M e g f r o h d)(v:Mv n a M c b):sL c b e g f r o h d:=
 ⟨T.pS.mv v bh,T.len,T.size,λm i j k l=>(T.dt m i j k l).mv v,T.u.mv v V,T.aR.mv v V,T.bo.mv v V⟩
def oU.mv{d:O}{e:List aX}(l:oU a M d e)(v:Mv n a M c b):oU c b d e:=by
 obtain⟨g,h⟩:=l;exact⟨g,h.pS.mv v bh,h.len,h.size,λm f i j k=>(h.dt m f i j k).mv v⟩
def sL.put{c:O}{b:List aX}{f g:aX}{s o p n m j:O}{h:List (List Ce)}(T:sL a M c b f s o p h)(w:∀d,M.size<=d->a d=0){i:Nat}(x:i<6){d:Ce}
 (v:iX [.i f.eP,.i f.pc,.i f.dst,.s s,.s o,.s p] i [d]=[.i g.eP,.i g.pc,.i g.dst,.s n,.s m,.s j])(t:gY a M aE 1 (10+3*b.length) n (g.u.map Ce.i))(q:gY a M aE 1 (11+3*b.length) m (g.aR.map Ce.i))(r:gY a M aE 1 (12+3*b.length) j (g.bo.map Ce.i)):
 fH M c.F (c.off+b.length*6+i) 1/\sL a (ai M c.F (c.off+b.length*6+i) [d]) c b g n m j h/\dv (λk=>4<=k/\k≠9) a M a (ai M c.F (c.off+b.length*6+i) [d]):=by
 have u:=T.F
 have e:dv (λk=>k=4) a M a (ai M c.F (c.off+b.length*6+i) [d]):=dv.ai w u.1 _ _
 have l:h.flatten.length=b.length*6:=by rw[cr T.size,T.len]
 refine⟨by rw[df];exact T.pS.wr (by simp only[aZ,l,aY,dY];omega),⟨?_,T.len,T.size,T.xL e λk q r=>V,t.eV e V,q.eV e V,r.eV e V⟩,e.mono λk y=>V⟩
 have:=T.pS.set (o:=b.length*6+i) (new:=[d]) (by simp[l];omega)
 rw[ln _ _ _ _ V,l,Gt,v]at this
 rw[df];exact this
end
structure SO(n:Nat)(ro:Nat->Nat)(M:I)(aW hp fr:O)(s:St):Prop where
 le:n<=M.size
 jK:∀b,b<n->ro b=0
 new:∀b,M.size<=b->ro b=0
 aW:gY ro M aE 1 2 aW (s.aW.map Ce.i)
 heap:dT n ro M hp s.heap
 az:oU ro M fr s.az
structure FS(s:St):Prop where
 Dj:Nb s
 lE:GF s
 lo:s.aW.length<=1000000/\s.heap.length<=1000000
section
variable{n:Nat}{a e:Nat->Nat}{M b:I}{aW d c:O}{s:St}
def SO.of(N:pR (M.extract 0 n) a M aW d c s)(h:n<=M.size):SO n a M aW d c s:=⟨h,λb e=>N.bs.jK b (by rw[nL h];exact e),N.bs.new,N.aW,by have:=N.heap;rwa[nL h]at this,N.az⟩
def SO.mv(w:SO n a M aW d c s)(v:Mv n a M e b):SO n e b aW d c s:=⟨cg w.le v.size,λf g=>(v.iW f (aP g w.le)).trans (w.jK f g),v.new,w.aW.mv v bh,w.heap.mv v,w.az.mv v⟩
def SO.mvF(w:SO n a M aW d c s){h:Nat}(f:Fz [h] M b)(j:h<n):Mv n a M a b:=⟨f.size,λe g i=>f.same e g bJ,λ_ _=>rfl,λe g=>w.new e (cg f.size g),w.jK⟩
def SO.eV{p:Nat->Prop}(w:SO n a M aW d c s)(C:dv p a M e b):n<=b.size/\(∀f,f<n->e f=0)/\∀f,b.size<=f->e f=0:=⟨cg w.le C.size,λf g=>(C.iW f (aP g w.le)).trans (w.jK f g),C.new⟩
def SO.box(w:SO n a M aW d c s){b:Nat}(g:a b=1)(o:Nat)(l:List Ce):SO n a (ai M b o l) aW d c s:=by
 have C:dv (λk=>k=1) a M a (ai M b o l):=dv.ai w.new g _ _;obtain⟨e,b,f⟩:=w.eV C;exact⟨e,b,f,w.aW.eV C bh,w.heap.eV C bh bh,w.az.eV C λk h=>V⟩
def SO.KI(w:SO n a M aW d c s)(C:dv (λk=>k=2) a M e b){l:List Int}(A:gY e b aE 1 2 q (l.map Ce.i)):SO n e b q d c {s with aW:=l}:=
 let⟨f,g,h⟩:=w.eV C
 ⟨f,g,h,A,w.heap.eV C bh bh,w.az.eV C λk i=>V⟩
def SO.fU(w:SO n a M aW d c s)(C:dv (λk=>k=3) a M e b){h:List bX}(A:dT n e b q h):SO n e b aW q c {s with heap:=h}:=
 let⟨f,g,i⟩:=w.eV C
 ⟨f,g,i,w.aW.eV C bh,A,w.az.eV C λk j=>V⟩
def SO.jz(w:SO n a M aW d c s)(C:dv (λk=>4<=k/\k≠9) a M e b){l:List aX}(A:oU e b q l):SO n e b aW d q {s with az:=l}:=
 let⟨f,g,h⟩:=w.eV C
 ⟨f,g,h,w.aW.eV C bh,w.heap.eV C bh bh,A⟩
def SO.Fv(w:SO n a M aW d c s)(h:GF s):gH M aW d c s:=⟨w.aW.mZ (by have:=h.aW;omega),w.heap.cells (by have:=h.heap;omega),w.az.Fv (by have:=h.depth;omega) h.az⟩
end
end
section
variable{K:Int->I->Prop}{p:Nat->Prop}
def SP(n h:Nat)(f:O)(g:I)(P:Nat)(v:Value)(a:I):Prop:=∃aW e d s,v=Tz s aW e d/\(∀c,a.size<=c.size->(∀b,b<a.size->n<=b->c[b]? =a[b]?)->gH c aW e d s)/\Nb s/\(s.aW.length<=1000000/\s.heap.length<=1000000)/\Rs h f g P a
structure SQ(n rb:Nat)(bs:O)(ma:I)(k1 k2 Q:Nat)(ro:Nat->Nat)(M:I)(aW hp fr:O)(s:St):Prop where
 w:SO n ro M aW hp fr s
 r:Rs rb bs ma Q M
 k1:ro k1=1/\k1<M.size/\n<=k1
 k2:ro k2=1/\k2<M.size/\n<=k2
 fs:FS s
section
variable{n a d e Q q P l:Nat}{f aW i h:O}{c M b:I}{j m:Nat->Nat}{s o:St}{L:List Nat}
def SQ.fz(g:SQ n a f c d e Q j M aW i h s)(l:a<n)(k:Fz [a] M b)(r:Rs a f c q b):SQ n a f c d e q j b aW i h s:=
 ⟨g.w.mv (g.w.mvF k l),r,⟨g.k1.1,aP g.k1.2.1 k.size,g.k1.2.2⟩,⟨g.k2.1,aP g.k2.2.1 k.size,g.k2.2.2⟩,g.fs⟩
def SQ.ext(g:SQ n a f c d e Q j M aW i h s)(k:a<n)(x:J M b):SQ n a f c d e Q j b aW i h s:=g.fz k (x.fz _) (g.r.ext x)
def SQ.fX(k:SQ n a f c d e Q j M aW i h s)(q:a<n)(o:∀g∈L,g=d\/g=e)(m:Fz [a] M b):eE L M b:=m.dm λg p=>by
 have:=k.k1;have:=k.k2;rcases o g p with l|l<;>simp only[nA]<;>omega
def SQ.gk(g:SQ n a f c d e Q j M aW i h s)(l:a<n)(k:Fz [a] M b)(o:Nat):af b e o=af M e o:=aN (k.same _ g.k2.2.1 (by have:=g.k2;simp only[nA];omega)) o
def SQ.done(g:SQ n a f c d e Q j M aW i h s)(v:Rd a f l c)(C:c.size<=n)(x:Q<=P){q m o r:Int}(A:Lu o)(p:List Ce):SP n a f c P (.agg #[vi q,vi m,vi o,vi r,O.v aW,O.v i,O.v h]) (ai M d 0 p):=by
 have w:=g.w.box g.k1.1 0 p;have u:=g.r.put v (k:=d) (by have:=g.k1;omega) 0 p;exact⟨aW,i,h,⟨q,m,o,r,s.aW,s.heap,s.az⟩,rfl,λb z B=>have t:=(w.mv ⟨z,B,λ_ _=>rfl,λm y=>w.new m (cg z y),w.jK⟩).Fv g.fs.lE;⟨t.aW,t.heap,t.az⟩,⟨A,g.fs.Dj.heap,g.fs.Dj.az,g.fs.Dj.lh,g.fs.Dj.lf,g.fs.Dj.lr⟩,g.fs.lo,u.f,u.r.mono x⟩
def SQ.box(b:SQ n a f c d e Q j M aW i h s)(k:Rd a f l c)(m:c.size<=n)(o:Nat)(g:List Ce):SQ n a f c d e Q j (ai M e o g) aW i h s:=
 ⟨b.w.box b.k2.1 o g,b.r.put k (by have:=b.k2;omega) o g,by rw[av];exact b.k1,by rw[av];exact b.k2,b.fs⟩
def SQ.kK(p:SQ n a f c d e Q j M aW i h s)(l:a<n)(u:Q<=10000000000000000)(r:∀g∈L,g=d\/g=e)(g:List Int){k:List Ce}{m:Nat}(w:k=g.map Ce.i)(v:m=g.length)(z:0<g.length/\g.length<=100)
 (y:∀t b,t∈g->SQ n a f c d e (Q+1) j b aW i h s->Fz [a] (M.push (.cells (bG k) aE)) b->K t b):aO cw 84 [vp a 0,O.v (.mk M.size 0 m m)] (M.push (.cells (bG k) aE)) λC b=>eE L (M.push (.cells (bG k) aE)) b/\∃t:Int,C=vi t/\K t b:=
 have x:=J.push M (.cells (bG k) aE)
 (CQ p.r u g w v z).mono λ_ b⟨t,q,A,B,o⟩=>⟨(p.ext l x).fX l r o,t,q,y t b A ((p.ext l x).fz l o B) o⟩
def SQ.pick(k:SQ n a f c d e Q j M aW i h s)(m:a<n)(q:Q<=10000000000000000)(p:∀g∈L,g=d\/g=e)(l:Int)
 (r:∀t b,0<=t->(t<l\/t=0)->SQ n a f c d e (Q+1) j b aW i h s->Fz [a] M b->K t b):aO cw 81 [vp a 0,vi l] M λx b=>eE L M b/\∃t:Int,x=vi t/\K t b:=
 (cB k.r.r q l).mono λ_ b⟨t,o,v,w,u,g⟩=>⟨k.fX m p g,t,o,r t b v w (k.fz m g (k.r.to g u)) g⟩
def SQ.eV(g:SQ n a f c d e Q j M aW i h s)(u:Rd a f l c)(E:c.size<=n)(C:dv p j M m b)(i:∀k,p k->2<=k){x v t:O}(B:SO n m b x v t o)(z:FS o):SQ n a f c d e Q m b x v t o:=
 have D:=u.lt
 have w:∀k,k<n->b[k]? =M[k]? :=λk q=>C.dW k (aP q g.w.le) λy=>by have:=i _ y;have:=g.w.jK k q;omega
 have r:Fz [a] c b:=⟨cg g.r.f.size C.size,λk q A=>(w k V).trans (g.r.f.same k q A)⟩
 ⟨B,⟨r,u.NB g.r.r r (w a V)⟩,⟨(C.iW _ g.k1.2.1).trans g.k1.1,aP g.k1.2.1 C.size,g.k1.2.2⟩,⟨(C.iW _ g.k2.2.1).trans g.k2.1,aP g.k2.2.1 C.size,g.k2.2.2⟩,z⟩
def SQ.dm(l:SQ n a f c d e Q j M aW i h s)(o:∀g∈L,g=d\/g=e)(C:dv p j M m b)(i:∀k,p k->2<=k):eE L M b:=λg q=>by
 have r:=l.k1;have t:=l.k2;rcases o g q with k|k<;>subst k<;>exact C.dW _ V λk=>by have:=i _ k;omega
def SQ.fP(t:SQ n a f c d e Q j M aW i h s)(u:cW ((h.len:Int) -1)>=0):∃b l r o q k,s.az=b++[l]/\sL j M h b l r o q k/\cW ((h.len:Int) -1)=(b.length:Int)/\h.len=b.length+1:=by
 have F:=t.w.az;have p:=t.fs.lE.depth;rcases List.eq_nil_or_concat s.az with g|⟨b,l,g⟩
 ·rw[g]at F;obtain⟨k,m⟩:=F;have:=m.pS.len;rw[cr m.size,m.len]at this;simp only[dY]at this;rw[aQ V V]at u;omega
 ·rw[List.concat_eq_append]at g;rw[g]at F p;obtain⟨r,o,q,k,T⟩:=F.fP;have:=T.xH;simp at p;exact⟨b,l,r,o,q,k,g,T,by rw[aQ V V];omega,this⟩
def FS.fP(h:FS s){d:List aX}{j g:aX}(i:s.az=d++[j])(k:TF g)(l:g.u.length<=1000000/\g.aR.length<=1000000/\g.bo.length<=1000000):FS {s with az:=d++[g]}:=by
 have b:=h.Dj;have c:=h.lE;have e:∀x∈d,x∈s.az:=λx a=>by rw[i];simp[a]
 have f:=c.depth;rw[i]at f;simp at f;refine⟨⟨b.bq,b.heap,λx a=>?_,b.lh,bJ,λx a=>?_⟩,⟨c.aW,c.fl,c.heap,bJ,λx a=>?_⟩,h.lo⟩<;>rcases List.mem_append.1 a with a|a
 ·exact b.az x (e x a)
 ·simp at a;rw[a];exact k
 ·exact b.lr x (e x a)
 ·simp at a;rw[a];omega
 ·exact c.az x (e x a)
 ·simp at a;rw[a];exact l
def SQ.ug(m:SQ n a f c d e Q j M aW i h s)(r:Rd a f l c)(t:c.size<=n){q:List aX}{z g:aX}(y:s.az=q++[z]){J H I:O}{w:List (List Ce)}(T:sL j b h q g J H I w)(C:dv (λo=>4<=o/\o≠9) j M j b)(E:TF g)(G:g.u.length<=1000000/\g.aR.length<=1000000/\g.bo.length<=1000000)
 (A:∀k∈L,k=d\/k=e)(B:Q<=P){v k p x:Int}(D:Lu p)(u:List Ce):eE L M b/\SP n a f c P (.agg #[vi v,vi k,vi p,vi x,O.v aW,O.v i,O.v h]) (ai b d 0 u):=
 ⟨m.dm A C λo F=>V,(m.eV r t C (λo F=>V) (m.w.jz C T.ug) (m.fs.fP y E G)).done r t B D u⟩
end
end
section
section
variable{S:List Nat}{m:I}{b P:Nat}{a:O}
end
end
section
def QF(f:Nat->Nat):∀n,∃B,∀i,i<n->f i<=B
 |0=>⟨0,D⟩
 |n+1=>let⟨B,h⟩:=QF f n;⟨B+f n,λi a=>by
  rcases be i n with e|e
  ·have:=h i e;omega
  ·have:i=n:=V;subst this;omega⟩
def dh.uf{z:cH}{s:St}(e:dh z s)(p:s.bU=0):s.heap=[]:=by
 have j:=e.done.1 p;obtain⟨o,w⟩:=e.heap.Nh;obtain⟨B,q⟩:=QF o s.heap.length;apply dK;intro u;have C:0<s.heap.length:=List.length_pos_iff.2 u;have gE:∀f,∃(b:Nat)(c:bX),s.heap[b]? =some c/\0<c.aS/\f<=o b:=λf=>by
  induction f with
  |zero=>
   obtain⟨c,d⟩:=ag (l:=s.heap) (k:=s.heap.length -1) V;refine⟨_,c,d,?_,eJ _⟩;have i:=e.jB c d;rcases If c.aS 0 with g|g
   ·have:=e.kj _ ⟨c,d,g⟩;rw[j]at this;simp[holds]at this
   ·omega
  |succ f y=>
   obtain⟨b,c,d,v,t⟩:=y;have:=e.heap.ex b c d v;rw[j]at this;simp only[gN]at this;obtain⟨g,r,m⟩:=KB (h:=s.heap) (f:=b) V;obtain⟨n,i⟩:=List.mem_iff_getElem?.1 r;have x:=w n g i _ m V;rw[mO]at x;refine⟨n,g,i,?_,V⟩;apply dK;intro A;have:=((e.heap.cell g (ar i)).Dh V).2.1 _ m;omega
 obtain⟨b,c,d,_,t⟩:=gE (B+1);have:=q b (ax d);omega
def dh.iV{a:cH}{s:St}(h:dh a s):dh a {s with bA:=40}:=⟨h.fe,h.bU,h.done,h.value,h.ve,D,⟨h.bq.1,by have:=h.bq;have:=h.bA;show s.bq<=40;omega⟩,h.depth,h.aW,h.heap,h.jB,h.az,h.first,h.chain,h.kj,h.nu⟩
def gH.le{m f:I}{aW d c:O}{s:St}(b:gH m aW d c s)(a:Le m f):gH f aW d c s:=⟨b.aW.le a,eH.le b.heap a λk j⟨n,e,h⟩=>⟨n,e,h.le a⟩,eH.le b.az a λk j⟨r,o,h,e,g,i,l⟩=>⟨r,o,h,e,g.le a,i.le a,l.le a⟩⟩
def Y7(m:I)(v:Value)(a:I):Prop:=v=vb true/\J m a
section
variable{m:I}{d p aW b a:O}{c:cH}{s:St}
end
end
section
variable{n:Int}{c:Prop}{a b:St}
def St.fS(s:St)(n:Int):St:={s with bA:=n}
section
variable{d:cH}{e:St}{g:aX}{i:Instr}{h:List Int}{j:List aX}
def jD.fS(a:jD d e g i h):jD d (e.fS n) g i h:=⟨a.nn,a.dst,a.mZ,a.iH,a.cJ,a.zero,a.ret,a.apply,a.UK,a.drop,a.Kv,a.load,a.xC⟩
def jD.Yy(a:jD d (e.fS n) g i h):jD d e g i h:=⟨a.nn,a.dst,a.mZ,a.iH,a.cJ,a.zero,a.ret,a.apply,a.UK,a.drop,a.Kv,a.load,a.xC⟩
def Uc{i:Decidable c}{d e:St}(f:a=d.fS n)(g:b=e.fS n):ite c a b=(ite c d e).fS n:=by split<;>assumption
def Wj{P:St->Prop}{i:Decidable c}(d:P a)(e:P b):P (ite c a b):=by split<;>assumption
def O9(n:Int):eC d (e.fS n) j g i h=(eC d e j g i h).fS n:=by
 unfold eC;simp only[];(repeat' refine Uc ?_ ?_);all_goals first|rfl|(cases j.getLast?<;>rfl)
structure UG(e t:St):Prop where
 bA:t.bA=e.bA
 bq:e.bq<=t.bq
 aW:e.aW<+:t.aW
 bU:t.bU=e.bU\/t.bU=0
def NH:UG e (eC d e j g i h):=by
 unfold eC;simp only[];(repeat' refine Wj (P:=UG e) ?_ ?_);all_goals first|exact⟨rfl,cE _,mW _,Or.inl rfl⟩|exact⟨rfl,cE _,List.prefix_append _ _,Or.inl rfl⟩|exact⟨rfl,by simp only[];omega,mW _,Or.inl rfl⟩|(cases j.getLast?<;>exact⟨rfl,cE _,mW _,D⟩)
def Lb(e:St)(n:Int)(q:e.bq<=e.bA->e.bA<=n)(p:e.bq<=e.bA):(mB d e).bA=e.bA/\e.bq<=(mB d e).bq/\e.aW<+:(mB d e).aW/\
 (e.bU≠1->(mB d e).bU=1->(mB d e).bq=e.bA/\(mB d e).aW=e.aW)/\((mB d e).bU≠1->mB d (e.fS n)=(mB d e).fS n):=by
 by_cases l:e.bU≠3
 ·rw[lT l,lT (s:=e.fS n) l]
  exact⟨rfl,cE _,mW _,λa b=>absurd b a,λ_=>rfl⟩
 unfold mB
 have i:(e.fS n).bU=e.bU/\(e.fS n).az=e.az/\(e.fS n).bq=e.bq/\(e.fS n).bA=n:=⟨rfl,rfl,rfl,rfl⟩
 rw[i.1,i.2.1,i.2.2.1,i.2.2.2]
 simp only[ae l]
 cases e.az.getLast? with
 |none=>exact⟨rfl,cE _,mW _,λa b=>absurd b a,λ_=>rfl⟩
 |some g=>
  simp only[]
  by_cases k:lK (dk d g).op/\e.bq=e.bA
  ·rw[ao k]
   exact⟨rfl,cE _,mW _,λ_ _=>⟨k.2,rfl⟩,λh=>absurd rfl h⟩
  ·have m:¬(lK (dk d g).op/\e.bq=n):=λh=>k ⟨h.1,by have:=q p;omega⟩
   rw[ae k,ae m]
   by_cases j:jD d e g (dk d g) (bC g.u g.aR (bS d (dk d g)))
   ·rw[ao j,ao j.fS]
    obtain⟨a,b,c,r⟩:=NH (d:=d) (e:=e) (j:=e.az.dropLast) (g:=g) (i:=dk d g) (h:=bC g.u g.aR (bS d (dk d g)))
    exact⟨a,b,c,λ_ h=>V,λ_=>O9 n⟩
   ·rw[ae j,ae λh=>j h.Yy]
    exact⟨rfl,cE _,mW _,λ_ h=>by simp at h,λ_=>rfl⟩
def MP{bA:Int}(a:gP d)(b:0<=bA/\bA<=40):∀k,(aA d k (fj d bA)).bA=bA
 |0=>rfl
 |k+1=>by
  have:=(nP a b|>rp k).bq.2;rw[oF,(Lb _ _ (λ_=>cE _) this).1,MP a b k]
def MO{bA:Int}(a:gP d)(c:0<=bA/\bA<=40):∀k,
 ((aA d k (fj d bA)).bU≠1/\aA d k (fj d 40)=(aA d k (fj d bA)).fS 40)\/
 ((aA d k (fj d bA)).bU=1/\(aA d k (fj d bA)).bq=bA/\(aA d k (fj d bA)).aW<+:(aA d k (fj d 40)).aW)
 |0=>Or.inl ⟨by simp[aA,fj],rfl⟩
 |k+1=>by
  have i:=(nP a c|>rp k).bq.2;have m:=MP a c k;have g:=(nP a (bA:=40) V|>rp k).bq.2;have e:=(Lb (d:=d) (aA d k (fj d 40)) _ (λ_=>cE _) g).2.2.1;have q:=Lb (d:=d) (aA d k (fj d bA)) 40 (λ_=>V) i;rw[oF,oF];rcases MO a c k with⟨b,f⟩|⟨b,l,j⟩
  ·by_cases h:(mB d (aA d k (fj d bA))).bU=1
   ·have:=q.2.2.2.1 b h;rw[this.2];refine Or.inr ⟨h,V,?_⟩;rw[f]at e⊢;exact e
   ·rw[f];exact Or.inl ⟨h,q.2.2.2.2 h⟩
  ·rw[lT (s:=aA d k (fj d bA)) V];exact Or.inr ⟨b,l,j.trans e⟩
def SD{bA:Int}(b:gP d)(c:0<=bA/\bA<=40):
 ((gV d bA).bU≠1->gV d 40=(gV d bA).fS 40)/\((gV d bA).bU=1->(gV d bA).bq=bA/\(gV d bA).aW<+:(gV d 40).aW):=by
 rw[qy,qy]
 rcases MO b c 100000 with⟨h,e⟩|⟨h,e⟩
 ·exact⟨λ_=>e,λa=>absurd a h⟩
 ·exact⟨λa=>absurd h a,λ_=>e⟩
def P1{bA:Int}(h:(fB d bA).ok=true):(gP d/\0<=bA/\bA<=40)/\fB d bA=⟨(gV d bA).bU,(gV d bA).value,(gV d bA).bq,(gV d bA).aW,true⟩:=by
 have a:gP d/\0<=bA/\bA<=40:=by
  apply dK;intro b;rw[fB,ae b]at h;simp at h
 exact⟨a,ao a⟩
def PZ{bA:Int}(h:(fB d bA).ok=true):(fB d 40).ok=true/\((fB d bA).bU≠1->(fB d 40).bU=(fB d bA).bU/\(fB d 40).value=(fB d bA).value/\(fB d 40).bq=(fB d bA).bq/\(fB d 40).aW=(fB d bA).aW)/\
 ((fB d bA).bU=1->(fB d bA).bq=bA/\(fB d bA).aW<+:(fB d 40).aW):=by
 obtain⟨c,e⟩:=P1 h
 have f:fB d 40=⟨(gV d 40).bU,(gV d 40).value,(gV d 40).bq,(gV d 40).aW,true⟩:=ao ⟨c.1,V,V⟩
 obtain⟨a,b⟩:=SD c.1 c.2
 rw[e,f]
 exact⟨rfl,λh=>by rw[a h];exact⟨rfl,rfl,rfl,rfl⟩,b⟩
end
end
end Go.Proofs.YtgnjacfobdjeeaaGreat
