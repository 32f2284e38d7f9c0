/- Part of a proof. -/
import Derived.Carry
import Derived.ChangeSame
import Derived.ChangeSlices
import Derived.Deep.Slices
import Derived.OpenShut
import Derived.RowKit
import Derived.WideShapes
import Derived.Test.YtghjegjkpepmpaaGreatSO00
import Derived.Test.YtghjegjkpepmpaaGreatSO02
import Derived.Test.YtghjegjkpepmpaaGreatSO03
import Derived.Test.YtghjegjkpepmpaaGreatSO04
set_option linter.all false
set_option maxHeartbeats 8000000
set_option maxRecDepth 100000
namespace Go.Proofs.YtghjegjkpepmpaaGreat
open Go.Vc
section
def PJ(a:Int):(a==(0:Int))=decide (a=0):=by by_cases h:a=0<;>simp[h]
def FL(a b:Int):(!((a==(0:Int))==(b==(0:Int))))=false<->(a=0<->b=0):=by
 rw[PJ,PJ];by_cases c:a=0<;>by_cases d:b=0<;>simp[c,d]
section
variable{m:E}{d p aU c b:O}{a:cV}{s:St}
structure Ts(h:List bK)(fs:List aY):Prop where
 len:∀f∈fs,f.aS.length=f.ak.length
 ak:∀f∈fs,HQ h f
def Ts.aS{h:List bK}{a:List aY}(H:Ts h a){f:aY}(b:f∈a):∀o∈f.aS,0<=o/\o<=999999:=λo d=>by
 let⟨k,c⟩:=List.mem_iff_getElem?.1 d;let⟨w,e⟩:=cL f.ak k (O6 (aw c) (H.len f b));exact((H.ak f b).dD k w o e c).2.1
def Ja(y:gK m aU c b s)(C:zI s)(hd:s.an.length<=41)(H:Ts s.heap s.an):TF 91 [Nz s aU c b] m (tj s.heap.length (fD s.an)):=by
 apply Dm;simp -zeta only[aD,aC];intro d;have o:J m d:=(J.aA m).aL _;have s1:d.size=m.size+1:=by simp[d]
 clear_value d;have hl:=y.heap.len;have aA:=C.lh;have ay:=y.an.len;have en:Int.toNat (c.len:Int)=s.heap.length:=V;rw[en];refine⟨V,V,V,V,?_⟩;intro A;have x2:J d A:=(J.aA d).aL _;have B2:cK A d.size aB ((tj s.heap.length (λ_=>0)).map Ce.i):=MC d _;have s2:A.size=d.size+1:=by simp[A]
 clear_value A;refine dW (n:=s.an.length) V (λi j=>J d j/\d.size<j.size/\cK j d.size aB ((tj s.heap.length (λe=>fD (s.an.take i) e)).map Ce.i)) ⟨x2,V,by simpa[fD]using B2⟩ ?_;rintro i S ar μ hi ⟨B,z3,I⟩ am
 refine dit (λh1=>?_) λh1=>?_
 .let⟨f,v⟩:=cL s.an i;have x:=aq v;have aE:=C.lr f x;let⟨ag,G,u,hr,P,he,g0,g1,g2,Y,Z,g5⟩:=(y.ext (o.trans B)).an.aF v;have aI:=hr.len;have aG:=P.len;have az:=H.len f x;have ei:Int.toNat (i:Int)=i:=V;rw[ei];refine⟨V,V,_,g0,_,g1,_,g2,ag,Y,G,Z,u,g5,?_⟩;intro m4 l;have x5:J S l:=((J.aA S).aL _).ai (ad _) _ _;have s5:l.size=S.size+1:=by simp[l,m4,ax]
  clear_value l;have an:=B.trans x5;refine dW (n:=f.aS.length) V (λa j=>J d j/\l.size<=j.size/\(∀h,h<l.size->h≠d.size->j[h]? =l[h]?)/\cK j d.size aB ((tj s.heap.length (λe=>fD (s.an.take i) e+di (f.ak.take a) (f.aS.take a) e)).map Ce.i)) ⟨an,ad _,λ_ _ _=>rfl,by simpa[di]using(I.ext x5)⟩ ?_;rintro a F au ν hk ⟨t,z6,X,p⟩ ac;refine dit (λh2=>?_) λh2=>?_
  .let⟨w,z⟩:=cL f.ak a;let⟨q,E⟩:=cL f.aS a;have R:=(H.ak f x).dD a w q z E;obtain⟨r',o',e',aH,aF,av,_,_,_,_,y4,_⟩:=(y.ext (o.trans t)).an.aF v;have lb:∀{sl:O}{ab:List Int},ap m sl ab->ab≠[]->sl.D<m.size:=λah D=>iQ ah D;obtain⟨U,T,e0,aj,ai,_,_,_,_,w3,w4,_⟩:=y.an.aF v;have er:U=ag:=by have:=(o.trans B).af w3;rw[Y]at this;exact(O.BY.1 (jS this)).symm
   have eo:T=G:=by have:=(o.trans B).af w4;rw[Z]at this;exact(O.BY.1 (jS this)).symm
   subst er;subst eo;have gq:af F T.D (T.off+Int.toNat (a:Int)*1)=some (vi q):=by simpa using(ai.ext (o.trans t)).aF E
   have gw:af F U.D (U.off+Int.toNat (a:Int)*1)=some (vi w):=by simpa using(aj.ext (o.trans t)).aF z
   refine⟨V,V,q,gq,λM=>?_,λM=>?_⟩
   .have Q:0<q:=by simpa using M
    have N:=R.2.2 Q;have aa:=aw (bP N).1;have K:cG (w -1000)=(ix w:Nat):=by have:=N.1;have:=((C.an f x).1 w (aq z)).2;unfold ix;rw[aR V V];omega
    have L:Int.toNat ((ix w:Nat):Int)=ix w:=V;refine⟨V,V,w,gw,V,V,w,gw,?_⟩;rw[K,L];simp only[O.gL,O.jJ,O.nt,bW,eT];have q1:=KA (a:=s.an.take i) (n:=10000000) (k:=999999) V (λW r=>⟨(C.lr W (dF r)).2.1,H.aS (dF r)⟩) (ix w);have q2:=Gy (ak:=f.ak.take a) (aS:=f.aS.take a) (n:=999999) V (λG P=>H.aS x G (dF P)) (ix w);have q5:(s.an.take i).length<=41:=bG;have q6:(f.aS.take a).length<=10000000:=bG;have q7:=R.2.1;refine⟨V,V,_,ub p aa,V,V,q,by simpa using gq,V,V,Ok p aa,?_⟩;rw[show cG (fD (s.an.take i) (ix w)+di (f.ak.take a) (f.aS.take a) (ix w)+q)=fD (s.an.take i) (ix w)+di (f.ak.take a) (f.aS.take a) (ix w)+q from aR V V];have W:=Jl p (ix w) (fD (s.an.take i) (ix w)+di (f.ak.take a) (f.aS.take a) (ix w)+q);rw[fE (g:=λe=>fD (s.an.take i) e+di (f.ak.take (a+1)) (f.aS.take (a+1)) e)]at W
    .refine⟨λh r=>bg _ _ _ _ (by simp at r;omega),ac V _ ⟨t.ai (ad _) _ _,by rw[ax];exact z6,λh r D=>by rw[bg _ _ _ _ D];exact X h r D,W⟩⟩
    .intro h r;rw[tL z E];by_cases u:h=ix w
     .subst u;rw[ao rfl,ao (iv N.1).symm];omega
     .rw[ae u,ae (λal=>u (by rw[al,lP]))];omega
   .have Q:q=0:=by have:=R.2.1.1;simp at M;omega
    refine ac V F ⟨t,z6,X,?_⟩;rw[fE (g:=λe=>fD (s.an.take i) e+di (f.ak.take a) (f.aS.take a) e)]
    .exact p
    .intro h r;rw[tL z E,Q];split<;>omega
  .have K:f.ak.take a=f.ak:=bZ V;have L:f.aS.take a=f.aS:=bZ V;rw[K,L]at p;refine am V F ⟨t,V,?_⟩
   rw[fE (g:=λe=>fD (s.an.take i) e+di f.ak f.aS e)]
   .exact p
   .intro h r;exact Oa v h
 .have a:s.an.take i=s.an:=bZ V;rw[a]at I;exact⟨_,rfl,Pm I V,o.trans B⟩
def CX(j:gK m aU c b s)(i:zI s)(hd:s.an.length<=41)(H:Ts s.heap s.an)(h:∀a∈s.heap,oL s.heap a):
 dy cp 36 [Nz s aU c b] m (∀(e:Nat)(a:bK),s.heap[e]? =some a->0<a.aQ->a.aQ=eA s.heap e+fD s.an e):=by
 apply xN
 simp -zeta only[aD,aC]
 intro l
 have v:J m l:=(J.aA m).aL _
 have Z:l.size=m.size+1:=by simp[l]
 clear_value l
 have R:=j.heap.len
 have S:=i.lh
 refine(Bz (j.ext v).heap h i.heap V).mono ?_
 rintro _ T ⟨O,rfl,C,o⟩
 have z2:=o.size
 refine⟨o.dz bG,O,rfl,(Ja (j.ext (v.trans o)) i hd H).mono ?_⟩
 rintro _ M ⟨N,rfl,A,w⟩
 have K:=C.len
 have I:=A.len
 rw[oG]at K I
 have p:=(v.trans o).trans w
 refine⟨w.dz bG,N,rfl,?_⟩
 refine dW (n:=s.heap.length) V (λf L=>L=M/\∀(e:Nat)(a:bK),e<f->s.heap[e]? =some a->0<a.aQ->a.aQ=eA s.heap e+fD s.an e) ⟨rfl,λe a y=>absurd y (eZ _)⟩ ?_
 rintro f U P μ z ⟨rfl,B⟩ D
 refine dit (λF=>?_) λF=>?_
 .have t:f<s.heap.length:=V
  let⟨a,r⟩:=dG t
  obtain⟨Q,_,g1,_,_⟩:=(j.ext p).heap.aF r
  have E:Int.toNat (f:Int)=f:=V
  rw[E]
  have iu:(0<a.aQ->a.aQ=eA s.heap f+fD s.an f)->∀(e:Nat)(a:bK),e<f+1->s.heap[e]? =some a->0<a.aQ->a.aQ=eA s.heap e+fD s.an e:=λu e d y hd=>by
   rcases aX e f with x|x
   .exact B e d x hd
   .have:e=f:=V;subst this;rw[r]at hd;simp at hd;subst hd;exact u
  have W:=Cn s.heap f λa G=>(h a G).fl
  have X:=ru s.heap f
  have Y:=KA (a:=s.an) (n:=10000000) (k:=999999) V (λq g=>⟨(i.lr q g).2.1,H.aS g⟩) f
  refine⟨V,V,_,g1,λq=>?_,λq=>D V _ ⟨rfl,iu λg=>by simp at q;omega⟩⟩
  refine⟨V,V,_,g1,V,V,_,(C.ext w).aF (vk t),V,V,_,A.aF (vk t),?_⟩
  rw[show cG (eA s.heap f+fD s.an f)=eA s.heap f+fD s.an f from aR V V]
  refine⟨λg=>bX (λz=>?_) p,λg=>D V _ ⟨rfl,iu λ_=>by simpa using g⟩⟩
  have:=z f a r (by simpa using q)
  simp at g;exact g this
 .exact iY (λe a h u=>B e a (oh (aw h)) h u) p
def Fs(ae:fC m d p a)(x:gK m aU c b s)(G:zI s):dy cp 14 [.agg #[O.v d,O.v p],Nz s aU c b] m (cW a s):=by
 apply zy;simp -zeta only[aD,aC];intro H l;have o:J m l:=((J.aA m).aL _).aL _;have s1:H.size=m.size+1:=by simp[H]
 have s2:l.size=m.size+2:=by simp[l,s1]
 clear_value l;have k:∀af∈[H.size,m.size],af<l.size:=bG;have ak:=x.an.len;have h:∀{M:E},J l M->¬NG a s->∃q:Bool,vb false=.bool q/\(q=true<->cW a s)/\J m M:=λU hn=>bX (λe=>hn (OJ e)) (o.trans U);refine(tZ (ae.ext o)).aJ (J.aA _) k λb3 m3 Z x3 _=>⟨b3,rfl,λL=>h x3 λe=>nb Z L e.fm,λL=>?_⟩;have hi:=yb Z L;refine(bd _ _ _ _).aJ x3 k λb4 m4 aa ay X=>⟨b4,rfl,λN=>h X λe=>nb aa N e.cw,λN=>?_⟩;have an:=yb aa N;have ac:(s.an=[])<->((b.len:Int)=0):=by rw[ak];simp
 refine⟨λP=>h X λe=>?_,λP=>?_⟩
 .have:=e.done;rw[ac,<-FL]at this;rw[this]at P;cases P
 have aj:s.cw=0<->s.an=[]:=by rw[ac];exact(FL _ _).1 P
 refine⟨λM=>J l M/\gS s.value/\(s.value≠0->s.cw=0)/\(0<=s.dX/\s.dX<=40)/\(0<=s.bA/\s.bA<=s.dX),?_,?_⟩
 .refine(bd _ _ _ _).aJ X k λb5 W u y w=>⟨b5,rfl,λr=>h w λe=>nb u r e.value,λr=>?_⟩;have tail:(s.value≠0->s.cw=0)->aO cp 31 [vi s.dX,vi (0:Int),vi (40:Int)] W λv f=>eF [H.size,m.size] W f/\∃i:Bool,v=vb i/\
   ((!i)=true->∃q:Bool,vb false=.bool q/\(q=true<->cW a s)/\J m f)/\((!i)=false->aO cp 31 [vi s.bA,vi (0:Int),vi s.dX] f λt g=>
   eF [H.size,m.size] f g/\∃j:Bool,t=vb j/\((!j)=true->∃q:Bool,vb false=.bool q/\(q=true<->cW a s)/\J m g)/\
   ((!j)=false->J l g/\gS s.value/\(s.value≠0->s.cw=0)/\(0<=s.dX/\s.dX<=40)/\(0<=s.bA/\s.bA<=s.dX))):=λT=>
   (bd _ _ _ _).aJ w k λb6 m6 C aq z=>⟨b6,rfl,λg=>h z λe=>nb C g e.dX,λg=>
    (bd _ _ _ _).aJ z k λR m7 D ar I=>⟨R,rfl,λB=>h I λe=>nb D B e.bA,λB=>⟨I,(yb u r),T,yb C g,yb D B⟩⟩⟩
  refine⟨λt=>⟨λg=>h w λe=>?_,λg=>tail λ_=>by simpa using g⟩,λt=>tail λg=>absurd (by simpa using t) g⟩;have:=e.ug (by simpa using t);simp at g;exact g this
 .rintro W ⟨w,hv,T,al,ah⟩;rw[aR V V];refine⟨λr=>h w λe=>by have:=e.depth;simp at r;omega,λr=>?_⟩;have ai:(s.an.length:Int)<=s.bA+1:=by simp at r;omega
  have ab:s.an.length<=41:=V;refine(EE (x.ext (o.trans w)).aU).aJ w k λb6 m6 C aq z=>⟨b6,rfl,λt=>h z λe=>nb C t e.aU,λt=>?_⟩;have am:=yb C t;refine(Ht (x.ext (o.trans z)).heap G.heap (oh G.lh)).aJ z k λR m7 D ar I=>⟨R,rfl,λg=>h I λe=>nb D g e.heap,λg=>?_⟩;have ad:=yb D g;refine dW (n:=s.an.length) V (λy m'=>J l m'/\∀(j:Nat)(f:aY),j<y->s.an[j]? =some f->KF a s.heap (nN s.an j) f) ⟨I,λj f v=>absurd v (eZ _)⟩ ?_;rintro y m8 av μ e ⟨K,hq⟩ ao
  refine dit (λB=>?_) λB=>?_
  .let⟨f,i⟩:=cL s.an y;refine(Fm (ae.ext (o.trans K)) (x.ext (o.trans K)) G i).aJ K k λS m9 F au A=>⟨S,rfl,λu=>h A λe=>nb F u (e.an y f i),λu=>ao V _ ⟨A,λj ag v Q=>?_⟩⟩;rcases aX j y with Y|Y
   .exact hq j ag Y Q
   .have:j=y:=V;subst this;rw[i]at Q;simp at Q;subst Q;exact yb F u
  .have Q:∀(j:Nat)(f:aY),s.an[j]? =some f->KF a s.heap (nN s.an j) f:=λj f i=>hq j f (oh (aw i)) i;have Y:Ts s.heap s.an:=⟨λf i=>by
    let⟨j,v⟩:=wy i;have L:=(Q j f v).lr;have N:=(Q j f v).lo;omega,λf i=>let⟨j,v⟩:=wy i;(Q j f v).ak⟩
   refine(IM (x.ext (o.trans K)) G ab).aJ K k λS m9 F au A=>⟨S,rfl,λu=>?_,λu=>h A λe=>fb F u e.ba⟩;refine(CX (x.ext (o.trans A)) G ab Y ad.cells).aJ A k λv ax ag az ap=>⟨v,rfl,eW ?_ (o.trans ap)⟩;rw[ag];exact⟨λU=>MA ⟨hi,an,aj,hv,T,al,ah,ai,am,ad,Q,F.1 u,U⟩,λe=>(OJ e).Q6⟩
end
end
section
variable{m:E}{b:List bK}{w:Int}{d:bK}{a:Nat}{W:List Nat}
def rj(n:Int)(m:E):dy cp 59 [vi n] m (gS n):=by
 apply Ic;refine⟨λb=>eW ?_ (J.aA _),λb=>bX (λa=>?_) (J.aA _)⟩
 .simp at b;simp[gS,b]
 .simp at b;have:=a.1;omega
def Gp{f:O}(d:cU m f b)(j:Eb w):dy cp 185 [O.v f,vi w] m (qP b w):=by
 apply Ak;refine(iE d j.2).mono ?_;rintro _ k ⟨a,h,rfl,e,_,g⟩;refine⟨a,h,rfl,λc=>iY (Or.inr (e.1 c)) g,λc=>?_⟩;refine(rj w k).then λb2 n i l=>⟨b2,rfl,eW ?_ (g.trans l)⟩;rw[i];exact⟨Or.inl,λd=>d.resolve_right (fb e c)⟩
structure Jt(b:List bK)(d:bK):Prop where
 lo: -1<=d.aQ
 kE:0<=d.kE/\d.kE<=99
 fl:d.aH.length<=3
 xp:d.aQ<1->d.kE=0
 jd:d.aQ=0->d.aH=[]
 cQ:∀w∈d.aH,qP b w/\(d.aQ<0->w=0)
def Jt.ok(a:Jt b d)(e:d.aQ<=999999):oL b d:=
 ⟨a.fl,a.lo,e,λhd=>⟨a.xp hd,λw c=>by
  by_cases f:d.aQ<0
  .exact(a.cQ w c).2 f
  .rw[a.jd V]at c;simp at c,a.jd⟩,λ_=>⟨λw c=>(a.cQ w c).1,a.kE⟩⟩
def oL.v(a:oL b d):Jt b d:=by
 refine⟨a.lo,?_,a.fl,λhd=>(a.xp hd).1,λf=>(a.xp V).2.2 f,λw e=>⟨?_,λg=>(a.xp V).2.1 w e⟩⟩
 .by_cases c:0<d.aQ
  .exact(a.ph c).2
  .have:=(a.xp V).1;omega
 .by_cases c:0<d.aQ
  .exact(a.ph c).1 w e
  .have:=(a.xp V).2.1 w e;exact Or.inl (by subst this;exact⟨bn,bn⟩)
def Jt.cases(c:Jt b d)(e:w∈d.aH):fQ b w\/w<1000:=by
 rcases(c.cQ w e).1 with a|a
 .have:=a.2;exact Or.inr V
 .exact Or.inl a
def Gf{z j:O}(E:cU m z b)(x:ap m j d.aH)(G:∀w∈d.aH,Eb w):dy cp 135 [O.v z,.agg #[vi d.aQ,vi d.kE,O.v j]] m (Jt b d):=by
 apply Ae;simp -zeta only[aD,aC];intro e;have f:J m e:=(J.aA m).aL _;have N:e.size=m.size+1:=by simp[e]
 clear_value e;have y:=x.len;have F:∀C∈[m.size],C<e.size:=bG;refine⟨λk=>bX (λc=>by have:=c.lo;simp at k;omega) f,λk=>⟨λl=>bX (λc=>by have:=c.kE;simp at l;omega) f,λl=>⟨λo=>bX (λc=>by have:=c.kE;simp at o;omega) f,λo=>⟨λr=>bX (λc=>by have:=c.fl;simp at r;omega) f,λr=>?_⟩⟩⟩⟩;simp at k l o r;refine⟨λM=>M=e/\(d.aQ<1->d.kE=0)/\(d.aQ=0->d.aH=[]),?_,?_⟩
 .have zero:(d.aQ<1->d.kE=0)->((d.aQ==(0:Int))=true->((decide ((j.len:Int)>(0:Int)))=true->∃a:Bool,vb false=.bool a/\(a=true<->Jt b d)/\J m e)/\
   ((decide ((j.len:Int)>(0:Int)))=false->e=e/\(d.aQ<1->d.kE=0)/\(d.aQ=0->d.aH=[])))/\((d.aQ==(0:Int))=false->e=e/\(d.aQ<1->d.kE=0)/\(d.aQ=0->d.aH=[])):=λh=>
   ⟨λg=>⟨λa=>bX (λc=>by have:=c.jd (by simpa using g);rw[this]at y;simp at a y;omega) f,λa=>⟨rfl,h,λ_=>List.length_eq_zero_iff.1 (by simp at a;omega)⟩⟩,λg=>⟨rfl,h,λa=>by simp at g;exact absurd a g⟩⟩
  refine⟨λg=>⟨λa=>bX (λc=>by have:=c.xp (by simpa using g);simp at a;exact a this) f,λa=>zero λ_=>by simpa using a⟩,λg=>zero λa=>by simp at g;omega⟩
 .rintro H ⟨rfl,hd,D⟩;refine dW (n:=d.aH.length) V (λv h=>J H h/\∀w∈d.aH.take v,qP b w/\(d.aQ<0->w=0)) ⟨J.aA _,aN⟩ ?_;rintro v L I μ K ⟨q,u⟩ B
  refine dit (λg=>?_) λg=>?_
  .let⟨w,h⟩:=cL d.aH v;refine⟨V,V,w,by simpa using(x.ext (f.trans q)).aF h,(Gp (cU.ext (f.trans q) E) (G w (aq h))).aJ q F λb4 A t P p=>⟨b4,rfl,λa=>bX (λc=>nb t a (c.cQ w (aq h)).1) (f.trans p),λa=>⟨λs=>⟨λi=>bX (λc=>?_) (f.trans p),λi=>B V A ⟨p,bE h u ⟨yb t a,λ_=>by simpa using i⟩⟩⟩,λs=>B V A ⟨p,bE h u ⟨yb t a,λi=>by simp at s;omega⟩⟩⟩⟩⟩;have:=(c.cQ w (aq h)).2 (by simpa using s);simp at i;exact i this
  .exact iY ⟨k,⟨l,o⟩,V,hd,D,dh V u⟩ (f.trans q)
def iA(mk:Nat->Bool):Nat->List bK->Nat->Int
 |_,[],_=>0
 |i,d::b,a=>(if mk i=true then 0 else eD d.aH a)+iA mk (i+1) b a
def EA:∀(i:Nat)(b:List bK)(a:Nat),iA (λ_=>false) i b a=eA b a
 |_,[],_=>rfl
 |i,d::b,a=>by simp[iA,eA,EA (i+1) b a]
def Gz(mk:Nat->Bool):∀(i:Nat)(b:List bK)(a:Nat),0<=iA mk i b a
 |_,[],_=>de 0
 |i,d::b,a=>by have:=Gz mk (i+1) b a;have:=iO d.aH a;simp only[iA];split<;>omega
def Qi(mk:Nat->Bool):∀(i:Nat)(b:List bK)(a:Nat),iA mk i b a<=eA b a
 |_,[],_=>de 0
 |i,d::b,a=>by have:=Qi mk (i+1) b a;have:=iO d.aH a;simp only[iA,eA];split<;>omega
def JL{mk e:Nat->Bool}:∀{i:Nat}{b:List bK}{a:Nat},(∀j,i<=j->mk j=e j)->iA mk i b a=iA e i b a
 |_,[],_,_=>rfl
 |i,d::b,a,c=>by simp only[iA];rw[c i (ad _),JL λj f=>c j V]
def Od{mk:Nat->Bool}:∀{e:Nat}{b:List bK}{f:Nat}{d:bK},b[f]? =some d->mk (e+f)=false->∀a,iA (mX mk (e+f)) e b a=iA mk e b a -eD d.aH a
 |_,[],_,_,b,_,_=>by simp at b
 |e,m::b,0,d,j,l,a=>by
  simp at j;subst j;have g:=JL (mk:=mX mk e) (e:=mk) (i:=e+1) (b:=b) (a:=a) λo n=>qb V;rw[jN]at l⊢;simp only[iA,Cq,l,g];simp;omega
 |e,m::b,f+1,d,j,l,a=>by
  have g:e+(f+1)=e+1+f:=V;have:=Od (mk:=mk) (e:=e+1) (b:=b) (f:=f) (d:=d) (by simpa using j) (by rw[<-g];exact l) a;simp only[iA];rw[g,this,qb V];omega
def Qh{mk:Nat->Bool}:∀{e:Nat}{b:List bK}{j:Nat}{d:bK},b[j]? =some d->mk (e+j)=false->∀a,eD d.aH a<=iA mk e b a
 |_,[],_,_,b,_,_=>by simp at b
 |e,l::b,0,d,f,g,a=>by
  simp at f;subst f;have:=Gz mk (e+1) b a;simp only[jN]at g;simp only[iA,g];simp;omega
 |e,l::b,j+1,d,f,g,a=>by
  have:=Qh (mk:=mk) (e:=e+1) (b:=b) (j:=j) (d:=d) (by simpa using f) (by rw[<-g];congr 1;omega) a;have:=iO l.aH a;simp only[iA];split<;>omega
def Oc{mk:Nat->Bool}:∀{i:Nat}{b:List bK}{a:Nat},0<iA mk i b a->∃(k:Nat)(d:bK),b[k]? =some d/\mk (i+k)=false/\(1000+(a:Int))∈d.aH
 |_,[],_,b=>by simp[iA]at b
 |i,c::b,a,g=>by
  simp only[iA]at g;by_cases f:mk i=false/\0<eD c.aH a
  .exact⟨0,c,rfl,f.1,O2 f.2⟩
  .have:0<iA mk (i+1) b a:=by
    have:=iO c.aH a;split at g
    .omega
    .rename_i h;have:¬0<eD c.aH a:=λe=>f ⟨by simpa using h,e⟩;omega
   let⟨k,d,h,e,j⟩:=Oc this;exact⟨k+1,d,by simpa using h,by rw[<-e];congr 1;omega,j⟩
def TA(b:List bK)(mk:Nat->Bool):Prop:=
 ∃t:Nat->Nat,(∀j,mk j=true->t j<=mQ mk b.length)/\∀(i:Nat)(d:bK),b[i]? =some d->∀w∈d.aH,1000<=w->mk (ix w)=true->mk i=true/\t i<t (ix w)
def TA.set{mk:Nat->Bool}(u:TA b mk)(t:a<b.length)(k:mk a=false)(B:iA mk 0 b a=0):TA b (mX mk a):=by
 let⟨A,n,s⟩:=u;have r:=zV k t;have v:∀(c:Nat)(d:bK),b[c]? =some d->(1000+(a:Int))∈d.aH->mk c=true:=λc d f g=>by
  cases e:mk c
  .have g1:=Qh (mk:=mk) (e:=0) f (by rw[bW];exact e) a;have g2:=uU g;omega
  .rfl
 refine⟨λx=>if x=a then mQ mk b.length+1 else A x,λy o=>?_,λc d f w g q p=>?_⟩
 .simp only[r];split
  .omega
  .rename_i h;rw[qb h]at o;have:=n y o;omega
 .by_cases h:ix w=a
  .have e:=v c d f (by rw[<-h,iv q];exact g);have l:c≠a:=λj=>by rw[j,k]at e;cases e
   simp only[ao h,ae l];exact⟨Cr e,oh (n c e)⟩
  .rw[qb h]at p;let⟨m,z⟩:=s c d f w g q p;have l:c≠a:=λj=>by rw[j,k]at m;cases m
   simp only[ae h,ae l];exact⟨Cr m,z⟩
def PK(f:Nat->Nat):∀n,∃B,∀i,i<n->f i<=B
 |0=>⟨0,λi a=>absurd a (eZ _)⟩
 |n+1=>by
  let⟨B,c⟩:=PK f n;refine⟨B+f n,λi a=>?_⟩;rcases aX i n with b|b
  .have:=c i b;omega
  .have:i=n:=V;subst this;omega
def Vu{mk:Nat->Bool}(r:TA b mk)(q:∀d∈b,∀w∈d.aH,1000<=w->ix w<b.length)(o:∀a,a<b.length->iA mk 0 b a=0->mk a=true):
 mQ mk b.length=b.length<->Tp b:=by
 rw[KX]
 constructor
 .intro g
  let⟨t,e,c⟩:=r
  refine⟨λx=>b.length -t x,λi d h w j f=>?_⟩
  have k:=q d (aq h) w j f
  have:=(c i d h w j f (g _ k)).2
  have:=e _ (g _ k)
  have:=FU mk b.length
  show b.length -t (ix w)<b.length -t i
  omega
 .rintro⟨h,s⟩
  let⟨B,m⟩:=PK h b.length
  have u:∀(n i:Nat),B -h i<n->i<b.length->mk i=true:=by
   intro n;induction n with
   |zero=>intro i g;omega
   |succ n t=>
    intro i g p;refine o i p (Int.le_antisymm (Int.not_lt.1 λf=>?_) (Gz _ _ _ _));let⟨k,d,e,c,l⟩:=Oc f;rw[bW]at c;have:=s k d e _ l V;rw[lP]at this;have j:=aw e;have:=m k j;rw[t k V j]at c;cases c
  exactλi g=>u (B -h i+1) i V g
structure HM(b:List bK)(mk:Nat->Bool)(W:List Nat)(lf:Nat->Int):Prop where
 LI:W.Nodup
 un:∀a∈W,a<b.length/\mk a=false
 zero:∀a,a<b.length->(lf a=0<->(mk a=true\/a∈W))
def Gv:∀(n:Nat)(W:List Nat),W.Nodup->(∀a∈W,a<n)->W.length<=n
 |0,[],_,_=>ad _
 |0,a::_,_,b=>absurd (b a aN) (eZ _)
 |n+1,W,hd,b=>by
  by_cases d:n∈W
  .have e:=Gv n (W.erase n) (hd.erase n) λa c=>by
    have:=hd.mem_erase_iff.1 c;have:=b a this.2;omega
   rw[List.length_erase_of_mem d]at e;omega
  .have:=Gv n W hd λa c=>by
    have:=b a c;have:a≠n:=λe=>d (e▸c);omega
   omega
def HM.len{mk:Nat->Bool}{d:Nat->Int}(K:HM b mk W d):W.length<=b.length:=Gv _ _ K.LI λa c=>(K.un a c).1
def HM.Vx{mk:Nat->Bool}{f:Nat->Int}(K:HM b mk (W++[a]) f):HM b (mX mk a) W f:=by
 let⟨g,i,h⟩:=List.nodup_append.1 K.LI;refine⟨g,λx c=>?_,λx c=>?_⟩
 .have d:=K.un x (bL _ c);refine⟨d.1,?_⟩;rw[qb λe=>h x c a aN e];exact d.2
 .rw[K.zero x c];by_cases e:x=a
  .subst e;simp[Cq]
  .rw[qb e];simp[e]
def HM.j7{mk:Nat->Bool}{g lf':Nat->Int}(K:HM b mk W g)(i:a<b.length)(j:∀x,lf' x=if x=a then g x -1 else g x)(l:0<g a):
 (lf' a=0->HM b mk (W++[a]) lf')/\(lf' a≠0->HM b mk W lf'):=by
 have f:mk a≠true/\a∉W:=by
  have:=(K.zero a i).2;constructor
  .intro d;have:=this (Or.inl d);omega
  .intro d;have:=this (Or.inr d);omega
 refine⟨λh=>⟨?_,λx c=>?_,λx c=>?_⟩,λh=>⟨K.LI,K.un,λx c=>?_⟩⟩
 .rw[List.nodup_append]
  refine⟨K.LI,aN,λx c y k e=>?_⟩
  simp at k;subst k;subst e;exact f.2 c
 .rcases List.mem_append.1 c with c|c
  .exact K.un x c
  .simp at c;subst c;exact⟨i,by simpa using f.1⟩
 .by_cases e:x=a
  .subst e;simp[h]
  .rw[j x,ae e,K.zero x c];simp[e]
 .by_cases e:x=a
  .subst e
   constructor
   .intro d;exact absurd d h
   .rintro(d|d)
    .exact absurd d f.1
    .exact absurd d f.2
  .rw[j x,ae e,K.zero x c]
end
section
variable{b:Nat->Nat}{m:E}{k c a:Nat}{s:O}{d:Nat->Int}
def Vk(W:List Nat):List Int:=W.map λ(a:Nat)=>(a:Int)
def Kx(W:List Nat):(Vk W).length=W.length:=by simp[Vk]
def K6(W:List Nat)(a:Nat):Vk (W++[a])=Vk W++[(a:Int)]:=by simp[Vk]
def Wl(h:iR b m aB 1 k s ((tj c d).map Ce.i))(g:c<=9223372036854775807)(e:a<c):af m s.D (s.off+Int.toNat (a:Int)*1)=some (vi (d a)):=by
 have:=(h.nX (by rw[oG];exact g)).aF (vk (f:=d) e);simpa using this
def UB(h:iR b m aB 1 k s ((tj c d).map Ce.i)):s.len=c:=by have:=h.len;simp[oG]at this;omega
def XB{g:Nat->Int}(h:iR b m aB 1 k s ((tj c d).map Ce.i))(q:a<c){v:Int}(o:∀e,e<c->g e=if e=a then v else d e)(p:∀e,m.size<=e->b e=0):
 fO m s.D (s.off+Int.toNat (a:Int)*1) 1/\iR b (ai m s.D (s.off+Int.toNat (a:Int)*1) [.i v]) aB 1 k s ((tj c g).map Ce.i)/\dx (λj=>j=k) b m b (ai m s.D (s.off+Int.toNat (a:Int)*1) [.i v]):=by
 have f:(0:Int)<=(a:Int):=V
 have i:(a:Int)<((tj c d).length:Nat):=by rw[oG];omega
 have j:=h.gA f i v
 have l:gA (tj c d) (a:Int) v=tj c g:=by
  unfold gA;rw[show Int.toNat (a:Int)=a by omega,Sr];exact fE λe n=>(o e n).symm
 rw[l]at j
 have r:=UB h
 have t:=h.le
 exact⟨h.Om f i,j,dx.ai p (h.D V).2 _ _⟩
def Yd(m:E)(h:List bK)(v:Value)(c:E):Prop:=∃(s:O)(b:Bool),v=.tuple #[O.v s,vb b]/\(b=true<->Oy h)/\
 (b=true->∃a,s=.mk a 0 h.length h.length/\m.size<=a/\cK c a aB ((tj h.length (eA h)).map Ce.i))/\J m c
def CA{N:O}{h:List bK}(y:cU m N h)(aS:Sz h)(bl:h.length<=1000000000):aO cp 60 [O.v N] m (Yd m h):=by
 apply xy;simp -zeta only[aD,aC];have hl:=y.len;have en:Int.toNat (N.len:Int)=h.length:=V;rw[en];refine⟨V,V,V,V,?_⟩;intro m1;have x1:J m m1:=(J.aA m).aL _;have B1:cK m1 m.size aB ((tj h.length (λ_=>0)).map Ce.i):=MC m _;clear_value m1;have no:∀{M:E},J m M->¬Oy h->Yd m h (.tuple #[O.v O.nil,vb false]) M:=λT G=>⟨.nil,false,rfl,by simp[G],aN,T⟩;have am:∀c:Nat,Int.toNat (c:Int)=c:=λc=>V;simp -zeta only[O.gL,O.jJ,O.nt,bW];refine dW (n:=h.length) V (λt l=>J m l/\cK l m.size aB ((tj h.length (λa=>eA (h.take t) a)).map Ce.i)/\∀e∈h.take t,Jt h e) ⟨x1,by simpa[eA]using B1,aN⟩ ?_;rintro t m2 bt μ hi ⟨Z,B2,ai⟩ X
 have bC:=B2.lt;have h3:∀e∈h.take t,e.aH.length<=3:=λe hm=>(ai e hm).fl;refine dit (λh1=>?_) λh1=>?_
 .let⟨e,r⟩:=cL h t;have ab:=aq r;let⟨d,hf,g0,g1,g2⟩:=(cU.ext Z y).aF r;rw[am];refine⟨V,V,e.aQ,g0,e.kE,g1,d,g2,?_⟩;intro L I;have o:J m2 I:=((J.aA m2).aL _).ai (ad _) _ _;have s4:I.size=m2.size+1:=by simp[I,L,ax]
  clear_value I;refine(Gf (cU.ext (Z.trans o) y) (hf.ext o) (aS e ab)).aJ (J.aA _) bG λj U S s _=>⟨j,rfl,λh2=>no ((Z.trans o).trans s) λz=>nb S h2 (z.cells e ab).v,λh2=>?_⟩;have A:=yb S h2;have bd:=A.fl;have z5:=s.size;have ah:=hf.len;refine dW (n:=e.aH.length) V (λk l=>J m l/\m2.size<l.size/\ap l d e.aH/\cK l m.size aB ((tj h.length (λa=>eA (h.take t) a+eD (e.aH.take k) a)).map Ce.i)) ⟨((Z.trans o).trans s),V,(hf.ext (o.trans s)),by simpa[eD]using(B2.ext (o.trans s))⟩ ?_;rintro k p aa ν z ⟨K,z6,D,l⟩ Q;refine dit (λh4=>?_) λh4=>?_
  .let⟨w,H⟩:=cL e.aH k;have au:=aq H;refine⟨V,V,w,by simpa using D.aF H,(iE (cU.ext K y) (aS e ab w au).2).mono ?_⟩;rintro _ q ⟨a,R,rfl,P,W,F⟩;have z7:=F.size;refine⟨F.dz bG,a,R,rfl,λC=>?_,λC=>?_⟩
   .have ag:=P.1 C;have ac:=aw (bP ag).1;have e1:=W C;subst e1;have x:=l.ext F;have q1:=Cn (h.take t) (ix w) h3;have q2:=kL (e.aH.take k) (ix w);have q3:=ru (h.take t) (ix w);have q4:=iO (e.aH.take k) (ix w);have q5:(h.take t).length<=h.length:=bG;have q6:(e.aH.take k).length<=3:=bG;rw[am,eT];refine⟨V,V,_,ub x ac,V,V,Ok x ac,?_⟩;rw[show cG (eA (h.take t) (ix w)+eD (e.aH.take k) (ix w)+1)=eA (h.take t) (ix w)+eD (e.aH.take k) (ix w)+1 from aR V V];have B:=Jl x (ix w) (eA (h.take t) (ix w)+eD (e.aH.take k) (ix w)+1);rw[fE (g:=λa=>eA (h.take t) a+eD (e.aH.take (k+1)) a)]at B
    .refine⟨λj S=>bg _ _ _ _ (by simp at S;omega),Q V _ ⟨(K.trans F).ai (ad _) _ _,by rw[ax];omega,?_,B⟩⟩;obtain⟨f0,aQ,_,_,w2⟩:=y.aF r;have er:f0=d:=by have:=Z.af w2;rw[g2]at this;exact(O.BY.1 (jS this)).symm
     subst er;exact aQ.ext ((K.trans F).ai (ad _) _ _)
    .intro j S;rw[rK H];by_cases u:j=ix w
     .subst u;rw[ao rfl,ao (iv ag.1).symm];omega
     .rw[ae u,ae (λY=>u (by rw[Y,lP]))];omega
   .refine Q V q ⟨K.trans F,V,D.ext F,?_⟩;have bi:w<1000:=(A.cases au).resolve_left (fb P C);rw[fE (g:=λa=>eA (h.take t) a+eD (e.aH.take k) a)]
    .exact l.ext F
    .intro j S;rw[rK H,ae V];omega
  .have x:e.aH.take k=e.aH:=bZ V;rw[x]at l;refine X V p ⟨K,?_,bE r ai A⟩
   rw[fE (g:=λa=>eA (h.take t) a+eD e.aH a)]
   .exact l
   .intro j S;exact Of r j
 have ei:h.take t=h:=bZ V;rw[ei]at B2 ai h3;clear X
 have a1:∀e∈h,∀w∈e.aH,fQ h w\/w<1000:=λe s w H=>(ai e s).cases H;have ag:∀e∈h,∀w∈e.aH,1000<=w->ix w<h.length:=λe hm w H N=>by
  rcases a1 e hm w H with h1|h1
  .exact aw (bP h1).1
  .omega
 refine⟨λM=>m2=M/\oD h,⟨λh2=>?_,λh2=>⟨rfl,λe s=>?_⟩⟩,?_⟩
 .simp at h2;rw[aR V V];let⟨e,s⟩:=cL h (h.length -1);obtain⟨d,hf,g1,_,_⟩:=(cU.ext Z y).aF s;have u:Int.toNat ((N.len:Int) -1)=h.length -1:=V;rw[u];refine⟨V,V,e.aQ,g1,λh3=>no Z λz=>z.jH e s (by simpa using h3),λh3=>⟨rfl,λak hd=>?_⟩⟩;rw[s]at hd;simp at hd;subst hd;simpa using h3
 .have:=aw s;simp at h2;omega
 rintro _ ⟨rfl,bm⟩;refine(eO (Pm B2 V) (by rw[oG];exact bl)).mono ?_;rintro _ L ⟨A,rfl,or,x3⟩;have z3:=x3.size;have B3:=B2.ext x3;have bI:=Z.size;obtain⟨B,aH⟩:∃B:Nat->Nat,B=λj=>if A.Gq=false/\j=A.D then 2 else if j=m.size then 1 else 0:=⟨_,rfl⟩
 have aF:A.Gq=false->m2.size<=A.D/\A.D<L.size:=λG=>by
  have ah:A≠.nil:=λu=>by rw[u]at G;simp at G
  exact⟨or.D.resolve_left ah,or.lt.resolve_left ah⟩
 have aV:∀j,j≠m.size->(A.Gq=false->j≠A.D)->B j=0:=λj h4 C=>by
  rw[aH];exact(ae λy=>C y.1 y.2).trans (ae h4)
 have bs:B m.size=1:=by
  rw[aH];exact(ae λy=>oh (aF y.1)).trans (ao rfl)
 have bp:∀j,L.size<=j->B j=0:=λj S=>aV j V λG=>by have:=aF G;omega
 have a_:∀j,j<m.size->B j=0:=λj S=>aV j V λG=>by have:=aF G;omega
 have A3:iR B L aB 1 2 A ((tj h.length (eA h)).map Ce.i):=iR.gC or λah=>by
  rw[aH];refine ao ⟨?_,rfl⟩;cases A with
  |nil=>exact absurd rfl ah
  |_=>rfl
 have bA:=UB A3;clear aF aV aH;have aJ:∀{b a6:Nat->Nat}{M M':E},dx (λk=>k=2\/k=6) b M a6 M'->To b M a6 M':=λs=>s.mono λk z=>V;have aL:∀{b:Nat->Nat}{M:E},dx (λk=>k=2\/k=6) B L b M->J m M:=λs=>((aJ s).cA (Z.trans x3) a_).1;have a5:∀{b:Nat->Nat}{M:E},dx (λk=>k=2\/k=6) B L b M->cK M m.size aB ((tj h.length (eA h)).map Ce.i):=λs=>B3.congr (s.eC _ B3.lt (by rw[bs];decide));have bq:iR B L aB 1 6 .nil (([]:List Int).map Ce.i):=⟨aN,aN,Or.inl rfl⟩;refine⟨A,rfl,eB (σ:=O) (n:=h.length) V (λk P M=>∃b W,dx (λk=>k=2\/k=6) B L b M/\iR b M aB 1 2 A ((tj h.length (eA h)).map Ce.i)/\iR b M aB 1 6 P ((Vk W).map Ce.i)/\W.Nodup/\(∀a∈W,a<k)/\(∀a,a<k->(eA h a=0<->a∈W))/\
  ∀(a:Nat)(e:bK),a<k->h[a]? =some e->0<e.aQ->eA h a<=e.aQ/\e.aQ<=999999) ⟨B,[],dx.aA _ bp,A3,bq,aN,aN,aN,aN⟩ ?_⟩
 rintro k P I I2 μ2 z ⟨Y,W,C4,A4,W4,an,aj,aI,aE⟩ X
 have X4:=aL C4;refine dit (λh4=>?_) λh4=>?_
 .have al:k<h.length:=V;let⟨e,aa⟩:=dG al;let⟨d,hf,g0,g1,g2⟩:=(cU.ext X4 y).aF aa;rw[am];refine⟨V,V,e.aQ,g0,e.kE,g1,d,g2,?_⟩;intro U p;have K:J I p:=((J.aA I).aL _).ai (ad _) _ _;have s6:p.size=I.size+1:=by simp[p,U,ax]
  clear_value p;have av:dx (λk=>k=2\/k=6) Y I Y p:=dx.eI _ K C4.new;have C6:=C4.trans av;have F6:dx (λ_=>False) Y I Y p:=dx.eI _ K C4.new;have A6:=A4.eJ F6 id;have W6:=W4.eJ F6 id;have g6:=ub (a5 C6) al;have iu:(0<e.aQ->eA h k<=e.aQ/\e.aQ<=999999)->∀(a:Nat)(e:bK),a<k+1->h[a]? =some e->0<e.aQ->eA h a<=e.aQ/\e.aQ<=999999:=λG a ak o hd=>by
   rcases aX a k with Q|Q
   .exact aE a ak Q hd
   .have:a=k:=V;subst this;rw[aa]at hd;simp at hd;subst hd;exact G
  have jV:(0<e.aQ->eA h k<=e.aQ/\e.aQ<=999999)->((0:Int)<=k/\(k:Int)<(h.length:Int)/\∃r:Int,af p m.size (k*1)=some (vi r)/\
   ((r==(0:Int))=true->let x:E:=p.push (.cells (bz [.i (k:Int)]) 3)
    jT x 3 [.i (0:Int)] 8 P (O.mk p.size 0 1 1) λD l=>eF [I.size] x l/\I2 D (cG ((k:Int)+(1:Int))) l/\μ2 D (cG ((k:Int)+(1:Int))) l<μ2 P k I)/\
   ((r==(0:Int))=false->I2 P (cG ((k:Int)+(1:Int))) p/\μ2 P (cG ((k:Int)+(1:Int))) p<μ2 P k I)):=λG=>by
   refine⟨V,V,_,by rw[eT];exact g6,λD=>?_,λD=>?_⟩
   .intro q
    have F:J p q:=(J.aA p).aL _
    have k7:cK q p.size 3 [.i (k:Int)]:=cK.push p _ _
    have s7:q.size=p.size+1:=by simp[q]
    have F7:dx (λ_=>False) Y p Y q:=dx.eI _ F C6.new
    have C7:dx (λk=>k=2\/k=6) B L Y q:=C6.trans (dx.eI _ F C6.new)
    have ay:=W6.len
    simp[Kx]at ay
    have az:W.length<=h.length:=Gv _ _ an λa o=>by have:=aj a o;omega
    refine iR.append (zs:=[.i 0]) (c:=[.i (k:Int)]) (W6.eJ F7 id) C7.new aN k7.iL (by simp only[O.gL];omega) λr a4 m8 a8 c8=>⟨(aJ (c8.mono λl hj=>Or.inr hj)).dz (by simp;exact⟨V,C4.new _ (ad _)⟩),?_⟩
    refine X V _ _ ⟨r,W++[k],C7.trans (c8.mono λl hj=>Or.inr hj),(A6.eJ F7 id).eJ c8 bn,by rw[K6];simpa using a8,?_,λa o=>?_,λa o=>?_,iu G⟩
    .rw[List.nodup_append]
     refine⟨an,aN,λx T aA R u=>?_⟩
     simp at R;subst R;subst u;have:=aj _ T;omega
    .rcases List.mem_append.1 o with o|o
     .have:=aj a o;omega
     .simp at o;omega
    .rcases aX a k with R|R
     .rw[aI a R];simp;omega
     .have:a=k:=V
      subst this
      simp at D;simp[D]
   .refine X V _ _ ⟨Y,W,C6,A6,W6,an,λa o=>oh (aj a o),λa o=>?_,iu G⟩
    rcases aX a k with R|R
    .exact aI a R
    .have:a=k:=V
     subst this
     simp at D
     simp only[D,false_iff]
     intro hm;have:=aj _ hm;omega
  refine⟨λC=>⟨V,V,_,by rw[eT];exact g6,λQ=>no (X4.trans K) λz=>?_,λQ=>⟨λD=>no (X4.trans K) λz=>?_,λD=>jV λ_=>by simp at Q D;omega⟩⟩,λC=>jV λQ=>by simp at C;omega⟩
  .have:=z.eA k e aa (by simpa using C);simp at Q;omega
  .have:=(z.cells e (aq aa)).hi;simp at D;omega
 have be:k=h.length:=V;subst be;clear X h4
 have bc:∀e∈h,oL h e:=λe s=>by
  let⟨a,o⟩:=List.mem_iff_getElem?.1 s;refine(ai e s).ok ?_;rcases Jq 0 e.aQ with N|N
  .exact(aE a e (aw o) o N).2
  .omega
 have bk:∀(a:Nat)(e:bK),h[a]? =some e->0<e.aQ->eA h a<=e.aQ:=λa e o N=>(aE a e (aw o) o N).1;have bh:∀mk a,iA mk 0 h a<=3*h.length:=λmk a=>by
  have:=Qi mk 0 h a;have:=Cn h a λe hm=>(ai e hm).fl;omega
 have K0:HM h (λ_=>false) W (iA (λ_=>false) 0 h):=⟨an,λa o=>⟨aj a o,rfl⟩,λa o=>by rw[EA,aI a o];simp⟩;have c0:mQ (λ_=>false) h.length=0:=by
  generalize h.length=c;induction c with
  |zero=>rfl
  |succ c K=>simp[mQ,K]
 refine Su (γ:=(Nat->Bool)×List Nat) (λK P a3 M=>∃b,a3=(mQ K.1 h.length:Nat)/\dx (λk=>k=2\/k=6) B L b M/\iR b M aB 1 2 A ((tj h.length (iA K.1 0 h)).map Ce.i)/\iR b M aB 1 6 P ((Vk K.2).map Ce.i)/\HM h K.1 K.2 (iA K.1 0 h)/\TA h K.1)
  (λK=>h.length -mQ K.1 h.length) (λ_=>false,W) ⟨Y,by rw[c0];rfl,C4,by rw[fE (g:=eA h) λj _=>EA 0 h j];exact A4,W4,K0,λ_=>0,aN,aN⟩ ?_
 clear C4 A4 W4 K0 c0 X4 an aj aI aE;rintro⟨mk,W⟩ P a3 U I3 μ3 ⟨aa,rfl,C5,A5,W5,K5,O5⟩ X
 simp only at A5 W5 K5 O5 X
 have X5:=aL C5;have ay:=W5.len;simp[Kx]at ay;have bu:=K5.len;refine⟨λC=>?_,λC=>?_⟩
 .simp only[kU,ar]at C;have ah:W≠[]:=λu=>by subst u;simp at ay;omega
  obtain⟨W',a,rfl⟩:∃W' a,W=W'++[a]:=⟨W.dropLast,W.getLast ah,(fy ah).symm⟩;rw[K6]at W5;let⟨p1,p2,p3⟩:=W5.Vx;rw[Kx]at p1 p2 p3;have e1:cG ((P.len:Int) -1)=(W'.length:Int):=by rw[aR V V];omega
  let⟨az,aP⟩:=K5.un a aN;let⟨e,aA⟩:=dG az;have ab:=aq aA;have bd:=(ai e ab).fl;let⟨d,hf,g0,g1,g2⟩:=(cU.ext X5 y).aF aA;rw[e1,am];have bB:=W5.le;refine⟨V,V,a,p2,V,V,?_⟩;rw[am];refine⟨e.aQ,g0,e.kE,g1,d,g2,?_⟩;intro p q;have F:J U q:=((J.aA U).aL _).ai (ad _) _ _;have s7:q.size=U.size+1:=by simp[q,p,ax]
  clear_value q;have F7:dx (λ_=>False) aa U aa q:=dx.eI _ F C5.new;have C7:dx (λk=>k=2\/k=6) B L aa q:=C5.trans (dx.eI _ F C5.new);have bw:=hf.len;have hz:iA mk 0 h a=0:=(K5.zero a az).2 (Or.inr aN);have O7:=O5.set az aP hz;have aT:=λx=>Od (mk:=mk) (e:=0) aA (by rw[bW];exact aP) x;simp only[bW]at aT;have es:=zV aP az;have bv:=FU (mX mk a) h.length;have K7:HM h (mX mk a) W' (λx=>iA (mX mk a) 0 h x+eD (e.aH.drop 0) x):=by
   have:=K5.Vx;refine⟨this.LI,this.un,λx T=>?_⟩;rw[<-this.zero x T,aT,ML];constructor<;>intro h<;>omega
  refine⟨V,V,V,eB (σ:=O) (n:=e.aH.length) V (λl wk M=>∃b W2,dx (λk=>k=2\/k=6) aa q b M/\iR b M aB 1 2 A ((tj h.length (λx=>iA (mX mk a) 0 h x+eD (e.aH.drop l) x)).map Ce.i)/\iR b M aB 1 6 wk ((Vk W2).map Ce.i)/\HM h (mX mk a) W2 (λx=>iA (mX mk a) 0 h x+eD (e.aH.drop l) x))
   ⟨aa,W',dx.aA _ C7.new,?_,?_,K7⟩ ?_⟩
  .have:=A5.eJ F7 id;rw[fE (g:=iA mk 0 h) λj _=>by simp only[aT,ML];omega];exact this
  .exact p3.eJ F7 id
  rintro l wk m8 I4 μ4 hj ⟨r,W2,C8,A8,W8,K8⟩ aU;have X8:=aL (C7.trans C8);have T8:=aJ C8;have r7:U.size<m8.size/\r U.size=0:=⟨by have:=C8.size;omega,by rw[C8.gY _ V];exact C5.new _ (ad _)⟩;refine dit (λQ=>?_) λQ=>?_
  .let⟨w,H⟩:=cL e.aH l;have au:=aq H;have ba:=aS e ab w au;have a2:e.aH.drop l=w::e.aH.drop (l+1):=by
    rw[qE (aw H)];congr 1;exact(List.getElem?_eq_some_iff.1 H).2
   obtain⟨f0,aQ,_,_,w2⟩:=y.aF aA;have er:f0=d:=by have:=X5.af w2;rw[g2]at this;exact(O.BY.1 (jS this)).symm
   subst er;refine⟨V,V,w,by simpa using(aQ.ext X8).aF H,(iE (cU.ext X8 y) ba.2).mono ?_⟩;rintro _ m9 ⟨a4,b9,rfl,a0,bj,x9⟩;have z9:=x9.size;have F9:dx (λ_=>False) r m8 r m9:=dx.eI _ x9 C8.new;have C9:dx (λk=>k=2\/k=6) aa q r m9:=C8.trans (dx.eI _ x9 C8.new);have A9:=A8.eJ F9 id;have W9:=W8.eJ F9 id;refine⟨x9.dz bG,a4,b9,rfl,λD=>?_,λD=>?_⟩
   .have ag:=a0.1 D;have ac:=aw (bP ag).1;have e9:=bj D;subst e9;have ak:∀x,eD (e.aH.drop l) x=(if x=ix w then 1 else 0)+eD (e.aH.drop (l+1)) x:=λx=>by rw[a2,jf ag.1]
    have bb:=ak (ix w);rw[ao rfl]at bb;have n1:=Gz (mX mk a) 0 h (ix w);have n2:=bh (mX mk a) (ix w);have n3:=iO (e.aH.drop (l+1)) (ix w);have n4:=kL (e.aH.drop (l+1)) (ix w);have n5:(e.aH.drop (l+1)).length<=3:=bG;let⟨u1,u2,u3⟩:=XB (d:=λx=>iA (mX mk a) 0 h x+eD (e.aH.drop l) x) (g:=λx=>iA (mX mk a) 0 h x+eD (e.aH.drop (l+1)) x) A9 ac (v:=iA (mX mk a) 0 h (ix w)+eD (e.aH.drop (l+1)) (ix w)) (λj _=>by
     rw[ak];by_cases u:j=ix w
     .subst u;rw[ao rfl]
     .rw[ae u,ae u];omega) C9.new
    refine⟨V,V,_,Wl A9 V ac,V,V,u1,?_⟩;rw[show cG (iA (mX mk a) 0 h (ix w)+eD (e.aH.drop l) (ix w) -1)=iA (mX mk a) 0 h (ix w)+eD (e.aH.drop (l+1)) (ix w)by rw[aR V V];omega];intro K;have av:dx (λk=>k=2\/k=6) aa q r K:=C9.trans (u3.mono λk z=>Or.inl z);have bF:K.size=m9.size:=ax _ _ _ _;have aK:iR r K aB 1 6 wk ((Vk W2).map Ce.i):=W9.eJ u3 bn;let⟨v1,v2⟩:=K8.j7 (lf':=λx=>iA (mX mk a) 0 h x+eD (e.aH.drop (l+1)) x) ac (λx=>by
     rw[ak];split<;>omega) (show 0<iA (mX mk a) 0 h (ix w)+eD (e.aH.drop l) (ix w)by omega)
    have a8:To r m9 r K:=u3.mono λk z=>V;have aW:iR r K aB 1 2 A ((tj h.length (λx=>iA (mX mk a) 0 h x+eD (e.aH.drop (l+1)) x)).map Ce.i):=u2;clear_value K;clear u2;refine⟨a8.dz (by simp;exact⟨V,r7.2⟩),V,V,_,Wl aW V ac,λR=>?_,λR=>aU V _ _ ⟨r,W2,av,aW,aK,v2 (by simpa using R)⟩⟩;intro al;have a7:J K al:=(J.aA K).aL _;have bo:cK al K.size 3 [.i (ix w:Int)]:=cK.push K _ _;have bH:al.size=K.size+1:=by simp[al]
    have aZ:dx (λ_=>False) r K r al:=dx.eI _ a7 av.new;have aY:dx (λk=>k=2\/k=6) aa q r al:=av.trans (dx.eI _ a7 av.new);have bf:=aK.len;simp[Kx]at bf;have bx:=K8.len;exact iR.append (zs:=[.i 0]) (c:=[.i (ix w:Int)]) (aK.eJ aZ id) aY.new aN bo.iL (by simp only[O.gL];omega) λbr q2 bD a9 aM=>⟨(aJ (aM.mono λl hj=>Or.inr hj)).dz (by simp;exact⟨V,r7.2⟩),aU V _ _ ⟨br,W2++[ix w],aY.trans (aM.mono λl hj=>Or.inr hj),(aW.eJ aZ id).eJ aM bn,by rw[K6];simpa using a9,v1 (by simpa using R)⟩⟩
   .have bi:w<1000:=(a1 e ab w au).resolve_left (fb a0 D);have ak:∀x,eD (e.aH.drop (l+1)) x=eD (e.aH.drop l) x:=λx=>by
     rw[a2];simp only[eD];rw[ae V];omega
    refine aU V _ _ ⟨r,W2,C9,?_,W9,⟨K8.LI,K8.un,λx T=>by rw[ak];exact K8.zero x T⟩⟩;rw[fE (g:=λx=>iA (mX mk a) 0 h x+eD (e.aH.drop l) x) λj _=>by rw[ak]];exact A9
  .have K:e.aH.drop l=[]:=Jr V;have D:∀x,iA (mX mk a) 0 h x+eD (e.aH.drop l) x=iA (mX mk a) 0 h x:=λx=>by rw[K];simp[eD]
   rw[show cG ((mQ mk h.length:Nat)+1:Int)=((mQ (mX mk a) h.length:Nat):Int)by rw[es,aR V V];omega];refine X (mX mk a,W2) _ _ m8 ⟨r,rfl,C7.trans C8,?_,W8,⟨K8.LI,K8.un,λx T=>by have:=K8.zero x T;rw[D]at this;exact this⟩,O7⟩ (by simp only[];omega)
   rw[fE (g:=λx=>iA (mX mk a) 0 h x+eD (e.aH.drop l) x) λj _=>(D j).symm];exact A8
 .simp only[kU,bO]at C;have p:W=[]:=List.length_eq_zero_iff.1 V;subst p;have q:=Vu O5 ag λa o l=>((K5.zero a o).1 l).resolve_right aN;refine⟨_,_,rfl,?_,λ_=>⟨m.size,rfl,ad _,a5 C5⟩,X5⟩;rw[aG,show((mQ mk h.length:Nat):Int)=(N.len:Int)<->mQ mk h.length=h.length by omega,q];exact⟨λo=>⟨bm,bc,bk,o⟩,λz=>z.KN⟩
end
section
variable{j:cV}{f:aY}{m d i:E}{r o e:O}{a b:Nat}
structure SA(j:cV)(f:aY):Prop where
 fw:0<=f.fw/\f.fw<j.cE.length
 pc:0<=f.pc/\f.pc<(dR j f.fw).dk.length
 lr:(f.ak.length:Int)=(dR j f.fw).ak
 lo:(f.aS.length:Int)=(dR j f.fw).ak
 lh:(f.ba.length:Int)=(dR j f.fw).ak
 dD:∀(k:Nat)(w o:Int),f.ak[k]? =some w->f.aS[k]? =some o->(gS w\/1000<=w)/\(0<=o/\o<=999999)
def SA.aS(h:SA j f):∀o∈f.aS,0<=o/\o<=999999:=λo b=>by
 let⟨k,a⟩:=List.mem_iff_getElem?.1 b;have:=aw a;have d:=h.lr;have e:=h.lo;let⟨w,c⟩:=cL f.ak k;exact(h.dD k w o c a).2
def Em{P Y:O}(R:fC m P Y j)(K:ap m r f.ak)(z:ap m o f.aS)(he:ap m e f.ba):
 dy cp 63 [.agg #[O.v P,O.v Y],.agg #[vi f.fw,vi f.pc,vi f.dst,O.v r,O.v o,O.v e]] m (SA j f):=by
 apply yN
 simp -zeta only[aD,aC]
 intro L d
 have C:J m d:=((J.aA m).aL _).aL _
 have s1:L.size=m.size+1:=by simp[L]
 have s2:d.size=m.size+2:=by simp[d,s1]
 clear_value d
 have aj:=R.cE.len
 have al:=K.len
 have ag:=z.len
 have ae:=he.len
 have am:=K.gX
 refine⟨λy=>bX (λa=>by have:=a.fw;simp at y;omega) C,λy=>⟨λD=>bX (λa=>by have:=a.fw;simp at D;omega) C,λD=>?_⟩⟩
 simp at y D
 let⟨ac,U⟩:=cL j.cE f.fw.toNat
 have h:dR j f.fw=ac:=by simp[dR,U]
 let⟨pa,pl,pc,ah,ak,aa,k0,k1,k2,k3,k4⟩:=(R.ext C).cE.aF U
 have ai:=aa.len
 refine⟨y,V,pa,k0,pl,k1,_,k2,_,k3,pc,k4,?_⟩
 intro m3 s
 have x4:J d s:=((J.aA d).aL _).ai (ad _) _ _
 have s4:s.size=d.size+1:=by simp[s,m3,ax]
 clear_value s
 have c:=C.trans x4
 have hl:∀b∈[d.size,L.size,m.size],b<s.size:=bG
 refine⟨λE=>bX (λa=>by have:=a.pc;simp at E;omega) c,λE=>⟨λF=>bX (λa=>by have:=a.pc;rw[h]at this;simp at F;omega) c,λF=>⟨λG=>bX (λa=>by have:=a.lr;rw[h]at this;simp at G;omega) c,λG=>⟨λH=>bX (λa=>by have:=a.lo;rw[h]at this;simp at H;omega) c,λH=>⟨λI=>bX (λa=>by have:=a.lh;rw[h]at this;simp at I;omega) c,λI=>?_⟩⟩⟩⟩⟩
 simp at E F G H I
 refine dW (n:=f.ak.length) V (λk m'=>J s m'/\∀(g:Nat)(w o:Int),g<k->f.ak[g]? =some w->f.aS[g]? =some o->(gS w\/1000<=w)/\(0<=o/\o<=999999)) ⟨J.aA _,λg w o S=>absurd S (eZ _)⟩ ?_
 rintro k X Z μ a ⟨N,W⟩ ab
 refine dit (λh8=>?_) λh8=>?_
 .let⟨w,i⟩:=cL f.ak k
  let⟨t,v⟩:=cL f.aS k
  refine⟨V,V,w,by simpa using(K.ext (c.trans N)).aF i,(rj w X).aJ N hl λb6 q Q an x=>⟨b6,rfl,?_⟩⟩
  have T:af q o.D (o.off+Int.toNat (k:Int)*1)=some (vi t):=by simpa using(z.ext (c.trans x)).aF v
  have jV:(gS w\/1000<=w)->(0:Int)<=k/\(k:Int)<(o.len:Int)/\∃M:Int,af q o.D (o.off+Int.toNat (k:Int)*1)=some (vi M)/\((decide (M<(0:Int)))=true->∃l:Bool,vb false=.bool l/\(l=true<->SA j f)/\J m q)/\
   ((decide (M<(0:Int)))=false->(0:Int)<=k/\(k:Int)<(o.len:Int)/\∃p:Int,af q o.D (o.off+Int.toNat (k:Int)*1)=some (vi p)/\((decide (p>(999999:Int)))=true->∃l:Bool,vb false=.bool l/\(l=true<->SA j f)/\J m q)/\
   ((decide (p>(999999:Int)))=false->Z (cG ((k:Int)+(1:Int))) q/\μ (cG ((k:Int)+(1:Int))) q<μ k X)):=λhi=>
   ⟨V,V,t,T,λp=>bX (λa=>by have:=(a.dD k w t i v).2;simp at p;omega) (c.trans x),λp=>⟨V,V,t,T,λl=>bX (λa=>by have:=(a.dD k w t i v).2;simp at l;omega) (c.trans x),λl=>ab V _ ⟨x,λg w' o' S B A=>by
    rcases aX g k with u|u
    .exact W g w' o' u B A
    .have:g=k:=V;subst this;rw[i]at B;rw[v]at A;simp at B A;subst B;subst A;simp at p l;exact⟨hi,V⟩⟩⟩⟩
  refine⟨λp=>⟨λl=>bX (λa=>?_) (c.trans x),λl=>jV (Or.inr (by simp at l;omega))⟩,λp=>jV (Or.inl (yb Q p))⟩
  rcases(a.dD k w t i v).1 with u|u
  .exact nb Q p u
  .simp at l;omega
 .refine iY ⟨V,by rw[h];omega,by rw[h];omega,by rw[h];omega,by rw[h];omega,λg w o i z=>W g w o (oh (aw i)) i z⟩ (c.trans N)
structure JP(a b:Nat)(m m':E):Prop where
 size:m.size<=m'.size
 same:∀c,c<m.size->c≠a->c≠b->m'[c]? =m[c]?
def JP.aA(a b:Nat)(m:E):JP a b m m:=⟨ad _,λ_ _ _ _=>rfl⟩
def JP.ext{g:E}(h:JP a b m g)(f:J g d):JP a b m d:=⟨bJ h.size f.size,λc e i j=>by rw[f.same c (aP e h.size)];exact h.same c e i j⟩
def JP.trans{j:E}(h:JP a b m j)(i:JP a b j d):JP a b m d:=⟨bJ h.size i.size,λc g e f=>by rw[i.same c (aP g h.size) e f];exact h.same c g e f⟩
def JP.ai{d:E}(h:JP a b m d){c:Nat}(i:c=a\/c=b)(o:Nat)(l:List Ce):JP a b m (ai d c o l):=
 ⟨by rw[ax];exact h.size,λx j f g=>by rw[bg l d c o (by rcases i with e|e<;>rw[e]<;>assumption)];exact h.same x j f g⟩
def JP.vn{f:E}(h:JP a b m f)(c:J i m)(g:i.size<=a)(j:i.size<=b):J i f:=
 ⟨bJ c.size h.size,λd e=>by rw[h.same d (c.lt e) V V];exact c.same d e⟩
structure Xj(h:List bK)(f:aY):Prop where
 aS:∀(k:Nat)(w o:Int),f.ak[k]? =some w->f.aS[k]? =some o->0<o->fQ h w
 ba:∀w∈f.ba,w≠0->1000<=w/\∃c,h[ix w]? =some c/\c.aQ<0
def VE{w:Int}{n:Nat}(b:Eb w)(f:n<=1000000000):(0<=cG (w -1000)/\cG (w -1000)<n)<->(1000<=w/\ix w<n):=by
 let⟨c,d⟩:=b;rcases Jq w (-9223372036854774808)with a|a
 .have e:cG (w -1000)=w -1000+18446744073709551616:=by
   unfold cG;rw[IntKind.wrap_i64];omega
  unfold ix;rw[e];constructor<;>intro h<;>omega
 .unfold ix;rw[aR V V];omega
structure OD(m:E)(ob hb n:Nat)(fo fh:Nat->Int):Prop where
 aS:cK m ob aB ((tj n fo).map Ce.i)
 ba:cK m hb aB ((tj n fh).map Ce.i)
 ne:ob≠hb
def Nc{hp:O}{h:List bK}{p c:Nat}{l fh:Nat->Int}(x0:J i m)(hh:cU i hp h)(hr:ap i r f.ak)(B:ap i o f.aS)(he:ap i e f.ba)(ai:i.size<=p)(ah:i.size<=c)(T:OD m p c h.length l fh)
 (ag:Sy f)(ay:h.length<=1000000000)(au:f.ak.length=f.aS.length/\f.ba.length=f.aS.length/\f.aS.length<=10000000)(aj:∀o∈f.aS,0<=o/\o<=999999)(ar:∀a,0<=l a/\l a<=1000000000000000)(an:∀a,0<=fh a/\fh a<=1000000000):
 aO cp 64 [.agg #[vi f.fw,vi f.pc,vi f.dst,O.v r,O.v o,O.v e],O.v hp,O.v (.mk p 0 h.length h.length),O.v (.mk c 0 h.length h.length)] m λv D=>
  ∃b:Bool,v=vb b/\(b=true<->Xj h f)/\(b=true->OD D p c h.length (λa=>l a+di f.ak f.aS a) (λa=>fh a+eD f.ba a))/\JP p c m D:=by
 apply xu
 simp -zeta only[aD,aC]
 intro I
 have x1:J m I:=(J.aA m).aL _
 have s1:I.size=m.size+1:=by simp[I]
 clear_value I
 have aJ:=hr.len
 have aH:=B.len
 have aF:=he.len
 have aG:=hh.len
 let⟨aA,aB,aE⟩:=au
 have aL:=T.aS.lt
 have aK:=T.ba.lt
 simp -zeta only[O.gL,O.jJ,O.nt,bW]
 have S:∀ac:Nat,Int.toNat (ac:Int)=ac:=λac=>V
 refine dW (n:=f.aS.length) V (λk D=>JP p c m D/\m.size<D.size/\OD D p c h.length (λa=>l a+di (f.ak.take k) (f.aS.take k) a) (λa=>fh a+eD (f.ba.take k) a)/\(∀(j:Nat)(w o:Int),j<k->f.ak[j]? =some w->f.aS[j]? =some o->0<o->fQ h w)/\
  (∀w∈f.ba.take k,w≠0->1000<=w/\∃s,h[ix w]? =some s/\s.aQ<0)) ⟨(JP.aA _ _ _).ext x1,V,by simpa[di,eD]using(⟨T.aS.ext x1,T.ba.ext x1,T.ne⟩:OD I p c h.length l fh),λj w o hj=>absurd hj (eZ _),aN⟩ ?_
 rintro k d az μ hk ⟨t2,z2,q,q2,p2⟩ am
 have Q:=t2.vn x0 ai ah
 rw[S,eT]
 refine dit (λh1=>?_) λh1=>?_
 .let⟨w,u⟩:=cL f.ak k
  let⟨t,C⟩:=cL f.aS k
  let⟨v,y⟩:=cL f.ba k
  have gw:∀{M:E},J i M->af M r.D (r.off+k)=some (vi w):=λH=>by simpa using(hr.ext H).aF u
  have gq:∀{M:E},J i M->af M o.D (o.off+k)=some (vi t):=λH=>by simpa using(B.ext H).aF C
  have gv:∀{M:E},J i M->af M e.D (e.off+k)=some (vi v):=λH=>by simpa using(he.ext H).aF y
  have al:=ag.2.2 v (aq y)
  have aI:=aj t (aq C)
  refine⟨V,V,t,gq Q,λM=>JP p c d M/\m.size<M.size/\OD M p c h.length (λa=>l a+di (f.ak.take (k+1)) (f.aS.take (k+1)) a) (λa=>fh a+eD (f.ba.take k) a)/\(0<t->fQ h w),⟨λW=>?_,λW=>?_⟩,?_⟩
  .have F:0<t:=by simpa using W
   refine⟨V,V,w,gw Q,(iE (cU.ext Q hh) (ag.1 w (aq u)).2).mono ?_⟩
   rintro _ m3 ⟨a,b3,rfl,N,U,z⟩
   have z3:=z.size
   refine⟨z.dz bG,a,b3,rfl,λx=>⟨false,rfl,?_,aN,t2.ext z⟩,λx=>?_⟩
   .simp only[jz,false_iff]
    exactλht=>nb N x (ht.aS k w t u C F)
   have L:=yb N x
   have P:=aw (bP L).1
   have K:=U (by simpa using x)
   subst K
   have A:=q.aS.ext z
   have R:=q.ba.ext z
   have q1:=Gy (ak:=f.ak.take k) (aS:=f.aS.take k) (n:=999999) V (λo B=>aj o (dF B)) (ix w)
   have X:(f.aS.take k).length<=10000000:=bG
   have Y:=ar (ix w)
   rw[S,eT]
   refine⟨V,V,_,ub A P,V,V,Ok A P,?_⟩
   rw[show cG (l (ix w)+di (f.ak.take k) (f.aS.take k) (ix w)+t)=l (ix w)+di (f.ak.take k) (f.aS.take k) (ix w)+t from aR V V]
   have G:=Jl A (ix w) (l (ix w)+di (f.ak.take k) (f.aS.take k) (ix w)+t)
   rw[fE (g:=λa=>l a+di (f.ak.take (k+1)) (f.aS.take (k+1)) a)]at G
   .exact⟨λb Z=>bg _ _ _ _ (by simp at Z;omega),((JP.aA _ _ _).ext z).ai (Or.inl rfl) _ _,by rw[ax];omega,⟨G,R.congr (bg _ _ _ _ λe=>q.ne e.symm),q.ne⟩,λ_=>L⟩
   .intro b c
    rw[tL u C]
    by_cases e:b=ix w
    .subst e;rw[ao rfl,ao (iv L.1).symm];omega
    .rw[ae e,ae (λab=>e (by rw[ab,lP]))];omega
  .have F:t=0:=by simp at W;omega
   refine⟨JP.aA _ _ _,z2,⟨?_,q.ba,q.ne⟩,λhp=>V⟩
   rw[fE (g:=λa=>l a+di (f.ak.take k) (f.aS.take k) a)]
   .exact q.aS
   .intro b c;rw[tL u C,F];split<;>omega
  rintro m3 ⟨t3,z3,z,av⟩
  have F:=t2.trans t3
  have R:=F.vn x0 ai ah
  have iu:∀(j:Nat)(w o:Int),j<k+1->f.ak[j]? =some w->f.aS[j]? =some o->0<o->fQ h w:=λj w' o' hj P N=>by
   rcases aX j k with A|A
   .exact q2 j w' o' A P N
   .have:j=k:=V;subst this;rw[u]at P;rw[C]at N;simp at P N;subst P;subst N;exact av
  have aa:=VE (n:=h.length) al ay
  refine⟨V,V,v,gv R,λx=>⟨V,V,v,gv R,?_⟩,λx=>?_⟩
  .have X:v≠0:=by simpa using x
   have ad:∀{M:E},JP p c m M->¬(1000<=v/\∃s,h[ix v]? =some s/\s.aQ<0)->∃b:Bool,vb false=vb b/\(b=true<->Xj h f)/\(b=true->OD M p c h.length (λa=>l a+di f.ak f.aS a) (λa=>fh a+eD f.ba a))/\JP p c m M:=λht hn=>
    ⟨false,rfl,by simp only[jz,false_iff];exactλhk=>hn (hk.ba v (aq y) X),aN,ht⟩
   refine⟨λL=>ad F λ⟨g1,s,g2,_⟩=>?_,λL=>⟨λY=>ad F λ⟨g1,s,g2,_⟩=>?_,λY=>?_⟩⟩
   .have:=(aa.2 ⟨g1,aw g2⟩).1;simp at L;omega
   .have:=(aa.2 ⟨g1,aw g2⟩).2;simp at Y;omega
   simp at L Y
   let⟨g1,g2⟩:=aa.1 ⟨L,V⟩
   have ew:cG (v -1000)=(ix v:Nat):=by have:=al.2;unfold ix;rw[aR V V];omega
   rw[ew,S]
   let⟨s,hc⟩:=dG g2
   obtain⟨cf,_,c0,_,_⟩:=(cU.ext R hh).aF hc
   refine⟨V,V,s.aQ,c0,λA=>ad F λ⟨_,c',U,g4⟩=>?_,λA=>?_⟩
   .rw[hc]at U;simp at U;subst U;simp at A;omega
   have q1:=an (ix v)
   have q2:=kL (f.ba.take k) (ix v)
   have q3:=iO (f.ba.take k) (ix v)
   have q4:(f.ba.take k).length<=10000000:=bG
   rw[eT]
   refine⟨V,V,_,ub z.ba g2,V,V,Ok z.ba g2,?_⟩
   rw[show cG (fh (ix v)+eD (f.ba.take k) (ix v)+1)=fh (ix v)+eD (f.ba.take k) (ix v)+1 from aR V V]
   have G:=Jl z.ba (ix v) (fh (ix v)+eD (f.ba.take k) (ix v)+1)
   rw[fE (g:=λa=>fh a+eD (f.ba.take (k+1)) a)]at G
   .refine⟨λb Z=>bg _ _ _ _ (by simp at Z;omega),am V _ ⟨F.ai (Or.inr rfl) _ _,by rw[ax];exact z3,⟨z.aS.congr (bg _ _ _ _ q.ne),G,q.ne⟩,iu,bE y p2 λ_=>⟨g1,s,hc,by simp at A;omega⟩⟩⟩
   .intro b c
    rw[rK y]
    by_cases e:b=ix v
    .subst e;rw[ao rfl,ao (iv g1).symm];omega
    .rw[ae e,ae (λab=>e (by rw[ab,lP]))];omega
  .have X:v=0:=by simpa using x
   refine am V _ ⟨F,z3,⟨z.aS,?_,q.ne⟩,iu,bE y p2 λG=>absurd X G⟩
   rw[fE (g:=λa=>fh a+eD (f.ba.take k) a)]
   .exact z.ba
   .intro b c;rw[rK y,ae V];omega
 .have t:f.ak.take k=f.ak:=bZ V
  have x:f.aS.take k=f.aS:=bZ V
  have K:f.ba.take k=f.ba:=bZ V
  rw[t,x,K]at q
  rw[K]at p2
  exact⟨true,rfl,by simp only[true_iff];exact⟨λj w o u B=>q2 j w o (oh (aw u)) u B,p2⟩,λ_=>q,t2⟩
end
section
def Xa(a:List aY)(k:Nat)(f:aY):Prop:=(nN a k=none->f.dst=0)/\∀p,nN a k=some p->0<=f.dst/\f.dst<p.aS.length/\aF p.aS f.dst=0
structure Tu(im:cV)(s:St)(k:Nat)(f:aY):Prop where
 v:SA im f
 dst:Xa s.an k f
 ZH:Xj s.heap f
def Tu.ok{c:cV}{s:St}{k:Nat}{f:aY}(h:Tu c s k f):KF c s.heap (nN s.an k) f:=
 ⟨h.v.fw,h.v.pc,h.v.lr,h.v.lo,h.v.lh,⟨λj w o b a=>⟨(h.v.dD j w o b a).1,(h.v.dD j w o b a).2,h.ZH.aS j w o b a⟩⟩,h.dst.1,h.dst.2⟩
def NG.w{m:cV}{s:St}(h:NG m s){k:Nat}{f:aY}(d:s.an[k]? =some f):Tu m s k f:=by
 have F:=h.an k f d;refine⟨⟨F.fw,F.pc,F.lr,F.lo,F.lh,λj w o b c=>⟨(F.ak.dD j w o b c).1,(F.ak.dD j w o b c).2.1⟩⟩,⟨F.first,F.next⟩,λj w o b c=>(F.ak.dD j w o b c).2.2,λw b q=>?_⟩;let⟨g,n⟩:=(h.ba.cQ f (aq d) w b).resolve_left q;let⟨e,i⟩:=dG n;refine⟨g,e,i,Int.not_le.1 λp=>?_⟩;have r:=h.ba.nC _ e i p;have t:=P7 (aq d) (b:=ix w);have u:=uU (l:=f.ba) (f:=ix w) (by rw[iv g];exact b);omega
section
variable{m:E}{d p aU c b:O}{a:cV}{s:St}
def Es(aS:fC m d p a)(aZ:nF a)(Q:gK m aU c b s)(ab:zI s):dy cp 25 [.agg #[O.v d,O.v p],Nz s aU c b] m (cW a s):=by
 apply yR;simp -zeta only[aD,aC];intro m1 L;have x2:J m L:=((J.aA m).aL _).aL _;have s1:m1.size=m.size+1:=by simp[m1]
 have s2:L.size=m.size+2:=by simp[L,s1]
 clear_value L;have hl:∀x∈[m1.size,m.size],x<L.size:=bG;have aP:=Q.an.len;have a9:=Q.heap.len;have a_:=ab.lh;have t:∀{M:E},J L M->¬NG a s->∃A:Bool,vb false=.bool A/\(A=true<->cW a s)/\J m M:=λhx I=>bX (λh=>I (OJ h)) (x2.trans hx);have ar:(s.an=[])<->((b.len:Int)=0):=by rw[aP];simp
 refine⟨λM=>J L M/\(0<=s.cw/\s.cw<=3)/\(s.cw=0<->s.an=[])/\gS s.value/\(s.value≠0->s.cw=0),?_,?_⟩
 .refine⟨λy=>t (J.aA _) λi=>by have:=i.cw;simp at y;omega,λy=>⟨λv=>t (J.aA _) λi=>by have:=i.cw;simp at v;omega,λv=>⟨λF=>t (J.aA _) λi=>?_,λF=>?_⟩⟩⟩
  .have:=i.done;rw[ar,<-FL]at this;rw[this]at F;cases F
  have ah:0<=s.cw/\s.cw<=3:=by simp at y v;omega
  have ag:s.cw=0<->s.an=[]:=by rw[ar];exact(FL _ _).1 F
  refine(rj _ _).aJ (J.aA _) hl λb3 m3 e C _=>⟨b3,rfl,λz=>t C λi=>nb e z i.value,λz=>⟨λf=>⟨λh=>t C λi=>?_,λh=>⟨C,ah,ag,yb e z,λ_=>by simpa using h⟩⟩,λf=>⟨C,ah,ag,yb e z,λh=>by simp at f;exact absurd f h⟩⟩⟩;have:=i.ug (by simpa using f);simp at h;exact h this
 rintro m3 ⟨C,ah,ag,hv,a2⟩;refine⟨λy=>t C λi=>by have:=i.dX;simp at y;omega,λy=>⟨λv=>t C λi=>by have:=i.dX;simp at v;omega,λv=>⟨λF=>t C λi=>by have:=i.bA;simp at F;omega,λF=>⟨λz=>t C λi=>by have:=i.bA;simp at z;omega,λz=>?_⟩⟩⟩⟩;have aV:0<=s.dX/\s.dX<=40:=by simp at y v;omega
 have aM:0<=s.bA/\s.bA<=s.dX:=by simp at F z;omega
 rw[aR V V];refine⟨λf=>t C λi=>by have:=i.depth;simp at f;omega,λf=>?_⟩;have aN:(s.an.length:Int)<=s.bA+1:=by simp at f;omega
 clear y v F z f;have X3:=x2.trans C;refine(CA (Q.ext X3).heap ab.heap V).mono ?_;rintro _ m4 ⟨ct,b4,rfl,ao,a1,aE⟩;have x4:=C.trans aE;have z4:=x4.size;have z3:=C.size;refine⟨aE.dz λx H=>C.lt (hl x H),ct,b4,rfl,λy=>t x4 λi=>nb ao y i.heap,λy=>?_⟩;have av:=yb ao y;obtain⟨ob,rfl,bb,B4⟩:=a1 (by simpa using y);have bf:=B4.lt;refine(ji (Q.ext (x2.trans x4)).aU 62 #[] #[] bn (λai=>¬gS ai) (λai _ m' hx=>?_)).aJ x4 hl ?_
 .apply wt;refine(rj _ _).then λx G H x5=>⟨x,rfl,eW ?_ x5⟩;rw[<-H];simp
 intro b5 G ap aG x5;have z5:=x5.size;have bg:=aG.size;refine⟨b5,rfl,λv=>t x5 λi=>?_,λv=>?_⟩
 .let⟨ai,hx,I⟩:=ap.1 v;exact I (i.aU ai hx)
 have a0:∀Z∈s.aU,gS Z:=λZ I=>dE λB=>by have:=ap.2 ⟨Z,I,B⟩;rw[v]at this;cases this
 have en:Int.toNat (c.len:Int)=s.heap.length:=V;rw[en];refine⟨V,V,V,V,?_⟩;intro R;have aH:J G R:=(J.aA G).aL _;have s6:R.size=G.size+1:=by simp[R]
 have H6:cK R G.size aB ((tj s.heap.length (λ_=>0)).map Ce.i):=MC G _;clear_value R;have x6:=x5.trans aH;have X6:=x2.trans x6;have T6:OD R ob G.size s.heap.length (eA s.heap) (λ_=>0):=⟨B4.ext (aG.trans aH),H6,V⟩;have aW:m.size<=ob:=by have:=X3.size;omega
 have ak:∀Z:Nat,Int.toNat (Z:Int)=Z:=λZ=>V;have a8:s.an.length<=41:=V;have rb:∀e,0<=eA s.heap e/\eA s.heap e<=3*s.heap.length:=λe=>⟨ru _ _,Cn _ _ λo B=>(av.cells o B).fl⟩;refine dW (n:=s.an.length) V (λj M=>JP ob G.size R M/\OD M ob G.size s.heap.length (λe=>eA s.heap e+fD (s.an.take j) e) (λe=>holds (s.an.take j) e)/\∀(q:Nat)(l:aY),q<j->s.an[q]? =some l->Tu a s q l)
  ⟨JP.aA _ _ _,by simpa[fD,holds]using T6,λq l K=>absurd K (eZ _)⟩ ?_
 rintro j W a7 μ i ⟨t7,N,al⟩ a3
 have x7:J L W:=t7.vn x6 V V;have P:=x2.trans x7;have bd:∀x∈[m1.size,m.size],x<W.size:=λx H=>x7.lt (hl x H);have z7:=x7.size;have be:=N.aS.lt;have bc:=N.ba.lt;rw[ak];refine dit (λF=>?_) λF=>?_
 .let⟨l,r⟩:=cL s.an j;have au:=aq r;let⟨a5,a4,ac,hr,ho,U,g0,g1,g2,g3,g4,g5⟩:=Q.an.aF r;refine⟨V,V,_,P.af g0,_,P.af g1,_,P.af g2,a5,P.af g3,a4,P.af g4,ac,P.af g5,?_⟩;intro X Y;have T:J W Y:=((J.aA W).aL _).ai (ad _) _ _;have s9:Y.size=W.size+1:=by simp[Y,X,ax]
  clear_value Y;have X9:=P.trans T;have l9:∀x∈[W.size,m1.size,m.size],x<Y.size:=bG;refine(Em (aS.ext X9) (hr.ext X9) (ho.ext X9) (U.ext X9)).aJ (J.aA _) l9 λaJ w am D _=>⟨aJ,rfl,λz=>t ((x7.trans T).trans D) λi=>nb am z (i.w r).v,λz=>?_⟩;have hV:=yb am z;have S:=(x7.trans T).trans D;have ae:=x2.trans S;refine⟨λM=>w=M/\Xa s.an j l,?_,?_⟩
  .have ay:(cG ((j:Int) -1)=((j -1:Nat):Int))\/j=0:=by
    rcases ku j with f|f
    .exact Or.inr f
    .exact Or.inl (by rw[aR V V];omega)
   have jV:0<j->((decide (l.dst<(0:Int)))=true->∃A:Bool,vb false=.bool A/\(A=true<->cW a s)/\J m w)/\((decide (l.dst<(0:Int)))=false->
    (0:Int)<=(cG ((j:Int) -(1:Int)))/\(cG ((j:Int) -(1:Int)))<(b.len:Int)/\
    ∃aa:O,af w b.D (b.off+Int.toNat (cG ((j:Int) -(1:Int)))*6+4)=some (O.v aa)/\
    ((decide (l.dst>=(aa.len:Int)))=true->∃A:Bool,vb false=.bool A/\(A=true<->cW a s)/\J m w)/\
    ((decide (l.dst>=(aa.len:Int)))=false->(0:Int)<=(cG ((j:Int) -(1:Int)))/\(cG ((j:Int) -(1:Int)))<(b.len:Int)/\
    ∃u:O,af w b.D (b.off+Int.toNat (cG ((j:Int) -(1:Int)))*6+4)=some (O.v u)/\
    (0:Int)<=l.dst/\l.dst<(u.len:Int)/\∃aj:Int,af w u.D (u.off+Int.toNat l.dst*1)=some (vi aj)/\
    ((aj !=(0:Int))=true->∃A:Bool,vb false=.bool A/\(A=true<->cW a s)/\J m w)/\((aj !=(0:Int))=false->w=w/\Xa s.an j l))):=λaL=>by
    have e1:=ay.resolve_right V
    rw[e1,ak]
    obtain⟨q,rfl⟩:∃q,j=q+1:=⟨j -1,V⟩
    have ej:q+1 -1=q:=V
    rw[ej]
    let⟨pf,aj⟩:=cL s.an q
    let⟨pr,po,pe,aO,an,aI,y0,y1,y2,y3,y4,y5⟩:=Q.an.aF aj
    have aK:=an.len
    have aa:nN s.an (q+1)=some pf:=aj
    refine⟨λf=>t S λi=>?_,λf=>⟨V,V,po,ae.af y4,λh=>t S λi=>?_,λh=>⟨V,V,po,ae.af y4,by simpa using f,by simp at h;omega,aF pf.aS l.dst,?_,λu=>t S λi=>?_,λu=>⟨rfl,⟨λI=>(by rw[aa]at I;cases I),λaA hq=>?_⟩⟩⟩⟩⟩
    .have:=((i.w r).dst.2 pf aa).1;simp at f;omega
    .have:=((i.w r).dst.2 pf aa).2.1;simp at h;omega
    .simp at f h
     exact(an.ext ae).pO f V
    .have:=((i.w r).dst.2 pf aa).2.2;simp at u;exact u this
    .rw[aa]at hq;simp at hq;subst hq
     simp at f h u;exact⟨f,V,u⟩
   refine⟨λf=>⟨λh=>t S λaz=>?_,λh=>⟨λu=>by simp at f u;omega,λu=>⟨rfl,⟨λ_=>by simpa using h,λaA hq=>?_⟩⟩⟩⟩,λf=>⟨λh=>jV (by simp at h;omega),λh=>by simp at f h;omega⟩⟩
   .simp at f;subst f;have:=(az.w r).dst.1 rfl;simp at h;exact h this
   .simp at f;subst f;simp[nN]at hq
  .rintro _ ⟨rfl,hD⟩;have aT:=ab.lr l au;have v1:=hV.lr;have v2:=hV.lo;have v3:=hV.lh;have vQ:=D.size;have aI:OD w ob G.size s.heap.length (λe=>eA s.heap e+fD (s.an.take j) e) (λe=>holds (s.an.take j) e):=⟨N.aS.ext (T.trans D),N.ba.ext (T.trans D),N.ne⟩;have aQ:∀e,0<=eA s.heap e+fD (s.an.take j) e/\eA s.heap e+fD (s.an.take j) e<=1000000000000000:=λe=>by
    have q1:=rb e;have q2:=KA (a:=s.an.take j) (n:=10000000) (k:=999999) V (λaa u=>⟨(ab.lr aa (dF u)).2.1,by
     let⟨q,K⟩:=List.mem_iff_getElem?.1 u;have aj:q<j:=by have:=aw K;simp at this;omega
     rw[dK aj]at K;exact(al q aa aj K).v.aS⟩) e
    have q3:(s.an.take j).length<=41:=bG;omega
   have aO:∀e,0<=holds (s.an.take j) e/\holds (s.an.take j) e<=1000000000:=λe=>by
    have q2:=Lp (a:=s.an.take j) (n:=10000000) (λaa u=>(ab.lr aa (dF u)).2.2) e;have q3:(s.an.take j).length<=41:=bG;have q4:=wa (s.an.take j) e;omega
   refine(Nc (i:=m) ae Q.heap hr ho U aW V aI (ab.an l au) V ⟨V,V,aT.2.1⟩ hV.aS aQ aO).mono ?_;rintro _ ay ⟨aK,rfl,an,aL,az⟩;have aA:JP ob G.size R ay:=(t7.ext (T.trans D)).trans az;have a6:J L ay:=aA.vn x6 V V;refine⟨λx H=>az.same x (D.lt (l9 x H)) (by simp at H;omega) (by simp at H;omega),aK,rfl,λf=>t a6 λi=>nb an f (i.w r).ZH,λf=>a3 V _ ⟨aA,?_,λq aa K u=>?_⟩⟩
   .have aj:=aL (by simpa using f);refine⟨?_,?_,aj.ne⟩
    .rw[fE (g:=λe=>eA s.heap e+fD (s.an.take j) e+di l.ak l.aS e)]
     .exact aj.aS
     .intro x H;rw[Oa r];omega
    .rw[fE (g:=λe=>holds (s.an.take j) e+eD l.ba e)]
     .exact aj.ba
     .intro x H;rw[Lq r]
   .rcases aX q j with h|h
    .exact al q aa h u
    .have:q=j:=V;subst this;rw[r]at u;simp at u;subst u;exact⟨hV,hD,yb an f⟩
 rw[bZ V]at N;have hW:∀(q:Nat)(l:aY),s.an[q]? =some l->Tu a s q l:=λq l r=>al q l (oh (aw r)) r;refine dW (n:=s.heap.length) V (λj M=>J W M/\∀(e:Nat)(o:bK),e<j->s.heap[e]? =some o->(0<o.aQ->o.aQ=eA s.heap e+fD s.an e)/\(o.aQ<0->holds s.an e=1)) ⟨J.aA _,λe o ha=>absurd ha (eZ _)⟩ ?_;rintro u X I2 μ2 au ⟨x8,aj⟩ an;have X8:=P.trans x8;rw[ak];refine dit (λz=>?_) λz=>?_
 .have ae:u<s.heap.length:=V;let⟨o,aa⟩:=dG ae;obtain⟨l,_,g0,g1,g2⟩:=Q.heap.aF aa;refine⟨λM=>J X M/\(0<o.aQ->o.aQ=eA s.heap u+fD s.an u)/\(o.aQ<0->holds s.an u=1),?_,?_⟩
  .refine⟨V,V,_,X8.af g0,_,X8.af g1,l,X8.af g2,?_⟩;intro Y w;have D:J X w:=((J.aA X).aL _).ai (ad _) _ _;clear_value w;have S:=(x7.trans x8).trans D;have go:=ub (N.aS.ext (x8.trans D)) ae;have gh:=ub (N.ba.ext (x8.trans D)) ae;simp -zeta only[O.gL,O.jJ,O.nt,bW,eT];have ba:(0<o.aQ->o.aQ=eA s.heap u+fD s.an u)->((decide (o.aQ<(0:Int)))=true->(0:Int)<=u/\(u:Int)<(s.heap.length:Int)/\∃am:Int,af w G.size u=some (vi am)/\
    ((am !=(1:Int))=true->∃A:Bool,vb false=.bool A/\(A=true<->cW a s)/\J m w)/\((am !=(1:Int))=false->J X w/\(0<o.aQ->o.aQ=eA s.heap u+fD s.an u)/\(o.aQ<0->holds s.an u=1)))/\
    ((decide (o.aQ<(0:Int)))=false->J X w/\(0<o.aQ->o.aQ=eA s.heap u+fD s.an u)/\(o.aQ<0->holds s.an u=1)):=λB=>
    ⟨λf=>⟨V,V,_,gh,λh=>t S λi=>by have:=i.ba.lH u o aa (by simpa using f);simp at h;exact h this,λh=>⟨D,B,λ_=>by simpa using h⟩⟩,λf=>⟨D,B,λh=>by simp at f;omega⟩⟩
   refine⟨λf=>⟨V,V,_,go,λh=>t S λi=>?_,λh=>ba λ_=>by simpa using h⟩,λf=>ba λh=>by simp at f;omega⟩;have:=i.Q6 u o aa (by simpa using f);simp at h;exact h this
  .rintro Y ⟨T,w,D⟩;refine an V _ ⟨x8.trans T,λe ac ha U=>?_⟩;rcases aX e u with h|h
   .exact aj e ac h U
   .have:e=u:=V;subst this;rw[aa]at U;simp at U;subst U;exact⟨w,D⟩
 .refine iY (MA ⟨aZ,ah,ag,hv,a2,aV,aM,aN,a0,av,λq l r=>(hW q l r).ok,⟨λl r w h=>?_,λS o B I=>(aj S o (oh (aw B)) B).2 I,λS o B I=>?_⟩,λe o B c=>(aj e o (oh (aw B)) B).1 c⟩) X8
  .let⟨q,K⟩:=wy r;by_cases D:w=0
   .exact Or.inl D
   .obtain⟨y,o,v,_⟩:=(hW q l K).ZH.ba w h D;exact Or.inr ⟨y,aw v⟩
  .refine Lr λl r w h ac=>?_;let⟨q,K⟩:=wy r;let⟨y,D,v,F⟩:=(hW q l K).ZH.ba w h V;rw[ac,lP,B]at v;simp at v;subst v;omega
def Ei(k:fC m d p a)(r:gK m aU c b s)(q:zI s):dy cp 10 [.agg #[O.v d,O.v p],Nz s aU c b] m (cW a s):=by
 apply yK;simp -zeta only[aD,aC];intro i e;have f:J m e:=((J.aA m).aL _).aL _;have t:i.size=m.size+1:=by simp[i]
 have x:e.size=m.size+2:=by simp[e,t]
 clear_value e;have l:∀n∈[i.size,m.size],n<e.size:=bG;refine(Eh (k.ext f)).aJ (J.aA _) l λb3 v j g _=>⟨b3,rfl,λh=>?_,λh=>bX (λo=>fb j h o.fm) (f.trans g)⟩;refine(Es (k.ext (f.trans g)) (j.1 h) (r.ext (f.trans g)) q).aJ g l λb4 w o y u=>⟨b4,rfl,eW o (f.trans u)⟩
end
end
end Go.Proofs.YtghjegjkpepmpaaGreat
section
namespace Go.Vc
def fS.kY{m:E}{b o:Nat}{l r:List Ce}(h:fS m b o l)(k:fS m b (o+l.length) r):fS m b o (l++r):=λi d a=>by
 rcases aX i l.length with c|c
 .rw[az c]at a;exact h i d a
 .rw[aK c]at a;have:=k _ d a;rwa[show o+l.length+(i -l.length)=o+i by omega]at this
def eV.Uw{α:Type}{m:E}{c:Nat}{R:List Ce->α->Prop}{s:O}{l:List α}(h:eV m c R s l)(j:∀d x,R d x->d.length=c):∃a,gV c R a l/\fS m s.D s.off a.flatten:=by
 have:∀k,k<=l.length->∃a,gV c R a (l.take k)/\fS m s.D s.off a.flatten:=by
  intro k;induction k with
  |zero=>intro _;exact⟨[],by simpa using gV.nil c R,λi e b=>by simp at b⟩
  |succ k o=>
   intro p;let⟨a,b,e⟩:=o V;let⟨x,g⟩:=cL l k;let⟨d,f,i⟩:=h.iL k x g;refine⟨a++[d],by rw[aV g];exact b.yV (j d x f) f,?_⟩;rw[qX];refine e.kY ?_;have n:a.flatten.length=k*c:=by rw[cy b.size,b.len,gQ,ju V]
   rw[n];simpa using i
 let⟨a,b,e⟩:=this l.length (ad _);rw[fB]at b;exact⟨a,b,e⟩
end Go.Vc
namespace Go.Proofs.YtghjegjkpepmpaaGreat
open Go.Vc
variable{m:E}{s:O}{d:Nat->Nat}{N:Nat}{h:List bK}
def ig.DO{a:E}{l:List Ce}{e n:Nat}(f:ig m a e n s l)(j:J m a)(i:∀b,m.size<=b->d b=0)(k:Nat):∃c,dx (λ_=>False) d m c a/\iR c a e n k s l/\∀b,c b=d b\/c b=k:=by
 rcases f.aF with h|⟨b,g,tail,h,h2,h3,h4,h5⟩
 .exact⟨d,dx.eI _ j i,iR.gC f λo=>absurd h o,λb=>Or.inl rfl⟩
 .refine⟨oJ d b k,dx.oJ j i h2 h3.lt k,iR.gC f λ_=>by rw[h];exact fK _ _ _,λg=>?_⟩;by_cases e:g=b
  .rw[e];exact Or.inr (fK _ _ _)
  .exact Or.inl (eX e)
def IH{z:O}(L:∀b,m.size<=b->d b=0)(H:∀b,b<m.size->d b≠3)(y:cU m z h)(hN:N<=m.size)(K:∀c∈h,c.aH.length<=3)(ac:h.length<=1000000000):
 aO cp 38 [O.v z] m λY l=>∃e s,Y=O.v s/\dO N e l s h/\dx (λk=>k=3) d m e l/\J m l:=by
 apply CR
 intro A
 have Z:J m A:=(J.aA m).aL _
 clear_value A
 have hl:=y.len
 have X:∀{e:Nat->Nat}{M:E},dx (λk=>k=3) d m e M->J m M:=λc=>⟨c.size,λb a=>c.eC b a (H b a)⟩
 refine eB (σ:=O) (n:=h.length) V (λk s M=>∃e,dO N e M s (h.take k)/\dx (λk=>k=3) d m e M) ⟨d,⟨[],⟨aN,aN,Or.inl rfl⟩,by simpa using gV.nil _ _,XK.nil⟩,dx.eI _ Z L⟩ ?_
 rintro k s T aa μ hk ⟨i,f,a⟩ U
 have v:=X a
 have en:Int.toNat (k:Int)=k:=V
 rw[en]
 refine dit (λG=>?_) λG=>?_
 .let⟨c,j⟩:=cL h k
  let⟨F,I,w,g1,g2⟩:=(cU.ext v y).aF j
  have ab:=K c (aq j)
  refine⟨V,V,c.aQ,w,V,V,c.kE,g1,V,V,F,g2,(gW I V).mono ?_⟩
  rintro _ g ⟨q,rfl,o,r⟩
  refine⟨q,rfl,r.dg g1,r.dg w,?_⟩
  intro b
  have t:J g b:=(J.aA g).aL _
  have S:cK b g.size my [.i c.aQ,.i c.kE,.s q]:=cK.push g _ _
  clear_value b
  have p:=r.trans t
  have C:dx (λ_=>False) i T i b:=dx.eI _ p a.new
  have u:dx (λk=>k=3) d m i b:=a.trans (dx.eI _ p a.new)
  have R:ap b q c.aH:=(ap.gC o V).ext t
  have Q:c.aH≠[]->i q.D=0:=λP=>a.new _ ((FB.gC o P).1)
  have hz:=a.size
  refine dO.push (f.eJ C id id) u.new (x:=.mk g.size 0 1 1) rfl S.iL R (RG.of f (λB=>p.same _ (f.D B).2) (λ_=>o.ext t) Q V) bG λW ad m5 D B=>?_
  exact U V _ _ ⟨W,by rw[aV j];exact D,u.trans B⟩
 .rw[bZ V]at f
  exact⟨i,s,rfl,f,a,v⟩
structure ZT(N:Nat)(d:Nat->Nat)(m:E)(r:O)(h:List bK)(css0 css:List (List Ce))(k:Nat):Prop where
 qD:iR d m my 3 3 r css.flatten
 len:css.length=h.length
 size:∀cs∈css,cs.length=3
 done:∀(j:Nat)(cs:List Ce)(c:bK),j<k->css[j]? =some cs->h[j]? =some c->ym N d m cs c
 jV:∀j,k<=j->css[j]? =css0[j]?
 sep:∀(i j:Nat)(ci cj:List Ce)(a b:O),i<k->j<k->css[i]? =some ci->css[j]? =some cj->ci[2]? =some (.s a)->cj[2]? =some (.s b)->i≠j->a.len≠0->b.len≠0->a.D≠b.D
def AF{a:List (List Ce)}{n:Nat}(d:s.len=n)(g:a.length=n)(k:∀b∈a,b.length=3)(j:fS m s.D s.off a.flatten)(t:n<=1000000000):
 aO cp 65 [O.v s] m λv c=>∃r,v=O.v r/\ig m c my 3 r a.flatten/\J m c:=by
 apply nu
 refine⟨λh=>?_,λh=>?_⟩
 .cases s with
  |nil=>simp at d;have:a=[]:=List.length_eq_zero_iff.1 V;subst this;exact⟨.nil,rfl,ig.nil _ _ _ _,J.aA _⟩
  |mk b o f e=>simp at h
  |zX b o e=>simp at h
 .intro e
  have b:J m e:=(J.aA m).aL _
  have i:ig m e my 3 (.mk m.size 0 0 0) []:=ig.new (J.aA m) my 3 [] 0 aN
  refine ig.append (zs:=[.i 0,.i 0,.s .nil]) (d:=a.flatten) i b (by rw[cy k,g,d];rfl) (b.iL j) bG λr c b f l o p q=>⟨r,rfl,by simpa using b,f⟩
def Gg{hp:O}(hn:∀b,m.size<=b->d b=0)(h3:∀b,b<m.size->d b≠3)(hh:cU m hp h)(hN:N<=m.size)(ay:∀c∈h,c.aH.length<=3)(aA:h.length<=1000000000):
 aO cp 27 [O.v hp] m λaF m'=>∃W s,aF=O.v s/\dO N W m' s h/\dx (λk=>k=3) d m W m'/\J m m':=by
 apply Af
 simp -zeta only[aD,aC]
 have hl:=hh.len
 let⟨aa,u,jD⟩:=hh.Uw (λz an⟨af,e,_⟩=>by rw[e];rfl)
 refine(AF hl u.len u.size jD aA).mono ?_
 rintro _ m1 ⟨y,rfl,or,x1⟩
 obtain⟨g,C1,X,_⟩:=ig.DO or x1 hn 3
 have aK:y.len=h.length:=by have:=X.len;rw[cy u.size,u.len]at this;omega
 refine⟨y,rfl,?_⟩
 have aE:∀{W:Nat->Nat}{M:E},dx (λk=>k=3) d m W M->J m M:=λc=>⟨c.size,λb l=>c.eC b l (h3 b l)⟩
 refine dW (n:=h.length) V (λk M=>∃i,ZT N g M y h aa i k/\dx (λk=>k=3) d m g M) ⟨aa,⟨X,u.len,u.size,λj _ _ p=>absurd p (eZ _),λ_ _=>rfl,λB _ _ _ _ _ D=>absurd D (eZ _)⟩,C1.mono λ_=>False.elim⟩ ?_
 rintro k F aG μ hk ⟨i,a,v⟩ aB
 have X2:=aE v
 have en:Int.toNat (k:Int)=k:=V
 rw[en]
 refine dit (λR=>?_) λR=>?_
 .have ak:k<h.length:=V
  let⟨c,T⟩:=dG ak
  let⟨af,hf,g0,g1,g2⟩:=(cU.ext X2 hh).aF T
  have aJ:=ay c (aq T)
  refine⟨V,V,c.aQ,g0,c.kE,g1,af,g2,?_⟩
  intro m3 G
  have x4:J F G:=((J.aA F).aL _).ai (ad _) _ _
  have s4:G.size=F.size+1:=by simp[G,m3,ax]
  clear_value G
  refine(eO (hf.ext x4) V).mono ?_
  rintro _ H ⟨q,rfl,oq,x5⟩
  have K:dx (λ_=>False) g F g H:=dx.eI _ (x4.trans x5) v.new
  have Y:=a.qD.eJ K id
  have aH:=a.len
  have ah:k*3+2+1<=i.flatten.length:=by rw[cy a.size];have:(k+1)*3<=i.length*3:=dm _ V;omega
  let⟨z,U⟩:=cL i k
  let⟨ae,ag⟩:=cL aa k (by rw[u.len];exact ak)
  have ao:z=ae:=by have:=a.jV k (ad _);rw[U,ag]at this;simpa using this
  let⟨f0,ar,aI⟩:=u.dD k ae c ag T
  rw[ao,ar]at U
  have av:y.cap≠0:=λe=>by have:=X.le;omega
  have rb:=Y.D av
  have c6:∀am,dx (λk=>k=3) g H g (ai H y.D (y.off+(k*3+2)) am):=λam=>dx.ai K.new rb.2 _ _
  have au:g F.size=0:=v.new _ (ad _)
  refine⟨x5.dz bG,q,rfl,V,V,?_⟩
  rw[dq]
  refine⟨Y.wr ah,?_⟩
  intro m6
  have I:=c6 [.s q]
  have ab:c.aH≠[]->g q.D=0/\G.size<=q.D:=λx=>by
   have:=(FB.gC oq x).1;exact⟨v.new _ V,this⟩
  have iq:ap H q c.aH:=ap.gC oq V
  have L6:ym N g m6 [.i c.aQ,.i c.kE,.s q] c:=ym.eJ I bn _ _ ⟨q,rfl,iq,λx=>⟨(ab x).1,O6 ((ab x).2) v.size,(FB.gC oq x).2⟩⟩
  have ac:(i.set k [.i c.aQ,.i c.kE,.s q])[k]? =some [.i c.aQ,.i c.kE,.s q]:=dB (aw U)
  refine⟨(I.mono λk hk=>by omega:To g H g m6).dz (by simp;exact⟨by have:=x5.size;omega,au⟩),aB V _ ⟨i.set k [.i c.aQ,.i c.kE,.s q],⟨?_,by simpa using a.len,λZ w=>?_,λj Z Q p w hd=>?_,λj p=>?_,?_⟩,(v.trans (K.mono λ_=>False.elim)).trans I⟩⟩
  .have:=Y.set (o:=k*3+2) (new:=[.s q]) ah
   rw[Ct i k _ 2 [.s q] a.size U aN]at this
   exact this
  .rcases cF w with f|f
   .exact a.size Z f
   .rw[f];rfl
  .rcases aX j k with f|f
   .rw[cx V]at w
    exact ym.eJ I bn _ _ (ym.eJ K id _ _ (a.done j Z Q f w hd))
   .have:j=k:=V
    subst this
    rw[ac]at w
    simp at w;subst w
    rw[T]at hd;simp at hd;subst hd;exact L6
  .rw[cx V];exact a.jV j V
  .have al:∀(j:Nat)(r:List Ce)(b:O),j<k->i[j]? =some r->r[2]? =some (.s b)->q.len≠0->b.len≠0->q.D≠b.D:=λj r b p t l f C=>by
    let⟨Q,hd⟩:=cL h j;obtain⟨b',e,ib,_⟩:=a.done j r Q p t hd;rw[e]at l;simp at l;subst l;have x:Q.aH≠[]:=λe=>by have:=ib.len;rw[e]at this;simp at this;exact C this
    have az:c.aH≠[]:=λe=>by have:=iq.len;rw[e]at this;simp at this;exact f this
    have:=iQ ib x;have:=(ab az).2;omega
   intro B j P r L b D p A t S l aj f C
   by_cases ik:B=k
   .subst ik
    rw[ac]at A
    rw[cx aj]at t
    simp at A;subst A;simp at S;subst S
    exact al j r b V t l f C
   .rw[cx (λe=>ik e.symm)]at A
    by_cases jk:j=k
    .subst jk
     rw[ac]at t
     simp at t;subst t;simp at l;subst l
     exact kT (al B P L V A S C f)
    .rw[cx (λe=>jk e.symm)]at t
     exact a.sep B j P r L b V V A t S l aj f C
 .have e:∀{j:Nat}{z:List Ce},i[j]? =some z->j<k:=λp=>by have:=aw p;have:=a.len;omega
  exact⟨g,y,rfl,⟨i,a.qD,⟨a.len,a.size,λj z an R f=>a.done j z an (e R) R f⟩,λB j P r L b D p=>a.sep B j P r L b (e D) (e p) D p⟩,v,X2⟩
end Go.Proofs.YtghjegjkpepmpaaGreat
end
namespace Go.Proofs.YtghjegjkpepmpaaGreat
open Go.Vc
section
variable{a g:Nat->Nat}{m h e:E}{p:Nat->Prop}{s:St}{d:List (List Ce)}
structure Bs(e:E)(a:Nat->Nat)(m:E):Prop where
 cA:J e m
 jZ:∀b,b<e.size->a b=0
 new:∀b,m.size<=b->a b=0
structure pJ(e:E)(a:Nat->Nat)(m:E)(aU hp fr:O)(s:St):Prop where
 bs:Bs e a m
 aU:iR a m aB 1 2 aU (s.aU.map Ce.i)
 heap:dO e.size a m hp s.heap
 an:nU a m fr s.an
structure zN(s:St):Prop where
 aU:s.aU.length<=900000000
 fl:∀c∈s.heap,c.aH.length<=3
 heap:s.heap.length<=900000000
 depth:s.an.length<=1000
 an:∀f∈s.an,f.ak.length<=1000000/\f.aS.length<=1000000/\f.ba.length<=1000000
def VN(e:E)(a:Nat->Nat)(m:E)(s:St)(v:Value)(h:E):Prop:=∃g aU c b,v=Nz s aU c b/\pJ e g h aU c b s/\dx (λ_=>False) a m g h
abbrev W7:=dx (λk=>2<=k)
def W7.none(c:W7 a m g h)(e:∀b,b<m.size->a b<=1):dx (λ_=>False) a m g h:=⟨c.size,c.gY,c.new,λb d _=>c.eC b d (oh (e b d))⟩
def dx.vn(b:dx (λ_=>False) a m g h):J m h:=⟨b.size,λc d=>b.eC c d id⟩
def Bs.eJ(B:Bs e a m)(b:dx (λ_=>False) a m g h):Bs e g h:=⟨B.cA.trans b.vn,λc d=>by rw[b.gY c (B.cA.lt d)];exact B.jZ c d,b.new⟩
def dx.aaf(e:dx p a m g h){l:List Nat}(d:∀b∈l,b<m.size/\¬p (a b)):eF l m h:=λb c=>e.eC b (d b c).1 (d b c).2
structure UQ(e:E)(a:Nat->Nat)(m:E)(g:Nat->Nat)(M:E)(q r:O)(s:St):Prop where
 eJ:W7 a m g M
 aU:iR g M aB 1 2 q (s.aU.map Ce.i)
 heap:dO e.size g M r s.heap
def UQ.j7{i j:Nat->Nat}{f g:E}{q r:O}(h:UQ e a m i f q r s)(d:dx p i f j g)(c:∀k,p k->4<=k):UQ e a m j g q r s:=
 ⟨h.eJ.trans (d.mono λk b=>oh (c k b)),h.aU.eJ d λb=>oh (c _ b),h.heap.eJ d (λb=>oh (c _ b)) λb=>oh (c _ b)⟩
def yU{s:O}{n:Nat}(c:s.len=n)(g:d.length=n)(k:∀a∈d,a.length=6)(j:fS m s.D s.off d.flatten)(t:n<=1000000000):
 aO cp 28 [O.v s] m λv h=>∃r,v=O.v r/\ig m h dS 6 r d.flatten/\J m h:=by
 apply mS
 refine⟨λb=>?_,λb=>?_⟩
 .cases s with
  |nil=>simp at c;have:d=[]:=List.length_eq_zero_iff.1 V;subst this;exact⟨.nil,rfl,ig.nil _ _ _ _,J.aA _⟩
  |mk a o f e=>simp at b
  |zX a o e=>simp at b
 .intro e
  have a:J m e:=(J.aA m).aL _
  have i:ig m e dS 6 (.mk m.size 0 0 0) []:=ig.new (J.aA m) dS 6 [] 0 aN
  refine ig.append (zs:=[.i 0,.i 0,.i 0,.s .nil,.s .nil,.s .nil]) (d:=d.flatten) i a (by rw[cy k,g,c];rfl) (a.iL j) bG λr h a f l o p q=>⟨r,rfl,by simpa using a,f⟩
structure ZR(a:Nat->Nat)(m:E)(r:O)(fs:List aY)(css0 d:List (List Ce))(k:Nat):Prop where
 qD:iR a m dS 6 4 r d.flatten
 len:d.length=fs.length
 size:∀cs∈d,cs.length=6
 done:∀(j:Nat)(cs:List Ce)(f:aY),j<k->d[j]? =some cs->fs[j]? =some f->Tt a m j cs f
 jV:∀j,k<=j->d[j]? =css0[j]?
def Rv{k o:Nat}{a:List Ce}{x:Ce}(e:∀a∈d,a.length=6)(b:d[k]? =some a)(g:o<6):jt d.flatten (k*6+o) [x]=(d.set k (a.set o x)).flatten/\(∀c∈d.set k (a.set o x),c.length=6)/\(d.set k (a.set o x))[k]? =some (a.set o x):=by
 refine⟨Ct d k a o [x] e b bG,λc f=>?_,dB (aw b)⟩;rcases cF f with h|h
 .exact e c h
 .rw[h,ez];exact e a (aq b)
def El{aU hp w:O}(al:Bs e a m)(az:∀c,a c<=1)(T:gK m aU hp w s)(ae:zN s):aO cp 12 [Nz s aU hp w] m (VN e a m s):=by
 apply yM;simp -zeta only[aD,aC];intro h A;have s1:h.size=m.size+1:=by simp[h]
 have s2:A.size=m.size+2:=by simp[A,s1]
 have x2:J m A:=((J.aA m).aL _).aL _;obtain⟨G,ao⟩:∃G,G=oJ (oJ a m.size 8) h.size 8:=⟨_,rfl⟩;have C2:dx (λ_=>False) a m G A:=by
  rw[ao];exact(dx.oJ (m':=h) (k:=8) ((J.aA m).aL _) al.new (ad _) V).trans (dx.oJ (m':=A) (k:=8) ((J.aA h).aL _) (λc hb=>by rw[eX V];exact al.new c V) (ad _) V)
 have r0:G m.size=8/\G h.size=8:=by rw[ao];exact⟨by rw[eX V,fK],fK _ _ _⟩
 have a2:∀c,G c=8\/G c<=1:=λc=>by
  rw[ao];unfold oJ;split
  .exact Or.inl rfl
  .split
   .exact Or.inl rfl
   .exact Or.inr (az c)
 have aZ:cK A h.size iI [.i 0,.i 0,.i 0,.i 0,.s .nil,.s .nil,.s .nil]:=cK.push h _ _;have bq:cK A m.size iI [.i s.cw,.i s.value,.i s.bA,.i s.dX,.s aU,.s hp,.s w]:=(cK.push m _ _).ext (J.push h _);clear_value A;clear ao;have hN:=al.cA.size;have bo:=ae.aU;have bm:=ae.heap;have bi:=ae.depth;refine(eO (T.aU.ext x2) V).mono ?_;rintro _ m3 ⟨ah,rfl,oq,H⟩;let⟨ba,C3,A3,a3⟩:=ig.DO oq H C2.new 2;have z3:=H.size;have kp:∀{M M':E},J M M'->m.size<M.size->∀i,af M' m.size i=af M m.size i:=λhx ac i=>aI (hx.same _ ac) i;have X3:=x2.trans H;refine⟨H.dz bG,ah,rfl,kp H V _,kp H V _,(Gg (N:=e.size) C3.new (λc _=>O6 (a3 c) (a2 c)) (T.ext X3).heap V ae.fl V).mono ?_⟩;rintro _ m4 ⟨bb,aj,rfl,H4,Y,x4⟩;have z4:=x4.size;have X4:=X3.trans x4;have K4:UQ e a m bb m4 ah aj s:=⟨((C2.trans C3).mono λ_=>False.elim:W7 a m ba m3).trans (Y.mono λb R=>V),A3.eJ Y bn,H4⟩;have aY:=T.an.len;let⟨an,q,jD⟩:=(T.ext X4).an.Uw (λQ ak⟨_,_,_,t,_⟩=>by rw[t];rfl);refine⟨x4.dz bG,aj,rfl,kp x4 V _,(yU aY q.len q.size jD V).mono ?_⟩;rintro _ m5 ⟨fc,rfl,of,x5⟩;let⟨u,K,A5,br⟩:=ig.DO of x5 Y.new 4;have z5:=x5.size;have K5:=K4.j7 K λ_=>False.elim;refine⟨x5.dz bG,fc,rfl,?_⟩;intro m6 m7 F;have r5:u m.size=8/\u h.size=8:=⟨by rw[K.gY _ V,Y.gY _ V,C3.gY _ V];exact r0.1,by rw[K.gY _ V,Y.gY _ V,C3.gY _ V];exact r0.2⟩;have C8:dx (λb=>b=8) u m5 u F:=((dx.ai K.new (show(λb=>b=8) (u m.size)from r5.1) _ _).trans (dx.ai (by rw[ax];exact K.new) (show(λb=>b=8) (u m.size)from r5.1) _ _)).trans (dx.ai (by rw[ax,ax];exact K.new) (show(λb=>b=8) (u m.size)from r5.1) _ _);have K8:UQ e a m u F ah aj s:=K5.j7 C8 λb R=>V;have A8:iR u F dS 6 4 fc an.flatten:=A5.eJ C8 bn;have a0:cK F h.size iI [.i 0,.i 0,.i 0,.i 0,.s .nil,.s .nil,.s .nil]:=((aZ.ext (H.trans (x4.trans x5))).congr (by
  show(ai (ai (ai m5 m.size 4 _) m.size 5 _) m.size 6 _)[h.size]? =_;rw[bg _ _ _ _ V,bg _ _ _ _ V,bg _ _ _ _ V]))
 have s8:F.size=m5.size:=by simp[F,m7,m6,ax]
 clear_value F;have bk:fc.len=s.an.length:=by have:=A8.len;rw[cy q.size,q.len]at this;omega
 refine dW (n:=s.an.length) V (λb M=>∃g d,UQ e a m g M ah aj s/\ZR g M fc s.an an d b/\m5.size<=M.size/\g m.size=8/\g h.size=8/\cK M h.size iI [.i 0,.i 0,.i 0,.i 0,.s .nil,.s .nil,.s .nil])
  ⟨u,an,K8,⟨A8,q.len,q.size,λy _ _ hj=>absurd hj (eZ _),λ_ _=>rfl⟩,V,r5.1,r5.2,a0⟩ ?_
 rintro b l bc μ R ⟨B,d,Z,f,z9,r9,aJ,a1⟩ a6
 have en:Int.toNat (b:Int)=b:=V;rw[en];have aQ:∀{g:Nat->Nat}{M:E},W7 a m g M->J m M:=λaN=>(aN.none λc _=>az c).vn;refine dit (λh1=>?_) λh1=>?_
 .have aH:b<s.an.length:=V;let⟨j,hf⟩:=dG aH;have bj:=ae.an j (aq hf);let⟨aP,ab⟩:=cL an b (by rw[q.len];exact aH);let⟨ra,oa,ha,e0,ir,io,ih⟩:=q.dD b aP j ab hf;have aG:d[b]? =some [.i j.fw,.i j.pc,.i j.dst,.s ra,.s oa,.s ha]:=by rw[f.jV b (ad _),ab,e0]
  have S:∀(i:Nat)(ak:Ce),[Ce.i j.fw,.i j.pc,.i j.dst,.s ra,.s oa,.s ha][i]? =some ak->af l fc.D (fc.off+b*6+i)=some ak.v:=λi ak hx=>by
   have:=f.qD.iL (b*6+i) ak (fY f.size aG hx);rwa[<-dq]at this
  obtain⟨r',o',h',jr,jo,jh,_,_,_,y3,y4,y5⟩:=T.an.aF hf;have X9:=aQ Z.eJ;have er:r'=ra/\o'=oa/\h'=ha:=by
   obtain⟨be,⟨bd,b1,c1,e1,_⟩,bp⟩:=T.an.iL b j hf;have g3:af m4 w.D (w.off+b*6+3)=some (O.v ra):=by
    have:=jD (b*6+3) (.s ra) (fY q.size ab (by rw[e0];rfl));rwa[<-dq]at this
   have g4:af m4 w.D (w.off+b*6+4)=some (O.v oa):=by
    have:=jD (b*6+4) (.s oa) (fY q.size ab (by rw[e0];rfl));rwa[<-dq]at this
   have g5:af m4 w.D (w.off+b*6+5)=some (O.v ha):=by
    have:=jD (b*6+5) (.s ha) (fY q.size ab (by rw[e0];rfl));rwa[<-dq]at this
   rw[X4.af y3]at g3;rw[X4.af y4]at g4;rw[X4.af y5]at g5;exact⟨O.BY.1 (jS g3),O.BY.1 (jS g4),O.BY.1 (jS g5)⟩
  obtain⟨rfl,rfl,rfl⟩:=er;refine⟨V,V,_,S 0 _ rfl,_,S 1 _ rfl,_,S 2 _ rfl,_,S 3 _ rfl,_,S 4 _ rfl,_,S 5 _ rfl,?_⟩;intro aA U;have ar:J l U:=((J.aA l).aL _).ai (ad _) _ _;have bw:U.size=l.size+1:=by simp[U,aA,ax]
  clear_value U;have aF:dx (λ_=>False) B l (oJ B l.size 8) U:=dx.oJ ar Z.eJ.new (ad _) V 8;refine(eO (jr.ext (X9.trans ar)) V).mono ?_;rintro _ bs ⟨qr,rfl,a7,v⟩;obtain⟨bu,ay,aK,_⟩:=ig.DO a7 v aF.new (10+3*b);have bz:=v.size;have p:∀{M M':E}{c:Nat},J M M'->c<M.size->∀i,af M' c i=af M c i:=λhx ac i=>aI (hx.same _ ac) i;have bl:∀{M:E},U.size<=M.size->∀c∈[l.size,m.size,h.size],c<M.size:=λbf c hb=>by simp at hb;omega
  refine⟨v.dz (bl (ad _)),qr,rfl,p v V _,p v V _,p v V _,p v V _,p v V _,(eO (jo.ext (X9.trans (ar.trans v))) V).mono ?_⟩;rintro _ bt ⟨qo,rfl,a8,C⟩;obtain⟨bv,am,aL,_⟩:=ig.DO a8 C ay.new (11+3*b);have bA:=C.size;refine⟨C.dz (bl V),qo,rfl,p C V _,p C V _,p C V _,p C V _,(eO (jh.ext (X9.trans (ar.trans (v.trans C)))) V).mono ?_⟩;rintro _ aB ⟨qh,rfl,a9,X⟩;obtain⟨r,D,aM,_⟩:=ig.DO a9 X am.new (12+3*b);have bB:=X.size;have L:dx (λ_=>False) B l r aB:=((aF.trans ay).trans am).trans D;have P:r l.size=8/\r m.size=8/\r h.size=8:=⟨by rw[D.gY _ V,am.gY _ V,ay.gY _ V];exact fK _ _ _,by rw[L.gY _ V];exact r9,by rw[L.gY _ V];exact aJ⟩;have A9:=f.qD.eJ L id;have aW:fc.cap≠0:=λt=>by have:=f.qD.le;omega
  have W:=A9.D aW;have a_:fc.D≠m.size/\fc.D≠h.size/\fc.D≠l.size:=⟨λt=>by have:=W.2;rw[t,P.2.1]at this;omega,λt=>by have:=W.2;rw[t,P.2.2]at this;omega,λt=>by have:=W.2;rw[t,P.1]at this;omega⟩;have bh:=f.len;have uQ:∀z,z<6->b*6+z+1<=d.flatten.length:=λz ho=>by rw[cy f.size];have:(b+1)*6<=d.length*6:=dm _ V;omega
  have sm:∀{M:E}(z:Nat)(ag:List Ce),eF [l.size,m.size,h.size] M (ai M fc.D z ag):=λz ag c hb=>bg _ _ _ _ (by simp at hb;omega);have gg:∀{M:E}(z:Nat)(ag:List Ce)(i:Nat),af (ai M fc.D z ag) m.size i=af M m.size i:=λz ag i=>aI (bg _ _ _ _ (λt=>a_.1 t.symm)) i;refine⟨X.dz (bl V),qh,rfl,p X V _,p X V _,p X V _,V,V,?_⟩;simp -zeta only[dq];refine⟨A9.wr (uQ 3 bn),?_⟩;let⟨e1,f1,aS⟩:=Rv (x:=.s qr) (o:=3) f.size aG bn;have au:=A9.set (o:=b*6+3) (new:=[.s qr]) (uQ 3 bn);rw[e1]at au;intro a4;let⟨e2,f2,aT⟩:=Rv (x:=.s qo) (o:=4) f1 aS bn;have av:=au.set (o:=b*6+4) (new:=[.s qo]) (by have:=uQ 4 bn;rw[cy f.size]at this;rw[cy f1,ez];exact this);rw[e2]at av;refine⟨sm _ _,gg _ _ _,gg _ _ _,V,V,au.wr (by have:=uQ 4 bn;rw[cy f.size]at this;rw[cy f1,ez];exact this),?_⟩;intro a5;let⟨e3,f3,aV⟩:=Rv (x:=.s qh) (o:=5) f2 aT bn;have aE:=av.set (o:=b*6+5) (new:=[.s qh]) (by have:=uQ 5 bn;rw[cy f.size]at this;rw[cy f2,ez,ez];exact this);rw[e3]at aE;refine⟨sm _ _,gg _ _ _,V,V,av.wr (by have:=uQ 5 bn;rw[cy f.size]at this;rw[cy f2,ez,ez];exact this),?_⟩;intro ap;have I:dx (λb=>b=4) r aB r ap:=((dx.ai D.new (show(λb=>b=4) (r fc.D)from W.2) _ _).trans (dx.ai (by rw[ax];exact D.new) (show(λb=>b=4) (r fc.D)from W.2) _ _)).trans (dx.ai (by rw[ax,ax];exact D.new) (show(λb=>b=4) (r fc.D)from W.2) _ _);have bx:ap.size=aB.size:=by simp[ap,a5,a4,ax]
  have tq:Tt r ap b [.i j.fw,.i j.pc,.i j.dst,.s qr,.s qo,.s qh] j:=⟨qr,qo,qh,rfl,(((aK.eJ am id).eJ D id).eJ I V),(aL.eJ D id).eJ I V,aM.eJ I V⟩;refine⟨sm _ _,a6 V _ ⟨r,_,(Z.j7 L λ_=>False.elim).j7 I λb R=>V,⟨aE,by simp;exact f.len,f3,λy Q aR hj aa hg=>?_,λy hj=>?_⟩,V,P.2.1,P.2.2,(a1.ext L.vn).congr (I.eC _ V (by rw[P.2.2];decide))⟩⟩
  .rcases aX y b with h5|h5
   .rw[cx V,cx V,cx V]at aa;exact((f.done y Q aR h5 aa hg).eJ L λ_ _ _=>id).eJ I λb R _=>V
   .have:y=b:=V;subst this;rw[aV]at aa;simp at aa;subst aa;rw[hf]at hg;simp at hg;subst hg;exact tq
  .rw[cx V,cx V,cx V];exact f.jV y V
 .intro aA;have r:dx (λb=>b=8) B l B aA:=dx.ai Z.eJ.new (show(λb=>b=8) (B h.size)from aJ) _ _;have p:=Z.j7 r λb R=>V;have ac:∀{y:Nat}{Q:List Ce},d[y]? =some Q->y<b:=λhj=>by have:=aw hj;have:=f.len;omega
  have v:nU B l fc s.an:=⟨d,f.qD,f.len,f.size,λi Q j h1 t=>f.done i Q j (ac h1) h1 t⟩;have D:=p.eJ.none λc _=>az c;exact⟨B,ah,aj,fc,rfl,⟨al.eJ D,p.aU,p.heap,v.eJ r λb R=>V⟩,D⟩
end
section
variable{d:Nat->Nat}{e:E}
abbrev z7:List Ce:=[.i 0,.i 0,.i 0,.i 0,.s .nil,.s .nil,.s .nil]
structure NH(m0:E)(ro:Nat->Nat)(m m2:E)(s:St)(ro':Nat->Nat)(M:E)(q r:Option O)(ob:Option Nat):Prop where
 eJ:W7 ro m ro' M
 ext:J m2 M
 ZE:r=none->∀b,ro' b≠3
 box:∀b,m.size<=b->b<m2.size->ro' b=8
 aU:∀x,q=some x->iR ro' M aB 1 2 x (s.aU.map Ce.i)
 heap:∀x,r=some x->dO m0.size ro' M x s.heap
 ob:∀x,ob=some x->m2.size<=x/\ro' x=8/\cK M x iI z7
section
variable{h:E}{i:Nat->Nat}{m g:E}{s:St}{f:Nat->Nat}{M:E}{q r:Option O}{j:Option Nat}
def NH.iu(k:NH h i m g s f M q r j)(n:dx (λa=>a=3) f M d e)(p:J M e)(C:∀b,m.size<=b->b<g.size->d b=8){u o:Option O}{t:Option Nat}(z:r=none\/dx (λ_=>False) f M d e)(B:o=none->∀b,d b≠3)
 (w:∀x,u=some x->q=some x\/iR d e aB 1 2 x (s.aU.map Ce.i))(y:∀x,o=some x->r=some x\/dO h.size d e x s.heap)(A:∀x,t=some x->j=some x\/(g.size<=x/\d x=8/\cK e x iI z7)):NH h i m g s d e u o t:=
 ⟨k.eJ.trans (n.mono λa c=>V),k.ext.trans p,B,C,λx c=>(w x c).elim (λa=>(k.aU x a).eJ n bn) id,
  λx c=>(y x c).elim (λa=>z.elim (λl=>by rw[l]at a;cases a) λl=>(k.heap x a).eJ l id id) id,
  λx c=>(A x c).elim (λa=>by
   let⟨v,b,l⟩:=k.ob x a;exact⟨v,by rw[n.gY _ l.lt];exact b,l.ext p⟩) id⟩
def NH.Sc(a:NH h i m g s f M q r j){p:Nat->Prop}(l:dx p f M d e):∀b,m.size<=b->b<g.size->d b=8:=λb k c=>by rw[l.gY b (a.ext.lt c)];exact a.box b k c
def NH.c(b:NH h i m g s f M none r j){x:O}(n:ig M e aB 1 x (s.aU.map Ce.i))(k:J M e):∃d,NH h i m g s d e (some x) r j:=by
 let⟨d,C,A,l⟩:=ig.DO n k b.eJ.new 2;exact⟨d,b.iu (C.mono λ_=>False.elim) k (b.Sc C) (Or.inr C) (λa c=>O6 (l c) (b.ZE a c)) (λy a=>Or.inr (by simp at a;subst a;exact A)) (λy a=>Or.inl a) λy a=>Or.inl a⟩
def NH.a(b:NH h i m g s f M q r j)(c:J M e):NH h i m g s f e q r j:=
 have C:dx (λ_=>False) f M f e:=dx.eI _ c b.eJ.new
 b.iu (C.mono λ_=>False.elim) c (b.Sc C) (Or.inr C) b.ZE (λy a=>Or.inl a) (λy a=>Or.inl a) λy a=>Or.inl a
def NH.b(b:NH h i m g s f M q r none){e:E}(a:e=M.push (.cells (bz z7) iI)):∃d,NH h i m g s d e q r (some M.size):=by
 have l:J M e:=by rw[a];exact J.push _ _
 have C:dx (λ_=>False) f M (oJ f M.size 8) e:=dx.oJ l b.eJ.new (ad _) (by rw[a];simp) 8;refine⟨_,b.iu (C.mono λ_=>False.elim) l (b.Sc C) (Or.inr C) (λn c=>?_) (λy a=>Or.inl a) (λy a=>Or.inl a) λy j=>Or.inr ?_⟩
 .by_cases k:c=M.size
  .rw[k,fK];decide
  .rw[eX k];exact b.ZE n c
 .simp at j;subst j;exact⟨b.ext.size,fK _ _ _,by rw[a];exact cK.push _ _ _⟩
end
def ql{w:E}{u:Nat->Nat}{a:E}{aU hp fr:O}{s:St}(aj:Bs w u a)(au:∀c,u c<=1)(hs:gK a aU hp fr s)(ag:zN s):aO cp 15 [Nz s aU hp fr] a (VN w u a s):=by
 apply AW;simp -zeta only[aD,aC];intro v i;have s1:v.size=a.size+1:=by simp[v]
 have s2:i.size=a.size+2:=by simp[i,s1]
 have x2:J a i:=((J.aA a).aL _).aL _;obtain⟨d,an⟩:∃d,d=oJ (oJ u a.size 8) v.size 8:=⟨_,rfl⟩;have C2:dx (λ_=>False) u a d i:=by
  rw[an];exact(dx.oJ (m':=v) (k:=8) ((J.aA a).aL _) aj.new (ad _) V).trans (dx.oJ (m':=i) (k:=8) ((J.aA v).aL _) (λc K=>by rw[eX V];exact aj.new c V) (ad _) V)
 have r0:d a.size=8/\d v.size=8:=by rw[an];exact⟨by rw[eX V,fK],fK _ _ _⟩
 have I:NH w u a i s d i none none none:=by
  refine⟨C2.mono λ_=>False.elim,J.aA _,λ_ c=>?_,λc h1 h2=>?_,aN,aN,aN⟩
  .rw[an];unfold oJ;split
   .decide
   .split
    .decide
    .have:=au c;omega
  .rcases aX c v.size with h|h
   .have:c=a.size:=V;subst this;exact r0.1
   .have:c=v.size:=V;subst this;exact r0.2
 clear_value i;clear an;have hN:=aj.cA.size;have a_:=ag.aU;have a9:=ag.heap;have a6:=ag.depth;have cC:∀{b:Nat->Nat}{M:E}{j:Option O}{l:Option Nat}{Z:Value->E->Prop},NH w u a i s b M none j l->(∀A g F,NH w u a i s F g (some A) j l->J M g->M.size<=g.size->Z (O.v A) g)->aO cp 37 [O.v aU] M Z:=λh hK=>
  (gW (hs.aU.ext (x2.trans h.ext)) V).mono λ_ g⟨A,p,z,y⟩=>by
   let⟨F,h'⟩:=h.c z y;rw[p];exact hK A g F h' y y.size
 have cH:∀{b:Nat->Nat}{M:E}{q:Option O}{l:Option Nat}{Z:Value->E->Prop},NH w u a i s b M q none l->(∀A g F,NH w u a i s F g q (some A) l->J M g->M.size<=g.size->Z (O.v A) g)->aO cp 38 [O.v hp] M Z:=λ{b M q l Z} h hK=>
  (IH (N:=w.size) h.eJ.new (λc _=>h.ZE rfl c) (hs.ext (x2.trans h.ext)).heap (oh h.ext.size) ag.fl V).mono λ_ g⟨F,A,p,aP,ak,y⟩=>by
   rw[p];exact hK A g F (h.iu ak y (h.Sc ak) (Or.inl rfl) (λp=>by cases p) (λe p=>Or.inl p) (λe p=>Or.inr (by simp at p;subst p;exact aP)) λe p=>Or.inl p) y y.size
 have kp:∀{M g:E},J M g->i.size<=M.size->∀L,af g a.size L=af M a.size L:=λy aA L=>aI (y.same _ V) L;refine⟨λz M=>z.2=0/\∃b q j fb,UQ w u a b M q j s/\i.size<=z.1/\i.size<=M.size/\b z.1=8/\b a.size=8/\b v.size=8/\cK M z.1 iI [.i s.cw,.i s.value,.i s.bA,.i s.dX,.s q,.s j,.s (.mk fb 0 0 0)],?_,?_⟩
 .have iS:∀{b:Nat->Nat}{M:E}{q j:O}{l fb:Nat},NH w u a i s b M (some q) (some j) (some l)->(λ(z:Nat×Nat) M=>z.2=0/\∃b q j fb,UQ w u a b M q j s/\i.size<=z.1/\i.size<=M.size/\b z.1=8/\b a.size=8/\b v.size=8/\cK M z.1 iI [.i s.cw,.i s.value,.i s.bA,.i s.dX,.s q,.s j,.s (.mk fb 0 0 0)]) (l,0) (ai M l 0 [.i s.cw,.i s.value,.i s.bA,.i s.dX,.s q,.s j,.s (.mk fb 0 0 0)]):=λ{b M q j l fb} h=>by
   let⟨G,c,ar⟩:=h.ob l rfl;have ak:dx (λe=>e=8) b M b (ai M l 0 [.i s.cw,.i s.value,.i s.bA,.i s.dX,.s q,.s j,.s (.mk fb 0 0 0)]):=dx.ai h.eJ.new c _ _;exact⟨rfl,b,q,j,fb,(⟨h.eJ,h.aU q rfl,h.heap j rfl⟩:UQ w u a b M q j s).j7 ak λe hk=>V,G,by rw[ax];exact h.ext.size,c,h.box _ V V,h.box _ V V,cK.ai (m:=M) (o:=0) ar⟩
  have t:i.size<=i.size:=ad _;repeat' first
   |exact iS I
   |(refine cC I ?_;intro A g F I B C;have D:=t;have t:=bJ t C)
   |(refine cH I ?_;intro A g F I B C;have D:=t;have t:=bJ t C)
   |(intro C;have B:J _ C:=(J.aA _).aL _;have H:Array.size C=_+1:=Array.size_push _;have D:=t;have t:=bJ t B.size;first|(obtain⟨F,I⟩:=I.b (e:=C) rfl;clear_value C)|(have I:=I.a B;clear_value C))
   |(refine And.intro (kp B D _) ?_)
   |(refine And.intro (J.dz B λc K=>by simp at K;omega) ?_)
   |(refine⟨_,rfl,?_⟩)
   |(refine And.intro ?_ ?_)
 .rintro⟨l,oo⟩ m3 ⟨rfl,a4,q,j,fb,K3,aS,z3,r3,a1,a2,aE⟩;simp only[]at aS r3 aE;have aQ:∀{b:Nat->Nat}{M:E},W7 u a b M->J a M:=λar=>(ar.none λc _=>au c).vn;have a8:=hs.an.len;simp -zeta only[bW];refine dW (n:=s.an.length) V (λe M=>∃b fc,UQ w u a b M q j s/\nU b M fc (s.an.take e)/\i.size<=M.size/\b l=8/\b a.size=8/\b v.size=8/\cK M l iI [.i s.cw,.i s.value,.i s.bA,.i s.dX,.s q,.s j,.s fc])
   ⟨a4,_,K3,⟨[],⟨aN,aN,Or.inl rfl⟩,aN,aN,aN⟩,z3,r3,a1,a2,aE⟩ ?_
  rintro e D a5 μ hk ⟨W,fc,K9,F9,z9,r9,a3,aG,C⟩ aW
  have en:Int.toNat (e:Int)=e:=V;rw[en];have H:=aQ K9.eJ;have ba:=C.lt;refine dit (λh1=>?_) λh1=>?_
  .have aR:e<s.an.length:=V;let⟨ae,hf⟩:=dG aR;have a7:=ag.an ae (aq hf);let⟨ra,oa,ha,ir,io,ih,g0,g1,g2,g3,g4,g5⟩:=hs.an.aF hf;refine⟨V,V,_,H.af g0,_,H.af g1,_,H.af g2,ra,H.af g3,oa,H.af g4,ha,H.af g5,?_⟩;intro av aa;have ah:J D aa:=((J.aA D).aL _).ai (ad _) _ _;have bf:aa.size=D.size+1:=by simp[aa,av,ax]
   clear_value aa;have ay:dx (λ_=>False) W D (oJ W D.size 8) aa:=dx.oJ ah K9.eJ.new (ad _) V 8;have t:∀{M g:E}{c:Nat},J M g->c<M.size->∀L,af g c L=af M c L:=λy aA L=>aI (y.same _ aA) L;have bl:∀{M:E},aa.size<=M.size->∀c∈[D.size,v.size,a.size],c<M.size:=λh c K=>by simp at K;omega
   refine⟨fc,(C.ext ah).cq 6,(gW (ir.ext (H.trans ah)) V).mono ?_⟩;rintro _ bb ⟨qr,rfl,aY,B⟩;obtain⟨bd,ap,aJ,_⟩:=ig.DO aY B ay.new (10+3*e);have bj:=B.size;refine⟨B.dz (bl (ad _)),qr,rfl,t B V _,t B V _,t B V _,t B V _,t B V _,t B V _,(gW (io.ext (H.trans (ah.trans B))) V).mono ?_⟩;rintro _ bc ⟨qo,rfl,aZ,P⟩;obtain⟨be,al,aK,_⟩:=ig.DO aZ P ap.new (11+3*e);have bk:=P.size;refine⟨P.dz (bl V),qo,rfl,t P V _,t P V _,t P V _,t P V _,t P V _,(gW (ih.ext (H.trans (ah.trans (B.trans P)))) V).mono ?_⟩;rintro _ S ⟨qh,rfl,a0,X⟩;obtain⟨U,ab,aL,_⟩:=ig.DO a0 X al.new (12+3*e);have bm:=X.size;refine⟨X.dz (bl V),qh,rfl,t X V _,t X V _,t X V _,t X V _,?_⟩;intro T;have aH:J S T:=(J.aA S).aL _;have bh:T.size=S.size+1:=by simp[T]
   have aT:cK T S.size dS [.i ae.fw,.i ae.pc,.i ae.dst,.s qr,.s qo,.s qh]:=cK.push S _ _;clear_value T;have ac:dx (λ_=>False) U S U T:=dx.eI _ aH ab.new;have Y:dx (λ_=>False) W D U T:=(((ay.trans ap).trans al).trans ab).trans ac;have Q:U D.size=8/\U a.size=8/\U v.size=8/\U l=8:=⟨by rw[ab.gY _ V,al.gY _ V,ap.gY _ V];exact fK _ _ _,by rw[Y.gY _ V];exact a3,by rw[Y.gY _ V];exact aG,by rw[Y.gY _ V];exact r9⟩;have tk:(s.an.take e).length=e:=bG;refine⟨t aH V _,nU.push (a:=ae) (F9.eJ Y λ_ _=>id) ac.new (x:=.mk S.size 0 1 1) rfl aT.iL (by rw[tk];exact(((aJ.eJ al id).eJ ab id).eJ ac id)) (by rw[tk];exact(aK.eJ ab id).eJ ac id) (by rw[tk];exact aL.eJ ac id) V λR az ao aM G=>?_⟩;have bn:=G.size;have am:R D.size=8/\R a.size=8/\R v.size=8/\R l=8:=⟨by rw[G.gY _ V];exact Q.1,by rw[G.gY _ V];exact Q.2.1,by rw[G.gY _ V];exact Q.2.2.1,by rw[G.gY _ V];exact Q.2.2.2⟩;have aB:cK ao l iI [.i s.cw,.i s.value,.i s.bA,.i s.dX,.s q,.s j,.s fc]:=(C.ext Y.vn).congr (G.eC _ V (by rw[Q.2.2.2];decide));refine⟨G.aaf λc K=>by simp at K;rcases K with p|p|p<;>rw[p]<;>refine⟨V,?_⟩<;>simp[Q.1,Q.2.1,Q.2.2.1],aB.fO aN,?_⟩;intro aF;have aw:dx (λe=>e=8) R ao R aF:=dx.ai G.new (show(λe=>e=8) (R l)from am.2.2.2) _ _;have bi:aF.size=ao.size:=ax _ _ _ _;refine⟨λc K=>bg _ _ _ _ (by simp at K;omega),aW V _ ⟨R,az,((K9.j7 Y λ_=>False.elim).j7 G λe hk=>V).j7 aw λe hk=>V,?_,V,am.2.2.2,am.2.1,am.2.2.1,cK.ai (m:=ao) (o:=6) (r:=[.s az]) aB⟩⟩;rw[aV hf];exact aM.eJ aw λe hk=>V
  .rw[bZ V]at F9;refine⟨_,C.cq 0,_,C.cq 1,_,C.cq 2,_,C.cq 3,_,C.cq 4,_,C.cq 5,_,C.cq 6,?_⟩;intro av;have B:dx (λe=>e=8) W D W av:=dx.ai K9.eJ.new (show(λe=>e=8) (W v.size)from aG) _ _;have t:=K9.j7 B λe hk=>V;have G:=t.eJ.none λc _=>au c;exact⟨W,q,j,fc,rfl,⟨aj.eJ G,t.aU,t.heap,F9.eJ B λe hk=>V⟩,G⟩
end
section
variable{n e:Nat}{m2 mx M a:E}
def ui:St:=⟨0,0,0,0,[],[],[]⟩
structure Zz where
 s:St
 ok:Bool
open Classical in
noncomputable def uX (b:cV) (s:St) (a:Int):Zz:=if cW b s/\0<=a/\a<=100000 then⟨aE b a.toNat s,true⟩else⟨ui,false⟩
def VB(a:cV)(s:St):j7 a s=aE a 1 s:=rfl
def Oh{a:cV}{s:St}:uX a s 1=(open Classical in if cW a s then⟨j7 a s,true⟩else⟨ui,false⟩):=by
 unfold uX;rcases dT (cW a s)with h|h
 .rw[ao ⟨h,bn,bn⟩,ao h];rfl
 .rw[ae λb=>h b.1,ae h]
def cW.jw{j:cV}{s:St}(h:cW j s)(b:Sm n s)(o:n<=900000000):zN s:=by
 refine⟨by have:=b.aU;omega,λc e=>(h.heap.cell c e).fl,oh b.heap,?_,λf g=>?_⟩
 .have:=h.depth;have:=h.bA;have:=h.dX;omega
 .have a:=h.an f g;obtain⟨p,_,i,d,_⟩:=a.Al h.fm;have k:=a.lr;have l:=a.lo;have m:=a.lh;rw[i]at k l m;have:=d.ak;omega
def zI.sm{s:St}(h:zI s)(a:s.heap.length<=n)(b:s.aU.length<=n):Sm n s:=⟨a,b,λg c w d=>((h.an g c).1 w d).2⟩
section
variable{b:E}{c:Nat->Nat}{m:E}{aU f d:O}{s:St}
def pJ.Ey(h:pJ b c m aU f d s)(a:zN s):gK m aU f d s:=
 ⟨h.aU.nX (oh a.aU),h.heap.cells (oh a.heap),h.an.Ey (oh a.depth) a.an⟩
def pJ.cX(h:pJ b c m aU f d s)(j:J m m2){a:Nat}{g:List Ce}(i:m.size<=a)(kb:cK m2 a e g):vS b (oJ c a 1) m2 a e g aU f d s.aU s.heap s.an:=by
 have C:dx (λ_=>False) c m (oJ c a 1) m2:=dx.oJ j h.bs.new i kb.lt 1;have B:=h.bs.eJ C;exact⟨B.cA,B.jZ,B.new,kb,fK _ _ _,h.aU.eJ C id,h.heap.eJ C id id,h.an.eJ C λ_ _=>id⟩
def pJ.nil{b m:E}(a:J b m):pJ b (λ_=>0) m .nil .nil .nil ui:=
 ⟨⟨a,λ_ _=>rfl,λ_ _=>rfl⟩,⟨by simp[ui],aN,Or.inl rfl⟩,⟨[],⟨aN,aN,Or.inl rfl⟩,by simpa[ui]using gV.nil _ _,XK.nil⟩,nU.none⟩
def vS.Ey{h e:Nat}{a:List Ce}(L:vS b c m h e a aU f d s.aU s.heap s.an)(g:zN s):gK m aU f d s:=
 pJ.Ey (c:=c) ⟨⟨L.cA,L.jZ,L.new⟩,L.aU,L.heap,L.an⟩ g
end
def Xg(m:E)(x:Zz)(v:Value)(c:E):Prop:=∃d aU b a,v=.tuple #[Nz x.s aU b a,vb x.ok]/\pJ m d c aU b a x.s
def iR.up{a:Nat->Nat}{m d:E}{f k:Nat}{s:O}{l:List Ce}(h:iR a m e f k s l)(j:k≠0)(g:∀b,b<mx.size->a b=0)(i:∀b,mx.size<=b->b<m.size->d[b]? =m[b]?):iR a d e f k s l:=
 h.eC (λc=>i _ (HI λn=>j (by rw[<-(h.D c).2];exact g _ n)) (h.D c).1) λ_=>rfl
def pJ.Rp{m:E}{q:Nat->Nat}{aU p n:O}{s:St}(h:pJ mx q M aU p n s)(y:m.size<=mx.size)(z:M.size<=a.size)(c:∀b,mx.size<=b->b<M.size->a[b]? =M[b]?)(w:J m a):pJ m q a aU p n s:=by
 have d:=h.bs.jZ;refine⟨⟨w,λb f=>d b V,λb f=>h.bs.new b V⟩,h.aU.up bn d c,?_,?_⟩
 .let⟨g,r,a2,a3⟩:=h.heap;refine⟨g,r.up bn d c,a2.mono λj x⟨i,u,k,l⟩=>⟨i,u,jb k λf=>c _ (l f).2.1 (iQ k f),λf=>?_⟩,a3⟩;let⟨g1,g2,t,tail,v,o⟩:=l f;exact⟨g1,V,t,tail,v,o.congr (c _ g2 o.lt)⟩
 .let⟨g,f⟩:=h.an;exact⟨g,f.qD.up bn d c,f.len,f.size,λr j i k l=>by
   let⟨u,t,o,e,b1,b2,b3⟩:=f.dD r j i k l;exact⟨u,t,o,e,b1.up V d c,b2.up V d c,b3.up V d c⟩⟩
def pJ.box{m:E}{d:Nat->Nat}{aU b a:O}{s:St}(h:pJ mx d M aU b a s)(c:J m mx){nb:Nat}(e:m.size<=nb)(g:nb<mx.size)(o:Nat)(l:List Ce):pJ m d (ai M nb o l) aU b a s:=
 h.Rp c.size (ur (ax _ _ _ _).symm) (λf i _=>bg _ _ _ _ V) ((c.trans h.bs.cA).ai e _ _)
def pJ.ext{e:E}{f:Nat->Nat}{aU d c:O}{s:St}(h:pJ e f M aU d c s)(b:J M a):pJ e f a aU d c s:=h.Rp (ad _) b.size (λg _ i=>b.same g i) (h.bs.cA.trans b)
def Bs.uz(m:E):Bs m (λ_=>0) m:=⟨J.aA _,λ_ _=>rfl,λ_ _=>rfl⟩
section
variable{m:E}{d p aU j i:O}{h:cV}{s:St}
def Sv{m:E}{nb:Nat}(c:J m m2)(a:J m2 M)(b:m.size<=nb){x:Zz}(d:x=⟨ui,false⟩)(l:List Ce):Xg m x (.tuple #[.agg #[vi (0:Int),vi (0:Int),vi (0:Int),vi (0:Int),O.v O.nil,O.v O.nil,O.v O.nil],vb false]) (ai M nb 0 l):=by
 subst d;exact⟨_,.nil,.nil,.nil,rfl,pJ.nil ((c.trans a).ai b _ _)⟩
variable(c:fC m d p h)(f:gK m aU j i s)(b:zI s)(g:s.aU.length<=10000000)
include c f b g
omit c f in
theorem Ug:Sm 10000000 s:=b.sm b.lh g
omit c f in
theorem Ql(c:Int):zN (uX h s c).s:=by
 unfold uX;split
 .rename_i a;exact(wY _ a.1).jw (wZ _ a.1 (b.sm b.lh g) V) V
 .exact⟨by simp[ui],by simp[ui],by simp[ui],by simp[ui],by simp[ui]⟩
theorem GH:aO cp 6 [.agg #[O.v d,O.v p],Nz s aU j i] m (Xg m (uX h s 1)):=by
 apply AH;simp -zeta only[aD,aC];rw[Oh];intro u m2 r;have s1:u.size=m.size+1:=by simp[u]
 have s2:m2.size=m.size+2:=by simp[m2,s1]
 have s3:r.size=m.size+3:=by simp[r,s2]
 have w:J m r:=(((J.aA m).aL _).aL _).aL _;clear_value r;have o:∀e∈[m2.size,u.size,m.size],e<r.size:=bG;refine(Fs (c.ext w) (f.ext w) b).aJ (J.aA _) o λb4 W I k _=>⟨b4,rfl,λA=>Sv w k V (by rw[ae (nb I A)]) _,λA=>?_⟩;have q:=yb I A;rw[ao q];have t:=w.trans k;have z5:=t.size;have ac:=k.size;have n:=Ug b g;refine(ql (Bs.uz W) (λ_=>dQ _) (f.ext t) (q.jw n V)).mono ?_;rintro _ D ⟨aa,o6,H,G,rfl,Q,M⟩;have x:=M.vn;have z6:=x.size;refine⟨x.dz λe l=>k.lt (o e l),_,_,_,_,o6,H,G,rfl,aI (x.same _ V) 0,aI (x.same _ V) 1,?_⟩;intro v;have kb:cK v D.size bM (SB d p s o6 H G):=cK.push D _ _;have y:=Q.cX (m2:=v) (J.push D _) (ad _) kb;have L:zG _ v [m2.size,u.size,m.size]:=λe l=>⟨y.cA.lt (k.lt (o e l)),y.jZ e (k.lt (o e l))⟩;clear_value v;refine(Hp y (c.ext t) q n.uQ (oh n.heap) (oh n.aU)).mono ?_;rintro _ X ⟨ab,Y,U,T,a,t8⟩;have K:=wY 1 q;have C:=K.jw (wZ 1 q n V) V;rw[<-VB]at K C;generalize j7 h s=S at*;refine⟨t8.dL L,_,a.box.cq 2,_,a.box.cq 3,_,a.box.cq 4,_,a.box.cq 5,Y,a.box.cq 6,U,a.box.cq 7,T,a.box.cq 8,(ql (Bs.uz X) (λ_=>dQ _) (a.Ey C) C).mono ?_⟩;rintro _ m9 ⟨Z,E,B,z,rfl,R,N⟩;have F:=a.cA;have z8:=F.size;refine⟨N.vn.dz λe l=>F.lt (k.lt (o e l)),_,_,_,_,E,B,z,rfl,?_⟩;have P:=R.box (t.trans F) (nb:=m2.size) V V 0 [.i S.cw,.i S.value,.i S.bA,.i S.dX,.s E,.s B,.s z];exact⟨Z,E,B,z,rfl,P⟩
end
end
section
section
variable{m:E}{s t:O}
def Gs{x y:bK}{q r:O}(h:ap m q x.aH)(k:ap m r y.aH):dy cp 44 [.agg #[vi x.aQ,vi x.kE,O.v q],.agg #[vi y.aQ,vi y.kE,O.v r]] m (x=y):=by
 apply Am;simp -zeta only[aD,aC];intro i d;let⟨a,g⟩:=dI (a:=i) (c:=d) rfl rfl;clear_value d;refine⟨λb=>⟨λc=>?_,λc=>bX (λh=>by simp[h]at c) a⟩,λb=>bX (λh=>by simp[h]at b) a⟩;refine(lj (h.ext a) (k.ext a)).aJ (J.aA _) g λe l f j _=>⟨e,rfl,eW ?_ (a.trans j)⟩;rw[f];cases x;cases y;simp at b c;simp[b,c]
def Gt{l r:List bK}(f:cU m s l)(j:cU m t r):dy cp 18 [O.v s,O.v t] m (l=r):=by
 apply An;have y:=f.len;have D:=j.len;refine⟨λh=>bX (λe=>?_) (J.aA _),λh=>?_⟩
 .subst e;simp at h;omega
 have C:l.length=r.length:=by simp at h;omega
 refine dW (n:=l.length) (y▸f.gX) (λk a=>J m a/\l.take k=r.take k) ⟨J.aA _,aN⟩ ?_;rintro k E I μ B ⟨b,d⟩ A
 refine dit (λx=>?_) λx=>?_
 .let⟨K,g⟩:=cL l k;let⟨L,c⟩:=cL r k;let⟨G,a,w,g1,g2⟩:=(cU.ext b f).aF g;let⟨H,z,q,u,v⟩:=(cU.ext b j).aF c;refine⟨V,V,_,w,_,g1,_,g2,V,V,_,q,_,u,_,v,(Gs a z).mono ?_⟩;rintro _ F ⟨p,rfl,i,o⟩;refine⟨p,rfl,λa=>bX (λe=>nb i a ?_) (b.trans o),λa=>A V _ ⟨b.trans o,?_⟩⟩
  .subst e;rw[g]at c;simpa using c
  .rw[aV g,aV c,d,yb i a]
 .rw[bZ V,bZ V]at d;exact iY d b
def Et{x y:aY}{r s t u v w:O}(C:ap m r (x.ak))(D:ap m s (x.aS))(E:ap m t (x.ba))(F:ap m u (y.ak))(G:ap m v (y.aS))(H:ap m w (y.ba)):
 dy cp 45 [.agg #[vi x.fw,vi x.pc,vi x.dst,O.v r,O.v s,O.v t],.agg #[vi y.fw,vi y.pc,vi y.dst,O.v u,O.v v,O.v w]] m (x=y):=by
 apply yS
 simp -zeta only[aD,aC]
 intro I q
 let⟨a,i⟩:=dI (a:=I) (c:=q) rfl rfl
 clear_value q
 refine⟨λc=>⟨λd=>⟨λe=>?_,λe=>bX (λh=>by simp[h]at e) a⟩,λd=>bX (λh=>by simp[h]at d) a⟩,λc=>bX (λh=>by simp[h]at c) a⟩
 refine(lj (C.ext a) (F.ext a)).aJ (J.aA _) i λz N o f L=>⟨z,rfl,λk=>?_,λk=>bX (λh=>fb o k (by rw[h])) (a.trans f)⟩
 have b:=a.trans f
 refine(lj (D.ext b) (G.ext b)).aJ f i λA P p j M=>⟨A,rfl,λl=>?_,λl=>bX (λh=>fb p l (by rw[h])) (b.trans j)⟩
 have g:=b.trans j
 refine(lj (E.ext g) (H.ext g)).aJ (f.trans j) i λB Q hd K _=>⟨B,rfl,eW ?_ (g.trans K)⟩
 rw[hd];have h:=o.1 k;have n:=p.1 l;cases x;cases y;simp at c d e h n;simp[c,d,e,h,n]
def CF{l r:List aY}(f:iK m s l)(j:iK m t r):dy cp 19 [O.v s,O.v t] m (l=r):=by
 apply xC;have H:=f.len;have R:=j.len;refine⟨λh=>bX (λe=>?_) (J.aA _),λh=>?_⟩
 .subst e;simp at h;omega
 have Q:l.length=r.length:=by simp at h;omega
 refine dW (n:=l.length) (H▸f.gX) (λk a=>J m a/\l.take k=r.take k) ⟨J.aA _,aN⟩ ?_;rintro k S N μ P ⟨a,d⟩ M
 refine dit (λD=>?_) λD=>?_
 .let⟨aa,g⟩:=cL l k;let⟨ab,b⟩:=cL r k;let⟨U,W,X,E,F,G,z,g1,g2,A,B,C⟩:=(iK.ext a f).aF g;let⟨Y,Z,r5,I,K,L,q,u,v,w,x,y⟩:=(iK.ext a j).aF b;refine⟨V,V,_,z,_,g1,_,g2,_,A,_,B,_,C,V,V,_,q,_,u,_,v,_,w,_,x,_,y,(Et E F G I K L).mono ?_⟩;rintro _ T ⟨p,rfl,i,o⟩;refine⟨p,rfl,λc=>bX (λe=>nb i c ?_) (a.trans o),λc=>M V _ ⟨a.trans o,?_⟩⟩
  .subst e;rw[g]at b;simpa using b
  .rw[aV g,aV b,d,yb i c]
 .rw[bZ V,bZ V]at d;exact iY d a
def tH{x y:St}{A h s B u t:O}(k:gK m A h s x)(l:gK m B u t y):dy cp 7 [Nz x A h s,Nz y B u t] m (x=y):=by
 apply yT;simp -zeta only[aD,aC];intro F z;let⟨a,j⟩:=dI (a:=F) (c:=z) rfl rfl;clear_value z;refine⟨λc=>⟨λd=>⟨λe=>⟨λf=>?_,λf=>bX (λh=>by simp[h]at f) a⟩,λe=>bX (λh=>by simp[h]at e) a⟩,λd=>bX (λh=>by simp[h]at d) a⟩,λc=>bX (λh=>by simp[h]at c) a⟩;refine(lj (k.aU.ext a) (l.aU.ext a)).aJ (J.aA _) j λC K v g H=>⟨C,rfl,λo=>?_,λo=>bX (λh=>fb v o (by rw[h])) (a.trans g)⟩;have b:=a.trans g;refine(Gt (cU.ext b k.heap) (cU.ext b l.heap)).aJ g j λD L w n I=>⟨D,rfl,λp=>?_,λp=>bX (λh=>fb w p (by rw[h])) (b.trans n)⟩;have i:=b.trans n;refine(CF (iK.ext i k.an) (iK.ext i l.an)).aJ (g.trans n) j λE M hd G _=>⟨E,rfl,eW ?_ (i.trans G)⟩;rw[hd];have q:=v.1 o;have r:=w.1 p;cases x;cases y;simp at c d e f q r;simp[c,d,e,f,q,r]
end
end
section
variable{M:E}
def Sk{k b:Nat}(a:b<k)(h:k<=M.size):(M.extract 0 k)[b]? =M[b]? :=((J.Nj h).same b (by rw[mD h];exact a)).symm
def pJ.old{mx M':E}{f:Nat->Nat}{aU c a:O}{s:St}(h:pJ mx f M aU c a s)(d:M.size<=M'.size)(g:∀b,mx.size<=b->b<M.size->M'[b]? =M[b]?):pJ (M'.extract 0 mx.size) f M' aU c a s:=
 have e:=bJ h.bs.cA.size d
 h.Rp (by rw[mD e];exact ad _) d g (J.Nj e)
def vS.old{a M M':E}{i:Nat->Nat}{c e:Nat}{d:List Ce}{aU h f:O}{s:St}(L:vS a i M c e d aU h f s.aU s.heap s.an)(j:a.size<=c)(k:M.size<=M'.size)(g:∀b,a.size<=b->b<M.size->M'[b]? =M[b]?):vS (M'.extract 0 a.size) i M' c e d aU h f s.aU s.heap s.an:=
 have N:=pJ.old (s:=s) ⟨⟨L.cA,L.jZ,L.new⟩,L.aU,L.heap,L.an⟩ k g
 ⟨N.bs.cA,N.bs.jZ,N.bs.new,L.box.congr (g _ j L.box.lt),L.QN,N.aU,N.heap,N.an⟩
def Xv{Y:List Nat}{m:E}(f:Fz Y m M):Le (bI Y m) (M.extract 0 m.size):=λc o v e=>by
 let⟨d,a⟩:=eS.1 e;have b:=mC a;rw[aI ((Sk b f.size).trans (f.same c b d))];exact a
def GSt(f:cV)(d:Nat)(e:O)(m:E)(P:Nat)(v:Value)(a:E):Prop:=∃n g aU c b s,v=Nz s aU c b/\pJ (a.extract 0 n) g a aU c b s/\m.size<=n/\n<=a.size/\cW f s/\Sm 100000 s/\Rd d e P a/\Fz [d] m a
section
variable{f:List Nat}{a:E}{b P:Nat}{e d p:O}{c:cV}
def IL(H:Rd b e P a)(hP:P+100<=10^16)(hd:cz (bI [b] a) d c.br)(hp:iC (bI [b] a) p c.cE)(K:nF c):aO cp 23 [vp b 0,.agg #[O.v d,O.v p]] a (GSt c b e a (P+6)):=by
 apply Bd (b,0);simp -zeta only[aD,aC];have hr:=H.lt;intro l t;let⟨x2,r⟩:=dI (a:=l) (c:=t) rfl rfl;have s1:l.size=a.size+1:=by simp[l]
 have B2:cK t a.size vK [.s d,.s p]:=(cK.push a _ _).ext (J.push l _);clear_value t;have r2:Rs b e a P t:=⟨x2.fz _,H.ext x2⟩;intro N;have x3:J t N:=J.push _ _;have G3:∀o,af N a.size o=af t a.size o:=λo=>aI (x3.same _ B2.lt) o;refine⟨G3 _,G3 _,G3 _,G3 _,?_⟩;refine(Ar r2 V [40,40,12,3,0,20] rfl rfl aN).mono λ_ j⟨dX,h,aA,r4,w⟩=>?_;have z3:=x3.size;have z2:=x2.size;have w:Fz [b] N j:=w;have z4:=w.size;have aY:=r l.size aN;have Z:0<=dX/\dX<=40:=by simp at aA;omega
 have A:∀o,af j a.size o=af N a.size o:=λo=>aI (w.same _ V bG) o;refine⟨w.dz λf g=>by have:=r f g;simp at g⊢;omega,dX,h,A _,A _,A _,A _,?_⟩;have aG:∀{M:E},Fz [b] a M->fC M d p c:=λG=>have aq:=(G.dj (S:=[b]) aN).trans (bD _ _);⟨hd.le aq,iC.le aq hp⟩;refine(Fj (aG r4.f) K dX).mono ?_;rintro _ u ⟨aU,aF,fr,rfl,x,b1,b2,b3,b4,aZ,q1,q2,q3,q4,q5,au,q6,k4⟩;have z5:=x.size;have G5:∀o,af u a.size o=af j a.size o:=λo=>aI (x.same _ V) o;refine⟨x.dz λf g=>oh (r f g),_,_,_,_,_,_,_,rfl,G5 _,G5 _,?_⟩;intro n;have x6:J u n:=J.push _ _;have kb:cK n u.size bM (SB d p (me c dX) aU aF fr):=cK.push u _ _;have L6:=Uz (m:=j) (Nj:=[.s d,.s p]) ⟨q1,q2,q3,q4,q5⟩ au q6 k4 x6 (ad _) kb;have s6:n.size=u.size+1:=by simp[n]
 clear_value n;have r6:=(r4.ext x).ext x6;have L:∀{M:E},n.size<=M.size->Lw b [u.size,l.size,a.size] M:=λaX=>lw hr bG;refine(cr r6.r V 60).mono λ_ m7⟨B,h,aM,aP,d7,U⟩=>⟨(L (ad _)).dz U,B,h,?_⟩;have z7:=U.size;refine(cr d7 V 200).mono λ_ m8⟨C,h,aQ,aR,d8,W⟩=>⟨(L z7).dz W,C,h,?_⟩;have z8:=W.size;refine(cr d8 V 20).mono λ_ m9⟨D,h,aS,aT,d9,X⟩=>⟨(L V).dz X,D,h,?_⟩;have z9:=X.size;refine(cr d9 V 100).mono λ_ aa⟨F,h,aV,aW,aw,Q⟩=>⟨(L V).dz Q,F,h,?_⟩;have vQ:=Q.size;have ai:=((U.trans W).trans X).trans Q;have ae:=J.push aa (.cells (bz [.i B,.i C,.i D,.i 100000,.i 0,.i F]) aB);have a2:=ae.size;refine(Ar (r6.to ai aw) V [B,C,D,100000,0,F] rfl rfl aN).mono λ_ y⟨ab,h,aj,am,v⟩=>?_;have v:Fz [b] (aa.push (.cells (bz [.i B,.i C,.i D,.i 100000,.i 0,.i F]) aB)) y:=v;refine⟨(L (bJ (by omega:n.size<=aa.size) ae.size)).dz v,ab,h,?_⟩;have a3:=v.size;obtain⟨q,rfl⟩:∃q:Nat,ab=q:=⟨ab.toNat,by simp at aj;omega⟩;have hn:q<=100000:=by simp at aj;omega
 have T:=(ai.trans (ae.fz _)).trans v;have ah:=L6.old (s:=me c dX) (M':=y) V T.size λf h1 h2=>T.same f h2 bG;have e0:(y.extract 0 j.size).size=j.size:=mD V;have w4:Le (bI [b] a) (y.extract 0 j.size):=(r4.f.dj aN).trans (Xv (((x.trans x6).fz [b]).trans T));refine(Qt (s:=me c dX) ah ⟨hd.le w4,iC.le w4 hp⟩ (Mz K Z) (Qv c dX) q hn V).mono ?_;rintro _ z ⟨⟨nn,rfl⟩,a1,aH,az,ay,i,ap⟩;have ak:=wY q (Mz K Z);have I:=wZ q (Mz K Z) (Qv c dX) V;have al:=ak.jw I V;generalize aE c q (me c dX)=st at*;have a4:=ap.size;have ao:∀f,f<j.size->z[f]? =y[f]? :=λf g=>(i.cA.same f V).trans (Sk g V);have aJ:Rs b e a (P+6) z:=by
  have G:Fz [b] a z:=⟨V,λf g hn=>(ao f V).trans (am.f.same f g hn)⟩;exact⟨G,(H.Nd am.r G (ao b V)).mono V⟩
 refine⟨ap.dL λf g=>⟨by have:=r f g;omega,ah.jZ f (oh (r f g))⟩,nn,rfl,_,i.box.cq 2,_,i.box.cq 3,_,i.box.cq 4,_,i.box.cq 5,aH,i.box.cq 6,az,i.box.cq 7,ay,i.box.cq 8,(ql (Bs.uz z) (λ_=>dQ _) (i.Ey al) al).mono ?_⟩;rintro _ a0 ⟨aK,ac,Y,R,rfl,av,ar⟩;have ag:=ar.vn;have aL:=ag.size;refine⟨ag.dz λf g=>oh (r f g),_,_,_,_,ac,Y,R,rfl,?_⟩;have an:=(aJ.ext ag).put H (k:=l.size) V 0 [.i st.cw,.i st.value,.i st.bA,.i st.dX,.s ac,.s Y,.s R];exact⟨z.size,aK,ac,Y,R,st,rfl,av.old (ur (ax _ _ _ _).symm) λf g _=>bg _ _ _ _ V,V,by rw[ax];exact aL,ak,⟨by have:=I.heap;omega,oh I.aU,I.uQ⟩,an.r,an.f⟩
end
end
section
variable{q:O}
def cW.YH{q:cV}{s:St}{n:Nat}(h:cW q s)(c:Sm n s)(x:n<=10000000):zI s:=by
 have l:=h.jw c V;have i:=h.bA;have v:=h.dX;have u:=c.heap;have C:=OJ h;have t:=l.depth;refine⟨⟨V,V⟩,λd i w a=>?_,λf b=>?_,V,V,λf b=>oh (l.an f b)⟩
 .have k:=h.heap.cell d i;rcases Jq d.aQ 1 with e|e
  .have:=(k.xp e).2.1 w a;exact⟨V,V⟩
  .rcases(k.ph V).1 w a with e|⟨e,j,g,_⟩
   .exact⟨by have:=e.1;omega,oh e.2⟩
   .have:=aw g;have:=iv e;exact⟨V,V⟩
 .let⟨k,o⟩:=List.mem_iff_getElem?.1 b;have F:=C.an k f o;refine⟨λw a=>⟨?_,c.uQ f b w a⟩,λr p=>?_,λw a=>?_⟩
  .rcases(h.an f b).So w a with e|e
   .have:=e.1;omega
   .omega
  .let⟨m,j⟩:=List.mem_iff_getElem?.1 p;have:=F.lr;have:=F.lo;have:=aw j;let⟨w,a⟩:=cL f.ak m;have:=(F.ak.dD m w r a j).2.1;exact⟨V,V⟩
  .rcases C.ba.cQ f b w a with e|⟨e,g⟩
   .exact⟨V,V⟩
   .have:=iv e;exact⟨V,V⟩
structure Mv(n:Nat)(ro:Nat->Nat)(M:E)(ro':Nat->Nat)(M':E):Prop where
 size:M.size<=M'.size
 eC:∀b,b<M.size->n<=b->M'[b]? =M[b]?
 gY:∀b,b<M.size->ro' b=ro b
 new:∀b,M'.size<=b->ro' b=0
 jZ:∀b,b<n->ro b=0
section
variable{n:Nat}{a d:Nat->Nat}{M b:E}
def iR.mv{e f k:Nat}{s:O}{l:List Ce}(h:iR a M e f k s l)(v:Mv n a M d b)(g:k≠0):iR d b e f k s l:=
 h.eC (λc=>v.eC _ (h.D c).1 (HI λe=>g (by rw[<-(h.D c).2];exact v.jZ _ e))) λc=>v.gY _ (h.D c).1
def dO.mv{i:O}{h:List bK}(q:dO n a M i h)(v:Mv n a M d b):dO n d b i h:=by
 let⟨l,j,a2,a3⟩:=q;refine⟨l,j.mv v bn,a2.mono λs r⟨o,m,f,g⟩=>⟨o,m,jb f λc=>v.eC _ (iQ f c) (g c).2.1,λc=>?_⟩,a3⟩;let⟨g1,g2,k,tail,p,e⟩:=g c;exact⟨(v.gY _ e.lt).trans g1,g2,k,tail,p,e.congr (v.eC _ e.lt g2)⟩
def Tt.mv{i:Nat}{c:List Ce}{f:aY}(v:Mv n a M d b):Tt a M i c f->Tt d b i c f:=λ⟨r,o,k,j,e,g,h⟩=>⟨r,o,k,j,e.mv v V,g.mv v V,h.mv v V⟩
def tv.mv{e:O}{g:List aY}{f:aY}{r o h:O}{c:List (List Ce)}(T:tv a M e g f r o h c)(v:Mv n a M d b):tv d b e g f r o h c:=
 ⟨T.qD.mv v bn,T.len,T.size,λm i j k l=>(T.dD m i j k l).mv v,T.ak.mv v V,T.aS.mv v V,T.ba.mv v V⟩
def nU.mv{c:O}{e:List aY}(l:nU a M c e)(v:Mv n a M d b):nU d b c e:=by
 let⟨g,h⟩:=l;exact⟨g,h.qD.mv v bn,h.len,h.size,λm f i j k=>(h.dD m f i j k).mv v⟩
def tv.put{d:O}{b:List aY}{f g:aY}{s o p n m j:O}{h:List (List Ce)}(T:tv a M d b f s o p h)(v:∀e,M.size<=e->a e=0){i:Nat}(w:i<6){c:Ce}
 (u:jt [.i f.fw,.i f.pc,.i f.dst,.s s,.s o,.s p] i [c]=[.i g.fw,.i g.pc,.i g.dst,.s n,.s m,.s j])(t:iR a M aB 1 (10+3*b.length) n (g.ak.map Ce.i))(q:iR a M aB 1 (11+3*b.length) m (g.aS.map Ce.i))(r:iR a M aB 1 (12+3*b.length) j (g.ba.map Ce.i)):
 fO M d.D (d.off+b.length*6+i) 1/\tv a (ai M d.D (d.off+b.length*6+i) [c]) d b g n m j h/\dx (λk=>4<=k/\k≠9) a M a (ai M d.D (d.off+b.length*6+i) [c]):=by
 have e:dx (λk=>k=4) a M a (ai M d.D (d.off+b.length*6+i) [c]):=dx.ai v T.D.1 _ _
 have l:h.flatten.length=b.length*6:=by rw[cy T.size,T.len]
 refine⟨by rw[dq];exact T.qD.wr (by simp only[bh,l,be,eY];omega),⟨?_,T.len,T.size,T.yv e λk q r=>V,t.eJ e V,q.eJ e V,r.eJ e V⟩,e.mono λk x=>V⟩
 have:=T.qD.set (o:=b.length*6+i) (new:=[c]) (by simp[l];omega)
 rw[lR _ _ _ _ V,l,HH,u]at this
 rw[dq];exact this
end
structure SO(n:Nat)(ro:Nat->Nat)(M:E)(aU hp fr:O)(s:St):Prop where
 le:n<=M.size
 jZ:∀b,b<n->ro b=0
 new:∀b,M.size<=b->ro b=0
 aU:iR ro M aB 1 2 aU (s.aU.map Ce.i)
 heap:dO n ro M hp s.heap
 an:nU ro M fr s.an
structure FS(s:St):Prop where
 uQ:zI s
 jw:zN s
 lo:s.aU.length<=1000000/\s.heap.length<=1000000
section
variable{n:Nat}{a e:Nat->Nat}{M b:E}{aU d c:O}{s:St}
def SO.of(N:pJ (M.extract 0 n) a M aU d c s)(h:n<=M.size):SO n a M aU d c s:=⟨h,λb e=>N.bs.jZ b (by rw[mD h];exact e),N.bs.new,N.aU,by have:=N.heap;rwa[mD h]at this,N.an⟩
def SO.mv(w:SO n a M aU d c s)(v:Mv n a M e b):SO n e b aU d c s:=⟨bJ w.le v.size,λf g=>(v.gY f (aP g w.le)).trans (w.jZ f g),v.new,w.aU.mv v bn,w.heap.mv v,w.an.mv v⟩
def SO.mvF(w:SO n a M aU d c s){h:Nat}(f:Fz [h] M b)(j:h<n):Mv n a M a b:=⟨f.size,λe g i=>f.same e g bG,λ_ _=>rfl,λe g=>w.new e (bJ f.size g),w.jZ⟩
def SO.eJ{p:Nat->Prop}(w:SO n a M aU d c s)(C:dx p a M e b):n<=b.size/\(∀f,f<n->e f=0)/\∀f,b.size<=f->e f=0:=⟨bJ w.le C.size,λf g=>(C.gY f (aP g w.le)).trans (w.jZ f g),C.new⟩
def SO.box(w:SO n a M aU d c s){b:Nat}(g:a b=1)(o:Nat)(l:List Ce):SO n a (ai M b o l) aU d c s:=by
 have C:dx (λk=>k=1) a M a (ai M b o l):=dx.ai w.new g _ _;let⟨e,b,f⟩:=w.eJ C;exact⟨e,b,f,w.aU.eJ C bn,w.heap.eJ C bn bn,w.an.eJ C λk h=>V⟩
def SO.Ix(w:SO n a M aU d c s)(C:dx (λk=>k=2) a M e b){l:List Int}(A:iR e b aB 1 2 q (l.map Ce.i)):SO n e b q d c {s with aU:=l}:=
 let⟨f,g,h⟩:=w.eJ C
 ⟨f,g,h,A,w.heap.eJ C bn bn,w.an.eJ C λk i=>V⟩
def SO.gD(w:SO n a M aU d c s)(C:dx (λk=>k=3) a M e b){h:List bK}(A:dO n e b q h):SO n e b aU q c {s with heap:=h}:=
 let⟨f,g,i⟩:=w.eJ C
 ⟨f,g,i,w.aU.eJ C bn,A,w.an.eJ C λk j=>V⟩
def SO.jR(w:SO n a M aU d c s)(C:dx (λk=>4<=k/\k≠9) a M e b){l:List aY}(A:nU e b q l):SO n e b aU d q {s with an:=l}:=
 let⟨f,g,h⟩:=w.eJ C
 ⟨f,g,h,w.aU.eJ C bn,w.heap.eJ C bn bn,A⟩
def SO.Ey(w:SO n a M aU d c s)(h:zN s):gK M aU d c s:=⟨w.aU.nX (oh h.aU),w.heap.cells (oh h.heap),w.an.Ey (oh h.depth) h.an⟩
end
end
section
variable{K:Int->E->Prop}{p:Nat->Prop}
def SP(n h:Nat)(f:O)(g:E)(P:Nat)(v:Value)(a:E):Prop:=∃aU e d s,v=Nz s aU e d/\(∀c,a.size<=c.size->(∀b,b<a.size->n<=b->c[b]? =a[b]?)->gK c aU e d s)/\zI s/\(s.aU.length<=1000000/\s.heap.length<=1000000)/\Rs h f g P a
structure SQ(n rb:Nat)(bs:O)(ma:E)(k1 k2 Q:Nat)(ro:Nat->Nat)(M:E)(aU hp fr:O)(s:St):Prop where
 w:SO n ro M aU hp fr s
 r:Rs rb bs ma Q M
 k1:ro k1=1/\k1<M.size/\n<=k1
 k2:ro k2=1/\k2<M.size/\n<=k2
 fs:FS s
section
variable{n b m q Q w P t:Nat}{j aU h f:O}{e M d:E}{r u:Nat->Nat}{s v:St}{L:List Nat}
def SQ.fz(a:SQ n b j e m q Q r M aU h f s)(g:b<n)(c:Fz [b] M d)(i:Rs b j e w d):SQ n b j e m q w r d aU h f s:=
 ⟨a.w.mv (a.w.mvF c g),i,⟨a.k1.1,aP a.k1.2.1 c.size,a.k1.2.2⟩,⟨a.k2.1,aP a.k2.2.1 c.size,a.k2.2.2⟩,a.fs⟩
def SQ.ext(a:SQ n b j e m q Q r M aU h f s)(c:b<n)(x:J M d):SQ n b j e m q Q r d aU h f s:=a.fz c (x.fz _) (a.r.ext x)
def SQ.gN(c:SQ n b j e m q Q r M aU h f s)(o:b<n)(k:∀a∈L,a=m\/a=q)(i:Fz [b] M d):eF L M d:=i.dz λa l=>by
 have:=c.k1;have:=c.k2;rcases k a l with g|g<;>simp only[lU]<;>omega
def SQ.gk(a:SQ n b j e m q Q r M aU h f s)(g:b<n)(c:Fz [b] M d)(o:Nat):af d q o=af M q o:=aI (c.same _ a.k2.2.1 (by have:=a.k2;simp only[lU];omega)) o
def SQ.done(a:SQ n b j e m q Q r M aU h f s)(v:Rd b j t e)(C:e.size<=n)(x:Q<=P){o c g p:Int}(A:Eb g)(l:List Ce):SP n b j e P (.agg #[vi o,vi c,vi g,vi p,O.v aU,O.v h,O.v f]) (ai M m 0 l):=by
 have w:=a.w.box a.k1.1 0 l;have u:=a.r.put v (k:=m) (oh a.k1) 0 l;exact⟨aU,h,f,⟨o,c,g,p,s.aU,s.heap,s.an⟩,rfl,λd z B=>have i:=(w.mv ⟨z,B,λ_ _=>rfl,λc y=>w.new c (bJ z y),w.jZ⟩).Ey a.fs.jw;⟨i.aU,i.heap,i.an⟩,⟨A,a.fs.uQ.heap,a.fs.uQ.an,a.fs.uQ.lh,a.fs.uQ.lf,a.fs.uQ.lr⟩,a.fs.lo,u.f,u.r.mono x⟩
def SQ.box(a:SQ n b j e m q Q r M aU h f s)(c:Rd b j t e)(d:e.size<=n)(o:Nat)(l:List Ce):SQ n b j e m q Q r (ai M q o l) aU h f s:=
 ⟨a.w.box a.k2.1 o l,a.r.put c (oh a.k2) o l,by rw[ax];exact a.k1,by rw[ax];exact a.k2,a.fs⟩
def SQ.lY(l:SQ n b j e m q Q r M aU h f s)(g:b<n)(u:Q<=10^16)(p:∀a∈L,a=m\/a=q)(a:List Int){c:List Ce}{i:Nat}(w:c=a.map Ce.i)(v:i=a.length)(z:0<a.length/\a.length<=100)
 (y:∀t d,t∈a->SQ n b j e m q (Q+1) r d aU h f s->Fz [b] (M.push (.cells (bz c) aB)) d->K t d):aO cp 53 [vp b 0,O.v (.mk M.size 0 i i)] (M.push (.cells (bz c) aB)) λC d=>eF L (M.push (.cells (bz c) aB)) d/\∃t:Int,C=vi t/\K t d:=
 have x:=J.push M (.cells (bz c) aB)
 (Ar l.r u a w v z).mono λ_ d⟨t,o,A,B,k⟩=>⟨(l.ext g x).gN g p k,t,o,y t d A ((l.ext g x).fz g k B) k⟩
def SQ.pick(c:SQ n b j e m q Q r M aU h f s)(i:b<n)(o:Q<=10^16)(l:∀a∈L,a=m\/a=q)(g:Int)
 (p:∀t d,0<=t->(t<g\/t=0)->SQ n b j e m q (Q+1) r d aU h f s->Fz [b] M d->K t d):aO cp 47 [vp b 0,vi g] M λw d=>eF L M d/\∃t:Int,w=vi t/\K t d:=
 (cr c.r.r o g).mono λ_ d⟨t,k,v,t1,u,a⟩=>⟨c.gN i l a,t,k,p t d v t1 (c.fz i a (c.r.to a u)) a⟩
def SQ.eJ(a:SQ n b j e m q Q r M aU h f s)(l:Rd b j t e)(E:e.size<=n)(C:dx p r M u d)(h:∀k,p k->2<=k){x o k:O}(B:SO n u d x o k v)(z:FS v):SQ n b j e m q Q u d x o k v:=
 have D:=l.lt
 have w:∀c,c<n->d[c]? =M[c]? :=λc g=>C.eC c (aP g a.w.le) λy=>by have:=h _ y;have:=a.w.jZ c g;omega
 have i:Fz [b] e d:=⟨bJ a.r.f.size C.size,λc g A=>(w c V).trans (a.r.f.same c g A)⟩
 ⟨B,⟨i,l.Nd a.r.r i (w b V)⟩,⟨(C.gY _ a.k1.2.1).trans a.k1.1,aP a.k1.2.1 C.size,a.k1.2.2⟩,⟨(C.gY _ a.k2.2.1).trans a.k2.1,aP a.k2.2.1 C.size,a.k2.2.2⟩,z⟩
def SQ.dz(g:SQ n b j e m q Q r M aU h f s)(i:∀a∈L,a=m\/a=q)(C:dx p r M u d)(h:∀k,p k->2<=k):eF L M d:=λa k=>by
 have l:=g.k1;have a2:=g.k2;rcases i a k with c|c<;>subst c<;>exact C.eC _ V λc=>by have:=h _ c;omega
def SQ.fW(t:SQ n b j e m q Q r M aU h f s)(u:cG ((f.len:Int) -1)>=0):∃a g l o k d,s.an=a++[g]/\tv r M f a g l o k d/\cG ((f.len:Int) -1)=(a.length:Int)/\f.len=a.length+1:=by
 have F:=t.w.an;have p:=t.fs.jw.depth;rcases List.eq_nil_or_concat s.an with c|⟨a,g,c⟩
 .rw[c]at F;let⟨d,i⟩:=F;have:=i.qD.len;rw[cy i.size,i.len]at this;simp only[eY]at this;rw[aR V V]at u;omega
 .rw[List.concat_eq_append]at c;rw[c]at F p;let⟨l,o,k,d,T⟩:=F.fW;have:=T.yo;simp at p;exact⟨a,g,l,o,k,d,c,T,by rw[aR V V];omega,this⟩
def FS.fW(h:FS s){d:List aY}{j g:aY}(i:s.an=d++[j])(k:Sy g)(l:g.ak.length<=1000000/\g.aS.length<=1000000/\g.ba.length<=1000000):FS {s with an:=d++[g]}:=by
 have b:=h.uQ;have c:=h.jw;have e:∀x∈d,x∈s.an:=λx a=>by rw[i];simp[a]
 have f:=c.depth;rw[i]at f;simp at f;refine⟨⟨b.bA,b.heap,λx a=>?_,b.lh,bG,λx a=>?_⟩,⟨c.aU,c.fl,c.heap,bG,λx a=>?_⟩,h.lo⟩<;>rcases List.mem_append.1 a with a|a
 .exact b.an x (e x a)
 .simp at a;rw[a];exact k
 .exact b.lr x (e x a)
 .simp at a;rw[a];omega
 .exact c.an x (e x a)
 .simp at a;rw[a];exact l
def SQ.tq(c:SQ n b j e m q Q r M aU h f s)(o:Rd b j t e)(p:e.size<=n){l:List aY}{z g:aY}(y:s.an=l++[z]){J H I:O}{w:List (List Ce)}(T:tv r d f l g J H I w)(C:dx (λk=>4<=k/\k≠9) r M r d)(E:Sy g)(G:g.ak.length<=1000000/\g.aS.length<=1000000/\g.ba.length<=1000000)
 (A:∀a∈L,a=m\/a=q)(B:Q<=P){v a i x:Int}(D:Eb i)(u:List Ce):eF L M d/\SP n b j e P (.agg #[vi v,vi a,vi i,vi x,O.v aU,O.v h,O.v f]) (ai d m 0 u):=
 ⟨c.dz A C λk F=>V,(c.eJ o p C (λk F=>V) (c.w.jR C T.tq) (c.fs.fW y E G)).done o p B D u⟩
def Hm{im:cV}(I:Rd b j t e)(Q:e.size<=n)(aa:SO n r M aU h f s)(ae:Rs b j e P M)(hP:P+100<=10^16)(ok:cW im s)(hS:Sm 100000 s):aO cp 22 [vp b 0,Nz s aU h f] M (SP n b j e (P+6)):=by
 apply zo (b,0);simp(config:={maxSteps:=1000000}) -zeta only[aD,aC];have k:b<n:=by have:=I.lt;omega
 have le:=aa.le;intro S m2;have s1:S.size=M.size+1:=by simp[S]
 have s2:m2.size=M.size+2:=by simp[m2,s1]
 have x2:J M m2:=(J.push M _).trans (J.push S _);clear_value m2;clear_value S;have q2:SQ n b j e S.size M.size P (oJ (oJ r M.size 1) S.size 1) m2 aU h f s:=⟨aa.mv ⟨x2.size,λW hb _=>x2.same W hb,λW hb=>by rw[eX V,eX V],λW hb=>by rw[eX V,eX V];exact aa.new W V,aa.jZ⟩,ae.ext x2,⟨fK _ _ _,V,V⟩,⟨by rw[eX V];exact fK _ _ _,V,V⟩,⟨ok.YH hS V,ok.jw hS V,oh hS.aU,oh hS.heap⟩⟩;generalize oJ (oJ r M.size 1) S.size 1=ro2 at q2;have D:∀W∈[S.size,M.size],W=S.size\/W=M.size:=aN;have hc:=q2.fs.uQ.bA;have ay:=ok.dX;refine q2.pick k V D 30 λaz y _ _ m f3=>?_;have ah:SP n b j e (P+6) (.agg #[vi s.cw,vi s.value,vi s.bA,vi s.dX,O.v aU,O.v h,O.v f]) (ai y S.size 0 [.i s.cw,.i s.value,.i s.bA,.i s.dX,.s aU,.s h,.s f]):=m.done I Q V hc _;have Gu:∀p∈s.an,(1<=p.ak.length/\p.ak.length<=2000)/\p.aS.length<=2000/\1<=p.ba.length:=λp hf=>by
  have hG:=ok.an p hf;obtain⟨pg,_,au,ao,_⟩:=hG.Al ok.fm;have R:=hG.lr;have W:=hG.lo;have X:=hG.lh;rw[au]at R W X;have:=ao.ak;omega
 have Kw:∀(R:O)(fb H:Nat)(ls:List Int){C:List Ce}{X:Nat},ro2 fb=4->fb<y.size->C=ls.map Ce.i->X=ls.length->0<ls.length/\ls.length<=100->∀{ak:Int->Int->E->Prop},(∀F x d,0<=F->(F<(R.len:Int)\/F=0)->x∈ls->SQ n b j e S.size M.size (P+3) ro2 d aU h f s->Mv n ro2 y ro2 d->ak F x d)->
  (aO cp 47 [vp b 0,vi (R.len:Int)] y λK v=>eF [S.size,M.size] y v/\∃F:Int,K=vi F/\af v fb H=af y fb H/\af v M.size 6=af y M.size 6/\(af (v.push (.cells (bz C) aB)) fb H=af v fb H/\af (v.push (.cells (bz C) aB)) M.size 6=af v M.size 6/\af (v.push (.cells (bz C) aB)) fb H=af v fb H/\af (v.push (.cells (bz C) aB)) M.size 6=af v M.size 6/\
   aO cp 53 [vp b 0,O.v (.mk v.size 0 X X)] (v.push (.cells (bz C) aB)) λK G=>eF [S.size,M.size] (v.push (.cells (bz C) aB)) G/\∃x:Int,K=vi x/\af G fb H=af (v.push (.cells (bz C) aB)) fb H/\af G M.size 6=af (v.push (.cells (bz C) aB)) M.size 6/\ak F x G))/\
  (af (y.push (.cells (bz C) aB)) fb H=af y fb H/\af (y.push (.cells (bz C) aB)) M.size 6=af y M.size 6/\af (y.push (.cells (bz C) aB)) fb H=af y fb H/\af (y.push (.cells (bz C) aB)) M.size 6=af y M.size 6/\
   aO cp 47 [vp b 0,vi (R.len:Int)] (y.push (.cells (bz C) aB)) λK v=>eF [S.size,M.size] (y.push (.cells (bz C) aB)) v/\∃F:Int,K=vi F/\af v fb H=af (y.push (.cells (bz C) aB)) fb H/\af v M.size 6=af (y.push (.cells (bz C) aB)) M.size 6/\
    aO cp 53 [vp b 0,O.v (.mk y.size 0 X X)] v λK G=>eF [S.size,M.size] v G/\∃x:Int,K=vi x/\af G fb H=af v fb H/\af G M.size 6=af v M.size 6/\ak F x G):=λR fb H ls C X h4 aw h1 h2 h3{ak} hX=>by
  have nb:fb∉[b]:=λw=>by simp at w;have:=q2.w.jZ b k;rw[w]at h4;omega
  have ge:∀{M1 M2:E},y.size<=M1.size->Fz [b] M1 M2->af M2 fb H=af M1 fb H:=λav p=>aI (p.same fb V nb) H
  refine⟨?_,?_⟩
  .refine m.pick k V D (R.len:Int) λF v k0 ab A Z=>?_
   have T:=J.push v (.cells (bz C) aB)
   have z4:=Z.size
   refine⟨ge (ad _) Z,m.gk k Z _,ge z4 (T.fz _),A.gk k (T.fz _) _,ge z4 (T.fz _),A.gk k (T.fz _) _,A.lY k V D ls h1 h2 h3 λx G z q N=>⟨ge (bJ z4 T.size) N,(A.ext k T).gk k N _,hX F x G k0 ab z q (m.w.mvF ((Z.trans (T.fz _)).trans N) k)⟩⟩
  .have U:=J.push y (.cells (bz C) aB)
   have A:=m.ext k U
   have z4:=U.size
   have L:ap (bI [b] (y.push (.cells (bz C) aB))) (.mk y.size 0 X X) ls:=ap.lit aB ls (by simp;exact m.r.r.lt) h1 h2 V
   refine⟨ge (ad _) (U.fz _),m.gk k (U.fz _) _,ge (ad _) (U.fz _),m.gk k (U.fz _) _,A.pick k V D (R.len:Int) λF m5 k0 ab B f5=>⟨ge z4 f5,A.gk k f5 _,?_⟩⟩
   refine(kO B.r.r V (ap.le (f5.dj aN) L) h3.1).mono λ_ G⟨x,w,z,Y,N⟩=>⟨B.gN k D N,x,w,ge (bJ z4 f5.size) N,B.gk k N _,hX F x G k0 ab z (B.fz k N (B.r.to N Y)) (m.w.mvF (((U.fz _).trans f5).trans N) k)⟩
 refine⟨λ_=>m.lY k V D [0,1,2,3,4,-1] rfl rfl aN λx v _ A _=>(A.box I Q _ _).done I Q V hc _,λ_=>⟨λ_=>?_,λ_=>⟨λ_=>m.lY k V D [5,1000,0] rfl rfl aN λx v _ A _=>(A.box I Q _ _).done I Q V hc _,λ_=>⟨λ_=>?_,λ_=>⟨λ_=>?_,λ_=>⟨λ_=>⟨λz=>?_,λ_=>ah⟩,λ_=>⟨λ_=>⟨λz=>?_,λ_=>ah⟩,λ_=>⟨λ_=>⟨λz=>?_,λ_=>ah⟩,λ_=>⟨λ_=>⟨λz=>?_,λ_=>ah⟩,λ_=>⟨λ_=>⟨λz=>?_,λ_=>ah⟩,λ_=>ah⟩⟩⟩⟩⟩⟩⟩⟩⟩⟩
 .refine m.lY k V D [0,41,-1,cG (s.dX+1)] rfl rfl aN λx v z A _=>(A.box I Q _ _).done I Q V ?_ _;rw[aR V V]at z;simp at z;exact⟨V,V⟩
 .have U:=J.push y (.cells (bz [.i 5,.i 1000]) aB);refine⟨m.gk k (U.fz _) _,m.lY k V D [5,1000] rfl rfl aN λx m5 _ B f5=>⟨(m.ext k U).gk k f5 _,?_⟩⟩;intro G;have Y:J m5 G:=J.push _ _;have iL:fS G m5.size 0 [.i x]:=(cK.push m5 [.i x] aB).iL;clear_value G;have q:=B.ext k Y;have ol:=q.w.aU.len;have os:=hS.aU;simp at ol;refine⟨B.gk k (Y.fz _) _,q.w.aU.append (zs:=[.i 0]) q.w.new rfl iL bG λu ag m7 ac L=>⟨q.dz D L λF hk=>V,?_⟩⟩;have q7:=q.eJ I Q L (λF hk=>V) (q.w.Ix (l:=s.aU++[x]) L (by rw[fA];exact ac)) ⟨⟨q.fs.uQ.bA,q.fs.uQ.heap,q.fs.uQ.an,q.fs.uQ.lh,q.fs.uQ.lf,q.fs.uQ.lr⟩,⟨bG,q.fs.jw.fl,q.fs.jw.heap,q.fs.jw.depth,q.fs.jw.an⟩,bG,q.fs.lo.2⟩;exact(q7.box I Q _ _).done I Q V hc _
 .have ax:=m.w.heap.len;refine⟨λh1=>?_,λ_=>ah⟩;simp only[kU,ar]at h1;refine m.pick k V D (h.len:Int) λR v a0 a1 A Z=>?_;let⟨X,al⟩:=cL s.heap R.toNat;obtain⟨_,g0,-⟩:=A.w.heap.cq al;have hb:=A.w.heap.D (a:=R.toNat) V;have nb:h.D≠b:=λw=>by have:=A.w.jZ b k;rw[w]at hb;omega
  have T:=J.push v (.cells (bz [.i 1,.i (-1)]) aB);have e5:=λac=>aI (T.same _ hb.2) ac;refine⟨a0,V,_,g0,e5 _,A.gk k (T.fz _) _,A.gk k (T.fz _) _,A.lY k V D [1,-1] rfl rfl aN λx G _ q N=>?_⟩;have e6:=λac=>aI (N.same h.D (aP hb.2 T.size) (by simpa using nb)) ac;have B:=A.ext k T;refine⟨e6 _,B.gk k N _,B.gk k N _,a0,V,q.w.heap.wr (o:=0) V V,?_⟩;let⟨an,L⟩:=q.w.heap.rO q.w.new al (cG (X.aQ+x));have Y:=q.fs.uQ;have aj:=q.fs.jw;refine⟨q.dz D L λF hk=>V,SQ.done (q.eJ I Q L (λF hk=>V) (q.w.gD L an) ⟨⟨Y.bA,λam hx=>?_,Y.an,by simpa using Y.lh,Y.lf,Y.lr⟩,⟨aj.aU,λam hx=>?_,by simpa using aj.heap,aj.depth,aj.an⟩,by simpa using q.fs.lo⟩) I Q V hc _⟩
  .rcases cF hx with w|w
   .exact Y.heap am w
   .rw[w];exact Y.heap X (aq al)
  .rcases cF hx with w|w
   .exact aj.fl am w
   .rw[w];exact aj.fl X (aq al)
 .simp only[oK,ar]at z;have U:=J.push y (.cells (bz [.i 0,.i 1,.i 99,.i (-1)]) aB);refine⟨m.gk k (U.fz _) _,m.lY k V D [0,1,99,-1] rfl rfl aN λx m5 _ B f5=>⟨(m.ext k U).gk k f5 _,?_⟩⟩;let⟨fs,p,ae,ac,ag,aj,w,T,ew,el⟩:=B.fW z;have N:p∈s.an:=by rw[w];simp
  have Y:=B.fs.uQ.an p N;have fl:=B.fs.jw.an p N;rw[ew];let⟨wr,T',L⟩:=T.put (i:=1) (g:={p with pc:=x}) (c:=.i x) B.w.new bn rfl T.ak T.aS T.ba;exact⟨V,V,wr,B.tq I Q w T' L Y fl D V hc _⟩
 .simp only[oK,ar]at z;let⟨fs,p,ae,ac,ag,aj,w,T,ew,el⟩:=m.fW z;have N:p∈s.an:=by rw[w];simp
  have Y:=m.fs.uQ.an p N;have fl:=m.fs.jw.an p N;rw[ew];obtain⟨_,_,_,_,g4,_⟩:=T.iL;have hl:=Gu p N;refine⟨V,V,ac,g4,(qV m.r.r V (T.aS.nX V) V).mono λ_ v⟨R,l',e',am,an,hm,r4,Z⟩=>⟨m.gN k D Z,R,e',m.gk k Z _,V,V,?_⟩⟩;have ax:=am.bq;have K:Mv n ro2 y (oJ ro2 R.D (11+3*fs.length)) v:=⟨Z.size,λW hb al=>Z.same W hb bG,λW hb=>eX V,λW hb=>by rw[eX V];exact m.w.new W (bJ Z.size hb),m.w.jZ⟩;have z4:=Z.size;have ab:=m.k1;have al:=m.k2;have A:SQ n b j e S.size M.size (P+4) (oJ ro2 R.D (11+3*fs.length)) v aU h f s:=⟨m.w.mv K,m.r.to Z r4,⟨(K.gY _ ab.2.1).trans ab.1,V,ab.2.2⟩,⟨(K.gY _ al.2.1).trans al.1,V,al.2.2⟩,m.fs⟩;have T4:=T.mv K;let⟨wr,T',L⟩:=T4.put (i:=4) (g:={p with aS:=l'}) (c:=.s R) A.w.new bn rfl T4.ak (iR.gC (GI.aU am) λ_=>fK _ _ _) T4.ba;exact⟨wr,A.tq I Q w T' L ⟨Y.1,λaa hw=>(hm aa hw).elim (Y.2.1 aa) λw=>⟨V,V⟩,Y.2.2⟩ ⟨fl.1,by show l'.length<=_;omega,fl.2.2⟩ D V hc _⟩
 .simp only[oK,ar]at z;let⟨fs,p,ae,ac,ag,aj,w,T,ew,el⟩:=m.fW z;have N:p∈s.an:=by rw[w];simp
  have Y:=m.fs.uQ.an p N;have fl:=m.fs.jw.an p N;have hl:=Gu p N;rw[ew];obtain⟨_,_,_,g3,_⟩:=T.iL;have Z:=T.ak.len;simp at Z;refine⟨V,V,ae,g3,V,V,ae,g3,Kw ae f.D _ [0,5,1000,1003,-1000] T.D.1 T.D.2 rfl rfl aN λF x G k0 ab z q K=>?_⟩;let⟨T',L⟩:=(T.mv K).AE q.w.new k0 V x;exact⟨k0,V,(T.mv K).ak.Om k0 V,q.tq I Q w T' L ⟨λaa hw=>(cF hw).elim (Y.1 aa) λw=>by simp at z;exact⟨V,V⟩,Y.2⟩ ⟨by show(p.ak.set _ _).length<=_;simp;omega,fl.2⟩ D V hc _⟩
 .simp only[oK,ar]at z;let⟨fs,p,ae,ac,ag,aj,w,T,ew,el⟩:=m.fW z;have N:p∈s.an:=by rw[w];simp
  have Y:=m.fs.uQ.an p N;have fl:=m.fs.jw.an p N;have hl:=Gu p N;rw[ew];obtain⟨_,_,_,_,_,g5⟩:=T.iL;have Z:=T.ba.len;simp at Z;refine⟨V,V,ag,g5,V,V,ag,g5,Kw ag f.D _ [1000,1,1001] T.D.1 T.D.2 rfl rfl aN λF x G k0 ab z q K=>?_⟩;let⟨T',L⟩:=(T.mv K).xG q.w.new k0 V x;exact⟨k0,V,(T.mv K).ba.Om k0 V,q.tq I Q w T' L ⟨Y.1,Y.2.1,λaa hw=>(cF hw).elim (Y.2.2 aa) λw=>by simp at z;exact⟨V,V⟩⟩ ⟨fl.1,fl.2.1,by show(p.ba.set _ _).length<=_;simp;omega⟩ D V hc _⟩
 .simp only[oK,ar]at z;have U:=J.push y (.cells (bz [.i 0,.i 1,.i 99,.i (-1)]) aB);refine⟨m.gk k (U.fz _) _,m.lY k V D [0,1,99,-1] rfl rfl aN λx m5 _ B f5=>⟨(m.ext k U).gk k f5 _,?_⟩⟩;let⟨fs,p,ae,ac,ag,aj,w,T,ew,el⟩:=B.fW z;have N:p∈s.an:=by rw[w];simp
  have Y:=B.fs.uQ.an p N;have fl:=B.fs.jw.an p N;rw[ew];let⟨wr,T',L⟩:=T.put (i:=2) (g:={p with dst:=x}) (c:=.i x) B.w.new bn rfl T.ak T.aS T.ba;exact⟨V,V,wr,B.tq I Q w T' L Y fl D V hc _⟩
end
end
section
def Uk(S:List Nat)(m:E):(Vc.bI S m).size=m.size:=by simp[Vc.bI]
def Uj{S:List Nat}{m:E}{b:Nat}(h:b∉S):(Vc.bI S m)[b]? =m[b]? :=by
 unfold Vc.bI;rw[XW];cases m[b]? <;>simp[h]
def AR(S:List Nat)(v:Value)(c:E):Prop:=∃d p e aU b a s,v=.tuple #[.agg #[O.v d,O.v p],Nz s aU b a]/\fC (bI S c) d p e/\gK (bI S c) aU b a s/\zI s/\s.aU.length<=1000000/\s.heap.length<=1000000
section
variable{a:List Nat}{m:E}{b P:Nat}{c:O}
def GK(D:∀d∈a,d<m.size)(q:b∈a)(k:Rd b c P m)(hP:P+3000+4*(300+40*Cg 18)<=10^16):aO cp 8 [vp b 0] m λO I=>AR a O I/\Fz [b] m I/\Rd b c (P+3000+4*(300+40*Cg 18)) I:=by
 apply yY (b,0);simp -zeta only[aD,aC];have v:=k.lt;intro e W;have b2:BS [e.size,m.size] b c m P W:=BS.psh (BS.lY (S:=a) k _).1 _;have s1:e.size=m.size+1:=by simp[e]
 clear_value W;refine b2.call (S:=a) v (λ_ d=>d) (JZ (b2.hS D) (by simp[q]) b2.s.r V) λt w x h _ t3 b3 f3=>?_;intro m4 X;obtain⟨b5,l5,-⟩:=b3.box (S:=a) (m1:=m4) (m2:=X) rfl rfl rfl;clear_value X;have N:=IT.mn _ _ _ _ _ l5 t3;refine(tZ (b:=⟨x.1,x.2⟩) ⟨N.1.le (bD _ _),iC.le (bD _ _) N.2⟩).mono λ_ f⟨O,l,hv,A⟩=>⟨(b5.lw v λ_ d=>d).dz (A.fz _),O,l,λp=>?_,λhy=>?_⟩;all_goals
  have b6:=b5.to (A.fz _) (b5.s.r.ext A)
  have z:=IT.mn _ _ _ _ _ (BS.le (B:=[h.size,e.size,m.size]) q (A.fz [b])) N
  have g:=b6.gN
 .intro j K L;have u:J f j:=J.push _ _;have G:cK j f.size dS [.i 0,.i 0,.i 0,.s .nil,.s .nil,.s .nil]:=cK.push _ _ _;have R:=b6.to (u.fz _) (b6.s.r.ext u);have Z:=IT.mn _ _ _ _ _ (BS.le (B:=[h.size,e.size,m.size]) q (u.fz [b])) z;clear_value j;let⟨T,Y⟩:=R.put (S:=a) k (by simp:m.size∈_) [.s t,.s w];let⟨s,H⟩:=T.put (S:=a) k (by simp:e.size∈_) [.i 3,.i 0,.i 0,.i 0,.s .nil,.s .nil,.s (.mk f.size 0 1 1)];have C:=IT.mn _ _ _ _ _ ((Y.trans H).trans (je _ λ_=>eG _)) Z;have ha:=g m.size aN;have i:=g e.size aN;have M:cK L f.size dS [.i 0,.i 0,.i 0,.s .nil,.s .nil,.s .nil]:=(G.congr (bg _ _ _ _ V)).congr (bg _ _ _ _ V);have U:f.size∉a:=λF=>by have:=D _ F;omega
  have o:∀{Q:E},ap Q .nil []:=⟨rfl,dQ _,aN,aN⟩;refine⟨⟨t,w,⟨x.1,x.2⟩,.nil,.nil,.mk f.size 0 1 1,⟨3,0,0,0,[],[],[⟨0,0,0,[],[],[]⟩]⟩,rfl,⟨C.1,C.2⟩,⟨o,⟨rfl,dQ _,aN,aN⟩,⟨rfl,ad _,aN,λy aa r=>?_⟩⟩,⟨⟨aN,aN⟩,by simp[Sz],by simp[Sy],aN,aN,aN⟩,aN⟩,s.s.f,s.s.r.mono V⟩;cases y with
  |zero=>
   simp at r;subst r;exact⟨_,⟨.nil,.nil,.nil,rfl,o,o,o⟩,Kz U M.iL⟩
  |succ y=>simp at r
 .have ok:nF ⟨x.1,x.2⟩:=hv.1 (by simpa using hy);have U:Le (bI ([h.size,e.size,m.size]++a) f) (bI [b] f):=je _ (by simp[q]);refine(IL b6.s.r V (z.1.le U) (iC.le U z.2) ok).mono λ_ j⟨ak,ro,aU,hp,fr,ao,l,aa,p,ae,al,ab,r7,u⟩=>?_;have R:∀o,af j h.size o=af f h.size o:=λo=>kg u v (g _ aN) o;refine⟨(b6.lw v λ_ d=>d).dz u,_,_,_,_,aU,hp,fr,l,R _,R _,?_⟩;have an:b<f.size:=b6.s.r.lt;refine(Hm (n:=ak) b6.s.r p (SO.of aa ae) ⟨u,r7⟩ V al ab).mono λ_ K⟨M,G,C,r,l,ah,ac,ag,y⟩=>?_;have Y:∀d,d<f.size->d≠b->K[d]? =j[d]? :=λd i p=>(y.f.same d i (by simpa using p)).trans (u.same d i (by simpa using p)).symm;have T:∀o,af K h.size o=af j h.size o:=λo=>aI (Y _ (g _ aN).2 (oh (g h.size aN))) o;refine⟨λd i=>Y d (g d i).2 (oh (g d i)),_,_,_,_,M,G,C,l,T _,T _,?_⟩;intro L aj;have t8:=IT.mn _ _ _ _ _ (BS.le (B:=[h.size,e.size,m.size]) q y.f) z;let⟨s,H⟩:=(b6.to y.f y.r).put (S:=a) k (by simp:m.size∈_) [.s t,.s w];let⟨Q,ai⟩:=s.put (S:=a) k (by simp:e.size∈_) [.i r.cw,.i r.value,.i r.bA,.i r.dX,.s M,.s G,.s C];have Z:=IT.mn _ _ _ _ _ ((H.trans ai).trans (je _ λ_=>eG _)) t8;have ha:=g m.size aN;have i:=g e.size aN;refine⟨⟨t,w,⟨x.1,x.2⟩,M,G,C,r,rfl,⟨Z.1,Z.2⟩,ah _ (by rw[Uk];simp[aj,L,ax]) λd _ am=>?_,ac,ag⟩,Q.s.f,Q.s.r.mono V⟩;rw[Uj λF=>O6 (D d F) b6.s.f.size];exact(bg _ _ _ _ V).trans (bg _ _ _ _ V)
end
end
section
def RL(f:Nat->Nat):∀n,∃B,∀i,i<n->f i<=B
 |0=>⟨0,aN⟩
 |n+1=>let⟨B,h⟩:=RL f n;⟨B+f n,λi a=>by
  rcases aX i n with e|e
  .have:=h i e;omega
  .have:i=n:=V;subst this;omega⟩
def cW.DF{w:cV}{s:St}(e:cW w s)(m:s.cw=0):s.heap=[]:=by
 have g:=e.done.1 m;let⟨l,t⟩:=e.heap.KN;let⟨B,n⟩:=RL l s.heap.length;apply dE;intro q;have y:0<s.heap.length:=List.length_pos_iff.2 q;have fQ:∀k,∃(b:Nat)(c:bK),s.heap[b]? =some c/\0<c.aQ/\k<=l b:=λk=>by
  induction k with
  |zero=>
   let⟨c,d⟩:=cL s.heap (s.heap.length -1);refine⟨_,c,d,?_,dQ _⟩;have i:=e.jH c d;rcases Jq c.aQ 0 with f|f
   .have:=e.lH _ ⟨c,d,f⟩;rw[g]at this;simp[holds]at this
   .omega
  |succ k v=>
   let⟨b,c,d,r,p⟩:=v;have:=e.heap.ex b c d r;rw[g]at this;simp only[fD]at this;let⟨f,o,i⟩:=LV (h:=s.heap) (f:=b) V;let⟨j,hd⟩:=List.mem_iff_getElem?.1 o;have u:=t j f hd _ i V;rw[lP]at u;refine⟨j,f,hd,?_,V⟩;apply dE;intro x;have:=((e.heap.cell f (aq hd)).xp V).2.1 _ i;omega
 obtain⟨b,c,d,_,p⟩:=fQ (B+1);have:=n b (aw d);omega
def cW.iu{a:cV}{s:St}(h:cW a s):cW a {s with dX:=40}:=⟨h.fm,h.cw,h.done,h.value,h.ug,aN,⟨h.bA.1,by have:=h.bA;have:=h.dX;show s.bA<=40;omega⟩,h.depth,h.aU,h.heap,h.jH,h.an,h.first,h.chain,h.lH,h.nC⟩
def gK.le{m f:E}{aU d c:O}{s:St}(b:gK m aU d c s)(a:Le m f):gK f aU d c s:=⟨b.aU.le a,eV.le b.heap a λk j⟨n,e,h⟩=>⟨n,e,h.le a⟩,eV.le b.an a λk j⟨r,o,h,e,g,i,l⟩=>⟨r,o,h,e,g.le a,i.le a,l.le a⟩⟩
def LwR(m:E)(v:Value)(a:E):Prop:=v=vb true/\J m a
section
variable{m:E}{d p aU b a:O}{c:cV}{s:St}
end
end
section
section
variable{f:Nat->Bool}
end
section
variable{m:E}{d p aU b a:O}{c:cV}{s:St}
end
end
section
variable{c:E}{a:Nat->Nat}{b e:Nat}{f:List Ce}
def pJ.Wd{m:E}{aU i d:O}{s:St}(h:pJ c a m aU i d s)(g:a b=1)(l:List Ce)(kb:cK (ai m b 0 l) b e f):vS c a (ai m b 0 l) b e f aU i d s.aU s.heap s.an:=by
 have C:dx (λk=>k=1) a m a (ai m b 0 l):=dx.ai h.bs.new g _ _;let⟨b1,b2⟩:=(C.mono λk j=>by omega:To a m a _).cA h.bs.cA h.bs.jZ;exact⟨b1,b2,C.new,kb,g,h.aU.eJ C bn,h.heap.eJ C bn bn,h.an.eJ C λk j=>V⟩
def vS.aag{m:E}{aU g d:O}{s:St}(L:vS c a m b e f aU g d s.aU s.heap s.an):pJ c a m aU g d s:=⟨⟨L.cA,L.jZ,L.new⟩,L.aU,L.heap,L.an⟩
section
variable{g:E}{d p aU j i:O}{h:cV}{s:St}
def MkL(b:E)(d p:O)(h:cV)(s:St)(o:Nat×Nat)(M:E):Prop:=o.2=0/\∃a aU j i,vS b a M o.1 bV (IB d p (cv h) s aU j i) aU j i s.aU s.heap s.an
abbrev vQ:List Ce:=[.s O.nil,.s O.nil,.i 0,.i 0,.i 0,.i 0,.i 0,.s O.nil,.s O.nil,.s O.nil]
variable(k:fC g d p h)(n:gK g aU j i s)(l:zI s)(q:s.aU.length<=10000000)
include k n l q
theorem Gd:aO cp 5 [.agg #[O.v d,O.v p],Nz s aU j i] g (Xg g (uX h s 1)):=by
 apply Ac;simp -zeta only[aD,aC];rw[Oh];intro R S I;have s1:R.size=g.size+1:=by simp[R]
 have s2:S.size=g.size+2:=by simp[S,s1]
 have s3:I.size=g.size+3:=by simp[I,s2]
 have U:J g I:=(((J.aA g).aL _).aL _).aL _;clear_value I;have H:∀u∈[S.size,R.size,g.size],u<I.size:=bG;refine(Ei (k.ext U) (n.ext U) l).aJ (J.aA _) H λb4 B ah F _=>⟨b4,rfl,λh1=>Sv U F V (by rw[ae (nb ah h1)]) _,λh1=>?_⟩;have P:=yb ah h1;rw[ao P];have L:=U.trans F;have z4:=F.size;have N:=Ug l q;have an:=P.jw N V;have ht:=P.fm.ov.types;have cc:∀{M:E},J B M->HL cp 11 [O.v d] M (vi (cv h)):=λG=>qN (k.ext (L.trans G)).br ht.len (λc hd=>OK ht c hd);have c:∀{M w:E}{u:Nat},J M w->u<M.size->∀Q,af w u Q=af M u Q:=λG al Q=>aI (G.same _ al) Q;have Z:∀{a:Nat->Nat}{M:E}{ag:Value->E->Prop},Bs B a M->(∀u,a u<=1)->(∀T z y x w,pJ B T w z y x s->dx (λ_=>False) a M T w->J M w->M.size<=w.size->ag (Nz s z y x) w)->aO cp 12 [Nz s aU j i] M ag:=λac am hK=>
  (El ac am (n.ext (L.trans ac.cA)) an).mono λ_ w⟨T,z,y,x,e,ak,W⟩=>by rw[e];exact hK T z y x w ak W W.vn W.size
 have aj:∀{M w:E},J B M->w=M.push (.cells (bz vQ) bV)->Bs B (oJ (λ_=>0) M.size 1) w/\(∀u,oJ (λ_=>0) M.size 1 u<=1)/\cK w M.size bV vQ:=λG e=>by
  have hz:=G.size;subst e;refine⟨⟨G.aL _,λu C=>eX V,λu C=>eX (by simp at C;omega)⟩,λu=>?_,cK.push _ _ _⟩;unfold oJ;split
  .omega
  .exact dQ _
 refine⟨MkL B d p h s,⟨?_,?_⟩,?_⟩
 .refine(cc (J.aA _)).mono ?_;rintro _ A ⟨rfl,r⟩;have z5:=r.size;refine⟨r.dz λu C=>F.lt (H u C),_,rfl,c r V _,c r V _,c r V _,c r V _,c r V _,c r V _,c r V _,c r V _,c r V _,?_,?_⟩
  .refine Z (a:=λ_=>0) ⟨r,λ_ _=>rfl,λ_ _=>rfl⟩ (λ_=>dQ _) λaa z y x v K Y f z6=>?_;refine⟨f.dz λu C=>r.lt (F.lt (H u C)),_,_,_,_,z,y,x,rfl,c f V _,c f V _,?_⟩;intro D;have t:J v D:=J.push v _;have kb:cK D v.size bV vQ:=cK.push v _ _;refine⟨c t V _,c t V _,c t V _,c t V _,c t V _,c t V _,c t V _,c t V _,c t V _,c t V _,rfl,oJ aa v.size 1,z,y,x,?_⟩;have X:J v (ai D v.size 0 [.s d,.s p,.i (cv h),.i s.cw,.i s.value,.i s.bA,.i s.dX,.s z,.s y,.s x]):=t.ai (ad _) _ _;exact K.cX X (ad _) (cK.ai (m:=D) (o:=0) kb)
  .intro v;have f:J A v:=J.push A _;have s6:v.size=A.size+1:=by simp[v]
   let⟨K,ap,kb⟩:=aj (w:=v) r rfl;clear_value v;refine⟨c f V _,c f V _,c f V _,c f V _,c f V _,c f V _,c f V _,c f V _,c f V _,c f V _,Z K ap λab z y x D Y X t z7=>?_⟩;refine⟨t.dz bG,_,_,_,_,z,y,x,rfl,c t V _,c t V _,rfl,ab,z,y,x,?_⟩;exact Y.Wd (by rw[X.gY _ V];exact fK _ _ _) _ (cK.ai (m:=D) (o:=0) (kb.ext t))
 .intro A;have r:J B A:=J.push B _;have s5:A.size=B.size+1:=by simp[A]
  let⟨K,ap,kb⟩:=aj (w:=A) (J.aA B) rfl;clear_value A;refine⟨c r V _,c r V _,c r V _,c r V _,c r V _,c r V _,c r V _,c r V _,c r V _,c r V _,(cc r).mono ?_⟩;rintro _ v ⟨rfl,f⟩;have z6:=f.size;refine⟨f.dz bG,_,rfl,c f V _,c f V _,c f V _,c f V _,c f V _,c f V _,c f V _,c f V _,c f V _,Z (K.eJ (dx.eI _ f K.new)) ap λab z y x D Y X t z7=>?_⟩;refine⟨t.dz bG,_,_,_,_,z,y,x,rfl,c t V _,c t V _,rfl,ab,z,y,x,?_⟩;exact Y.Wd (by rw[X.gY _ V];exact fK _ _ _) _ (cK.ai (m:=D) (o:=0) (kb.ext (f.trans t)))
 .rintro⟨b,mo⟩ A ⟨rfl,X,o5,h5,f5,r⟩;simp only[]at r;have K:zG X A [S.size,R.size,g.size]:=λu C=>⟨r.cA.lt (F.lt (H u C)),r.jZ u (F.lt (H u C))⟩;refine(OY r (k.ext L) P N.uQ (oh N.heap) (oh N.aU)).mono ?_;rintro _ v ⟨aa,o6,D,t,f,Y⟩;refine⟨Y.dL K,_,f.box.cq 3,_,f.box.cq 4,_,f.box.cq 5,_,f.box.cq 6,o6,f.box.cq 7,D,f.box.cq 8,t,f.box.cq 9,aa,o6,D,t,rfl,f.aag.box L V V _ _⟩
end
end
section
def St.gX(s:St)(n:Int):St:={s with dX:=n}
section
variable{a:cV}{s:St}{f:aY}{x:Instr}{o:List Int}{b:List aY}
def lA.gX{n:Int}(h:lA a s f x o):lA a (s.gX n) f x o:=⟨h.nn,h.dst,h.nX,h.jv,h.cY,h.zero,h.ret,h.apply,h.Xl,h.drop,h.LN,h.load,h.Fy⟩
structure aal(s t:St):Prop where
 dX:t.dX=s.dX
 bA:s.bA<=t.bA
 aU:s.aU<+:t.aU
 cw:t.cw=s.cw\/t.cw=0
end
end
structure Yk where
 aE:Int
 QV:Int
 Rr:Int
 Xm:Int
 TW:Int
 YU:Int
 depth:Int
 Rx:Int
def mx(a b:Int):Int:=if b>a then b else a
def Wf:List bK->Int
 |[]=>0
 |c::h=>(if 0<c.aQ then 1 else 0)+Wf h
def Zs(n:Int):List bK->Int
 |[]=>n
 |c::h=>Zs (mx n c.aQ) h
def eQ.mZ{h:List bK}{b:Nat}(d:eQ (mZ h) b):eQ h b:=by
 let⟨c,a,e⟩:=d;unfold Go.Proofs.YtghjegjkpepmpaaGreat.mZ at a;rw[lT]at a;split at a
 .exact⟨c,a,e⟩
 .simp at a
def eQ.GG{h:List bK}{w:Int}(e:fQ h w)(c:bK){b:Nat}(d:eQ (h.set (ix w) c) b):eQ h b:=by
 by_cases a:b=ix w
 .subst a;exact e.2
 .exact(eQ.ne a).1 d
def eQ.iW:∀(a:List Int)(h:List bK)(b:Nat),(∀w∈a,fQ h w)->eQ (iW h a) b->eQ h b
 |[],_,_,_,c=>c
 |w::a,h,b,d,c=>by
  have e:=d w aZ;exact(eQ.mP e b).1 (eQ.iW a _ b (λv f=>⟨(d v (ah _ f)).1,(eQ.mP e _).2 (d v (ah _ f)).2⟩) c)
def eQ.iz:∀(n:Nat)(h:List bK)(j:List Int),Cx h+j.length<=n->∀b,eQ (iz h j) b->eQ h b
 |n,h,[],_,b,a=>by rw[tn]at a;exact a
 |0,h,w::r,d,b,_=>by simp at d
 |n+1,h,w::r,d,b,a=>by
  simp only[be]at d;rcases dT (fQ h w)with c|c
  .let⟨g,i⟩:=bP c;by_cases e:(aM h w).aQ=1
   .have f:=kK (d:=jd) g;simp only[ao i,jd]at f;simp at f;rw[tp c e]at a;exact eQ.GG c _ (eQ.iz n _ _ (by simp[jd];omega) b a)
   .have f:=kK (d:={aM h w with aQ:=(aM h w).aQ -1}) g;simp only[ao i]at f;rw[ao V]at f;rw[qI c e]at a;exact eQ.GG c _ (eQ.iz n _ _ (by simp only[Go.Proofs.YtghjegjkpepmpaaGreat.fu];omega) b a)
  .rw[qJ c]at a;exact eQ.iz n _ _ V b a
def eQ.apart{h:List bK}{e:Nat->Int}(g:fL h e){w:Int}(b:fQ h w){c:Nat}(a:eQ (apart h w) c):eQ h c:=by
 let⟨d,l⟩:=bP b;unfold Go.Proofs.YtghjegjkpepmpaaGreat.apart at a;split at a
 .exact eQ.GG b _ (eQ.mZ a)
 .rename_i k;refine eQ.GG b {aM h w with aQ:=(aM h w).aQ -1} (eQ.iW _ _ _ (λv i=>?_) a);let⟨j,f⟩:=kM.1 i;have:=g.field (gJ d) j f;refine⟨f,?_⟩;by_cases e:ix v=ix w
  .rw[e,eQ.uz d];show 0<(aM h w).aQ -1;omega
  .rw[eQ.ne e];exact this.2
structure aam(c:Yk)(s:St):Prop where
 YU:Wf s.heap<=c.YU
 depth:(s.an.length:Int)<=c.depth
 Rx:Zs c.Rx s.heap=c.Rx
structure aan(n:Nat)(c:Yk):Prop where
 aE:0<=c.aE/\c.aE<=n
 QV:0<=c.QV/\c.QV<=n
 Rr:0<=c.Rr/\c.Rr<=n
 Xm:0<=c.Xm/\c.Xm<=n
 TW:0<=c.TW/\c.TW<=n
section
section
variable{a:cV}{s:St}{f:aY}{x:Instr}{aS:List Int}{b:List aY}
def Td(h:cW a s)(i:s.cw=3)(g:(j7 a s).cw=3)(c:s.an=b++[f]):
 lA a s f (cR a f) (bC f.ak f.aS (bU a (cR a f)))/\j7 a s=fH a s b f (cR a f) (bC f.ak f.aS (bU a (cR a f))):=by
 have d:s.an.getLast?=some f:=by rw[c];simp
 have e:s.an.dropLast=b:=by rw[c];simp
 revert g
 unfold j7
 rw[ae (by simpa using i),d,e]
 simp only[]
 split
 .exactλh=>by simp at h
 .split
  .exactλ_=>⟨by assumption,rfl⟩
  .exactλh=>by simp at h
section
variable(h:cW a s)(e:s.cw=3)(d:(j7 a s).cw=3)(c:s.an=b++[f])
include h e d c
theorem OH:∀b∈(cR a f).args,0<=b/\b<f.ak.length/\b<f.aS.length/\b<f.ba.length:=λb i=>by
 have d:iy a f:=h.an f (by rw[c];simp);let⟨p,l,e,j,k,g⟩:=d.Al h.fm;have:=g.args b i;have⟨o,n,m⟩:(f.ak.length:Int)=p.ak/\(f.aS.length:Int)=p.ak/\(f.ba.length:Int)=p.ak:=⟨e▸d.lr,e▸d.lo,e▸d.lh⟩;omega
end
def KT{r:Int}(c:0<=r):∀(a aS:List Int),(∀v∈a,0<=v/\v<aS.length/\v≠r)->aF (dw aS a) r=aF aS r
 |[],_,_=>rfl
 |v::a,aS,h=>by
  have b:=h v aZ;simp only[dw];rw[KT c a _ λu d=>by rw[gZ];exact h u (ah _ d),Cf b.1 b.2.1 _ c,ae (λe=>b.2.2 e.symm)]
def KS{r:Int}(f:0<=r):∀(a aS:List Int),(∀v∈a,0<=v/\v<aS.length)->aF aS r<=aF (dw aS a) r/\(r∈a->aF aS r<aF (dw aS a) r)
 |[],_,_=>⟨de _,sx⟩
 |v::a,aS,h=>by
  have g:=h v aZ;simp only[dw];let⟨b,d⟩:=KS f a (gA aS v (aF aS v+1)) λu j=>by rw[gZ];exact h u (ah _ j)
  rw[Cf g.1 g.2 _ f]at b d;by_cases e:r=v
  .subst e;rw[ao rfl]at b;exact⟨V,λ_=>V⟩
  .rw[ae e]at b d;exact⟨b,λi=>by rcases List.mem_cons.1 i with c|c;exact absurd c e;exact d c⟩
def LU:∀(a:List Int)(h:List bK),(∀w∈a,fQ h w)->∀b,eQ (iW h a) b<->eQ h b
 |[],_,_,_=>QH
 |w::a,h,c,b=>by
  have d:=c w aZ;simp only[iW];rw[LU a _ λv e=>⟨(c v (ah _ e)).1,(eQ.mP d _).2 (c v (ah _ e)).2⟩];exact eQ.mP d b
def Th{h:List bK}{b:Nat}(c:¬eQ h b):¬eQ (mZ h) b:=λa=>c (eQ.mZ a)
def QW{e:Nat->Int}{h:List bK}(d:fL h e){w:Int}(i:fQ h w):(aM h w).aQ=1<->¬eQ (apart h w) (ix w):=by
 let⟨a,j⟩:=bP i;unfold apart;split
 .rename_i b;refine⟨λ_=>Th ?_,λ_=>b⟩;rw[eQ.uz a];simp[jd]
 .rename_i b;refine⟨λk=>absurd k b,λk=>absurd ?_ k⟩;rw[LU]
  .unfold fu;rw[eQ.uz a];show 0<(aM h w).aQ -1;omega
  .intro v f;let⟨g,c⟩:=kM.1 f;have:=d.field (gJ a) g c;refine⟨c,?_⟩;unfold fu;by_cases e:ix v=ix w
   .rw[e,eQ.uz a];show 0<(aM h w).aQ -1;omega
   .rw[eQ.ne e];exact this.2
def Tc(h:cW a s)(i:s.cw=3)(t:(j7 a s).cw=3)(z:s.an=b++[f])(q:(cR a f).op=16\/(cR a f).op=17){c:Int}{l:List Int}(n:(cR a f).args=c::l):
 fQ s.heap (aF f.ak c)/\(∃g,(j7 a s).an=b++[g]/\aF g.aS c=aF f.aS c -1/\(∀r∈l,aF f.aS r<aF g.aS r)/\(aF g.ba c≠aF f.ba c<->(aM s.heap (aF f.ak c)).aQ=1/\(cR a f).op=17)/\g.aS.length=f.aS.length/\g.ba.length=f.ba.length)/\
  ((aM s.heap (aF f.ak c)).aQ=1<->¬eQ (j7 a s).heap (ix (aF f.ak c))):=by
 let⟨u,m⟩:=Td h i t z
 have p:=OH h i t z
 have B:bU a (cR a f)=[c]:=by
  unfold bU;rw[ae V,ao q,n];rfl
 rw[B]at u m
 rw[n]at p
 have o:=u.LN q
 unfold Cd at o
 rw[n]at o
 have w:aF (c::l) 0=c:=rfl
 simp only[w,ZL,ML]at o
 obtain⟨k,E,-,C⟩:=o
 let⟨y,I⟩:=bP k
 have d:=p c aN
 have j:∀v∈l,(0<=v/\v<(gA f.aS c (aF f.aS c -1)).length)/\v≠c:=λv g=>by
  have e:=p v (by simp[g]);refine⟨⟨e.1,by rw[gZ];exact e.2.2.1⟩,λm=>?_⟩;subst m;have D:aF f.ak v∈lx (aM s.heap (aF f.ak v)).aH:=by rw[E];exact List.mem_map.2 ⟨v,g,rfl⟩
  let⟨G,H⟩:=kM.1 D;let⟨J,F⟩:=h.heap.KN;exact Nat.lt_irrefl _ (F _ _ y _ G H)
 have b1:aF (dw (gA f.aS c (aF f.aS c -1)) l) c=aF f.aS c -1:=by
  rw[KT d.1 l _ λv g=>⟨(j v g).1.1,(j v g).1.2,(j v g).2⟩,Cf d.1 d.2.2.1 _ d.1,ao rfl]
 have b2:∀r∈l,aF f.aS r<aF (dw (gA f.aS c (aF f.aS c -1)) l) r:=λr i=>by
  have:=(KS (j r i).1.1 l (gA f.aS c (aF f.aS c -1)) λv g=>(j v g).1).2 i;rwa[Cf d.1 d.2.2.1 _ (j r i).1.1,ae (j r i).2]at this
 have A:bC f.ak f.aS [c]=gA f.aS c (aF f.aS c -1):=by simp only[bC,ao k.1]
 refine⟨k,?_⟩
 rw[m,A]
 generalize cR a f=x at*
 unfold fH
 simp only[n,w,ZL,ML]
 rw[ae V,ae V,ae V,ae V,ae V,ae V,ae V,ao q]
 split
 .rename_i e
  refine⟨⟨_,rfl,b1,b2,?_,by simp only[kA,gZ],by simp only[gZ]⟩,λ_=>?_,λ_=>e.1⟩
  .simp only[]
   rw[Cf d.1 d.2.2.2 _ d.1,ao rfl,C e.2]
   exact⟨λ_=>e,λ_=>oh k.1⟩
  .simp only[];rw[eQ.uz y];simp
 .rename_i e
  exact⟨⟨_,rfl,b1,b2,⟨λh=>absurd rfl h,λh=>absurd h e⟩,by simp only[kA,gZ],rfl⟩,QW h.heap k⟩
end
end
section
variable{m e a:E}{h:List bK}{d:Nat}
structure Ox(m:E)(hp:O)(h:List bK):Prop where
 len:hp.len=h.length
 iL:∀(k:Nat)(c:bK),h[k]? =some c->∃f,af m hp.D (hp.off+k*3)=some (vi c.aQ)/\af m hp.D (hp.off+k*3+1)=some (vi c.kE)/\af m hp.D (hp.off+k*3+2)=some (O.v f)
def Ox.eC{b:O}(H:Ox m b h)(k:h≠[]->e[b.D]? =m[b.D]?):Ox e b h:=
 ⟨H.len,λl d c=>by
  let⟨f,g,i,j⟩:=H.iL l d c;have a:=k (λa=>by subst a;simp at c);exact⟨f,by rw[aI a];exact g,by rw[aI a];exact i,by rw[aI a];exact j⟩⟩
def Ox.lt{a:O}(H:Ox m a h)(d:h≠[]):a.D<m.size:=by
 cases h with
 |nil=>exact absurd rfl d
 |cons c r=>
  obtain⟨f,b,_⟩:=H.iL 0 c rfl;exact mC b
def Ox.ext{a:O}(H:Ox m a h)(c:J m e):Ox e a h:=H.eC λb=>c.same _ (H.lt b)
def dO.jD{N:Nat}{g:Nat->Nat}{a:O}(H:dO N g m a h):Ox m a h:=
 ⟨H.len,λ_ _ e=>let⟨f,b,c,d,_⟩:=H.cq e;⟨f,b,c,d⟩⟩
structure pH(d:Nat)(m e:E):Prop where
 size:m.size<=e.size
 same:∀b,b<m.size->b≠d->e[b]? =m[b]?
def pH.aA(d:Nat)(m:E):pH d m m:=⟨ad _,λ_ _ _=>rfl⟩
def pH.ext(h:pH d a m)(f:J m e):pH d a e:=⟨bJ h.size f.size,λb c g=>by rw[f.same b (aP c h.size)];exact h.same b c g⟩
def pH.trans(h:pH d a m)(g:pH d m e):pH d a e:=⟨bJ h.size g.size,λb c f=>by rw[g.same b (aP c h.size) f];exact h.same b c f⟩
def pH.ai(h:pH d a m)(o:Nat)(l:List Ce):pH d a (ai m d o l):=⟨by rw[ax];exact h.size,λb e c=>by rw[bg l m d o c];exact h.same b e c⟩
def pH.dz(h:pH d m e){l:List Nat}(c:∀b∈l,b<m.size/\b≠d):eF l m e:=λb a=>h.same b (c b a).1 (c b a).2
end
section
section
variable{m:E}{a:O}{h:List bK}
end
section
variable{a:cV}{s:St}
def Xy{k:Int}(h:(uX a s k).ok=true):(cW a s/\0<=k/\k<=100000)/\uX a s k=⟨aE a k.toNat s,true⟩:=by
 have b:cW a s/\0<=k/\k<=100000:=by
  apply dE;intro c;rw[uX,ae c]at h;simp at h
 exact⟨b,ao b⟩
def Vz(h:(uX a s 1).ok=true):cW a s/\uX a s 1=⟨j7 a s,true⟩:=let⟨b,e⟩:=Xy h;⟨b.1,e⟩
def Te(c:cW a s)(d:zI s)(b:s.aU.length<=1000000/\s.heap.length<=1000000){k:Nat}(e:k<=100000):zI (aE a k s)/\cW a (aE a k s)/\Sm (1000000+k) (aE a k s):=
 have h:=wY k c
 have S:=wZ k c (d.sm b.2 b.1) V
 ⟨h.YH S V,h,S⟩
end
section
variable{a:E}
def AG{dk:O}(h:Js a dk):aO cp 4 [O.v dk] a λv u=>AR [] v u/\J a u:=by
 apply vB;simp -zeta only[aD,aC];intro d c;let⟨e,g⟩:=dI (a:=d) (c:=c) rfl rfl;have P:d.size=a.size+1:=by simp[d]
 clear_value c;refine(IY (m:=c) ⟨h.1,λk i=>let⟨v,f,b,l⟩:=h.2 k i;⟨v,f,b,e.af l⟩⟩).mono λ_ M⟨H,j,y,p⟩=>⟨p.dz g,(c.size,0),j,?_⟩;have L:=y.lt;have I:=g a.size aN;have K:=g d.size aN;refine(GK (a:=[d.size,a.size,c.size]) bG aN y (by simp[Cg])).mono λ_ i⟨⟨q,x,E,aU,t,r,G,j,s,D,C⟩,k,_⟩=>?_;refine⟨k.dz λb f=>by have:=g b f;simp only[lU];omega,q,x,_,_,_,_,aU,t,r,j,?_⟩;intro N w;have Q:=k.size;have F:∀{b o:Nat}{v:Value},af (bI [d.size,a.size,c.size] i) b o=some v->af (bI [] w) b o=some v:=λh=>by
  let⟨A,B⟩:=eS.1 h;simp at A;refine eS.2 ⟨aN,?_⟩;rw[aI ((bg _ _ _ _ V).trans (bg _ _ _ _ V))];exact B
 have n:Le (bI [d.size,a.size,c.size] i) (bI [] w):=λb o v h=>F h;refine⟨⟨q,x,E,aU,t,r,G,rfl,⟨s.br.le n,iC.le n s.cE⟩,gK.le D n,C⟩,?_⟩;have z:Fz [c.size] c i:=(p.fz _).trans k;have l:J a i:=⟨by have:=e.size;have:=p.size;omega,λb f=>(z.same b (e.lt f) (by have:=e.size;simp;omega)).trans (e.same b f)⟩;exact(l.ai V _ _).ai V _ _
end
end
section
section
variable{a:cV}{s:St}{f:aY}{b:List aY}
def RD(i:cW a s)(p:s.cw=3)(o:(j7 a s).cw=3)(m:s.an=b++[f])(t:(cR a f).op=16\/(cR a f).op=17):∃(g:aY)(r:Int)(j:bK),(j7 a s).an=b++[g]/\(cR a f).args[0]? =some r/\
 (0<=r/\r<f.ak.length/\r<f.aS.length/\r<f.ba.length)/\(g.aS.length=f.aS.length/\g.ba.length=f.ba.length)/\aF g.aS r=aF f.aS r -1/\(∀(k:Nat)(v:Int),0<k->(cR a f).args[k]? =some v->aF f.aS v<aF g.aS v)/\
 1000<=aF f.ak r/\s.heap[ix (aF f.ak r)]? =some j/\(aF g.ba r≠aF f.ba r<->j.aQ=1/\(cR a f).op=17)/\(j.aQ=1<->¬eQ (j7 a s).heap (ix (aF f.ak r))):=by
 have A:=OH i p o m
 let⟨J,H,I,E,F,D⟩:=(i.an f (by rw[m];simp)).Al i.fm
 have n:=D.op
 have d:1<=(cR a f).args.length:=by
  unfold mf at n;rcases t with e|e<;>simp[e]at n<;>exact n.1.1
 obtain⟨c,l,h⟩:∃c l,(cR a f).args=c::l:=by
  cases e:(cR a f).args with
  |nil=>rw[e]at d;simp at d
  |cons c l=>exact⟨c,l,rfl⟩
 let⟨d,⟨g,u,w,x,y,z,B⟩,C⟩:=Tc i p o m t h
 refine⟨g,c,_,u,by rw[h];rfl,A c (by rw[h];simp),⟨z,B⟩,w,λk v G q=>x v ?_,d.1,(bP d).1,y,C⟩
 rw[h]at q
 cases k with
 |zero=>omega
 |succ k=>exact aq (by simpa using q)
end
end
section
section
open Tryz
variable{m:E}{R:Value->E->Prop}
def pt(dk:O)(m:E)(R:Value->E->Prop):Prop:=
 ((decide ((dk.len:Int)>(1048576:Int)))=true->
 R (vb true) m)/\
 ((decide ((dk.len:Int)>(1048576:Int)))=false->
 aO cp 4 [O.v dk] m λaK h=>
 ∃s:O,∃l:O,∃p:Int,∃u:Int,∃x:Int,∃A:Int,∃D:O,∃o:O,∃b:O,aK=.tuple #[.agg #[O.v s,O.v l],.agg #[vi p,vi u,vi x,vi A,O.v D,O.v o,O.v b]]/\
 let e:E:=h.push (.cells (bz [.s O.nil,.s O.nil]) 26)
 let aF:E:=e.push (.cells (bz [.i (0:Int),.i (0:Int),.i (0:Int),.i (0:Int),.s O.nil,.s O.nil,.s O.nil]) 31)
 nI h.size h.size (
 let aH:E:=ai aF h.size 0 [.s s,.s l]
 nI e.size e.size (
 let aB:E:=ai aH e.size 0 [.i p,.i u,.i x,.i A,.s D,.s o,.s b]
 nI h.size h.size (
 nI e.size e.size (
 aO cp 5 [.agg #[O.v s,O.v l],.agg #[vi p,vi u,vi x,vi A,O.v D,O.v o,O.v b]] aB λaL d=>
 eF [e.size,h.size] aB d/\
 ∃q:Int,∃v:Int,∃y:Int,∃B:Int,∃F:O,∃n:O,∃c:O,∃ah:Bool,aL=.tuple #[.agg #[vi q,vi v,vi y,vi B,O.v F,O.v n,O.v c],vb ah]/\
 let aI:E:=d.push (.cells (bz [.i (0:Int),.i (0:Int),.i (0:Int),.i (0:Int),.s O.nil,.s O.nil,.s O.nil]) 31)
 nI d.size d.size (
 let aC:E:=ai aI d.size 0 [.i q,.i v,.i y,.i B,.s F,.s n,.s c]
 nI h.size h.size (
 nI e.size e.size (
 aO cp 6 [.agg #[O.v s,O.v l],.agg #[vi p,vi u,vi x,vi A,O.v D,O.v o,O.v b]] aC λaM k=>
 eF [d.size,e.size,h.size] aC k/\
 ∃t:Int,∃w:Int,∃z:Int,∃C:Int,∃G:O,∃H:O,∃I:O,∃ak:Bool,aM=.tuple #[.agg #[vi t,vi w,vi z,vi C,O.v G,O.v H,O.v I],vb ak]/\
 let aJ:E:=k.push (.cells (bz [.i (0:Int),.i (0:Int),.i (0:Int),.i (0:Int),.s O.nil,.s O.nil,.s O.nil]) 31)
 nI k.size k.size (
 let aA:E:=ai aJ k.size 0 [.i t,.i w,.i z,.i C,.s G,.s H,.s I]
 ∃K0:Bool->E->Prop,
 (nI d.size d.size (
 nI k.size k.size (
 aO cp 7 [.agg #[vi q,vi v,vi y,vi B,O.v F,O.v n,O.v c],.agg #[vi t,vi w,vi z,vi C,O.v G,O.v H,O.v I]] aA λg a=>
 eF [k.size,d.size,e.size,h.size] aA a/\
 ∃f:Bool,g=vb f/\
 ((!f)=true->
 pE (SV.box k.size 31 [.i t,.i w,.i z,.i C,.s G,.s H,.s I]) (SV.box k.size 31 [.i t,.i w,.i z,.i C,.s G,.s H,.s I]) (
 pE (SV.box d.size 31 [.i q,.i v,.i y,.i B,.s F,.s n,.s c]) (SV.box d.size 31 [.i q,.i v,.i y,.i B,.s F,.s n,.s c]) (
 pE (SV.box e.size 31 [.i p,.i u,.i x,.i A,.s D,.s o,.s b]) (SV.box e.size 31 [.i p,.i u,.i x,.i A,.s D,.s o,.s b]) (
 pE (SV.box h.size 26 [.s s,.s l]) (SV.box h.size 26 [.s s,.s l]) (
 K0 true a)))))/\
 ((!f)=false->
 ((!(ah==ak))=true->
 pE (SV.box k.size 31 [.i t,.i w,.i z,.i C,.s G,.s H,.s I]) (SV.box k.size 31 [.i t,.i w,.i z,.i C,.s G,.s H,.s I]) (
 pE (SV.box d.size 31 [.i q,.i v,.i y,.i B,.s F,.s n,.s c]) (SV.box d.size 31 [.i q,.i v,.i y,.i B,.s F,.s n,.s c]) (
 pE (SV.box e.size 31 [.i p,.i u,.i x,.i A,.s D,.s o,.s b]) (SV.box e.size 31 [.i p,.i u,.i x,.i A,.s D,.s o,.s b]) (
 pE (SV.box h.size 26 [.s s,.s l]) (SV.box h.size 26 [.s s,.s l]) (
 K0 true a)))))/\
 ((!(ah==ak))=false->
 ((!ah)=true->
 pE (SV.box k.size 31 [.i t,.i w,.i z,.i C,.s G,.s H,.s I]) (SV.box k.size 31 [.i t,.i w,.i z,.i C,.s G,.s H,.s I]) (
 pE (SV.box d.size 31 [.i q,.i v,.i y,.i B,.s F,.s n,.s c]) (SV.box d.size 31 [.i q,.i v,.i y,.i B,.s F,.s n,.s c]) (
 pE (SV.box e.size 31 [.i p,.i u,.i x,.i A,.s D,.s o,.s b]) (SV.box e.size 31 [.i p,.i u,.i x,.i A,.s D,.s o,.s b]) (
 pE (SV.box h.size 26 [.s s,.s l]) (SV.box h.size 26 [.s s,.s l]) (
 K0 true a)))))/\
 ((!ah)=false->
 nI e.size e.size (
 ((p !=(3:Int))=true->
 pE (SV.box k.size 31 [.i t,.i w,.i z,.i C,.s G,.s H,.s I]) (SV.box k.size 31 [.i t,.i w,.i z,.i C,.s G,.s H,.s I]) (
 pE (SV.box d.size 31 [.i q,.i v,.i y,.i B,.s F,.s n,.s c]) (SV.box d.size 31 [.i q,.i v,.i y,.i B,.s F,.s n,.s c]) (
 pE (SV.box e.size 31 [.i p,.i u,.i x,.i A,.s D,.s o,.s b]) (SV.box e.size 31 [.i p,.i u,.i x,.i A,.s D,.s o,.s b]) (
 pE (SV.box h.size 26 [.s s,.s l]) (SV.box h.size 26 [.s s,.s l]) (
 K0 true a)))))/\
 ((p !=(3:Int))=false->
 nI d.size d.size (
 pE (SV.box k.size 31 [.i t,.i w,.i z,.i C,.s G,.s H,.s I]) (SV.box k.size 31 [.i t,.i w,.i z,.i C,.s G,.s H,.s I]) (
 pE (SV.box d.size 31 [.i q,.i v,.i y,.i B,.s F,.s n,.s c]) (SV.box d.size 31 [.i q,.i v,.i y,.i B,.s F,.s n,.s c]) (
 pE (SV.box e.size 31 [.i p,.i u,.i x,.i A,.s D,.s o,.s b]) (SV.box e.size 31 [.i p,.i u,.i x,.i A,.s D,.s o,.s b]) (
 pE (SV.box h.size 26 [.s s,.s l]) (SV.box h.size 26 [.s s,.s l]) (
 K0 (q !=(3:Int)) a)))))))))))))/\
 (∀(az:Bool)(f:E),K0 az f->
 (az=true->
 nI d.size d.size (
 nI k.size k.size (
 aO cp 7 [.agg #[vi q,vi v,vi y,vi B,O.v F,O.v n,O.v c],.agg #[vi t,vi w,vi z,vi C,O.v G,O.v H,O.v I]] f λi a=>
 eF [k.size,d.size,e.size,h.size] f a/\
 ∃g:Bool,i=vb g/\
 (g=true->
 R (vb (ah==ak)) a)/\
 (g=false->
 R (vb false) a))))/\
 (az=false->
 nI e.size e.size (
 nI e.size e.size (
 (0:Int)<=(cG ((b.len:Int) -(1:Int)))/\(cG ((b.len:Int) -(1:Int)))<(b.len:Int)/\
 ∃K:Int,af f b.D (b.off+Int.toNat (cG ((b.len:Int) -(1:Int)))*6)=some (vi K)/\
 ∃j:Int,af f b.D (b.off+Int.toNat (cG ((b.len:Int) -(1:Int)))*6+1)=some (vi j)/\
 ∃U:Int,af f b.D (b.off+Int.toNat (cG ((b.len:Int) -(1:Int)))*6+2)=some (vi U)/\
 ∃N:O,af f b.D (b.off+Int.toNat (cG ((b.len:Int) -(1:Int)))*6+3)=some (O.v N)/\
 ∃J:O,af f b.D (b.off+Int.toNat (cG ((b.len:Int) -(1:Int)))*6+4)=some (O.v J)/\
 ∃P:O,af f b.D (b.off+Int.toNat (cG ((b.len:Int) -(1:Int)))*6+5)=some (O.v P)/\
 let aD:E:=f.push (.cells (bz [.i (0:Int),.i (0:Int),.i (0:Int),.s O.nil,.s O.nil,.s O.nil]) 38)
 nI f.size f.size (
 let a:E:=ai aD f.size 0 [.i K,.i j,.i U,.s N,.s J,.s P]
 nI h.size h.size (
 nI f.size f.size (
 (0:Int)<=K/\K<(l.len:Int)/\
 ∃g:O,af a l.D (l.off+Int.toNat K*5+4)=some (O.v g)/\
 nI f.size f.size (
 (0:Int)<=j/\j<(g.len:Int)/\
 ∃L:Int,af a g.D (g.off+Int.toNat j*6)=some (vi L)/\
 ∃V:Int,af a g.D (g.off+Int.toNat j*6+1)=some (vi V)/\
 ∃W:Int,af a g.D (g.off+Int.toNat j*6+2)=some (vi W)/\
 ∃X:Int,af a g.D (g.off+Int.toNat j*6+3)=some (vi X)/\
 ∃i:O,af a g.D (g.off+Int.toNat j*6+4)=some (O.v i)/\
 ∃Y:O,af a g.D (g.off+Int.toNat j*6+5)=some (O.v Y)/\
 let Z:E:=a.push (.cells (bz [.i (0:Int),.i (0:Int),.i (0:Int),.i (0:Int),.s O.nil,.s O.nil]) 40)
 af Z g.D (g.off+Int.toNat j*6)=af a g.D (g.off+Int.toNat j*6)/\
 af Z g.D (g.off+Int.toNat j*6+1)=af a g.D (g.off+Int.toNat j*6+1)/\
 af Z g.D (g.off+Int.toNat j*6+2)=af a g.D (g.off+Int.toNat j*6+2)/\
 af Z g.D (g.off+Int.toNat j*6+3)=af a g.D (g.off+Int.toNat j*6+3)/\
 af Z g.D (g.off+Int.toNat j*6+4)=af a g.D (g.off+Int.toNat j*6+4)/\
 af Z g.D (g.off+Int.toNat j*6+5)=af a g.D (g.off+Int.toNat j*6+5)/\
 af Z f.size 1=af a f.size 1/\
 af Z l.D (l.off+Int.toNat K*5+4)=af a l.D (l.off+Int.toNat K*5+4)/\
 af Z f.size 0=af a f.size 0/\
 af Z h.size 1=af a h.size 1/\
 nI a.size a.size (
 let au:E:=ai Z a.size 0 [.i L,.i V,.i W,.i X,.s i,.s Y]
 ∃aq:E->Prop,
 (nI a.size a.size (
 ((L !=(16:Int))=true->
 nI a.size a.size (
 ((L !=(17:Int))=true->
 R (vb true) au)/\
 ((L !=(17:Int))=false->
 pE (SV.box a.size 40 [.i L,.i V,.i W,.i X,.s i,.s Y]) (SV.box a.size 40 [.i L,.i V,.i W,.i X,.s i,.s Y]) (
 pE (SV.box f.size 38 [.i K,.i j,.i U,.s N,.s J,.s P]) (SV.box f.size 38 [.i K,.i j,.i U,.s N,.s J,.s P]) (
 pE (SV.box k.size 31 [.i t,.i w,.i z,.i C,.s G,.s H,.s I]) (SV.box k.size 31 [.i t,.i w,.i z,.i C,.s G,.s H,.s I]) (
 pE (SV.box d.size 31 [.i q,.i v,.i y,.i B,.s F,.s n,.s c]) (SV.box d.size 31 [.i q,.i v,.i y,.i B,.s F,.s n,.s c]) (
 pE (SV.box e.size 31 [.i p,.i u,.i x,.i A,.s D,.s o,.s b]) (SV.box e.size 31 [.i p,.i u,.i x,.i A,.s D,.s o,.s b]) (
 pE (SV.box h.size 26 [.s s,.s l]) (SV.box h.size 26 [.s s,.s l]) (
 aq au)))))))))/\
 ((L !=(16:Int))=false->
 pE (SV.box a.size 40 [.i L,.i V,.i W,.i X,.s i,.s Y]) (SV.box a.size 40 [.i L,.i V,.i W,.i X,.s i,.s Y]) (
 pE (SV.box f.size 38 [.i K,.i j,.i U,.s N,.s J,.s P]) (SV.box f.size 38 [.i K,.i j,.i U,.s N,.s J,.s P]) (
 pE (SV.box k.size 31 [.i t,.i w,.i z,.i C,.s G,.s H,.s I]) (SV.box k.size 31 [.i t,.i w,.i z,.i C,.s G,.s H,.s I]) (
 pE (SV.box d.size 31 [.i q,.i v,.i y,.i B,.s F,.s n,.s c]) (SV.box d.size 31 [.i q,.i v,.i y,.i B,.s F,.s n,.s c]) (
 pE (SV.box e.size 31 [.i p,.i u,.i x,.i A,.s D,.s o,.s b]) (SV.box e.size 31 [.i p,.i u,.i x,.i A,.s D,.s o,.s b]) (
 pE (SV.box h.size 26 [.s s,.s l]) (SV.box h.size 26 [.s s,.s l]) (
 aq au)))))))))/\
 (∀(r:E),aq r->
 nI d.size d.size (
 nI e.size e.size (
 (((c.len:Int)!=(b.len:Int))=true->
 R (vb false) r)/\
 (((c.len:Int)!=(b.len:Int))=false->
 nI d.size d.size (
 nI d.size d.size (
 (0:Int)<=(cG ((c.len:Int) -(1:Int)))/\(cG ((c.len:Int) -(1:Int)))<(c.len:Int)/\
 ∃ac:Int,af r c.D (c.off+Int.toNat (cG ((c.len:Int) -(1:Int)))*6)=some (vi ac)/\
 ∃ad:Int,af r c.D (c.off+Int.toNat (cG ((c.len:Int) -(1:Int)))*6+1)=some (vi ad)/\
 ∃ae:Int,af r c.D (c.off+Int.toNat (cG ((c.len:Int) -(1:Int)))*6+2)=some (vi ae)/\
 ∃ag:O,af r c.D (c.off+Int.toNat (cG ((c.len:Int) -(1:Int)))*6+3)=some (O.v ag)/\
 ∃Q:O,af r c.D (c.off+Int.toNat (cG ((c.len:Int) -(1:Int)))*6+4)=some (O.v Q)/\
 ∃aa:O,af r c.D (c.off+Int.toNat (cG ((c.len:Int) -(1:Int)))*6+5)=some (O.v aa)/\
 let aE:E:=r.push (.cells (bz [.i (0:Int),.i (0:Int),.i (0:Int),.s O.nil,.s O.nil,.s O.nil]) 38)
 nI r.size r.size (
 let aG:E:=ai aE r.size 0 [.i ac,.i ad,.i ae,.s ag,.s Q,.s aa]
 ∃(I0:Int->E->Prop)(μ0:Int->E->Nat),
 I0 (1:Int) aG/\
 (∀(T:Int)(M:E),I0 T M->
 nI a.size a.size (
 ((decide (T<(i.len:Int)))=true->
 nI r.size r.size (
 nI a.size a.size (
 (0:Int)<=T/\T<(i.len:Int)/\
 ∃S:Int,af M i.D (i.off+Int.toNat T*1)=some (vi S)/\
 (0:Int)<=S/\S<(Q.len:Int)/\
 ∃aj:Int,af M Q.D (Q.off+Int.toNat S*1)=some (vi aj)/\
 nI f.size f.size (
 nI a.size a.size (
 (0:Int)<=T/\T<(i.len:Int)/\
 ∃ab:Int,af M i.D (i.off+Int.toNat T*1)=some (vi ab)/\
 (0:Int)<=ab/\ab<(J.len:Int)/\
 ∃al:Int,af M J.D (J.off+Int.toNat ab*1)=some (vi al)/\
 ((decide (aj<=al))=true->
 R (vb false) M)/\
 ((decide (aj<=al))=false->
 pE (SV.box r.size 38 [.i ac,.i ad,.i ae,.s ag,.s Q,.s aa]) (SV.box r.size 38 [.i ac,.i ad,.i ae,.s ag,.s Q,.s aa]) (
 pE (SV.box a.size 40 [.i L,.i V,.i W,.i X,.s i,.s Y]) (SV.box a.size 40 [.i L,.i V,.i W,.i X,.s i,.s Y]) (
 pE (SV.box f.size 38 [.i K,.i j,.i U,.s N,.s J,.s P]) (SV.box f.size 38 [.i K,.i j,.i U,.s N,.s J,.s P]) (
 pE (SV.box k.size 31 [.i t,.i w,.i z,.i C,.s G,.s H,.s I]) (SV.box k.size 31 [.i t,.i w,.i z,.i C,.s G,.s H,.s I]) (
 pE (SV.box d.size 31 [.i q,.i v,.i y,.i B,.s F,.s n,.s c]) (SV.box d.size 31 [.i q,.i v,.i y,.i B,.s F,.s n,.s c]) (
 pE (SV.box e.size 31 [.i p,.i u,.i x,.i A,.s D,.s o,.s b]) (SV.box e.size 31 [.i p,.i u,.i x,.i A,.s D,.s o,.s b]) (
 pE (SV.box h.size 26 [.s s,.s l]) (SV.box h.size 26 [.s s,.s l]) (
 I0 (cG (T+(1:Int))) M/\μ0 (cG (T+(1:Int))) M<μ0 T M)))))))))))))/\
 ((decide (T<(i.len:Int)))=false->
 nI f.size f.size (
 nI a.size a.size (
 (0:Int)<=(0:Int)/\(0:Int)<(i.len:Int)/\
 ∃al:Int,af M i.D (i.off+Int.toNat (0:Int)*1)=some (vi al)/\
 (0:Int)<=al/\al<(N.len:Int)/\
 ∃ab:Int,af M N.D (N.off+Int.toNat al*1)=some (vi ab)/\
 nI e.size e.size (
 (0:Int)<=(cG (ab -(1000:Int)))/\(cG (ab -(1000:Int)))<(o.len:Int)/\
 ∃aj:Int,af M o.D (o.off+Int.toNat (cG (ab -(1000:Int)))*3)=some (vi aj)/\
 ∃ar:Bool->E->Prop,
 (nI d.size d.size (
 ((decide ((cG (ab -(1000:Int)))>=(n.len:Int)))=true->
 pE (SV.box r.size 38 [.i ac,.i ad,.i ae,.s ag,.s Q,.s aa]) (SV.box r.size 38 [.i ac,.i ad,.i ae,.s ag,.s Q,.s aa]) (
 pE (SV.box a.size 40 [.i L,.i V,.i W,.i X,.s i,.s Y]) (SV.box a.size 40 [.i L,.i V,.i W,.i X,.s i,.s Y]) (
 pE (SV.box f.size 38 [.i K,.i j,.i U,.s N,.s J,.s P]) (SV.box f.size 38 [.i K,.i j,.i U,.s N,.s J,.s P]) (
 pE (SV.box k.size 31 [.i t,.i w,.i z,.i C,.s G,.s H,.s I]) (SV.box k.size 31 [.i t,.i w,.i z,.i C,.s G,.s H,.s I]) (
 pE (SV.box d.size 31 [.i q,.i v,.i y,.i B,.s F,.s n,.s c]) (SV.box d.size 31 [.i q,.i v,.i y,.i B,.s F,.s n,.s c]) (
 pE (SV.box e.size 31 [.i p,.i u,.i x,.i A,.s D,.s o,.s b]) (SV.box e.size 31 [.i p,.i u,.i x,.i A,.s D,.s o,.s b]) (
 pE (SV.box h.size 26 [.s s,.s l]) (SV.box h.size 26 [.s s,.s l]) (
 ar true M))))))))/\
 ((decide ((cG (ab -(1000:Int)))>=(n.len:Int)))=false->
 nI d.size d.size (
 (0:Int)<=(cG (ab -(1000:Int)))/\(cG (ab -(1000:Int)))<(n.len:Int)/\
 ∃S:Int,af M n.D (n.off+Int.toNat (cG (ab -(1000:Int)))*3)=some (vi S)/\
 pE (SV.box r.size 38 [.i ac,.i ad,.i ae,.s ag,.s Q,.s aa]) (SV.box r.size 38 [.i ac,.i ad,.i ae,.s ag,.s Q,.s aa]) (
 pE (SV.box a.size 40 [.i L,.i V,.i W,.i X,.s i,.s Y]) (SV.box a.size 40 [.i L,.i V,.i W,.i X,.s i,.s Y]) (
 pE (SV.box f.size 38 [.i K,.i j,.i U,.s N,.s J,.s P]) (SV.box f.size 38 [.i K,.i j,.i U,.s N,.s J,.s P]) (
 pE (SV.box k.size 31 [.i t,.i w,.i z,.i C,.s G,.s H,.s I]) (SV.box k.size 31 [.i t,.i w,.i z,.i C,.s G,.s H,.s I]) (
 pE (SV.box d.size 31 [.i q,.i v,.i y,.i B,.s F,.s n,.s c]) (SV.box d.size 31 [.i q,.i v,.i y,.i B,.s F,.s n,.s c]) (
 pE (SV.box e.size 31 [.i p,.i u,.i x,.i A,.s D,.s o,.s b]) (SV.box e.size 31 [.i p,.i u,.i x,.i A,.s D,.s o,.s b]) (
 pE (SV.box h.size 26 [.s s,.s l]) (SV.box h.size 26 [.s s,.s l]) (
 ar (decide (S<(1:Int))) M)))))))))))/\
 (∀(Gc:Bool)(S:E),ar Gc S->
 nI r.size r.size (
 nI a.size a.size (
 (0:Int)<=(0:Int)/\(0:Int)<(i.len:Int)/\
 ∃am:Int,af S i.D (i.off+Int.toNat (0:Int)*1)=some (vi am)/\
 (0:Int)<=am/\am<(Q.len:Int)/\
 ∃av:Int,af S Q.D (Q.off+Int.toNat am*1)=some (vi av)/\
 nI f.size f.size (
 nI a.size a.size (
 (0:Int)<=(0:Int)/\(0:Int)<(i.len:Int)/\
 ∃an:Int,af S i.D (i.off+Int.toNat (0:Int)*1)=some (vi an)/\
 (0:Int)<=an/\an<(J.len:Int)/\
 ∃aw:Int,af S J.D (J.off+Int.toNat an*1)=some (vi aw)/\
 ((av==(cG (aw -(1:Int))))=true->
 (((aj==(1:Int))==Gc)=true->
 nI r.size r.size (
 nI a.size a.size (
 (0:Int)<=(0:Int)/\(0:Int)<(i.len:Int)/\
 ∃ao:Int,af S i.D (i.off+Int.toNat (0:Int)*1)=some (vi ao)/\
 (0:Int)<=ao/\ao<(aa.len:Int)/\
 ∃ax:Int,af S aa.D (aa.off+Int.toNat ao*1)=some (vi ax)/\
 nI f.size f.size (
 nI a.size a.size (
 (0:Int)<=(0:Int)/\(0:Int)<(i.len:Int)/\
 ∃ap:Int,af S i.D (i.off+Int.toNat (0:Int)*1)=some (vi ap)/\
 (0:Int)<=ap/\ap<(P.len:Int)/\
 ∃ay:Int,af S P.D (P.off+Int.toNat ap*1)=some (vi ay)/\
 ((aj==(1:Int))=true->
 nI a.size a.size (
 R (vb ((ax !=ay)==(L==(17:Int)))) S))/\
 ((aj==(1:Int))=false->
 R (vb ((ax !=ay)==false)) S))))))/\
 (((aj==(1:Int))==Gc)=false->
 R (vb false) S))/\
 ((av==(cG (aw -(1:Int))))=false->
 R (vb false) S)))))))))))))))))))))))))))))))))))))
def tG(dk:O)(m:E)(R:Value->E->Prop)(a:pt dk m R):aO cp 3 [O.v dk] m R:=
 uh (o:=⟨[(16,[(12,.I)])],[(7,[(58,.T)]),(12,[]),(23,[(15,.T)])],[(7,[221,219,218,217]),(12,[224,223,221,219,218,217]),(16,[225,224,223,221,219,218,217]),(23,[225,224,223,221,219,218,217])]⟩) (d:=214) (r:=[.tmp 2]) (a:=[.c (.s dk)]) MF YJ YO Tryz.func3 (m:=KR Tryz.f3) (by kernel_rfl) (by kernel_rfl) (by kernel_rfl) (by kernel_rfl) aN (by kernel_rfl) (Eq.mp (by kernel_rfl) a)
end
section
variable{m:E}
def wu{dk:O}(h:Js m dk):aO cp 3 [O.v dk] m (LwR m):=by
 apply tG;unfold pt;simp(config:={maxSteps:=1000000}) -zeta only[aD,aC];refine⟨λ_=>⟨rfl,J.aA _⟩,λ_=>?_⟩;refine(AG h).mono λ_ A⟨⟨E,ab,c,aU,hp,fr,s,F,hi,hs,x,ho⟩,x1⟩=>⟨E,ab,_,_,_,_,aU,hp,fr,F,?_⟩;have S:fC A E ab c:=⟨hi.br.le (bD _ _),iC.le (bD _ _) hi.cE⟩;have y:=hs.le (bD _ _);intro D a2 a3 a4;have z1:D.size=A.size+1:=by simp[D]
 have x4:J A a4:=(((J.push A _).trans (J.push D _)).ai (ad _) _ _).ai V _ _;have z4:a4.size=A.size+2:=by simp[a4,a3,a2,D,ax]
 clear_value a4;have sm:=Ql x V 1 (h:=c);refine(Gd (S.ext x4) (y.ext x4) x V).mono λ_ K⟨aH,o5,l,f5,F,L⟩=>⟨L.bs.cA.dz bG,_,_,_,_,o5,l,f5,_,F,?_⟩;have x5:=L.bs.cA;have i:=L.Ey sm;have u5:=x5.size;intro a6 P;have x7:J K P:=(J.push K _).ai (ad _) _ _;have z7:P.size=K.size+1:=by simp[P,a6,ax]
 clear_value P;have X7:=(x4.trans x5).trans x7;refine(GH (S.ext X7) (y.ext X7) x V).mono λ_ W⟨aJ,o8,h8,f8,F,N⟩=>⟨N.bs.cA.dz bG,_,_,_,_,o8,h8,f8,_,F,?_⟩;have x8:=N.bs.cA;have S8:=N.Ey sm;have u8:=x8.size;intro a9 j;have x0:J W j:=(J.push W _).ai (ad _) _ _;have z0:j.size=W.size+1:=by simp[j,a9,ax]
 clear_value j;have y0:J K j:=(x7.trans x8).trans x0;clear L N;have T:∀b∈[W.size,K.size,D.size,A.size],b<j.size:=bG;refine⟨λb M=>J j M/\(b=false->(uX c s 1).ok=true/\s.cw=3/\(uX c s 1).s.cw=3),?_,?_⟩
 .refine(tH (i.ext y0) (S8.ext x0)).aJ (J.aA _) T λb X I e _=>⟨b,rfl,?_⟩;obtain rfl:=I.2 rfl;exact⟨sx,λ_=>⟨sx,λ_=>⟨λ_=>⟨e,aN⟩,λG=>⟨λ_=>⟨e,aN⟩,λH=>⟨e,λa=>⟨by simpa using G,by simpa using H,by simpa using a⟩⟩⟩⟩⟩⟩
 rintro b X ⟨e,I⟩;have t:=((X7.trans x8).trans x0).trans e;refine⟨λa=>(tH (i.ext (y0.trans e)) (S8.ext (x0.trans e))).aJ e T λb mB I xB _=>⟨b,rfl,λ_=>⟨aN,(x1.trans t).trans xB⟩,λh=>by rw[I.2 rfl]at h;simp at h⟩,λhy=>?_⟩;let⟨hy,G,H⟩:=I hy;let⟨B,ae⟩:=Vz hy;have ES:(uX c s 1).s=j7 c s:=nE Zz.s ae;rw[ES]at i H;try rw[ES]
 let⟨u,f,w⟩:=B.split G;have g:=B.an f (by rw[w];simp);let⟨pr,am,an,hP,aa,hI⟩:=g.Al B.fm;have fl:=g.lr;have ai:=g.lo;have ak:=g.lh;rw[an]at fl ai ak;have rr:=hP.ak;have lf:=y.an.len;have bf:=x.lf;have gF:s.an[u.length]? =some f:=by simp[w]
 have lF:s.an.length=u.length+1:=by simp[w]
 have iF:cG ((fr.len:Int) -1)=(u.length:Int):=by rw[aR V V];omega
 rw[iF];let⟨r3,r4,r5,k3,k4,k5,g0,g1,g2,g3,g4,g5⟩:=iK.aF (iK.ext t y.an) gF;refine⟨V,V,_,g0,_,g1,_,g2,_,g3,_,g4,_,g5,?_⟩;intro b1 b2;have w2:J X b2:=(J.push X _).ai (ad _) _ _;have y2:b2.size=X.size+1:=by simp[b2,b1,ax]
 clear_value b2;have uA:=e.size;let⟨pa,pl,pc,ka,kl,kc,P0,P1,P2,P3,P4⟩:=iC.aF (iC.ext (t.trans w2) S.cE) am;have lp:=S.cE.len;have lc:=kc.len;refine⟨g.fw.1,oh g.fw.2,pc,by simpa using P4,g.pc.1,O6 (aw aa) g.pc,?_⟩;let⟨xa,xj,ia,ij,I0,I1,I2,I3,I4,I5⟩:=ft.aF kc aa;refine⟨_,I0,_,I1,_,I2,_,I3,_,I4,_,I5,?_⟩;intro b3;have w3:J b2 b3:=J.push b2 _;have p:∀{b o:Nat}{v:Value},af b2 b o=some v->af b3 b o=af b2 b o:=λh=>(w3.af h).trans h.symm;have kl:∀{b:Nat}(o:Nat),b<b2.size->af b3 b o=af b2 b o:=λo h=>aI (w3.same _ h) o;refine⟨p I0,p I1,p I2,p I3,p I4,p I5,kl _ V,p P4,kl _ V,kl _ V,?_⟩;intro b4;have w4:J b2 b4:=w3.ai (ad _) _ _;have y4:b4.size=b2.size+1:=by simp[b4,b3,ax]
 clear_value b4;have W4:=w2.trans w4;have aE:=i.an.len;have ac:=OH B G H w;have az:=ia.len;have lr:=k3.len;have lo:=k4.len;have lh:=k5.len;refine⟨λM=>b4=M/\((cR c f).op=16\/(cR c f).op=17),⟨λl=>⟨λd=>⟨rfl,(x1.trans t).trans W4⟩,λd=>⟨rfl,Or.inr (by simpa using d)⟩⟩,λl=>⟨rfl,Or.inl (by simpa using l)⟩⟩,?_⟩;rintro _ ⟨rfl,al⟩;let⟨R,r,ag,e1,er,d,e2,e3,e4,au,hc,e6,e7⟩:=RD B G H w al;have lG:(j7 c s).an.length=u.length+1:=by simp[e1]
 have z:cG ((f5.len:Int) -1)=(u.length:Int):=by rw[aR V V];omega
 have gG:(j7 c s).an[u.length]? =some R:=by simp[e1]
 let⟨t3,t4,t5,l3,l4,l5,f0,f1,f2,f3,f4,ah⟩:=iK.aF (iK.ext (y0.trans (e.trans W4)) i.an) gG;refine⟨λa=>by simp at a;omega,λ_=>⟨V,V,_,by rw[z];exact f0,_,by rw[z];exact f1,_,by rw[z];exact f2,_,by rw[z];exact f3,_,by rw[z];exact f4,_,by rw[z];exact ah,?_⟩⟩;intro b5 b6;have Y:J b4 b6:=(J.push b4 _).ai (ad _) _ _;have y6:b6.size=b4.size+1:=by simp[b6,b5,ax]
 clear_value b6;have q:=W4.trans Y;have i6:=ap.ext (w4.trans Y) ia;have i4:=ap.ext Y l4;have i5:=ap.ext Y l5;have j3:=ap.ext q k3;have j4:=ap.ext q k4;have j5:=ap.ext q k5;have q4:=l4.len;have q5:=l5.len;have lr:=aw er;have Z:=(x1.trans t).trans q;have ao:=Te B x ho (k:=1) V;have bo:Eb (aF R.aS r):=(ao.1.an R (by show R∈(j7 c s).an;simp[e1])).2.1 _ (fq d.1 V);have bw:=(x.an f (by rw[w];simp)).1 _ (fq d.1 d.2.1);unfold Eb at bw bo;have ew:cG (aF f.ak r -1000)=(ix (aF f.ak r):Int):=by have:=iv au;rw[aR V V];omega
 have C:af b6 xa.D (xa.off+Int.toNat 0*1)=some (vi r):=by simpa using i6.aF er
 refine V9 (a:=(cR c f).args.length) (oh ia.gX) V (λU M=>b6=M) rfl ?_;rintro U _ av μ ay hk rfl nxt
 refine⟨λl=>?_,λl=>?_⟩
 .simp only[ar]at l;let⟨v,hv⟩:=cL ((cR c f).args) U;have Q:=ac v (aq hv);have lt:=e4 U v V hv;have G1:af b6 xa.D (xa.off+Int.toNat (U:Int)*1)=some (vi v):=by simpa using i6.aF hv
  exact⟨V,V,v,G1,Q.1,V,_,i4.aF (kV Q.1 V),V,V,v,G1,Q.1,V,_,j4.aF (kV Q.1 V),λa=>by simp at a;omega,λ_=>nxt V _ rfl⟩
 have aA:=y.heap.len;have aB:=i.heap.len;have lc:=aw hc;refine⟨de _,V,r,C,d.1,V,_,j3.aF (kV d.1 V),?_⟩;rw[ew];obtain⟨_,_,z1,-,-⟩:=cU.aF (cU.ext (t.trans q) y.heap) hc;refine⟨V,V,_,z1,λGc M=>b6=M/\(Gc=true<->ag.aQ=1),⟨λa=>⟨rfl,?_⟩,λa=>?_⟩,?_⟩
 .simp at a;exact⟨λ_=>e7.2 λ⟨E,hd,_⟩=>oh (aw hd),λ_=>rfl⟩
 .simp at a;let⟨E,hd⟩:=cL ((j7 c s).heap) (ix (aF f.ak r));obtain⟨_,_,z2,-,-⟩:=cU.aF (cU.ext (y0.trans (e.trans q)) i.heap) hd;refine⟨V,V,_,z2,rfl,?_⟩;rw[e7,ar];exact⟨λT⟨d',Q,hp⟩=>by rw[hd]at Q;cases Q;omega,λa=>dE λT=>a ⟨E,hd,V⟩⟩
 rintro Gc _ ⟨rfl,hg⟩;refine⟨de _,V,r,C,d.1,V,_,i4.aF (kV d.1 V),de _,V,r,C,d.1,V,_,j4.aF (kV d.1 V),λ_=>⟨λ_=>⟨de _,V,r,C,d.1,V,_,i5.aF (kV d.1 V),de _,V,r,C,d.1,V,_,j5.aF (kV d.1 V),λQ=>⟨nE vb ?_,Z⟩,λQ=>⟨nE vb ?_,Z⟩⟩,λa=>?_⟩,λa=>?_⟩
 .have:=(beq_iff_eq.1 Q);rw[aG,sa,qA,aG,e6];exact⟨λh=>h.2,λh=>⟨this,h⟩⟩
 .have:=(beq_eq_false_iff_ne.1 Q);rw[aG,sa,qA,e6];exact⟨λh=>absurd h.1 this,sx⟩
 .rw[aj]at a;exact absurd (Bool.eq_iff_iff.2 (beq_iff_eq.trans hg.symm)) a
 .rw[e3,aR V V]at a;simp at a
end
end
end Go.Proofs.YtghjegjkpepmpaaGreat
section
namespace Go.Vc
variable{t:TypeId}{a:Addr}
open Go.ChangeShapes Go.WideShapes Go.RowKit
section
variable{H:Type}{b:TypeId×Value->H}{P:Program}{w:World}
def TD(b:TypeId×Value->H)(P:Program)(w:World)(t:TypeId)(Q:List Ce->Prop):Prop:=
 ∀(n:Nat)(a:List Value)(x:DataW H×List MemPlace),DataW.trod b P w 0 (λ_=>true) true n t a=some x->∃c,a=c.map Ce.v/\Q c
def TD.mono{Q Q':List Ce->Prop}(h:TD b P w t Q)(f:∀a,Q a->Q' a):TD b P w t Q':=λn a x g=>
 let⟨c,d,e⟩:=h n a x g
 ⟨c,d,f _ e⟩
def SF{v:Value}(h:w.cell? a=some v):a.spot=none:=by
 unfold World.cell? at h;split at h
 .split at h
  .cases h
  .rename_i b;simpa using b
 .cases h
def SD(h:a.spot=none)(i:Nat):a.add i=⟨a.block,a.off+i,none⟩:=by
 obtain⟨c,o,s⟩:=a;simp only at h;subst h;unfold Addr.add;by_cases b:i=0
 .subst b;simp
 .simp[b]
end
section
variable{H:Type}{b:TypeId×Value->H}{P:Program}
def DV(l:laidOutB P=true){W j:World}(k:Below W.heap.size W j):∀{f:List TypeId}{i:List Value}{g:List (DataW H)}{d:List MemPlace},
 (f.all λt=>P.readableRec t&&decide (t<P.types.size))=true->DataW.TrodAll b P W 0 (λ_=>true) true f i g d->(∀x∈d,x.block<W.heap.size)->∀e:Nat->Bool,(∀p∈d,e p.block=true)->
 DataW.TrodAll b P j 0 e true f i g d
 |[],_,_,_,_,h,_,_,_=>by
  obtain⟨rfl,rfl,rfl⟩:=trodAll_nil h;exact trodAll_mk0
 |t::f,_,_,_,c,h,m,e,n=>by
  obtain⟨v,i,s,g,p,r,rfl,rfl,rfl,o,q⟩:=trodAll_cons h;simp only[Ot,bN,ar]at c;exact⟨p,r,WideElems.Trod_stays l c.1.1 c.1.2 o (λx a=>k.same (m x (by simp[a]))) (λx a=>n x (by simp[a])),DV l k (by simpa using c.2) q (λx a=>m x (by simp[a])) e (λx a=>n x (by simp[a])),rfl⟩
def Ni{f:Func}{s:ChangeSpec}{W g:World}{i:Array Value}{d:List (DataW H)}{o:List MemPlace}
 (J:laidOutB P=true)(L:(f.params.toList.all λt=>P.readableRec t&&decide (t<P.types.size))=true)(z:f.resultTypes=#[t])(v:P.underlying t=some .bool)(B:s.vars=[])
 (j:DataW.Whole b P f.params.toList s.vars false W i.toList d [] o)(F:(s.fn H (d++[])).args=d)(G:(s.fn H (d++[])).results=[.lit (.bool true)])(I:(s.fn H (d++[])).vars=[])
 (k:Below W.heap.size W g):s.post b P f false true false false W i (.bool true) g:=by
 have h:∀a∈o,a.block<W.heap.size:=λa l=>by simpa using j.lt a l
 have r:=j
 obtain⟨a,N,E,q,rfl,C,M⟩:=j
 rw[B]at q
 obtain⟨_,rfl⟩:=trodVars_none q
 simp only[eg]at h C r
 have u:∀c:Nat->Bool,(∀x∈a,c x.block=true)->DataW.TrodAll b P g 0 c true f.params.toList i.toList (s.fn H (d++[])).args a:=λc K=>by
  rw[F];exact DV J k L E h c K
 have A:∀c:Nat->Bool,DataW.TrodVars b P g c s.vars (s.fn H (d++[])).vars []:=λc=>by rw[B,I];rfl
 have y:∀(e:Nat)(c:Nat->Bool)(hd:Bool),DataW.TrodAll b P g e c hd f.resultTypes.toList ((Value.bool true).resultList f.resultTypes.size) (s.fn H (d++[])).results []:=λe c hd=>by
  rw[G,z];exact trodAll_cons_mk (shut_bool v _) trodAll_mk0
 refine⟨d,[],a,[],a,[],r,y _ _ _,u _ (λx m=>by simpa using h x m),A _,k.frame _,λ_=>?_⟩
 refine⟨ok_one z rfl (okWide_bool_mk v _),_,_,([]++a)++[],⟨[]++a,[],trodAll_append (u _ (λ_ _=>rfl)) (y _ _ _),A _,rfl,?_,λD=>by cases D⟩,?_⟩
 .intro e n l
  have w:MemPlace.cell e n∈a:=by simpa using l
  rw[k.frozen (p:=⟨e,n,none⟩) (h _ w)]
  exact C e n w
 .intro x m _
  simpa using m
end
end Go.Vc
end
section
namespace Go.Proofs.YtghjegjkpepmpaaGreat
open Go.Vc Go.ChangeShapes
def SY{H:Type}{x:TypeId×Value->H}{P:Program}{w:World}{t e r:Nat}{v:Value}{u:DataW H}{I:List MemPlace}(p:P.underlying t=some (.slice e))(B:P.underlying e=some (.int .u8))(A:P.cellsOf e=1)
 (E:Value.okWide P w .any r t v)(y:DataW.Trod x P w 0 (λ_=>true) true t v u I):∃s,v=O.v s/\Js w.heap s:=by
 obtain⟨J,q,h,rfl⟩:=Go.WideShapes.okWide_slice p E
 obtain⟨L,C⟩:=y
 rcases open_ints p B A C with⟨b,_⟩|⟨d,N,K,g,b,_,D,M,G,_,l,F⟩
 .simp[Value.cells]at b
  obtain⟨rfl,rfl,rfl⟩:=b
  exact⟨.nil,rfl,ad _,λk a=>by simp at a⟩
 .simp[Value.cells]at b
  obtain⟨rfl,rfl,rfl⟩:=b
  simp only[MQ]at G
  rcases ku h with i|i
  .subst i
   have:q=0:=V
   subst this
   obtain⟨c,o,s⟩:=d
   cases s with
   |none=>exact⟨.mk c o 0 0,rfl,ad _,λk a=>by simp at a⟩
   |some f=>exact⟨.zX c o f,rfl,ad _,λk a=>by simp at a⟩
  .have z:=l 0 V
   have n:d.spot=none:=by
    have:=SF z;simpa[Addr.add]using this
   obtain⟨c,o,s⟩:=d
   simp only at n
   subst n
   refine⟨.mk c o q h,rfl,D,λk a=>?_⟩
   simp only[O.gL]at a
   have m:k<g.length:=V
   have j:=l k m
   have f:=F (g.getD k 0) (by rw[fV,List.getElem?_eq_getElem m];simp)
   rw[Lit.wf,bN,ar,ar]at f
   refine⟨g.getD k 0,f.1,f.2,?_⟩
   .rw[SD rfl,zU]at j
    simpa using j
end Go.Proofs.YtghjegjkpepmpaaGreat
end
