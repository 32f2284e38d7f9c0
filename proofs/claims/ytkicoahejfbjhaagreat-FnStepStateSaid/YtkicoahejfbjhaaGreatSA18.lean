/- Part of a proof. -/
import Derived.Test.YtkicoahejfbjhaaGreatSA16
import Derived.Test.YtkicoahejfbjhaaGreatSA17
set_option linter.all false
set_option maxHeartbeats 8000000
set_option maxRecDepth 100000
namespace Go.Proofs.YtkicoahejfbjhaaGreat
open Go.Vc
section
variable{i:Nat}{f:aX}
def KR{b:List aX}(c:b[i]? =some f)(a:Nat):holds (b.take (i+1)) a=holds (b.take i) a+eB f.ba a:=by
 rw[aU c,eJ,iX]
def NC{b:List aX}(c:b[i]? =some f)(a:Nat):fA (b.take (i+1)) a=fA (b.take i) a+de f.ak f.aR a:=by
 rw[aU c,fW,kN]
def tp:∀{ak aR:List Int}{a:Nat}{w o:Int},ak[a]? =some w->aR[a]? =some o->∀b,de (ak.take (a+1)) (aR.take (a+1)) b=de (ak.take a) (aR.take a) b+(if w=1000+(b:Int)then o else 0)
 |[],_,_,_,_,h,_,_=>by simp at h
 |_::_,[],_,_,_,_,h,_=>by simp at h
 |r::f,p::e,0,w,o,c,d,b=>by simp at c d;subst c;subst d;simp[de]
 |r::f,p::e,a+1,w,o,c,d,b=>by
  have:=tp (ak:=f) (aR:=e) (a:=a) (by simpa using c) (by simpa using d) b;simp only[Nb,de]at this⊢;omega
def KQ:∀{a:List aX}{n:Nat},(∀f∈a,f.ba.length<=n)->∀b,holds a b<=a.length*n
 |[],n,_,b=>by simp[holds]
 |f::a,n,h,b=>by
  have c:=KQ (a:=a) λg d=>h g (by simp[d]);have e:=c b;have i:=km f.ba b;have j:=h f aL;simp only[holds,aZ];have:((a.length+1:Nat):Int)*n=a.length*n+n:=by push_cast;rw[Zd];omega
  omega
def Ga:∀{ak aR:List Int}{n:Int},0<=n->(∀o∈aR,0<=o/\o<=n)->∀a,0<=de ak aR a/\de ak aR a<=aR.length*n
 |[],aR,n,b,h,a=>by simp[de];exact Int.mul_nonneg V b
 |_::_,[],n,b,h,a=>by simp[de]
 |r::e,o::c,n,b,h,a=>by
  have f:=Ga (ak:=e) (aR:=c) b (λx d=>h x (by simp[d])) a;have d:=h o aL;have:((c.length+1:Nat):Int)*n=c.length*n+n:=by push_cast;rw[Zd];omega
  simp only[de,aZ];split<;>omega
def Ke:∀{a:List aX}{n:Nat}{k:Int},0<=k->(∀f∈a,f.aR.length<=n/\∀o∈f.aR,0<=o/\o<=k)->∀b,0<=fA a b/\fA a b<=a.length*(n*k)
 |[],n,k,_,_,b=>by simp[fA]
 |f::a,n,k,c,h,b=>by
  have e:=Ke (a:=a) c (λg d=>h g (by simp[d])) b;let⟨j,d⟩:=h f aL;have g:=Ga (ak:=f.ak) c d b;have i:(f.aR.length:Int)*k<=n*k:=Int.mul_le_mul_of_nonneg_right V c;have:((a.length+1:Nat):Int)*(n*k)=a.length*(n*k)+n*k:=by push_cast;rw[Zd];omega
  simp only[fA,aZ];omega
section
variable{m:E}{d p aT a b:O}{c:cN}{s:St}
def Ip(H:gD m aT a b s)(Q:zk s)(hd:s.ao.length<=41):dt cg 66 [MY s aT a b] m (N3 s.heap s.ao):=by
 apply CH;simp -zeta only[aC,aB];intro j;have y:J m j:=(J.az m).aK _;have s1:j.size=m.size+1:=by simp[j]
 clear_value j;have hl:=H.heap.len;have aw:=Q.lh;have ar:=H.ao.len;have en:Int.toNat (a.len:Int)=s.heap.length:=V;rw[en];refine⟨V,V,V,V,?_⟩;intro W;have x2:J j W:=(J.az j).aK _;have B2:cE W j.size aA ((sO s.heap.length (λ_=>0)).map Ce.i):=Ma j _;clear_value W;have r:∀{N M':E},J j N->J N M'->eF [m.size] N M':=λP u=>u.dv λz r=>P.lt (by simp at r;omega);have ac:=λf A=>(Q.lr f A).2.2;refine dU (n:=s.ao.length) V (λi x=>J j x/\cE x j.size aA ((sO s.heap.length (λc=>holds (s.ao.take i) c)).map Ce.i)/\∀f∈s.ao.take i,∀w∈f.ba,w=0\/(1000<=w/\ix w<s.heap.length)) ⟨x2,by simpa[holds]using B2,aL⟩ ?_;rintro i m3 am μ hi ⟨D,K,T⟩ al
 refine dit (λP=>?_) λP=>?_
 .let⟨f,A⟩:=cG s.ao i;have R:=aq A;have au:=ac f R;have ag:(∃w∈f.ba,¬(w=0\/(1000<=w/\ix w<s.heap.length)))->¬N3 s.heap s.ao:=λ⟨w,h,e⟩ v=>e (v.cL f R w h);refine dU (n:=f.ba.length) V (λk x=>J j x/\cE x j.size aA ((sO s.heap.length (λc=>holds (s.ao.take i) c+eB (f.ba.take k) c)).map Ce.i)/\∀w∈f.ba.take k,w=0\/(1000<=w/\ix w<s.heap.length)) ⟨D,by simpa[eB]using K,aL⟩ ?_;rintro k o M ν v ⟨F,G,t⟩ C;obtain⟨az,ay,q,_,_,he,_,_,_,_,_,g5⟩:=(H.ext (y.trans F)).ao.aF A;have ap:=he.len;refine⟨V,V,q,by simpa using g5,dit (λu=>?_) λu=>?_⟩
  .let⟨w,h⟩:=cG f.ba k;have U:=aq h;have ak:=(Q.ao f R).2.2 w U;refine⟨V,V,q,by simpa using g5,V,V,w,by simpa using he.aF h,λp=>?_,λp=>?_⟩
   .have I:w≠0:=by simpa using p
    refine(dV _ _).mono ?_;rintro _ m5 ⟨b5,rfl,aa,Y⟩;have X:=F.trans Y;refine⟨r F Y,b5,rfl,λl=>bV (ag ⟨w,U,λe=>?_⟩) (y.trans X),λl=>?_⟩
    .rcases e with e|e
     .exact I e
     .exact nb aa l e.1
    have ah:=yb aa l;have ao:=ak.2;have e1:cT (w -1000)=(ix w:Nat):=by unfold ix;rw[aQ V V];omega
    have e2:Int.toNat ((ix w:Nat):Int)=ix w:=V;rw[e1,e2,show cT ((a.len:Int) -1)=(a.len:Int) -1 from aQ V V];refine(aY _ _ _ _).mono ?_;rintro _ m6 ⟨b6,rfl,ab,Z⟩;have ai:=X.trans Z;refine⟨r X Z,b6,rfl,λB=>bV (ag ⟨w,U,λe=>?_⟩) (y.trans ai),λB=>?_⟩
    .rcases e with e|e
     .exact I e
     .exact nb ab B ⟨V,V⟩
    have ax:=yb ab B;have S:ix w<s.heap.length:=V;have L:=G.ext (Y.trans Z);simp only[O.gE,O.jA,O.mT,bT,eQ];have q1:=KQ (a:=s.ao.take i) (n:=10000000) (λaj hg=>ac aj (dA hg)) (ix w);have q2:=km (f.ba.take k) (ix w);have q3:=vE (s.ao.take i) (ix w);have q4:=iC (f.ba.take k) (ix w);have q5:(s.ao.take i).length<=41:=bE;have q6:(f.ba.take k).length<=10000000:=bE;refine⟨V,V,_,tH L S,V,V,NN L S,?_⟩;rw[show cT (holds (s.ao.take i) (ix w)+eB (f.ba.take k) (ix w)+1)=holds (s.ao.take i) (ix w)+eB (f.ba.take k) (ix w)+1 from aQ V V];have B7:=IS L (ix w) (holds (s.ao.take i) (ix w)+eB (f.ba.take k) (ix w)+1);rw[fB (g:=λc=>holds (s.ao.take i) c+eB (f.ba.take (k+1)) c)]at B7
    .refine⟨λz r=>bd _ _ _ _ (by simp at r;omega),C V _ ⟨ai.ah (ad _) _ _,B7,bB h t (Or.inr ⟨ah,S⟩)⟩⟩
    .intro z r;rw[rf h];by_cases q:z=ix w
     .subst q;rw[an rfl,an (ij ah).symm];omega
     .rw[ae q,ae (λaj=>q (by rw[aj,ly]))];omega
   .have I:w=0:=by simpa using p
    refine C V o ⟨F,?_,bB h t (Or.inl I)⟩;rw[fB (g:=λc=>holds (s.ao.take i) c+eB (f.ba.take k) c)]
    .exact G
    .intro z r;rw[rf h,ae V];omega
  .have I:f.ba.take k=f.ba:=bX V;rw[I]at G t;refine al V o ⟨F,?_,bB A T t⟩
   rw[fB (g:=λc=>holds (s.ao.take i) c+eB f.ba c)]
   .exact G
   .intro z r;exact KR A z
 .have I:s.ao.take i=s.ao:=bX V;rw[I]at K T;simp only[O.gE,O.jA,O.mT,bT,eQ];refine dU (n:=s.heap.length) V (λk x=>x=m3/\∀(c:Nat)(h:bM),c<k->s.heap[c]? =some h->(h.aP<0->holds s.ao c=1)/\(0<=h.aP->holds s.ao c=0)) ⟨rfl,λc h S=>absurd S (eW _)⟩ ?_;rintro k o M ν v ⟨rfl,t⟩ C;refine⟨λu=>?_,λu=>?_⟩
  .have U:k<s.heap.length:=by first|omega|(simp at u;omega)
   let⟨h,q⟩:=dB U;obtain⟨f,_,g1,_,_⟩:=(H.ext (y.trans D)).heap.aF q;have X:Int.toNat (k:Int)=k:=V;rw[X];have L:=tH K U;have gX:(h.aP<0->holds s.ao k=1)/\(0<=h.aP->holds s.ao k=0)->∀(c:Nat)(h:bM),c<k+1->s.heap[c]? =some h->(h.aP<0->holds s.ao c=1)/\(0<=h.aP->holds s.ao c=0):=λe c d S hd=>by
    rcases aW c k with R|R
    .exact t c d R hd
    .have:c=k:=V;subst this;rw[q]at hd;simp at hd;subst hd;exact e
   have MF:(h.aP<0->holds s.ao k=1)->(0:Int)<=(k:Int)/\(k:Int)<(a.len:Int)/\∃w:Int,af o a.D (a.off+k*3)=some (vi w)/\
    ((decide (w>=(0:Int)))=true->(0:Int)<=(k:Int)/\(k:Int)<(s.heap.length:Int)/\∃F:Int,af o j.size k=some (vi F)/\
    ((F !=(0:Int))=true->∃G:Bool,vb false=.bool G/\(G=true<->N3 s.heap s.ao)/\J m o)/\((F !=(0:Int))=false->M (cT ((k:Int)+1)) o/\ν (cT ((k:Int)+1)) o<ν k o))/\
    ((decide (w>=(0:Int)))=false->M (cT ((k:Int)+1)) o/\ν (cT ((k:Int)+1)) o<ν k o):=λe=>by
    refine⟨V,V,_,g1,λp=>⟨V,V,_,L,λl=>bV (λv=>?_) (y.trans D),λl=>C V _ ⟨rfl,gX ⟨e,λ_=>by simpa using l⟩⟩⟩,λp=>C V _ ⟨rfl,gX ⟨e,λB=>by simp at p;omega⟩⟩⟩
    have:=v.ng k h q (by simpa using p)
    simp at l;exact l this
   refine⟨V,V,_,g1,λp=>⟨V,V,_,L,λl=>bV (λv=>?_) (y.trans D),λl=>MF λ_=>by simpa using l⟩,λp=>MF λB=>by simp at p;omega⟩;have:=v.kZ k h q (by simpa using p);simp at l;exact l this
  .have l:s.heap.length<=k:=by first|omega|(simp at u;omega)
   exact iN ⟨T,λc h q e=>(t c h (oh (av q)) q).1 e,λc h q e=>(t c h (oh (av q)) q).2 e⟩ (y.trans D)
end
end
section
def Pn(a:Int):(a==(0:Int))=decide (a=0):=by by_cases h:a=0<;>simp[h]
def Fm(a b:Int):(!((a==(0:Int))==(b==(0:Int))))=false<->(a=0<->b=0):=by
 rw[Pn,Pn];by_cases c:a=0<;>by_cases d:b=0<;>simp[c,d]
section
variable{m:E}{d p aT c b:O}{a:cN}{s:St}
structure SI(h:List bM)(fs:List aX):Prop where
 len:∀f∈fs,f.aR.length=f.ak.length
 ak:∀f∈fs,Hs h f
def SI.aR{h:List bM}{a:List aX}(H:SI h a){f:aX}(b:f∈a):∀o∈f.aR,0<=o/\o<=999999:=λo d=>by
 let⟨k,c⟩:=List.mem_iff_getElem?.1 d;let⟨w,e⟩:=cG f.ak k (O6 (av c) (H.len f b));exact((H.ak f b).dz k w o e c).2.1
def IF(y:gD m aT c b s)(C:zk s)(hd:s.ao.length<=41)(H:SI s.heap s.ao):S0 122 [MY s aT c b] m (sO s.heap.length (fA s.ao)):=by
 apply CT;simp -zeta only[aC,aB];intro d;have o:J m d:=(J.az m).aK _;have s1:d.size=m.size+1:=by simp[d]
 clear_value d;have hl:=y.heap.len;have aD:=C.lh;have ay:=y.ao.len;have en:Int.toNat (c.len:Int)=s.heap.length:=V;rw[en];refine⟨V,V,V,V,?_⟩;intro A;have x2:J d A:=(J.az d).aK _;have B2:cE A d.size aA ((sO s.heap.length (λ_=>0)).map Ce.i):=Ma d _;have s2:A.size=d.size+1:=by simp[A]
 clear_value A;refine dU (n:=s.ao.length) V (λi j=>J d j/\d.size<j.size/\cE j d.size aA ((sO s.heap.length (λe=>fA (s.ao.take i) e)).map Ce.i)) ⟨x2,V,by simpa[fA]using B2⟩ ?_;rintro i S ar μ hi ⟨B,z3,I⟩ am
 refine dit (λh1=>?_) λh1=>?_
 .let⟨f,v⟩:=cG s.ao i;have x:=aq v;have aE:=C.lr f x;let⟨ag,G,u,hr,P,he,g0,g1,g2,Y,Z,g5⟩:=(y.ext (o.trans B)).ao.aF v;have aI:=hr.len;have aG:=P.len;have az:=H.len f x;have ei:Int.toNat (i:Int)=i:=V;rw[ei];refine⟨V,V,_,g0,_,g1,_,g2,ag,Y,G,Z,u,g5,?_⟩;intro m4 l;have x5:J S l:=((J.az S).aK _).ah (ad _) _ _;have s5:l.size=S.size+1:=by simp[l,m4,aw]
  clear_value l;have ao:=B.trans x5;refine dU (n:=f.aR.length) V (λa j=>J d j/\l.size<=j.size/\(∀h,h<l.size->h≠d.size->j[h]? =l[h]?)/\cE j d.size aA ((sO s.heap.length (λe=>fA (s.ao.take i) e+de (f.ak.take a) (f.aR.take a) e)).map Ce.i)) ⟨ao,ad _,λ_ _ _=>rfl,by simpa[de]using(I.ext x5)⟩ ?_;rintro a F au ν hk ⟨t,z6,X,p⟩ ac;refine dit (λh2=>?_) λh2=>?_
  .let⟨w,z⟩:=cG f.ak a;let⟨q,E⟩:=cG f.aR a;have R:=(H.ak f x).dz a w q z E;obtain⟨r',o',e',aH,aF,ax,_,_,_,_,y4,_⟩:=(y.ext (o.trans t)).ao.aF v;have lb:∀{sl:O}{ab:List Int},ap m sl ab->ab≠[]->sl.D<m.size:=λah D=>iE ah D;obtain⟨U,T,e0,aj,ai,_,_,_,_,w3,w4,_⟩:=y.ao.aF v;have er:U=ag:=by have:=(o.trans B).af w3;rw[Y]at this;exact(O.Bz.1 (jJ this)).symm
   have eo:T=G:=by have:=(o.trans B).af w4;rw[Z]at this;exact(O.Bz.1 (jJ this)).symm
   subst er;subst eo;have gq:af F T.D (T.off+Int.toNat (a:Int)*1)=some (vi q):=by simpa using(ai.ext (o.trans t)).aF E
   have gw:af F U.D (U.off+Int.toNat (a:Int)*1)=some (vi w):=by simpa using(aj.ext (o.trans t)).aF z
   refine⟨V,V,q,gq,λM=>?_,λM=>?_⟩
   .have Q:0<q:=by simpa using M
    have N:=R.2.2 Q;have aa:=av (bS N).1;have K:cT (w -1000)=(ix w:Nat):=by have:=N.1;have:=((C.ao f x).1 w (aq z)).2;unfold ix;rw[aQ V V];omega
    have L:Int.toNat ((ix w:Nat):Int)=ix w:=V;refine⟨V,V,w,gw,V,V,w,gw,?_⟩;rw[K,L];simp only[O.gE,O.jA,O.mT,bT,eQ];have q1:=Ke (a:=s.ao.take i) (n:=10000000) (k:=999999) V (λW r=>⟨(C.lr W (dA r)).2.1,H.aR (dA r)⟩) (ix w);have q2:=Ga (ak:=f.ak.take a) (aR:=f.aR.take a) (n:=999999) V (λG P=>H.aR x G (dA P)) (ix w);have q5:(s.ao.take i).length<=41:=bE;have q6:(f.aR.take a).length<=10000000:=bE;have q7:=R.2.1;refine⟨V,V,_,tH p aa,V,V,q,by simpa using gq,V,V,NN p aa,?_⟩;rw[show cT (fA (s.ao.take i) (ix w)+de (f.ak.take a) (f.aR.take a) (ix w)+q)=fA (s.ao.take i) (ix w)+de (f.ak.take a) (f.aR.take a) (ix w)+q from aQ V V];have W:=IS p (ix w) (fA (s.ao.take i) (ix w)+de (f.ak.take a) (f.aR.take a) (ix w)+q);rw[fB (g:=λe=>fA (s.ao.take i) e+de (f.ak.take (a+1)) (f.aR.take (a+1)) e)]at W
    .refine⟨λh r=>bd _ _ _ _ (by simp at r;omega),ac V _ ⟨t.ah (ad _) _ _,by rw[aw];exact z6,λh r D=>by rw[bd _ _ _ _ D];exact X h r D,W⟩⟩
    .intro h r;rw[tp z E];by_cases u:h=ix w
     .subst u;rw[an rfl,an (ij N.1).symm];omega
     .rw[ae u,ae (λal=>u (by rw[al,ly]))];omega
   .have Q:q=0:=by have:=R.2.1.1;simp at M;omega
    refine ac V F ⟨t,z6,X,?_⟩;rw[fB (g:=λe=>fA (s.ao.take i) e+de (f.ak.take a) (f.aR.take a) e)]
    .exact p
    .intro h r;rw[tp z E,Q];split<;>omega
  .have K:f.ak.take a=f.ak:=bX V;have L:f.aR.take a=f.aR:=bX V;rw[K,L]at p;refine am V F ⟨t,V,?_⟩
   rw[fB (g:=λe=>fA (s.ao.take i) e+de f.ak f.aR e)]
   .exact p
   .intro h r;exact NC v h
 .have a:s.ao.take i=s.ao:=bX V;rw[a]at I;exact⟨_,rfl,OT I V,o.trans B⟩
def CC(j:gD m aT c b s)(i:zk s)(hd:s.ao.length<=41)(H:SI s.heap s.ao)(h:∀a∈s.heap,nZ s.heap a):
 dt cg 67 [MY s aT c b] m (∀(e:Nat)(a:bM),s.heap[e]? =some a->0<a.aP->a.aP=eg s.heap e+fA s.ao e):=by
 apply xg
 simp -zeta only[aC,aB]
 intro l
 have v:J m l:=(J.az m).aK _
 have Z:l.size=m.size+1:=by simp[l]
 clear_value l
 have R:=j.heap.len
 have S:=i.lh
 refine(Bd (j.ext v).heap h i.heap V).mono ?_
 rintro _ T ⟨O,rfl,C,o⟩
 have z2:=o.size
 refine⟨o.dv bE,O,rfl,(IF (j.ext (v.trans o)) i hd H).mono ?_⟩
 rintro _ M ⟨N,rfl,A,w⟩
 have K:=C.len
 have I:=A.len
 rw[nV]at K I
 have p:=(v.trans o).trans w
 refine⟨w.dv bE,N,rfl,?_⟩
 refine dU (n:=s.heap.length) V (λf L=>L=M/\∀(e:Nat)(a:bM),e<f->s.heap[e]? =some a->0<a.aP->a.aP=eg s.heap e+fA s.ao e) ⟨rfl,λe a y=>absurd y (eW _)⟩ ?_
 rintro f U P μ z ⟨rfl,B⟩ D
 refine dit (λF=>?_) λF=>?_
 .have t:f<s.heap.length:=V
  let⟨a,r⟩:=dB t
  obtain⟨Q,_,g1,_,_⟩:=(j.ext p).heap.aF r
  have E:Int.toNat (f:Int)=f:=V
  rw[E]
  have gX:(0<a.aP->a.aP=eg s.heap f+fA s.ao f)->∀(e:Nat)(a:bM),e<f+1->s.heap[e]? =some a->0<a.aP->a.aP=eg s.heap e+fA s.ao e:=λu e d y hd=>by
   rcases aW e f with x|x
   .exact B e d x hd
   .have:e=f:=V;subst this;rw[r]at hd;simp at hd;subst hd;exact u
  have W:=BO s.heap f λa G=>(h a G).fl
  have X:=qR s.heap f
  have Y:=Ke (a:=s.ao) (n:=10000000) (k:=999999) V (λq g=>⟨(i.lr q g).2.1,H.aR g⟩) f
  refine⟨V,V,_,g1,λq=>?_,λq=>D V _ ⟨rfl,gX λg=>by simp at q;omega⟩⟩
  refine⟨V,V,_,g1,V,V,_,(C.ext w).aF (uK t),V,V,_,A.aF (uK t),?_⟩
  rw[show cT (eg s.heap f+fA s.ao f)=eg s.heap f+fA s.ao f from aQ V V]
  refine⟨λg=>bV (λz=>?_) p,λg=>D V _ ⟨rfl,gX λ_=>by simpa using g⟩⟩
  have:=z f a r (by simpa using q)
  simp at g;exact g this
 .exact iN (λe a h u=>B e a (oh (av h)) h u) p
def EU(ae:fw m d p a)(x:gD m aT c b s)(G:zk s):dt cg 36 [.agg #[O.v d,O.v p],MY s aT c b] m (cU a s):=by
 apply zc;simp -zeta only[aC,aB];intro H l;have o:J m l:=((J.az m).aK _).aK _;have s1:H.size=m.size+1:=by simp[H]
 have s2:l.size=m.size+2:=by simp[l,s1]
 clear_value l;have k:∀af∈[H.size,m.size],af<l.size:=bE;have ak:=x.ao.len;have h:∀{M:E},J l M->¬Ng a s->∃q:Bool,vb false=.bool q/\(q=true<->cU a s)/\J m M:=λU hn=>bV (λe=>hn (Oi e)) (o.trans U);refine(tF (ae.ext o)).aH (J.az _) k λb3 m3 Z x3 _=>⟨b3,rfl,λL=>h x3 λe=>nb Z L e.fy,λL=>?_⟩;have hi:=yb Z L;refine(aY _ _ _ _).aH x3 k λb4 m4 aa ay X=>⟨b4,rfl,λN=>h X λe=>nb aa N e.cz,λN=>?_⟩;have an:=yb aa N;have ac:(s.ao=[])<->((b.len:Int)=0):=by rw[ak];simp
 refine⟨λP=>h X λe=>?_,λP=>?_⟩
 .have:=e.done;rw[ac,<-Fm]at this;rw[this]at P;cases P
 have aj:s.cz=0<->s.ao=[]:=by rw[ac];exact(Fm _ _).1 P
 refine⟨λM=>J l M/\gK s.value/\(s.value≠0->s.cz=0)/\(0<=s.dR/\s.dR<=40)/\(0<=s.bu/\s.bu<=s.dR),?_,?_⟩
 .refine(aY _ _ _ _).aH X k λb5 W u y w=>⟨b5,rfl,λr=>h w λe=>nb u r e.value,λr=>?_⟩;have tail:(s.value≠0->s.cz=0)->aN cg 45 [vi s.dR,vi (0:Int),vi (40:Int)] W λv f=>eF [H.size,m.size] W f/\∃i:Bool,v=vb i/\
   ((!i)=true->∃q:Bool,vb false=.bool q/\(q=true<->cU a s)/\J m f)/\((!i)=false->aN cg 45 [vi s.bu,vi (0:Int),vi s.dR] f λt g=>
   eF [H.size,m.size] f g/\∃j:Bool,t=vb j/\((!j)=true->∃q:Bool,vb false=.bool q/\(q=true<->cU a s)/\J m g)/\
   ((!j)=false->J l g/\gK s.value/\(s.value≠0->s.cz=0)/\(0<=s.dR/\s.dR<=40)/\(0<=s.bu/\s.bu<=s.dR))):=λT=>
   (aY _ _ _ _).aH w k λb6 m6 C aq z=>⟨b6,rfl,λg=>h z λe=>nb C g e.dR,λg=>
    (aY _ _ _ _).aH z k λR m7 D ar I=>⟨R,rfl,λB=>h I λe=>nb D B e.bu,λB=>⟨I,(yb u r),T,yb C g,yb D B⟩⟩⟩
  refine⟨λt=>⟨λg=>h w λe=>?_,λg=>tail λ_=>by simpa using g⟩,λt=>tail λg=>absurd (by simpa using t) g⟩;have:=e.tO (by simpa using t);simp at g;exact g this
 .rintro W ⟨w,hv,T,al,ah⟩;rw[aQ V V];refine⟨λr=>h w λe=>by have:=e.depth;simp at r;omega,λr=>?_⟩;have ai:(s.ao.length:Int)<=s.bu+1:=by simp at r;omega
  have ab:s.ao.length<=41:=V;refine(Eg (x.ext (o.trans w)).aT).aH w k λb6 m6 C aq z=>⟨b6,rfl,λt=>h z λe=>nb C t e.aT,λt=>?_⟩;have am:=yb C t;refine(GZ (x.ext (o.trans z)).heap G.heap (oh G.lh)).aH z k λR m7 D ar I=>⟨R,rfl,λg=>h I λe=>nb D g e.heap,λg=>?_⟩;have ad:=yb D g;refine dU (n:=s.ao.length) V (λy m'=>J l m'/\∀(j:Nat)(f:aX),j<y->s.ao[j]? =some f->Kj a s.heap (nv s.ao j) f) ⟨I,λj f v=>absurd v (eW _)⟩ ?_;rintro y m8 aw μ e ⟨K,hq⟩ ao
  refine dit (λB=>?_) λB=>?_
  .let⟨f,i⟩:=cG s.ao y;refine(EP (ae.ext (o.trans K)) (x.ext (o.trans K)) G i).aH K k λS m9 F au A=>⟨S,rfl,λu=>h A λe=>nb F u (e.ao y f i),λu=>ao V _ ⟨A,λj ag v Q=>?_⟩⟩;rcases aW j y with Y|Y
   .exact hq j ag Y Q
   .have:j=y:=V;subst this;rw[i]at Q;simp at Q;subst Q;exact yb F u
  .have Q:∀(j:Nat)(f:aX),s.ao[j]? =some f->Kj a s.heap (nv s.ao j) f:=λj f i=>hq j f (oh (av i)) i;have Y:SI s.heap s.ao:=⟨λf i=>by
    let⟨j,v⟩:=vQ i;have L:=(Q j f v).lr;have N:=(Q j f v).lo;omega,λf i=>let⟨j,v⟩:=vQ i;(Q j f v).ak⟩
   refine(Ip (x.ext (o.trans K)) G ab).aH K k λS m9 F au A=>⟨S,rfl,λu=>?_,λu=>h A λe=>fb F u e.ba⟩;refine(CC (x.ext (o.trans A)) G ab Y ad.cells).aH A k λv ax ag az ap=>⟨v,rfl,eT ?_ (o.trans ap)⟩;rw[ag];exact⟨λU=>LY ⟨hi,an,aj,hv,T,al,ah,ai,am,ad,Q,F.1 u,U⟩,λe=>(Oi e).QE⟩
end
end
section
variable{m:E}{b:List bM}{w:Int}{d:bM}{a:Nat}{W:List Nat}
def qN(n:Int)(m:E):dt cg 78 [vi n] m (gK n):=by
 apply HG;refine⟨λb=>eT ?_ (J.az _),λb=>bV (λa=>?_) (J.az _)⟩
 .simp at b;simp[gK,b]
 .simp at b;have:=a.1;omega
def FR{f:O}(d:cX m f b)(j:Hm w):dt cg 198 [O.v f,vi w] m (qy b w):=by
 apply zS;refine(ig d j.2).mono ?_;rintro _ k ⟨a,h,rfl,e,_,g⟩;refine⟨a,h,rfl,λc=>iN (Or.inr (e.1 c)) g,λc=>?_⟩;refine(qN w k).then λb2 n i l=>⟨b2,rfl,eT ?_ (g.trans l)⟩;rw[i];exact⟨Or.inl,λd=>d.resolve_right (fb e c)⟩
structure I7(b:List bM)(d:bM):Prop where
 lo: -1<=d.aP
 j8:0<=d.j8/\d.j8<=99
 fl:d.aE.length<=3
 wL:d.aP<1->d.j8=0
 iY:d.aP=0->d.aE=[]
 cL:∀w∈d.aE,qy b w/\(d.aP<0->w=0)
def I7.ok(a:I7 b d)(e:d.aP<=999999):nZ b d:=
 ⟨a.fl,a.lo,e,λhd=>⟨a.wL hd,λw c=>by
  by_cases f:d.aP<0
  .exact(a.cL w c).2 f
  .rw[a.iY V]at c;simp at c,a.iY⟩,λ_=>⟨λw c=>(a.cL w c).1,a.j8⟩⟩
def nZ.v(a:nZ b d):I7 b d:=by
 refine⟨a.lo,?_,a.fl,λhd=>(a.wL hd).1,λf=>(a.wL V).2.2 f,λw e=>⟨?_,λg=>(a.wL V).2.1 w e⟩⟩
 .by_cases c:0<d.aP
  .exact(a.oL c).2
  .have:=(a.wL V).1;omega
 .by_cases c:0<d.aP
  .exact(a.oL c).1 w e
  .have:=(a.wL V).2.1 w e;exact Or.inl (by subst this;exact⟨bh,bh⟩)
def I7.cases(c:I7 b d)(e:w∈d.aE):fX b w\/w<1000:=by
 rcases(c.cL w e).1 with a|a
 .have:=a.2;exact Or.inr V
 .exact Or.inl a
def FF{z j:O}(E:cX m z b)(x:ap m j d.aE)(G:∀w∈d.aE,Hm w):dt cg 154 [O.v z,.agg #[vi d.aP,vi d.j8,O.v j]] m (I7 b d):=by
 apply zL;simp -zeta only[aC,aB];intro e;have f:J m e:=(J.az m).aK _;have N:e.size=m.size+1:=by simp[e]
 clear_value e;have y:=x.len;have F:∀C∈[m.size],C<e.size:=bE;refine⟨λk=>bV (λc=>by have:=c.lo;simp at k;omega) f,λk=>⟨λl=>bV (λc=>by have:=c.j8;simp at l;omega) f,λl=>⟨λo=>bV (λc=>by have:=c.j8;simp at o;omega) f,λo=>⟨λr=>bV (λc=>by have:=c.fl;simp at r;omega) f,λr=>?_⟩⟩⟩⟩;simp at k l o r;refine⟨λM=>M=e/\(d.aP<1->d.j8=0)/\(d.aP=0->d.aE=[]),?_,?_⟩
 .have zero:(d.aP<1->d.j8=0)->((d.aP==(0:Int))=true->((decide ((j.len:Int)>(0:Int)))=true->∃a:Bool,vb false=.bool a/\(a=true<->I7 b d)/\J m e)/\
   ((decide ((j.len:Int)>(0:Int)))=false->e=e/\(d.aP<1->d.j8=0)/\(d.aP=0->d.aE=[])))/\((d.aP==(0:Int))=false->e=e/\(d.aP<1->d.j8=0)/\(d.aP=0->d.aE=[])):=λh=>
   ⟨λg=>⟨λa=>bV (λc=>by have:=c.iY (by simpa using g);rw[this]at y;simp at a y;omega) f,λa=>⟨rfl,h,λ_=>List.length_eq_zero_iff.1 (by simp at a;omega)⟩⟩,λg=>⟨rfl,h,λa=>by simp at g;exact absurd a g⟩⟩
  refine⟨λg=>⟨λa=>bV (λc=>by have:=c.wL (by simpa using g);simp at a;exact a this) f,λa=>zero λ_=>by simpa using a⟩,λg=>zero λa=>by simp at g;omega⟩
 .rintro H ⟨rfl,hd,D⟩;refine dU (n:=d.aE.length) V (λv h=>J H h/\∀w∈d.aE.take v,qy b w/\(d.aP<0->w=0)) ⟨J.az _,aL⟩ ?_;rintro v L I μ K ⟨q,u⟩ B
  refine dit (λg=>?_) λg=>?_
  .let⟨w,h⟩:=cG d.aE v;refine⟨V,V,w,by simpa using(x.ext (f.trans q)).aF h,(FR (cX.ext (f.trans q) E) (G w (aq h))).aH q F λb4 A t P p=>⟨b4,rfl,λa=>bV (λc=>nb t a (c.cL w (aq h)).1) (f.trans p),λa=>⟨λs=>⟨λi=>bV (λc=>?_) (f.trans p),λi=>B V A ⟨p,bB h u ⟨yb t a,λ_=>by simpa using i⟩⟩⟩,λs=>B V A ⟨p,bB h u ⟨yb t a,λi=>by simp at s;omega⟩⟩⟩⟩⟩;have:=(c.cL w (aq h)).2 (by simpa using s);simp at i;exact i this
  .exact iN ⟨k,⟨l,o⟩,V,hd,D,db V u⟩ (f.trans q)
def gZ(mk:Nat->Bool):Nat->List bM->Nat->Int
 |_,[],_=>0
 |i,d::b,a=>(if mk i=true then 0 else eB d.aE a)+gZ mk (i+1) b a
def Ec:∀(i:Nat)(b:List bM)(a:Nat),gZ (λ_=>false) i b a=eg b a
 |_,[],_=>rfl
 |i,d::b,a=>by simp[gZ,eg,Ec (i+1) b a]
def Gb(mk:Nat->Bool):∀(i:Nat)(b:List bM)(a:Nat),0<=gZ mk i b a
 |_,[],_=>dg 0
 |i,d::b,a=>by have:=Gb mk (i+1) b a;have:=iC d.aE a;simp only[gZ];split<;>omega
def PQ(mk:Nat->Bool):∀(i:Nat)(b:List bM)(a:Nat),gZ mk i b a<=eg b a
 |_,[],_=>dg 0
 |i,d::b,a=>by have:=PQ mk (i+1) b a;have:=iC d.aE a;simp only[gZ,eg];split<;>omega
def Jq{mk e:Nat->Bool}:∀{i:Nat}{b:List bM}{a:Nat},(∀j,i<=j->mk j=e j)->gZ mk i b a=gZ e i b a
 |_,[],_,_=>rfl
 |i,d::b,a,c=>by simp only[gZ];rw[c i (ad _),Jq λj f=>c j V]
def NF{mk:Nat->Bool}:∀{e:Nat}{b:List bM}{f:Nat}{d:bM},b[f]? =some d->mk (e+f)=false->∀a,gZ (mJ mk (e+f)) e b a=gZ mk e b a -eB d.aE a
 |_,[],_,_,b,_,_=>by simp at b
 |e,m::b,0,d,j,l,a=>by
  simp at j;subst j;have g:=Jq (mk:=mJ mk e) (e:=mk) (i:=e+1) (b:=b) (a:=a) λo n=>pK V;rw[jE]at l⊢;simp only[gZ,BR,l,g];simp;omega
 |e,m::b,f+1,d,j,l,a=>by
  have g:e+(f+1)=e+1+f:=V;have:=NF (mk:=mk) (e:=e+1) (b:=b) (f:=f) (d:=d) (by simpa using j) (by rw[<-g];exact l) a;simp only[gZ];rw[g,this,pK V];omega
def PO{mk:Nat->Bool}:∀{e:Nat}{b:List bM}{j:Nat}{d:bM},b[j]? =some d->mk (e+j)=false->∀a,eB d.aE a<=gZ mk e b a
 |_,[],_,_,b,_,_=>by simp at b
 |e,l::b,0,d,f,g,a=>by
  simp at f;subst f;have:=Gb mk (e+1) b a;simp only[jE]at g;simp only[gZ,g];simp;omega
 |e,l::b,j+1,d,f,g,a=>by
  have:=PO (mk:=mk) (e:=e+1) (b:=b) (j:=j) (d:=d) (by simpa using f) (by rw[<-g];congr 1;omega) a;have:=iC l.aE a;simp only[gZ];split<;>omega
def NE{mk:Nat->Bool}:∀{i:Nat}{b:List bM}{a:Nat},0<gZ mk i b a->∃(k:Nat)(d:bM),b[k]? =some d/\mk (i+k)=false/\(1000+(a:Int))∈d.aE
 |_,[],_,b=>by simp[gZ]at b
 |i,c::b,a,g=>by
  simp only[gZ]at g;by_cases f:mk i=false/\0<eB c.aE a
  .exact⟨0,c,rfl,f.1,OE f.2⟩
  .have:0<gZ mk (i+1) b a:=by
    have:=iC c.aE a;split at g
    .omega
    .rename_i h;have:¬0<eB c.aE a:=λe=>f ⟨by simpa using h,e⟩;omega
   let⟨k,d,h,e,j⟩:=NE this;exact⟨k+1,d,by simpa using h,by rw[<-e];congr 1;omega,j⟩
def SU(b:List bM)(mk:Nat->Bool):Prop:=
 ∃t:Nat->Nat,(∀j,mk j=true->t j<=mC mk b.length)/\∀(i:Nat)(d:bM),b[i]? =some d->∀w∈d.aE,1000<=w->mk (ix w)=true->mk i=true/\t i<t (ix w)
def SU.set{mk:Nat->Bool}(u:SU b mk)(t:a<b.length)(k:mk a=false)(B:gZ mk 0 b a=0):SU b (mJ mk a):=by
 let⟨A,n,s⟩:=u;have r:=zB k t;have v:∀(c:Nat)(d:bM),b[c]? =some d->(1000+(a:Int))∈d.aE->mk c=true:=λc d f g=>by
  cases e:mk c
  .have g1:=PO (mk:=mk) (e:=0) f (by rw[bT];exact e) a;have g2:=uy g;omega
  .rfl
 refine⟨λx=>if x=a then mC mk b.length+1 else A x,λy o=>?_,λc d f w g q p=>?_⟩
 .simp only[r];split
  .omega
  .rename_i h;rw[pK h]at o;have:=n y o;omega
 .by_cases h:ix w=a
  .have e:=v c d f (by rw[<-h,ij q];exact g);have l:c≠a:=λj=>by rw[j,k]at e;cases e
   simp only[an h,ae l];exact⟨BT e,oh (n c e)⟩
  .rw[pK h]at p;let⟨m,z⟩:=s c d f w g q p;have l:c≠a:=λj=>by rw[j,k]at m;cases m
   simp only[ae h,ae l];exact⟨BT m,z⟩
def Po(f:Nat->Nat):∀n,∃B,∀i,i<n->f i<=B
 |0=>⟨0,λi a=>absurd a (eW _)⟩
 |n+1=>by
  let⟨B,c⟩:=Po f n;refine⟨B+f n,λi a=>?_⟩;rcases aW i n with b|b
  .have:=c i b;omega
  .have:i=n:=V;subst this;omega
def UZ{mk:Nat->Bool}(r:SU b mk)(q:∀d∈b,∀w∈d.aE,1000<=w->ix w<b.length)(o:∀a,a<b.length->gZ mk 0 b a=0->mk a=true):
 mC mk b.length=b.length<->SG b:=by
 rw[Kz]
 constructor
 .intro g
  let⟨t,e,c⟩:=r
  refine⟨λx=>b.length -t x,λi d h w j f=>?_⟩
  have k:=q d (aq h) w j f
  have:=(c i d h w j f (g _ k)).2
  have:=e _ (g _ k)
  have:=Ft mk b.length
  show b.length -t (ix w)<b.length -t i
  omega
 .rintro⟨h,s⟩
  let⟨B,m⟩:=Po h b.length
  have u:∀(n i:Nat),B -h i<n->i<b.length->mk i=true:=by
   intro n;induction n with
   |zero=>intro i g;omega
   |succ n t=>
    intro i g p;refine o i p (Int.le_antisymm (Int.not_lt.1 λf=>?_) (Gb _ _ _ _));let⟨k,d,e,c,l⟩:=NE f;rw[bT]at c;have:=s k d e _ l V;rw[ly]at this;have j:=av e;have:=m k j;rw[t k V j]at c;cases c
  exactλi g=>u (B -h i+1) i V g
structure Ho(b:List bM)(mk:Nat->Bool)(W:List Nat)(lf:Nat->Int):Prop where
 Ld:W.Nodup
 un:∀a∈W,a<b.length/\mk a=false
 zero:∀a,a<b.length->(lf a=0<->(mk a=true\/a∈W))
def FX:∀(n:Nat)(W:List Nat),W.Nodup->(∀a∈W,a<n)->W.length<=n
 |0,[],_,_=>ad _
 |0,a::_,_,b=>absurd (b a aL) (eW _)
 |n+1,W,hd,b=>by
  by_cases d:n∈W
  .have e:=FX n (W.erase n) (hd.erase n) λa c=>by
    have:=hd.mem_erase_iff.1 c;have:=b a this.2;omega
   rw[List.length_erase_of_mem d]at e;omega
  .have:=FX n W hd λa c=>by
    have:=b a c;have:a≠n:=λe=>d (e▸c);omega
   omega
def Ho.len{mk:Nat->Bool}{d:Nat->Int}(K:Ho b mk W d):W.length<=b.length:=FX _ _ K.Ld λa c=>(K.un a c).1
def Ho.U6{mk:Nat->Bool}{f:Nat->Int}(K:Ho b mk (W++[a]) f):Ho b (mJ mk a) W f:=by
 let⟨g,i,h⟩:=List.nodup_append.1 K.Ld;refine⟨g,λx c=>?_,λx c=>?_⟩
 .have d:=K.un x (bI _ c);refine⟨d.1,?_⟩;rw[pK λe=>h x c a aL e];exact d.2
 .rw[K.zero x c];by_cases e:x=a
  .subst e;simp[BR]
  .rw[pK e];simp[e]
def Ho.lC{mk:Nat->Bool}{g lf':Nat->Int}(K:Ho b mk W g)(i:a<b.length)(j:∀x,lf' x=if x=a then g x -1 else g x)(l:0<g a):
 (lf' a=0->Ho b mk (W++[a]) lf')/\(lf' a≠0->Ho b mk W lf'):=by
 have f:mk a≠true/\a∉W:=by
  have:=(K.zero a i).2;constructor
  .intro d;have:=this (Or.inl d);omega
  .intro d;have:=this (Or.inr d);omega
 refine⟨λh=>⟨?_,λx c=>?_,λx c=>?_⟩,λh=>⟨K.Ld,K.un,λx c=>?_⟩⟩
 .rw[List.nodup_append]
  refine⟨K.Ld,aL,λx c y k e=>?_⟩
  simp at k;subst k;subst e;exact f.2 c
 .rcases List.mem_append.1 c with c|c
  .exact K.un x c
  .simp at c;subst c;exact⟨i,by simpa using f.1⟩
 .by_cases e:x=a
  .subst e;simp[h]
  .rw[j x,ae e,K.zero x c];simp[e]
 .by_cases e:x=a
  .subst e
   constructor
   .intro d;exact absurd d h
   .rintro(d|d)
    .exact absurd d f.1
    .exact absurd d f.2
  .rw[j x,ae e,K.zero x c]
end
section
variable{b:Nat->Nat}{m:E}{k c a:Nat}{s:O}{d:Nat->Int}
def UM(W:List Nat):List Int:=W.map λ(a:Nat)=>(a:Int)
def Kb(W:List Nat):(UM W).length=W.length:=by simp[UM]
def KC(W:List Nat)(a:Nat):UM (W++[a])=UM W++[(a:Int)]:=by simp[UM]
def VT(h:iF b m aA 1 k s ((sO c d).map Ce.i))(g:c<=9223372036854775807)(e:a<c):af m s.D (s.off+Int.toNat (a:Int)*1)=some (vi (d a)):=by
 have:=(h.nH (by rw[nV];exact g)).aF (uK (f:=d) e);simpa using this
def T9(h:iF b m aA 1 k s ((sO c d).map Ce.i)):s.len=c:=by have:=h.len;simp[nV]at this;omega
def Xi{g:Nat->Int}(h:iF b m aA 1 k s ((sO c d).map Ce.i))(q:a<c){v:Int}(o:∀e,e<c->g e=if e=a then v else d e)(p:∀e,m.size<=e->b e=0):
 fJ m s.D (s.off+Int.toNat (a:Int)*1) 1/\iF b (ah m s.D (s.off+Int.toNat (a:Int)*1) [.i v]) aA 1 k s ((sO c g).map Ce.i)/\dp (λj=>j=k) b m b (ah m s.D (s.off+Int.toNat (a:Int)*1) [.i v]):=by
 have f:(0:Int)<=(a:Int):=V
 have i:(a:Int)<((sO c d).length:Nat):=by rw[nV];omega
 have j:=h.gQ f i v
 have l:gQ (sO c d) (a:Int) v=sO c g:=by
  unfold gQ;rw[show Int.toNat (a:Int)=a by omega,RP];exact fB λe n=>(o e n).symm
 rw[l]at j
 have r:=T9 h
 have t:=h.le
 exact⟨h.NP f i,j,dp.ah p (h.D V).2 _ _⟩
def XI(m:E)(h:List bM)(v:Value)(c:E):Prop:=∃(s:O)(b:Bool),v=.tuple #[O.v s,vb b]/\(b=true<->NZ h)/\
 (b=true->∃a,s=.mk a 0 h.length h.length/\m.size<=a/\cE c a aA ((sO h.length (eg h)).map Ce.i))/\J m c
def Cd{N:O}{h:List bM}(y:cX m N h)(aS:RY h)(bm:h.length<=1000000000):aN cg 79 [O.v N] m (XI m h):=by
 apply wQ;simp -zeta only[aC,aB];have hl:=y.len;have en:Int.toNat (N.len:Int)=h.length:=V;rw[en];refine⟨V,V,V,V,?_⟩;intro m1;have x1:J m m1:=(J.az m).aK _;have B1:cE m1 m.size aA ((sO h.length (λ_=>0)).map Ce.i):=Ma m _;clear_value m1;have no:∀{M:E},J m M->¬NZ h->XI m h (.tuple #[O.v O.nil,vb false]) M:=λT G=>⟨.nil,false,rfl,by simp[G],aL,T⟩;have am:∀c:Nat,Int.toNat (c:Int)=c:=λc=>V;simp -zeta only[O.gE,O.jA,O.mT,bT];refine dU (n:=h.length) V (λt l=>J m l/\cE l m.size aA ((sO h.length (λa=>eg (h.take t) a)).map Ce.i)/\∀e∈h.take t,I7 h e) ⟨x1,by simpa[eg]using B1,aL⟩ ?_;rintro t m2 bu μ hi ⟨Z,B2,ai⟩ X
 have bD:=B2.lt;have h3:∀e∈h.take t,e.aE.length<=3:=λe hm=>(ai e hm).fl;refine dit (λh1=>?_) λh1=>?_
 .let⟨e,r⟩:=cG h t;have ab:=aq r;let⟨d,hf,g0,g1,g2⟩:=(cX.ext Z y).aF r;rw[am];refine⟨V,V,e.aP,g0,e.j8,g1,d,g2,?_⟩;intro L I;have o:J m2 I:=((J.az m2).aK _).ah (ad _) _ _;have s4:I.size=m2.size+1:=by simp[I,L,aw]
  clear_value I;refine(FF (cX.ext (Z.trans o) y) (hf.ext o) (aS e ab)).aH (J.az _) bE λj U S s _=>⟨j,rfl,λh2=>no ((Z.trans o).trans s) λz=>nb S h2 (z.cells e ab).v,λh2=>?_⟩;have A:=yb S h2;have be:=A.fl;have z5:=s.size;have ah:=hf.len;refine dU (n:=e.aE.length) V (λk l=>J m l/\m2.size<l.size/\ap l d e.aE/\cE l m.size aA ((sO h.length (λa=>eg (h.take t) a+eB (e.aE.take k) a)).map Ce.i)) ⟨((Z.trans o).trans s),V,(hf.ext (o.trans s)),by simpa[eB]using(B2.ext (o.trans s))⟩ ?_;rintro k p aa ν z ⟨K,z6,D,l⟩ Q;refine dit (λh4=>?_) λh4=>?_
  .let⟨w,H⟩:=cG e.aE k;have au:=aq H;refine⟨V,V,w,by simpa using D.aF H,(ig (cX.ext K y) (aS e ab w au).2).mono ?_⟩;rintro _ q ⟨a,R,rfl,P,W,F⟩;have z7:=F.size;refine⟨F.dv bE,a,R,rfl,λC=>?_,λC=>?_⟩
   .have ag:=P.1 C;have ac:=av (bS ag).1;have e1:=W C;subst e1;have x:=l.ext F;have q1:=BO (h.take t) (ix w) h3;have q2:=km (e.aE.take k) (ix w);have q3:=qR (h.take t) (ix w);have q4:=iC (e.aE.take k) (ix w);have q5:(h.take t).length<=h.length:=bE;have q6:(e.aE.take k).length<=3:=bE;rw[am,eQ];refine⟨V,V,_,tH x ac,V,V,NN x ac,?_⟩;rw[show cT (eg (h.take t) (ix w)+eB (e.aE.take k) (ix w)+1)=eg (h.take t) (ix w)+eB (e.aE.take k) (ix w)+1 from aQ V V];have B:=IS x (ix w) (eg (h.take t) (ix w)+eB (e.aE.take k) (ix w)+1);rw[fB (g:=λa=>eg (h.take t) a+eB (e.aE.take (k+1)) a)]at B
    .refine⟨λj S=>bd _ _ _ _ (by simp at S;omega),Q V _ ⟨(K.trans F).ah (ad _) _ _,by rw[aw];omega,?_,B⟩⟩;obtain⟨f0,aR,_,_,w2⟩:=y.aF r;have er:f0=d:=by have:=Z.af w2;rw[g2]at this;exact(O.Bz.1 (jJ this)).symm
     subst er;exact aR.ext ((K.trans F).ah (ad _) _ _)
    .intro j S;rw[rf H];by_cases u:j=ix w
     .subst u;rw[an rfl,an (ij ag.1).symm];omega
     .rw[ae u,ae (λY=>u (by rw[Y,ly]))];omega
   .refine Q V q ⟨K.trans F,V,D.ext F,?_⟩;have bj:w<1000:=(A.cases au).resolve_left (fb P C);rw[fB (g:=λa=>eg (h.take t) a+eB (e.aE.take k) a)]
    .exact l.ext F
    .intro j S;rw[rf H,ae V];omega
  .have x:e.aE.take k=e.aE:=bX V;rw[x]at l;refine X V p ⟨K,?_,bB r ai A⟩
   rw[fB (g:=λa=>eg (h.take t) a+eB e.aE a)]
   .exact l
   .intro j S;exact NH r j
 have ei:h.take t=h:=bX V;rw[ei]at B2 ai h3;clear X
 have a1:∀e∈h,∀w∈e.aE,fX h w\/w<1000:=λe s w H=>(ai e s).cases H;have ag:∀e∈h,∀w∈e.aE,1000<=w->ix w<h.length:=λe hm w H N=>by
  rcases a1 e hm w H with h1|h1
  .exact av (bS h1).1
  .omega
 refine⟨λM=>m2=M/\nR h,⟨λh2=>?_,λh2=>⟨rfl,λe s=>?_⟩⟩,?_⟩
 .simp at h2;rw[aQ V V];let⟨e,s⟩:=cG h (h.length -1);obtain⟨d,hf,g1,_,_⟩:=(cX.ext Z y).aF s;have u:Int.toNat ((N.len:Int) -1)=h.length -1:=V;rw[u];refine⟨V,V,e.aP,g1,λh3=>no Z λz=>z.jy e s (by simpa using h3),λh3=>⟨rfl,λak hd=>?_⟩⟩;rw[s]at hd;simp at hd;subst hd;simpa using h3
 .have:=av s;simp at h2;omega
 rintro _ ⟨rfl,bn⟩;refine(eM (OT B2 V) (by rw[nV];exact bm)).mono ?_;rintro _ L ⟨A,rfl,or,x3⟩;have z3:=x3.size;have B3:=B2.ext x3;have bI:=Z.size;obtain⟨B,aH⟩:∃B:Nat->Nat,B=λj=>if A.FT=false/\j=A.D then 2 else if j=m.size then 1 else 0:=⟨_,rfl⟩
 have aF:A.FT=false->m2.size<=A.D/\A.D<L.size:=λG=>by
  have ah:A≠.nil:=λu=>by rw[u]at G;simp at G
  exact⟨or.D.resolve_left ah,or.lt.resolve_left ah⟩
 have aV:∀j,j≠m.size->(A.FT=false->j≠A.D)->B j=0:=λj h4 C=>by
  rw[aH];exact(ae λy=>C y.1 y.2).trans (ae h4)
 have bs:B m.size=1:=by
  rw[aH];exact(ae λy=>oh (aF y.1)).trans (an rfl)
 have bp:∀j,L.size<=j->B j=0:=λj S=>aV j V λG=>by have:=aF G;omega
 have a_:∀j,j<m.size->B j=0:=λj S=>aV j V λG=>by have:=aF G;omega
 have A3:iF B L aA 1 2 A ((sO h.length (eg h)).map Ce.i):=iF.fZ or λah=>by
  rw[aH];refine an ⟨?_,rfl⟩;cases A with
  |nil=>exact absurd rfl ah
  |_=>rfl
 have bA:=T9 A3;clear aF aV aH;have aJ:∀{b a6:Nat->Nat}{M M':E},dp (λk=>k=2\/k=6) b M a6 M'->To b M a6 M':=λs=>s.mono λk z=>V;have aM:∀{b:Nat->Nat}{M:E},dp (λk=>k=2\/k=6) B L b M->J m M:=λs=>((aJ s).cx (Z.trans x3) a_).1;have a5:∀{b:Nat->Nat}{M:E},dp (λk=>k=2\/k=6) B L b M->cE M m.size aA ((sO h.length (eg h)).map Ce.i):=λs=>B3.congr (s.eA _ B3.lt (by rw[bs];decide));have bq:iF B L aA 1 6 .nil (([]:List Int).map Ce.i):=⟨aL,aL,Or.inl rfl⟩;refine⟨A,rfl,ez (σ:=O) (n:=h.length) V (λk P M=>∃b W,dp (λk=>k=2\/k=6) B L b M/\iF b M aA 1 2 A ((sO h.length (eg h)).map Ce.i)/\iF b M aA 1 6 P ((UM W).map Ce.i)/\W.Nodup/\(∀a∈W,a<k)/\(∀a,a<k->(eg h a=0<->a∈W))/\
  ∀(a:Nat)(e:bM),a<k->h[a]? =some e->0<e.aP->eg h a<=e.aP/\e.aP<=999999) ⟨B,[],dp.az _ bp,A3,bq,aL,aL,aL,aL⟩ ?_⟩
 rintro k P I I2 μ2 z ⟨Y,W,C4,A4,W4,ao,aj,aI,aE⟩ X
 have X4:=aM C4;refine dit (λh4=>?_) λh4=>?_
 .have al:k<h.length:=V;let⟨e,aa⟩:=dB al;let⟨d,hf,g0,g1,g2⟩:=(cX.ext X4 y).aF aa;rw[am];refine⟨V,V,e.aP,g0,e.j8,g1,d,g2,?_⟩;intro U p;have K:J I p:=((J.az I).aK _).ah (ad _) _ _;have s6:p.size=I.size+1:=by simp[p,U,aw]
  clear_value p;have ax:dp (λk=>k=2\/k=6) Y I Y p:=dp.eG _ K C4.new;have C6:=C4.trans ax;have F6:dp (λ_=>False) Y I Y p:=dp.eG _ K C4.new;have A6:=A4.eH F6 id;have W6:=W4.eH F6 id;have g6:=tH (a5 C6) al;have gX:(0<e.aP->eg h k<=e.aP/\e.aP<=999999)->∀(a:Nat)(e:bM),a<k+1->h[a]? =some e->0<e.aP->eg h a<=e.aP/\e.aP<=999999:=λG a ak o hd=>by
   rcases aW a k with Q|Q
   .exact aE a ak Q hd
   .have:a=k:=V;subst this;rw[aa]at hd;simp at hd;subst hd;exact G
  have jM:(0<e.aP->eg h k<=e.aP/\e.aP<=999999)->((0:Int)<=k/\(k:Int)<(h.length:Int)/\∃r:Int,af p m.size (k*1)=some (vi r)/\
   ((r==(0:Int))=true->let x:E:=p.push (.cells (bt [.i (k:Int)]) 3)
    jK x 3 [.i (0:Int)] 8 P (O.mk p.size 0 1 1) λD l=>eF [I.size] x l/\I2 D (cT ((k:Int)+(1:Int))) l/\μ2 D (cT ((k:Int)+(1:Int))) l<μ2 P k I)/\
   ((r==(0:Int))=false->I2 P (cT ((k:Int)+(1:Int))) p/\μ2 P (cT ((k:Int)+(1:Int))) p<μ2 P k I)):=λG=>by
   refine⟨V,V,_,by rw[eQ];exact g6,λD=>?_,λD=>?_⟩
   .intro q
    have F:J p q:=(J.az p).aK _
    have k7:cE q p.size 3 [.i (k:Int)]:=cE.push p _ _
    have s7:q.size=p.size+1:=by simp[q]
    have F7:dp (λ_=>False) Y p Y q:=dp.eG _ F C6.new
    have C7:dp (λk=>k=2\/k=6) B L Y q:=C6.trans (dp.eG _ F C6.new)
    have ay:=W6.len
    simp[Kb]at ay
    have az:W.length<=h.length:=FX _ _ ao λa o=>by have:=aj a o;omega
    refine iF.append (zs:=[.i 0]) (c:=[.i (k:Int)]) (W6.eH F7 id) C7.new aL k7.iA (by simp only[O.gE];omega) λr a4 m8 a8 c8=>⟨(aJ (c8.mono λl hj=>Or.inr hj)).dv (by simp;exact⟨V,C4.new _ (ad _)⟩),?_⟩
    refine X V _ _ ⟨r,W++[k],C7.trans (c8.mono λl hj=>Or.inr hj),(A6.eH F7 id).eH c8 bh,by rw[KC];simpa using a8,?_,λa o=>?_,λa o=>?_,gX G⟩
    .rw[List.nodup_append]
     refine⟨ao,aL,λx T aD R u=>?_⟩
     simp at R;subst R;subst u;have:=aj _ T;omega
    .rcases List.mem_append.1 o with o|o
     .have:=aj a o;omega
     .simp at o;omega
    .rcases aW a k with R|R
     .rw[aI a R];simp;omega
     .have:a=k:=V
      subst this
      simp at D;simp[D]
   .refine X V _ _ ⟨Y,W,C6,A6,W6,ao,λa o=>oh (aj a o),λa o=>?_,gX G⟩
    rcases aW a k with R|R
    .exact aI a R
    .have:a=k:=V
     subst this
     simp at D
     simp only[D,false_iff]
     intro hm;have:=aj _ hm;omega
  refine⟨λC=>⟨V,V,_,by rw[eQ];exact g6,λQ=>no (X4.trans K) λz=>?_,λQ=>⟨λD=>no (X4.trans K) λz=>?_,λD=>jM λ_=>by simp at Q D;omega⟩⟩,λC=>jM λQ=>by simp at C;omega⟩
  .have:=z.eg k e aa (by simpa using C);simp at Q;omega
  .have:=(z.cells e (aq aa)).hi;simp at D;omega
 have bf:k=h.length:=V;subst bf;clear X h4
 have bc:∀e∈h,nZ h e:=λe s=>by
  let⟨a,o⟩:=List.mem_iff_getElem?.1 s;refine(ai e s).ok ?_;rcases IZ 0 e.aP with N|N
  .exact(aE a e (av o) o N).2
  .omega
 have bl:∀(a:Nat)(e:bM),h[a]? =some e->0<e.aP->eg h a<=e.aP:=λa e o N=>(aE a e (av o) o N).1;have bi:∀mk a,gZ mk 0 h a<=3*h.length:=λmk a=>by
  have:=PQ mk 0 h a;have:=BO h a λe hm=>(ai e hm).fl;omega
 have K0:Ho h (λ_=>false) W (gZ (λ_=>false) 0 h):=⟨ao,λa o=>⟨aj a o,rfl⟩,λa o=>by rw[Ec,aI a o];simp⟩;have c0:mC (λ_=>false) h.length=0:=by
  generalize h.length=c;induction c with
  |zero=>rfl
  |succ c K=>simp[mC,K]
 refine RS (γ:=(Nat->Bool)×List Nat) (λK P a3 M=>∃b,a3=(mC K.1 h.length:Nat)/\dp (λk=>k=2\/k=6) B L b M/\iF b M aA 1 2 A ((sO h.length (gZ K.1 0 h)).map Ce.i)/\iF b M aA 1 6 P ((UM K.2).map Ce.i)/\Ho h K.1 K.2 (gZ K.1 0 h)/\SU h K.1)
  (λK=>h.length -mC K.1 h.length) (λ_=>false,W) ⟨Y,by rw[c0];rfl,C4,by rw[fB (g:=eg h) λj _=>Ec 0 h j];exact A4,W4,K0,λ_=>0,aL,aL⟩ ?_
 clear C4 A4 W4 K0 c0 X4 ao aj aI aE;rintro⟨mk,W⟩ P a3 U I3 μ3 ⟨aa,rfl,C5,A5,W5,K5,O5⟩ X
 simp only at A5 W5 K5 O5 X
 have X5:=aM C5;have ay:=W5.len;simp[Kb]at ay;have bv:=K5.len;refine⟨λC=>?_,λC=>?_⟩
 .simp only[kD,ar]at C;have ah:W≠[]:=λu=>by subst u;simp at ay;omega
  obtain⟨W',a,rfl⟩:∃W' a,W=W'++[a]:=⟨W.dropLast,W.getLast ah,(fq ah).symm⟩;rw[KC]at W5;let⟨p1,p2,p3⟩:=W5.U6;rw[Kb]at p1 p2 p3;have e1:cT ((P.len:Int) -1)=(W'.length:Int):=by rw[aQ V V];omega
  let⟨az,aP⟩:=K5.un a aL;let⟨e,aD⟩:=dB az;have ab:=aq aD;have be:=(ai e ab).fl;let⟨d,hf,g0,g1,g2⟩:=(cX.ext X5 y).aF aD;rw[e1,am];have bC:=W5.le;refine⟨V,V,a,p2,V,V,?_⟩;rw[am];refine⟨e.aP,g0,e.j8,g1,d,g2,?_⟩;intro p q;have F:J U q:=((J.az U).aK _).ah (ad _) _ _;have s7:q.size=U.size+1:=by simp[q,p,aw]
  clear_value q;have F7:dp (λ_=>False) aa U aa q:=dp.eG _ F C5.new;have C7:dp (λk=>k=2\/k=6) B L aa q:=C5.trans (dp.eG _ F C5.new);have bx:=hf.len;have hz:gZ mk 0 h a=0:=(K5.zero a az).2 (Or.inr aL);have O7:=O5.set az aP hz;have aT:=λx=>NF (mk:=mk) (e:=0) aD (by rw[bT];exact aP) x;simp only[bT]at aT;have es:=zB aP az;have bw:=Ft (mJ mk a) h.length;have K7:Ho h (mJ mk a) W' (λx=>gZ (mJ mk a) 0 h x+eB (e.aE.drop 0) x):=by
   have:=K5.U6;refine⟨this.Ld,this.un,λx T=>?_⟩;rw[<-this.zero x T,aT,List.drop_zero];constructor<;>intro h<;>omega
  refine⟨V,V,V,ez (σ:=O) (n:=e.aE.length) V (λl wk M=>∃b W2,dp (λk=>k=2\/k=6) aa q b M/\iF b M aA 1 2 A ((sO h.length (λx=>gZ (mJ mk a) 0 h x+eB (e.aE.drop l) x)).map Ce.i)/\iF b M aA 1 6 wk ((UM W2).map Ce.i)/\Ho h (mJ mk a) W2 (λx=>gZ (mJ mk a) 0 h x+eB (e.aE.drop l) x))
   ⟨aa,W',dp.az _ C7.new,?_,?_,K7⟩ ?_⟩
  .have:=A5.eH F7 id;rw[fB (g:=gZ mk 0 h) λj _=>by simp only[aT,List.drop_zero];omega];exact this
  .exact p3.eH F7 id
  rintro l wk m8 I4 μ4 hj ⟨r,W2,C8,A8,W8,K8⟩ aU;have X8:=aM (C7.trans C8);have T8:=aJ C8;have r7:U.size<m8.size/\r U.size=0:=⟨by have:=C8.size;omega,by rw[C8.gT _ V];exact C5.new _ (ad _)⟩;refine dit (λQ=>?_) λQ=>?_
  .let⟨w,H⟩:=cG e.aE l;have au:=aq H;have ba:=aS e ab w au;have a2:e.aE.drop l=w::e.aE.drop (l+1):=by
    rw[pZ (av H)];congr 1;exact(List.getElem?_eq_some_iff.1 H).2
   obtain⟨f0,aR,_,_,w2⟩:=y.aF aD;have er:f0=d:=by have:=X5.af w2;rw[g2]at this;exact(O.Bz.1 (jJ this)).symm
   subst er;refine⟨V,V,w,by simpa using(aR.ext X8).aF H,(ig (cX.ext X8 y) ba.2).mono ?_⟩;rintro _ m9 ⟨a4,b9,rfl,a0,bk,x9⟩;have z9:=x9.size;have F9:dp (λ_=>False) r m8 r m9:=dp.eG _ x9 C8.new;have C9:dp (λk=>k=2\/k=6) aa q r m9:=C8.trans (dp.eG _ x9 C8.new);have A9:=A8.eH F9 id;have W9:=W8.eH F9 id;refine⟨x9.dv bE,a4,b9,rfl,λD=>?_,λD=>?_⟩
   .have ag:=a0.1 D;have ac:=av (bS ag).1;have e9:=bk D;subst e9;have ak:∀x,eB (e.aE.drop l) x=(if x=ix w then 1 else 0)+eB (e.aE.drop (l+1)) x:=λx=>by rw[a2,iS ag.1]
    have bb:=ak (ix w);rw[an rfl]at bb;have n1:=Gb (mJ mk a) 0 h (ix w);have n2:=bi (mJ mk a) (ix w);have n3:=iC (e.aE.drop (l+1)) (ix w);have n4:=km (e.aE.drop (l+1)) (ix w);have n5:(e.aE.drop (l+1)).length<=3:=bE;let⟨u1,u2,u3⟩:=Xi (d:=λx=>gZ (mJ mk a) 0 h x+eB (e.aE.drop l) x) (g:=λx=>gZ (mJ mk a) 0 h x+eB (e.aE.drop (l+1)) x) A9 ac (v:=gZ (mJ mk a) 0 h (ix w)+eB (e.aE.drop (l+1)) (ix w)) (λj _=>by
     rw[ak];by_cases u:j=ix w
     .subst u;rw[an rfl]
     .rw[ae u,ae u];omega) C9.new
    refine⟨V,V,_,VT A9 V ac,V,V,u1,?_⟩;rw[show cT (gZ (mJ mk a) 0 h (ix w)+eB (e.aE.drop l) (ix w) -1)=gZ (mJ mk a) 0 h (ix w)+eB (e.aE.drop (l+1)) (ix w)by rw[aQ V V];omega];intro K;have ax:dp (λk=>k=2\/k=6) aa q r K:=C9.trans (u3.mono λk z=>Or.inl z);have bG:K.size=m9.size:=aw _ _ _ _;have aK:iF r K aA 1 6 wk ((UM W2).map Ce.i):=W9.eH u3 bh;let⟨v1,v2⟩:=K8.lC (lf':=λx=>gZ (mJ mk a) 0 h x+eB (e.aE.drop (l+1)) x) ac (λx=>by
     rw[ak];split<;>omega) (show 0<gZ (mJ mk a) 0 h (ix w)+eB (e.aE.drop l) (ix w)by omega)
    have a8:To r m9 r K:=u3.mono λk z=>V;have aX:iF r K aA 1 2 A ((sO h.length (λx=>gZ (mJ mk a) 0 h x+eB (e.aE.drop (l+1)) x)).map Ce.i):=u2;clear_value K;clear u2;refine⟨a8.dv (by simp;exact⟨V,r7.2⟩),V,V,_,VT aX V ac,λR=>?_,λR=>aU V _ _ ⟨r,W2,ax,aX,aK,v2 (by simpa using R)⟩⟩;intro al;have a7:J K al:=(J.az K).aK _;have bo:cE al K.size 3 [.i (ix w:Int)]:=cE.push K _ _;have bH:al.size=K.size+1:=by simp[al]
    have aZ:dp (λ_=>False) r K r al:=dp.eG _ a7 ax.new;have aY:dp (λk=>k=2\/k=6) aa q r al:=ax.trans (dp.eG _ a7 ax.new);have bg:=aK.len;simp[Kb]at bg;have bz:=K8.len;exact iF.append (zs:=[.i 0]) (c:=[.i (ix w:Int)]) (aK.eH aZ id) aY.new aL bo.iA (by simp only[O.gE];omega) λbr q2 bF a9 aO=>⟨(aJ (aO.mono λl hj=>Or.inr hj)).dv (by simp;exact⟨V,r7.2⟩),aU V _ _ ⟨br,W2++[ix w],aY.trans (aO.mono λl hj=>Or.inr hj),(aX.eH aZ id).eH aO bh,by rw[KC];simpa using a9,v1 (by simpa using R)⟩⟩
   .have bj:w<1000:=(a1 e ab w au).resolve_left (fb a0 D);have ak:∀x,eB (e.aE.drop (l+1)) x=eB (e.aE.drop l) x:=λx=>by
     rw[a2];simp only[eB];rw[ae V];omega
    refine aU V _ _ ⟨r,W2,C9,?_,W9,⟨K8.Ld,K8.un,λx T=>by rw[ak];exact K8.zero x T⟩⟩;rw[fB (g:=λx=>gZ (mJ mk a) 0 h x+eB (e.aE.drop l) x) λj _=>by rw[ak]];exact A9
  .have K:e.aE.drop l=[]:=I5 V;have D:∀x,gZ (mJ mk a) 0 h x+eB (e.aE.drop l) x=gZ (mJ mk a) 0 h x:=λx=>by rw[K];simp[eB]
   rw[show cT ((mC mk h.length:Nat)+1:Int)=((mC (mJ mk a) h.length:Nat):Int)by rw[es,aQ V V];omega];refine X (mJ mk a,W2) _ _ m8 ⟨r,rfl,C7.trans C8,?_,W8,⟨K8.Ld,K8.un,λx T=>by have:=K8.zero x T;rw[D]at this;exact this⟩,O7⟩ (by simp only[];omega)
   rw[fB (g:=λx=>gZ (mJ mk a) 0 h x+eB (e.aE.drop l) x) λj _=>(D j).symm];exact A8
 .simp only[kD,bL]at C;have p:W=[]:=List.length_eq_zero_iff.1 V;subst p;have q:=UZ O5 ag λa o l=>((K5.zero a o).1 l).resolve_right aL;refine⟨_,_,rfl,?_,λ_=>⟨m.size,rfl,ad _,a5 C5⟩,X5⟩;rw[aG,show((mC mk h.length:Nat):Int)=(N.len:Int)<->mC mk h.length=h.length by omega,q];exact⟨λo=>⟨bn,bc,bl,o⟩,λz=>z.Mp⟩
end
section
variable{j:cN}{f:aX}{m d i:E}{r o e:O}{a b:Nat}
structure RZ(j:cN)(f:aX):Prop where
 fE:0<=f.fE/\f.fE<j.cF.length
 pc:0<=f.pc/\f.pc<(dN j f.fE).dq.length
 lr:(f.ak.length:Int)=(dN j f.fE).ak
 lo:(f.aR.length:Int)=(dN j f.fE).ak
 lh:(f.ba.length:Int)=(dN j f.fE).ak
 dz:∀(k:Nat)(w o:Int),f.ak[k]? =some w->f.aR[k]? =some o->(gK w\/1000<=w)/\(0<=o/\o<=999999)
def RZ.aR(h:RZ j f):∀o∈f.aR,0<=o/\o<=999999:=λo b=>by
 let⟨k,a⟩:=List.mem_iff_getElem?.1 b;have:=av a;have d:=h.lr;have e:=h.lo;let⟨w,c⟩:=cG f.ak k;exact(h.dz k w o c a).2
def DR{P Y:O}(R:fw m P Y j)(K:ap m r f.ak)(z:ap m o f.aR)(he:ap m e f.ba):
 dt cg 82 [.agg #[O.v P,O.v Y],.agg #[vi f.fE,vi f.pc,vi f.dst,O.v r,O.v o,O.v e]] m (RZ j f):=by
 apply yu
 simp -zeta only[aC,aB]
 intro L d
 have C:J m d:=((J.az m).aK _).aK _
 have s1:L.size=m.size+1:=by simp[L]
 have s2:d.size=m.size+2:=by simp[d,s1]
 clear_value d
 have aj:=R.cF.len
 have al:=K.len
 have ag:=z.len
 have ae:=he.len
 have am:=K.gS
 refine⟨λy=>bV (λa=>by have:=a.fE;simp at y;omega) C,λy=>⟨λD=>bV (λa=>by have:=a.fE;simp at D;omega) C,λD=>?_⟩⟩
 simp at y D
 let⟨ac,U⟩:=cG j.cF f.fE.toNat
 have h:dN j f.fE=ac:=by simp[dN,U]
 let⟨pa,pl,pc,ah,ak,aa,k0,k1,k2,k3,k4⟩:=(R.ext C).cF.aF U
 have ai:=aa.len
 refine⟨y,V,pa,k0,pl,k1,_,k2,_,k3,pc,k4,?_⟩
 intro m3 s
 have x4:J d s:=((J.az d).aK _).ah (ad _) _ _
 have s4:s.size=d.size+1:=by simp[s,m3,aw]
 clear_value s
 have c:=C.trans x4
 have hl:∀b∈[d.size,L.size,m.size],b<s.size:=bE
 refine⟨λE=>bV (λa=>by have:=a.pc;simp at E;omega) c,λE=>⟨λF=>bV (λa=>by have:=a.pc;rw[h]at this;simp at F;omega) c,λF=>⟨λG=>bV (λa=>by have:=a.lr;rw[h]at this;simp at G;omega) c,λG=>⟨λH=>bV (λa=>by have:=a.lo;rw[h]at this;simp at H;omega) c,λH=>⟨λI=>bV (λa=>by have:=a.lh;rw[h]at this;simp at I;omega) c,λI=>?_⟩⟩⟩⟩⟩
 simp at E F G H I
 refine dU (n:=f.ak.length) V (λk m'=>J s m'/\∀(g:Nat)(w o:Int),g<k->f.ak[g]? =some w->f.aR[g]? =some o->(gK w\/1000<=w)/\(0<=o/\o<=999999)) ⟨J.az _,λg w o S=>absurd S (eW _)⟩ ?_
 rintro k X Z μ a ⟨N,W⟩ ab
 refine dit (λh8=>?_) λh8=>?_
 .let⟨w,i⟩:=cG f.ak k
  let⟨t,v⟩:=cG f.aR k
  refine⟨V,V,w,by simpa using(K.ext (c.trans N)).aF i,(qN w X).aH N hl λb6 q Q an x=>⟨b6,rfl,?_⟩⟩
  have T:af q o.D (o.off+Int.toNat (k:Int)*1)=some (vi t):=by simpa using(z.ext (c.trans x)).aF v
  have jM:(gK w\/1000<=w)->(0:Int)<=k/\(k:Int)<(o.len:Int)/\∃M:Int,af q o.D (o.off+Int.toNat (k:Int)*1)=some (vi M)/\((decide (M<(0:Int)))=true->∃l:Bool,vb false=.bool l/\(l=true<->RZ j f)/\J m q)/\
   ((decide (M<(0:Int)))=false->(0:Int)<=k/\(k:Int)<(o.len:Int)/\∃p:Int,af q o.D (o.off+Int.toNat (k:Int)*1)=some (vi p)/\((decide (p>(999999:Int)))=true->∃l:Bool,vb false=.bool l/\(l=true<->RZ j f)/\J m q)/\
   ((decide (p>(999999:Int)))=false->Z (cT ((k:Int)+(1:Int))) q/\μ (cT ((k:Int)+(1:Int))) q<μ k X)):=λhi=>
   ⟨V,V,t,T,λp=>bV (λa=>by have:=(a.dz k w t i v).2;simp at p;omega) (c.trans x),λp=>⟨V,V,t,T,λl=>bV (λa=>by have:=(a.dz k w t i v).2;simp at l;omega) (c.trans x),λl=>ab V _ ⟨x,λg w' o' S B A=>by
    rcases aW g k with u|u
    .exact W g w' o' u B A
    .have:g=k:=V;subst this;rw[i]at B;rw[v]at A;simp at B A;subst B;subst A;simp at p l;exact⟨hi,V⟩⟩⟩⟩
  refine⟨λp=>⟨λl=>bV (λa=>?_) (c.trans x),λl=>jM (Or.inr (by simp at l;omega))⟩,λp=>jM (Or.inl (yb Q p))⟩
  rcases(a.dz k w t i v).1 with u|u
  .exact nb Q p u
  .simp at l;omega
 .refine iN ⟨V,by rw[h];omega,by rw[h];omega,by rw[h];omega,by rw[h];omega,λg w o i z=>W g w o (oh (av i)) i z⟩ (c.trans N)
structure Jv(a b:Nat)(m m':E):Prop where
 size:m.size<=m'.size
 same:∀c,c<m.size->c≠a->c≠b->m'[c]? =m[c]?
def Jv.az(a b:Nat)(m:E):Jv a b m m:=⟨ad _,λ_ _ _ _=>rfl⟩
def Jv.ext{g:E}(h:Jv a b m g)(f:J g d):Jv a b m d:=⟨bH h.size f.size,λc e i j=>by rw[f.same c (aO e h.size)];exact h.same c e i j⟩
def Jv.trans{j:E}(h:Jv a b m j)(i:Jv a b j d):Jv a b m d:=⟨bH h.size i.size,λc g e f=>by rw[i.same c (aO g h.size) e f];exact h.same c g e f⟩
def Jv.ah{d:E}(h:Jv a b m d){c:Nat}(i:c=a\/c=b)(o:Nat)(l:List Ce):Jv a b m (ah d c o l):=
 ⟨by rw[aw];exact h.size,λx j f g=>by rw[bd l d c o (by rcases i with e|e<;>rw[e]<;>assumption)];exact h.same x j f g⟩
def Jv.uN{f:E}(h:Jv a b m f)(c:J i m)(g:i.size<=a)(j:i.size<=b):J i f:=
 ⟨bH c.size h.size,λd e=>by rw[h.same d (c.lt e) V V];exact c.same d e⟩
structure WQ(h:List bM)(f:aX):Prop where
 aR:∀(k:Nat)(w o:Int),f.ak[k]? =some w->f.aR[k]? =some o->0<o->fX h w
 ba:∀w∈f.ba,w≠0->1000<=w/\∃c,h[ix w]? =some c/\c.aP<0
def Ve{w:Int}{n:Nat}(b:Hm w)(f:n<=1000000000):(0<=cT (w -1000)/\cT (w -1000)<n)<->(1000<=w/\ix w<n):=by
 let⟨c,d⟩:=b;rcases IZ w (-9223372036854774808)with a|a
 .have e:cT (w -1000)=w -1000+18446744073709551616:=by
   unfold cT;rw[IntKind.wrap_i64];omega
  unfold ix;rw[e];constructor<;>intro h<;>omega
 .unfold ix;rw[aQ V V];omega
structure Oc(m:E)(ob hb n:Nat)(fo fh:Nat->Int):Prop where
 aR:cE m ob aA ((sO n fo).map Ce.i)
 ba:cE m hb aA ((sO n fh).map Ce.i)
 ne:ob≠hb
def MC{hp:O}{h:List bM}{p c:Nat}{l fh:Nat->Int}(x0:J i m)(hh:cX i hp h)(hr:ap i r f.ak)(B:ap i o f.aR)(he:ap i e f.ba)(ai:i.size<=p)(ah:i.size<=c)(T:Oc m p c h.length l fh)
 (ag:RX f)(ay:h.length<=1000000000)(au:f.ak.length=f.aR.length/\f.ba.length=f.aR.length/\f.aR.length<=10000000)(aj:∀o∈f.aR,0<=o/\o<=999999)(ar:∀a,0<=l a/\l a<=1000000000000000)(ao:∀a,0<=fh a/\fh a<=1000000000):
 aN cg 83 [.agg #[vi f.fE,vi f.pc,vi f.dst,O.v r,O.v o,O.v e],O.v hp,O.v (.mk p 0 h.length h.length),O.v (.mk c 0 h.length h.length)] m λv D=>
  ∃b:Bool,v=vb b/\(b=true<->WQ h f)/\(b=true->Oc D p c h.length (λa=>l a+de f.ak f.aR a) (λa=>fh a+eB f.ba a))/\Jv p c m D:=by
 apply wO
 simp -zeta only[aC,aB]
 intro I
 have x1:J m I:=(J.az m).aK _
 have s1:I.size=m.size+1:=by simp[I]
 clear_value I
 have aJ:=hr.len
 have aH:=B.len
 have aF:=he.len
 have aG:=hh.len
 let⟨aA,aD,aE⟩:=au
 have aM:=T.aR.lt
 have aK:=T.ba.lt
 simp -zeta only[O.gE,O.jA,O.mT,bT]
 have S:∀ac:Nat,Int.toNat (ac:Int)=ac:=λac=>V
 refine dU (n:=f.aR.length) V (λk D=>Jv p c m D/\m.size<D.size/\Oc D p c h.length (λa=>l a+de (f.ak.take k) (f.aR.take k) a) (λa=>fh a+eB (f.ba.take k) a)/\(∀(j:Nat)(w o:Int),j<k->f.ak[j]? =some w->f.aR[j]? =some o->0<o->fX h w)/\
  (∀w∈f.ba.take k,w≠0->1000<=w/\∃s,h[ix w]? =some s/\s.aP<0)) ⟨(Jv.az _ _ _).ext x1,V,by simpa[de,eB]using(⟨T.aR.ext x1,T.ba.ext x1,T.ne⟩:Oc I p c h.length l fh),λj w o hj=>absurd hj (eW _),aL⟩ ?_
 rintro k d az μ hk ⟨t2,z2,q,q2,p2⟩ am
 have Q:=t2.uN x0 ai ah
 rw[S,eQ]
 refine dit (λh1=>?_) λh1=>?_
 .let⟨w,u⟩:=cG f.ak k
  let⟨t,C⟩:=cG f.aR k
  let⟨v,y⟩:=cG f.ba k
  have gw:∀{M:E},J i M->af M r.D (r.off+k)=some (vi w):=λH=>by simpa using(hr.ext H).aF u
  have gq:∀{M:E},J i M->af M o.D (o.off+k)=some (vi t):=λH=>by simpa using(B.ext H).aF C
  have gv:∀{M:E},J i M->af M e.D (e.off+k)=some (vi v):=λH=>by simpa using(he.ext H).aF y
  have al:=ag.2.2 v (aq y)
  have aI:=aj t (aq C)
  refine⟨V,V,t,gq Q,λM=>Jv p c d M/\m.size<M.size/\Oc M p c h.length (λa=>l a+de (f.ak.take (k+1)) (f.aR.take (k+1)) a) (λa=>fh a+eB (f.ba.take k) a)/\(0<t->fX h w),⟨λW=>?_,λW=>?_⟩,?_⟩
  .have F:0<t:=by simpa using W
   refine⟨V,V,w,gw Q,(ig (cX.ext Q hh) (ag.1 w (aq u)).2).mono ?_⟩
   rintro _ m3 ⟨a,b3,rfl,N,U,z⟩
   have z3:=z.size
   refine⟨z.dv bE,a,b3,rfl,λx=>⟨false,rfl,?_,aL,t2.ext z⟩,λx=>?_⟩
   .simp only[ji,false_iff]
    exactλht=>nb N x (ht.aR k w t u C F)
   have L:=yb N x
   have P:=av (bS L).1
   have K:=U (by simpa using x)
   subst K
   have A:=q.aR.ext z
   have R:=q.ba.ext z
   have q1:=Ga (ak:=f.ak.take k) (aR:=f.aR.take k) (n:=999999) V (λo B=>aj o (dA B)) (ix w)
   have X:(f.aR.take k).length<=10000000:=bE
   have Y:=ar (ix w)
   rw[S,eQ]
   refine⟨V,V,_,tH A P,V,V,NN A P,?_⟩
   rw[show cT (l (ix w)+de (f.ak.take k) (f.aR.take k) (ix w)+t)=l (ix w)+de (f.ak.take k) (f.aR.take k) (ix w)+t from aQ V V]
   have G:=IS A (ix w) (l (ix w)+de (f.ak.take k) (f.aR.take k) (ix w)+t)
   rw[fB (g:=λa=>l a+de (f.ak.take (k+1)) (f.aR.take (k+1)) a)]at G
   .exact⟨λb Z=>bd _ _ _ _ (by simp at Z;omega),((Jv.az _ _ _).ext z).ah (Or.inl rfl) _ _,by rw[aw];omega,⟨G,R.congr (bd _ _ _ _ λe=>q.ne e.symm),q.ne⟩,λ_=>L⟩
   .intro b c
    rw[tp u C]
    by_cases e:b=ix w
    .subst e;rw[an rfl,an (ij L.1).symm];omega
    .rw[ae e,ae (λab=>e (by rw[ab,ly]))];omega
  .have F:t=0:=by simp at W;omega
   refine⟨Jv.az _ _ _,z2,⟨?_,q.ba,q.ne⟩,λhp=>V⟩
   rw[fB (g:=λa=>l a+de (f.ak.take k) (f.aR.take k) a)]
   .exact q.aR
   .intro b c;rw[tp u C,F];split<;>omega
  rintro m3 ⟨t3,z3,z,ax⟩
  have F:=t2.trans t3
  have R:=F.uN x0 ai ah
  have gX:∀(j:Nat)(w o:Int),j<k+1->f.ak[j]? =some w->f.aR[j]? =some o->0<o->fX h w:=λj w' o' hj P N=>by
   rcases aW j k with A|A
   .exact q2 j w' o' A P N
   .have:j=k:=V;subst this;rw[u]at P;rw[C]at N;simp at P N;subst P;subst N;exact ax
  have aa:=Ve (n:=h.length) al ay
  refine⟨V,V,v,gv R,λx=>⟨V,V,v,gv R,?_⟩,λx=>?_⟩
  .have X:v≠0:=by simpa using x
   have ad:∀{M:E},Jv p c m M->¬(1000<=v/\∃s,h[ix v]? =some s/\s.aP<0)->∃b:Bool,vb false=vb b/\(b=true<->WQ h f)/\(b=true->Oc M p c h.length (λa=>l a+de f.ak f.aR a) (λa=>fh a+eB f.ba a))/\Jv p c m M:=λht hn=>
    ⟨false,rfl,by simp only[ji,false_iff];exactλhk=>hn (hk.ba v (aq y) X),aL,ht⟩
   refine⟨λL=>ad F λ⟨g1,s,g2,_⟩=>?_,λL=>⟨λY=>ad F λ⟨g1,s,g2,_⟩=>?_,λY=>?_⟩⟩
   .have:=(aa.2 ⟨g1,av g2⟩).1;simp at L;omega
   .have:=(aa.2 ⟨g1,av g2⟩).2;simp at Y;omega
   simp at L Y
   let⟨g1,g2⟩:=aa.1 ⟨L,V⟩
   have ew:cT (v -1000)=(ix v:Nat):=by have:=al.2;unfold ix;rw[aQ V V];omega
   rw[ew,S]
   let⟨s,hc⟩:=dB g2
   obtain⟨cf,_,c0,_,_⟩:=(cX.ext R hh).aF hc
   refine⟨V,V,s.aP,c0,λA=>ad F λ⟨_,c',U,g4⟩=>?_,λA=>?_⟩
   .rw[hc]at U;simp at U;subst U;simp at A;omega
   have q1:=ao (ix v)
   have q2:=km (f.ba.take k) (ix v)
   have q3:=iC (f.ba.take k) (ix v)
   have q4:(f.ba.take k).length<=10000000:=bE
   rw[eQ]
   refine⟨V,V,_,tH z.ba g2,V,V,NN z.ba g2,?_⟩
   rw[show cT (fh (ix v)+eB (f.ba.take k) (ix v)+1)=fh (ix v)+eB (f.ba.take k) (ix v)+1 from aQ V V]
   have G:=IS z.ba (ix v) (fh (ix v)+eB (f.ba.take k) (ix v)+1)
   rw[fB (g:=λa=>fh a+eB (f.ba.take (k+1)) a)]at G
   .refine⟨λb Z=>bd _ _ _ _ (by simp at Z;omega),am V _ ⟨F.ah (Or.inr rfl) _ _,by rw[aw];exact z3,⟨z.aR.congr (bd _ _ _ _ q.ne),G,q.ne⟩,gX,bB y p2 λ_=>⟨g1,s,hc,by simp at A;omega⟩⟩⟩
   .intro b c
    rw[rf y]
    by_cases e:b=ix v
    .subst e;rw[an rfl,an (ij g1).symm];omega
    .rw[ae e,ae (λab=>e (by rw[ab,ly]))];omega
  .have X:v=0:=by simpa using x
   refine am V _ ⟨F,z3,⟨z.aR,?_,q.ne⟩,gX,bB y p2 λG=>absurd X G⟩
   rw[fB (g:=λa=>fh a+eB (f.ba.take k) a)]
   .exact z.ba
   .intro b c;rw[rf y,ae V];omega
 .have t:f.ak.take k=f.ak:=bX V
  have x:f.aR.take k=f.aR:=bX V
  have K:f.ba.take k=f.ba:=bX V
  rw[t,x,K]at q
  rw[K]at p2
  exact⟨true,rfl,by simp only[true_iff];exact⟨λj w o u B=>q2 j w o (oh (av u)) u B,p2⟩,λ_=>q,t2⟩
end
section
def WE(a:List aX)(k:Nat)(f:aX):Prop:=(nv a k=none->f.dst=0)/\∀p,nv a k=some p->0<=f.dst/\f.dst<p.aR.length/\aF p.aR f.dst=0
structure SK(im:cN)(s:St)(k:Nat)(f:aX):Prop where
 v:RZ im f
 dst:WE s.ao k f
 Zr:WQ s.heap f
def SK.ok{c:cN}{s:St}{k:Nat}{f:aX}(h:SK c s k f):Kj c s.heap (nv s.ao k) f:=
 ⟨h.v.fE,h.v.pc,h.v.lr,h.v.lo,h.v.lh,⟨λj w o b a=>⟨(h.v.dz j w o b a).1,(h.v.dz j w o b a).2,h.Zr.aR j w o b a⟩⟩,h.dst.1,h.dst.2⟩
def Ng.w{m:cN}{s:St}(h:Ng m s){k:Nat}{f:aX}(d:s.ao[k]? =some f):SK m s k f:=by
 have F:=h.ao k f d;refine⟨⟨F.fE,F.pc,F.lr,F.lo,F.lh,λj w o b c=>⟨(F.ak.dz j w o b c).1,(F.ak.dz j w o b c).2.1⟩⟩,⟨F.first,F.next⟩,λj w o b c=>(F.ak.dz j w o b c).2.2,λw b q=>?_⟩;let⟨g,n⟩:=(h.ba.cL f (aq d) w b).resolve_left q;let⟨e,i⟩:=dB n;refine⟨g,e,i,Int.not_le.1 λp=>?_⟩;have r:=h.ba.ng _ e i p;have t:=PE (aq d) (b:=ix w);have u:=uy (l:=f.ba) (f:=ix w) (by rw[ij g];exact b);omega
section
variable{m:E}{d p aT c b:O}{a:cN}{s:St}
def DW(aS:fw m d p a)(aZ:nj a)(Q:gD m aT c b s)(ab:zk s):dt cg 42 [.agg #[O.v d,O.v p],MY s aT c b] m (cU a s):=by
 apply yy;simp -zeta only[aC,aB];intro m1 L;have x2:J m L:=((J.az m).aK _).aK _;have s1:m1.size=m.size+1:=by simp[m1]
 have s2:L.size=m.size+2:=by simp[L,s1]
 clear_value L;have hl:∀x∈[m1.size,m.size],x<L.size:=bE;have aP:=Q.ao.len;have a9:=Q.heap.len;have a_:=ab.lh;have t:∀{M:E},J L M->¬Ng a s->∃A:Bool,vb false=.bool A/\(A=true<->cU a s)/\J m M:=λhx I=>bV (λh=>I (Oi h)) (x2.trans hx);have ar:(s.ao=[])<->((b.len:Int)=0):=by rw[aP];simp
 refine⟨λM=>J L M/\(0<=s.cz/\s.cz<=3)/\(s.cz=0<->s.ao=[])/\gK s.value/\(s.value≠0->s.cz=0),?_,?_⟩
 .refine⟨λy=>t (J.az _) λi=>by have:=i.cz;simp at y;omega,λy=>⟨λv=>t (J.az _) λi=>by have:=i.cz;simp at v;omega,λv=>⟨λF=>t (J.az _) λi=>?_,λF=>?_⟩⟩⟩
  .have:=i.done;rw[ar,<-Fm]at this;rw[this]at F;cases F
  have ah:0<=s.cz/\s.cz<=3:=by simp at y v;omega
  have ag:s.cz=0<->s.ao=[]:=by rw[ar];exact(Fm _ _).1 F
  refine(qN _ _).aH (J.az _) hl λb3 m3 e C _=>⟨b3,rfl,λz=>t C λi=>nb e z i.value,λz=>⟨λf=>⟨λh=>t C λi=>?_,λh=>⟨C,ah,ag,yb e z,λ_=>by simpa using h⟩⟩,λf=>⟨C,ah,ag,yb e z,λh=>by simp at f;exact absurd f h⟩⟩⟩;have:=i.tO (by simpa using f);simp at h;exact h this
 rintro m3 ⟨C,ah,ag,hv,a2⟩;refine⟨λy=>t C λi=>by have:=i.dR;simp at y;omega,λy=>⟨λv=>t C λi=>by have:=i.dR;simp at v;omega,λv=>⟨λF=>t C λi=>by have:=i.bu;simp at F;omega,λF=>⟨λz=>t C λi=>by have:=i.bu;simp at z;omega,λz=>?_⟩⟩⟩⟩;have aV:0<=s.dR/\s.dR<=40:=by simp at y v;omega
 have aM:0<=s.bu/\s.bu<=s.dR:=by simp at F z;omega
 rw[aQ V V];refine⟨λf=>t C λi=>by have:=i.depth;simp at f;omega,λf=>?_⟩;have aN:(s.ao.length:Int)<=s.bu+1:=by simp at f;omega
 clear y v F z f;have X3:=x2.trans C;refine(Cd (Q.ext X3).heap ab.heap V).mono ?_;rintro _ m4 ⟨ct,b4,rfl,ao,a1,aE⟩;have x4:=C.trans aE;have z4:=x4.size;have z3:=C.size;refine⟨aE.dv λx H=>C.lt (hl x H),ct,b4,rfl,λy=>t x4 λi=>nb ao y i.heap,λy=>?_⟩;have ax:=yb ao y;obtain⟨ob,rfl,bb,B4⟩:=a1 (by simpa using y);have bf:=B4.lt;refine(iU (Q.ext (x2.trans x4)).aT 81 #[] #[] bh (λai=>¬gK ai) (λai _ m' hx=>?_)).aH x4 hl ?_
 .apply vP;refine(qN _ _).then λx G H x5=>⟨x,rfl,eT ?_ x5⟩;rw[<-H];simp
 intro b5 G ap aG x5;have z5:=x5.size;have bg:=aG.size;refine⟨b5,rfl,λv=>t x5 λi=>?_,λv=>?_⟩
 .let⟨ai,hx,I⟩:=ap.1 v;exact I (i.aT ai hx)
 have a0:∀Z∈s.aT,gK Z:=λZ I=>dP λB=>by have:=ap.2 ⟨Z,I,B⟩;rw[v]at this;cases this
 have en:Int.toNat (c.len:Int)=s.heap.length:=V;rw[en];refine⟨V,V,V,V,?_⟩;intro R;have aH:J G R:=(J.az G).aK _;have s6:R.size=G.size+1:=by simp[R]
 have H6:cE R G.size aA ((sO s.heap.length (λ_=>0)).map Ce.i):=Ma G _;clear_value R;have x6:=x5.trans aH;have X6:=x2.trans x6;have T6:Oc R ob G.size s.heap.length (eg s.heap) (λ_=>0):=⟨B4.ext (aG.trans aH),H6,V⟩;have aY:m.size<=ob:=by have:=X3.size;omega
 have ak:∀Z:Nat,Int.toNat (Z:Int)=Z:=λZ=>V;have a8:s.ao.length<=41:=V;have rb:∀e,0<=eg s.heap e/\eg s.heap e<=3*s.heap.length:=λe=>⟨qR _ _,BO _ _ λo B=>(ax.cells o B).fl⟩;refine dU (n:=s.ao.length) V (λj M=>Jv ob G.size R M/\Oc M ob G.size s.heap.length (λe=>eg s.heap e+fA (s.ao.take j) e) (λe=>holds (s.ao.take j) e)/\∀(q:Nat)(l:aX),q<j->s.ao[q]? =some l->SK a s q l)
  ⟨Jv.az _ _ _,by simpa[fA,holds]using T6,λq l K=>absurd K (eW _)⟩ ?_
 rintro j W a7 μ i ⟨t7,N,al⟩ a3
 have x7:J L W:=t7.uN x6 V V;have P:=x2.trans x7;have bd:∀x∈[m1.size,m.size],x<W.size:=λx H=>x7.lt (hl x H);have z7:=x7.size;have be:=N.aR.lt;have bc:=N.ba.lt;rw[ak];refine dit (λF=>?_) λF=>?_
 .let⟨l,r⟩:=cG s.ao j;have au:=aq r;let⟨a5,a4,ac,hr,ho,U,g0,g1,g2,g3,g4,g5⟩:=Q.ao.aF r;refine⟨V,V,_,P.af g0,_,P.af g1,_,P.af g2,a5,P.af g3,a4,P.af g4,ac,P.af g5,?_⟩;intro X Y;have T:J W Y:=((J.az W).aK _).ah (ad _) _ _;have s9:Y.size=W.size+1:=by simp[Y,X,aw]
  clear_value Y;have X9:=P.trans T;have l9:∀x∈[W.size,m1.size,m.size],x<Y.size:=bE;refine(DR (aS.ext X9) (hr.ext X9) (ho.ext X9) (U.ext X9)).aH (J.az _) l9 λaJ w am D _=>⟨aJ,rfl,λz=>t ((x7.trans T).trans D) λi=>nb am z (i.w r).v,λz=>?_⟩;have hV:=yb am z;have S:=(x7.trans T).trans D;have ae:=x2.trans S;refine⟨λM=>w=M/\WE s.ao j l,?_,?_⟩
  .have ay:(cT ((j:Int) -1)=((j -1:Nat):Int))\/j=0:=by
    rcases jX j with f|f
    .exact Or.inr f
    .exact Or.inl (by rw[aQ V V];omega)
   have jM:0<j->((decide (l.dst<(0:Int)))=true->∃A:Bool,vb false=.bool A/\(A=true<->cU a s)/\J m w)/\((decide (l.dst<(0:Int)))=false->
    (0:Int)<=(cT ((j:Int) -(1:Int)))/\(cT ((j:Int) -(1:Int)))<(b.len:Int)/\
    ∃aa:O,af w b.D (b.off+Int.toNat (cT ((j:Int) -(1:Int)))*6+4)=some (O.v aa)/\
    ((decide (l.dst>=(aa.len:Int)))=true->∃A:Bool,vb false=.bool A/\(A=true<->cU a s)/\J m w)/\
    ((decide (l.dst>=(aa.len:Int)))=false->(0:Int)<=(cT ((j:Int) -(1:Int)))/\(cT ((j:Int) -(1:Int)))<(b.len:Int)/\
    ∃u:O,af w b.D (b.off+Int.toNat (cT ((j:Int) -(1:Int)))*6+4)=some (O.v u)/\
    (0:Int)<=l.dst/\l.dst<(u.len:Int)/\∃aj:Int,af w u.D (u.off+Int.toNat l.dst*1)=some (vi aj)/\
    ((aj !=(0:Int))=true->∃A:Bool,vb false=.bool A/\(A=true<->cU a s)/\J m w)/\((aj !=(0:Int))=false->w=w/\WE s.ao j l))):=λaL=>by
    have e1:=ay.resolve_right V
    rw[e1,ak]
    obtain⟨q,rfl⟩:∃q,j=q+1:=⟨j -1,V⟩
    have ej:q+1 -1=q:=V
    rw[ej]
    let⟨pf,aj⟩:=cG s.ao q
    let⟨pr,po,pe,aO,an,aI,y0,y1,y2,y3,y4,y5⟩:=Q.ao.aF aj
    have aK:=an.len
    have aa:nv s.ao (q+1)=some pf:=aj
    refine⟨λf=>t S λi=>?_,λf=>⟨V,V,po,ae.af y4,λh=>t S λi=>?_,λh=>⟨V,V,po,ae.af y4,by simpa using f,by simp at h;omega,aF pf.aR l.dst,?_,λu=>t S λi=>?_,λu=>⟨rfl,⟨λI=>(by rw[aa]at I;cases I),λaD hq=>?_⟩⟩⟩⟩⟩
    .have:=((i.w r).dst.2 pf aa).1;simp at f;omega
    .have:=((i.w r).dst.2 pf aa).2.1;simp at h;omega
    .simp at f h
     exact(an.ext ae).pv f V
    .have:=((i.w r).dst.2 pf aa).2.2;simp at u;exact u this
    .rw[aa]at hq;simp at hq;subst hq
     simp at f h u;exact⟨f,V,u⟩
   refine⟨λf=>⟨λh=>t S λaz=>?_,λh=>⟨λu=>by simp at f u;omega,λu=>⟨rfl,⟨λ_=>by simpa using h,λaD hq=>?_⟩⟩⟩⟩,λf=>⟨λh=>jM (by simp at h;omega),λh=>by simp at f h;omega⟩⟩
   .simp at f;subst f;have:=(az.w r).dst.1 rfl;simp at h;exact h this
   .simp at f;subst f;simp[nv]at hq
  .rintro _ ⟨rfl,hD⟩;have aU:=ab.lr l au;have v1:=hV.lr;have v2:=hV.lo;have v3:=hV.lh;have vu:=D.size;have aI:Oc w ob G.size s.heap.length (λe=>eg s.heap e+fA (s.ao.take j) e) (λe=>holds (s.ao.take j) e):=⟨N.aR.ext (T.trans D),N.ba.ext (T.trans D),N.ne⟩;have aR:∀e,0<=eg s.heap e+fA (s.ao.take j) e/\eg s.heap e+fA (s.ao.take j) e<=1000000000000000:=λe=>by
    have q1:=rb e;have q2:=Ke (a:=s.ao.take j) (n:=10000000) (k:=999999) V (λaa u=>⟨(ab.lr aa (dA u)).2.1,by
     let⟨q,K⟩:=List.mem_iff_getElem?.1 u;have aj:q<j:=by have:=av K;simp at this;omega
     rw[dG aj]at K;exact(al q aa aj K).v.aR⟩) e
    have q3:(s.ao.take j).length<=41:=bE;omega
   have aO:∀e,0<=holds (s.ao.take j) e/\holds (s.ao.take j) e<=1000000000:=λe=>by
    have q2:=KQ (a:=s.ao.take j) (n:=10000000) (λaa u=>(ab.lr aa (dA u)).2.2) e;have q3:(s.ao.take j).length<=41:=bE;have q4:=vE (s.ao.take j) e;omega
   refine(MC (i:=m) ae Q.heap hr ho U aY V aI (ab.ao l au) V ⟨V,V,aU.2.1⟩ hV.aR aR aO).mono ?_;rintro _ ay ⟨aK,rfl,an,aL,az⟩;have aD:Jv ob G.size R ay:=(t7.ext (T.trans D)).trans az;have a6:J L ay:=aD.uN x6 V V;refine⟨λx H=>az.same x (D.lt (l9 x H)) (by simp at H;omega) (by simp at H;omega),aK,rfl,λf=>t a6 λi=>nb an f (i.w r).Zr,λf=>a3 V _ ⟨aD,?_,λq aa K u=>?_⟩⟩
   .have aj:=aL (by simpa using f);refine⟨?_,?_,aj.ne⟩
    .rw[fB (g:=λe=>eg s.heap e+fA (s.ao.take j) e+de l.ak l.aR e)]
     .exact aj.aR
     .intro x H;rw[NC r];omega
    .rw[fB (g:=λe=>holds (s.ao.take j) e+eB l.ba e)]
     .exact aj.ba
     .intro x H;rw[KR r]
   .rcases aW q j with h|h
    .exact al q aa h u
    .have:q=j:=V;subst this;rw[r]at u;simp at u;subst u;exact⟨hV,hD,yb an f⟩
 rw[bX V]at N;have hW:∀(q:Nat)(l:aX),s.ao[q]? =some l->SK a s q l:=λq l r=>al q l (oh (av r)) r;refine dU (n:=s.heap.length) V (λj M=>J W M/\∀(e:Nat)(o:bM),e<j->s.heap[e]? =some o->(0<o.aP->o.aP=eg s.heap e+fA s.ao e)/\(o.aP<0->holds s.ao e=1)) ⟨J.az _,λe o ha=>absurd ha (eW _)⟩ ?_;rintro u X I2 μ2 au ⟨x8,aj⟩ an;have X8:=P.trans x8;rw[ak];refine dit (λz=>?_) λz=>?_
 .have ae:u<s.heap.length:=V;let⟨o,aa⟩:=dB ae;obtain⟨l,_,g0,g1,g2⟩:=Q.heap.aF aa;refine⟨λM=>J X M/\(0<o.aP->o.aP=eg s.heap u+fA s.ao u)/\(o.aP<0->holds s.ao u=1),?_,?_⟩
  .refine⟨V,V,_,X8.af g0,_,X8.af g1,l,X8.af g2,?_⟩;intro Y w;have D:J X w:=((J.az X).aK _).ah (ad _) _ _;clear_value w;have S:=(x7.trans x8).trans D;have go:=tH (N.aR.ext (x8.trans D)) ae;have gh:=tH (N.ba.ext (x8.trans D)) ae;simp -zeta only[O.gE,O.jA,O.mT,bT,eQ];have ba:(0<o.aP->o.aP=eg s.heap u+fA s.ao u)->((decide (o.aP<(0:Int)))=true->(0:Int)<=u/\(u:Int)<(s.heap.length:Int)/\∃am:Int,af w G.size u=some (vi am)/\
    ((am !=(1:Int))=true->∃A:Bool,vb false=.bool A/\(A=true<->cU a s)/\J m w)/\((am !=(1:Int))=false->J X w/\(0<o.aP->o.aP=eg s.heap u+fA s.ao u)/\(o.aP<0->holds s.ao u=1)))/\
    ((decide (o.aP<(0:Int)))=false->J X w/\(0<o.aP->o.aP=eg s.heap u+fA s.ao u)/\(o.aP<0->holds s.ao u=1)):=λB=>
    ⟨λf=>⟨V,V,_,gh,λh=>t S λi=>by have:=i.ba.kZ u o aa (by simpa using f);simp at h;exact h this,λh=>⟨D,B,λ_=>by simpa using h⟩⟩,λf=>⟨D,B,λh=>by simp at f;omega⟩⟩
   refine⟨λf=>⟨V,V,_,go,λh=>t S λi=>?_,λh=>ba λ_=>by simpa using h⟩,λf=>ba λh=>by simp at f;omega⟩;have:=i.QE u o aa (by simpa using f);simp at h;exact h this
  .rintro Y ⟨T,w,D⟩;refine an V _ ⟨x8.trans T,λe ac ha U=>?_⟩;rcases aW e u with h|h
   .exact aj e ac h U
   .have:e=u:=V;subst this;rw[aa]at U;simp at U;subst U;exact⟨w,D⟩
 .refine iN (LY ⟨aZ,ah,ag,hv,a2,aV,aM,aN,a0,ax,λq l r=>(hW q l r).ok,⟨λl r w h=>?_,λS o B I=>(aj S o (oh (av B)) B).2 I,λS o B I=>?_⟩,λe o B c=>(aj e o (oh (av B)) B).1 c⟩) X8
  .let⟨q,K⟩:=vQ r;by_cases D:w=0
   .exact Or.inl D
   .obtain⟨y,o,v,_⟩:=(hW q l K).Zr.ba w h D;exact Or.inr ⟨y,av v⟩
  .refine KS λl r w h ac=>?_;let⟨q,K⟩:=vQ r;let⟨y,D,v,F⟩:=(hW q l K).Zr.ba w h V;rw[ac,ly,B]at v;simp at v;subst v;omega
def td(k:fw m d p a)(r:gD m aT c b s)(q:zk s):dt cg 18 [.agg #[O.v d,O.v p],MY s aT c b] m (cU a s):=by
 apply yo;simp -zeta only[aC,aB];intro i e;have f:J m e:=((J.az m).aK _).aK _;have t:i.size=m.size+1:=by simp[i]
 have x:e.size=m.size+2:=by simp[e,t]
 clear_value e;have l:∀n∈[i.size,m.size],n<e.size:=bE;refine(DN (k.ext f)).aH (J.az _) l λb3 v j g _=>⟨b3,rfl,λh=>?_,λh=>bV (λo=>fb j h o.fy) (f.trans g)⟩;refine(DW (k.ext (f.trans g)) (j.1 h) (r.ext (f.trans g)) q).aH g l λb4 w o y u=>⟨b4,rfl,eT o (f.trans u)⟩
end
end
end Go.Proofs.YtkicoahejfbjhaaGreat
section
namespace Go.Vc
def fP.kH{m:E}{b o:Nat}{l r:List Ce}(h:fP m b o l)(k:fP m b (o+l.length) r):fP m b o (l++r):=λi d a=>by
 rcases aW i l.length with c|c
 .rw[ax c]at a;exact h i d a
 .rw[aI c]at a;have:=k _ d a;rwa[show o+l.length+(i -l.length)=o+i by omega]at this
def eS.TX{α:Type}{m:E}{c:Nat}{R:List Ce->α->Prop}{s:O}{l:List α}(h:eS m c R s l)(j:∀d x,R d x->d.length=c):∃a,gP c R a l/\fP m s.D s.off a.flatten:=by
 have:∀k,k<=l.length->∃a,gP c R a (l.take k)/\fP m s.D s.off a.flatten:=by
  intro k;induction k with
  |zero=>intro _;exact⟨[],by simpa using gP.nil c R,λi e b=>by simp at b⟩
  |succ k o=>
   intro p;let⟨a,b,e⟩:=o V;let⟨x,g⟩:=cG l k;let⟨d,f,i⟩:=h.iA k x g;refine⟨a++[d],by rw[aU g];exact b.yD (j d x f) f,?_⟩;rw[qH];refine e.kH ?_;have n:a.flatten.length=k*c:=by rw[cv b.size,b.len,gH,jb V]
   rw[n];simpa using i
 let⟨a,b,e⟩:=this l.length (ad _);rw[fu]at b;exact⟨a,b,e⟩
end Go.Vc
namespace Go.Proofs.YtkicoahejfbjhaaGreat
open Go.Vc
variable{m:E}{s:O}{d:Nat->Nat}{N:Nat}{h:List bM}
def gV.Dt{a:E}{l:List Ce}{e n:Nat}(f:gV m a e n s l)(j:J m a)(i:∀b,m.size<=b->d b=0)(k:Nat):∃c,dp (λ_=>False) d m c a/\iF c a e n k s l/\∀b,c b=d b\/c b=k:=by
 rcases f.aF with h|⟨b,g,tail,h,h2,h3,h4,h5⟩
 .exact⟨d,dp.eG _ j i,iF.fZ f λo=>absurd h o,λb=>Or.inl rfl⟩
 .refine⟨nX d b k,dp.nX j i h2 h3.lt k,iF.fZ f λ_=>by rw[h];exact fH _ _ _,λg=>?_⟩;by_cases e:g=b
  .rw[e];exact Or.inr (fH _ _ _)
  .exact Or.inl (eU e)
def Ij{z:O}(L:∀b,m.size<=b->d b=0)(H:∀b,b<m.size->d b≠3)(y:cX m z h)(hN:N<=m.size)(K:∀c∈h,c.aE.length<=3)(ac:h.length<=1000000000):
 aN cg 69 [O.v z] m λY l=>∃e s,Y=O.v s/\dJ N e l s h/\dp (λk=>k=3) d m e l/\J m l:=by
 apply Cv
 intro A
 have Z:J m A:=(J.az m).aK _
 clear_value A
 have hl:=y.len
 have X:∀{e:Nat->Nat}{M:E},dp (λk=>k=3) d m e M->J m M:=λc=>⟨c.size,λb a=>c.eA b a (H b a)⟩
 refine ez (σ:=O) (n:=h.length) V (λk s M=>∃e,dJ N e M s (h.take k)/\dp (λk=>k=3) d m e M) ⟨d,⟨[],⟨aL,aL,Or.inl rfl⟩,by simpa using gP.nil _ _,Xq.nil⟩,dp.eG _ Z L⟩ ?_
 rintro k s T aa μ hk ⟨i,f,a⟩ U
 have v:=X a
 have en:Int.toNat (k:Int)=k:=V
 rw[en]
 refine dit (λG=>?_) λG=>?_
 .let⟨c,j⟩:=cG h k
  let⟨F,I,w,g1,g2⟩:=(cX.ext v y).aF j
  have ab:=K c (aq j)
  refine⟨V,V,c.aP,w,V,V,c.j8,g1,V,V,F,g2,(gR I V).mono ?_⟩
  rintro _ g ⟨q,rfl,o,r⟩
  refine⟨q,rfl,r.da g1,r.da w,?_⟩
  intro b
  have t:J g b:=(J.az g).aK _
  have S:cE b g.size lW [.i c.aP,.i c.j8,.s q]:=cE.push g _ _
  clear_value b
  have p:=r.trans t
  have C:dp (λ_=>False) i T i b:=dp.eG _ p a.new
  have u:dp (λk=>k=3) d m i b:=a.trans (dp.eG _ p a.new)
  have R:ap b q c.aE:=(ap.fZ o V).ext t
  have Q:c.aE≠[]->i q.D=0:=λP=>a.new _ ((FB.fZ o P).1)
  have hz:=a.size
  refine dJ.push (f.eH C id id) u.new (x:=.mk g.size 0 1 1) rfl S.iA R (Re.of f (λB=>p.same _ (f.D B).2) (λ_=>o.ext t) Q V) bE λW ad m5 D B=>?_
  exact U V _ _ ⟨W,by rw[aU j];exact D,u.trans B⟩
 .rw[bX V]at f
  exact⟨i,s,rfl,f,a,v⟩
structure ZC(N:Nat)(d:Nat->Nat)(m:E)(r:O)(h:List bM)(css0 css:List (List Ce))(k:Nat):Prop where
 pY:iF d m lW 3 3 r css.flatten
 len:css.length=h.length
 size:∀cs∈css,cs.length=3
 done:∀(j:Nat)(cs:List Ce)(c:bM),j<k->css[j]? =some cs->h[j]? =some c->xN N d m cs c
 jM:∀j,k<=j->css[j]? =css0[j]?
 sep:∀(i j:Nat)(ci cj:List Ce)(a b:O),i<k->j<k->css[i]? =some ci->css[j]? =some cj->ci[2]? =some (.s a)->cj[2]? =some (.s b)->i≠j->a.len≠0->b.len≠0->a.D≠b.D
def Ai{a:List (List Ce)}{n:Nat}(d:s.len=n)(g:a.length=n)(k:∀b∈a,b.length=3)(j:fP m s.D s.off a.flatten)(t:n<=1000000000):
 aN cg 96 [O.v s] m λv c=>∃r,v=O.v r/\gV m c lW 3 r a.flatten/\J m c:=by
 apply mU
 refine⟨λh=>?_,λh=>?_⟩
 .cases s with
  |nil=>simp at d;have:a=[]:=List.length_eq_zero_iff.1 V;subst this;exact⟨.nil,rfl,gV.nil _ _ _ _,J.az _⟩
  |mk b o f e=>simp at h
  |zD b o e=>simp at h
 .intro e
  have b:J m e:=(J.az m).aK _
  have i:gV m e lW 3 (.mk m.size 0 0 0) []:=gV.new (J.az m) lW 3 [] 0 aL
  refine gV.append (zs:=[.i 0,.i 0,.s .nil]) (d:=a.flatten) i b (by rw[cv k,g,d];rfl) (b.iA j) bE λr c b f l o p q=>⟨r,rfl,by simpa using b,f⟩
def FG{hp:O}(hn:∀b,m.size<=b->d b=0)(h3:∀b,b<m.size->d b≠3)(hh:cX m hp h)(hN:N<=m.size)(ay:∀c∈h,c.aE.length<=3)(aA:h.length<=1000000000):
 aN cg 59 [O.v hp] m λaF m'=>∃W s,aF=O.v s/\dJ N W m' s h/\dp (λk=>k=3) d m W m'/\J m m':=by
 apply zN
 simp -zeta only[aC,aB]
 have hl:=hh.len
 let⟨aa,u,jt⟩:=hh.TX (λz an⟨af,e,_⟩=>by rw[e];rfl)
 refine(Ai hl u.len u.size jt aA).mono ?_
 rintro _ m1 ⟨y,rfl,or,x1⟩
 obtain⟨g,C1,X,_⟩:=gV.Dt or x1 hn 3
 have aK:y.len=h.length:=by have:=X.len;rw[cv u.size,u.len]at this;omega
 refine⟨y,rfl,?_⟩
 have aE:∀{W:Nat->Nat}{M:E},dp (λk=>k=3) d m W M->J m M:=λc=>⟨c.size,λb l=>c.eA b l (h3 b l)⟩
 refine dU (n:=h.length) V (λk M=>∃i,ZC N g M y h aa i k/\dp (λk=>k=3) d m g M) ⟨aa,⟨X,u.len,u.size,λj _ _ p=>absurd p (eW _),λ_ _=>rfl,λB _ _ _ _ _ D=>absurd D (eW _)⟩,C1.mono λ_=>False.elim⟩ ?_
 rintro k F aG μ hk ⟨i,a,v⟩ aD
 have X2:=aE v
 have en:Int.toNat (k:Int)=k:=V
 rw[en]
 refine dit (λR=>?_) λR=>?_
 .have ak:k<h.length:=V
  let⟨c,T⟩:=dB ak
  let⟨af,hf,g0,g1,g2⟩:=(cX.ext X2 hh).aF T
  have aJ:=ay c (aq T)
  refine⟨V,V,c.aP,g0,c.j8,g1,af,g2,?_⟩
  intro m3 G
  have x4:J F G:=((J.az F).aK _).ah (ad _) _ _
  have s4:G.size=F.size+1:=by simp[G,m3,aw]
  clear_value G
  refine(eM (hf.ext x4) V).mono ?_
  rintro _ H ⟨q,rfl,oq,x5⟩
  have K:dp (λ_=>False) g F g H:=dp.eG _ (x4.trans x5) v.new
  have Y:=a.pY.eH K id
  have aH:=a.len
  have ai:k*3+2+1<=i.flatten.length:=by rw[cv a.size];have:(k+1)*3<=i.length*3:=dh _ V;omega
  let⟨z,U⟩:=cG i k
  let⟨ae,ag⟩:=cG aa k (by rw[u.len];exact ak)
  have ao:z=ae:=by have:=a.jM k (ad _);rw[U,ag]at this;simpa using this
  let⟨f0,ar,aI⟩:=u.dz k ae c ag T
  rw[ao,ar]at U
  have ax:y.cap≠0:=λe=>by have:=X.le;omega
  have rb:=Y.D ax
  have c6:∀am,dp (λk=>k=3) g H g (ah H y.D (y.off+(k*3+2)) am):=λam=>dp.ah K.new rb.2 _ _
  have au:g F.size=0:=v.new _ (ad _)
  refine⟨x5.dv bE,q,rfl,V,V,?_⟩
  rw[dj]
  refine⟨Y.wr ai,?_⟩
  intro m6
  have I:=c6 [.s q]
  have ab:c.aE≠[]->g q.D=0/\G.size<=q.D:=λx=>by
   have:=(FB.fZ oq x).1;exact⟨v.new _ V,this⟩
  have iq:ap H q c.aE:=ap.fZ oq V
  have L6:xN N g m6 [.i c.aP,.i c.j8,.s q] c:=xN.eH I bh _ _ ⟨q,rfl,iq,λx=>⟨(ab x).1,O6 ((ab x).2) v.size,(FB.fZ oq x).2⟩⟩
  have ac:(i.set k [.i c.aP,.i c.j8,.s q])[k]? =some [.i c.aP,.i c.j8,.s q]:=dx (av U)
  refine⟨(I.mono λk hk=>by omega:To g H g m6).dv (by simp;exact⟨by have:=x5.size;omega,au⟩),aD V _ ⟨i.set k [.i c.aP,.i c.j8,.s q],⟨?_,by simpa using a.len,λZ w=>?_,λj Z Q p w hd=>?_,λj p=>?_,?_⟩,(v.trans (K.mono λ_=>False.elim)).trans I⟩⟩
  .have:=Y.set (o:=k*3+2) (new:=[.s q]) ai
   rw[BV i k _ 2 [.s q] a.size U aL]at this
   exact this
  .rcases cB w with f|f
   .exact a.size Z f
   .rw[f];rfl
  .rcases aW j k with f|f
   .rw[cr V]at w
    exact xN.eH I bh _ _ (xN.eH K id _ _ (a.done j Z Q f w hd))
   .have:j=k:=V
    subst this
    rw[ac]at w
    simp at w;subst w
    rw[T]at hd;simp at hd;subst hd;exact L6
  .rw[cr V];exact a.jM j V
  .have al:∀(j:Nat)(r:List Ce)(b:O),j<k->i[j]? =some r->r[2]? =some (.s b)->q.len≠0->b.len≠0->q.D≠b.D:=λj r b p t l f C=>by
    let⟨Q,hd⟩:=cG h j;obtain⟨b',e,ib,_⟩:=a.done j r Q p t hd;rw[e]at l;simp at l;subst l;have x:Q.aE≠[]:=λe=>by have:=ib.len;rw[e]at this;simp at this;exact C this
    have az:c.aE≠[]:=λe=>by have:=iq.len;rw[e]at this;simp at this;exact f this
    have:=iE ib x;have:=(ab az).2;omega
   intro B j P r L b D p A t S l aj f C
   by_cases ik:B=k
   .subst ik
    rw[ac]at A
    rw[cr aj]at t
    simp at A;subst A;simp at S;subst S
    exact al j r b V t l f C
   .rw[cr (λe=>ik e.symm)]at A
    by_cases jk:j=k
    .subst jk
     rw[ac]at t
     simp at t;subst t;simp at l;subst l
     exact kC (al B P L V A S C f)
    .rw[cr (λe=>jk e.symm)]at t
     exact a.sep B j P r L b V V A t S l aj f C
 .have e:∀{j:Nat}{z:List Ce},i[j]? =some z->j<k:=λp=>by have:=av p;have:=a.len;omega
  exact⟨g,y,rfl,⟨i,a.pY,⟨a.len,a.size,λj z an R f=>a.done j z an (e R) R f⟩,λB j P r L b D p=>a.sep B j P r L b (e D) (e p) D p⟩,v,X2⟩
end Go.Proofs.YtkicoahejfbjhaaGreat
end
namespace Go.Proofs.YtkicoahejfbjhaaGreat
open Go.Vc
section
variable{a g:Nat->Nat}{m h e:E}{p:Nat->Prop}{s:St}{d:List (List Ce)}
structure Bs(e:E)(a:Nat->Nat)(m:E):Prop where
 cx:J e m
 jQ:∀b,b<e.size->a b=0
 new:∀b,m.size<=b->a b=0
structure pd(e:E)(a:Nat->Nat)(m:E)(aT hp fr:O)(s:St):Prop where
 bs:Bs e a m
 aT:iF a m aA 1 2 aT (s.aT.map Ce.i)
 heap:dJ e.size a m hp s.heap
 ao:nE a m fr s.ao
structure zo(s:St):Prop where
 aT:s.aT.length<=900000000
 fl:∀c∈s.heap,c.aE.length<=3
 heap:s.heap.length<=900000000
 depth:s.ao.length<=1000
 ao:∀f∈s.ao,f.ak.length<=1000000/\f.aR.length<=1000000/\f.ba.length<=1000000
def Vo(e:E)(a:Nat->Nat)(m:E)(s:St)(v:Value)(h:E):Prop:=∃g aT c b,v=MY s aT c b/\pd e g h aT c b s/\dp (λ_=>False) a m g h
abbrev WD:=dp (λk=>2<=k)
def WD.none(c:WD a m g h)(e:∀b,b<m.size->a b<=1):dp (λ_=>False) a m g h:=⟨c.size,c.gT,c.new,λb d _=>c.eA b d (oh (e b d))⟩
def dp.uN(b:dp (λ_=>False) a m g h):J m h:=⟨b.size,λc d=>b.eA c d id⟩
def Bs.eH(B:Bs e a m)(b:dp (λ_=>False) a m g h):Bs e g h:=⟨B.cx.trans b.uN,λc d=>by rw[b.gT c (B.cx.lt d)];exact B.jQ c d,b.new⟩
def dp.aae(e:dp p a m g h){l:List Nat}(d:∀b∈l,b<m.size/\¬p (a b)):eF l m h:=λb c=>e.eA b (d b c).1 (d b c).2
structure Um(e:E)(a:Nat->Nat)(m:E)(g:Nat->Nat)(M:E)(q r:O)(s:St):Prop where
 eH:WD a m g M
 aT:iF g M aA 1 2 q (s.aT.map Ce.i)
 heap:dJ e.size g M r s.heap
def Um.lC{i j:Nat->Nat}{f g:E}{q r:O}(h:Um e a m i f q r s)(d:dp p i f j g)(c:∀k,p k->4<=k):Um e a m j g q r s:=
 ⟨h.eH.trans (d.mono λk b=>oh (c k b)),h.aT.eH d λb=>oh (c _ b),h.heap.eH d (λb=>oh (c _ b)) λb=>oh (c _ b)⟩
def yC{s:O}{n:Nat}(c:s.len=n)(g:d.length=n)(k:∀a∈d,a.length=6)(j:fP m s.D s.off d.flatten)(t:n<=1000000000):
 aN cg 60 [O.v s] m λv h=>∃r,v=O.v r/\gV m h dO 6 r d.flatten/\J m h:=by
 apply mE
 refine⟨λb=>?_,λb=>?_⟩
 .cases s with
  |nil=>simp at c;have:d=[]:=List.length_eq_zero_iff.1 V;subst this;exact⟨.nil,rfl,gV.nil _ _ _ _,J.az _⟩
  |mk a o f e=>simp at b
  |zD a o e=>simp at b
 .intro e
  have a:J m e:=(J.az m).aK _
  have i:gV m e dO 6 (.mk m.size 0 0 0) []:=gV.new (J.az m) dO 6 [] 0 aL
  refine gV.append (zs:=[.i 0,.i 0,.i 0,.s .nil,.s .nil,.s .nil]) (d:=d.flatten) i a (by rw[cv k,g,c];rfl) (a.iA j) bE λr h a f l o p q=>⟨r,rfl,by simpa using a,f⟩
structure ZA(a:Nat->Nat)(m:E)(r:O)(fs:List aX)(css0 d:List (List Ce))(k:Nat):Prop where
 pY:iF a m dO 6 4 r d.flatten
 len:d.length=fs.length
 size:∀cs∈d,cs.length=6
 done:∀(j:Nat)(cs:List Ce)(f:aX),j<k->d[j]? =some cs->fs[j]? =some f->SJ a m j cs f
 jM:∀j,k<=j->d[j]? =css0[j]?
def Q2{k o:Nat}{a:List Ce}{x:Ce}(e:∀a∈d,a.length=6)(b:d[k]? =some a)(g:o<6):iZ d.flatten (k*6+o) [x]=(d.set k (a.set o x)).flatten/\(∀c∈d.set k (a.set o x),c.length=6)/\(d.set k (a.set o x))[k]? =some (a.set o x):=by
 refine⟨BV d k a o [x] e b bE,λc f=>?_,dx (av b)⟩;rcases cB f with h|h
 .exact e c h
 .rw[h,dZ];exact e a (aq b)
def DQ{aT hp w:O}(al:Bs e a m)(az:∀c,a c<=1)(T:gD m aT hp w s)(ae:zo s):aN cg 34 [MY s aT hp w] m (Vo e a m s):=by
 apply yr;simp -zeta only[aC,aB];intro h A;have s1:h.size=m.size+1:=by simp[h]
 have s2:A.size=m.size+2:=by simp[A,s1]
 have x2:J m A:=((J.az m).aK _).aK _;obtain⟨G,ao⟩:∃G,G=nX (nX a m.size 8) h.size 8:=⟨_,rfl⟩;have C2:dp (λ_=>False) a m G A:=by
  rw[ao];exact(dp.nX (m':=h) (k:=8) ((J.az m).aK _) al.new (ad _) V).trans (dp.nX (m':=A) (k:=8) ((J.az h).aK _) (λc hb=>by rw[eU V];exact al.new c V) (ad _) V)
 have r0:G m.size=8/\G h.size=8:=by rw[ao];exact⟨by rw[eU V,fH],fH _ _ _⟩
 have a2:∀c,G c=8\/G c<=1:=λc=>by
  rw[ao];unfold nX;split
  .exact Or.inl rfl
  .split
   .exact Or.inl rfl
   .exact Or.inr (az c)
 have aZ:cE A h.size iu [.i 0,.i 0,.i 0,.i 0,.s .nil,.s .nil,.s .nil]:=cE.push h _ _;have bq:cE A m.size iu [.i s.cz,.i s.value,.i s.bu,.i s.dR,.s aT,.s hp,.s w]:=(cE.push m _ _).ext (J.push h _);clear_value A;clear ao;have hN:=al.cx.size;have bo:=ae.aT;have bn:=ae.heap;have bj:=ae.depth;refine(eM (T.aT.ext x2) V).mono ?_;rintro _ m3 ⟨ai,rfl,oq,H⟩;let⟨ba,C3,A3,a3⟩:=gV.Dt oq H C2.new 2;have z3:=H.size;have kp:∀{M M':E},J M M'->m.size<M.size->∀i,af M' m.size i=af M m.size i:=λhx ac i=>aJ (hx.same _ ac) i;have X3:=x2.trans H;refine⟨H.dv bE,ai,rfl,kp H V _,kp H V _,(FG (N:=e.size) C3.new (λc _=>O6 (a3 c) (a2 c)) (T.ext X3).heap V ae.fl V).mono ?_⟩;rintro _ m4 ⟨bb,aj,rfl,H4,Y,x4⟩;have z4:=x4.size;have X4:=X3.trans x4;have K4:Um e a m bb m4 ai aj s:=⟨((C2.trans C3).mono λ_=>False.elim:WD a m ba m3).trans (Y.mono λb R=>V),A3.eH Y bh,H4⟩;have aY:=T.ao.len;let⟨an,q,jt⟩:=(T.ext X4).ao.TX (λQ ak⟨_,_,_,t,_⟩=>by rw[t];rfl);refine⟨x4.dv bE,aj,rfl,kp x4 V _,(yC aY q.len q.size jt V).mono ?_⟩;rintro _ m5 ⟨fc,rfl,of,x5⟩;let⟨u,K,A5,br⟩:=gV.Dt of x5 Y.new 4;have z5:=x5.size;have K5:=K4.lC K λ_=>False.elim;refine⟨x5.dv bE,fc,rfl,?_⟩;intro m6 m7 F;have r5:u m.size=8/\u h.size=8:=⟨by rw[K.gT _ V,Y.gT _ V,C3.gT _ V];exact r0.1,by rw[K.gT _ V,Y.gT _ V,C3.gT _ V];exact r0.2⟩;have C8:dp (λb=>b=8) u m5 u F:=((dp.ah K.new (show(λb=>b=8) (u m.size)from r5.1) _ _).trans (dp.ah (by rw[aw];exact K.new) (show(λb=>b=8) (u m.size)from r5.1) _ _)).trans (dp.ah (by rw[aw,aw];exact K.new) (show(λb=>b=8) (u m.size)from r5.1) _ _);have K8:Um e a m u F ai aj s:=K5.lC C8 λb R=>V;have A8:iF u F dO 6 4 fc an.flatten:=A5.eH C8 bh;have a0:cE F h.size iu [.i 0,.i 0,.i 0,.i 0,.s .nil,.s .nil,.s .nil]:=((aZ.ext (H.trans (x4.trans x5))).congr (by
  show(ah (ah (ah m5 m.size 4 _) m.size 5 _) m.size 6 _)[h.size]? =_;rw[bd _ _ _ _ V,bd _ _ _ _ V,bd _ _ _ _ V]))
 have s8:F.size=m5.size:=by simp[F,m7,m6,aw]
 clear_value F;have bm:fc.len=s.ao.length:=by have:=A8.len;rw[cv q.size,q.len]at this;omega
 refine dU (n:=s.ao.length) V (λb M=>∃g d,Um e a m g M ai aj s/\ZA g M fc s.ao an d b/\m5.size<=M.size/\g m.size=8/\g h.size=8/\cE M h.size iu [.i 0,.i 0,.i 0,.i 0,.s .nil,.s .nil,.s .nil])
  ⟨u,an,K8,⟨A8,q.len,q.size,λy _ _ hj=>absurd hj (eW _),λ_ _=>rfl⟩,V,r5.1,r5.2,a0⟩ ?_
 rintro b l bc μ R ⟨B,d,Z,f,z9,r9,aI,a1⟩ a6
 have en:Int.toNat (b:Int)=b:=V;rw[en];have aQ:∀{g:Nat->Nat}{M:E},WD a m g M->J m M:=λaO=>(aO.none λc _=>az c).uN;refine dit (λh1=>?_) λh1=>?_
 .have aH:b<s.ao.length:=V;let⟨j,hf⟩:=dB aH;have bk:=ae.ao j (aq hf);let⟨aP,ab⟩:=cG an b (by rw[q.len];exact aH);let⟨ra,oa,ha,e0,ir,io,ih⟩:=q.dz b aP j ab hf;have aG:d[b]? =some [.i j.fE,.i j.pc,.i j.dst,.s ra,.s oa,.s ha]:=by rw[f.jM b (ad _),ab,e0]
  have S:∀(i:Nat)(ak:Ce),[Ce.i j.fE,.i j.pc,.i j.dst,.s ra,.s oa,.s ha][i]? =some ak->af l fc.D (fc.off+b*6+i)=some ak.v:=λi ak hx=>by
   have:=f.pY.iA (b*6+i) ak (fV f.size aG hx);rwa[<-dj]at this
  obtain⟨r',o',h',jr,jo,jh,_,_,_,y3,y4,y5⟩:=T.ao.aF hf;have X9:=aQ Z.eH;have er:r'=ra/\o'=oa/\h'=ha:=by
   obtain⟨bf,⟨be,b1,c1,e1,_⟩,bp⟩:=T.ao.iA b j hf;have g3:af m4 w.D (w.off+b*6+3)=some (O.v ra):=by
    have:=jt (b*6+3) (.s ra) (fV q.size ab (by rw[e0];rfl));rwa[<-dj]at this
   have g4:af m4 w.D (w.off+b*6+4)=some (O.v oa):=by
    have:=jt (b*6+4) (.s oa) (fV q.size ab (by rw[e0];rfl));rwa[<-dj]at this
   have g5:af m4 w.D (w.off+b*6+5)=some (O.v ha):=by
    have:=jt (b*6+5) (.s ha) (fV q.size ab (by rw[e0];rfl));rwa[<-dj]at this
   rw[X4.af y3]at g3;rw[X4.af y4]at g4;rw[X4.af y5]at g5;exact⟨O.Bz.1 (jJ g3),O.Bz.1 (jJ g4),O.Bz.1 (jJ g5)⟩
  obtain⟨rfl,rfl,rfl⟩:=er;refine⟨V,V,_,S 0 _ rfl,_,S 1 _ rfl,_,S 2 _ rfl,_,S 3 _ rfl,_,S 4 _ rfl,_,S 5 _ rfl,?_⟩;intro aA U;have ar:J l U:=((J.az l).aK _).ah (ad _) _ _;have bw:U.size=l.size+1:=by simp[U,aA,aw]
  clear_value U;have aF:dp (λ_=>False) B l (nX B l.size 8) U:=dp.nX ar Z.eH.new (ad _) V 8;refine(eM (jr.ext (X9.trans ar)) V).mono ?_;rintro _ bs ⟨qr,rfl,a7,v⟩;obtain⟨bu,ay,aK,_⟩:=gV.Dt a7 v aF.new (10+3*b);have bz:=v.size;have p:∀{M M':E}{c:Nat},J M M'->c<M.size->∀i,af M' c i=af M c i:=λhx ac i=>aJ (hx.same _ ac) i;have bl:∀{M:E},U.size<=M.size->∀c∈[l.size,m.size,h.size],c<M.size:=λbg c hb=>by simp at hb;omega
  refine⟨v.dv (bl (ad _)),qr,rfl,p v V _,p v V _,p v V _,p v V _,p v V _,(eM (jo.ext (X9.trans (ar.trans v))) V).mono ?_⟩;rintro _ bt ⟨qo,rfl,a8,C⟩;obtain⟨bv,am,aL,_⟩:=gV.Dt a8 C ay.new (11+3*b);have bA:=C.size;refine⟨C.dv (bl V),qo,rfl,p C V _,p C V _,p C V _,p C V _,(eM (jh.ext (X9.trans (ar.trans (v.trans C)))) V).mono ?_⟩;rintro _ aD ⟨qh,rfl,a9,X⟩;obtain⟨r,D,aM,_⟩:=gV.Dt a9 X am.new (12+3*b);have bB:=X.size;have L:dp (λ_=>False) B l r aD:=((aF.trans ay).trans am).trans D;have P:r l.size=8/\r m.size=8/\r h.size=8:=⟨by rw[D.gT _ V,am.gT _ V,ay.gT _ V];exact fH _ _ _,by rw[L.gT _ V];exact r9,by rw[L.gT _ V];exact aI⟩;have A9:=f.pY.eH L id;have aX:fc.cap≠0:=λt=>by have:=f.pY.le;omega
  have W:=A9.D aX;have a_:fc.D≠m.size/\fc.D≠h.size/\fc.D≠l.size:=⟨λt=>by have:=W.2;rw[t,P.2.1]at this;omega,λt=>by have:=W.2;rw[t,P.2.2]at this;omega,λt=>by have:=W.2;rw[t,P.1]at this;omega⟩;have bi:=f.len;have ur:∀z,z<6->b*6+z+1<=d.flatten.length:=λz ho=>by rw[cv f.size];have:(b+1)*6<=d.length*6:=dh _ V;omega
  have sm:∀{M:E}(z:Nat)(ag:List Ce),eF [l.size,m.size,h.size] M (ah M fc.D z ag):=λz ag c hb=>bd _ _ _ _ (by simp at hb;omega);have gg:∀{M:E}(z:Nat)(ag:List Ce)(i:Nat),af (ah M fc.D z ag) m.size i=af M m.size i:=λz ag i=>aJ (bd _ _ _ _ (λt=>a_.1 t.symm)) i;refine⟨X.dv (bl V),qh,rfl,p X V _,p X V _,p X V _,V,V,?_⟩;simp -zeta only[dj];refine⟨A9.wr (ur 3 bh),?_⟩;let⟨e1,f1,aS⟩:=Q2 (x:=.s qr) (o:=3) f.size aG bh;have au:=A9.set (o:=b*6+3) (new:=[.s qr]) (ur 3 bh);rw[e1]at au;intro a4;let⟨e2,f2,aU⟩:=Q2 (x:=.s qo) (o:=4) f1 aS bh;have ax:=au.set (o:=b*6+4) (new:=[.s qo]) (by have:=ur 4 bh;rw[cv f.size]at this;rw[cv f1,dZ];exact this);rw[e2]at ax;refine⟨sm _ _,gg _ _ _,gg _ _ _,V,V,au.wr (by have:=ur 4 bh;rw[cv f.size]at this;rw[cv f1,dZ];exact this),?_⟩;intro a5;let⟨e3,f3,aV⟩:=Q2 (x:=.s qh) (o:=5) f2 aU bh;have aE:=ax.set (o:=b*6+5) (new:=[.s qh]) (by have:=ur 5 bh;rw[cv f.size]at this;rw[cv f2,dZ,dZ];exact this);rw[e3]at aE;refine⟨sm _ _,gg _ _ _,V,V,ax.wr (by have:=ur 5 bh;rw[cv f.size]at this;rw[cv f2,dZ,dZ];exact this),?_⟩;intro ap;have I:dp (λb=>b=4) r aD r ap:=((dp.ah D.new (show(λb=>b=4) (r fc.D)from W.2) _ _).trans (dp.ah (by rw[aw];exact D.new) (show(λb=>b=4) (r fc.D)from W.2) _ _)).trans (dp.ah (by rw[aw,aw];exact D.new) (show(λb=>b=4) (r fc.D)from W.2) _ _);have bx:ap.size=aD.size:=by simp[ap,a5,a4,aw]
  have sS:SJ r ap b [.i j.fE,.i j.pc,.i j.dst,.s qr,.s qo,.s qh] j:=⟨qr,qo,qh,rfl,(((aK.eH am id).eH D id).eH I V),(aL.eH D id).eH I V,aM.eH I V⟩;refine⟨sm _ _,a6 V _ ⟨r,_,(Z.lC L λ_=>False.elim).lC I λb R=>V,⟨aE,by simp;exact f.len,f3,λy Q aR hj aa hg=>?_,λy hj=>?_⟩,V,P.2.1,P.2.2,(a1.ext L.uN).congr (I.eA _ V (by rw[P.2.2];decide))⟩⟩
  .rcases aW y b with h5|h5
   .rw[cr V,cr V,cr V]at aa;exact((f.done y Q aR h5 aa hg).eH L λ_ _ _=>id).eH I λb R _=>V
   .have:y=b:=V;subst this;rw[aV]at aa;simp at aa;subst aa;rw[hf]at hg;simp at hg;subst hg;exact sS
  .rw[cr V,cr V,cr V];exact f.jM y V
 .intro aA;have r:dp (λb=>b=8) B l B aA:=dp.ah Z.eH.new (show(λb=>b=8) (B h.size)from aI) _ _;have p:=Z.lC r λb R=>V;have ac:∀{y:Nat}{Q:List Ce},d[y]? =some Q->y<b:=λhj=>by have:=av hj;have:=f.len;omega
  have v:nE B l fc s.ao:=⟨d,f.pY,f.len,f.size,λi Q j h1 t=>f.done i Q j (ac h1) h1 t⟩;have D:=p.eH.none λc _=>az c;exact⟨B,ai,aj,fc,rfl,⟨al.eH D,p.aT,p.heap,v.eH r λb R=>V⟩,D⟩
end
section
variable{d:Nat->Nat}{e:E}
abbrev z7:List Ce:=[.i 0,.i 0,.i 0,.i 0,.s .nil,.s .nil,.s .nil]
structure Nh(m0:E)(ro:Nat->Nat)(m m2:E)(s:St)(ro':Nat->Nat)(M:E)(q r:Option O)(ob:Option Nat):Prop where
 eH:WD ro m ro' M
 ext:J m2 M
 Zo:r=none->∀b,ro' b≠3
 box:∀b,m.size<=b->b<m2.size->ro' b=8
 aT:∀x,q=some x->iF ro' M aA 1 2 x (s.aT.map Ce.i)
 heap:∀x,r=some x->dJ m0.size ro' M x s.heap
 ob:∀x,ob=some x->m2.size<=x/\ro' x=8/\cE M x iu z7
section
variable{h:E}{i:Nat->Nat}{m g:E}{s:St}{f:Nat->Nat}{M:E}{q r:Option O}{j:Option Nat}
def Nh.gX(k:Nh h i m g s f M q r j)(n:dp (λa=>a=3) f M d e)(p:J M e)(C:∀b,m.size<=b->b<g.size->d b=8){u o:Option O}{t:Option Nat}(z:r=none\/dp (λ_=>False) f M d e)(B:o=none->∀b,d b≠3)
 (w:∀x,u=some x->q=some x\/iF d e aA 1 2 x (s.aT.map Ce.i))(y:∀x,o=some x->r=some x\/dJ h.size d e x s.heap)(A:∀x,t=some x->j=some x\/(g.size<=x/\d x=8/\cE e x iu z7)):Nh h i m g s d e u o t:=
 ⟨k.eH.trans (n.mono λa c=>V),k.ext.trans p,B,C,λx c=>(w x c).elim (λa=>(k.aT x a).eH n bh) id,
  λx c=>(y x c).elim (λa=>z.elim (λl=>by rw[l]at a;cases a) λl=>(k.heap x a).eH l id id) id,
  λx c=>(A x c).elim (λa=>by
   let⟨v,b,l⟩:=k.ob x a;exact⟨v,by rw[n.gT _ l.lt];exact b,l.ext p⟩) id⟩
def Nh.RC(a:Nh h i m g s f M q r j){p:Nat->Prop}(l:dp p f M d e):∀b,m.size<=b->b<g.size->d b=8:=λb k c=>by rw[l.gT b (a.ext.lt c)];exact a.box b k c
def Nh.c(b:Nh h i m g s f M none r j){x:O}(n:gV M e aA 1 x (s.aT.map Ce.i))(k:J M e):∃d,Nh h i m g s d e (some x) r j:=by
 let⟨d,C,A,l⟩:=gV.Dt n k b.eH.new 2;exact⟨d,b.gX (C.mono λ_=>False.elim) k (b.RC C) (Or.inr C) (λa c=>O6 (l c) (b.Zo a c)) (λy a=>Or.inr (by simp at a;subst a;exact A)) (λy a=>Or.inl a) λy a=>Or.inl a⟩
def Nh.a(b:Nh h i m g s f M q r j)(c:J M e):Nh h i m g s f e q r j:=
 have C:dp (λ_=>False) f M f e:=dp.eG _ c b.eH.new
 b.gX (C.mono λ_=>False.elim) c (b.RC C) (Or.inr C) b.Zo (λy a=>Or.inl a) (λy a=>Or.inl a) λy a=>Or.inl a
def Nh.b(b:Nh h i m g s f M q r none){e:E}(a:e=M.push (.cells (bt z7) iu)):∃d,Nh h i m g s d e q r (some M.size):=by
 have l:J M e:=by rw[a];exact J.push _ _
 have C:dp (λ_=>False) f M (nX f M.size 8) e:=dp.nX l b.eH.new (ad _) (by rw[a];simp) 8;refine⟨_,b.gX (C.mono λ_=>False.elim) l (b.RC C) (Or.inr C) (λn c=>?_) (λy a=>Or.inl a) (λy a=>Or.inl a) λy j=>Or.inr ?_⟩
 .by_cases k:c=M.size
  .rw[k,fH];decide
  .rw[eU k];exact b.Zo n c
 .simp at j;subst j;exact⟨b.ext.size,fH _ _ _,by rw[a];exact cE.push _ _ _⟩
end
def pO{w:E}{u:Nat->Nat}{a:E}{aT hp fr:O}{s:St}(aj:Bs w u a)(au:∀c,u c<=1)(hs:gD a aT hp fr s)(ag:zo s):aN cg 37 [MY s aT hp fr] a (Vo w u a s):=by
 apply Ay;simp -zeta only[aC,aB];intro v i;have s1:v.size=a.size+1:=by simp[v]
 have s2:i.size=a.size+2:=by simp[i,s1]
 have x2:J a i:=((J.az a).aK _).aK _;obtain⟨d,an⟩:∃d,d=nX (nX u a.size 8) v.size 8:=⟨_,rfl⟩;have C2:dp (λ_=>False) u a d i:=by
  rw[an];exact(dp.nX (m':=v) (k:=8) ((J.az a).aK _) aj.new (ad _) V).trans (dp.nX (m':=i) (k:=8) ((J.az v).aK _) (λc K=>by rw[eU V];exact aj.new c V) (ad _) V)
 have r0:d a.size=8/\d v.size=8:=by rw[an];exact⟨by rw[eU V,fH],fH _ _ _⟩
 have I:Nh w u a i s d i none none none:=by
  refine⟨C2.mono λ_=>False.elim,J.az _,λ_ c=>?_,λc h1 h2=>?_,aL,aL,aL⟩
  .rw[an];unfold nX;split
   .decide
   .split
    .decide
    .have:=au c;omega
  .rcases aW c v.size with h|h
   .have:c=a.size:=V;subst this;exact r0.1
   .have:c=v.size:=V;subst this;exact r0.2
 clear_value i;clear an;have hN:=aj.cx.size;have a_:=ag.aT;have a9:=ag.heap;have a6:=ag.depth;have cC:∀{b:Nat->Nat}{M:E}{j:Option O}{l:Option Nat}{Z:Value->E->Prop},Nh w u a i s b M none j l->(∀A g F,Nh w u a i s F g (some A) j l->J M g->M.size<=g.size->Z (O.v A) g)->aN cg 68 [O.v aT] M Z:=λh hK=>
  (gR (hs.aT.ext (x2.trans h.ext)) V).mono λ_ g⟨A,p,z,y⟩=>by
   let⟨F,h'⟩:=h.c z y;rw[p];exact hK A g F h' y y.size
 have cH:∀{b:Nat->Nat}{M:E}{q:Option O}{l:Option Nat}{Z:Value->E->Prop},Nh w u a i s b M q none l->(∀A g F,Nh w u a i s F g q (some A) l->J M g->M.size<=g.size->Z (O.v A) g)->aN cg 69 [O.v hp] M Z:=λ{b M q l Z} h hK=>
  (Ij (N:=w.size) h.eH.new (λc _=>h.Zo rfl c) (hs.ext (x2.trans h.ext)).heap (oh h.ext.size) ag.fl V).mono λ_ g⟨F,A,p,aP,ak,y⟩=>by
   rw[p];exact hK A g F (h.gX ak y (h.RC ak) (Or.inl rfl) (λp=>by cases p) (λe p=>Or.inl p) (λe p=>Or.inr (by simp at p;subst p;exact aP)) λe p=>Or.inl p) y y.size
 have kp:∀{M g:E},J M g->i.size<=M.size->∀L,af g a.size L=af M a.size L:=λy aA L=>aJ (y.same _ V) L;refine⟨λz M=>z.2=0/\∃b q j fb,Um w u a b M q j s/\i.size<=z.1/\i.size<=M.size/\b z.1=8/\b a.size=8/\b v.size=8/\cE M z.1 iu [.i s.cz,.i s.value,.i s.bu,.i s.dR,.s q,.s j,.s (.mk fb 0 0 0)],?_,?_⟩
 .have iH:∀{b:Nat->Nat}{M:E}{q j:O}{l fb:Nat},Nh w u a i s b M (some q) (some j) (some l)->(λ(z:Nat×Nat) M=>z.2=0/\∃b q j fb,Um w u a b M q j s/\i.size<=z.1/\i.size<=M.size/\b z.1=8/\b a.size=8/\b v.size=8/\cE M z.1 iu [.i s.cz,.i s.value,.i s.bu,.i s.dR,.s q,.s j,.s (.mk fb 0 0 0)]) (l,0) (ah M l 0 [.i s.cz,.i s.value,.i s.bu,.i s.dR,.s q,.s j,.s (.mk fb 0 0 0)]):=λ{b M q j l fb} h=>by
   let⟨G,c,ar⟩:=h.ob l rfl;have ak:dp (λe=>e=8) b M b (ah M l 0 [.i s.cz,.i s.value,.i s.bu,.i s.dR,.s q,.s j,.s (.mk fb 0 0 0)]):=dp.ah h.eH.new c _ _;exact⟨rfl,b,q,j,fb,(⟨h.eH,h.aT q rfl,h.heap j rfl⟩:Um w u a b M q j s).lC ak λe hk=>V,G,by rw[aw];exact h.ext.size,c,h.box _ V V,h.box _ V V,cE.ah (m:=M) (o:=0) ar⟩
  have t:i.size<=i.size:=ad _;repeat' first
   |exact iH I
   |(refine cC I ?_;intro A g F I B C;have D:=t;have t:=bH t C)
   |(refine cH I ?_;intro A g F I B C;have D:=t;have t:=bH t C)
   |(intro C;have B:J _ C:=(J.az _).aK _;have H:Array.size C=_+1:=Array.size_push _;have D:=t;have t:=bH t B.size;first|(obtain⟨F,I⟩:=I.b (e:=C) rfl;clear_value C)|(have I:=I.a B;clear_value C))
   |(refine And.intro (kp B D _) ?_)
   |(refine And.intro (J.dv B λc K=>by simp at K;omega) ?_)
   |(refine⟨_,rfl,?_⟩)
   |(refine And.intro ?_ ?_)
 .rintro⟨l,oo⟩ m3 ⟨rfl,a4,q,j,fb,K3,aS,z3,r3,a1,a2,aE⟩;simp only[]at aS r3 aE;have aQ:∀{b:Nat->Nat}{M:E},WD u a b M->J a M:=λar=>(ar.none λc _=>au c).uN;have a8:=hs.ao.len;simp -zeta only[bT];refine dU (n:=s.ao.length) V (λe M=>∃b fc,Um w u a b M q j s/\nE b M fc (s.ao.take e)/\i.size<=M.size/\b l=8/\b a.size=8/\b v.size=8/\cE M l iu [.i s.cz,.i s.value,.i s.bu,.i s.dR,.s q,.s j,.s fc])
   ⟨a4,_,K3,⟨[],⟨aL,aL,Or.inl rfl⟩,aL,aL,aL⟩,z3,r3,a1,a2,aE⟩ ?_
  rintro e D a5 μ hk ⟨W,fc,K9,F9,z9,r9,a3,aG,C⟩ aX
  have en:Int.toNat (e:Int)=e:=V;rw[en];have H:=aQ K9.eH;have ba:=C.lt;refine dit (λh1=>?_) λh1=>?_
  .have aR:e<s.ao.length:=V;let⟨ae,hf⟩:=dB aR;have a7:=ag.ao ae (aq hf);let⟨ra,oa,ha,ir,io,ih,g0,g1,g2,g3,g4,g5⟩:=hs.ao.aF hf;refine⟨V,V,_,H.af g0,_,H.af g1,_,H.af g2,ra,H.af g3,oa,H.af g4,ha,H.af g5,?_⟩;intro av aa;have ai:J D aa:=((J.az D).aK _).ah (ad _) _ _;have bg:aa.size=D.size+1:=by simp[aa,av,aw]
   clear_value aa;have ay:dp (λ_=>False) W D (nX W D.size 8) aa:=dp.nX ai K9.eH.new (ad _) V 8;have t:∀{M g:E}{c:Nat},J M g->c<M.size->∀L,af g c L=af M c L:=λy aA L=>aJ (y.same _ aA) L;have bl:∀{M:E},aa.size<=M.size->∀c∈[D.size,v.size,a.size],c<M.size:=λh c K=>by simp at K;omega
   refine⟨fc,(C.ext ai).bZ 6,(gR (ir.ext (H.trans ai)) V).mono ?_⟩;rintro _ bb ⟨qr,rfl,aY,B⟩;obtain⟨be,ap,aI,_⟩:=gV.Dt aY B ay.new (10+3*e);have bj:=B.size;refine⟨B.dv (bl (ad _)),qr,rfl,t B V _,t B V _,t B V _,t B V _,t B V _,t B V _,(gR (io.ext (H.trans (ai.trans B))) V).mono ?_⟩;rintro _ bc ⟨qo,rfl,aZ,P⟩;obtain⟨bf,al,aK,_⟩:=gV.Dt aZ P ap.new (11+3*e);have bk:=P.size;refine⟨P.dv (bl V),qo,rfl,t P V _,t P V _,t P V _,t P V _,t P V _,(gR (ih.ext (H.trans (ai.trans (B.trans P)))) V).mono ?_⟩;rintro _ S ⟨qh,rfl,a0,X⟩;obtain⟨U,ab,aM,_⟩:=gV.Dt a0 X al.new (12+3*e);have bm:=X.size;refine⟨X.dv (bl V),qh,rfl,t X V _,t X V _,t X V _,t X V _,?_⟩;intro T;have aH:J S T:=(J.az S).aK _;have bh:T.size=S.size+1:=by simp[T]
   have aV:cE T S.size dO [.i ae.fE,.i ae.pc,.i ae.dst,.s qr,.s qo,.s qh]:=cE.push S _ _;clear_value T;have ac:dp (λ_=>False) U S U T:=dp.eG _ aH ab.new;have Y:dp (λ_=>False) W D U T:=(((ay.trans ap).trans al).trans ab).trans ac;have Q:U D.size=8/\U a.size=8/\U v.size=8/\U l=8:=⟨by rw[ab.gT _ V,al.gT _ V,ap.gT _ V];exact fH _ _ _,by rw[Y.gT _ V];exact a3,by rw[Y.gT _ V];exact aG,by rw[Y.gT _ V];exact r9⟩;have tk:(s.ao.take e).length=e:=bE;refine⟨t aH V _,nE.push (a:=ae) (F9.eH Y λ_ _=>id) ac.new (x:=.mk S.size 0 1 1) rfl aV.iA (by rw[tk];exact(((aI.eH al id).eH ab id).eH ac id)) (by rw[tk];exact(aK.eH ab id).eH ac id) (by rw[tk];exact aM.eH ac id) V λR az ao aO G=>?_⟩;have bn:=G.size;have am:R D.size=8/\R a.size=8/\R v.size=8/\R l=8:=⟨by rw[G.gT _ V];exact Q.1,by rw[G.gT _ V];exact Q.2.1,by rw[G.gT _ V];exact Q.2.2.1,by rw[G.gT _ V];exact Q.2.2.2⟩;have aD:cE ao l iu [.i s.cz,.i s.value,.i s.bu,.i s.dR,.s q,.s j,.s fc]:=(C.ext Y.uN).congr (G.eA _ V (by rw[Q.2.2.2];decide));refine⟨G.aae λc K=>by simp at K;rcases K with p|p|p<;>rw[p]<;>refine⟨V,?_⟩<;>simp[Q.1,Q.2.1,Q.2.2.1],aD.fJ aL,?_⟩;intro aF;have ax:dp (λe=>e=8) R ao R aF:=dp.ah G.new (show(λe=>e=8) (R l)from am.2.2.2) _ _;have bi:aF.size=ao.size:=aw _ _ _ _;refine⟨λc K=>bd _ _ _ _ (by simp at K;omega),aX V _ ⟨R,az,((K9.lC Y λ_=>False.elim).lC G λe hk=>V).lC ax λe hk=>V,?_,V,am.2.2.2,am.2.1,am.2.2.1,cE.ah (m:=ao) (o:=6) (r:=[.s az]) aD⟩⟩;rw[aU hf];exact aO.eH ax λe hk=>V
  .rw[bX V]at F9;refine⟨_,C.bZ 0,_,C.bZ 1,_,C.bZ 2,_,C.bZ 3,_,C.bZ 4,_,C.bZ 5,_,C.bZ 6,?_⟩;intro av;have B:dp (λe=>e=8) W D W av:=dp.ah K9.eH.new (show(λe=>e=8) (W v.size)from aG) _ _;have t:=K9.lC B λe hk=>V;have G:=t.eH.none λc _=>au c;exact⟨W,q,j,fc,rfl,⟨aj.eH G,t.aT,t.heap,F9.eH B λe hk=>V⟩,G⟩
end
end Go.Proofs.YtkicoahejfbjhaaGreat
