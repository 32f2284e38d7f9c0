/- Part of a proof, joined by a program. -/
import Derived.Carry
import Derived.ChangeSame
import Derived.ChangeSlices
import Derived.Deep.Slices
import Derived.OpenShut
import Derived.RowKit
import Derived.WideShapes
import Derived.Test.YtgnjacfobdjeeaaGreatW01
import Derived.Test.YtgnjacfobdjeeaaGreatW08
import Derived.Test.YtgnjacfobdjeeaaGreatW13
import Derived.Test.YtgnjacfobdjeeaaGreatW18
import Derived.Test.YtgnjacfobdjeeaaGreatW19
set_option linter.unusedVariables false
set_option linter.unusedSimpArgs false
set_option linter.defProp false
set_option linter.constructorNameAsVariable false
set_option maxHeartbeats 8000000
set_option maxRecDepth 100000
namespace Go.Proofs.YtgnjacfobdjeeaaGreat
open Go.Vc
section
section
variable{a:I}
def yw{cL:O}(h:y8 a cL):aO cw 3 [O.v cL] a (Y7 a):=by
 apply uO;simp(config:={maxSteps:=1000000}) -zeta only[aD,aC];refine⟨λ_=>⟨rfl,J.aB _⟩,λ_=>?_⟩;refine(oD h).mono λ_ f⟨F,R,c,k,e,H,w⟩=>⟨F,R,k,e,?_⟩;have u:eu f F R c:=⟨H.aT.le (bD _ _),iS.le (bD _ _) H.cA⟩;intro m2 p;have S:J f p:=(J.push f _).ai (ad _) _ _;have z3:p.size=f.size+1:=by simp[p,m2,av]
 clear_value p;refine(nU (u.ext S) k).mono λ_ j⟨af,e,N,A⟩=>⟨A.dm bJ,_,_,_,af,_,e,?_⟩;intro m5 q;have U:J j q:=(J.push j _).ai (ad _) _ _;have z6:q.size=j.size+1:=by simp[q,m5,av]
 clear_value q;have z4:=A.size;have E:=(S.trans A).trans U;refine(qt (u.ext E) k).mono λ_ l⟨ai,e,hw,s⟩=>⟨s.dm bJ,_,_,_,ai,_,e,?_⟩;intro m8 g;have B:J l g:=(J.push l _).ai (ad _) _ _;have z9:g.size=l.size+1:=by simp[g,m8,av]
 clear_value g;have z7:=s.size;have K:∀b∈[l.size,j.size,f.size],b<g.size:=bJ;have T:=(U.trans s).trans B;have V:=(E.trans s).trans B;have G:∀{M:I},J g M->_:=λ{M} x=>kE (m:=M) (N.2.1.ext (T.trans x)) (hw.2.1.ext (B.trans x)) (fB c k).bU (fB c k).value (fB c k).bq (fB c k).bU (fB c k).value (fB c k).bq;refine(G (J.aB _)).aI (J.aB _) K λb aj d n _=>⟨b,rfl,?_⟩;obtain rfl:=d.2 ⟨rfl,rfl,rfl,rfl⟩;have t:=V.trans n;refine⟨λh=>by simp at h,λ_=>⟨λh=>by simp at h,λ_=>⟨λhn=>?_,λhy=>?_⟩⟩⟩
 ·refine(G n).aI n K λb o d i _=>⟨b,rfl,λ_=>⟨D,(w.trans t).trans i⟩,λh=>?_⟩;rw[d.2 ⟨rfl,rfl,rfl,rfl⟩]at h;simp at h
 have ab:(fB c k).ok=true:=by simpa using hy
 obtain⟨ag,iV,aa⟩:=PZ ab;have uG:=n.size;refine(nU (u.ext t) 40).mono λ_ o⟨ah,e,hq,r⟩=>⟨r.dm bJ,_,_,_,ah,_,e,?_⟩;intro ac i;have y:J o i:=(J.push o _).ai (ad _) _ _;have al:i.size=o.size+1:=by simp[i,ac,av]
 clear_value i;have ak:=r.size;have L:∀b∈[o.size,l.size,j.size,f.size],b<i.size:=bJ;have C:=(t.trans r).trans y;have P:=N.2.1.ext (((T.trans n).trans r).trans y);have Q:=hq.2.1.ext y;refine⟨λh=>by rw[ag]at h;simp at h,λ_=>⟨λv=>?_,λv=>?_⟩⟩
 ·obtain⟨W,X,Y,Z⟩:=iV (by simpa using v);exact(kE Q P _ _ _ _ _ _).aI (J.aB _) L λb ae d z _=>⟨b,rfl,by rw[d.2 ⟨W,X,Y,Z⟩],(w.trans C).trans z⟩
 ·obtain⟨W,X⟩:=aa (by simpa using v);exact⟨λ_=>(G5 P Q).aI (J.aB _) L λb ae d z _=>⟨b,rfl,by rw[d.2 X],(w.trans C).trans z⟩,λh=>by simp[W]at h⟩
end
end
end Go.Proofs.YtgnjacfobdjeeaaGreat
section
namespace Go.Vc
variable{t:TypeId}{a:Addr}
open Go.ChangeShapes Go.WideShapes Go.RowKit
section
variable{H:Type}{b:TypeId×Value->H}{P:Program}{w:World}
def R8(b:TypeId×Value->H)(P:Program)(w:World)(t:TypeId)(Q:List Ce->Prop):Prop:=
 ∀(n:Nat)(a:List Value)(x:DataW H×List MemPlace),DataW.trod b P w 0 (λ_=>true) true n t a=some x->∃c,a=c.map Ce.v/\Q c
def R8.mono{Q Q':List Ce->Prop}(h:R8 b P w t Q)(f:∀a,Q a->Q' a):R8 b P w t Q':=λn a x g=>
 let⟨c,d,e⟩:=h n a x g
 ⟨c,d,f _ e⟩
def Rg{v:Value}(h:w.cell? a=some v):a.spot=none:=by
 unfold World.cell? at h;split at h
 ·split at h
  ·cases h
  ·rename_i b;simpa using b
 ·cases h
def Re(h:a.spot=none)(i:Nat):a.add i=⟨a.block,a.off+i,none⟩:=by
 obtain⟨c,o,s⟩:=a;simp only at h;subst h;unfold Addr.add;by_cases b:i=0
 ·subst b;simp
 ·simp[b]
end
section
variable{H:Type}{b:TypeId×Value->H}{P:Program}
def CX(l:laidOutB P=true){W j:World}(k:Below W.heap.size W j):∀{f:List TypeId}{i:List Value}{g:List (DataW H)}{d:List MemPlace},
 (f.all λt=>P.readableRec t&&decide (t<P.types.size))=true->DataW.TrodAll b P W 0 (λ_=>true) true f i g d->(∀x∈d,x.block<W.heap.size)->∀e:Nat->Bool,(∀p∈d,e p.block=true)->
 DataW.TrodAll b P j 0 e true f i g d
 |[],_,_,_,_,h,_,_,_=>by
  obtain⟨rfl,rfl,rfl⟩:=trodAll_nil h;exact trodAll_mk0
 |t::f,_,_,_,c,h,m,e,n=>by
  obtain⟨v,i,s,g,p,r,rfl,rfl,rfl,o,q⟩:=trodAll_cons h;simp only[MX,bM,au]at c;exact⟨p,r,WideElems.Trod_stays l c.1.1 c.1.2 o (λx a=>k.same (m x (by simp[a]))) (λx a=>n x (by simp[a])),CX l k (by simpa using c.2) q (λx a=>m x (by simp[a])) e (λx a=>n x (by simp[a])),rfl⟩
def uS{f:Func}{s:ChangeSpec}{W g:World}{i:Array Value}{d:List (DataW H)}{o:List MemPlace}
 (K:laidOutB P=true)(M:(f.params.toList.all λt=>P.readableRec t&&decide (t<P.types.size))=true)(A:f.resultTypes=#[t])(v:P.underlying t=some .bool)(C:s.vars=[])
 (j:DataW.Whole b P f.params.toList s.vars false W i.toList d [] o)(G:(s.fn H (d++[])).args=d)(I:(s.fn H (d++[])).results=[.lit (.bool true)])(J:(s.fn H (d++[])).vars=[])
 (k:Below W.heap.size W g):s.post b P f false true false false W i (.bool true) g:=by
 have h:∀a∈o,a.block<W.heap.size:=λa l=>by simpa using j.lt a l
 have r:=j
 obtain⟨a,O,F,q,rfl,D,N⟩:=j
 rw[C]at q
 obtain⟨_,rfl⟩:=trodVars_none q
 simp only[dI]at h D r
 have u:∀c:Nat->Bool,(∀x∈a,c x.block=true)->DataW.TrodAll b P g 0 c true f.params.toList i.toList (s.fn H (d++[])).args a:=λc L=>by
  rw[G];exact CX K k M F h c L
 have B:∀c:Nat->Bool,DataW.TrodVars b P g c s.vars (s.fn H (d++[])).vars []:=λc=>by rw[C,J];rfl
 have z:∀(e:Nat)(c:Nat->Bool)(w:Bool),DataW.TrodAll b P g e c w f.resultTypes.toList ((Value.bool true).resultList f.resultTypes.size) (s.fn H (d++[])).results []:=λe c w=>by
  rw[I,A];exact trodAll_cons_mk (shut_bool v _) trodAll_mk0
 refine⟨d,[],a,[],a,[],r,z _ _ _,u _ (λx m=>by simpa using h x m),B _,k.frame _,λ_=>?_⟩
 refine⟨ok_one A rfl (okWide_bool_mk v _),_,_,([]++a)++[],⟨[]++a,[],trodAll_append (u _ (λ_ _=>rfl)) (z _ _ _),B _,rfl,?_,λE=>by cases E⟩,?_⟩
 ·intro e n l
  have y:MemPlace.cell e n∈a:=by simpa using l
  rw[k.frozen (p:=⟨e,n,none⟩) (h _ y)]
  exact D e n y
 ·intro x m _
  simpa using m
end
end Go.Vc
end
section
namespace Go.Proofs.YtgnjacfobdjeeaaGreat
open Go.Vc Go.ChangeShapes
def Hc{H:Type}{x:TypeId×Value->H}{P:Program}{w:World}{t e r:Nat}{v:Value}{u:DataW H}{I:List MemPlace}(p:P.underlying t=some (.slice e))(B:P.underlying e=some (.int .u8))(A:P.cellsOf e=1)
 (E:Value.okWide P w .any r t v)(y:DataW.Trod x P w 0 (λ_=>true) true t v u I):∃s,v=O.v s/\y8 w.heap s:=by
 obtain⟨J,q,h,rfl⟩:=Go.WideShapes.okWide_slice p E
 obtain⟨L,C⟩:=y
 rcases open_ints p B A C with⟨b,_⟩|⟨d,N,K,g,b,_,D,M,G,_,l,F⟩
 ·simp[Value.cells]at b
  obtain⟨rfl,rfl,rfl⟩:=b
  exact⟨.nil,rfl,ad _,λk a=>by simp at a⟩
 ·simp[Value.cells]at b
  obtain⟨rfl,rfl,rfl⟩:=b
  simp only[PF]at G
  rcases jT h with i|i
  ·subst i
   have:q=0:=V
   subst this
   obtain⟨c,o,s⟩:=d
   cases s with
   |none=>exact⟨.mk c o 0 0,rfl,ad _,λk a=>by simp at a⟩
   |some f=>exact⟨.zn c o f,rfl,ad _,λk a=>by simp at a⟩
  ·have z:=l 0 V
   have n:d.spot=none:=by
    have:=Rg z;simpa[Addr.add]using this
   obtain⟨c,o,s⟩:=d
   simp only at n
   subst n
   refine⟨.mk c o q h,rfl,D,λk a=>?_⟩
   simp only[O.iE]at a
   have m:k<g.length:=V
   have j:=l k m
   have f:=F (g.getD k 0) (by rw[fI,List.getElem?_eq_getElem m];simp)
   rw[Lit.wf,bM,au,au]at f
   refine⟨g.getD k 0,f.1,f.2,?_⟩
   ·rw[Re rfl,zl]at j
    simpa using j
end Go.Proofs.YtgnjacfobdjeeaaGreat
end
namespace Go.Proofs.YtgnjacfobdjeeaaGreat
open Go.Vc
section
variable{c:I}{b:Nat->Nat}{a e:Nat}{f:List Ce}
def pR.Vd{m:I}{aW i d:O}{s:St}(h:pR c b m aW i d s)(g:b a=1)(l:List Ce)(p:cF (ai m a 0 l) a e f):tJ c b (ai m a 0 l) a e f aW i d s.aW s.heap s.az:=by
 have C:dv (λk=>k=1) b m b (ai m a 0 l):=dv.ai h.bs.new g _ _;obtain⟨j,n⟩:=(C.mono λk o=>by omega:To b m b _).bY h.bs.bY h.bs.jK;exact⟨j,n,C.new,p,g,h.aW.eV C bh,h.heap.eV C bh bh,h.az.eV C λk o=>V⟩
def tJ.ZW{m:I}{aW g d:O}{s:St}(L:tJ c b m a e f aW g d s.aW s.heap s.az):pR c b m aW g d s:=⟨⟨L.bY,L.jK,L.new⟩,L.aW,L.heap,L.az⟩
section
variable{h:I}{d p aW j i:O}{g:cH}{s:St}
def MkL(a:I)(d p:O)(g:cH)(s:St)(o:Nat×Nat)(M:I):Prop:=o.2=0/\∃b aW j i,tJ a b M o.1 bu (IB d p (bI g) s aW j i) aW j i s.aW s.heap s.az
abbrev uG:List Ce:=[.s O.nil,.s O.nil,.i 0,.i 0,.i 0,.i 0,.i 0,.s O.nil,.s O.nil,.s O.nil]
variable(k:eu h d p g)(q:gH h aW j i s)(l:Nb s)(r:s.aW.length<=10000000)
include k q l r
def vy(S:Int):aO cw 26 [.agg #[O.v d,O.v p],Tz s aW j i,vi S] h (V7 h (ID g s S)):=by
 apply Bz;simp -zeta only[aD,aC];intro X R Y;have s1:X.size=h.size+1:=by simp[X]
 have s2:R.size=h.size+2:=by simp[R,s1]
 have s3:Y.size=h.size+3:=by simp[Y,s2]
 have T:J h Y:=(((J.aB h).aK _).aK _).aK _;clear_value Y;have P:∀v∈[R.size,X.size,h.size],v<Y.size:=bJ;refine(Dm (k.ext T) (q.ext T) l).aI (J.aB _) P λb4 D ak K _=>⟨b4,rfl,λh1=>?_,λh1=>?_⟩
 ·exact Oc T K V (by unfold ID;rw[ae λc=>nb ak h1 c.1]) _
 have W:=yb ak h1;refine⟨λh2=>Oc T K V (by unfold ID;rw[ae λc=>by simp at h2;omega]) _,λh2=>⟨λU=>Oc T K V (by unfold ID;rw[ae λc=>by simp at U;omega]) _,λU=>?_⟩⟩;have hm:0<=S/\S<=100000:=by simp at h2 U;omega
 obtain⟨A,rfl⟩:∃A:Nat,S=A:=⟨S.toNat,V⟩;have hr:ID g s (A:Int)=⟨aA g A s,true⟩:=by unfold ID;rw[ao ⟨W,hm⟩];simp
 rw[hr];have X4:=T.trans K;have z4:=K.size;have aj:=We l r;have aw:=W.lE aj V;have ht:=W.fe.mw.types;have cc:∀{M:I},J D M->EH cw 29 [O.v d] M (vi (bI g)):=λQ=>mX (k.ext (X4.trans Q)).aT ht.len (λc f=>JC ht c f);have c:∀{M x:I}{v:Nat},J M x->v<M.size->∀L,af x v L=af M v L:=λQ aq L=>aN (Q.same _ aq) L;have cl:∀{b:Nat->Nat}{M:I}{ah:Value->I->Prop},Bs D b M->(∀v,b v<=1)->(∀aa B z y x,pR D aa x B z y s->dv (λ_=>False) b M aa x->J M x->M.size<=x.size->ah (Tz s B z y) x)->aO cw 46 [Tz s aW j i] M ah:=λag av hK=>
  (Dq ag av (q.ext (X4.trans ag.bY)) aw).mono λ_ x⟨aa,B,z,y,e,an,ab⟩=>by rw[e];exact hK aa B z y x an ab ab.Gk ab.size
 have al:∀{M x:I},J D M->x=M.push (.cells (bG uG) bu)->Bs D (pT (λ_=>0) M.size 1) x/\(∀v,pT (λ_=>0) M.size 1 v<=1)/\cF x M.size bu uG:=λQ e=>by
  have hz:=Q.size;subst e;refine⟨⟨Q.aK _,λv C=>eM V,λv C=>eM (by simp at C;omega)⟩,λv=>?_,cF.push _ _ _⟩;unfold pT;split
  ·omega
  ·exact eJ _
 refine⟨MkL D d p g s,⟨?_,?_⟩,?_⟩
 ·refine(cc (J.aB _)).mono ?_;rintro _ F ⟨rfl,u⟩;have z5:=u.size;refine⟨u.dm λv C=>K.lt (P v C),_,rfl,c u V _,c u V _,c u V _,c u V _,c u V _,c u V _,c u V _,c u V _,c u V _,?_,?_⟩
  ·refine cl (b:=λ_=>0) ⟨u,λ_ _=>rfl,λ_ _=>rfl⟩ (λ_=>eJ _) λH B z y t G C6 f z6=>?_;refine⟨f.dm λv C=>u.lt (K.lt (P v C)),_,_,_,_,B,z,y,rfl,c f V _,c f V _,?_⟩;intro N;have w:J t N:=J.push t _;have E:cF N t.size bu uG:=cF.push t _ _;refine⟨c w V _,c w V _,c w V _,c w V _,c w V _,c w V _,c w V _,c w V _,c w V _,c w V _,rfl,pT H t.size 1,B,z,y,?_⟩;have Z:J t (ai N t.size 0 [.s d,.s p,.i (bI g),.i s.bU,.i s.value,.i s.bq,.i s.bA,.s B,.s z,.s y]):=w.ai (ad _) _ _;exact G.cO Z (ad _) (cF.ai (m:=N) (o:=0) E)
  ·intro t;have f:J F t:=J.push F _;have s6:t.size=F.size+1:=by simp[t]
   obtain⟨B6,ac,E⟩:=al (x:=t) u rfl;clear_value t;refine⟨c f V _,c f V _,c f V _,c f V _,c f V _,c f V _,c f V _,c f V _,c f V _,c f V _,cl B6 ac λZ B z y N N7 G w z7=>?_⟩;refine⟨w.dm bJ,_,_,_,_,B,z,y,rfl,c w V _,c w V _,rfl,Z,B,z,y,?_⟩;exact N7.Vd (by rw[G.iW _ V];exact gJ _ _ _) _ (cF.ai (m:=N) (o:=0) (E.ext w))
 ·intro F;have u:J D F:=J.push D _;have s5:F.size=D.size+1:=by simp[F]
  obtain⟨B5,ac,E⟩:=al (x:=F) (J.aB D) rfl;clear_value F;refine⟨c u V _,c u V _,c u V _,c u V _,c u V _,c u V _,c u V _,c u V _,c u V _,c u V _,(cc u).mono ?_⟩;rintro _ t ⟨rfl,f⟩;have z6:=f.size;refine⟨f.dm bJ,_,rfl,c f V _,c f V _,c f V _,c f V _,c f V _,c f V _,c f V _,c f V _,c f V _,cl (B5.eV (dv.eN _ f B5.new)) ac λZ B z y N N7 G w z7=>?_⟩;refine⟨w.dm bJ,_,_,_,_,B,z,y,rfl,c w V _,c w V _,rfl,Z,B,z,y,?_⟩;exact N7.Vd (by rw[G.iW _ V];exact gJ _ _ _) _ (cF.ai (m:=N) (o:=0) (E.ext (f.trans w)))
 ·rintro⟨a,mo⟩ F ⟨rfl,am,o5,h5,f5,L5⟩;simp only[]at L5;have B5:xZ am F [R.size,X.size,h.size]:=λv C=>⟨L5.bY.lt (K.lt (P v C)),L5.jK v (K.lt (P v C))⟩;have ic:∀{f:Nat}{t:I},aA g A s=aA g f s->(∃H G E w,tJ D H t a bu (IB d p (bI g) (aA g f s) G E w) G E w (aA g f s).aW (aA g f s).heap (aA g f s).az)->
   ∃v0:Int,af t a (0+3)=some (vi v0)/\∃v1:Int,af t a (0+3+1)=some (vi v1)/\∃v2:Int,af t a (0+3+2)=some (vi v2)/\∃v3:Int,af t a (0+3+3)=some (vi v3)/\
   ∃v4:O,af t a (0+3+4)=some (O.v v4)/\∃v5:O,af t a (0+3+5)=some (O.v v5)/\∃v6:O,af t a (0+3+6)=some (O.v v6)/\
   V7 h ⟨aA g A s,true⟩ (.tuple #[.agg #[vi v0,vi v1,vi v2,vi v3,O.v v4,O.v v5,O.v v6],vb true]) (ai t R.size 0 [.i v0,.i v1,.i v2,.i v3,.s v4,.s v5,.s v6]):=λ{f t} e⟨H,G,E,w,u⟩=>by
   rw[e]
   exact⟨_,u.box.cp 3,_,u.box.cp 4,_,u.box.cp 5,_,u.box.cp 6,G,u.box.cp 7,E,u.box.cp 8,w,u.box.cp 9,H,G,E,w,rfl,u.ZW.box X4 V V _ _⟩
  refine⟨λL M=>∃f:Nat,L=f/\f<=A/\∃H G E w,tJ D H M a bu (IB d p (bI g) (aA g f s) G E w) G E w (aA g f s).aW (aA g f s).heap (aA g f s).az,λL _=>((A:Int) -L).toNat,⟨0,rfl,eJ _,am,o5,h5,f5,L5⟩,?_⟩;rintro L t ⟨f,rfl,hk,H,G,E,w,u⟩;have ar:=rp f W;have ac:=AY f W aj V;have B6:xZ H t [R.size,X.size,h.size]:=λv C=>⟨u.bY.lt (K.lt (P v C)),u.jK v (K.lt (P v C))⟩;refine⟨λh7=>⟨_,u.box.cp 3,λh8=>?_,λh8=>?_⟩,λh7=>?_⟩
  ·simp only[au]at h7;refine(Fj u (k.ext X4) ar ac.Dj (by have:=ac.heap;omega) (by have:=ac.aW;omega)).mono ?_;rintro _ N ⟨Z,o7,ap,f7,L7,t7⟩;have e:cW ((f:Int)+1)=((f+1:Nat):Int):=ka (n:=A) V V;rw[e];refine⟨t7.dF B6,⟨f+1,rfl,V,Z,o7,ap,f7,by rw[oF];exact L7⟩,?_⟩;show((A:Int) -((f+1:Nat):Int)).toNat<((A:Int) -(f:Int)).toNat;omega
  ·simp at h8;refine ic ?_ ⟨H,G,E,w,u⟩;have U:A=f+(A -f):=V;rw[U,H9,ms _ h8]
  ·simp only[bH]at h7;have:f=A:=V;subst this;exact ic rfl ⟨H,G,E,w,u⟩
end
end
section
section
variable{b:I}{d p:O}{a:cH}
def sV(t:eu b d p a)(k:gP a){bA:Int}(A:0<=bA/\bA<=40):aO cw 25 [.agg #[O.v d,O.v p],vi bA] b λG u=>∃c,G=.tuple #[Tz (fj a bA) .nil .nil c,vb true]/\gH u .nil .nil c (fj a bA)/\J b u:=by
 apply yf;simp -zeta only[aD,aC];intro e l;have W:e.size=b.size+1:=by simp[e]
 have C:cF l e.size iz [.i 0,.i 0,.i 0,.i 0,.s .nil,.s .nil,.s .nil]:=cF.push e _ _;obtain⟨v,j⟩:=dG (a:=e) (c:=l) rfl rfl;clear_value l;refine(ou (t.ext v)).aI (J.aB _) j λg U i f _=>⟨g,rfl,λh=>absurd k (nb i h),λ_=>⟨λh=>by simp at h;omega,λ_=>⟨λh=>by simp at h;omega,λ_=>?_⟩⟩⟩;have q:=v.trans f;have S:=f.size;have Q:=j e.size D;refine(lJ (t.ext q) k bA).mono λ_ n⟨c,y,w,H,I,K,M,T,z,N,P,B⟩=>⟨w.dm (λg i=>f.lt (j g i)),_,_,_,_,.nil,.nil,c,y,?_⟩;have R:=N.lo;intro F;have x:=N.box q (nb:=e.size) V V 0 [.i 3,.i 0,.i 0,.i bA,.s .nil,.s .nil,.s c];have E:cF F e.size iz ([]++[.i 3,.i 0,.i 0,.i bA,.s .nil,.s .nil,.s c]):=cF.ai (m:=n) (o:=0) (r:=[.i 3,.i 0,.i 0,.i bA,.s .nil,.s .nil,.s c]) (C.ext (f.trans w));have X:(ai n e.size 0 [.i 3,.i 0,.i 0,.i bA,.s .nil,.s .nil,.s c]).size=n.size:=av _ _ _ _;have L:=MS z x V (B.congr (bd _ _ _ _ V)) V E;exact⟨c,rfl,L.Fv (s:=fj a bA) ((nP k A).lE (wy a bA) V),L.bY⟩
def Pg{bA:Int}(c:gP a)(b:0<=bA/\bA<=40):ID a (fj a bA) 100000=⟨gV a bA,true⟩:=by
 unfold ID;rw[ao ⟨nP c b,V,V⟩,qy];rfl
end
end
section
section
variable{a:I}
def Sm.up{n k:Nat}{s:St}(h:Sm n s)(a:n<=k):Sm k s:=⟨cg h.heap a,cg h.aW a,h.Dj⟩
def Fo{cL:O}(h:y8 a cL):aO cw 6 [O.v cL] a (Y7 a):=by
 apply zH;simp(config:={maxSteps:=1000000}) -zeta only[aD,aC];refine⟨λ_=>⟨rfl,J.aB _⟩,λ_=>?_⟩;refine(oD h).mono λ_ f⟨L,U,c,k,e,Q,W⟩=>⟨L,U,k,e,?_⟩;have p:eu f L U c:=⟨Q.aT.le (bD _ _),iS.le (bD _ _) Q.cA⟩;intro m2 t;have X:J f t:=(J.push f _).ai (ad _) _ _;have z3:t.size=f.size+1:=by simp[t,m2,av]
 clear_value t;refine(nU (p.ext X) k).mono λ_ l⟨ag,e,T,F⟩=>⟨F.dm bJ,_,_,_,ag,_,e,?_⟩;intro m5 u;have Z:J l u:=(J.push l _).ai (ad _) _ _;have z6:u.size=l.size+1:=by simp[u,m5,av]
 clear_value u;have z4:=F.size;have K:=(X.trans F).trans Z;refine(qt (p.ext K) k).mono λ_ n⟨ah,e,hw,w⟩=>⟨w.dm bJ,_,_,_,ah,_,e,?_⟩;intro m8 g;have G:J n g:=(J.push n _).ai (ad _) _ _;have z9:g.size=n.size+1:=by simp[g,m8,av]
 clear_value g;have z7:=w.size;have S:∀b∈[n.size,l.size,f.size],b<g.size:=bJ;have Y:=(Z.trans w).trans G;have X9:=(K.trans w).trans G;have P:∀{M:I},J g M->_:=λ{M} x=>kE (m:=M) (T.2.1.ext (Y.trans x)) (hw.2.1.ext (G.trans x)) (fB c k).bU (fB c k).value (fB c k).bq (fB c k).bU (fB c k).value (fB c k).bq;refine(P (J.aB _)).aI (J.aB _) S λb aj i o _=>⟨b,rfl,?_⟩;obtain rfl:=i.2 ⟨rfl,rfl,rfl,rfl⟩;have y:=X9.trans o;refine⟨λh=>by simp at h,λ_=>⟨λh=>by simp at h,λ_=>⟨λhn=>?_,λhy=>?_⟩⟩⟩
 ·refine(P o).aI o S λb j i d _=>⟨b,rfl,λ_=>⟨D,(W.trans y).trans d⟩,λh=>?_⟩;rw[i.2 ⟨rfl,rfl,rfl,rfl⟩]at h;simp at h
 obtain⟨d,E⟩:=P1 (d:=c) (bA:=k) (by simpa using hy);have uG:=o.size;refine(sV (p.ext y) d.1 d.2).mono λ_ q⟨fs,e,hs,v⟩=>⟨v.dm bJ,_,_,_,_,.nil,.nil,fs,true,e,?_⟩;intro ae r;have A:J q r:=(J.push q _).ai (ad _) _ _;have am:r.size=q.size+1:=by simp[r,ae,av]
 clear_value r;have al:=v.size;have H:=(y.trans v).trans A;have R:=vy (p.ext H) (hs.ext A) ((nP d.1 d.2).Xu (wy c k) V) (by simp[fj]) 100000;rw[Pg d.1 d.2]at R;refine R.mono λ_ s⟨ro,o2,h2,f2,e,N⟩=>⟨N.bs.bY.dm bJ,_,_,_,_,o2,h2,f2,true,e,?_⟩;have z:=Br d.1 d.2;have aa:=N.Fv (z.1.lE z.2.1 V);have B:=N.bs.bY;intro af j;have C:J s j:=(J.push s _).ai (ad _) _ _;have ao:j.size=s.size+1:=by simp[j,af,av]
 clear_value j;have an:=B.size;have ab:∀b∈[s.size,q.size,n.size,l.size,f.size],b<j.size:=bJ;have ac:=T.2.1.ext (((((Y.trans o).trans v).trans A).trans B).trans C);refine⟨λ_=>⟨λ_=>⟨λ_=>⟨λ_=>⟨λ_=>⟨λ_=>?_,λh=>by simp[E]at h⟩,λh=>by simp[E]at h⟩,λh=>by simp[E]at h⟩,λh=>by simp[z.2.2]at h⟩,λh=>by simp at h⟩,λh=>by simp at h⟩;exact(pC ac (aa.aW.ext C)).aI (J.aB _) ab λb ak i ai _=>⟨b,rfl,by rw[i.2 (by rw[E])],((W.trans H).trans B).trans (C.trans ai)⟩
def wP{cL:O}(h:y8 a cL):aO cw 7 [O.v cL] a (Y7 a):=by
 apply tO;simp(config:={maxSteps:=1000000}) -zeta only[aD,aC];refine⟨λ_=>⟨rfl,J.aB _⟩,λ_=>?_⟩;refine(oD h).mono λ_ l⟨L,U,b,k,e,P,C⟩=>⟨L,U,k,e,?_⟩;have o:eu l L U b:=⟨P.aT.le (bD _ _),iS.le (bD _ _) P.cA⟩;intro m2 r;have X:J l r:=(J.push l _).ai (ad _) _ _;have z3:r.size=l.size+1:=by simp[r,m2,av]
 clear_value r;refine(nU (o.ext X) k).mono λ_ s⟨ab,e,ho,F⟩=>⟨F.dm bJ,_,_,_,ab,_,e,?_⟩;intro m5 t;have Y:J s t:=(J.push s _).ai (ad _) _ _;have z6:t.size=s.size+1:=by simp[t,m5,av]
 clear_value t;have z4:=F.size;have K:=(X.trans F).trans Y;refine(qt (o.ext K) k).mono λ_ u⟨ac,e,hw,v⟩=>⟨v.dm bJ,_,_,_,ac,_,e,?_⟩;intro m8 f;have G:J u f:=(J.push u _).ai (ad _) _ _;have z9:f.size=u.size+1:=by simp[f,m8,av]
 clear_value f;have z7:=v.size;have A:∀d∈[u.size,s.size,l.size],d<f.size:=bJ;have ag:=(Y.trans v).trans G;have X9:=(K.trans v).trans G;have w:∀{M:I},J f M->_:=λ{M} x=>kE (m:=M) (ho.2.1.ext (ag.trans x)) (hw.2.1.ext (G.trans x)) (fB b k).bU (fB b k).value (fB b k).bq (fB b k).bU (fB b k).value (fB b k).bq;refine(w (J.aB _)).aI (J.aB _) A λd ah j g _=>⟨d,rfl,?_⟩;obtain rfl:=j.2 ⟨rfl,rfl,rfl,rfl⟩;have n:=X9.trans g;refine⟨λh=>by simp at h,λ_=>⟨λh=>by simp at h,λ_=>⟨λhn=>?_,λhy=>⟨λhn=>?_,λi=>?_⟩⟩⟩⟩
 ·refine(w g).aI g A λd p j c _=>⟨d,rfl,λ_=>⟨D,(C.trans n).trans c⟩,λh=>?_⟩;rw[j.2 ⟨rfl,rfl,rfl,rfl⟩]at h;simp at h
 ·refine(w g).aI g A λd p j c _=>⟨d,rfl,λ_=>⟨D,(C.trans n).trans c⟩,λh=>?_⟩;rw[j.2 ⟨rfl,rfl,rfl,rfl⟩]at h;simp at h
 obtain⟨c,Z⟩:=P1 (d:=b) (bA:=k) (by simpa using hy);have uG:=g.size;refine(sV (o.ext n) c.1 c.2).mono λ_ B⟨fs,e,hs,E⟩=>⟨E.dm bJ,_,_,_,_,.nil,.nil,fs,true,e,?_⟩;intro aa q;have W:J B q:=(J.push B _).ai (ad _) _ _;have ak:q.size=B.size+1:=by simp[q,aa,av]
 clear_value q;have aj:=E.size;have H:=(n.trans E).trans W;have R:=vy (o.ext H) (hs.ext W) ((nP c.1 c.2).Xu (wy b k) V) (by simp[fj]) 100000;rw[Pg c.1 c.2]at R;refine R.mono λ_ Q⟨ro,o2,h2,f2,e,N⟩=>⟨N.bs.bY.dm bJ,_,_,_,_,o2,h2,f2,true,e,?_⟩;have p:=Br c.1 c.2;have S:=N.Fv (p.1.lE p.2.1 V);have ae:=N.bs.bY;intro ai T;have af:J Q T:=(J.push Q _).ai (ad _) _ _;clear_value T;rw[Z]at i;have i:(gV b k).bU=0:=by simpa using i
 have z:=S.heap.len;have y:=S.az.len;rw[p.1.uf i]at z;rw[p.1.done.1 i]at y;simp only[dY]at z y;rw[z,y];exact⟨λ_=>⟨λ_=>⟨λ_=>⟨rfl,((C.trans H).trans ae).trans af⟩,λh=>by simp at h⟩,λh=>by simp at h⟩,λh=>by simp at h⟩
end
end
end Go.Proofs.YtgnjacfobdjeeaaGreat
