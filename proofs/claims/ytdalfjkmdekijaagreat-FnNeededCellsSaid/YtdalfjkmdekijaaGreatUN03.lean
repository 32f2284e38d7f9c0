/- Part of a proof. -/
import Derived.Test.YtdalfjkmdekijaaGreatUN02
set_option linter.all false
set_option maxHeartbeats 8000000
set_option maxRecDepth 100000
namespace Go.Proofs.YtdalfjkmdekijaaGreat
open Go.Vc
section
variable{S:List Nat}{m:E}{c:O}{l:List Instr}
def dH.le{m b:E}(h:Le m b){a:List Ce}{x:Instr}:dH m a x->dH b a x:=λ⟨c,j,d,e,f⟩=>⟨c,j,d,e.le h,f.le h⟩
def dH.mono:nG 6 dH:=⟨λh=>dH.le h,λh=>by obtain⟨_,_,rfl,_⟩:=h;rfl⟩
def dZ.le{m b:E}(a:Le m b){s:O}{l:List Instr}(h:dZ m s l):dZ b s l:=eO.le h a λ_ _=>dH.le a
def kL.le{m b:E}(h:Le m b){a:List Ce}{x:da}:kL m a x->kL b a x:=λ⟨d,l,c,e,f,g,i⟩=>⟨d,l,c,e,f.le h,g.le h,dZ.le h i⟩
def kL.mono:nG 5 kL:=⟨λh=>kL.le h,λh=>by obtain⟨_,_,_,rfl,_⟩:=h;rfl⟩
def gT.le{m b:E}(a:Le m b){s:O}{l:List da}(h:gT m s l):gT b s l:=eO.le h a λ_ _=>kL.le a
def VV(x:Instr)(a j:O):Value:=.agg #[vi x.op,vi x.dst,vi x.bM,vi x.bY,O.v a,O.v j]
def vu(A:∀c∈S,c<m.size){r u:O}{x:Instr}(B:au m r x.args)(C:au m u x.di)(h:x.args.length<=10^12/\x.di.length<=10^12):
 aP cv 178 [VV x r u] m λH p=>∃g j,H=VV x g j/\au (bI S p) g x.args/\au (bI S p) j x.di/\J m p:=by
 apply qJ
 simp -zeta only[aG,aF]
 intro d e
 let⟨k,i⟩:=dk (a:=d) (c:=e) rfl rfl
 have K:d.size=m.size+1:=by simp[d]
 clear_value e
 have s:∀c∈d.size::S,c<e.size:=bR A k.size (i _ aJ)
 have b:∀{M q:E},J e M->J M q->∀o,af q m.size o=af M m.size o:=λy z o=>aM (z.same _ (y.lt (i _ aJ))) o
 refine(bP (d.size::S) (B.ext k) h.1).aK (J.aH e) i λg _ I v l a _=>⟨_,rfl,b (J.aH _) a _,b (J.aH _) a _,b (J.aH _) a _,b (J.aH _) a _,b (J.aH _) a _,?_⟩
 subst l
 refine(bP (d.size::S) (C.ext (k.trans a)) h.2).aK a i λj _ D w l f G=>⟨_,rfl,b a f _,b a f _,b a f _,b a f _,?_⟩
 subst l
 intro F
 have t:Le (bI (d.size::S) D) (bI S F):=cp aJ λc n=>ah _ n
 exact⟨g,j,rfl,((v.done s h.1).le (f.cR _)).le t,(w.done (λc n=>a.lt (s c n)) h.2).le t,(k.trans G).aj V _ _⟩
def Mj(s:dZ m c l){p B:Nat}(hB:p<=B/\B<=10^12)(L:∀a∈l,(0<=a.dst/\a.dst<(B:Int))/\∀b∈a.args,0<=b/\b<(B:Int)):
 rm 68 [O.v c,vi p] m λr=>(p:Int)<=r/\r<=(B:Int)/\∀a∈l,a.dst<r/\∀b∈a.args,b<r:=by
 apply FD
 have K:=s.len
 refine dE (n:=l.length) (K▸s.fA) (λk v M=>J m M/\(p:Int)<=v/\v<=(B:Int)/\∀(i:Nat)(a:Instr),l[i]? =some a->i<k->a.dst<v/\∀b∈a.args,b<v) ⟨J.aH _,dh _,V,λi a _ h=>V⟩ ?_
 rintro k v M W μ hk ⟨w,R,S,A⟩ P
 refine⟨λh=>?_,λh=>⟨v,rfl,⟨R,S,λa f=>?_⟩,w⟩⟩
 .simp only[aq]at h
  let⟨a,f⟩:=cq l k
  let⟨b,C,e,hj,Z,F,e2,e3,z,e5⟩:=(dZ.ext w s).aQ f
  have I:=e.len
  let⟨hd,G⟩:=L a (av f)
  refine⟨V,V,_,F,?_⟩
  rw[aS (b:=a.dst+1) V V]
  refine dE (n:=a.args.length) (I▸e.fA) (λC g E=>J M E/\v<=g/\a.dst<g/\g<=(B:Int)/\∀(i:Nat)(b:Int),a.args[i]? =some b->i<C->b<g) ⟨J.aH _,V,V,V,λi a _ h=>V⟩ ?_
  rintro u g Y X μ2 aa ⟨j,w0,T,U,D⟩ N
  refine⟨V,V,_,j.af z,λq=>?_,λq=>P V _ _ ⟨w.trans j,V,U,λi y d o=>?_⟩⟩
  .simp only[aq]at q
   let⟨y,d⟩:=cq a.args u
   have Q:=G y (av d)
   refine⟨V,V,_,j.af z,V,V,y,(e.ext j).aQ d,?_⟩
   rw[aS (b:=y+1) V V]
   refine N V _ _ ⟨j,V,V,V,λi H t o=>?_⟩
   rcases aX i u with h|h
   .have:=D i H t h;omega
   .have:i=u:=V
    subst this
    rw[d]at t;cases t;omega
  .simp only[bD]at q
   rcases aX i k with h|h
   .have:=A i y d h
    exact⟨V,λb e=>by have:=this.2 b e;omega⟩
   .have:i=k:=V
    subst this
    rw[f]at d;cases d
    exact⟨T,λb H=>by obtain⟨Q,t⟩:=List.mem_iff_getElem?.1 H;exact D Q b t (by have:=az t;omega)⟩
 .simp only[bD]at h
  obtain⟨i,o⟩:=List.mem_iff_getElem?.1 f
  exact A i a o (by have:=az o;omega)
structure Sv(k:Nat)(x:Instr):Prop where
 LU:x.op=22->(k:Int)<x.bM
 arg:x.op=18\/x.op=23\/x.op=16\/x.op=17->0<x.args.length
def Rw(l:List Instr):Prop:=∀(k:Nat)(x:Instr),l[k]? =some x->Sv k x
def HH(f:dZ m c l)(E:Rw l){n:Int}(C:0<=n)(RW:Int):nW 234 [O.v c,vi n,vi RW] m:=by
 apply Ag;simp -zeta only[aG,aF];have I:=f.len;have L:=f.fA;refine⟨λv _ M=>0<=v/\J m M,λv _ _=>((l.length:Int) -v).toNat,⟨C,J.aH _⟩,?_⟩;rintro v G M ⟨F,k⟩;refine⟨λh=>?_,λ_=>rA k⟩;simp only[aq]at h;let⟨a,o⟩:=cq l v.toNat;let⟨d,N,e,K,s,t,w,z,A,B⟩:=(dZ.ext k f).aQ o;have H:=e.len;have g:=E _ a o;refine⟨F,V,_,s,_,t,_,w,_,z,_,A,_,B,?_⟩;intro P b;have j:J M b:=(J.push M _).aj (ad _) _ _;clear_value b;have u:=k.trans j;have LU:(a.op==22)=true->(0<=a.bM/\J m b)/\((l.length:Int) -a.bM).toNat<((l.length:Int) -v).toNat:=λh=>by
  simp only[aO]at h;have:=g.LU h;exact⟨⟨V,u⟩,V⟩
 have p:(a.op==23)=true->(0:Int)<=0/\(0:Int)<(d.len:Int)/\∃q:Int,af b d.aC (d.off+Int.toNat (0:Int)*1)=some (vi q)/\∃r:Bool,vb (q==G)=.bool r/\J m b:=λh=>by
  simp only[aO]at h;have:=g.arg V;let⟨y,i⟩:=cq a.args 0;exact⟨bo,V,y,(e.ext j).aQ i,rA u⟩
 refine⟨λD=>?_,λ_=>⟨LU,λ_=>⟨p,λ_=>rA u⟩⟩⟩;simp only[aO]at D;have:=g.arg V;let⟨y,i⟩:=cq a.args 0;refine⟨bo,V,y,(e.ext j).aQ i,λ_=>?_,λ_=>⟨LU,λ_=>⟨p,λ_=>rA u⟩⟩⟩;rw[aS (b:=v+1) V V];exact⟨⟨V,u⟩,by show((l.length:Int) -(v+1)).toNat<((l.length:Int) -v).toNat;omega⟩
def JN(l b:List Instr):Prop:=b.length=l.length/\∀(k:Nat)(a:Instr),b[k]? =some a->∃x,l[k]? =some x/\(a=x\/a=⟨24,0,x.bM,0,x.args,x.di⟩)
def PR(l:List Instr):Prop:=∀x∈l,x.args.length<=10^12/\x.di.length<=10^12
abbrev Vz(S:List Nat)(a m:E)(s:O)(l:List Instr):Prop:=Gr S a m dO 6 dH s l
def Jo(hS:∀c∈S,c<m.size)(f:dZ m c l)(ae:Rw l)(af:PR l)(hb:l.length<=10^12):
 aP cv 177 [O.v c] m λN L=>∃s e,N=O.v s/\Vz S m L s e/\JN l e/\J m L:=by
 apply Ci
 simp -zeta only[aG,aF]
 intro H
 have x1:J m H:=J.push _ _
 have g0:Vz S m H (.mk m.size 0 0 0) []:=Gr.new S (ad _) _ _ _
 clear_value H
 have ac:=f.len
 refine dE (n:=l.length) (ac▸f.fA) (λk s M=>J m M/\∃e,Vz S m M s e/\JN (l.take k) e) ⟨x1,[],g0,by simp[JN]⟩ ?_
 rintro k s M Q μ hk ⟨q,e,A,D,F⟩ ai
 refine dit (λaa=>?_) λaa=>?_
 .let⟨d,G⟩:=cq l k
  let⟨al,an,ha,hj,R,T,U,W,X,Y⟩:=(dZ.ext q f).aQ G
  have ag:=af d (av G)
  have hy:=A.bn
  have zM:=q.size
  have am:e.length=k:=by rw[D];simp;omega
  have ab:∀c∈s.aC::S,c<M.size:=λc f=>by
   rcases List.mem_cons.1 f with u|u
   .omega
   .have:=hS c u;omega
  refine⟨V,V,_,R,_,T,_,U,_,W,_,X,_,Y,?_⟩
  refine(vu ab ha hj ag).mono λN y⟨t,w,u,B,C,P⟩=>⟨_,_,_,_,_,_,u,?_⟩
  intro m3 j
  have i:J y j:=(J.push y _).aj (ad _) _ _
  have s4:j.size=y.size+1:=by simp[j,m3,aD]
  clear_value j
  have p:=P.trans i
  have z:∀{g:E}{b:Instr},J j g->au (bI (s.aC::S) g) t b.args->au (bI (s.aC::S) g) w b.di->(b=d\/b=⟨24,0,d.bM,0,d.args,d.di⟩)->
   jb (g.push (.cells (bE [.i b.op,.i b.dst,.i b.bM,.i b.bY,.s t,.s w]) dO)) dO [.i 0,.i 0,.i 0,.i 0,.s .nil,.s .nil] 80 s (.mk g.size 0 1 1) λI r=>eF [y.size] (g.push (.cells (bE [.i b.op,.i b.dst,.i b.bM,.i b.bY,.s t,.s w]) dO)) r/\Q I (cQ ((k:Int)+1)) r/\μ I (cQ ((k:Int)+1)) r<μ s k M:=λ{g b} xx h1 h2 h3=>by
   have z4:=p.size
   have zx:=xx.size
   refine Gr.kj (g:=[.i 0,.i 0,.i 0,.i 0,.s .nil,.s .nil]) (k:=b) dH.mono bo (A.ext dH.mono (p.trans xx)) ((q.trans (p.trans xx)).fz []) ⟨t,w,rfl,h1,h2⟩ V λI r g3 Z z3 q3=>⟨λc f=>?_,ai V _ _ ⟨Z.ext,_,g3,bS,λv aj h=>?_⟩⟩
   .have o:=P.size
    simp at f;subst f
    rw[q3 _ V V,(J.push g _).same _ V]
   .rcases aX v e.length with o|o
    .rw[ay o]at h
     let⟨ak,K,ah⟩:=F v aj h
     rw[dz V]at K⊢
     exact⟨ak,K,ah⟩
    .rw[aI o]at h
     have:v -e.length=0:=by have:=az h;simp at this;omega
     rw[this]at h;simp at h;subst h
     have:v=k:=V
     subst this
     exact⟨d,by rw[dz V];exact G,h3⟩
  have z4:=p.size
  refine⟨λh9=>?_,λ_=>?_⟩
  .rw[aS (b:=(k:Int)+1) V V]
   refine(HH (dZ.ext (q.trans p) f) ae V d.dst).aK (J.aH j) bS λah K o _=>⟨_,rfl,λ_=>?_,λ_=>?_⟩
   .intro m6
    have:=z (b:=⟨24,0,d.bM,0,d.args,d.di⟩) o ((B.le (i.cR _)).le (o.cR _)) ((C.le (i.cR _)).le (o.cR _)) (Or.inr rfl)
    rw[aS (b:=(k:Int)+1) V V]at this
    exact this
   .intro m6
    have:=z (b:=d) o ((B.le (i.cR _)).le (o.cR _)) ((C.le (i.cR _)).le (o.cR _)) (Or.inl rfl)
    rw[aS (b:=(k:Int)+1) V V]at this
    exact this
  .intro K
   exact z (b:=d) (J.aH _) (B.le (i.cR _)) (C.le (i.cR _)) (Or.inl rfl)
 .rw[cG V]at D F
  exact⟨s,e,rfl,A,⟨D,F⟩,q⟩
end
section
variable{b:List da}
structure Sz(p:da):Prop where
 params:p.params.length<=3
 dg:p.dg.length<=3
 gR:0<p.bt.length
 nv:p.bt.length<=10^12
 bt:Rw p.bt
 jh:PR p.bt
structure yB(b:List da):Prop where
 gR:0<b.length
 nv:b.length<=4
 df:∀p∈b,Sz p
def Np(f:Nat)(c:List Value)(m:E)(S:List Nat)(e:List bq)(Q:List da->Prop):Prop:=aP cv f c m λv a=>∃d p b,v=.agg #[O.v d,O.v p]/\bZ (bI S a) d e/\gT (bI S a) p b/\Q b/\J m a
def JN.ok{l d:List Instr}(h:JN l d)(g:Rw l)(f:PR l):Rw d/\PR d:=by
 let⟨j,e⟩:=h;refine⟨λk a c=>?_,λa c=>?_⟩
 .obtain⟨x,b,rfl|rfl⟩:=e k a c
  .exact g k a b
  .exact⟨sx,sx⟩
 .let⟨k,i⟩:=List.mem_iff_getElem?.1 c;obtain⟨x,b,rfl|rfl⟩:=e k a i
  .exact f a (av b)
  .exact f x (av b)
def Vi{a:List da}(h:yB b)(f:a.length=b.length)(c:∀(i:Nat)(q:da),a[i]? =some q->Sz q):yB a:=
 ⟨by have:=h.gR;omega,oh h.nv,λq e=>by obtain⟨i,d⟩:=List.mem_iff_getElem?.1 e;exact c i q d⟩
def HK{d:List Nat}{l:E}(T:∀c∈d,c<l.size){y z:O}{A:List bq}(hd:bZ l y A)(ht:dI A)(hp:gT l z b)(W:yB b):Np 127 [.agg #[O.v y,O.v z]] l d A yB:=by
 apply Al;simp -zeta only[aG,aF];intro f a2;let⟨K,F⟩:=dk (a:=f) (c:=a2) rfl rfl;have s1:f.size=l.size+1:=by simp[f]
 clear_value a2;have ao:=hp.len;have aE:=W.nv;refine(fD (b:=f.size::d) (bR T K.size (F _ aJ)) (hd.le K.le) ht).mono λ_ Z⟨dd,e,am,L⟩=>?_;subst e;refine⟨L.de F,_,rfl,?_⟩;intro o aq ai;have u2:=K.trans L;let⟨x5,B0,g0,s3,s5⟩:=kC (b:=o.size::f.size::d) kL.mono (d:=Z) (a:=o) (c:=aq) (h:=ai) rfl rfl rfl;clear_value ai;have U:∀c∈[f.size,l.size],c<Z.size:=λc g=>L.lt (F c g);have ae:∀c∈f.size::d,c<Z.size:=λc g=>L.lt (bR T K.size (F _ aJ) c g);refine ka (R:=λj k M=>∃y z h,Value.agg #[O.v j,O.v k]=.agg #[O.v y,O.v z]/\bZ (bI d M) y A/\gT (bI d M) z h/\yB h/\J l M) (t:=b.length) (f:=l) (b:=d) kL.mono bo bo T ⟨V,U _ aJ⟩ u2 s3 am ao V x5 B0 g0 (λ_ r=>Sz r) (λh r' ah m' h1 C j k p=>⟨h,r',ah,rfl,h1,C,Vi W j k,p⟩) λap M s ah ay μ an aB xM ac N ar=>?_
 let⟨r,hq⟩:=cq b ap an;have t:=W.df r (av hq);have q3:=t.params;have q4:=t.dg;have qf:=t.nv;have qs:=t.gR;have v6:=u2.trans xM;let⟨az,p,c,c1,c2,c3,e0,e1,e2,e3,e4⟩:=hp.aQ hq;have G:∀{aa:Value}{p v:Nat},af l p v=some aa->af M p v=some aa:=λB=>v6.af B;refine⟨V,V,_,G e0,_,G e1,_,G e2,_,G e3,_,G e4,?_⟩;intro m7 k;have hy:=ac.bn;have aA:=N.lt;have zM:=xM.size;have x8:J M k:=(J.push M _).aj (ad _) _ _;have s8:k.size=M.size+1:=by simp[k,m7,aD]
 clear_value k;have H:∀c∈[M.size,f.size,l.size],c<k.size:=λc g=>by
  rcases List.mem_cons.1 g with e|e
  .omega
  .have:=U c e;omega
 have w8:=v6.trans x8;have D:∀{M':E},k.size<=M'.size->∀c∈s.aC::o.size::f.size::d,c<M'.size:=λB c g=>by
  simp only[aW]at g;rcases g with e|e|e|e
  .omega
  .omega
  .have:=ae c (by simp[e]);omega
  .have:=ae c (by simp[e]);omega
 have h:∀{P M2:E},J k P->J P M2->∀p,p<k.size->∀v,af M2 p v=af P p v:=λB h' p hb v=>aM (h'.same p (B.lt hb)) v;have q:M.size<k.size:=V;have X:o.size<k.size:=V;refine⟨s,(N.ext x8).cK 1,?_⟩;refine(bP (s.aC::o.size::f.size::d) (c1.ext w8) V).aK (J.aH k) H λa' _ m9 ga e j _=>⟨_,rfl,h (J.aH _) j _ q _,h (J.aH _) j _ q _,h (J.aH _) j _ q _,h (J.aH _) j _ q _,h (J.aH _) j _ X _,?_⟩;subst e;refine(bP (s.aC::o.size::f.size::d) (c2.ext (w8.trans j)) V).aK j H λb' _ aH gb e x w=>⟨_,rfl,h j x _ q _,h j x _ q _,h j x _ q _,h j x _ X _,?_⟩;subst e;have z9:=j.size;have aK:=x.size;refine(Jo (S:=s.aC::o.size::f.size::d) (D V) (dZ.ext (w8.trans w) c3) t.bt t.jh qf).mono λaa Y⟨Q,I,e,gc,ag,u⟩=>⟨λc g=>u.same c (w.lt (H c g)),Q,e,h w u _ q _,h w u _ q _,h w u _ X _,?_⟩;intro aI;have ab:=x8.trans (w.trans u);have aL:=u.size;let⟨aw,ax⟩:=ag.ok t.bt t.jh;have aC:=ag.1;have aj:au (bI (s.aC::o.size::f.size::d) Y) a' r.params:=(ga.done (D V) V).le ((x.trans u).cR _);have ak:au (bI (s.aC::o.size::f.size::d) Y) b' r.dg:=(gb.done (D V) V).le (u.cR _);have al:dZ (bI (s.aC::o.size::f.size::d) Y) Q I:=gc.done dH.mono (D V) bo V;exact Gr.box (g:=[.s .nil,.s .nil,.i 0,.i 0,.s .nil]) (j:=1) (y:=88) (i:=[.s dd,.s s]) (w:=⟨r.params,r.dg,r.aT,r.ax,I⟩) kL.mono bo (ac.ext kL.mono ab) ((xM.trans ab).fz []) ⟨a',b',Q,rfl,aj,ak,al⟩ V (N.ext ab) aJ bo ⟨V,aJ⟩ (λc g=>by have h1:=H c g;have C:=U c;simp only[aW]at g C;rcases g with e|e|e|e<;>first|omega|(have:=C (by simp[e]);omega)|simp at e) λr' m' g' C f' z' q'=>ar r' m' _ g' C f'.ext ⟨q3,q4,by show 0<I.length;omega,by show I.length<=_;omega,aw,ax⟩
end
section
variable{S:List Nat}{d c:E}{b:Nat}{s:O}{l:List Instr}{x:Instr}
structure Ef(S:List Nat)(d c:E)(b:Nat)(s:O)(l:List Instr):Prop where
 box:cB c b nC [.s s]
 gr:Vz (b::S) d c s l
 up:d.size<=b
def Ef.ext{S:List Nat}{d c a:E}{b:Nat}{s:O}{l:List Instr}(h:Ef S d c b s l)(x:J c a):Ef S d a b s l:=⟨h.box.ext x,h.gr.ext dH.mono x,h.up⟩
def Ef.ne{S:List Nat}{d c:E}{b:Nat}{s:O}{l:List Instr}(h:Ef S d c b s l):s.aC≠b:=h.gr.ne h.box bo
def OC(S:List Nat)(d c:E)(b:Nat)(s:O)(P:List Instr->Prop)(f:E):Prop:=∃a e,Ef S d f b a e/\P e/\Fz [b,s.aC] c f/\(a.aC=s.aC\/c.size<=a.aC)
def pV{v z:O}(p:Ef S d c b s l)(E:d.size<=c.size)(H:au (bI (s.aC::b::S) c) v x.args)(I:au (bI (s.aC::b::S) c) z x.di)(q:l.length<=10^12):
 aP cv 67 [vp b 0,VV x v z] c λP M=>P=vi (l.length:Nat)/\OC S d c b s (l++[x]=·) M:=by
 apply wA (b,0)
 simp -zeta only[aG,aF]
 intro g
 have n:J c g:=J.push _ _
 have s1:g.size=c.size+1:=by simp[g]
 clear_value g
 have h:=p.ext n
 have W:=h.gr.bn
 have D:=h.box.lt
 have T:=p.box.lt
 have X:=p.gr.bn
 refine⟨s,h.box.cK 0,?_⟩
 intro N
 have F:J g N:=J.push _ _
 refine⟨aM (F.same _ D) _,?_⟩
 have U:(c.extract 0 d.size).size=d.size:=jF E
 have g1:Vz (b::S) (c.extract 0 d.size) g s l:=Gr.cL dH.mono h.gr (λG q=>Or.inl q) V
 refine Gr.kj (g:=[.i 0,.i 0,.i 0,.i 0,.s .nil,.s .nil]) (k:=x) dH.mono bo g1 ((((J.NW E).trans n).fz [])) ⟨v,z,rfl,H.le (n.cR _),I.le (n.cR _)⟩ V λi k A R Q u=>?_
 have Z:∀e,e<g.size->e≠s.aC->k[e]? =g[e]? :=u
 have y:cB k b nC [.s s]:=h.box.congr (u b D (kE h.ne))
 have L:=A.ne y bo
 refine⟨λe f=>?_,y.fq aJ,?_⟩
 .simp at f;subst f
  rw[u c.size V V,F.same _ V]
 intro t
 have C:cB t b nC [.s i]:=cB.aj (m:=k) (o:=0) (r:=[.s i]) y
 have w:∀e,e≠b->t[e]? =k[e]? :=λe f=>bh _ _ _ _ f
 have s4:t.size=k.size:=aD _ _ _ _
 refine⟨λe f=>w e (by simp at f;omega),i,C.cK 0,?_⟩
 have B:Vz (b::S) d t i (l++[x]):=by
  refine Gr.cL dH.mono (A.re dH.mono (Y:=[b]) ⟨V,λe f j=>w e (by simpa using j)⟩ aJ (by simp;exact L) λe f=>Or.inl f) (λG q=>Or.inl q) V
 have G:=B.len bo
 have K:i.len=l.length+1:=by rw[G];simp
 refine⟨?_,i,_,⟨C,B,p.up⟩,rfl,⟨V,λe f j=>?_⟩,oh Q.2⟩
 .rw[K,aS V V];congr 1;omega
 .simp only[aW,iW,AG,uJ]at j
  rw[w e j.1,u e V j.2,n.same e f]
def QD{j:Nat}(h:Ef S d c b s l)(o:d.size<=c.size)(r:l[j]? =some x):
 aP cv 147 [vp b 0,vi j] c λ_ K=>OC S d c b s (l.set j ⟨x.op,0,l.length,0,x.args,x.di⟩=·) K:=by
 apply wz (b,0)
 simp -zeta only[aG,aF]
 have G:=az r
 have I:=h.gr.len bo
 obtain⟨M,⟨q,t,rfl,E,F⟩,kZ⟩:=h.gr.cells r
 have w:=kZ 0 _ rfl;have y:=kZ 1 _ rfl;have z:=kZ 2 _ rfl;have A:=kZ 3 _ rfl;have B:=kZ 4 _ rfl;have C:=kZ 5 _ rfl
 refine⟨s,h.box.cK 0,V,V,_,w,_,y,_,z,_,A,_,B,_,C,?_⟩
 intro L e
 have g:J c e:=(J.push c _).aj (ad _) _ _
 have Q:e.size=c.size+1:=by simp[e,L,aD]
 clear_value e
 have i:=h.ext g
 have H:=i.ne
 have O:=h.gr.bn
 have P:=g.size
 refine⟨s,i.box.cK 0,s,i.box.cK 0,V,V,?_⟩
 have g1:Vz (b::S) (c.extract 0 d.size) e s l:=Gr.cL dH.mono i.gr (λv m=>Or.inl m) (by rw[jF o];exact ad _)
 rw[I]
 let⟨wr,D,N,p⟩:=Gr.set (k:=j) (cs:=[.i x.op,.i 0,.i l.length,.i 0,.s q,.s t]) (a:=⟨x.op,0,l.length,0,x.args,x.di⟩) dH.mono g1 (((J.NW o).trans g).fz []) G ⟨q,t,rfl,E.le (g.cR _),F.le (g.cR _)⟩
 refine⟨wr,?_⟩
 intro u
 have R:u.size=e.size:=aD _ _ _ _
 refine⟨λf n=>p f (by simp at n;omega),s,_,⟨i.box.congr (p b (kE H)),Gr.cL dH.mono D (λv m=>Or.inl m) (by rw[jF o];exact ad _),h.up⟩,rfl,⟨V,λf n m=>?_⟩,Or.inl rfl⟩
 simp only[aW,iW,AG,uJ]at m
 have v:u[f]? =e[f]? :=p f m.2
 rw[v,g.same f n]
end
section
def Sf(a:List bq)(b:List Nat)(k:Nat)(i:Instr):Prop:=
 if i.op<12 then Ar a b i.op i.bM i.args.length/\0<=i.op/\i.op≠7/\i.op≠8
 else if i.op=14\/i.op=15\/i.op=18\/i.op=23 then i.args.length=1/\i.bM=0
 else if i.op=16\/i.op=17 then(1<=i.args.length/\i.args.length<=4)/\i.bM=0
 else if i.op=19 then i.args.length=1/\0<=i.bM/\i.bM<=2
 else if i.op=20 then i.args.length=1/\(k:Int)<i.bM
 else if i.op=22 then i.args.length=0/\(k:Int)<i.bM
 else i.op=21/\i.args.length=1/\0<(cb a i.bM).length/\i.di.length=(cb a i.bM).length/\∀j∈i.di,(k:Int)<j
structure Us(ds:List bq)(ps:List Nat)(B k:Nat)(x:Instr):Prop where
 args:∀a∈x.args,0<=a/\a<(B:Int)
 dst:0<=x.dst/\x.dst<(B:Int)
 UZ:x.dst=0\/jE x.op
 bY:x.bY=0\/x.op=6/\0<=x.bY/\x.bY<=x.dst
 di:x.op=21\/x.di=[]
 op:Sf ds ps k x
def Tg(n:Nat)(x:Instr):Prop:=(x.op=20\/x.op=22->x.bM<=(n:Int))/\∀j∈x.di,j<=(n:Int)
section
variable{a:List bq}{b:List Nat}{B k n d:Nat}{x:Instr}{l c e:List Instr}
def Tg.up(h:Tg n x)(b:n<=d):Tg d x:=⟨λe=>by have:=h.1 e;omega,λj a=>by have:=h.2 j a;omega⟩
def Tg.no(a:x.op≠20/\x.op≠22)(h:x.di=[]):Tg n x:=⟨λe=>V,by simp[h]⟩
def Us.ok(h:Us a b B k x):Sv k x:=by
 have c:=h.op;unfold Sf at c;refine⟨λe=>?_,λe=>?_⟩
 .simp[e]at c;exact c.2
 .rcases e with e|e|e|e<;>simp[e]at c<;>omega
def mV(a:List bq)(b:List Nat)(B:Nat)(l c:List Instr)(n:Nat):Prop:=∃d,c=l++d/\(∀(i:Nat)(x:Instr),d[i]? =some x->Us a b B (l.length+i) x/\Tg c.length x)/\PR d/\d.length<=n
def mV.aH(a:List bq)(b:List Nat)(B:Nat)(l:List Instr):mV a b B l l 0:=⟨[],aJ,aJ,λ_ h=>by simp at h,ad _⟩
def mV.gE(h:mV a b B l c n)(k:n<=d):mV a b B l c d:=let⟨i,e,f,g,j⟩:=h;⟨i,e,f,g,V⟩
def mV.len(h:mV a b B l c n):l.length<=c.length/\c.length<=l.length+n:=by obtain⟨e,rfl,_,_,d⟩:=h;simp;omega
def mV.trans(h:mV a b B l c n)(r:mV a b B c e d):mV a b B l e (n+d):=by
 obtain⟨g,rfl,k,o,u⟩:=h;obtain⟨t,rfl,m,p,v⟩:=r;refine⟨g++t,aJ,λi x f=>?_,λx s=>?_,bS⟩
 .rcases aX i g.length with j|j
  .rw[ay j]at f;exact⟨(k i x f).1,(k i x f).2.up aJ⟩
  .rw[aI j]at f;have:=m _ x f;have q:(l++g).length+(i -g.length)=l.length+i:=bS;rw[q]at this;exact this
 .rcases List.mem_append.1 s with h|h
  .exact o x h
  .exact p x h
def mV.lj(h:Us a b B l.length x)(g:x.op<20)(f:x.args.length<=10^12):mV a b B l (l++[x]) 1:=
 have d:x.di=[]:=h.di.resolve_left V
 ⟨[x],rfl,λi y c=>by
  have:i=0:=by have:=az c;simp at this;omega
  subst this;simp at c;subst c;exact⟨h,.no V d⟩,λy e=>by simp at e;subst e;simp[d,f],aJ⟩
end
section
variable{S:List Nat}{c m b:E}{a:Nat}{s d:O}{l e:List Instr}
def Ef.fS(h:Ef S c m a s l)(f:J c m)(e:Fz [a,s.aC] m b):J c b:=by
 have j:=h.gr.bn;have i:=h.up;exact Fz.ext (((f.fz [a,s.aC]).trans e).CH λg d=>Or.inr (by simp at d;omega))
def P6(h:Fz [a,s.aC] m b)(f:d.aC=s.aC\/m.size<=d.aC):Le (bI [s.aC,a] m) (bI [d.aC,a] b):=oP λc g i=>by
 simp at i;refine⟨by simp;rcases f with e|e<;>omega,h.same c g bS⟩
def OC.de{L:List Nat}(f:Fz [a,s.aC] m b)(d:∀c∈L,c<m.size/\c≠a/\c≠s.aC):eF L m b:=λc e=>f.same c (d c e).1 (by have:=d c e;simp;omega)
end
structure Rx(S:List Nat)(mb m:E)(eb:Nat)(s:O)(l:List Instr)(cons first:O)(cl fl:List Int):Prop where
 em:Ef S mb m eb s l
 x:J mb m
 fS:∀c∈S,c<m.size
 cons:au (bI [s.aC,eb] m) cons cl
 first:au (bI [s.aC,eb] m) first fl
 same:fl.length=cl.length
 jh:∀y∈fl,0<=y/\y<=(cl.length:Int)
def Rx.ext{S:List Nat}{e m d:E}{b:Nat}{s:O}{l:List Instr}{cons first:O}{a c:List Int}(h:Rx S e m b s l cons first a c)(x:J m d):Rx S e d b s l cons first a c:=
 ⟨h.em.ext x,h.x.trans x,λf g=>x.lt (h.fS f g),h.cons.le (x.cR _),h.first.le (x.cR _),h.same,h.jh⟩
def Rx.next{S:List Nat}{e m d:E}{a:Nat}{s c:O}{o j:List Instr}{cons first:O}{f g:List Int}(h:Rx S e m a s o cons first f g)(l:Ef S e d a c j)(b:Fz [a,s.aC] m d)(i:c.aC=s.aC\/m.size<=c.aC):Rx S e d a c j cons first f g:=
 ⟨l,h.em.fS h.x b,λk n=>aL (h.fS k n) b.size,h.cons.le (P6 b i),h.first.le (P6 b i),h.same,h.jh⟩
def XD(c:List bq)(e:List eQ)(B:Nat)(x:cF):Prop:=∀(S:List Nat)(a m:E)(d:Nat)(s:O)(l:List Instr)(cons first:O)(b h:List Int)(g r f k:O),Rx S a m d s l cons first b h->WS c (pc e) True b.length x->b.length+4*x.w<=B->B<=900000000000->l.length+6*x.w<=10^12->dY a g r c e->au a f x.args->mU a k x.bH->
 aP cv 105 [vp d 0,.agg #[O.v g,O.v r],oC x f k,O.v cons,O.v first] m λ_ j=>OC S a m d s (λi=>mV c (pc e) B l i (6*x.w)) j
def Wz(d:List bq)(f:List eQ)(B:Nat)(b:Bk):Prop:=∀(S:List Nat)(a m:E)(e:Nat)(s:O)(l:List Instr)(cons first:O)(c h:List Int)(g r t:O),Rx S a m e s l cons first c h->WB d (pc f) True c.length b->c.length+4*b.w<=B->B<=900000000000->l.length+6*b.w<=10^12->dY a g r d f->eG a t b.aE->
 aP cv 66 [vp e 0,.agg #[O.v g,O.v r],.agg #[O.v t,vi b.aT],O.v cons,O.v first] m λ_ j=>OC S a m e s (λi=>mV d (pc f) B l i (6*(b.w -1))) j
end
def sF(m:E):au m .nil []:=⟨rfl,ad _,aJ,aJ⟩
def KR{ds:List bq}{rs:List eQ}{N:Nat}{aE:List cF}{a8:Int}(b:∀a∈aE,a.op=7\/a.op=8->XD ds rs N a):Wz ds rs N (.mk aE a8):=by
 intro B mb H f aa ah cons first cl fl aQ a7 bx E0 a1 bf hB bg hn hs
 have a2:=a1.bC;rw[Bk.pY]at*;simp only[Bk.jG,Bk.iZ]at*;apply uy (f,0);simp -zeta only[aG,aF];intro W I;let⟨x2,hl⟩:=dk (a:=W) (c:=I) rfl rfl;have s1:W.size=H.size+1:=by simp[W]
 have s2:I.size=H.size+2:=by simp[I,s1]
 clear_value I;have a0:=hs.len;have az:=Az aE;have bm:=fw aE;have bi:=E0.em.box.lt;have bu:=E0.em.gr.bn;have bk:=E0.x.size;refine vX (n:=aE.length) (a0▸hs.fA) (λp cons first M=>∃m U F Q,Rx B mb M f m U cons first F Q/\F.length=cl.length+dc (aE.take p)/\mV ds (pc rs) N ah U (6*sw (aE.take p))/\Fz [f,aa.aC] H M/\(m.aC=aa.aC\/I.size<=m.aC)/\I.size<=M.size) ⟨aa,ah,cl,fl,E0.ext x2,aJ,(mV.aH _ _ _ ah).gE (dy _),x2.fz _,Or.inl rfl,ad _⟩ ?_;rintro p cons first M a9 μ hk ⟨m,U,F,Q,Y,aV,ag,fz,aZ,hM⟩ aK
 have bj:=ag.len;have bp:=az p;have t:=Y.em.gr.bn;refine dit (λi=>?_) λi=>?_
 .let⟨a,hx⟩:=cq aE p;let⟨pa,pk,T,aX,e0,e1,e2,e3,e4⟩:=hs.aQ hx;have bs:=pp hx;have br:=qb hx;have bt:=cF.k8 a;have bn:=az (p+1);have bh:=pL (aE.take p);have bl:=fw (aE.take p);have o:=a2.1 p a hx;rw[<-aV]at o;have X:=Y.x;have aB:∀D∈a.args,0<=D/\D<(N:Int):=λD i=>oh (o.dV.args D i);refine⟨V,V,_,X.af e0,_,X.af e1,_,X.af e2,_,X.af e3,_,X.af e4,?_⟩;intro m3 q;have x4:J M q:=(J.push M _).aj (ad _) _ _;have s4:q.size=M.size+1:=by simp[q,m3,aD]
  clear_value q;have k:=Y.ext x4;have R:∀{Z:E},q.size<=Z.size->∀h∈[M.size,W.size,H.size],h<Z.size/\h≠f/\h≠m.aC:=λhz h s=>by simp at s;omega
  have kS:∀{A M2:E},q.size<=A.size->J A M2->eF [M.size,W.size,H.size] A M2:=λhz xx h s=>xx.same h (R hz h s).1;have C:∀{A M2:E},q.size<=A.size->J A M2->∀ai,af M2 M.size ai=af A M.size ai:=λhz xx ai=>aM (xx.same _ V) ai;have am:∀{Z:E},q.size<=Z.size->∀c∈m.aC::f::B,c<Z.size:=λhz c b=>by
   simp only[aW]at b;rcases b with e|e|e
   .omega
   .omega
   .have:=Y.fS c e;have:=X.size;omega
  refine⟨λO=>∃g y,Rx B mb O f g y cons first F Q/\mV ds (pc rs) N U y (6*a.w)/\Fz [f,m.aC] q O/\(g.aC=m.aC\/q.size<=g.aC),⟨λh7=>?_,λn7=>⟨λar=>?_,λa5=>⟨λaw=>?_,λa6=>?_⟩⟩⟩,?_⟩
  .simp only[cD,aO]at h7;refine(b a (av hx) h7 B mb q f m U cons first F Q aQ a7 pa pk k o V hB V hn T aX).mono λv m5⟨g,y,ab,p5,P,b5⟩=>⟨OC.de P (R (ad _)),g,y,k.next ab P b5,p5,P,b5⟩
  .simp only[cD,aO]at ar;refine(bP (m.aC::f::B) (T.ext k.x) V).mono λv m5⟨a',la,e,ga,ea,d⟩=>⟨kS (ad _) d,a',e,C (ad _) d _,?_⟩;subst ea;have l:=k.ext d;have w:=d.size;refine(pV (x:=⟨a.op,0,0,0,a.args,[]⟩) l.em l.x.size (GI.done ga (am (ad _)) (by show a.args.length<=_;omega)) (sF _) V).mono λv K⟨ev,s6,l6,ak,p6,G,b6⟩=>⟨OC.de G (R w),_,ev,s6,l6,l.next ak G b6,?_,(d.fz _).trans G,V⟩;subst p6;exact(mV.lj (x:=⟨a.op,0,0,0,a.args,[]⟩) ⟨aB,⟨dh _,by show(0:Int)<_;omega⟩,Or.inl rfl,Or.inl rfl,Or.inr rfl,by have:=o.dV.lj V;rcases ar with e|e<;>simp[Sf,e,this]⟩ (by show a.op<20;omega) (by show a.args.length<=_;omega)).gE V
  .simp only[cD,aO]at aw;have bb:=o.dV.lj V;let⟨L,an⟩:=cq a.args 0;let⟨y0,y1⟩:=o.dV.args L (av an);have be:=T.len;have c4:=(k.cons.le (bA _ _));have f4:=(k.first.le (bA _ _));have a3:=c4.len;have a4:=f4.len;have aY:=k.same;let⟨cn,aR⟩:=cq F L.toNat;let⟨fn,al⟩:=cq Q L.toNat;let⟨a_,ba⟩:=k.jh fn (av al);have F4:=f4.aQ al;refine⟨bo,V,L,(T.ext k.x).aQ an,y0,V,cn,c4.aQ aR,y0,V,fn,F4,?_⟩;refine(dF (e:=[]) aJ (hn.bu.le (k.x.le.trans (yW _))) hn.types cn).mono λv m5⟨aT,bv,e,aN,ax,d⟩=>⟨kS (ad _) d,aT,e,by rw[d.af F4,F4],C (ad _) d _,C (ad _) d _,?_⟩;subst ax;have w:=d.size;have F3:=Ey hn.types cn;obtain⟨fk,aS⟩:∃fk:Nat,fn=fk:=⟨fn.toNat,V⟩;subst aS;refine(qX (S:=[]) aJ aN fk V).mono λv K⟨aU,bw,e,aC,ac,j⟩=>⟨kS w j,aU,e,C w j _,C w j _,?_⟩;have z6:=j.size;refine(eD (S:=[]) aJ ((T.ext (k.x.trans (d.trans j))).le (yW _)) (aC.done tp.mono aJ bo (oh ac.2)) (oh ac.2)).mono λv m7⟨aq,u,e,aH,aj,r⟩=>⟨kS V r,aq,e,C V r _,?_⟩;have X7:=(d.trans j).trans r;have z:=k.ext X7;have z7:=r.size;have aI:GI (m.aC::f::B) K m7 aq u:=GI.any aH;have bc:u.length<=a.args.length+3:=by rw[<-aj];simp;have:=ac.2;omega
   have aP:1<=u.length/\u.length<=4:=by
    have:0<u.length:=by rw[<-aj];simp;omega
    omega
   have bd:0<u.length:=by rw[<-aj];simp;omega
   refine(pV (x:=⟨a.op,0,0,0,u,[]⟩) z.em z.x.size (aI.done (am V) V) (sF _) V).mono λv m8⟨ev,s8,l8,ay,p8,f8,b8⟩=>⟨OC.de f8 (R V),_,ev,s8,l8,z.next ay f8 b8,?_,(X7.fz _).trans f8,V⟩;subst p8;exact(mV.lj (x:=⟨a.op,0,0,0,u,[]⟩) ⟨λD i=>by
    rw[<-aj]at i;rcases List.mem_append.1 i with i|i
    .exact aB D i
    .have:=ac.1 D i;omega,⟨dh _,by show(0:Int)<_;omega⟩,Or.inl rfl,Or.inl rfl,Or.inr rfl,by rcases aw with e|e<;>simp[Sf,e,aP]⟩ (by show a.op<20;omega) (by show u.length<=_;omega)).gE V
  .refine(bP (m.aC::f::B) (T.ext k.x) V).mono λv m5⟨a',la,e,ga,ea,d⟩=>⟨kS (ad _) d,a',e,C (ad _) d _,C (ad _) d _,C (ad _) d _,?_⟩;subst ea;simp only[bW,ap]at a5 a6;have l:=k.ext d;have w:=d.size;have aj:a.op<=11:=by
    rcases o.dV.op with i|i
    .exact i.2
    .omega
   refine(pV (x:=⟨a.op,(cons.len:Int),a.bM,a.bY,a.args,[]⟩) l.em l.x.size (GI.done ga (am (ad _)) (by show a.args.length<=_;omega)) (sF _) V).mono λv K⟨ev,s6,l6,ak,p6,G,b6⟩=>⟨OC.de G (R w),_,ev,s6,l6,l.next ak G b6,?_,(d.fz _).trans G,V⟩;subst p6;have u:0<=a.op:=by rcases o.dV.op with i|i;exact i.1;omega
   have ac:=o.dV.bY;have al:=l.cons.len;simp only[bW,ap]at n7;exact(mV.lj (x:=⟨a.op,(cons.len:Int),a.bM,a.bY,a.args,[]⟩) ⟨aB,⟨by show(0:Int)<=(cons.len:Int);omega,by show(cons.len:Int)<_;omega⟩,Or.inr (Or.inl ⟨u,aj,n7⟩),by by_cases e:a.bY=0;exact Or.inl e;exact Or.inr ⟨o.dV.Zi e,ac.1,by show a.bY<=(cons.len:Int);omega⟩,Or.inr rfl,by unfold Sf;rw[ao (by show a.op<12;omega)];exact⟨o.dV.ar,u,n7⟩⟩ (by show a.op<20;omega) (by show a.args.length<=_;omega)).gE V
  .rintro O ⟨g,y,l,p5,P,b5⟩;have w:=P.size;have ab:mV ds (pc rs) N ah y (6*sw (aE.take (p+1))):=(ag.trans p5).gE V;have aq:Fz [f,aa.aC] H O:=(fz.then x4).rf P λL t=>by
    simp only[aW,iW,AG]at t⊢;rcases t with e|e
    .exact Or.inl (Or.inl e)
    .rcases aZ with d|d
     .exact Or.inl (Or.inr V)
     .exact Or.inr V
   have ax:g.aC=aa.aC\/I.size<=g.aC:=V;have bb:=l.em.gr.bn;have ak:∀h∈[M.size,W.size,H.size],h<O.size:=λh s=>aL (R (ad _) h s).1 w;have ay:=λh s=>sB a h s;refine(jz a.op O).mono λv K⟨h,e,s,j⟩=>⟨λc b=>j.same c (ak c b),h,e,λht=>?_,λhf=>?_⟩
   .have hd:=ay h s;rw[ao ht]at hd;intro m7;have r:J K m7:=J.push _ _;have ba:=l.em.box.lt;have z6:=j.size;have ac:∀c∈[g.aC,f],c<K.size:=λc b=>by simp at b;omega
    have a3:au (bI [g.aC,f] m7) (.mk K.size 0 1 1) [0]:=au.lit aA [0] ac rfl rfl aJ;have X7:=j.trans r;have z:=l.ext X7;have a_:=z.cons.len;refine(eD (S:=[g.aC,f]) (λc b=>r.lt (ac c b)) z.cons a3 bS).mono λv m8⟨aN,aC,e,aR,u,x8⟩=>⟨λc b=>x8.same c (r.lt (j.lt (ak c b))),aN,e,?_⟩;intro m9;have d:J m8 m9:=J.push _ _;have z7:=r.size;have z8:=x8.size;have al:∀c∈[g.aC,f],c<m8.size:=λc b=>by have:=ac c b;omega
    have a4:au (bI [g.aC,f] m9) (.mk m8.size 0 1 1) [0]:=au.lit aA [0] al rfl rfl aJ;have E9:=z.ext (x8.trans d);have aY:=E9.same;refine(eD (S:=[g.aC,f]) (λc b=>d.lt (al c b)) E9.first a4 bS).mono λv aI⟨aP,aH,e,aS,an,G⟩=>⟨λc b=>G.same c (d.lt (x8.lt (r.lt (j.lt (ak c b))))),aP,e,?_⟩;have aj:=E9.ext G;have aT:au (bI [g.aC,f] aI) aN aC:=(GI.done aR (λc b=>r.lt (ac c b)) (by rw[<-u];simp;omega)).le ((d.trans G).cR _);have aU:au (bI [g.aC,f] aI) aP aH:=GI.done aS (λc b=>d.lt (al c b)) (by rw[<-an];simp;omega);refine aK V _ _ _ ⟨g,y,aC,aH,⟨aj.em,aj.x,aj.fS,aT,aU,by rw[<-u,<-an];simp;omega,λL t=>?_⟩,by rw[<-u];simp;omega,ab,aq.then (((X7.trans x8).trans d).trans G),ax,?_⟩
    .rw[<-an]at t;rcases List.mem_append.1 t with t|t
     .have:=l.jh L t;rw[<-u];simp;omega
     .simp at t;rw[<-u];simp;omega
    .have:=d.size;have:=G.size;omega
   .have hd:=ay h s;rw[ae (by simp[hf])]at hd;exact aK V _ _ _ ⟨g,y,F,Q,l.ext j,V,ab,aq.then j,ax,oh j.size⟩
 .have a:p=aE.length:=V;subst a;rw[gY]at ag;exact⟨m,U,Y.em,ag.gE V,fz,V⟩
section
variable{m:E}
def HU(m:E)(s:O):Prop:=s.len<=s.cap/\∀k:Nat,k<s.len->∃v:Int,0<=v/\v<=255/\af m s.aC (s.off+k*1)=some (.int .u8 v)
def Hv{bt:O}(h:HU m bt):aP cv 19 [O.v bt] m λv i=>∃a,v=vp m.size 0/\Rd m.size a 0 i/\J m i:=by
 let⟨g,f⟩:=h;apply zX;have R:∀a:O,HU m a->∃l,vp m.size 0=vp m.size 0/\Rd m.size l 0 (m.push (.cells (bE [.s a,.i 0]) pu))/\J m (m.push (.cells (bE [.s a,.i 0]) pu)):=λa⟨n,o⟩=>by
  refine⟨a,rfl,⟨⟨0,cB.push _ _ _,dh _,aJ⟩,n,λk c=>?_⟩,J.push _ _⟩;let⟨v,d,e,b⟩:=o k c;have s:=lH b;exact⟨v,d,e,eA.2 ⟨bS,(J.push m _).af b⟩⟩
 refine⟨λh=>?_,λ_=>R bt ⟨g,f⟩⟩;simp only[aq]at h;refine⟨bo,bo,V,?_⟩;refine R _ ?_;cases bt with
 |nil=>simp at h
 |CS j p q=>simp at h
 |mk j p t q=>
  simp only[O.dU,O.ND]at h g;refine⟨by simp[O.cut];omega,λk c=>?_⟩;have r:k<2000:=by simpa[O.cut]using c
  let⟨v,d,e,b⟩:=f k bS;exact⟨v,d,e,by simpa[O.cut]using b⟩
def JI(f:Nat)(b:List Value)(m:E)(S:List Nat)(Q:Ex->Prop):Prop:=aP cv f b m λv a=>∃s e,v=.agg #[vi e.op,vi e.bM,O.v s]/\fm (bI S a) s e.bH/\Q e/\J m a
def zN(S:List Nat)(n:Int)(m:E):JI 116 [vi n] m S (.mk 0 n []=·):=by
 apply Dy;simp -zeta only[aG,aF];intro a b d;have c:J m b:=(J.push m _).trans (J.push a _);exact⟨_,.mk 0 n [],rfl,lU _ _ _ _ _ _,rfl,c.aj (ad _) _ _⟩
def lM(S:List Nat)(n:Int)(m:E):JI 163 [vi n] m S (.mk 12 n []=·):=by
 apply Cj;simp -zeta only[aG,aF];intro a b d;have c:J m b:=(J.push m _).trans (J.push a _);exact⟨_,.mk 12 n [],rfl,lU _ _ _ _ _ _,rfl,c.aj (ad _) _ _⟩
def Iv{S:List Nat}{s:O}{bH:List Ex}(h:fm (bI S m) s bH)(a bM:Int):JI 161 [vi a,vi bM,O.v s] m S (.mk a bM bH=·):=by
 apply Je;simp -zeta only[aG,aF];intro d c;have b:J m c:=(J.push m _).aj (ad _) _ _;exact⟨s,.mk a bM bH,rfl,h.le (b.cR _),rfl,b⟩
def Aj{a P:Nat}{b:O}(r:Rd a b P m)(z:P+4<=10^16):aP cv 201 [vp a 0] m λv h=>∃k:Int,v=vi k/\(-999<=k/\k<=999)/\Rd a b (P+4) h/\Fz [a] m h:=by
 apply DM (a,0);refine(bX r V 6).mono λv A⟨d,e,y,b1,s,n⟩=>⟨d,e,?_⟩;refine(bX s V 6).mono λv B⟨f,e,a2,b2,t,o⟩=>⟨f,e,?_⟩;refine(bX t V 40).mono λv i⟨g,e,a3,b3,c,p⟩=>⟨g,e,?_⟩;intro j;have l:J i j:=J.push _ _;have x:au (bI [a] j) (.mk i.size 0 10 10) [d,f,0,1,2,-1,3,g,999,-998]:=au.lit aA _ (by have:=c.lt;simpa using this) rfl rfl aJ;refine(jR (c.ext l) V x aJ).mono λv C⟨k,e,w,u,q⟩=>⟨k,e,k,rfl,by simp at w;omega,u,((n.trans o).trans p).then l|>.trans q⟩
end
section
variable{m:E}
def ZA(e:Ex):Prop:=∀(m:E)(t:O),fm m t e.bH->∀left:Int,left<=600->rm 165 [.agg #[vi e.op,vi e.bM,O.v t],vi left] m λk=>k= -1\/0<=k/\k+e.n=left
def Hw:∀e:Ex,ZA e:=by
 refine Ex.ind ?_;intro L bM bH s m N c left F;simp only[Ex.VY,Ex.TR,Ex.Rb,Ex.RN]at*;apply zY;simp -zeta only[aG,aF];intro a;have f:J m a:=J.push _ _;have p:∀h∈[m.size],h<a.size:=by simp[a]
 clear_value a;have d:∀{M:E},J m M->∃k:Int,vi (-1:Int)=vi k/\(k= -1\/0<=k/\k+((1+en bH:Nat):Int)=left)/\J m M:=λB=>⟨-1,rfl,Or.inl rfl,B⟩;refine⟨λ_=>d f,λl=>?_⟩;simp only[bD]at l;have r:=c.len;rw[aS (b:=left -1) V V];refine dE (n:=bH.length) (r▸c.fA) (λk(v:Int) M=>J a M/\0<=v/\v+1+en (bH.take k)=left) ⟨J.aH _,V,aJ⟩ ?_;rintro k v M I μ D ⟨g,z,A⟩ t
 have u:=f.trans g;refine dit (λj=>?_) λj=>?_
 .let⟨e,b⟩:=cq bH k;let⟨w,q,i,g1,g2⟩:=c.aQ b;refine⟨V,V,_,u.af i,_,u.af g1,_,u.af g2,?_⟩;refine(s e (av b) M w (fm.le u.le q) v V).aK g p λK H G C y=>⟨_,rfl,λ_=>d (u.trans C),λo=>?_⟩;simp only[bD]at o;refine t V _ _ ⟨y,V,?_⟩
  rw[Jx b];omega
 .rw[cG V]at A;exact⟨v,rfl,Or.inr ⟨z,V⟩,u⟩
def zZ{t:O}{e:Ex}(h:fm m t e.bH):rm 122 [.agg #[vi e.op,vi e.bM,O.v t]] m λk=>k= -1\/k=e.n/\e.n<=30:=by
 apply DF;simp -zeta only[aG,aF];intro a;have b:J m a:=J.push _ _;have g:∀d∈[m.size],d<a.size:=by simp[a]
 clear_value a;refine(Hw e a t (fm.le b.le h) 30 bo).aK (J.aH a) g λn j i c l=>⟨_,rfl,λ_=>⟨-1,rfl,Or.inl rfl,b.trans c⟩,λf=>?_⟩;simp only[bD]at f;rw[aS (b:=30 -n) V V];exact⟨_,rfl,Or.inr ⟨V,V⟩,b.trans c⟩
def Lb{s:O}{l:List Int}(h:au m s l)(e:Int):rm 115 [O.v s,vi e] m λk=>-1<=k/\k<l.length:=by
 apply DI;have c:=h.len;refine eu (n:=l.length) (c▸h.fA) (λ_ M=>J m M) (J.aH _) ?_;rintro k M I μ g a f
 refine⟨λb=>?_,λ_=>⟨-1,rfl,⟨V,V⟩,a⟩⟩;simp only[aq]at b;let⟨x,d⟩:=cq l k;exact⟨V,V,x,(h.ext a).aQ d,λ_=>⟨k,rfl,⟨V,V⟩,a⟩,λ_=>f V _ a⟩
def KO(f:O)(m:E):aP cv 114 [O.v f] m λv a=>v=.agg #[O.v f]/\J m a:=by
 apply KN;simp -zeta only[aG,aF];intro b c;exact⟨trivial,(J.push m _).aj (ad _) _ _⟩
def QF(p:O)(r:Int)(m:E):aP cv 73 [O.v p,vi r] m λv a=>v=.agg #[O.v p,vi r,vi 0,vi 0,O.v .nil]/\J m a:=by
 apply Lc;simp -zeta only[aG,aF];intro b c;exact⟨trivial,(J.push m _).aj (ad _) _ _⟩
end
section
variable{a:List Nat}{m:E}{b d p:O}
def FV(q:∀c∈a,c<m.size){l:List Int}(h:au m b l)(w:l.length<=10^12)(u:Int):iU 202 [O.v b,vi u] m a λc=>(∀y∈c,0<=y/\y<(l.length:Int))/\c.length<=l.length:=by
 apply yw;intro B;have r:=h.len;refine dE (n:=l.length) (r▸h.fA) (λk s M=>J m M/\∃c,GI a m M s c/\(∀y∈c,0<=y/\y<(l.length:Int))/\c.length<=k) ⟨J.push m _,[],GI.nil a m,aJ,ad _⟩ ?_;rintro k s M I μ z ⟨e,c,g,f,A⟩ j
 refine⟨λi=>?_,λi=>⟨s,c,rfl,g,⟨f,V⟩,e⟩⟩;simp only[aq]at i;let⟨x,t⟩:=cq l k;refine⟨V,V,x,(h.ext e).aQ t,λ_=>?_,λ_=>j V _ _ ⟨e,c,g,f,V⟩⟩;intro C;exact GI.kj g (e.fz []) q V λD v p o _ _=>j V _ _ ⟨o.ext,_,p,λy d=>by
  rcases List.mem_append.1 d with d|d
  .exact f y d
  .simp at d;omega,bS⟩
def SD(m:E)(b:List Ce)(p:da):Prop:=∃a x y z,b=[.s a,.i p.aT,.i x,.i y,.s z]/\au m a p.params
abbrev oJ(m:E)(s:O)(l:List da):Prop:=eO m 5 (SD m) s l
def SD.le{m b:E}(h:Le m b){a:List Ce}{p:da}:SD m a p->SD b a p:=λ⟨c,x,y,z,d,e⟩=>⟨c,x,y,z,d,e.le h⟩
def oJ.le{m b:E}(a:Le m b){s:O}{l:List da}(h:oJ m s l):oJ b s l:=eO.le h a λ_ _=>SD.le a
def oJ.aQ{s:O}{l:List da}(h:oJ m s l){k:Nat}{p:da}(d:l[k]? =some p):∃a,au m a p.params/\af m s.aC (s.off+k*5)=some (O.v a)/\af m s.aC (s.off+k*5+1)=some (vi p.aT):=by
 obtain⟨e,⟨a,x,y,z,rfl,c⟩,b⟩:=h.jD k p d;exact⟨a,c,b 0 _ rfl,b 1 _ rfl⟩
def ClQ(a:List bq)(b:List da)(t y:Int):Prop:=∃(f:Nat)(q:da),y=f/\b[f]? =some q/\0<q.params.length/\(0<t->∃d∈a,d.cons.length=0/\q.params.getLast?=some d.tn/\q.aT=d.to)
def xg(X:∀g∈a,g<m.size){h:List bq}{e:List da}(hd:bZ m d h)(ht:dI h)(o:oJ m p e)(hf:e.length<=1000)(v:Int):iU 240 [.agg #[O.v d,O.v p],vi v] m a λb=>(∀y∈b,ClQ h e v y)/\b.length<=e.length:=by
 apply Bo;simp -zeta only[aG,aF];intro c q;have z:J m c:=J.push _ _;have G:∀g∈[m.size],g<c.size:=by simp[c]
 have R:GI a c q (.mk c.size 0 0 0) []:=GI.nil a c;have x2:J c q:=J.push _ _;clear_value q;clear_value c;have aa:=o.len;refine dE (n:=e.length) (aa▸o.fA) (λk t M=>J c M/\∃b,GI a c M t b/\(∀y∈b,ClQ h e v y)/\b.length<=k) ⟨x2,[],R,aJ,ad _⟩ ?_;rintro k t M ac μ hk ⟨A,b,i,j,af⟩ r
 have u:=z.trans A;refine⟨λF=>?_,λF=>⟨t,b,rfl,i.cL (λ_ E=>E) z.size,⟨j,V⟩,u⟩⟩;simp only[aq]at F;let⟨s,I⟩:=cq e k;let⟨B,l,C,P⟩:=o.aQ I;have ae:=l.len;have ag:=l.fA;refine⟨V,V,_,u.af C,λS=>?_,λ_=>r V _ _ ⟨A,b,i,j,V⟩⟩;simp only[aq]at S;rw[aS (b:=(B.len:Int) -1) V V];let⟨y,K⟩:=cq s.params (((B.len:Int) -1).toNat);refine⟨V,V,_,u.af C,V,V,y,(l.ext u).aQ K,V,V,_,u.af P,?_⟩;refine(zj (hd.le u.le) ht y s.aT).aK A G λai m3 H L w=>⟨_,rfl,λZ=>?_,λ_=>r V _ _ ⟨w,b,i.ext L,j,V⟩⟩;intro m4;refine GI.kj (i.ext L) (w.fz []) (λg f=>z.lt (X g f)) V λaj M' Q D _ _=>⟨J.nP (w.aR _) D.ext G,r V _ _ ⟨D.ext,_,Q,λab f=>?_,bS⟩⟩;rcases List.mem_append.1 f with f|f
 .exact j ab f
 .simp at f Z;refine⟨k,s,f,I,V,λE=>?_⟩;rcases H with H|⟨ah,N,_,Y,T,U,W⟩
  .omega
  .refine⟨N,av Y,T,?_,W.symm⟩;rw[List.getLast?_eq_getElem?,U,<-K];congr 1;omega
def pd{i:List bq}{j:List da}{v:List Int}(hd:bZ m d i)(k:dI i)(q:oJ m p j)(o:j.length<=1000)(r:au m b v)(t:Int):nW 203 [.agg #[O.v d,O.v p],O.v b,vi t] m:=by
 apply Dn;simp -zeta only[aG,aF];intro a;have f:J m a:=J.push _ _;have e:∀n∈[m.size],n<a.size:=by simp[a]
 clear_value a;refine(my (hd.le f.le) k t).any.aK (J.aH a) e λl x g _=>⟨_,rfl,λ_=>rA (f.trans g),λ_=>?_⟩;have c:=f.trans g;refine(xg (a:=[]) aJ (hd.le c.le) k (oJ.le c.le q) o t).aK g e λA w y _ _ h s=>⟨_,rfl,λ_=>rA (c.trans h),λ_=>?_⟩;exact(dj (r.ext (c.trans h)) t).any.aK s e λl z u _=>⟨_,rfl,rA ((c.trans h).trans u)⟩
end
def KL{a P:Nat}{p:O}{m:E}(h:Rd a p P m)(Q:P+1<=10^16){q v x:O}{i:List bq}{r:List da}{L:List Int}(hd:bZ (bI [a] m) q i)(H:dI i)(G:oJ (bI [a] m) v r)(B:r.length<=1000)(I:au (bI [a] m) x L):
 aP cv 196 [vp a 0,.agg #[O.v q,O.v v],O.v x] m λw u=>∃k:Int,w=vi k/\(k=1\/0<=k/\k<=4/\k<=i.length)/\Rd a p (P+1) u/\Fz [a] m u:=by
 apply Dl (a,0)
 simp -zeta only[aG,aF]
 intro b d
 have U:b.size=m.size+1:=by simp[b]
 have M:J m b:=J.push _ _
 have y:J b d:=J.push _ _
 have z:J m d:=M.trans y
 have S:=h.lt
 have t:∀c∈[m.size],c<d.size/\c∉[a]:=λc n=>by have:=y.size;simp at n⊢;omega
 have K:au (bI [a] d) (.mk b.size 0 7 7) [1,1,3,0,2,4,3]:=au.lit aA _ bS rfl rfl aJ
 clear_value d
 have R:=hd.len
 refine(jR (h.ext z) V K aJ).mono λw f⟨k,A,C,l,j⟩=>⟨j.de t,k,A,?_⟩
 have e:Fz [a] m f:=(z.fz _).trans j
 have s:0<=k/\k<=4:=by simp at C;omega
 refine⟨λ_=>⟨1,rfl,Or.inl rfl,l,e⟩,λF=>?_⟩
 simp only[bD]at F
 have o:Le (bI [a] m) f:=(e.cR λ_ h=>h).trans (bA _ _)
 have D:∀c∈[m.size],c<f.size:=λc n=>aL (t c n).1 j.size
 refine(pd (hd.le o) H (oJ.le o G) B (I.le o) k).aK (J.aH f) D λN T g _=>⟨_,rfl,λ_=>⟨1,rfl,Or.inl rfl,l.ext g,e.then g⟩,λ_=>⟨k,rfl,Or.inr ⟨s.1,s.2,V⟩,l.ext g,e.then g⟩⟩

section
variable{t:Int}{x:Ex}
def JO:List bq:=[⟨0,0,[[],[0,1]]⟩,⟨0,0,[]⟩,⟨0,0,[[],[3,0,3]]⟩]
def Rc:List bq:=[⟨0,0,[[1,3]]⟩,⟨1,0,[]⟩,⟨0,0,[[1,1,0],[0],[3]]⟩,⟨0,1,[]⟩]
def ov:List (List bq):=JO::Rc.map λd=>JO++[d]
def OK:List (List Int×Int):=[([],0),([1],0),([1,1],1),([1],1),([1,0],1),([2,1],1),([1,1],0),([3],0),([0],1),([0,1],1),([3,0],3),([3],1),([1,3,0],0),([0],0),([0,0],0),([1,0],0)]
structure GP(ds:List bq)(fs:List da):Prop where
 ds:ds∈ov
 gR:0<fs.length
 nv:fs.length<=4
 df:∀q∈fs,(q.params,q.aT)∈OK
 first:∀q,fs[0]? =some q->q.params=[]/\q.aT=0
def Lo(t:Int):Prop:=t=0\/t=1\/t=3
instance(t:Int):Decidable (Lo t):=inferInstanceAs (Decidable (_\/_))
def Ty(a:List bq)(t:Int):Prop:=0<=t/\t<=(a.length:Int)
instance(a:List bq)(t:Int):Decidable (Ty a t):=inferInstanceAs (Decidable (_/\_))
section
variable{a:List bq}{b:List da}
def mW:∀a∈ov,3<=a.length/\a.length<=4:=bo
def PW:∀a∈ov,∀t∈[(0:Int),1,2,3,4],∀c∈(cb a t).take 2,((cb a t).head?=some c\/t∉cg a c)->(cg a c).length<=3/\(∀f∈cg a c,Lo f)/\(Lo t->(cg a c).length=0):=bo
def QQ:∀a∈ov,0<(cb a 1).length/\0<(cb a 3).length/\(cb a 0).length=0:=bo
def PU:∀a∈ov,∀d∈a,d.cons.length=0->∀s∈OK,s.1.getLast?=some d.tn->s.2=d.to->∀f∈s.1.dropLast,Lo f:=bo
def Mx:∀a∈ov,cb a 1=[0,1]/\cb a 3=[2,3]/\cg a 0=[]/\cg a 1=[0,1]/\cg a 2=[]/\cg a 3=[3,0,3]:=bo
def yD:∀a∈ov,(∀t∈[(0:Int),1,2,3,4],∀c∈cb a t,(cg a c).length<=3/\∀f∈cg a c,Ty a f)/\(∀t∈[(0:Int),1,2,3,4],(cb a t).length<=3)/\(∀d∈a,Ty a d.tn):=bo
def PV:∀a∈ov,∀t∈[(1:Int),3,4],(t:Int)<=a.length->(∀d∈a[t.toNat -1]?,d.cons.length≠0)->0<(cb a t).length:=bo
def tJ:∀s∈OK,s.1.length<=3/\(∀t∈s.1,0<=t/\t<=3)/\0<=s.2/\s.2<=3:=bo
def U0(a:0<=t)(b:t<=4):t∈[(0:Int),1,2,3,4]:=bS
def Ty.WK(hd:a∈ov)(h:Ty a t):t∈[(0:Int),1,2,3,4]:=U0 h.1 (PO (mW a hd) h.2)
def GP.ty(h:GP a b)(c:0<=t)(d:t<=3):Ty a t:=⟨c,oh (mW a h.ds)⟩
def Lo.ty(hd:a∈ov)(h:Lo t):Ty a t:=by have:=mW a hd;unfold Lo at h;constructor<;>omega
end
def SG:∀a∈ov,∀d∈a,0<d.cons.length->d.cons.length<=3/\d.tn=0/\d.to=0/\∀f∈d.cons,f.length<=3/\∀t∈f,0<=t/\t<=(a.length:Int):=bo
def SH:∀a∈ov,∀k∈List.range a.length,∀d∈a[k]?,d.cons.length=0->(∀e∈a.take k,¬(e.cons.length=0/\e.tn=d.tn/\e.to=d.to))/\Ty a d.tn/\Ty a d.to:=bo
def pH{a:List bq}(h:a∈ov):dI a:=
 ⟨(mW a h).2,λk d b=>⟨SG a h d (av b),SH a h k (List.mem_range.2 (az b)) d b⟩⟩
def SI:∀a∈ov,∀t∈[(0:Int),1,2,3,4],∀c∈cb a t,0<=c/\c<((eI a).length:Int):=bo
section
variable{a:List bq}{b:List Nat}{n k:Nat}
def SK{c:Int}(hd:a∈ov)(f:t∈[(0:Int),1,2,3,4])(d:c∈cb a t)(e:n=(cg a c).length):Ar a b 6 c n:=by
 have:=SI a hd t f c d;simpa[Ar,e]using this
def Ju(h:b[k]? =some n):Ar a b 9 k n:=by simpa[Ar]using h
def SJ(h:b[k]? =some (n+1)):Ar a b 10 k n:=by simpa[Ar]using h
end
structure XF(ds:List bq)(nf:List Nat)(a:Nat)(op bM:Int)(n:Nat):Prop where
 o:0<=op/\op<=13
 Uh:op=12->0<=bM/\bM<(a:Int)
 Jr:op=13->n=2
 Y3:op=7->n=3
 all:op=8->n=1+(cb ds bM).length/\0<(cb ds bM).length
 ar:op<=11->Ar ds nf op bM n
def pf(a:List da):List Nat:=a.map λq=>q.params.length
def MU{a:List da}{k:Nat}{q:da}(h:a[k]? =some q):(pf a)[k]? =some q.params.length:=by rw[pf,bT,h];rfl
def xb(b:List bq)(a bM:Int):Nat->Nat
 |0=>0
 |i+1=>if a=13 then 1 else AI b a bM i
inductive WX(ds:List bq)(nf:List Nat):Nat->Ex->Prop
 |mk {a:Nat} {op bM:Int} {bH:List Ex} (dV:XF ds nf a op bM bH.length) (hk:∀(i:Nat)(e:Ex),bH[i]? =some e->WX ds nf (a+xb ds op bM i) e):WX ds nf a (.mk op bM bH)
section
variable{b:List bq}{c:List Nat}{a:Nat}{d bM:Int}{bH:List Ex}
def WX.bC{e:Ex}(h:WX b c a e):XF b c a e.op e.bM e.bH.length/\∀(i:Nat)(x:Ex),e.bH[i]? =some x->WX b c (a+xb b e.op e.bM i) x:=by
 cases h with
 |mk dV d=>exact⟨dV,d⟩
def Y6(a:d≠13)(c:d≠8)(i:Nat):xb b d bM i=0:=by
 cases i with
 |zero=>rfl
 |succ i=>show(if d=13 then 1 else AI b d bM i)=0;rw[ae a,JQ c]
def WX.dV(k:0<=d/\d<=11)(g:d=7->bH.length=3)(f:d≠8)(i:Ar b c d bM bH.length)(j:∀e∈bH,WX b c a e):WX b c a (.mk d bM bH):=
 .mk ⟨⟨V,V⟩,λh=>V,λh=>V,g,λh=>absurd h f,λ_=>i⟩ λl e h=>by rw[Y6 V f];exact j e (av h)
def WX.int{n:Int}(h: -999<=n/\n<=999):WX b c a (.mk 0 n []):=.dV bo (λh=>V) bo (by simpa[Ar]using h) aJ
def WX.Uh(h:0<=bM/\bM<(a:Int)):WX b c a (.mk 12 bM []):=.mk ⟨bo,λ_=>h,λh=>V,λh=>V,λh=>V,λh=>V⟩ aJ
def WX.lt{y:Ex}(e:WX b c a x)(f:WX b c (a+1) y):WX b c a (.mk 13 0 [x,y]):=
 .mk ⟨bo,λh=>V,λ_=>rfl,λh=>V,λh=>V,λh=>V⟩ λi g d=>by
  rcases i with _|_|i
  .simp at d;subst d;exact e
  .simp at d;subst d;exact f
  .simp at d
def WX.mt{l:List Ex}(k:WX b c a x)(n:l.length=(cb b bM).length)(m:0<l.length)(j:∀(i:Nat)(e:Ex)(f:Int),l[i]? =some e->(cb b bM)[i]? =some f->WX b c (a+(cg b f).length) e):WX b c a (.mk 8 bM (x::l)):=
 .mk ⟨bo,λh=>V,λh=>V,λh=>V,λ_=>⟨bS,V⟩,λ_=>by simp[Ar]⟩ λi e d=>by
  rcases i with _|i
  .simp at d;subst d;exact k
  .simp at d;let⟨f,g⟩:=cq (cb b bM) i (oh (az d));have:=j i e f d g;show WX b c (a+AI b 8 bM i) e;rw[JP rfl g];exact this
end
end
section
variable{X:List Nat}{b k c:Nat}{s:O}
structure GC(rb:Nat)(bs:O)(P:Nat)(d p:O)(ds:List bq)(fs:List da)(m:E):Prop where
 rd:Rd rb bs P m
 hd:bZ (bI [rb] m) d ds
 hp:oJ (bI [rb] m) p fs
 gp:GP ds fs
def Lw(a:Nat)(L:List Nat)(m:E):Prop:=∀b∈L,b<m.size/\b≠a
def XP(S:List Nat)(b:Nat)(c:O)(m:E)(P:Nat)(Q:Ex->Prop)(v:Value)(a:E):Prop:=∃s e,v=.agg #[vi e.op,vi e.bM,O.v s]/\fm (bI S a) s e.bH/\Q e/\Rd b c P a/\Fz [b] m a
abbrev IR(a:Nat)(m:E)(s:O)(l:List Int):Prop:=au (bI [a] m) s l
section
variable{e P i:Nat}{h d p:O}{l:List bq}{n:List da}{m M g:E}{S L:List Nat}{f:Nat}{j:List Value}{Q Q':Ex->Prop}
def fh(f:Fz [e] m M):Le (bI [e] m) (bI [e] M):=f.cR λ_ h=>h
def GC.to(a:GC e h P d p l n m)(f:Fz [e] m M)(r:Rd e h i M):GC e h i d p l n M:=⟨r,a.hd.le (fh f),oJ.le (fh f) a.hp,a.gp⟩
def GC.ext(a:GC e h P d p l n m)(x:J m M):GC e h P d p l n M:=a.to (x.fz _) (a.rd.ext x)
def GC.types(a:GC e h P d p l n m):dI l:=pH a.gp.ds
def Lw.fz(h:Lw e L m)(f:Fz X m M):Lw e L M:=λb a=>⟨aL (h b a).1 f.size,(h b a).2⟩
def Lw.lt(h:Lw e L m)(f:Fz X m M):∀b∈L,b<M.size:=λb a=>(h.fz f b a).1
def Lw.de(h:Lw e L m)(f:Fz [e] m M):eF L m M:=f.de λb a=>⟨(h b a).1,by have:=(h b a).2;simpa using this⟩
def Lw.cK(h:Lw e L m)(f:Fz [e] m M)(c:Fz [e] M g)(a:b∈L)(o:Nat):af g b o=af M b o:=aM (c.same b (h.fz f b a).1 (by have:=(h b a).2;simpa using this)) o
def XP.mono{P i:Nat}(k:∀a,Q a->Q' a)(j:P<=i){v:Value}:XP S e h m P Q v M->XP S e h m i Q' v M:=λ⟨s,a,b,c,d,f,g⟩=>⟨s,a,b,c,k a d,f.mono j,g⟩
def XP.then{K:Value->E->Prop}(c:aP cv f j M (XP S e h M P Q))(m:Lw e L M)(n:∀s a g,fm (bI S g) s a.bH->Q a->Rd e h P g->Fz [e] M g->K (.agg #[vi a.op,vi a.bM,O.v s]) g):aP cv f j M λv g=>eF L M g/\K v g:=
 c.mono λv g⟨s,a,d,i,k,l,b⟩=>⟨m.de b,d▸n s a g i k l b⟩
def Lw.Df(h:Lw e L m)(f:Fz [e] m M)(a:Fz [e] m g):eF L M g:=λb c=>by
 have:=h b c;rw[f.same b this.1 (by simpa using this.2),a.same b this.1 (by simpa using this.2)]
def XP.ret{p:Nat}(q:aP cv f j M (XP (b::S) e h M P Q))(t:Lw e L M)(o:Fz [e] m M)(r:Rd e h p m)(n:m.size<=b)(v:∀a,Q a->Q' a)(u:P<=i):
 aP cv f j M λA g=>eF L M g/\∃c d:Int,∃k:O,A=.agg #[vi c,vi d,O.v k]/\XP S e h m i Q' (.agg #[vi c,vi d,O.v k]) (aj g b 0 [.i c,.i d,.s k]):=
 XP.then q t λs a g z y w l=>⟨_,_,_,rfl,s,a,rfl,fm.le (cp aJ λB x=>ah _ x) z,v a y,r.aj (w.mono u) (o.trans l) n 0 _,(o.trans l).aj (Or.inr n) _ _⟩
abbrev GE(S:List Nat)(a m:E)(s:O)(l:List Ex):Prop:=Gr S a m bL 3 AH s l
def XP.kj{B:Nat}{i:E}{s:O}{n:List Ex}{K:O->E->Prop}(D:aP cv f j M (XP (s.aC::S) e h M P Q))(t:GE S i M s n)(z:Fz [e] i M)(w:Lw e L i)(u:Rd e h B i)(H:e∈S)(l:n.length<=1000)
 (F:∀c r g,Q c->GE S i g r (n++[c])->Rd e h P g->Fz [e] i g->Fz [e,s.aC] M g->(r.aC=s.aC\/M.size<=r.aC)->K r g):
 aP cv f j M λN k=>eF L M k/\∃o p:Int,∃q:O,N=.agg #[vi o,vi p,O.v q]/\
  jb (k.push (.cells (bE [.i o,.i p,.s q]) bL)) bL [.i 0,.i 0,.s .nil] 40 s (O.mk k.size 0 1 1) λr g=>eF L (k.push (.cells (bE [.i o,.i p,.s q]) bL)) g/\K r g:=
 XP.then D (w.fz z) λU c k J G x d=>⟨_,_,_,rfl,by
  have T:=t.bn;have I:=u.lt;have v:=z.trans d;refine Gr.kj (g:=[.i 0,.i 0,.s .nil]) (k:=c) AH.mono bo (t.fU AH.mono d (by simp;exact⟨H,I⟩)) v (by cases c;exact AH.of J) V λr g C m R A=>⟨w.Df (v.push _) m,F c r g G C (u.LR x m (A e x.lt V)) m ⟨bJ d.size R.1,λb y l=>?_⟩ (oh d.size)⟩;simp only[aW,iW,AG,uJ]at l;rw[A b (aL y d.size) l.2,d.same b y (by simpa using l.1)]⟩
def Ym{b:E}(h:Fz [e,k] b M)(d:s.aC=k\/b.size<=s.aC)(a:Fz [e,s.aC] M g):Fz [e,k] b g:=
 h.rf a λy c=>by simp at c⊢;omega
end
def mz{S:List Nat}{d P:Nat}{b:O}{m:E}{bH:List Ex}(j:Rd d b P m)(h:fm (bI S m) s bH)(a bM:Int):aP cv 161 [vi a,vi bM,O.v s] m (XP S d b m P (.mk a bM bH=·)):=
 (Iv h a bM).mono λv l⟨k,e,f,g,i,c⟩=>⟨k,e,f,g,i,j.ext c,c.fz _⟩
def Xk(b:List bq)(d:List da)(c:Nat)(e:Ex):Prop:=(∀a,WX b (pf d) a e)/\e.n<=c
def WD(c k:Nat)(e:List bq)(f:List da)(t:Int):Prop:=∀(S:List Nat)(a P:Nat)(b d p:O)(m:E),(∀g∈S,g<m.size)->a∈S->GC a b P d p e f m->P+k<=10^16->
 aP cv 204 [vp a 0,.agg #[O.v d,O.v p],vi t] m (XP S a b m (P+k) (Xk e f c))
def Ro{a:List bq}{b:List da}{l:List Ex}{d g:Int}(n:d=6\/d=10)(j:Ar a (pf b) d g l.length)(h:∀e∈l,Xk a b 1 e)(m:l.length+1<=c):Xk a b c (.mk d g l):=
 ⟨λi=>.dV V (λh=>V) V j λe f=>(h e f).1 i,by
  rw[Ex.RN];have:∀l:List Ex,(∀e∈l,Xk a b 1 e)->en l<=l.length:=λl=>by
   induction l with
   |nil=>simp
   |cons x l k=>intro h;rw[NG,aY];have:=(h x aJ).2;have:=k λe f=>h e (by simp[f]);omega
  have:=this l h;omega⟩
def Iu{d:List bq}{fs:List da}{t:Int}(ht:Ty d t)(F:(Lo t/\c=1/\k=5)\/((∀a,Lo a->WD 1 5 d fs a)/\c=4/\k=20)):WD c k d fs t:=by
 intro r f B I an ax al hS aa a hP;apply Cd (f,0);simp -zeta only[aG,aF];intro m ab;let⟨x2,hl⟩:=dk (a:=m) (c:=ab) rfl rfl;have s1:m.size=al.size+1:=by simp[m]
 clear_value ab;have hr:=a.rd.lt;have L2:Lw f [m.size,al.size] ab:=λb K=>⟨hl b K,by simp at K;omega⟩;have Y:=a.types;have h5:=Ty.WK a.gp.ds ht;have ag:∀e∈m.size::r,e<ab.size:=bR hS x2.size (hl _ aJ);have c2:=a.ext x2;refine(gP (e:=[f]) (by simp;exact c2.rd.lt) (c2.hd.le (bA _ _)) Y t).mono λA m3⟨cs,l,e,hc,q,H⟩=>⟨L2.de (H.fz _),cs,e,?_⟩;subst q;have u:=c2.ext H;have N:=L2.fz (H.fz []);have u3:=x2.trans H;have aN:=hc.len;refine dit (λh0=>?_) λh0=>?_
 .let⟨X,ak⟩:=cq (cb d t) 0;have hh:(cb d t).head?=some X:=by rw[List.head?_eq_getElem?];exact ak
  have L:X∈(cb d t).take 2:=List.mem_take_iff_getElem.2 ⟨0,V,by have:=List.getElem?_eq_some_iff.1 ak;exact this.2⟩;have A0:∀{M:E},Fz [f] m3 M->af M cs.aC (cs.off+Int.toNat 0*1)=some (vi X):=λR=>(eA.1 ((hc.le (fh R)).aQ ak)).2;refine⟨bo,V,X,A0 (Fz.aH _ _),λa M=>a∈(cb d t).take 2/\Rd f I (B+1) M/\Fz [f] m3 M,⟨λD=>?_,λD=>⟨L,u.rd.mono V,Fz.aH _ _⟩⟩,?_⟩
  .simp only[aq]at D;let⟨o,i⟩:=cq (cb d t) 1;have t1:o∈(cb d t).take 2:=List.mem_take_iff_getElem.2 ⟨1,V,by have:=List.getElem?_eq_some_iff.1 i;exact this.2⟩;refine(bX u.rd V 4).mono λA m4⟨G,e,_,_,j,g⟩=>⟨N.de g,G,e,λh=>⟨bo,V,o,(eA.1 ((hc.le (fh g)).aQ i)).2,t1,j,g⟩,λh=>⟨L,j,g⟩⟩
  rintro c' v ⟨aA,w,i⟩;have O:=N.fz i;refine⟨λa M=>a∈(cb d t).take 2/\((cb d t).head?=some a\/t∉cg d a)/\Rd f I (B+1) M/\Fz [f] m3 M,?_,?_⟩
  .refine(dF (e:=[]) aJ ((u.to i w).hd.le ((bA _ _).trans (yW _))) Y c').mono λA m6⟨R,l,e,hf,q,x⟩=>⟨O.de (x.fz _),R,e,?_⟩;subst q;refine(dj (hf.le (bA _ _)) t).mono λA o⟨b,e,K,g⟩=>⟨(O.fz (x.fz [])).de (g.fz _),b,e,λar=>?_,λah=>⟨aA,Or.inr λj=>by rw[K.2 j]at ah;exact absurd ah bo,(w.ext x).ext g,(i.then x).then g⟩⟩;have j:=(i.then x).then g;exact⟨bo,V,X,A0 j,L,Or.inl hh,(w.ext x).ext g,j⟩
  rintro Q p ⟨D,h2,r8,Z⟩;let⟨z3,aB,zz⟩:=PW d a.gp.ds t h5 Q D h2;have c8:=u.to Z r8;have L8:=N.fz Z;have F8:Fz [f] al p:=(u3.fz _).trans Z;have z8:=Z.size;have aE:=H.size;have z2:=x2.size;intro U;have x9:J p U:=J.push _ _;have g9:GE (m.size::r) p U (.mk p.size 0 0 0) []:=Gr.new _ (ad _) _ _ _;have s9:U.size=p.size+1:=by simp[U]
  clear_value U;refine(dF (e:=[f,p.size]) bS (c8.hd.le (x9.bI aJ)) Y Q).mono λA au⟨R,l,e,hf,q,ac⟩=>⟨(L8.fz (x9.fz [])).de (ac.fz _),R,e,?_⟩;subst q;have aC:=hf.len;refine dE (n:=(cg d Q).length) V (λj s M=>∃l,GE (m.size::r) p M s l/\l.length=j/\(∀e∈l,Xk d fs 1 e)/\Rd f I (B+1+5*j) M/\Fz [f] p M/\Fz [f,p.size] au M/\(s.aC=p.size\/au.size<=s.aC)) ⟨[],g9.ext AH.mono ac,rfl,aJ,(r8.ext x9).ext ac,((x9.trans ac).fz _),Fz.aH _ _,Or.inl rfl⟩ ?_;rintro j s M ay μ hj ⟨l,C,aD,T,W,o,ae,hs⟩ am
  have LM:=L8.fz o;refine dit (λh=>?_) λh=>?_
  .rcases F with⟨aj,_,_⟩|⟨ih,e1,e2⟩
   .have:=zz aj;omega
   let⟨y,z⟩:=cq (cg d Q) j;refine⟨V,V,y,(eA.1 ((hf.le (ae.cR λ_ h=>h)).aQ z)).2,?_⟩;exact XP.kj (ih y (aB y (av z)) (s.aC::m.size::r) f (B+1+5*j) I an ax M (bR (λe g=>by have:=ag e g;have:=o.size;have:=H.size;omega) (ad _) C.bn.2) (by simp[aa]) (c8.to o W) V) C o L8 r8 (by simp[aa]) V λe aM M' g g' r' f' ap aI=>
    am V _ _ ⟨_,g',bS,λe' ai=>by rcases List.mem_append.1 ai with h|h;exact T e' h;simp at h;subst h;exact g,r'.mono V,f',Ym ae hs ap,oh ae.size⟩
  .have aw:∀e∈m.size::r,e<p.size:=λe g=>by have:=ag e g;omega
   exact XP.ret (mz W (C.done AH.mono aw bo V) 6 Q) LM (F8.trans o) a.rd V (λe g=>g▸Ro (Or.inl rfl) (SK a.gp.ds h5 (dq D) V) T (by rcases F with⟨h,e,_⟩|⟨_,e,_⟩;have:=zz h;omega;omega)) (by rcases F with⟨h,_,e⟩|⟨_,_,e⟩;have:=zz h;omega;omega)
 .refine(xg (a:=[f]) (by simp;exact u.rd.lt) (u.hd.le (bA _ _)) Y (oJ.le (bA _ _) u.hp) (oh a.gp.nv) t).mono λA m4⟨U,l,e,gl,T,Q⟩=>⟨N.de (Q.fz _),U,e,?_⟩;have ae:IR f m4 U l:=GI.done gl (by simp;exact u.rd.lt) (PO T.2 a.gp.nv);have aP:=ae.len;have X:=u.ext Q;have R:=N.fz (Q.fz []);have u4:=u3.trans Q;have z4:=Q.size;have z3:=H.size;refine⟨λb M=>(b=true->0<t/\0<U.len)/\M=m4,⟨λh=>⟨λp=>by simp only[aq]at h p;omega,rfl⟩,λh=>⟨aJ,rfl⟩⟩,?_⟩;rintro b _ ⟨K,rfl⟩;refine⟨λar=>?_,λah=>?_⟩
  .let⟨L,aO⟩:=K ar;refine(bX X.rd V U.len).mono λA v⟨G,e,k0,k2,w,i⟩=>⟨R.de i,G,e,k0,V,?_⟩;let⟨y,z⟩:=cq l G.toNat;obtain⟨fi,q,rfl,p,aT,aH⟩:=T.1 y (av z);let⟨dd,aB,aA,ak,aK⟩:=aH L;have aj:=PU d a.gp.ds dd aB aA _ (a.gp.df q (av p)) ak aK;have aU:q.params.length<=3:=(tJ _ (a.gp.df q (av p))).1;have Z:=X.to i w;have O:=R.fz i;let⟨ps,au,e0,e1⟩:=Z.hp.aQ p;have aQ:=au.len;have aC:=az p;have aR:=Z.hp.len;refine⟨_,(eA.1 ((ae.le (fh i)).aQ z)).2,V,V,ps,(eA.1 e0).2,?_⟩;intro m6;have x:J v m6:=J.push _ _;have g6:GE (m.size::r) v m6 (.mk v.size 0 0 0) []:=Gr.new _ (ad _) _ _ _;clear_value m6;have z5:=i.size;have ac:∀e∈m.size::r,e<v.size:=λe g=>by have:=ag e g;omega
   have aV:¬Lo t\/(Lo t/\0<t):=by by_cases h:Lo t;exact Or.inr ⟨h,L⟩;exact Or.inl h
   have hd:=QQ d a.gp.ds;rcases F with⟨aE,_,_⟩|⟨ih,e2,e3⟩
   .exfalso;rcases aE with h|h|h
    .omega
    .subst h;omega
    .subst h;omega
   refine dE (n:=q.params.length -1) V (λj s M=>∃l,GE (m.size::r) v M s l/\l.length=j/\(∀e∈l,Xk d fs 1 e)/\Rd f I (B+1+5*j) M/\Fz [f] v M) ⟨[],g6,rfl,aJ,w.ext x,x.fz _⟩ ?_;rintro j s M ay μ hj ⟨l',C,aD,aw,W,o⟩ am
   have ew:cQ ((j:Int)+1)=j+1:=aS V V;refine⟨λh=>?_,λh=>?_⟩
   .simp only[ew,aq]at h;let⟨y,z⟩:=cq q.params j;have aL:y∈q.params.dropLast:=List.mem_iff_getElem?.2 ⟨j,by rw[List.getElem?_dropLast,ao V];exact z⟩;refine⟨V,V,y,(eA.1 ((au.le (fh o)).aQ z)).2,?_⟩;exact XP.kj (ih y (aj y aL) (s.aC::m.size::r) f (B+1+5*j) I an ax M (bR (λe g=>PO (ac e g) o.size) (ad _) C.bn.2) (by simp[aa]) (Z.to o W) V) C o O w (by simp[aa]) V λe aM M' g g' r' f' ap aI=>
     am V _ _ ⟨_,g',bS,λe' ai=>by rcases List.mem_append.1 ai with h|h;exact aw e' h;simp at h;subst h;exact g,r'.mono V,f'⟩
   .simp only[ew,bD]at h;exact XP.ret (mz W (C.done AH.mono ac bo V) 10 _) (O.fz o) (((u4.fz _).trans i).trans o) a.rd V (λe g=>g▸Ro (Or.inr rfl) (SJ (by rw[MU p];congr 1;have:=List.length_pos_iff.2 (λe:q.params=[]=>by simp[e]at ak);omega)) aw V) V
  .refine(Aj X.rd (by rcases F with⟨_,_,e⟩|⟨_,_,e⟩<;>omega)).mono λA v⟨G,e,o,w,i⟩=>⟨R.de i,G,e,?_⟩;exact XP.ret (P:=B+4) ((zN (m.size::r) G v).mono λA x⟨p,e,D,h2,j,h⟩=>⟨p,e,D,h2,j,w.ext h,h.fz _⟩) (R.fz i) ((u4.fz _).trans i) a.rd V (λe g=>g▸⟨λh=>.int o,by rw[Ex.RN];rcases F with⟨_,e,_⟩|⟨_,e,_⟩<;>simp[e]⟩) (by rcases F with⟨_,_,e⟩|⟨_,_,e⟩<;>omega)
end
section
variable{a:Nat}{t:Int}
def _root_.Go.Vc.Qc{σ:Type}(o:a<=9223372036854775807)(e:1<=a){m:E}{h:σ}{g:(σ->Int->E->Prop)->(σ->Int->E->Nat)->σ->Int->E->Prop}(Q:Nat->σ->E->Prop)(l:Q 1 h m)
 (j:∀(k:Nat)(s:σ)(b:E)(I:σ->Int->E->Prop)(μ:σ->Int->E->Nat),1<=k->k<=a->Q k s b->
  (k<a->∀d c,Q (k+1) d c->I d (cQ ((k:Int)+1)) c/\μ d (cQ ((k:Int)+1)) c<μ s k b)->g I μ s k b):
 ∃(I:σ->Int->E->Prop)(μ:σ->Int->E->Nat),I h 1 m/\∀s i b,I s i b->g I μ s i b:=by
 refine⟨λs i c=>∃k:Nat,i=k/\1<=k/\k<=a/\Q k s c,λ_ i _=>(a -i).toNat,⟨1,rfl,ad _,e,l⟩,?_⟩
 rintro s i b ⟨k,rfl,e,n,p⟩
 refine j k s b _ _ e n p λf d c q=>?_
 rw[kd f o]
 exact⟨⟨k+1,rfl,V,f,q⟩,Cv f⟩
def _root_.Go.Vc.Yl(l:a<=9223372036854775807)(d:1<=a){m:E}{f:(Int->E->Prop)->(Int->E->Nat)->Int->E->Prop}(Q:Nat->E->Prop)(g:Q 1 m)
 (h:∀(k:Nat)(b:E)(I:Int->E->Prop)(μ:Int->E->Nat),1<=k->k<=a->Q k b->
  (k<a->∀c,Q (k+1) c->I (cQ ((k:Int)+1)) c/\μ (cQ ((k:Int)+1)) c<μ k b)->f I μ k b):
 ∃(I:Int->E->Prop)(μ:Int->E->Nat),I 1 m/\∀i b,I i b->f I μ i b:=by
 refine⟨λi c=>∃k:Nat,i=k/\1<=k/\k<=a/\Q k c,λi _=>(a -i).toNat,⟨1,rfl,ad _,d,g⟩,?_⟩
 rintro i b ⟨k,rfl,d,j,n⟩
 refine h k b _ _ d j n λe c o=>?_
 rw[kd e l]
 exact⟨⟨k+1,rfl,V,e,o⟩,Cv e⟩
def Jn{a:List bq}{b:List da}(hd:a∈ov)(c:Ty a t):WD 4 20 a b t:=Iu c (Or.inr ⟨λ_ h=>Iu (h.ty hd) (Or.inl ⟨h,rfl,rfl⟩),rfl,rfl⟩)
def JI.x{f:Nat}{a:List Value}{S:List Nat}{d P:Nat}{b:O}{m:E}{Q:Ex->Prop}(h:JI f a m S Q)(k:Rd d b P m):aP cv f a m (XP S d b m P Q):=
 h.mono λv n⟨l,e,g,i,j,c⟩=>⟨l,e,g,i,j,k.ext c,c.fz _⟩
section
variable{f:List Nat}{c P:Nat}{h d p j:O}{g:List bq}{e:List da}{b:E}{i:List Int}
def qK(hS:∀o∈f,o<b.size)(ag:c∈f)(o:GC c h P d p g e b)(hP:P+22<=10^16)(hv:IR c b j i)(ak:i.length<=1000)(ht:Ty g t):
 aP cv 164 [vp c 0,.agg #[O.v d,O.v p],O.v j,vi t] b (XP f c h b (P+22) λa=>WX g (pf e) i.length a/\a.n<=4):=by
 apply Ja (c,0)
 simp -zeta only[aG,aF]
 intro k y
 let⟨A,hl⟩:=dk (a:=k) (c:=y) rfl rfl
 have s1:k.size=b.size+1:=by simp[k]
 clear_value y
 have hr:=o.rd.lt
 have Y:Lw c [k.size,b.size] y:=λN hb=>⟨hl N hb,by simp at hb;omega⟩
 have ae:∀a∈k.size::f,a<y.size:=bR hS A.size (hl _ aJ)
 have z2:=A.size
 refine(FV (a:=[c]) (m:=y) bS ((hv.le (bA _ _)).ext A) V t).mono λ_ U⟨r,ac,a,gl,ah,B⟩=>⟨Y.de (B.fz _),r,a,?_⟩
 have aa:IR c U r ac:=GI.done gl bS V
 have F:=(o.ext A).ext B
 have D:=Y.fz (B.fz [])
 have C:Fz [c] b U:=(A.trans B).fz _
 have al:=aa.len
 have z3:=B.size
 have jh:∀{Q:Nat}{M:E},GC c h Q d p g e M->Fz [c] b M->y.size<=M.size->Lw c [k.size,b.size] M->Q<=P+2->aP cv 204 [vp c 0,.agg #[O.v d,O.v p],vi t] M λW n=>eF [k.size,b.size] M n/\∃s u:Int,∃w:O,W=.agg #[vi s,vi u,O.v w]/\XP f c h b (P+22) (λa=>WX g (pf e) i.length a/\a.n<=4) (.agg #[vi s,vi u,O.v w]) (aj n k.size 0 [.i s,.i u,.s w]):=λR T h1 I hq=>
  XP.ret (Jn o.gp.ds ht (k.size::f) c _ h d p _ (λa l=>oh (ae a l)) (by simp[ag]) R V) I T o.rd V (λa l=>⟨l.1 _,l.2⟩) V
 have Uh:∀{Q:Nat}{M:E},GC c h Q d p g e M->Fz [c] b M->Fz [c] U M->Lw c [k.size,b.size] M->Q<=P+2->0<r.len->aP cv 20 [vp c 0,vi (r.len:Int)] M λai n=>eF [k.size,b.size] M n/\∃K:Int,ai=vi K/\(0:Int)<=K/\K<(r.len:Int)/\∃ad:Int,af n r.aC (r.off+Int.toNat K*1)=some (vi ad)/\
  aP cv 163 [vi ad] n λW Z=>eF [k.size,b.size] n Z/\∃s u:Int,∃w:O,W=.agg #[vi s,vi u,O.v w]/\XP f c h b (P+22) (λa=>WX g (pf e) i.length a/\a.n<=4) (.agg #[vi s,vi u,O.v w]) (aj Z k.size 0 [.i s,.i u,.s w]):=λR T f3 I hq h0=>
  (bX R.rd V r.len).mono λ_ n⟨ab,a,k0,k1,r',H⟩=>by
   let⟨X,hy⟩:=cq ac ab.toNat;exact⟨I.de H,ab,a,k0,V,X,(eA.1 ((aa.le (fh (f3.trans H))).aQ hy)).2,XP.ret ((lM (k.size::f) X n).x r') (I.fz H) (T.trans H) o.rd V (λa l=>l▸⟨.Uh (ah.1 X (av hy)),by rw[Ex.RN];simp⟩) V⟩
 refine⟨λx=>?_,λx=>jh F C z3 D V⟩
 simp only[aq]at x
 refine(bX F.rd V 6).mono λ_ m4⟨k1,a,_,_,r4,l⟩=>⟨D.de l,k1,a,λx=>Uh (F.to l r4) (C.trans l) l (D.fz l) V V,λx=>?_⟩
 intro m5
 have z:J m4 m5:=J.push _ _
 have G:=(F.to l r4).ext z
 have L:=(D.fz l).fz (z.fz [])
 exact(pd (v:=[]) (G.hd.le (bA _ _)) o.types (oJ.le (bA _ _) G.hp) (oh o.gp.nv) (lU _ _ _ _ _ _) t).mono λ_ m6⟨N,a,q⟩=>⟨L.de (q.fz _),N,a,λx=>Uh (G.ext q) ((C.trans l).then (z.trans q)) (l.then (z.trans q)) (L.fz (q.fz [])) V V,λx=>jh (G.ext q) ((C.trans l).then (z.trans q)) (by have:=l.size;have:=z.size;have:=q.size;omega) (L.fz (q.fz [])) V⟩
def IN(Y:∀m∈f,m<b.size)(hd:bZ b d g)(ht:dI g)(C:oJ b p e)(hf:e.length<=1000)(X:1<=e.length)(t:Int):iU 199 [.agg #[O.v d,O.v p],vi t] b f λh=>(∀y∈h,∃(o:Nat)(q:da),y=o/\e[o]? =some q)/\h.length<=e.length:=by
 apply Bn;simp -zeta only[aG,aF];intro a E;have L:J b a:=J.push _ _;have A:∀m∈[b.size],m<a.size:=by simp[a]
 have W:GI f a E (.mk a.size 0 0 0) []:=GI.nil f a;have x2:J a E:=J.push _ _;clear_value E;clear_value a;have ah:=C.len;refine Qc (a:=e.length) V X (λu I M=>J a M/\∃h,GI f a M I h/\(∀y∈h,∃(o:Nat)(q:da),y=o/\e[o]? =some q)/\h.length<=u) ⟨x2,[],W,aJ,aJ⟩ ?_;rintro u I M ac μ ae hk ⟨l,h,x,D,ag⟩ T
 have K:=L.trans l;refine⟨λQ=>?_,λQ=>⟨I,h,rfl,x.cL (λ_ i=>i) L.size,⟨D,V⟩,K⟩⟩;simp only[aq]at Q;let⟨q,R⟩:=cq e u;let⟨ad,z,w,U⟩:=C.aQ R;have Z:=z.len;refine⟨V,V,_,K.af U,?_⟩;refine dE (n:=q.params.length) (Z▸z.fA) (λ_ _ N=>J M N) (J.aH _) ?_;rintro aa ok r I2 μ2 hj c S;have k:=K.trans c;refine⟨V,V,_,k.af w,λi=>⟨λ_=>?_,λ_=>S (by simp only[aq]at i;omega) _ _ c⟩,λi=>⟨λ_=>?_,λ_=>T V _ _ ⟨l.trans c,h,x.ext c,D,V⟩⟩⟩
 .simp only[aq]at i;let⟨y,hy⟩:=cq q.params aa;have P:=(z.ext k).aQ hy;refine⟨V,V,_,k.af w,V,V,y,P,?_⟩;intro F;have j:J r F:=J.push _ _;have G:∀{s H:Nat}{ab:Value},af r s H=some ab->af F s H=af r s H:=λi=>by rw[j.af i,i]
  have B:b.size<r.size:=aL (A _ aJ) (l.trans c).size;refine⟨G P,G (k.af w),aM (j.same _ B) _,aM (j.same _ B) _,aM (j.same _ B) _,?_⟩;exact(pd (v:=[]) (hd.le (k.trans j).le) ht (oJ.le (k.trans j).le C) hf (lU _ _ _ _ _ _) y).aK ((l.trans c).trans j) A λs m5 x5 _=>⟨_,rfl,S V _ _ ((c.trans j).trans x5)⟩
 .intro F;refine GI.kj (x.ext c) ((l.trans c).fz []) (λm j=>L.lt (Y m j)) V λP N B s _ _=>⟨J.nP ((l.trans c).aR _) s.ext A,T V _ _ ⟨s.ext,_,B,λH j=>?_,bS⟩⟩;rcases List.mem_append.1 j with j|j
  .exact D H j
  .simp at j;exact⟨u,q,j,R⟩
end
end
section
variable{f c:Int}{g:O}{e:List Int}
def Cg(c:Int):Nat:=30*4^c.toNat
def tH(h:f<=c):Cg f<=Cg c:=Nat.mul_le_mul_left _ (Nat.pow_le_pow_right bo V)
def PQ(c:Int):30<=Cg c:=Nat.le_mul_of_pos_right _ (Nat.pow_pos bo)
def QK(a:0<=f)(h:f+1<=c):4*Cg f<=Cg c:=by
 refine bJ (pB ?_) (tH h);unfold Cg;rw[show(f+1).toNat=f.toNat+1 by omega,Nat.pow_succ];omega
def JH(b:List bq)(g:List da)(c:Int):Prop:=∀(S:List Nat)(a P:Nat)(d e p h:O)(m:E)(v:List Int)(t:Int),(∀f∈S,f<m.size)->a∈S->GC a d P e p b g m->P+Cg c<=10^16->IR a m h v->v.length+3*c.toNat<=1000->Ty b t->
 aP cv 160 [vp a 0,.agg #[O.v e,O.v p],O.v h,vi t,vi c] m (XP S a d m (P+Cg c) λf=>WX b (pf g) v.length f/\(c<=2->f.n<=4))
def XL(S:List Nat)(b:Nat)(c:O)(m:E)(P:Nat)(Q:List Ex->Prop)(v:Value)(a:E):Prop:=∃s l,v=O.v s/\fm (bI S a) s l/\Q l/\Rd b c P a/\Fz [b] m a
def J6{S:List Nat}{M:E}(i:∀c∈S,c<M.size)(p:Nat):∀(l:List (Ex×O))(_:l.length<=1000)(_:∀x∈l,fm (bI S M) x.2 x.1.bH){a:List Ce}{n:Nat},a=l.flatMap (λx=>[.i x.1.op,.i x.1.bM,.s x.2])->n=l.length->
 GE S M (M.push (.cells (bE a) bL)) (.mk M.size 0 n n) (l.map (·.1)):=by
 intro l q h a n j k
 refine Gr.lit (f:=l.map λx=>[.i x.1.op,.i x.1.bM,.s x.2]) AH.mono (ad _) i (by rw[j,List.flatMap_def]) (by simp[k]) ⟨aJ,λc d=>?_,λr c o f e=>?_⟩
 .simp at d;obtain⟨_,_,_,rfl⟩:=d;rfl
 .simp only[bT,jq]at f e
  obtain⟨x,g,rfl⟩:=f
  obtain⟨y,b,rfl⟩:=e
  rw[g]at b;simp at b;subst b
  have:=h x (av g)
  cases m:x.1 with
  |mk t n s=>rw[m]at this;exact AH.of this
section
variable{j L:List Nat}{h P:Nat}{k d p o:O}{i:List bq}{l:List da}{m:E}{v:List Int}
def Me(z:0<=c)(ih:∀a,0<=a->a<=c->JH i l a)(G:∀s∈j,s<m.size)(I:h∈j)(s:GC h k P d p i l m)(hP:P+3*Cg c<=10^16)(hv:IR h m o v)(ah:v.length+3*c.toNat<=1000)(ae:c<=1000)(K:IR h m g e)(h3:e.length<=3)(aa:∀u∈e,Ty i u):
 aP cv 197 [vp h 0,.agg #[O.v d,O.v p],O.v o,O.v g,vi c] m (XL j h k m (P+3*Cg c) λb=>b.length=e.length/\∀f∈b,WX i (pf l) v.length f):=by
 apply Fm (h,0)
 simp -zeta only[aG,aF]
 intro a B
 have C:J m a:=J.push _ _
 have hr:=s.rd.lt
 have R:Lw h [m.size] a:=by intro c z;simp[a]at z⊢;omega
 have X:GE j a B (.mk a.size 0 0 0) []:=Gr.new _ (ad _) _ _ _
 have Q:J a B:=J.push _ _
 clear_value B
 clear_value a
 have D:=s.ext C
 have ag:=K.len
 refine dE (n:=e.length) V (λr w M=>∃b,GE j a M w b/\b.length=r/\(∀f∈b,WX i (pf l) v.length f)/\Rd h k (P+r*Cg c) M/\Fz [h] a M) ⟨[],X,rfl,aJ,by simpa using D.rd.ext Q,Q.fz _⟩ ?_
 rintro r w M ac μ hk ⟨b,y,af,H,N,F⟩ ab
 have t:=(C.fz [h]).trans F
 refine dit (λq=>?_) λq=>?_
 .let⟨u,L⟩:=cq e r
  let⟨S,E⟩:=Ng (d:=(g.len:Int)) z V
  rw[aS (b:=Int.tdiv c _) V V]
  have hm:=tH E
  have Z:r*Cg c+Cg c<=3*Cg c:=by rw[<-pC];exact dt _ V
  refine⟨V,V,u,(eA.1 ((K.le (fh t)).aQ L)).2,V,?_⟩
  exact XP.kj (ih _ S E (w.aC::j) h _ k d p o M v u (bR G t.size y.bn.2) (by simp[I]) (s.to t N) V (hv.le (fh t)) V (aa u (av L))) y F R D.rd I V λf ai M' A W r' U _ _=>
   ab V _ _ ⟨_,W,bS,λT Y=>by rcases List.mem_append.1 Y with q|q;exact H T q;simp at q;subst q;exact A.1,r'.mono (by rw[pC];omega),U⟩
 .have Z:r*Cg c<=3*Cg c:=dt _ V
  exact⟨w,b,rfl,y.done AH.mono (λf A=>C.lt (G f A)) bo V,⟨V,H⟩,N.mono V,t⟩
def yE{n F B:Nat}{q:E}{Q:Ex->Prop}{u bM:Int}(T:0<=c)(ih:∀a,0<=a->a<=c->JH i l a)(R:∀r∈n::j,r<m.size)(Y:h∈j)(r:GC h k P d p i l m)(K:P+3*Cg c<=10^16)(hv:IR h m o v)(ab:v.length+3*c.toNat<=1000)(U:c<=1000)(Z:IR h m g e)(I:e.length<=3)(aa:∀t∈e,Ty i t)
 (D:Lw h L m)(W:Fz [h] q m)(G:Rd h k F q)(X:q.size<=n)(N:∀a,a.length=e.length->(∀f∈a,WX i (pf l) v.length f)->Q (.mk u bM a))(M:P+3*Cg c<=B):
 aP cv 197 [vp h 0,.agg #[O.v d,O.v p],O.v o,O.v g,vi c] m λw b=>eF L m b/\∃s:O,w=O.v s/\
  aP cv 161 [vi u,vi bM,O.v s] b λw A=>eF L b A/\∃x y:Int,∃z:O,w=.agg #[vi x,vi y,O.v z]/\XP j h k q B Q (.agg #[vi x,vi y,O.v z]) (aj A n 0 [.i x,.i y,.s z]):=
 (Me (j:=n::j) T ih R (by simp[Y]) r K hv ab U Z I aa).mono λ_ b⟨s,a,f,H,C,J,t⟩=>⟨D.de t,s,f,XP.ret (mz J H u bM) (D.fz t) (W.trans t) G X (λf V=>V▸N a C.1 C.2) M⟩
def IU(I:3<=c/\c<=100)(ih:∀e,0<=e->e<=c -1->JH i l e)(hS:∀r∈j,r<m.size)(ag:h∈j)(r:GC h k P d p i l m)(hP:P+23+3*Cg (c -1)<=10^16)(hv:IR h m o v)(aU:v.length+3*c.toNat<=1000){al:Int}(ht:Ty i al):
 aP cv 198 [vp h 0,.agg #[O.v d,O.v p],O.v o,vi al,vi c] m (XP j h k m (P+23+3*Cg (c -1)) (WX i (pf l) v.length)):=by
 apply BC (h,0)
 simp -zeta only[aG,aF]
 intro q E m3
 let⟨T,hl⟩:=dk (a:=q) (c:=E) rfl rfl
 have s1:q.size=m.size+1:=by simp[q]
 have U:J E m3:=J.push _ _
 have hr:=r.rd.lt
 have z2:=T.size
 have aC:au (bI [h] m3) (.mk E.size 0 4 4) [1,1,3,4]:=au.lit aA _ bS rfl rfl aJ
 clear_value m3
 clear_value E
 have L2:Lw h [q.size,m.size] E:=λc I=>⟨hl c I,by simp at I;omega⟩
 have aw:∀e∈q.size::j,e<E.size:=bR hS T.size (hl _ aJ)
 have c3:=(r.ext T).ext U
 have L3:=L2.fz (U.fz [])
 have W:=r.types
 refine(jR c3.rd V aC aJ).mono λ_ m4⟨R,e,hk,r4,G⟩=>⟨L3.de G,R,e,?_⟩
 have X:=c3.to G r4
 have L4:=L3.fz G
 have aM:=X.hd.len
 have dl:=mW i r.gp.ds
 have af:R∈[(1:Int),3,4]:=by simp at hk⊢;omega
 have lj:0<(cb i 1).length:=(QQ i r.gp.ds).1
 refine⟨λg M=>g∈[(1:Int),3,4]/\g<=i.length/\0<(cb i g).length/\J m4 M,⟨λ_=>⟨bo,V,lj,J.aH _⟩,λab=>?_⟩,?_⟩
 .simp only[bD]at ab
  refine(my (X.hd.le (bA _ _)) W R).mono λ_ m5⟨c,e,I,u⟩=>⟨L4.de (u.fz _),c,e,λ_=>⟨bo,V,lj,u⟩,λf=>⟨af,V,PV i r.gp.ds R af V λai N s=>?_,u⟩⟩
  rw[I.2 ⟨ai,by simp at af;omega,N,s⟩]at f;exact absurd f bo
 rintro g m5 ⟨an,ax,aH,u⟩
 have Y:=X.ext u
 have L5:=L4.fz (u.fz [])
 have F5:Fz [h] m m5:=(((T.trans U).fz _).trans G).then u
 have k5:g∈[(0:Int),1,2,3,4]:=by simp at an⊢;omega
 have hf:=yD i r.gp.ds
 have aK:=hf.2.1 g k5
 refine(gP (e:=[h]) (by simp;exact Y.rd.lt) (Y.hd.le (bA _ _)) W g).mono λ_ m6⟨Z,t,e,hc,ai,L⟩=>⟨L5.de (L.fz _),Z,e,?_⟩
 subst ai
 have c6:=Y.ext L
 have L6:=L5.fz (L.fz [])
 have F6:=F5.then L
 have aL:=hc.len
 have z3:=U.size;have z4:=G.size;have z5:=u.size;have z6:=L.size
 have am:∀e∈q.size::j,e<m6.size:=λe s=>by have:=aw e s;omega
 refine XP.then (qK (f:=q.size::j) am (by simp[ag]) c6 V (hv.le (fh F6)) V ⟨by simp at an;omega,ax⟩) L6 λs0 e0 F h7 q7 r7 H=>⟨_,_,_,rfl,?_⟩
 intro m8
 have x8:J F m8:=J.push _ _
 have z7:=H.size
 have ac:∀e∈q.size::j,e<F.size:=λe s=>by have:=am e s;omega
 have g8:GE (q.size::j) F m8 (.mk F.size 0 1 1) [e0]:=J6 ac 0 [(e0,s0)] aJ (by simpa using h7) rfl rfl
 clear_value m8
 have L7:=L6.fz H
 have F7:=F6.trans H
 refine dE (n:=(cb i g).length) V (λA aj M=>∃t,GE (q.size::j) F M aj (e0::t)/\t.length=A/\(∀(z:Nat)(e:Ex)(C:Int),t[z]? =some e->(cb i g)[z]? =some C->WX i (pf l) (v.length+(cg i C).length) e)/\Rd h k (P+23+A*Cg (c -1)) M/\Fz [h] F M) ⟨[],g8,rfl,aJ,by simpa using(r7.ext x8).mono V,x8.fz _⟩ ?_
 rintro A aj M aE μ hj ⟨t,aa,aT,N,K,D⟩ aD
 have w:=L7.fz D
 have aQ:A*Cg (c -1)<=3*Cg (c -1):=dt _ V
 refine dit (λab=>?_) λab=>?_
 .let⟨C,hy⟩:=cq (cb i g) A
  let⟨aN,aO⟩:=hf.1 g k5 C (av hy)
  have aV:=aa.bn
  have cM:=(c6.to H r7).to D K
  refine⟨V,V,C,(eA.1 ((hc.le (fh (H.trans D))).aQ hy)).2,V,?_⟩
  refine(dF (e:=[h]) (by simp;exact K.lt) cM.hd W C).mono λ_ m9⟨f9,l9,e,h9,q9,f⟩=>⟨w.de (f.fz _),f9,e,w.cK (Fz.aH _ _) (f.fz _) aJ _,w.cK (Fz.aH _ _) (f.fz _) aJ _,?_⟩
  subst q9
  refine(eD (S:=[h]) (by simp;exact(K.ext f).lt) (hv.le (fh ((F7.trans D).then f))) h9 V).mono λ_ ao⟨ak,ah,e,aq,ap,B⟩=>⟨(w.fz (f.fz [])).de (B.fz _),ak,e,w.cK (f.fz _) (B.fz _) aJ _,w.cK (f.fz _) (B.fz _) aJ _,?_⟩
  have ar:IR h ao ak ah:=GI.done aq (by simp;exact(K.ext f).lt) (by rw[<-ap];simp;omega)
  let⟨d0,d1⟩:=Ng (f:=c -2) (d:=(Z.len:Int)) V V
  rw[aS (b:=c -2) V V,aS (b:=Int.tdiv _ _) V V]
  have hm:=tH (f:=Int.tdiv (c -2) Z.len) (c:=c -1) V
  have aR:A*Cg (c -1)+Cg (c -1)<=3*Cg (c -1):=by rw[<-pC];exact dt _ V
  have fT:=(D.then f).then B
  have aB:ah.length=v.length+(cg i C).length:=by rw[<-ap];simp
  refine XP.kj (ih _ d0 V (aj.aC::q.size::j) h _ k d p ak ao ah al (bR (λe s=>PO (ac e s) fT.size) (ad _) (PO f.size B.size)) (by simp[ag]) ((cM.ext f).ext B) V ar V ht) ((aa.ext AH.mono f).ext AH.mono B) fT L7 r7 (by simp[ag]) bS λe aW M' s g' r' f' _ _=>
   aD V _ _ ⟨t++[e],g',bS,λz e' y' y Q=>?_,r'.mono (by rw[pC];omega),f'⟩
  rcases aX z t.length with ae|ae
  .rw[ay ae]at y;exact N z e' y' y Q
  .rw[aI ae]at y
   have:z -t.length=0:=by have:=az y;simp at this;omega
   rw[this]at y;simp at y;subst y
   have:z=A:=V
   subst this
   rw[hy]at Q;simp at Q;subst Q
   rw[<-aB];exact s.1
 .exact XP.ret (mz K (aa.done AH.mono ac bo bS) 8 g) w (F7.trans D) r.rd V (λe s=>s▸.mt q7.1 V V N) V
end
end
section
section
variable{e L:List Nat}{c P:Nat}{g d p i:O}{f:List bq}{h:List da}{m:E}{v:List Int}
def IV{o:Int}(hb:3<=o/\o<=100)(ih:∀j,0<=j->j<=o -1->JH f h j)(hS:∀q∈e,q<m.size)(R:c∈e)(q:GC c g P d p f h m)(hP:P+24+3*Cg (o -1)<=10^16)(T:IR c m i v)(aD:v.length+3*o.toNat<=1000){ac:Int}(ht:Ty f ac):
 aP cv 200 [vp c 0,.agg #[O.v d,O.v p],O.v i,vi ac,vi o] m (XP e c g m (P+24+3*Cg (o -1)) (WX f (pf h) v.length)):=by
 apply BD (c,0)
 simp -zeta only[aG,aF]
 intro w aa
 let⟨W,N⟩:=dk (a:=w) (c:=aa) rfl rfl
 have s1:w.size=m.size+1:=by simp[w]
 clear_value aa
 have hr:=q.rd.lt
 have z2:=W.size
 have L2:Lw c [w.size,m.size] aa:=λo hb=>⟨N o hb,by simp at hb;omega⟩
 have ao:∀j∈w.size::e,j<aa.size:=bR hS W.size (N _ aJ)
 have c2:=q.ext W
 have ae:=q.types
 have aC:=q.hd.len
 have dl:=mW f q.gp.ds
 have ar:cQ (o -2)=o -2:=aS V V
 have ak:cQ (o -1)=o -1:=aS V V
 have nv:=q.gp.nv
 have ax:v.length+3*(o -2).toNat<=1000:=V
 have hm:=tH (f:=o -2) (c:=o -1) V
 have az:P+24+Cg (o -2)<=10^16:=V
 refine⟨λM=>Rd c g (P+1) M/\Fz [c] aa M,?_,?_⟩
 .refine(bX c2.rd V 4).mono λ_ m3⟨x,j,_,_,r3,X⟩=>⟨L2.de X,x,j,λ_=>?_,λ_=>⟨r3,X⟩⟩
  refine Yl (a:=f.length+1) V V (λ_ M=>Rd c g (P+1) M/\Fz [c] aa M) ⟨r3,X⟩ ?_
  rintro Y M ap μ aw ha ⟨Q,H⟩ ab
  have L:=c2.to H Q
  have LM:=L2.fz H
  refine⟨λz=>?_,λz=>⟨Q,H⟩⟩
  simp only[aq]at z
  have ea:cQ ((Y:Int) -1)=Y -1:=aS V V
  rw[ea]
  refine(my (L.hd.le (bA _ _)) ae Y).mono λ_ I⟨b4,j,an,K⟩=>⟨LM.de (K.fz _),b4,j,λh1=>?_,λ_=>ab V _ ⟨Q.ext K,H.then K⟩⟩
  obtain⟨ai,_,hq,ay⟩:=an.1 h1
  have U:f[((Y:Int) -1).toNat]? =some ai:=by rw[<-hq];congr 1;omega
  obtain⟨_,_,g0,g1,_⟩:=L.hd.aQ U
  have D:=L.ext K
  have t:=LM.fz (K.fz [])
  have l:=H.then K
  refine⟨V,V,_,K.af (eA.1 g1).2,λ_=>?_,λ_=>ab V _ ⟨Q.ext K,l⟩⟩
  refine(pd (D.hd.le (bA _ _)) ae (oJ.le (bA _ _) D.hp) V ((T.le (fh ((W.fz _).trans l))).le (bA _ _)) Y).mono λ_ s⟨b5,j,k⟩=>⟨t.de (k.fz _),b5,j,λ_=>?_,λ_=>ab V _ ⟨(Q.ext K).ext k,l.then k⟩⟩
  have F:=D.ext k
  have u:=t.fz (k.fz [])
  have f5:=l.then k
  have z5:=f5.size
  have ag:∀j∈w.size::e,j<s.size:=λj G=>by have:=ao j G;omega
  obtain⟨_,_,af,_,_⟩:=F.hd.aQ U
  refine⟨V,V,_,(eA.1 af).2,?_⟩
  refine XP.then (qK (f:=w.size::e) ag (by simp[R]) F V (T.le (fh ((W.fz _).trans f5))) V ⟨V,V⟩) u λs6 e6 B h6 q6 r6 y=>⟨_,_,_,rfl,?_⟩
  have c6:=F.to y r6
  have A:=u.fz y
  obtain⟨_,_,am,_,_⟩:=c6.hd.aQ U
  refine⟨by rw[(eA.1 am).2,(eA.1 af).2],u.cK (Fz.aH _ _) y aJ _,u.cK (Fz.aH _ _) y aJ _,u.cK (Fz.aH _ _) y aJ _,?_⟩
  rw[ar]
  have F6:=(W.fz [c]).trans (f5.trans y)
  have ah:∀j∈w.size::e,j<B.size:=λj G=>by have:=ag j G;have:=y.size;omega
  refine XP.then (ih (o -2) V V (w.size::e) c (P+1+22) g d p i B v _ ah (by simp[R]) c6 V (T.le (fh F6)) ax ((yD f q.gp.ds).2.2 ai (av U))) A λs7 e7 C h7 q7 r7 r=>⟨_,_,_,rfl,?_⟩
  intro Z
  have x8:J C Z:=J.push _ _
  have al:∀j∈w.size::e,j<C.size:=λj G=>by have:=ah j G;have:=r.size;omega
  have g8:GE (w.size::e) C Z (.mk C.size 0 2 2) [e6,e7]:=J6 al 0 [(e6,s6),(e7,s7)] aJ (by simp;exact⟨fm.le (r.cR (by simp[R])) h6,h7⟩) rfl rfl
  clear_value Z
  exact XP.ret (mz (r7.ext x8) (g8.done AH.mono al bo aJ) 11 0) ((A.fz r).fz (x8.fz [])) ((F6.trans r).then x8) q.rd V (λj G=>G▸.dV bo (λz=>V) bo (by simp[Ar]) (by simp;exact⟨q6.1,q7.1⟩)) V
 rintro M ⟨Q,H⟩
 have L:=c2.to H Q
 have LM:=L2.fz H
 have zM:=H.size
 have FM:=(W.fz [c]).trans H
 refine(gP (e:=[c]) (by simp;exact Q.lt) (L.hd.le (bA _ _)) ae ac).mono λ_ m3⟨cs,al,j,hc,ai,x3⟩=>⟨LM.de (x3.fz _),cs,j,?_⟩
 subst ai
 have Z:=L.ext x3
 have X:=LM.fz (x3.fz [])
 have K:=FM.then x3
 have z3:=x3.size
 have aB:=hc.len
 have ag:∀{M:E},m3.size<=M.size->∀j∈w.size::e,j<M.size:=λz j G=>by have:=ao j G;omega
 refine⟨λz=>?_,λz=>⟨λz=>XP.ret (qK (f:=w.size::e) (ag (ad _)) (by simp[R]) Z V (T.le (fh K)) V ht) X K q.rd V (λj G=>G.1) V,λz=>?_⟩⟩
 .simp only[aq]at z
  refine(bX Z.rd V cs.len).mono λ_ I⟨x,j,k0,k1,U,l⟩=>⟨X.de l,x,j,k0,V,?_⟩
  let⟨ab,hy⟩:=cq (cb f ac) x.toNat
  have af:=(yD f q.gp.ds).1 ac (Ty.WK q.gp.ds ht) ab (av hy)
  have D:=Z.to l U
  have t:=X.fz l
  refine⟨ab,(eA.1 ((hc.le (fh l)).aQ hy)).2,?_⟩
  refine(dF (e:=[c]) (by simp;exact U.lt) D.hd ae ab).mono λ_ s⟨f5,l5,j,h5,q5,k⟩=>⟨t.de (k.fz _),f5,j,t.cK (Fz.aH _ _) (k.fz _) aJ _,t.cK (Fz.aH _ _) (k.fz _) aJ _,?_⟩
  subst q5
  rw[ak]
  exact yE V ih (ag (PO l.size k.size)) R (D.ext k) V (T.le (fh ((K.trans l).then k))) V V h5 af.1 af.2 (t.fz (k.fz [])) ((K.trans l).then k) q.rd V (λal hn N=>.dV bo (λz=>V) bo (SK q.gp.ds (Ty.WK q.gp.ds ht) (av hy) hn) N) V
 .refine(bX Z.rd V 3).mono λ_ I⟨x,j,k0,k1,U,l⟩=>⟨X.de l,x,j,λ_=>?_,λ_=>?_⟩
  .have D:=Z.to l U
   have t:=X.fz l
   have z4:=l.size;have aw:=U.lt
   intro s
   have k:J I s:=J.push _ _
   have ab:au (bI [c] s) (.mk I.size 0 1 1) [0]:=au.lit aA _ bS rfl rfl aJ
   clear_value s
   have z5:=k.size
   rw[ak]
   exact yE V ih (ag V) R (D.ext k) V (T.le (fh ((K.trans l).then k))) V V ab aJ (by simp[q.gp.ty]) (t.fz (k.fz [])) ((K.trans l).then k) q.rd V (λal hn N=>.dV bo (λz=>V) bo (by rw[hn];simp[Ar]) N) V
  .have D:=Z.to l U
   have t:=X.fz l
   have F4:=K.trans l
   have z4:=l.size;have aw:=U.lt
   have hO:∀{ay M:E}{Y t0:Nat},GC c g (P+3) d p f h M->Fz [c] I M->au (bI [c] M) (.mk t0 0 2 2) [0,0]->∀op:Int,op∈[(1:Int),2,3,4]->aP cv 197 [vp c 0,.agg #[O.v d,O.v p],O.v i,O.v (.mk t0 0 2 2),vi (o -1)] M λan M1=>eF [w.size,m.size] M M1/\∃ap:O,an=O.v ap/\
    aP cv 161 [vi op,vi 0,O.v ap] M1 λan M2=>eF [w.size,m.size] M1 M2/\∃r0 r1:Int,∃r2:O,an=.agg #[vi r0,vi r1,O.v r2]/\XP e c g m (P+24+3*Cg (o -1)) (WX f (pf h) v.length) (.agg #[vi r0,vi r1,O.v r2]) (aj M2 w.size 0 [.i r0,.i r1,.s r2]):=λL af z op ab=>
    yE V ih (ag (oh af.size)) R L V (T.le (fh (F4.trans af))) V V z aJ (by simp[q.gp.ty]) (t.fz af) (F4.trans af) q.rd V (λal hn N=>.dV (by simp at ab;omega) (λz=>by simp at ab;omega) (by simp at ab;omega) (by rw[hn];simp at ab;rcases ab with j|j|j|j<;>subst j<;>simp[Ar]) N) V
   rw[ak]
   refine⟨?_,?_⟩
   .intro s
    have k:J I s:=J.push _ _
    have ah:au (bI [c] s) (.mk I.size 0 4 4) [1,2,3,4]:=au.lit aA _ bS rfl rfl aJ
    clear_value s
    have F:=D.ext k
    have u:=t.fz (k.fz [])
    have z5:=k.size
    refine⟨t.cK (Fz.aH _ _) (k.fz _) aJ _,t.cK (Fz.aH _ _) (k.fz _) aJ _,?_,?_⟩
    .refine(jR F.rd V ah aJ).mono λ_ B⟨x,j,hk,r6,y⟩=>⟨u.de y,x,j,u.cK (Fz.aH _ _) y aJ _,u.cK (Fz.aH _ _) y aJ _,?_⟩
     intro C
     have x7:J B C:=J.push _ _
     have am:au (bI [c] C) (.mk B.size 0 2 2) [0,0]:=au.lit aA _ (by simp;exact r6.lt) rfl rfl aJ
     clear_value C
     have A:=u.fz y
     exact⟨A.cK (Fz.aH _ _) (x7.fz _) aJ _,A.cK (Fz.aH _ _) (x7.fz _) aJ _,hO (ay:=C) (Y:=0) ((F.to y r6).ext x7) (((k.fz _).trans y).then x7) am x hk⟩
    .intro B
     have y:J s B:=J.push _ _
     have am:au (bI [c] B) (.mk s.size 0 2 2) [0,0]:=au.lit aA _ bS rfl rfl aJ
     clear_value B
     have A:=u.fz (y.fz [])
     refine⟨u.cK (Fz.aH _ _) (y.fz _) aJ _,u.cK (Fz.aH _ _) (y.fz _) aJ _,?_⟩
     refine(jR (F.ext y).rd V (ah.le (fh (y.fz _))) aJ).mono λ_ C⟨x,j,hk,r7,r⟩=>⟨A.de r,x,j,A.cK (Fz.aH _ _) r aJ _,A.cK (Fz.aH _ _) r aJ _,hO (ay:=C) (Y:=0) ((F.ext y).to r r7) (((k.trans y).fz _).trans r) (am.le (fh r)) x hk⟩
   .intro s
    have k:J I s:=J.push _ _
    have ah:au (bI [c] s) (.mk I.size 0 2 2) [0,0]:=au.lit aA _ bS rfl rfl aJ
    clear_value s
    have F:=D.ext k
    have u:=t.fz (k.fz [])
    have z5:=k.size
    refine⟨t.cK (Fz.aH _ _) (k.fz _) aJ _,t.cK (Fz.aH _ _) (k.fz _) aJ _,?_⟩
    intro B
    have y:J s B:=J.push _ _
    have am:au (bI [c] B) (.mk s.size 0 4 4) [1,2,3,4]:=au.lit aA _ bS rfl rfl aJ
    clear_value B
    have A:=u.fz (y.fz [])
    refine⟨u.cK (Fz.aH _ _) (y.fz _) aJ _,u.cK (Fz.aH _ _) (y.fz _) aJ _,?_⟩
    refine(jR (F.ext y).rd V am aJ).mono λ_ C⟨x,j,hk,r7,r⟩=>⟨A.de r,x,j,A.cK (Fz.aH _ _) r aJ _,A.cK (Fz.aH _ _) r aJ _,hO (ay:=C) (Y:=0) ((F.ext y).to r r7) (((k.trans y).fz _).trans r) ((ah.le (fh (y.fz _))).le (fh r)) x hk⟩
end
end
section
variable{c:Int}
def WO{l:List bq}{q:List da}(hb:0<=c/\c<=100)(ih:∀d,0<=d->d<=c -1->JH l q d):JH l q c:=by
 intro r e P F R U ae v w z hS y j hP K aI I;apply KW (e,0);simp -zeta only[aG,aF];intro h aa;let⟨x2,hl⟩:=dk (a:=h) (c:=aa) rfl rfl;have s1:h.size=v.size+1:=by simp[h]
 clear_value aa;have hr:=j.rd.lt;have z2:=x2.size;have L2:Lw e [h.size,v.size] aa:=λc hb=>⟨hl c hb,by simp at hb;omega⟩;have H:∀{d:E},aa.size<=d.size->∀f∈h.size::r,f<d.size:=λG f he=>by have:=bR hS x2.size (hl h.size aJ) f he;omega
 have c2:=j.ext x2;have am:=j.types;have nv:=j.gp.nv;have gR:=j.gp.gR;have aD:=PQ c;have ap:∀{al:Nat}{d:E},GC e F al R U l q d->Fz [e] aa d->al+22<=P+Cg c->aP cv 164 [vp e 0,.agg #[O.v R,O.v U],O.v ae,vi z] d λad M2=>eF [h.size,v.size] d M2/\∃W X:Int,∃Y:O,ad=.agg #[vi W,vi X,O.v Y]/\XP r e F v (P+Cg c) (λf=>WX l (pf q) w.length f/\(c<=2->f.n<=4)) (.agg #[vi W,vi X,O.v Y]) (aj M2 h.size 0 [.i W,.i X,.s Y]):=λcM g hq=>
  XP.ret (qK (f:=h.size::r) (H g.size) (by simp[y]) cM V (K.le (fh ((x2.fz _).trans g))) V I) (L2.fz g) ((x2.fz _).trans g) j.rd V (λf he=>⟨he.1,λ_=>he.2⟩) hq
 refine⟨λ_=>ap c2 (Fz.aH _ _) V,λh3=>?_⟩;simp only[bD]at h3;have aE:=QK (f:=c -1) (c:=c) V V;have aH:=QK (f:=c -2) (c:=c -1) V V;have aC:=PQ (c -2);have an:cQ (c -1)=c -1:=aS V V;have hQ:∀f,WX l (pf q) w.length f->WX l (pf q) w.length f/\(c<=2->f.n<=4):=λf G=>⟨G,λG=>V⟩;refine(bX c2.rd V 12).mono λ_ m3⟨ab,f,k0,k1,r3,f3⟩=>⟨L2.de f3,ab,f,?_⟩;have u:=c2.to f3 r3;have N:=L2.fz f3;have t:=(x2.fz [e]).trans f3;have z3:=f3.size;have ax:=H z3;have ar:∀{d:E},J m3 d->aP cv 200 [vp e 0,.agg #[O.v R,O.v U],O.v ae,vi z,vi c] d λad M2=>eF [h.size,v.size] d M2/\∃W X:Int,∃Y:O,ad=.agg #[vi W,vi X,O.v Y]/\XP r e F v (P+Cg c) (λf=>WX l (pf q) w.length f/\(c<=2->f.n<=4)) (.agg #[vi W,vi X,O.v Y]) (aj M2 h.size 0 [.i W,.i X,.s Y]):=λB=>
  XP.ret (IV (e:=h.size::r) ⟨V,V⟩ ih (H (oh B.size)) (by simp[y]) (u.ext B) V (K.le (fh (t.then B))) V I) (N.fz (B.fz [])) (t.then B) j.rd V hQ V
 refine⟨λ_=>ap u f3 V,λ_=>⟨λ_=>?_,λ_=>⟨λ_=>?_,λ_=>⟨λ_=>XP.ret (IU (j:=h.size::r) ⟨V,V⟩ ih ax (by simp[y]) u V (K.le (fh t)) V I) N t j.rd V hQ V,λ_=>⟨λ_=>?_,λ_=>ar (J.aH _)⟩⟩⟩⟩⟩
 .refine(KL r3 V u.hd am u.hp V (K.le (fh t))).mono λ_ k⟨A,f,hu,r4,f4⟩=>⟨N.de f4,A,f,bo,bo,?_⟩;have Q:=u.to f4 r4;have p:=N.fz f4;have F4:=t.trans f4;have z4:=f4.size;have ay:Ty l A:=by have:=mW l j.gp.ds;unfold Ty;omega
  let⟨d0,d1⟩:=Ng (f:=c) (d:=2) V V;have d2:Int.tdiv c 2<=c -1:=by rw[pv V];omega
  have d3:Int.tdiv c 2+Int.tdiv c 2<=c:=by rw[pv V];omega
  rw[aS (b:=Int.tdiv c 2) V V];generalize Int.tdiv c 2=h2 at*;have hm:=tH d2;have C:∀{d M':E},Fz [e] k d->Fz [e] d M'->af M' v.size 0=af d v.size 0:=λg f'=>p.cK g f' aJ _;have D:∀{d M':E},Fz [e] k d->Fz [e] d M'->af M' v.size 1=af d v.size 1:=λg f'=>p.cK g f' aJ _;have ag:=λ(d:E)(cM:GC e F (P+2) R U l q d)(g:Fz [e] k d)=>ih h2 d0 d2 (h.size::r) e (P+2) F R U ae d w A (H (oh g.size)) (by simp[y]) cM V (K.le (fh (F4.trans g))) V ay;have ah:=λ(d:E)(ac:O)(cM:GC e F (P+2+Cg h2) R U l q d)(g:Fz [e] k d)(hw:IR e d ac (w++[A]))=>ih h2 d0 d2 (h.size::r) e (P+2+Cg h2) F R U ac d (w++[A]) z (H (oh g.size)) (by simp[y]) cM V hw bS I;have ai:=λ(d:E)(ac:O)(g:Fz [e] k d)(hR:e<d.size)(G:IR e d ac [A])=>eD (S:=[e]) (by simp;exact hR) (K.le (fh (F4.trans g))) G bS;have ak:=λ(M0 d:E)(Z e2:Ex)(t1 t2:O)(g:Fz [e] k d)(hR:Rd e F (P+2+Cg h2+Cg h2) d)(h1:fm (bI (h.size::r) d) t1 Z.bH)(aw:fm (bI (h.size::r) d) t2 e2.bH)(w1:WX l (pf q) w.length Z)(w2:WX l (pf q) (w++[A]).length e2)=>
   have B:=J.push d (.cells (bE [.i Z.op,.i Z.bM,.s t1,.i e2.op,.i e2.bM,.s t2]) bL)
   have ao:=H (d:=d) (oh g.size)
   XP.ret (S:=r) (Q':=λf=>WX l (pf q) w.length f/\(c<=2->f.n<=4)) (mz (hR.ext B) ((J6 ao 0 [(Z,t1),(e2,t2)] aJ (by simp;exact⟨h1,aw⟩) rfl rfl).done AH.mono ao bo aJ) 13 0) ((p.fz g).fz (B.fz [])) ((F4.trans g).then B) j.rd V (λf he=>he▸hQ _ (.lt w1 (by simpa using w2))) (i:=P+Cg c) V
  refine⟨?_,?_⟩
  .refine XP.then (ag k Q (Fz.aH _ _)) p λs5 T L h5 q5 r5 m=>⟨_,_,_,rfl,C (Fz.aH _ _) m,D (Fz.aH _ _) m,?_⟩;intro m6;have s:J L m6:=J.push _ _;have aB:au (bI [e] m6) (.mk L.size 0 1 1) [A]:=au.lit aA _ (by simp;exact r5.lt) rfl rfl aJ;clear_value m6;have o:=m.then s;refine⟨C m (s.fz _),D m (s.fz _),C m (s.fz _),D m (s.fz _),?_⟩;refine(ai m6 _ o (r5.ext s).lt aB).mono λ_ m7⟨s7,l7,f,g7,q7,i⟩=>⟨(p.fz o).de (i.fz _),s7,f,C o (i.fz _),D o (i.fz _),?_⟩;subst q7;refine XP.then (ah m7 s7 (((Q.to m r5).ext s).ext i) (o.then i) (GI.done g7 (by simp;exact(r5.ext s).lt) bS)) ((p.fz o).fz (i.fz [])) λs8 e8 m8 h8 q8 r8 f8=>⟨_,_,_,rfl,?_⟩;exact ak m8 m8 T e8 s5 s8 ((o.then i).trans f8) r8 (fm.le (((s.trans i).fz [e]).trans f8|>.cR (by simp[y])) h5) h8 q5.1 q8.1
  .intro L;have s:J k L:=J.push _ _;have aB:au (bI [e] L) (.mk k.size 0 1 1) [A]:=au.lit aA _ (by simp;exact r4.lt) rfl rfl aJ;clear_value L;refine⟨C (Fz.aH _ _) (s.fz _),D (Fz.aH _ _) (s.fz _),C (Fz.aH _ _) (s.fz _),D (Fz.aH _ _) (s.fz _),?_⟩;refine XP.then (ag L (Q.ext s) (s.fz _)) (p.fz (s.fz [])) λs6 e6 m6 h6 q6 r6 o=>⟨_,_,_,rfl,C (s.fz _) o,D (s.fz _) o,?_⟩;have T:=(s.fz [e]).trans o;refine(ai m6 _ T r6.lt (aB.le (fh o))).mono λ_ m7⟨s7,l7,f,g7,q7,i⟩=>⟨(p.fz T).de (i.fz _),s7,f,C T (i.fz _),D T (i.fz _),?_⟩;subst q7;refine XP.then (ah m7 s7 (((Q.ext s).to o r6).ext i) (T.then i) (GI.done g7 (by simp;exact r6.lt) bS)) ((p.fz T).fz (i.fz [])) λs8 e8 m8 h8 q8 r8 f8=>⟨_,_,_,rfl,?_⟩;exact ak m8 m8 e6 e8 s6 s8 ((T.then i).trans f8) r8 (fm.le ((i.fz [e]).trans f8|>.cR (by simp[y])) h6) h8 q6.1 q8.1
 .intro k;have i:J m3 k:=J.push _ _;have o:au (bI [e] k) (.mk m3.size 0 3 3) [0,z,z]:=au.lit aA _ (by simp;exact r3.lt) rfl rfl aJ;clear_value k;rw[an];exact yE V ih (H (oh i.size)) y (u.ext i) V (K.le (fh (t.then i))) V V o aJ (by simp;exact⟨j.gp.ty bo bo,I⟩) (N.fz (i.fz [])) (t.then i) j.rd V (λs hl hw=>hQ _ (.dV bo (λ_=>by simpa using hl) bo (by simp[Ar]) hw)) V
 .refine(IN (f:=[e]) (by simp;exact r3.lt) (u.hd.le (bA _ _)) am (oJ.le (bA _ _) u.hp) V gR z).mono λ_ k⟨C,s,f,gl,hq,i⟩=>⟨N.de (i.fz _),C,f,λG=>?_,λ_=>ar i⟩;simp only[aq]at G;have ac:IR e k C s:=GI.done gl (by simp;exact r3.lt) V;have ao:=ac.len;have Q:=u.ext i;have p:=N.fz (i.fz []);refine(bX Q.rd V C.len).mono λ_ L⟨ab,f,k0,k1,r5,m⟩=>⟨p.de m,ab,f,k0,V,?_⟩;let⟨ai,hy⟩:=cq s ab.toNat;obtain⟨fi,ah,rfl,o⟩:=hq.1 ai (av hy);have A:=Q.to m r5;let⟨ps,ag,e0,Z⟩:=A.hp.aQ o;have ak:=az o;have aw:=A.hp.len;have T:=tJ _ (j.gp.df ah (av o));have D:=(i.fz [e]).trans m;refine⟨_,(eA.1 ((ac.le (fh m)).aQ hy)).2,V,V,ps,(eA.1 e0).2,?_⟩;rw[an];exact yE V ih (H (oh D.size)) y A V (K.le (fh (t.trans D))) V V ag T.1 (λz I=>j.gp.ty (T.2.1 z I).1 (T.2.1 z I).2) (p.fz m) (t.trans D) j.rd V (λs hl hw=>hQ _ (.dV bo (λG=>V) bo (Ju (by rw[MU o,hl])) hw)) V
def Qg{b:List bq}{d:List da}:∀(n:Nat)(c:Int),c.toNat=n->0<=c/\c<=100->JH b d c:=λn=>by
 induction n using Nat.strongRecOn with
 |ind n f=>exactλc i h=>WO h λa e g=>f a.toNat V a rfl ⟨e,V⟩
section
variable{S:List Nat}{e P:Nat}{h d p j:O}{g:List bq}{i:List da}{f:E}{v:List Int}
def XE(g:List bq)(b:List Nat)(a:Nat)(e:Ex):Prop:=WX g b a e/\e.n<=30
def KU(hS:∀y∈S,y<f.size)(ab:e∈S)(y:GC e h P d p g i f)(hP:P+20*Cg 18<=10^16)(hv:IR e f j v)(ak:v.length<=100){T:Int}(ht:Ty g T)(s:0<=c/\c<=18):
 aP cv 121 [vp e 0,.agg #[O.v d,O.v p],O.v j,vi T,vi c] f (XP S e h f (P+20*Cg 18) (XE g (pf i) v.length)):=by
 apply Du (e,0)
 simp -zeta only[aG,aF]
 intro t B
 let⟨w,hl⟩:=dk (a:=t) (c:=B) rfl rfl
 have s1:t.size=f.size+1:=by simp[t]
 clear_value B
 have hr:=y.rd.lt
 have z2:=w.size
 have N:Lw e [t.size,f.size] B:=λc s=>⟨hl c s,by simp at s;omega⟩
 have aa:∀{M:E},B.size<=M.size->∀k∈t.size::S,k<M.size:=λR k Z=>by have:=bR hS w.size (hl t.size aJ) k Z;omega
 have W:=y.ext w
 have hm:=tH s.2
 refine XP.then (Qg _ c rfl ⟨s.1,V⟩ (t.size::S) e P h d p j B v T (aa (ad _)) (by simp[ab]) W V (hv.le (fh (w.fz _))) V ht) N λs3 F l h3 q3 r3 f3=>⟨_,_,_,rfl,?_⟩
 intro m4 C
 have U:J l C:=(J.push l _).aj (ad _) _ _
 have B5:cB C l.size bL [.i F.op,.i F.bM,.s s3]:=cB.aj (m:=m4) (o:=0) (r:=[.i F.op,.i F.bM,.s s3]) (cB.push l _ _)
 have s5:C.size=l.size+1:=by simp[C,m4,aD]
 clear_value C
 have z3:=f3.size
 have ae:∀k∈l.size::t.size::S,k<C.size:=bR (aa z3) U.size V
 refine⟨λq M=>∃(I:O)(k:Ex)(u:Nat),0<=q/\q<=18/\q.toNat<=u/\u<=18/\cB M l.size bL [.i k.op,.i k.bM,.s I]/\fm (bI (l.size::t.size::S) M) I k.bH/\WX g (pf i) v.length k/\(q<=2->k.n<=4)/\Rd e h (P+(19 -u)*Cg 18) M/\Fz [e] B M/\C.size<=M.size,λq _=>q.toNat,⟨s3,F,18,s.1,s.2,V,ad _,B5,fm.le (U.bI λc s=>(List.mem_cons.1 s).elim (λR=>Or.inr V) Or.inl) h3,q3.1,q3.2,(r3.ext U).mono V,(f3.then U),ad _⟩,?_⟩
 rintro q M ⟨I,k,u,b0,b1,bk,al,K,hs,hw,hn,rM,X,zM⟩
 have FM:=(w.fz [e]).trans X
 refine⟨_,K.cK 0,_,K.cK 1,_,K.cK 2,?_⟩
 refine(zZ (fm.le (bA _ _) hs)).mono λ_ H⟨n6,e6,q6,D⟩=>⟨(N.fz X).de (D.fz _),n6,e6,?_⟩
 have L:=K.ext D
 have r6:=rM.ext D
 have z:=X.then D
 have z6:=D.size
 have kc:(19 -u)*Cg 18+Cg 18<=20*Cg 18:=by rw[<-pC];exact dt _ V
 have bC:k.n<=30->∃v0:Int,af H l.size 0=some (vi v0)/\∃v1:Int,af H l.size 1=some (vi v1)/\∃v2:O,af H l.size 2=some (O.v v2)/\XP S e h f (P+20*Cg 18) (XE g (pf i) v.length) (.agg #[vi v0,vi v1,O.v v2]) (aj H t.size 0 [.i v0,.i v1,.s v2]):=λac=>
  ⟨_,L.cK 0,_,L.cK 1,_,L.cK 2,I,k,rfl,fm.le (cp aJ λy Y=>ah _ (ah _ Y)) (fm.le (D.cR _) hs),⟨hw,ac⟩,y.rd.aj (r6.mono V) ((w.fz _).trans z) V 0 _,((w.fz _).trans z).aj (Or.inr V) _ _⟩
 refine⟨λR=>⟨λA=>?_,λA=>bC (by simp only[bD]at A;have:=hn V;omega)⟩,λR=>bC (by simp only[bD]at R;omega)⟩
 simp only[aq]at A
 let⟨d0,d1⟩:=Ng (f:=q) (d:=2) b0 V
 have d2:Int.tdiv q 2<=q -1:=by rw[pv b0];omega
 rw[aS (b:=Int.tdiv q 2) V V]
 generalize Int.tdiv q 2=A at*
 have ag:=tH (f:=A) (c:=18) V
 refine⟨bo,?_⟩
 refine XP.then (Qg _ A rfl ⟨d0,V⟩ (l.size::t.size::S) e _ h d p j H v T (λk Z=>oh (ae k Z)) (by simp[ab]) (W.to z r6) V (hv.le (fh ((w.fz _).trans z))) V ht) (N.fz z) λs7 G m7 h7 q7 r7 Q=>⟨_,_,_,rfl,?_⟩
 have ai:e≠l.size:=V
 have B7:cB m7 l.size bL [.i k.op,.i k.bM,.s I]:=L.congr (Q.same _ V bS)
 refine⟨B7.fq aJ,?_⟩
 intro m8
 have B8:cB m8 l.size bL [.i G.op,.i G.bM,.s s7]:=cB.aj (m:=m7) (o:=0) (r:=[.i G.op,.i G.bM,.s s7]) B7
 have f8:Fz [e] B m8:=(z.trans Q).aj (Or.inr V) _ _
 have s8:m8.size=m7.size:=aD _ _ _ _
 have z7:=Q.size
 refine⟨λc s=>bh _ _ _ _ (oh ((N c s).1)),⟨s7,G,u -1,d0,V,V,V,B8,fm.le (cp aJ λy Y=>Y) h7,q7.1,q7.2,?_,f8,V⟩,by show A.toNat<q.toNat;omega⟩
 refine W.rd.aj (r7.mono ?_) (z.trans Q) V 0 _
 rw[show 19 -(u -1)=19 -u+1 by omega,pC];omega
end
end
section
variable{n:Int}
structure HX(S:List Nat)(ds:List bq)(nf:List Nat)(a:Nat)(M:E)(s:O)(e:Ex):Prop where
 sl:fm (bI S M) s e.bH
 wx:WX ds nf a e
structure Rs(rb:Nat)(bs:O)(m:E)(Q:Nat)(M:E):Prop where
 f:Fz [rb] m M
 r:Rd rb bs Q M
section
variable{S L:List Nat}{f Q t x k a:Nat}{i:List Nat}{j d p s w:O}{h:List bq}{u:List da}{q M c:E}{g:Ex}{v:List Int}{K:Int->Int->O->E->Prop}
def HX.fz(b:HX S h i a M s g)(e:f∈S)(d:Fz [f] M c):HX S h i a c s g:=⟨fm.le (d.cR (by simp[e])) b.sl,b.wx⟩
def HX.ext(b:HX S h i a M s g)(x:J M c):HX S h i a c s g:=⟨fm.le (x.cR _) b.sl,b.wx⟩
def HX.fX(b:HX S h i a M s g)(x:J M c)(f:M.size<=k):HX (k::S) h i a c s g:=⟨fm.le (x.bI λe d=>(List.mem_cons.1 d).elim (λb=>Or.inr V) Or.inl) b.sl,b.wx⟩
def HX.gE(b:HX (k::S) h i a M s g):HX S h i a M s g:=⟨fm.le (gL M λ_=>ah _) b.sl,b.wx⟩
def HX.put(b:HX S h i a M s g)(c:k∈S)(o:Nat)(l:List Ce):HX S h i a (aj M k o l) s g:=⟨fm.le (cp c λ_ b=>b) b.sl,b.wx⟩
def Rs.ext(h:Rs f j q Q M)(x:J M c):Rs f j q Q c:=⟨h.f.then x,h.r.ext x⟩
def Rs.to(h:Rs f j q Q M)(a:Fz [f] M c)(r:Rd f j t c):Rs f j q t c:=⟨h.f.trans a,r⟩
def Rs.put(h:Rs f j q Q M)(b:Rd f j x q)(a:q.size<=k)(o:Nat)(l:List Ce):Rs f j q Q (aj M k o l):=⟨h.f.aj (Or.inr a) _ _,b.aj h.r h.f a o l⟩
def lw(h:f<q.size)(a:∀b∈L,q.size<=b/\b<M.size):Lw f L M:=λb c=>⟨(a b c).2,oh ((a b c).1)⟩
def kg(a:Fz [f] M c)(h:f<q.size)(b:q.size<=k/\k<M.size)(o:Nat):af c k o=af M k o:=aM (a.same k b.2 bS) o
def iL{d c:E}{z a:List Ce}{t:Nat}(f:d=M.push (.cells (bE z) t))(g:c=aj d M.size 0 a)(i:a.length=z.length):J M c/\cB c M.size t a/\c.size=M.size+1:=by
 subst f g;refine⟨(J.push M _).aj (ad _) _ _,?_,by rw[aD];simp⟩;have h:=cB.aj (m:=M.push (.cells (bE z) t)) (b:=M.size) (e:=t) (l:=z) (o:=0) (r:=a) (cB.push _ _ _);rwa[show iO z 0 a=a from by
  have h:=AW [] a z V;rw[th V]at h;simpa using h]at h
def XP.kk{e:Nat}{b:List Value}{T:Ex->Prop}(n:aP cv e b M (XP S f j M Q T))(o:Lw f L M)(p:∀s g c,fm (bI S c) s g.bH->T g->Rd f j Q c->Fz [f] M c->K g.op g.bM s c):aP cv e b M λv c=>eF L M c/\∃h i:Int,∃k:O,v=.agg #[vi h,vi i,O.v k]/\K h i k c:=
 XP.then n o λs g c a l m d=>⟨_,_,_,rfl,p s g c a l m d⟩
def vL(S:List Nat)(h:List bq)(i:List Nat)(m:Lw f L M)(p:0<=n/\n<(a:Int))(o:∀s c,HX S h i a c s (.mk 12 n [])->J M c->K 12 n s c):aP cv 163 [vi n] M λv c=>eF L M c/\∃b d:Int,∃e:O,v=.agg #[vi b,vi d,O.v e]/\K b d e c:=
 (lM S n M).mono λv c⟨s,g,j,k,l,x⟩=>⟨m.de (x.fz _),by subst l;exact⟨_,_,_,j,o s c ⟨k,.Uh p⟩ x⟩⟩
def Ie(S:List Nat)(h:List bq)(i:List Nat)(a:Nat)(m:Lw f L M)(p: -999<=n/\n<=999)(o:∀s c,HX S h i a c s (.mk 0 n [])->J M c->K 0 n s c):aP cv 116 [vi n] M λv c=>eF L M c/\∃b d:Int,∃e:O,v=.agg #[vi b,vi d,O.v e]/\K b d e c:=
 (zN S n M).mono λv c⟨s,g,j,k,l,x⟩=>⟨m.de (x.fz _),by subst l;exact⟨_,_,_,j,o s c ⟨k,.int p⟩ x⟩⟩
def nZ(l:List (Ex×O))(d:l.length<=1000)(b:∀c∈S,c<M.size)(h:∀x∈l,fm (bI S M) x.2 x.1.bH){a:List Ce}{n:Nat}(c:a=l.flatMap λx=>[.i x.1.op,.i x.1.bM,.s x.2])(e:n=l.length):fm (bI S (M.push (.cells (bE a) bL))) (.mk M.size 0 n n) (l.map (·.1)):=
 (J6 b 0 l d h c e).done AH.mono b bo bS
def jf{bH:List Ex}(k:fm (bI S M) s bH){b bM:Int}(q:WX h i a (.mk b bM bH))(o:Lw f L M)(p:∀s c,HX S h i a c s (.mk b bM bH)->J M c->K b bM s c):
 aP cv 161 [vi b,vi bM,O.v s] M λv c=>eF L M c/\∃d e:Int,∃j:O,v=.agg #[vi d,vi e,O.v j]/\K d e j c:=
 (Iv k b bM).mono λv c⟨s,g,l,m,n,x⟩=>⟨o.de (x.fz _),by subst n;exact⟨_,_,_,l,p s c ⟨m,q⟩ x⟩⟩
def EB(x:∀a∈S,a<M.size)(z:f∈S)(a:GC f j Q d p h u M)(C:Q+Cg 18<=10^16)(B:IR f M w v)(E:v.length<=100){t b:Int}(A:Ty h t)(e:0<=b/\b<=18)(r:Lw f L M)(y:∀g s c,HX S h (pf u) v.length c s g->Rd f j (Q+Cg 18) c->Fz [f] M c->K g.op g.bM s c):
 aP cv 160 [vp f 0,.agg #[O.v d,O.v p],O.v w,vi t,vi b] M λv c=>eF L M c/\∃i k:Int,∃l:O,v=.agg #[vi i,vi k,O.v l]/\K i k l c:=
 have D:=tH e.2
 XP.kk (Qg _ b rfl ⟨e.1,V⟩ S f Q j d p w M v t x z a V B V A) r λs g c m n o q=>y g s c ⟨m,n.1⟩ (o.mono V) q
end
end
section
def SF:∀a∈ov,∀c∈[(0,0),((1:Int),2),(2,0),(3,3)],c.1<((eI a).length:Int)/\c.2=(cg a c.1).length:=bo
def WX.Ow{a:List bq}{d:List Nat}{b:Nat}{n:Int}{bH:List Ex}(hd:a∈ov)(c:(n,bH.length)∈[((0:Int),0),(1,2),(2,0),(3,3)])(h:∀e∈bH,WX a d b e):WX a d b (.mk 6 n bH):=.dV bo (λh=>V) bo (by
 have⟨e,f⟩:=SF a hd _ c;have:0<=n:=by simp at c;omega
 simp[Ar];exact⟨⟨this,e⟩,f⟩) h
section
variable{c:List Nat}{e P:Nat}{g d p:O}{f:List bq}{h:List da}{b:E}
def KZ{f:List bq}(hd:f∈ov)(A:List Nat)(hS:∀ab∈c,ab<b.size)(ac:e∈c)(W:Rd e g P b)(hP:P+100<=10^16)(aH:Int):aP cv 162 [vp e 0,vi aH] b (XP c e g b (P+100) (WX f A 0)):=by
 apply DE (e,0);simp -zeta only[aG,aF];intro aB ag;have x2:J b ag:=(J.push b _).trans (J.push aB _);have s2:ag.size=b.size+2:=by simp[ag,aB]
 clear_value ag;have N:=W.lt;have au:∀{h:E},ag.size<=h.size->∀ab∈b.size::c,ab<h.size:=λw=>bR hS V V;have Y:Rs e g b P ag:=⟨x2.fz _,W.ext x2⟩;refine jf (S:=b.size::c) (a:=0) (h:=f) (i:=A) (f:=e) (bH:=[]) (lU _ _ _ _ _ _) (.Ow hd aJ aJ) (lw N bS) λs3 m3 h3 x3=>?_;intro m4 F;let⟨x5,B5,z5⟩:=iL (M:=m3) (d:=m4) (c:=F) rfl rfl rfl;clear_value F;have z3:=x3.size;have r5:=(Y.ext x3).ext x5;refine⟨λ_=>?_,λ_=>?_⟩
 .intro m6;have x6:J F m6:=J.push _ _;clear_value m6;have z6:=x6.size;refine jf (S:=b.size::c) (a:=0) (h:=f) (i:=A) (f:=e) (bH:=[]) (lU _ _ _ _ _ _) (.Ow hd aJ aJ) (lw N bS) λR H h7 x7=>?_;intro m8 z;let⟨x9,B9,z9⟩:=iL (M:=H) (d:=m8) (c:=z) rfl rfl rfl;clear_value z;have z7:=x7.size;have r9:=((r5.ext x6).ext x7).ext x9;have h9:=h7.ext x9;have G:∀{h D:E},z.size<=h.size->Fz [e] h D->∀i,af D H.size i=af h H.size i:=λw ak i=>kg ak N ⟨V,V⟩ i;have LW:∀{h:E},z.size<=h.size->Lw e [H.size,m3.size,b.size] h:=λw=>lw N bS;have LK:∀{h:E}{t:Nat},z.size<=t->t<h.size->Lw e [t,H.size,m3.size,b.size] h:=λw U=>lw N bS;have hw:∀j:Int,0<=j/\j<=9->WX f A 0 (.mk 6 3 [.mk 6 2 [],.mk 0 j [],.mk 6 2 []]):=λj w=>.Ow hd aJ (by simp;exact⟨.Ow hd aJ aJ,.int V,.Ow hd aJ aJ⟩);refine⟨λlj h=>∃I p,lj.2=0/\b.size<=lj.1/\cB h lj.1 bL [.i p.op,.i p.bM,.s I]/\HX (b.size::c) f A 0 h I p/\HX (b.size::c) f A 0 h R (.mk 6 2 [])/\Rs e g b (P+1) h/\z.size<=h.size,?_,?_⟩
  .have hO:∀{t t0:Nat}{h:E}{j:Int},0<=j/\j<=9->cB h t bL [.i 0,.i 0,.s .nil]->z.size<=t->fm (bI (t::b.size::c) h) (.mk t0 0 3 3) [.mk 6 2 [],.mk 0 j [],.mk 6 2 []]->Rs e g b (P+1) h->HX (t::b.size::c) f A 0 h R (.mk 6 2 [])->
    aP cv 161 [vi 6,vi 3,O.v (.mk t0 0 3 3)] h λaI D=>eF [t,H.size,m3.size,b.size] h D/\∃r0 r1:Int,∃Y:O,aI=.agg #[vi r0,vi r1,O.v Y]/\∃I p,((t,0):Nat×Nat).2=0/\b.size<=((t,0):Nat×Nat).1/\cB (aj D t 0 [.i r0,.i r1,.s Y]) ((t,0):Nat×Nat).1 bL [.i p.op,.i p.bM,.s I]/\HX (b.size::c) f A 0 (aj D t 0 [.i r0,.i r1,.s Y]) I p/\HX (b.size::c) f A 0 (aj D t 0 [.i r0,.i r1,.s Y]) R (.mk 6 2 [])/\Rs e g b (P+1) (aj D t 0 [.i r0,.i r1,.s Y])/\z.size<=(aj D t 0 [.i r0,.i r1,.s Y]).size:=λhn B hk X Q w=>
    jf X (hw _ hn) (LK hk B.lt) λs' D U aw=>⟨s',.mk 6 3 [.mk 6 2 [],.mk 0 _ [],.mk 6 2 []],rfl,by show b.size<=_;omega,cB.aj (m:=D) (o:=0) (r:=[.i 6,.i 3,.s s']) (B.ext aw),(U.put aJ _ _).gE,((w.ext aw).put aJ _ _).gE,(Q.ext aw).put W V _ _,by rw[aD];have:=B.lt;have:=aw.size;omega⟩
   have zb:∀h:E,J h (h.push (.cells (bE [.i 0,.i 0,.s .nil]) bL))/\cB (h.push (.cells (bE [.i 0,.i 0,.s .nil]) bL)) h.size bL [.i 0,.i 0,.s .nil]:=λh=>⟨J.push _ _,cB.push _ _ _⟩;have av:∀{ai:List Nat}{h:E}{j:Int}{si:O},(∀ab∈ai,ab<h.size)->HX ai f A 0 h R (.mk 6 2 [])->HX ai f A 0 h si (.mk 0 j [])->fm (bI ai (h.push (.cells (bE [.i 6,.i 2,.s R,.i 0,.i j,.s si,.i 6,.i 2,.s R]) bL))) (.mk h.size 0 3 3) [.mk 6 2 [],.mk 0 j [],.mk 6 2 []]:=λhS w U=>
    nZ [(.mk 6 2 [],R),(.mk 0 _ [],_),(.mk 6 2 [],R)] aJ hS (by simp;exact⟨w.sl,U.sl,w.sl⟩) rfl rfl
   have az:∀{h:E}{t:Nat},z.size<=t->t<h.size->∀ab∈t::b.size::c,ab<h.size:=λw U=>bR (au (h:=z) V) V U;refine⟨(bX r9.r V 9).mono λ_ y⟨j,p,nl,nu,ap,v⟩=>⟨(LW (ad _)).de v,j,p,G (ad _) v _,G (ad _) v _,G (ad _) v _,G (ad _) v _,G (ad _) v _,G (ad _) v _,?_,?_⟩,?_⟩
   .have K:=r9.to v ap;have Z:=v.size;have L:=h9.fz (by simp[ac]) v;refine Ie (b.size::c) f A 0 (LW Z) (n:=j) ⟨V,V⟩ λaC q al s=>?_;have ax:=s.size;have d:=λi=>G Z (s.fz _) i;refine⟨d _,d _,d _,d _,d _,d _,?_,?_⟩
    .intro l;have k:J q l:=J.push _ _;have X:fm (bI (b.size::c) l) (.mk q.size 0 3 3) [.mk 6 2 [],.mk 0 j [],.mk 6 2 []]:=av (ai:=b.size::c) (au V) (L.ext s) al;have aK:=k.size;refine⟨?_,?_⟩
     .refine jf (M:=l) (f:=e) X (hw j ⟨V,V⟩) (LW V) λaA C ar u=>?_;intro T;have am:J C T:=J.push _ _;have an:=u.size;have d:=λi=>G (h:=C) (D:=T) V (am.fz _) i;refine⟨d _,d _,d _,d _,d _,d _,?_⟩;intro ah;let⟨aa,ae,ao⟩:=iL (M:=C) (d:=T) (c:=ah) rfl rfl rfl;exact⟨aA,.mk 6 3 [.mk 6 2 [],.mk 0 j [],.mk 6 2 []],rfl,by show b.size<=C.size;omega,ae,ar.ext aa,(((L.ext s).ext k).ext u).ext aa,(((K.ext s).ext k).ext u).ext aa,V⟩
     .intro C;obtain⟨u,T⟩:J l C/\cB C l.size bL [.i 0,.i 0,.s .nil]:=zb l;have d:=λi=>G (h:=l) (D:=C) V (u.fz _) i;exact⟨d _,d _,d _,d _,d _,d _,hO ⟨V,V⟩ T V (fm.le (u.bI λao hb=>(List.mem_cons.1 hb).elim (λw=>Or.inr V) Or.inl) X) (((K.ext s).ext k).ext u) (((L.ext s).ext k).fX u (ad _))⟩
    .intro l;obtain⟨k,ah⟩:J q l/\cB l q.size bL [.i 0,.i 0,.s .nil]:=zb q;have d:=λi=>G (h:=q) (D:=l) V (k.fz _) i;refine⟨d _,d _,d _,d _,d _,d _,?_⟩;intro C;have u:J l C:=J.push _ _;have T:=(L.ext s).fX k (ad _);exact hO ⟨V,V⟩ (ah.ext u) V (av (az V ah.lt) T (al.fX k (ad _))) (((K.ext s).ext k).ext u) (T.ext u)
   .have K:=r9.to v ap;have Z:=v.size;have L:=h9.fz (by simp[ac]) v;intro q;obtain⟨s,aa⟩:J y q/\cB q y.size bL [.i 0,.i 0,.s .nil]:=zb y;have d:=λi=>G (h:=y) (D:=q) V (s.fz _) i;have ax:=s.size;refine⟨d _,d _,d _,d _,d _,d _,?_⟩;refine Ie (y.size::b.size::c) f A 0 (LK V aa.lt) (n:=j) ⟨V,V⟩ λan l am k=>?_;have d:=λi=>G (h:=q) (D:=l) V (k.fz _) i;refine⟨d _,d _,d _,d _,d _,d _,?_⟩;intro C;have u:J l C:=J.push _ _;have T:=(L.fX s (ad _)).ext k;exact hO ⟨V,V⟩ ((aa.ext k).ext u) V (av (az V (aa.ext k).lt) T am) (((K.ext s).ext k).ext u) (T.ext u)
   .intro y;obtain⟨K,ay⟩:J z y/\cB y z.size bL [.i 0,.i 0,.s .nil]:=zb z;have d:=λi=>G (h:=z) (D:=y) V (K.fz _) i;have Z:=K.size;refine⟨d _,d _,d _,d _,d _,d _,?_⟩;refine(bX (r9.ext K).r V 9).mono λ_ q⟨j,p,nl,nu,aE,ae⟩=>⟨(LK (ad _) ay.lt).de ae,j,p,?_⟩;have d:=λi=>G (h:=y) (D:=q) V ae i;refine⟨d _,d _,d _,d _,d _,d _,?_⟩;have aa:=ay.congr (ae.same z.size ay.lt bS);have ax:=ae.size;refine Ie (z.size::b.size::c) f A 0 (LK (ad _) aa.lt) (n:=j) ⟨V,V⟩ λan l am k=>?_;have d:=λi=>G (h:=q) (D:=l) V (k.fz _) i;refine⟨d _,d _,d _,d _,d _,d _,?_⟩;intro C;have u:J l C:=J.push _ _;have T:=((h9.fX K (ad _)).fz (by simp[ac]) ae).ext k;exact hO ⟨V,V⟩ ((aa.ext k).ext u) (ad _) (av (az (ad _) (aa.ext k).lt) T am) ((((r9.ext K).to ae aE).ext k).ext u) (T.ext u)
  .rintro⟨t,i⟩ h ⟨I,p,ho,hk,B,w,U,Q,aa⟩;simp only at ho hk B;subst ho;have bl:=B.lt;refine⟨_,B.cK 0,_,B.cK 1,_,B.cK 2,?_⟩;have L3:∀{D:E},h.size<=D.size->Lw e [H.size,m3.size,b.size] D:=λw=>LW V;refine(bX Q.r V 9).mono λ_ y⟨j,en,nl,nu,ap,v⟩=>⟨(L3 (ad _)).de v,j,en,?_⟩;have Z:=v.size;have gg:∀{T ae:E},h.size<=T.size->Fz [e] T ae->∀i,af ae t i=af T t i:=λw ak i=>kg ak N ⟨hk,V⟩ i;have ga:=λi=>G (h:=h) (D:=y) aa v i;have gb:=λi=>gg (T:=h) (ae:=y) (ad _) v i;refine⟨?_,?_,?_,?_,?_,?_,?_⟩;iterate 6 first|exact ga _|exact gb _
   refine Ie (b.size::c) f A 0 (L3 Z) (n:=j) ⟨V,V⟩ λaC q al s=>?_;have ga:=λi=>G (h:=y) (D:=q) V (s.fz _) i;have gb:=λi=>gg (T:=y) (ae:=q) Z (s.fz _) i;refine⟨?_,?_,?_,?_,?_,?_,?_⟩;iterate 6 first|exact ga _|exact gb _
   intro l;have k:J q l:=J.push _ _;have ax:=s.size;have ai:=(w.fz (by simp[ac]) v).ext s;have ao:=(U.fz (by simp[ac]) v).ext s;have X:fm (bI (b.size::c) l) (.mk q.size 0 3 3) [p,.mk 0 j [],.mk 6 2 []]:=nZ (S:=b.size::c) (M:=q) [(p,I),(.mk 0 j [],aC),(.mk 6 2 [],R)] aJ (au V) (by simp;exact⟨ai.sl,al.sl,ao.sl⟩) rfl rfl;refine jf (M:=l) (f:=e) X (.Ow hd aJ (by simp;exact⟨ai.wx,al.wx,ao.wx⟩)) (L3 (D:=l) (oh k.size)) λaA C ar u=>?_;have av:=(((Q.to v ap).ext s).ext k).ext u;exact⟨aA,_,rfl,(ar.put aJ _ _).gE.sl,ar.wx,((av.put W (ad _) _ _).r).mono V,(av.put W (ad _) _ _).f⟩
 .intro m6 H;let⟨x7,B7,z7⟩:=iL (M:=F) (d:=m6) (c:=H) rfl rfl rfl;clear_value H;have r7:=r5.ext x7;have D:∀{h:E},H.size<=h.size->Lw e [m3.size,b.size] h:=λw=>lw N bS;refine(bX r7.r V 3).mono λ_ m8⟨j,en,n0,n3,R,v⟩=>⟨(lw N bS:Lw e [F.size,m3.size,b.size] H).de v,j,en,?_⟩;rw[aS (b:=1+j) V V];have z8:=v.size;have U:b.size<=F.size:=V;refine⟨λt h=>0<=t/\t<=3/\∃I p,cB h F.size bL [.i p.op,.i p.bM,.s I]/\HX (F.size::b.size::c) f A 0 h I p/\Rs e g b (P+1+4*(3 -t).toNat) h/\H.size<=h.size,λt _=>t.toNat,⟨V,V,s3,.mk 6 0 [],B7.congr (v.same _ V bS),((h3.ext x5).fX x7 (ad _)).fz (by simp[ac]) v,⟨(r7.to v R).f,R.mono V⟩,z8⟩,?_⟩;rintro t h ⟨i0,i3,I,p,B,w,Q,aa⟩;refine⟨λhi=>?_,λ_=>⟨_,B.cK 0,_,B.cK 1,_,B.cK 2,I,p,rfl,(w.gE.put aJ _ _).gE.sl,w.wx,(Q.put W (ad _) _ _).r.mono V,(Q.put W (ad _) _ _).f⟩⟩;simp only[aq]at hi;refine⟨_,B.cK 0,_,B.cK 1,_,B.cK 2,?_⟩;have d:∀{T ae:E},H.size<=T.size->Fz [e] T ae->∀i,af ae F.size i=af T F.size i:=λw ak i=>kg ak N ⟨U,V⟩ i;refine(Aj Q.r V).mono λ_ z⟨C,en,ap,d9,u⟩=>⟨(D aa).de u,C,en,d aa u _,d aa u _,d aa u _,?_⟩;have z9:=u.size;refine Ie (F.size::b.size::c) f A 0 (D V) ap λar y L K=>⟨d V (K.fz _) _,d V (K.fz _) _,d V (K.fz _) _,?_⟩;intro q;have s:J y q:=J.push _ _;have Z:=K.size;have ax:=s.size;have ai:=(w.fz (by simp[ac]) u).ext K;have X:fm (bI (F.size::b.size::c) q) (.mk y.size 0 2 2) [.mk 0 C [],p]:=nZ (S:=F.size::b.size::c) (M:=y) [(.mk 0 C [],ar),(p,I)] aJ (bR (au (h:=y) V) (ad _) V) (by simp;exact⟨L.sl,ai.sl⟩) rfl rfl;refine jf (M:=q) (f:=e) X (.Ow hd aJ (by simp;exact⟨L.wx,ai.wx⟩)) (D (h:=q) V) λan l am k=>?_;have ah:cB l F.size bL [.i p.op,.i p.bM,.s I]:=(((B.congr (u.same _ B.lt bS)).ext K).ext s).ext k;have aK:=k.size;rw[aS (b:=t -1) V V];refine⟨ah.fq aJ,λao hb=>bh _ _ _ _ (by simp at hb;omega),⟨V,V,an,.mk 6 1 [.mk 0 C [],p],cB.aj (m:=l) (o:=0) (r:=[.i 6,.i 1,.s an]) ah,am.put aJ _ _,?_,by rw[aD];omega⟩,by show(t -1).toNat<t.toNat;omega⟩;have al:=((((Q.to u d9).ext K).ext s).ext k).put W U 0 [.i 6,.i 1,.s an];exact⟨al.f,al.r.mono V⟩
end
end
section
structure BX(S:List Nat)(ds:List bq)(nf:List Nat)(a k:Nat)(M:E)(s:O)(e:Ex):Prop where
 b:cB M k bL [.i e.op,.i e.bM,.s s]
 h:HX (k::S) ds nf a M s e
section
variable{S:List Nat}{d Q i j k a:Nat}{c:List Nat}{h s:O}{b:List bq}{g M f:E}{e:Ex}
def BX.new{f d:E}(h:HX S b c a M s e)(g:f=M.push (.cells (bE [.i 0,.i 0,.s .nil]) bL))(i:d=aj f M.size 0 [.i e.op,.i e.bM,.s s]):J M d/\BX S b c a M.size d s e/\d.size=M.size+1:=
 let⟨x,B,z⟩:=iL g i rfl;⟨x,⟨B,h.fX x (ad _)⟩,z⟩
def BX.fz(h:BX S b c a k M s e)(j:d∈S)(i:k≠d)(g:Fz [d] M f):BX S b c a k f s e:=⟨h.b.congr (g.same k h.b.lt (by simpa using i)),h.h.fz (by simp[j]) g⟩
def BX.ext(h:BX S b c a k M s e)(x:J M f):BX S b c a k f s e:=⟨h.b.ext x,h.h.ext x⟩
def BX.set(h:BX S b c a k M s e){f:O}{d:Ex}(g:HX (k::S) b c a M f d):BX S b c a k (aj M k 0 [.i d.op,.i d.bM,.s f]) f d:=⟨cB.aj (m:=M) (o:=0) (r:=[.i d.op,.i d.bM,.s f]) h.b,g.put aJ _ _⟩
def HX.hO(f:HX (k::S) b c a M s e)(r:Rs d h g Q M)(l:Rd d h j g)(m:g.size<=k)(n:Q<=i):XP S d h g i (WX b c a) (.agg #[vi e.op,vi e.bM,O.v s]) (aj M k 0 [.i e.op,.i e.bM,.s s]):=
 ⟨s,e,rfl,(f.put aJ _ _).gE.sl,f.wx,(r.put l m _ _).r.mono n,(r.put l m _ _).f⟩
end
section
variable{b:List Nat}{c P:Nat}{g d p:O}{f:List bq}{e:List da}{m:E}
def Jc(hS:∀j∈b,j<m.size)(z:c∈b)(j:GC c g P d p f e m)(hP:P+200+Cg 18<=10^16):aP cv 117 [vp c 0,.agg #[O.v d,O.v p]] m (XP b c g m (P+200+Cg 18) (WX f (pf e) 0)):=by
 apply BP (c,0);simp -zeta only[aG,aF];intro h q A;let⟨x2,hl⟩:=dk (a:=h) (c:=q) rfl rfl;have s1:h.size=m.size+1:=by simp[h]
 have s2:q.size=m.size+2:=by simp[q,s1]
 have X:J q A:=J.push _ _;have y:=j.rd.lt;have ac:au (bI [c] A) (.mk q.size 0 3 3) [1,1,3]:=au.lit aA _ bS rfl rfl aJ;clear_value A;clear_value q;have F:∀{i:E},q.size<=i.size->∀j∈h.size::b,j<i.size:=λI=>bR hS V V;have r3:Rs c g m P A:=⟨(x2.trans X).fz _,(j.rd.ext x2).ext X⟩;have z3:=X.size;refine(jR r3.r V ac aJ).mono λ_ m4⟨W,u,ht,d4,G⟩=>⟨(lw y bS:Lw c [h.size,m.size] A).de G,W,u,?_⟩;have r4:=r3.to G d4;have z4:=G.size;intro Q;have x5:J m4 Q:=J.push _ _;have ae:au (bI [c] Q) (.mk m4.size 0 1 1) [W]:=au.lit aA _ (by simp;exact d4.lt) rfl rfl aJ;clear_value Q;have R:=r4.ext x5;have z5:=x5.size;refine EB (S:=h.size::b) (F V) (by simp[z]) (j.to R.f R.r) V ae aJ (j.gp.ty (t:=0) bo bo) bo (lw y bS) λD s6 v h6 d6 f6=>?_;intro m7 B;let⟨x8,b8,z8⟩:=BX.new (f:=m7) (d:=B) h6 rfl rfl;clear_value B;have z6:=f6.size;have T:=(R.to f6 d6).ext x8;have L:v.size≠c:=V;have Z:∀{i:E},B.size<=i.size->Lw c [v.size,h.size,m.size] i:=λI=>lw y bS;refine⟨λi=>∃U u,BX (h.size::b) f (pf e) 1 v.size i U u/\Rs c g m (P+2+Cg 18) i/\B.size<=i.size,?_,?_⟩
 .refine(bX T.r V 3).mono λ_ n⟨Y,en,_,_,x,l⟩=>⟨(Z (ad _)).de l,Y,en,λ_=>?_,λ_=>⟨s6,D,b8.fz (by simp[z]) L l,⟨(T.to l x).f,x.mono V⟩,l.size⟩⟩;have s:=b8.fz (by simp[z]) L l;have z9:=l.size;intro o;have w:J n o:=J.push _ _;have N:fm (bI (v.size::h.size::b) o) (.mk n.size 0 1 1) [D]:=nZ (S:=v.size::h.size::b) (M:=n) [(D,s6)] aJ (bR (F (i:=n) V) (ad _) s.b.lt) (by simp;exact s.h.sl) rfl rfl;have aa:=w.size;refine jf (M:=o) N (.dV (a:=1) (b:=f) (c:=pf e) bo (λI=>V) bo (by simp[Ar]) (by simp;exact s.h.wx)) (Z V) λab af K C=>?_;have r:=((T.to l x).ext w).ext C;have H:=((s.ext w).ext C).set K;exact⟨ab,.mk 5 0 [D],H,⟨(r.put j.rd V _ _).f,((r.put j.rd V _ _).r).mono V⟩,by rw[aD];have:=C.size;omega⟩
 rintro i ⟨U,u,r,aa,ah⟩;refine⟨_,r.b.cK 0,_,r.b.cK 1,_,r.b.cK 2,?_⟩;have Y:∀{i:E},B.size<=i.size->Lw c [h.size,m.size] i:=λI=>lw y bS;refine XP.kk (KZ (c:=h.size::b) j.gp.ds (pf e) (F V) (by simp[z]) aa.r V W) (Y ah) λs9 e9 n h9 w9 x l=>?_;have H:=λag=>kg l y (k:=v.size) ⟨V,r.b.lt⟩ ag;refine⟨H _,H _,H _,?_⟩;have z9:=l.size;intro o;have w:J n o:=J.push _ _;have s:=r.fz (by simp[z]) L l;have N:fm (bI (h.size::b) o) (.mk n.size 0 2 2) [e9,u]:=nZ (S:=h.size::b) (M:=n) [(e9,s9),(u,U)] aJ (F V) (by simp;exact⟨h9,s.h.gE.sl⟩) rfl rfl;refine jf (M:=o) N (.lt w9 r.h.wx) (Y (oh w.size)) λab af K C=>?_;exact K.hO (((aa.to l x).ext w).ext C) j.rd V V
def IS(hS:∀j∈b,j<m.size)(y:c∈b)(j:GC c g P d p f e m)(hP:P+200+2*Cg 18<=10^16){I:Nat}{q:da}(X:e[I]? =some q)(h1:1<=q.params.length):
 aP cv 120 [vp c 0,.agg #[O.v d,O.v p],vi I] m (XP b c g m (P+200+2*Cg 18) (WX f (pf e) q.params.length)):=by
 apply By (c,0)
 simp -zeta only[aG,aF]
 intro i C
 let⟨x2,hl⟩:=dk (a:=i) (c:=C) rfl rfl
 have s1:i.size=m.size+1:=by simp[i]
 have s2:C.size=m.size+2:=by simp[C,s1]
 have x:=j.rd.lt
 clear_value C
 have v:∀{h:E},C.size<=h.size->∀j∈i.size::b,j<h.size:=λl=>bR hS V V
 have r2:Rs c g m P C:=⟨x2.fz _,j.rd.ext x2⟩
 have s:∀{h:E},C.size<=h.size->Lw c [i.size,m.size] h:=λl=>lw x bS
 let⟨ps,aq,e0,e1⟩:=j.hp.aQ X
 have aV:=az X
 have aY:=j.hp.len
 have Y:=tJ _ (j.gp.df q (av X))
 have h3:q.params.length<=3:=Y.1
 have W:∀{h:E},Fz [c] m h->IR c h ps q.params:=λae=>aq.le (fh ae)
 have E1:∀{h:E},Fz [c] m h->af h p.aC (p.off+I*5+1)=some (vi q.aT):=λae=>(eA.1 (fh ae _ _ _ e1)).2
 refine⟨V,V,ps,(eA.1 (fh r2.f _ _ _ e0)).2,?_⟩
 refine vL (i.size::b) f (pf e) (a:=q.params.length) (s (ad _)) V λs3 m3 ap x3=>?_
 have z3:=x3.size
 refine Ie (i.size::b) f (pf e) q.params.length (s z3) (n:=1) bo λs4 m4 h4 x4=>?_
 have z4:=x4.size
 intro m5
 have x5:J m4 m5:=J.push _ _
 have aI:fm (bI (i.size::b) m5) (.mk m4.size 0 2 2) [.mk 12 0 [],.mk 0 1 []]:=nZ (S:=i.size::b) (M:=m4) [(.mk 12 0 [],s3),(.mk 0 1 [],s4)] aJ (v V) (by simp;exact⟨(ap.ext x4).sl,h4.sl⟩) rfl rfl
 have z5:=x5.size
 refine jf (M:=m5) aI (.dV (a:=q.params.length) (b:=f) (c:=pf e) bo (λl=>V) bo (by simp[Ar]) (by simp;exact⟨ap.wx,h4.wx⟩)) (s V) λs6 K h6 x6=>?_
 have z6:=x6.size
 have r6:=(((r2.ext x3).ext x4).ext x5).ext x6
 intro m7
 have x7:J K m7:=J.push _ _
 have g7:GE (i.size::b) K m7 (.mk K.size 0 1 1) [.mk 2 0 [.mk 12 0 [],.mk 0 1 []]]:=J6 (v V) 0 [(.mk 2 0 [.mk 12 0 [],.mk 0 1 []],s6)] aJ (by simpa using h6.sl) rfl rfl
 clear_value m7
 have aZ:=aq.len
 refine Qc (a:=q.params.length) V h1 (λZ F h=>∃z,GE (i.size::b) K h F z/\z.length=Z/\(∀w∈z,WX f (pf e) q.params.length w)/\Rd c g (P+22*Z) h/\Fz [c] K h) ⟨_,g7,rfl,by simpa using h6.wx,(r6.r.ext x7).mono V,x7.fz _⟩ ?_
 rintro Z F h aU μ aW hj ⟨z,r,aX,hw,rM,fM⟩ aM
 have U:=r6.f.trans fM
 have zM:=fM.size
 refine dit (λl=>?_) λl=>?_
 .let⟨A,o⟩:=cq q.params Z
  have u:=Y.2.1 A (av o)
  refine⟨V,V,A,(eA.1 ((W U).aQ o)).2,?_⟩
  exact XP.kj (qK (f:=F.aC::i.size::b) (bR (v (h:=h) V) (ad _) r.bn.2) (by simp[y]) (j.to U rM) V (W U) V (j.gp.ty u.1 u.2)) r fM (s V) r6.r (by simp[y]) V λw au N G g' L D _ _=>
   aM V _ _ ⟨_,g',bS,λB H=>by rcases List.mem_append.1 H with l|l;exact hw B l;simp at l;subst l;exact G.1,L.mono V,D⟩
 refine jf (r.done AH.mono (v (h:=K) V) bo V) (.dV (a:=q.params.length) (b:=f) (c:=pf e) bo (λl=>V) bo (Ju (by rw[MU X];congr 1;omega)) hw) (s V) λs8 o h8 x8=>?_
 intro m9 A
 let⟨aw,ac,a3⟩:=BX.new (f:=m9) (d:=A) h8 rfl rfl
 clear_value A
 have z8:=x8.size
 have D:Rs c g m (P+66) A:=⟨(U.then x8).then aw,((rM.ext x8).ext aw).mono V⟩
 have hk:o.size≠c:=V
 refine⟨λh=>∃F w,BX (i.size::b) f (pf e) q.params.length o.size h F w/\Rs c g m (P+66+Cg 18) h/\A.size<=h.size,⟨V,V,_,E1 D.f,λ_=>?_,λ_=>⟨s8,_,ac,⟨D.f,D.r.mono V⟩,ad _⟩⟩,?_⟩
 .have T:∀{h:E},A.size<=h.size->Lw c [o.size,i.size,m.size] h:=λl=>lw x bS
  have ah:∀{h:E},A.size<=h.size->∀j∈o.size::i.size::b,j<h.size:=λl=>bR (v (h:=A) V) l V
  refine EB (S:=o.size::i.size::b) (ah (ad _)) (by simp[y]) (j.to D.f D.r) V (W D.f) V (j.gp.ty (t:=0) bo bo) bo (T (ad _)) λH ai aa N ak u=>?_
  have r:=λR=>kg u x (k:=o.size) ⟨V,ac.b.lt⟩ R
  refine⟨r _,r _,r _,?_⟩
  have aB:=u.size
  intro B
  have G:J aa B:=J.push _ _
  have ag:=ac.fz (by simp[y]) hk u
  have Q:fm (bI (o.size::i.size::b) B) (.mk aa.size 0 2 2) [H,.mk 9 I z]:=nZ (S:=o.size::i.size::b) (M:=aa) [(H,ai),(.mk 9 I z,s8)] aJ (ah aB) (by simp;exact⟨N.sl,ag.h.sl⟩) rfl rfl
  have aT:=G.size
  refine jf (M:=B) Q (.Ow j.gp.ds aJ (by simp;exact⟨N.wx,h8.wx⟩)) (T V) λaj ab al L=>?_
  have am:=(((D.to u ak).ext G).ext L).put j.rd (k:=o.size) V 0 [.i 6,.i 1,.s aj]
  have hb:=((ag.ext G).ext L).set al
  exact⟨aj,.mk 6 1 [H,.mk 9 I z],hb,am,by rw[aD];have:=L.size;omega⟩
 rintro M3 ⟨F,w,u,au,a2⟩
 refine Ie (i.size::b) f (pf e) q.params.length (s V) (n:=0) bo λai aa N ax=>?_
 have aB:=ax.size
 refine vL (i.size::b) f (pf e) (a:=q.params.length) (s V) V λaN B am G=>?_
 have aT:=G.size
 intro ab
 have L:J B ab:=J.push _ _
 have Q:fm (bI (i.size::b) ab) (.mk B.size 0 2 2) [.mk 0 0 [],.mk 12 0 []]:=nZ (S:=i.size::b) (M:=B) [(.mk 0 0 [],ai),(.mk 12 0 [],aN)] aJ (v V) (by simp;exact⟨(N.ext G).sl,am.sl⟩) rfl rfl
 have a4:=L.size
 refine jf (M:=ab) Q (.dV (a:=q.params.length) (b:=f) (c:=pf e) bo (λl=>V) bo (by simp[Ar]) (by simp;exact⟨N.wx,am.wx⟩)) (s V) λaO aK an ay=>?_
 intro aL ar
 let⟨aR,ak,a6⟩:=BX.new (f:=aL) (d:=ar) an rfl rfl
 clear_value ar
 have a5:=ay.size
 have aj:=(((ax.trans G).trans L).trans ay).trans aR
 have T:=au.ext aj
 have u:=u.ext aj
 refine⟨_,u.b.cK 0,_,u.b.cK 1,_,u.b.cK 2,V,V,_,E1 T.f,?_⟩
 refine EB (S:=i.size::b) (v V) (by simp[y]) (j.to T.f T.r) V (W T.f) V (j.gp.ty Y.2.2.1 Y.2.2.2) bo (lw x bS) λal aQ ag ao aE H=>?_
 have r:=λR=>kg H x (k:=o.size) ⟨V,u.b.lt⟩ R
 have g':=λR=>kg H x (k:=aK.size) ⟨V,ak.b.lt⟩ R
 refine⟨?_,?_,?_,?_,?_,?_,?_⟩
 iterate 6 first|exact r _|exact g' _
 have a7:=H.size
 intro ah
 have aA:J ag ah:=J.push _ _
 have aC:=u.fz (by simp[y]) hk H
 have Q:fm (bI (i.size::b) ah) (.mk ag.size 0 3 3) [.mk 4 0 [.mk 0 0 [],.mk 12 0 []],w,al]:=nZ (S:=i.size::b) (M:=ag) [(.mk 4 0 [.mk 0 0 [],.mk 12 0 []],aO),(w,F),(al,aQ)] aJ (v V) (by simp;exact⟨(ak.h.gE.fz (by simp[y]) H).sl,aC.h.gE.sl,ao.sl⟩) rfl rfl
 refine jf (M:=ah) Q (.dV (a:=q.params.length) (b:=f) (c:=pf e) bo (λ_=>rfl) bo (by simp[Ar]) (by simp;exact⟨an.wx,u.h.wx,ao.wx⟩)) (lw x (by have:=aA.size;simp;omega)) λa1 a0 aH aS=>?_
 exact aH.hO (((T.to H aE).ext aA).ext aS) j.rd V V
end
end
section
section
variable{c:List Nat}{b P:Nat}{h d p:O}{f:List bq}{g:List da}{m:E}
def WX.m1{d:List Nat}{c:Nat}{x y z:Ex}(hd:f∈ov)(j:WX f d c x)(k:WX f d c y)(l:WX f d (c+2) z):WX f d c (.mk 8 1 [x,y,z]):=by
 obtain⟨e,-,g,h,-⟩:=Mx f hd;refine .mt j (by rw[e];rfl) aJ λi n m b a=>?_;rw[e]at a;rcases i with _|_|i
 .simp at b a;subst b a;rw[g];exact k
 .simp at b a;subst b a;rw[h];exact l
 .simp at b
def Jf(hS:∀r∈c,r<m.size)(H:b∈c)(r:GC b h P d p f g m)(hP:P+200+2*Cg 18<=10^16){F:Nat}{q:da}(hq:g[F]? =some q){ah:Int}(ha:0<=ah/\ah<(q.params.length:Int)):
 aP cv 118 [vp b 0,.agg #[O.v d,O.v p],vi F,vi ah] m (XP c b h m (P+200+2*Cg 18) (WX f (pf g) q.params.length)):=by
 apply BR (b,0)
 simp -zeta only[aG,aF]
 intro j Z
 let⟨x2,hl⟩:=dk (a:=j) (c:=Z) rfl rfl
 have s1:j.size=m.size+1:=by simp[j]
 have s2:Z.size=m.size+2:=by simp[Z,s1]
 have hr:=r.rd.lt
 clear_value Z
 have an:∀{i:E},Z.size<=i.size->∀r∈j.size::c,r<i.size:=λl=>bR hS V V
 have r2:Rs b h m P Z:=⟨x2.fz _,r.rd.ext x2⟩
 have L1:∀{i:E},Z.size<=i.size->Lw b [j.size,m.size] i:=λl=>lw hr bS
 let⟨ps,aX,e0,e1⟩:=r.hp.aQ hq
 have a_:=az hq
 have bd:=r.hp.len
 have aK:=tJ _ (r.gp.df q (av hq))
 have h3:q.params.length<=3:=aK.1
 have PS:∀{i:E},Fz [b] m i->IR b i ps q.params:=λK=>aX.le (fh K)
 have E1:∀{i:E},Fz [b] m i->af i p.aC (p.off+F*5+1)=some (vi q.aT):=λK=>(eA.1 (fh K _ _ _ e1)).2
 have be:=aX.len
 have aZ:=r.gp.ty (t:=0) bo bo
 have bc:=PQ 18
 refine⟨V,V,ps,(eA.1 (fh r2.f _ _ _ e0)).2,?_⟩
 intro m3
 have x3:J Z m3:=J.push _ _
 have aL:au (bI [b] m3) (.mk Z.size 0 2 2) [0,1]:=au.lit aA _ bS rfl rfl aJ
 clear_value m3
 have r3:=r2.ext x3
 have z3:=x3.size
 refine(eD (S:=[b]) bS (PS r3.f) aL bS).mono λ_ m4⟨aQ,wl,s,gw,qw,x4⟩=>⟨(L1 z3).de (x4.fz _),aQ,s,?_⟩
 subst qw
 have a5:IR b m4 aQ (q.params++[0,1]):=GI.done gw bS bS
 have r4:=r3.ext x4
 have z4:=x4.size
 intro m5
 have x5:J m4 m5:=J.push _ _
 have g5:GE (j.size::c) m4 m5 (.mk m4.size 0 0 0) []:=Gr.new _ (ad _) _ _ _
 clear_value m5
 refine dE (n:=q.params.length) V (λN w i=>∃I,GE (j.size::c) m4 i w I/\I.length=N/\(∀s∈I,WX f (pf g) (q.params.length+2) s)/\Rd b h (P+N) i/\Fz [b] m4 i) ⟨[],g5,rfl,aJ,(r4.r.ext x5).mono V,x5.fz _⟩ ?_
 rintro N w i a3 μ hj ⟨I,aI,bb,hw,rM,fM⟩ a7
 have FM:=r4.f.trans fM
 have zM:=fM.size
 refine dit (λl=>?_) λl=>?_
 .let⟨aT,L⟩:=cq q.params N
  have hO:∀{K:Nat}{T:List Value}{y:E}{R:Nat},aP cv K T y (XP (w.aC::j.size::c) b h y R (WX f (pf g) (q.params.length+2)))->R<=P+(N+1)->Rd b h (P+(N+1)) y->Fz [b] i y->aP cv K T y λab A=>eF [j.size,m.size] y A/\∃G C:Int,∃r2:O,ab=.agg #[vi G,vi C,O.v r2]/\
   jb (A.push (.cells (bE [.i G,.i C,.s r2]) bL)) bL [.i 0,.i 0,.s .nil] 40 w (O.mk A.size 0 1 1) λW z=>eF [j.size,m.size] (A.push (.cells (bE [.i G,.i C,.s r2]) bL)) z/\a3 W (cQ ((N:Int)+1)) z/\μ W (cQ ((N:Int)+1)) z<μ w N i:=λhc hQ C Y=>
   XP.kj hc (aI.fU AH.mono Y (by simp;exact⟨Or.inr H,V⟩)) (fM.trans Y) (L1 V) r4.r (by simp[H]) V λs W z u g' r' f' _ _=>
    a7 V _ _ ⟨_,g',bS,λo B=>by rcases List.mem_append.1 B with l|l;exact hw o l;simp at l;subst l;exact u,r'.mono hQ,f'⟩
  refine⟨λ_=>?_,λ_=>⟨V,V,aT,(eA.1 ((PS FM).aQ L)).2,λ_=>?_,λ_=>hO (((lM _ _ _).x rM).mono λ_ _ l=>l.mono (λs u=>u▸.Uh ⟨V,V⟩) (ad _)) V (rM.mono V) (Fz.aH _ _)⟩⟩
  .rw[aS (b:=(ps.len:Int)+1) V V]
   exact hO (((lM _ _ _).x rM).mono λ_ _ l=>l.mono (λs u=>u▸.Uh ⟨V,V⟩) (ad _)) V (rM.mono V) (Fz.aH _ _)
  .refine(bX rM V 2).mono λ_ m6⟨ae,en,_,_,D,B⟩=>⟨(L1 V).de B,ae,en,λ_=>?_,λ_=>hO (((lM _ _ _).x D).mono λ_ _ l=>l.mono (λs u=>u▸.Uh ⟨V,V⟩) (ad _)) V D B⟩
   have z6:=B.size
   have aa:∀{y:E},m6.size<=y.size->∀r∈w.aC::j.size::c,r<y.size:=λl=>bR (an (i:=m6) V) l (oh aI.bn.2)
   refine vL (w.aC::j.size::c) f (pf g) (a:=q.params.length+2) (L1 V) V λs7 m7 h7 Q=>?_
   have z7:=Q.size
   refine vL (w.aC::j.size::c) f (pf g) (a:=q.params.length+2) (L1 V) V λs8 o h8 x8=>?_
   have z8:=x8.size
   intro m9
   have x9:J o m9:=J.push _ _
   have X:fm (bI (w.aC::j.size::c) m9) (.mk o.size 0 2 2) [.mk 12 N [],.mk 12 ps.len []]:=nZ (S:=w.aC::j.size::c) (M:=o) [(.mk 12 N [],s7),(.mk 12 ps.len [],s8)] aJ (aa V) (by simp;exact⟨(h7.ext x8).sl,h8.sl⟩) rfl rfl
   have U:=((D.ext Q).ext x8).ext x9
   exact hO ((mz U X 1 0).mono λ_ _ l=>l.mono (λs u=>u▸.dV bo (λl=>V) bo (by simp[Ar]) (by simp;exact⟨h7.wx,h8.wx⟩)) (ad _)) V U (((B.then Q).then x8).then x9)
 refine jf (aI.done AH.mono (an (i:=m4) V) bo V) (.dV (a:=q.params.length+2) (b:=f) (c:=pf g) bo (λl=>V) bo (Ju (by rw[MU hq];congr 1;omega)) hw) (L1 V) λs6 m6 h6 x6=>?_
 have z6:=x6.size
 intro m7 o
 let⟨x8,B8,z8⟩:=iL (M:=m6) (d:=m7) (c:=o) rfl rfl rfl
 clear_value o
 intro m9 C
 let⟨aR,aq,bf⟩:=BX.new (f:=m9) (d:=C) (h6.ext x8) rfl rfl
 clear_value C
 have aa:Rs b h m (P+3) C:=⟨((FM.then x6).then x8).then aR,(((rM.ext x6).ext x8).ext aR).mono V⟩
 have hk:o.size≠b:=V
 have L2:∀{i:E},C.size<=i.size->Lw b [o.size,m6.size,j.size,m.size] i:=λl=>lw hr bS
 have ao:∀{i:E},C.size<=i.size->∀r∈o.size::j.size::c,r<i.size:=λl=>bR (an (i:=C) V) l V
 have aU:∀{i:E},Fz [b] m4 i->IR b i aQ (q.params++[0,1]):=λK=>a5.le (fh K)
 have aW:Fz [b] m4 C:=((fM.then x6).then x8).then aR
 have wl:(q.params++[0,1]).length=q.params.length+2:=aJ
 refine⟨λi=>∃w s,BX (j.size::c) f (pf g) (q.params.length+2) o.size i w s/\Rs b h m (P+10+Cg 18) i/\C.size<=i.size,⟨V,V,_,E1 aa.f,λaY=>?_,λ_=>⟨V,V,_,E1 aa.f,λ_=>?_,λ_=>⟨s6,_,aq,⟨aa.f,aa.r.mono V⟩,ad _⟩⟩⟩,?_⟩
 .simp only[aO]at aY
  refine(bX aa.r V 5).mono λ_ ac⟨ae,en,_,_,aH,z⟩=>⟨(L2 (ad _)).de z,ae,en,λ_=>?_,λ_=>⟨V,V,_,E1 (aa.f.trans z),λl=>by rw[aY]at l;exact absurd l bo,λ_=>⟨s6,_,aq.fz (by simp[H]) hk z,⟨(aa.to z aH).f,aH.mono V⟩,z.size⟩⟩⟩
  have Q:=aa.to z aH
  have T:=z.size
  have aV:=aq.fz (by simp[H]) hk z
  refine EB (v:=q.params++[0,1]) (S:=o.size::j.size::c) (ao T) (by simp[H]) (r.to Q.f Q.r) V (aU (aW.trans z)) bS aZ bo (L2 T) λal ax A am ak u=>?_
  rw[wl]at am
  intro Y U
  let⟨ab,aE,a9⟩:=BX.new (f:=Y) (d:=U) am rfl rfl
  clear_value U
  have a1:=u.size
  have aw:=(Q.to u ak).ext ab
  have ai:=(aV.fz (by simp[H]) hk u).ext ab
  have ba:A.size≠b:=V
  have aC:HX (A.size::o.size::j.size::c) f (pf g) (q.params.length+2) U s6 (.mk 9 F I):=(aV.h.fz (by simp[H]) u).fX ab (ad _)
  have L3:∀{i:E},U.size<=i.size->Lw b [A.size,o.size,m6.size,j.size,m.size] i:=λl=>lw hr bS
  refine⟨λi=>∃w s,BX (o.size::j.size::c) f (pf g) (q.params.length+2) A.size i w s/\HX (o.size::j.size::c) f (pf g) (q.params.length+2) i s6 (.mk 9 F I)/\Rs b h m (P+4+Cg 18) i/\U.size<=i.size/\cB i o.size bL [.i 9,.i F,.s s6],⟨λ_=>?_,λ_=>⟨ax,al,aE,aC.gE,aw,ad _,ai.b⟩⟩,?_⟩
  .let⟨aT,L⟩:=cq q.params 0
   refine⟨bo,V,aT,(eA.1 ((PS aw.f).aQ L)).2,λ_=>?_,λ_=>⟨ax,al,aE,aC.gE,aw,ad _,ai.b⟩⟩
   refine vL (A.size::o.size::j.size::c) f (pf g) (a:=q.params.length+2) (L3 (ad _)) V λay ap ar R=>?_
   have a2:=R.size
   refine vL (A.size::o.size::j.size::c) f (pf g) (a:=q.params.length+2) (L3 a2) V λaB G ag B=>?_
   have bg:=B.size
   intro aM
   have a0:J G aM:=J.push _ _
   have X:fm (bI (A.size::o.size::j.size::c) aM) (.mk G.size 0 2 2) [.mk 12 0 [],.mk 12 ps.len []]:=nZ (S:=A.size::o.size::j.size::c) (M:=G) [(.mk 12 0 [],ay),(.mk 12 ps.len [],aB)] aJ (bR (ao (i:=G) V) (ad _) V) (by simp;exact⟨(ar.ext B).sl,ag.sl⟩) rfl rfl
   have bi:=a0.size
   refine jf (M:=aM) X (.dV (a:=q.params.length+2) (b:=f) (c:=pf g) bo (λl=>V) bo (by simp[Ar]) (by simp;exact⟨ar.wx,ag.wx⟩)) (L3 V) λaN a6 a4 a8=>?_
   have D:=((R.trans B).trans a0).trans a8
   have hb:=(aE.ext D).set a4
   have ha:=(aC.ext D).put (k:=A.size) aJ 0 [.i 11,.i 0,.s aN]
   have hB:cB (aj a6 A.size 0 [.i 11,.i 0,.s aN]) o.size bL [.i 9,.i F,.s s6]:=(ai.b.ext D).congr (bh _ _ _ _ V)
   exact⟨aN,.mk 11 0 [.mk 12 0 [],.mk 12 ps.len []],hb,ha.gE,(aw.ext D).put r.rd V _ _,by rw[aD];have:=D.size;omega,hB⟩
  rintro M3 ⟨w,s,L,D,W,aN,aT⟩
  refine⟨_,L.b.cK 0,_,L.b.cK 1,_,L.b.cK 2,?_⟩
  intro ap
  have R:J M3 ap:=J.push _ _
  have X:fm (bI (o.size::j.size::c) ap) (.mk M3.size 0 2 2) [s,.mk 9 F I]:=nZ (S:=o.size::j.size::c) (M:=M3) [(s,w),(.mk 9 F I,s6)] aJ (ao V) (by simp;exact⟨L.h.gE.sl,D.sl⟩) rfl rfl
  have a2:=R.size
  refine jf (M:=ap) X (.Ow r.gp.ds aJ (by simp;exact⟨L.h.wx,D.wx⟩)) (L2 V) λaB G ag B=>?_
  have hb:=(BX.mk (e:=.mk 9 F I) ((aT.ext R).ext B) ((D.ext R).ext B)).set ag
  have aM:=((W.ext R).ext B).put r.rd (k:=o.size) V 0 [.i 6,.i 1,.s aB]
  exact⟨aB,.mk 6 1 [s,.mk 9 F I],hb,⟨aM.f,aM.r.mono V⟩,by rw[aD];have:=B.size;omega⟩
 .intro ac
  have D:J C ac:=J.push _ _
  have aL:au (bI [b] ac) (.mk C.size 0 2 2) [1,2]:=au.lit aA _ bS rfl rfl aJ
  clear_value ac
  have T:=D.size
  have G:∀{y M2:E}{B:Nat},C.size<=y.size->Fz [b] y M2->m.size<=B->B<C.size->∀z,af M2 B z=af y B z:=λl K h1 h2 z=>kg K hr ⟨h1,V⟩ z
  refine⟨G (ad _) (D.fz _) V V _,G (ad _) (D.fz _) V V _,G (ad _) (D.fz _) V V _,G (ad _) (D.fz _) V V _,G (ad _) (D.fz _) V V _,?_⟩
  have Q:=aa.ext D
  refine(jR Q.r V aL aJ).mono λ_ A⟨ae,en,hn,ak,u⟩=>⟨(L2 T).de u,ae,en,G T u V V _,G T u V V _,G T u V V _,G T u V V _,G T u V V _,?_⟩
  have aE:=Q.to u ak
  have a1:=u.size
  refine EB (v:=q.params++[0,1]) (S:=o.size::j.size::c) (ao V) (by simp[H]) (r.to aE.f aE.r) V (aU ((aW.then D).trans u)) bS aZ bo (L2 V) λaB aT Y aC aM ag=>?_
  rw[wl]at aC
  have aV:=ag.size
  refine⟨G V ag V V _,G V ag V V _,G V ag V V _,?_⟩
  intro U
  have ab:J Y U:=J.push _ _
  have aw:=((aq.ext D).fz (by simp[H]) hk u).fz (by simp[H]) hk ag
  have X:fm (bI (o.size::j.size::c) U) (.mk Y.size 0 2 2) [aB,.mk 9 F I]:=nZ (S:=o.size::j.size::c) (M:=Y) [(aB,aT),(.mk 9 F I,s6)] aJ (ao V) (by simp;exact⟨aC.sl,aw.h.sl⟩) rfl rfl
  have a9:=ab.size
  simp at hn
  refine jf (M:=U) X (.dV (a:=q.params.length+2) (b:=f) (c:=pf g) V (λl=>V) V (by rcases hn with s|s<;>subst s<;>simp[Ar]) (by simp;exact⟨aC.wx,aw.h.wx⟩)) (L2 V) λay ap ar R=>?_
  have hb:=((aw.ext ab).ext R).set ar
  have aH:=(((aE.to ag aM).ext ab).ext R).put r.rd (k:=o.size) V 0 [.i ae,.i 0,.s ay]
  exact⟨ay,.mk ae 0 [aB,.mk 9 F I],hb,⟨aH.f,aH.r.mono V⟩,by rw[aD];have:=R.size;omega⟩
 rintro M3 ⟨w,s,L,W,aN⟩
 have L3:∀{i:E},C.size<=i.size->Lw b [m6.size,j.size,m.size] i:=λl=>lw hr bS
 have R:∀{y M2:E}{B:Nat},M3.size<=y.size->Fz [b] y M2->m.size<=B->B<C.size->∀z,af M2 B z=af y B z:=λl K h1 h2 z=>kg K hr ⟨h1,V⟩ z
 refine⟨V,V,_,E1 W.f,_,L.b.cK 0,_,L.b.cK 1,_,L.b.cK 2,?_⟩
 refine vL (j.size::c) f (pf g) (a:=q.params.length) (L3 aN) ha λar ac ae D=>?_
 have T:=D.size
 have gx:∀B z,m.size<=B->B<C.size->af ac B z=af M3 B z:=λB z h1 h2=>R (ad _) (D.fz _) h1 h2 z
 refine⟨gx _ _ V V,gx _ _ V V,gx _ _ V V,(E1 (W.f.then D)).trans (E1 W.f).symm,gx _ _ V V,gx _ _ V V,gx _ _ V V,?_⟩
 have Q:=W.ext D
 refine EB (S:=j.size::c) (an V) (by simp[H]) (r.to Q.f Q.r) V (PS Q.f) V (r.gp.ty aK.2.2.1 aK.2.2.2) bo (L3 V) λal ax A am ak u=>?_
 have G:∀z,af A o.size z=af ac o.size z:=R T u V V
 refine⟨G _,G _,G _,?_⟩
 have a1:=u.size
 intro Y
 have ag:J A Y:=J.push _ _
 have ai:=(L.ext D).fz (by simp[H]) hk u
 have X:fm (bI (j.size::c) Y) (.mk A.size 0 3 3) [.mk 12 ah [],al,s]:=nZ (S:=j.size::c) (M:=A) [(.mk 12 ah [],ar),(al,ax),(s,w)] aJ (an V) (by simp;exact⟨(ae.fz (by simp[H]) u).sl,am.sl,ai.h.gE.sl⟩) rfl rfl
 refine jf (M:=Y) X (.m1 r.gp.ds ae.wx am.wx L.h.wx) (L3 (oh ag.size)) λaw U ap ab=>?_
 exact ap.hO (((Q.to u ak).ext ag).ext ab) r.rd V V
end
end
section
variable{g:E}{s:O}{l:List Int}{c f:Ex}
abbrev G3(M a:E)(k:Nat)(X:Prop):Prop:=af a k 0=af M k 0/\af a k 1=af M k 1/\af a k 2=af M k 2/\X
abbrev E3(v:Value)(X:Int->Int->O->Prop):Prop:=∃a b:Int,∃c:O,v=.agg #[vi a,vi b,O.v c]/\X a b c
abbrev N1(L:List Nat)(e:Nat)(M:E)(K:Int->Int->O->E->Prop):Prop:=aP cv 161 [vi 1,vi 0,O.v (.mk e 0 2 2)] M λv a=>eF L M a/\E3 v λb c d=>K b c d a
section
variable(L:List Nat)(k:Nat)(b:Int)(h i d p w l:O)(j a e:Nat)(F:Int->Int->O->E->Prop)
abbrev TR5(g:Nat)(M:E):Prop:=N1 L g M λd e f c=>G3 M c a (N1 L c.size (c.push (.cells (bE [.i 9,.i b,.s h,.i d,.i e,.s f]) bL)) F)
abbrev TR4(c d:Int)(e:O)(M:E):Prop:=G3 M (M.push (.cells (bE [.i c,.i d,.s e,.i 9,.i b,.s i]) bL)) a (TR5 L b h a F M.size (M.push (.cells (bE [.i c,.i d,.s e,.i 9,.i b,.s i]) bL)))
abbrev TR3(M:E):Prop:=aP cv 160 [vp k 0,.agg #[O.v d,O.v p],O.v w,vi 0,vi 4] M λv c=>eF L M c/\E3 v λe f g=>G3 M c j (G3 M c a (TR4 L b h i a F e f g c))
abbrev TR2(f:Nat)(M:E):Prop:=aP cv 106 [O.v l,O.v (.mk f 0 3 3)] M λv c=>eF L M c/\∃s:O,v=O.v s/\G3 M c j (af c e 0=af M e 0/\af c e 1=af M e 1/\G3 M c a (TR3 L k b h i d p s j a F c))
end
def _root_.Go.Vc.U1{σ τ:Type}{n:Nat}(q:n<=9223372036854775807)(e:1<=n){m:E}{h:σ}{j:τ}{g:(σ->τ->Int->E->Prop)->(σ->τ->Int->E->Nat)->σ->τ->Int->E->Prop}(Q:Nat->σ->τ->E->Prop)(o:Q 1 h j m)
 (l:∀(k:Nat)(s:σ)(t:τ)(a:E)(I:σ->τ->Int->E->Prop)(μ:σ->τ->Int->E->Nat),1<=k->k<=n->Q k s t a->
  (k<n->∀c d b,Q (k+1) c d b->I c d (cQ ((k:Int)+1)) b/\μ c d (cQ ((k:Int)+1)) b<μ s t k a)->g I μ s t k a):
 ∃(I:σ->τ->Int->E->Prop)(μ:σ->τ->Int->E->Nat),I h j 1 m/\∀s t i a,I s t i a->g I μ s t i a:=by
 refine⟨λs t i b=>∃k:Nat,i=k/\1<=k/\k<=n/\Q k s t b,λ_ _ i _=>(n -i).toNat,⟨1,rfl,ad _,e,o⟩,?_⟩
 rintro s t i a ⟨k,rfl,e,p,r⟩
 refine l k s t a _ _ e p r λf c d b u=>?_
 rw[kd f q]
 exact⟨⟨k+1,rfl,V,f,u⟩,Cv f⟩
def OH(_:E)(a:List Ce)(n:Int):Prop:=∃s:O,a=[.i 12,.i n,.s s]/\s.len=0
def OH.mono:nG 3 OH:=⟨λ_ h=>h,λ⟨_,h,_⟩=>by rw[h];rfl⟩
abbrev GV(g m:E)(s:O)(l:List Int):Prop:=Gr [] g m bL 3 OH s l
def GV.fU{m a:E}(h:GV g m s l)(q:a[s.aC]? =m[s.aC]?):GV g a s l:=by
 let⟨c,b,d,e⟩:=h;exact⟨c,b,d.congr q,e.mono λ_ _ h=>h⟩
def GV.ex{a:List Nat}{m:E}(h:GV g m s l)(j:s.aC∉a)(t:l.length<=1000):fm (bI a m) s (l.map λn=>.mk 12 n []):=by
 let⟨e,d,f,i⟩:=h;have H:=Gr.mZ (S:=a) OH.mono ⟨e,d,f,i.mono λ_ _ h=>h⟩ j bo V;refine⟨by rw[H.len];simp,H.cap,H.fA,λq c b=>?_⟩;simp only[bT,jq]at b;obtain⟨n,k,rfl⟩:=b;obtain⟨r,⟨u,rfl,p⟩,o⟩:=H.jD q n k;exact⟨_,AH.of ⟨p,V,V,aJ⟩,o⟩
structure AS(S:List Nat)(ds:List bq)(nf:List Nat)(a n0 k Q rb:Nat)(bs:O)(m M:E)(sl:O)(el:Ex)(sr:O)(er:Ex):Prop where
 b:cB M k bL [.i 0,.i 0,.s .nil]
 hk:n0<=k
 l:HX (k::S) ds nf a M sl el
 r:HX (k::S) ds nf a M sr er
 s:Rs rb bs m Q M
section
variable{S:List Nat}{e:List bq}{h:List Nat}{a n k Q r b:Nat}{d o p:O}{m M q:E}{i j:Ex}
def AS.ext(f:AS S e h a n k Q b d m M o i p j)(c:J M q):AS S e h a n k Q b d m q o i p j:=⟨f.b.ext c,f.hk,f.l.ext c,f.r.ext c,f.s.ext c⟩
def AS.fz(c:AS S e h a n k Q b d m M o i p j)(g:b∈S)(l:k≠b)(f:Fz [b] M q)(s:Rd b d r q):AS S e h a n k r b d m q o i p j:=⟨c.b.congr (f.same k c.b.lt (by simpa using l)),c.hk,c.l.fz (by simp[g]) f,c.r.fz (by simp[g]) f,c.s.to f s⟩
def AS.new(f:n<=M.size)(l:HX S e h a M o i)(r:HX S e h a M p j)(s:Rs b d m Q M):J M (M.push (.cells (bE [.i 0,.i 0,.s .nil]) bL))/\AS S e h a n M.size Q b d m (M.push (.cells (bE [.i 0,.i 0,.s .nil]) bL)) o i p j:=
 have c:=J.push M (.cells (bE [.i 0,.i 0,.s .nil]) bL)
 ⟨c,cB.push _ _ _,f,l.fX c (ad _),r.fX c (ad _),s.ext c⟩
end
section
variable{h:List Nat}{b P:Nat}{o d p:O}{i:List bq}{j:List da}{m:E}
def WX.m3{e:List Nat}{d:Nat}{z:Ex}(hd:i∈ov)(l:WX i e d c)(m:WX i e d f)(n:WX i e (d+3) z):WX i e d (.mk 8 3 [c,f,z]):=by
 obtain⟨-,g,-,-,j,k⟩:=Mx i hd;refine .mt l (by rw[g];rfl) aJ λh p o b a=>?_;rw[g]at a;rcases h with _|_|h
 .simp at b a;subst b a;rw[j];exact m
 .simp at b a;subst b a;rw[k];exact n
 .simp at b
def WX.add{b:List Nat}{a:Nat}(d:WX i b a c)(e:WX i b a f):WX i b a (.mk 1 0 [c,f]):=.dV bo (λh=>V) bo (by simp[Ar]) (by simp;exact⟨d,e⟩)
def Jg(hS:∀F∈h,F<m.size)(aT:b∈h)(F:GC b o P d p i j m)(hP:P+200+3*Cg 18<=10^16){C:Nat}{w:da}(hq:j[C]? =some w)(bG:1<=w.params.length):
 aP cv 119 [vp b 0,.agg #[O.v d,O.v p],vi C] m (XP h b o m (P+200+3*Cg 18) (WX i (pf j) w.params.length)):=by
 apply BT (b,0)
 simp -zeta only[aG,aF]
 intro A aq
 let⟨x2,hl⟩:=dk (a:=A) (c:=aq) rfl rfl
 have s1:A.size=m.size+1:=by simp[A]
 have s2:aq.size=m.size+2:=by simp[aq,s1]
 have hr:=F.rd.lt
 clear_value aq
 have aw:∀{g:E},aq.size<=g.size->∀F∈A.size::h,F<g.size:=λz=>bR hS V V
 have r2:Rs b o m P aq:=⟨x2.fz _,F.rd.ext x2⟩
 have L1:∀{g:E},aq.size<=g.size->Lw b [A.size,m.size] g:=λz=>lw hr bS
 let⟨ps,bj,e0,e1⟩:=F.hp.aQ hq
 have b0:=az hq
 have b3:=F.hp.len
 have bb:=tJ _ (F.gp.df w (av hq))
 have h3:w.params.length<=3:=bb.1
 have PS:∀{g:E},Fz [b] m g->IR b g ps w.params:=λD=>bj.le (fh D)
 have E1:∀{g:E},Fz [b] m g->af g p.aC (p.off+C*5+1)=some (vi w.aT):=λD=>(eA.1 (fh D _ _ _ e1)).2
 have b4:=bj.len
 have br:=F.gp.ty (t:=0) bo bo
 have ay:b∈A.size::h:=by simp[aT]
 refine⟨V,V,ps,(eA.1 (fh r2.f _ _ _ e0)).2,?_⟩
 refine vL (A.size::h) i (pf j) (a:=w.params.length+3) (L1 (ad _)) V λs3 Z bA x3=>?_
 have z3:=x3.size
 intro m4
 have x4:J Z m4:=J.push _ _
 have g4:GV Z m4 (.mk Z.size 0 1 1) [(ps.len:Int)]:=Gr.lit (f:=[[.i 12,.i ps.len,.s s3]]) OH.mono (ad _) aJ rfl rfl ⟨rfl,aJ,λao F B hj q=>by
  have:ao=0:=by have:=az hj;simp at this;omega
  subst this;simp at hj q;subst hj q;exact⟨s3,rfl,bA.sl.len⟩⟩
 have s4:m4.size=Z.size+1:=by simp[m4]
 clear_value m4
 rw[aS (b:=(ps.len:Int)+2) V V]
 refine vL (A.size::h) i (pf j) (a:=w.params.length+3) (L1 V) V λs5 m5 h5 x5=>?_
 have z5:=x5.size
 intro m6
 have x6:J m5 m6:=J.push _ _
 have g6:GV m5 m6 (.mk m5.size 0 1 1) [(ps.len:Int)+2]:=Gr.lit (f:=[[.i 12,.i (ps.len+2),.s s5]]) OH.mono (ad _) aJ rfl rfl ⟨rfl,aJ,λao F B hj q=>by
  have:ao=0:=by have:=az hj;simp at this;omega
  subst this;simp at hj q;subst hj q;exact⟨s5,rfl,h5.sl.len⟩⟩
 clear_value m6
 have r3:=r2.ext x3
 have vq:∀{g u:E}{L:Int}{s:O}{l:List Int}{aW:O->E->Prop}{aR:O},GV Z g s l->J Z g->l.length<=10->aR.len=0->(∀R u,GV Z u R (l++[L])->J Z u->g.size<=u.size->(R.aC=s.aC\/g.size<=R.aC)->(∀H,H<g.size->H≠s.aC->u[H]? =g[H]?)->aW R u)->
  jb (g.push (.cells (bE [.i 12,.i L,.s aR]) bL)) bL [.i 0,.i 0,.s .nil] 40 s (.mk g.size 0 1 1) aW:=λaN c hl ht hk=>
  Gr.kj (g:=[.i 0,.i 0,.s .nil]) (X:=[]) OH.mono bo aN (c.fz []) ⟨_,rfl,ht⟩ V λR u g' f' aI w=>hk R u g' f'.ext aI.1 aI.2 w
 refine U1 (n:=w.params.length) V bG (λao s aR g=>∃l l',GV Z g s l/\GV Z g aR l'/\l.length=ao/\l'.length=ao/\(∀L∈l,0<=L/\L<((w.params.length+3:Nat):Int))/\(∀L∈l',0<=L/\L<((w.params.length+3:Nat):Int))/\J Z g/\s.aC≠aR.aC) ⟨_,_,(g4.fU ((x5.trans x6).same _ (by show Z.size<_;omega))),Gr.cL OH.mono g6 (λ_ z=>Or.inl z) V,rfl,rfl,bS,bS,(x4.trans x5).trans x6,by show Z.size≠m5.size;omega⟩ ?_
 rintro ao s aR g bY μ b1 hj ⟨l,l',aN,g',bC,bD,hw,bm,xM,bF⟩ bK
 have zM:=xM.size
 have RM:=r3.ext xM
 refine dit (λz=>?_) λz=>?_
 .refine vL (A.size::h) i (pf j) (a:=w.params.length+3) (L1 V) V λs7 W h7 x7=>?_
  have gy:=aN.bn;have aY:=g'.bn
  have z7:=x7.size
  intro m8
  refine vq (u:=W) (aN.fU (x7.same _ gy.2)) (xM.trans x7) V h7.sl.len λr9 m9 r x9 z9 Y T=>?_
  refine⟨(L1 (g:=Z) z3).Df ((((xM.trans x7).trans (J.push W _)).fz [b])) (x9.fz _),?_⟩
  refine vL (A.size::h) i (pf j) (a:=w.params.length+3) (L1 V) V λaa ag a7 ah=>?_
  intro bn
  have N:=((g'.fU (x7.same _ aY.2)).fU (T _ V (kE bF))).fU (ah.same _ V)
  have bT:=ah.size
  refine vq (u:=W) N (x9.trans ah) V a7.sl.len λbc K I aE bU U Q=>?_
  refine⟨(L1 (g:=Z) z3).Df (((x9.trans ah).trans (J.push ag _)).fz [b]) (aE.fz _),bK V _ _ _ ⟨_,_,(r.fU (ah.same _ r.bn.2)).fU (Q _ (oh r.bn.2) V),I,bS,bS,λL q=>?_,λL q=>?_,aE,oh r.bn.2⟩⟩
  .rcases List.mem_append.1 q with z|z
   .exact hw L z
   .simp at z;omega
  .rcases List.mem_append.1 q with z|z
   .exact bm L z
   .simp at z;omega
 have gy:=aN.bn;have aY:=g'.bn
 have nS:∀H,Z.size<=H->H∉A.size::h:=λH hb z=>by have:=aw (g:=aq) (ad _) H z;omega
 have bd:∀l:List Int,l.length=ao->(∀L∈l,0<=L/\L<((w.params.length+3:Nat):Int))->WX i (pf j) (w.params.length+3) (.mk 9 C (l.map λL=>.mk 12 L [])):=λl b2 hl=>.dV bo (λz=>V) bo (Ju (by rw[MU hq,dP];congr 1;omega)) (by simp;exactλL q=>.Uh (hl L q))
 refine jf (aN.ex (nS _ gy.1) V) (bd l bC hw) (L1 V) λsl W h7 x7=>?_
 intro m8 m9
 obtain⟨x9,-,z9⟩:=iL (M:=W) (d:=m8) (c:=m9) rfl rfl rfl
 clear_value m9
 have z7:=x7.size
 refine jf ((g'.fU ((x7.trans x9).same _ aY.2)).ex (nS _ aY.1) V) (bd l' bD bm) (lw hr bS) λsr ag a7 ah=>?_
 intro bn K
 obtain⟨aE,-,bU⟩:=iL (M:=ag) (d:=bn) (c:=K) rfl rfl rfl
 clear_value K
 have bT:=ah.size
 have a8:=((h7.ext x9).ext ah).ext aE
 have a_:=a7.ext aE
 generalize bf:Ex.mk 9 C (l.map λL=>.mk 12 L [])=el at a8
 generalize bg:Ex.mk 9 C (l'.map λL=>.mk 12 L [])=er at a_
 have bc:=(((RM.ext x7).ext x9).ext ah).ext aE
 have bZ:=((x7.trans x9).trans ah).trans aE
 have bi:∀{r:Nat},K.size<=r->r≠b:=λz=>V
 have G:∀{g u:E}{r aQ:Nat},K.size<=g.size->Fz [b] g u->m.size<=r->r<K.size->af u r aQ=af g r aQ:=λz D h1 h2=>kg D hr ⟨h1,V⟩ _
 have L4:∀{g:E},K.size<=g.size->Lw b [ag.size,W.size,A.size,m.size] g:=λz=>lw hr bS
 have L5:∀{g:E}{r:Nat},K.size<=r->r<g.size->Lw b [r,ag.size,W.size,A.size,m.size] g:=λz h'=>lw hr bS
 have a0:∀{g:E}{r:Nat},K.size<=r->r<g.size->∀F∈r::A.size::h,F<g.size:=λz h'=>bR (aw (g:=K) V) V h'
 have a4:=λ(c f:Ex)=>WX.add (i:=i) (b:=pf j) (a:=w.params.length+3) (c:=c) (f:=f)
 let aW:=λ(r:Nat)(g:E)=>∃s B,BX (A.size::h) i (pf j) (w.params.length+3) r g s B/\HX (r::A.size::h) i (pf j) (w.params.length+3) g sl el/\Rs b o m (P+Cg 18) g
 have bw:∃k9,el=.mk 9 C k9:=⟨_,bf.symm⟩
 have bx:∃k9,er=.mk 9 C k9:=⟨_,bg.symm⟩
 clear bf bg
 obtain⟨kl,rfl⟩:=bw
 obtain⟨kr,rfl⟩:=bx
 let ar:=λ(r aX:Nat)(g:E)=>AS (A.size::h) i (pf j) (w.params.length+3) K.size r (P+aX) b o m g sl (.mk 9 C kl) sr (.mk 9 C kr)
 let aM:=λr=>[r,ag.size,W.size,A.size,m.size]
 let K0:=λ(jZ:Nat×Nat)(g:E)=>jZ.2=0/\K.size<=jZ.1/\aW jZ.1 g
 let aL:=λ(r:Nat)(q H:Int)(F:O)(u:E)=>K0 (r,0) (aj u r 0 [.i q,.i H,.s F])
 have H3:∀{g u:E}{Q:Prop},K.size<=g.size->Fz [b] g u->Q->G3 g u W.size Q:=λI D c=>⟨G I D V V,G I D V V,G I D V V,c⟩
 have H6:∀{g u:E}{Q:Prop},K.size<=g.size->Fz [b] g u->Q->G3 g u ag.size (G3 g u W.size Q):=λI D c=>⟨G I D V V,G I D V V,G I D V V,H3 I D c⟩
 have H5:∀{g u:E}{Q:Prop},K.size<=g.size->Fz [b] g u->Q->af u m.size 0=af g m.size 0/\af u m.size 1=af g m.size 1/\G3 g u W.size Q:=λI D c=>⟨G I D V V,G I D V V,H3 I D c⟩
 have H8:∀{g u:E}{Q:Prop},K.size<=g.size->Fz [b] g u->Q->G3 g u ag.size (af u m.size 0=af g m.size 0/\af u m.size 1=af g m.size 1/\G3 g u W.size Q):=λI D c=>⟨G I D V V,G I D V V,G I D V V,H5 I D c⟩
 have R7:∀{r t0:Nat}{g:E}{B:Ex},ar r (Cg 18) g->fm (bI (r::A.size::h) g) (.mk t0 0 2 2) [.mk 9 C kl,B]->WX i (pf j) (w.params.length+3) B->N1 (aM r) t0 g (aL r):=λq hs hw=>
  jf hs (a4 _ _ q.l.wx hw) (L5 q.hk q.b.lt) λs' u h' c=>by
   have hb:=(BX.mk (e:=.mk 0 0 []) (s:=.nil) (q.b.ext c) ⟨⟨rfl,ad _,aJ,aJ⟩,.int (n:=0) bo⟩).set h';exact⟨rfl,q.hk,s',_,hb,(q.l.ext c).put aJ _ _,(q.s.ext c).put F.rd (oh q.hk) _ _⟩
 have R6:∀{r:Nat}{g:E}{s:O}{q H:Int}{kk:List Ex},ar r (Cg 18) g->HX (r::A.size::h) i (pf j) (w.params.length+3) g s (.mk q H kk)->N1 (aM r) g.size (g.push (.cells (bE [.i 9,.i C,.s sl,.i q,.i H,.s s]) bL)) (aL r):=λq z=>
  R7 (q.ext (J.push _ _)) (nZ [(.mk 9 C kl,sl),(.mk _ _ _,_)] aJ (a0 q.hk q.b.lt) (by simp;exact⟨q.l.sl,z.sl⟩) rfl rfl) z.wx
 have R5:∀{r t0:Nat}{g:E}{B:Ex},ar r (Cg 18) g->fm (bI (r::A.size::h) g) (.mk t0 0 2 2) [B,.mk 9 C kr]->WX i (pf j) (w.params.length+3) B->TR5 (aM r) C sl W.size (aL r) t0 g:=λq hs hw=>
  jf hs (a4 _ _ hw q.r.wx) (L5 q.hk q.b.lt) λs' u h' c=>
   have I:=PM (mT q.hk q.b.lt)
   H3 I (c.fz _) (R6 (q.ext c) h')
 have R4:∀{r:Nat}{g:E}{s:O}{B:Ex},ar r (Cg 18) g->HX (r::A.size::h) i (pf j) (w.params.length+3) g s B->TR4 (aM r) C sl sr W.size (aL r) B.op B.bM s g:=λ{r g s B} q z=>
  have c:=J.push g (.cells (bE [.i B.op,.i B.bM,.s s,.i 9,.i C,.s sr]) bL)
  have I:=PM (mT q.hk q.b.lt)
  H3 I (c.fz _) (R5 (q.ext c) (nZ [(B,s),(.mk 9 C kr,sr)] aJ (a0 q.hk q.b.lt) (by simp;exact⟨z.sl,q.r.sl⟩) rfl rfl) z.wx)
 have be:∀{a5 L':List Nat}{g:E}{ab:O}{K':Int->Int->O->E->Prop},(∀F∈a5,F<g.size)->b∈a5->Rs b o m P g->IR b g ab (w.params++[3,0,3])->Lw b L' g->(∀B s u,HX a5 i (pf j) (w.params.length+3) u s B->Rd b o (P+Cg 18) u->Fz [b] g u->K' B.op B.bM s u)->aP cv 160 [vp b 0,.agg #[O.v d,O.v p],O.v ab,vi 0,vi 4] g λbO u=>eF L' g u/\∃r0 r1:Int,∃r2:O,bO=.agg #[vi r0,vi r1,O.v r2]/\K' r0 r1 r2 u:=λbB bH R hw hL hk=>
  EB (v:=w.params++[3,0,3]) bB bH (F.to R.f R.r) V hw bS br bo hL λB s u z d D=>hk B s u (by simpa using z) d D
 have R3:∀{r:Nat}{g:E}{ab:O},ar r 0 g->IR b g ab (w.params++[3,0,3])->TR3 (aM r) b C sl sr d p ab ag.size W.size (aL r) g:=λq hw=>
  be (a0 q.hk q.b.lt) (by simp[aT]) q.s hw (L5 q.hk q.b.lt) λB s u z d' D=>
   have I:=PM (mT q.hk q.b.lt)
   H6 I D (R4 (q.fz ay (bi q.hk) D d') z)
 have R2:∀{r t0:Nat}{g:E},ar r 0 g->au (bI [b] g) (.mk t0 0 3 3) [3,0,3]->TR2 (aM r) b C sl sr d p ps ag.size W.size m.size (aL r) t0 g:=λq hw=>
  (eD (S:=[b]) (by simp;exact q.s.r.lt) (PS q.s.f) hw bS).mono λ_ u⟨ab,wl,B,gw,qw,c⟩=>by
   subst qw;have I:=PM (mT q.hk q.b.lt);exact⟨(L5 q.hk q.b.lt).de (c.fz _),ab,B,H8 I (c.fz _) (R3 (q.ext c) (GI.done gw (by simp;exact q.s.r.lt) bS))⟩
 have aC:∀{g:E}{aX:Nat},K.size<=g.size->HX (A.size::h) i (pf j) (w.params.length+3) g sl (.mk 9 C kl)->HX (A.size::h) i (pf j) (w.params.length+3) g sr (.mk 9 C kr)->Rs b o m (P+aX) g->J g (g.push (.cells (bE [.i 0,.i 0,.s .nil]) bL))/\ar g.size aX (g.push (.cells (bE [.i 0,.i 0,.s .nil]) bL)):=λh1 h2 h3 h4=>AS.new h1 h2 h3 h4
 have r0:Rs b o m (P+0) K:=bc
 have wl:∀g:E,b<g.size->au (bI [b] (g.push (.cells (bE [.i 3,.i 0,.i 3]) aA))) (.mk g.size 0 3 3) [3,0,3]:=λg z=>au.lit aA _ (by simp;exact z) rfl rfl aJ
 refine⟨K0,⟨?_,?_⟩,?_⟩
 .intro ac
  have N:J K ac:=J.push _ _
  have a2:au (bI [b] ac) (.mk K.size 0 3 3) [3,0,3]:=wl K bc.r.lt
  clear_value ac
  have aK:=N.size
  have a9:=a8.ext N;have ba:=a_.ext N;have Y:=r0.ext N
  refine H8 (ad _) (N.fz _) ⟨?_,?_⟩
  .refine(eD (S:=[b]) (by simp;exact Y.r.lt) (PS Y.f) a2 bS).mono λ_ al⟨ab,bP,B,gw,qw,T⟩=>⟨(L4 aK).de (T.fz _),ab,B,H8 aK (T.fz _) ⟨?_,?_⟩⟩
   all_goals have a3:IR b al ab (w.params++[3,0,3]):=qw▸GI.done gw (by simp;exact Y.r.lt) (by rw[<-qw];simp;omega)
   all_goals have bu:=T.size
   .refine be (a5:=A.size::h) (aw V) ay (Y.ext T) a3 (L4 V) λai a1 am ak a6 ae=>H6 V ae ⟨?_,?_⟩
    all_goals have ax:=(a9.ext T).fz ay ae
    all_goals have aO:=(ba.ext T).fz ay ae
    all_goals have aV:=(Y.ext T).to ae a6
    all_goals have bV:=ae.size
    .intro ap
     have aa:J am ap:=J.push _ _
     have bk:fm (bI (A.size::h) ap) (.mk am.size 0 2 2) [ai,.mk 9 C kr]:=nZ [(ai,a1),(.mk 9 C kr,sr)] aJ (aw V) (by simp;exact⟨ak.sl,aO.sl⟩) rfl rfl
     have bW:=aa.size
     refine H3 V (aa.fz _) ⟨?_,?_⟩
     .refine jf (M:=ap) bk (a4 _ _ ak.wx aO.wx) (L4 V) λbM aB aZ aH=>H3 V (aH.fz _) ⟨?_,?_⟩
      all_goals have Q:=aa.trans aH
      all_goals have bX:=aH.size
      .intro aU
       have an:J aB aU:=J.push _ _
       have bl:fm (bI (A.size::h) aU) (.mk aB.size 0 2 2) [.mk 9 C kl,.mk 1 0 [ai,.mk 9 C kr]]:=nZ [(.mk 9 C kl,sl),(.mk 1 0 [ai,.mk 9 C kr],bM)] aJ (aw V) (by simp;exact⟨(ax.ext Q).sl,aZ.sl⟩) rfl rfl
       have b5:=an.size
       refine⟨?_,?_⟩
       .refine jf (M:=aU) bl (a4 _ _ ax.wx aZ.wx) (L4 V) λbN bp bz bs=>?_
        have b6:=bs.size
        intro bq
        have bQ:J bp bq:=J.push _ _
        refine H8 V (bQ.fz _) ?_
        intro bJ
        let⟨bt,bv,b7⟩:=BX.new (f:=bq) (d:=bJ) bz rfl rfl
        have U:=Q.trans (an.trans bs)
        exact⟨rfl,by show K.size<=bp.size;omega,bN,_,bv,(ax.ext U).fX bt (ad _),(aV.ext U).ext bt⟩
       .let⟨U,q⟩:=aC (g:=aU) V ((ax.ext Q).ext an) ((aO.ext Q).ext an) ((aV.ext Q).ext an)
        exact H8 V (U.fz _) (R7 q (fm.le (U.bI λH hb=>(List.mem_cons.1 hb).elim (λz=>Or.inr V) Or.inl) bl) aZ.wx)
      .let⟨U,q⟩:=aC (g:=aB) V (ax.ext Q) (aO.ext Q) (aV.ext Q)
       exact H8 V (U.fz _) (R6 q (aZ.fX U (ad _)))
     .let⟨U,q⟩:=aC (g:=ap) V (ax.ext aa) (aO.ext aa) (aV.ext aa)
      exact H8 V (U.fz _) (R5 q (fm.le (U.bI λH hb=>(List.mem_cons.1 hb).elim (λz=>Or.inr V) Or.inl) bk) ak.wx)
    .let⟨U,q⟩:=aC (g:=am) V ax aO aV
     exact H8 V (U.fz _) (R4 q (ak.fX U (ad _)))
   .let⟨U,q⟩:=aC (g:=al) V (a9.ext T) (ba.ext T) (Y.ext T)
    exact H8 V (U.fz _) (R3 q (a3.le (fh (U.fz _))))
  .let⟨U,q⟩:=aC (g:=ac) aK a9 ba Y
   exact H8 aK (U.fz _) (R2 q (a2.le (fh (U.fz _))))
 .let⟨U,q⟩:=aC (g:=K) (ad _) a8 a_ r0
  have za:=U.size
  intro ac
  refine H8 (ad _) (U.fz _) ?_
  intro al
  have T:J ac al:=J.push _ _
  exact H8 za (T.fz _) (R2 (q.ext T) (wl ac q.s.r.lt))
 rintro⟨r,aQ⟩ g ⟨ho,hk,s,B,H,hl,R⟩
 simp only at ho hk H hl
 subst ho
 have bt:=H.b.lt
 have a9:=bi hk
 have U:∀{u:E},g.size<=u.size->Lw b [ag.size,W.size,A.size,m.size] u:=λz=>L4 V
 have I:K.size<=g.size:=V
 have aZ:∀{u:E},g.size<=u.size->∀F∈r::A.size::h,F<u.size:=λz=>a0 hk V
 refine⟨λu=>∃s B,BX (A.size::h) i (pf j) (w.params.length+3) r u s B/\Rs b o m (P+2*Cg 18) u/\g.size<=u.size,⟨V,V,_,E1 R.f,λ_=>?_,λ_=>⟨s,B,H,⟨R.f,R.r.mono V⟩,ad _⟩⟩,?_⟩
 .intro ac
  have N:J g ac:=J.push _ _
  have a2:au (bI [b] ac) (.mk g.size 0 3 3) [3,0,3]:=wl g R.r.lt
  clear_value ac
  have aK:=N.size
  have Y:=R.ext N
  refine H5 I (N.fz _) ?_
  refine(eD (S:=[b]) (by simp;exact Y.r.lt) (PS Y.f) a2 bS).mono λ_ al⟨ab,bP,e',gw,qw,T⟩=>⟨(U aK).de (T.fz _),ab,e',H5 V (T.fz _) ?_⟩
  have a3:IR b al ab (w.params++[3,0,3]):=qw▸GI.done gw (by simp;exact Y.r.lt) (by rw[<-qw];simp;omega)
  have bu:=T.size
  have aO:=Y.ext T
  refine EB (v:=w.params++[3,0,3]) (S:=r::A.size::h) (aZ V) (by simp[aT]) (F.to aO.f aO.r) V a3 bS br bo (U V) λai a1 am ak a6 ae=>H3 V ae ?_
  have ak:HX (r::A.size::h) i (pf j) (w.params.length+3) am a1 ai:=by simpa using ak
  have bV:=ae.size
  refine vL (r::A.size::h) i (pf j) (a:=w.params.length+3) (U V) V λbl ap ax aa=>H3 V (aa.fz _) ?_
  intro aB
  have aH:J ap aB:=J.push _ _
  have bW:=aa.size
  have ba:=(((hl.ext N).ext T).fz (by simp[aT]) ae).ext aa
  have hs:fm (bI (r::A.size::h) aB) (.mk ap.size 0 3 3) [.mk 9 C kl,ai,.mk 12 (ps.len+2) []]:=nZ [(.mk 9 C kl,sl),(ai,a1),(.mk 12 (ps.len+2) [],bl)] aJ (aZ V) (by simp;exact⟨ba.sl,(ak.ext aa).sl,ax.sl⟩) rfl rfl
  have bX:=aH.size
  refine jf (M:=aB) hs (.Ow F.gp.ds aJ (by simp;exact⟨ba.wx,ak.wx,ax.wx⟩)) (U V) λbp aU bq an=>?_
  have aV:=((((H.ext N).ext T).fz (by simp[aT]) a9 ae).ext (aa.trans aH)).ext an
  have hb:=aV.set bq
  have bk:=(((aO.to ae a6).ext (aa.trans aH)).ext an).put F.rd (k:=r) V 0 [.i 6,.i 3,.s bp]
  exact⟨aV.b.fq aJ,λb' bs=>bh _ _ _ _ (by simp at bs;omega),bp,.mk 6 3 [.mk 9 C kl,ai,.mk 12 (ps.len+2) []],hb,⟨bk.f,bk.r.mono V⟩,by rw[aD];have:=an.size;omega⟩
 rintro M3 ⟨s,B,H,R,aI⟩
 refine⟨V,V,_,E1 R.f,_,H.b.cK 0,_,H.b.cK 1,_,H.b.cK 2,?_⟩
 refine vL (A.size::h) i (pf j) (a:=w.params.length) (U aI) V λaU ac ak N=>?_
 have aK:=N.size
 have ae:∀{M1 M2:E}{aQ:Nat},g.size<=M1.size->Fz [b] M1 M2->af M2 r aQ=af M1 r aQ:=λz D=>kg D hr ⟨V,V⟩ _
 refine⟨ae aI (N.fz _),ae aI (N.fz _),ae aI (N.fz _),(E1 (R.f.then N)).trans (E1 R.f).symm,G V (N.fz _) V V,G V (N.fz _) V V,G V (N.fz _) V V,?_⟩
 have Y:=R.ext N
 refine EB (S:=A.size::h) (aw V) ay (F.to Y.f Y.r) V (PS Y.f) V (F.gp.ty bb.2.2.1 bb.2.2.2) bo (U V) λai aV al an aO T=>⟨ae V T,ae V T,ae V T,?_⟩
 have bu:=T.size
 intro am
 have aB:J al am:=J.push _ _
 have aH:=(H.ext N).fz ay a9 T
 have hs:fm (bI (A.size::h) am) (.mk al.size 0 3 3) [.mk 12 0 [],ai,B]:=nZ [(.mk 12 0 [],aU),(ai,aV),(B,s)] aJ (aw V) (by simp;exact⟨(ak.fz ay T).sl,an.sl,aH.h.gE.sl⟩) rfl rfl
 refine jf (M:=am) hs (.m3 F.gp.ds ak.wx an.wx H.h.wx) (U (oh aB.size)) λbl ap ax aa=>?_
 exact ax.hO (((Y.to T aO).ext aB).ext aa) F.rd V V
end
end
section
variable{a:E}{c:List Ce}{b:Nat}
section
variable{f:List Nat}{e P:Nat}{h d p:O}{i:List bq}{g:List da}{m:E}
def L9(hS:∀o∈f,o<m.size)(ai:e∈f)(o:GC e h P d p i g m)(hP:P+300+40*Cg 18<=10^16){R:Nat}{q:da}(A:g[R]? =some q)(ak:R=0->q.params.length=0):
 aP cv 75 [vp e 0,.agg #[O.v d,O.v p],vi R] m (XP f e h m (P+300+40*Cg 18) (XE i (pf g) q.params.length)):=by
 apply Fc (e,0)
 simp -zeta only[aG,aF]
 intro l x
 let⟨x2,hl⟩:=dk (a:=l) (c:=x) rfl rfl
 have s1:l.size=m.size+1:=by simp[l]
 have s2:x.size=m.size+2:=by simp[x,s1]
 have hr:=o.rd.lt
 clear_value x
 have ae:∀{a:E},x.size<=a.size->∀o∈l.size::f,o<a.size:=λc=>bR hS V V
 have u:Rs e h m P x:=⟨x2.fz _,o.rd.ext x2⟩
 have K:∀{a:E},x.size<=a.size->Lw e [l.size,m.size] a:=λc=>lw hr bS
 let⟨W,ag,e0,e1⟩:=o.hp.aQ A
 have an:=az A
 have ao:=o.hp.len
 have ab:=tJ _ (o.gp.df q (av A))
 have h3:q.params.length<=3:=ab.1
 have PS:∀{a:E},Fz [e] m a->IR e a W q.params:=λz=>ag.le (fh z)
 have ar:=ag.len
 have aa:e∈l.size::f:=by simp[ai]
 have am:=o.gp.ty ab.2.2.1 ab.2.2.2
 refine⟨V,V,W,(eA.1 (fh u.f _ _ _ e0)).2,V,V,_,(eA.1 (fh u.f _ _ _ e1)).2,?_⟩
 refine(Lb ((PS u.f).le (bA _ _)) 1).mono λ_ m3⟨pl,en,ap,x3⟩=>⟨(K (ad _)).de (x3.fz _),pl,en,?_⟩
 have z3:=x3.size
 refine Ie (l.size::f) i (pf g) q.params.length (K z3) (n:=0) bo λs4 r D x4=>?_
 have z4:=x4.size
 intro m5 I
 let⟨x6,b6,z6⟩:=BX.new (f:=m5) (d:=I) D rfl rfl
 clear_value I
 have r6:=((u.ext x3).ext x4).ext x6
 have hk:r.size≠e:=V
 have L6:∀{a:E},I.size<=a.size->Lw e [r.size,l.size,m.size] a:=λc=>lw hr bS
 refine(bX r6.r V 4).mono λ_ s⟨b,en,_,_,d7,N⟩=>⟨(L6 (ad _)).de N,b,en,?_⟩
 have J:=r6.to N d7
 have z7:=N.size
 have C:=o.to J.f J.r
 have F:∀j∈r.size::l.size::f,j<s.size:=bR (ae (a:=s) V) (ad _) V
 have G:e∈r.size::l.size::f:=by simp[ai]
 have hO:∀{z:Nat}{ac:List Value}{Q:Nat},aP cv z ac s (XP (r.size::l.size::f) e h s Q (WX i (pf g) q.params.length))->Q<=P+300+20*Cg 18->aP cv z ac s λv B=>eF [r.size,l.size,m.size] s B/\∃X Y:Int,∃u:O,v=.agg #[vi X,vi Y,O.v u]/\
  ∃w j,BX (l.size::f) i (pf g) q.params.length r.size (aj B r.size 0 [.i X,.i Y,.s u]) w j/\Rs e h m (P+300+20*Cg 18) (aj B r.size 0 [.i X,.i Y,.s u])/\I.size<=(aj B r.size 0 [.i X,.i Y,.s u]).size:=λc hQ=>
  XP.kk c (L6 z7) λw j B h1 h2 h3 D=>by
   have hb:=((b6.fz aa hk N).fz aa hk D).set ⟨h1,h2⟩;have ah:=(J.to D h3).put o.rd (k:=r.size) V 0 [.i j.op,.i j.bM,.s w];exact⟨w,j,hb,⟨ah.f,ah.r.mono hQ⟩,by rw[aD];have:=D.size;omega⟩
 have yN:=λ(a:E)(S':List Nat)(h1:∀j∈S',j<a.size)(h2:e∈S')(Q:Nat)(cM:GC e h Q d p i g a)(z:Fz [e] m a)(hQ:Q+20*Cg 18<=10^16)(t:Int)(hb:0<=t/\t<=18)=>KU (S:=S') h1 h2 cM hQ (PS z) V am hb
 have T:=hO ((yN s _ F G _ C J.f V 18 bo).mono λ_ _ c=>c.mono (λj L=>L.1) (ad _)) V
 have first:1<=q.params.length->∃y:Int,q.params[0]? =some y/\af s W.aC (W.off+Int.toNat 0*1)=some (vi y):=λc=>by
  let⟨y,U⟩:=cq q.params 0;exact⟨y,U,(eA.1 ((PS J.f).aQ U)).2⟩
 refine⟨λa=>∃w j,BX (l.size::f) i (pf g) q.params.length r.size a w j/\Rs e h m (P+300+20*Cg 18) a/\I.size<=a.size,?_,?_⟩
 .refine⟨λv a=>(v=true->R=0)/\s=a,⟨λ_=>⟨λc=>by simp at c;omega,rfl⟩,λ_=>⟨sx,rfl⟩⟩,?_⟩
  rintro v _ ⟨H,rfl⟩
  refine⟨λc=>?_,λ_=>?_⟩
  .have Z:=ak (H c)
   exact hO ((Jc F G C V).mono λ_ _ c=>c.mono (λj L=>by rw[Z];exact L) (ad _)) V
  refine⟨λv a=>(v=true->0<=pl)/\s=a,⟨λ_=>⟨λc=>⟨λ_=>⟨λ_=>by simpa using c,rfl⟩,λ_=>⟨λ_=>by simpa using c,rfl⟩⟩,λ_=>⟨aJ,rfl⟩⟩,λ_=>⟨aJ,rfl⟩⟩,?_⟩
  rintro v _ ⟨H,rfl⟩
  refine⟨λc=>hO (Jf F G C V A ⟨H c,V⟩) V,λ_=>?_⟩
  refine⟨λv a=>(v=true->1<=q.params.length)/\s=a,⟨λ_=>⟨λc=>?_,λ_=>⟨aJ,rfl⟩⟩,λ_=>⟨aJ,rfl⟩⟩,?_⟩
  .simp only[aq]at c
   let⟨y,U,L⟩:=first V
   exact⟨bo,V,y,L,λ_=>⟨λ_=>⟨λ_=>V,rfl⟩,λ_=>⟨λ_=>V,rfl⟩⟩,λ_=>⟨aJ,rfl⟩⟩
  rintro v _ ⟨H,rfl⟩
  refine⟨λc=>hO (Jg F G C V A (H c)) V,λ_=>⟨λ_=>⟨λc=>?_,λ_=>T⟩,λ_=>T⟩⟩
  simp only[aq]at c
  let⟨y,U,L⟩:=first V
  have Z:=hO (IS F G C V A V) V
  exact⟨bo,V,y,L,λ_=>⟨λ_=>Z,λ_=>⟨λ_=>Z,λ_=>T⟩⟩,λ_=>T⟩
 rintro a ⟨w,j,t,al,au⟩
 refine⟨_,t.b.cK 0,_,t.b.cK 1,_,t.b.cK 2,?_⟩
 refine(zZ (fm.le (bA _ _) t.h.sl)).mono λ_ m8⟨n8,e8,q8,Z⟩=>⟨(K V).de (Z.fz _),n8,e8,?_⟩
 have z8:=Z.size
 have H:=al.ext Z
 have L:=t.ext Z
 refine⟨λ_=>XP.ret (yN m8 (l.size::f) (ae V) aa _ (o.to H.f H.r) H.f V 12 bo) (K V) H.f o.rd V (λ_ c=>c) V,λc=>⟨_,L.b.cK 0,_,L.b.cK 1,_,L.b.cK 2,?_⟩⟩
 simp only[bD]at c
 have r9:=H.put o.rd (k:=l.size) V 0 [.i j.op,.i j.bM,.s w]
 exact⟨w,j,rfl,(L.h.gE.put aJ _ _).gE.sl,⟨t.h.wx,V⟩,r9.r.mono V,r9.f⟩
end
def AT{α:Type}{R:E->List Ce->α->Prop}{n:Nat}(g:nG n R){S:List Nat}(o:∀d∈S,d<a.size)(e:Nat)(l:List (α×List Ce))(h:∀x∈l,R (bI S a) x.2 x.1)(p:c=l.flatMap (·.2))(q:b=l.length):
 Gr S a (a.push (.cells (bE c) e)) e n R (.mk a.size 0 b b) (l.map (·.1)):=by
 refine Gr.lit (f:=l.map (·.2)) g (ad _) o (by rw[p,List.flatMap_def]) (by simp[q]) ⟨aJ,λd i=>?_,λr d e k j=>?_⟩
 .simp at i;let⟨m,f⟩:=i;exact g.len (h _ f)
 .simp only[bT,jq]at k j
  obtain⟨x,m,rfl⟩:=k
  obtain⟨y,f,rfl⟩:=j
  rw[m]at f;simp at f;subst f
  exact h x (av m)
abbrev Uz(m:E)(s:O)(l:List (List Int)):Prop:=eO m 1 (mg m) s l
def vR{S:List Nat}(d:∀e∈S,e<a.size)(e:Nat)(l:List (List Int×O))(k:l.length<=1000)(h:∀x∈l,au (bI S a) x.2 x.1)(f:c=l.map λx=>.s x.2)(g:b=l.length):Uz (bI S (a.push (.cells (bE c) e))) (.mk a.size 0 b b) (l.map (·.1)):=by
 have H:=AT (R:=λm c x=>mg m c x) (n:=1) ⟨λh=>mg.le h _ _,λ⟨_,h,_⟩=>by rw[h];rfl⟩ d e (l.map λx=>(x.1,[Ce.s x.2])) (λx i=>by simp at i;obtain⟨m,o,j,rfl⟩:=i;exact⟨_,rfl,h _ j⟩) (c:=c) (b:=b) (by rw[f];clear f g h k;induction l<;>simp_all) (by simp[g]);have i:=Gr.done mg.mono H d bo bS;rwa[show(l.map λx=>(x.1,[Ce.s x.2])).map (·.1)=l.map (·.1)by simp[Xf,Function.comp_def]]at i
abbrev Za(S:List Nat)(a m:E)(s:O)(l:List bq):Prop:=Gr S a m jL 3 ij s l
end
section
variable{K:O->E->Prop}
section
variable{S L:List Nat}{c P:Nat}{d:O}{m b:E}
def MF(f:O)(d:∀a∈L,a<b.size)(g:∀a,J b a->K f a):aP cv 114 [O.v f] b λv a=>eF L b a/\∃c:O,v=.agg #[O.v c]/\K c a:=
 (KO f b).mono λ_ a⟨e,x⟩=>⟨x.de d,f,e,g a x⟩
def Cr(f:O)(d:∀a,J b a->K f a):aP cv 114 [O.v f] b λv a=>∃c:O,v=.agg #[O.v c]/\K c a:=
 (KO f b).mono λ_ a⟨e,x⟩=>⟨f,e,d a x⟩
def vw(hS:∀s∈S,s<m.size)(T:c∈S)(Q:Rd c d P m)(hP:P+1<=10^16):
 aP cv 72 [vp c 0] m λa6 U=>∃t ds,a6=O.v t/\Za S m U t ds/\ds∈ov/\Rd c d (P+1) U/\Fz [c] m U:=by
 apply zI (c,0)
 simp -zeta only[aG,aF]
 have hr:=Q.lt
 have i:∀{b:E},m.size<=b.size->∀s∈S,s<b.size:=λh s hc=>by have:=hS s hc;omega
 have I:∀(b:E)(l:List Int)(L:List Ce)(D:Nat),m.size<=b.size->L=l.map Ce.i->D=l.length->l.length<=1000->au (bI S (b.push (.cells (bE L) aA))) (.mk b.size 0 D D) l:=λb l L D h h1 h2 h3=>au.lit aA l (i h) h1 h2 V
 have ap:∀(b:E)(f:Nat),au (bI S b) (.mk f 0 0 0) []:=λb f=>lU _ _ _ _ _ _
 intro a3
 have x1:J m a3:=J.push _ _
 refine Cr _ λy x2=>?_
 intro m3
 have x3:J y m3:=J.push _ _
 have z2:=(x1.trans x2).size
 have i3:au (bI S m3) (.mk y.size 0 2 2) [0,1]:=I y [0,1] _ _ z2 rfl rfl bo
 clear_value m3
 refine Cr _ λm4 H=>?_
 intro q
 have x5:J m4 q:=J.push _ _
 have z4:=(x3.trans H).size
 have c5:Uz (bI S q) (.mk m4.size 0 2 2) [[],[0,1]]:=vR (i V) _ [([],.mk m.size 0 0 0),([0,1],.mk y.size 0 2 2)] aJ (by simp;exact⟨ap _ _,i3.le (H.cR _)⟩) rfl rfl
 clear_value q
 intro m6 B
 obtain⟨x7,-,z7⟩:=iL (M:=q) (d:=m6) (c:=B) rfl rfl rfl
 clear_value B
 have z5:=x5.size
 intro m8
 have x8:J B m8:=J.push _ _
 clear_value m8
 have z8:=x8.size
 refine MF _ bS λC x9=>?_
 intro W
 have aC:J C W:=J.push _ _
 have z9:=x9.size
 have aY:au (bI S W) (.mk C.size 0 3 3) [3,0,3]:=I C [3,0,3] _ _ V rfl rfl bo
 clear_value W
 have a_:=aC.size
 refine MF _ bS λX ai=>?_
 intro k
 have aD:J X k:=J.push _ _
 have ba:=ai.size
 have aN:Uz (bI S k) (.mk X.size 0 2 2) [[],[3,0,3]]:=vR (i V) _ [([],.mk B.size 0 0 0),([3,0,3],.mk C.size 0 3 3)] aJ (by simp;exact⟨ap _ _,aY.le (ai.cR _)⟩) rfl rfl
 clear_value k
 intro a4 n
 obtain⟨a7,-,bc⟩:=iL (M:=k) (d:=a4) (c:=n) rfl rfl rfl
 clear_value n
 have bb:=aD.size
 have LL:∀{b:E},n.size<=b.size->∀f∈[k.size,q.size],f<b.size:=λh=>bS
 intro Y
 have aE:J n Y:=J.push _ _
 have aZ:au (bI S Y) (.mk n.size 0 2 2) [1,3]:=I n [1,3] _ _ V rfl rfl bo
 clear_value Y
 have a8:=aE.size
 refine MF _ (LL a8) λZ aj=>?_
 intro o
 have aH:J Z o:=J.push _ _
 have bd:=aj.size
 have aO:Uz (bI S o) (.mk Z.size 0 1 1) [[1,3]]:=vR (i V) _ [([1,3],.mk n.size 0 2 2)] aJ (by simp;exact aZ.le (aj.cR _)) rfl rfl
 clear_value o
 have be:=aH.size
 intro aa
 have aI:J o aa:=J.push _ _
 have a0:au (bI S aa) (.mk o.size 0 3 3) [1,1,0]:=I o [1,1,0] _ _ V rfl rfl bo
 clear_value aa
 have bf:=aI.size
 refine MF _ (LL V) λx ak=>?_
 intro ab
 have al:J x ab:=J.push _ _
 have bg:=ak.size
 have a1:au (bI S ab) (.mk x.size 0 1 1) [0]:=I x [0] _ _ V rfl rfl bo
 clear_value ab
 have bh:=al.size
 refine MF _ (LL V) λz F=>?_
 intro ac
 have G:J z ac:=J.push _ _
 have bi:=F.size
 have a2:au (bI S ac) (.mk z.size 0 1 1) [3]:=I z [3] _ _ V rfl rfl bo
 clear_value ac
 have bj:=G.size
 refine MF _ (LL V) λae u=>?_
 intro p
 have aK:J ae p:=J.push _ _
 have bk:=u.size
 have aQ:Uz (bI S p) (.mk ae.size 0 3 3) [[1,1,0],[0],[3]]:=vR (i V) _ [([1,1,0],.mk o.size 0 3 3),([0],.mk x.size 0 1 1),([3],.mk z.size 0 1 1)] aJ (by simp;exact⟨a0.le ((((((ak.trans al).trans F).trans G).trans u)).cR _),a1.le (((F.trans G).trans u).cR _),a2.le (u.cR _)⟩) rfl rfl
 clear_value p
 have bl:=aK.size
 have ax:=(((((aI.trans ak).trans al).trans F).trans G).trans u).trans aK
 have aw:=(((a7.trans aE).trans aj).trans aH).trans ax
 have K:=(((((x7.trans x8).trans x9).trans aC).trans ai).trans aD).trans aw
 have w:∀{am an:E}{t:O}{l:List (List Int)},J am an->Uz (bI S am) t l->Uz (bI S an) t l:=λaB h=>eO.le h (aB.cR _) (mg.le (aB.cR _))
 have ag:Uz (bI S p) .nil []:=⟨rfl,ad _,aJ,aJ⟩
 intro e
 have r:J p e:=J.push _ _
 have aT:bZ (bI S e) (.mk p.size 0 4 4) Rc:=(AT (R:=ij) ij.mono (i (b:=p) V) jL [(⟨0,0,[[1,3]]⟩,[.i 0,.i 0,.s (.mk Z.size 0 1 1)]),(⟨1,0,[]⟩,[.i 1,.i 0,.s .nil]),(⟨0,0,[[1,1,0],[0],[3]]⟩,[.i 0,.i 0,.s (.mk ae.size 0 3 3)]),(⟨0,1,[]⟩,[.i 0,.i 1,.s .nil])] (by simp;exact⟨⟨_,rfl,w ax aO⟩,⟨_,rfl,ag⟩,⟨_,rfl,aQ⟩,⟨_,rfl,ag⟩⟩) rfl rfl).done ij.mono (i V) bo bo
 clear_value e
 have bm:=r.size
 intro A
 have v:J e A:=J.push _ _
 have ay:Za S e A (.mk e.size 0 3 3) JO:=AT (R:=ij) ij.mono (i (b:=e) V) jL [(⟨0,0,[[],[0,1]]⟩,[.i 0,.i 0,.s (.mk m4.size 0 2 2)]),(⟨0,0,[]⟩,[.i 0,.i 0,.s .nil]),(⟨0,0,[[],[3,0,3]]⟩,[.i 0,.i 0,.s (.mk X.size 0 2 2)])] (by simp;exact⟨⟨_,rfl,w (K.trans r) c5⟩,⟨_,rfl,w r ag⟩,⟨_,rfl,w (aw.trans r) aN⟩⟩) rfl rfl
 clear_value A
 have ar:=((((x1.trans x2).trans x3).trans H).trans x5).trans (K.trans (r.trans v))
 have bn:=v.size
 have aM:Lw c [k.size,q.size] A:=λf j=>⟨LL V f j,by simp at j;omega⟩
 refine(bX (Q.ext ar) V 5).mono λ_ af⟨az,aR,k0,k1,N,g⟩=>⟨aM.de g,az,aR,λh=>?_,λ_=>⟨_,JO,rfl,Gr.cL ij.mono (ay.fU ij.mono g (by simp;exact⟨T,V⟩)) (λ_ h=>Or.inl h) V,by simp[ov],N,(ar.fz _).trans g⟩⟩
 simp only[aq]at h
 let⟨ah,hq⟩:=cq Rc az.toNat (by simp[Rc];omega)
 have aX:Le (bI S e) (bI (e.size::S) af):=(v.bI λf j=>(List.mem_cons.1 j).elim (λh=>Or.inr V) Or.inl).trans (g.cR (by simp[T]))
 let⟨aS,hf,e0,e1,e2⟩:=(aT.le aX).aQ hq
 refine⟨k0,bS,_,(eA.1 e0).2,_,(eA.1 e1).2,_,(eA.1 e2).2,?_⟩
 intro a9
 have aU:Za S e af (.mk e.size 0 3 3) JO:=ay.fU ij.mono g (by simp;exact⟨T,V⟩)
 have hz:=g.size
 have aV:JO++[ah]∈ov:=by
  have:=av hq;simp only[ov,aW,Xg];exact Or.inr ⟨ah,this,rfl⟩
 refine Gr.kj (g:=[.i 0,.i 0,.s .nil]) (k:=ah) ij.mono bo aU ((v.fz _).trans g) ⟨aS,rfl,hf⟩ (by simp[JO]) λa5 M' g' f' z' q'=>?_
 have ao:=((((((x1.trans x2).trans x3).trans H).trans x5).trans (K.trans r)).fz [c]).trans f'
 have aL:Lw c [k.size,q.size] e:=λf j=>⟨LL V f j,by simp at j;omega⟩
 exact⟨aL.Df (((v.fz [c]).trans g).then (J.push af _)) f',a5,_,rfl,Gr.cL ij.mono g' (λ_ h=>Or.inl h) V,aV,Q.LR N ao (q' c N.lt (by show c≠e.size;omega)),ao⟩
end
end
section
variable{a:Nat}{b:List Ce}
def OE(M:E)(b:List Ce)(x:da×Option Ex):Prop:=∃c a k z,b=[.s c,.i x.1.aT,.i a,.i k,.s z]/\au M c x.1.params/\∀e,x.2=some e->a=e.op/\k=e.bM/\fm M z e.bH
def OE.mono:nG 5 OE:=⟨λh⟨b,a,k,z,e,c,d⟩=>⟨b,a,k,z,e,c.le h,λx j=>let⟨f,g,i⟩:=d x j;⟨f,g,fm.le h i⟩⟩,λ⟨_,_,_,_,e,_⟩=>by rw[e];rfl⟩
def XG(M:E)(b:List Ce)(x:da×Ex):Prop:=∃a s,b=[.s a,.i x.1.aT,.i x.2.op,.i x.2.bM,.s s]/\au M a x.1.params/\fm M s x.2.bH
def XG.mono:nG 5 XG:=⟨λh⟨a,s,e,b,c⟩=>⟨a,s,e,b.le h,fm.le h c⟩,λ⟨_,_,e,_⟩=>by rw[e];rfl⟩
abbrev UB(m:E)(s:O)(l:List (da×Ex)):Prop:=eO m 5 (XG m) s l
structure UF(ds:List bq)(l:List (da×Ex)):Prop where
 gp:GP ds (l.map (·.1))
 yN:∀x∈l,XE ds (pf (l.map (·.1))) x.1.params.length x.2
def Gr.ZH{α:Type}{S:List Nat}{q p:E}{j g h c k:Nat}{R:E->List Ce->α->Prop}{o:List α}(x:0<g)(m:Gr S q p j g R (.mk h 0 a c) o)(v:k<=a):Gr S q p j g R (.mk h 0 k c) (o.take k):=by
 have w:=m.len x;obtain⟨-,b,r,d⟩:=m;simp only[O.dU]at w;have t:b.length=a:=by rw[d.len];omega
 rcases r.aQ with e|⟨B,C,tail,e,h4,h5,h6,h7⟩
 .simp at e
 simp only[O.dU,O.mk.injEq]at e h7;obtain⟨rfl,-,-,rfl⟩:=e;have l:b.flatten=(b.take k).flatten++(b.drop k).flatten:=by rw[<-xB,dx]
 have n:∀c∈b.take k,c.length=g:=λc s=>d.size c (dq s);refine⟨aJ,b.take k,⟨by rw[dp n,eJ,t,jv v];rfl,Or.inr ⟨h,c,(b.drop k).flatten++tail,aJ,h4,by rw[<-fe,<-l];exact h5,by rw[<-fe,<-l];exact h6,bS⟩⟩,?_,n,λy z A f i=>?_⟩
 .rw[eJ,eJ,d.len]
 .rw[mS]at f i;split at f
  .rename_i u;rw[ao u]at i;exact d.df y z A f i
  .simp at f
section
variable{S L:List Nat}{d P:Nat}{c:O}{m M:E}
def qF{K:O->Int->Int->Int->O->E->Prop}(l:List Int)(r:Int)(n:∀c∈S,c<M.size)(m:∀d∈L,d<M.size)(t:l.length<=1000)(p:b=l.map Ce.i)(s:a=l.length)(q:∀c,J M c->au (bI S c) (.mk M.size 0 a a) l->K (.mk M.size 0 a a) r 0 0 .nil c):
 aP cv 73 [O.v (.mk M.size 0 a a),vi r] (M.push (.cells (bE b) aA)) λv c=>eF L (M.push (.cells (bE b) aA)) c/\∃e:O,∃f:Int,∃g:Int,∃h:Int,∃i:O,v=.agg #[O.v e,vi f,vi g,vi h,O.v i]/\K e f g h i c:=
 have j:=J.push M (.cells (bE b) aA)
 (QF _ r _).mono λ_ c⟨k,x⟩=>⟨x.de λd o=>j.lt (m d o),_,_,_,_,_,k,q c (j.trans x) ((au.lit aA l n p s V).le (x.cR _))⟩
def xc(a:List Int)(r:Int):da:=⟨a,[],r,0,[]⟩
def SD.mono:nG 5 SD:=⟨λh=>SD.le h,λ⟨_,_,_,_,e,_⟩=>by rw[e];rfl⟩
def QB(l:List (da×O))(c:∀d∈S,d<M.size)(h:∀x∈l,au (bI S M) x.2 x.1.params)(k:l.length<=1000)(f:b=l.flatMap λx=>[.s x.2,.i x.1.aT,.i 0,.i 0,.s .nil])(g:a=l.length):oJ (bI S (M.push (.cells (bE b) eW))) (.mk M.size 0 a a) (l.map (·.1)):=by
 have H:=(AT (R:=SD) SD.mono c eW (l.map λx=>(x.1,[Ce.s x.2,.i x.1.aT,.i 0,.i 0,.s .nil])) (λx d=>by simp at d;obtain⟨i,j,e,rfl⟩:=d;exact⟨_,_,_,_,rfl,h _ e⟩) (c:=b) (b:=a) (by rw[f,List.flatMap_map]) (by simp[g])).done SD.mono c bo bS;rwa[show(l.map λx=>(x.1,[Ce.s x.2,.i x.1.aT,.i 0,.i 0,.s .nil])).map (·.1)=l.map (·.1)by simp[Xf,Function.comp_def]]at H
end
end
section
def Va:List da:=[xc [1] 0,xc [1,1] 1,xc [1] 1,xc [1,0] 1,xc [2,1] 1,xc [1,1] 0]
def Vl:List da:=[xc [3] 0,xc [0] 1,xc [0,1] 1,xc [3,0] 3,xc [3] 1,xc [1,3,0] 0]
def Oi:List da:=[xc [0] 0,xc [0,0] 0,xc [1,0] 0,xc [0] 1]
def PY:(∀q∈Va,(q.params,q.aT)∈OK)/\(∀q∈Vl,(q.params,q.aT)∈OK)/\∀q∈Oi,(q.params,q.aT)∈OK:=bo
def NZ{α:Type}{l:List α}{k:Nat}{x:α}(h:l[k]? =some x):l.set k x=l:=eM λi=>by
 rw[ik];split
 .rename_i e;subst e;rw[ao (az h),h]
 .rfl
section
variable{b:List Nat}{c P:Nat}{d:O}{m:E}
def sP(hS:∀j∈b,j<m.size)(t:c∈b)(G:Rd c d P m)(hP:P+10+4*(300+40*Cg 18)<=10^16):
 aP cv 38 [vp c 0] m λbx m'=>∃w aU y o,bx=.agg #[O.v w,O.v aU]/\bZ (bI b m') w y/\UB (bI b m') aU o/\UF y o/\Rd c d (P+10+4*(300+40*Cg 18)) m'/\Fz [c] m m':=by
 apply wC (c,0)
 unfold rE
 simp(config:={zeta:=false,maxSteps:=2000000}) only[aG,aF]
 have hr:=G.lt
 intro ab
 have x1:J m ab:=J.push _ _
 have s1:ab.size=m.size+1:=by simp[ab]
 clear_value ab
 have an:∀j∈m.size::b,j<ab.size:=bR hS x1.size V
 refine(vw an (by simp[t]) (G.ext x1) V).mono λ_ e⟨w,y,r,gd,aL,d2,f2⟩=>⟨f2.de bS,w,r,?_⟩
 have z2:=f2.size
 have F2:=(x1.fz [c]).trans f2
 have aK:bZ (bI (m.size::b) e) w y:=gd.done ij.mono an bo (oh (mW y aL))
 intro m3 A
 obtain⟨x4,-,z4⟩:=iL (M:=e) (d:=m3) (c:=A) rfl rfl rfl
 clear_value A
 have h:∀{g:E},A.size<=g.size->∀j∈e.size::m.size::b,j<g.size:=λq=>bR (λj hc=>oh (an j hc)) q V
 have LL:∀{g:E},A.size<=g.size->∀v∈[e.size,m.size],v<g.size:=λq=>bS
 refine qF (S:=e.size::m.size::b) [1] 0 (h V) (LL V) bo rfl rfl λa8 x5 i1=>?_
 have z5:=x5.size
 refine qF (S:=e.size::m.size::b) [1,1] 1 (h V) (LL V) bo rfl rfl λa2 x6 i2=>?_
 have z6:=x6.size
 refine qF (S:=e.size::m.size::b) [1] 1 (h V) (LL V) bo rfl rfl λa3 x7 i3=>?_
 have z7:=x7.size
 refine qF (S:=e.size::m.size::b) [1,0] 1 (h V) (LL V) bo rfl rfl λa4 x8 i4=>?_
 have z8:=x8.size
 refine qF (S:=e.size::m.size::b) [2,1] 1 (h V) (LL V) bo rfl rfl λa9 x9 i5=>?_
 have z9:=x9.size
 refine qF (S:=e.size::m.size::b) [1,1] 0 (h V) (LL V) bo rfl rfl λa6 ay i6=>?_
 have bM:=ay.size
 intro b1
 have y1:J a6 b1:=J.push _ _
 have X9:=x9.trans ay;have X8:=x8.trans X9;have X7:=x7.trans X8;have X6:=x6.trans X7
 have g1:oJ (bI (e.size::m.size::b) b1) (.mk a6.size 0 6 6) Va:=QB [(xc [1] 0,.mk A.size 0 1 1),(xc [1,1] 1,.mk a8.size 0 2 2),(xc [1] 1,.mk a2.size 0 1 1),(xc [1,0] 1,.mk a3.size 0 2 2),(xc [2,1] 1,.mk a4.size 0 2 2),(xc [1,1] 0,.mk a9.size 0 2 2)] (h V) (by simp;exact⟨i1.le (X6.cR _),i2.le (X7.cR _),i3.le (X8.cR _),i4.le (X9.cR _),i5.le (ay.cR _),i6⟩) aJ rfl rfl
 have bJ:b1.size=a6.size+1:=by simp[b1]
 clear_value b1
 have w1:=y1.size
 refine qF (S:=e.size::m.size::b) [3] 0 (h V) (LL V) bo rfl rfl λc1 u1 j1=>?_
 have v1:=u1.size
 refine qF (S:=e.size::m.size::b) [0] 1 (h V) (LL V) bo rfl rfl λc2 u2 j2=>?_
 have v2:=u2.size
 refine qF (S:=e.size::m.size::b) [0,1] 1 (h V) (LL V) bo rfl rfl λc3 u3 j3=>?_
 have v3:=u3.size
 refine qF (S:=e.size::m.size::b) [3,0] 3 (h V) (LL V) bo rfl rfl λc4 u4 j4=>?_
 have v4:=u4.size
 refine qF (S:=e.size::m.size::b) [3] 1 (h V) (LL V) bo rfl rfl λc5 u5 j5=>?_
 have v5:=u5.size
 refine qF (S:=e.size::m.size::b) [1,3,0] 0 (h V) (LL V) bo rfl rfl λc6 u6 j6=>?_
 have v6:=u6.size
 intro b2
 have y2:J c6 b2:=J.push _ _
 have U5:=u5.trans u6;have U4:=u4.trans U5;have U3:=u3.trans U4;have U2:=u2.trans U3
 have g2:oJ (bI (e.size::m.size::b) b2) (.mk c6.size 0 6 6) Vl:=QB [(xc [3] 0,.mk b1.size 0 1 1),(xc [0] 1,.mk c1.size 0 1 1),(xc [0,1] 1,.mk c2.size 0 2 2),(xc [3,0] 3,.mk c3.size 0 2 2),(xc [3] 1,.mk c4.size 0 1 1),(xc [1,3,0] 0,.mk c5.size 0 3 3)] (h V) (by simp;exact⟨j1.le (U2.cR _),j2.le (U3.cR _),j3.le (U4.cR _),j4.le (U5.cR _),j5.le (u6.cR _),j6⟩) aJ rfl rfl
 have bK:b2.size=c6.size+1:=by simp[b2]
 clear_value b2
 have w2:=y2.size
 refine qF (S:=e.size::m.size::b) [0] 0 (h V) (LL V) bo rfl rfl λe1 t1 k1=>?_
 have q1:=t1.size
 refine qF (S:=e.size::m.size::b) [0,0] 0 (h V) (LL V) bo rfl rfl λe2 t2 k2=>?_
 have q2:=t2.size
 refine qF (S:=e.size::m.size::b) [1,0] 0 (h V) (LL V) bo rfl rfl λe3 t3 k3=>?_
 have q3:=t3.size
 refine qF (S:=e.size::m.size::b) [0] 1 (h V) (LL V) bo rfl rfl λe4 t4 k4=>?_
 have q4:=t4.size
 intro b3
 have y3:J e4 b3:=J.push _ _
 have T3:=t3.trans t4;have T2:=t2.trans T3
 have g3:oJ (bI (e.size::m.size::b) b3) (.mk e4.size 0 4 4) Oi:=QB [(xc [0] 0,.mk b2.size 0 1 1),(xc [0,0] 0,.mk e1.size 0 2 2),(xc [1,0] 0,.mk e2.size 0 2 2),(xc [0] 1,.mk e3.size 0 1 1)] (h V) (by simp;exact⟨k1.le (T2.cR _),k2.le (T3.cR _),k3.le (t4.cR _),k4⟩) aJ rfl rfl
 have bL:b3.size=e4.size+1:=by simp[b3]
 clear_value b3
 have w3:=y3.size
 refine qF (S:=e.size::m.size::b) [] 0 (h V) (LL V) bo rfl rfl λM0 x0 n0=>?_
 have z0:=x0.size
 have aE:=((((u1.trans U2).trans y2)).trans (t1.trans T2)).trans (y3.trans x0)
 have XM:J A M0:=((x5.trans X6).trans y1).trans aE
 have G1:=oJ.le (aE.cR _) g1
 have G2:=oJ.le ((((t1.trans T2)).trans (y3.trans x0)).cR _) g2
 have a7:=oJ.le (x0.cR _) g3
 have dM:Rd c d (P+1) M0:=(d2.ext x4).ext XM
 have L2:∀{g:E},A.size<=g.size->Lw c [e.size,m.size] g:=λq=>lw hr bS
 have bE:c∈e.size::m.size::b:=by simp[t]
 have l:∀{g M':E}{v W:Nat},A.size<=v->v<g.size->Fz [c] g M'->af M' v W=af g v W:=λh1 h2 N=>aM (N.same _ h2 bS) _
 refine(bX dM V _).mono λ_ m5⟨r1,en,bt,aX,d5,f5⟩=>⟨(L2 V).de f5,r1,en,bt,by simp at aX⊢;omega,?_⟩
 have ak:Le (bI (e.size::m.size::b) M0) (bI (e.size::m.size::b) m5):=f5.cR (by simp[t])
 have bU:=f5.size
 let⟨K,aO⟩:=cq Va r1.toNat (by simp[Va]at aX⊢;omega)
 obtain⟨_,⟨pa,pn,pk,pz,rfl,pi⟩,pr⟩:=(oJ.le ak G1).jD _ K aO
 have pg:=λu j q=>(eA.1 (pr u j q)).2
 refine⟨_,pg 0 _ rfl,_,pg 1 _ rfl,_,pg 2 _ rfl,_,pg 3 _ rfl,_,pg 4 _ rfl,?_⟩
 refine(bX d5 V _).mono λ_ m6⟨r2,en,bv,aZ,d6,z⟩=>⟨(L2 V).de z,r2,en,?_⟩
 have bV:=z.size
 have al:Le (bI (e.size::m.size::b) m5) (bI (e.size::m.size::b) m6):=z.cR (by simp[t])
 let⟨p2,aQ⟩:=cq Vl r2.toNat (by simp[Vl]at aZ⊢;omega)
 obtain⟨_,⟨qa,qn,qk,qz,rfl,qi⟩,qr⟩:=(oJ.le (ak.trans al) G2).jD _ p2 aQ
 have qg:=λu j q=>(eA.1 (qr u j q)).2
 refine⟨l bS bS z,l bS bS z,l bS bS z,l bS bS z,l bS bS z,bv,by simp at aZ⊢;omega,_,qg 0 _ rfl,_,qg 1 _ rfl,_,qg 2 _ rfl,_,qg 3 _ rfl,_,qg 4 _ rfl,?_⟩
 refine(bX d6 V _).mono λ_ f⟨r3,en,bw,a0,d7,p⟩=>⟨(L2 V).de p,r3,en,?_⟩
 have bW:=p.size
 have am:Le (bI (e.size::m.size::b) m6) (bI (e.size::m.size::b) f):=p.cR (by simp[t])
 let⟨p3,aR⟩:=cq Oi r3.toNat (by simp[Oi]at a0⊢;omega)
 obtain⟨_,⟨ra,rn,rk,rz,rfl,ri⟩,rr⟩:=(oJ.le ((ak.trans al).trans am) a7).jD _ p3 aR
 have rg:=λu j q=>(eA.1 (rr u j q)).2
 refine⟨l bS bS p,l bS bS p,l bS bS p,l bS bS p,l bS bS p,l bS bS p,l bS bS p,l bS bS p,l bS bS p,l bS bS p,bw,by simp at a0⊢;omega,_,rg 0 _ rfl,_,rg 1 _ rfl,_,rg 2 _ rfl,_,rg 3 _ rfl,_,rg 4 _ rfl,?_⟩
 intro T
 have a1:J f T:=J.push _ _
 have bj:au (bI (e.size::m.size::b) f) (.mk b3.size 0 0 0) []:=lU _ _ _ _ _ _
 have gf:Gr (e.size::m.size::b) f T eW 5 OE (.mk f.size 0 4 4) [(xc [] 0,none),(K,none),(p2,none),(p3,none)]:=AT OE.mono (h V) eW [((xc [] 0,none),[.s (.mk b3.size 0 0 0),.i 0,.i 0,.i 0,.s .nil]),((K,none),[.s pa,.i K.aT,.i pn,.i pk,.s pz]),((p2,none),[.s qa,.i p2.aT,.i qn,.i qk,.s qz]),((p3,none),[.s ra,.i p3.aT,.i rn,.i rk,.s rz])] (by simp;exact⟨⟨_,_,_,_,rfl,bj,aJ⟩,⟨_,_,_,_,rfl,pi.le (al.trans am),aJ⟩,⟨_,_,_,_,rfl,qi.le am,aJ⟩,⟨_,_,_,_,rfl,ri,aJ⟩⟩) rfl rfl
 have s8:T.size=f.size+1:=by simp[T]
 clear_value T
 let s:=[xc [] 0,K,p2,p3]
 have bA:f.size≠e.size:=V
 have bc:∀Y∈s,(Y.params,Y.aT)∈OK:=by
  simp only[s,aW,iW,AG];rintro Y (rfl|rfl|rfl|rfl)
  .simp[xc,OK]
  .exact PY.1 _ (av aO)
  .exact PY.2.1 _ (av aQ)
  .exact PY.2.2 _ (av aR)
 have a5:Fz [c] e f:=(((x4.trans XM).fz [c]).trans f5).trans (z.trans p)
 have aV:∀{g:E}{ag:O}{o:List (da×Option Ex)}(W:Nat)(L:List Ce),Gr (e.size::m.size::b) f g eW 5 OE ag o->Gr (e.size::m.size::b) f (aj g e.size W L) eW 5 OE ag o:=λW L F=>F.ML OE.mono ((Fz.aH [e.size] _).aj (Or.inl aJ) W L) aJ (by have:=F.bn;simp;omega)
 intro U
 have g9:Gr (e.size::m.size::b) f U eW 5 OE (.mk f.size 0 4 4) [(xc [] 0,none),(K,none),(p2,none),(p3,none)]:=aV 1 [.s (.mk f.size 0 4 4)] gf
 have r9:Rs c d e (P+4) U:=(Rs.mk (a5.then a1) (d7.ext a1)).put d2 (ad _) 1 [.s (.mk f.size 0 4 4)]
 have s9:U.size=T.size:=aD _ _ _ _
 clear_value U
 intro aw
 have ah:J U aw:=J.push _ _
 have bn:au (bI [c] aw) (.mk U.size 0 5 5) [4,4,3,2,4]:=au.lit aA _ bS rfl rfl aJ
 clear_value aw
 have bP:=ah.size
 refine(jR (r9.r.ext ah) V bn aJ).mono λ_ bp⟨mn,en,bi,a_,ae⟩=>⟨(L2 V).de ae,mn,en,?_⟩
 have bQ:=ae.size
 have bD:2<=mn/\mn<=4:=by simp at bi;omega
 obtain⟨n,rfl⟩:∃n:Nat,mn=n:=⟨mn.toNat,V⟩
 have bf:O.cut (.mk f.size 0 4 4) (Int.toNat 0) (Int.toNat n) 5=.mk f.size 0 n 4:=by simp[O.cut]
 rw[bf]
 refine⟨bo,V,bS,?_⟩
 intro ac
 have bb:Gr (e.size::m.size::b) f ac eW 5 OE (.mk f.size 0 n 4) ([(xc [] 0,none),(K,none),(p2,none),(p3,none)].take n):=Gr.ZH bo (aV 1 [.s (.mk f.size 0 n 4)] ((g9.ext OE.mono ah).fU OE.mono ae (by simp[t];omega))) V
 have bu:Rs c d e (P+5) ac:=((r9.ext ah).to ae a_).put d2 (ad _) 1 [.s (.mk f.size 0 n 4)]
 have bG:ac.size=bp.size:=aD _ _ _ _
 clear_value ac
 have bl:(s.take n).length=n:=by simp[s];omega
 have gp:GP y (s.take n):=⟨aL,V,V,λY i=>bc Y (dq i),λY i=>by obtain⟨n',rfl⟩:∃n',n=n'+1:=⟨n -1,V⟩;simp[s]at i;rw[<-i];exact⟨rfl,rfl⟩⟩
 have ew:cQ ((n:Int) -1)=n -1:=aS V V
 rw[ew]
 refine⟨λN g=>∃(i:Nat)(o:List (da×Option Ex)),N=(i:Int) -1/\i<=n/\Gr (e.size::m.size::b) f g eW 5 OE (.mk f.size 0 n 4) o/\o.map (·.1)=s.take n/\(∀(u:Nat)(x:da×Option Ex),o[u]? =some x->i<=u->∃r,x.2=some r/\XE y (pf (s.take n)) x.1.params.length r)/\Rs c d e (P+5+(n -i)*(300+40*Cg 18)) g/\ac.size<=g.size,λN _=>(N+1).toNat,⟨n,_,rfl,ad _,bb,by rw[Nk];rfl,λu x B q=>by have:=az B;simp at this;omega,by rw[Nat.sub_self,PN];exact bu,ad _⟩,?_⟩
 rintro N g ⟨i,o,rfl,bB,F,hl,ap,Z,zM⟩
 have bC:o.length=n:=by rw[<-bl,<-hl];simp
 have gy:=F.bn
 simp only[O.fO]at gy
 have aI:f.size∉e.size::m.size::b:=λq=>by have:=h (g:=A) (ad _) _ q;omega
 refine dit (λq=>?_) λq=>?_
 .obtain⟨i,rfl⟩:∃C,i=C+1:=⟨i -1,V⟩
  have ek:((i+1:Nat):Int) -1=(i:Int):=V
  rw[ek]
  let⟨x,Q⟩:=cq o i
  have aq:(s.take n)[i]? =some x.1:=by rw[<-hl];simp[Q]
  have bm:oJ (bI [c] g) (.mk f.size 0 n 4) (s.take n):=by
   have H:=F.mZ OE.mono aI bo V;rw[<-hl];refine⟨bS,H.cap,H.fA,λC aC hy=>?_⟩;simp only[bT,jq]at hy;obtain⟨aa,R,rfl⟩:=hy;obtain⟨L,⟨D,i1,i2,i3,rfl,ha,-⟩,ar⟩:=H.jD C aa R;have aT:=gL g (S:=e.size::m.size::b) (c:=[c]) (by simp[t]);exact⟨_,⟨D,_,_,_,rfl,ha.le aT⟩,aT.jD ar⟩
  have bg:bZ (bI [c] g) w y:=aK.le ((gL e (c:=[c]) (by simp[t])).trans (fh Z.f))
  have hB:(n -(i+1))*(300+40*Cg 18)+(300+40*Cg 18)=(n -i)*(300+40*Cg 18):=by rw[<-pC];congr 1;omega
  have bd:(n -i)*(300+40*Cg 18)<=4*(300+40*Cg 18):=dt _ V
  have bk:i=0->x.1.params.length=0:=λG=>by subst G;obtain⟨n',rfl⟩:∃n',n=n'+1:=⟨n -1,V⟩;simp[s]at aq;rw[<-aq];rfl
  have be:∀j∈f.size::e.size::m.size::b,j<g.size:=bR (h (g:=g) V) (ad _) gy.2
  refine XP.kk (L9 (f:=f.size::e.size::m.size::b) be (by simp[t]) ⟨Z.r,bg,bm,gp⟩ V aq bk) (L2 V) λag r M1 hs I ba ai=>?_
  have bN:=ai.size
  intro bq ax
  obtain⟨aB,-,bO⟩:=iL (M:=M1) (d:=bq) (c:=ax) rfl rfl rfl
  clear_value ax
  have aH:=(F.fU OE.mono ai (by simp[t];omega)).ext OE.mono aB
  obtain⟨L,⟨D,i1,i2,i3,rfl,ha,-⟩,kZ⟩:=aH.cells Q
  have br:=kZ 0 _ rfl;have bs:=kZ 1 _ rfl
  refine⟨V,bS,D,br,V,bS,_,bs,V,bS,?_⟩
  obtain⟨wr,gs,-,bF⟩:=aH.set OE.mono (X:=List.range f.size) ⟨V,λv hb hn=>absurd (List.mem_range.2 hb) hn⟩ (k:=i) V (a:=(x.1,some r)) (cs:=[.s D,.i x.1.aT,.i r.op,.i r.bM,.s ag]) ⟨D,_,_,_,rfl,ha,λe' aN=>by simp at aN;subst aN;exact⟨rfl,rfl,fm.le (aB.cR _) hs⟩⟩
  refine⟨wr,?_⟩
  intro aN
  have bH:aN.size=ax.size:=aD _ _ _ _
  have aY:Rs c d e (P+5+(n -(i+1))*(300+40*Cg 18)+300+40*Cg 18) aN:=((Z.to ai ba).ext aB).put d2 (by show e.size<=f.size;omega) _ _
  refine⟨λv hb=>bh _ _ _ _ (by simp at hb;show v≠f.size;omega),⟨i,o.set i (x.1,some r),aS V V,V,gs,?_,λu aC B bz=>?_,⟨aY.f,aY.r.mono V⟩,V⟩,?_⟩
  .rw[tj,NZ (by simp[Q]),hl]
  .rw[ik]at B
   split at B
   .rename_i e';subst e';rw[ao V]at B;simp at B;subst B
    exact⟨r,rfl,I⟩
   .exact ap u aC B V
  .rw[aS V V];show((i:Int) -1+1).toNat<((i:Int)+1).toNat;omega
 .have G:i=0:=V
  subst G
  have ai:Le (bI (e.size::m.size::b) g) (bI b (aj g m.size 0 [.s w,.s (.mk f.size 0 n 4)])):=cp aJ λj hc=>by simp[hc]
  have H:=F.mZ OE.mono aI bo V
  have bd:(n -0)*(300+40*Cg 18)<=4*(300+40*Cg 18):=dt _ V
  have B:Rs c d m (P+5+(n -0)*(300+40*Cg 18)) g:=⟨F2.trans Z.f,Z.r⟩
  have B:=B.put G (ad _) 0 [.s w,.s (.mk f.size 0 n 4)]
  have aq:(o.map λx=>(x.1,x.2.getD (.mk 0 0 []))).map (·.1)=s.take n:=by rw[Xf,<-hl];rfl
  refine⟨w,.mk f.size 0 n 4,y,o.map λx=>(x.1,x.2.getD (.mk 0 0 [])),rfl,aK.le ((Z.f.cR (by simp[t])).trans ((cp aJ λj hc=>by simp[hc]))),⟨bS,H.cap,H.fA,λC aC hy=>?_⟩,⟨by rw[aq];exact gp,λx Q=>?_⟩,B.r.mono V,B.f⟩
  .simp only[bT,jq]at hy
   obtain⟨aa,R,rfl⟩:=hy
   let⟨r,I,hf⟩:=ap C aa R (dy _)
   obtain⟨L,⟨D,i1,i2,i3,rfl,ha,hb⟩,ar⟩:=H.jD C aa R
   obtain⟨rfl,rfl,ax⟩:=hb r I
   exact⟨_,⟨D,i3,by simp[I],ha.le ai,by simp only[I,pD];exact fm.le ai ax⟩,ai.jD ar⟩
  .simp only[Xg]at Q
   obtain⟨aa,R,rfl⟩:=Q
   let⟨C,D⟩:=List.mem_iff_getElem?.1 R
   let⟨r,I,hf⟩:=ap C aa D (dy _)
   rw[aq];simp only[I,pD];exact hf
end
end
structure Ov(S:List Nat)(m0 m:E)(lb:Nat)(s:O)(l:List cF)(sc:Nat):Prop where
 box:cB m lb kV [.s s,.i sc]
 gr:GS (lb::S) m0 m s l
 up:m0.size<=lb
def Ov.ext{S:List Nat}{c m b:E}{a d:Nat}{s:O}{l:List cF}(h:Ov S c m a s l d)(x:J m b):Ov S c b a s l d:=⟨h.box.ext x,h.gr.ext fQ.mono x,h.up⟩
def Ov.ne{S:List Nat}{b m:E}{a c:Nat}{s:O}{l:List cF}(h:Ov S b m a s l c):s.aC≠a:=h.gr.ne h.box bo
def LoP(S:List Nat)(f m:E)(c:Nat)(s:O)(P:List cF->Nat->Prop)(d:E):Prop:=∃a b e,Ov S f d c a b e/\P b e/\Fz [c,s.aC] m d/\(a.aC=s.aC\/m.size<=a.aC)
def KK{S:List Nat}{n e:E}{b f:Nat}{s w D:O}{l:List cF}{x:cF}(q:Ov S n e b s l f)(C:n.size<=e.size)(P:au (bI (s.aC::b::S) e) w x.args)(Q:mU (bI (s.aC::b::S) e) D x.bH)(t:l.length<=1000000)(hs:f<=1000000):
 aP cv 159 [vp b 0,oC x w D] e λW T=>W=vi (f:Nat)/\LoP S n e b s (λc d=>c=l++[x]/\d=f+1) T:=by
 apply vB (b,0)
 simp -zeta only[aG,aF]
 intro i
 have k:J e i:=J.push _ _
 have s1:i.size=e.size+1:=by simp[i]
 clear_value i
 have g:=q.ext k
 have hy:=g.gr.bn
 have I:=g.box.lt
 have aa:=q.box.lt
 have ab:=q.gr.bn
 refine⟨s,g.box.cK 0,?_⟩
 intro U
 have K:J i U:=J.push _ _
 refine⟨aM (K.same _ I) _,?_⟩
 have g1:GS (b::S) (e.extract 0 n.size) i s l:=Gr.cL fQ.mono g.gr (λL t=>Or.inl t) (by rw[jF C];exact ad _)
 refine Gr.kj (g:=[.i 0,.i 0,.i 0,.s .nil,.s .nil]) (k:=x) fQ.mono bo g1 (((J.NW C).trans k).fz []) ⟨w,D,rfl,P.le (k.cR _),eO.le Q (k.cR _) λ_ _=>qO.le (k.cR _)⟩ V λp u G Z X F=>?_
 have A:cB u b kV [.s s,.i f]:=g.box.congr (F b I (kE g.ne))
 have R:=G.ne A bo
 refine⟨λc d=>?_,A.fq aJ,?_⟩
 .simp at d;subst d
  rw[F e.size V V,K.same _ V]
 intro j
 have B:cB j b kV [.s p,.i f]:=cB.aj (m:=u) (o:=0) (r:=[.s p]) A
 have y:∀c,c≠b->j[c]? =u[c]? :=λc d=>bh _ _ _ _ d
 have s4:j.size=u.size:=aD _ _ _ _
 have M:cQ ((f:Int)+1)=(f+1:Nat):=by rw[aS V V];rfl
 refine⟨λc d=>y c (by simp at d;omega),_,B.cK 1,B.fq aJ,?_⟩
 rw[M]
 intro v
 have H:cB v b kV [.s p,.i (f+1:Nat)]:=cB.aj (m:=j) (o:=1) (r:=[.i (f+1:Nat)]) B
 have z:∀c,c≠b->v[c]? =j[c]? :=λc d=>bh _ _ _ _ d
 have s5:v.size=j.size:=aD _ _ _ _
 refine⟨λc d=>z c (by simp at d;omega),_,H.cK 1,?_⟩
 have N:GS (b::S) n v p (l++[x]):=by
  refine Gr.cL fQ.mono (G.re fQ.mono (Y:=[b]) ⟨V,λc d h=>?_⟩ aJ (by simp;exact R) λc d=>Or.inl d) (λL t=>Or.inl t) (by rw[jF C];exact ad _);have:c≠b:=by simpa using h
  exact(z c this).trans (y c this)
 refine⟨by rw[aS V V];congr 1;omega,p,_,_,⟨H,N,q.up⟩,⟨rfl,rfl⟩,⟨V,λc d h=>?_⟩,oh X.2⟩
 simp only[aW,iW,AG,uJ]at h
 rw[z c h.1,y c h.1,F c V h.2,k.same c d]
section
variable{K D d b:Nat}{a:List cF}
structure LW(ds:List bq)(nf:List Nat)(sc:Nat)(a:List cF)(K D sc':Nat):Prop where
 wl:WL ds nf False sc a
 dd:sc'=sc+dc a
 sz:sw a<=K
 nv:sc'<=sc+D
def LW.aH(b:List bq)(c:List Nat)(a:Nat):LW b c a [] 0 0 a:=⟨.nil _ _ _ _,aJ,aJ,V⟩
def LW.gE{c:List bq}{e:List Nat}{f g:Nat}(h:LW c e f a K D g)(j:K<=d)(i:D<=b):LW c e f a d b g:=⟨h.wl,h.dd,oh h.sz,oh h.nv⟩
def LW.trans{e:List bq}{f:List Nat}{i j k:Nat}{g:List cF}(h:LW e f i a K D j)(c:LW e f j g d b k):LW e f i (a++g) (K+d) (D+b) k:=
 ⟨h.wl.append (h.dd▸c.wl),by rw[c.dd,h.dd,cJ];omega,by have:=h.sz;have:=c.sz;rw[dv];omega,PO h.nv c.nv⟩
def LW.lj{b:List bq}{c:List Nat}{a:Nat}{x:cF}(h:WS b c False a x):LW b c a [x] x.w 1 (a+1):=⟨.lj h,by rw[jW,sA,ZI h],by simp[sw],V⟩
section
variable{S:List Nat}{e m f:E}{c g j:Nat}{s i:O}{l h:List cF}
def Ov.fS(h:Ov S e m c s l g)(d:J e m)(b:Fz [c,s.aC] m f):J e f:=by
 have k:=h.gr.bn;have j:=h.up;exact Fz.ext (((d.fz [c,s.aC]).trans b).CH λi a=>Or.inr (by simp at a;omega))
def Ov.re{S' Y:List Nat}(h:Ov S e m c s l g)(j:Fz Y m f)(d:∀b∈Y,b∈S/\b≠c/\b≠s.aC)(k:∀b∈S',b∈S\/m.size<=b):Ov S' e f c s l g:=
 ⟨h.box.congr (j.same _ h.box.lt λi=>(d _ i).2.1 rfl),h.gr.re fQ.mono j (λb a=>ah _ (d b a).1) (λi=>(d _ i).2.2 rfl) λb a=>(List.mem_cons.1 a).elim (λi=>Or.inl (by rw[i];exact aZ)) λa=>(k b a).imp (ah _) id,h.up⟩
end
structure LS(S:List Nat)(m0 m:E)(lb:Nat)(s:O)(l:List cF)(sc:Nat)(LG:O)(ev:List Int):Prop where
 em:Ov S m0 m lb s l sc
 x:J m0 m
 fS:∀c∈S,c<m.size
 LG:au (bI [s.aC,lb] m) LG ev
 sm:∀y∈ev,0<=y/\y<(sc:Int)
def ZO(e:Ex)(t:O):Value:=.agg #[vi e.op,vi e.bM,O.v t]
def UE(b:List bq)(h:List Nat)(e:Ex):Prop:=∀(S:List Nat)(c m:E)(d:Nat)(s:O)(l:List cF)(f:Nat)(LG:O)(ev:List Int)(g p t:O),LS S c m d s l f LG ev->WX b h ev.length e->f+4*e.n<=2000->ev.length+4*e.n<=2000->l.length+4*e.n<=2000->bZ c g b->dI b->fm c t e.bH->
 aP cv 113 [vp d 0,.agg #[O.v g,O.v p],ZO e t,O.v LG] m λv k=>∃r:Int,v=vi r/\LoP S c m d s (λj i=>∃a,j=l++a/\LW b h f a (3*e.n -1) e.n i/\0<=r/\r<(i:Int)) k
def Zx(a:List bq)(f:List Nat)(e:Ex):Prop:=∀(S:List Nat)(m:E)(b:Nat)(LG:O)(ev:List Int)(d p t:O),(∀c∈S,c<m.size)->au m LG ev->(∀y∈ev,0<=y/\y<(b:Int))->WX a f ev.length e->b+4*e.n<=2000->ev.length+4*e.n<=2000->bZ m d a->dI a->fm m t e.bH->
 mO 71 [.agg #[O.v d,O.v p],ZO e t,O.v LG,vi b] m S λc=>WB a f False b c/\c.w<=3*e.n
def _root_.Go.Vc.Ex.MN(e:Ex):1<=e.n:=by rw[Ex.Yr];omega
def Cu{s:List bq}{w:List Nat}{e:Ex}(k:UE s w e):Zx s w e:=by
 intro i v n LG ev C R X t H L N ab Z hd M I;apply xY;simp -zeta only[aG,aF];intro P f b c d;let⟨g,hl,s1,s2,s3⟩:=pJ (a:=P) (b:=f) (c:=b) rfl rfl rfl;have p:J b c:=J.push _ _;have W:c.size=b.size+1:=by simp[c]
 have F:GS ((b.size+1)::f.size::i) b c (.mk b.size 0 0 0) []:=Gr.new _ (ad _) _ _ _;have h:J c d:=J.push _ _;have z:cB d c.size kV [.s (.mk b.size 0 0 0),.i n]:=cB.push _ _ _;clear_value d c b;have Y:=g;have q:=(g.trans p).trans h;have z5:=h.size;have G:∀r∈f.size::i,r<d.size:=bR t q.size V;have O:Ov (f.size::i) b d c.size (.mk b.size 0 0 0) [] n:=⟨z,W▸F.ext fQ.mono h,V⟩;have hp:=e.MN;refine(k (f.size::i) b d c.size _ [] n LG ev C R X ⟨O,p.trans h,G,(H.le (((g.trans p).trans h).bI (S:=[]) bS|>λk=>(yW v).trans k)),L⟩ N V V bS (hd.le g.le) M (fm.le g.le I)).mono λae Q⟨x,E,y,m,ac,o6,⟨a,D,o,T,U⟩,j,b6⟩=>?_;subst D;have z6:=j.size;have A:J v Q:=Fz.ext (((q.fz [c.size,b.size]).trans j).CH λB l=>by simp at l;omega);refine⟨j.de λB l=>by simp at l;simp;omega,x,E,y,o6.box.cK 0,?_⟩;intro m7;have hz:=o.sz;have aa:=fw m;refine⟨y,.mk m x,rfl,eG.le (cp aJ λr u=>by simp[u]) (o6.gr.mZ fQ.mono (λu=>?_) bo (by show m.length<=_;omega)),⟨WB.of o.wl ⟨T,by rw[<-o.dd];exact U⟩,by rw[Bk.pY];omega⟩,A.aj V _ _⟩;have hy:=o6.gr.bn;have K:=o6.ne;simp only[aW]at u;rcases u with e|e|e
 .exact K e
 .omega
 .have:=t _ e;omega
end
section
variable{M c:E}{a:Nat}
def OX{m:E}{t:O}{l:List Ex}(h:fm m t l){k:Nat}{x:Ex}(f:l[k]? =some x)(a:J m M):∃u,fm m u x.bH/\af M t.aC (t.off+k*3)=some (vi x.op)/\af M t.aC (t.off+k*3+1)=some (vi x.bM)/\af M t.aC (t.off+k*3+2)=some (O.v u):=
 let⟨u,b,c,d,e⟩:=h.aQ f;⟨u,b,a.af c,a.af d,a.af e⟩
def gx(x:J M c){o:Nat}{v:Value}(h:af M a o=some v):af c a o=af M a o:=by rw[x.af h,h]
def gl(x:J M c)(h:a<M.size)(o:Nat):af c a o=af M a o:=aM (x.same a h) o
def TD{q:List bq}{nf:List Nat}{p bM:Int}{bH:List Ex}(ih:∀t∈bH,UE q nf t):UE q nf (.mk p bM bH):=by
 intro u W D d A aa sc LG ev ak an bu e hw bs bi bp hd ht hk;have N:=hw.bC;simp only[ZO,Ex.VY,Ex.TR,Ex.Rb,Ex.RN]at*;apply tz (d,0);simp -zeta only[aG,aF];intro am s;let⟨G,hl⟩:=dk (a:=am) (c:=s) rfl rfl;have s1:am.size=D.size+1:=by simp[am]
 have s2:s.size=D.size+2:=by simp[s,s1]
 clear_value s;have aT:=hk.len;have bm:=hk.fA;have bn:=e.em.box.lt;have i:=e.em.gr.bn;have br:=e.em.ne;have cR:∀{M:E}{f:O},Fz [d,A.aC] D M->(f.aC=A.aC\/D.size<=f.aC)->Le (bI [A.aC,d] D) (bI [f.aC,d] M):=λab g=>oP λa aD hn=>by
  simp at hn;exact⟨by simp;rcases g with t|t<;>omega,ab.same a aD bS⟩
 have st:∀{ar:List Nat}{M:E}{f:O}{l':List cF}{F:Nat},Ov ar W M d f l' F->Fz [d,A.aC] D M->(f.aC=A.aC\/D.size<=f.aC)->(∀l∈ar,l<M.size)->sc<=F->LS ar W M d f l' F LG ev:=λai ab g hS hs=>⟨ai,e.em.fS e.x ab,hS,e.LG.le (cR ab g),λy i=>⟨(e.sm y i).1,oh ((e.sm y i).2)⟩⟩;have de:∀{M c:E}{f:O},s.size<=M.size->(f.aC=A.aC\/s.size<=f.aC)->Fz [d,f.aC] M c->eF [am.size,D.size] M c:=λhz g ab=>ab.de λa aD=>by simp at aD;simp;omega
 have aj:∀{M c:E},s.size<=M.size->J M c->eF [am.size,D.size] M c:=λhz be=>be.de λa g=>by simp at g;omega
 have fr:∀{M c:E}{f:O},Fz [d,A.aC] D M->(f.aC=A.aC\/s.size<=f.aC)->Fz [d,f.aC] M c->Fz [d,A.aC] D c:=λab g L=>ab.rf L λy i=>by simp at i⊢;omega
 refine⟨λao=>?_,λao=>⟨λag=>?_,λag=>⟨λal=>?_,λal=>?_⟩⟩⟩
 .simp only[aO]at ao;let⟨j,o⟩:=N.1.Uh ao;have k:=e.LG.len;let⟨y,v⟩:=cq ev bM.toNat;have h:=e.sm y (av v);exact⟨j,V,y,(eA.1 ((e.LG.le (G.cR _)).aQ v)).2,y,rfl,A,aa,sc,e.em.ext G,⟨[],aJ,(LW.aH q nf sc).gE V V,h⟩,G.fz _,Or.inl rfl⟩
 .simp only[aO]at ag;have h2:=N.1.Jr ag;let⟨T,U⟩:=cq bH 0;let⟨j,h⟩:=cq bH 1;have aN:en bH=T.n+j.n:=by
   obtain⟨w,a,rfl⟩:∃w a,bH=[w,a]:=by
    match bH,h2 with
    |[w,a],_=>exact⟨w,a,rfl⟩
   simp at U h;subst U h;simp[en]
  have p0:=T.MN;have p1:=j.MN;let⟨u0,aH,g0,g1,g2⟩:=OX hk U (e.x.trans G);refine⟨bo,V,_,g0,_,g1,_,g2,?_⟩;have S2:=st (e.em.ext G) (G.fz _) (Or.inl rfl) (λl r=>oh (e.fS l r)) (ad _);refine(ih T (av U) u W s d A aa sc LG ev ak an u0 S2 (by have:=N.2 0 T U;simpa[xb]using this) V V V hd ht aH).mono λR o⟨P,ax,H,l3,Q,o3,⟨af,aw,Z,bc,bd⟩,f3,b3⟩=>⟨de (ad _) (Or.inl rfl) f3,P,ax,?_⟩;subst aw;have F3:=fr (G.fz _) (Or.inl rfl) f3;have z3:=f3.size;have X3:=e.em.fS e.x F3;let⟨u1,aB,k0,k1,k2⟩:=OX hk h X3;have a3:=Z.nv;have a9:=fw af;have bb:=Z.sz;refine⟨bo,V,_,k0,_,k1,_,k2,?_⟩;have S3:=st o3 F3 V (λl r=>oh (e.fS l r)) (oh Z.dd);have z:∀l∈[H.aC,d],l<o.size:=λl r=>by have:=o3.gr.bn;have:=o3.box.lt;simp at r;omega
  intro C;have k:J o C:=J.push _ _;have aC:au (bI [H.aC,d] C) (.mk o.size 0 1 1) [P]:=au.lit aA _ z rfl rfl aJ;clear_value C;refine⟨gx k k0,gx k k1,gx k k2,gl k V _,gl k V _,gl k V _,?_⟩;have z4:=k.size;refine(eD (S:=[H.aC,d]) (λl r=>k.lt (z l r)) (S3.LG.le (k.cR _)) aC bS).mono λR m5⟨I,l5,e5,g5,q5,B⟩=>⟨aj V B,I,e5,gx B (k.af k0),gx B (k.af k1),gx B (k.af k2),gl B V _,gl B V _,gl B V _,?_⟩;subst q5;have z5:=B.size;have S5:LS u W m5 d H (aa++af) Q I (ev++[P]):=⟨(o3.ext k).ext B,(X3.trans k).trans B,λl r=>oh (e.fS l r),GI.done g5 (λl r=>k.lt (z l r)) bS,λy i=>by
   rcases List.mem_append.1 i with i|i
   .have:=e.sm y i;have:=Z.dd;omega
   .simp at i;omega⟩
  refine(ih j (av h) u W m5 d H (aa++af) Q I (ev++[P]) ak an u1 S5 (by have:=N.2 1 j h;simpa[xb,ag]using this) V bS bS hd ht aB).mono λR m6⟨r1,aq,s6,l6,aM,o6,⟨aE,ac,w6,aK,aL⟩,K,b6⟩=>⟨de V V K,r1,aq,r1,rfl,s6,l6,aM,o6,⟨af++aE,by rw[ac,fe],(Z.trans w6).gE V V,aK,aL⟩,fr ((F3.then k).then B) V K,V⟩
 .simp only[cD,aO]at al;have h3:p=7->bH.length=3:=N.1.Y3;have aC:p=8->bH.length=1+(cb q bM).length/\0<(cb q bM).length:=N.1.all;have a7:1<=bH.length:=by rcases al with h|h;have:=h3 h;omega;have:=aC h;omega
  let⟨T,U⟩:=cq bH 0;have bj:en (bH.take 1)=T.n:=by have:=Jx U;simpa using this
  have bk:=Q1 bH 1;have p0:=T.MN;let⟨u0,aH,g0,g1,g2⟩:=OX hk U (e.x.trans G);refine⟨bo,V,_,g0,_,g1,_,g2,?_⟩;have S2:=st (e.em.ext G) (G.fz _) (Or.inl rfl) (λl r=>oh (e.fS l r)) (ad _);refine(ih T (av U) u W s d A aa sc LG ev ak an u0 S2 (by have:=N.2 0 T U;simpa[xb]using this) V V V hd ht aH).mono λR o⟨P,ax,H,l3,Q,o3,⟨af,aw,Z,bc,bd⟩,f3,b3⟩=>⟨de (ad _) (Or.inl rfl) f3,P,ax,?_⟩;subst aw;have F3:=fr (G.fz _) (Or.inl rfl) f3;have z3:=f3.size;have X3:=e.em.fS e.x F3;have a3:=Z.nv;have a9:=fw af;have bb:=Z.sz;have S3:=st o3 F3 V (λl r=>oh (e.fS l r)) (oh Z.dd);have aB:∀l∈H.aC::d::u,l<o.size:=bR (bR (m:=D) e.fS V o3.box.lt) (ad _) o3.gr.bn.2;intro C;have k:J o C:=J.push _ _;have g4:GB (H.aC::d::u) o C (.mk o.size 0 0 0) []:=GB.new _ o;have s4:C.size=o.size+1:=by simp[C]
  clear_value C;refine(gP (e:=[o.size]) bS (hd.le (X3.trans k).le) ht bM).mono λR m5⟨cs,cl,ec,r,qc,B⟩=>⟨aj V B,cs,ec,?_⟩;subst qc;have bh:=r.len;have z5:=B.size;refine Qc (a:=bH.length) (aT▸hk.fA) a7 (λj ks M=>∃z,GB (H.aC::d::u) o M ks z/\z.length+1=j/\(∀(ac:Nat)(a:Bk),z[ac]? =some a->WB q nf False (Q+AI q p bM ac) a)/\bw z+3*T.n<=3*en (bH.take j)/\J o M/\Fz [o.size] m5 M/\(ks.aC=o.size\/m5.size<=ks.aC)) ⟨[],g4.ext qO.mono B,rfl,aJ,bS,k.trans B,Fz.aH _ _,Or.inl rfl⟩ ?_;rintro j ks M a0 μ bl hj ⟨z,L,aR,aV,a4,xM,fM,aQ⟩ aK
  have zM:=xM.size;have aP:=L.bn;have oM:=o3.box.ext xM;refine dit (λh=>?_) λh=>?_
  .have ew:cQ ((j:Int) -1)=((j -1:Nat):Int):=by rw[aS V V];omega
   refine⟨λaZ c=>J M c/\aZ=(AI q p bM (j -1):Nat),⟨λh8=>?_,λh8=>⟨J.aH _,by simp only[ap]at h8;rw[JQ h8];rfl⟩⟩,?_⟩
   .simp only[aO]at h8;have ha:=aC h8;let⟨y,v⟩:=cq (cb q bM) (j -1);rw[ew];refine⟨V,V,y,(eA.1 ((r.le (fM.cR aJ)).aQ v)).2,?_⟩;refine(dF (e:=[]) aJ (hd.le ((X3.trans xM).le.trans (yW _))) ht y).mono λR m6⟨K,l6,e6,h6,q6,I⟩=>⟨aj V I,K,e6,I,?_⟩;subst q6;rw[JP h8 v,h6.len]
   rintro aZ m6 ⟨I,rfl⟩;let⟨t,he⟩:=cq bH j;have X6:=(X3.trans xM).trans I;let⟨aM,hu,k0,k1,k2⟩:=OX hk he X6;have B6:=oM.ext I;have z6:=I.size;refine⟨V,V,_,k0,_,k1,_,k2,_,B6.cK 1,_,B6.cK 1,?_⟩;have bf:=OP ht p bM (j -1);have a6:=Jx he;have a5:=Q1 bH (j+1);have a_:=t.MN;refine(lA (S:=[]) (d:=m6) aJ Q (AI q p bM (j -1)) V).mono λR m7⟨s7,l7,e7,g7,q7,v⟩=>⟨aj V v,s7,e7,gx v (B6.cK 1),gx v k0,gx v k1,gx v k2,gl v V _,gl v V _,gl v V _,?_⟩;have z7:=v.size;have a2:au (bI [] m7) LG ev:=(S3.LG.le ((((xM.trans I).trans v).cR _).trans (bA _ _))).le (yW _);refine(eD (S:=[]) aJ a2 (GI.done g7 aJ V) V).mono λR m8⟨s8,l8,e8,g8,q8,K⟩=>⟨aj V K,s8,e8,gx K ((B6.ext v).cK 1),gx K (v.af k0),gx K (v.af k1),gx K (v.af k2),gl K V _,gl K V _,gl K V _,?_⟩;subst q8;have z8:=K.size;have a8:(ev++l7).length=ev.length+AI q p bM (j -1):=by simp;exact q7.2
   rw[aS (b:=(Q:Int)+(AI q p bM (j -1):Nat)) V V,show(Q:Int)+(AI q p bM (j -1):Nat)=((Q+AI q p bM (j -1):Nat):Int)by omega];have aq:=(I.trans v).trans K;have ba:WX q nf (ev++l7).length t:=by
    have:=N.2 j t he;rw[a8];obtain⟨j',rfl⟩:∃j',j=j'+1:=⟨j -1,V⟩;have a1:xb q p bM (j'+1)=AI q p bM j':=ae (by simpa using ag);rwa[a1]at this
   refine(Cu (ih t (av he)) (ks.aC::H.aC::d::u) m8 _ s8 (ev++l7) ak an aM (bR (λl r=>oh (aB l r)) (ad _) V) ((GI.done g8 aJ V).le (bA _ _)) (λy i=>?_) ba V V (hd.le ((X6.trans v).trans K).le) ht (fm.le ((X6.trans v).trans K).le hu)).mono λR m9⟨s9,b9,e9,h9,q9,x9⟩=>⟨aj V x9,s9,_,e9,?_⟩
   .rcases List.mem_append.1 i with i|i
    .have:=S3.sm y i;omega
    .have:=q7.1 y i;omega
   intro bt;have z9:=x9.size;have bg:=pK z;refine GB.kj (c:=b9) ((L.ext qO.mono aq).ext qO.mono x9) (((xM.trans aq).trans x9).fz []) h9 V λaL c g' f' z' q'=>⟨λa g=>by
    have aN:a<o.size:=by simp at g;omega
    rw[f'.ext.same a aN,(((xM.trans aq).trans x9).aR _).same a aN],aK V _ _ ⟨_,g',by rw[aU,List.length_singleton];omega,λac a hi=>?_,?_,f'.ext,(fM.then (aq.trans x9)).rf (Y:=[ks.aC]) ⟨z'.1,λa g hn=>q' a g (by simpa using hn)⟩ (λy i=>by simp at i⊢;omega),oh fM.size⟩⟩
   .rcases aX ac z.length with aE|aE
    .rw[ay aE]at hi;exact aV ac a hi
    .rw[aI aE]at hi;have:ac -z.length=0:=by have:=az hi;simp at this;omega
     rw[this]at hi;simp at hi;subst hi;have:ac=j -1:=V;subst this;exact q9.1
   .rw[nY,tQ,yH];have:=q9.2;omega
  .have K:j=bH.length:=V;subst K;rw[gY]at a4;intro m6;have I:J M m6:=J.push _ _;have aZ:au (bI (H.aC::d::u) m6) (.mk M.size 0 1 1) [P]:=au.lit aA _ (λl r=>oh (aB l r)) rfl rfl aJ;have z6:=I.size;have aQ:mU (bI (H.aC::d::u) m6) ks z:=mU.le (I.cR _) (L.done qO.mono aB bo (oh (pK z)));clear_value m6;have X6:=xM.trans I;refine(KK (x:=⟨p,bM,0,[P],z⟩) (o3.ext X6) (X3.trans X6).size aZ aQ bS V).mono λR m7⟨aN,s7,l7,a1,o7,⟨aq,aE⟩,v,b7⟩=>⟨de V V v,Q,aN,Q,rfl,s7,l7,a1,o7,⟨af++[⟨p,bM,0,[P],z⟩],by rw[aq,fe],?_,V,V⟩,fr (F3.then X6) V v,V⟩;have ws:WS q nf False Q ⟨p,bM,0,[P],z⟩:=⟨⟨Or.inl (by show 0<=p/\p<=11;omega),bS,λ_=>rfl,⟨by show(0:Int)<=0;omega,by show(0:Int)<=_;omega⟩,λh=>by show z.length=2;have:=h3 h;omega,λh=>by show z.length=(cb q bM).length/\0<z.length;have:=aC h;omega,λh=>absurd rfl h,by rcases al with h|h<;>subst h<;>simp[Ar]⟩,aV⟩;subst aE;exact(Z.trans (LW.lj ws)).gE (by rw[cF.k8];simp only[aY,cE];omega) V
 .simp only[bW,ap]at al;simp only[ap]at ao ag;have ho:=N.1.o;intro o;have x3:J s o:=J.push _ _;have g3:GI [] s o (.mk s.size 0 0 0) []:=GI.nil [] s;have aQ:o.size=s.size+1:=by simp[o]
  clear_value o;have o3:Ov (s.size::u) W o d A aa sc:=(e.em.ext G).re (x3.fz []) aJ λa g=>(List.mem_cons.1 g).elim (λh=>Or.inr V) Or.inl;refine dE (n:=bH.length) (aT▸hk.fA) (λj w M=>∃f F r l,Ov (w.aC::u) W M d f (aa++r) F/\LW q nf sc r (3*en (bH.take j) -j) (en (bH.take j)) F/\GI [] s M w l/\l.length=j/\(∀y∈l,0<=y/\y<(F:Int))/\Fz [d,A.aC] D M/\(f.aC=A.aC\/s.size<=f.aC)/\s.size<=M.size) ⟨A,sc,[],[],by simpa using o3,(LW.aH q nf sc).gE (dy _) (dy _),g3,rfl,aJ,(G.trans x3).fz _,Or.inl rfl,V⟩ ?_;rintro j w M a0 μ hj ⟨f,F,r,l,ai,v,L,aR,T,fM,g,zM⟩ aK
  have H:=e.em.fS e.x fM;have af:=v.nv;have aE:=v.dd;have aP:=L.bn;have B:w.aC≠d:=L.ne ai.box bo;have Kp:w.aC≠f.aC:=L.Kp ai.gr bo;have aN:=fw r;have aw:=v.sz;have a5:=Q1 bH j;refine dit (λh=>?_) λh=>?_
  .let⟨t,he⟩:=cq bH j;let⟨aM,hu,k0,k1,k2⟩:=OX hk he H;have a6:=Jx he;have aH:=Q1 bH (j+1);have a_:=t.MN;have aq:=P7 (bH.take j);rw[eJ,jv V]at aq;refine⟨V,V,_,k0,_,k1,_,k2,?_⟩;have SM:=st ai fM V (bR (m:=D) e.fS V aP.2) V;refine(ih t (av he) (w.aC::u) W M d f (aa++r) F LG ev ak an aM SM (by have:=N.2 j t he;rwa[Y6 V V]at this) V V bS hd ht hu).mono λR C⟨aL,er,s4,l4,aC,U,⟨aB,ac,Z,P,r1⟩,z,b4⟩=>⟨de zM g z,aL,er,?_⟩;subst ac;have z4:=z.size;have F4:=fr fM g z;intro m5;have Q:GI [] s C w l:=GI.any (c:=[d,f.aC]) ((GI.any (e:=[d,f.aC]) L).ML tp.mono z (λ_ h=>h) (by simp;exact⟨B,Kp⟩));have ax:w.aC≠s4.aC:=Q.Kp U.gr bo;refine GI.kj Q (X:=List.range s.size) ⟨V,λa g hn=>absurd (List.mem_range.2 g) hn⟩ aJ V λa' c g' f' z' q'=>?_;have I:Fz [w.aC] C c:=⟨z'.1,λa g hn=>q' a g (by simpa using hn)⟩;refine⟨λa g=>?_,aK V _ _ ⟨s4,aC,r++aB,l++[aL],?_,(v.trans Z).gE V V,g',bS,λy i=>?_,F4.rf I λy i=>by simp at i⊢;omega,V,V⟩⟩
   .simp at g;rw[q' a V V,(J.push C _).same a V]
   .rw[<-fe];exact U.re I (by simp;exact⟨B,ax⟩) λa g=>(List.mem_cons.1 g).elim (λt=>by subst t;rcases z'.2 with t|t;exact Or.inl (by simp[t]);exact Or.inr t) λh=>Or.inl (ah _ h)
   .have:=Z.dd;rcases List.mem_append.1 i with i|i
    .have:=T y i;omega
    .simp at i;omega
  .have K:j=bH.length:=V;subst K;rw[gY]at v af aw;have aq:=P7 bH;intro C;have k:J M C:=J.push _ _;have Q:w.aC∉f.aC::d::u:=by
    simp only[aW,uJ];exact⟨Kp,B,λh=>oh (e.fS _ h)⟩
   have ha:au (bI (f.aC::d::u) M) w l:=(GI.any (e:=f.aC::d::u) L).mZ tp.mono Q bo V;have U:Ov u W M d f (aa++r) F:=ai.re (Fz.aH [] _) aJ λa g=>Or.inl (ah _ g);have z4:=k.size;refine(KK (x:=⟨p,bM,0,l,[]⟩) (U.ext k) (H.trans k).size (ha.le (k.cR _)) (lU _ _ _ _ _ _) bS V).mono λR m5⟨P,Z,l5,ac,o5,⟨z,I⟩,t,b5⟩=>⟨de V g t,F,P,F,rfl,Z,l5,ac,o5,⟨r++[⟨p,bM,0,l,[]⟩],by rw[z,fe],?_,V,V⟩,fr (fM.then k) g t,V⟩;have ws:WS q nf False F ⟨p,bM,0,l,[]⟩:=⟨⟨Or.inl (by show 0<=p/\p<=11;omega),T,λh=>by simp only at h;omega,⟨by show(0:Int)<=0;omega,by show(0:Int)<=_;omega⟩,λh=>by simp only at h;omega,λh=>by simp only at h;omega,λh=>absurd rfl h,aR▸N.1.ar V⟩,aJ⟩;subst I;exact(v.trans (LW.lj ws)).gE (by rw[cF.k8];simp only[yH];omega) V
def TE{a:List bq}{c:List Nat}:∀e:Ex,UE a c e:=Ex.ind λ_ _ _ b=>TD b
end
section
variable{b:List Nat}{c:E}{d p:O}{l:List (da×Ex)}
def Zc(l:List (da×Ex))(k:Nat)(q:eQ):Prop:=∃x,l[k]? =some x/\q.params=x.1.params/\q.dg=[]/\q.aT=x.1.aT
def vF(hS:∀g∈b,g<c.size){T:List bq}(hd:bZ c d T)(hp:UB c p l)(ac:UF T l):qP 37 [.agg #[O.v d,O.v p]] c b T λX=>uK T X False 95/\X.length=l.length/\∀(z:Nat)(q:eQ),X[z]? =some q->Zc l z q:=by
 apply Ab;simp -zeta only[aG,aF];have ht:=pH ac.gp.ds;intro s a2;let⟨Q,hl⟩:=dk (a:=s) (c:=a2) rfl rfl;have s1:s.size=c.size+1:=by simp[s]
 clear_value a2;have aQ:=hp.len;have a0:l.length<=4:=by have:=ac.gp.nv;simpa using this
 have aO:0<l.length:=by have:=ac.gp.gR;simpa using this
 refine(fD (b:=s.size::b) (bR hS Q.size (hl _ aJ)) (hd.le Q.le) ht).mono λ_ aw⟨dd,h,aM,x3⟩=>?_;subst h;refine⟨x3.de hl,_,rfl,?_⟩;intro u aT aE;have u2:=Q.trans x3;let⟨x5,B0,g0,s3,s5⟩:=kC (b:=u.size::s.size::b) iv.mono (d:=aw) (a:=u) (c:=aT) (h:=aE) rfl rfl rfl;clear_value aE;have ai:∀g∈[s.size,c.size],g<aw.size:=λg k=>x3.lt (hl g k);have aB:∀g∈s.size::b,g<aw.size:=λg k=>x3.lt (bR hS Q.size (hl _ aJ) g k);refine ka (R:=λv0 v1 I=>∃d W X,Value.agg #[O.v v0,O.v v1]=.agg #[O.v d,O.v W]/\dY (bI b I) d W T X/\(uK T X False 95/\X.length=l.length/\∀(z:Nat)(q:eQ),X[z]? =some q->Zc l z q)/\J c I) (t:=l.length) (f:=c) (b:=b) iv.mono bo bo hS ⟨V,ai _ aJ⟩ u2 s3 aM aQ V x5 B0 g0 (λz q=>((pf (l.map (·.1)))[z]? =some q.params.length/\q.params.length<=3/\q.dg.length<=3/\WB T (pf (l.map (·.1))) False q.params.length q.body/\q.body.w<=95)/\Zc l z q) (λj w l' m' h1 h2 e f t=>⟨j,w,l',rfl,⟨h1,h2,ht,V⟩,⟨TQ (by simpa[pf]using aO) (by simpa[pf]using e) λv q aa=>(f v q aa).1,e,λz q aa=>(f z q aa).2⟩,t⟩) λz I C l' aK μ aN aY xM aA am aU=>?_
 let⟨q,hq⟩:=cq l z aN;let⟨aS,aZ⟩:=ac.yN q (av hq);have aR:q.1.params.length<=3:=(tJ _ (ac.gp.df q.1 (List.mem_map.2 ⟨q,av hq,rfl⟩))).1;have Z:=u2.trans xM;obtain⟨cs,⟨ap,aI,rfl,ha,hk⟩,hr⟩:=hp.jD z q hq;have aD:=ha.len;refine⟨V,V,_,Z.af (hr 0 _ rfl),_,Z.af (hr 1 _ rfl),_,Z.af (hr 2 _ rfl),_,Z.af (hr 3 _ rfl),_,Z.af (hr 4 _ rfl),?_⟩;intro m7 v;have hy:=aA.bn;have aX:=am.lt;have zM:=xM.size;obtain⟨x8,-,s8⟩:=iL (M:=I) (d:=m7) (c:=v) rfl rfl rfl;clear_value v;have Y:∀g∈[I.size,s.size,c.size],g<v.size:=λg k=>by
  rcases List.mem_cons.1 k with h|h
  .omega
  .have:=ai g h;omega
 have w8:=Z.trans x8;have ae:∀{x:E},v.size<=x.size->∀g∈C.aC::u.size::s.size::b,g<x.size:=λaa g k=>by
  simp only[aW]at k;rcases k with h|h|h|h
  .omega
  .omega
  .have:=aB g (by simp[h]);omega
  .have:=aB g (by simp[h]);omega
 have hm:=u2.size;have aH:∀{x:E},J v x->∀{ao:Value->E->Prop},(∀L K j,au j L K->K.length=q.1.params.length->(∀y∈K,0<=y/\y<(q.1.params.length:Int))->J x j->ao (O.v L) j)->aP cv 65 [vi 0,vi (ap.len:Int)] x ao:=λ{x} A ao hk'=>by
  rw[aD];exact(lA (S:=[]) (d:=x) aJ 0 q.1.params.length V).mono λay j⟨L,K,h,gn,qn,xn⟩=>by
   subst h;exact hk' L K j ((GI.done gn aJ V).le (bA _ _)) qn.2 (λy hy=>oh (qn.1 y hy)) xn
 have fS:∀{x:E}{az:List Nat}{L:O}{K:List Int},(∀g∈az,g<x.size)->J v x->au x L K->K.length=q.1.params.length->(∀y∈K,0<=y/\y<(q.1.params.length:Int))->mO 71 [.agg #[O.v d,O.v p],.agg #[vi q.2.op,vi q.2.bM,O.v aI],O.v L,vi (ap.len:Int)] x az λN=>WB T (pf (l.map (·.1))) False q.1.params.length N/\N.w<=3*q.2.n:=λaL A hs h1 h2=>by
  rw[aD];exact Cu (TE q.2) _ _ q.1.params.length _ _ d p aI aL hs h2 (by rw[h1];exact aS) V V (hd.le (w8.trans A).le) ht (fm.le (w8.trans A).le hk)
 have G:∀{B j:E}{N ab:Nat},v.size<=B.size->J B j->N<v.size->af j N ab=af B N ab:=λaa A hb=>gl A V _;have t:I.size<v.size:=V;have P:c.size<v.size:=Y _ aJ;refine⟨λN x=>∃w aC,N.2=0/\v.size<=N.1/\cB x N.1 cZ [.s w,.i aC.aT]/\eG (bI (C.aC::u.size::s.size::b) x) w aC.aE/\(WB T (pf (l.map (·.1))) False q.1.params.length aC/\aC.w<=3*q.2.n)/\J v x,⟨?_,?_⟩,?_⟩
 .refine aH (J.aH v) λL K H hs ag ak e=>⟨e.de Y,L,rfl,G (ad _) e t,G (ad _) e t,G (ad _) e t,G (ad _) e P,G (ad _) e P,?_,?_⟩;all_goals have y:=e.size
  .refine(fS (az:=C.aC::u.size::s.size::b) (ae y) e hs ag ak).mono λay F⟨w,aC,h,ax,aV,f⟩=>⟨f.de λg k=>e.lt (Y g k),w,_,h,?_⟩;have al:=f.size;intro U;have D:J F U:=J.push _ _;refine⟨G V D t,G V D t,G V D t,G V D P,G V D P,?_⟩;intro ar;let⟨an,aq,a1⟩:=iL (M:=F) (d:=U) (c:=ar) rfl rfl rfl;exact⟨w,aC,rfl,by show v.size<=F.size;omega,aq,eG.le (an.cR _) ax,aV,(e.trans f).trans an⟩
  .intro F;have f:J H F:=J.push _ _;have an:cB F H.size cZ [.s .nil,.i 0]:=cB.push _ _ _;have al:=f.size;clear_value F;refine⟨G y f t,G y f t,G y f t,G y f P,G y f P,?_⟩;refine(fS (az:=H.size::C.aC::u.size::s.size::b) (bR (ae y) al an.lt) (e.trans f) (hs.ext f) ag ak).mono λay U⟨w,aC,h,aq,ax,D⟩=>⟨D.de λg k=>?_,w,_,h,?_⟩
   .rcases List.mem_cons.1 k with h|h
    .rw[h];exact an.lt
    .have:=Y g h;omega
   intro ar;exact⟨w,aC,rfl,y,cB.aj (m:=U) (o:=0) (r:=[.s w,.i aC.aT]) (an.ext D),eG.le (cp aJ λg k=>ah _ k) aq,ax,((e.trans f).trans D).aj y _ _⟩
 .intro H;have e:J v H:=J.push _ _;have B9:cB H v.size cZ [.s .nil,.i 0]:=cB.push _ _ _;have y:=e.size;clear_value H;refine⟨G (ad _) e t,G (ad _) e t,G (ad _) e t,G (ad _) e P,G (ad _) e P,?_⟩;have sm:∀{B j:E},H.size<=B.size->J B j->eF [v.size,I.size,s.size,c.size] B j:=λaa A=>A.de λg k=>by
   rcases List.mem_cons.1 k with h|h
   .have:=B9.lt;omega
   .have:=Y g h;omega
  refine aH e λL K F hs ag ak f=>⟨sm (ad _) f,L,rfl,G y f t,G y f t,G y f t,G y f P,G y f P,?_⟩;have al:=f.size;refine(fS (az:=v.size::C.aC::u.size::s.size::b) (bR (ae (x:=F) V) (ad _) (oh B9.lt)) (e.trans f) hs ag ak).mono λay U⟨w,aC,h,aq,ax,D⟩=>⟨sm al D,w,_,h,?_⟩;intro ar;exact⟨w,aC,rfl,ad _,cB.aj (m:=U) (o:=0) (r:=[.s w,.i aC.aT]) ((B9.ext f).ext D),eG.le (cp aJ λg k=>ah _ k) aq,ax,((e.trans f).trans D).aj (ad _) _ _⟩
 rintro⟨kb,ab⟩ B ⟨w,aC,ho,ar,BB,ax,an,x1⟩;simp only at ho ar BB;subst ho;have bl:=BB.lt;have z1:=x1.size;have X1:=x8.trans x1;refine⟨C,(am.ext X1).cK 1,_,BB.cK 0,_,BB.cK 1,?_⟩;have ag:u.size<v.size:=V;have hO:∀{j:E}{U b':O},J B j->au (bI (C.aC::u.size::s.size::b) j) U q.1.params->au (bI (C.aC::u.size::s.size::b) j) b' []->af (j.push (.cells (bE [.s U,.s b',.i q.1.aT,.s w,.i aC.aT]) jA)) u.size 1=af j u.size 1/\
  jb (j.push (.cells (bE [.s U,.s b',.i q.1.aT,.s w,.i aC.aT]) jA)) jA [.s .nil,.s .nil,.i 0,.s .nil,.i 0] 88 C (O.mk j.size 0 1 1) λW D=>eF [I.size,s.size,c.size] (j.push (.cells (bE [.s U,.s b',.i q.1.aT,.s w,.i aC.aT]) jA)) D/\fq D u.size 1 1/\(eF [I.size,s.size,c.size] D (aj D u.size 1 [.s W])/\(aK (cQ ((z:Int)+1)) (aj D u.size 1 [.s W])/\μ (cQ ((z:Int)+1)) (aj D u.size 1 [.s W])<μ z I)):=λQ h1 h2=>
  Gr.box (g:=[.s .nil,.s .nil,.i 0,.s .nil,.i 0]) (j:=1) (y:=88) (i:=[.s dd,.s C]) (w:=⟨q.1.params,[],q.1.aT,aC⟩) iv.mono bo ((aA.ext iv.mono X1).ext iv.mono Q) (((xM.trans X1).trans Q).fz []) ⟨_,_,w,rfl,h1,h2,eG.le (Q.cR _) ax⟩ V ((am.ext X1).ext Q) aJ bo ⟨V,aJ⟩ (λg k=>⟨by have:=Y g k;have:=Q.size;omega,by
   rcases List.mem_cons.1 k with h|h
   .omega
   .have:=ai g h;omega,by
   rcases List.mem_cons.1 k with h|h
   .omega
   .have:=ai g h;omega⟩) λW m' g' B' f' z' q'=>aU W m' ⟨q.1.params,[],q.1.aT,aC⟩ g' B' f'.ext ⟨⟨by rw[MU (by rw[bT,hq];rfl)],aR,aJ,an.1,by have:=an.2;show aC.w<=95;omega⟩,q,hq,rfl,rfl,rfl⟩
 have al:∀{j:E},J B j->au j ap q.1.params:=λA=>ha.ext ((Z.trans X1).trans A);have ak:∀{j:E},J B j->∀g∈C.aC::u.size::s.size::b,g<j.size:=λA=>ae (oh A.size);have g1:∀{j D:E}{ab:Nat},J B j->J j D->af D kb ab=af j kb ab:=λA x'=>gl x' (oh A.size) _;have aq:∀{j D:E},J B j->J j D->eF [I.size,s.size,c.size] j D:=λA x'=>x'.de λg k=>by have:=Y g k;have:=A.size;omega
 refine⟨?_,?_⟩
 .refine(bP (C.aC::u.size::s.size::b) (al (J.aH _)) V).mono λ_ H⟨U,la,h,ga,ea,e⟩=>⟨aq (J.aH _) e,U,h,g1 (J.aH _) e,g1 (J.aH _) e,G z1 e t,G z1 e ag,?_⟩;subst ea;have y:=e.size;intro F;have f:J H F:=J.push _ _;refine⟨g1 e f,g1 e f,G V f t,G V f t,G V f ag,?_⟩;exact hO (e.trans f) ((GI.done ga (ak (J.aH _)) V).le (f.cR _)) (lU _ _ _ _ _ _)
 .intro H;have e:J B H:=J.push _ _;have y:=e.size;refine⟨g1 (J.aH _) e,g1 (J.aH _) e,G z1 e t,G z1 e t,G z1 e ag,?_⟩;refine(bP (C.aC::u.size::s.size::b) (al e) V).mono λ_ F⟨U,la,h,ga,ea,f⟩=>⟨aq e f,U,h,g1 e f,g1 e f,G V f t,G V f ag,?_⟩;subst ea;exact hO (e.trans f) (GI.done ga (ak e) V) (lU _ _ _ _ _ _)
def Hx(j:∀a∈b,a<c.size){a:List bq}(hd:bZ c d a)(m:UB c p l)(k:UF a l):qP 37 [.agg #[O.v d,O.v p]] c b a λe=>uK a e False 95:=
 (vF j hd m k).mono λ_ _⟨d,r,e,f,g,h,i⟩=>⟨d,r,e,f,g,h.1,i⟩
end
section
variable{L:List Nat}{K:Int->E->Prop}{v:Int}
def Pd(a:List bq)(b:List Nat)(B k:Nat)(x:Instr):Prop:=x.op≠21/\∀n:Int,(k:Int)<n->Us a b B k ⟨x.op,0,n,0,x.args,x.di⟩
def xD(c:List bq)(d:List Nat)(B:Nat)(D E:Nat->Prop)(l b:List Instr)(n:Nat):Prop:=(∃a,b=l++a/\(∀(i:Nat)(x:Instr),a[i]? =some x->(D (l.length+i)->Pd c d B (l.length+i) x)/\(D (l.length+i)\/E (l.length+i)\/Us c d B (l.length+i) x/\Tg b.length x))/\PR a/\a.length<=n)/\∀q,D q\/E q->q<b.length
section
variable{b:List bq}{c:List Nat}{B:Nat}{D D' E:Nat->Prop}{l a f:List Instr}{n e k:Nat}{x:Instr}
def mV.w(h:mV b c B l a n)(d:∀q,¬D q)(j:∀q,¬E q):xD b c B D E l a n:=let⟨o,e,f,g,i⟩:=h;⟨⟨o,e,λm x k=>⟨λh=>absurd h (d _),Or.inr (Or.inr (f m x k))⟩,g,i⟩,λq h=>h.elim (λh=>absurd h (d q)) λh=>absurd h (j q)⟩
def xD.Yh(h:xD b c B D E l a n)(i:∀q,¬D q)(j:∀q,¬E q)(q:n<=e):mV b c B l a e:=let⟨⟨o,d,f,g,p⟩,_⟩:=h;⟨o,d,λm x k=>((f m x k).2.resolve_left (i _)).resolve_left (j _),g,V⟩
def xD.imp(i:xD b c B D E l a n)(j:∀q,D q<->D' q)(o:n<=e):xD b c B D' E l a e:=by
 obtain rfl:D=D':=funext λq=>propext (j q);let⟨⟨k,d,f,g,m⟩,h⟩:=i;exact⟨⟨k,d,f,g,V⟩,h⟩
def xD.len(h:xD b c B D E l a n):l.length<=a.length/\a.length<=l.length+n:=by obtain⟨⟨e,rfl,-,-,d⟩,-⟩:=h;simp;omega
def xD.then(h:xD b c B D E l a n)(s:mV b c B a f e):xD b c B D E l f (n+e):=by
 obtain⟨⟨g,rfl,m,p,y⟩,k⟩:=h;obtain⟨v,rfl,o,q,z⟩:=s;refine⟨⟨g++v,aJ,λi x d=>?_,λx u=>(List.mem_append.1 u).elim (p x) (q x),bS⟩,λw h=>by have:=k w h;simp at this⊢;omega⟩;rcases aX i g.length with j|j
 .rw[ay j]at d;let⟨r,t⟩:=m i x d;exact⟨r,t.imp id λh=>h.imp id λh=>⟨h.1,h.2.up aJ⟩⟩
 .rw[aI j]at d;have:=o _ x d;have r:(l++g).length+(i -g.length)=l.length+i:=bS;rw[r]at this;exact⟨λh=>by have:=k _ (Or.inl h);simp at this;omega,Or.inr (Or.inr this)⟩
def xD.fX(h:xD b c B D E l a n)(f:∀q,D' q<->D q\/q=a.length/\Pd b c B q x)(r:D' a.length\/E a.length)(s:x.args.length<=10^12/\x.di.length<=10^12):xD b c B D' E l (a++[x]) (n+1):=by
 obtain⟨⟨g,rfl,k,m,u⟩,e⟩:=h;refine⟨⟨g++[x],aJ,λi y d=>?_,λy t=>?_,bS⟩,λq h=>?_⟩
 .rcases aX i g.length with j|j
  .rw[ay j]at d;let⟨o,p⟩:=k i y d;refine⟨λh=>?_,p.imp (λh=>(f _).2 (Or.inl h)) λh=>h.imp id λh=>⟨h.1,h.2.up aJ⟩⟩;rcases(f _).1 h with h|h
   .exact o h
   .have:=h.1;simp at this;omega
  .rw[aI j]at d;have:i -g.length=0:=by have:=az d;simp at this;omega
   rw[this]at d;simp at d;subst d;have o:l.length+i=(l++g).length:=bS;rw[o];refine⟨λh=>?_,r.imp id Or.inl⟩;rcases(f _).1 h with h|h
   .have:=e _ (Or.inl h);omega
   .exact h.2
 .rcases List.mem_append.1 t with h|h
  .exact m y h
  .simp at h;subst h;exact s
 .simp at e⊢;rcases h with h|h
  .rcases(f q).1 h with h|h
   .have:=e q (Or.inl h);omega
   .have:=h.1;simp at this;omega
  .have:=e q (Or.inr h);omega
def xD.aad(e:x.args.length<=10^12/\x.di.length<=10^12):xD b c B (λ_=>False) (·=l.length) l (l++[x]) 1:=⟨⟨[x],rfl,λi y d=>⟨False.elim,Or.inr (Or.inl (by have:=az d;simp at this;show l.length+i=l.length;omega))⟩,λy a=>by simp at a;subst a;exact e,ad _⟩,λq h=>by simp at h⊢;omega⟩
def xD.LU(h:xD b c B D E l a n)(e:0<B):xD b c B (λq=>D q\/q=a.length) E l (a++[⟨22,0,0,0,[],[]⟩]) (n+1):=
 h.fX (λq=>or_congr CJ (iff_self_and.2 λ_=>⟨bo,λn d=>⟨aJ,⟨dh _,by show(0:Int)<_;omega⟩,Or.inl rfl,Or.inl rfl,Or.inr rfl,by simpa[Sf]using d⟩⟩)) (Or.inl (Or.inr rfl)) aJ
def xD.set{E':Nat->Prop}(h:xD b c B D E l a n)(v:l.length<=k)(C:Us b c B k x)(A:Tg a.length x)(z:x.args.length<=10^12/\x.di.length<=10^12)(w:D' k->Pd b c B k x)(f:∀q,D' q->D q)(o:∀q,D q->q≠k->D' q)(r:∀q,E' q->E q)(s:∀q,E q->q≠k->E' q):xD b c B D' E' l (a.set k x) n:=by
 obtain⟨⟨G,rfl,j,m,d⟩,p⟩:=h;refine⟨⟨G.set (k -l.length) x,by rw[Xv _ _ v],λi y e=>?_,λy F=>?_,bS⟩,λq h=>?_⟩
 .rw[ik]at e;split at e
  .rename_i t;have g:l.length+i=k:=V;split at e
   .simp at e;subst e;rw[g];exact⟨w,Or.inr (Or.inr ⟨C,by simpa using A⟩)⟩
   .simp at e
  .have g:l.length+i≠k:=V;let⟨t,u⟩:=j i y e;exact⟨λh=>t (f _ h),u.imp (λh=>o _ h g) λh=>h.imp (λh=>s _ h g) λh=>⟨h.1,by simpa using h.2⟩⟩
 .rcases cO F with h|h
  .exact m y h
  .rw[h];exact z
 .rw[iF];exact p q (h.imp (f q) (r q))
def xD.ZE(h:xD b c B D E l a n)(hd:D k)(i:l.length<=k)(d:a[k]? =some x)(o:∀q,D' q->D q)(p:∀q,D q->q≠k->D' q):xD b c B D' E l (a.set k ⟨x.op,0,a.length,0,x.args,x.di⟩) n:=by
 have v:=az d;have q:=h;obtain⟨⟨s,rfl,j,m,t⟩,u⟩:=h;rw[aI i]at d;have f:=j _ x d;rw[show l.length+(k -l.length)=k by omega]at f;have e:=f.1 hd;have g:=e.2 ((l++s).length:Nat) V;have r:x.di=[]:=g.di.resolve_left e.1;exact q.set i g ⟨λ_=>dh _,by simp[r]⟩ (m x (av d)) (λ_=>e) o p (λ_ h=>h) λ_ h _=>h
end
section
variable{S:List Nat}{e m a:E}{b:Nat}{s c:O}{l d:List Instr}
def Ef.re{S' Y:List Nat}(h:Ef S e m b s l)(i:Fz Y m a)(f:∀c∈Y,c∈S/\c≠b/\c≠s.aC)(j:∀c∈S',c∈S\/m.size<=c):Ef S' e a b s l:=
 ⟨h.box.congr (i.same _ h.box.lt λg=>(f _ g).2.1 rfl),h.gr.re dH.mono i (λc d=>ah _ (f c d).1) (λg=>(f _ g).2.2 rfl) λc d=>(List.mem_cons.1 d).elim (λg=>Or.inl (by rw[g];exact aZ)) λd=>(j c d).imp (ah _) id,h.up⟩
def GX(k:Ef S e m b s l)(z:J e m)(w:∀h∈S,h<m.size)(n:l.length<=10^12)(u:∀f∈L,f<m.size/\f≠b/\f≠s.aC){o i bM:Int}(y:∀c d a,Ef S e a b c d->d=l++[⟨o,i,bM,0,[v],[]⟩]->Fz [b,s.aC] m a->(c.aC=s.aC\/m.size<=c.aC)->K (l.length:Nat) a):
 aP cv 67 [vp b 0,.agg #[vi o,vi i,vi bM,vi 0,O.v (.mk m.size 0 1 1),O.v .nil]] (m.push (.cells (bE [.i v]) aA)) λr a=>eF L (m.push (.cells (bE [.i v]) aA)) a/\∃q:Int,r=vi q/\K q a:=by
 have g:=J.push m (.cells (bE [.i v]) aA)
 have D:=k.gr.bn;have C:=k.box.lt
 have A:au (bI (s.aC::b::S) (m.push (.cells (bE [.i v]) aA))) (.mk m.size 0 1 1) [v]:=au.lit aA _ (by
  intro h p;simp only[aW]at p;rcases p with j|j|j
  .omega
  .omega
  .exact w h j) rfl rfl aJ
 refine(pV (x:=⟨o,i,bM,0,[v],[]⟩) (k.ext g) (z.trans g).size A (sF _) n).mono λr a⟨p,c,d,t,j,h,B⟩=>⟨OC.de h λf n=>?_,_,p,?_⟩
 .have:=u f n;exact⟨g.lt this.1,this.2⟩
 exact y c d a t j.symm (((g.fz [b,s.aC])).trans h) (oh g.size)
def Tx(j:Ef S e m b s l)(t:J e m)(p:l.length<=10^12)(o:∀f∈L,f<m.size/\f≠b/\f≠s.aC)(q:∀c d a,Ef S e a b c d->d=l++[⟨22,0,0,0,[],[]⟩]->Fz [b,s.aC] m a->(c.aC=s.aC\/m.size<=c.aC)->K (l.length:Nat) a):
 aP cv 67 [vp b 0,.agg #[vi 22,vi 0,vi 0,vi 0,O.v .nil,O.v .nil]] m λr a=>eF L m a/\∃n:Int,r=vi n/\K n a:=
 (pV (x:=⟨22,0,0,0,[],[]⟩) j t.size (sF _) (sF _) p).mono λr a⟨i,c,d,k,h,f,g⟩=>⟨OC.de f o,_,i,q c d a k h.symm f g⟩
def SE{K:E->Prop}{k:Nat}{x:Instr}(i:Ef S e m b s l)(q:J e m)(p:l[k]? =some x)(n:∀f∈L,f<m.size/\f≠b/\f≠s.aC)(o:∀c d a,Ef S e a b c d->d=l.set k ⟨x.op,0,l.length,0,x.args,x.di⟩->Fz [b,s.aC] m a->(c.aC=s.aC\/m.size<=c.aC)->K a):
 aP cv 147 [vp b 0,vi k] m λ_ a=>eF L m a/\K a:=
 (QD i q.size p).mono λr a⟨c,d,j,h,f,g⟩=>⟨OC.de f n,o c d a j h.symm f g⟩
end
def Qu{a:List bq}{c:List Nat}{B:Nat}{l:List Instr}{d:Int}(hd:0<=d/\d<(B:Int))(b:0<=v/\v<(B:Int)):mV a c B l (l++[⟨18,d,0,0,[v],[]⟩]) 1:=mV.lj ⟨by simpa using b,hd,Or.inr (Or.inr (Or.inl rfl)),Or.inl rfl,Or.inr rfl,by simp[Sf]⟩ (by show(18:Int)<20;decide) aJ
end
section
variable{b:List eQ}{B:Nat}
def KM{r:List bq}{i:cF}(cz:i.op=7\/i.op=8)(ih:∀c∈i.bH,Wz r b B c):XD r b B i:=by
 intro G K I e v q cons first cl fl a7 bd aa ak j ai cG hB cS m ha hk
 apply tx (e,0);simp -zeta only[aG,aF];intro ax ae;let⟨x2,hl⟩:=dk (a:=ax) (c:=ae) rfl rfl;have s1:ax.size=I.size+1:=by simp[ax]
 have s2:ae.size=I.size+2:=by simp[ae,s1]
 clear_value ae;have cJ:=j.em.box.lt;have c1:=j.em.gr.bn;have c0:=cF.k8 i;have cA:=ha.len;have cP:=hk.len;have cN:=pK i.bH;have b8:=ai.dV.lj V;have cH:=j.cons.len;have bH:∀aa∈i.args,0<=aa/\aa<(B:Int):=λaa h=>oh (ai.dV.args aa h);have kB:∀{w:Nat}{c:Bk},i.bH[w]? =some c->0<=c.aT/\c.aT<(B:Int):=λ{w c} d=>by
  have h:=(ai.bH w c d).bC.2;have h1:=OP m.types i.op i.bM w;have h2:=pL c.aE;have h3:=fw c.aE;have h4:=Bk.k8 c;have h5:=uo d;omega
 have cU:=j.x.size;have cR:∀{g:E}{f:O},Fz [e,v.aC] I g->(f.aC=v.aC\/I.size<=f.aC)->Le (bI [v.aC,e] I) (bI [f.aC,e] g):=P6;have st:∀{a6:List Nat}{g:E}{f:O}{P:List Instr},Ef a6 K g e f P->Fz [e,v.aC] I g->(f.aC=v.aC\/I.size<=f.aC)->(∀o∈a6,o<g.size)->Rx a6 K g e f P cons first cl fl:=λA N d hS=>⟨A,j.em.fS j.x N,hS,j.cons.le (cR N d),j.first.le (cR N d),j.same,j.jh⟩
 have LL:∀{g:E}{f:O},ae.size<=g.size->(f.aC=v.aC\/ae.size<=f.aC)->∀c∈[ax.size,I.size],c<g.size/\c≠e/\c≠f.aC:=λhz d c a9=>by simp at a9;omega
 have fr:∀{g s:E}{f:O},Fz [e,v.aC] I g->(f.aC=v.aC\/ae.size<=f.aC)->Fz [e,f.aC] g s->Fz [e,v.aC] I s:=λN d ab=>N.rf ab λy l=>by simp at l⊢;omega
 have fS:∀{g:E},I.size<=g.size->∀o∈G,o<g.size:=λh o hc=>by have:=j.fS o hc;omega
 have aH:∀{w:Nat}{c:Bk}{g:E},i.bH[w]? =some c->J K g->∃Q,eG K Q c.aE/\af g ak.aC (ak.off+w*2)=some (O.v Q)/\af g ak.aC (ak.off+w*2+1)=some (vi c.aT):=λd bh=>let⟨Q,h1,h2,h3⟩:=hk.aQ d;⟨Q,h1,bh.af h2,bh.af h3⟩;refine⟨λh7=>?_,λh7=>?_⟩
 .simp only[aO]at h7;have aP:=ai.dV.Jr h7;let⟨F,H⟩:=cq i.bH 0;let⟨b1,T⟩:=cq i.bH 1;have bY:bw i.bH=F.w+b1.w:=by
   obtain⟨u,C,p⟩:∃u C,i.bH=[u,C]:=by
    match i.bH,aP with
    |[u,C],_=>exact⟨u,C,rfl⟩
   rw[p]at H T⊢;simp at H T;subst H T;simp[bw]
  have w0:=F.Gc;have w1:=b1.Gc;have ac:∀w,AI r i.op i.bM w=0:=λw=>JQ V;have E2:=j.ext x2;refine(bP (v.aC::e::G) (ha.ext E2.x) V).mono λC R⟨a',la,p,ga,ea,x3⟩=>⟨x3.de hl,a',p,?_⟩;subst ea;have z3:=x3.size;have aQ:∀o∈v.aC::e::G,o<ae.size:=bR (bR (fS (g:=ae) V) V V) (ad _) V;refine(pV (x:=⟨20,0,0,0,i.args,[]⟩) (E2.em.ext x3) (E2.x.trans x3).size (GI.done ga aQ (by show i.args.length<=_;omega)) (sF _) V).mono λC m4⟨ev,s4,l4,ar,p4,f4,b4⟩=>⟨OC.de f4 (LL z3 (Or.inl rfl)),_,ev,?_⟩;subst p4;have z4:=f4.size;have F4:Fz [e,v.aC] I m4:=((x2.trans x3).fz _).trans f4;have w4:xD r (pc b) B (·=q.length) (λ_=>False) q (q++[⟨20,0,0,0,i.args,[]⟩]) 1:=((mV.aH _ _ _ q).w (D:=λ_=>False) (λ_ h=>h) λ_ h=>h).fX (λt=>⟨λp=>Or.inr ⟨p,(by show(20:Int)≠21;decide),λaI m=>⟨bH,⟨dh _,by show(0:Int)<_;omega⟩,Or.inl rfl,Or.inl rfl,Or.inr rfl,by simpa[Sf,b8]using m⟩⟩,λh=>h.elim False.elim And.left⟩) (Or.inl rfl) ⟨by show i.args.length<=_;omega,aJ⟩;let⟨t0,aR,g0,g1⟩:=aH H (j.em.fS j.x F4);refine⟨bo,V,_,g0,_,g1,?_⟩;have ag:=ai.bH 0 F H;rw[ac]at ag;have aX:=w4.len;refine(ih F (av H) G K m4 e s4 _ cons first cl fl a7 bd t0 (st ar F4 V (fS V)) (by simpa using ag) V hB V m aR).mono λC z⟨s5,l5,a8,p5,f5,b5⟩=>⟨OC.de f5 (LL V V),?_⟩;have Y:=fr F4 V f5;have z5:=f5.size;have w5:=w4.then p5;have X5:=j.em.fS j.x Y;obtain⟨_,-,-,g5⟩:=aH H X5;refine⟨bo,V,_,g5,?_⟩;have aY:=w5.len;refine GX a8 X5 (fS V) V (LL V V) λs6 U m6 aw e6 f6 b6=>?_;have F6:=fr Y V f6;have z6:=f6.size;have w6:xD r (pc b) B (·=q.length) (λ_=>False) q U (1+6*(F.w -1)+1):=e6▸w5.then (Qu ⟨V,V⟩ (kB H));have a0:=w6.len;have a_:U.length=l5.length+1:=by rw[e6];simp
  have X6:=j.em.fS j.x F6;refine Tx aw X6 V (LL V V) λs7 l7 m7 ay e7 f7 b7=>?_;have F7:=fr F6 V f7;have z7:=f7.size;have w7:xD r (pc b) B (λt=>t=q.length\/t=U.length) (λ_=>False) q l7 (1+6*(F.w -1)+1+1):=e7▸w6.LU V;have ba:l7.length=U.length+1:=by rw[e7];simp
  let⟨L,am⟩:=cq l7 q.length;refine SE ay (j.em.fS j.x F7) am (LL V V) λs8 l8 m8 aC e8 f8 aV=>?_;have w8:xD r (pc b) B (·=U.length) (λ_=>False) q l8 (1+6*(F.w -1)+1+1):=e8▸w7.ZE (Or.inl rfl) (ad _) am (λ_=>Or.inr) λ_ h m=>h.resolve_left m;have bb:l8.length=l7.length:=by rw[e8];simp
  have W:=fr F7 V f8;have z8:=f8.size;let⟨t1,aU,k0,k1⟩:=aH T (j.em.fS j.x W);refine⟨bo,V,_,k0,_,k1,?_⟩;have aj:=ai.bH 1 b1 T;rw[ac]at aj;have a5:=w8.len;refine(ih b1 (av T) G K m8 e s8 l8 cons first cl fl a7 bd t1 (st aC W V (fS V)) (by simpa using aj) V hB V m aU).mono λC m9⟨s9,l9,aE,p9,f9,b9⟩=>⟨OC.de f9 (LL V V),?_⟩;have F9:=fr W V f9;have z9:=f9.size;have w9:=w8.then p9;have X9:=j.em.fS j.x F9;obtain⟨_,-,-,g9⟩:=aH T X9;refine⟨bo,V,_,g9,?_⟩;have cc:=w9.len;have bc:=p9.len.1;refine GX aE X9 (fS V) V (LL V V) λbx Z be an aK aB bJ=>?_;have aN:xD r (pc b) B (·=U.length) (λ_=>False) q Z (1+6*(F.w -1)+1+1+6*(b1.w -1)+1):=aK▸w9.then (Qu ⟨V,V⟩ (kB T));have az:=fr F9 V aB;have cn:=aB.size;have ce:Z.length=l9.length+1:=by rw[aK];simp
  let⟨bg,al⟩:=cq Z U.length;refine SE an (j.em.fS j.x az) al (LL V V) λa4 aM bf ao aT aL bK=>?_;exact⟨a4,aM,ao,aT▸(aN.ZE (D':=λ_=>False) rfl V al (λ_ h=>h.elim) λ_ h m=>m h).Yh (λ_ h=>h) (λ_ h=>h) V,fr az V aL,V⟩
 .simp only[ap]at h7;have h8:i.op=8:=V;let⟨cM,cL⟩:=ai.dV.all h8;let⟨y,bs⟩:=cq i.args 0;let⟨y0,y1⟩:=ai.dV.args y (av bs);obtain⟨yn,rfl⟩:∃aI:Nat,y=aI:=⟨y.toNat,V⟩;have E2:=j.ext x2;refine⟨bo,V,yn,(ha.ext E2.x).aQ bs,?_⟩;have cf:∀o∈[v.aC,e],o<ae.size:=λo hc=>by simp at hc;omega
  refine(gP (e:=[v.aC,e]) cf (m.bu.le E2.x.le) m.types i.bM).mono λC R⟨aR,ct,ec,hc,qc,x3⟩=>⟨x3.de hl,aR,ec,?_⟩;subst qc;have cI:=hc.len;have z3:=x3.size;intro m4;refine GX (E2.em.ext x3) (E2.x.trans x3) (fS V) V (LL z3 (Or.inl rfl)) λs5 l5 z a8 e5 f5 b5=>?_;have z5:=f5.size;have w5:xD r (pc b) B (λ_=>False) (·=q.length) q l5 1:=e5▸xD.aad aJ;have c6:l5.length=q.length+1:=by rw[e5];simp
  intro m6 m7;have x6:J z m6:=J.push _ _;have x7:J m6 m7:=J.push _ _;have s6:m6.size=z.size+1:=by simp[m6]
  have s7:m7.size=m6.size+1:=by simp[m7]
  have bV:GI [] z m7 (.mk z.size 0 0 0) []:=(GI.nil [] z).ext x7;have bT:GI [] z m7 (.mk m6.size 0 0 0) []:=GI.cL (GI.nil [] m6) (λ_ h=>h) x6.size;clear_value m7 m6;have bi:=x6.trans x7;have aC:∀{g s:E}{f:O},Fz [e,v.aC] R g->(f.aC=v.aC\/R.size<=f.aC)->Fz [e,f.aC] g s->Fz [e,v.aC] R s:=λN d ab=>N.rf ab λy l=>by simp at l⊢;omega
  have F0:Fz [e,v.aC] I R:=(x2.trans x3).fz _;have bj:∀{g:E}{f:O}{w:Nat}{o:Int},Fz [e,v.aC] R g->(f.aC=v.aC\/R.size<=f.aC)->(cb r i.bM)[w]? =some o->af g aR.aC (aR.off+w*1)=some (vi o):=λ{g f w o} N d h=>(eA.1 ((hc.le (oP (c:=[f.aC,e]) (a:=g) λc a9 m=>by
   simp at m;exact⟨by simp;rcases d with p|p<;>omega,N.same c a9 bS⟩)).aQ h)).2
  have bB:∀{g:E},z.size<=g.size->Fz (List.range z.size) z g:=λh=>⟨h,λc d m=>absurd (List.mem_range.2 d) m⟩;have al:∀{g s:E}{u:O}{ul:List Int}{aQ:List Nat},GI [] z g u ul->Fz aQ g s->u.aC∉aQ->GI [] z s u ul:=λ{g s u ul aQ} ab N h=>GI.any ((GI.any (e:=aQ) ab).ML tp.mono N (λ_ h=>h) h);have o7:Ef (z.size::m6.size::G) K m7 e s5 l5:=a8.re (bi.fz []) aJ λc d=>by
   simp only[aW]at d;rcases d with p|p|p
   .exact Or.inr V
   .exact Or.inr V
   .exact Or.inl p
  refine vX (n:=(cb r i.bM).length) V (λak Q en g=>∃f P W F,Ef (Q.aC::en.aC::G) K g e f P/\xD r (pc b) B (λt=>(t:Int)∈F) (·=q.length) q P (1+6*bw (i.bH.take ak))/\GI [] z g Q W/\(W.length=ak/\∀y∈W,(q.length:Int)<y/\y<=(P.length:Int))/\GI [] z g en F/\F.length<=ak/\(∀y∈F,∃t:Nat,y=t/\q.length<t/\t<P.length)/\Q.aC≠en.aC/\Fz [e,v.aC] R g/\(f.aC=v.aC\/R.size<=f.aC)/\m7.size<=g.size/\q.length<P.length)
   ⟨s5,l5,[],[],o7,w5.imp (λ_=>aJ) aJ,bV,⟨rfl,aJ⟩,bT,ad _,aJ,by show z.size≠m6.size;omega,f5.then bi,V,ad _,V⟩ ?_
  rintro H Q en g co μ hj ⟨f,P,W,F,A,bf,gt,⟨ca,bc⟩,ge,cK,aX,cV,N,d,zM,cT⟩ bt
  have bE:=F0.trans N;have XM:=j.em.fS j.x bE;have ty:=gt.bn;have ey:=ge.bn;have t1:Q.aC≠e:=gt.ne A.box bo;have t2:Q.aC≠f.aC:=gt.Kp A.gr bo;have n1:en.aC≠e:=ge.ne A.box bo;have n2:en.aC≠f.aC:=ge.Kp A.gr bo;have cW:=A.gr.len bo;have cZ:=bf.len;have bY:=JS i.bH H;have oy:=A.gr.bn;have c9:=A.box.lt;refine dit (λh=>?_) λh=>?_
  .let⟨o,a_⟩:=cq (cb r i.bM) H;let⟨c,aE⟩:=cq i.bH H;have cD:=tR aE;have cE:=JS i.bH (H+1);have cC:=c.Gc;have bn:AI r i.op i.bM H=(cg r o).length:=JP h8 a_;have cB:=OP m.types i.op i.bM H;refine⟨f,A.box.cK 0,?_⟩;intro m8;refine GI.kj gt (bB V) aJ V λt' M1 aU cv z1 q1=>?_;have fa:Fz [Q.aC] g M1:=⟨z1.1,λc d m=>q1 c d (by simpa using m)⟩;refine⟨λc d=>by
    simp at d;rw[q1 c V V,(J.push g _).same c V],?_⟩
   have f1:Fz [e,v.aC] R M1:=N.rf fa λy l=>by simp at l⊢;omega
   have bQ:=al ge fa bS;have o1:Ef (t'.aC::en.aC::G) K M1 e f P:=A.re fa (by simp;exact⟨t1,t2⟩) λc d=>by
    rcases List.mem_cons.1 d with p|p
    .rcases z1.2 with e'|e'
     .exact Or.inl (by rw[p,e'];simp)
     .exact Or.inr V
    .exact Or.inl (ah _ p)
   have ck:=aU.bn;refine⟨V,V,o,bj f1 d a_,?_⟩;have X1:=j.em.fS j.x (F0.trans f1);refine(dF (e:=[]) aJ (m.bu.le (X1.le.trans (yW _))) m.types o).mono λC M2⟨ff,cy,ef,hf,qf,aP⟩=>⟨aP.de λc d=>by simp at d;omega,ff,ef,?_⟩;subst qf;have bZ:=hf.len;have z2:=aP.size;have f2:=f1.then aP;refine eu (n:=(cg r o).length) V (λw s=>∃ay aw,Ef (t'.aC::en.aC::G) K s e ay aw/\xD r (pc b) B (λt=>(t:Int)∈F) (·=q.length) q aw (1+6*bw (i.bH.take H)+w)/\Fz [e,f.aC] M2 s/\(ay.aC=f.aC\/M2.size<=ay.aC)/\P.length<=aw.length) ⟨f,P,o1.ext aP,bf,Fz.aH _ _,Or.inl rfl,ad _⟩ ?_;rintro w M3 I3 μ3 hi ⟨ag,l3,o3,w3,f3,b3,c3⟩ ch;have db:=f3.size;have F3:=aC f2 d f3;have aV:ag.aC=v.aC\/R.size<=ag.aC:=V;have cY:=w3.len;have X3:=j.em.fS j.x (F0.trans F3);have LM:∀{s:E}{u:O},M3.size<=s.size->(u.aC=v.aC\/R.size<=u.aC)->∀c∈[ax.size,I.size],c<s.size/\c≠e/\c≠u.aC:=λhz d=>LL V V;have aY:∀{s:E},M3.size<=s.size->∀o∈t'.aC::en.aC::G,o<s.size:=λh=>bR (bR (fS (g:=M3) V) (ad _) V) h V;refine⟨λba=>?_,λba=>?_⟩
   .simp only[aq]at ba;intro m9;refine GX o3 X3 (aY (ad _)) V (LM (ad _) aV) λs4 l4 M4 o4 e4 f4 b4=>ch V _ ⟨s4,l4,o4,?_,f3.rf f4 λy l=>by simp at l⊢;omega,V,by rw[e4];simp;omega⟩;rw[e4];exact w3.then (mV.lj ⟨bS,⟨by show 0<=cQ _;rw[aS V V];omega,by show cQ _<_;rw[aS V V];omega⟩,Or.inr (Or.inr (Or.inr rfl)),Or.inl rfl,Or.inr rfl,by simp[Sf];omega⟩ (by show(19:Int)<20;decide) aJ)
   simp only[bD]at ba;have bb:w=(cg r o).length:=V;subst bb;have y3:=o3.gr.bn;have cp:=o3.box.lt;have ac:∀{s:E},M3.size<=s.size->∀o∈[ag.aC,e],o<s.size:=λh o hc=>by simp at hc;omega
   rw[bZ];refine(lA (S:=[ag.aC,e]) (ac (ad _)) 0 (cg r o).length V).mono λC M4⟨s4,l4,e4,g4,q4,x4⟩=>⟨x4.de λc d=>by simp at d;omega,s4,e4,?_⟩;have z4:=x4.size;have h4:=GI.done g4 (ac (ad _)) V;let⟨tk,b_,k0,k1⟩:=aH aE (X3.trans x4);have F4:=F3.then x4;have Y:∀{u C:E},J M4 u->J u C->∀A,af C ax.size A=af u ax.size A/\af C I.size A=af u I.size A:=λaa c A=>⟨gl c (oh aa.size) A,gl c (oh aa.size) A⟩;refine⟨V,V,tk,k0,_,k1,V,V,o,bj F4 aV a_,?_⟩;have S4:=st o3 (F0.trans F3) V (aY (ad _));have cr:=S4.cons.len;have cx:=S4.first.len;have c_:=S4.same;refine(ug (S:=[ag.aC,e]) (ac z4) (S4.cons.le (x4.cR _)) V (a:=yn) V o).mono λC M5⟨s5,c5,e5,g5,q5,T⟩=>⟨T.de λc d=>by simp at d;omega,s5,e5,gx T k0,gx T k1,(Y (J.aH _) T _).1,(Y (J.aH _) T _).2,(Y (J.aH _) T _).2,?_⟩;have z5:=T.size;have h5:=GI.done g5 (ac z4) (by rw[<-q5];simp;omega);refine(eD (S:=[ag.aC,e]) (ac V) h5 (h4.le (T.cR _)) (by rw[<-q5];simp;omega)).mono λC M6⟨be,U,e6,g6,q6,am⟩=>⟨am.de λc d=>by simp at d;omega,be,e6,gx am (T.af k0),gx am (T.af k1),(Y T am _).1,(Y T am _).2,(Y T am _).2,?_⟩;have z6:=am.size;have ao:=T.trans am;have h6:=GI.done g6 (ac V) (by rw[<-q6,<-q5];simp;omega);refine(ug (S:=[ag.aC,e]) (ac V) (S4.first.le ((x4.trans ao).cR _)) V (a:=yn) V cons.len).mono λC M7⟨ci,l7,e7,g7,q7,aj⟩=>⟨aj.de λc d=>by simp at d;omega,ci,e7,gx aj (ao.af k0),gx aj (ao.af k1),(Y ao aj _).1,(Y ao aj _).2,(Y ao aj _).2,?_⟩;have z7:=aj.size;have ar:=ao.trans aj;have bW:=GI.done g7 (ac V) (by rw[<-q7];simp;omega);refine(eD (S:=[ag.aC,e]) (ac V) bW (h4.le (ar.cR _)) (by rw[<-q7];simp;omega)).mono λC M8⟨s8,l8,e8,g8,q8,L⟩=>⟨L.de λc d=>by simp at d;omega,s8,e8,gx L (ar.af k0),gx L (ar.af k1),(Y ar L _).1,(Y ar L _).2,(Y ar L _).2,?_⟩;have z8:=L.size;have bX:=GI.done g8 (ac V) (by rw[<-q8,<-q7];simp;omega);have an:=(x4.trans ar).trans L;have bp:U.length=cl.length+AI r i.op i.bM H:=by rw[<-q6,<-q5,bn];simp;omega
   have b0:l8.length=U.length:=by rw[<-q8,<-q7,bp,bn];simp;omega
   have ES:Rx (t'.aC::en.aC::G) K M8 e ag l3 be s8 U l8:=⟨o3.ext an,X3.trans an,aY an.size,h6.le ((aj.trans L).cR _),bX,b0,λy l=>by
    rw[<-q8]at l;rcases List.mem_append.1 l with l|l
    .rw[<-q7]at l;rcases cO l with l|l
     .have:=j.jh y l;omega
     .omega
    .have:=q4.1 y l;omega⟩
   have cd:WB r (pc b) True U.length c:=by rw[bp];exact ai.bH H c aE
   refine(ih c (av aE) _ K M8 e ag l3 be s8 U l8 a7 bd tk ES cd V hB V m b_).mono λC M9⟨s9,l9,o9,p9,f9,b9⟩=>⟨OC.de f9 (LM (oh an.size) aV),?_⟩;have z9:=f9.size;have dc:=an.size;have F9:=aC (F3.then an) aV f9;have X9:=j.em.fS j.x (F0.trans F9);have w9:=w3.then p9;have cc:=w9.len;have c4:=p9.len.1;obtain⟨_,-,-,g9⟩:=aH aE X9;refine⟨V,V,_,g9,?_⟩;refine GX o9 X9 (aY V) V (LM V V) λbx Z bg a0 aK aB bJ=>?_;have cn:=aB.size;have az:=aC F9 V aB;have aN:xD r (pc b) B (λt=>(t:Int)∈F) (·=q.length) q Z (1+6*bw (i.bH.take H)+(cg r o).length+6*(c.w -1)+1):=aK▸w9.then (Qu ⟨V,V⟩ (kB aE));have ce:Z.length=l9.length+1:=by rw[aK];simp
   have cX:=aN.len;have kI:∀{u:O}{ul:List Int},GI [] z M1 u ul->u.aC≠e->u.aC≠f.aC->u.aC<M1.size->GI [] z bg u ul:=λ{u ul} ab a1 a2 a3=>by
    have g2:=ab.ext aP;have g3:=al g2 f3 (by simp;exact⟨a1,a2⟩);have bM:=g3.ext an;have bN:=al bM f9 (by simp;exact⟨a1,by rcases b3 with p|p<;>omega⟩);exact al bN aB (by simp;exact⟨a1,by rcases b9 with p|p<;>omega⟩)
   have bz:t'.aC≠e:=aU.ne o1.box bo;have cj:t'.aC≠f.aC:=aU.Kp o1.gr bo;have bm:=kI aU bz cj ck.2;have bk:=kI bQ n1 n2 V;have br:∀{aI:Nat},Z.length<=aI->(W++[(f.len:Int)]).length=H+1/\∀y∈W++[(f.len:Int)],(q.length:Int)<y/\y<=(aI:Int):=λ{aI} h=>⟨bS,λy l=>by
    rcases List.mem_append.1 l with l|l
    .have:=bc y l;omega
    .simp at l;omega⟩
   rw[aS (b:=(aR.len:Int) -1) V V];refine⟨λb7=>?_,λb7=>bt V _ _ _ ⟨bx,Z,W++[(f.len:Int)],F,a0,aN.imp (λ_=>CJ) V,bm,br (ad _),bk,V,λy l=>by obtain⟨t,p,h1,h2⟩:=aX y l;exact⟨t,p,h1,V⟩,V,az,V,V,V⟩⟩;have c8:=a0.gr.bn;refine Tx a0 (j.em.fS j.x (F0.trans az)) V (LM V V) λa4 aM a5 bu aT aL bK=>?_;have da:=aL.size;have bF:=aC az V aL;have cm:xD r (pc b) B (λt=>(t:Int)∈F++[(Z.length:Int)]) (·=q.length) q aM (1+6*bw (i.bH.take H)+(cg r o).length+6*(c.w -1)+1+1):=aT▸(aN.LU V).imp (λt=>by rw[lE,fP];exact or_congr CJ V) (ad _);have c2:aM.length=Z.length+1:=by rw[aT];simp
   have nx:∀{u:O}{ul:List Int},GI [] z bg u ul->u.aC≠e->GI [] z a5 u ul:=λab aa=>al ab aL (by simp;exact⟨aa,ab.Kp a0.gr bo⟩);have bU:=nx bm bz;have bl:=nx bk n1;intro c7;refine GI.kj bl (bB V) aJ V λcu bG bO cw bC bv=>?_;have fb:Fz [en.aC] a5 bG:=⟨bC.1,λc d m=>bv c d (by simpa using m)⟩;have bL:en.aC≠a4.aC:=bl.Kp bu.gr bo;refine⟨λc d=>by
    simp at d;rw[bv c V V,(J.push a5 _).same c V],bt V _ _ _ ⟨a4,aM,W++[(f.len:Int)],F++[(Z.length:Int)],?_,cm.imp (λ_=>CJ) V,al bU fb bS,br V,bO,bS,λy l=>?_,V,bF.rf fb λy l=>by simp at l⊢;omega,V,V,V⟩⟩
   .exact bu.re fb (by simp;exact⟨n1,bL⟩) λc d=>by
     simp only[aW]at d⊢;rcases d with p|p|p
     .exact Or.inl (Or.inl p)
     .rcases bC.2 with e'|e'
      .exact Or.inl (Or.inr (Or.inl V))
      .exact Or.inr V
     .exact Or.inl (Or.inr (Or.inr p))
   .rcases List.mem_append.1 l with l|l
    .let⟨t,p,h1,h2⟩:=aX y l;exact⟨t,p,h1,V⟩
    .simp at l;exact⟨Z.length,l,V,V⟩
  .have am:H=(cb r i.bM).length:=V;subst am;refine⟨f,A.box.cK 0,?_⟩;intro m8;have L:J g m8:=J.push _ _;have ar:au (bI (f.aC::e::G) m8) (.mk g.size 0 1 1) [(yn:Int)]:=au.lit aA _ (bR (bR (fS (g:=g) V) (ad _) V) (ad _) V) rfl rfl aJ;have s8:m8.size=g.size+1:=by simp[m8]
   clear_value m8;refine⟨gl L V _,gl L V _,V,V,?_⟩;have T:Ef G K m8 e f P:=(A.ext L).re (Fz.aH [] _) aJ λc d=>Or.inl (ah _ (ah _ d));have az:Q.aC∉f.aC::e::G:=by
    simp only[aW,uJ];exact⟨t2,t1,λh=>oh (fS (g:=I) (ad _) _ h)⟩
   have ao:au (bI (f.aC::e::G) m8) Q W:=(GI.any (e:=f.aC::e::G) (gt.ext L)).mZ tp.mono az bo V;obtain⟨wr,gs,-,Z⟩:=T.gr.set dH.mono (X:=List.range K.size) ⟨V,λc d m=>absurd (List.mem_range.2 d) m⟩ (k:=q.length) V (a:=⟨21,0,i.bM,0,[(yn:Int)],W⟩) (cs:=[.i 21,.i 0,.i i.bM,.i 0,.s (.mk g.size 0 1 1),.s Q]) ⟨_,_,rfl,ar,ao⟩;refine⟨wr,?_⟩;intro m9;have s9:m9.size=m8.size:=aD _ _ _ _;have o9:Ef G K m9 e f (P.set q.length ⟨21,0,i.bM,0,[(yn:Int)],W⟩):=⟨T.box.congr (Z e (kE T.ne)),gs,T.up⟩;have f9:Fz [e,f.aC] g m9:=⟨V,λc d m=>by
    simp at m;have e1:m9[c]? =m8[c]? :=Z c m.2;rw[e1,L.same c d]⟩
   have w9:=bf.set (x:=⟨21,0,i.bM,0,[(yn:Int)],W⟩) (k:=q.length) (D':=λt=>(t:Int)∈F) (E':=λ_=>False) (ad _) ⟨bS,⟨dh _,by show(0:Int)<_;omega⟩,Or.inl rfl,Or.inl rfl,Or.inl rfl,⟨rfl,rfl,by show 0<(cb r i.bM).length;omega,ca,λH hj=>(bc H hj).1⟩⟩ ⟨λp=>absurd p (by show¬((21:Int)=20\/(21:Int)=22);decide),λH hj=>(bc H hj).2⟩ ⟨aJ,by show W.length<=_;omega⟩ (λh=>by obtain⟨q',e',h1,_⟩:=aX _ h;omega) (λ_ h=>h) (λ_ h _=>h) (λ_ h=>h.elim) λ_ h m=>m h;refine⟨λc d=>Z c (by simp at d;omega),?_⟩;have aB:=ge.len bo;refine eu (n:=F.length) V (λw s=>∃ay aw,Ef G K s e ay aw/\xD r (pc b) B (λt=>(t:Int)∈F.drop w) (λ_=>False) q aw (1+6*bw (i.bH.take (cb r i.bM).length))/\aw.length=P.length/\GI [] z s en F/\Fz [e,v.aC] R s/\(ay.aC=v.aC\/R.size<=ay.aC)/\m7.size<=s.size) ⟨f,_,o9,by simpa using w9,aJ,al ge f9 (by simp;exact⟨n1,n2⟩),aC N d f9,d,V⟩ ?_;rintro w s I2 μ2 hi ⟨ay,l2,o2,w2,an,U,f2,b2,z2⟩ aw;refine dit (λh=>?_) λh=>?_
   .let⟨y,Y⟩:=cq F w;obtain⟨t,rfl,aE,aK⟩:=aX y (av Y);have aj:au (bI [] s) en F:=(GI.any (e:=[]) U).mZ tp.mono aJ bo V;have ag:=aj.le (bA _ _);let⟨xq,ac⟩:=cq l2 t;refine⟨V,V,t,ag.aQ Y,?_⟩;refine SE o2 (j.em.fS j.x (F0.trans f2)) ac (LL V V) λs4 l4 M4 o4 e4 f4 b4=>aw V _ ⟨s4,l4,o4,?_,by rw[e4];simp;exact an,al U f4 (by simp;exact⟨n1,U.Kp o2.gr bo⟩),aC f2 b2 f4,oh f2.size,oh f4.size⟩;rw[e4];have hd:F.drop w=(t:Int)::F.drop (w+1):=by rw[lC V];congr 1;exact(List.getElem?_eq_some_iff.1 Y).2
    refine w2.ZE (hd▸aZ) V ac (λ_ h=>hd▸ah _ h) λq' h m=>?_;rw[hd]at h;exact(List.mem_cons.1 h).resolve_left V
   .have bb:w=F.length:=V;subst bb;rw[List.drop_length]at w2;exact⟨ay,l2,o2,w2.Yh aJ (λ_ h=>h) V,F0.trans f2,V⟩
def KS{c:List bq}:∀a:Bk,Wz c b B a:=Bk.ind λaE r f=>KR λx e h=>KM h λa d=>f x e a d
end
section
variable{b:List Nat}{e:E}{d r:O}{c:List eQ}{W:Nat}
def CX(c:List bq)(d:List Nat)(B:Nat)(a:Int)(l:List Instr):Prop:=∀(k:Nat)(x:Instr),l[k]? =some x->(Us c d B k x/\Tg (l.length -1) x)/\x.dst<a/\∀b∈x.args,b<a
def mV.bt{b:List bq}{c:List Nat}{B n:Nat}{l:List Instr}{v:Int}(h:mV b c B [] l n)(p:0<=v/\v<(B:Int)):CX b c B B (l++[⟨23,0,0,0,[v],[]⟩])/\Rw (l++[⟨23,0,0,0,[v],[]⟩])/\PR (l++[⟨23,0,0,0,[v],[]⟩])/\l.length<=n:=by
 obtain⟨q,m,f,j,d⟩:=h;simp only[dX,cE,bG]at m f;subst q;have g:CX b c B B (l++[⟨23,0,0,0,[v],[]⟩]):=λk x a=>by
  have:Us b c B k x/\Tg l.length x:=by
   rcases aX k l.length with e|e
   .rw[ay e]at a;exact f k x a
   .rw[aI e]at a;have:k -l.length=0:=by have:=az a;simp at this;omega
    rw[this]at a;simp at a;subst a;exact⟨⟨by simpa using p,⟨dh _,by show(0:Int)<_;omega⟩,Or.inl rfl,Or.inl rfl,Or.inr rfl,by simp[Sf]⟩,.no (by show(23:Int)≠20/\(23:Int)≠22;decide) rfl⟩
  exact⟨by simpa using this,this.1.dst.2,λi o=>(this.1.args i o).2⟩
 refine⟨g,λk x a=>(g k x a).1.1.ok,λx a=>?_,d⟩;rcases List.mem_append.1 a with h|h
 .exact j x h
 .simp at h;subst h;simp
structure PX(ds:List bq)(ps:List Nat)(B:Nat)(q:eQ)(p:da):Prop where
 params:p.params=q.params
 dg:p.dg=q.dg
 aT:p.aT=q.aT
 ax:(q.params.length:Int)<=p.ax/\p.ax<=(B:Int)
 bt:CX ds ps B p.ax p.bt
 yU:∀x,p.bt[p.bt.length -1]? =some x->x.op=23
def zG(hS:∀k∈b,k<e.size){K:List bq}(hn:dY e d r K c){C:Nat}(aD:uK K c True W)(hW:4*W+3<=C/\C<=500000000000):Np 35 [.agg #[O.v d,O.v r]] e b K λps=>yB ps/\ps.length=c.length/\∀(l:Nat)(p:da),ps[l]? =some p->∃q,c[l]? =some q/\PX K (pc c) C q p/\p.bt.length<=6*W:=by
 apply Dv;simp -zeta only[aG,aF];have ht:=hn.types;have hp:=hn.iB;intro f a2;let⟨x2,hl⟩:=dk (a:=f) (c:=a2) rfl rfl;have s1:f.size=e.size+1:=by simp[f]
 clear_value a2;have a4:=hp.len;have bu:=hn.nv;have bt:=aD.gR;refine(fD (b:=f.size::b) (bR hS x2.size (hl _ aJ)) (hn.bu.le x2.le) ht).mono λ_ al⟨dd,o,a1,x3⟩=>?_;subst o;refine⟨x3.de hl,_,rfl,?_⟩;intro s bb aK;have u2:=x2.trans x3;let⟨x5,B0,g0,s3,s5⟩:=kC (b:=s.size::f.size::b) kL.mono (d:=al) (a:=s) (c:=bb) (h:=aK) rfl rfl rfl;clear_value aK;have aC:∀k∈[f.size,e.size],k<al.size:=λk u=>x3.lt (hl k u);have aA:∀k∈f.size::b,k<al.size:=λk u=>x3.lt (bR hS x2.size (hl _ aJ) k u);refine ka (R:=λv0 v1 D=>∃d p am,Value.agg #[O.v v0,O.v v1]=.agg #[O.v d,O.v p]/\bZ (bI b D) d K/\gT (bI b D) p am/\(yB am/\am.length=c.length/\∀(l:Nat)(p:da),am[l]? =some p->∃q,c[l]? =some q/\PX K (pc c) C q p/\p.bt.length<=6*W)/\J e D) (t:=c.length) (f:=e) (b:=b) kL.mono bo bo hS ⟨V,aC _ aJ⟩ u2 s3 a1 a4 V x5 B0 g0 (λl p=>Sz p/\∃q,c[l]? =some q/\PX K (pc c) C q p/\p.bt.length<=6*W) (λg r' aE m' j h2 h3 h4 t=>⟨g,r',aE,rfl,j,h2,⟨⟨V,V,λq hq=>by obtain⟨v,h⟩:=List.mem_iff_getElem?.1 hq;exact(h4 v q h).1⟩,h3,λl p h=>(h4 l p h).2⟩,t⟩) λl D v aE bk μ a3 br xM ay aq bf=>?_
 let⟨q,hq⟩:=cq c l a3;let⟨q3,bh,aP,qw⟩:=aD.df q (av hq);have T:=u2.trans xM;obtain⟨cs,⟨bl,t,bi,rfl,c1,c2,c3⟩,hr⟩:=hp.jD l q hq;have aV:=c1.len;have qp:=q.body.Gc;refine⟨V,V,_,T.af (hr 0 _ rfl),_,T.af (hr 1 _ rfl),_,T.af (hr 2 _ rfl),_,T.af (hr 3 _ rfl),_,T.af (hr 4 _ rfl),?_⟩;intro m7 g;have hy:=ay.bn;have bn:=aq.lt;have zM:=xM.size;obtain⟨x8,-,s8⟩:=iL (M:=D) (d:=m7) (c:=g) rfl rfl rfl;clear_value g;have bs:=u2.size;have w8:=T.trans x8;have aa:∀{X:E},g.size<=X.size->∀k∈v.aC::s.size::f.size::b,k<X.size:=λh k u=>by
  simp only[aW]at u;rcases u with o|o|o|o
  .omega
  .omega
  .have:=aA k (by simp[o]);omega
  .have:=aA k (by simp[o]);omega
 have bp:f.size<al.size:=aC _ aJ;intro j z;have x9:J g j:=J.push _ _;have s9:j.size=g.size+1:=by simp[j]
 have aQ:J j z:=J.push _ _;have bB:z.size=j.size+1:=by simp[z]
 have g9:Vz (j.size::v.aC::s.size::f.size::b) g j (.mk g.size 0 0 0) []:=Gr.new _ (ad _) _ _ _;have aS:cB z j.size nC [.s (.mk g.size 0 0 0)]:=cB.push _ _ _;have aX:Ef (v.aC::s.size::f.size::b) g z j.size (.mk g.size 0 0 0) []:=⟨aS,g9.ext dH.mono aQ,V⟩;clear_value z j;have au:=x9.trans aQ;have aH:∀k∈[g.size,j.size],k<z.size:=λk u=>by simp at u;omega
 have LL:∀{X:E}{s':O},z.size<=X.size->(s'.aC=g.size\/z.size<=s'.aC)->∀t∈[D.size,f.size,e.size],t<X.size/\t≠j.size/\t≠s'.aC:=λhz L t aZ=>by simp at aZ;omega
 rw[aV];refine(lA (S:=[g.size,j.size]) aH 0 q.params.length V).mono λ_ aI⟨ab,ak,o,aY,ap,ac⟩=>⟨ac.de λt L=>by simp at L;omega,ab,o,?_⟩;have az:=GI.done aY aH V;have bj:=ac.size;have aT:Rx (v.aC::s.size::f.size::b) g aI j.size (.mk g.size 0 0 0) [] ab ab ak ak:=⟨aX.ext ac,au.trans ac,aa V,az,az,rfl,λy hy=>by have:=ap.1 y hy;have:=ap.2;omega⟩;refine(KS (B:=C) q.body _ g aI j.size _ [] ab ab ak ak d r bi aT (by rw[ap.2];exact aP) V (oh hW) bS (hn.le w8.le) (eG.le w8.le c3)).mono λbD a9⟨bC,a6,an,aO,aj,aU⟩=>⟨OC.de aj (LL bj (Or.inl rfl)),?_⟩;have bG:=aj.size;simp only[O.fO]at aU aj;have aw:J g a9:=Fz.ext ((((au.trans ac).fz [j.size,g.size]).trans aj).CH λt L=>Or.inr (by simp at L;omega));have bg:=aO.len;intro bv;refine GX an aw (aa V) (by simp at bg;omega) (LL V V) λN y F Z ai ax bm=>?_;have bH:=ax.size;have bE:=an.gr.bn;have ae:J g F:=an.fS aw ax;have a5:0<=q.body.aT/\q.body.aT<(C:Int):=by
  have h:=aP.bC.2;have h2:=pL q.body.aE;have h3:=fw q.body.aE;have h4:=Bk.k8 q.body;omega
 let⟨cx,aM,aN,bz⟩:=aO.bt a5;rw[<-ai]at cx aM aN;have a7:y.length=a6.length+1:=by rw[ai];simp
 have a8:0<y.length:=by rw[ai];simp
 have ar:=aq.ext (x8.trans ae);refine⟨v,ar.cK 1,N,Z.box.cK 0,N,Z.box.cK 0,?_⟩;have bF:=Z.gr.bn;have be:=Z.ne;have bd:N.aC∉j.size::v.aC::s.size::f.size::b:=by
  simp only[aW,uJ];have u:=λh:N.aC∈v.aC::s.size::f.size::b=>aa (X:=g) (ad _) _ h;refine⟨be,λh=>?_,λh=>?_,λh=>?_,λh=>?_⟩<;>have:=u (by simp[h])<;>omega
 have aB:dZ (bI (j.size::v.aC::s.size::f.size::b) F) N y:=Z.gr.mZ dH.mono bd bo V;have G:∀{I Y:E}{t aL:Nat},F.size<=I.size->J I Y->t<F.size->af Y t aL=af I t aL:=λh x L=>gl x V _;have sm:∀{I Y:E},F.size<=I.size->J I Y->eF [D.size,f.size,e.size] I Y:=λh x=>x.de λt L=>by simp at L;omega
 have i9:j.size<F.size:=V;have Q:D.size<F.size:=V;have i3:s.size<F.size:=V;refine(bP (v.aC::s.size::f.size::b) (c1.ext (w8.trans ae)) V).mono λ_ bw⟨a',la,o,ga,ea,w⟩=>⟨sm (ad _) w,a',o,G (ad _) w i9,G (ad _) w Q,G (ad _) w i9,G (ad _) w Q,G (ad _) w Q,G (ad _) w i3,?_⟩;subst ea;have U:=w.size;refine(bP (v.aC::s.size::f.size::b) (c2.ext ((w8.trans ae).trans w)) V).mono λ_ a_⟨b',lb,o,gb,eb,A⟩=>⟨sm U A,b',o,G U A i9,G U A Q,G U A i9,G U A Q,G U A i3,?_⟩;subst eb;have bJ:=A.size;have aR:=w.trans A;refine(Mj (m:=a_) (dZ.ext aR (eO.le aB (bA _ _) λ_ _=>dH.le (bA _ _))) (p:=q.params.length) (B:=C) ⟨V,V⟩ λx P=>by
  obtain⟨l,H⟩:=List.mem_iff_getElem?.1 P;exact⟨(cx l x H).1.1.dst,(cx l x H).1.1.args⟩).mono λ_ ba⟨rg,o,ao,H⟩=>⟨sm V H,rg,o,G V H i9,G V H Q,G V H i3,?_⟩
 have bK:=H.size;have ag:=aR.trans H;intro bx;have a0:dZ (bI (v.aC::s.size::f.size::b) ba) N y:=eO.le aB ((ag.cR _).trans (gL _ λ_ h=>ah _ h)) λ_ _=>dH.le ((ag.cR _).trans (gL _ λ_ h=>ah _ h));have XX:=(x8.trans ae).trans ag;refine Gr.box (g:=[.s .nil,.s .nil,.i 0,.i 0,.s .nil]) (j:=1) (y:=88) (i:=[.s dd,.s v]) (w:=⟨q.params,q.dg,q.aT,rg,y⟩) kL.mono bo (ay.ext kL.mono XX) ((xM.trans XX).fz []) ⟨a',b',N,rfl,(GI.done ga (aa V) V).le ((A.trans H).cR _),(GI.done gb (aa V) V).le (H.cR _),a0⟩ V (ar.ext ag) aJ bo ⟨V,aJ⟩ (λk u=>?_) λr' m' g' B' f' z' q'=>bf r' m' _ g' B' f'.ext ⟨⟨q3,bh,a8,by show y.length<=_;omega,aM,aN⟩,q,hq,⟨rfl,rfl,rfl,⟨ao.1,ao.2.1⟩,λl x P=>⟨(cx l x P).1,ao.2.2 x (av P)⟩,λx P=>by
  have h:y[y.length -1]? =some x:=P;rw[a7,ai]at h;simp at h;rw[<-h]⟩,by show y.length<=_;omega⟩
 simp at u;omega
def KV(k:∀a∈b,a<e.size){a:List bq}(l:dY e d r a c)(m:uK a c True W)(o:W<=120000000000):Np 35 [.agg #[O.v d,O.v r]] e b a yB:=
 (zG k l m (C:=4*W+3) ⟨ad _,V⟩).mono λ_ _⟨d,p,n,f,g,h,i,j⟩=>⟨d,p,n,f,g,h,i.1,j⟩
end
section
def Mn{α:Type}(T:E->O->O->α->Prop):Prop:=∀M a b c x,Le M a->T M b c x->T a b c x
def PP{α:Type}(T:E->O->O->α->Prop)(U:α->Prop)(S:List Nat)(d:Nat)(e:O)(m:E)(P:Nat)(v:Value)(a:E):Prop:=∃b c x,v=.agg #[O.v b,O.v c]/\T (bI S a) b c x/\U x/\Rd d e P a/\Fz [d] m a
def NT(m:E)(a b:O)(x:List bq×List eQ):Prop:=dY m a b x.1 x.2
def IT(m:E)(a b:O)(x:List bq×List da):Prop:=bZ m a x.1/\gT m b x.2
def GT(m:E)(a b:O)(x:List bq×List (da×Ex)):Prop:=bZ m a x.1/\UB m b x.2
def UN(c:Prop)(W:Nat)(x:List bq×List eQ):Prop:=uK x.1 x.2 c W/\x.1∈ov
def UI(x:List bq×List da):Prop:=yB x.2/\x.1∈ov
def NT.mn:Mn NT:=λ_ _ _ _ _ h t=>dY.le t h
def IT.mn:Mn IT:=λ_ _ _ _ _ h t=>⟨t.1.le h,gT.le h t.2⟩
structure BS(B:List Nat)(rb:Nat)(bs:O)(m:E)(Q:Nat)(M:E):Prop where
 s:Rs rb bs m Q M
 fS:∀c∈B,m.size<=c/\c<M.size
section
variable{α:Type}{T:E->O->O->α->Prop}{U:α->Prop}{S B L:List Nat}{d Q h j k f t:Nat}{g a b:O}{m M e:E}{x:α}{i:List Value}
def BS.hS(h:BS B d g m Q M)(a:∀c∈S,c<m.size):∀c∈B++S,c<M.size:=λc b=>(List.mem_append.1 b).elim (λe=>(h.fS c e).2) λe=>aL (a c e) h.s.f.size
def BS.to(a:BS B d g m Q M)(f:Fz [d] M e)(r:Rd d g h e):BS B d g m h e:=⟨a.s.to f r,λc b=>⟨(a.fS c b).1,aL (a.fS c b).2 f.size⟩⟩
def BS.lw(h:BS B d g m Q M)(a:d<m.size)(c:∀b∈L,b∈B):Lw d L M:=Go.Proofs.YtdalfjkmdekijaaGreat.lw a λb e=>h.fS b (c b e)
def BS.call(c:BS B d g m Q M)(o:d<m.size)(p:∀b∈L,b∈B)(l:aP cv f i M (PP T U (B++S) d g M h)){K:O->O->E->Prop}
 (q:∀a b x e,U x->T (bI (B++S) e) a b x->BS B d g m h e->Fz [d] M e->K a b e):aP cv f i M λv e=>eF L M e/\∃j k:O,v=.agg #[O.v j,O.v k]/\K j k e:=
 l.mono λ_ e⟨a,b,x,n,t,u,r,f⟩=>⟨(c.lw o p).de f,a,b,n,q a b x e u t (c.to f r) f⟩
def BS.pick(h:BS B d g m Q M)(c:d<m.size)(k:Q<=10^16)(j:∀b∈L,b∈B)(n:Int){K:Int->E->Prop}
 (l:∀i e,0<=i->(i<n\/i=0)->BS B d g m (Q+1) e->Fz [d] M e->K i e):aP cv 20 [vp d 0,vi n] M λv e=>eF L M e/\∃i:Int,v=vi i/\K i e:=
 (bX h.s.r k n).mono λ_ e⟨i,a,o,p,r,f⟩=>⟨(h.lw c j).de f,i,a,l i e o p (h.to f r) f⟩
def BS.box{m1 m2:E}{z l:List Ce}(h:BS B d g m Q M)(f:m1=M.push (.cells (bE z) t))(i:m2=aj m1 M.size 0 l)(n:l.length=z.length):BS (M.size::B) d g m Q m2/\Le (bI (B++S) M) (bI (M.size::B++S) m2)/\cB m2 M.size t l:=by
 let⟨x,a,z⟩:=iL f i n;have o:=h.s.f.size;refine⟨⟨h.s.ext x,λc k=>?_⟩,x.bI λb j=>(List.mem_cons.1 j).elim (λh=>Or.inr V) Or.inl,a⟩;rcases List.mem_cons.1 k with e|e
 .omega
 .have:=h.fS c e;omega
def BS.put(h:BS B d g m Q M)(b:Rd d g j m)(a:k∈B)(l:List Ce):BS B d g m Q (aj M k 0 l)/\Le (bI (B++S) M) (bI (B++S) (aj M k 0 l)):=
 ⟨⟨h.s.put b (h.fS k a).1 _ _,λc e=>by rw[aD];exact h.fS c e⟩,cp (by simp[a]) λ_ h=>h⟩
def BS.le(a:d∈S)(f:Fz [d] M e):Le (bI (B++S) M) (bI (B++S) e):=f.cR (by simp[a])
def BS.hO(f:BS B d g m Q M)(o:Mn T)(i:Rd d g j m)(p:k∈B)(q:T (bI (B++S) M) a b x)(r:U x)(n:Q<=h)(l:List Ce):PP T U S d g m h (.agg #[O.v a,O.v b]) (aj M k 0 l):=
 have⟨c,e⟩:=f.put (S:=S) i p l
 ⟨a,b,x,rfl,o _ _ _ _ _ (e.trans (gL _ λ_=>dw _)) q,r,c.s.r.mono n,c.s.f⟩
def BS.lj(a:Rd d g Q m)(o:Obj):BS [m.size] d g m Q (m.push o)/\Le (bI S m) (bI ([m.size]++S) (m.push o)):=⟨⟨⟨(J.push m o).fz _,a.ext (J.push m o)⟩,aJ⟩,sD (J.push m o) (ad _)⟩
def Kq{a:List bq}{c:Prop}{W:Nat}(j:qP f i M S a λb=>uK a b c W)(hd:a∈ov)(r:Rd d g Q M):aP cv f i M (PP NT (UN c W) S d g M Q):=
 j.mono λ_ _⟨e,k,b,h,n,o,x⟩=>⟨e,k,(a,b),h,n,⟨o,hd⟩,r.ext x,x.fz _⟩
def VU{a:List bq}(h:Np f i M S a yB)(hd:a∈ov)(r:Rd d g Q M):aP cv f i M (PP IT UI S d g M Q):=
 h.mono λ_ _⟨b,j,k,e,n,c,o,x⟩=>⟨b,j,(a,k),e,⟨n,c⟩,⟨o,hd⟩,r.ext x,x.fz _⟩
end
section
variable{a:List Nat}{m:E}{b P:Nat}{c:O}
def HG(f:∀d∈a,d<m.size)(j:b∈a)(d:Rd b c P m)(D:P+1000+4*(300+40*Cg 18)<=10^16):aP cv 225 [vp b 0] m (PP NT (UN False 95) a b c m (P+11+4*(300+40*Cg 18))):=by
 apply Ad (b,0);simp -zeta only[aG,aF];have e:=d.lt;intro k;obtain⟨b1,-⟩:BS [m.size] b c m P k/\True:=⟨(BS.lj (S:=a) d _).1,trivial⟩;clear_value k;refine b1.call (T:=GT) (U:=λx=>UF x.1 x.2) (S:=a) e (λ_ h=>h) ((sP (b1.hS f) (by simp[j]) b1.s.r V).mono λv M⟨i,p,g,t,l,n,o,q,r,s⟩=>⟨i,p,(g,t),l,⟨n,o⟩,q,r,s⟩) λi p x F u t b2 A=>?_;refine b2.call (S:=a) e (λ_ h=>h) (Kq (Hx (b2.hS f) (t.1.le (bA _ _)) (eO.le t.2 (bA _ _) λ_ _=>XG.mono.le (bA _ _)) u) u.gp.ds b2.s.r) λy J L G g t3 b3 B=>?_;intro r l;obtain⟨b5,q,-⟩:=b3.box (S:=a) (m1:=r) (m2:=l) rfl rfl rfl;clear_value l;have s:=NT.mn _ _ _ _ _ q t3;refine b5.pick e V (λ_ h=>h) 3 λE H _ _ b6 o=>?_;have n:=NT.mn _ _ _ _ _ (BS.le j o) s;refine⟨λ_=>?_,λ_=>b6.hO NT.mn d aJ n g V _⟩;exact b6.call (S:=a) e (λ_ h=>h) (Kq (Jb (b6.hS f) (n.le (bA _ _)) V g.1) g.2 b6.s.r) λz K M I w v h C=>h.hO NT.mn d aJ v w V _
def Dr(j:∀d∈a,d<m.size)(g:b∈a)(d:Rd b c P m)(M:P+1000+4*(300+40*Cg 18)<=10^16):aP cv 172 [vp b 0] m (PP NT (UN True 104500) a b c m (P+12+4*(300+40*Cg 18))):=by
 apply wy (b,0);simp -zeta only[aG,aF];have f:=d.lt;intro n;obtain⟨b1,-⟩:BS [m.size] b c m P n/\True:=⟨(BS.lj (S:=a) d _).1,trivial⟩;clear_value n;refine b1.call (S:=a) f (λ_ h=>h) (HG (b1.hS j) (by simp[g]) b1.s.r V) λI U X Q i t2 b2 K=>?_;intro x o;obtain⟨b4,w,-⟩:=b2.box (S:=a) (m1:=x) (m2:=o) rfl rfl rfl;clear_value o;have q:=NT.mn _ _ _ _ _ w t2;refine b4.call (S:=a) f (λ_ h=>h) (Kq (KP (b4.hS j) (q.le (bA _ _)) i.1) i.2 b4.s.r) λJ W Y y G B b5 u=>?_;intro z p;obtain⟨r,l,-⟩:=b5.box (S:=a) (m1:=z) (m2:=p) rfl rfl rfl;clear_value p;have C:=NT.mn _ _ _ _ _ l B;refine r.pick f V (λ_ h=>h) 4 λN R _ _ e k=>?_;have D:=NT.mn _ _ _ _ _ (BS.le g k) C;refine⟨λ_=>?_,λ_=>e.hO NT.mn d aJ D G V _⟩;have E:=NT.mn _ _ _ _ _ (((BS.le g u).trans l).trans (BS.le g k)) q;refine e.call (S:=a) f (λ_ h=>h) (Kq (Pt (e.hS j) (E.le (bA _ _)) i.1) i.2 e.s.r) λt A Z T H F s L=>?_;intro O;let⟨h,v⟩:=s.put (S:=a) d (by simp:y.size∈_) [.s t,.s A];exact h.hO NT.mn d aJ (NT.mn _ _ _ _ _ v F) H V _
end
end
section
variable{c:Prop}
structure BF(S:List Nat)(rb:Nat)(bs:O)(m:E)(k Q W:Nat)(M:E):Prop where
 b:BS [k,m.size] rb bs m Q M
 x:∃d r x,cB M k mC [.s d,.s r]/\NT (bI (k::m.size::S) M) d r x/\UN True W x
def UN.mono{W W':Nat}{x:List bq×List eQ}(h:UN c W x)(f:W<=W'):UN c W' x:=⟨⟨h.1.gR,λq g=>let⟨a,b,d,e⟩:=h.1.df q g;⟨a,b,d,bJ e f⟩⟩,h.2⟩
section
variable{e h:List Nat}{d k Q Q' W W' i f:Nat}{g:O}{a M b:E}{K:E->Prop}{j:O->O->List Value}
def BF.mono(h:BF e d g a k Q W M)(j:Q<=Q')(l:W<=W'):BF e d g a k Q' W' M:=⟨⟨⟨h.b.s.f,h.b.s.r.mono j⟩,h.b.fS⟩,let⟨i,r,x,b,f,c⟩:=h.x;⟨i,r,x,b,f,c.mono l⟩⟩
def BF.to(i:BF e d g a k Q W M)(n:d<a.size)(m:d∈e)(f:Fz [d] M b)(j:BS [k,a.size] d g a Q' b):BF e d g a k Q' W b:=
 let⟨l,r,x,h,t,c⟩:=i.x
 ⟨j,l,r,x,h.congr (f.same k h.lt (by have:=i.b.fS k aJ;simp;omega)),NT.mn _ _ _ _ _ (BS.le (B:=[k,a.size]) m f) t,c⟩
def BF.pick(j:BF e d g a k Q W M)(l:d<a.size)(q:d∈e)(o:Q<=10^16)(m:∀c∈h,c∈[k,a.size])(n:Int){K:Int->E->Prop}
 (p:∀i b,BF e d g a k (Q+1) W b->K i b):aP cv 20 [vp d 0,vi n] M λv b=>eF h M b/\∃i:Int,v=vi i/\K i b:=
 j.b.pick l o m n λi b _ _ c f=>p i b (j.to l q f c)
def BF.Zd(q:BF e d g a k Q W M)(w:Rd d g i a)(F:k≠a.size)(y:∀p∈h,p=a.size)
 (c:∀l n x,NT (bI (k::a.size::e) M) l n x->UN True W x->aP cv f (j l n) M (PP NT (UN True W') (k::a.size::e) d g M Q'))
 (I:∀b,BF e d g a k Q' W' b->K b):∃z:O,af M k 0=some (O.v z)/\∃A:O,af M k 1=some (O.v A)/\aP cv f (j z A) M λT b=>eF h M b/\∃t u:O,T=.agg #[O.v t,O.v u]/\fq b k 0 2/\(eF h b (aj b k 0 [.s t,.s u])/\K (aj b k 0 [.s t,.s u])):=by
 let⟨l,n,x,B,J,P⟩:=q.x
 have G:=w.lt
 have V:=q.b.fS k aJ
 refine⟨l,B.cK 0,n,B.cK 1,q.b.call (S:=e) (L:=h) G (λp s=>by simp[y p s]) (c l n x J P) λp s U b R N C D=>?_⟩
 have v:=B.congr (D.same k B.lt bS)
 let⟨b2,H⟩:=C.put (S:=e) w (by simp:k∈_) [.s p,.s s]
 exact⟨v.fq aJ,λc E=>bh _ _ _ _ (by rw[y c E];exact kE F),I _ ⟨b2,p,s,U,cB.aj (m:=b) (o:=0) (r:=[.s p,.s s]) v,NT.mn _ _ _ _ _ H N,R⟩⟩
def BF.bC(h:BF e d g a k Q W M)(j:Rd d g i a)(l:Q<=Q'):∃b:O,af M k 0=some (O.v b)/\∃c:O,af M k 1=some (O.v c)/\PP NT (UN True W) e d g a Q' (.agg #[O.v b,O.v c]) (aj M a.size 0 [.s b,.s c]):=
 let⟨f,r,_,B,t,u⟩:=h.x
 ⟨f,B.cK 0,r,B.cK 1,h.b.hO NT.mn j aJ t u l _⟩
end
section
variable{a:List Nat}{b:E}{d P:Nat}{e:O}
def Yu{h:Nat}{g:List Value}{M:E}{Q:Nat}{b:List bq}{W:Nat}(k:Su h g M a d e Q b λf=>uK b f c W)(hd:b∈ov):aP cv h g M (PP NT (UN c W) a d e M Q):=
 k.mono λ_ _⟨i,l,f,j,n,o,r,x⟩=>⟨i,l,(b,f),j,n,⟨o,hd⟩,r,x⟩
def Q7(i:∀c∈a,c<b.size)(k:d∈a)(g:Rd d e P b)(h:P+4<=10^16){W:Nat}(j:W<=200000000000)(f r:O)(x:List bq×List eQ)(t:NT (bI a b) f r x)(u:UN True W x):aP cv 173 [vp d 0,.agg #[O.v f,O.v r]] b (PP NT (UN True (W+4)) a d e b (P+4)):=
 Yu (Ps i k g h t u.1 j) u.2
def Bm(z:∀c∈a,c<b.size)(l:d∈a)(g:Rd d e P b)(Z:P+1000+4*(300+40*Cg 18)<=10^16):aP cv 126 [vp d 0] b (PP NT (UN True 98289774148) a d e b (P+24+4*(300+40*Cg 18))):=by
 apply vn (d,0);simp -zeta only[aG,aF];have k:=g.lt;intro q;have z1:q.size=b.size+1:=by simp[q]
 obtain⟨b1,-⟩:BS [b.size] d e b P q/\True:=⟨(BS.lj (S:=a) g _).1,trivial⟩;clear_value q;refine b1.call (S:=a) k (λ_ h=>h) (Dr (b1.hS z) (by simp[l]) b1.s.r V) λD H J f I t2 b2 K=>?_;have z2:=K.size;intro N G;let⟨b4,L,C⟩:=b2.box (S:=a) (m1:=N) (m2:=G) rfl rfl rfl;clear_value G;have X:=NT.mn _ _ _ _ _ L t2;have p:f.size≠b.size:=V;have n:∀{M:E}{Q W:Nat},BF a d e b f.size Q W M->∀c∈f.size::b.size::a,c<M.size:=λh=>h.b.hS z;have F:d∈f.size::b.size::a:=by simp[l]
 refine⟨BF a d e b f.size (P+17+4*(300+40*Cg 18)) 104504,?_,λR U=>?_⟩
 .refine b4.pick k V (λ_ h=>h) 4 λA m5 _ _ b5 t=>?_;have u:=NT.mn _ _ _ _ _ (BS.le (B:=[f.size,b.size]) l t) X;have s:=C.congr (t.same _ C.lt bS);refine⟨λ_=>b5.call (S:=a) k (λ_ h=>h) (Q7 (b5.hS z) F b5.s.r V V D H J u I) λi j x O Y T b6 w=>?_,λ_=>BF.mono ⟨b5,D,H,J,s,u,I⟩ V V⟩;intro R;let⟨v,y⟩:=b6.put (S:=a) g (by simp:f.size∈_) [.s i,.s j];exact BF.mono ⟨v,i,j,x,cB.aj (m:=O) (o:=0) (r:=[.s i,.s j]) (s.congr (w.same _ s.lt bS)),NT.mn _ _ _ _ _ y T,Y⟩ V V
 refine⟨BF a d e b f.size (P+18+4*(300+40*Cg 18)) 10921086016,?_,λY O=>?_⟩
 .refine U.pick k l V aJ 4 λA v s=>⟨λ_=>s.Zd g p aJ (λi j x t u=>Kq (Hc (n s) (t.le (bA _ _)) V u.1) u.2 s.b.s.r) λy h=>h.mono V V,λ_=>s.mono V V⟩
 refine O.pick k l V aJ 3 λA aa s=>?_;refine⟨BF a d e b f.size (P+19+4*(300+40*Cg 18)) 98289774144,⟨λ_=>s.Zd g p aJ (λi j x t u=>Kq (DN (n s) (t.le (bA _ _)) V u.1) u.2 s.b.s.r) λy h=>h.mono V V,λ_=>s.mono V V⟩,λab v=>?_⟩;refine⟨BF a d e b f.size (P+19+4*(300+40*Cg 18)) 98289774144,⟨λ_=>v.Zd g p aJ (λi j x t u=>Kq (Mk (n v) (t.le (bA _ _)) V u.1) u.2 v.b.s.r) λy h=>h.mono V V,λ_=>v.mono V V⟩,λac T=>?_⟩;refine T.pick k l V aJ 6 λA ad w=>⟨λ_=>w.Zd g p aJ (λi j x t u=>Q7 (n w) F w.b.s.r V V i j x t u) λy h=>h.bC g V,λ_=>(w.mono (Q':=P+24+4*(300+40*Cg 18)) (W':=98289774148) V V).bC g V⟩
def Hk(j:∀c∈a,c<b.size)(l:d∈a)(f:Rd d e P b)(B:P+1000+4*(300+40*Cg 18)<=10^16):aP cv 79 [vp d 0] b (PP IT UI a d e b (P+25+4*(300+40*Cg 18))):=by
 apply zJ (d,0);simp -zeta only[aG,aF];have g:=f.lt;intro m;obtain⟨b1,-⟩:BS [b.size] d e b P m/\True:=⟨(BS.lj (S:=a) f _).1,trivial⟩;clear_value m;refine b1.call (S:=a) g (λ_ h=>h) (Bm (b1.hS j) (by simp[l]) b1.s.r V) λv H K D o t2 b2 y=>?_;refine b2.call (S:=a) g (λ_ h=>h) (VU (KV (b2.hS j) (t2.le (bA _ _)) o.1 V) o.2 b2.s.r) λw I L E i t3 b3 z=>?_;intro r n;obtain⟨b5,q,-⟩:=b3.box (S:=a) (m1:=r) (m2:=n) rfl rfl rfl;clear_value n;have s:=IT.mn _ _ _ _ _ q t3;refine b5.pick g V (λ_ h=>h) 3 λC F _ _ b6 p=>?_;have k:=IT.mn _ _ _ _ _ (BS.le l p) s;refine⟨λ_=>?_,λ_=>b6.hO IT.mn f aJ k i V _⟩;exact b6.call (S:=a) g (λ_ h=>h) (VU (HK (b6.hS j) (k.1.le (bA _ _)) (pH i.2) (gT.le (bA _ _) k.2) i.1) i.2 b6.s.r) λx J M G u t h A=>h.hO IT.mn f aJ t u V _
end
end
section
variable{x:Instr}
section
variable{S:List Nat}{m M:E}{a P Q:Nat}{b:O}
def yY(h:Rs a b m Q M)(i:Q<=10^16)(c:List Int){d:List Ce}{n:Nat}(j:d=c.map Ce.i)(p:n=c.length)(l:0<c.length/\c.length<=100):
 aP cv 74 [vp a 0,O.v (.mk M.size 0 n n)] (M.push (.cells (bE d) aA)) λv e=>∃t:Int,v=vi t/\t∈c/\Rs a b m (Q+1) e/\Fz [a] (M.push (.cells (bE d) aA)) e:=by
 have x:=J.push M (.cells (bE d) aA)
 have o:=h.r.lt
 refine(jR (h.ext x).r i (au.lit aA c (by simp;exact o) j p V) l.1).mono λv e⟨q,g,k,r,f⟩=>⟨q,g,k,(h.ext x).to f r,f⟩
def _root_.Go.Vc.Gr.Km{b c:E}{s:O}{l:List Int}(h:GI S b M s l)(f:Fz [a] M c)(d:a<b.size):GI S b c s l:=have:=h.bn;GI.iI h (f.same _ this.2 bS)
def pX(n:Rd a b P m)(hP:P+10<=10^16){D:O}{l:List Int}(S:au m D l)(hb:l.length<=10^12):aP cv 85 [vp a 0,O.v D] m λaa o=>∃s c,aa=O.v s/\GI [] m o s c/\c.length<=l.length+1/\(∀w∈c,w∈l\/-1<=w/\w<=1001)/\Rd a b (P+3) o/\Fz [a] m o:=by
 apply rU (a,0);have g:=n.lt;refine(bP [] S V).mono λ_ W⟨s,c,e,j,I,G⟩=>⟨s,e,?_⟩;subst I;have ab:=j.len bo;have p:Rs a b m P W:=⟨G.fz _,n.ext G⟩;have hO:∀{M:E}{Q:Nat},Rs a b m Q M->Q<=P+2->GI [] m M s l->aP cv 74 [vp a 0,O.v (.mk M.size 0 5 5)] (M.push (.cells (bE [.i 0,.i 1,.i 2,.i (-1),.i 1000]) aA)) λx r=>∃i:Int,x=vi i/\
  jb (r.push (.cells (bE [.i i]) aA)) aA [.i 0] 8 s (.mk r.size 0 1 1) λt q=>∃s c,O.v t=O.v s/\GI [] m q s c/\c.length<=l.length+1/\(∀w∈c,w∈l\/-1<=w/\w<=1001)/\Rd a b (P+3) q/\Fz [a] m q:=λ{M Q} rM hQ gM=>
  (yY rM V [0,1,2,-1,1000] rfl rfl aJ).mono λ_ r⟨t,e,u,f,d⟩=>⟨t,e,by
   have g2:=(gM.ext (J.push M _)).Km d g;refine GI.kj g2 f.f aJ V λx o L z z' Y=>⟨x,_,rfl,L,aJ,λw v=>?_,?_,z⟩
   .rcases List.mem_append.1 v with h|h
    .exact Or.inl h
    .simp at h u;exact Or.inr V
   .exact(n.LR f.r z (Y a f.r.lt (oh g2.bn))).mono V⟩
 refine⟨λR=>?_,λ_=>hO p V j⟩;simp only[iX,aq]at R;refine(bX p.r V 2).mono λ_ m2⟨T,e,_,_,y,d⟩=>⟨T,e,λ_=>?_,λ_=>hO (p.to d y) V (j.Km d g)⟩;have f:=p.to d y;refine(bX f.r V (s.len:Int)).mono λ_ X⟨i,e,U,k1,H,A⟩=>⟨i,e,?_⟩;refine(yY (f.to A H) V [0,1,-1,7,1000,1001] rfl rfl aJ).mono λ_ m5⟨t,e,u,F,K⟩=>⟨t,e,U,V,?_⟩;have C:=(((j.Km d g).Km A g).ext (J.push X _)).Km K g;let⟨w,N,B,Z⟩:=C.set F.f (k:=i.toNat) V t;refine⟨w,s,_,rfl,N,aJ,λw v=>?_,(n.LR F.r B (Z a (oh C.bn))).mono V,B⟩;rcases cO v with h|h
 .exact Or.inl h
 .simp at u;exact Or.inr V
def IX(Z:List Nat)(a:Nat)(b:O)(m:E)(P:Nat)(U:Instr->Prop)(v:Value)(c:E):Prop:=∃x d j,v=VV x d j/\au (bI Z c) d x.args/\au (bI Z c) j x.di/\U x/\Rd a b P c/\Fz [a] m c
def vt(S:List Nat){p t:O}(v:au m p x.args)(w:au m t x.di)(s:x.args.length<=10^12/\x.di.length<=10^12):
 aP cv 178 [VV x p t] m λz l=>∃c d,z=VV x c d/\GI S m l c x.args/\GI S m l d x.di/\c.aC≠d.aC/\J m l:=by
 apply qJ
 simp -zeta only[aG,aF]
 intro i j
 let⟨e,g⟩:=dk (a:=i) (c:=j) rfl rfl
 have F:i.size=m.size+1:=by simp[i]
 clear_value j
 have b:∀{M n:E},J j M->J M n->∀o,af n m.size o=af M m.size o:=λh u o=>aM (u.same _ (h.lt (g _ aJ))) o
 refine(bP S (v.ext e) s.1).aK (J.aH j) g λc _ B q k a _=>⟨_,rfl,b (J.aH _) a _,b (J.aH _) a _,b (J.aH _) a _,b (J.aH _) a _,b (J.aH _) a _,?_⟩
 subst k
 refine(bP S (w.ext (e.trans a)) s.2).aK a g λd _ C r k f y=>⟨_,rfl,b a f _,b a f _,b a f _,b a f _,?_⟩
 subst k
 intro D
 have G:=q.bn;have H:=r.bn
 have A:=g i.size aJ
 exact⟨c,d,rfl,((q.ext f).iI (bh _ _ _ _ V)).cL (λ_ h=>h) e.size,(r.iI (bh _ _ _ _ V)).cL (λ_ h=>h) (e.trans a).size,V,(e.trans y).aj V _ _⟩
end
structure BI(a0:E)(k rb:Nat)(bs:O)(m:E)(Q:Nat)(M:E)(a j:O)(l l':List Int):Prop where
 ga:GI [] a0 M a l
 gj:GI [] a0 M j l'
 ne:a.aC≠j.aC
 s:Rs rb bs m Q M
 lo:m.size+2<=a0.size/\l.length<=1000000000001/\l'.length<=1000000000001
 hi:a.aC≠k/\j.aC≠k/\m.size<=k/\k<M.size
section
variable{Z L:List Nat}{f m M c:E}{b k P g Q h:Nat}{d a j:O}{l e:List Int}
def BI.to(g:BI f k b d m Q M a j l e)(n:b<m.size)(i:Fz [b] M c)(r:Rd b d h c):BI f k b d m h c a j l e:=
 have:=g.lo
 ⟨g.ga.Km i V,g.gj.Km i V,g.ne,g.s.to i r,g.lo,g.hi.1,g.hi.2.1,g.hi.2.2.1,aL g.hi.2.2.2 i.size⟩
def BI.put(h:BI f k b d m Q M a j l e)(g:Rd b d P m)(o:Nat)(c:List Ce):BI f k b d m Q (aj M k o c) a j l e:=
 have:=h.lo;have:=h.hi;have:=h.ga.bn
 ⟨GI.iI h.ga (bh _ _ _ _ V),GI.iI h.gj (bh _ _ _ _ V),h.ne,h.s.put g V _ _,h.lo,by rw[aD];exact h.hi⟩
def BI.hO{U:Instr->Prop}(h:BI f k b d m Q M a j l e)(v:Rd b d P m)(t:∀c∈Z,c<m.size){i:Nat}(y:i=m.size+1)(w:Q<=g){r n q p:Int}(x:U ⟨r,n,q,p,l,e⟩)(s:List Ce):IX Z b d m g U (.agg #[vi r,vi n,vi q,vi p,O.v a,O.v j]) (aj M i 0 s):=by
 have:=h.lo;have:=h.hi;have z:=h.ga.bn;have A:=h.gj.bn;have u:=h.s.put v (k:=i) V 0 s;exact⟨⟨r,n,q,p,l,e⟩,a,j,rfl,Gr.done tp.mono (GI.any (GI.iI h.ga (bh _ _ _ _ V))) (λc o=>oh (t c o)) bo (bJ h.lo.2.1 bo),Gr.done tp.mono (GI.any (GI.iI h.gj (bh _ _ _ _ V))) (λc o=>oh (t c o)) bo (bJ h.lo.2.2 bo),x,u.r.mono w,u.f⟩
def BI.pick(h:BI f k b d m Q M a j l e)(r:b<m.size)(t:Q<=10^16)(s:∀g∈L,m.size<=g/\g<=k)(p:Int){K:Int->E->Prop}
 (v:∀i c,0<=i->(i<p\/i=0)->BI f k b d m (Q+1) c a j l e->(∀o,af c k o=af M k o)->Fz [b] M c->K i c):aP cv 20 [vp b 0,vi p] M λz c=>eF L M c/\∃i:Int,z=vi i/\K i c:=
 have:=h.lo;have:=h.hi;have:=h.ga.bn
 (bX h.s.r t p).mono λ_ c⟨i,q,w,x,y,n⟩=>⟨n.de λg u=>by have:=s g u;simp;omega,i,q,v i c w x (h.to r n y) (λo=>aM (n.same k h.hi.2.2.2 bS) o) n⟩
end
def So(x y:Instr):Prop:=(∀k,Sv k x->Sv k y)/\y.args.length<=10^12/\y.di.length<=10^12
def Ha{Z:List Nat}{m:E}{g P:Nat}{t F H:O}(d:∀c∈Z,c<m.size)(a:Rd g t P m)(hP:P+10<=10^16)(R:au (bI [g] m) F x.args)(hj:au m H x.di)(b:x.args.length<=10^12/\x.di.length<=10^12)(hx:∃I,Sv I x):
 aP cv 129 [vp g 0,VV x F H] m (IX Z g t m (P+3) (So x)):=by
 apply zk (g,0)
 simp(config:={maxSteps:=1000000}) -zeta only[aG,aF]
 have p:=a.lt
 intro r u
 let⟨W,hl⟩:=dk (a:=r) (c:=u) rfl rfl
 have i:r.size=m.size+1:=by simp[r]
 have s2:u.size=m.size+2:=by simp[u,i]
 clear_value u
 clear_value r
 refine(vt [] ((R.le (bA _ _)).ext W) (hj.ext W) b).mono λ_ w⟨s,K,e,ga,gj,T,X⟩=>⟨X.de hl,_,_,_,_,_,_,e,?_⟩
 intro m4 U
 obtain⟨N,-,z5⟩:=iL (M:=w) (d:=m4) (c:=U) rfl rfl rfl
 clear_value U
 have ya:=ga.bn;have yj:=gj.bn
 have X5:=(W.trans X).trans N
 have b5:BI u w.size g t m P U s K x.args x.di:=⟨ga.ext N,gj.ext N,T,⟨X5.fz _,a.ext X5⟩,⟨V,ou b.1,ou b.2⟩,V,V,V,V⟩
 have o:∀n∈[w.size,r.size,m.size],m.size<=n/\n<=w.size:=bS
 let⟨q,z,C,A,j,B⟩:=x
 have EW:So ⟨q,z,C,A,j,B⟩ ⟨q,z,C,A,j,B⟩:=⟨λ_ h=>h,b⟩
 refine b5.pick p V o 5 λae f _ _ b6 _ f6=>?_
 have y:∀{Y:E}{aa:Nat},BI u w.size g t m aa Y s K j B->aa<=P+3->IX Z g t m (P+3) (So ⟨q,z,C,A,j,B⟩) (.agg #[vi q,vi z,vi C,vi A,O.v s,O.v K]) (aj Y r.size 0 [.i q,.i z,.i C,.i A,.s s,.s K]):=λh hQ=>h.hO a d i hQ EW _
 have ab:q=16\/q=17->(0:Int)<=0/\(0:Int)<(F.len:Int)/\∃v:Int,af f F.aC (F.off+Int.toNat 0*1)=some (vi v)/\IX Z g t m (P+3) (So ⟨q,z,C,A,j,B⟩) (.agg #[vi 15,vi 0,vi 0,vi 0,O.v (.mk f.size 0 1 1),O.v .nil]) (aj (f.push (.cells (bE [.i v]) aA)) r.size 0 [.i 15,.i 0,.i 0,.i 0,.s (.mk f.size 0 1 1),.s .nil]):=λe=>by
  have hn:0<j.length:=let⟨_,h⟩:=hx;h.arg bS;have S:=R.len;let⟨D,hy⟩:=cq j 0 hn;have z6:=b6.hi;have r7:=(b6.s.ext (J.push f (.cells (bE [.i D]) aA))).put a (k:=r.size) V 0 [.i 15,.i 0,.i 0,.i 0,.s (.mk f.size 0 1 1),.s .nil];have Q:GI [] f (f.push (.cells (bE [.i D]) aA)) (.mk f.size 0 1 1) [D]:=Gr.lit (f:=[[.i D]]) tp.mono (ad _) aJ rfl rfl ⟨rfl,aJ,λH cs x G L=>by
   cases H with
   |zero=>simp at G L;rw[<-G,<-L];rfl
   |succ H=>simp at G⟩
  exact⟨dh 0,by simp at S;omega,D,(eA.1 ((R.le (b6.s.f.cR aJ)).aQ hy)).2,⟨15,0,0,0,[D],[]⟩,_,.nil,rfl,GI.done (GI.any (GI.iI Q (bh _ _ _ _ bS))) (λc L=>oh (d c L)) aJ,⟨rfl,dy _,aJ,aJ⟩,⟨λ_ _=>⟨sx,sx⟩,aJ,aJ⟩,r7.r.mono V,r7.f⟩
 refine⟨λ_=>⟨λe=>?_,λ_=>⟨λe=>(b6.put a _ _).hO a d i V ⟨λ_ _=>⟨sx,sx⟩,b⟩ _,λ_=>⟨λe=>?_,λ_=>y b6 V⟩⟩⟩,λ_=>⟨λ_=>⟨λG=>?_,λ_=>y b6 V⟩,λ_=>⟨λ_=>?_,λ_=>⟨λ_=>⟨λe=>ab (Or.inl (by simpa using e)),λ_=>⟨λe=>ab (Or.inr (by simpa using e)),λ_=>⟨λe=>b6.pick p V o 4 λv L _ _ c _ _=>(c.put a _ _).hO a d i V ⟨λ_ h=>⟨h.LU,h.arg⟩,b⟩ _,λ_=>y b6 V⟩⟩⟩,λ_=>⟨λ_=>⟨λe=>?_,λ_=>⟨λe=>?_,λ_=>y b6 V⟩⟩,λ_=>y b6 V⟩⟩⟩⟩⟩
 .simp only[aO]at e
  exact(b6.put a _ _).hO a d i V ⟨λ_ _=>⟨sx,sx⟩,b⟩ _
 .simp only[aO]at e
  exact(b6.put a _ _).hO a d i V ⟨λ_ h=>⟨sx,λ_=>h.arg (by simp[e])⟩,b⟩ _
 .simp only[iX,aq]at G
  have S:=b6.ga.len bo
  refine b6.pick p V o (s.len:Int) λI m7 k0 k1 b7 Q f7=>⟨Q 4,b7.pick p V o 4 λv L _ _ c g8 f8=>⟨g8 4,k0,V,?_⟩⟩
  let⟨ac,g9,f9,q9⟩:=GI.set c.ga (((((X.trans N).fz [g]).trans f6).trans f7).trans f8) (k:=I.toNat) (by show I.toNat<j.length;have:s.len=j.length:=S;omega) v
  have yb:=c.hi
  refine⟨ac,λn b=>q9 n (by have:=o n b;simp at b;omega),BI.hO (k:=w.size) (l:=j.set I.toNat v) (e:=B) ⟨g9,GI.iI c.gj (q9 _ (kE T)),T,⟨c.s.f.aj (Or.inr V) _ _,a.aj c.s.r c.s.f V _ _⟩,⟨V,by simpa using ou b.1,ou b.2⟩,V,V,V,by rw[aD];omega⟩ a d i V ⟨λ_ h=>⟨h.LU,λe=>by simpa using h.arg e⟩,by simpa using b⟩ _⟩
 .refine(rV q f).any.mono λ_ m7⟨n,e,I⟩=>⟨I.de λn b=>PO (o n b) b6.hi,n,e,λ_=>?_,λ_=>y (b6.to p (I.fz _) (b6.s.r.ext I)) V⟩
  exact(b6.to p (I.fz _) (b6.s.r.ext I)).pick p V o 4 λv L _ _ c _ _=>(c.put a _ _).hO a d i V ⟨λ_ h=>⟨h.LU,h.arg⟩,b⟩ _
 .simp only[aO]at e
  exact b6.pick p V o 9 λv L _ _ c _ _=>(c.put a _ _).hO a d i V ⟨λ_ h=>⟨λh=>by simp[e]at h,h.arg⟩,b⟩ _
 .simp only[aO]at e
  exact b6.pick p V o 3 λv L _ _ c _ _=>(c.put a _ _).hO a d i V ⟨λ_ h=>⟨λh=>by simp[e]at h,h.arg⟩,b⟩ _
end
section
def RA(M:E)(c:List Ce)(x:da×O):Prop:=∃a b,c=[.s a,.s b,.i x.1.aT,.i x.1.ax,.s x.2]/\au M a x.1.params/\au M b x.1.dg
def RA.mono:nG 5 RA:=⟨λh⟨a,b,e,c,d⟩=>⟨a,b,e,c.le h,d.le h⟩,λ⟨_,_,e,_⟩=>by rw[e];rfl⟩
def hd(x:da×O):da×O:=({x.1 with bt:=[]},x.2)
abbrev Ks(l:List (da×O)):List Nat:=l.map λx=>x.2.aC
structure uL(S:List Nat)(m0 M:E)(dd q:O)(ds:List bq)(l:List (da×O)):Prop where
 d:bZ (bI (q.aC::(Ks l++S)) M) dd ds
 g:Gr (Ks l++S) m0 M jd 5 RA q (l.map hd)
 c:∀x∈l,Gr (q.aC::(Ks l++S)) m0 M dO 6 dH x.2 x.1.bt
 nd:(Ks l).Nodup
 lt:∀b∈S,b<M.size
 nq:q.aC∉S
 nc:∀x∈l,x.2.aC∉S
section
variable{S S' Y:List Nat}{b f M e:E}{c q:O}{d:List bq}{l:List (da×O)}
def uL.kq(h:uL S b M c q d l):∀x∈l,x.2.aC≠q.aC:=λx a=>(h.c x a).Kp h.g bo
def uL.re(i:uL S b M c q d l)(o:Fz Y M e)(k:∀a∈Y,a∈S)(n:∀a∈S',(a∈S\/M.size<=a)/\a<e.size)(p:f.size<=b.size):uL S' f e c q d l:=by
 have t:=i.g.bn;have r:∀{a:Nat},a∈Ks l++S'->a∈Ks l++S\/M.size<=a:=λg=>by
  rcases List.mem_append.1 g with h|h
  .exact Or.inl (bz _ h)
  .exact(n _ h).1.imp (dw _) id
 have s:∀{a:Nat},a∈q.aC::(Ks l++S')->a∈q.aC::(Ks l++S)\/M.size<=a:=λg=>by
  rcases List.mem_cons.1 g with h|h
  .exact Or.inl (by simp[h])
  .exact(r h).imp (ah _) id
 refine⟨i.d.le (o.bI (λa g=>by simp[k a g]) λa g=>s g),Gr.cL RA.mono (i.g.re RA.mono o (λa g=>by simp[k a g]) (λj=>i.nq (k _ j)) λa g=>r g) (λa g=>Or.inl g) p,λx m=>Gr.cL dH.mono ((i.c x m).re dH.mono o (λa g=>by simp[k a g]) (λj=>i.nc x m (k _ j)) λa g=>s g) (λa g=>Or.inl g) p,i.nd,λa g=>(n a g).2,λj=>?_,λx m j=>?_⟩
 .rcases(n _ j).1 with h|h
  .exact i.nq h
  .omega
 .have:=(i.c x m).bn;rcases(n _ j).1 with h|h
  .exact i.nc x m h
  .omega
def uL.bt(h:uL S b M c q d l){y:da×O}(a:y∈l)(j:y.1.bt.length<=10^12):dZ (bI (q.aC::S) M) y.2 y.1.bt:=
 have g:Gr (q.aC::S) b M dO 6 dH y.2 y.1.bt:=(h.c y a).re dH.mono (Fz.aH [] M) aJ aJ λi f=>Or.inl (by rcases List.mem_cons.1 f with e|e<;>simp[e])
 g.mZ dH.mono (by simp;exact⟨h.kq y a,h.nc y a⟩) bo V
def uL.gr(h:uL S b M c q d l)(u:∀x∈l,x.1.bt.length<=10^12):Gr S b M jd 5 kL q (l.map (·.1)):=by
 let⟨v,n,z,r⟩:=h.g;refine⟨v,n,z,by simpa using r.len,r.size,λk m x t a=>?_⟩;rw[bT]at a;cases f:l[k]? with
 |none=>simp[f]at a
 |some y=>
  simp[f]at a;subst a;let⟨j,g,e,o,p⟩:=r.df k m (hd y) t (by simp[f]);have i:=av f;have w:Le (bI (q.aC::(Ks l++S)) M) (bI (q.aC::S) M):=gL M λg s=>by rcases List.mem_cons.1 s with e|e<;>simp[e]
  exact⟨j,g,y.2,e,o.le w,p.le w,h.bt i (u y i)⟩
def uL.zg{L:List Nat}{j G:E}{t e ks:O}{p:da}{h tb i:Nat}{bc:List Ce}{P:E->Prop}(n:uL S b M c q d l)(x:J M j)(Q:Gr (q.aC::(Ks l++S)) G j dO 6 dH ks p.bt)(h8:M.size<=G.size)
 (ha:au (bI (ks.aC::q.aC::(Ks l++S)) j) t p.params)(g:au (bI (ks.aC::q.aC::(Ks l++S)) j) e p.dg)(Z:cB M h tb bc)(hi:i<bc.length)(ht:tb≠jd)(v:b.size<=h/\h∈S)(R:∀e∈L,e<j.size/\e≠h/\e≠q.aC)(hl:l.length<=1000)(T:J b M)
 (hk:∀r k,uL S b k c r d (l++[(p,ks)])->cB k h tb (iO bc i [.s r])->J b k->P k):
 af (j.push (.cells (bE [.s t,.s e,.i p.aT,.i p.ax,.s ks]) jd)) h i=af j h i/\
 jb (j.push (.cells (bE [.s t,.s e,.i p.aT,.i p.ax,.s ks]) jd)) jd [.s .nil,.s .nil,.i 0,.i 0,.s .nil] 88 q (.mk j.size 0 1 1) λr k=>eF L (j.push (.cells (bE [.s t,.s e,.i p.aT,.i p.ax,.s ks]) jd)) k/\fq k h i 1/\(eF L k (aj k h i [.s r])/\P (aj k h i [.s r])):=by
 have z:=Z.ext x
 have U:=J.push j (.cells (bE [.s t,.s e,.i p.aT,.i p.ax,.s ks]) jd)
 have yk:=Q.bn
 have yq:=n.g.bn
 have zx:=x.size
 have hq:q.aC≠h:=λf=>n.nq (by rw[f];exact v.2)
 have kx:ks.aC∉S:=λo=>by have:=n.lt _ o;omega
 have ck:∀y∈l,y.2.aC<M.size:=λy s=>(n.c y s).bn.2
 have I:∀e∈Ks (l++[(p,ks)])++S,e∈Ks l++S\/e=ks.aC:=λe g=>by
  simp only[Ks,eX,cA,fg,lE,fP]at g⊢;rcases g with(f|f)|f<;>simp[f]
 have g1:Gr (Ks (l++[(p,ks)])++S) b j jd 5 RA q (l.map hd):=n.g.re RA.mono (x.fz []) aJ aJ λe g=>(I e g).imp id λf=>V
 have Y:Le (bI (ks.aC::q.aC::(Ks l++S)) j) (bI (q.aC::(Ks (l++[(p,ks)])++S)) j):=gL j λe g=>by
  rcases List.mem_cons.1 g with f|f
  .simp[f]
  .rcases I e f with f|f
   .exact ah _ (ah _ f)
   .simp[f]
 refine⟨aM (U.same h z.lt) i,Gr.kj (g:=[.s .nil,.s .nil,.i 0,.i 0,.s .nil]) (k:=hd (p,ks)) RA.mono bo g1 ((T.trans x).fz []) ⟨t,e,rfl,ha.le Y,g.le Y⟩ bS λr k ab aa B F=>?_⟩
 have K:=z.congr (F h z.lt (kE hq))
 have hr:r.aC≠h:=by have:=z.lt;omega
 have A:∀e,e≠h->(aj k h i [.s r])[e]? =k[e]? :=λe g=>bh _ _ _ _ g
 have N:Fz [q.aC,h] j (aj k h i [.s r]):=⟨by rw[aD];exact B.1,λe g w=>(A e (by simp at w;omega)).trans (F e g (by simp at w;omega))⟩
 have C:Fz [q.aC,h] M (aj k h i [.s r]):=(x.fz _).trans N
 have F0:J b (aj k h i [.s r]):=(aa.aj (Or.inr v.1) _ _).ext
 have ae:=B.1
 have W:∀e∈r.aC::(Ks (l++[(p,ks)])++S),(e∈q.aC::(Ks l++S)\/e=ks.aC)\/j.size<=e:=λe g=>by
  rcases List.mem_cons.1 g with f|f
  .rcases B.2 with u|u
   .exact Or.inl (Or.inl (by simp[f,u]))
   .exact Or.inr V
  .exact Or.inl ((I e f).imp (ah _) id)
 have X:∀e∈r.aC::(Ks (l++[(p,ks)])++S),e∈q.aC::(Ks l++S)\/M.size<=e:=λe g=>(W e g).elim (λf=>f.imp id λf=>V) λf=>Or.inr V
 have H:∀e∈[q.aC,h],e∈q.aC::(Ks l++S):=λe g=>by simp at g;rcases g with f|f<;>simp[f,v.2]
 refine⟨λe g=>?_,K.fq V,λe g=>A e (R e g).2.1,hk r _ ⟨n.d.le (C.bI H X),?_,λy s=>?_,?_,λe g=>?_,λo=>?_,λy s o=>?_⟩ (cB.aj (m:=k) K) F0⟩
 .have D:=R e g
  rw[F e V D.2.2,U.same e V]
 .rw[eX]
  let⟨g0,D,g1,g2⟩:=ab
  exact⟨g0,D,g1.congr (A _ hr),g2.mono λcs y=>RA.mono.le (oP λe g w=>⟨w,A e λf=>w (by rw[f];simp[v.2])⟩)⟩
 .rcases List.mem_append.1 s with f|f
  .exact(n.c y f).re dH.mono C H (by simp;exact⟨n.kq y f,λu=>n.nc y f (u▸v.2)⟩) X
  .simp at f
   subst f
   let⟨ac,D,ad,rr⟩:=Q
   have w:Gr (ks.aC::q.aC::(Ks l++S)) G j dO 6 dH ks p.bt:=⟨ac,D,ad,rr.mono λcs y=>dH.mono.le (gL j λe g=>by
    rcases List.mem_cons.1 g with f|f
    .simp[f]
    .exact f)⟩
   exact Gr.cL dH.mono (w.re dH.mono N (λe g=>ah _ (H e g)) (by simp;exact⟨V,λu=>kx (u▸v.2)⟩) λe g=>(W e g).imp (λf=>f.elim (ah _) λf=>by simp[f]) id) (λe g=>Or.inl g) (oh T.size)
 .simp only[Ks,eX,cA,fg]
  refine List.nodup_append.2 ⟨n.nd,aJ,λe g u o=>?_⟩
  simp at o g
  obtain⟨w,D,s,rfl⟩:=g
  have:=ck _ s
  simp at this;omega
 .have:=n.lt e g
  have:=C.size
  omega
 .rcases B.2 with f|f
  .exact n.nq (f▸o)
  .have:=n.lt _ o;omega
 .rcases List.mem_append.1 s with f|f
  .exact n.nc y f o
  .simp at f
   subst f
   exact kx o
end
end
def vr{h:List Nat}{m:E}(R:∀c∈h,c<m.size){ae ak:O}{H:List bq}{C:List da}(hd:bZ m ae H)(ht:dI H)(hp:gT m ak C)(ai:yB C):
 aP cv 128 [.agg #[O.v ae,O.v ak]] m λN Y=>∃t q l,N=.agg #[O.v t,O.v q]/\uL h m Y t q H l/\l.map (·.1)=C/\J m Y:=by
 apply zw
 simp -zeta only[aG,aF]
 intro b a2
 let⟨x2,hl⟩:=dk (a:=b) (c:=a2) rfl rfl
 have s1:b.size=m.size+1:=by simp[b]
 clear_value a2
 have aH:=hp.len;have aE:=ai.nv
 refine(fD (b:=b.size::h) (bR R x2.size (hl _ aJ)) (hd.le x2.le) ht).mono λ_ z⟨t,e,ar,x3⟩=>?_
 subst e
 refine⟨x3.de hl,_,rfl,?_⟩
 intro j az ac
 have Z:=x2.trans x3
 let⟨x5,B0,g0,s3,s5⟩:=kC (b:=j.size::b.size::h) RA.mono (d:=z) (a:=j) (c:=az) (h:=ac) rfl rfl rfl
 clear_value ac
 have ah:∀c∈[b.size,m.size],c<z.size:=λc d=>x3.lt (hl c d)
 have i1:=ah b.size aJ
 have z2:=Z.size
 have A0:uL (j.size::b.size::h) z ac t (.mk z.size 0 0 0) H []:=⟨ar.le (x5.bI λf s=>by
  simp only[Ks,fg,dX,aW]at s;rcases s with e|e|e
  .exact Or.inr (by rw[e];exact ad _)
  .exact Or.inr V
  .exact Or.inl (List.mem_cons.2 e)),g0,aJ,aJ,λf s=>by
   simp only[aW]at s;rcases s with e|e|e
   .omega
   .omega
   .have:=R f e;omega,λd=>by
   simp only[aW]at d;rcases d with e|e|e
   .simp at e;omega
   .simp at e;omega
   .have:=R _ e;simp at this;omega,aJ⟩
 refine eu (n:=C.length) V (λX g=>J z g/\∃k l,uL (j.size::b.size::h) z g t k H l/\cB g j.size uF [.s t,.s k]/\l.map (·.1)=C.take X) ⟨x5,_,[],A0,B0,rfl⟩ ?_
 rintro X g aC μ hk ⟨xM,o,l,A,B,T⟩ aB
 have zM:=xM.size
 refine dit (λx=>?_) λx=>?_
 .let⟨q,hq⟩:=cq C X
  have W:=ai.df q (av hq)
  have q3:=W.params;have q4:=W.dg;have qf:=W.nv
  have v6:=Z.trans xM
  let⟨aD,f,c,c1,c2,c3,e0,e1,e2,e3,e4⟩:=hp.aQ hq
  have G:∀{N:Value}{f y:Nat},af m f y=some N->af g f y=some N:=λx=>v6.af x
  refine⟨V,V,_,G e0,_,G e1,_,G e2,_,G e3,_,G e4,?_⟩
  intro m7 k
  obtain⟨Q,-,s8⟩:=iL (M:=g) (d:=m7) (c:=k) rfl rfl rfl
  clear_value k
  have U:∀c∈[g.size,b.size,m.size],c<k.size:=λc d=>by
   rcases List.mem_cons.1 d with e|e
   .omega
   .have:=ah c e;omega
  have w8:=v6.trans Q
  have hT:∀{w:E},g.size<=w.size->∀c∈o.aC::(Ks l++(j.size::b.size::h)),c<w.size:=λx c d=>by
   rcases List.mem_cons.1 d with e|e
   .have:=A.g.bn;omega
   .rcases List.mem_append.1 e with e|e
    .obtain⟨u,r,rfl⟩:=List.mem_map.1 e;have:=(A.c u r).bn;omega
    .have:=A.lt c e;omega
  intro m9
  have x9:J k m9:=J.push _ _
  have ap:Gr (o.aC::(Ks l++(j.size::b.size::h))) k m9 dO 6 dH (.mk k.size 0 0 0) []:=Gr.new _ (ad _) _ _ _
  clear_value m9
  have aq:=c3.len
  refine dE (n:=q.bt.length) (aq▸c3.fA) (λab ks u=>J k u/\Gr (o.aC::(Ks l++(j.size::b.size::h))) k u dO 6 dH ks (q.bt.take ab)) ⟨x9,ap⟩ ?_
  rintro ab ks u I2 μ2 hj ⟨r,I⟩ aA
  have X2:=w8.trans r
  have z2:=r.size
  have ay:∀c∈[g.size,b.size,m.size],c<u.size:=λc d=>r.lt (U c d)
  refine dit (λh2=>?_) λh2=>?_
  .let⟨K,D⟩:=cq q.bt ab
   let⟨pa,pj,ha,ax,P,ag,aj,am,an,ao⟩:=(dZ.ext X2 c3).aQ D
   have yk:=I.bn
   refine⟨V,V,_,P,_,ag,_,aj,_,am,_,an,_,ao,?_⟩
   refine(vu (S:=ks.aC::o.aC::(Ks l++(j.size::b.size::h))) (λc d=>?_) ha ax (W.jh K (av D))).mono λN aI⟨a',j',e,aa,aw,v⟩=>⟨λc d=>v.same c (ay c d),_,_,_,_,_,_,e,?_⟩
   .rcases List.mem_cons.1 d with e|e
    .omega
    .exact hT V c e
   intro aK
   refine Gr.kj (g:=[.i 0,.i 0,.i 0,.i 0,.s .nil,.s .nil]) (k:=K) dH.mono bo (I.ext dH.mono v) ((r.trans v).fz []) ⟨a',j',rfl,aa,aw⟩ bS λal M3 g3 F z3 aN=>⟨J.nP ((r.trans v).aR _) F.ext U,aA V _ _ ⟨F.ext,?_⟩⟩
   rw[bF D];exact g3
  .rw[cG V]at I
   have v:∀{M1 u:E},J k M1->J M1 u->∀f,f<k.size->∀y,af u f y=af M1 f y:=λx h' f s y=>aM (h'.same f (x.lt s)) y
   have K:g.size<k.size:=V
   have i2:j.size<k.size:=aL B.lt Q.size
   refine⟨o,(B.ext (Q.trans r)).cK 1,?_⟩
   refine(bP [] (c1.ext X2) V).aK r U λa' _ ao ga e F D=>⟨_,rfl,v r F _ K _,v r F _ K _,v r F _ K _,v r F _ i2 _,?_⟩
   subst e
   refine(bP [] (c2.ext (w8.trans D)) V).aK D U λb' _ aj gb e P am=>⟨_,rfl,v D P _ K _,v D P _ K _,v D P _ i2 _,?_⟩
   subst e
   intro aw
   have ax:=D.size
   have aI:=am.size
   have yk:=I.bn
   have ag:∀{w:E},u.size<=w.size->∀c∈ks.aC::o.aC::(Ks l++(j.size::b.size::h)),c<w.size:=λx c d=>by
    rcases List.mem_cons.1 d with e|e
    .omega
    .exact hT V c e
   have aa:au (bI (ks.aC::o.aC::(Ks l++(j.size::b.size::h))) aj) a' q.params:=(GI.done (GI.any ga) (ag (ad _)) V).le (P.cR _)
   have an:au (bI (ks.aC::o.aC::(Ks l++(j.size::b.size::h))) aj) b' q.dg:=GI.done (GI.any gb) (ag F.size) V
   have ll:l.length=X:=by have:=tm List.length T;simp at this;omega
   have yq:=A.g.bn
   exact A.zg (i:=1) (bc:=[.s t,.s o]) (tb:=uF) (p:=⟨q.params,q.dg,q.aT,q.ax,q.bt⟩) (L:=[g.size,b.size,m.size]) (Q.trans am) (I.ext dH.mono (F.trans P)) V aa an B aJ bo ⟨V,aJ⟩ (λc d=>by
    have hn:=A.nq;simp only[aW,uJ]at d hn;have:=Q.size;have:=B.lt;rcases d with e|e|e|e
    .omega
    .omega
    .omega
    .simp at e) V xM λal Y A' B' x'=>aB V Y ⟨x',al,_,A',B',by rw[bF hq,eX,T];rfl⟩
 .refine⟨t,B.cK 0,o,B.cK 1,?_⟩
  intro w
  rw[cG V]at T
  have k:Fz [b.size] g w:=(Fz.aH _ g).aj (Or.inl aJ) _ _
  exact⟨t,o,l,rfl,A.re k aJ (λf s=>⟨Or.inl (by simp[s]),PO (R f s) k.size⟩) Z.size,T,(Z.trans xM).aj V _ _⟩
section
variable{cs:List Ce}{p:da}{y:Instr}
def Pp{α:Type}{l:List α}{f:Nat}{x:α}(h:l[f]? =some x):l.set f x=l:=by
 apply eM;intro i;rw[ik];split
 .next e=>
  subst e;rw[h];split
  .rfl
  .next hi=>exact absurd (az h) hi
 .rfl
section
variable{S L B X:List Nat}{c m M:E}{a q d:O}{b:List bq}{l:List (da×O)}{e Q f k:Nat}{x:da×O}
def BS.Zl(h:BS B e d m Q M)(o:Obj):BS (M.size::B) e d m Q (M.push o):=⟨h.s.ext (J.push M o),λc b=>by
 have z:=h.s.f.size;rw[Array.size_push];rcases List.mem_cons.1 b with a|a
 .omega
 .have:=h.fS c a;omega⟩
def uL.nv(h:yB (l.map (·.1)))(a:x∈l):Sz x.1:=h.df x.1 (List.mem_map.2 ⟨x,a,rfl⟩)
def uL.len(h:uL S c M a q b l):q.len=l.length:=by have:=h.g.len bo;simpa using this
def uL.jD(n:uL S c M a q b l)(z:l.length<=1000)(k:l[f]? =some x):∃e d:O,af M q.aC (q.off+f*5)=some (O.v e)/\af M q.aC (q.off+f*5+1)=some (O.v d)/\af M q.aC (q.off+f*5+2)=some (vi x.1.aT)/\af M q.aC (q.off+f*5+3)=some (vi x.1.ax)/\af M q.aC (q.off+f*5+4)=some (O.v x.2)/\au (bI (q.aC::S) M) e x.1.params/\au (bI (q.aC::S) M) d x.1.dg:=by
 let⟨A,m,v,r⟩:=n.g;have y:=az k;have t:f<m.length:=by have:=r.len;simp at this;omega
 let⟨cs,j⟩:=dJ t;let⟨e,d,h,o,p⟩:=r.df f cs (hd x) j (by simp[k]);have jD:=v.jD;have w:Le (bI (q.aC::(Ks l++S)) M) (bI (q.aC::S) M):=gL M λd s=>by rcases List.mem_cons.1 s with h|h<;>simp[h]
 have aQ:∀i g,cs[i]? =some g->af M q.aC (q.off+f*5+i)=some g.v:=λi g u=>by
  have:=jD (f*5+i) g (iH r.size j u);rwa[<-dR]at this
 subst h;exact⟨e,d,aQ 0 _ rfl,aQ 1 _ rfl,aQ 2 _ rfl,aQ 3 _ rfl,aQ 4 _ rfl,o.le w,p.le w⟩
def uL.it(h:uL S c M a q b l)(g:l.length<=1000)(e:∀x∈l,x.1.bt.length<=10^12):IT (bI S M) a q (b,l.map (·.1)):=
 ⟨h.d.le (gL M λf d=>by simp[d]),(h.gr e).mZ kL.mono h.nq bo (by simp only[dP];omega)⟩
def uL.aab(h:uL S c M a q b l)(i:Fz X c M)(o:l.length<=1000)(f:∀x∈l,x.1.bt.length<=10^12)(j:k<l.length)(m:kL (bI (q.aC::S) M) cs p):
 fq M q.aC (q.off+k*5) 5/\∃n,IT (bI S (aj M q.aC (q.off+k*5) cs)) a q (b,n):=by
 obtain⟨w,g,-,-⟩:=(h.gr f).set kL.mono i (k:=k) (by simpa using j) m
 have F:Fz [q.aC] M (aj M q.aC (q.off+k*5) cs):=(Fz.aH _ M).aj (Or.inl aJ) _ _
 exact⟨w,_,h.d.le (F.bI (λe d=>by simp at d;simp[d]) λe d=>Or.inl (by simp[d])),g.mZ kL.mono h.nq bo bS⟩
def uL.wr(h:uL S c M a q b l)(v:Fz X c M)(j:l[f]? =some x)(A:k<x.1.bt.length)(B:dH (bI (q.aC::(Ks l++S)) M) cs y):
 fq M x.2.aC (x.2.off+k*6) 6/\uL S c (aj M x.2.aC (x.2.off+k*6) cs) a q b (l.set f ({x.1 with bt:=x.1.bt.set k y},x.2)):=by
 have n:=av j
 have t:x.2.aC∈Ks l:=List.mem_map.2 ⟨x,n,rfl⟩
 have C:∀d∈x.2.aC::q.aC::(Ks l++S),d∈q.aC::(Ks l++S):=λd g=>by
  rcases List.mem_cons.1 g with e|e
  .rw[e];exact ah _ (bz _ t)
  .exact e
 obtain⟨D,u,-,E⟩:=(h.c x n).set dH.mono v A (dH.le (gL M C) B)
 have F:Fz [x.2.aC] M (aj M x.2.aC (x.2.off+k*6) cs):=(Fz.aH _ M).aj (Or.inl aJ) _ _
 have p:∀d∈[x.2.aC],d∈Ks l++S:=λd g=>by simp at g;rw[g];exact bz _ t
 have o:Ks (l.set f ({x.1 with bt:=x.1.bt.set k y},x.2))=Ks l:=by
  simp only[Ks,tj];exact Pp (by simp[j])
 have w:(l.set f ({x.1 with bt:=x.1.bt.set k y},x.2)).map hd=l.map hd:=by
  rw[tj];exact Pp (by simp[j,hd])
 have r:∀z∈l.set f ({x.1 with bt:=x.1.bt.set k y},x.2),z=({x.1 with bt:=x.1.bt.set k y},x.2)\/z∈l/\z.2.aC≠x.2.aC:=λz m=>by
  let⟨G,i⟩:=List.mem_iff_getElem?.1 m;rw[ik]at i;split at i
  .split at i
   .exact Or.inl (by simpa using i.symm)
   .simp at i
  .next hne=>
   refine Or.inr ⟨av i,λe=>hne ?_⟩;have s:f<(Ks l).length:=by simpa[Ks]using az j
   exact(List.getElem?_inj s h.nd).1 (by simp[Ks,j,i,e])
 refine⟨D,?_,?_,λz m=>?_,by rw[o];exact h.nd,λd g=>by rw[aD];exact h.lt d g,h.nq,λz m=>?_⟩
 .rw[o];exact h.d.le (F.cR λd g=>ah _ (p d g))
 .rw[o,w];exact h.g.ML RA.mono F p (by simp;exactλe=>h.kq x n e.symm)
 .rw[o]
  rcases r z m with e|⟨e,s⟩
  .rw[e];exact u
  .exact(h.c z e).ML dH.mono F (λd g=>ah _ (p d g)) (by simpa using s)
 .rcases r z m with e|⟨e,s⟩
  .rw[e];exact h.nc x n
  .exact h.nc z e
end
def UK{c:List da}(h:yB c){f k:Nat}{x:Instr}(g:c[f]? =some p)(i:p.bt[k]? =some x)(d:So x y):yB (c.set f {p with bt:=p.bt.set k y}):=by
 have b:=h.df p (av g);refine⟨by simpa using h.gR,by simpa using h.nv,λq j=>?_⟩;rcases cO j with e|e
 .exact h.df q e
 .subst e;refine⟨b.params,b.dg,by simpa using b.gR,by simpa using b.nv,λl z a=>?_,λz a=>?_⟩
  .simp only[ik]at a;split at a
   .next e=>
    subst e;split at a
    .simp at a;subst a;exact d.1 _ (b.bt _ _ i)
    .simp at a
   .exact b.bt _ _ a
  .rcases cO a with e|e
   .exact b.jh z e
   .rw[e];exact d.2
section
variable{a:List Nat}{m:E}{b P:Nat}{c:O}
def Hb(hS:∀k∈a,k<m.size)(ac:b∈a)(I:Rd b c P m)(hP:P+100<=10^16){ab p:O}{s:List bq×List da}(ag:IT (bI a m) ab p s)(R:UI s):aP cv 80 [vp b 0,.agg #[O.v ab,O.v p]] m (PP IT UI a b c m (P+11)):=by
 apply zl (b,0);simp -zeta only[aG,aF];have z:=I.lt;intro i Z;have b2:BS [i.size,m.size] b c m P Z:=BS.Zl (BS.lj (S:=a) I _).1 _;have T:J m Z:=(J.push m _).trans (J.push i _);clear_value Z;refine(vr (b2.hS hS) ((ag.1.le (bA _ _)).ext T) (pH R.2) (eO.mono (gT.le (bA _ _) ag.2) T λ_ _=>kL.le T.le) R.1).mono λ_ j⟨w,q,l,e,A,hl,x3⟩=>⟨(b2.lw z λ_ h=>h).de (x3.fz _),w,q,e,?_⟩;have b3:=b2.to (x3.fz _) (b2.s.r.ext x3);intro m4 K;obtain⟨b5,-,-⟩:=b3.box (S:=a) (m1:=m4) (m2:=K) rfl rfl rfl;obtain⟨x5,-,-⟩:=iL (M:=j) (d:=m4) (c:=K) rfl rfl rfl;clear_value K;have A5:uL ([j.size,i.size,m.size]++a) m K w q s.1 l:=A.re (x5.fz []) aJ (λd f=>⟨by
  rcases List.mem_cons.1 f with e|e
  .exact Or.inr V
  .exact Or.inl e,b5.hS hS d f⟩) T.size
 refine b5.pick z V (λ_ h=>h) 2 λam m6 i0 i1 b6 f6=>?_;have hB:∀d∈[b],d∈[j.size,i.size,m.size]++a:=by simp[ac]
 have Q:∀{u M':E}{l:List (da×O)},uL ([j.size,i.size,m.size]++a) m u w q s.1 l->Fz [b] u M'->uL ([j.size,i.size,m.size]++a) m M' w q s.1 l:=λh G=>h.re G hB (λd f=>⟨Or.inl f,aL (h.lt d f) G.size⟩) (ad _);refine⟨λN u=>∃n:Nat,N=n/\n<=2/\BS [j.size,i.size,m.size] b c m (P+11 -5*n) u/\∃l,uL ([j.size,i.size,m.size]++a) m u w q s.1 l/\yB (l.map (·.1)),λN _=>N.toNat,⟨(am+1).toNat,by rw[aS V V];omega,V,⟨⟨b6.s.f,b6.s.r.mono V⟩,b6.fS⟩,l,Q A5 f6,hl▸R.1⟩,?_⟩;rintro N u ⟨n,rfl,hk,d,l,A,r⟩;refine⟨λh=>?_,λ_=>d.hO IT.mn I aJ (x:=(s.1,l.map (·.1))) (A.it (by have:=r.nv;simp at this;omega) λy g=>(uL.nv r g).nv) ⟨r,R.2⟩ V _⟩;simp only[iX,aq]at h;have ax:=A.len;have l4:l.length<=4:=by simpa using r.nv
 have l0:0<l.length:=by simpa using r.gR
 refine d.pick z V (λ_ h=>h) (q.len:Int) λG m7 X f1 b7 f7=>?_;have U:=Q A f7;let⟨y,g⟩:=cq l G.toNat;obtain⟨-,-,-,-,-,-,g7,-,-⟩:=U.jD V g;have C:=uL.nv r (av g);have au:=(U.bt (av g) C.nv).len;have ar:=C.gR;refine⟨X,V,y.2,g7,b7.pick z V (λ_ h=>h) (y.2.len:Int) λan L j0 j1 W f8=>?_⟩;have t:=Q U f8;obtain⟨-,-,-,-,-,-,g8,-,-⟩:=t.jD V g;let⟨ao,B⟩:=cq y.1.bt an.toNat;let⟨ap,jj,ha,hj,e0,e1,e2,e3,e4,e5⟩:=(t.bt (av g) C.nv).aQ B;have fS:∀{d o:Nat}{ai:Value},af (bI (q.aC::([j.size,i.size,m.size]++a)) L) d o=some ai->af L d o=some ai:=λh=>(eA.1 h).2;refine⟨X,V,y.2,g8,X,V,y.2,g8,j0,V,_,fS e0,_,fS e1,_,fS e2,_,fS e3,_,fS e4,_,fS e5,?_⟩;have hZ:∀k∈q.aC::(Ks l++([j.size,i.size,m.size]++a)),k<L.size:=λk Y=>by
  rcases List.mem_cons.1 Y with e|e
  .rw[e];exact t.g.bn.2
  .rcases List.mem_append.1 e with e|e
   .obtain⟨aa,v,rfl⟩:=List.mem_map.1 e;exact(t.c aa v).bn.2
   .exact t.lt k e
 refine(Ha hZ W.s.r V (ha.le (gL _ (by simp[ac]))) (hj.le (bA _ _)) (C.jh ao (av B)) ⟨_,C.bt _ _ B⟩).mono λ_ m9⟨D,a',j',e,ak,al,f,r9,H⟩=>⟨(W.lw z λ_ h=>h).de H,_,_,_,_,_,_,e,?_⟩;have F:=Q t H;have v:=W.to H r9;let⟨aa,aj⟩:=F.wr v.s.f g (az B) (cs:=[.i D.op,.i D.dst,.i D.bM,.i D.bY,.s a',.s j']) (y:=D) ⟨a',j',rfl,ak,al⟩;have yc:=(F.c y (av g)).bn;have ae:∀o d,d∈q.aC::([j.size,i.size,m.size]++a)->d≠b->af m9 d o=af L d o:=λo d f hn=>aM (H.same d (hZ d ((List.mem_cons.1 f).elim (λe=>by simp[e]) λe=>ah _ (dw _ e))) (by simpa using hn)) o;have yq:=F.g.bn;have aw:=v.fS j.size aJ;refine⟨ae _ _ aJ V,ae _ _ aJ V,j0,V,aa,λd f=>bh _ _ _ _ λe=>(F.nc y (av g)) (by rw[<-e];exact bz _ f),⟨n -1,?_,V,⟨⟨v.s.f.aj (Or.inr V) _ _,(I.aj v.s.r v.s.f V _ _).mono V⟩,λk Y=>by rw[aD];exact v.fS k Y⟩,_,aj,?_⟩,?_⟩
 .rw[aS V V];omega
 .rw[tj];exact UK r (by simp[g]) B f
 .rw[aS V V];show((n:Int) -1).toNat<(n:Int).toNat;omega
end
end
section
variable{m:E}{b:Nat}{a j:O}
def BI.lj{L:List Nat}{g M:E}{k Q:Nat}{i:O}{p q:List Int}(h:BI g k b i m Q M a j p q)(o:b<m.size)(u:Q<=10^16)(s:∀e∈L,m.size<=e/\e<=k)(d:List Int){f:List Ce}{n:Nat}(w:f=d.map Ce.i)(A:n=d.length)(z:0<d.length/\d.length<=100){K:Int->E->Prop}
 (y:∀t c,BI g k b i m (Q+1) c a j p q->K t c):aP cv 74 [vp b 0,O.v (.mk M.size 0 n n)] (M.push (.cells (bE f) aA)) λC c=>eF L (M.push (.cells (bE f) aA)) c/\∃t:Int,C=vi t/\K t c:=
 have:=h.hi
 have x:=J.push M (.cells (bE f) aA)
 have D:=x.size
 (yY h.s u d w A z).mono λ_ c⟨t,r,_,B,l⟩=>⟨l.de λe v=>by have:=s e v;simp only[fP];omega,t,r,y t c ((h.to o (x.fz _) (h.s.r.ext x)).to o l B.r)⟩
def FH{Z:List Nat}{P:Nat}{s:O}{x:Instr}(o:∀c∈Z,c<m.size)(c:Rd b s P m)(hP:P+20<=10^16)(U:au m a x.args)(W:au m j x.di)(p:x.args.length<=10^12/\x.di.length<=10^12):
 aP cv 131 [vp b 0,VV x a j] m (IX Z b s m (P+4) λ_=>True):=by
 apply yh (b,0)
 simp(config:={maxSteps:=1000000}) -zeta only[aG,aF]
 have q:=c.lt
 intro v h
 let⟨H,C⟩:=dk (a:=v) (c:=h) rfl rfl
 have i:v.size=m.size+1:=by simp[v]
 have s2:h.size=m.size+2:=by simp[h,i]
 clear_value h
 clear_value v
 refine(vt [] (U.ext H) (W.ext H) p).mono λ_ r⟨K,N,l,L,E,X,S⟩=>⟨S.de C,_,_,_,_,_,_,l,?_⟩
 intro Y F
 obtain⟨I,-,z5⟩:=iL (M:=r) (d:=Y) (c:=F) rfl rfl rfl
 clear_value F
 have ya:=L.bn;have yj:=E.bn
 have J:=(H.trans S).trans I
 have b5:BI h r.size b s m P F K N x.args x.di:=⟨L.ext I,E.ext I,X,⟨J.fz _,c.ext J⟩,⟨V,ou p.1,ou p.2⟩,V,V,V,V⟩
 have u:∀B∈[r.size,v.size,m.size],m.size<=B/\B<=r.size:=bS
 refine b5.pick q V u 6 λac y _ _ b6 _ f6=>?_
 have y6:=b6.hi
 have R:∀{w:O}{Q:List Int},GI [] h y w Q->Q.length<=10^12->aP cv 85 [vp b 0,O.v w] y λA f=>eF [r.size,v.size,m.size] y f/\∃e,A=O.v e/\∃g,GI [] y f e g/\g.length<=1000000000001/\Rd b s (P+4) f/\Fz [b] y f:=λn C=>
  (pX b6.s.r V (au.le (bA _ _) (n.done aJ C)) C).mono λ_ f⟨e,g,l,T,D,_,z,t⟩=>⟨t.de λB p=>by have:=u B p;simp only[fP];omega,e,l,g,T,V,z,t⟩
 refine⟨λ_=>b6.pick q V u 26 λA G _ _ d _ _=>(d.put c _ _).hO c o i V trivial _,λ_=>⟨λ_=>b6.lj q V u [0,1,-1,99] rfl rfl aJ λA G d=>(d.put c _ _).hO c o i V trivial _,λ_=>⟨λ_=>b6.lj q V u [0,1,5,-1,1000,2000] rfl rfl aJ λA G d=>(d.put c _ _).hO c o i V trivial _,λ_=>⟨λ_=>b6.lj q V u [0,1,-1,99] rfl rfl aJ λA G d=>(d.put c _ _).hO c o i V trivial _,λ_=>⟨λ_=>?_,λ_=>⟨λ_=>?_,λ_=>b6.hO c o i V trivial _⟩⟩⟩⟩⟩⟩
 .refine(R b6.ga p.1).mono λ_ f⟨w,e,l,g,n,D,z,t⟩=>⟨w,e,l,?_⟩
  have aa:=n.bn
  have ab:=b6.s.f.size
  have k:=b6.to q t z
  have d:BI h r.size b s m (P+4) f e N g x.di:=⟨n.cL aJ V,k.gj,oh E.bn,k.s,⟨V,D,b6.lo.2.2⟩,V,V,k.hi.2.2⟩
  exact(d.put c _ _).hO c o i V trivial _
 .refine(R b6.gj p.2).mono λ_ f⟨w,e,l,g,n,D,z,t⟩=>⟨w,e,l,?_⟩
  have aa:=n.bn
  have ab:=b6.s.f.size
  have k:=b6.to q t z
  have d:BI h r.size b s m (P+4) f K e x.args g:=⟨k.ga,n.cL aJ V,V,k.s,⟨V,b6.lo.2.1,D⟩,V,V,k.hi.2.2⟩
  exact(d.put c _ _).hO c o i V trivial _
end
section
def AD(S:List Nat)(b:Nat)(c:O)(m:E)(P:Nat)(v:Value)(a:E):Prop:=∃s d,v=O.v s/\bZ (bI S a) s d/\Rd b c P a/\Fz [b] m a
structure DD(S:List Nat)(rb:Nat)(bs:O)(m:E)(Q:Nat)(M:E)(s:O)(ds:List bq):Prop where
 g:Za S m M s ds
 r:Rs rb bs m Q M
 l:0<ds.length/\ds.length<=100
section
variable{a:List Nat}{b P Q h g:Nat}{c s:O}{m M f:E}{e:List bq}
def DD.to(d:DD a b c m Q M s e)(i:b∈a/\b<m.size)(g:Fz [b] M f)(r:Rs b c m h f):DD a b c m h f s e:=⟨d.g.fU ij.mono g (by simp;exact i),r,d.l⟩
def DD.ext(h:DD a b c m Q M s e)(x:J M f):DD a b c m Q f s e:=⟨h.g.ext ij.mono x,h.r.ext x,h.l⟩
def DD.fS(h:DD a b c m Q M s e)(g:∀d∈a,d<m.size):∀d∈s.aC::a,d<M.size:=λd i=>(List.mem_cons.1 i).elim (λf=>f▸h.g.bn.2) λf=>aL (g d f) h.r.f.size
def DD.lit(h:DD a b c m Q M s e)(f:∀d∈a,d<m.size)(l:List Int){cs:List Ce}{n:Nat}(d:cs=l.map Ce.i)(g:n=l.length)(i:l.length<=100):au (bI (s.aC::a) (M.push (.cells (bE cs) aA))) (.mk M.size 0 n n) l:=au.lit aA l (h.fS f) d g V
def DD.hO(h:DD a b c m Q M s e)(f:∀d∈a,d<m.size)(d:Q<=g):AD a b c m g (O.v s) M:=⟨s,e,rfl,h.g.done ij.mono f bo (oh h.l),h.r.r.mono d,h.r.f⟩
def DD.set(h:DD a b c m Q M s e)(o:∀f∈a,f<m.size)(i:Rd b c P m)(n:Q<=g){k:Int}(p:0<=k/\k<(e.length:Int)){cs:List Ce}{d:bq}(hd:ij (bI (s.aC::a) M) cs d):
 0<=k/\k<(s.len:Int)/\fq M s.aC (s.off+k.toNat*3) 3/\AD a b c m g (O.v s) (aj M s.aC (s.off+k.toNat*3) cs):=by
 have q:=h.g.len bo
 have y:=h.g.bn
 let⟨w,l,f,j⟩:=h.g.set ij.mono h.r.f (k:=k.toNat) V hd
 exact⟨p.1,V,w,s,_,rfl,l.done ij.mono o bo (by have:=h.l;simp;omega),(i.LR h.r.r f (j b (oh i.lt))).mono n,f⟩
def DD.fX(h:DD a b c m Q M s e)(i:∀d∈a,d<m.size)(k:Rd b c P m)(q:Q<=g){d:List Ce}{n:Nat}(l:List (bq×List Ce))(hd:∀x∈l,ij (bI (s.aC::a) M) x.2 x.1)(t:d=l.flatMap (·.2))(u:n=l.length)(v:l.length<=100):
 jb (M.push (.cells (bE d) jL)) jL [.i 0,.i 0,.s .nil] 40 s (.mk M.size 0 n n) λr f=>AD a b c m g (O.v r) f:=by
 have x:=J.push M (.cells (bE d) jL)
 have z:=h.g.bn
 have H:=(AT ij.mono (h.fS i) jL l hd t u).done ij.mono (h.fS i) bo bS
 have w:=h.l
 refine Gr.all (g:=[.i 0,.i 0,.s .nil]) ij.mono bo (h.ext x).g (h.ext x).r.f H bS λr y p j A o=>⟨r,_,rfl,p.done ij.mono i bo bS,(k.LR (h.ext x).r.r j (o b (h.ext x).r.r.lt (oh k.lt))).mono q,j⟩
def IL(g:∀z∈a,z<m.size)(O:b∈a)(v:Rd b c P m)(hP:P+100<=10^16):aP cv 130 [vp b 0] m (AD a b c m (P+6)):=by
 apply Bh (b,0);have hr:=v.lt;have w:b∈a/\b<m.size:=⟨O,hr⟩;refine(vw g O v V).mono λ_ m1⟨s,e,h,g1,ad,d1,f1⟩=>⟨s,h,?_⟩;have R:DD a b c m (P+1) m1 s e:=⟨g1,⟨f1,d1⟩,oh (mW e ad)⟩;have sl:s.len=e.length:=g1.len bo;have dl:=R.l;refine(bX d1 V (s.len:Int)).mono λ_ m2⟨D,h,k0,k1,d2,f2⟩=>⟨D,h,?_⟩;have Z:=R.to w f2 (R.r.to f2 d2);have N:0<=D/\D<(e.length:Int):=V;refine(bX d2 V 14).mono λ_ F⟨ae,h,_,_,d3,f3⟩=>⟨ae,h,?_⟩;have k:=Z.to w f3 (Z.r.to f3 d3);have Q:∀{M:E},Uz M .nil []:=⟨rfl,dy _,aJ,aJ⟩;have x:∀{M f:E},J M f->Le (bI (s.aC::a) M) (bI (s.aC::a) f):=λX=>X.cR _;refine⟨λ_=>?_,λ_=>⟨λ_=>?_,λ_=>⟨λ_=>?_,λ_=>⟨λ_=>?_,λ_=>⟨λ_=>?_,λ_=>⟨λ_=>k.fX g v V [(⟨0,0,[]⟩,[.i 0,.i 0,.s .nil]),(⟨3,0,[]⟩,[.i 3,.i 0,.s .nil])] (by simp;exact⟨⟨.nil,rfl,Q⟩,⟨.nil,rfl,Q⟩⟩) rfl rfl aJ,λ_=>k.hO g V⟩⟩⟩⟩⟩⟩
 .refine(yY k.r V [-1,5,0,2] rfl rfl aJ).mono λ_ o⟨t,h,_,G,u⟩=>⟨t,h,?_⟩;have r:=(k.ext (J.push F _)).to w u G;refine(yY G V [0,1,5] rfl rfl aJ).mono λ_ l⟨q,h,_,A,y⟩=>⟨q,h,?_⟩;have p:=(r.ext (J.push o _)).to w y A;exact p.set g v V N (d:=⟨t,q,[]⟩) ⟨.nil,rfl,Q⟩
 .refine(yY k.r V [-1,0,4,5] rfl rfl aJ).mono λ_ o⟨t,h,_,G,u⟩=>⟨t,h,?_⟩;have r:=(k.ext (J.push F _)).to w u G;have L:=r.lit g [t] (cs:=[.i t]) (n:=1) rfl rfl aJ;refine Cr _ λl y=>?_;have p:=(r.ext (J.push o _)).ext y;have a2:=p.lit g [0,0,0,0] (cs:=[.i 0,.i 0,.i 0,.i 0]) (n:=4) rfl rfl aJ;refine Cr _ λq B=>?_;have H:=(p.ext (J.push l _)).ext B;have a3:=H.lit g [] (cs:=[]) (n:=0) rfl rfl aJ;refine Cr _ λA C=>?_;have I:=(H.ext (J.push q _)).ext C;have K:=(J.push q (.cells (bE []) aA)).trans C;have U:=((J.push l (.cells (bE [.i 0,.i 0,.i 0,.i 0]) aA)).trans B);have z:=vR (I.fS g) od [([t],.mk o.size 0 1 1),([0,0,0,0],.mk l.size 0 4 4),([],.mk q.size 0 0 0)] aJ (by
   simp only[aW,iW,AG,forall_eq_or_imp,forall_eq];exact⟨L.le (x ((y.trans U).trans K)),a2.le (x (B.trans K)),a3.le (x C)⟩) (c:=[.s (.mk o.size 0 1 1),.s (.mk l.size 0 4 4),.s (.mk q.size 0 0 0)]) (b:=3) rfl rfl
  exact(I.ext (J.push A _)).set g v V N (d:=⟨0,0,_⟩) ⟨_,rfl,z⟩
 .have L:=k.lit g [cQ (D+1)] (cs:=[.i (cQ (D+1))]) (n:=1) rfl rfl aJ;refine Cr _ λl y=>?_;have p:=(k.ext (J.push F _)).ext y;have z:=vR (p.fS g) od [([cQ (D+1)],.mk F.size 0 1 1)] aJ (by
   simp only[aW,iW,AG,forall_eq];exact L.le (x y)) (c:=[.s (.mk F.size 0 1 1)]) (b:=1) rfl rfl
  exact(p.ext (J.push l _)).set g v V N (d:=⟨0,0,_⟩) ⟨_,rfl,z⟩
 .refine(yY k.r V [0,2,1] rfl rfl aJ).mono λ_ o⟨t,h,_,G,u⟩=>⟨t,h,?_⟩;have r:=(k.ext (J.push F _)).to w u G;exact r.fX g v V [(⟨2,t,[]⟩,[.i 2,.i t,.s .nil])] (by simp;exact⟨.nil,rfl,Q⟩) rfl rfl aJ
 .refine(bX k.r.r V 2).mono λ_ o⟨t,h,_,_,d4,u⟩=>⟨t,h,?_⟩;have r:=k.to w u (k.r.to u d4);have L:=r.lit g [] (cs:=[]) (n:=0) rfl rfl aJ;refine Cr _ λl y=>?_;have p:=(r.ext (J.push o _)).ext y;have a2:=p.lit g [2] (cs:=[.i 2]) (n:=1) rfl rfl aJ;refine Cr _ λq B=>?_;have H:=(p.ext (J.push l _)).ext B;have a3:=H.lit g [] (cs:=[]) (n:=0) rfl rfl aJ;refine Cr _ λA C=>?_;have I:=(H.ext (J.push q _)).ext C;have a4:=I.lit g [] (cs:=[]) (n:=0) rfl rfl aJ;refine Cr _ λm8 Y=>?_;have D8:=(I.ext (J.push A _)).ext Y;have W:=(J.push A (.cells (bE []) aA)).trans Y;have K:=(J.push q (.cells (bE []) aA)).trans C;have U:=((J.push l (.cells (bE [.i 2]) aA)).trans B);have z:=vR (D8.fS g) od [([],.mk o.size 0 0 0),([2],.mk l.size 0 1 1),([],.mk q.size 0 0 0),([],.mk A.size 0 0 0)] aJ (by
   simp only[aW,iW,AG,forall_eq_or_imp,forall_eq];exact⟨L.le (x (((y.trans U).trans K).trans W)),a2.le (x ((B.trans K).trans W)),a3.le (x (C.trans W)),a4.le (x Y)⟩) (c:=[.s (.mk o.size 0 0 0),.s (.mk l.size 0 1 1),.s (.mk q.size 0 0 0),.s (.mk A.size 0 0 0)]) (b:=4) rfl rfl
  have T:=D8.ext (J.push m8 (.cells (bE [.s (.mk o.size 0 0 0),.s (.mk l.size 0 1 1),.s (.mk q.size 0 0 0),.s (.mk A.size 0 0 0)]) od));refine(bX T.r.r V 3).mono λ_ af⟨aa,h,j0,j1,ac,G⟩=>⟨aa,h,j0,bS,aJ,?_⟩;have c':=(eO.le z (G.cR (S:=s.aC::a) (by simp[O])) λab X=>mg.le (G.cR (by simp[O])) ab X).J0 (i:=aa.toNat) (j:=4) V aJ;exact(T.to w G (T.r.to G ac)).set g v V N (d:=⟨t,0,_⟩) ⟨_,rfl,c'⟩
end
end
section
def Tr{α:Type}(_:α):Prop:=True
section
variable{a:List Nat}{m:E}{b P:Nat}{c:O}
def uc(hS:∀w∈a,w<m.size)(aa:b∈a)(Z:Rd b c P m)(hP:P+200<=10^16){an ao:O}{x:List bq×List da}(u:IT (bI a m) an ao x)(ap:UI x)(ay:Int):aP cv 81 [vp b 0,.agg #[O.v an,O.v ao],vi ay] m (PP IT Tr a b c m (P+10)):=by
 apply yg (b,0);simp(config:={maxSteps:=1000000}) -zeta only[aG,aF];have F:=Z.lt;intro d ae;have b2:BS [d.size,m.size] b c m P ae:=BS.Zl (BS.lj (S:=a) Z _).1 _;have x2:J m ae:=(J.push m _).trans (J.push d _);have s1:d.size=m.size+1:=by simp[d]
 have t2:IT (bI ([d.size,m.size]++a) ae) an ao x:=IT.mn _ _ _ _ _ (x2.bI λh r=>by
  simp at r;rcases r with e|e|e
  .exact Or.inr V
  .exact Or.inr V
  .exact Or.inl e) u
 clear_value ae;refine b2.pick F V (λ_ o=>o) ay λaO m3 _ _ b3 f3=>?_;have t3:=IT.mn _ _ _ _ _ (BS.le (B:=[d.size,m.size]) aa f3) t2;refine⟨λ_=>b3.hO IT.mn Z aJ t3 trivial V _,λ_=>?_⟩;refine(vr (b3.hS hS) (t3.1.le (bA _ _)) (pH ap.2) (gT.le (bA _ _) t3.2) ap.1).mono λ_ f⟨N,q,C,e,A4,hl,x4⟩=>⟨(b3.lw F λ_ o=>o).de (x4.fz _),N,q,e,?_⟩;have b4:=b3.to (x4.fz _) (b3.s.r.ext x4);intro m5 m6;obtain⟨b6,-,-⟩:=b4.box (S:=a) (m1:=m5) (m2:=m6) rfl rfl rfl;obtain⟨x6,-,-⟩:=iL (M:=f) (d:=m5) (c:=m6) rfl rfl rfl;clear_value m6;have A6:uL ([f.size,d.size,m.size]++a) m m6 N q x.1 C:=A4.re (x6.fz []) aJ (λh r=>⟨by
  rcases List.mem_cons.1 r with e|e
  .exact Or.inr V
  .exact Or.inl e,b6.hS hS h r⟩) b3.s.f.size
 have ok:yB (C.map (·.1)):=hl▸ap.1;have aX:=A6.len;have l4:C.length<=4:=by simpa using ok.nv
 have l0:0<C.length:=by simpa using ok.gR
 have cl:∀g∈C,g.1.bt.length<=10^12:=λg A=>(uL.nv ok A).nv;refine b6.pick F V (λ_ o=>o) (q.len:Int) λp i f0 f1 b7 f7=>?_;have A7:=A6.re f7 (S':=[f.size,d.size,m.size]++a) (by simp[aa]) (λh r=>⟨Or.inl r,b7.hS hS h r⟩) (ad _);let⟨g,A⟩:=cq C p.toNat;let⟨ac,h,g0,g1,g2,g3,g4,aK,aM⟩:=A7.jD V A;refine⟨f0,V,ac,g0,h,g1,_,g2,_,g3,g.2,g4,?_⟩;intro m8 m9;obtain⟨b9,-,-⟩:=b7.box (S:=a) (m1:=m8) (m2:=m9) rfl rfl rfl;obtain⟨x9,-,-⟩:=iL (M:=i) (d:=m8) (c:=m9) rfl rfl rfl;clear_value m9;have A9:uL ([i.size,f.size,d.size,m.size]++a) m m9 N q x.1 C:=A7.re (x9.fz []) aJ (λh r=>⟨by
  rcases List.mem_cons.1 r with e|e
  .exact Or.inr V
  .exact Or.inl e,b9.hS hS h r⟩) (ad _)
 have hO:∀{l:E}{T:O}{aq:List bq×List da}{Q:Nat},BS [i.size,f.size,d.size,m.size] b c m Q l->IT (bI ([i.size,f.size,d.size,m.size]++a) l) T q aq->Q<=P+10->PP IT Tr a b c m (P+10) (.agg #[O.v T,O.v q]) (aj l d.size 0 [.s T,.s q]):=λh u o=>h.hO IT.mn Z aJ u trivial o _;refine⟨λ_=>hO b9 (A9.it V cl) V,λhn=>?_⟩;have hB:∀h∈[b],h∈[i.size,f.size,d.size,m.size]++a:=by simp[aa]
 have W:∀{l n:E}{C:List (da×O)},uL ([i.size,f.size,d.size,m.size]++a) m l N q x.1 C->Fz [b] l n->uL ([i.size,f.size,d.size,m.size]++a) m n N q x.1 C:=λo p=>o.re p hB (λh r=>⟨Or.inl r,aL (o.lt h r) p.size⟩) (ad _);refine b9.pick F V (λ_ o=>o) 8 λaO H _ _ j ar=>?_;have U:=W A9 ar;have aw:Le (bI (q.aC::([f.size,d.size,m.size]++a)) i) (bI (q.aC::([i.size,f.size,d.size,m.size]++a)) H):=(x9.bI λh r=>by
  simp only[db,dX,aW]at r⊢;rcases r with e|e|e
  .exact Or.inl (Or.inl e)
  .exact Or.inr V
  .exact Or.inl (Or.inr e)).trans (ar.cR (by simp[aa]))
 have ha:=aK.le aw;have r:=aM.le aw;have ax:∀{l n:E},Fz [b] l n->Le (bI (q.aC::([i.size,f.size,d.size,m.size]++a)) l) (bI (q.aC::([i.size,f.size,d.size,m.size]++a)) n):=λp=>p.cR (by simp[aa]);have G:=uL.nv ok (av A);have done:∀{l:E}{Q:Nat}{D:List Ce}{aB:da},BS [i.size,f.size,d.size,m.size] b c m Q l->uL ([i.size,f.size,d.size,m.size]++a) m l N q x.1 C->kL (bI (q.aC::([i.size,f.size,d.size,m.size]++a)) l) D aB->Q<=P+10->
  0<=p/\p<(q.len:Int)/\fq l q.aC (q.off+p.toNat*5) 5/\(eF [i.size,f.size,d.size,m.size] l (aj l q.aC (q.off+p.toNat*5) D)/\PP IT Tr a b c m (P+10) (.agg #[O.v N,O.v q]) (aj (aj l q.aC (q.off+p.toNat*5) D) d.size 0 [.s N,.s q])):=λ{l Q D aB} h K hp hQ=>by
  let⟨X,ps,tt⟩:=K.aab h.s.f V cl (k:=p.toNat) V hp
  have yq:=K.g.bn
  exact⟨f0,V,X,λw R=>bh _ _ _ _ λe=>K.nq (by rw[<-e];exact bz _ R),hO ⟨h.s.put Z yq.1 _ _,λw R=>by rw[aD];exact h.fS w R⟩ tt hQ⟩
 have v:∀{l n:E}{Q:Nat},BS [i.size,f.size,d.size,m.size] b c m Q l->Fz [b] l n->∀s,af n i.size s=af l i.size s:=λh p s=>kg p F (h.fS _ aJ) s;have Y:∀{l n:E}{Q:Nat},BS [i.size,f.size,d.size,m.size] b c m Q l->Fz [b] l n->∀s,af n f.size s=af l f.size s:=λh p s=>kg p F (h.fS _ aJ) s;have am:=U.bt (av A) G.nv;have au:=j.hS hS;have lq:∀w∈q.aC::([i.size,f.size,d.size,m.size]++a),w<H.size:=λw R=>(List.mem_cons.1 R).elim (λe=>e▸U.g.bn.2) (au w);have lj:∀(ls:List Int){D:List Ce}{ag:Nat},D=ls.map Ce.i->ag=ls.length->0<ls.length/\ls.length<=100->∀{ak:Int->E->Prop},(∀u n,BS [i.size,f.size,d.size,m.size] b c m (P+4) n->uL ([i.size,f.size,d.size,m.size]++a) m n N q x.1 C->Le (bI (q.aC::([i.size,f.size,d.size,m.size]++a)) H) (bI (q.aC::([i.size,f.size,d.size,m.size]++a)) n)->(∀s,af n i.size s=af (H.push (.cells (bE D) aA)) i.size s)->(∀s,af n f.size s=af (H.push (.cells (bE D) aA)) f.size s)->ak u n)->
  aP cv 74 [vp b 0,O.v (.mk H.size 0 ag ag)] (H.push (.cells (bE D) aA)) λah n=>eF [i.size,f.size,d.size,m.size] (H.push (.cells (bE D) aA)) n/\∃u:Int,ah=vi u/\ak u n:=λls{D ag} h1 h2 h3{ak} hk=>by
  have x:=J.push H (.cells (bE D) aA)
  have L:=j.to (x.fz _) (j.s.r.ext x)
  exact(yY j.s V ls h1 h2 h3).mono λ_ n⟨u,e,_,aR,p⟩=>⟨(L.lw F λ_ o=>o).de p,u,e,hk u n (L.to p aR.r) (W U ((x.fz _).trans p)) (ax ((x.fz _).trans p)) (v L p) (Y L p)⟩
 refine⟨λ_=>?_,λ_=>⟨λ_=>?_,λ_=>⟨λ_=>?_,λ_=>⟨λ_=>?_,λ_=>?_⟩⟩⟩⟩
 .refine(pX j.s.r V (r.le (bA _ _)) (oh G.dg)).mono λ_ ab⟨T,I,e,al,aC,_,ai,t⟩=>⟨(j.lw F λ_ o=>o).de t,T,e,v j t _,v j t _,v j t _,v j t _,Y j t _,?_⟩;exact done (aB:=⟨g.1.params,I,g.1.aT,g.1.ax,g.1.bt⟩) (j.to t ai) (W U t) ⟨ac,T,g.2,rfl,ha.le (ax t),GI.done (GI.any al) lq (by have:=G.dg;show I.length<=_;omega),(W U t).bt (av A) G.nv⟩ V
 .have x:=(J.push H (.cells (bE [.i 0,.i 1,.i (cQ (g.1.ax+1)),.i 2001,.i (-1)]) aA)).fz [b];exact⟨v j x _,v j x _,v j x _,v j x _,Y j x _,lj [0,1,cQ (g.1.ax+1),2001,-1] rfl rfl aJ λu n b' K le I e4=>⟨I _,I _,I _,I _,e4 _,done (aB:=⟨g.1.params,g.1.dg,g.1.aT,u,g.1.bt⟩) b' K ⟨ac,h,g.2,rfl,ha.le le,r.le le,K.bt (av A) G.nv⟩ V⟩⟩
 .have x:=(J.push H (.cells (bE [.i 0,.i 1,.i 9]) aA)).fz [b];have cl:=am.len;have cc:=am.cap;have c0:=G.gR;have cf:=G.nv;have ew:cQ ((g.2.len:Int) -1)=((g.2.len -1:Nat):Int):=by rw[aS V V];omega
  rw[ew];refine⟨dh 0,V,V,v j x _,v j x _,v j x _,v j x _,v j x _,Y j x _,lj [0,1,9] rfl rfl aJ λu n b' K le I e4=>⟨I _,I _,I _,I _,I _,e4 _,done (aB:=⟨g.1.params,g.1.dg,u,g.1.ax,g.1.bt.take (g.2.len -1)⟩) b' K ⟨ac,h,g.2.cut 0 (g.2.len -1) 6,rfl,ha.le le,r.le le,eO.UU (K.bt (av A) G.nv) V⟩ V⟩⟩
 .refine(IL au (by simp[aa]) j.s.r V).mono λ_ ab⟨T,I,e,hd,ai,t⟩=>⟨(j.lw F λ_ o=>o).de t,T,e,Y j t _,?_⟩;exact hO (aq:=(I,_)) (j.to t ai) ⟨hd,((W U t).it V cl).2⟩ V
 .have aV:=am.len;have aU:=G.gR;refine j.pick F V (λ_ o=>o) (g.2.len:Int) λaQ ab j0 j1 L t=>?_;have I:=W U t;obtain⟨-,-,-,-,-,-,aE,-,-⟩:=I.jD V A;let⟨aq,hz⟩:=cq g.1.bt aQ.toNat;let⟨a',jj,aH,hj,e0,e1,e2,e3,e4,e5⟩:=(I.bt (av A) G.nv).aQ hz;have fS:∀{h s:Nat}{ah:Value},af (bI (q.aC::([i.size,f.size,d.size,m.size]++a)) ab) h s=some ah->af ab h s=some ah:=λo=>(eA.1 o).2;refine⟨f0,V,g.2,aE,j0,V,_,fS e0,_,fS e1,_,fS e2,_,fS e3,_,fS e4,_,fS e5,?_⟩;have hZ:∀w∈q.aC::(Ks C++([i.size,f.size,d.size,m.size]++a)),w<ab.size:=λw R=>by
   rcases List.mem_cons.1 R with e|e
   .rw[e];exact I.g.bn.2
   .rcases List.mem_append.1 e with e|e
    .obtain⟨X,hw,rfl⟩:=List.mem_map.1 e;exact(I.c X hw).bn.2
    .exact I.lt w e
  refine(FH hZ L.s.r V (aH.le (bA _ _)) (hj.le (bA _ _)) (G.jh aq (av hz))).mono λ_ aY⟨z',a2,j2,e,aI,aN,_,aT,K⟩=>⟨(L.lw F λ_ o=>o).de K,_,_,_,_,_,_,e,?_⟩;have ai:=W I K;have al:=L.to K aT;let⟨X,aC⟩:=ai.wr al.s.f A (az hz) (cs:=[.i z'.op,.i z'.dst,.i z'.bM,.i z'.bY,.s a2,.s j2]) (y:=z') ⟨a2,j2,rfl,aI,aN⟩;have yc:=(ai.c g (av A)).bn;have yq:=I.g.bn;refine⟨kg K F yq _,Y L K _,j0,V,X,λh r=>bh _ _ _ _ λe=>(ai.nc g (av A)) (by rw[<-e];exact bz _ r),hO ⟨al.s.put Z yc.1 _ _,λw R=>by rw[aD];exact al.fS w R⟩ (aC.it bS λX hw=>?_) V⟩;rcases cO hw with e|e
  .exact cl X e
  .rw[e];simpa using G.nv
def IM(f:∀d∈a,d<m.size)(l:b∈a)(d:Rd b c P m)(K:P+2000+4*(300+40*Cg 18)<=10^16):aP cv 40 [vp b 0] m (PP IT Tr a b c m (P+50+4*(300+40*Cg 18))):=by
 apply Bi (b,0);simp -zeta only[aG,aF];have e:=d.lt;intro g;have z1:g.size=m.size+1:=by simp[g]
 obtain⟨b1,-⟩:BS [m.size] b c m P g/\True:=⟨(BS.lj (S:=a) d _).1,trivial⟩;clear_value g;refine b1.call (S:=a) e (λ_ h=>h) (Hk (b1.hS f) (by simp[l]) b1.s.r V) λH Q R o r t2 b2 I=>?_;intro y p;obtain⟨b4,w,-⟩:=b2.box (S:=a) (m1:=y) (m2:=p) rfl rfl rfl;clear_value p;have C:=IT.mn _ _ _ _ _ w t2;have k:b∈[o.size,m.size]++a:=by simp[l]
 refine b4.pick e V (λ_ h=>h) 4 λL M _ _ b5 u=>?_;have q:=IT.mn _ _ _ _ _ (BS.le l u) C;refine⟨λ_=>?_,λ_=>b5.call (S:=a) e (λ_ h=>h) (uc (b5.hS f) k b5.s.r V q r 14) λt B G z F n j v=>j.hO IT.mn d aJ n trivial V _⟩;refine b5.call (S:=a) e (λ_ h=>h) (Hb (b5.hS f) k b5.s.r V q r) λs A T N E D b6 J=>?_;intro O;let⟨i,x⟩:=b6.put (S:=a) d (by simp:o.size∈_) [.s s,.s A];exact i.call (S:=a) e (λ_ h=>h) (uc (i.hS f) k i.s.r V (IT.mn _ _ _ _ _ x D) E 14) λt B G z F n j v=>j.hO IT.mn d aJ n trivial V _
end
end
end Go.Proofs.YtdalfjkmdekijaaGreat
