/- Part of a proof. -/
import Derived.Test.YtdalfjkmdekijaaGreatUG02
set_option linter.all false
set_option maxHeartbeats 8000000
set_option maxRecDepth 100000
namespace Go.Proofs.YtdalfjkmdekijaaGreat
open Go.Vc
section
variable{S:List Nat}{m:E}{c:O}{l:List Instr}
def dG.le{m b:E}(h:Le m b){a:List Ce}{x:Instr}:dG m a x->dG b a x:=λ⟨c,j,d,e,f⟩=>⟨c,j,d,e.le h,f.le h⟩
def dG.mono:nH 6 dG:=⟨λh=>dG.le h,λh=>by obtain⟨_,_,rfl,_⟩:=h;rfl⟩
def eu.le{m b:E}(a:Le m b){s:O}{l:List Instr}(h:eu m s l):eu b s l:=eN.le h a λ_ _=>dG.le a
def kN.le{m b:E}(h:Le m b){a:List Ce}{x:cZ}:kN m a x->kN b a x:=λ⟨d,l,c,e,f,g,i⟩=>⟨d,l,c,e,f.le h,g.le h,eu.le h i⟩
def kN.mono:nH 5 kN:=⟨λh=>kN.le h,λh=>by obtain⟨_,_,_,rfl,_⟩:=h;rfl⟩
def gK.le{m b:E}(a:Le m b){s:O}{l:List cZ}(h:gK m s l):gK b s l:=eN.le h a λ_ _=>kN.le a
def VZ(x:Instr)(a j:O):Value:=.agg #[vi x.op,vi x.dst,vi x.bK,vi x.bW,O.v a,O.v j]
def vn(A:∀c∈S,c<m.size){r u:O}{x:Instr}(B:ap m r x.args)(C:ap m u x.di)(h:x.args.length<=10^12/\x.di.length<=10^12):
 aN cq 178 [VZ x r u] m λH p=>∃g j,H=VZ x g j/\ap (bG S p) g x.args/\ap (bG S p) j x.di/\J m p:=by
 apply qO
 simp -zeta only[aE,aD]
 intro d e
 let⟨k,i⟩:=dj (a:=d) (c:=e) rfl rfl
 have K:d.size=m.size+1:=by simp[d]
 clear_value e
 have s:∀c∈d.size::S,c<e.size:=bQ A k.size (i _ aH)
 have b:∀{M q:E},J e M->J M q->∀o,af q m.size o=af M m.size o:=λy z o=>aK (z.same _ (y.lt (i _ aH))) o
 refine(bO (d.size::S) (B.ext k) h.1).aI (J.aF e) i λg _ I v l a _=>⟨_,rfl,b (J.aF _) a _,b (J.aF _) a _,b (J.aF _) a _,b (J.aF _) a _,b (J.aF _) a _,?_⟩
 subst l
 refine(bO (d.size::S) (C.ext (k.trans a)) h.2).aI a i λj _ D w l f G=>⟨_,rfl,b a f _,b a f _,b a f _,b a f _,?_⟩
 subst l
 intro F
 have t:Le (bG (d.size::S) D) (bG S F):=cb aH λc n=>ah _ n
 exact⟨g,j,rfl,((v.done s h.1).le (f.cR _)).le t,(w.done (λc n=>a.lt (s c n)) h.2).le t,(k.trans G).ai V _ _⟩
def Mp(s:eu m c l){p B:Nat}(hB:p<=B/\B<=10^12)(L:∀a∈l,(0<=a.dst/\a.dst<(B:Int))/\∀b∈a.args,0<=b/\b<(B:Int)):
 rB 68 [O.v c,vi p] m λr=>(p:Int)<=r/\r<=(B:Int)/\∀a∈l,a.dst<r/\∀b∈a.args,b<r:=by
 apply FK
 have K:=s.len
 refine dx (n:=l.length) (K▸s.fu) (λk v M=>J m M/\(p:Int)<=v/\v<=(B:Int)/\∀(i:Nat)(a:Instr),l[i]? =some a->i<k->a.dst<v/\∀b∈a.args,b<v) ⟨J.aF _,dh _,V,λi a _ h=>V⟩ ?_
 rintro k v M W μ hk ⟨w,R,S,A⟩ P
 refine⟨λh=>?_,λh=>⟨v,rfl,⟨R,S,λa f=>?_⟩,w⟩⟩
 .simp only[an]at h
  let⟨a,f⟩:=cg l k
  let⟨b,C,e,hj,Z,F,e2,e3,z,e5⟩:=(eu.ext w s).aO f
  have I:=e.len
  let⟨hd,G⟩:=L a (aq f)
  refine⟨V,V,_,F,?_⟩
  rw[aQ (b:=a.dst+1) V V]
  refine dx (n:=a.args.length) (I▸e.fu) (λC g E=>J M E/\v<=g/\a.dst<g/\g<=(B:Int)/\∀(i:Nat)(b:Int),a.args[i]? =some b->i<C->b<g) ⟨J.aF _,V,V,V,λi a _ h=>V⟩ ?_
  rintro u g Y X μ2 aa ⟨j,w0,T,U,D⟩ N
  refine⟨V,V,_,j.af z,λq=>?_,λq=>P V _ _ ⟨w.trans j,V,U,λi y d o=>?_⟩⟩
  .simp only[an]at q
   let⟨y,d⟩:=cg a.args u
   have Q:=G y (aq d)
   refine⟨V,V,_,j.af z,V,V,y,(e.ext j).aO d,?_⟩
   rw[aQ (b:=y+1) V V]
   refine N V _ _ ⟨j,V,V,V,λi H t o=>?_⟩
   rcases aU i u with h|h
   .have:=D i H t h;omega
   .have:i=u:=V
    subst this
    rw[d]at t;cases t;omega
  .simp only[br]at q
   rcases aU i k with h|h
   .have:=A i y d h
    exact⟨V,λb e=>by have:=this.2 b e;omega⟩
   .have:i=k:=V
    subst this
    rw[f]at d;cases d
    exact⟨T,λb H=>by obtain⟨Q,t⟩:=List.mem_iff_getElem?.1 H;exact D Q b t (by have:=ax t;omega)⟩
 .simp only[br]at h
  obtain⟨i,o⟩:=List.mem_iff_getElem?.1 f
  exact A i a o (by have:=ax o;omega)
structure SC(k:Nat)(x:Instr):Prop where
 L9:x.op=22->(k:Int)<x.bK
 arg:x.op=18\/x.op=23\/x.op=16\/x.op=17->0<x.args.length
def RD(l:List Instr):Prop:=∀(k:Nat)(x:Instr),l[k]? =some x->SC k x
def HP(f:eu m c l)(E:RD l){n:Int}(C:0<=n)(Sc:Int):nY 234 [O.v c,vi n,vi Sc] m:=by
 apply Ab;simp -zeta only[aE,aD];have I:=f.len;have L:=f.fu;refine⟨λv _ M=>0<=v/\J m M,λv _ _=>((l.length:Int) -v).toNat,⟨C,J.aF _⟩,?_⟩;rintro v G M ⟨F,k⟩;refine⟨λh=>?_,λ_=>rA k⟩;simp only[an]at h;let⟨a,o⟩:=cg l v.toNat;let⟨d,N,e,K,s,t,w,z,A,B⟩:=(eu.ext k f).aO o;have H:=e.len;have g:=E _ a o;refine⟨F,V,_,s,_,t,_,w,_,z,_,A,_,B,?_⟩;intro P b;have j:J M b:=(J.push M _).ai (ad _) _ _;clear_value b;have u:=k.trans j;have L9:(a.op==22)=true->(0<=a.bK/\J m b)/\((l.length:Int) -a.bK).toNat<((l.length:Int) -v).toNat:=λh=>by
  simp only[aM]at h;have:=g.L9 h;exact⟨⟨V,u⟩,V⟩
 have p:(a.op==23)=true->(0:Int)<=0/\(0:Int)<(d.len:Int)/\∃q:Int,af b d.az (d.off+Int.toNat (0:Int)*1)=some (vi q)/\∃r:Bool,vb (q==G)=.bool r/\J m b:=λh=>by
  simp only[aM]at h;have:=g.arg V;let⟨y,i⟩:=cg a.args 0;exact⟨bh,V,y,(e.ext j).aO i,rA u⟩
 refine⟨λD=>?_,λ_=>⟨L9,λ_=>⟨p,λ_=>rA u⟩⟩⟩;simp only[aM]at D;have:=g.arg V;let⟨y,i⟩:=cg a.args 0;refine⟨bh,V,y,(e.ext j).aO i,λ_=>?_,λ_=>⟨L9,λ_=>⟨p,λ_=>rA u⟩⟩⟩;rw[aQ (b:=v+1) V V];exact⟨⟨V,u⟩,by show((l.length:Int) -(v+1)).toNat<((l.length:Int) -v).toNat;omega⟩
def JR(l b:List Instr):Prop:=b.length=l.length/\∀(k:Nat)(a:Instr),b[k]? =some a->∃x,l[k]? =some x/\(a=x\/a=⟨24,0,x.bK,0,x.args,x.di⟩)
def PZ(l:List Instr):Prop:=∀x∈l,x.args.length<=10^12/\x.di.length<=10^12
abbrev VD(S:List Nat)(a m:E)(s:O)(l:List Instr):Prop:=Gr S a m dN 6 dG s l
def Jt(hS:∀c∈S,c<m.size)(f:eu m c l)(ae:RD l)(af:PZ l)(hb:l.length<=10^12):
 aN cq 177 [O.v c] m λN L=>∃s e,N=O.v s/\VD S m L s e/\JR l e/\J m L:=by
 apply Ch
 simp -zeta only[aE,aD]
 intro H
 have x1:J m H:=J.push _ _
 have g0:VD S m H (.mk m.size 0 0 0) []:=Gr.new S (ad _) _ _ _
 clear_value H
 have ac:=f.len
 refine dx (n:=l.length) (ac▸f.fu) (λk s M=>J m M/\∃e,VD S m M s e/\JR (l.take k) e) ⟨x1,[],g0,by simp[JR]⟩ ?_
 rintro k s M Q μ hk ⟨q,e,A,D,F⟩ ai
 refine dit (λaa=>?_) λaa=>?_
 .let⟨d,G⟩:=cg l k
  let⟨al,an,ha,hj,R,T,U,W,X,Y⟩:=(eu.ext q f).aO G
  have ag:=af d (aq G)
  have hy:=A.bg
  have zM:=q.size
  have am:e.length=k:=by rw[D];simp;omega
  have ab:∀c∈s.az::S,c<M.size:=λc f=>by
   rcases List.mem_cons.1 f with u|u
   .omega
   .have:=hS c u;omega
  refine⟨V,V,_,R,_,T,_,U,_,W,_,X,_,Y,?_⟩
  refine(vn ab ha hj ag).mono λN y⟨t,w,u,B,C,P⟩=>⟨_,_,_,_,_,_,u,?_⟩
  intro m3 j
  have i:J y j:=(J.push y _).ai (ad _) _ _
  have s4:j.size=y.size+1:=by simp[j,m3,aA]
  clear_value j
  have p:=P.trans i
  have z:∀{g:E}{b:Instr},J j g->ap (bG (s.az::S) g) t b.args->ap (bG (s.az::S) g) w b.di->(b=d\/b=⟨24,0,d.bK,0,d.args,d.di⟩)->
   jb (g.push (.cells (bD [.i b.op,.i b.dst,.i b.bK,.i b.bW,.s t,.s w]) dN)) dN [.i 0,.i 0,.i 0,.i 0,.s .nil,.s .nil] 80 s (.mk g.size 0 1 1) λI r=>eG [y.size] (g.push (.cells (bD [.i b.op,.i b.dst,.i b.bK,.i b.bW,.s t,.s w]) dN)) r/\Q I (cQ ((k:Int)+1)) r/\μ I (cQ ((k:Int)+1)) r<μ s k M:=λ{g b} xx h1 h2 h3=>by
   have z4:=p.size
   have zx:=xx.size
   refine Gr.ku (g:=[.i 0,.i 0,.i 0,.i 0,.s .nil,.s .nil]) (k:=b) dG.mono bh (A.ext dG.mono (p.trans xx)) ((q.trans (p.trans xx)).fz []) ⟨t,w,rfl,h1,h2⟩ V λI r g3 Z z3 q3=>⟨λc f=>?_,ai V _ _ ⟨Z.ext,_,g3,bN,λv aj h=>?_⟩⟩
   .have o:=P.size
    simp at f;subst f
    rw[q3 _ V V,(J.push g _).same _ V]
   .rcases aU v e.length with o|o
    .rw[aw o]at h
     let⟨ak,K,ah⟩:=F v aj h
     rw[dy V]at K⊢
     exact⟨ak,K,ah⟩
    .rw[aG o]at h
     have:v -e.length=0:=by have:=ax h;simp at this;omega
     rw[this]at h;simp at h;subst h
     have:v=k:=V
     subst this
     exact⟨d,by rw[dy V];exact G,h3⟩
  have z4:=p.size
  refine⟨λh9=>?_,λ_=>?_⟩
  .rw[aQ (b:=(k:Int)+1) V V]
   refine(HP (eu.ext (q.trans p) f) ae V d.dst).aI (J.aF j) bN λah K o _=>⟨_,rfl,λ_=>?_,λ_=>?_⟩
   .intro m6
    have:=z (b:=⟨24,0,d.bK,0,d.args,d.di⟩) o ((B.le (i.cR _)).le (o.cR _)) ((C.le (i.cR _)).le (o.cR _)) (Or.inr rfl)
    rw[aQ (b:=(k:Int)+1) V V]at this
    exact this
   .intro m6
    have:=z (b:=d) o ((B.le (i.cR _)).le (o.cR _)) ((C.le (i.cR _)).le (o.cR _)) (Or.inl rfl)
    rw[aQ (b:=(k:Int)+1) V V]at this
    exact this
  .intro K
   exact z (b:=d) (J.aF _) (B.le (i.cR _)) (C.le (i.cR _)) (Or.inl rfl)
 .rw[cy V]at D F
  exact⟨s,e,rfl,A,⟨D,F⟩,q⟩
end
section
variable{b:List cZ}
structure SG(p:cZ):Prop where
 params:p.params.length<=3
 df:p.df.length<=3
 gS:0<p.bn.length
 nA:p.bn.length<=10^12
 bn:RD p.bn
 jg:PZ p.bn
structure yw(b:List cZ):Prop where
 gS:0<b.length
 nA:b.length<=4
 de:∀p∈b,SG p
def Nu(f:Nat)(c:List Value)(m:E)(S:List Nat)(e:List bo)(Q:List cZ->Prop):Prop:=aN cq f c m λv a=>∃d p b,v=.agg #[O.v d,O.v p]/\bX (bG S a) d e/\gK (bG S a) p b/\Q b/\J m a
def JR.ok{l d:List Instr}(h:JR l d)(g:RD l)(f:PZ l):RD d/\PZ d:=by
 let⟨j,e⟩:=h;refine⟨λk a c=>?_,λa c=>?_⟩
 .obtain⟨x,b,rfl|rfl⟩:=e k a c
  .exact g k a b
  .exact⟨sx,sx⟩
 .let⟨k,i⟩:=List.mem_iff_getElem?.1 c;obtain⟨x,b,rfl|rfl⟩:=e k a i
  .exact f a (aq b)
  .exact f x (aq b)
def Vl{a:List cZ}(h:yw b)(f:a.length=b.length)(c:∀(i:Nat)(q:cZ),a[i]? =some q->SG q):yw a:=
 ⟨by have:=h.gS;omega,oh h.nA,λq e=>by obtain⟨i,d⟩:=List.mem_iff_getElem?.1 e;exact c i q d⟩
def HT{d:List Nat}{l:E}(T:∀c∈d,c<l.size){y z:O}{A:List bo}(hd:bX l y A)(ht:dH A)(hp:gK l z b)(W:yw b):Nu 127 [.agg #[O.v y,O.v z]] l d A yw:=by
 apply Ag;simp -zeta only[aE,aD];intro f a2;let⟨K,F⟩:=dj (a:=f) (c:=a2) rfl rfl;have s1:f.size=l.size+1:=by simp[f]
 clear_value a2;have ao:=hp.len;have aG:=W.nA;refine(fD (b:=f.size::d) (bQ T K.size (F _ aH)) (hd.le K.le) ht).mono λ_ Z⟨dd,e,am,L⟩=>?_;subst e;refine⟨L.da F,_,rfl,?_⟩;intro o au ai;have u2:=K.trans L;let⟨x5,B0,g0,s3,s5⟩:=kD (b:=o.size::f.size::d) kN.mono (d:=Z) (a:=o) (c:=au) (h:=ai) rfl rfl rfl;clear_value ai;have U:∀c∈[f.size,l.size],c<Z.size:=λc g=>L.lt (F c g);have ae:∀c∈f.size::d,c<Z.size:=λc g=>L.lt (bQ T K.size (F _ aH) c g);refine kj (R:=λj k M=>∃y z h,Value.agg #[O.v j,O.v k]=.agg #[O.v y,O.v z]/\bX (bG d M) y A/\gK (bG d M) z h/\yw h/\J l M) (t:=b.length) (f:=l) (b:=d) kN.mono bh bh T ⟨V,U _ aH⟩ u2 s3 am ao V x5 B0 g0 (λ_ r=>SG r) (λh r' ah m' h1 C j k p=>⟨h,r',ah,rfl,h1,C,Vl W j k,p⟩) λar M s ah ay μ an aC xM ac N av=>?_
 let⟨r,hq⟩:=cg b ar an;have t:=W.de r (aq hq);have q3:=t.params;have q4:=t.df;have qf:=t.nA;have qs:=t.gS;have v6:=u2.trans xM;let⟨az,p,c,c1,c2,c3,e0,e1,e2,e3,e4⟩:=hp.aO hq;have G:∀{aa:Value}{p v:Nat},af l p v=some aa->af M p v=some aa:=λB=>v6.af B;refine⟨V,V,_,G e0,_,G e1,_,G e2,_,G e3,_,G e4,?_⟩;intro m7 k;have hy:=ac.bg;have aB:=N.lt;have zM:=xM.size;have x8:J M k:=(J.push M _).ai (ad _) _ _;have s8:k.size=M.size+1:=by simp[k,m7,aA]
 clear_value k;have H:∀c∈[M.size,f.size,l.size],c<k.size:=λc g=>by
  rcases List.mem_cons.1 g with e|e
  .omega
  .have:=U c e;omega
 have w8:=v6.trans x8;have D:∀{M':E},k.size<=M'.size->∀c∈s.az::o.size::f.size::d,c<M'.size:=λB c g=>by
  simp only[aV]at g;rcases g with e|e|e|e
  .omega
  .omega
  .have:=ae c (by simp[e]);omega
  .have:=ae c (by simp[e]);omega
 have h:∀{P M2:E},J k P->J P M2->∀p,p<k.size->∀v,af M2 p v=af P p v:=λB h' p hb v=>aK (h'.same p (B.lt hb)) v;have q:M.size<k.size:=V;have X:o.size<k.size:=V;refine⟨s,(N.ext x8).cJ 1,?_⟩;refine(bO (s.az::o.size::f.size::d) (c1.ext w8) V).aI (J.aF k) H λa' _ m9 ga e j _=>⟨_,rfl,h (J.aF _) j _ q _,h (J.aF _) j _ q _,h (J.aF _) j _ q _,h (J.aF _) j _ q _,h (J.aF _) j _ X _,?_⟩;subst e;refine(bO (s.az::o.size::f.size::d) (c2.ext (w8.trans j)) V).aI j H λb' _ aI gb e x w=>⟨_,rfl,h j x _ q _,h j x _ q _,h j x _ q _,h j x _ X _,?_⟩;subst e;have z9:=j.size;have aL:=x.size;refine(Jt (S:=s.az::o.size::f.size::d) (D V) (eu.ext (w8.trans w) c3) t.bn t.jg qf).mono λaa Y⟨Q,I,e,gc,ag,u⟩=>⟨λc g=>u.same c (w.lt (H c g)),Q,e,h w u _ q _,h w u _ q _,h w u _ X _,?_⟩;intro aJ;have ab:=x8.trans (w.trans u);have aM:=u.size;let⟨aw,ax⟩:=ag.ok t.bn t.jg;have aF:=ag.1;have aj:ap (bG (s.az::o.size::f.size::d) Y) a' r.params:=(ga.done (D V) V).le ((x.trans u).cR _);have ak:ap (bG (s.az::o.size::f.size::d) Y) b' r.df:=(gb.done (D V) V).le (u.cR _);have al:eu (bG (s.az::o.size::f.size::d) Y) Q I:=gc.done dG.mono (D V) bh V;exact Gr.box (g:=[.s .nil,.s .nil,.i 0,.i 0,.s .nil]) (j:=1) (y:=88) (i:=[.s dd,.s s]) (w:=⟨r.params,r.df,r.aR,r.av,I⟩) kN.mono bh (ac.ext kN.mono ab) ((xM.trans ab).fz []) ⟨a',b',Q,rfl,aj,ak,al⟩ V (N.ext ab) aH bh ⟨V,aH⟩ (λc g=>by have h1:=H c g;have C:=U c;simp only[aV]at g C;rcases g with e|e|e|e<;>first|omega|(have:=C (by simp[e]);omega)|simp at e) λr' m' g' C f' z' q'=>av r' m' _ g' C f'.ext ⟨q3,q4,by show 0<I.length;omega,by show I.length<=_;omega,aw,ax⟩
end
section
variable{S:List Nat}{d c:E}{b:Nat}{s:O}{l:List Instr}{x:Instr}
structure Eg(S:List Nat)(d c:E)(b:Nat)(s:O)(l:List Instr):Prop where
 box:cz c b nE [.s s]
 gr:VD (b::S) d c s l
 up:d.size<=b
def Eg.ext{S:List Nat}{d c a:E}{b:Nat}{s:O}{l:List Instr}(h:Eg S d c b s l)(x:J c a):Eg S d a b s l:=⟨h.box.ext x,h.gr.ext dG.mono x,h.up⟩
def Eg.ne{S:List Nat}{d c:E}{b:Nat}{s:O}{l:List Instr}(h:Eg S d c b s l):s.az≠b:=h.gr.ne h.box bh
def OH(S:List Nat)(d c:E)(b:Nat)(s:O)(P:List Instr->Prop)(f:E):Prop:=∃a e,Eg S d f b a e/\P e/\Fz [b,s.az] c f/\(a.az=s.az\/c.size<=a.az)
def pZ{v z:O}(p:Eg S d c b s l)(E:d.size<=c.size)(H:ap (bG (s.az::b::S) c) v x.args)(I:ap (bG (s.az::b::S) c) z x.di)(q:l.length<=10^12):
 aN cq 67 [vp b 0,VZ x v z] c λP M=>P=vi (l.length:Nat)/\OH S d c b s (l++[x]=·) M:=by
 apply wo (b,0)
 simp -zeta only[aE,aD]
 intro g
 have n:J c g:=J.push _ _
 have s1:g.size=c.size+1:=by simp[g]
 clear_value g
 have h:=p.ext n
 have W:=h.gr.bg
 have D:=h.box.lt
 have T:=p.box.lt
 have X:=p.gr.bg
 refine⟨s,h.box.cJ 0,?_⟩
 intro N
 have F:J g N:=J.push _ _
 refine⟨aK (F.same _ D) _,?_⟩
 have U:(c.extract 0 d.size).size=d.size:=jF E
 have g1:VD (b::S) (c.extract 0 d.size) g s l:=Gr.cG dG.mono h.gr (λG q=>Or.inl q) V
 refine Gr.ku (g:=[.i 0,.i 0,.i 0,.i 0,.s .nil,.s .nil]) (k:=x) dG.mono bh g1 ((((J.N4 E).trans n).fz [])) ⟨v,z,rfl,H.le (n.cR _),I.le (n.cR _)⟩ V λi k A R Q u=>?_
 have Z:∀e,e<g.size->e≠s.az->k[e]? =g[e]? :=u
 have y:cz k b nE [.s s]:=h.box.congr (u b D (kG h.ne))
 have L:=A.ne y bh
 refine⟨λe f=>?_,y.fg aH,?_⟩
 .simp at f;subst f
  rw[u c.size V V,F.same _ V]
 intro t
 have C:cz t b nE [.s i]:=cz.ai (m:=k) (o:=0) (r:=[.s i]) y
 have w:∀e,e≠b->t[e]? =k[e]? :=λe f=>bd _ _ _ _ f
 have s4:t.size=k.size:=aA _ _ _ _
 refine⟨λe f=>w e (by simp at f;omega),i,C.cJ 0,?_⟩
 have B:VD (b::S) d t i (l++[x]):=by
  refine Gr.cG dG.mono (A.re dG.mono (Y:=[b]) ⟨V,λe f j=>w e (by simpa using j)⟩ aH (by simp;exact L) λe f=>Or.inl f) (λG q=>Or.inl q) V
 have G:=B.len bh
 have K:i.len=l.length+1:=by rw[G];simp
 refine⟨?_,i,_,⟨C,B,p.up⟩,rfl,⟨V,λe f j=>?_⟩,oh Q.2⟩
 .rw[K,aQ V V];congr 1;omega
 .simp only[aV,iW,AA,uH]at j
  rw[w e j.1,u e V j.2,n.same e f]
def QJ{j:Nat}(h:Eg S d c b s l)(o:d.size<=c.size)(r:l[j]? =some x):
 aN cq 147 [vp b 0,vi j] c λ_ K=>OH S d c b s (l.set j ⟨x.op,0,l.length,0,x.args,x.di⟩=·) K:=by
 apply wm (b,0)
 simp -zeta only[aE,aD]
 have G:=ax r
 have I:=h.gr.len bh
 obtain⟨M,⟨q,t,rfl,E,F⟩,k8⟩:=h.gr.cells r
 have w:=k8 0 _ rfl;have y:=k8 1 _ rfl;have z:=k8 2 _ rfl;have A:=k8 3 _ rfl;have B:=k8 4 _ rfl;have C:=k8 5 _ rfl
 refine⟨s,h.box.cJ 0,V,V,_,w,_,y,_,z,_,A,_,B,_,C,?_⟩
 intro L e
 have g:J c e:=(J.push c _).ai (ad _) _ _
 have Q:e.size=c.size+1:=by simp[e,L,aA]
 clear_value e
 have i:=h.ext g
 have H:=i.ne
 have O:=h.gr.bg
 have P:=g.size
 refine⟨s,i.box.cJ 0,s,i.box.cJ 0,V,V,?_⟩
 have g1:VD (b::S) (c.extract 0 d.size) e s l:=Gr.cG dG.mono i.gr (λv m=>Or.inl m) (by rw[jF o];exact ad _)
 rw[I]
 let⟨wr,D,N,p⟩:=Gr.set (k:=j) (cs:=[.i x.op,.i 0,.i l.length,.i 0,.s q,.s t]) (a:=⟨x.op,0,l.length,0,x.args,x.di⟩) dG.mono g1 (((J.N4 o).trans g).fz []) G ⟨q,t,rfl,E.le (g.cR _),F.le (g.cR _)⟩
 refine⟨wr,?_⟩
 intro u
 have R:u.size=e.size:=aA _ _ _ _
 refine⟨λf n=>p f (by simp at n;omega),s,_,⟨i.box.congr (p b (kG H)),Gr.cG dG.mono D (λv m=>Or.inl m) (by rw[jF o];exact ad _),h.up⟩,rfl,⟨V,λf n m=>?_⟩,Or.inl rfl⟩
 simp only[aV,iW,AA,uH]at m
 have v:u[f]? =e[f]? :=p f m.2
 rw[v,g.same f n]
end
section
def Sp(a:List bo)(b:List Nat)(k:Nat)(i:Instr):Prop:=
 if i.op<12 then Ar a b i.op i.bK i.args.length/\0<=i.op/\i.op≠7/\i.op≠8
 else if i.op=14\/i.op=15\/i.op=18\/i.op=23 then i.args.length=1/\i.bK=0
 else if i.op=16\/i.op=17 then(1<=i.args.length/\i.args.length<=4)/\i.bK=0
 else if i.op=19 then i.args.length=1/\0<=i.bK/\i.bK<=2
 else if i.op=20 then i.args.length=1/\(k:Int)<i.bK
 else if i.op=22 then i.args.length=0/\(k:Int)<i.bK
 else i.op=21/\i.args.length=1/\0<(bY a i.bK).length/\i.di.length=(bY a i.bK).length/\∀j∈i.di,(k:Int)<j
structure Uu(ds:List bo)(ps:List Nat)(B k:Nat)(x:Instr):Prop where
 args:∀a∈x.args,0<=a/\a<(B:Int)
 dst:0<=x.dst/\x.dst<(B:Int)
 U1:x.dst=0\/jD x.op
 bW:x.bW=0\/x.op=6/\0<=x.bW/\x.bW<=x.dst
 di:x.op=21\/x.di=[]
 op:Sp ds ps k x
def Tg(n:Nat)(x:Instr):Prop:=(x.op=20\/x.op=22->x.bK<=(n:Int))/\∀j∈x.di,j<=(n:Int)
section
variable{a:List bo}{b:List Nat}{B k n d:Nat}{x:Instr}{l c e:List Instr}
def Tg.up(h:Tg n x)(b:n<=d):Tg d x:=⟨λe=>by have:=h.1 e;omega,λj a=>by have:=h.2 j a;omega⟩
def Tg.no(a:x.op≠20/\x.op≠22)(h:x.di=[]):Tg n x:=⟨λe=>V,by simp[h]⟩
def Uu.ok(h:Uu a b B k x):SC k x:=by
 have c:=h.op;unfold Sp at c;refine⟨λe=>?_,λe=>?_⟩
 .simp[e]at c;exact c.2
 .rcases e with e|e|e|e<;>simp[e]at c<;>omega
def mZ(a:List bo)(b:List Nat)(B:Nat)(l c:List Instr)(n:Nat):Prop:=∃d,c=l++d/\(∀(i:Nat)(x:Instr),d[i]? =some x->Uu a b B (l.length+i) x/\Tg c.length x)/\PZ d/\d.length<=n
def mZ.aF(a:List bo)(b:List Nat)(B:Nat)(l:List Instr):mZ a b B l l 0:=⟨[],aH,aH,λ_ h=>by simp at h,ad _⟩
def mZ.gE(h:mZ a b B l c n)(k:n<=d):mZ a b B l c d:=let⟨i,e,f,g,j⟩:=h;⟨i,e,f,g,V⟩
def mZ.len(h:mZ a b B l c n):l.length<=c.length/\c.length<=l.length+n:=by obtain⟨e,rfl,_,_,d⟩:=h;simp;omega
def mZ.trans(h:mZ a b B l c n)(r:mZ a b B c e d):mZ a b B l e (n+d):=by
 obtain⟨g,rfl,k,o,u⟩:=h;obtain⟨t,rfl,m,p,v⟩:=r;refine⟨g++t,aH,λi x f=>?_,λx s=>?_,bN⟩
 .rcases aU i g.length with j|j
  .rw[aw j]at f;exact⟨(k i x f).1,(k i x f).2.up aH⟩
  .rw[aG j]at f;have:=m _ x f;have q:(l++g).length+(i -g.length)=l.length+i:=bN;rw[q]at this;exact this
 .rcases List.mem_append.1 s with h|h
  .exact o x h
  .exact p x h
def mZ.ln(h:Uu a b B l.length x)(g:x.op<20)(f:x.args.length<=10^12):mZ a b B l (l++[x]) 1:=
 have d:x.di=[]:=h.di.resolve_left V
 ⟨[x],rfl,λi y c=>by
  have:i=0:=by have:=ax c;simp at this;omega
  subst this;simp at c;subst c;exact⟨h,.no V d⟩,λy e=>by simp at e;subst e;simp[d,f],aH⟩
end
section
variable{S:List Nat}{c m b:E}{a:Nat}{s d:O}{l e:List Instr}
def Eg.fR(h:Eg S c m a s l)(f:J c m)(e:Fz [a,s.az] m b):J c b:=by
 have j:=h.gr.bg;have i:=h.up;exact Fz.ext (((f.fz [a,s.az]).trans e).CG λg d=>Or.inr (by simp at d;omega))
def Qc(h:Fz [a,s.az] m b)(f:d.az=s.az\/m.size<=d.az):Le (bG [s.az,a] m) (bG [d.az,a] b):=oR λc g i=>by
 simp at i;refine⟨by simp;rcases f with e|e<;>omega,h.same c g bN⟩
def OH.da{L:List Nat}(f:Fz [a,s.az] m b)(d:∀c∈L,c<m.size/\c≠a/\c≠s.az):eG L m b:=λc e=>f.same c (d c e).1 (by have:=d c e;simp;omega)
end
structure RE(S:List Nat)(mb m:E)(eb:Nat)(s:O)(l:List Instr)(cons first:O)(cl fl:List Int):Prop where
 em:Eg S mb m eb s l
 x:J mb m
 fR:∀c∈S,c<m.size
 cons:ap (bG [s.az,eb] m) cons cl
 first:ap (bG [s.az,eb] m) first fl
 same:fl.length=cl.length
 jg:∀y∈fl,0<=y/\y<=(cl.length:Int)
def RE.ext{S:List Nat}{e m d:E}{b:Nat}{s:O}{l:List Instr}{cons first:O}{a c:List Int}(h:RE S e m b s l cons first a c)(x:J m d):RE S e d b s l cons first a c:=
 ⟨h.em.ext x,h.x.trans x,λf g=>x.lt (h.fR f g),h.cons.le (x.cR _),h.first.le (x.cR _),h.same,h.jg⟩
def RE.next{S:List Nat}{e m d:E}{a:Nat}{s c:O}{o j:List Instr}{cons first:O}{f g:List Int}(h:RE S e m a s o cons first f g)(l:Eg S e d a c j)(b:Fz [a,s.az] m d)(i:c.az=s.az\/m.size<=c.az):RE S e d a c j cons first f g:=
 ⟨l,h.em.fR h.x b,λk n=>aJ (h.fR k n) b.size,h.cons.le (Qc b i),h.first.le (Qc b i),h.same,h.jg⟩
def XH(c:List bo)(e:List eP)(B:Nat)(x:cE):Prop:=∀(S:List Nat)(a m:E)(d:Nat)(s:O)(l:List Instr)(cons first:O)(b h:List Int)(g r f k:O),RE S a m d s l cons first b h->WS c (pc e) True b.length x->b.length+4*x.w<=B->B<=900000000000->l.length+6*x.w<=10^12->dX a g r c e->ap a f x.args->mX a k x.bF->
 aN cq 105 [vp d 0,.agg #[O.v g,O.v r],oE x f k,O.v cons,O.v first] m λ_ j=>OH S a m d s (λi=>mZ c (pc e) B l i (6*x.w)) j
def WE(d:List bo)(f:List eP)(B:Nat)(b:Bk):Prop:=∀(S:List Nat)(a m:E)(e:Nat)(s:O)(l:List Instr)(cons first:O)(c h:List Int)(g r t:O),RE S a m e s l cons first c h->WB d (pc f) True c.length b->c.length+4*b.w<=B->B<=900000000000->l.length+6*b.w<=10^12->dX a g r d f->eH a t b.aC->
 aN cq 66 [vp e 0,.agg #[O.v g,O.v r],.agg #[O.v t,vi b.aR],O.v cons,O.v first] m λ_ j=>OH S a m e s (λi=>mZ d (pc f) B l i (6*(b.w -1))) j
end
def sG(m:E):ap m .nil []:=⟨rfl,ad _,aH,aH⟩
def KX{ds:List bo}{rs:List eP}{N:Nat}{aC:List cE}{a8:Int}(b:∀a∈aC,a.op=7\/a.op=8->XH ds rs N a):WE ds rs N (.mk aC a8):=by
 intro B mb H f aa ah cons first cl fl aQ a7 bx E0 a1 bf hB bg hn hs
 have a2:=a1.bB;rw[Bk.qd]at*;simp only[Bk.jG,Bk.iZ]at*;apply uw (f,0);simp -zeta only[aE,aD];intro W I;let⟨x2,hl⟩:=dj (a:=W) (c:=I) rfl rfl;have s1:W.size=H.size+1:=by simp[W]
 have s2:I.size=H.size+2:=by simp[I,s1]
 clear_value I;have a0:=hs.len;have aF:=Au aC;have bn:=fw aC;have bj:=E0.em.box.lt;have bu:=E0.em.gr.bg;have bl:=E0.x.size;refine vS (n:=aC.length) (a0▸hs.fu) (λp cons first M=>∃m U F Q,RE B mb M f m U cons first F Q/\F.length=cl.length+dc (aC.take p)/\mZ ds (pc rs) N ah U (6*sw (aC.take p))/\Fz [f,aa.az] H M/\(m.az=aa.az\/I.size<=m.az)/\I.size<=M.size) ⟨aa,ah,cl,fl,E0.ext x2,aH,(mZ.aF _ _ _ ah).gE (dE _),x2.fz _,Or.inl rfl,ad _⟩ ?_;rintro p cons first M a9 μ hk ⟨m,U,F,Q,Y,aW,ag,fz,aZ,hM⟩ aN
 have bk:=ag.len;have bq:=aF p;have t:=Y.em.gr.bg;refine dit (λi=>?_) λi=>?_
 .let⟨a,hx⟩:=cg aC p;let⟨pa,pk,T,aX,e0,e1,e2,e3,e4⟩:=hs.aO hx;have bs:=pt hx;have br:=ql hx;have bt:=cE.lg a;have bp:=aF (p+1);have bi:=pM (aC.take p);have bm:=fw (aC.take p);have o:=a2.1 p a hx;rw[<-aW]at o;have X:=Y.x;have aB:∀D∈a.args,0<=D/\D<(N:Int):=λD i=>oh (o.dU.args D i);refine⟨V,V,_,X.af e0,_,X.af e1,_,X.af e2,_,X.af e3,_,X.af e4,?_⟩;intro m3 q;have x4:J M q:=(J.push M _).ai (ad _) _ _;have s4:q.size=M.size+1:=by simp[q,m3,aA]
  clear_value q;have k:=Y.ext x4;have R:∀{Z:E},q.size<=Z.size->∀h∈[M.size,W.size,H.size],h<Z.size/\h≠f/\h≠m.az:=λhz h s=>by simp at s;omega
  have kS:∀{A M2:E},q.size<=A.size->J A M2->eG [M.size,W.size,H.size] A M2:=λhz xx h s=>xx.same h (R hz h s).1;have C:∀{A M2:E},q.size<=A.size->J A M2->∀ai,af M2 M.size ai=af A M.size ai:=λhz xx ai=>aK (xx.same _ V) ai;have an:∀{Z:E},q.size<=Z.size->∀c∈m.az::f::B,c<Z.size:=λhz c b=>by
   simp only[aV]at b;rcases b with e|e|e
   .omega
   .omega
   .have:=Y.fR c e;have:=X.size;omega
  refine⟨λO=>∃g y,RE B mb O f g y cons first F Q/\mZ ds (pc rs) N U y (6*a.w)/\Fz [f,m.az] q O/\(g.az=m.az\/q.size<=g.az),⟨λh7=>?_,λn7=>⟨λav=>?_,λa5=>⟨λaw=>?_,λa6=>?_⟩⟩⟩,?_⟩
  .simp only[cB,aM]at h7;refine(b a (aq hx) h7 B mb q f m U cons first F Q aQ a7 pa pk k o V hB V hn T aX).mono λv m5⟨g,y,ab,p5,P,b5⟩=>⟨OH.da P (R (ad _)),g,y,k.next ab P b5,p5,P,b5⟩
  .simp only[cB,aM]at av;refine(bO (m.az::f::B) (T.ext k.x) V).mono λv m5⟨a',la,e,ga,ea,d⟩=>⟨kS (ad _) d,a',e,C (ad _) d _,?_⟩;subst ea;have l:=k.ext d;have w:=d.size;refine(pZ (x:=⟨a.op,0,0,0,a.args,[]⟩) l.em l.x.size (GI.done ga (an (ad _)) (by show a.args.length<=_;omega)) (sG _) V).mono λv K⟨ev,s6,l6,al,p6,G,b6⟩=>⟨OH.da G (R w),_,ev,s6,l6,l.next al G b6,?_,(d.fz _).trans G,V⟩;subst p6;exact(mZ.ln (x:=⟨a.op,0,0,0,a.args,[]⟩) ⟨aB,⟨dh _,by show(0:Int)<_;omega⟩,Or.inl rfl,Or.inl rfl,Or.inr rfl,by have:=o.dU.ln V;rcases av with e|e<;>simp[Sp,e,this]⟩ (by show a.op<20;omega) (by show a.args.length<=_;omega)).gE V
  .simp only[cB,aM]at aw;have bb:=o.dU.ln V;let⟨L,ar⟩:=cg a.args 0;let⟨y0,y1⟩:=o.dU.args L (aq ar);have be:=T.len;have c4:=(k.cons.le (bz _ _));have f4:=(k.first.le (bz _ _));have a3:=c4.len;have a4:=f4.len;have aY:=k.same;let⟨cn,aR⟩:=cg F L.toNat;let⟨fn,am⟩:=cg Q L.toNat;let⟨a_,ba⟩:=k.jg fn (aq am);have F4:=f4.aO am;refine⟨bh,V,L,(T.ext k.x).aO ar,y0,V,cn,c4.aO aR,y0,V,fn,F4,?_⟩;refine(dC (e:=[]) aH (hn.bt.le (k.x.le.trans (yS _))) hn.types cn).mono λv m5⟨aT,bv,e,aO,ax,d⟩=>⟨kS (ad _) d,aT,e,by rw[d.af F4,F4],C (ad _) d _,C (ad _) d _,?_⟩;subst ax;have w:=d.size;have F3:=EB hn.types cn;obtain⟨fk,aS⟩:∃fk:Nat,fn=fk:=⟨fn.toNat,V⟩;subst aS;refine(rh (S:=[]) aH aO fk V).mono λv K⟨aU,bw,e,aG,ac,j⟩=>⟨kS w j,aU,e,C w j _,C w j _,?_⟩;have z6:=j.size;refine(eE (S:=[]) aH ((T.ext (k.x.trans (d.trans j))).le (yS _)) (aG.done tm.mono aH bh (oh ac.2)) (oh ac.2)).mono λv m7⟨au,u,e,aI,aj,r⟩=>⟨kS V r,au,e,C V r _,?_⟩;have X7:=(d.trans j).trans r;have z:=k.ext X7;have z7:=r.size;have aL:GI (m.az::f::B) K m7 au u:=GI.any aI;have bc:u.length<=a.args.length+3:=by rw[<-aj];simp;have:=ac.2;omega
   have aP:1<=u.length/\u.length<=4:=by
    have:0<u.length:=by rw[<-aj];simp;omega
    omega
   have bd:0<u.length:=by rw[<-aj];simp;omega
   refine(pZ (x:=⟨a.op,0,0,0,u,[]⟩) z.em z.x.size (aL.done (an V) V) (sG _) V).mono λv m8⟨ev,s8,l8,az,p8,f8,b8⟩=>⟨OH.da f8 (R V),_,ev,s8,l8,z.next az f8 b8,?_,(X7.fz _).trans f8,V⟩;subst p8;exact(mZ.ln (x:=⟨a.op,0,0,0,u,[]⟩) ⟨λD i=>by
    rw[<-aj]at i;rcases List.mem_append.1 i with i|i
    .exact aB D i
    .have:=ac.1 D i;omega,⟨dh _,by show(0:Int)<_;omega⟩,Or.inl rfl,Or.inl rfl,Or.inr rfl,by rcases aw with e|e<;>simp[Sp,e,aP]⟩ (by show a.op<20;omega) (by show u.length<=_;omega)).gE V
  .refine(bO (m.az::f::B) (T.ext k.x) V).mono λv m5⟨a',la,e,ga,ea,d⟩=>⟨kS (ad _) d,a',e,C (ad _) d _,C (ad _) d _,C (ad _) d _,?_⟩;subst ea;simp only[bU,ao]at a5 a6;have l:=k.ext d;have w:=d.size;have aj:a.op<=11:=by
    rcases o.dU.op with i|i
    .exact i.2
    .omega
   refine(pZ (x:=⟨a.op,(cons.len:Int),a.bK,a.bW,a.args,[]⟩) l.em l.x.size (GI.done ga (an (ad _)) (by show a.args.length<=_;omega)) (sG _) V).mono λv K⟨ev,s6,l6,al,p6,G,b6⟩=>⟨OH.da G (R w),_,ev,s6,l6,l.next al G b6,?_,(d.fz _).trans G,V⟩;subst p6;have u:0<=a.op:=by rcases o.dU.op with i|i;exact i.1;omega
   have ac:=o.dU.bW;have am:=l.cons.len;simp only[bU,ao]at n7;exact(mZ.ln (x:=⟨a.op,(cons.len:Int),a.bK,a.bW,a.args,[]⟩) ⟨aB,⟨by show(0:Int)<=(cons.len:Int);omega,by show(cons.len:Int)<_;omega⟩,Or.inr (Or.inl ⟨u,aj,n7⟩),by by_cases e:a.bW=0;exact Or.inl e;exact Or.inr ⟨o.dU.Zl e,ac.1,by show a.bW<=(cons.len:Int);omega⟩,Or.inr rfl,by unfold Sp;rw[ak (by show a.op<12;omega)];exact⟨o.dU.ar,u,n7⟩⟩ (by show a.op<20;omega) (by show a.args.length<=_;omega)).gE V
  .rintro O ⟨g,y,l,p5,P,b5⟩;have w:=P.size;have ab:mZ ds (pc rs) N ah y (6*sw (aC.take (p+1))):=(ag.trans p5).gE V;have au:Fz [f,aa.az] H O:=(fz.then x4).rq P λL t=>by
    simp only[aV,iW,AA]at t⊢;rcases t with e|e
    .exact Or.inl (Or.inl e)
    .rcases aZ with d|d
     .exact Or.inl (Or.inr V)
     .exact Or.inr V
   have ax:g.az=aa.az\/I.size<=g.az:=V;have bb:=l.em.gr.bg;have al:∀h∈[M.size,W.size,H.size],h<O.size:=λh s=>aJ (R (ad _) h s).1 w;have az:=λh s=>sC a h s;refine(jy a.op O).mono λv K⟨h,e,s,j⟩=>⟨λc b=>j.same c (al c b),h,e,λht=>?_,λhf=>?_⟩
   .have hd:=az h s;rw[ak ht]at hd;intro m7;have r:J K m7:=J.push _ _;have ba:=l.em.box.lt;have z6:=j.size;have ac:∀c∈[g.az,f],c<K.size:=λc b=>by simp at b;omega
    have a3:ap (bG [g.az,f] m7) (.mk K.size 0 1 1) [0]:=ap.lit ay [0] ac rfl rfl aH;have X7:=j.trans r;have z:=l.ext X7;have a_:=z.cons.len;refine(eE (S:=[g.az,f]) (λc b=>r.lt (ac c b)) z.cons a3 bN).mono λv m8⟨aO,aG,e,aR,u,x8⟩=>⟨λc b=>x8.same c (r.lt (j.lt (al c b))),aO,e,?_⟩;intro m9;have d:J m8 m9:=J.push _ _;have z7:=r.size;have z8:=x8.size;have am:∀c∈[g.az,f],c<m8.size:=λc b=>by have:=ac c b;omega
    have a4:ap (bG [g.az,f] m9) (.mk m8.size 0 1 1) [0]:=ap.lit ay [0] am rfl rfl aH;have E9:=z.ext (x8.trans d);have aY:=E9.same;refine(eE (S:=[g.az,f]) (λc b=>d.lt (am c b)) E9.first a4 bN).mono λv aL⟨aP,aI,e,aS,ar,G⟩=>⟨λc b=>G.same c (d.lt (x8.lt (r.lt (j.lt (al c b))))),aP,e,?_⟩;have aj:=E9.ext G;have aT:ap (bG [g.az,f] aL) aO aG:=(GI.done aR (λc b=>r.lt (ac c b)) (by rw[<-u];simp;omega)).le ((d.trans G).cR _);have aU:ap (bG [g.az,f] aL) aP aI:=GI.done aS (λc b=>d.lt (am c b)) (by rw[<-ar];simp;omega);refine aN V _ _ _ ⟨g,y,aG,aI,⟨aj.em,aj.x,aj.fR,aT,aU,by rw[<-u,<-ar];simp;omega,λL t=>?_⟩,by rw[<-u];simp;omega,ab,au.then (((X7.trans x8).trans d).trans G),ax,?_⟩
    .rw[<-ar]at t;rcases List.mem_append.1 t with t|t
     .have:=l.jg L t;rw[<-u];simp;omega
     .simp at t;rw[<-u];simp;omega
    .have:=d.size;have:=G.size;omega
   .have hd:=az h s;rw[ae (by simp[hf])]at hd;exact aN V _ _ _ ⟨g,y,F,Q,l.ext j,V,ab,au.then j,ax,oh j.size⟩
 .have a:p=aC.length:=V;subst a;rw[gX]at ag;exact⟨m,U,Y.em,ag.gE V,fz,V⟩
section
variable{m:E}
def Ei(m:E)(s:O):Prop:=s.len<=s.cap/\∀k:Nat,k<s.len->∃v:Int,0<=v/\v<=255/\af m s.az (s.off+k*1)=some (.int .u8 v)
def HG{bn:O}(h:Ei m bn):aN cq 19 [O.v bn] m λv i=>∃a,v=vp m.size 0/\Rd m.size a 0 i/\J m i:=by
 let⟨g,f⟩:=h;apply zS;have R:∀a:O,Ei m a->∃l,vp m.size 0=vp m.size 0/\Rd m.size l 0 (m.push (.cells (bD [.s a,.i 0]) pv))/\J m (m.push (.cells (bD [.s a,.i 0]) pv)):=λa⟨n,o⟩=>by
  refine⟨a,rfl,⟨⟨0,cz.push _ _ _,dh _,aH⟩,n,λk c=>?_⟩,J.push _ _⟩;let⟨v,d,e,b⟩:=o k c;have s:=lH b;exact⟨v,d,e,dY.2 ⟨bN,(J.push m _).af b⟩⟩
 refine⟨λh=>?_,λ_=>R bn ⟨g,f⟩⟩;simp only[an]at h;refine⟨bh,bh,V,?_⟩;refine R _ ?_;cases bn with
 |nil=>simp at h
 |CT j p q=>simp at h
 |mk j p t q=>
  simp only[O.dS,O.NH]at h g;refine⟨by simp[O.cut];omega,λk c=>?_⟩;have r:k<2000:=by simpa[O.cut]using c
  let⟨v,d,e,b⟩:=f k bN;exact⟨v,d,e,by simpa[O.cut]using b⟩
def JM(f:Nat)(b:List Value)(m:E)(S:List Nat)(Q:Ex->Prop):Prop:=aN cq f b m λv a=>∃s e,v=.agg #[vi e.op,vi e.bK,O.v s]/\fm (bG S a) s e.bF/\Q e/\J m a
def zH(S:List Nat)(n:Int)(m:E):JM 116 [vi n] m S (.mk 0 n []=·):=by
 apply Dz;simp -zeta only[aE,aD];intro a b d;have c:J m b:=(J.push m _).trans (J.push a _);exact⟨_,.mk 0 n [],rfl,lU _ _ _ _ _ _,rfl,c.ai (ad _) _ _⟩
def lM(S:List Nat)(n:Int)(m:E):JM 163 [vi n] m S (.mk 12 n []=·):=by
 apply Ci;simp -zeta only[aE,aD];intro a b d;have c:J m b:=(J.push m _).trans (J.push a _);exact⟨_,.mk 12 n [],rfl,lU _ _ _ _ _ _,rfl,c.ai (ad _) _ _⟩
def IC{S:List Nat}{s:O}{bF:List Ex}(h:fm (bG S m) s bF)(a bK:Int):JM 161 [vi a,vi bK,O.v s] m S (.mk a bK bF=·):=by
 apply Jj;simp -zeta only[aE,aD];intro d c;have b:J m c:=(J.push m _).ai (ad _) _ _;exact⟨s,.mk a bK bF,rfl,h.le (b.cR _),rfl,b⟩
def Ae{a P:Nat}{b:O}(r:Rd a b P m)(z:P+4<=10^16):aN cq 201 [vp a 0] m λv h=>∃k:Int,v=vi k/\(-999<=k/\k<=999)/\Rd a b (P+4) h/\Fz [a] m h:=by
 apply DN (a,0);refine(bV r V 6).mono λv A⟨d,e,y,b1,s,n⟩=>⟨d,e,?_⟩;refine(bV s V 6).mono λv B⟨f,e,a2,b2,t,o⟩=>⟨f,e,?_⟩;refine(bV t V 40).mono λv i⟨g,e,a3,b3,c,p⟩=>⟨g,e,?_⟩;intro j;have l:J i j:=J.push _ _;have x:ap (bG [a] j) (.mk i.size 0 10 10) [d,f,0,1,2,-1,3,g,999,-998]:=ap.lit ay _ (by have:=c.lt;simpa using this) rfl rfl aH;refine(jR (c.ext l) V x aH).mono λv C⟨k,e,w,u,q⟩=>⟨k,e,k,rfl,by simp at w;omega,u,((n.trans o).trans p).then l|>.trans q⟩
end
section
variable{m:E}
def ZD(e:Ex):Prop:=∀(m:E)(t:O),fm m t e.bF->∀left:Int,left<=600->rB 165 [.agg #[vi e.op,vi e.bK,O.v t],vi left] m λk=>k= -1\/0<=k/\k+e.n=left
def HH:∀e:Ex,ZD e:=by
 refine Ex.ind ?_;intro L bK bF s m N c left F;simp only[Ex.V2,Ex.TU,Ex.Ri,Ex.RW]at*;apply zT;simp -zeta only[aE,aD];intro a;have f:J m a:=J.push _ _;have p:∀h∈[m.size],h<a.size:=by simp[a]
 clear_value a;have d:∀{M:E},J m M->∃k:Int,vi (-1:Int)=vi k/\(k= -1\/0<=k/\k+((1+en bF:Nat):Int)=left)/\J m M:=λB=>⟨-1,rfl,Or.inl rfl,B⟩;refine⟨λ_=>d f,λl=>?_⟩;simp only[br]at l;have r:=c.len;rw[aQ (b:=left -1) V V];refine dx (n:=bF.length) (r▸c.fu) (λk(v:Int) M=>J a M/\0<=v/\v+1+en (bF.take k)=left) ⟨J.aF _,V,aH⟩ ?_;rintro k v M I μ D ⟨g,z,A⟩ t
 have u:=f.trans g;refine dit (λj=>?_) λj=>?_
 .let⟨e,b⟩:=cg bF k;let⟨w,q,i,g1,g2⟩:=c.aO b;refine⟨V,V,_,u.af i,_,u.af g1,_,u.af g2,?_⟩;refine(s e (aq b) M w (fm.le u.le q) v V).aI g p λK H G C y=>⟨_,rfl,λ_=>d (u.trans C),λo=>?_⟩;simp only[br]at o;refine t V _ _ ⟨y,V,?_⟩
  rw[JC b];omega
 .rw[cy V]at A;exact⟨v,rfl,Or.inr ⟨z,V⟩,u⟩
def zU{t:O}{e:Ex}(h:fm m t e.bF):rB 122 [.agg #[vi e.op,vi e.bK,O.v t]] m λk=>k= -1\/k=e.n/\e.n<=30:=by
 apply DG;simp -zeta only[aE,aD];intro a;have b:J m a:=J.push _ _;have g:∀d∈[m.size],d<a.size:=by simp[a]
 clear_value a;refine(HH e a t (fm.le b.le h) 30 bh).aI (J.aF a) g λn j i c l=>⟨_,rfl,λ_=>⟨-1,rfl,Or.inl rfl,b.trans c⟩,λf=>?_⟩;simp only[br]at f;rw[aQ (b:=30 -n) V V];exact⟨_,rfl,Or.inr ⟨V,V⟩,b.trans c⟩
def Li{s:O}{l:List Int}(h:ap m s l)(e:Int):rB 115 [O.v s,vi e] m λk=>-1<=k/\k<l.length:=by
 apply DJ;have c:=h.len;refine dZ (n:=l.length) (c▸h.fu) (λ_ M=>J m M) (J.aF _) ?_;rintro k M I μ g a f
 refine⟨λb=>?_,λ_=>⟨-1,rfl,⟨V,V⟩,a⟩⟩;simp only[an]at b;let⟨x,d⟩:=cg l k;exact⟨V,V,x,(h.ext a).aO d,λ_=>⟨k,rfl,⟨V,V⟩,a⟩,λ_=>f V _ a⟩
def KU(f:O)(m:E):aN cq 114 [O.v f] m λv a=>v=.agg #[O.v f]/\J m a:=by
 apply KT;simp -zeta only[aE,aD];intro b c;exact⟨trivial,(J.push m _).ai (ad _) _ _⟩
def QL(p:O)(r:Int)(m:E):aN cq 73 [O.v p,vi r] m λv a=>v=.agg #[O.v p,vi r,vi 0,vi 0,O.v .nil]/\J m a:=by
 apply Lj;simp -zeta only[aE,aD];intro b c;exact⟨trivial,(J.push m _).ai (ad _) _ _⟩
end
section
variable{a:List Nat}{m:E}{b d p:O}
def Gc(q:∀c∈a,c<m.size){l:List Int}(h:ap m b l)(w:l.length<=10^12)(u:Int):iU 202 [O.v b,vi u] m a λc=>(∀y∈c,0<=y/\y<(l.length:Int))/\c.length<=l.length:=by
 apply yo;intro B;have r:=h.len;refine dx (n:=l.length) (r▸h.fu) (λk s M=>J m M/\∃c,GI a m M s c/\(∀y∈c,0<=y/\y<(l.length:Int))/\c.length<=k) ⟨J.push m _,[],GI.nil a m,aH,ad _⟩ ?_;rintro k s M I μ z ⟨e,c,g,f,A⟩ j
 refine⟨λi=>?_,λi=>⟨s,c,rfl,g,⟨f,V⟩,e⟩⟩;simp only[an]at i;let⟨x,t⟩:=cg l k;refine⟨V,V,x,(h.ext e).aO t,λ_=>?_,λ_=>j V _ _ ⟨e,c,g,f,V⟩⟩;intro C;exact GI.ku g (e.fz []) q V λD v p o _ _=>j V _ _ ⟨o.ext,_,p,λy d=>by
  rcases List.mem_append.1 d with d|d
  .exact f y d
  .simp at d;omega,bN⟩
def SJ(m:E)(b:List Ce)(p:cZ):Prop:=∃a x y z,b=[.s a,.i p.aR,.i x,.i y,.s z]/\ap m a p.params
abbrev oL(m:E)(s:O)(l:List cZ):Prop:=eN m 5 (SJ m) s l
def SJ.le{m b:E}(h:Le m b){a:List Ce}{p:cZ}:SJ m a p->SJ b a p:=λ⟨c,x,y,z,d,e⟩=>⟨c,x,y,z,d,e.le h⟩
def oL.le{m b:E}(a:Le m b){s:O}{l:List cZ}(h:oL m s l):oL b s l:=eN.le h a λ_ _=>SJ.le a
def oL.aO{s:O}{l:List cZ}(h:oL m s l){k:Nat}{p:cZ}(d:l[k]? =some p):∃a,ap m a p.params/\af m s.az (s.off+k*5)=some (O.v a)/\af m s.az (s.off+k*5+1)=some (vi p.aR):=by
 obtain⟨e,⟨a,x,y,z,rfl,c⟩,b⟩:=h.jC k p d;exact⟨a,c,b 0 _ rfl,b 1 _ rfl⟩
def ClQ(a:List bo)(b:List cZ)(t y:Int):Prop:=∃(f:Nat)(q:cZ),y=f/\b[f]? =some q/\0<q.params.length/\(0<t->∃d∈a,d.cons.length=0/\q.params.getLast?=some d.tj/\q.aR=d.to)
def wX(X:∀g∈a,g<m.size){h:List bo}{e:List cZ}(hd:bX m d h)(ht:dH h)(o:oL m p e)(hf:e.length<=1000)(v:Int):iU 240 [.agg #[O.v d,O.v p],vi v] m a λb=>(∀y∈b,ClQ h e v y)/\b.length<=e.length:=by
 apply Bn;simp -zeta only[aE,aD];intro c q;have z:J m c:=J.push _ _;have G:∀g∈[m.size],g<c.size:=by simp[c]
 have R:GI a c q (.mk c.size 0 0 0) []:=GI.nil a c;have x2:J c q:=J.push _ _;clear_value q;clear_value c;have aa:=o.len;refine dx (n:=e.length) (aa▸o.fu) (λk t M=>J c M/\∃b,GI a c M t b/\(∀y∈b,ClQ h e v y)/\b.length<=k) ⟨x2,[],R,aH,ad _⟩ ?_;rintro k t M ac μ hk ⟨A,b,i,j,af⟩ r
 have u:=z.trans A;refine⟨λF=>?_,λF=>⟨t,b,rfl,i.cG (λ_ E=>E) z.size,⟨j,V⟩,u⟩⟩;simp only[an]at F;let⟨s,I⟩:=cg e k;let⟨B,l,C,P⟩:=o.aO I;have ae:=l.len;have ag:=l.fu;refine⟨V,V,_,u.af C,λS=>?_,λ_=>r V _ _ ⟨A,b,i,j,V⟩⟩;simp only[an]at S;rw[aQ (b:=(B.len:Int) -1) V V];let⟨y,K⟩:=cg s.params (((B.len:Int) -1).toNat);refine⟨V,V,_,u.af C,V,V,y,(l.ext u).aO K,V,V,_,u.af P,?_⟩;refine(ze (hd.le u.le) ht y s.aR).aI A G λai m3 H L w=>⟨_,rfl,λZ=>?_,λ_=>r V _ _ ⟨w,b,i.ext L,j,V⟩⟩;intro m4;refine GI.ku (i.ext L) (w.fz []) (λg f=>z.lt (X g f)) V λaj M' Q D _ _=>⟨J.nR (w.aP _) D.ext G,r V _ _ ⟨D.ext,_,Q,λab f=>?_,bN⟩⟩;rcases List.mem_append.1 f with f|f
 .exact j ab f
 .simp at f Z;refine⟨k,s,f,I,V,λE=>?_⟩;rcases H with H|⟨ah,N,_,Y,T,U,W⟩
  .omega
  .refine⟨N,aq Y,T,?_,W.symm⟩;rw[List.getLast?_eq_getElem?,U,<-K];congr 1;omega
def ph{i:List bo}{j:List cZ}{v:List Int}(hd:bX m d i)(k:dH i)(q:oL m p j)(o:j.length<=1000)(r:ap m b v)(t:Int):nY 203 [.agg #[O.v d,O.v p],O.v b,vi t] m:=by
 apply Dp;simp -zeta only[aE,aD];intro a;have f:J m a:=J.push _ _;have e:∀n∈[m.size],n<a.size:=by simp[a]
 clear_value a;refine(mz (hd.le f.le) k t).any.aI (J.aF a) e λl x g _=>⟨_,rfl,λ_=>rA (f.trans g),λ_=>?_⟩;have c:=f.trans g;refine(wX (a:=[]) aH (hd.le c.le) k (oL.le c.le q) o t).aI g e λA w y _ _ h s=>⟨_,rfl,λ_=>rA (c.trans h),λ_=>?_⟩;exact(dg (r.ext (c.trans h)) t).any.aI s e λl z u _=>⟨_,rfl,rA ((c.trans h).trans u)⟩
end
def KR{a P:Nat}{p:O}{m:E}(h:Rd a p P m)(Q:P+1<=10^16){q v x:O}{i:List bo}{r:List cZ}{L:List Int}(hd:bX (bG [a] m) q i)(H:dH i)(G:oL (bG [a] m) v r)(B:r.length<=1000)(I:ap (bG [a] m) x L):
 aN cq 196 [vp a 0,.agg #[O.v q,O.v v],O.v x] m λw u=>∃k:Int,w=vi k/\(k=1\/0<=k/\k<=4/\k<=i.length)/\Rd a p (P+1) u/\Fz [a] m u:=by
 apply Dm (a,0)
 simp -zeta only[aE,aD]
 intro b d
 have U:b.size=m.size+1:=by simp[b]
 have M:J m b:=J.push _ _
 have y:J b d:=J.push _ _
 have z:J m d:=M.trans y
 have S:=h.lt
 have t:∀c∈[m.size],c<d.size/\c∉[a]:=λc n=>by have:=y.size;simp at n⊢;omega
 have K:ap (bG [a] d) (.mk b.size 0 7 7) [1,1,3,0,2,4,3]:=ap.lit ay _ bN rfl rfl aH
 clear_value d
 have R:=hd.len
 refine(jR (h.ext z) V K aH).mono λw f⟨k,A,C,l,j⟩=>⟨j.da t,k,A,?_⟩
 have e:Fz [a] m f:=(z.fz _).trans j
 have s:0<=k/\k<=4:=by simp at C;omega
 refine⟨λ_=>⟨1,rfl,Or.inl rfl,l,e⟩,λF=>?_⟩
 simp only[br]at F
 have o:Le (bG [a] m) f:=(e.cR λ_ h=>h).trans (bz _ _)
 have D:∀c∈[m.size],c<f.size:=λc n=>aJ (t c n).1 j.size
 refine(ph (hd.le o) H (oL.le o G) B (I.le o) k).aI (J.aF f) D λN T g _=>⟨_,rfl,λ_=>⟨1,rfl,Or.inl rfl,l.ext g,e.then g⟩,λ_=>⟨k,rfl,Or.inr ⟨s.1,s.2,V⟩,l.ext g,e.then g⟩⟩

section
variable{t:Int}{x:Ex}
def JT:List bo:=[⟨0,0,[[],[0,1]]⟩,⟨0,0,[]⟩,⟨0,0,[[],[3,0,3]]⟩]
def Rj:List bo:=[⟨0,0,[[1,3]]⟩,⟨1,0,[]⟩,⟨0,0,[[1,1,0],[0],[3]]⟩,⟨0,1,[]⟩]
def oB:List (List bo):=JT::Rj.map λd=>JT++[d]
def OP:List (List Int×Int):=[([],0),([1],0),([1,1],1),([1],1),([1,0],1),([2,1],1),([1,1],0),([3],0),([0],1),([0,1],1),([3,0],3),([3],1),([1,3,0],0),([0],0),([0,0],0),([1,0],0)]
structure GP(ds:List bo)(fs:List cZ):Prop where
 ds:ds∈oB
 gS:0<fs.length
 nA:fs.length<=4
 de:∀q∈fs,(q.params,q.aR)∈OP
 first:∀q,fs[0]? =some q->q.params=[]/\q.aR=0
def Lo(t:Int):Prop:=t=0\/t=1\/t=3
instance(t:Int):Decidable (Lo t):=inferInstanceAs (Decidable (_\/_))
def Ty(a:List bo)(t:Int):Prop:=0<=t/\t<=(a.length:Int)
instance(a:List bo)(t:Int):Decidable (Ty a t):=inferInstanceAs (Decidable (_/\_))
section
variable{a:List bo}{b:List cZ}
def na:∀a∈oB,3<=a.length/\a.length<=4:=bh
def P4:∀a∈oB,∀t∈[(0:Int),1,2,3,4],∀c∈(bY a t).take 2,((bY a t).head?=some c\/t∉bZ a c)->(bZ a c).length<=3/\(∀f∈bZ a c,Lo f)/\(Lo t->(bZ a c).length=0):=bh
def QW:∀a∈oB,0<(bY a 1).length/\0<(bY a 3).length/\(bY a 0).length=0:=bh
def P2:∀a∈oB,∀d∈a,d.cons.length=0->∀s∈OP,s.1.getLast?=some d.tj->s.2=d.to->∀f∈s.1.dropLast,Lo f:=bh
def MC:∀a∈oB,bY a 1=[0,1]/\bY a 3=[2,3]/\bZ a 0=[]/\bZ a 1=[0,1]/\bZ a 2=[]/\bZ a 3=[3,0,3]:=bh
def yy:∀a∈oB,(∀t∈[(0:Int),1,2,3,4],∀c∈bY a t,(bZ a c).length<=3/\∀f∈bZ a c,Ty a f)/\(∀t∈[(0:Int),1,2,3,4],(bY a t).length<=3)/\(∀d∈a,Ty a d.tj):=bh
def P3:∀a∈oB,∀t∈[(1:Int),3,4],(t:Int)<=a.length->(∀d∈a[t.toNat -1]?,d.cons.length≠0)->0<(bY a t).length:=bh
def tH:∀s∈OP,s.1.length<=3/\(∀t∈s.1,0<=t/\t<=3)/\0<=s.2/\s.2<=3:=bh
def U6(a:0<=t)(b:t<=4):t∈[(0:Int),1,2,3,4]:=bN
def Ty.WQ(hd:a∈oB)(h:Ty a t):t∈[(0:Int),1,2,3,4]:=U6 h.1 (Pk (na a hd) h.2)
def GP.ty(h:GP a b)(c:0<=t)(d:t<=3):Ty a t:=⟨c,oh (na a h.ds)⟩
def Lo.ty(hd:a∈oB)(h:Lo t):Ty a t:=by have:=na a hd;unfold Lo at h;constructor<;>omega
end
def SN:∀a∈oB,∀d∈a,0<d.cons.length->d.cons.length<=3/\d.tj=0/\d.to=0/\∀f∈d.cons,f.length<=3/\∀t∈f,0<=t/\t<=(a.length:Int):=bh
def SR:∀a∈oB,∀k∈List.range a.length,∀d∈a[k]?,d.cons.length=0->(∀e∈a.take k,¬(e.cons.length=0/\e.tj=d.tj/\e.to=d.to))/\Ty a d.tj/\Ty a d.to:=bh
def pI{a:List bo}(h:a∈oB):dH a:=
 ⟨(na a h).2,λk d b=>⟨SN a h d (aq b),SR a h k (List.mem_range.2 (ax b)) d b⟩⟩
def SS:∀a∈oB,∀t∈[(0:Int),1,2,3,4],∀c∈bY a t,0<=c/\c<((eI a).length:Int):=bh
section
variable{a:List bo}{b:List Nat}{n k:Nat}
def SW{c:Int}(hd:a∈oB)(f:t∈[(0:Int),1,2,3,4])(d:c∈bY a t)(e:n=(bZ a c).length):Ar a b 6 c n:=by
 have:=SS a hd t f c d;simpa[Ar,e]using this
def Jz(h:b[k]? =some n):Ar a b 9 k n:=by simpa[Ar]using h
def SU(h:b[k]? =some (n+1)):Ar a b 10 k n:=by simpa[Ar]using h
end
structure XF(ds:List bo)(nf:List Nat)(a:Nat)(op bK:Int)(n:Nat):Prop where
 o:0<=op/\op<=13
 Uj:op=12->0<=bK/\bK<(a:Int)
 Jw:op=13->n=2
 Y6:op=7->n=3
 all:op=8->n=1+(bY ds bK).length/\0<(bY ds bK).length
 ar:op<=11->Ar ds nf op bK n
def pf(a:List cZ):List Nat:=a.map λq=>q.params.length
def MZ{a:List cZ}{k:Nat}{q:cZ}(h:a[k]? =some q):(pf a)[k]? =some q.params.length:=by rw[pf,bR,h];rfl
def xb(b:List bo)(a bK:Int):Nat->Nat
 |0=>0
 |i+1=>if a=13 then 1 else AE b a bK i
inductive WX(ds:List bo)(nf:List Nat):Nat->Ex->Prop
 |mk {a:Nat} {op bK:Int} {bF:List Ex} (dU:XF ds nf a op bK bF.length) (hk:∀(i:Nat)(e:Ex),bF[i]? =some e->WX ds nf (a+xb ds op bK i) e):WX ds nf a (.mk op bK bF)
section
variable{b:List bo}{c:List Nat}{a:Nat}{d bK:Int}{bF:List Ex}
def WX.bB{e:Ex}(h:WX b c a e):XF b c a e.op e.bK e.bF.length/\∀(i:Nat)(x:Ex),e.bF[i]? =some x->WX b c (a+xb b e.op e.bK i) x:=by
 cases h with
 |mk dU d=>exact⟨dU,d⟩
def Y9(a:d≠13)(c:d≠8)(i:Nat):xb b d bK i=0:=by
 cases i with
 |zero=>rfl
 |succ i=>show(if d=13 then 1 else AE b d bK i)=0;rw[ae a,JV c]
def WX.dU(k:0<=d/\d<=11)(g:d=7->bF.length=3)(f:d≠8)(i:Ar b c d bK bF.length)(j:∀e∈bF,WX b c a e):WX b c a (.mk d bK bF):=
 .mk ⟨⟨V,V⟩,λh=>V,λh=>V,g,λh=>absurd h f,λ_=>i⟩ λl e h=>by rw[Y9 V f];exact j e (aq h)
def WX.int{n:Int}(h: -999<=n/\n<=999):WX b c a (.mk 0 n []):=.dU bh (λh=>V) bh (by simpa[Ar]using h) aH
def WX.Uj(h:0<=bK/\bK<(a:Int)):WX b c a (.mk 12 bK []):=.mk ⟨bh,λ_=>h,λh=>V,λh=>V,λh=>V,λh=>V⟩ aH
def WX.lt{y:Ex}(e:WX b c a x)(f:WX b c (a+1) y):WX b c a (.mk 13 0 [x,y]):=
 .mk ⟨bh,λh=>V,λ_=>rfl,λh=>V,λh=>V,λh=>V⟩ λi g d=>by
  rcases i with _|_|i
  .simp at d;subst d;exact e
  .simp at d;subst d;exact f
  .simp at d
def WX.mt{l:List Ex}(k:WX b c a x)(n:l.length=(bY b bK).length)(m:0<l.length)(j:∀(i:Nat)(e:Ex)(f:Int),l[i]? =some e->(bY b bK)[i]? =some f->WX b c (a+(bZ b f).length) e):WX b c a (.mk 8 bK (x::l)):=
 .mk ⟨bh,λh=>V,λh=>V,λh=>V,λ_=>⟨bN,V⟩,λ_=>by simp[Ar]⟩ λi e d=>by
  rcases i with _|i
  .simp at d;subst d;exact k
  .simp at d;let⟨f,g⟩:=cg (bY b bK) i (oh (ax d));have:=j i e f d g;show WX b c (a+AE b 8 bK i) e;rw[JU rfl g];exact this
end
end
section
variable{X:List Nat}{b k c:Nat}{s:O}
structure GC(rb:Nat)(bs:O)(P:Nat)(d p:O)(ds:List bo)(fs:List cZ)(m:E):Prop where
 rd:Rd rb bs P m
 hd:bX (bG [rb] m) d ds
 hp:oL (bG [rb] m) p fs
 gp:GP ds fs
def Lw(a:Nat)(L:List Nat)(m:E):Prop:=∀b∈L,b<m.size/\b≠a
def XP(S:List Nat)(b:Nat)(c:O)(m:E)(P:Nat)(Q:Ex->Prop)(v:Value)(a:E):Prop:=∃s e,v=.agg #[vi e.op,vi e.bK,O.v s]/\fm (bG S a) s e.bF/\Q e/\Rd b c P a/\Fz [b] m a
abbrev IR(a:Nat)(m:E)(s:O)(l:List Int):Prop:=ap (bG [a] m) s l
section
variable{e P i:Nat}{h d p:O}{l:List bo}{n:List cZ}{m M g:E}{S L:List Nat}{f:Nat}{j:List Value}{Q Q':Ex->Prop}
def fh(f:Fz [e] m M):Le (bG [e] m) (bG [e] M):=f.cR λ_ h=>h
def GC.to(a:GC e h P d p l n m)(f:Fz [e] m M)(r:Rd e h i M):GC e h i d p l n M:=⟨r,a.hd.le (fh f),oL.le (fh f) a.hp,a.gp⟩
def GC.ext(a:GC e h P d p l n m)(x:J m M):GC e h P d p l n M:=a.to (x.fz _) (a.rd.ext x)
def GC.types(a:GC e h P d p l n m):dH l:=pI a.gp.ds
def Lw.fz(h:Lw e L m)(f:Fz X m M):Lw e L M:=λb a=>⟨aJ (h b a).1 f.size,(h b a).2⟩
def Lw.lt(h:Lw e L m)(f:Fz X m M):∀b∈L,b<M.size:=λb a=>(h.fz f b a).1
def Lw.da(h:Lw e L m)(f:Fz [e] m M):eG L m M:=f.da λb a=>⟨(h b a).1,by have:=(h b a).2;simpa using this⟩
def Lw.cJ(h:Lw e L m)(f:Fz [e] m M)(c:Fz [e] M g)(a:b∈L)(o:Nat):af g b o=af M b o:=aK (c.same b (h.fz f b a).1 (by have:=(h b a).2;simpa using this)) o
def XP.mono{P i:Nat}(k:∀a,Q a->Q' a)(j:P<=i){v:Value}:XP S e h m P Q v M->XP S e h m i Q' v M:=λ⟨s,a,b,c,d,f,g⟩=>⟨s,a,b,c,k a d,f.mono j,g⟩
def XP.then{K:Value->E->Prop}(c:aN cq f j M (XP S e h M P Q))(m:Lw e L M)(n:∀s a g,fm (bG S g) s a.bF->Q a->Rd e h P g->Fz [e] M g->K (.agg #[vi a.op,vi a.bK,O.v s]) g):aN cq f j M λv g=>eG L M g/\K v g:=
 c.mono λv g⟨s,a,d,i,k,l,b⟩=>⟨m.da b,d▸n s a g i k l b⟩
def Lw.Bc(h:Lw e L m)(f:Fz [e] m M)(a:Fz [e] m g):eG L M g:=λb c=>by
 have:=h b c;rw[f.same b this.1 (by simpa using this.2),a.same b this.1 (by simpa using this.2)]
def XP.ret{p:Nat}(q:aN cq f j M (XP (b::S) e h M P Q))(t:Lw e L M)(o:Fz [e] m M)(r:Rd e h p m)(n:m.size<=b)(v:∀a,Q a->Q' a)(u:P<=i):
 aN cq f j M λA g=>eG L M g/\∃c d:Int,∃k:O,A=.agg #[vi c,vi d,O.v k]/\XP S e h m i Q' (.agg #[vi c,vi d,O.v k]) (ai g b 0 [.i c,.i d,.s k]):=
 XP.then q t λs a g z y w l=>⟨_,_,_,rfl,s,a,rfl,fm.le (cb aH λB x=>ah _ x) z,v a y,r.ai (w.mono u) (o.trans l) n 0 _,(o.trans l).ai (Or.inr n) _ _⟩
abbrev GE(S:List Nat)(a m:E)(s:O)(l:List Ex):Prop:=Gr S a m bJ 3 AB s l
def XP.ku{B:Nat}{i:E}{s:O}{n:List Ex}{K:O->E->Prop}(D:aN cq f j M (XP (s.az::S) e h M P Q))(t:GE S i M s n)(z:Fz [e] i M)(w:Lw e L i)(u:Rd e h B i)(H:e∈S)(l:n.length<=1000)
 (F:∀c r g,Q c->GE S i g r (n++[c])->Rd e h P g->Fz [e] i g->Fz [e,s.az] M g->(r.az=s.az\/M.size<=r.az)->K r g):
 aN cq f j M λN k=>eG L M k/\∃o p:Int,∃q:O,N=.agg #[vi o,vi p,O.v q]/\
  jb (k.push (.cells (bD [.i o,.i p,.s q]) bJ)) bJ [.i 0,.i 0,.s .nil] 40 s (O.mk k.size 0 1 1) λr g=>eG L (k.push (.cells (bD [.i o,.i p,.s q]) bJ)) g/\K r g:=
 XP.then D (w.fz z) λU c k J G x d=>⟨_,_,_,rfl,by
  have T:=t.bg;have I:=u.lt;have v:=z.trans d;refine Gr.ku (g:=[.i 0,.i 0,.s .nil]) (k:=c) AB.mono bh (t.fS AB.mono d (by simp;exact⟨H,I⟩)) v (by cases c;exact AB.of J) V λr g C m R A=>⟨w.Bc (v.push _) m,F c r g G C (u.LZ x m (A e x.lt V)) m ⟨bH d.size R.1,λb y l=>?_⟩ (oh d.size)⟩;simp only[aV,iW,AA,uH]at l;rw[A b (aJ y d.size) l.2,d.same b y (by simpa using l.1)]⟩
def Yp{b:E}(h:Fz [e,k] b M)(d:s.az=k\/b.size<=s.az)(a:Fz [e,s.az] M g):Fz [e,k] b g:=
 h.rq a λy c=>by simp at c⊢;omega
end
def mB{S:List Nat}{d P:Nat}{b:O}{m:E}{bF:List Ex}(j:Rd d b P m)(h:fm (bG S m) s bF)(a bK:Int):aN cq 161 [vi a,vi bK,O.v s] m (XP S d b m P (.mk a bK bF=·)):=
 (IC h a bK).mono λv l⟨k,e,f,g,i,c⟩=>⟨k,e,f,g,i,j.ext c,c.fz _⟩
def Xn(b:List bo)(d:List cZ)(c:Nat)(e:Ex):Prop:=(∀a,WX b (pf d) a e)/\e.n<=c
def WI(c k:Nat)(e:List bo)(f:List cZ)(t:Int):Prop:=∀(S:List Nat)(a P:Nat)(b d p:O)(m:E),(∀g∈S,g<m.size)->a∈S->GC a b P d p e f m->P+k<=10^16->
 aN cq 204 [vp a 0,.agg #[O.v d,O.v p],vi t] m (XP S a b m (P+k) (Xn e f c))
def Rv{a:List bo}{b:List cZ}{l:List Ex}{d g:Int}(n:d=6\/d=10)(j:Ar a (pf b) d g l.length)(h:∀e∈l,Xn a b 1 e)(m:l.length+1<=c):Xn a b c (.mk d g l):=
 ⟨λi=>.dU V (λh=>V) V j λe f=>(h e f).1 i,by
  rw[Ex.RW];have:∀l:List Ex,(∀e∈l,Xn a b 1 e)->en l<=l.length:=λl=>by
   induction l with
   |nil=>simp
   |cons x l k=>intro h;rw[NK,aW];have:=(h x aH).2;have:=k λe f=>h e (by simp[f]);omega
  have:=this l h;omega⟩
def IB{d:List bo}{fs:List cZ}{t:Int}(ht:Ty d t)(F:(Lo t/\c=1/\k=5)\/((∀a,Lo a->WI 1 5 d fs a)/\c=4/\k=20)):WI c k d fs t:=by
 intro r f B I ap ay am hS aa a hP;apply Cc (f,0);simp -zeta only[aE,aD];intro m ab;let⟨x2,hl⟩:=dj (a:=m) (c:=ab) rfl rfl;have s1:m.size=am.size+1:=by simp[m]
 clear_value ab;have hr:=a.rd.lt;have L2:Lw f [m.size,am.size] ab:=λb K=>⟨hl b K,by simp at K;omega⟩;have Y:=a.types;have h5:=Ty.WQ a.gp.ds ht;have ag:∀e∈m.size::r,e<ab.size:=bQ hS x2.size (hl _ aH);have c2:=a.ext x2;refine(gQ (e:=[f]) (by simp;exact c2.rd.lt) (c2.hd.le (bz _ _)) Y t).mono λA m3⟨cs,l,e,hc,q,H⟩=>⟨L2.da (H.fz _),cs,e,?_⟩;subst q;have u:=c2.ext H;have N:=L2.fz (H.fz []);have u3:=x2.trans H;have aN:=hc.len;refine dit (λh0=>?_) λh0=>?_
 .let⟨X,al⟩:=cg (bY d t) 0;have hh:(bY d t).head?=some X:=by rw[List.head?_eq_getElem?];exact al
  have L:X∈(bY d t).take 2:=List.mem_take_iff_getElem.2 ⟨0,V,by have:=List.getElem?_eq_some_iff.1 al;exact this.2⟩;have A0:∀{M:E},Fz [f] m3 M->af M cs.az (cs.off+Int.toNat 0*1)=some (vi X):=λR=>(dY.1 ((hc.le (fh R)).aO al)).2;refine⟨bh,V,X,A0 (Fz.aF _ _),λa M=>a∈(bY d t).take 2/\Rd f I (B+1) M/\Fz [f] m3 M,⟨λD=>?_,λD=>⟨L,u.rd.mono V,Fz.aF _ _⟩⟩,?_⟩
  .simp only[an]at D;let⟨o,i⟩:=cg (bY d t) 1;have t1:o∈(bY d t).take 2:=List.mem_take_iff_getElem.2 ⟨1,V,by have:=List.getElem?_eq_some_iff.1 i;exact this.2⟩;refine(bV u.rd V 4).mono λA m4⟨G,e,_,_,j,g⟩=>⟨N.da g,G,e,λh=>⟨bh,V,o,(dY.1 ((hc.le (fh g)).aO i)).2,t1,j,g⟩,λh=>⟨L,j,g⟩⟩
  rintro c' v ⟨aA,w,i⟩;have O:=N.fz i;refine⟨λa M=>a∈(bY d t).take 2/\((bY d t).head?=some a\/t∉bZ d a)/\Rd f I (B+1) M/\Fz [f] m3 M,?_,?_⟩
  .refine(dC (e:=[]) aH ((u.to i w).hd.le ((bz _ _).trans (yS _))) Y c').mono λA m6⟨R,l,e,hf,q,x⟩=>⟨O.da (x.fz _),R,e,?_⟩;subst q;refine(dg (hf.le (bz _ _)) t).mono λA o⟨b,e,K,g⟩=>⟨(O.fz (x.fz [])).da (g.fz _),b,e,λau=>?_,λah=>⟨aA,Or.inr λj=>by rw[K.2 j]at ah;exact absurd ah bh,(w.ext x).ext g,(i.then x).then g⟩⟩;have j:=(i.then x).then g;exact⟨bh,V,X,A0 j,L,Or.inl hh,(w.ext x).ext g,j⟩
  rintro Q p ⟨D,h2,r8,Z⟩;let⟨z3,aB,zz⟩:=P4 d a.gp.ds t h5 Q D h2;have c8:=u.to Z r8;have L8:=N.fz Z;have F8:Fz [f] am p:=(u3.fz _).trans Z;have z8:=Z.size;have aG:=H.size;have z2:=x2.size;intro U;have x9:J p U:=J.push _ _;have g9:GE (m.size::r) p U (.mk p.size 0 0 0) []:=Gr.new _ (ad _) _ _ _;have s9:U.size=p.size+1:=by simp[U]
  clear_value U;refine(dC (e:=[f,p.size]) bN (c8.hd.le (x9.bG aH)) Y Q).mono λA av⟨R,l,e,hf,q,ac⟩=>⟨(L8.fz (x9.fz [])).da (ac.fz _),R,e,?_⟩;subst q;have aC:=hf.len;refine dx (n:=(bZ d Q).length) V (λj s M=>∃l,GE (m.size::r) p M s l/\l.length=j/\(∀e∈l,Xn d fs 1 e)/\Rd f I (B+1+5*j) M/\Fz [f] p M/\Fz [f,p.size] av M/\(s.az=p.size\/av.size<=s.az)) ⟨[],g9.ext AB.mono ac,rfl,aH,(r8.ext x9).ext ac,((x9.trans ac).fz _),Fz.aF _ _,Or.inl rfl⟩ ?_;rintro j s M az μ hj ⟨l,C,aF,T,W,o,ae,hs⟩ ao
  have LM:=L8.fz o;refine dit (λh=>?_) λh=>?_
  .rcases F with⟨aj,_,_⟩|⟨ih,e1,e2⟩
   .have:=zz aj;omega
   let⟨y,z⟩:=cg (bZ d Q) j;refine⟨V,V,y,(dY.1 ((hf.le (ae.cR λ_ h=>h)).aO z)).2,?_⟩;exact XP.ku (ih y (aB y (aq z)) (s.az::m.size::r) f (B+1+5*j) I ap ay M (bQ (λe g=>by have:=ag e g;have:=o.size;have:=H.size;omega) (ad _) C.bg.2) (by simp[aa]) (c8.to o W) V) C o L8 r8 (by simp[aa]) V λe aM M' g g' r' f' ar aJ=>
    ao V _ _ ⟨_,g',bN,λe' ai=>by rcases List.mem_append.1 ai with h|h;exact T e' h;simp at h;subst h;exact g,r'.mono V,f',Yp ae hs ar,oh ae.size⟩
  .have aw:∀e∈m.size::r,e<p.size:=λe g=>by have:=ag e g;omega
   exact XP.ret (mB W (C.done AB.mono aw bh V) 6 Q) LM (F8.trans o) a.rd V (λe g=>g▸Rv (Or.inl rfl) (SW a.gp.ds h5 (cX D) V) T (by rcases F with⟨h,e,_⟩|⟨_,e,_⟩;have:=zz h;omega;omega)) (by rcases F with⟨h,_,e⟩|⟨_,_,e⟩;have:=zz h;omega;omega)
 .refine(wX (a:=[f]) (by simp;exact u.rd.lt) (u.hd.le (bz _ _)) Y (oL.le (bz _ _) u.hp) (oh a.gp.nA) t).mono λA m4⟨U,l,e,gl,T,Q⟩=>⟨N.da (Q.fz _),U,e,?_⟩;have ae:IR f m4 U l:=GI.done gl (by simp;exact u.rd.lt) (Pk T.2 a.gp.nA);have aP:=ae.len;have X:=u.ext Q;have R:=N.fz (Q.fz []);have u4:=u3.trans Q;have z4:=Q.size;have z3:=H.size;refine⟨λb M=>(b=true->0<t/\0<U.len)/\M=m4,⟨λh=>⟨λp=>by simp only[an]at h p;omega,rfl⟩,λh=>⟨aH,rfl⟩⟩,?_⟩;rintro b _ ⟨K,rfl⟩;refine⟨λau=>?_,λah=>?_⟩
  .let⟨L,aO⟩:=K au;refine(bV X.rd V U.len).mono λA v⟨G,e,k0,k2,w,i⟩=>⟨R.da i,G,e,k0,V,?_⟩;let⟨y,z⟩:=cg l G.toNat;obtain⟨fi,q,rfl,p,aT,aI⟩:=T.1 y (aq z);let⟨dd,aB,aA,al,aK⟩:=aI L;have aj:=P2 d a.gp.ds dd aB aA _ (a.gp.de q (aq p)) al aK;have aU:q.params.length<=3:=(tH _ (a.gp.de q (aq p))).1;have Z:=X.to i w;have O:=R.fz i;let⟨ps,av,e0,e1⟩:=Z.hp.aO p;have aR:=av.len;have aC:=ax p;have aS:=Z.hp.len;refine⟨_,(dY.1 ((ae.le (fh i)).aO z)).2,V,V,ps,(dY.1 e0).2,?_⟩;intro m6;have x:J v m6:=J.push _ _;have g6:GE (m.size::r) v m6 (.mk v.size 0 0 0) []:=Gr.new _ (ad _) _ _ _;clear_value m6;have z5:=i.size;have ac:∀e∈m.size::r,e<v.size:=λe g=>by have:=ag e g;omega
   have aV:¬Lo t\/(Lo t/\0<t):=by by_cases h:Lo t;exact Or.inr ⟨h,L⟩;exact Or.inl h
   have hd:=QW d a.gp.ds;rcases F with⟨aG,_,_⟩|⟨ih,e2,e3⟩
   .exfalso;rcases aG with h|h|h
    .omega
    .subst h;omega
    .subst h;omega
   refine dx (n:=q.params.length -1) V (λj s M=>∃l,GE (m.size::r) v M s l/\l.length=j/\(∀e∈l,Xn d fs 1 e)/\Rd f I (B+1+5*j) M/\Fz [f] v M) ⟨[],g6,rfl,aH,w.ext x,x.fz _⟩ ?_;rintro j s M az μ hj ⟨l',C,aF,aw,W,o⟩ ao
   have ew:cQ ((j:Int)+1)=j+1:=aQ V V;refine⟨λh=>?_,λh=>?_⟩
   .simp only[ew,an]at h;let⟨y,z⟩:=cg q.params j;have aL:y∈q.params.dropLast:=List.mem_iff_getElem?.2 ⟨j,by rw[List.getElem?_dropLast,ak V];exact z⟩;refine⟨V,V,y,(dY.1 ((av.le (fh o)).aO z)).2,?_⟩;exact XP.ku (ih y (aj y aL) (s.az::m.size::r) f (B+1+5*j) I ap ay M (bQ (λe g=>Pk (ac e g) o.size) (ad _) C.bg.2) (by simp[aa]) (Z.to o W) V) C o O w (by simp[aa]) V λe aM M' g g' r' f' ar aJ=>
     ao V _ _ ⟨_,g',bN,λe' ai=>by rcases List.mem_append.1 ai with h|h;exact aw e' h;simp at h;subst h;exact g,r'.mono V,f'⟩
   .simp only[ew,br]at h;exact XP.ret (mB W (C.done AB.mono ac bh V) 10 _) (O.fz o) (((u4.fz _).trans i).trans o) a.rd V (λe g=>g▸Rv (Or.inr rfl) (SU (by rw[MZ p];congr 1;have:=List.length_pos_iff.2 (λe:q.params=[]=>by simp[e]at al);omega)) aw V) V
  .refine(Ae X.rd (by rcases F with⟨_,_,e⟩|⟨_,_,e⟩<;>omega)).mono λA v⟨G,e,o,w,i⟩=>⟨R.da i,G,e,?_⟩;exact XP.ret (P:=B+4) ((zH (m.size::r) G v).mono λA x⟨p,e,D,h2,j,h⟩=>⟨p,e,D,h2,j,w.ext h,h.fz _⟩) (R.fz i) ((u4.fz _).trans i) a.rd V (λe g=>g▸⟨λh=>.int o,by rw[Ex.RW];rcases F with⟨_,e,_⟩|⟨_,e,_⟩<;>simp[e]⟩) (by rcases F with⟨_,_,e⟩|⟨_,_,e⟩<;>omega)
end
section
variable{a:Nat}{t:Int}
def _root_.Go.Vc.Qi{σ:Type}(o:a<=9223372036854775807)(e:1<=a){m:E}{h:σ}{g:(σ->Int->E->Prop)->(σ->Int->E->Nat)->σ->Int->E->Prop}(Q:Nat->σ->E->Prop)(l:Q 1 h m)
 (j:∀(k:Nat)(s:σ)(b:E)(I:σ->Int->E->Prop)(μ:σ->Int->E->Nat),1<=k->k<=a->Q k s b->
  (k<a->∀d c,Q (k+1) d c->I d (cQ ((k:Int)+1)) c/\μ d (cQ ((k:Int)+1)) c<μ s k b)->g I μ s k b):
 ∃(I:σ->Int->E->Prop)(μ:σ->Int->E->Nat),I h 1 m/\∀s i b,I s i b->g I μ s i b:=by
 refine⟨λs i c=>∃k:Nat,i=k/\1<=k/\k<=a/\Q k s c,λ_ i _=>(a -i).toNat,⟨1,rfl,ad _,e,l⟩,?_⟩
 rintro s i b ⟨k,rfl,e,n,p⟩
 refine j k s b _ _ e n p λf d c q=>?_
 rw[km f o]
 exact⟨⟨k+1,rfl,V,f,q⟩,Cu f⟩
def _root_.Go.Vc.Yo(l:a<=9223372036854775807)(d:1<=a){m:E}{f:(Int->E->Prop)->(Int->E->Nat)->Int->E->Prop}(Q:Nat->E->Prop)(g:Q 1 m)
 (h:∀(k:Nat)(b:E)(I:Int->E->Prop)(μ:Int->E->Nat),1<=k->k<=a->Q k b->
  (k<a->∀c,Q (k+1) c->I (cQ ((k:Int)+1)) c/\μ (cQ ((k:Int)+1)) c<μ k b)->f I μ k b):
 ∃(I:Int->E->Prop)(μ:Int->E->Nat),I 1 m/\∀i b,I i b->f I μ i b:=by
 refine⟨λi c=>∃k:Nat,i=k/\1<=k/\k<=a/\Q k c,λi _=>(a -i).toNat,⟨1,rfl,ad _,d,g⟩,?_⟩
 rintro i b ⟨k,rfl,d,j,n⟩
 refine h k b _ _ d j n λe c o=>?_
 rw[km e l]
 exact⟨⟨k+1,rfl,V,e,o⟩,Cu e⟩
def Js{a:List bo}{b:List cZ}(hd:a∈oB)(c:Ty a t):WI 4 20 a b t:=IB c (Or.inr ⟨λ_ h=>IB (h.ty hd) (Or.inl ⟨h,rfl,rfl⟩),rfl,rfl⟩)
def JM.x{f:Nat}{a:List Value}{S:List Nat}{d P:Nat}{b:O}{m:E}{Q:Ex->Prop}(h:JM f a m S Q)(k:Rd d b P m):aN cq f a m (XP S d b m P Q):=
 h.mono λv n⟨l,e,g,i,j,c⟩=>⟨l,e,g,i,j,k.ext c,c.fz _⟩
section
variable{f:List Nat}{c P:Nat}{h d p j:O}{g:List bo}{e:List cZ}{b:E}{i:List Int}
def qP(hS:∀o∈f,o<b.size)(ag:c∈f)(o:GC c h P d p g e b)(hP:P+22<=10^16)(hv:IR c b j i)(ak:i.length<=1000)(ht:Ty g t):
 aN cq 164 [vp c 0,.agg #[O.v d,O.v p],O.v j,vi t] b (XP f c h b (P+22) λa=>WX g (pf e) i.length a/\a.n<=4):=by
 apply Jf (c,0)
 simp -zeta only[aE,aD]
 intro k y
 let⟨A,hl⟩:=dj (a:=k) (c:=y) rfl rfl
 have s1:k.size=b.size+1:=by simp[k]
 clear_value y
 have hr:=o.rd.lt
 have Y:Lw c [k.size,b.size] y:=λN hb=>⟨hl N hb,by simp at hb;omega⟩
 have ae:∀a∈k.size::f,a<y.size:=bQ hS A.size (hl _ aH)
 have z2:=A.size
 refine(Gc (a:=[c]) (m:=y) bN ((hv.le (bz _ _)).ext A) V t).mono λ_ U⟨r,ac,a,gl,ah,B⟩=>⟨Y.da (B.fz _),r,a,?_⟩
 have aa:IR c U r ac:=GI.done gl bN V
 have F:=(o.ext A).ext B
 have D:=Y.fz (B.fz [])
 have C:Fz [c] b U:=(A.trans B).fz _
 have al:=aa.len
 have z3:=B.size
 have jg:∀{Q:Nat}{M:E},GC c h Q d p g e M->Fz [c] b M->y.size<=M.size->Lw c [k.size,b.size] M->Q<=P+2->aN cq 204 [vp c 0,.agg #[O.v d,O.v p],vi t] M λW n=>eG [k.size,b.size] M n/\∃s u:Int,∃w:O,W=.agg #[vi s,vi u,O.v w]/\XP f c h b (P+22) (λa=>WX g (pf e) i.length a/\a.n<=4) (.agg #[vi s,vi u,O.v w]) (ai n k.size 0 [.i s,.i u,.s w]):=λR T h1 I hq=>
  XP.ret (Js o.gp.ds ht (k.size::f) c _ h d p _ (λa l=>oh (ae a l)) (by simp[ag]) R V) I T o.rd V (λa l=>⟨l.1 _,l.2⟩) V
 have Uj:∀{Q:Nat}{M:E},GC c h Q d p g e M->Fz [c] b M->Fz [c] U M->Lw c [k.size,b.size] M->Q<=P+2->0<r.len->aN cq 20 [vp c 0,vi (r.len:Int)] M λaj n=>eG [k.size,b.size] M n/\∃K:Int,aj=vi K/\(0:Int)<=K/\K<(r.len:Int)/\∃ad:Int,af n r.az (r.off+Int.toNat K*1)=some (vi ad)/\
  aN cq 163 [vi ad] n λW Z=>eG [k.size,b.size] n Z/\∃s u:Int,∃w:O,W=.agg #[vi s,vi u,O.v w]/\XP f c h b (P+22) (λa=>WX g (pf e) i.length a/\a.n<=4) (.agg #[vi s,vi u,O.v w]) (ai Z k.size 0 [.i s,.i u,.s w]):=λR T f3 I hq h0=>
  (bV R.rd V r.len).mono λ_ n⟨ab,a,k0,k1,r',H⟩=>by
   let⟨X,hy⟩:=cg ac ab.toNat;exact⟨I.da H,ab,a,k0,V,X,(dY.1 ((aa.le (fh (f3.trans H))).aO hy)).2,XP.ret ((lM (k.size::f) X n).x r') (I.fz H) (T.trans H) o.rd V (λa l=>l▸⟨.Uj (ah.1 X (aq hy)),by rw[Ex.RW];simp⟩) V⟩
 refine⟨λx=>?_,λx=>jg F C z3 D V⟩
 simp only[an]at x
 refine(bV F.rd V 6).mono λ_ m4⟨k1,a,_,_,r4,l⟩=>⟨D.da l,k1,a,λx=>Uj (F.to l r4) (C.trans l) l (D.fz l) V V,λx=>?_⟩
 intro m5
 have z:J m4 m5:=J.push _ _
 have G:=(F.to l r4).ext z
 have L:=(D.fz l).fz (z.fz [])
 exact(ph (v:=[]) (G.hd.le (bz _ _)) o.types (oL.le (bz _ _) G.hp) (oh o.gp.nA) (lU _ _ _ _ _ _) t).mono λ_ m6⟨N,a,q⟩=>⟨L.da (q.fz _),N,a,λx=>Uj (G.ext q) ((C.trans l).then (z.trans q)) (l.then (z.trans q)) (L.fz (q.fz [])) V V,λx=>jg (G.ext q) ((C.trans l).then (z.trans q)) (by have:=l.size;have:=z.size;have:=q.size;omega) (L.fz (q.fz [])) V⟩
def IV(Y:∀m∈f,m<b.size)(hd:bX b d g)(ht:dH g)(C:oL b p e)(hf:e.length<=1000)(X:1<=e.length)(t:Int):iU 199 [.agg #[O.v d,O.v p],vi t] b f λh=>(∀y∈h,∃(o:Nat)(q:cZ),y=o/\e[o]? =some q)/\h.length<=e.length:=by
 apply Bm;simp -zeta only[aE,aD];intro a E;have L:J b a:=J.push _ _;have A:∀m∈[b.size],m<a.size:=by simp[a]
 have W:GI f a E (.mk a.size 0 0 0) []:=GI.nil f a;have x2:J a E:=J.push _ _;clear_value E;clear_value a;have ah:=C.len;refine Qi (a:=e.length) V X (λu I M=>J a M/\∃h,GI f a M I h/\(∀y∈h,∃(o:Nat)(q:cZ),y=o/\e[o]? =some q)/\h.length<=u) ⟨x2,[],W,aH,aH⟩ ?_;rintro u I M ac μ ae hk ⟨l,h,x,D,ag⟩ T
 have K:=L.trans l;refine⟨λQ=>?_,λQ=>⟨I,h,rfl,x.cG (λ_ i=>i) L.size,⟨D,V⟩,K⟩⟩;simp only[an]at Q;let⟨q,R⟩:=cg e u;let⟨ad,z,w,U⟩:=C.aO R;have Z:=z.len;refine⟨V,V,_,K.af U,?_⟩;refine dx (n:=q.params.length) (Z▸z.fu) (λ_ _ N=>J M N) (J.aF _) ?_;rintro aa ok r I2 μ2 hj c S;have k:=K.trans c;refine⟨V,V,_,k.af w,λi=>⟨λ_=>?_,λ_=>S (by simp only[an]at i;omega) _ _ c⟩,λi=>⟨λ_=>?_,λ_=>T V _ _ ⟨l.trans c,h,x.ext c,D,V⟩⟩⟩
 .simp only[an]at i;let⟨y,hy⟩:=cg q.params aa;have P:=(z.ext k).aO hy;refine⟨V,V,_,k.af w,V,V,y,P,?_⟩;intro F;have j:J r F:=J.push _ _;have G:∀{s H:Nat}{ab:Value},af r s H=some ab->af F s H=af r s H:=λi=>by rw[j.af i,i]
  have B:b.size<r.size:=aJ (A _ aH) (l.trans c).size;refine⟨G P,G (k.af w),aK (j.same _ B) _,aK (j.same _ B) _,aK (j.same _ B) _,?_⟩;exact(ph (v:=[]) (hd.le (k.trans j).le) ht (oL.le (k.trans j).le C) hf (lU _ _ _ _ _ _) y).aI ((l.trans c).trans j) A λs m5 x5 _=>⟨_,rfl,S V _ _ ((c.trans j).trans x5)⟩
 .intro F;refine GI.ku (x.ext c) ((l.trans c).fz []) (λm j=>L.lt (Y m j)) V λP N B s _ _=>⟨J.nR ((l.trans c).aP _) s.ext A,T V _ _ ⟨s.ext,_,B,λH j=>?_,bN⟩⟩;rcases List.mem_append.1 j with j|j
  .exact D H j
  .simp at j;exact⟨u,q,j,R⟩
end
end
section
variable{f c:Int}{g:O}{e:List Int}
def Cg(c:Int):Nat:=30*4^c.toNat
def tF(h:f<=c):Cg f<=Cg c:=Nat.mul_le_mul_left _ (Nat.pow_le_pow_right bh V)
def PY(c:Int):30<=Cg c:=Nat.le_mul_of_pos_right _ (Nat.pow_pos bh)
def QQ(a:0<=f)(h:f+1<=c):4*Cg f<=Cg c:=by
 refine bH (pC ?_) (tF h);unfold Cg;rw[show(f+1).toNat=f.toNat+1 by omega,Nat.pow_succ];omega
def JL(b:List bo)(g:List cZ)(c:Int):Prop:=∀(S:List Nat)(a P:Nat)(d e p h:O)(m:E)(v:List Int)(t:Int),(∀f∈S,f<m.size)->a∈S->GC a d P e p b g m->P+Cg c<=10^16->IR a m h v->v.length+3*c.toNat<=1000->Ty b t->
 aN cq 160 [vp a 0,.agg #[O.v e,O.v p],O.v h,vi t,vi c] m (XP S a d m (P+Cg c) λf=>WX b (pf g) v.length f/\(c<=2->f.n<=4))
def XL(S:List Nat)(b:Nat)(c:O)(m:E)(P:Nat)(Q:List Ex->Prop)(v:Value)(a:E):Prop:=∃s l,v=O.v s/\fm (bG S a) s l/\Q l/\Rd b c P a/\Fz [b] m a
def Ka{S:List Nat}{M:E}(i:∀c∈S,c<M.size)(p:Nat):∀(l:List (Ex×O))(_:l.length<=1000)(_:∀x∈l,fm (bG S M) x.2 x.1.bF){a:List Ce}{n:Nat},a=l.flatMap (λx=>[.i x.1.op,.i x.1.bK,.s x.2])->n=l.length->
 GE S M (M.push (.cells (bD a) bJ)) (.mk M.size 0 n n) (l.map (·.1)):=by
 intro l q h a n j k
 refine Gr.lit (f:=l.map λx=>[.i x.1.op,.i x.1.bK,.s x.2]) AB.mono (ad _) i (by rw[j,List.flatMap_def]) (by simp[k]) ⟨aH,λc d=>?_,λr c o f e=>?_⟩
 .simp at d;obtain⟨_,_,_,rfl⟩:=d;rfl
 .simp only[bR,jo]at f e
  obtain⟨x,g,rfl⟩:=f
  obtain⟨y,b,rfl⟩:=e
  rw[g]at b;simp at b;subst b
  have:=h x (aq g)
  cases m:x.1 with
  |mk t n s=>rw[m]at this;exact AB.of this
section
variable{j L:List Nat}{h P:Nat}{k d p o:O}{i:List bo}{l:List cZ}{m:E}{v:List Int}
def Mj(z:0<=c)(ih:∀a,0<=a->a<=c->JL i l a)(G:∀s∈j,s<m.size)(I:h∈j)(s:GC h k P d p i l m)(hP:P+3*Cg c<=10^16)(hv:IR h m o v)(ah:v.length+3*c.toNat<=1000)(ae:c<=1000)(K:IR h m g e)(h3:e.length<=3)(aa:∀u∈e,Ty i u):
 aN cq 197 [vp h 0,.agg #[O.v d,O.v p],O.v o,O.v g,vi c] m (XL j h k m (P+3*Cg c) λb=>b.length=e.length/\∀f∈b,WX i (pf l) v.length f):=by
 apply Fv (h,0)
 simp -zeta only[aE,aD]
 intro a B
 have C:J m a:=J.push _ _
 have hr:=s.rd.lt
 have R:Lw h [m.size] a:=by intro c z;simp[a]at z⊢;omega
 have X:GE j a B (.mk a.size 0 0 0) []:=Gr.new _ (ad _) _ _ _
 have Q:J a B:=J.push _ _
 clear_value B
 clear_value a
 have D:=s.ext C
 have ag:=K.len
 refine dx (n:=e.length) V (λr w M=>∃b,GE j a M w b/\b.length=r/\(∀f∈b,WX i (pf l) v.length f)/\Rd h k (P+r*Cg c) M/\Fz [h] a M) ⟨[],X,rfl,aH,by simpa using D.rd.ext Q,Q.fz _⟩ ?_
 rintro r w M ac μ hk ⟨b,y,af,H,N,F⟩ ab
 have t:=(C.fz [h]).trans F
 refine dit (λq=>?_) λq=>?_
 .let⟨u,L⟩:=cg e r
  let⟨S,E⟩:=Nl (d:=(g.len:Int)) z V
  rw[aQ (b:=Int.tdiv c _) V V]
  have hm:=tF E
  have Z:r*Cg c+Cg c<=3*Cg c:=by rw[<-pD];exact dq _ V
  refine⟨V,V,u,(dY.1 ((K.le (fh t)).aO L)).2,V,?_⟩
  exact XP.ku (ih _ S E (w.az::j) h _ k d p o M v u (bQ G t.size y.bg.2) (by simp[I]) (s.to t N) V (hv.le (fh t)) V (aa u (aq L))) y F R D.rd I V λf ai M' A W r' U _ _=>
   ab V _ _ ⟨_,W,bN,λT Y=>by rcases List.mem_append.1 Y with q|q;exact H T q;simp at q;subst q;exact A.1,r'.mono (by rw[pD];omega),U⟩
 .have Z:r*Cg c<=3*Cg c:=dq _ V
  exact⟨w,b,rfl,y.done AB.mono (λf A=>C.lt (G f A)) bh V,⟨V,H⟩,N.mono V,t⟩
def yz{n F B:Nat}{q:E}{Q:Ex->Prop}{u bK:Int}(T:0<=c)(ih:∀a,0<=a->a<=c->JL i l a)(R:∀r∈n::j,r<m.size)(Y:h∈j)(r:GC h k P d p i l m)(K:P+3*Cg c<=10^16)(hv:IR h m o v)(ab:v.length+3*c.toNat<=1000)(U:c<=1000)(Z:IR h m g e)(I:e.length<=3)(aa:∀t∈e,Ty i t)
 (D:Lw h L m)(W:Fz [h] q m)(G:Rd h k F q)(X:q.size<=n)(N:∀a,a.length=e.length->(∀f∈a,WX i (pf l) v.length f)->Q (.mk u bK a))(M:P+3*Cg c<=B):
 aN cq 197 [vp h 0,.agg #[O.v d,O.v p],O.v o,O.v g,vi c] m λw b=>eG L m b/\∃s:O,w=O.v s/\
  aN cq 161 [vi u,vi bK,O.v s] b λw A=>eG L b A/\∃x y:Int,∃z:O,w=.agg #[vi x,vi y,O.v z]/\XP j h k q B Q (.agg #[vi x,vi y,O.v z]) (ai A n 0 [.i x,.i y,.s z]):=
 (Mj (j:=n::j) T ih R (by simp[Y]) r K hv ab U Z I aa).mono λ_ b⟨s,a,f,H,C,J,t⟩=>⟨D.da t,s,f,XP.ret (mB J H u bK) (D.fz t) (W.trans t) G X (λf V=>V▸N a C.1 C.2) M⟩
def I5(I:3<=c/\c<=100)(ih:∀e,0<=e->e<=c -1->JL i l e)(hS:∀r∈j,r<m.size)(ag:h∈j)(r:GC h k P d p i l m)(hP:P+23+3*Cg (c -1)<=10^16)(hv:IR h m o v)(aV:v.length+3*c.toNat<=1000){al:Int}(ht:Ty i al):
 aN cq 198 [vp h 0,.agg #[O.v d,O.v p],O.v o,vi al,vi c] m (XP j h k m (P+23+3*Cg (c -1)) (WX i (pf l) v.length)):=by
 apply BA (h,0)
 simp -zeta only[aE,aD]
 intro q E m3
 let⟨T,hl⟩:=dj (a:=q) (c:=E) rfl rfl
 have s1:q.size=m.size+1:=by simp[q]
 have U:J E m3:=J.push _ _
 have hr:=r.rd.lt
 have z2:=T.size
 have aC:ap (bG [h] m3) (.mk E.size 0 4 4) [1,1,3,4]:=ap.lit ay _ bN rfl rfl aH
 clear_value m3
 clear_value E
 have L2:Lw h [q.size,m.size] E:=λc I=>⟨hl c I,by simp at I;omega⟩
 have az:∀e∈q.size::j,e<E.size:=bQ hS T.size (hl _ aH)
 have c3:=(r.ext T).ext U
 have L3:=L2.fz (U.fz [])
 have W:=r.types
 refine(jR c3.rd V aC aH).mono λ_ m4⟨R,e,hk,r4,G⟩=>⟨L3.da G,R,e,?_⟩
 have X:=c3.to G r4
 have L4:=L3.fz G
 have aM:=X.hd.len
 have dl:=na i r.gp.ds
 have af:R∈[(1:Int),3,4]:=by simp at hk⊢;omega
 have ln:0<(bY i 1).length:=(QW i r.gp.ds).1
 refine⟨λg M=>g∈[(1:Int),3,4]/\g<=i.length/\0<(bY i g).length/\J m4 M,⟨λ_=>⟨bh,V,ln,J.aF _⟩,λab=>?_⟩,?_⟩
 .simp only[br]at ab
  refine(mz (X.hd.le (bz _ _)) W R).mono λ_ m5⟨c,e,I,u⟩=>⟨L4.da (u.fz _),c,e,λ_=>⟨bh,V,ln,u⟩,λf=>⟨af,V,P3 i r.gp.ds R af V λai N s=>?_,u⟩⟩
  rw[I.2 ⟨ai,by simp at af;omega,N,s⟩]at f;exact absurd f bh
 rintro g m5 ⟨an,aA,aJ,u⟩
 have Y:=X.ext u
 have L5:=L4.fz (u.fz [])
 have F5:Fz [h] m m5:=(((T.trans U).fz _).trans G).then u
 have k5:g∈[(0:Int),1,2,3,4]:=by simp at an⊢;omega
 have hf:=yy i r.gp.ds
 have aK:=hf.2.1 g k5
 refine(gQ (e:=[h]) (by simp;exact Y.rd.lt) (Y.hd.le (bz _ _)) W g).mono λ_ m6⟨Z,t,e,hc,ai,L⟩=>⟨L5.da (L.fz _),Z,e,?_⟩
 subst ai
 have c6:=Y.ext L
 have L6:=L5.fz (L.fz [])
 have F6:=F5.then L
 have aL:=hc.len
 have z3:=U.size;have z4:=G.size;have z5:=u.size;have z6:=L.size
 have am:∀e∈q.size::j,e<m6.size:=λe s=>by have:=az e s;omega
 refine XP.then (qP (f:=q.size::j) am (by simp[ag]) c6 V (hv.le (fh F6)) V ⟨by simp at an;omega,aA⟩) L6 λs0 e0 F h7 q7 r7 H=>⟨_,_,_,rfl,?_⟩
 intro m8
 have x8:J F m8:=J.push _ _
 have z7:=H.size
 have ac:∀e∈q.size::j,e<F.size:=λe s=>by have:=am e s;omega
 have g8:GE (q.size::j) F m8 (.mk F.size 0 1 1) [e0]:=Ka ac 0 [(e0,s0)] aH (by simpa using h7) rfl rfl
 clear_value m8
 have L7:=L6.fz H
 have F7:=F6.trans H
 refine dx (n:=(bY i g).length) V (λA aj M=>∃t,GE (q.size::j) F M aj (e0::t)/\t.length=A/\(∀(z:Nat)(e:Ex)(C:Int),t[z]? =some e->(bY i g)[z]? =some C->WX i (pf l) (v.length+(bZ i C).length) e)/\Rd h k (P+23+A*Cg (c -1)) M/\Fz [h] F M) ⟨[],g8,rfl,aH,by simpa using(r7.ext x8).mono V,x8.fz _⟩ ?_
 rintro A aj M aI μ hj ⟨t,aa,aT,N,K,D⟩ aF
 have w:=L7.fz D
 have aR:A*Cg (c -1)<=3*Cg (c -1):=dq _ V
 refine dit (λab=>?_) λab=>?_
 .let⟨C,hy⟩:=cg (bY i g) A
  let⟨aO,aP⟩:=hf.1 g k5 C (aq hy)
  have aW:=aa.bg
  have cM:=(c6.to H r7).to D K
  refine⟨V,V,C,(dY.1 ((hc.le (fh (H.trans D))).aO hy)).2,V,?_⟩
  refine(dC (e:=[h]) (by simp;exact K.lt) cM.hd W C).mono λ_ m9⟨f9,l9,e,h9,q9,f⟩=>⟨w.da (f.fz _),f9,e,w.cJ (Fz.aF _ _) (f.fz _) aH _,w.cJ (Fz.aF _ _) (f.fz _) aH _,?_⟩
  subst q9
  refine(eE (S:=[h]) (by simp;exact(K.ext f).lt) (hv.le (fh ((F7.trans D).then f))) h9 V).mono λ_ ao⟨ak,ah,e,au,ar,B⟩=>⟨(w.fz (f.fz [])).da (B.fz _),ak,e,w.cJ (f.fz _) (B.fz _) aH _,w.cJ (f.fz _) (B.fz _) aH _,?_⟩
  have av:IR h ao ak ah:=GI.done au (by simp;exact(K.ext f).lt) (by rw[<-ar];simp;omega)
  let⟨d0,d1⟩:=Nl (f:=c -2) (d:=(Z.len:Int)) V V
  rw[aQ (b:=c -2) V V,aQ (b:=Int.tdiv _ _) V V]
  have hm:=tF (f:=Int.tdiv (c -2) Z.len) (c:=c -1) V
  have aS:A*Cg (c -1)+Cg (c -1)<=3*Cg (c -1):=by rw[<-pD];exact dq _ V
  have fT:=(D.then f).then B
  have aB:ah.length=v.length+(bZ i C).length:=by rw[<-ar];simp
  refine XP.ku (ih _ d0 V (aj.az::q.size::j) h _ k d p ak ao ah al (bQ (λe s=>Pk (ac e s) fT.size) (ad _) (Pk f.size B.size)) (by simp[ag]) ((cM.ext f).ext B) V av V ht) ((aa.ext AB.mono f).ext AB.mono B) fT L7 r7 (by simp[ag]) bN λe aX M' s g' r' f' _ _=>
   aF V _ _ ⟨t++[e],g',bN,λz e' y' y Q=>?_,r'.mono (by rw[pD];omega),f'⟩
  rcases aU z t.length with ae|ae
  .rw[aw ae]at y;exact N z e' y' y Q
  .rw[aG ae]at y
   have:z -t.length=0:=by have:=ax y;simp at this;omega
   rw[this]at y;simp at y;subst y
   have:z=A:=V
   subst this
   rw[hy]at Q;simp at Q;subst Q
   rw[<-aB];exact s.1
 .exact XP.ret (mB K (aa.done AB.mono ac bh bN) 8 g) w (F7.trans D) r.rd V (λe s=>s▸.mt q7.1 V V N) V
end
end
section
section
variable{e L:List Nat}{c P:Nat}{g d p i:O}{f:List bo}{h:List cZ}{m:E}{v:List Int}
def I6{o:Int}(hb:3<=o/\o<=100)(ih:∀j,0<=j->j<=o -1->JL f h j)(hS:∀q∈e,q<m.size)(R:c∈e)(q:GC c g P d p f h m)(hP:P+24+3*Cg (o -1)<=10^16)(T:IR c m i v)(aF:v.length+3*o.toNat<=1000){ac:Int}(ht:Ty f ac):
 aN cq 200 [vp c 0,.agg #[O.v d,O.v p],O.v i,vi ac,vi o] m (XP e c g m (P+24+3*Cg (o -1)) (WX f (pf h) v.length)):=by
 apply BC (c,0)
 simp -zeta only[aE,aD]
 intro w aa
 let⟨W,N⟩:=dj (a:=w) (c:=aa) rfl rfl
 have s1:w.size=m.size+1:=by simp[w]
 clear_value aa
 have hr:=q.rd.lt
 have z2:=W.size
 have L2:Lw c [w.size,m.size] aa:=λo hb=>⟨N o hb,by simp at hb;omega⟩
 have ar:∀j∈w.size::e,j<aa.size:=bQ hS W.size (N _ aH)
 have c2:=q.ext W
 have ae:=q.types
 have aC:=q.hd.len
 have dl:=na f q.gp.ds
 have av:cQ (o -2)=o -2:=aQ V V
 have ak:cQ (o -1)=o -1:=aQ V V
 have nA:=q.gp.nA
 have ax:v.length+3*(o -2).toNat<=1000:=V
 have hm:=tF (f:=o -2) (c:=o -1) V
 have aA:P+24+Cg (o -2)<=10^16:=V
 refine⟨λM=>Rd c g (P+1) M/\Fz [c] aa M,?_,?_⟩
 .refine(bV c2.rd V 4).mono λ_ m3⟨x,j,_,_,r3,X⟩=>⟨L2.da X,x,j,λ_=>?_,λ_=>⟨r3,X⟩⟩
  refine Yo (a:=f.length+1) V V (λ_ M=>Rd c g (P+1) M/\Fz [c] aa M) ⟨r3,X⟩ ?_
  rintro Y M au μ aw ha ⟨Q,H⟩ ab
  have L:=c2.to H Q
  have LM:=L2.fz H
  refine⟨λz=>?_,λz=>⟨Q,H⟩⟩
  simp only[an]at z
  have ea:cQ ((Y:Int) -1)=Y -1:=aQ V V
  rw[ea]
  refine(mz (L.hd.le (bz _ _)) ae Y).mono λ_ I⟨b4,j,ao,K⟩=>⟨LM.da (K.fz _),b4,j,λh1=>?_,λ_=>ab V _ ⟨Q.ext K,H.then K⟩⟩
  obtain⟨aj,_,hq,az⟩:=ao.1 h1
  have U:f[((Y:Int) -1).toNat]? =some aj:=by rw[<-hq];congr 1;omega
  obtain⟨_,_,g0,g1,_⟩:=L.hd.aO U
  have D:=L.ext K
  have t:=LM.fz (K.fz [])
  have l:=H.then K
  refine⟨V,V,_,K.af (dY.1 g1).2,λ_=>?_,λ_=>ab V _ ⟨Q.ext K,l⟩⟩
  refine(ph (D.hd.le (bz _ _)) ae (oL.le (bz _ _) D.hp) V ((T.le (fh ((W.fz _).trans l))).le (bz _ _)) Y).mono λ_ s⟨b5,j,k⟩=>⟨t.da (k.fz _),b5,j,λ_=>?_,λ_=>ab V _ ⟨(Q.ext K).ext k,l.then k⟩⟩
  have F:=D.ext k
  have u:=t.fz (k.fz [])
  have f5:=l.then k
  have z5:=f5.size
  have ag:∀j∈w.size::e,j<s.size:=λj G=>by have:=ar j G;omega
  obtain⟨_,_,af,_,_⟩:=F.hd.aO U
  refine⟨V,V,_,(dY.1 af).2,?_⟩
  refine XP.then (qP (f:=w.size::e) ag (by simp[R]) F V (T.le (fh ((W.fz _).trans f5))) V ⟨V,V⟩) u λs6 e6 B h6 q6 r6 y=>⟨_,_,_,rfl,?_⟩
  have c6:=F.to y r6
  have A:=u.fz y
  obtain⟨_,_,am,_,_⟩:=c6.hd.aO U
  refine⟨by rw[(dY.1 am).2,(dY.1 af).2],u.cJ (Fz.aF _ _) y aH _,u.cJ (Fz.aF _ _) y aH _,u.cJ (Fz.aF _ _) y aH _,?_⟩
  rw[av]
  have F6:=(W.fz [c]).trans (f5.trans y)
  have ah:∀j∈w.size::e,j<B.size:=λj G=>by have:=ag j G;have:=y.size;omega
  refine XP.then (ih (o -2) V V (w.size::e) c (P+1+22) g d p i B v _ ah (by simp[R]) c6 V (T.le (fh F6)) ax ((yy f q.gp.ds).2.2 aj (aq U))) A λs7 e7 C h7 q7 r7 r=>⟨_,_,_,rfl,?_⟩
  intro Z
  have x8:J C Z:=J.push _ _
  have al:∀j∈w.size::e,j<C.size:=λj G=>by have:=ah j G;have:=r.size;omega
  have g8:GE (w.size::e) C Z (.mk C.size 0 2 2) [e6,e7]:=Ka al 0 [(e6,s6),(e7,s7)] aH (by simp;exact⟨fm.le (r.cR (by simp[R])) h6,h7⟩) rfl rfl
  clear_value Z
  exact XP.ret (mB (r7.ext x8) (g8.done AB.mono al bh aH) 11 0) ((A.fz r).fz (x8.fz [])) ((F6.trans r).then x8) q.rd V (λj G=>G▸.dU bh (λz=>V) bh (by simp[Ar]) (by simp;exact⟨q6.1,q7.1⟩)) V
 rintro M ⟨Q,H⟩
 have L:=c2.to H Q
 have LM:=L2.fz H
 have zM:=H.size
 have FM:=(W.fz [c]).trans H
 refine(gQ (e:=[c]) (by simp;exact Q.lt) (L.hd.le (bz _ _)) ae ac).mono λ_ m3⟨cs,al,j,hc,aj,x3⟩=>⟨LM.da (x3.fz _),cs,j,?_⟩
 subst aj
 have Z:=L.ext x3
 have X:=LM.fz (x3.fz [])
 have K:=FM.then x3
 have z3:=x3.size
 have aB:=hc.len
 have ag:∀{M:E},m3.size<=M.size->∀j∈w.size::e,j<M.size:=λz j G=>by have:=ar j G;omega
 refine⟨λz=>?_,λz=>⟨λz=>XP.ret (qP (f:=w.size::e) (ag (ad _)) (by simp[R]) Z V (T.le (fh K)) V ht) X K q.rd V (λj G=>G.1) V,λz=>?_⟩⟩
 .simp only[an]at z
  refine(bV Z.rd V cs.len).mono λ_ I⟨x,j,k0,k1,U,l⟩=>⟨X.da l,x,j,k0,V,?_⟩
  let⟨ab,hy⟩:=cg (bY f ac) x.toNat
  have af:=(yy f q.gp.ds).1 ac (Ty.WQ q.gp.ds ht) ab (aq hy)
  have D:=Z.to l U
  have t:=X.fz l
  refine⟨ab,(dY.1 ((hc.le (fh l)).aO hy)).2,?_⟩
  refine(dC (e:=[c]) (by simp;exact U.lt) D.hd ae ab).mono λ_ s⟨f5,l5,j,h5,q5,k⟩=>⟨t.da (k.fz _),f5,j,t.cJ (Fz.aF _ _) (k.fz _) aH _,t.cJ (Fz.aF _ _) (k.fz _) aH _,?_⟩
  subst q5
  rw[ak]
  exact yz V ih (ag (Pk l.size k.size)) R (D.ext k) V (T.le (fh ((K.trans l).then k))) V V h5 af.1 af.2 (t.fz (k.fz [])) ((K.trans l).then k) q.rd V (λal hn N=>.dU bh (λz=>V) bh (SW q.gp.ds (Ty.WQ q.gp.ds ht) (aq hy) hn) N) V
 .refine(bV Z.rd V 3).mono λ_ I⟨x,j,k0,k1,U,l⟩=>⟨X.da l,x,j,λ_=>?_,λ_=>?_⟩
  .have D:=Z.to l U
   have t:=X.fz l
   have z4:=l.size;have aw:=U.lt
   intro s
   have k:J I s:=J.push _ _
   have ab:ap (bG [c] s) (.mk I.size 0 1 1) [0]:=ap.lit ay _ bN rfl rfl aH
   clear_value s
   have z5:=k.size
   rw[ak]
   exact yz V ih (ag V) R (D.ext k) V (T.le (fh ((K.trans l).then k))) V V ab aH (by simp[q.gp.ty]) (t.fz (k.fz [])) ((K.trans l).then k) q.rd V (λal hn N=>.dU bh (λz=>V) bh (by rw[hn];simp[Ar]) N) V
  .have D:=Z.to l U
   have t:=X.fz l
   have F4:=K.trans l
   have z4:=l.size;have aw:=U.lt
   have hO:∀{az M:E}{Y t0:Nat},GC c g (P+3) d p f h M->Fz [c] I M->ap (bG [c] M) (.mk t0 0 2 2) [0,0]->∀op:Int,op∈[(1:Int),2,3,4]->aN cq 197 [vp c 0,.agg #[O.v d,O.v p],O.v i,O.v (.mk t0 0 2 2),vi (o -1)] M λao M1=>eG [w.size,m.size] M M1/\∃au:O,ao=O.v au/\
    aN cq 161 [vi op,vi 0,O.v au] M1 λao M2=>eG [w.size,m.size] M1 M2/\∃r0 r1:Int,∃r2:O,ao=.agg #[vi r0,vi r1,O.v r2]/\XP e c g m (P+24+3*Cg (o -1)) (WX f (pf h) v.length) (.agg #[vi r0,vi r1,O.v r2]) (ai M2 w.size 0 [.i r0,.i r1,.s r2]):=λL af z op ab=>
    yz V ih (ag (oh af.size)) R L V (T.le (fh (F4.trans af))) V V z aH (by simp[q.gp.ty]) (t.fz af) (F4.trans af) q.rd V (λal hn N=>.dU (by simp at ab;omega) (λz=>by simp at ab;omega) (by simp at ab;omega) (by rw[hn];simp at ab;rcases ab with j|j|j|j<;>subst j<;>simp[Ar]) N) V
   rw[ak]
   refine⟨?_,?_⟩
   .intro s
    have k:J I s:=J.push _ _
    have ah:ap (bG [c] s) (.mk I.size 0 4 4) [1,2,3,4]:=ap.lit ay _ bN rfl rfl aH
    clear_value s
    have F:=D.ext k
    have u:=t.fz (k.fz [])
    have z5:=k.size
    refine⟨t.cJ (Fz.aF _ _) (k.fz _) aH _,t.cJ (Fz.aF _ _) (k.fz _) aH _,?_,?_⟩
    .refine(jR F.rd V ah aH).mono λ_ B⟨x,j,hk,r6,y⟩=>⟨u.da y,x,j,u.cJ (Fz.aF _ _) y aH _,u.cJ (Fz.aF _ _) y aH _,?_⟩
     intro C
     have x7:J B C:=J.push _ _
     have am:ap (bG [c] C) (.mk B.size 0 2 2) [0,0]:=ap.lit ay _ (by simp;exact r6.lt) rfl rfl aH
     clear_value C
     have A:=u.fz y
     exact⟨A.cJ (Fz.aF _ _) (x7.fz _) aH _,A.cJ (Fz.aF _ _) (x7.fz _) aH _,hO (az:=C) (Y:=0) ((F.to y r6).ext x7) (((k.fz _).trans y).then x7) am x hk⟩
    .intro B
     have y:J s B:=J.push _ _
     have am:ap (bG [c] B) (.mk s.size 0 2 2) [0,0]:=ap.lit ay _ bN rfl rfl aH
     clear_value B
     have A:=u.fz (y.fz [])
     refine⟨u.cJ (Fz.aF _ _) (y.fz _) aH _,u.cJ (Fz.aF _ _) (y.fz _) aH _,?_⟩
     refine(jR (F.ext y).rd V (ah.le (fh (y.fz _))) aH).mono λ_ C⟨x,j,hk,r7,r⟩=>⟨A.da r,x,j,A.cJ (Fz.aF _ _) r aH _,A.cJ (Fz.aF _ _) r aH _,hO (az:=C) (Y:=0) ((F.ext y).to r r7) (((k.trans y).fz _).trans r) (am.le (fh r)) x hk⟩
   .intro s
    have k:J I s:=J.push _ _
    have ah:ap (bG [c] s) (.mk I.size 0 2 2) [0,0]:=ap.lit ay _ bN rfl rfl aH
    clear_value s
    have F:=D.ext k
    have u:=t.fz (k.fz [])
    have z5:=k.size
    refine⟨t.cJ (Fz.aF _ _) (k.fz _) aH _,t.cJ (Fz.aF _ _) (k.fz _) aH _,?_⟩
    intro B
    have y:J s B:=J.push _ _
    have am:ap (bG [c] B) (.mk s.size 0 4 4) [1,2,3,4]:=ap.lit ay _ bN rfl rfl aH
    clear_value B
    have A:=u.fz (y.fz [])
    refine⟨u.cJ (Fz.aF _ _) (y.fz _) aH _,u.cJ (Fz.aF _ _) (y.fz _) aH _,?_⟩
    refine(jR (F.ext y).rd V am aH).mono λ_ C⟨x,j,hk,r7,r⟩=>⟨A.da r,x,j,A.cJ (Fz.aF _ _) r aH _,A.cJ (Fz.aF _ _) r aH _,hO (az:=C) (Y:=0) ((F.ext y).to r r7) (((k.trans y).fz _).trans r) ((ah.le (fh (y.fz _))).le (fh r)) x hk⟩
end
end
section
variable{c:Int}
def WU{l:List bo}{q:List cZ}(hb:0<=c/\c<=100)(ih:∀d,0<=d->d<=c -1->JL l q d):JL l q c:=by
 intro r e P F R U ae v w z hS y j hP K aJ I;apply La (e,0);simp -zeta only[aE,aD];intro h aa;let⟨x2,hl⟩:=dj (a:=h) (c:=aa) rfl rfl;have s1:h.size=v.size+1:=by simp[h]
 clear_value aa;have hr:=j.rd.lt;have z2:=x2.size;have L2:Lw e [h.size,v.size] aa:=λc hb=>⟨hl c hb,by simp at hb;omega⟩;have H:∀{d:E},aa.size<=d.size->∀f∈h.size::r,f<d.size:=λG f he=>by have:=bQ hS x2.size (hl h.size aH) f he;omega
 have c2:=j.ext x2;have am:=j.types;have nA:=j.gp.nA;have gS:=j.gp.gS;have aF:=PY c;have au:∀{al:Nat}{d:E},GC e F al R U l q d->Fz [e] aa d->al+22<=P+Cg c->aN cq 164 [vp e 0,.agg #[O.v R,O.v U],O.v ae,vi z] d λad M2=>eG [h.size,v.size] d M2/\∃W X:Int,∃Y:O,ad=.agg #[vi W,vi X,O.v Y]/\XP r e F v (P+Cg c) (λf=>WX l (pf q) w.length f/\(c<=2->f.n<=4)) (.agg #[vi W,vi X,O.v Y]) (ai M2 h.size 0 [.i W,.i X,.s Y]):=λcM g hq=>
  XP.ret (qP (f:=h.size::r) (H g.size) (by simp[y]) cM V (K.le (fh ((x2.fz _).trans g))) V I) (L2.fz g) ((x2.fz _).trans g) j.rd V (λf he=>⟨he.1,λ_=>he.2⟩) hq
 refine⟨λ_=>au c2 (Fz.aF _ _) V,λh3=>?_⟩;simp only[br]at h3;have aG:=QQ (f:=c -1) (c:=c) V V;have aI:=QQ (f:=c -2) (c:=c -1) V V;have aC:=PY (c -2);have ao:cQ (c -1)=c -1:=aQ V V;have hQ:∀f,WX l (pf q) w.length f->WX l (pf q) w.length f/\(c<=2->f.n<=4):=λf G=>⟨G,λG=>V⟩;refine(bV c2.rd V 12).mono λ_ m3⟨ab,f,k0,k1,r3,f3⟩=>⟨L2.da f3,ab,f,?_⟩;have u:=c2.to f3 r3;have N:=L2.fz f3;have t:=(x2.fz [e]).trans f3;have z3:=f3.size;have az:=H z3;have av:∀{d:E},J m3 d->aN cq 200 [vp e 0,.agg #[O.v R,O.v U],O.v ae,vi z,vi c] d λad M2=>eG [h.size,v.size] d M2/\∃W X:Int,∃Y:O,ad=.agg #[vi W,vi X,O.v Y]/\XP r e F v (P+Cg c) (λf=>WX l (pf q) w.length f/\(c<=2->f.n<=4)) (.agg #[vi W,vi X,O.v Y]) (ai M2 h.size 0 [.i W,.i X,.s Y]):=λB=>
  XP.ret (I6 (e:=h.size::r) ⟨V,V⟩ ih (H (oh B.size)) (by simp[y]) (u.ext B) V (K.le (fh (t.then B))) V I) (N.fz (B.fz [])) (t.then B) j.rd V hQ V
 refine⟨λ_=>au u f3 V,λ_=>⟨λ_=>?_,λ_=>⟨λ_=>?_,λ_=>⟨λ_=>XP.ret (I5 (j:=h.size::r) ⟨V,V⟩ ih az (by simp[y]) u V (K.le (fh t)) V I) N t j.rd V hQ V,λ_=>⟨λ_=>?_,λ_=>av (J.aF _)⟩⟩⟩⟩⟩
 .refine(KR r3 V u.hd am u.hp V (K.le (fh t))).mono λ_ k⟨A,f,hu,r4,f4⟩=>⟨N.da f4,A,f,bh,bh,?_⟩;have Q:=u.to f4 r4;have p:=N.fz f4;have F4:=t.trans f4;have z4:=f4.size;have aA:Ty l A:=by have:=na l j.gp.ds;unfold Ty;omega
  let⟨d0,d1⟩:=Nl (f:=c) (d:=2) V V;have d2:Int.tdiv c 2<=c -1:=by rw[pw V];omega
  have d3:Int.tdiv c 2+Int.tdiv c 2<=c:=by rw[pw V];omega
  rw[aQ (b:=Int.tdiv c 2) V V];generalize Int.tdiv c 2=h2 at*;have hm:=tF d2;have C:∀{d M':E},Fz [e] k d->Fz [e] d M'->af M' v.size 0=af d v.size 0:=λg f'=>p.cJ g f' aH _;have D:∀{d M':E},Fz [e] k d->Fz [e] d M'->af M' v.size 1=af d v.size 1:=λg f'=>p.cJ g f' aH _;have ag:=λ(d:E)(cM:GC e F (P+2) R U l q d)(g:Fz [e] k d)=>ih h2 d0 d2 (h.size::r) e (P+2) F R U ae d w A (H (oh g.size)) (by simp[y]) cM V (K.le (fh (F4.trans g))) V aA;have ah:=λ(d:E)(ac:O)(cM:GC e F (P+2+Cg h2) R U l q d)(g:Fz [e] k d)(hw:IR e d ac (w++[A]))=>ih h2 d0 d2 (h.size::r) e (P+2+Cg h2) F R U ac d (w++[A]) z (H (oh g.size)) (by simp[y]) cM V hw bN I;have aj:=λ(d:E)(ac:O)(g:Fz [e] k d)(hR:e<d.size)(G:IR e d ac [A])=>eE (S:=[e]) (by simp;exact hR) (K.le (fh (F4.trans g))) G bN;have ak:=λ(M0 d:E)(Z e2:Ex)(t1 t2:O)(g:Fz [e] k d)(hR:Rd e F (P+2+Cg h2+Cg h2) d)(h1:fm (bG (h.size::r) d) t1 Z.bF)(aw:fm (bG (h.size::r) d) t2 e2.bF)(w1:WX l (pf q) w.length Z)(w2:WX l (pf q) (w++[A]).length e2)=>
   have B:=J.push d (.cells (bD [.i Z.op,.i Z.bK,.s t1,.i e2.op,.i e2.bK,.s t2]) bJ)
   have ar:=H (d:=d) (oh g.size)
   XP.ret (S:=r) (Q':=λf=>WX l (pf q) w.length f/\(c<=2->f.n<=4)) (mB (hR.ext B) ((Ka ar 0 [(Z,t1),(e2,t2)] aH (by simp;exact⟨h1,aw⟩) rfl rfl).done AB.mono ar bh aH) 13 0) ((p.fz g).fz (B.fz [])) ((F4.trans g).then B) j.rd V (λf he=>he▸hQ _ (.lt w1 (by simpa using w2))) (i:=P+Cg c) V
  refine⟨?_,?_⟩
  .refine XP.then (ag k Q (Fz.aF _ _)) p λs5 T L h5 q5 r5 m=>⟨_,_,_,rfl,C (Fz.aF _ _) m,D (Fz.aF _ _) m,?_⟩;intro m6;have s:J L m6:=J.push _ _;have aB:ap (bG [e] m6) (.mk L.size 0 1 1) [A]:=ap.lit ay _ (by simp;exact r5.lt) rfl rfl aH;clear_value m6;have o:=m.then s;refine⟨C m (s.fz _),D m (s.fz _),C m (s.fz _),D m (s.fz _),?_⟩;refine(aj m6 _ o (r5.ext s).lt aB).mono λ_ m7⟨s7,l7,f,g7,q7,i⟩=>⟨(p.fz o).da (i.fz _),s7,f,C o (i.fz _),D o (i.fz _),?_⟩;subst q7;refine XP.then (ah m7 s7 (((Q.to m r5).ext s).ext i) (o.then i) (GI.done g7 (by simp;exact(r5.ext s).lt) bN)) ((p.fz o).fz (i.fz [])) λs8 e8 m8 h8 q8 r8 f8=>⟨_,_,_,rfl,?_⟩;exact ak m8 m8 T e8 s5 s8 ((o.then i).trans f8) r8 (fm.le (((s.trans i).fz [e]).trans f8|>.cR (by simp[y])) h5) h8 q5.1 q8.1
  .intro L;have s:J k L:=J.push _ _;have aB:ap (bG [e] L) (.mk k.size 0 1 1) [A]:=ap.lit ay _ (by simp;exact r4.lt) rfl rfl aH;clear_value L;refine⟨C (Fz.aF _ _) (s.fz _),D (Fz.aF _ _) (s.fz _),C (Fz.aF _ _) (s.fz _),D (Fz.aF _ _) (s.fz _),?_⟩;refine XP.then (ag L (Q.ext s) (s.fz _)) (p.fz (s.fz [])) λs6 e6 m6 h6 q6 r6 o=>⟨_,_,_,rfl,C (s.fz _) o,D (s.fz _) o,?_⟩;have T:=(s.fz [e]).trans o;refine(aj m6 _ T r6.lt (aB.le (fh o))).mono λ_ m7⟨s7,l7,f,g7,q7,i⟩=>⟨(p.fz T).da (i.fz _),s7,f,C T (i.fz _),D T (i.fz _),?_⟩;subst q7;refine XP.then (ah m7 s7 (((Q.ext s).to o r6).ext i) (T.then i) (GI.done g7 (by simp;exact r6.lt) bN)) ((p.fz T).fz (i.fz [])) λs8 e8 m8 h8 q8 r8 f8=>⟨_,_,_,rfl,?_⟩;exact ak m8 m8 e6 e8 s6 s8 ((T.then i).trans f8) r8 (fm.le ((i.fz [e]).trans f8|>.cR (by simp[y])) h6) h8 q6.1 q8.1
 .intro k;have i:J m3 k:=J.push _ _;have o:ap (bG [e] k) (.mk m3.size 0 3 3) [0,z,z]:=ap.lit ay _ (by simp;exact r3.lt) rfl rfl aH;clear_value k;rw[ao];exact yz V ih (H (oh i.size)) y (u.ext i) V (K.le (fh (t.then i))) V V o aH (by simp;exact⟨j.gp.ty bh bh,I⟩) (N.fz (i.fz [])) (t.then i) j.rd V (λs hl hw=>hQ _ (.dU bh (λ_=>by simpa using hl) bh (by simp[Ar]) hw)) V
 .refine(IV (f:=[e]) (by simp;exact r3.lt) (u.hd.le (bz _ _)) am (oL.le (bz _ _) u.hp) V gS z).mono λ_ k⟨C,s,f,gl,hq,i⟩=>⟨N.da (i.fz _),C,f,λG=>?_,λ_=>av i⟩;simp only[an]at G;have ac:IR e k C s:=GI.done gl (by simp;exact r3.lt) V;have ar:=ac.len;have Q:=u.ext i;have p:=N.fz (i.fz []);refine(bV Q.rd V C.len).mono λ_ L⟨ab,f,k0,k1,r5,m⟩=>⟨p.da m,ab,f,k0,V,?_⟩;let⟨aj,hy⟩:=cg s ab.toNat;obtain⟨fi,ah,rfl,o⟩:=hq.1 aj (aq hy);have A:=Q.to m r5;let⟨ps,ag,e0,Z⟩:=A.hp.aO o;have ak:=ax o;have aw:=A.hp.len;have T:=tH _ (j.gp.de ah (aq o));have D:=(i.fz [e]).trans m;refine⟨_,(dY.1 ((ac.le (fh m)).aO hy)).2,V,V,ps,(dY.1 e0).2,?_⟩;rw[ao];exact yz V ih (H (oh D.size)) y A V (K.le (fh (t.trans D))) V V ag T.1 (λz I=>j.gp.ty (T.2.1 z I).1 (T.2.1 z I).2) (p.fz m) (t.trans D) j.rd V (λs hl hw=>hQ _ (.dU bh (λG=>V) bh (Jz (by rw[MZ o,hl])) hw)) V
def Qm{b:List bo}{d:List cZ}:∀(n:Nat)(c:Int),c.toNat=n->0<=c/\c<=100->JL b d c:=λn=>by
 induction n using Nat.strongRecOn with
 |ind n f=>exactλc i h=>WU h λa e g=>f a.toNat V a rfl ⟨e,V⟩
section
variable{S:List Nat}{e P:Nat}{h d p j:O}{g:List bo}{i:List cZ}{f:E}{v:List Int}
def XI(g:List bo)(b:List Nat)(a:Nat)(e:Ex):Prop:=WX g b a e/\e.n<=30
def K4(hS:∀y∈S,y<f.size)(ab:e∈S)(y:GC e h P d p g i f)(hP:P+20*Cg 18<=10^16)(hv:IR e f j v)(ak:v.length<=100){T:Int}(ht:Ty g T)(s:0<=c/\c<=18):
 aN cq 121 [vp e 0,.agg #[O.v d,O.v p],O.v j,vi T,vi c] f (XP S e h f (P+20*Cg 18) (XI g (pf i) v.length)):=by
 apply Dv (e,0)
 simp -zeta only[aE,aD]
 intro t B
 let⟨w,hl⟩:=dj (a:=t) (c:=B) rfl rfl
 have s1:t.size=f.size+1:=by simp[t]
 clear_value B
 have hr:=y.rd.lt
 have z2:=w.size
 have N:Lw e [t.size,f.size] B:=λc s=>⟨hl c s,by simp at s;omega⟩
 have aa:∀{M:E},B.size<=M.size->∀k∈t.size::S,k<M.size:=λR k Z=>by have:=bQ hS w.size (hl t.size aH) k Z;omega
 have W:=y.ext w
 have hm:=tF s.2
 refine XP.then (Qm _ c rfl ⟨s.1,V⟩ (t.size::S) e P h d p j B v T (aa (ad _)) (by simp[ab]) W V (hv.le (fh (w.fz _))) V ht) N λs3 F l h3 q3 r3 f3=>⟨_,_,_,rfl,?_⟩
 intro m4 C
 have U:J l C:=(J.push l _).ai (ad _) _ _
 have B5:cz C l.size bJ [.i F.op,.i F.bK,.s s3]:=cz.ai (m:=m4) (o:=0) (r:=[.i F.op,.i F.bK,.s s3]) (cz.push l _ _)
 have s5:C.size=l.size+1:=by simp[C,m4,aA]
 clear_value C
 have z3:=f3.size
 have ae:∀k∈l.size::t.size::S,k<C.size:=bQ (aa z3) U.size V
 refine⟨λq M=>∃(I:O)(k:Ex)(u:Nat),0<=q/\q<=18/\q.toNat<=u/\u<=18/\cz M l.size bJ [.i k.op,.i k.bK,.s I]/\fm (bG (l.size::t.size::S) M) I k.bF/\WX g (pf i) v.length k/\(q<=2->k.n<=4)/\Rd e h (P+(19 -u)*Cg 18) M/\Fz [e] B M/\C.size<=M.size,λq _=>q.toNat,⟨s3,F,18,s.1,s.2,V,ad _,B5,fm.le (U.bG λc s=>(List.mem_cons.1 s).elim (λR=>Or.inr V) Or.inl) h3,q3.1,q3.2,(r3.ext U).mono V,(f3.then U),ad _⟩,?_⟩
 rintro q M ⟨I,k,u,b0,b1,bk,al,K,hs,hw,hn,rM,X,zM⟩
 have FM:=(w.fz [e]).trans X
 refine⟨_,K.cJ 0,_,K.cJ 1,_,K.cJ 2,?_⟩
 refine(zU (fm.le (bz _ _) hs)).mono λ_ H⟨n6,e6,q6,D⟩=>⟨(N.fz X).da (D.fz _),n6,e6,?_⟩
 have L:=K.ext D
 have r6:=rM.ext D
 have z:=X.then D
 have z6:=D.size
 have kc:(19 -u)*Cg 18+Cg 18<=20*Cg 18:=by rw[<-pD];exact dq _ V
 have bB:k.n<=30->∃v0:Int,af H l.size 0=some (vi v0)/\∃v1:Int,af H l.size 1=some (vi v1)/\∃v2:O,af H l.size 2=some (O.v v2)/\XP S e h f (P+20*Cg 18) (XI g (pf i) v.length) (.agg #[vi v0,vi v1,O.v v2]) (ai H t.size 0 [.i v0,.i v1,.s v2]):=λac=>
  ⟨_,L.cJ 0,_,L.cJ 1,_,L.cJ 2,I,k,rfl,fm.le (cb aH λy Y=>ah _ (ah _ Y)) (fm.le (D.cR _) hs),⟨hw,ac⟩,y.rd.ai (r6.mono V) ((w.fz _).trans z) V 0 _,((w.fz _).trans z).ai (Or.inr V) _ _⟩
 refine⟨λR=>⟨λA=>?_,λA=>bB (by simp only[br]at A;have:=hn V;omega)⟩,λR=>bB (by simp only[br]at R;omega)⟩
 simp only[an]at A
 let⟨d0,d1⟩:=Nl (f:=q) (d:=2) b0 V
 have d2:Int.tdiv q 2<=q -1:=by rw[pw b0];omega
 rw[aQ (b:=Int.tdiv q 2) V V]
 generalize Int.tdiv q 2=A at*
 have ag:=tF (f:=A) (c:=18) V
 refine⟨bh,?_⟩
 refine XP.then (Qm _ A rfl ⟨d0,V⟩ (l.size::t.size::S) e _ h d p j H v T (λk Z=>oh (ae k Z)) (by simp[ab]) (W.to z r6) V (hv.le (fh ((w.fz _).trans z))) V ht) (N.fz z) λs7 G m7 h7 q7 r7 Q=>⟨_,_,_,rfl,?_⟩
 have aj:e≠l.size:=V
 have B7:cz m7 l.size bJ [.i k.op,.i k.bK,.s I]:=L.congr (Q.same _ V bN)
 refine⟨B7.fg aH,?_⟩
 intro m8
 have B8:cz m8 l.size bJ [.i G.op,.i G.bK,.s s7]:=cz.ai (m:=m7) (o:=0) (r:=[.i G.op,.i G.bK,.s s7]) B7
 have f8:Fz [e] B m8:=(z.trans Q).ai (Or.inr V) _ _
 have s8:m8.size=m7.size:=aA _ _ _ _
 have z7:=Q.size
 refine⟨λc s=>bd _ _ _ _ (oh ((N c s).1)),⟨s7,G,u -1,d0,V,V,V,B8,fm.le (cb aH λy Y=>Y) h7,q7.1,q7.2,?_,f8,V⟩,by show A.toNat<q.toNat;omega⟩
 refine W.rd.ai (r7.mono ?_) (z.trans Q) V 0 _
 rw[show 19 -(u -1)=19 -u+1 by omega,pD];omega
end
end
section
variable{n:Int}
structure HX(S:List Nat)(ds:List bo)(nf:List Nat)(a:Nat)(M:E)(s:O)(e:Ex):Prop where
 sl:fm (bG S M) s e.bF
 wx:WX ds nf a e
structure Rs(rb:Nat)(bs:O)(m:E)(Q:Nat)(M:E):Prop where
 f:Fz [rb] m M
 r:Rd rb bs Q M
section
variable{S L:List Nat}{f Q t x k a:Nat}{i:List Nat}{j d p s w:O}{h:List bo}{u:List cZ}{q M c:E}{g:Ex}{v:List Int}{K:Int->Int->O->E->Prop}
def HX.fz(b:HX S h i a M s g)(e:f∈S)(d:Fz [f] M c):HX S h i a c s g:=⟨fm.le (d.cR (by simp[e])) b.sl,b.wx⟩
def HX.ext(b:HX S h i a M s g)(x:J M c):HX S h i a c s g:=⟨fm.le (x.cR _) b.sl,b.wx⟩
def HX.fW(b:HX S h i a M s g)(x:J M c)(f:M.size<=k):HX (k::S) h i a c s g:=⟨fm.le (x.bG λe d=>(List.mem_cons.1 d).elim (λb=>Or.inr V) Or.inl) b.sl,b.wx⟩
def HX.gE(b:HX (k::S) h i a M s g):HX S h i a M s g:=⟨fm.le (gN M λ_=>ah _) b.sl,b.wx⟩
def HX.put(b:HX S h i a M s g)(c:k∈S)(o:Nat)(l:List Ce):HX S h i a (ai M k o l) s g:=⟨fm.le (cb c λ_ b=>b) b.sl,b.wx⟩
def Rs.ext(h:Rs f j q Q M)(x:J M c):Rs f j q Q c:=⟨h.f.then x,h.r.ext x⟩
def Rs.to(h:Rs f j q Q M)(a:Fz [f] M c)(r:Rd f j t c):Rs f j q t c:=⟨h.f.trans a,r⟩
def Rs.put(h:Rs f j q Q M)(b:Rd f j x q)(a:q.size<=k)(o:Nat)(l:List Ce):Rs f j q Q (ai M k o l):=⟨h.f.ai (Or.inr a) _ _,b.ai h.r h.f a o l⟩
def lw(h:f<q.size)(a:∀b∈L,q.size<=b/\b<M.size):Lw f L M:=λb c=>⟨(a b c).2,oh ((a b c).1)⟩
def kg(a:Fz [f] M c)(h:f<q.size)(b:q.size<=k/\k<M.size)(o:Nat):af c k o=af M k o:=aK (a.same k b.2 bN) o
def iN{d c:E}{z a:List Ce}{t:Nat}(f:d=M.push (.cells (bD z) t))(g:c=ai d M.size 0 a)(i:a.length=z.length):J M c/\cz c M.size t a/\c.size=M.size+1:=by
 subst f g;refine⟨(J.push M _).ai (ad _) _ _,?_,by rw[aA];simp⟩;have h:=cz.ai (m:=M.push (.cells (bD z) t)) (b:=M.size) (e:=t) (l:=z) (o:=0) (r:=a) (cz.push _ _ _);rwa[show iO z 0 a=a from by
  have h:=AQ [] a z V;rw[tf V]at h;simpa using h]at h
def XP.kk{e:Nat}{b:List Value}{T:Ex->Prop}(n:aN cq e b M (XP S f j M Q T))(o:Lw f L M)(p:∀s g c,fm (bG S c) s g.bF->T g->Rd f j Q c->Fz [f] M c->K g.op g.bK s c):aN cq e b M λv c=>eG L M c/\∃h i:Int,∃k:O,v=.agg #[vi h,vi i,O.v k]/\K h i k c:=
 XP.then n o λs g c a l m d=>⟨_,_,_,rfl,p s g c a l m d⟩
def vH(S:List Nat)(h:List bo)(i:List Nat)(m:Lw f L M)(p:0<=n/\n<(a:Int))(o:∀s c,HX S h i a c s (.mk 12 n [])->J M c->K 12 n s c):aN cq 163 [vi n] M λv c=>eG L M c/\∃b d:Int,∃e:O,v=.agg #[vi b,vi d,O.v e]/\K b d e c:=
 (lM S n M).mono λv c⟨s,g,j,k,l,x⟩=>⟨m.da (x.fz _),by subst l;exact⟨_,_,_,j,o s c ⟨k,.Uj p⟩ x⟩⟩
def Il(S:List Nat)(h:List bo)(i:List Nat)(a:Nat)(m:Lw f L M)(p: -999<=n/\n<=999)(o:∀s c,HX S h i a c s (.mk 0 n [])->J M c->K 0 n s c):aN cq 116 [vi n] M λv c=>eG L M c/\∃b d:Int,∃e:O,v=.agg #[vi b,vi d,O.v e]/\K b d e c:=
 (zH S n M).mono λv c⟨s,g,j,k,l,x⟩=>⟨m.da (x.fz _),by subst l;exact⟨_,_,_,j,o s c ⟨k,.int p⟩ x⟩⟩
def od(l:List (Ex×O))(d:l.length<=1000)(b:∀c∈S,c<M.size)(h:∀x∈l,fm (bG S M) x.2 x.1.bF){a:List Ce}{n:Nat}(c:a=l.flatMap λx=>[.i x.1.op,.i x.1.bK,.s x.2])(e:n=l.length):fm (bG S (M.push (.cells (bD a) bJ))) (.mk M.size 0 n n) (l.map (·.1)):=
 (Ka b 0 l d h c e).done AB.mono b bh bN
def jf{bF:List Ex}(k:fm (bG S M) s bF){b bK:Int}(q:WX h i a (.mk b bK bF))(o:Lw f L M)(p:∀s c,HX S h i a c s (.mk b bK bF)->J M c->K b bK s c):
 aN cq 161 [vi b,vi bK,O.v s] M λv c=>eG L M c/\∃d e:Int,∃j:O,v=.agg #[vi d,vi e,O.v j]/\K d e j c:=
 (IC k b bK).mono λv c⟨s,g,l,m,n,x⟩=>⟨o.da (x.fz _),by subst n;exact⟨_,_,_,l,p s c ⟨m,q⟩ x⟩⟩
def EE(x:∀a∈S,a<M.size)(z:f∈S)(a:GC f j Q d p h u M)(C:Q+Cg 18<=10^16)(B:IR f M w v)(E:v.length<=100){t b:Int}(A:Ty h t)(e:0<=b/\b<=18)(r:Lw f L M)(y:∀g s c,HX S h (pf u) v.length c s g->Rd f j (Q+Cg 18) c->Fz [f] M c->K g.op g.bK s c):
 aN cq 160 [vp f 0,.agg #[O.v d,O.v p],O.v w,vi t,vi b] M λv c=>eG L M c/\∃i k:Int,∃l:O,v=.agg #[vi i,vi k,O.v l]/\K i k l c:=
 have D:=tF e.2
 XP.kk (Qm _ b rfl ⟨e.1,V⟩ S f Q j d p w M v t x z a V B V A) r λs g c m n o q=>y g s c ⟨m,n.1⟩ (o.mono V) q
end
end
section
def SL:∀a∈oB,∀c∈[(0,0),((1:Int),2),(2,0),(3,3)],c.1<((eI a).length:Int)/\c.2=(bZ a c.1).length:=bh
def WX.OB{a:List bo}{d:List Nat}{b:Nat}{n:Int}{bF:List Ex}(hd:a∈oB)(c:(n,bF.length)∈[((0:Int),0),(1,2),(2,0),(3,3)])(h:∀e∈bF,WX a d b e):WX a d b (.mk 6 n bF):=.dU bh (λh=>V) bh (by
 have⟨e,f⟩:=SL a hd _ c;have:0<=n:=by simp at c;omega
 simp[Ar];exact⟨⟨this,e⟩,f⟩) h
section
variable{c:List Nat}{e P:Nat}{g d p:O}{f:List bo}{h:List cZ}{b:E}
def Ld{f:List bo}(hd:f∈oB)(A:List Nat)(hS:∀ab∈c,ab<b.size)(ac:e∈c)(W:Rd e g P b)(hP:P+100<=10^16)(aI:Int):aN cq 162 [vp e 0,vi aI] b (XP c e g b (P+100) (WX f A 0)):=by
 apply DF (e,0);simp -zeta only[aE,aD];intro aC ag;have x2:J b ag:=(J.push b _).trans (J.push aC _);have s2:ag.size=b.size+2:=by simp[ag,aC]
 clear_value ag;have N:=W.lt;have au:∀{h:E},ag.size<=h.size->∀ab∈b.size::c,ab<h.size:=λw=>bQ hS V V;have Y:Rs e g b P ag:=⟨x2.fz _,W.ext x2⟩;refine jf (S:=b.size::c) (a:=0) (h:=f) (i:=A) (f:=e) (bF:=[]) (lU _ _ _ _ _ _) (.OB hd aH aH) (lw N bN) λs3 m3 h3 x3=>?_;intro m4 F;let⟨x5,B5,z5⟩:=iN (M:=m3) (d:=m4) (c:=F) rfl rfl rfl;clear_value F;have z3:=x3.size;have r5:=(Y.ext x3).ext x5;refine⟨λ_=>?_,λ_=>?_⟩
 .intro m6;have x6:J F m6:=J.push _ _;clear_value m6;have z6:=x6.size;refine jf (S:=b.size::c) (a:=0) (h:=f) (i:=A) (f:=e) (bF:=[]) (lU _ _ _ _ _ _) (.OB hd aH aH) (lw N bN) λR H h7 x7=>?_;intro m8 z;let⟨x9,B9,z9⟩:=iN (M:=H) (d:=m8) (c:=z) rfl rfl rfl;clear_value z;have z7:=x7.size;have r9:=((r5.ext x6).ext x7).ext x9;have h9:=h7.ext x9;have G:∀{h D:E},z.size<=h.size->Fz [e] h D->∀i,af D H.size i=af h H.size i:=λw ak i=>kg ak N ⟨V,V⟩ i;have LW:∀{h:E},z.size<=h.size->Lw e [H.size,m3.size,b.size] h:=λw=>lw N bN;have LK:∀{h:E}{t:Nat},z.size<=t->t<h.size->Lw e [t,H.size,m3.size,b.size] h:=λw U=>lw N bN;have hw:∀j:Int,0<=j/\j<=9->WX f A 0 (.mk 6 3 [.mk 6 2 [],.mk 0 j [],.mk 6 2 []]):=λj w=>.OB hd aH (by simp;exact⟨.OB hd aH aH,.int V,.OB hd aH aH⟩);refine⟨λln h=>∃I p,ln.2=0/\b.size<=ln.1/\cz h ln.1 bJ [.i p.op,.i p.bK,.s I]/\HX (b.size::c) f A 0 h I p/\HX (b.size::c) f A 0 h R (.mk 6 2 [])/\Rs e g b (P+1) h/\z.size<=h.size,?_,?_⟩
  .have hO:∀{t t0:Nat}{h:E}{j:Int},0<=j/\j<=9->cz h t bJ [.i 0,.i 0,.s .nil]->z.size<=t->fm (bG (t::b.size::c) h) (.mk t0 0 3 3) [.mk 6 2 [],.mk 0 j [],.mk 6 2 []]->Rs e g b (P+1) h->HX (t::b.size::c) f A 0 h R (.mk 6 2 [])->
    aN cq 161 [vi 6,vi 3,O.v (.mk t0 0 3 3)] h λaJ D=>eG [t,H.size,m3.size,b.size] h D/\∃r0 r1:Int,∃Y:O,aJ=.agg #[vi r0,vi r1,O.v Y]/\∃I p,((t,0):Nat×Nat).2=0/\b.size<=((t,0):Nat×Nat).1/\cz (ai D t 0 [.i r0,.i r1,.s Y]) ((t,0):Nat×Nat).1 bJ [.i p.op,.i p.bK,.s I]/\HX (b.size::c) f A 0 (ai D t 0 [.i r0,.i r1,.s Y]) I p/\HX (b.size::c) f A 0 (ai D t 0 [.i r0,.i r1,.s Y]) R (.mk 6 2 [])/\Rs e g b (P+1) (ai D t 0 [.i r0,.i r1,.s Y])/\z.size<=(ai D t 0 [.i r0,.i r1,.s Y]).size:=λhn B hk X Q w=>
    jf X (hw _ hn) (LK hk B.lt) λs' D U aw=>⟨s',.mk 6 3 [.mk 6 2 [],.mk 0 _ [],.mk 6 2 []],rfl,by show b.size<=_;omega,cz.ai (m:=D) (o:=0) (r:=[.i 6,.i 3,.s s']) (B.ext aw),(U.put aH _ _).gE,((w.ext aw).put aH _ _).gE,(Q.ext aw).put W V _ _,by rw[aA];have:=B.lt;have:=aw.size;omega⟩
   have zb:∀h:E,J h (h.push (.cells (bD [.i 0,.i 0,.s .nil]) bJ))/\cz (h.push (.cells (bD [.i 0,.i 0,.s .nil]) bJ)) h.size bJ [.i 0,.i 0,.s .nil]:=λh=>⟨J.push _ _,cz.push _ _ _⟩;have av:∀{aj:List Nat}{h:E}{j:Int}{si:O},(∀ab∈aj,ab<h.size)->HX aj f A 0 h R (.mk 6 2 [])->HX aj f A 0 h si (.mk 0 j [])->fm (bG aj (h.push (.cells (bD [.i 6,.i 2,.s R,.i 0,.i j,.s si,.i 6,.i 2,.s R]) bJ))) (.mk h.size 0 3 3) [.mk 6 2 [],.mk 0 j [],.mk 6 2 []]:=λhS w U=>
    od [(.mk 6 2 [],R),(.mk 0 _ [],_),(.mk 6 2 [],R)] aH hS (by simp;exact⟨w.sl,U.sl,w.sl⟩) rfl rfl
   have az:∀{h:E}{t:Nat},z.size<=t->t<h.size->∀ab∈t::b.size::c,ab<h.size:=λw U=>bQ (au (h:=z) V) V U;refine⟨(bV r9.r V 9).mono λ_ y⟨j,p,nl,nu,aq,v⟩=>⟨(LW (ad _)).da v,j,p,G (ad _) v _,G (ad _) v _,G (ad _) v _,G (ad _) v _,G (ad _) v _,G (ad _) v _,?_,?_⟩,?_⟩
   .have K:=r9.to v aq;have Z:=v.size;have L:=h9.fz (by simp[ac]) v;refine Il (b.size::c) f A 0 (LW Z) (n:=j) ⟨V,V⟩ λaF q al s=>?_;have ax:=s.size;have d:=λi=>G Z (s.fz _) i;refine⟨d _,d _,d _,d _,d _,d _,?_,?_⟩
    .intro l;have k:J q l:=J.push _ _;have X:fm (bG (b.size::c) l) (.mk q.size 0 3 3) [.mk 6 2 [],.mk 0 j [],.mk 6 2 []]:=av (aj:=b.size::c) (au V) (L.ext s) al;have aK:=k.size;refine⟨?_,?_⟩
     .refine jf (M:=l) (f:=e) X (hw j ⟨V,V⟩) (LW V) λaB C ar u=>?_;intro T;have am:J C T:=J.push _ _;have ao:=u.size;have d:=λi=>G (h:=C) (D:=T) V (am.fz _) i;refine⟨d _,d _,d _,d _,d _,d _,?_⟩;intro ah;let⟨aa,ae,ap⟩:=iN (M:=C) (d:=T) (c:=ah) rfl rfl rfl;exact⟨aB,.mk 6 3 [.mk 6 2 [],.mk 0 j [],.mk 6 2 []],rfl,by show b.size<=C.size;omega,ae,ar.ext aa,(((L.ext s).ext k).ext u).ext aa,(((K.ext s).ext k).ext u).ext aa,V⟩
     .intro C;obtain⟨u,T⟩:J l C/\cz C l.size bJ [.i 0,.i 0,.s .nil]:=zb l;have d:=λi=>G (h:=l) (D:=C) V (u.fz _) i;exact⟨d _,d _,d _,d _,d _,d _,hO ⟨V,V⟩ T V (fm.le (u.bG λap hb=>(List.mem_cons.1 hb).elim (λw=>Or.inr V) Or.inl) X) (((K.ext s).ext k).ext u) (((L.ext s).ext k).fW u (ad _))⟩
    .intro l;obtain⟨k,ah⟩:J q l/\cz l q.size bJ [.i 0,.i 0,.s .nil]:=zb q;have d:=λi=>G (h:=q) (D:=l) V (k.fz _) i;refine⟨d _,d _,d _,d _,d _,d _,?_⟩;intro C;have u:J l C:=J.push _ _;have T:=(L.ext s).fW k (ad _);exact hO ⟨V,V⟩ (ah.ext u) V (av (az V ah.lt) T (al.fW k (ad _))) (((K.ext s).ext k).ext u) (T.ext u)
   .have K:=r9.to v aq;have Z:=v.size;have L:=h9.fz (by simp[ac]) v;intro q;obtain⟨s,aa⟩:J y q/\cz q y.size bJ [.i 0,.i 0,.s .nil]:=zb y;have d:=λi=>G (h:=y) (D:=q) V (s.fz _) i;have ax:=s.size;refine⟨d _,d _,d _,d _,d _,d _,?_⟩;refine Il (y.size::b.size::c) f A 0 (LK V aa.lt) (n:=j) ⟨V,V⟩ λao l am k=>?_;have d:=λi=>G (h:=q) (D:=l) V (k.fz _) i;refine⟨d _,d _,d _,d _,d _,d _,?_⟩;intro C;have u:J l C:=J.push _ _;have T:=(L.fW s (ad _)).ext k;exact hO ⟨V,V⟩ ((aa.ext k).ext u) V (av (az V (aa.ext k).lt) T am) (((K.ext s).ext k).ext u) (T.ext u)
   .intro y;obtain⟨K,ay⟩:J z y/\cz y z.size bJ [.i 0,.i 0,.s .nil]:=zb z;have d:=λi=>G (h:=z) (D:=y) V (K.fz _) i;have Z:=K.size;refine⟨d _,d _,d _,d _,d _,d _,?_⟩;refine(bV (r9.ext K).r V 9).mono λ_ q⟨j,p,nl,nu,aG,ae⟩=>⟨(LK (ad _) ay.lt).da ae,j,p,?_⟩;have d:=λi=>G (h:=y) (D:=q) V ae i;refine⟨d _,d _,d _,d _,d _,d _,?_⟩;have aa:=ay.congr (ae.same z.size ay.lt bN);have ax:=ae.size;refine Il (z.size::b.size::c) f A 0 (LK (ad _) aa.lt) (n:=j) ⟨V,V⟩ λao l am k=>?_;have d:=λi=>G (h:=q) (D:=l) V (k.fz _) i;refine⟨d _,d _,d _,d _,d _,d _,?_⟩;intro C;have u:J l C:=J.push _ _;have T:=((h9.fW K (ad _)).fz (by simp[ac]) ae).ext k;exact hO ⟨V,V⟩ ((aa.ext k).ext u) (ad _) (av (az (ad _) (aa.ext k).lt) T am) ((((r9.ext K).to ae aG).ext k).ext u) (T.ext u)
  .rintro⟨t,i⟩ h ⟨I,p,ho,hk,B,w,U,Q,aa⟩;simp only at ho hk B;subst ho;have bl:=B.lt;refine⟨_,B.cJ 0,_,B.cJ 1,_,B.cJ 2,?_⟩;have L3:∀{D:E},h.size<=D.size->Lw e [H.size,m3.size,b.size] D:=λw=>LW V;refine(bV Q.r V 9).mono λ_ y⟨j,en,nl,nu,aq,v⟩=>⟨(L3 (ad _)).da v,j,en,?_⟩;have Z:=v.size;have gg:∀{T ae:E},h.size<=T.size->Fz [e] T ae->∀i,af ae t i=af T t i:=λw ak i=>kg ak N ⟨hk,V⟩ i;have ga:=λi=>G (h:=h) (D:=y) aa v i;have gb:=λi=>gg (T:=h) (ae:=y) (ad _) v i;refine⟨?_,?_,?_,?_,?_,?_,?_⟩;iterate 6 first|exact ga _|exact gb _
   refine Il (b.size::c) f A 0 (L3 Z) (n:=j) ⟨V,V⟩ λaF q al s=>?_;have ga:=λi=>G (h:=y) (D:=q) V (s.fz _) i;have gb:=λi=>gg (T:=y) (ae:=q) Z (s.fz _) i;refine⟨?_,?_,?_,?_,?_,?_,?_⟩;iterate 6 first|exact ga _|exact gb _
   intro l;have k:J q l:=J.push _ _;have ax:=s.size;have aj:=(w.fz (by simp[ac]) v).ext s;have ap:=(U.fz (by simp[ac]) v).ext s;have X:fm (bG (b.size::c) l) (.mk q.size 0 3 3) [p,.mk 0 j [],.mk 6 2 []]:=od (S:=b.size::c) (M:=q) [(p,I),(.mk 0 j [],aF),(.mk 6 2 [],R)] aH (au V) (by simp;exact⟨aj.sl,al.sl,ap.sl⟩) rfl rfl;refine jf (M:=l) (f:=e) X (.OB hd aH (by simp;exact⟨aj.wx,al.wx,ap.wx⟩)) (L3 (D:=l) (oh k.size)) λaB C ar u=>?_;have av:=(((Q.to v aq).ext s).ext k).ext u;exact⟨aB,_,rfl,(ar.put aH _ _).gE.sl,ar.wx,((av.put W (ad _) _ _).r).mono V,(av.put W (ad _) _ _).f⟩
 .intro m6 H;let⟨x7,B7,z7⟩:=iN (M:=F) (d:=m6) (c:=H) rfl rfl rfl;clear_value H;have r7:=r5.ext x7;have D:∀{h:E},H.size<=h.size->Lw e [m3.size,b.size] h:=λw=>lw N bN;refine(bV r7.r V 3).mono λ_ m8⟨j,en,n0,n3,R,v⟩=>⟨(lw N bN:Lw e [F.size,m3.size,b.size] H).da v,j,en,?_⟩;rw[aQ (b:=1+j) V V];have z8:=v.size;have U:b.size<=F.size:=V;refine⟨λt h=>0<=t/\t<=3/\∃I p,cz h F.size bJ [.i p.op,.i p.bK,.s I]/\HX (F.size::b.size::c) f A 0 h I p/\Rs e g b (P+1+4*(3 -t).toNat) h/\H.size<=h.size,λt _=>t.toNat,⟨V,V,s3,.mk 6 0 [],B7.congr (v.same _ V bN),((h3.ext x5).fW x7 (ad _)).fz (by simp[ac]) v,⟨(r7.to v R).f,R.mono V⟩,z8⟩,?_⟩;rintro t h ⟨i0,i3,I,p,B,w,Q,aa⟩;refine⟨λhi=>?_,λ_=>⟨_,B.cJ 0,_,B.cJ 1,_,B.cJ 2,I,p,rfl,(w.gE.put aH _ _).gE.sl,w.wx,(Q.put W (ad _) _ _).r.mono V,(Q.put W (ad _) _ _).f⟩⟩;simp only[an]at hi;refine⟨_,B.cJ 0,_,B.cJ 1,_,B.cJ 2,?_⟩;have d:∀{T ae:E},H.size<=T.size->Fz [e] T ae->∀i,af ae F.size i=af T F.size i:=λw ak i=>kg ak N ⟨U,V⟩ i;refine(Ae Q.r V).mono λ_ z⟨C,en,aq,d9,u⟩=>⟨(D aa).da u,C,en,d aa u _,d aa u _,d aa u _,?_⟩;have z9:=u.size;refine Il (F.size::b.size::c) f A 0 (D V) aq λar y L K=>⟨d V (K.fz _) _,d V (K.fz _) _,d V (K.fz _) _,?_⟩;intro q;have s:J y q:=J.push _ _;have Z:=K.size;have ax:=s.size;have aj:=(w.fz (by simp[ac]) u).ext K;have X:fm (bG (F.size::b.size::c) q) (.mk y.size 0 2 2) [.mk 0 C [],p]:=od (S:=F.size::b.size::c) (M:=y) [(.mk 0 C [],ar),(p,I)] aH (bQ (au (h:=y) V) (ad _) V) (by simp;exact⟨L.sl,aj.sl⟩) rfl rfl;refine jf (M:=q) (f:=e) X (.OB hd aH (by simp;exact⟨L.wx,aj.wx⟩)) (D (h:=q) V) λao l am k=>?_;have ah:cz l F.size bJ [.i p.op,.i p.bK,.s I]:=(((B.congr (u.same _ B.lt bN)).ext K).ext s).ext k;have aK:=k.size;rw[aQ (b:=t -1) V V];refine⟨ah.fg aH,λap hb=>bd _ _ _ _ (by simp at hb;omega),⟨V,V,ao,.mk 6 1 [.mk 0 C [],p],cz.ai (m:=l) (o:=0) (r:=[.i 6,.i 1,.s ao]) ah,am.put aH _ _,?_,by rw[aA];omega⟩,by show(t -1).toNat<t.toNat;omega⟩;have al:=((((Q.to u d9).ext K).ext s).ext k).put W U 0 [.i 6,.i 1,.s ao];exact⟨al.f,al.r.mono V⟩
end
end
section
structure BX(S:List Nat)(ds:List bo)(nf:List Nat)(a k:Nat)(M:E)(s:O)(e:Ex):Prop where
 b:cz M k bJ [.i e.op,.i e.bK,.s s]
 h:HX (k::S) ds nf a M s e
section
variable{S:List Nat}{d Q i j k a:Nat}{c:List Nat}{h s:O}{b:List bo}{g M f:E}{e:Ex}
def BX.new{f d:E}(h:HX S b c a M s e)(g:f=M.push (.cells (bD [.i 0,.i 0,.s .nil]) bJ))(i:d=ai f M.size 0 [.i e.op,.i e.bK,.s s]):J M d/\BX S b c a M.size d s e/\d.size=M.size+1:=
 let⟨x,B,z⟩:=iN g i rfl;⟨x,⟨B,h.fW x (ad _)⟩,z⟩
def BX.fz(h:BX S b c a k M s e)(j:d∈S)(i:k≠d)(g:Fz [d] M f):BX S b c a k f s e:=⟨h.b.congr (g.same k h.b.lt (by simpa using i)),h.h.fz (by simp[j]) g⟩
def BX.ext(h:BX S b c a k M s e)(x:J M f):BX S b c a k f s e:=⟨h.b.ext x,h.h.ext x⟩
def BX.set(h:BX S b c a k M s e){f:O}{d:Ex}(g:HX (k::S) b c a M f d):BX S b c a k (ai M k 0 [.i d.op,.i d.bK,.s f]) f d:=⟨cz.ai (m:=M) (o:=0) (r:=[.i d.op,.i d.bK,.s f]) h.b,g.put aH _ _⟩
def HX.hO(f:HX (k::S) b c a M s e)(r:Rs d h g Q M)(l:Rd d h j g)(m:g.size<=k)(n:Q<=i):XP S d h g i (WX b c a) (.agg #[vi e.op,vi e.bK,O.v s]) (ai M k 0 [.i e.op,.i e.bK,.s s]):=
 ⟨s,e,rfl,(f.put aH _ _).gE.sl,f.wx,(r.put l m _ _).r.mono n,(r.put l m _ _).f⟩
end
section
variable{b:List Nat}{c P:Nat}{g d p:O}{f:List bo}{e:List cZ}{m:E}
def Jh(hS:∀j∈b,j<m.size)(z:c∈b)(j:GC c g P d p f e m)(hP:P+200+Cg 18<=10^16):aN cq 117 [vp c 0,.agg #[O.v d,O.v p]] m (XP b c g m (P+200+Cg 18) (WX f (pf e) 0)):=by
 apply BO (c,0);simp -zeta only[aE,aD];intro h q A;let⟨x2,hl⟩:=dj (a:=h) (c:=q) rfl rfl;have s1:h.size=m.size+1:=by simp[h]
 have s2:q.size=m.size+2:=by simp[q,s1]
 have X:J q A:=J.push _ _;have y:=j.rd.lt;have ac:ap (bG [c] A) (.mk q.size 0 3 3) [1,1,3]:=ap.lit ay _ bN rfl rfl aH;clear_value A;clear_value q;have F:∀{i:E},q.size<=i.size->∀j∈h.size::b,j<i.size:=λI=>bQ hS V V;have r3:Rs c g m P A:=⟨(x2.trans X).fz _,(j.rd.ext x2).ext X⟩;have z3:=X.size;refine(jR r3.r V ac aH).mono λ_ m4⟨W,u,ht,d4,G⟩=>⟨(lw y bN:Lw c [h.size,m.size] A).da G,W,u,?_⟩;have r4:=r3.to G d4;have z4:=G.size;intro Q;have x5:J m4 Q:=J.push _ _;have ae:ap (bG [c] Q) (.mk m4.size 0 1 1) [W]:=ap.lit ay _ (by simp;exact d4.lt) rfl rfl aH;clear_value Q;have R:=r4.ext x5;have z5:=x5.size;refine EE (S:=h.size::b) (F V) (by simp[z]) (j.to R.f R.r) V ae aH (j.gp.ty (t:=0) bh bh) bh (lw y bN) λD s6 v h6 d6 f6=>?_;intro m7 B;let⟨x8,b8,z8⟩:=BX.new (f:=m7) (d:=B) h6 rfl rfl;clear_value B;have z6:=f6.size;have T:=(R.to f6 d6).ext x8;have L:v.size≠c:=V;have Z:∀{i:E},B.size<=i.size->Lw c [v.size,h.size,m.size] i:=λI=>lw y bN;refine⟨λi=>∃U u,BX (h.size::b) f (pf e) 1 v.size i U u/\Rs c g m (P+2+Cg 18) i/\B.size<=i.size,?_,?_⟩
 .refine(bV T.r V 3).mono λ_ n⟨Y,en,_,_,x,l⟩=>⟨(Z (ad _)).da l,Y,en,λ_=>?_,λ_=>⟨s6,D,b8.fz (by simp[z]) L l,⟨(T.to l x).f,x.mono V⟩,l.size⟩⟩;have s:=b8.fz (by simp[z]) L l;have z9:=l.size;intro o;have w:J n o:=J.push _ _;have N:fm (bG (v.size::h.size::b) o) (.mk n.size 0 1 1) [D]:=od (S:=v.size::h.size::b) (M:=n) [(D,s6)] aH (bQ (F (i:=n) V) (ad _) s.b.lt) (by simp;exact s.h.sl) rfl rfl;have aa:=w.size;refine jf (M:=o) N (.dU (a:=1) (b:=f) (c:=pf e) bh (λI=>V) bh (by simp[Ar]) (by simp;exact s.h.wx)) (Z V) λab af K C=>?_;have r:=((T.to l x).ext w).ext C;have H:=((s.ext w).ext C).set K;exact⟨ab,.mk 5 0 [D],H,⟨(r.put j.rd V _ _).f,((r.put j.rd V _ _).r).mono V⟩,by rw[aA];have:=C.size;omega⟩
 rintro i ⟨U,u,r,aa,ah⟩;refine⟨_,r.b.cJ 0,_,r.b.cJ 1,_,r.b.cJ 2,?_⟩;have Y:∀{i:E},B.size<=i.size->Lw c [h.size,m.size] i:=λI=>lw y bN;refine XP.kk (Ld (c:=h.size::b) j.gp.ds (pf e) (F V) (by simp[z]) aa.r V W) (Y ah) λs9 e9 n h9 w9 x l=>?_;have H:=λag=>kg l y (k:=v.size) ⟨V,r.b.lt⟩ ag;refine⟨H _,H _,H _,?_⟩;have z9:=l.size;intro o;have w:J n o:=J.push _ _;have s:=r.fz (by simp[z]) L l;have N:fm (bG (h.size::b) o) (.mk n.size 0 2 2) [e9,u]:=od (S:=h.size::b) (M:=n) [(e9,s9),(u,U)] aH (F V) (by simp;exact⟨h9,s.h.gE.sl⟩) rfl rfl;refine jf (M:=o) N (.lt w9 r.h.wx) (Y (oh w.size)) λab af K C=>?_;exact K.hO (((aa.to l x).ext w).ext C) j.rd V V
def IZ(hS:∀j∈b,j<m.size)(y:c∈b)(j:GC c g P d p f e m)(hP:P+200+2*Cg 18<=10^16){I:Nat}{q:cZ}(X:e[I]? =some q)(h1:1<=q.params.length):
 aN cq 120 [vp c 0,.agg #[O.v d,O.v p],vi I] m (XP b c g m (P+200+2*Cg 18) (WX f (pf e) q.params.length)):=by
 apply Bw (c,0)
 simp -zeta only[aE,aD]
 intro i C
 let⟨x2,hl⟩:=dj (a:=i) (c:=C) rfl rfl
 have s1:i.size=m.size+1:=by simp[i]
 have s2:C.size=m.size+2:=by simp[C,s1]
 have x:=j.rd.lt
 clear_value C
 have v:∀{h:E},C.size<=h.size->∀j∈i.size::b,j<h.size:=λl=>bQ hS V V
 have r2:Rs c g m P C:=⟨x2.fz _,j.rd.ext x2⟩
 have s:∀{h:E},C.size<=h.size->Lw c [i.size,m.size] h:=λl=>lw x bN
 let⟨ps,ar,e0,e1⟩:=j.hp.aO X
 have aV:=ax X
 have aY:=j.hp.len
 have Y:=tH _ (j.gp.de q (aq X))
 have h3:q.params.length<=3:=Y.1
 have W:∀{h:E},Fz [c] m h->IR c h ps q.params:=λae=>ar.le (fh ae)
 have E1:∀{h:E},Fz [c] m h->af h p.az (p.off+I*5+1)=some (vi q.aR):=λae=>(dY.1 (fh ae _ _ _ e1)).2
 refine⟨V,V,ps,(dY.1 (fh r2.f _ _ _ e0)).2,?_⟩
 refine vH (i.size::b) f (pf e) (a:=q.params.length) (s (ad _)) V λs3 m3 ap x3=>?_
 have z3:=x3.size
 refine Il (i.size::b) f (pf e) q.params.length (s z3) (n:=1) bh λs4 m4 h4 x4=>?_
 have z4:=x4.size
 intro m5
 have x5:J m4 m5:=J.push _ _
 have aJ:fm (bG (i.size::b) m5) (.mk m4.size 0 2 2) [.mk 12 0 [],.mk 0 1 []]:=od (S:=i.size::b) (M:=m4) [(.mk 12 0 [],s3),(.mk 0 1 [],s4)] aH (v V) (by simp;exact⟨(ap.ext x4).sl,h4.sl⟩) rfl rfl
 have z5:=x5.size
 refine jf (M:=m5) aJ (.dU (a:=q.params.length) (b:=f) (c:=pf e) bh (λl=>V) bh (by simp[Ar]) (by simp;exact⟨ap.wx,h4.wx⟩)) (s V) λs6 K h6 x6=>?_
 have z6:=x6.size
 have r6:=(((r2.ext x3).ext x4).ext x5).ext x6
 intro m7
 have x7:J K m7:=J.push _ _
 have g7:GE (i.size::b) K m7 (.mk K.size 0 1 1) [.mk 2 0 [.mk 12 0 [],.mk 0 1 []]]:=Ka (v V) 0 [(.mk 2 0 [.mk 12 0 [],.mk 0 1 []],s6)] aH (by simpa using h6.sl) rfl rfl
 clear_value m7
 have aZ:=ar.len
 refine Qi (a:=q.params.length) V h1 (λZ F h=>∃z,GE (i.size::b) K h F z/\z.length=Z/\(∀w∈z,WX f (pf e) q.params.length w)/\Rd c g (P+22*Z) h/\Fz [c] K h) ⟨_,g7,rfl,by simpa using h6.wx,(r6.r.ext x7).mono V,x7.fz _⟩ ?_
 rintro Z F h aU μ aW hj ⟨z,r,aX,hw,rM,fM⟩ aM
 have U:=r6.f.trans fM
 have zM:=fM.size
 refine dit (λl=>?_) λl=>?_
 .let⟨A,o⟩:=cg q.params Z
  have u:=Y.2.1 A (aq o)
  refine⟨V,V,A,(dY.1 ((W U).aO o)).2,?_⟩
  exact XP.ku (qP (f:=F.az::i.size::b) (bQ (v (h:=h) V) (ad _) r.bg.2) (by simp[y]) (j.to U rM) V (W U) V (j.gp.ty u.1 u.2)) r fM (s V) r6.r (by simp[y]) V λw av N G g' L D _ _=>
   aM V _ _ ⟨_,g',bN,λB H=>by rcases List.mem_append.1 H with l|l;exact hw B l;simp at l;subst l;exact G.1,L.mono V,D⟩
 refine jf (r.done AB.mono (v (h:=K) V) bh V) (.dU (a:=q.params.length) (b:=f) (c:=pf e) bh (λl=>V) bh (Jz (by rw[MZ X];congr 1;omega)) hw) (s V) λs8 o h8 x8=>?_
 intro m9 A
 let⟨aw,ac,a3⟩:=BX.new (f:=m9) (d:=A) h8 rfl rfl
 clear_value A
 have z8:=x8.size
 have D:Rs c g m (P+66) A:=⟨(U.then x8).then aw,((rM.ext x8).ext aw).mono V⟩
 have hk:o.size≠c:=V
 refine⟨λh=>∃F w,BX (i.size::b) f (pf e) q.params.length o.size h F w/\Rs c g m (P+66+Cg 18) h/\A.size<=h.size,⟨V,V,_,E1 D.f,λ_=>?_,λ_=>⟨s8,_,ac,⟨D.f,D.r.mono V⟩,ad _⟩⟩,?_⟩
 .have T:∀{h:E},A.size<=h.size->Lw c [o.size,i.size,m.size] h:=λl=>lw x bN
  have ah:∀{h:E},A.size<=h.size->∀j∈o.size::i.size::b,j<h.size:=λl=>bQ (v (h:=A) V) l V
  refine EE (S:=o.size::i.size::b) (ah (ad _)) (by simp[y]) (j.to D.f D.r) V (W D.f) V (j.gp.ty (t:=0) bh bh) bh (T (ad _)) λH ai aa N ak u=>?_
  have r:=λR=>kg u x (k:=o.size) ⟨V,ac.b.lt⟩ R
  refine⟨r _,r _,r _,?_⟩
  have aC:=u.size
  intro B
  have G:J aa B:=J.push _ _
  have ag:=ac.fz (by simp[y]) hk u
  have Q:fm (bG (o.size::i.size::b) B) (.mk aa.size 0 2 2) [H,.mk 9 I z]:=od (S:=o.size::i.size::b) (M:=aa) [(H,ai),(.mk 9 I z,s8)] aH (ah aC) (by simp;exact⟨N.sl,ag.h.sl⟩) rfl rfl
  have aT:=G.size
  refine jf (M:=B) Q (.OB j.gp.ds aH (by simp;exact⟨N.wx,h8.wx⟩)) (T V) λaj ab al L=>?_
  have am:=(((D.to u ak).ext G).ext L).put j.rd (k:=o.size) V 0 [.i 6,.i 1,.s aj]
  have hb:=((ag.ext G).ext L).set al
  exact⟨aj,.mk 6 1 [H,.mk 9 I z],hb,am,by rw[aA];have:=L.size;omega⟩
 rintro M3 ⟨F,w,u,av,a2⟩
 refine Il (i.size::b) f (pf e) q.params.length (s V) (n:=0) bh λai aa N ay=>?_
 have aC:=ay.size
 refine vH (i.size::b) f (pf e) (a:=q.params.length) (s V) V λaO B am G=>?_
 have aT:=G.size
 intro ab
 have L:J B ab:=J.push _ _
 have Q:fm (bG (i.size::b) ab) (.mk B.size 0 2 2) [.mk 0 0 [],.mk 12 0 []]:=od (S:=i.size::b) (M:=B) [(.mk 0 0 [],ai),(.mk 12 0 [],aO)] aH (v V) (by simp;exact⟨(N.ext G).sl,am.sl⟩) rfl rfl
 have a4:=L.size
 refine jf (M:=ab) Q (.dU (a:=q.params.length) (b:=f) (c:=pf e) bh (λl=>V) bh (by simp[Ar]) (by simp;exact⟨N.wx,am.wx⟩)) (s V) λaP aK an az=>?_
 intro aL au
 let⟨aR,ak,a6⟩:=BX.new (f:=aL) (d:=au) an rfl rfl
 clear_value au
 have a5:=az.size
 have aj:=(((ay.trans G).trans L).trans az).trans aR
 have T:=av.ext aj
 have u:=u.ext aj
 refine⟨_,u.b.cJ 0,_,u.b.cJ 1,_,u.b.cJ 2,V,V,_,E1 T.f,?_⟩
 refine EE (S:=i.size::b) (v V) (by simp[y]) (j.to T.f T.r) V (W T.f) V (j.gp.ty Y.2.2.1 Y.2.2.2) bh (lw x bN) λal aQ ag ao aG H=>?_
 have r:=λR=>kg H x (k:=o.size) ⟨V,u.b.lt⟩ R
 have g':=λR=>kg H x (k:=aK.size) ⟨V,ak.b.lt⟩ R
 refine⟨?_,?_,?_,?_,?_,?_,?_⟩
 iterate 6 first|exact r _|exact g' _
 have a7:=H.size
 intro ah
 have aB:J ag ah:=J.push _ _
 have aF:=u.fz (by simp[y]) hk H
 have Q:fm (bG (i.size::b) ah) (.mk ag.size 0 3 3) [.mk 4 0 [.mk 0 0 [],.mk 12 0 []],w,al]:=od (S:=i.size::b) (M:=ag) [(.mk 4 0 [.mk 0 0 [],.mk 12 0 []],aP),(w,F),(al,aQ)] aH (v V) (by simp;exact⟨(ak.h.gE.fz (by simp[y]) H).sl,aF.h.gE.sl,ao.sl⟩) rfl rfl
 refine jf (M:=ah) Q (.dU (a:=q.params.length) (b:=f) (c:=pf e) bh (λ_=>rfl) bh (by simp[Ar]) (by simp;exact⟨an.wx,u.h.wx,ao.wx⟩)) (lw x (by have:=aB.size;simp;omega)) λa1 a0 aI aS=>?_
 exact aI.hO (((T.to H aG).ext aB).ext aS) j.rd V V
end
end
section
section
variable{c:List Nat}{b P:Nat}{h d p:O}{f:List bo}{g:List cZ}{m:E}
def WX.m1{d:List Nat}{c:Nat}{x y z:Ex}(hd:f∈oB)(j:WX f d c x)(k:WX f d c y)(l:WX f d (c+2) z):WX f d c (.mk 8 1 [x,y,z]):=by
 obtain⟨e,-,g,h,-⟩:=MC f hd;refine .mt j (by rw[e];rfl) aH λi n m b a=>?_;rw[e]at a;rcases i with _|_|i
 .simp at b a;subst b a;rw[g];exact k
 .simp at b a;subst b a;rw[h];exact l
 .simp at b
def Jk(hS:∀r∈c,r<m.size)(H:b∈c)(r:GC b h P d p f g m)(hP:P+200+2*Cg 18<=10^16){F:Nat}{q:cZ}(hq:g[F]? =some q){ah:Int}(ha:0<=ah/\ah<(q.params.length:Int)):
 aN cq 118 [vp b 0,.agg #[O.v d,O.v p],vi F,vi ah] m (XP c b h m (P+200+2*Cg 18) (WX f (pf g) q.params.length)):=by
 apply BQ (b,0)
 simp -zeta only[aE,aD]
 intro j Z
 let⟨x2,hl⟩:=dj (a:=j) (c:=Z) rfl rfl
 have s1:j.size=m.size+1:=by simp[j]
 have s2:Z.size=m.size+2:=by simp[Z,s1]
 have hr:=r.rd.lt
 clear_value Z
 have an:∀{i:E},Z.size<=i.size->∀r∈j.size::c,r<i.size:=λl=>bQ hS V V
 have r2:Rs b h m P Z:=⟨x2.fz _,r.rd.ext x2⟩
 have L1:∀{i:E},Z.size<=i.size->Lw b [j.size,m.size] i:=λl=>lw hr bN
 let⟨ps,aX,e0,e1⟩:=r.hp.aO hq
 have a_:=ax hq
 have be:=r.hp.len
 have aK:=tH _ (r.gp.de q (aq hq))
 have h3:q.params.length<=3:=aK.1
 have PS:∀{i:E},Fz [b] m i->IR b i ps q.params:=λK=>aX.le (fh K)
 have E1:∀{i:E},Fz [b] m i->af i p.az (p.off+F*5+1)=some (vi q.aR):=λK=>(dY.1 (fh K _ _ _ e1)).2
 have bf:=aX.len
 have aZ:=r.gp.ty (t:=0) bh bh
 have bc:=PY 18
 refine⟨V,V,ps,(dY.1 (fh r2.f _ _ _ e0)).2,?_⟩
 intro m3
 have x3:J Z m3:=J.push _ _
 have aL:ap (bG [b] m3) (.mk Z.size 0 2 2) [0,1]:=ap.lit ay _ bN rfl rfl aH
 clear_value m3
 have r3:=r2.ext x3
 have z3:=x3.size
 refine(eE (S:=[b]) bN (PS r3.f) aL bN).mono λ_ m4⟨aR,wl,s,gw,qw,x4⟩=>⟨(L1 z3).da (x4.fz _),aR,s,?_⟩
 subst qw
 have a5:IR b m4 aR (q.params++[0,1]):=GI.done gw bN bN
 have r4:=r3.ext x4
 have z4:=x4.size
 intro m5
 have x5:J m4 m5:=J.push _ _
 have g5:GE (j.size::c) m4 m5 (.mk m4.size 0 0 0) []:=Gr.new _ (ad _) _ _ _
 clear_value m5
 refine dx (n:=q.params.length) V (λN w i=>∃I,GE (j.size::c) m4 i w I/\I.length=N/\(∀s∈I,WX f (pf g) (q.params.length+2) s)/\Rd b h (P+N) i/\Fz [b] m4 i) ⟨[],g5,rfl,aH,(r4.r.ext x5).mono V,x5.fz _⟩ ?_
 rintro N w i a3 μ hj ⟨I,aJ,bb,hw,rM,fM⟩ a7
 have FM:=r4.f.trans fM
 have zM:=fM.size
 refine dit (λl=>?_) λl=>?_
 .let⟨aT,L⟩:=cg q.params N
  have hO:∀{K:Nat}{T:List Value}{y:E}{R:Nat},aN cq K T y (XP (w.az::j.size::c) b h y R (WX f (pf g) (q.params.length+2)))->R<=P+(N+1)->Rd b h (P+(N+1)) y->Fz [b] i y->aN cq K T y λab A=>eG [j.size,m.size] y A/\∃G C:Int,∃r2:O,ab=.agg #[vi G,vi C,O.v r2]/\
   jb (A.push (.cells (bD [.i G,.i C,.s r2]) bJ)) bJ [.i 0,.i 0,.s .nil] 40 w (O.mk A.size 0 1 1) λW z=>eG [j.size,m.size] (A.push (.cells (bD [.i G,.i C,.s r2]) bJ)) z/\a3 W (cQ ((N:Int)+1)) z/\μ W (cQ ((N:Int)+1)) z<μ w N i:=λhc hQ C Y=>
   XP.ku hc (aJ.fS AB.mono Y (by simp;exact⟨Or.inr H,V⟩)) (fM.trans Y) (L1 V) r4.r (by simp[H]) V λs W z u g' r' f' _ _=>
    a7 V _ _ ⟨_,g',bN,λo B=>by rcases List.mem_append.1 B with l|l;exact hw o l;simp at l;subst l;exact u,r'.mono hQ,f'⟩
  refine⟨λ_=>?_,λ_=>⟨V,V,aT,(dY.1 ((PS FM).aO L)).2,λ_=>?_,λ_=>hO (((lM _ _ _).x rM).mono λ_ _ l=>l.mono (λs u=>u▸.Uj ⟨V,V⟩) (ad _)) V (rM.mono V) (Fz.aF _ _)⟩⟩
  .rw[aQ (b:=(ps.len:Int)+1) V V]
   exact hO (((lM _ _ _).x rM).mono λ_ _ l=>l.mono (λs u=>u▸.Uj ⟨V,V⟩) (ad _)) V (rM.mono V) (Fz.aF _ _)
  .refine(bV rM V 2).mono λ_ m6⟨ae,en,_,_,D,B⟩=>⟨(L1 V).da B,ae,en,λ_=>?_,λ_=>hO (((lM _ _ _).x D).mono λ_ _ l=>l.mono (λs u=>u▸.Uj ⟨V,V⟩) (ad _)) V D B⟩
   have z6:=B.size
   have aa:∀{y:E},m6.size<=y.size->∀r∈w.az::j.size::c,r<y.size:=λl=>bQ (an (i:=m6) V) l (oh aJ.bg.2)
   refine vH (w.az::j.size::c) f (pf g) (a:=q.params.length+2) (L1 V) V λs7 m7 h7 Q=>?_
   have z7:=Q.size
   refine vH (w.az::j.size::c) f (pf g) (a:=q.params.length+2) (L1 V) V λs8 o h8 x8=>?_
   have z8:=x8.size
   intro m9
   have x9:J o m9:=J.push _ _
   have X:fm (bG (w.az::j.size::c) m9) (.mk o.size 0 2 2) [.mk 12 N [],.mk 12 ps.len []]:=od (S:=w.az::j.size::c) (M:=o) [(.mk 12 N [],s7),(.mk 12 ps.len [],s8)] aH (aa V) (by simp;exact⟨(h7.ext x8).sl,h8.sl⟩) rfl rfl
   have U:=((D.ext Q).ext x8).ext x9
   exact hO ((mB U X 1 0).mono λ_ _ l=>l.mono (λs u=>u▸.dU bh (λl=>V) bh (by simp[Ar]) (by simp;exact⟨h7.wx,h8.wx⟩)) (ad _)) V U (((B.then Q).then x8).then x9)
 refine jf (aJ.done AB.mono (an (i:=m4) V) bh V) (.dU (a:=q.params.length+2) (b:=f) (c:=pf g) bh (λl=>V) bh (Jz (by rw[MZ hq];congr 1;omega)) hw) (L1 V) λs6 m6 h6 x6=>?_
 have z6:=x6.size
 intro m7 o
 let⟨x8,B8,z8⟩:=iN (M:=m6) (d:=m7) (c:=o) rfl rfl rfl
 clear_value o
 intro m9 C
 let⟨aS,au,bg⟩:=BX.new (f:=m9) (d:=C) (h6.ext x8) rfl rfl
 clear_value C
 have aa:Rs b h m (P+3) C:=⟨((FM.then x6).then x8).then aS,(((rM.ext x6).ext x8).ext aS).mono V⟩
 have hk:o.size≠b:=V
 have L2:∀{i:E},C.size<=i.size->Lw b [o.size,m6.size,j.size,m.size] i:=λl=>lw hr bN
 have ao:∀{i:E},C.size<=i.size->∀r∈o.size::j.size::c,r<i.size:=λl=>bQ (an (i:=C) V) l V
 have aU:∀{i:E},Fz [b] m4 i->IR b i aR (q.params++[0,1]):=λK=>a5.le (fh K)
 have aW:Fz [b] m4 C:=((fM.then x6).then x8).then aS
 have wl:(q.params++[0,1]).length=q.params.length+2:=aH
 refine⟨λi=>∃w s,BX (j.size::c) f (pf g) (q.params.length+2) o.size i w s/\Rs b h m (P+10+Cg 18) i/\C.size<=i.size,⟨V,V,_,E1 aa.f,λaY=>?_,λ_=>⟨V,V,_,E1 aa.f,λ_=>?_,λ_=>⟨s6,_,au,⟨aa.f,aa.r.mono V⟩,ad _⟩⟩⟩,?_⟩
 .simp only[aM]at aY
  refine(bV aa.r V 5).mono λ_ ac⟨ae,en,_,_,aI,z⟩=>⟨(L2 (ad _)).da z,ae,en,λ_=>?_,λ_=>⟨V,V,_,E1 (aa.f.trans z),λl=>by rw[aY]at l;exact absurd l bh,λ_=>⟨s6,_,au.fz (by simp[H]) hk z,⟨(aa.to z aI).f,aI.mono V⟩,z.size⟩⟩⟩
  have Q:=aa.to z aI
  have T:=z.size
  have aV:=au.fz (by simp[H]) hk z
  refine EE (v:=q.params++[0,1]) (S:=o.size::j.size::c) (ao T) (by simp[H]) (r.to Q.f Q.r) V (aU (aW.trans z)) bN aZ bh (L2 T) λal az A am ak u=>?_
  rw[wl]at am
  intro Y U
  let⟨ab,aG,a9⟩:=BX.new (f:=Y) (d:=U) am rfl rfl
  clear_value U
  have a1:=u.size
  have aw:=(Q.to u ak).ext ab
  have aj:=(aV.fz (by simp[H]) hk u).ext ab
  have ba:A.size≠b:=V
  have aF:HX (A.size::o.size::j.size::c) f (pf g) (q.params.length+2) U s6 (.mk 9 F I):=(aV.h.fz (by simp[H]) u).fW ab (ad _)
  have L3:∀{i:E},U.size<=i.size->Lw b [A.size,o.size,m6.size,j.size,m.size] i:=λl=>lw hr bN
  refine⟨λi=>∃w s,BX (o.size::j.size::c) f (pf g) (q.params.length+2) A.size i w s/\HX (o.size::j.size::c) f (pf g) (q.params.length+2) i s6 (.mk 9 F I)/\Rs b h m (P+4+Cg 18) i/\U.size<=i.size/\cz i o.size bJ [.i 9,.i F,.s s6],⟨λ_=>?_,λ_=>⟨az,al,aG,aF.gE,aw,ad _,aj.b⟩⟩,?_⟩
  .let⟨aT,L⟩:=cg q.params 0
   refine⟨bh,V,aT,(dY.1 ((PS aw.f).aO L)).2,λ_=>?_,λ_=>⟨az,al,aG,aF.gE,aw,ad _,aj.b⟩⟩
   refine vH (A.size::o.size::j.size::c) f (pf g) (a:=q.params.length+2) (L3 (ad _)) V λaB ar av R=>?_
   have a2:=R.size
   refine vH (A.size::o.size::j.size::c) f (pf g) (a:=q.params.length+2) (L3 a2) V λaC G ag B=>?_
   have bi:=B.size
   intro aO
   have a0:J G aO:=J.push _ _
   have X:fm (bG (A.size::o.size::j.size::c) aO) (.mk G.size 0 2 2) [.mk 12 0 [],.mk 12 ps.len []]:=od (S:=A.size::o.size::j.size::c) (M:=G) [(.mk 12 0 [],aB),(.mk 12 ps.len [],aC)] aH (bQ (ao (i:=G) V) (ad _) V) (by simp;exact⟨(av.ext B).sl,ag.sl⟩) rfl rfl
   have bj:=a0.size
   refine jf (M:=aO) X (.dU (a:=q.params.length+2) (b:=f) (c:=pf g) bh (λl=>V) bh (by simp[Ar]) (by simp;exact⟨av.wx,ag.wx⟩)) (L3 V) λaP a6 a4 a8=>?_
   have D:=((R.trans B).trans a0).trans a8
   have hb:=(aG.ext D).set a4
   have ha:=(aF.ext D).put (k:=A.size) aH 0 [.i 11,.i 0,.s aP]
   have hB:cz (ai a6 A.size 0 [.i 11,.i 0,.s aP]) o.size bJ [.i 9,.i F,.s s6]:=(aj.b.ext D).congr (bd _ _ _ _ V)
   exact⟨aP,.mk 11 0 [.mk 12 0 [],.mk 12 ps.len []],hb,ha.gE,(aw.ext D).put r.rd V _ _,by rw[aA];have:=D.size;omega,hB⟩
  rintro M3 ⟨w,s,L,D,W,aP,aT⟩
  refine⟨_,L.b.cJ 0,_,L.b.cJ 1,_,L.b.cJ 2,?_⟩
  intro ar
  have R:J M3 ar:=J.push _ _
  have X:fm (bG (o.size::j.size::c) ar) (.mk M3.size 0 2 2) [s,.mk 9 F I]:=od (S:=o.size::j.size::c) (M:=M3) [(s,w),(.mk 9 F I,s6)] aH (ao V) (by simp;exact⟨L.h.gE.sl,D.sl⟩) rfl rfl
  have a2:=R.size
  refine jf (M:=ar) X (.OB r.gp.ds aH (by simp;exact⟨L.h.wx,D.wx⟩)) (L2 V) λaC G ag B=>?_
  have hb:=(BX.mk (e:=.mk 9 F I) ((aT.ext R).ext B) ((D.ext R).ext B)).set ag
  have aO:=((W.ext R).ext B).put r.rd (k:=o.size) V 0 [.i 6,.i 1,.s aC]
  exact⟨aC,.mk 6 1 [s,.mk 9 F I],hb,⟨aO.f,aO.r.mono V⟩,by rw[aA];have:=B.size;omega⟩
 .intro ac
  have D:J C ac:=J.push _ _
  have aL:ap (bG [b] ac) (.mk C.size 0 2 2) [1,2]:=ap.lit ay _ bN rfl rfl aH
  clear_value ac
  have T:=D.size
  have G:∀{y M2:E}{B:Nat},C.size<=y.size->Fz [b] y M2->m.size<=B->B<C.size->∀z,af M2 B z=af y B z:=λl K h1 h2 z=>kg K hr ⟨h1,V⟩ z
  refine⟨G (ad _) (D.fz _) V V _,G (ad _) (D.fz _) V V _,G (ad _) (D.fz _) V V _,G (ad _) (D.fz _) V V _,G (ad _) (D.fz _) V V _,?_⟩
  have Q:=aa.ext D
  refine(jR Q.r V aL aH).mono λ_ A⟨ae,en,hn,ak,u⟩=>⟨(L2 T).da u,ae,en,G T u V V _,G T u V V _,G T u V V _,G T u V V _,G T u V V _,?_⟩
  have aG:=Q.to u ak
  have a1:=u.size
  refine EE (v:=q.params++[0,1]) (S:=o.size::j.size::c) (ao V) (by simp[H]) (r.to aG.f aG.r) V (aU ((aW.then D).trans u)) bN aZ bh (L2 V) λaC aT Y aF aO ag=>?_
  rw[wl]at aF
  have aV:=ag.size
  refine⟨G V ag V V _,G V ag V V _,G V ag V V _,?_⟩
  intro U
  have ab:J Y U:=J.push _ _
  have aw:=((au.ext D).fz (by simp[H]) hk u).fz (by simp[H]) hk ag
  have X:fm (bG (o.size::j.size::c) U) (.mk Y.size 0 2 2) [aC,.mk 9 F I]:=od (S:=o.size::j.size::c) (M:=Y) [(aC,aT),(.mk 9 F I,s6)] aH (ao V) (by simp;exact⟨aF.sl,aw.h.sl⟩) rfl rfl
  have a9:=ab.size
  simp at hn
  refine jf (M:=U) X (.dU (a:=q.params.length+2) (b:=f) (c:=pf g) V (λl=>V) V (by rcases hn with s|s<;>subst s<;>simp[Ar]) (by simp;exact⟨aF.wx,aw.h.wx⟩)) (L2 V) λaB ar av R=>?_
  have hb:=((aw.ext ab).ext R).set av
  have aI:=(((aG.to ag aO).ext ab).ext R).put r.rd (k:=o.size) V 0 [.i ae,.i 0,.s aB]
  exact⟨aB,.mk ae 0 [aC,.mk 9 F I],hb,⟨aI.f,aI.r.mono V⟩,by rw[aA];have:=R.size;omega⟩
 rintro M3 ⟨w,s,L,W,aP⟩
 have L3:∀{i:E},C.size<=i.size->Lw b [m6.size,j.size,m.size] i:=λl=>lw hr bN
 have R:∀{y M2:E}{B:Nat},M3.size<=y.size->Fz [b] y M2->m.size<=B->B<C.size->∀z,af M2 B z=af y B z:=λl K h1 h2 z=>kg K hr ⟨h1,V⟩ z
 refine⟨V,V,_,E1 W.f,_,L.b.cJ 0,_,L.b.cJ 1,_,L.b.cJ 2,?_⟩
 refine vH (j.size::c) f (pf g) (a:=q.params.length) (L3 aP) ha λav ac ae D=>?_
 have T:=D.size
 have gx:∀B z,m.size<=B->B<C.size->af ac B z=af M3 B z:=λB z h1 h2=>R (ad _) (D.fz _) h1 h2 z
 refine⟨gx _ _ V V,gx _ _ V V,gx _ _ V V,(E1 (W.f.then D)).trans (E1 W.f).symm,gx _ _ V V,gx _ _ V V,gx _ _ V V,?_⟩
 have Q:=W.ext D
 refine EE (S:=j.size::c) (an V) (by simp[H]) (r.to Q.f Q.r) V (PS Q.f) V (r.gp.ty aK.2.2.1 aK.2.2.2) bh (L3 V) λal az A am ak u=>?_
 have G:∀z,af A o.size z=af ac o.size z:=R T u V V
 refine⟨G _,G _,G _,?_⟩
 have a1:=u.size
 intro Y
 have ag:J A Y:=J.push _ _
 have aj:=(L.ext D).fz (by simp[H]) hk u
 have X:fm (bG (j.size::c) Y) (.mk A.size 0 3 3) [.mk 12 ah [],al,s]:=od (S:=j.size::c) (M:=A) [(.mk 12 ah [],av),(al,az),(s,w)] aH (an V) (by simp;exact⟨(ae.fz (by simp[H]) u).sl,am.sl,aj.h.gE.sl⟩) rfl rfl
 refine jf (M:=Y) X (.m1 r.gp.ds ae.wx am.wx L.h.wx) (L3 (oh ag.size)) λaw U ar ab=>?_
 exact ar.hO (((Q.to u ak).ext ag).ext ab) r.rd V V
end
end
section
variable{g:E}{s:O}{l:List Int}{c f:Ex}
abbrev G3(M a:E)(k:Nat)(X:Prop):Prop:=af a k 0=af M k 0/\af a k 1=af M k 1/\af a k 2=af M k 2/\X
abbrev E3(v:Value)(X:Int->Int->O->Prop):Prop:=∃a b:Int,∃c:O,v=.agg #[vi a,vi b,O.v c]/\X a b c
abbrev N1(L:List Nat)(e:Nat)(M:E)(K:Int->Int->O->E->Prop):Prop:=aN cq 161 [vi 1,vi 0,O.v (.mk e 0 2 2)] M λv a=>eG L M a/\E3 v λb c d=>K b c d a
section
variable(L:List Nat)(k:Nat)(b:Int)(h i d p w l:O)(j a e:Nat)(F:Int->Int->O->E->Prop)
abbrev TR5(g:Nat)(M:E):Prop:=N1 L g M λd e f c=>G3 M c a (N1 L c.size (c.push (.cells (bD [.i 9,.i b,.s h,.i d,.i e,.s f]) bJ)) F)
abbrev TR4(c d:Int)(e:O)(M:E):Prop:=G3 M (M.push (.cells (bD [.i c,.i d,.s e,.i 9,.i b,.s i]) bJ)) a (TR5 L b h a F M.size (M.push (.cells (bD [.i c,.i d,.s e,.i 9,.i b,.s i]) bJ)))
abbrev TR3(M:E):Prop:=aN cq 160 [vp k 0,.agg #[O.v d,O.v p],O.v w,vi 0,vi 4] M λv c=>eG L M c/\E3 v λe f g=>G3 M c j (G3 M c a (TR4 L b h i a F e f g c))
abbrev TR2(f:Nat)(M:E):Prop:=aN cq 106 [O.v l,O.v (.mk f 0 3 3)] M λv c=>eG L M c/\∃s:O,v=O.v s/\G3 M c j (af c e 0=af M e 0/\af c e 1=af M e 1/\G3 M c a (TR3 L k b h i d p s j a F c))
end
def _root_.Go.Vc.U7{σ τ:Type}{n:Nat}(q:n<=9223372036854775807)(e:1<=n){m:E}{h:σ}{j:τ}{g:(σ->τ->Int->E->Prop)->(σ->τ->Int->E->Nat)->σ->τ->Int->E->Prop}(Q:Nat->σ->τ->E->Prop)(o:Q 1 h j m)
 (l:∀(k:Nat)(s:σ)(t:τ)(a:E)(I:σ->τ->Int->E->Prop)(μ:σ->τ->Int->E->Nat),1<=k->k<=n->Q k s t a->
  (k<n->∀c d b,Q (k+1) c d b->I c d (cQ ((k:Int)+1)) b/\μ c d (cQ ((k:Int)+1)) b<μ s t k a)->g I μ s t k a):
 ∃(I:σ->τ->Int->E->Prop)(μ:σ->τ->Int->E->Nat),I h j 1 m/\∀s t i a,I s t i a->g I μ s t i a:=by
 refine⟨λs t i b=>∃k:Nat,i=k/\1<=k/\k<=n/\Q k s t b,λ_ _ i _=>(n -i).toNat,⟨1,rfl,ad _,e,o⟩,?_⟩
 rintro s t i a ⟨k,rfl,e,p,r⟩
 refine l k s t a _ _ e p r λf c d b u=>?_
 rw[km f q]
 exact⟨⟨k+1,rfl,V,f,u⟩,Cu f⟩
def OM(_:E)(a:List Ce)(n:Int):Prop:=∃s:O,a=[.i 12,.i n,.s s]/\s.len=0
def OM.mono:nH 3 OM:=⟨λ_ h=>h,λ⟨_,h,_⟩=>by rw[h];rfl⟩
abbrev GV(g m:E)(s:O)(l:List Int):Prop:=Gr [] g m bJ 3 OM s l
def GV.fS{m a:E}(h:GV g m s l)(q:a[s.az]? =m[s.az]?):GV g a s l:=by
 let⟨c,b,d,e⟩:=h;exact⟨c,b,d.congr q,e.mono λ_ _ h=>h⟩
def GV.ex{a:List Nat}{m:E}(h:GV g m s l)(j:s.az∉a)(t:l.length<=1000):fm (bG a m) s (l.map λn=>.mk 12 n []):=by
 let⟨e,d,f,i⟩:=h;have H:=Gr.ng (S:=a) OM.mono ⟨e,d,f,i.mono λ_ _ h=>h⟩ j bh V;refine⟨by rw[H.len];simp,H.cap,H.fu,λq c b=>?_⟩;simp only[bR,jo]at b;obtain⟨n,k,rfl⟩:=b;obtain⟨r,⟨u,rfl,p⟩,o⟩:=H.jC q n k;exact⟨_,AB.of ⟨p,V,V,aH⟩,o⟩
structure AS(S:List Nat)(ds:List bo)(nf:List Nat)(a n0 k Q rb:Nat)(bs:O)(m M:E)(sl:O)(el:Ex)(sr:O)(er:Ex):Prop where
 b:cz M k bJ [.i 0,.i 0,.s .nil]
 hk:n0<=k
 l:HX (k::S) ds nf a M sl el
 r:HX (k::S) ds nf a M sr er
 s:Rs rb bs m Q M
section
variable{S:List Nat}{e:List bo}{h:List Nat}{a n k Q r b:Nat}{d o p:O}{m M q:E}{i j:Ex}
def AS.ext(f:AS S e h a n k Q b d m M o i p j)(c:J M q):AS S e h a n k Q b d m q o i p j:=⟨f.b.ext c,f.hk,f.l.ext c,f.r.ext c,f.s.ext c⟩
def AS.fz(c:AS S e h a n k Q b d m M o i p j)(g:b∈S)(l:k≠b)(f:Fz [b] M q)(s:Rd b d r q):AS S e h a n k r b d m q o i p j:=⟨c.b.congr (f.same k c.b.lt (by simpa using l)),c.hk,c.l.fz (by simp[g]) f,c.r.fz (by simp[g]) f,c.s.to f s⟩
def AS.new(f:n<=M.size)(l:HX S e h a M o i)(r:HX S e h a M p j)(s:Rs b d m Q M):J M (M.push (.cells (bD [.i 0,.i 0,.s .nil]) bJ))/\AS S e h a n M.size Q b d m (M.push (.cells (bD [.i 0,.i 0,.s .nil]) bJ)) o i p j:=
 have c:=J.push M (.cells (bD [.i 0,.i 0,.s .nil]) bJ)
 ⟨c,cz.push _ _ _,f,l.fW c (ad _),r.fW c (ad _),s.ext c⟩
end
section
variable{h:List Nat}{b P:Nat}{o d p:O}{i:List bo}{j:List cZ}{m:E}
def WX.m3{e:List Nat}{d:Nat}{z:Ex}(hd:i∈oB)(l:WX i e d c)(m:WX i e d f)(n:WX i e (d+3) z):WX i e d (.mk 8 3 [c,f,z]):=by
 obtain⟨-,g,-,-,j,k⟩:=MC i hd;refine .mt l (by rw[g];rfl) aH λh p o b a=>?_;rw[g]at a;rcases h with _|_|h
 .simp at b a;subst b a;rw[j];exact m
 .simp at b a;subst b a;rw[k];exact n
 .simp at b
def WX.add{b:List Nat}{a:Nat}(d:WX i b a c)(e:WX i b a f):WX i b a (.mk 1 0 [c,f]):=.dU bh (λh=>V) bh (by simp[Ar]) (by simp;exact⟨d,e⟩)
def Jl(hS:∀F∈h,F<m.size)(aT:b∈h)(F:GC b o P d p i j m)(hP:P+200+3*Cg 18<=10^16){C:Nat}{w:cZ}(hq:j[C]? =some w)(bH:1<=w.params.length):
 aN cq 119 [vp b 0,.agg #[O.v d,O.v p],vi C] m (XP h b o m (P+200+3*Cg 18) (WX i (pf j) w.params.length)):=by
 apply BR (b,0)
 simp -zeta only[aE,aD]
 intro A au
 let⟨x2,hl⟩:=dj (a:=A) (c:=au) rfl rfl
 have s1:A.size=m.size+1:=by simp[A]
 have s2:au.size=m.size+2:=by simp[au,s1]
 have hr:=F.rd.lt
 clear_value au
 have aw:∀{g:E},au.size<=g.size->∀F∈A.size::h,F<g.size:=λz=>bQ hS V V
 have r2:Rs b o m P au:=⟨x2.fz _,F.rd.ext x2⟩
 have L1:∀{g:E},au.size<=g.size->Lw b [A.size,m.size] g:=λz=>lw hr bN
 let⟨ps,bk,e0,e1⟩:=F.hp.aO hq
 have b0:=ax hq
 have b3:=F.hp.len
 have bb:=tH _ (F.gp.de w (aq hq))
 have h3:w.params.length<=3:=bb.1
 have PS:∀{g:E},Fz [b] m g->IR b g ps w.params:=λD=>bk.le (fh D)
 have E1:∀{g:E},Fz [b] m g->af g p.az (p.off+C*5+1)=some (vi w.aR):=λD=>(dY.1 (fh D _ _ _ e1)).2
 have b4:=bk.len
 have br:=F.gp.ty (t:=0) bh bh
 have aB:b∈A.size::h:=by simp[aT]
 refine⟨V,V,ps,(dY.1 (fh r2.f _ _ _ e0)).2,?_⟩
 refine vH (A.size::h) i (pf j) (a:=w.params.length+3) (L1 (ad _)) V λs3 Z bA x3=>?_
 have z3:=x3.size
 intro m4
 have x4:J Z m4:=J.push _ _
 have g4:GV Z m4 (.mk Z.size 0 1 1) [(ps.len:Int)]:=Gr.lit (f:=[[.i 12,.i ps.len,.s s3]]) OM.mono (ad _) aH rfl rfl ⟨rfl,aH,λao F B hj q=>by
  have:ao=0:=by have:=ax hj;simp at this;omega
  subst this;simp at hj q;subst hj q;exact⟨s3,rfl,bA.sl.len⟩⟩
 have s4:m4.size=Z.size+1:=by simp[m4]
 clear_value m4
 rw[aQ (b:=(ps.len:Int)+2) V V]
 refine vH (A.size::h) i (pf j) (a:=w.params.length+3) (L1 V) V λs5 m5 h5 x5=>?_
 have z5:=x5.size
 intro m6
 have x6:J m5 m6:=J.push _ _
 have g6:GV m5 m6 (.mk m5.size 0 1 1) [(ps.len:Int)+2]:=Gr.lit (f:=[[.i 12,.i (ps.len+2),.s s5]]) OM.mono (ad _) aH rfl rfl ⟨rfl,aH,λao F B hj q=>by
  have:ao=0:=by have:=ax hj;simp at this;omega
  subst this;simp at hj q;subst hj q;exact⟨s5,rfl,h5.sl.len⟩⟩
 clear_value m6
 have r3:=r2.ext x3
 have vq:∀{g u:E}{L:Int}{s:O}{l:List Int}{aW:O->E->Prop}{aS:O},GV Z g s l->J Z g->l.length<=10->aS.len=0->(∀R u,GV Z u R (l++[L])->J Z u->g.size<=u.size->(R.az=s.az\/g.size<=R.az)->(∀H,H<g.size->H≠s.az->u[H]? =g[H]?)->aW R u)->
  jb (g.push (.cells (bD [.i 12,.i L,.s aS]) bJ)) bJ [.i 0,.i 0,.s .nil] 40 s (.mk g.size 0 1 1) aW:=λaO c hl ht hk=>
  Gr.ku (g:=[.i 0,.i 0,.s .nil]) (X:=[]) OM.mono bh aO (c.fz []) ⟨_,rfl,ht⟩ V λR u g' f' aJ w=>hk R u g' f'.ext aJ.1 aJ.2 w
 refine U7 (n:=w.params.length) V bH (λao s aS g=>∃l l',GV Z g s l/\GV Z g aS l'/\l.length=ao/\l'.length=ao/\(∀L∈l,0<=L/\L<((w.params.length+3:Nat):Int))/\(∀L∈l',0<=L/\L<((w.params.length+3:Nat):Int))/\J Z g/\s.az≠aS.az) ⟨_,_,(g4.fS ((x5.trans x6).same _ (by show Z.size<_;omega))),Gr.cG OM.mono g6 (λ_ z=>Or.inl z) V,rfl,rfl,bN,bN,(x4.trans x5).trans x6,by show Z.size≠m5.size;omega⟩ ?_
 rintro ao s aS g bY μ b1 hj ⟨l,l',aO,g',bC,bE,hw,bn,xM,bF⟩ bL
 have zM:=xM.size
 have RM:=r3.ext xM
 refine dit (λz=>?_) λz=>?_
 .refine vH (A.size::h) i (pf j) (a:=w.params.length+3) (L1 V) V λs7 W h7 x7=>?_
  have gy:=aO.bg;have aY:=g'.bg
  have z7:=x7.size
  intro m8
  refine vq (u:=W) (aO.fS (x7.same _ gy.2)) (xM.trans x7) V h7.sl.len λr9 m9 r x9 z9 Y T=>?_
  refine⟨(L1 (g:=Z) z3).Bc ((((xM.trans x7).trans (J.push W _)).fz [b])) (x9.fz _),?_⟩
  refine vH (A.size::h) i (pf j) (a:=w.params.length+3) (L1 V) V λaa ag a7 ah=>?_
  intro bo
  have N:=((g'.fS (x7.same _ aY.2)).fS (T _ V (kG bF))).fS (ah.same _ V)
  have bT:=ah.size
  refine vq (u:=W) N (x9.trans ah) V a7.sl.len λbc K I aG bU U Q=>?_
  refine⟨(L1 (g:=Z) z3).Bc (((x9.trans ah).trans (J.push ag _)).fz [b]) (aG.fz _),bL V _ _ _ ⟨_,_,(r.fS (ah.same _ r.bg.2)).fS (Q _ (oh r.bg.2) V),I,bN,bN,λL q=>?_,λL q=>?_,aG,oh r.bg.2⟩⟩
  .rcases List.mem_append.1 q with z|z
   .exact hw L z
   .simp at z;omega
  .rcases List.mem_append.1 q with z|z
   .exact bn L z
   .simp at z;omega
 have gy:=aO.bg;have aY:=g'.bg
 have nS:∀H,Z.size<=H->H∉A.size::h:=λH hb z=>by have:=aw (g:=au) (ad _) H z;omega
 have be:∀l:List Int,l.length=ao->(∀L∈l,0<=L/\L<((w.params.length+3:Nat):Int))->WX i (pf j) (w.params.length+3) (.mk 9 C (l.map λL=>.mk 12 L [])):=λl b2 hl=>.dU bh (λz=>V) bh (Jz (by rw[MZ hq,dO];congr 1;omega)) (by simp;exactλL q=>.Uj (hl L q))
 refine jf (aO.ex (nS _ gy.1) V) (be l bC hw) (L1 V) λsl W h7 x7=>?_
 intro m8 m9
 obtain⟨x9,-,z9⟩:=iN (M:=W) (d:=m8) (c:=m9) rfl rfl rfl
 clear_value m9
 have z7:=x7.size
 refine jf ((g'.fS ((x7.trans x9).same _ aY.2)).ex (nS _ aY.1) V) (be l' bE bn) (lw hr bN) λsr ag a7 ah=>?_
 intro bo K
 obtain⟨aG,-,bU⟩:=iN (M:=ag) (d:=bo) (c:=K) rfl rfl rfl
 clear_value K
 have bT:=ah.size
 have a8:=((h7.ext x9).ext ah).ext aG
 have a_:=a7.ext aG
 generalize bg:Ex.mk 9 C (l.map λL=>.mk 12 L [])=el at a8
 generalize bi:Ex.mk 9 C (l'.map λL=>.mk 12 L [])=er at a_
 have bc:=(((RM.ext x7).ext x9).ext ah).ext aG
 have bZ:=((x7.trans x9).trans ah).trans aG
 have bj:∀{r:Nat},K.size<=r->r≠b:=λz=>V
 have G:∀{g u:E}{r aR:Nat},K.size<=g.size->Fz [b] g u->m.size<=r->r<K.size->af u r aR=af g r aR:=λz D h1 h2=>kg D hr ⟨h1,V⟩ _
 have L4:∀{g:E},K.size<=g.size->Lw b [ag.size,W.size,A.size,m.size] g:=λz=>lw hr bN
 have L5:∀{g:E}{r:Nat},K.size<=r->r<g.size->Lw b [r,ag.size,W.size,A.size,m.size] g:=λz h'=>lw hr bN
 have a0:∀{g:E}{r:Nat},K.size<=r->r<g.size->∀F∈r::A.size::h,F<g.size:=λz h'=>bQ (aw (g:=K) V) V h'
 have a4:=λ(c f:Ex)=>WX.add (i:=i) (b:=pf j) (a:=w.params.length+3) (c:=c) (f:=f)
 let aW:=λ(r:Nat)(g:E)=>∃s B,BX (A.size::h) i (pf j) (w.params.length+3) r g s B/\HX (r::A.size::h) i (pf j) (w.params.length+3) g sl el/\Rs b o m (P+Cg 18) g
 have bw:∃k9,el=.mk 9 C k9:=⟨_,bg.symm⟩
 have bx:∃k9,er=.mk 9 C k9:=⟨_,bi.symm⟩
 clear bg bi
 obtain⟨kl,rfl⟩:=bw
 obtain⟨kr,rfl⟩:=bx
 let av:=λ(r aX:Nat)(g:E)=>AS (A.size::h) i (pf j) (w.params.length+3) K.size r (P+aX) b o m g sl (.mk 9 C kl) sr (.mk 9 C kr)
 let aM:=λr=>[r,ag.size,W.size,A.size,m.size]
 let K0:=λ(ka:Nat×Nat)(g:E)=>ka.2=0/\K.size<=ka.1/\aW ka.1 g
 let aL:=λ(r:Nat)(q H:Int)(F:O)(u:E)=>K0 (r,0) (ai u r 0 [.i q,.i H,.s F])
 have H3:∀{g u:E}{Q:Prop},K.size<=g.size->Fz [b] g u->Q->G3 g u W.size Q:=λI D c=>⟨G I D V V,G I D V V,G I D V V,c⟩
 have H6:∀{g u:E}{Q:Prop},K.size<=g.size->Fz [b] g u->Q->G3 g u ag.size (G3 g u W.size Q):=λI D c=>⟨G I D V V,G I D V V,G I D V V,H3 I D c⟩
 have H5:∀{g u:E}{Q:Prop},K.size<=g.size->Fz [b] g u->Q->af u m.size 0=af g m.size 0/\af u m.size 1=af g m.size 1/\G3 g u W.size Q:=λI D c=>⟨G I D V V,G I D V V,H3 I D c⟩
 have H8:∀{g u:E}{Q:Prop},K.size<=g.size->Fz [b] g u->Q->G3 g u ag.size (af u m.size 0=af g m.size 0/\af u m.size 1=af g m.size 1/\G3 g u W.size Q):=λI D c=>⟨G I D V V,G I D V V,G I D V V,H5 I D c⟩
 have R7:∀{r t0:Nat}{g:E}{B:Ex},av r (Cg 18) g->fm (bG (r::A.size::h) g) (.mk t0 0 2 2) [.mk 9 C kl,B]->WX i (pf j) (w.params.length+3) B->N1 (aM r) t0 g (aL r):=λq hs hw=>
  jf hs (a4 _ _ q.l.wx hw) (L5 q.hk q.b.lt) λs' u h' c=>by
   have hb:=(BX.mk (e:=.mk 0 0 []) (s:=.nil) (q.b.ext c) ⟨⟨rfl,ad _,aH,aH⟩,.int (n:=0) bh⟩).set h';exact⟨rfl,q.hk,s',_,hb,(q.l.ext c).put aH _ _,(q.s.ext c).put F.rd (oh q.hk) _ _⟩
 have R6:∀{r:Nat}{g:E}{s:O}{q H:Int}{kk:List Ex},av r (Cg 18) g->HX (r::A.size::h) i (pf j) (w.params.length+3) g s (.mk q H kk)->N1 (aM r) g.size (g.push (.cells (bD [.i 9,.i C,.s sl,.i q,.i H,.s s]) bJ)) (aL r):=λq z=>
  R7 (q.ext (J.push _ _)) (od [(.mk 9 C kl,sl),(.mk _ _ _,_)] aH (a0 q.hk q.b.lt) (by simp;exact⟨q.l.sl,z.sl⟩) rfl rfl) z.wx
 have R5:∀{r t0:Nat}{g:E}{B:Ex},av r (Cg 18) g->fm (bG (r::A.size::h) g) (.mk t0 0 2 2) [B,.mk 9 C kr]->WX i (pf j) (w.params.length+3) B->TR5 (aM r) C sl W.size (aL r) t0 g:=λq hs hw=>
  jf hs (a4 _ _ hw q.r.wx) (L5 q.hk q.b.lt) λs' u h' c=>
   have I:=PV (mW q.hk q.b.lt)
   H3 I (c.fz _) (R6 (q.ext c) h')
 have R4:∀{r:Nat}{g:E}{s:O}{B:Ex},av r (Cg 18) g->HX (r::A.size::h) i (pf j) (w.params.length+3) g s B->TR4 (aM r) C sl sr W.size (aL r) B.op B.bK s g:=λ{r g s B} q z=>
  have c:=J.push g (.cells (bD [.i B.op,.i B.bK,.s s,.i 9,.i C,.s sr]) bJ)
  have I:=PV (mW q.hk q.b.lt)
  H3 I (c.fz _) (R5 (q.ext c) (od [(B,s),(.mk 9 C kr,sr)] aH (a0 q.hk q.b.lt) (by simp;exact⟨z.sl,q.r.sl⟩) rfl rfl) z.wx)
 have bf:∀{a5 L':List Nat}{g:E}{ab:O}{K':Int->Int->O->E->Prop},(∀F∈a5,F<g.size)->b∈a5->Rs b o m P g->IR b g ab (w.params++[3,0,3])->Lw b L' g->(∀B s u,HX a5 i (pf j) (w.params.length+3) u s B->Rd b o (P+Cg 18) u->Fz [b] g u->K' B.op B.bK s u)->aN cq 160 [vp b 0,.agg #[O.v d,O.v p],O.v ab,vi 0,vi 4] g λbP u=>eG L' g u/\∃r0 r1:Int,∃r2:O,bP=.agg #[vi r0,vi r1,O.v r2]/\K' r0 r1 r2 u:=λbB bI R hw hL hk=>
  EE (v:=w.params++[3,0,3]) bB bI (F.to R.f R.r) V hw bN br bh hL λB s u z d D=>hk B s u (by simpa using z) d D
 have R3:∀{r:Nat}{g:E}{ab:O},av r 0 g->IR b g ab (w.params++[3,0,3])->TR3 (aM r) b C sl sr d p ab ag.size W.size (aL r) g:=λq hw=>
  bf (a0 q.hk q.b.lt) (by simp[aT]) q.s hw (L5 q.hk q.b.lt) λB s u z d' D=>
   have I:=PV (mW q.hk q.b.lt)
   H6 I D (R4 (q.fz aB (bj q.hk) D d') z)
 have R2:∀{r t0:Nat}{g:E},av r 0 g->ap (bG [b] g) (.mk t0 0 3 3) [3,0,3]->TR2 (aM r) b C sl sr d p ps ag.size W.size m.size (aL r) t0 g:=λq hw=>
  (eE (S:=[b]) (by simp;exact q.s.r.lt) (PS q.s.f) hw bN).mono λ_ u⟨ab,wl,B,gw,qw,c⟩=>by
   subst qw;have I:=PV (mW q.hk q.b.lt);exact⟨(L5 q.hk q.b.lt).da (c.fz _),ab,B,H8 I (c.fz _) (R3 (q.ext c) (GI.done gw (by simp;exact q.s.r.lt) bN))⟩
 have aF:∀{g:E}{aX:Nat},K.size<=g.size->HX (A.size::h) i (pf j) (w.params.length+3) g sl (.mk 9 C kl)->HX (A.size::h) i (pf j) (w.params.length+3) g sr (.mk 9 C kr)->Rs b o m (P+aX) g->J g (g.push (.cells (bD [.i 0,.i 0,.s .nil]) bJ))/\av g.size aX (g.push (.cells (bD [.i 0,.i 0,.s .nil]) bJ)):=λh1 h2 h3 h4=>AS.new h1 h2 h3 h4
 have r0:Rs b o m (P+0) K:=bc
 have wl:∀g:E,b<g.size->ap (bG [b] (g.push (.cells (bD [.i 3,.i 0,.i 3]) ay))) (.mk g.size 0 3 3) [3,0,3]:=λg z=>ap.lit ay _ (by simp;exact z) rfl rfl aH
 refine⟨K0,⟨?_,?_⟩,?_⟩
 .intro ac
  have N:J K ac:=J.push _ _
  have a2:ap (bG [b] ac) (.mk K.size 0 3 3) [3,0,3]:=wl K bc.r.lt
  clear_value ac
  have aK:=N.size
  have a9:=a8.ext N;have ba:=a_.ext N;have Y:=r0.ext N
  refine H8 (ad _) (N.fz _) ⟨?_,?_⟩
  .refine(eE (S:=[b]) (by simp;exact Y.r.lt) (PS Y.f) a2 bN).mono λ_ al⟨ab,bR,B,gw,qw,T⟩=>⟨(L4 aK).da (T.fz _),ab,B,H8 aK (T.fz _) ⟨?_,?_⟩⟩
   all_goals have a3:IR b al ab (w.params++[3,0,3]):=qw▸GI.done gw (by simp;exact Y.r.lt) (by rw[<-qw];simp;omega)
   all_goals have bu:=T.size
   .refine bf (a5:=A.size::h) (aw V) aB (Y.ext T) a3 (L4 V) λaj a1 am ak a6 ae=>H6 V ae ⟨?_,?_⟩
    all_goals have az:=(a9.ext T).fz aB ae
    all_goals have aP:=(ba.ext T).fz aB ae
    all_goals have aV:=(Y.ext T).to ae a6
    all_goals have bV:=ae.size
    .intro ar
     have aa:J am ar:=J.push _ _
     have bl:fm (bG (A.size::h) ar) (.mk am.size 0 2 2) [aj,.mk 9 C kr]:=od [(aj,a1),(.mk 9 C kr,sr)] aH (aw V) (by simp;exact⟨ak.sl,aP.sl⟩) rfl rfl
     have bW:=aa.size
     refine H3 V (aa.fz _) ⟨?_,?_⟩
     .refine jf (M:=ar) bl (a4 _ _ ak.wx aP.wx) (L4 V) λbM aC aZ aI=>H3 V (aI.fz _) ⟨?_,?_⟩
      all_goals have Q:=aa.trans aI
      all_goals have bX:=aI.size
      .intro aU
       have an:J aC aU:=J.push _ _
       have bm:fm (bG (A.size::h) aU) (.mk aC.size 0 2 2) [.mk 9 C kl,.mk 1 0 [aj,.mk 9 C kr]]:=od [(.mk 9 C kl,sl),(.mk 1 0 [aj,.mk 9 C kr],bM)] aH (aw V) (by simp;exact⟨(az.ext Q).sl,aZ.sl⟩) rfl rfl
       have b5:=an.size
       refine⟨?_,?_⟩
       .refine jf (M:=aU) bm (a4 _ _ az.wx aZ.wx) (L4 V) λbO bp bz bs=>?_
        have b6:=bs.size
        intro bq
        have bS:J bp bq:=J.push _ _
        refine H8 V (bS.fz _) ?_
        intro bK
        let⟨bt,bv,b7⟩:=BX.new (f:=bq) (d:=bK) bz rfl rfl
        have U:=Q.trans (an.trans bs)
        exact⟨rfl,by show K.size<=bp.size;omega,bO,_,bv,(az.ext U).fW bt (ad _),(aV.ext U).ext bt⟩
       .let⟨U,q⟩:=aF (g:=aU) V ((az.ext Q).ext an) ((aP.ext Q).ext an) ((aV.ext Q).ext an)
        exact H8 V (U.fz _) (R7 q (fm.le (U.bG λH hb=>(List.mem_cons.1 hb).elim (λz=>Or.inr V) Or.inl) bm) aZ.wx)
      .let⟨U,q⟩:=aF (g:=aC) V (az.ext Q) (aP.ext Q) (aV.ext Q)
       exact H8 V (U.fz _) (R6 q (aZ.fW U (ad _)))
     .let⟨U,q⟩:=aF (g:=ar) V (az.ext aa) (aP.ext aa) (aV.ext aa)
      exact H8 V (U.fz _) (R5 q (fm.le (U.bG λH hb=>(List.mem_cons.1 hb).elim (λz=>Or.inr V) Or.inl) bl) ak.wx)
    .let⟨U,q⟩:=aF (g:=am) V az aP aV
     exact H8 V (U.fz _) (R4 q (ak.fW U (ad _)))
   .let⟨U,q⟩:=aF (g:=al) V (a9.ext T) (ba.ext T) (Y.ext T)
    exact H8 V (U.fz _) (R3 q (a3.le (fh (U.fz _))))
  .let⟨U,q⟩:=aF (g:=ac) aK a9 ba Y
   exact H8 aK (U.fz _) (R2 q (a2.le (fh (U.fz _))))
 .let⟨U,q⟩:=aF (g:=K) (ad _) a8 a_ r0
  have za:=U.size
  intro ac
  refine H8 (ad _) (U.fz _) ?_
  intro al
  have T:J ac al:=J.push _ _
  exact H8 za (T.fz _) (R2 (q.ext T) (wl ac q.s.r.lt))
 rintro⟨r,aR⟩ g ⟨ho,hk,s,B,H,hl,R⟩
 simp only at ho hk H hl
 subst ho
 have bt:=H.b.lt
 have a9:=bj hk
 have U:∀{u:E},g.size<=u.size->Lw b [ag.size,W.size,A.size,m.size] u:=λz=>L4 V
 have I:K.size<=g.size:=V
 have aZ:∀{u:E},g.size<=u.size->∀F∈r::A.size::h,F<u.size:=λz=>a0 hk V
 refine⟨λu=>∃s B,BX (A.size::h) i (pf j) (w.params.length+3) r u s B/\Rs b o m (P+2*Cg 18) u/\g.size<=u.size,⟨V,V,_,E1 R.f,λ_=>?_,λ_=>⟨s,B,H,⟨R.f,R.r.mono V⟩,ad _⟩⟩,?_⟩
 .intro ac
  have N:J g ac:=J.push _ _
  have a2:ap (bG [b] ac) (.mk g.size 0 3 3) [3,0,3]:=wl g R.r.lt
  clear_value ac
  have aK:=N.size
  have Y:=R.ext N
  refine H5 I (N.fz _) ?_
  refine(eE (S:=[b]) (by simp;exact Y.r.lt) (PS Y.f) a2 bN).mono λ_ al⟨ab,bR,e',gw,qw,T⟩=>⟨(U aK).da (T.fz _),ab,e',H5 V (T.fz _) ?_⟩
  have a3:IR b al ab (w.params++[3,0,3]):=qw▸GI.done gw (by simp;exact Y.r.lt) (by rw[<-qw];simp;omega)
  have bu:=T.size
  have aP:=Y.ext T
  refine EE (v:=w.params++[3,0,3]) (S:=r::A.size::h) (aZ V) (by simp[aT]) (F.to aP.f aP.r) V a3 bN br bh (U V) λaj a1 am ak a6 ae=>H3 V ae ?_
  have ak:HX (r::A.size::h) i (pf j) (w.params.length+3) am a1 aj:=by simpa using ak
  have bV:=ae.size
  refine vH (r::A.size::h) i (pf j) (a:=w.params.length+3) (U V) V λbm ar az aa=>H3 V (aa.fz _) ?_
  intro aC
  have aI:J ar aC:=J.push _ _
  have bW:=aa.size
  have ba:=(((hl.ext N).ext T).fz (by simp[aT]) ae).ext aa
  have hs:fm (bG (r::A.size::h) aC) (.mk ar.size 0 3 3) [.mk 9 C kl,aj,.mk 12 (ps.len+2) []]:=od [(.mk 9 C kl,sl),(aj,a1),(.mk 12 (ps.len+2) [],bm)] aH (aZ V) (by simp;exact⟨ba.sl,(ak.ext aa).sl,az.sl⟩) rfl rfl
  have bX:=aI.size
  refine jf (M:=aC) hs (.OB F.gp.ds aH (by simp;exact⟨ba.wx,ak.wx,az.wx⟩)) (U V) λbp aU bq an=>?_
  have aV:=((((H.ext N).ext T).fz (by simp[aT]) a9 ae).ext (aa.trans aI)).ext an
  have hb:=aV.set bq
  have bl:=(((aP.to ae a6).ext (aa.trans aI)).ext an).put F.rd (k:=r) V 0 [.i 6,.i 3,.s bp]
  exact⟨aV.b.fg aH,λb' bs=>bd _ _ _ _ (by simp at bs;omega),bp,.mk 6 3 [.mk 9 C kl,aj,.mk 12 (ps.len+2) []],hb,⟨bl.f,bl.r.mono V⟩,by rw[aA];have:=an.size;omega⟩
 rintro M3 ⟨s,B,H,R,aJ⟩
 refine⟨V,V,_,E1 R.f,_,H.b.cJ 0,_,H.b.cJ 1,_,H.b.cJ 2,?_⟩
 refine vH (A.size::h) i (pf j) (a:=w.params.length) (U aJ) V λaU ac ak N=>?_
 have aK:=N.size
 have ae:∀{M1 M2:E}{aR:Nat},g.size<=M1.size->Fz [b] M1 M2->af M2 r aR=af M1 r aR:=λz D=>kg D hr ⟨V,V⟩ _
 refine⟨ae aJ (N.fz _),ae aJ (N.fz _),ae aJ (N.fz _),(E1 (R.f.then N)).trans (E1 R.f).symm,G V (N.fz _) V V,G V (N.fz _) V V,G V (N.fz _) V V,?_⟩
 have Y:=R.ext N
 refine EE (S:=A.size::h) (aw V) aB (F.to Y.f Y.r) V (PS Y.f) V (F.gp.ty bb.2.2.1 bb.2.2.2) bh (U V) λaj aV al an aP T=>⟨ae V T,ae V T,ae V T,?_⟩
 have bu:=T.size
 intro am
 have aC:J al am:=J.push _ _
 have aI:=(H.ext N).fz aB a9 T
 have hs:fm (bG (A.size::h) am) (.mk al.size 0 3 3) [.mk 12 0 [],aj,B]:=od [(.mk 12 0 [],aU),(aj,aV),(B,s)] aH (aw V) (by simp;exact⟨(ak.fz aB T).sl,an.sl,aI.h.gE.sl⟩) rfl rfl
 refine jf (M:=am) hs (.m3 F.gp.ds ak.wx an.wx H.h.wx) (U (oh aC.size)) λbm ar az aa=>?_
 exact az.hO (((Y.to T aP).ext aC).ext aa) F.rd V V
end
end
section
variable{a:E}{c:List Ce}{b:Nat}
section
variable{f:List Nat}{e P:Nat}{h d p:O}{i:List bo}{g:List cZ}{m:E}
def Me(hS:∀o∈f,o<m.size)(aj:e∈f)(o:GC e h P d p i g m)(hP:P+300+40*Cg 18<=10^16){R:Nat}{q:cZ}(A:g[R]? =some q)(ak:R=0->q.params.length=0):
 aN cq 75 [vp e 0,.agg #[O.v d,O.v p],vi R] m (XP f e h m (P+300+40*Cg 18) (XI i (pf g) q.params.length)):=by
 apply Fk (e,0)
 simp -zeta only[aE,aD]
 intro l x
 let⟨x2,hl⟩:=dj (a:=l) (c:=x) rfl rfl
 have s1:l.size=m.size+1:=by simp[l]
 have s2:x.size=m.size+2:=by simp[x,s1]
 have hr:=o.rd.lt
 clear_value x
 have ae:∀{a:E},x.size<=a.size->∀o∈l.size::f,o<a.size:=λc=>bQ hS V V
 have u:Rs e h m P x:=⟨x2.fz _,o.rd.ext x2⟩
 have K:∀{a:E},x.size<=a.size->Lw e [l.size,m.size] a:=λc=>lw hr bN
 let⟨W,ag,e0,e1⟩:=o.hp.aO A
 have ao:=ax A
 have ap:=o.hp.len
 have ab:=tH _ (o.gp.de q (aq A))
 have h3:q.params.length<=3:=ab.1
 have PS:∀{a:E},Fz [e] m a->IR e a W q.params:=λz=>ag.le (fh z)
 have au:=ag.len
 have aa:e∈l.size::f:=by simp[aj]
 have am:=o.gp.ty ab.2.2.1 ab.2.2.2
 refine⟨V,V,W,(dY.1 (fh u.f _ _ _ e0)).2,V,V,_,(dY.1 (fh u.f _ _ _ e1)).2,?_⟩
 refine(Li ((PS u.f).le (bz _ _)) 1).mono λ_ m3⟨pl,en,ar,x3⟩=>⟨(K (ad _)).da (x3.fz _),pl,en,?_⟩
 have z3:=x3.size
 refine Il (l.size::f) i (pf g) q.params.length (K z3) (n:=0) bh λs4 r D x4=>?_
 have z4:=x4.size
 intro m5 I
 let⟨x6,b6,z6⟩:=BX.new (f:=m5) (d:=I) D rfl rfl
 clear_value I
 have r6:=((u.ext x3).ext x4).ext x6
 have hk:r.size≠e:=V
 have L6:∀{a:E},I.size<=a.size->Lw e [r.size,l.size,m.size] a:=λc=>lw hr bN
 refine(bV r6.r V 4).mono λ_ s⟨b,en,_,_,d7,N⟩=>⟨(L6 (ad _)).da N,b,en,?_⟩
 have J:=r6.to N d7
 have z7:=N.size
 have C:=o.to J.f J.r
 have F:∀j∈r.size::l.size::f,j<s.size:=bQ (ae (a:=s) V) (ad _) V
 have G:e∈r.size::l.size::f:=by simp[aj]
 have hO:∀{z:Nat}{ac:List Value}{Q:Nat},aN cq z ac s (XP (r.size::l.size::f) e h s Q (WX i (pf g) q.params.length))->Q<=P+300+20*Cg 18->aN cq z ac s λv B=>eG [r.size,l.size,m.size] s B/\∃X Y:Int,∃u:O,v=.agg #[vi X,vi Y,O.v u]/\
  ∃w j,BX (l.size::f) i (pf g) q.params.length r.size (ai B r.size 0 [.i X,.i Y,.s u]) w j/\Rs e h m (P+300+20*Cg 18) (ai B r.size 0 [.i X,.i Y,.s u])/\I.size<=(ai B r.size 0 [.i X,.i Y,.s u]).size:=λc hQ=>
  XP.kk c (L6 z7) λw j B h1 h2 h3 D=>by
   have hb:=((b6.fz aa hk N).fz aa hk D).set ⟨h1,h2⟩;have ah:=(J.to D h3).put o.rd (k:=r.size) V 0 [.i j.op,.i j.bK,.s w];exact⟨w,j,hb,⟨ah.f,ah.r.mono hQ⟩,by rw[aA];have:=D.size;omega⟩
 have yI:=λ(a:E)(S':List Nat)(h1:∀j∈S',j<a.size)(h2:e∈S')(Q:Nat)(cM:GC e h Q d p i g a)(z:Fz [e] m a)(hQ:Q+20*Cg 18<=10^16)(t:Int)(hb:0<=t/\t<=18)=>K4 (S:=S') h1 h2 cM hQ (PS z) V am hb
 have T:=hO ((yI s _ F G _ C J.f V 18 bh).mono λ_ _ c=>c.mono (λj L=>L.1) (ad _)) V
 have first:1<=q.params.length->∃y:Int,q.params[0]? =some y/\af s W.az (W.off+Int.toNat 0*1)=some (vi y):=λc=>by
  let⟨y,U⟩:=cg q.params 0;exact⟨y,U,(dY.1 ((PS J.f).aO U)).2⟩
 refine⟨λa=>∃w j,BX (l.size::f) i (pf g) q.params.length r.size a w j/\Rs e h m (P+300+20*Cg 18) a/\I.size<=a.size,?_,?_⟩
 .refine⟨λv a=>(v=true->R=0)/\s=a,⟨λ_=>⟨λc=>by simp at c;omega,rfl⟩,λ_=>⟨sx,rfl⟩⟩,?_⟩
  rintro v _ ⟨H,rfl⟩
  refine⟨λc=>?_,λ_=>?_⟩
  .have Z:=ak (H c)
   exact hO ((Jh F G C V).mono λ_ _ c=>c.mono (λj L=>by rw[Z];exact L) (ad _)) V
  refine⟨λv a=>(v=true->0<=pl)/\s=a,⟨λ_=>⟨λc=>⟨λ_=>⟨λ_=>by simpa using c,rfl⟩,λ_=>⟨λ_=>by simpa using c,rfl⟩⟩,λ_=>⟨aH,rfl⟩⟩,λ_=>⟨aH,rfl⟩⟩,?_⟩
  rintro v _ ⟨H,rfl⟩
  refine⟨λc=>hO (Jk F G C V A ⟨H c,V⟩) V,λ_=>?_⟩
  refine⟨λv a=>(v=true->1<=q.params.length)/\s=a,⟨λ_=>⟨λc=>?_,λ_=>⟨aH,rfl⟩⟩,λ_=>⟨aH,rfl⟩⟩,?_⟩
  .simp only[an]at c
   let⟨y,U,L⟩:=first V
   exact⟨bh,V,y,L,λ_=>⟨λ_=>⟨λ_=>V,rfl⟩,λ_=>⟨λ_=>V,rfl⟩⟩,λ_=>⟨aH,rfl⟩⟩
  rintro v _ ⟨H,rfl⟩
  refine⟨λc=>hO (Jl F G C V A (H c)) V,λ_=>⟨λ_=>⟨λc=>?_,λ_=>T⟩,λ_=>T⟩⟩
  simp only[an]at c
  let⟨y,U,L⟩:=first V
  have Z:=hO (IZ F G C V A V) V
  exact⟨bh,V,y,L,λ_=>⟨λ_=>Z,λ_=>⟨λ_=>Z,λ_=>T⟩⟩,λ_=>T⟩
 rintro a ⟨w,j,t,al,av⟩
 refine⟨_,t.b.cJ 0,_,t.b.cJ 1,_,t.b.cJ 2,?_⟩
 refine(zU (fm.le (bz _ _) t.h.sl)).mono λ_ m8⟨n8,e8,q8,Z⟩=>⟨(K V).da (Z.fz _),n8,e8,?_⟩
 have z8:=Z.size
 have H:=al.ext Z
 have L:=t.ext Z
 refine⟨λ_=>XP.ret (yI m8 (l.size::f) (ae V) aa _ (o.to H.f H.r) H.f V 12 bh) (K V) H.f o.rd V (λ_ c=>c) V,λc=>⟨_,L.b.cJ 0,_,L.b.cJ 1,_,L.b.cJ 2,?_⟩⟩
 simp only[br]at c
 have r9:=H.put o.rd (k:=l.size) V 0 [.i j.op,.i j.bK,.s w]
 exact⟨w,j,rfl,(L.h.gE.put aH _ _).gE.sl,⟨t.h.wx,V⟩,r9.r.mono V,r9.f⟩
end
def AO{α:Type}{R:E->List Ce->α->Prop}{n:Nat}(g:nH n R){S:List Nat}(o:∀d∈S,d<a.size)(e:Nat)(l:List (α×List Ce))(h:∀x∈l,R (bG S a) x.2 x.1)(p:c=l.flatMap (·.2))(q:b=l.length):
 Gr S a (a.push (.cells (bD c) e)) e n R (.mk a.size 0 b b) (l.map (·.1)):=by
 refine Gr.lit (f:=l.map (·.2)) g (ad _) o (by rw[p,List.flatMap_def]) (by simp[q]) ⟨aH,λd i=>?_,λr d e k j=>?_⟩
 .simp at i;let⟨m,f⟩:=i;exact g.len (h _ f)
 .simp only[bR,jo]at k j
  obtain⟨x,m,rfl⟩:=k
  obtain⟨y,f,rfl⟩:=j
  rw[m]at f;simp at f;subst f
  exact h x (aq m)
abbrev UB(m:E)(s:O)(l:List (List Int)):Prop:=eN m 1 (mf m) s l
def vM{S:List Nat}(d:∀e∈S,e<a.size)(e:Nat)(l:List (List Int×O))(k:l.length<=1000)(h:∀x∈l,ap (bG S a) x.2 x.1)(f:c=l.map λx=>.s x.2)(g:b=l.length):UB (bG S (a.push (.cells (bD c) e))) (.mk a.size 0 b b) (l.map (·.1)):=by
 have H:=AO (R:=λm c x=>mf m c x) (n:=1) ⟨λh=>mf.le h _ _,λ⟨_,h,_⟩=>by rw[h];rfl⟩ d e (l.map λx=>(x.1,[Ce.s x.2])) (λx i=>by simp at i;obtain⟨m,o,j,rfl⟩:=i;exact⟨_,rfl,h _ j⟩) (c:=c) (b:=b) (by rw[f];clear f g h k;induction l<;>simp_all) (by simp[g]);have i:=Gr.done mf.mono H d bh bN;rwa[show(l.map λx=>(x.1,[Ce.s x.2])).map (·.1)=l.map (·.1)by simp[Xi,Function.comp_def]]at i
abbrev Zd(S:List Nat)(a m:E)(s:O)(l:List bo):Prop:=Gr S a m jL 3 ij s l
end
section
variable{K:O->E->Prop}
section
variable{S L:List Nat}{c P:Nat}{d:O}{m b:E}
def MK(f:O)(d:∀a∈L,a<b.size)(g:∀a,J b a->K f a):aN cq 114 [O.v f] b λv a=>eG L b a/\∃c:O,v=.agg #[O.v c]/\K c a:=
 (KU f b).mono λ_ a⟨e,x⟩=>⟨x.da d,f,e,g a x⟩
def Cq(f:O)(d:∀a,J b a->K f a):aN cq 114 [O.v f] b λv a=>∃c:O,v=.agg #[O.v c]/\K c a:=
 (KU f b).mono λ_ a⟨e,x⟩=>⟨f,e,d a x⟩
def vr(hS:∀s∈S,s<m.size)(T:c∈S)(Q:Rd c d P m)(hP:P+1<=10^16):
 aN cq 72 [vp c 0] m λa6 U=>∃t ds,a6=O.v t/\Zd S m U t ds/\ds∈oB/\Rd c d (P+1) U/\Fz [c] m U:=by
 apply zC (c,0)
 simp -zeta only[aE,aD]
 have hr:=Q.lt
 have i:∀{b:E},m.size<=b.size->∀s∈S,s<b.size:=λh s hc=>by have:=hS s hc;omega
 have I:∀(b:E)(l:List Int)(L:List Ce)(D:Nat),m.size<=b.size->L=l.map Ce.i->D=l.length->l.length<=1000->ap (bG S (b.push (.cells (bD L) ay))) (.mk b.size 0 D D) l:=λb l L D h h1 h2 h3=>ap.lit ay l (i h) h1 h2 V
 have au:∀(b:E)(f:Nat),ap (bG S b) (.mk f 0 0 0) []:=λb f=>lU _ _ _ _ _ _
 intro a3
 have x1:J m a3:=J.push _ _
 refine Cq _ λy x2=>?_
 intro m3
 have x3:J y m3:=J.push _ _
 have z2:=(x1.trans x2).size
 have i3:ap (bG S m3) (.mk y.size 0 2 2) [0,1]:=I y [0,1] _ _ z2 rfl rfl bh
 clear_value m3
 refine Cq _ λm4 H=>?_
 intro q
 have x5:J m4 q:=J.push _ _
 have z4:=(x3.trans H).size
 have c5:UB (bG S q) (.mk m4.size 0 2 2) [[],[0,1]]:=vM (i V) _ [([],.mk m.size 0 0 0),([0,1],.mk y.size 0 2 2)] aH (by simp;exact⟨au _ _,i3.le (H.cR _)⟩) rfl rfl
 clear_value q
 intro m6 B
 obtain⟨x7,-,z7⟩:=iN (M:=q) (d:=m6) (c:=B) rfl rfl rfl
 clear_value B
 have z5:=x5.size
 intro m8
 have x8:J B m8:=J.push _ _
 clear_value m8
 have z8:=x8.size
 refine MK _ bN λC x9=>?_
 intro W
 have aC:J C W:=J.push _ _
 have z9:=x9.size
 have aY:ap (bG S W) (.mk C.size 0 3 3) [3,0,3]:=I C [3,0,3] _ _ V rfl rfl bh
 clear_value W
 have a_:=aC.size
 refine MK _ bN λX ai=>?_
 intro k
 have aF:J X k:=J.push _ _
 have ba:=ai.size
 have aO:UB (bG S k) (.mk X.size 0 2 2) [[],[3,0,3]]:=vM (i V) _ [([],.mk B.size 0 0 0),([3,0,3],.mk C.size 0 3 3)] aH (by simp;exact⟨au _ _,aY.le (ai.cR _)⟩) rfl rfl
 clear_value k
 intro a4 n
 obtain⟨a7,-,bc⟩:=iN (M:=k) (d:=a4) (c:=n) rfl rfl rfl
 clear_value n
 have bb:=aF.size
 have LL:∀{b:E},n.size<=b.size->∀f∈[k.size,q.size],f<b.size:=λh=>bN
 intro Y
 have aG:J n Y:=J.push _ _
 have aZ:ap (bG S Y) (.mk n.size 0 2 2) [1,3]:=I n [1,3] _ _ V rfl rfl bh
 clear_value Y
 have a8:=aG.size
 refine MK _ (LL a8) λZ aj=>?_
 intro o
 have aI:J Z o:=J.push _ _
 have bd:=aj.size
 have aP:UB (bG S o) (.mk Z.size 0 1 1) [[1,3]]:=vM (i V) _ [([1,3],.mk n.size 0 2 2)] aH (by simp;exact aZ.le (aj.cR _)) rfl rfl
 clear_value o
 have be:=aI.size
 intro aa
 have aJ:J o aa:=J.push _ _
 have a0:ap (bG S aa) (.mk o.size 0 3 3) [1,1,0]:=I o [1,1,0] _ _ V rfl rfl bh
 clear_value aa
 have bf:=aJ.size
 refine MK _ (LL V) λx ak=>?_
 intro ab
 have al:J x ab:=J.push _ _
 have bg:=ak.size
 have a1:ap (bG S ab) (.mk x.size 0 1 1) [0]:=I x [0] _ _ V rfl rfl bh
 clear_value ab
 have bi:=al.size
 refine MK _ (LL V) λz F=>?_
 intro ac
 have G:J z ac:=J.push _ _
 have bj:=F.size
 have a2:ap (bG S ac) (.mk z.size 0 1 1) [3]:=I z [3] _ _ V rfl rfl bh
 clear_value ac
 have bk:=G.size
 refine MK _ (LL V) λae u=>?_
 intro p
 have aK:J ae p:=J.push _ _
 have bl:=u.size
 have aQ:UB (bG S p) (.mk ae.size 0 3 3) [[1,1,0],[0],[3]]:=vM (i V) _ [([1,1,0],.mk o.size 0 3 3),([0],.mk x.size 0 1 1),([3],.mk z.size 0 1 1)] aH (by simp;exact⟨a0.le ((((((ak.trans al).trans F).trans G).trans u)).cR _),a1.le (((F.trans G).trans u).cR _),a2.le (u.cR _)⟩) rfl rfl
 clear_value p
 have bm:=aK.size
 have ax:=(((((aJ.trans ak).trans al).trans F).trans G).trans u).trans aK
 have aw:=(((a7.trans aG).trans aj).trans aI).trans ax
 have K:=(((((x7.trans x8).trans x9).trans aC).trans ai).trans aF).trans aw
 have w:∀{am ao:E}{t:O}{l:List (List Int)},J am ao->UB (bG S am) t l->UB (bG S ao) t l:=λaB h=>eN.le h (aB.cR _) (mf.le (aB.cR _))
 have ag:UB (bG S p) .nil []:=⟨rfl,ad _,aH,aH⟩
 intro e
 have r:J p e:=J.push _ _
 have aT:bX (bG S e) (.mk p.size 0 4 4) Rj:=(AO (R:=ij) ij.mono (i (b:=p) V) jL [(⟨0,0,[[1,3]]⟩,[.i 0,.i 0,.s (.mk Z.size 0 1 1)]),(⟨1,0,[]⟩,[.i 1,.i 0,.s .nil]),(⟨0,0,[[1,1,0],[0],[3]]⟩,[.i 0,.i 0,.s (.mk ae.size 0 3 3)]),(⟨0,1,[]⟩,[.i 0,.i 1,.s .nil])] (by simp;exact⟨⟨_,rfl,w ax aP⟩,⟨_,rfl,ag⟩,⟨_,rfl,aQ⟩,⟨_,rfl,ag⟩⟩) rfl rfl).done ij.mono (i V) bh bh
 clear_value e
 have bn:=r.size
 intro A
 have v:J e A:=J.push _ _
 have az:Zd S e A (.mk e.size 0 3 3) JT:=AO (R:=ij) ij.mono (i (b:=e) V) jL [(⟨0,0,[[],[0,1]]⟩,[.i 0,.i 0,.s (.mk m4.size 0 2 2)]),(⟨0,0,[]⟩,[.i 0,.i 0,.s .nil]),(⟨0,0,[[],[3,0,3]]⟩,[.i 0,.i 0,.s (.mk X.size 0 2 2)])] (by simp;exact⟨⟨_,rfl,w (K.trans r) c5⟩,⟨_,rfl,w r ag⟩,⟨_,rfl,w (aw.trans r) aO⟩⟩) rfl rfl
 clear_value A
 have av:=((((x1.trans x2).trans x3).trans H).trans x5).trans (K.trans (r.trans v))
 have bo:=v.size
 have aM:Lw c [k.size,q.size] A:=λf j=>⟨LL V f j,by simp at j;omega⟩
 refine(bV (Q.ext av) V 5).mono λ_ af⟨aA,aR,k0,k1,N,g⟩=>⟨aM.da g,aA,aR,λh=>?_,λ_=>⟨_,JT,rfl,Gr.cG ij.mono (az.fS ij.mono g (by simp;exact⟨T,V⟩)) (λ_ h=>Or.inl h) V,by simp[oB],N,(av.fz _).trans g⟩⟩
 simp only[an]at h
 let⟨ah,hq⟩:=cg Rj aA.toNat (by simp[Rj];omega)
 have aX:Le (bG S e) (bG (e.size::S) af):=(v.bG λf j=>(List.mem_cons.1 j).elim (λh=>Or.inr V) Or.inl).trans (g.cR (by simp[T]))
 let⟨aS,hf,e0,e1,e2⟩:=(aT.le aX).aO hq
 refine⟨k0,bN,_,(dY.1 e0).2,_,(dY.1 e1).2,_,(dY.1 e2).2,?_⟩
 intro a9
 have aU:Zd S e af (.mk e.size 0 3 3) JT:=az.fS ij.mono g (by simp;exact⟨T,V⟩)
 have hz:=g.size
 have aW:JT++[ah]∈oB:=by
  have:=aq hq;simp only[oB,aV,Xj];exact Or.inr ⟨ah,this,rfl⟩
 refine Gr.ku (g:=[.i 0,.i 0,.s .nil]) (k:=ah) ij.mono bh aU ((v.fz _).trans g) ⟨aS,rfl,hf⟩ (by simp[JT]) λa5 M' g' f' z' q'=>?_
 have ar:=((((((x1.trans x2).trans x3).trans H).trans x5).trans (K.trans r)).fz [c]).trans f'
 have aL:Lw c [k.size,q.size] e:=λf j=>⟨LL V f j,by simp at j;omega⟩
 exact⟨aL.Bc (((v.fz [c]).trans g).then (J.push af _)) f',a5,_,rfl,Gr.cG ij.mono g' (λ_ h=>Or.inl h) V,aW,Q.LZ N ar (q' c N.lt (by show c≠e.size;omega)),ar⟩
end
end
section
variable{a:Nat}{b:List Ce}
def OJ(M:E)(b:List Ce)(x:cZ×Option Ex):Prop:=∃c a k z,b=[.s c,.i x.1.aR,.i a,.i k,.s z]/\ap M c x.1.params/\∀e,x.2=some e->a=e.op/\k=e.bK/\fm M z e.bF
def OJ.mono:nH 5 OJ:=⟨λh⟨b,a,k,z,e,c,d⟩=>⟨b,a,k,z,e,c.le h,λx j=>let⟨f,g,i⟩:=d x j;⟨f,g,fm.le h i⟩⟩,λ⟨_,_,_,_,e,_⟩=>by rw[e];rfl⟩
def XJ(M:E)(b:List Ce)(x:cZ×Ex):Prop:=∃a s,b=[.s a,.i x.1.aR,.i x.2.op,.i x.2.bK,.s s]/\ap M a x.1.params/\fm M s x.2.bF
def XJ.mono:nH 5 XJ:=⟨λh⟨a,s,e,b,c⟩=>⟨a,s,e,b.le h,fm.le h c⟩,λ⟨_,_,e,_⟩=>by rw[e];rfl⟩
abbrev UD(m:E)(s:O)(l:List (cZ×Ex)):Prop:=eN m 5 (XJ m) s l
structure UH(ds:List bo)(l:List (cZ×Ex)):Prop where
 gp:GP ds (l.map (·.1))
 yI:∀x∈l,XI ds (pf (l.map (·.1))) x.1.params.length x.2
def Gr.ZK{α:Type}{S:List Nat}{q p:E}{j g h c k:Nat}{R:E->List Ce->α->Prop}{o:List α}(x:0<g)(m:Gr S q p j g R (.mk h 0 a c) o)(v:k<=a):Gr S q p j g R (.mk h 0 k c) (o.take k):=by
 have w:=m.len x;obtain⟨-,b,r,d⟩:=m;simp only[O.dS]at w;have t:b.length=a:=by rw[d.len];omega
 rcases r.aO with e|⟨B,C,tail,e,h4,h5,h6,h7⟩
 .simp at e
 simp only[O.dS,O.mk.injEq]at e h7;obtain⟨rfl,-,-,rfl⟩:=e;have l:b.flatten=(b.take k).flatten++(b.drop k).flatten:=by rw[<-xt,dw]
 have n:∀c∈b.take k,c.length=g:=λc s=>d.size c (cX s);refine⟨aH,b.take k,⟨by rw[dp n,eJ,t,jt v];rfl,Or.inr ⟨h,c,(b.drop k).flatten++tail,aH,h4,by rw[<-eZ,<-l];exact h5,by rw[<-eZ,<-l];exact h6,bN⟩⟩,?_,n,λy z A f i=>?_⟩
 .rw[eJ,eJ,d.len]
 .rw[mV]at f i;split at f
  .rename_i u;rw[ak u]at i;exact d.de y z A f i
  .simp at f
section
variable{S L:List Nat}{d P:Nat}{c:O}{m M:E}
def qK{K:O->Int->Int->Int->O->E->Prop}(l:List Int)(r:Int)(n:∀c∈S,c<M.size)(m:∀d∈L,d<M.size)(t:l.length<=1000)(p:b=l.map Ce.i)(s:a=l.length)(q:∀c,J M c->ap (bG S c) (.mk M.size 0 a a) l->K (.mk M.size 0 a a) r 0 0 .nil c):
 aN cq 73 [O.v (.mk M.size 0 a a),vi r] (M.push (.cells (bD b) ay)) λv c=>eG L (M.push (.cells (bD b) ay)) c/\∃e:O,∃f:Int,∃g:Int,∃h:Int,∃i:O,v=.agg #[O.v e,vi f,vi g,vi h,O.v i]/\K e f g h i c:=
 have j:=J.push M (.cells (bD b) ay)
 (QL _ r _).mono λ_ c⟨k,x⟩=>⟨x.da λd o=>j.lt (m d o),_,_,_,_,_,k,q c (j.trans x) ((ap.lit ay l n p s V).le (x.cR _))⟩
def wT(a:List Int)(r:Int):cZ:=⟨a,[],r,0,[]⟩
def SJ.mono:nH 5 SJ:=⟨λh=>SJ.le h,λ⟨_,_,_,_,e,_⟩=>by rw[e];rfl⟩
def QH(l:List (cZ×O))(c:∀d∈S,d<M.size)(h:∀x∈l,ap (bG S M) x.2 x.1.params)(k:l.length<=1000)(f:b=l.flatMap λx=>[.s x.2,.i x.1.aR,.i 0,.i 0,.s .nil])(g:a=l.length):oL (bG S (M.push (.cells (bD b) eV))) (.mk M.size 0 a a) (l.map (·.1)):=by
 have H:=(AO (R:=SJ) SJ.mono c eV (l.map λx=>(x.1,[Ce.s x.2,.i x.1.aR,.i 0,.i 0,.s .nil])) (λx d=>by simp at d;obtain⟨i,j,e,rfl⟩:=d;exact⟨_,_,_,_,rfl,h _ e⟩) (c:=b) (b:=a) (by rw[f,List.flatMap_map]) (by simp[g])).done SJ.mono c bh bN;rwa[show(l.map λx=>(x.1,[Ce.s x.2,.i x.1.aR,.i 0,.i 0,.s .nil])).map (·.1)=l.map (·.1)by simp[Xi,Function.comp_def]]at H
end
end
section
def Vd:List cZ:=[wT [1] 0,wT [1,1] 1,wT [1] 1,wT [1,0] 1,wT [2,1] 1,wT [1,1] 0]
def Vo:List cZ:=[wT [3] 0,wT [0] 1,wT [0,1] 1,wT [3,0] 3,wT [3] 1,wT [1,3,0] 0]
def On:List cZ:=[wT [0] 0,wT [0,0] 0,wT [1,0] 0,wT [0] 1]
def P5:(∀q∈Vd,(q.params,q.aR)∈OP)/\(∀q∈Vo,(q.params,q.aR)∈OP)/\∀q∈On,(q.params,q.aR)∈OP:=bh
def N9{α:Type}{l:List α}{k:Nat}{x:α}(h:l[k]? =some x):l.set k x=l:=eL λi=>by
 rw[ik];split
 .rename_i e;subst e;rw[ak (ax h),h]
 .rfl
section
variable{b:List Nat}{c P:Nat}{d:O}{m:E}
def sO(hS:∀j∈b,j<m.size)(t:c∈b)(G:Rd c d P m)(hP:P+10+4*(300+40*Cg 18)<=10^16):
 aN cq 38 [vp c 0] m λbx m'=>∃w aU y o,bx=.agg #[O.v w,O.v aU]/\bX (bG b m') w y/\UD (bG b m') aU o/\UH y o/\Rd c d (P+10+4*(300+40*Cg 18)) m'/\Fz [c] m m':=by
 apply wt (c,0)
 unfold rH
 simp(config:={zeta:=false,maxSteps:=2000000}) only[aE,aD]
 have hr:=G.lt
 intro ab
 have x1:J m ab:=J.push _ _
 have s1:ab.size=m.size+1:=by simp[ab]
 clear_value ab
 have ao:∀j∈m.size::b,j<ab.size:=bQ hS x1.size V
 refine(vr ao (by simp[t]) (G.ext x1) V).mono λ_ e⟨w,y,r,gd,aM,d2,f2⟩=>⟨f2.da bN,w,r,?_⟩
 have z2:=f2.size
 have F2:=(x1.fz [c]).trans f2
 have aL:bX (bG (m.size::b) e) w y:=gd.done ij.mono ao bh (oh (na y aM))
 intro m3 A
 obtain⟨x4,-,z4⟩:=iN (M:=e) (d:=m3) (c:=A) rfl rfl rfl
 clear_value A
 have h:∀{g:E},A.size<=g.size->∀j∈e.size::m.size::b,j<g.size:=λq=>bQ (λj hc=>oh (ao j hc)) q V
 have LL:∀{g:E},A.size<=g.size->∀v∈[e.size,m.size],v<g.size:=λq=>bN
 refine qK (S:=e.size::m.size::b) [1] 0 (h V) (LL V) bh rfl rfl λa8 x5 i1=>?_
 have z5:=x5.size
 refine qK (S:=e.size::m.size::b) [1,1] 1 (h V) (LL V) bh rfl rfl λa2 x6 i2=>?_
 have z6:=x6.size
 refine qK (S:=e.size::m.size::b) [1] 1 (h V) (LL V) bh rfl rfl λa3 x7 i3=>?_
 have z7:=x7.size
 refine qK (S:=e.size::m.size::b) [1,0] 1 (h V) (LL V) bh rfl rfl λa4 x8 i4=>?_
 have z8:=x8.size
 refine qK (S:=e.size::m.size::b) [2,1] 1 (h V) (LL V) bh rfl rfl λa9 x9 i5=>?_
 have z9:=x9.size
 refine qK (S:=e.size::m.size::b) [1,1] 0 (h V) (LL V) bh rfl rfl λa6 aB i6=>?_
 have bM:=aB.size
 intro b1
 have y1:J a6 b1:=J.push _ _
 have X9:=x9.trans aB;have X8:=x8.trans X9;have X7:=x7.trans X8;have X6:=x6.trans X7
 have g1:oL (bG (e.size::m.size::b) b1) (.mk a6.size 0 6 6) Vd:=QH [(wT [1] 0,.mk A.size 0 1 1),(wT [1,1] 1,.mk a8.size 0 2 2),(wT [1] 1,.mk a2.size 0 1 1),(wT [1,0] 1,.mk a3.size 0 2 2),(wT [2,1] 1,.mk a4.size 0 2 2),(wT [1,1] 0,.mk a9.size 0 2 2)] (h V) (by simp;exact⟨i1.le (X6.cR _),i2.le (X7.cR _),i3.le (X8.cR _),i4.le (X9.cR _),i5.le (aB.cR _),i6⟩) aH rfl rfl
 have bJ:b1.size=a6.size+1:=by simp[b1]
 clear_value b1
 have w1:=y1.size
 refine qK (S:=e.size::m.size::b) [3] 0 (h V) (LL V) bh rfl rfl λc1 u1 j1=>?_
 have v1:=u1.size
 refine qK (S:=e.size::m.size::b) [0] 1 (h V) (LL V) bh rfl rfl λc2 u2 j2=>?_
 have v2:=u2.size
 refine qK (S:=e.size::m.size::b) [0,1] 1 (h V) (LL V) bh rfl rfl λc3 u3 j3=>?_
 have v3:=u3.size
 refine qK (S:=e.size::m.size::b) [3,0] 3 (h V) (LL V) bh rfl rfl λc4 u4 j4=>?_
 have v4:=u4.size
 refine qK (S:=e.size::m.size::b) [3] 1 (h V) (LL V) bh rfl rfl λc5 u5 j5=>?_
 have v5:=u5.size
 refine qK (S:=e.size::m.size::b) [1,3,0] 0 (h V) (LL V) bh rfl rfl λc6 u6 j6=>?_
 have v6:=u6.size
 intro b2
 have y2:J c6 b2:=J.push _ _
 have U5:=u5.trans u6;have U4:=u4.trans U5;have U3:=u3.trans U4;have U2:=u2.trans U3
 have g2:oL (bG (e.size::m.size::b) b2) (.mk c6.size 0 6 6) Vo:=QH [(wT [3] 0,.mk b1.size 0 1 1),(wT [0] 1,.mk c1.size 0 1 1),(wT [0,1] 1,.mk c2.size 0 2 2),(wT [3,0] 3,.mk c3.size 0 2 2),(wT [3] 1,.mk c4.size 0 1 1),(wT [1,3,0] 0,.mk c5.size 0 3 3)] (h V) (by simp;exact⟨j1.le (U2.cR _),j2.le (U3.cR _),j3.le (U4.cR _),j4.le (U5.cR _),j5.le (u6.cR _),j6⟩) aH rfl rfl
 have bK:b2.size=c6.size+1:=by simp[b2]
 clear_value b2
 have w2:=y2.size
 refine qK (S:=e.size::m.size::b) [0] 0 (h V) (LL V) bh rfl rfl λe1 t1 k1=>?_
 have q1:=t1.size
 refine qK (S:=e.size::m.size::b) [0,0] 0 (h V) (LL V) bh rfl rfl λe2 t2 k2=>?_
 have q2:=t2.size
 refine qK (S:=e.size::m.size::b) [1,0] 0 (h V) (LL V) bh rfl rfl λe3 t3 k3=>?_
 have q3:=t3.size
 refine qK (S:=e.size::m.size::b) [0] 1 (h V) (LL V) bh rfl rfl λe4 t4 k4=>?_
 have q4:=t4.size
 intro b3
 have y3:J e4 b3:=J.push _ _
 have T3:=t3.trans t4;have T2:=t2.trans T3
 have g3:oL (bG (e.size::m.size::b) b3) (.mk e4.size 0 4 4) On:=QH [(wT [0] 0,.mk b2.size 0 1 1),(wT [0,0] 0,.mk e1.size 0 2 2),(wT [1,0] 0,.mk e2.size 0 2 2),(wT [0] 1,.mk e3.size 0 1 1)] (h V) (by simp;exact⟨k1.le (T2.cR _),k2.le (T3.cR _),k3.le (t4.cR _),k4⟩) aH rfl rfl
 have bL:b3.size=e4.size+1:=by simp[b3]
 clear_value b3
 have w3:=y3.size
 refine qK (S:=e.size::m.size::b) [] 0 (h V) (LL V) bh rfl rfl λM0 x0 n0=>?_
 have z0:=x0.size
 have aG:=((((u1.trans U2).trans y2)).trans (t1.trans T2)).trans (y3.trans x0)
 have XM:J A M0:=((x5.trans X6).trans y1).trans aG
 have G1:=oL.le (aG.cR _) g1
 have G2:=oL.le ((((t1.trans T2)).trans (y3.trans x0)).cR _) g2
 have a7:=oL.le (x0.cR _) g3
 have dM:Rd c d (P+1) M0:=(d2.ext x4).ext XM
 have L2:∀{g:E},A.size<=g.size->Lw c [e.size,m.size] g:=λq=>lw hr bN
 have bE:c∈e.size::m.size::b:=by simp[t]
 have l:∀{g M':E}{v W:Nat},A.size<=v->v<g.size->Fz [c] g M'->af M' v W=af g v W:=λh1 h2 N=>aK (N.same _ h2 bN) _
 refine(bV dM V _).mono λ_ m5⟨r1,en,bt,aX,d5,f5⟩=>⟨(L2 V).da f5,r1,en,bt,by simp at aX⊢;omega,?_⟩
 have al:Le (bG (e.size::m.size::b) M0) (bG (e.size::m.size::b) m5):=f5.cR (by simp[t])
 have bU:=f5.size
 let⟨K,aP⟩:=cg Vd r1.toNat (by simp[Vd]at aX⊢;omega)
 obtain⟨_,⟨pa,pn,pk,pz,rfl,pi⟩,pr⟩:=(oL.le al G1).jC _ K aP
 have pg:=λu j q=>(dY.1 (pr u j q)).2
 refine⟨_,pg 0 _ rfl,_,pg 1 _ rfl,_,pg 2 _ rfl,_,pg 3 _ rfl,_,pg 4 _ rfl,?_⟩
 refine(bV d5 V _).mono λ_ m6⟨r2,en,bv,aZ,d6,z⟩=>⟨(L2 V).da z,r2,en,?_⟩
 have bW:=z.size
 have am:Le (bG (e.size::m.size::b) m5) (bG (e.size::m.size::b) m6):=z.cR (by simp[t])
 let⟨p2,aR⟩:=cg Vo r2.toNat (by simp[Vo]at aZ⊢;omega)
 obtain⟨_,⟨qa,qn,qk,qz,rfl,qi⟩,qr⟩:=(oL.le (al.trans am) G2).jC _ p2 aR
 have qg:=λu j q=>(dY.1 (qr u j q)).2
 refine⟨l bN bN z,l bN bN z,l bN bN z,l bN bN z,l bN bN z,bv,by simp at aZ⊢;omega,_,qg 0 _ rfl,_,qg 1 _ rfl,_,qg 2 _ rfl,_,qg 3 _ rfl,_,qg 4 _ rfl,?_⟩
 refine(bV d6 V _).mono λ_ f⟨r3,en,bw,a0,d7,p⟩=>⟨(L2 V).da p,r3,en,?_⟩
 have bY:=p.size
 have an:Le (bG (e.size::m.size::b) m6) (bG (e.size::m.size::b) f):=p.cR (by simp[t])
 let⟨p3,aS⟩:=cg On r3.toNat (by simp[On]at a0⊢;omega)
 obtain⟨_,⟨ra,rn,rk,rz,rfl,ri⟩,rr⟩:=(oL.le ((al.trans am).trans an) a7).jC _ p3 aS
 have rg:=λu j q=>(dY.1 (rr u j q)).2
 refine⟨l bN bN p,l bN bN p,l bN bN p,l bN bN p,l bN bN p,l bN bN p,l bN bN p,l bN bN p,l bN bN p,l bN bN p,bw,by simp at a0⊢;omega,_,rg 0 _ rfl,_,rg 1 _ rfl,_,rg 2 _ rfl,_,rg 3 _ rfl,_,rg 4 _ rfl,?_⟩
 intro T
 have a1:J f T:=J.push _ _
 have bk:ap (bG (e.size::m.size::b) f) (.mk b3.size 0 0 0) []:=lU _ _ _ _ _ _
 have gf:Gr (e.size::m.size::b) f T eV 5 OJ (.mk f.size 0 4 4) [(wT [] 0,none),(K,none),(p2,none),(p3,none)]:=AO OJ.mono (h V) eV [((wT [] 0,none),[.s (.mk b3.size 0 0 0),.i 0,.i 0,.i 0,.s .nil]),((K,none),[.s pa,.i K.aR,.i pn,.i pk,.s pz]),((p2,none),[.s qa,.i p2.aR,.i qn,.i qk,.s qz]),((p3,none),[.s ra,.i p3.aR,.i rn,.i rk,.s rz])] (by simp;exact⟨⟨_,_,_,_,rfl,bk,aH⟩,⟨_,_,_,_,rfl,pi.le (am.trans an),aH⟩,⟨_,_,_,_,rfl,qi.le an,aH⟩,⟨_,_,_,_,rfl,ri,aH⟩⟩) rfl rfl
 have s8:T.size=f.size+1:=by simp[T]
 clear_value T
 let s:=[wT [] 0,K,p2,p3]
 have bA:f.size≠e.size:=V
 have bc:∀Y∈s,(Y.params,Y.aR)∈OP:=by
  simp only[s,aV,iW,AA];rintro Y (rfl|rfl|rfl|rfl)
  .simp[wT,OP]
  .exact P5.1 _ (aq aP)
  .exact P5.2.1 _ (aq aR)
  .exact P5.2.2 _ (aq aS)
 have a5:Fz [c] e f:=(((x4.trans XM).fz [c]).trans f5).trans (z.trans p)
 have aW:∀{g:E}{ag:O}{o:List (cZ×Option Ex)}(W:Nat)(L:List Ce),Gr (e.size::m.size::b) f g eV 5 OJ ag o->Gr (e.size::m.size::b) f (ai g e.size W L) eV 5 OJ ag o:=λW L F=>F.MR OJ.mono ((Fz.aF [e.size] _).ai (Or.inl aH) W L) aH (by have:=F.bg;simp;omega)
 intro U
 have g9:Gr (e.size::m.size::b) f U eV 5 OJ (.mk f.size 0 4 4) [(wT [] 0,none),(K,none),(p2,none),(p3,none)]:=aW 1 [.s (.mk f.size 0 4 4)] gf
 have r9:Rs c d e (P+4) U:=(Rs.mk (a5.then a1) (d7.ext a1)).put d2 (ad _) 1 [.s (.mk f.size 0 4 4)]
 have s9:U.size=T.size:=aA _ _ _ _
 clear_value U
 intro aw
 have ah:J U aw:=J.push _ _
 have bo:ap (bG [c] aw) (.mk U.size 0 5 5) [4,4,3,2,4]:=ap.lit ay _ bN rfl rfl aH
 clear_value aw
 have bS:=ah.size
 refine(jR (r9.r.ext ah) V bo aH).mono λ_ bp⟨mn,en,bj,a_,ae⟩=>⟨(L2 V).da ae,mn,en,?_⟩
 have bT:=ae.size
 have bD:2<=mn/\mn<=4:=by simp at bj;omega
 obtain⟨n,rfl⟩:∃n:Nat,mn=n:=⟨mn.toNat,V⟩
 have bg:O.cut (.mk f.size 0 4 4) (Int.toNat 0) (Int.toNat n) 5=.mk f.size 0 n 4:=by simp[O.cut]
 rw[bg]
 refine⟨bh,V,bN,?_⟩
 intro ac
 have bb:Gr (e.size::m.size::b) f ac eV 5 OJ (.mk f.size 0 n 4) ([(wT [] 0,none),(K,none),(p2,none),(p3,none)].take n):=Gr.ZK bh (aW 1 [.s (.mk f.size 0 n 4)] ((g9.ext OJ.mono ah).fS OJ.mono ae (by simp[t];omega))) V
 have bu:Rs c d e (P+5) ac:=((r9.ext ah).to ae a_).put d2 (ad _) 1 [.s (.mk f.size 0 n 4)]
 have bH:ac.size=bp.size:=aA _ _ _ _
 clear_value ac
 have bm:(s.take n).length=n:=by simp[s];omega
 have gp:GP y (s.take n):=⟨aM,V,V,λY i=>bc Y (cX i),λY i=>by obtain⟨n',rfl⟩:∃n',n=n'+1:=⟨n -1,V⟩;simp[s]at i;rw[<-i];exact⟨rfl,rfl⟩⟩
 have ew:cQ ((n:Int) -1)=n -1:=aQ V V
 rw[ew]
 refine⟨λN g=>∃(i:Nat)(o:List (cZ×Option Ex)),N=(i:Int) -1/\i<=n/\Gr (e.size::m.size::b) f g eV 5 OJ (.mk f.size 0 n 4) o/\o.map (·.1)=s.take n/\(∀(u:Nat)(x:cZ×Option Ex),o[u]? =some x->i<=u->∃r,x.2=some r/\XI y (pf (s.take n)) x.1.params.length r)/\Rs c d e (P+5+(n -i)*(300+40*Cg 18)) g/\ac.size<=g.size,λN _=>(N+1).toNat,⟨n,_,rfl,ad _,bb,by rw[Np];rfl,λu x B q=>by have:=ax B;simp at this;omega,by rw[Nat.sub_self,PW];exact bu,ad _⟩,?_⟩
 rintro N g ⟨i,o,rfl,bB,F,hl,ar,Z,zM⟩
 have bC:o.length=n:=by rw[<-bm,<-hl];simp
 have gy:=F.bg
 simp only[O.fG]at gy
 have aJ:f.size∉e.size::m.size::b:=λq=>by have:=h (g:=A) (ad _) _ q;omega
 refine dit (λq=>?_) λq=>?_
 .obtain⟨i,rfl⟩:∃C,i=C+1:=⟨i -1,V⟩
  have ek:((i+1:Nat):Int) -1=(i:Int):=V
  rw[ek]
  let⟨x,Q⟩:=cg o i
  have au:(s.take n)[i]? =some x.1:=by rw[<-hl];simp[Q]
  have bn:oL (bG [c] g) (.mk f.size 0 n 4) (s.take n):=by
   have H:=F.ng OJ.mono aJ bh V;rw[<-hl];refine⟨bN,H.cap,H.fu,λC aF hy=>?_⟩;simp only[bR,jo]at hy;obtain⟨aa,R,rfl⟩:=hy;obtain⟨L,⟨D,i1,i2,i3,rfl,ha,-⟩,av⟩:=H.jC C aa R;have aT:=gN g (S:=e.size::m.size::b) (c:=[c]) (by simp[t]);exact⟨_,⟨D,_,_,_,rfl,ha.le aT⟩,aT.jC av⟩
  have bi:bX (bG [c] g) w y:=aL.le ((gN e (c:=[c]) (by simp[t])).trans (fh Z.f))
  have hB:(n -(i+1))*(300+40*Cg 18)+(300+40*Cg 18)=(n -i)*(300+40*Cg 18):=by rw[<-pD];congr 1;omega
  have be:(n -i)*(300+40*Cg 18)<=4*(300+40*Cg 18):=dq _ V
  have bl:i=0->x.1.params.length=0:=λG=>by subst G;obtain⟨n',rfl⟩:∃n',n=n'+1:=⟨n -1,V⟩;simp[s]at au;rw[<-au];rfl
  have bf:∀j∈f.size::e.size::m.size::b,j<g.size:=bQ (h (g:=g) V) (ad _) gy.2
  refine XP.kk (Me (f:=f.size::e.size::m.size::b) bf (by simp[t]) ⟨Z.r,bi,bn,gp⟩ V au bl) (L2 V) λag r M1 hs I ba aj=>?_
  have bO:=aj.size
  intro bq az
  obtain⟨aC,-,bP⟩:=iN (M:=M1) (d:=bq) (c:=az) rfl rfl rfl
  clear_value az
  have aI:=(F.fS OJ.mono aj (by simp[t];omega)).ext OJ.mono aC
  obtain⟨L,⟨D,i1,i2,i3,rfl,ha,-⟩,k8⟩:=aI.cells Q
  have br:=k8 0 _ rfl;have bs:=k8 1 _ rfl
  refine⟨V,bN,D,br,V,bN,_,bs,V,bN,?_⟩
  obtain⟨wr,gs,-,bF⟩:=aI.set OJ.mono (X:=List.range f.size) ⟨V,λv hb hn=>absurd (List.mem_range.2 hb) hn⟩ (k:=i) V (a:=(x.1,some r)) (cs:=[.s D,.i x.1.aR,.i r.op,.i r.bK,.s ag]) ⟨D,_,_,_,rfl,ha,λe' aO=>by simp at aO;subst aO;exact⟨rfl,rfl,fm.le (aC.cR _) hs⟩⟩
  refine⟨wr,?_⟩
  intro aO
  have bI:aO.size=az.size:=aA _ _ _ _
  have aY:Rs c d e (P+5+(n -(i+1))*(300+40*Cg 18)+300+40*Cg 18) aO:=((Z.to aj ba).ext aC).put d2 (by show e.size<=f.size;omega) _ _
  refine⟨λv hb=>bd _ _ _ _ (by simp at hb;show v≠f.size;omega),⟨i,o.set i (x.1,some r),aQ V V,V,gs,?_,λu aF B bz=>?_,⟨aY.f,aY.r.mono V⟩,V⟩,?_⟩
  .rw[tg,N9 (by simp[Q]),hl]
  .rw[ik]at B
   split at B
   .rename_i e';subst e';rw[ak V]at B;simp at B;subst B
    exact⟨r,rfl,I⟩
   .exact ar u aF B V
  .rw[aQ V V];show((i:Int) -1+1).toNat<((i:Int)+1).toNat;omega
 .have G:i=0:=V
  subst G
  have aj:Le (bG (e.size::m.size::b) g) (bG b (ai g m.size 0 [.s w,.s (.mk f.size 0 n 4)])):=cb aH λj hc=>by simp[hc]
  have H:=F.ng OJ.mono aJ bh V
  have be:(n -0)*(300+40*Cg 18)<=4*(300+40*Cg 18):=dq _ V
  have B:Rs c d m (P+5+(n -0)*(300+40*Cg 18)) g:=⟨F2.trans Z.f,Z.r⟩
  have B:=B.put G (ad _) 0 [.s w,.s (.mk f.size 0 n 4)]
  have au:(o.map λx=>(x.1,x.2.getD (.mk 0 0 []))).map (·.1)=s.take n:=by rw[Xi,<-hl];rfl
  refine⟨w,.mk f.size 0 n 4,y,o.map λx=>(x.1,x.2.getD (.mk 0 0 [])),rfl,aL.le ((Z.f.cR (by simp[t])).trans ((cb aH λj hc=>by simp[hc]))),⟨bN,H.cap,H.fu,λC aF hy=>?_⟩,⟨by rw[au];exact gp,λx Q=>?_⟩,B.r.mono V,B.f⟩
  .simp only[bR,jo]at hy
   obtain⟨aa,R,rfl⟩:=hy
   let⟨r,I,hf⟩:=ar C aa R (dE _)
   obtain⟨L,⟨D,i1,i2,i3,rfl,ha,hb⟩,av⟩:=H.jC C aa R
   obtain⟨rfl,rfl,az⟩:=hb r I
   exact⟨_,⟨D,i3,by simp[I],ha.le aj,by simp only[I,pE];exact fm.le aj az⟩,aj.jC av⟩
  .simp only[Xj]at Q
   obtain⟨aa,R,rfl⟩:=Q
   let⟨C,D⟩:=List.mem_iff_getElem?.1 R
   let⟨r,I,hf⟩:=ar C aa D (dE _)
   rw[au];simp only[I,pE];exact hf
end
end
structure OA(S:List Nat)(m0 m:E)(lb:Nat)(s:O)(l:List cE)(sc:Nat):Prop where
 box:cz m lb kW [.s s,.i sc]
 gr:GS (lb::S) m0 m s l
 up:m0.size<=lb
def OA.ext{S:List Nat}{c m b:E}{a d:Nat}{s:O}{l:List cE}(h:OA S c m a s l d)(x:J m b):OA S c b a s l d:=⟨h.box.ext x,h.gr.ext fO.mono x,h.up⟩
def OA.ne{S:List Nat}{b m:E}{a c:Nat}{s:O}{l:List cE}(h:OA S b m a s l c):s.az≠a:=h.gr.ne h.box bh
def LoP(S:List Nat)(f m:E)(c:Nat)(s:O)(P:List cE->Nat->Prop)(d:E):Prop:=∃a b e,OA S f d c a b e/\P b e/\Fz [c,s.az] m d/\(a.az=s.az\/m.size<=a.az)
def KQ{S:List Nat}{n e:E}{b f:Nat}{s w D:O}{l:List cE}{x:cE}(q:OA S n e b s l f)(C:n.size<=e.size)(P:ap (bG (s.az::b::S) e) w x.args)(Q:mX (bG (s.az::b::S) e) D x.bF)(t:l.length<=1000000)(hs:f<=1000000):
 aN cq 159 [vp b 0,oE x w D] e λW T=>W=vi (f:Nat)/\LoP S n e b s (λc d=>c=l++[x]/\d=f+1) T:=by
 apply vx (b,0)
 simp -zeta only[aE,aD]
 intro i
 have k:J e i:=J.push _ _
 have s1:i.size=e.size+1:=by simp[i]
 clear_value i
 have g:=q.ext k
 have hy:=g.gr.bg
 have I:=g.box.lt
 have aa:=q.box.lt
 have ab:=q.gr.bg
 refine⟨s,g.box.cJ 0,?_⟩
 intro U
 have K:J i U:=J.push _ _
 refine⟨aK (K.same _ I) _,?_⟩
 have g1:GS (b::S) (e.extract 0 n.size) i s l:=Gr.cG fO.mono g.gr (λL t=>Or.inl t) (by rw[jF C];exact ad _)
 refine Gr.ku (g:=[.i 0,.i 0,.i 0,.s .nil,.s .nil]) (k:=x) fO.mono bh g1 (((J.N4 C).trans k).fz []) ⟨w,D,rfl,P.le (k.cR _),eN.le Q (k.cR _) λ_ _=>qT.le (k.cR _)⟩ V λp u G Z X F=>?_
 have A:cz u b kW [.s s,.i f]:=g.box.congr (F b I (kG g.ne))
 have R:=G.ne A bh
 refine⟨λc d=>?_,A.fg aH,?_⟩
 .simp at d;subst d
  rw[F e.size V V,K.same _ V]
 intro j
 have B:cz j b kW [.s p,.i f]:=cz.ai (m:=u) (o:=0) (r:=[.s p]) A
 have y:∀c,c≠b->j[c]? =u[c]? :=λc d=>bd _ _ _ _ d
 have s4:j.size=u.size:=aA _ _ _ _
 have M:cQ ((f:Int)+1)=(f+1:Nat):=by rw[aQ V V];rfl
 refine⟨λc d=>y c (by simp at d;omega),_,B.cJ 1,B.fg aH,?_⟩
 rw[M]
 intro v
 have H:cz v b kW [.s p,.i (f+1:Nat)]:=cz.ai (m:=j) (o:=1) (r:=[.i (f+1:Nat)]) B
 have z:∀c,c≠b->v[c]? =j[c]? :=λc d=>bd _ _ _ _ d
 have s5:v.size=j.size:=aA _ _ _ _
 refine⟨λc d=>z c (by simp at d;omega),_,H.cJ 1,?_⟩
 have N:GS (b::S) n v p (l++[x]):=by
  refine Gr.cG fO.mono (G.re fO.mono (Y:=[b]) ⟨V,λc d h=>?_⟩ aH (by simp;exact R) λc d=>Or.inl d) (λL t=>Or.inl t) (by rw[jF C];exact ad _);have:c≠b:=by simpa using h
  exact(z c this).trans (y c this)
 refine⟨by rw[aQ V V];congr 1;omega,p,_,_,⟨H,N,q.up⟩,⟨rfl,rfl⟩,⟨V,λc d h=>?_⟩,oh X.2⟩
 simp only[aV,iW,AA,uH]at h
 rw[z c h.1,y c h.1,F c V h.2,k.same c d]
section
variable{K D d b:Nat}{a:List cE}
structure LW(ds:List bo)(nf:List Nat)(sc:Nat)(a:List cE)(K D sc':Nat):Prop where
 wl:WL ds nf False sc a
 dd:sc'=sc+dc a
 sz:sw a<=K
 nA:sc'<=sc+D
def LW.aF(b:List bo)(c:List Nat)(a:Nat):LW b c a [] 0 0 a:=⟨.nil _ _ _ _,aH,aH,V⟩
def LW.gE{c:List bo}{e:List Nat}{f g:Nat}(h:LW c e f a K D g)(j:K<=d)(i:D<=b):LW c e f a d b g:=⟨h.wl,h.dd,oh h.sz,oh h.nA⟩
def LW.trans{e:List bo}{f:List Nat}{i j k:Nat}{g:List cE}(h:LW e f i a K D j)(c:LW e f j g d b k):LW e f i (a++g) (K+d) (D+b) k:=
 ⟨h.wl.append (h.dd▸c.wl),by rw[c.dd,h.dd,cF];omega,by have:=h.sz;have:=c.sz;rw[dt];omega,Pk h.nA c.nA⟩
def LW.ln{b:List bo}{c:List Nat}{a:Nat}{x:cE}(h:WS b c False a x):LW b c a [x] x.w 1 (a+1):=⟨.ln h,by rw[jY,sB,ZL h],by simp[sw],V⟩
section
variable{S:List Nat}{e m f:E}{c g j:Nat}{s i:O}{l h:List cE}
def OA.fR(h:OA S e m c s l g)(d:J e m)(b:Fz [c,s.az] m f):J e f:=by
 have k:=h.gr.bg;have j:=h.up;exact Fz.ext (((d.fz [c,s.az]).trans b).CG λi a=>Or.inr (by simp at a;omega))
def OA.re{S' Y:List Nat}(h:OA S e m c s l g)(j:Fz Y m f)(d:∀b∈Y,b∈S/\b≠c/\b≠s.az)(k:∀b∈S',b∈S\/m.size<=b):OA S' e f c s l g:=
 ⟨h.box.congr (j.same _ h.box.lt λi=>(d _ i).2.1 rfl),h.gr.re fO.mono j (λb a=>ah _ (d b a).1) (λi=>(d _ i).2.2 rfl) λb a=>(List.mem_cons.1 a).elim (λi=>Or.inl (by rw[i];exact aX)) λa=>(k b a).imp (ah _) id,h.up⟩
end
structure LS(S:List Nat)(m0 m:E)(lb:Nat)(s:O)(l:List cE)(sc:Nat)(LO:O)(ev:List Int):Prop where
 em:OA S m0 m lb s l sc
 x:J m0 m
 fR:∀c∈S,c<m.size
 LO:ap (bG [s.az,lb] m) LO ev
 sm:∀y∈ev,0<=y/\y<(sc:Int)
def ZR(e:Ex)(t:O):Value:=.agg #[vi e.op,vi e.bK,O.v t]
def UG(b:List bo)(h:List Nat)(e:Ex):Prop:=∀(S:List Nat)(c m:E)(d:Nat)(s:O)(l:List cE)(f:Nat)(LO:O)(ev:List Int)(g p t:O),LS S c m d s l f LO ev->WX b h ev.length e->f+4*e.n<=2000->ev.length+4*e.n<=2000->l.length+4*e.n<=2000->bX c g b->dH b->fm c t e.bF->
 aN cq 113 [vp d 0,.agg #[O.v g,O.v p],ZR e t,O.v LO] m λv k=>∃r:Int,v=vi r/\LoP S c m d s (λj i=>∃a,j=l++a/\LW b h f a (3*e.n -1) e.n i/\0<=r/\r<(i:Int)) k
def ZA(a:List bo)(f:List Nat)(e:Ex):Prop:=∀(S:List Nat)(m:E)(b:Nat)(LO:O)(ev:List Int)(d p t:O),(∀c∈S,c<m.size)->ap m LO ev->(∀y∈ev,0<=y/\y<(b:Int))->WX a f ev.length e->b+4*e.n<=2000->ev.length+4*e.n<=2000->bX m d a->dH a->fm m t e.bF->
 mP 71 [.agg #[O.v d,O.v p],ZR e t,O.v LO,vi b] m S λc=>WB a f False b c/\c.w<=3*e.n
def _root_.Go.Vc.Ex.MT(e:Ex):1<=e.n:=by rw[Ex.Yu];omega
def Ct{s:List bo}{w:List Nat}{e:Ex}(k:UG s w e):ZA s w e:=by
 intro i v n LO ev C R X t H L N ab Z hd M I;apply xT;simp -zeta only[aE,aD];intro P f b c d;let⟨g,hl,s1,s2,s3⟩:=pK (a:=P) (b:=f) (c:=b) rfl rfl rfl;have p:J b c:=J.push _ _;have W:c.size=b.size+1:=by simp[c]
 have F:GS ((b.size+1)::f.size::i) b c (.mk b.size 0 0 0) []:=Gr.new _ (ad _) _ _ _;have h:J c d:=J.push _ _;have z:cz d c.size kW [.s (.mk b.size 0 0 0),.i n]:=cz.push _ _ _;clear_value d c b;have Y:=g;have q:=(g.trans p).trans h;have z5:=h.size;have G:∀r∈f.size::i,r<d.size:=bQ t q.size V;have O:OA (f.size::i) b d c.size (.mk b.size 0 0 0) [] n:=⟨z,W▸F.ext fO.mono h,V⟩;have hp:=e.MT;refine(k (f.size::i) b d c.size _ [] n LO ev C R X ⟨O,p.trans h,G,(H.le (((g.trans p).trans h).bG (S:=[]) bN|>λk=>(yS v).trans k)),L⟩ N V V bN (hd.le g.le) M (fm.le g.le I)).mono λae Q⟨x,E,y,m,ac,o6,⟨a,D,o,T,U⟩,j,b6⟩=>?_;subst D;have z6:=j.size;have A:J v Q:=Fz.ext (((q.fz [c.size,b.size]).trans j).CG λB l=>by simp at l;omega);refine⟨j.da λB l=>by simp at l;simp;omega,x,E,y,o6.box.cJ 0,?_⟩;intro m7;have hz:=o.sz;have aa:=fw m;refine⟨y,.mk m x,rfl,eH.le (cb aH λr u=>by simp[u]) (o6.gr.ng fO.mono (λu=>?_) bh (by show m.length<=_;omega)),⟨WB.of o.wl ⟨T,by rw[<-o.dd];exact U⟩,by rw[Bk.qd];omega⟩,A.ai V _ _⟩;have hy:=o6.gr.bg;have K:=o6.ne;simp only[aV]at u;rcases u with e|e|e
 .exact K e
 .omega
 .have:=t _ e;omega
end
section
variable{M c:E}{a:Nat}
def O2{m:E}{t:O}{l:List Ex}(h:fm m t l){k:Nat}{x:Ex}(f:l[k]? =some x)(a:J m M):∃u,fm m u x.bF/\af M t.az (t.off+k*3)=some (vi x.op)/\af M t.az (t.off+k*3+1)=some (vi x.bK)/\af M t.az (t.off+k*3+2)=some (O.v u):=
 let⟨u,b,c,d,e⟩:=h.aO f;⟨u,b,a.af c,a.af d,a.af e⟩
def gx(x:J M c){o:Nat}{v:Value}(h:af M a o=some v):af c a o=af M a o:=by rw[x.af h,h]
def gl(x:J M c)(h:a<M.size)(o:Nat):af c a o=af M a o:=aK (x.same a h) o
def TH{q:List bo}{nf:List Nat}{p bK:Int}{bF:List Ex}(ih:∀t∈bF,UG q nf t):UG q nf (.mk p bK bF):=by
 intro u W D d A aa sc LO ev ak an bu e hw bs bj bq hd ht hk;have N:=hw.bB;simp only[ZR,Ex.V2,Ex.TU,Ex.Ri,Ex.RW]at*;apply tw (d,0);simp -zeta only[aE,aD];intro am s;let⟨G,hl⟩:=dj (a:=am) (c:=s) rfl rfl;have s1:am.size=D.size+1:=by simp[am]
 have s2:s.size=D.size+2:=by simp[s,s1]
 clear_value s;have aX:=hk.len;have bn:=hk.fu;have bp:=e.em.box.lt;have i:=e.em.gr.bg;have br:=e.em.ne;have cR:∀{M:E}{f:O},Fz [d,A.az] D M->(f.az=A.az\/D.size<=f.az)->Le (bG [A.az,d] D) (bG [f.az,d] M):=λab g=>oR λa aF hn=>by
  simp at hn;exact⟨by simp;rcases g with t|t<;>omega,ab.same a aF bN⟩
 have st:∀{av:List Nat}{M:E}{f:O}{l':List cE}{F:Nat},OA av W M d f l' F->Fz [d,A.az] D M->(f.az=A.az\/D.size<=f.az)->(∀l∈av,l<M.size)->sc<=F->LS av W M d f l' F LO ev:=λai ab g hS hs=>⟨ai,e.em.fR e.x ab,hS,e.LO.le (cR ab g),λy i=>⟨(e.sm y i).1,oh ((e.sm y i).2)⟩⟩;have da:∀{M c:E}{f:O},s.size<=M.size->(f.az=A.az\/s.size<=f.az)->Fz [d,f.az] M c->eG [am.size,D.size] M c:=λhz g ab=>ab.da λa aF=>by simp at aF;simp;omega
 have aj:∀{M c:E},s.size<=M.size->J M c->eG [am.size,D.size] M c:=λhz be=>be.da λa g=>by simp at g;omega
 have fr:∀{M c:E}{f:O},Fz [d,A.az] D M->(f.az=A.az\/s.size<=f.az)->Fz [d,f.az] M c->Fz [d,A.az] D c:=λab g L=>ab.rq L λy i=>by simp at i⊢;omega
 refine⟨λar=>?_,λar=>⟨λag=>?_,λag=>⟨λal=>?_,λal=>?_⟩⟩⟩
 .simp only[aM]at ar;let⟨j,o⟩:=N.1.Uj ar;have k:=e.LO.len;let⟨y,v⟩:=cg ev bK.toNat;have h:=e.sm y (aq v);exact⟨j,V,y,(dY.1 ((e.LO.le (G.cR _)).aO v)).2,y,rfl,A,aa,sc,e.em.ext G,⟨[],aH,(LW.aF q nf sc).gE V V,h⟩,G.fz _,Or.inl rfl⟩
 .simp only[aM]at ag;have h2:=N.1.Jw ag;let⟨T,U⟩:=cg bF 0;let⟨j,h⟩:=cg bF 1;have aO:en bF=T.n+j.n:=by
   obtain⟨w,a,rfl⟩:∃w a,bF=[w,a]:=by
    match bF,h2 with
    |[w,a],_=>exact⟨w,a,rfl⟩
   simp at U h;subst U h;simp[en]
  have p0:=T.MT;have p1:=j.MT;let⟨u0,aJ,g0,g1,g2⟩:=O2 hk U (e.x.trans G);refine⟨bh,V,_,g0,_,g1,_,g2,?_⟩;have S2:=st (e.em.ext G) (G.fz _) (Or.inl rfl) (λl r=>oh (e.fR l r)) (ad _);refine(ih T (aq U) u W s d A aa sc LO ev ak an u0 S2 (by have:=N.2 0 T U;simpa[xb]using this) V V V hd ht aJ).mono λR o⟨P,aA,H,l3,Q,o3,⟨af,az,Z,bc,bd⟩,f3,b3⟩=>⟨da (ad _) (Or.inl rfl) f3,P,aA,?_⟩;subst az;have F3:=fr (G.fz _) (Or.inl rfl) f3;have z3:=f3.size;have X3:=e.em.fR e.x F3;let⟨u1,aB,k0,k1,k2⟩:=O2 hk h X3;have a3:=Z.nA;have a9:=fw af;have bb:=Z.sz;refine⟨bh,V,_,k0,_,k1,_,k2,?_⟩;have S3:=st o3 F3 V (λl r=>oh (e.fR l r)) (oh Z.dd);have z:∀l∈[H.az,d],l<o.size:=λl r=>by have:=o3.gr.bg;have:=o3.box.lt;simp at r;omega
  intro C;have k:J o C:=J.push _ _;have aC:ap (bG [H.az,d] C) (.mk o.size 0 1 1) [P]:=ap.lit ay _ z rfl rfl aH;clear_value C;refine⟨gx k k0,gx k k1,gx k k2,gl k V _,gl k V _,gl k V _,?_⟩;have z4:=k.size;refine(eE (S:=[H.az,d]) (λl r=>k.lt (z l r)) (S3.LO.le (k.cR _)) aC bN).mono λR m5⟨I,l5,e5,g5,q5,B⟩=>⟨aj V B,I,e5,gx B (k.af k0),gx B (k.af k1),gx B (k.af k2),gl B V _,gl B V _,gl B V _,?_⟩;subst q5;have z5:=B.size;have S5:LS u W m5 d H (aa++af) Q I (ev++[P]):=⟨(o3.ext k).ext B,(X3.trans k).trans B,λl r=>oh (e.fR l r),GI.done g5 (λl r=>k.lt (z l r)) bN,λy i=>by
   rcases List.mem_append.1 i with i|i
   .have:=e.sm y i;have:=Z.dd;omega
   .simp at i;omega⟩
  refine(ih j (aq h) u W m5 d H (aa++af) Q I (ev++[P]) ak an u1 S5 (by have:=N.2 1 j h;simpa[xb,ag]using this) V bN bN hd ht aB).mono λR m6⟨r1,au,s6,l6,aN,o6,⟨aI,ac,w6,aK,aL⟩,K,b6⟩=>⟨da V V K,r1,au,r1,rfl,s6,l6,aN,o6,⟨af++aI,by rw[ac,eZ],(Z.trans w6).gE V V,aK,aL⟩,fr ((F3.then k).then B) V K,V⟩
 .simp only[cB,aM]at al;have h3:p=7->bF.length=3:=N.1.Y6;have aC:p=8->bF.length=1+(bY q bK).length/\0<(bY q bK).length:=N.1.all;have a7:1<=bF.length:=by rcases al with h|h;have:=h3 h;omega;have:=aC h;omega
  let⟨T,U⟩:=cg bF 0;have bk:en (bF.take 1)=T.n:=by have:=JC U;simpa using this
  have bl:=Q7 bF 1;have p0:=T.MT;let⟨u0,aJ,g0,g1,g2⟩:=O2 hk U (e.x.trans G);refine⟨bh,V,_,g0,_,g1,_,g2,?_⟩;have S2:=st (e.em.ext G) (G.fz _) (Or.inl rfl) (λl r=>oh (e.fR l r)) (ad _);refine(ih T (aq U) u W s d A aa sc LO ev ak an u0 S2 (by have:=N.2 0 T U;simpa[xb]using this) V V V hd ht aJ).mono λR o⟨P,aA,H,l3,Q,o3,⟨af,az,Z,bc,bd⟩,f3,b3⟩=>⟨da (ad _) (Or.inl rfl) f3,P,aA,?_⟩;subst az;have F3:=fr (G.fz _) (Or.inl rfl) f3;have z3:=f3.size;have X3:=e.em.fR e.x F3;have a3:=Z.nA;have a9:=fw af;have bb:=Z.sz;have S3:=st o3 F3 V (λl r=>oh (e.fR l r)) (oh Z.dd);have aB:∀l∈H.az::d::u,l<o.size:=bQ (bQ (m:=D) e.fR V o3.box.lt) (ad _) o3.gr.bg.2;intro C;have k:J o C:=J.push _ _;have g4:GB (H.az::d::u) o C (.mk o.size 0 0 0) []:=GB.new _ o;have s4:C.size=o.size+1:=by simp[C]
  clear_value C;refine(gQ (e:=[o.size]) bN (hd.le (X3.trans k).le) ht bK).mono λR m5⟨cs,cl,ec,r,qc,B⟩=>⟨aj V B,cs,ec,?_⟩;subst qc;have bi:=r.len;have z5:=B.size;refine Qi (a:=bF.length) (aX▸hk.fu) a7 (λj ks M=>∃z,GB (H.az::d::u) o M ks z/\z.length+1=j/\(∀(ac:Nat)(a:Bk),z[ac]? =some a->WB q nf False (Q+AE q p bK ac) a)/\bw z+3*T.n<=3*en (bF.take j)/\J o M/\Fz [o.size] m5 M/\(ks.az=o.size\/m5.size<=ks.az)) ⟨[],g4.ext qT.mono B,rfl,aH,bN,k.trans B,Fz.aF _ _,Or.inl rfl⟩ ?_;rintro j ks M a0 μ bm hj ⟨z,L,aS,aY,a4,xM,fM,aR⟩ aK
  have zM:=xM.size;have aP:=L.bg;have oM:=o3.box.ext xM;refine dit (λh=>?_) λh=>?_
  .have ew:cQ ((j:Int) -1)=((j -1:Nat):Int):=by rw[aQ V V];omega
   refine⟨λaZ c=>J M c/\aZ=(AE q p bK (j -1):Nat),⟨λh8=>?_,λh8=>⟨J.aF _,by simp only[ao]at h8;rw[JV h8];rfl⟩⟩,?_⟩
   .simp only[aM]at h8;have ha:=aC h8;let⟨y,v⟩:=cg (bY q bK) (j -1);rw[ew];refine⟨V,V,y,(dY.1 ((r.le (fM.cR aH)).aO v)).2,?_⟩;refine(dC (e:=[]) aH (hd.le ((X3.trans xM).le.trans (yS _))) ht y).mono λR m6⟨K,l6,e6,h6,q6,I⟩=>⟨aj V I,K,e6,I,?_⟩;subst q6;rw[JU h8 v,h6.len]
   rintro aZ m6 ⟨I,rfl⟩;let⟨t,he⟩:=cg bF j;have X6:=(X3.trans xM).trans I;let⟨aN,hu,k0,k1,k2⟩:=O2 hk he X6;have B6:=oM.ext I;have z6:=I.size;refine⟨V,V,_,k0,_,k1,_,k2,_,B6.cJ 1,_,B6.cJ 1,?_⟩;have bf:=OU ht p bK (j -1);have a6:=JC he;have a5:=Q7 bF (j+1);have a_:=t.MT;refine(lA (S:=[]) (d:=m6) aH Q (AE q p bK (j -1)) V).mono λR m7⟨s7,l7,e7,g7,q7,v⟩=>⟨aj V v,s7,e7,gx v (B6.cJ 1),gx v k0,gx v k1,gx v k2,gl v V _,gl v V _,gl v V _,?_⟩;have z7:=v.size;have a2:ap (bG [] m7) LO ev:=(S3.LO.le ((((xM.trans I).trans v).cR _).trans (bz _ _))).le (yS _);refine(eE (S:=[]) aH a2 (GI.done g7 aH V) V).mono λR m8⟨s8,l8,e8,g8,q8,K⟩=>⟨aj V K,s8,e8,gx K ((B6.ext v).cJ 1),gx K (v.af k0),gx K (v.af k1),gx K (v.af k2),gl K V _,gl K V _,gl K V _,?_⟩;subst q8;have z8:=K.size;have a8:(ev++l7).length=ev.length+AE q p bK (j -1):=by simp;exact q7.2
   rw[aQ (b:=(Q:Int)+(AE q p bK (j -1):Nat)) V V,show(Q:Int)+(AE q p bK (j -1):Nat)=((Q+AE q p bK (j -1):Nat):Int)by omega];have au:=(I.trans v).trans K;have ba:WX q nf (ev++l7).length t:=by
    have:=N.2 j t he;rw[a8];obtain⟨j',rfl⟩:∃j',j=j'+1:=⟨j -1,V⟩;have a1:xb q p bK (j'+1)=AE q p bK j':=ae (by simpa using ag);rwa[a1]at this
   refine(Ct (ih t (aq he)) (ks.az::H.az::d::u) m8 _ s8 (ev++l7) ak an aN (bQ (λl r=>oh (aB l r)) (ad _) V) ((GI.done g8 aH V).le (bz _ _)) (λy i=>?_) ba V V (hd.le ((X6.trans v).trans K).le) ht (fm.le ((X6.trans v).trans K).le hu)).mono λR m9⟨s9,b9,e9,h9,q9,x9⟩=>⟨aj V x9,s9,_,e9,?_⟩
   .rcases List.mem_append.1 i with i|i
    .have:=S3.sm y i;omega
    .have:=q7.1 y i;omega
   intro bt;have z9:=x9.size;have bg:=pL z;refine GB.ku (c:=b9) ((L.ext qT.mono au).ext qT.mono x9) (((xM.trans au).trans x9).fz []) h9 V λaL c g' f' z' q'=>⟨λa g=>by
    have aO:a<o.size:=by simp at g;omega
    rw[f'.ext.same a aO,(((xM.trans au).trans x9).aP _).same a aO],aK V _ _ ⟨_,g',by rw[aT,List.length_singleton];omega,λac a hi=>?_,?_,f'.ext,(fM.then (au.trans x9)).rq (Y:=[ks.az]) ⟨z'.1,λa g hn=>q' a g (by simpa using hn)⟩ (λy i=>by simp at i⊢;omega),oh fM.size⟩⟩
   .rcases aU ac z.length with aI|aI
    .rw[aw aI]at hi;exact aY ac a hi
    .rw[aG aI]at hi;have:ac -z.length=0:=by have:=ax hi;simp at this;omega
     rw[this]at hi;simp at hi;subst hi;have:ac=j -1:=V;subst this;exact q9.1
   .rw[oc,tO,yC];have:=q9.2;omega
  .have K:j=bF.length:=V;subst K;rw[gX]at a4;intro m6;have I:J M m6:=J.push _ _;have aZ:ap (bG (H.az::d::u) m6) (.mk M.size 0 1 1) [P]:=ap.lit ay _ (λl r=>oh (aB l r)) rfl rfl aH;have z6:=I.size;have aR:mX (bG (H.az::d::u) m6) ks z:=mX.le (I.cR _) (L.done qT.mono aB bh (oh (pL z)));clear_value m6;have X6:=xM.trans I;refine(KQ (x:=⟨p,bK,0,[P],z⟩) (o3.ext X6) (X3.trans X6).size aZ aR bN V).mono λR m7⟨aO,s7,l7,a1,o7,⟨au,aI⟩,v,b7⟩=>⟨da V V v,Q,aO,Q,rfl,s7,l7,a1,o7,⟨af++[⟨p,bK,0,[P],z⟩],by rw[au,eZ],?_,V,V⟩,fr (F3.then X6) V v,V⟩;have ws:WS q nf False Q ⟨p,bK,0,[P],z⟩:=⟨⟨Or.inl (by show 0<=p/\p<=11;omega),bN,λ_=>rfl,⟨by show(0:Int)<=0;omega,by show(0:Int)<=_;omega⟩,λh=>by show z.length=2;have:=h3 h;omega,λh=>by show z.length=(bY q bK).length/\0<z.length;have:=aC h;omega,λh=>absurd rfl h,by rcases al with h|h<;>subst h<;>simp[Ar]⟩,aY⟩;subst aI;exact(Z.trans (LW.ln ws)).gE (by rw[cE.lg];simp only[aW,cD];omega) V
 .simp only[bU,ao]at al;simp only[ao]at ar ag;have ho:=N.1.o;intro o;have x3:J s o:=J.push _ _;have g3:GI [] s o (.mk s.size 0 0 0) []:=GI.nil [] s;have aR:o.size=s.size+1:=by simp[o]
  clear_value o;have o3:OA (s.size::u) W o d A aa sc:=(e.em.ext G).re (x3.fz []) aH λa g=>(List.mem_cons.1 g).elim (λh=>Or.inr V) Or.inl;refine dx (n:=bF.length) (aX▸hk.fu) (λj w M=>∃f F r l,OA (w.az::u) W M d f (aa++r) F/\LW q nf sc r (3*en (bF.take j) -j) (en (bF.take j)) F/\GI [] s M w l/\l.length=j/\(∀y∈l,0<=y/\y<(F:Int))/\Fz [d,A.az] D M/\(f.az=A.az\/s.size<=f.az)/\s.size<=M.size) ⟨A,sc,[],[],by simpa using o3,(LW.aF q nf sc).gE (dE _) (dE _),g3,rfl,aH,(G.trans x3).fz _,Or.inl rfl,V⟩ ?_;rintro j w M a0 μ hj ⟨f,F,r,l,ai,v,L,aS,T,fM,g,zM⟩ aK
  have H:=e.em.fR e.x fM;have af:=v.nA;have aI:=v.dd;have aP:=L.bg;have B:w.az≠d:=L.ne ai.box bh;have Kw:w.az≠f.az:=L.Kw ai.gr bh;have aO:=fw r;have az:=v.sz;have a5:=Q7 bF j;refine dit (λh=>?_) λh=>?_
  .let⟨t,he⟩:=cg bF j;let⟨aN,hu,k0,k1,k2⟩:=O2 hk he H;have a6:=JC he;have aJ:=Q7 bF (j+1);have a_:=t.MT;have au:=Qd (bF.take j);rw[eJ,jt V]at au;refine⟨V,V,_,k0,_,k1,_,k2,?_⟩;have SM:=st ai fM V (bQ (m:=D) e.fR V aP.2) V;refine(ih t (aq he) (w.az::u) W M d f (aa++r) F LO ev ak an aN SM (by have:=N.2 j t he;rwa[Y9 V V]at this) V V bN hd ht hu).mono λR C⟨aL,er,s4,l4,aC,U,⟨aB,ac,Z,P,r1⟩,z,b4⟩=>⟨da zM g z,aL,er,?_⟩;subst ac;have z4:=z.size;have F4:=fr fM g z;intro m5;have Q:GI [] s C w l:=GI.any (c:=[d,f.az]) ((GI.any (e:=[d,f.az]) L).MR tm.mono z (λ_ h=>h) (by simp;exact⟨B,Kw⟩));have aA:w.az≠s4.az:=Q.Kw U.gr bh;refine GI.ku Q (X:=List.range s.size) ⟨V,λa g hn=>absurd (List.mem_range.2 g) hn⟩ aH V λa' c g' f' z' q'=>?_;have I:Fz [w.az] C c:=⟨z'.1,λa g hn=>q' a g (by simpa using hn)⟩;refine⟨λa g=>?_,aK V _ _ ⟨s4,aC,r++aB,l++[aL],?_,(v.trans Z).gE V V,g',bN,λy i=>?_,F4.rq I λy i=>by simp at i⊢;omega,V,V⟩⟩
   .simp at g;rw[q' a V V,(J.push C _).same a V]
   .rw[<-eZ];exact U.re I (by simp;exact⟨B,aA⟩) λa g=>(List.mem_cons.1 g).elim (λt=>by subst t;rcases z'.2 with t|t;exact Or.inl (by simp[t]);exact Or.inr t) λh=>Or.inl (ah _ h)
   .have:=Z.dd;rcases List.mem_append.1 i with i|i
    .have:=T y i;omega
    .simp at i;omega
  .have K:j=bF.length:=V;subst K;rw[gX]at v af az;have au:=Qd bF;intro C;have k:J M C:=J.push _ _;have Q:w.az∉f.az::d::u:=by
    simp only[aV,uH];exact⟨Kw,B,λh=>oh (e.fR _ h)⟩
   have ha:ap (bG (f.az::d::u) M) w l:=(GI.any (e:=f.az::d::u) L).ng tm.mono Q bh V;have U:OA u W M d f (aa++r) F:=ai.re (Fz.aF [] _) aH λa g=>Or.inl (ah _ g);have z4:=k.size;refine(KQ (x:=⟨p,bK,0,l,[]⟩) (U.ext k) (H.trans k).size (ha.le (k.cR _)) (lU _ _ _ _ _ _) bN V).mono λR m5⟨P,Z,l5,ac,o5,⟨z,I⟩,t,b5⟩=>⟨da V g t,F,P,F,rfl,Z,l5,ac,o5,⟨r++[⟨p,bK,0,l,[]⟩],by rw[z,eZ],?_,V,V⟩,fr (fM.then k) g t,V⟩;have ws:WS q nf False F ⟨p,bK,0,l,[]⟩:=⟨⟨Or.inl (by show 0<=p/\p<=11;omega),T,λh=>by simp only at h;omega,⟨by show(0:Int)<=0;omega,by show(0:Int)<=_;omega⟩,λh=>by simp only at h;omega,λh=>by simp only at h;omega,λh=>absurd rfl h,aS▸N.1.ar V⟩,aH⟩;subst I;exact(v.trans (LW.ln ws)).gE (by rw[cE.lg];simp only[yC];omega) V
def TJ{a:List bo}{c:List Nat}:∀e:Ex,UG a c e:=Ex.ind λ_ _ _ b=>TH b
end
section
variable{b:List Nat}{c:E}{d p:O}{l:List (cZ×Ex)}
def Zf(l:List (cZ×Ex))(k:Nat)(q:eP):Prop:=∃x,l[k]? =some x/\q.params=x.1.params/\q.df=[]/\q.aR=x.1.aR
def vB(hS:∀g∈b,g<c.size){T:List bo}(hd:bX c d T)(hp:UD c p l)(ac:UH T l):qU 37 [.agg #[O.v d,O.v p]] c b T λX=>uI T X False 95/\X.length=l.length/\∀(z:Nat)(q:eP),X[z]? =some q->Zf l z q:=by
 apply zW;simp -zeta only[aE,aD];have ht:=pI ac.gp.ds;intro s a2;let⟨Q,hl⟩:=dj (a:=s) (c:=a2) rfl rfl;have s1:s.size=c.size+1:=by simp[s]
 clear_value a2;have aQ:=hp.len;have a0:l.length<=4:=by have:=ac.gp.nA;simpa using this
 have aP:0<l.length:=by have:=ac.gp.gS;simpa using this
 refine(fD (b:=s.size::b) (bQ hS Q.size (hl _ aH)) (hd.le Q.le) ht).mono λ_ aw⟨dd,h,aM,x3⟩=>?_;subst h;refine⟨x3.da hl,_,rfl,?_⟩;intro u aT aG;have u2:=Q.trans x3;let⟨x5,B0,g0,s3,s5⟩:=kD (b:=u.size::s.size::b) iv.mono (d:=aw) (a:=u) (c:=aT) (h:=aG) rfl rfl rfl;clear_value aG;have aj:∀g∈[s.size,c.size],g<aw.size:=λg k=>x3.lt (hl g k);have aC:∀g∈s.size::b,g<aw.size:=λg k=>x3.lt (bQ hS Q.size (hl _ aH) g k);refine kj (R:=λv0 v1 I=>∃d W X,Value.agg #[O.v v0,O.v v1]=.agg #[O.v d,O.v W]/\dX (bG b I) d W T X/\(uI T X False 95/\X.length=l.length/\∀(z:Nat)(q:eP),X[z]? =some q->Zf l z q)/\J c I) (t:=l.length) (f:=c) (b:=b) iv.mono bh bh hS ⟨V,aj _ aH⟩ u2 s3 aM aQ V x5 B0 g0 (λz q=>((pf (l.map (·.1)))[z]? =some q.params.length/\q.params.length<=3/\q.df.length<=3/\WB T (pf (l.map (·.1))) False q.params.length q.body/\q.body.w<=95)/\Zf l z q) (λj w l' m' h1 h2 e f t=>⟨j,w,l',rfl,⟨h1,h2,ht,V⟩,⟨TS (by simpa[pf]using aP) (by simpa[pf]using e) λv q aa=>(f v q aa).1,e,λz q aa=>(f z q aa).2⟩,t⟩) λz I C l' aK μ aO aY xM aB am aU=>?_
 let⟨q,hq⟩:=cg l z aO;let⟨aS,aZ⟩:=ac.yI q (aq hq);have aR:q.1.params.length<=3:=(tH _ (ac.gp.de q.1 (List.mem_map.2 ⟨q,aq hq,rfl⟩))).1;have Z:=u2.trans xM;obtain⟨cs,⟨ar,aJ,rfl,ha,hk⟩,hr⟩:=hp.jC z q hq;have aF:=ha.len;refine⟨V,V,_,Z.af (hr 0 _ rfl),_,Z.af (hr 1 _ rfl),_,Z.af (hr 2 _ rfl),_,Z.af (hr 3 _ rfl),_,Z.af (hr 4 _ rfl),?_⟩;intro m7 v;have hy:=aB.bg;have aX:=am.lt;have zM:=xM.size;obtain⟨x8,-,s8⟩:=iN (M:=I) (d:=m7) (c:=v) rfl rfl rfl;clear_value v;have Y:∀g∈[I.size,s.size,c.size],g<v.size:=λg k=>by
  rcases List.mem_cons.1 k with h|h
  .omega
  .have:=aj g h;omega
 have w8:=Z.trans x8;have ae:∀{x:E},v.size<=x.size->∀g∈C.az::u.size::s.size::b,g<x.size:=λaa g k=>by
  simp only[aV]at k;rcases k with h|h|h|h
  .omega
  .omega
  .have:=aC g (by simp[h]);omega
  .have:=aC g (by simp[h]);omega
 have hm:=u2.size;have aI:∀{x:E},J v x->∀{ao:Value->E->Prop},(∀L K j,ap j L K->K.length=q.1.params.length->(∀y∈K,0<=y/\y<(q.1.params.length:Int))->J x j->ao (O.v L) j)->aN cq 65 [vi 0,vi (ar.len:Int)] x ao:=λ{x} A ao hk'=>by
  rw[aF];exact(lA (S:=[]) (d:=x) aH 0 q.1.params.length V).mono λay j⟨L,K,h,gn,qn,xn⟩=>by
   subst h;exact hk' L K j ((GI.done gn aH V).le (bz _ _)) qn.2 (λy hy=>oh (qn.1 y hy)) xn
 have fR:∀{x:E}{aA:List Nat}{L:O}{K:List Int},(∀g∈aA,g<x.size)->J v x->ap x L K->K.length=q.1.params.length->(∀y∈K,0<=y/\y<(q.1.params.length:Int))->mP 71 [.agg #[O.v d,O.v p],.agg #[vi q.2.op,vi q.2.bK,O.v aJ],O.v L,vi (ar.len:Int)] x aA λN=>WB T (pf (l.map (·.1))) False q.1.params.length N/\N.w<=3*q.2.n:=λaL A hs h1 h2=>by
  rw[aF];exact Ct (TJ q.2) _ _ q.1.params.length _ _ d p aJ aL hs h2 (by rw[h1];exact aS) V V (hd.le (w8.trans A).le) ht (fm.le (w8.trans A).le hk)
 have G:∀{B j:E}{N ab:Nat},v.size<=B.size->J B j->N<v.size->af j N ab=af B N ab:=λaa A hb=>gl A V _;have t:I.size<v.size:=V;have P:c.size<v.size:=Y _ aH;refine⟨λN x=>∃w az,N.2=0/\v.size<=N.1/\cz x N.1 cY [.s w,.i az.aR]/\eH (bG (C.az::u.size::s.size::b) x) w az.aC/\(WB T (pf (l.map (·.1))) False q.1.params.length az/\az.w<=3*q.2.n)/\J v x,⟨?_,?_⟩,?_⟩
 .refine aI (J.aF v) λL K H hs ag ak e=>⟨e.da Y,L,rfl,G (ad _) e t,G (ad _) e t,G (ad _) e t,G (ad _) e P,G (ad _) e P,?_,?_⟩;all_goals have y:=e.size
  .refine(fR (aA:=C.az::u.size::s.size::b) (ae y) e hs ag ak).mono λay F⟨w,az,h,ax,aW,f⟩=>⟨f.da λg k=>e.lt (Y g k),w,_,h,?_⟩;have al:=f.size;intro U;have D:J F U:=J.push _ _;refine⟨G V D t,G V D t,G V D t,G V D P,G V D P,?_⟩;intro av;let⟨an,au,a1⟩:=iN (M:=F) (d:=U) (c:=av) rfl rfl rfl;exact⟨w,az,rfl,by show v.size<=F.size;omega,au,eH.le (an.cR _) ax,aW,(e.trans f).trans an⟩
  .intro F;have f:J H F:=J.push _ _;have an:cz F H.size cY [.s .nil,.i 0]:=cz.push _ _ _;have al:=f.size;clear_value F;refine⟨G y f t,G y f t,G y f t,G y f P,G y f P,?_⟩;refine(fR (aA:=H.size::C.az::u.size::s.size::b) (bQ (ae y) al an.lt) (e.trans f) (hs.ext f) ag ak).mono λay U⟨w,az,h,au,ax,D⟩=>⟨D.da λg k=>?_,w,_,h,?_⟩
   .rcases List.mem_cons.1 k with h|h
    .rw[h];exact an.lt
    .have:=Y g h;omega
   intro av;exact⟨w,az,rfl,y,cz.ai (m:=U) (o:=0) (r:=[.s w,.i az.aR]) (an.ext D),eH.le (cb aH λg k=>ah _ k) au,ax,((e.trans f).trans D).ai y _ _⟩
 .intro H;have e:J v H:=J.push _ _;have B9:cz H v.size cY [.s .nil,.i 0]:=cz.push _ _ _;have y:=e.size;clear_value H;refine⟨G (ad _) e t,G (ad _) e t,G (ad _) e t,G (ad _) e P,G (ad _) e P,?_⟩;have sm:∀{B j:E},H.size<=B.size->J B j->eG [v.size,I.size,s.size,c.size] B j:=λaa A=>A.da λg k=>by
   rcases List.mem_cons.1 k with h|h
   .have:=B9.lt;omega
   .have:=Y g h;omega
  refine aI e λL K F hs ag ak f=>⟨sm (ad _) f,L,rfl,G y f t,G y f t,G y f t,G y f P,G y f P,?_⟩;have al:=f.size;refine(fR (aA:=v.size::C.az::u.size::s.size::b) (bQ (ae (x:=F) V) (ad _) (oh B9.lt)) (e.trans f) hs ag ak).mono λay U⟨w,az,h,au,ax,D⟩=>⟨sm al D,w,_,h,?_⟩;intro av;exact⟨w,az,rfl,ad _,cz.ai (m:=U) (o:=0) (r:=[.s w,.i az.aR]) ((B9.ext f).ext D),eH.le (cb aH λg k=>ah _ k) au,ax,((e.trans f).trans D).ai (ad _) _ _⟩
 rintro⟨kb,ab⟩ B ⟨w,az,ho,av,BB,ax,an,x1⟩;simp only at ho av BB;subst ho;have bl:=BB.lt;have z1:=x1.size;have X1:=x8.trans x1;refine⟨C,(am.ext X1).cJ 1,_,BB.cJ 0,_,BB.cJ 1,?_⟩;have ag:u.size<v.size:=V;have hO:∀{j:E}{U b':O},J B j->ap (bG (C.az::u.size::s.size::b) j) U q.1.params->ap (bG (C.az::u.size::s.size::b) j) b' []->af (j.push (.cells (bD [.s U,.s b',.i q.1.aR,.s w,.i az.aR]) jz)) u.size 1=af j u.size 1/\
  jb (j.push (.cells (bD [.s U,.s b',.i q.1.aR,.s w,.i az.aR]) jz)) jz [.s .nil,.s .nil,.i 0,.s .nil,.i 0] 88 C (O.mk j.size 0 1 1) λW D=>eG [I.size,s.size,c.size] (j.push (.cells (bD [.s U,.s b',.i q.1.aR,.s w,.i az.aR]) jz)) D/\fg D u.size 1 1/\(eG [I.size,s.size,c.size] D (ai D u.size 1 [.s W])/\(aK (cQ ((z:Int)+1)) (ai D u.size 1 [.s W])/\μ (cQ ((z:Int)+1)) (ai D u.size 1 [.s W])<μ z I)):=λQ h1 h2=>
  Gr.box (g:=[.s .nil,.s .nil,.i 0,.s .nil,.i 0]) (j:=1) (y:=88) (i:=[.s dd,.s C]) (w:=⟨q.1.params,[],q.1.aR,az⟩) iv.mono bh ((aB.ext iv.mono X1).ext iv.mono Q) (((xM.trans X1).trans Q).fz []) ⟨_,_,w,rfl,h1,h2,eH.le (Q.cR _) ax⟩ V ((am.ext X1).ext Q) aH bh ⟨V,aH⟩ (λg k=>⟨by have:=Y g k;have:=Q.size;omega,by
   rcases List.mem_cons.1 k with h|h
   .omega
   .have:=aj g h;omega,by
   rcases List.mem_cons.1 k with h|h
   .omega
   .have:=aj g h;omega⟩) λW m' g' B' f' z' q'=>aU W m' ⟨q.1.params,[],q.1.aR,az⟩ g' B' f'.ext ⟨⟨by rw[MZ (by rw[bR,hq];rfl)],aR,aH,an.1,by have:=an.2;show az.w<=95;omega⟩,q,hq,rfl,rfl,rfl⟩
 have al:∀{j:E},J B j->ap j ar q.1.params:=λA=>ha.ext ((Z.trans X1).trans A);have ak:∀{j:E},J B j->∀g∈C.az::u.size::s.size::b,g<j.size:=λA=>ae (oh A.size);have g1:∀{j D:E}{ab:Nat},J B j->J j D->af D kb ab=af j kb ab:=λA x'=>gl x' (oh A.size) _;have au:∀{j D:E},J B j->J j D->eG [I.size,s.size,c.size] j D:=λA x'=>x'.da λg k=>by have:=Y g k;have:=A.size;omega
 refine⟨?_,?_⟩
 .refine(bO (C.az::u.size::s.size::b) (al (J.aF _)) V).mono λ_ H⟨U,la,h,ga,ea,e⟩=>⟨au (J.aF _) e,U,h,g1 (J.aF _) e,g1 (J.aF _) e,G z1 e t,G z1 e ag,?_⟩;subst ea;have y:=e.size;intro F;have f:J H F:=J.push _ _;refine⟨g1 e f,g1 e f,G V f t,G V f t,G V f ag,?_⟩;exact hO (e.trans f) ((GI.done ga (ak (J.aF _)) V).le (f.cR _)) (lU _ _ _ _ _ _)
 .intro H;have e:J B H:=J.push _ _;have y:=e.size;refine⟨g1 (J.aF _) e,g1 (J.aF _) e,G z1 e t,G z1 e t,G z1 e ag,?_⟩;refine(bO (C.az::u.size::s.size::b) (al e) V).mono λ_ F⟨U,la,h,ga,ea,f⟩=>⟨au e f,U,h,g1 e f,g1 e f,G V f t,G V f ag,?_⟩;subst ea;exact hO (e.trans f) (GI.done ga (ak e) V) (lU _ _ _ _ _ _)
def HI(j:∀a∈b,a<c.size){a:List bo}(hd:bX c d a)(m:UD c p l)(k:UH a l):qU 37 [.agg #[O.v d,O.v p]] c b a λe=>uI a e False 95:=
 (vB j hd m k).mono λ_ _⟨d,r,e,f,g,h,i⟩=>⟨d,r,e,f,g,h.1,i⟩
end
section
variable{L:List Nat}{K:Int->E->Prop}{v:Int}
def Pd(a:List bo)(b:List Nat)(B k:Nat)(x:Instr):Prop:=x.op≠21/\∀n:Int,(k:Int)<n->Uu a b B k ⟨x.op,0,n,0,x.args,x.di⟩
def xw(c:List bo)(d:List Nat)(B:Nat)(D E:Nat->Prop)(l b:List Instr)(n:Nat):Prop:=(∃a,b=l++a/\(∀(i:Nat)(x:Instr),a[i]? =some x->(D (l.length+i)->Pd c d B (l.length+i) x)/\(D (l.length+i)\/E (l.length+i)\/Uu c d B (l.length+i) x/\Tg b.length x))/\PZ a/\a.length<=n)/\∀q,D q\/E q->q<b.length
section
variable{b:List bo}{c:List Nat}{B:Nat}{D D' E:Nat->Prop}{l a f:List Instr}{n e k:Nat}{x:Instr}
def mZ.w(h:mZ b c B l a n)(d:∀q,¬D q)(j:∀q,¬E q):xw b c B D E l a n:=let⟨o,e,f,g,i⟩:=h;⟨⟨o,e,λm x k=>⟨λh=>absurd h (d _),Or.inr (Or.inr (f m x k))⟩,g,i⟩,λq h=>h.elim (λh=>absurd h (d q)) λh=>absurd h (j q)⟩
def xw.Yk(h:xw b c B D E l a n)(i:∀q,¬D q)(j:∀q,¬E q)(q:n<=e):mZ b c B l a e:=let⟨⟨o,d,f,g,p⟩,_⟩:=h;⟨o,d,λm x k=>((f m x k).2.resolve_left (i _)).resolve_left (j _),g,V⟩
def xw.imp(i:xw b c B D E l a n)(j:∀q,D q<->D' q)(o:n<=e):xw b c B D' E l a e:=by
 obtain rfl:D=D':=funext λq=>propext (j q);let⟨⟨k,d,f,g,m⟩,h⟩:=i;exact⟨⟨k,d,f,g,V⟩,h⟩
def xw.len(h:xw b c B D E l a n):l.length<=a.length/\a.length<=l.length+n:=by obtain⟨⟨e,rfl,-,-,d⟩,-⟩:=h;simp;omega
def xw.then(h:xw b c B D E l a n)(s:mZ b c B a f e):xw b c B D E l f (n+e):=by
 obtain⟨⟨g,rfl,m,p,y⟩,k⟩:=h;obtain⟨v,rfl,o,q,z⟩:=s;refine⟨⟨g++v,aH,λi x d=>?_,λx u=>(List.mem_append.1 u).elim (p x) (q x),bN⟩,λw h=>by have:=k w h;simp at this⊢;omega⟩;rcases aU i g.length with j|j
 .rw[aw j]at d;let⟨r,t⟩:=m i x d;exact⟨r,t.imp id λh=>h.imp id λh=>⟨h.1,h.2.up aH⟩⟩
 .rw[aG j]at d;have:=o _ x d;have r:(l++g).length+(i -g.length)=l.length+i:=bN;rw[r]at this;exact⟨λh=>by have:=k _ (Or.inl h);simp at this;omega,Or.inr (Or.inr this)⟩
def xw.fW(h:xw b c B D E l a n)(f:∀q,D' q<->D q\/q=a.length/\Pd b c B q x)(r:D' a.length\/E a.length)(s:x.args.length<=10^12/\x.di.length<=10^12):xw b c B D' E l (a++[x]) (n+1):=by
 obtain⟨⟨g,rfl,k,m,u⟩,e⟩:=h;refine⟨⟨g++[x],aH,λi y d=>?_,λy t=>?_,bN⟩,λq h=>?_⟩
 .rcases aU i g.length with j|j
  .rw[aw j]at d;let⟨o,p⟩:=k i y d;refine⟨λh=>?_,p.imp (λh=>(f _).2 (Or.inl h)) λh=>h.imp id λh=>⟨h.1,h.2.up aH⟩⟩;rcases(f _).1 h with h|h
   .exact o h
   .have:=h.1;simp at this;omega
  .rw[aG j]at d;have:i -g.length=0:=by have:=ax d;simp at this;omega
   rw[this]at d;simp at d;subst d;have o:l.length+i=(l++g).length:=bN;rw[o];refine⟨λh=>?_,r.imp id Or.inl⟩;rcases(f _).1 h with h|h
   .have:=e _ (Or.inl h);omega
   .exact h.2
 .rcases List.mem_append.1 t with h|h
  .exact m y h
  .simp at h;subst h;exact s
 .simp at e⊢;rcases h with h|h
  .rcases(f q).1 h with h|h
   .have:=e q (Or.inl h);omega
   .have:=h.1;simp at this;omega
  .have:=e q (Or.inr h);omega
def xw.aaf(e:x.args.length<=10^12/\x.di.length<=10^12):xw b c B (λ_=>False) (·=l.length) l (l++[x]) 1:=⟨⟨[x],rfl,λi y d=>⟨False.elim,Or.inr (Or.inl (by have:=ax d;simp at this;show l.length+i=l.length;omega))⟩,λy a=>by simp at a;subst a;exact e,ad _⟩,λq h=>by simp at h⊢;omega⟩
def xw.L9(h:xw b c B D E l a n)(e:0<B):xw b c B (λq=>D q\/q=a.length) E l (a++[⟨22,0,0,0,[],[]⟩]) (n+1):=
 h.fW (λq=>or_congr CI (iff_self_and.2 λ_=>⟨bh,λn d=>⟨aH,⟨dh _,by show(0:Int)<_;omega⟩,Or.inl rfl,Or.inl rfl,Or.inr rfl,by simpa[Sp]using d⟩⟩)) (Or.inl (Or.inr rfl)) aH
def xw.set{E':Nat->Prop}(h:xw b c B D E l a n)(v:l.length<=k)(C:Uu b c B k x)(A:Tg a.length x)(z:x.args.length<=10^12/\x.di.length<=10^12)(w:D' k->Pd b c B k x)(f:∀q,D' q->D q)(o:∀q,D q->q≠k->D' q)(r:∀q,E' q->E q)(s:∀q,E q->q≠k->E' q):xw b c B D' E' l (a.set k x) n:=by
 obtain⟨⟨G,rfl,j,m,d⟩,p⟩:=h;refine⟨⟨G.set (k -l.length) x,by rw[Xy _ _ v],λi y e=>?_,λy F=>?_,bN⟩,λq h=>?_⟩
 .rw[ik]at e;split at e
  .rename_i t;have g:l.length+i=k:=V;split at e
   .simp at e;subst e;rw[g];exact⟨w,Or.inr (Or.inr ⟨C,by simpa using A⟩)⟩
   .simp at e
  .have g:l.length+i≠k:=V;let⟨t,u⟩:=j i y e;exact⟨λh=>t (f _ h),u.imp (λh=>o _ h g) λh=>h.imp (λh=>s _ h g) λh=>⟨h.1,by simpa using h.2⟩⟩
 .rcases cL F with h|h
  .exact m y h
  .rw[h];exact z
 .rw[iH];exact p q (h.imp (f q) (r q))
def xw.ZH(h:xw b c B D E l a n)(hd:D k)(i:l.length<=k)(d:a[k]? =some x)(o:∀q,D' q->D q)(p:∀q,D q->q≠k->D' q):xw b c B D' E l (a.set k ⟨x.op,0,a.length,0,x.args,x.di⟩) n:=by
 have v:=ax d;have q:=h;obtain⟨⟨s,rfl,j,m,t⟩,u⟩:=h;rw[aG i]at d;have f:=j _ x d;rw[show l.length+(k -l.length)=k by omega]at f;have e:=f.1 hd;have g:=e.2 ((l++s).length:Nat) V;have r:x.di=[]:=g.di.resolve_left e.1;exact q.set i g ⟨λ_=>dh _,by simp[r]⟩ (m x (aq d)) (λ_=>e) o p (λ_ h=>h) λ_ h _=>h
end
section
variable{S:List Nat}{e m a:E}{b:Nat}{s c:O}{l d:List Instr}
def Eg.re{S' Y:List Nat}(h:Eg S e m b s l)(i:Fz Y m a)(f:∀c∈Y,c∈S/\c≠b/\c≠s.az)(j:∀c∈S',c∈S\/m.size<=c):Eg S' e a b s l:=
 ⟨h.box.congr (i.same _ h.box.lt λg=>(f _ g).2.1 rfl),h.gr.re dG.mono i (λc d=>ah _ (f c d).1) (λg=>(f _ g).2.2 rfl) λc d=>(List.mem_cons.1 d).elim (λg=>Or.inl (by rw[g];exact aX)) λd=>(j c d).imp (ah _) id,h.up⟩
def Hc(k:Eg S e m b s l)(z:J e m)(w:∀h∈S,h<m.size)(n:l.length<=10^12)(u:∀f∈L,f<m.size/\f≠b/\f≠s.az){o i bK:Int}(y:∀c d a,Eg S e a b c d->d=l++[⟨o,i,bK,0,[v],[]⟩]->Fz [b,s.az] m a->(c.az=s.az\/m.size<=c.az)->K (l.length:Nat) a):
 aN cq 67 [vp b 0,.agg #[vi o,vi i,vi bK,vi 0,O.v (.mk m.size 0 1 1),O.v .nil]] (m.push (.cells (bD [.i v]) ay)) λr a=>eG L (m.push (.cells (bD [.i v]) ay)) a/\∃q:Int,r=vi q/\K q a:=by
 have g:=J.push m (.cells (bD [.i v]) ay)
 have D:=k.gr.bg;have C:=k.box.lt
 have A:ap (bG (s.az::b::S) (m.push (.cells (bD [.i v]) ay))) (.mk m.size 0 1 1) [v]:=ap.lit ay _ (by
  intro h p;simp only[aV]at p;rcases p with j|j|j
  .omega
  .omega
  .exact w h j) rfl rfl aH
 refine(pZ (x:=⟨o,i,bK,0,[v],[]⟩) (k.ext g) (z.trans g).size A (sG _) n).mono λr a⟨p,c,d,t,j,h,B⟩=>⟨OH.da h λf n=>?_,_,p,?_⟩
 .have:=u f n;exact⟨g.lt this.1,this.2⟩
 exact y c d a t j.symm (((g.fz [b,s.az])).trans h) (oh g.size)
def TC(j:Eg S e m b s l)(t:J e m)(p:l.length<=10^12)(o:∀f∈L,f<m.size/\f≠b/\f≠s.az)(q:∀c d a,Eg S e a b c d->d=l++[⟨22,0,0,0,[],[]⟩]->Fz [b,s.az] m a->(c.az=s.az\/m.size<=c.az)->K (l.length:Nat) a):
 aN cq 67 [vp b 0,.agg #[vi 22,vi 0,vi 0,vi 0,O.v .nil,O.v .nil]] m λr a=>eG L m a/\∃n:Int,r=vi n/\K n a:=
 (pZ (x:=⟨22,0,0,0,[],[]⟩) j t.size (sG _) (sG _) p).mono λr a⟨i,c,d,k,h,f,g⟩=>⟨OH.da f o,_,i,q c d a k h.symm f g⟩
def SK{K:E->Prop}{k:Nat}{x:Instr}(i:Eg S e m b s l)(q:J e m)(p:l[k]? =some x)(n:∀f∈L,f<m.size/\f≠b/\f≠s.az)(o:∀c d a,Eg S e a b c d->d=l.set k ⟨x.op,0,l.length,0,x.args,x.di⟩->Fz [b,s.az] m a->(c.az=s.az\/m.size<=c.az)->K a):
 aN cq 147 [vp b 0,vi k] m λ_ a=>eG L m a/\K a:=
 (QJ i q.size p).mono λr a⟨c,d,j,h,f,g⟩=>⟨OH.da f n,o c d a j h.symm f g⟩
end
def QA{a:List bo}{c:List Nat}{B:Nat}{l:List Instr}{d:Int}(hd:0<=d/\d<(B:Int))(b:0<=v/\v<(B:Int)):mZ a c B l (l++[⟨18,d,0,0,[v],[]⟩]) 1:=mZ.ln ⟨by simpa using b,hd,Or.inr (Or.inr (Or.inl rfl)),Or.inl rfl,Or.inr rfl,by simp[Sp]⟩ (by show(18:Int)<20;decide) aH
end
section
variable{b:List eP}{B:Nat}
def KS{r:List bo}{i:cE}(cz:i.op=7\/i.op=8)(ih:∀c∈i.bF,WE r b B c):XH r b B i:=by
 intro G K I e v q cons first cl fl a7 bd aa ak j ai cG hB cS m ha hk
 apply tv (e,0);simp -zeta only[aE,aD];intro ax ae;let⟨x2,hl⟩:=dj (a:=ax) (c:=ae) rfl rfl;have s1:ax.size=I.size+1:=by simp[ax]
 have s2:ae.size=I.size+2:=by simp[ae,s1]
 clear_value ae;have cJ:=j.em.box.lt;have c1:=j.em.gr.bg;have c0:=cE.lg i;have cA:=ha.len;have cP:=hk.len;have cO:=pL i.bF;have ca:=ai.dU.ln V;have cH:=j.cons.len;have bI:∀aa∈i.args,0<=aa/\aa<(B:Int):=λaa h=>oh (ai.dU.args aa h);have kB:∀{w:Nat}{c:Bk},i.bF[w]? =some c->0<=c.aR/\c.aR<(B:Int):=λ{w c} d=>by
  have h:=(ai.bF w c d).bB.2;have h1:=OU m.types i.op i.bK w;have h2:=pM c.aC;have h3:=fw c.aC;have h4:=Bk.lg c;have h5:=uj d;omega
 have cU:=j.x.size;have cR:∀{g:E}{f:O},Fz [e,v.az] I g->(f.az=v.az\/I.size<=f.az)->Le (bG [v.az,e] I) (bG [f.az,e] g):=Qc;have st:∀{a6:List Nat}{g:E}{f:O}{P:List Instr},Eg a6 K g e f P->Fz [e,v.az] I g->(f.az=v.az\/I.size<=f.az)->(∀o∈a6,o<g.size)->RE a6 K g e f P cons first cl fl:=λA N d hS=>⟨A,j.em.fR j.x N,hS,j.cons.le (cR N d),j.first.le (cR N d),j.same,j.jg⟩
 have LL:∀{g:E}{f:O},ae.size<=g.size->(f.az=v.az\/ae.size<=f.az)->∀c∈[ax.size,I.size],c<g.size/\c≠e/\c≠f.az:=λhz d c a9=>by simp at a9;omega
 have fr:∀{g s:E}{f:O},Fz [e,v.az] I g->(f.az=v.az\/ae.size<=f.az)->Fz [e,f.az] g s->Fz [e,v.az] I s:=λN d ab=>N.rq ab λy l=>by simp at l⊢;omega
 have fR:∀{g:E},I.size<=g.size->∀o∈G,o<g.size:=λh o hc=>by have:=j.fR o hc;omega
 have aI:∀{w:Nat}{c:Bk}{g:E},i.bF[w]? =some c->J K g->∃Q,eH K Q c.aC/\af g ak.az (ak.off+w*2)=some (O.v Q)/\af g ak.az (ak.off+w*2+1)=some (vi c.aR):=λd bi=>let⟨Q,h1,h2,h3⟩:=hk.aO d;⟨Q,h1,bi.af h2,bi.af h3⟩;refine⟨λh7=>?_,λh7=>?_⟩
 .simp only[aM]at h7;have aP:=ai.dU.Jw h7;let⟨F,H⟩:=cg i.bF 0;let⟨b1,T⟩:=cg i.bF 1;have b0:bw i.bF=F.w+b1.w:=by
   obtain⟨u,C,p⟩:∃u C,i.bF=[u,C]:=by
    match i.bF,aP with
    |[u,C],_=>exact⟨u,C,rfl⟩
   rw[p]at H T⊢;simp at H T;subst H T;simp[bw]
  have w0:=F.Gj;have w1:=b1.Gj;have ac:∀w,AE r i.op i.bK w=0:=λw=>JV V;have E2:=j.ext x2;refine(bO (v.az::e::G) (ha.ext E2.x) V).mono λC R⟨a',la,p,ga,ea,x3⟩=>⟨x3.da hl,a',p,?_⟩;subst ea;have z3:=x3.size;have aR:∀o∈v.az::e::G,o<ae.size:=bQ (bQ (fR (g:=ae) V) V V) (ad _) V;refine(pZ (x:=⟨20,0,0,0,i.args,[]⟩) (E2.em.ext x3) (E2.x.trans x3).size (GI.done ga aR (by show i.args.length<=_;omega)) (sG _) V).mono λC m4⟨ev,s4,l4,av,p4,f4,b4⟩=>⟨OH.da f4 (LL z3 (Or.inl rfl)),_,ev,?_⟩;subst p4;have z4:=f4.size;have F4:Fz [e,v.az] I m4:=((x2.trans x3).fz _).trans f4;have w4:xw r (pc b) B (·=q.length) (λ_=>False) q (q++[⟨20,0,0,0,i.args,[]⟩]) 1:=((mZ.aF _ _ _ q).w (D:=λ_=>False) (λ_ h=>h) λ_ h=>h).fW (λt=>⟨λp=>Or.inr ⟨p,(by show(20:Int)≠21;decide),λaJ m=>⟨bI,⟨dh _,by show(0:Int)<_;omega⟩,Or.inl rfl,Or.inl rfl,Or.inr rfl,by simpa[Sp,ca]using m⟩⟩,λh=>h.elim False.elim And.left⟩) (Or.inl rfl) ⟨by show i.args.length<=_;omega,aH⟩;let⟨t0,aS,g0,g1⟩:=aI H (j.em.fR j.x F4);refine⟨bh,V,_,g0,_,g1,?_⟩;have ag:=ai.bF 0 F H;rw[ac]at ag;have aW:=w4.len;refine(ih F (aq H) G K m4 e s4 _ cons first cl fl a7 bd t0 (st av F4 V (fR V)) (by simpa using ag) V hB V m aS).mono λC z⟨s5,l5,a8,p5,f5,b5⟩=>⟨OH.da f5 (LL V V),?_⟩;have Y:=fr F4 V f5;have z5:=f5.size;have w5:=w4.then p5;have X5:=j.em.fR j.x Y;obtain⟨_,-,-,g5⟩:=aI H X5;refine⟨bh,V,_,g5,?_⟩;have aY:=w5.len;refine Hc a8 X5 (fR V) V (LL V V) λs6 U m6 aw e6 f6 b6=>?_;have F6:=fr Y V f6;have z6:=f6.size;have w6:xw r (pc b) B (·=q.length) (λ_=>False) q U (1+6*(F.w -1)+1):=e6▸w5.then (QA ⟨V,V⟩ (kB H));have aZ:=w6.len;have a5:U.length=l5.length+1:=by rw[e6];simp
  have X6:=j.em.fR j.x F6;refine TC aw X6 V (LL V V) λs7 l7 m7 az e7 f7 b7=>?_;have F7:=fr F6 V f7;have z7:=f7.size;have w7:xw r (pc b) B (λt=>t=q.length\/t=U.length) (λ_=>False) q l7 (1+6*(F.w -1)+1+1):=e7▸w6.L9 V;have a_:l7.length=U.length+1:=by rw[e7];simp
  let⟨L,am⟩:=cg l7 q.length;refine SK az (j.em.fR j.x F7) am (LL V V) λs8 l8 m8 aF e8 f8 b8=>?_;have w8:xw r (pc b) B (·=U.length) (λ_=>False) q l8 (1+6*(F.w -1)+1+1):=e8▸w7.ZH (Or.inl rfl) (ad _) am (λ_=>Or.inr) λ_ h m=>h.resolve_left m;have ba:l8.length=l7.length:=by rw[e8];simp
  have W:=fr F7 V f8;have z8:=f8.size;let⟨t1,aU,k0,k1⟩:=aI T (j.em.fR j.x W);refine⟨bh,V,_,k0,_,k1,?_⟩;have aj:=ai.bF 1 b1 T;rw[ac]at aj;have a0:=w8.len;refine(ih b1 (aq T) G K m8 e s8 l8 cons first cl fl a7 bd t1 (st aF W V (fR V)) (by simpa using aj) V hB V m aU).mono λC m9⟨s9,l9,aG,p9,f9,b9⟩=>⟨OH.da f9 (LL V V),?_⟩;have F9:=fr W V f9;have z9:=f9.size;have w9:=w8.then p9;have X9:=j.em.fR j.x F9;obtain⟨_,-,-,g9⟩:=aI T X9;refine⟨bh,V,_,g9,?_⟩;have cd:=w9.len;have bb:=p9.len.1;refine Hc aG X9 (fR V) V (LL V V) λbA Z bc ar aK aC bJ=>?_;have aO:xw r (pc b) B (·=U.length) (λ_=>False) q Z (1+6*(F.w -1)+1+1+6*(b1.w -1)+1):=aK▸w9.then (QA ⟨V,V⟩ (kB T));have aB:=fr F9 V aC;have co:=aC.size;have cf:Z.length=l9.length+1:=by rw[aK];simp
  let⟨bf,al⟩:=cg Z U.length;refine SK ar (j.em.fR j.x aB) al (LL V V) λa4 aN be au aT aL bK=>?_;exact⟨a4,aN,au,aT▸(aO.ZH (D':=λ_=>False) rfl V al (λ_ h=>h.elim) λ_ h m=>m h).Yk (λ_ h=>h) (λ_ h=>h) V,fr aB V aL,V⟩
 .simp only[ao]at h7;have h8:i.op=8:=V;let⟨cN,cM⟩:=ai.dU.all h8;let⟨y,bt⟩:=cg i.args 0;let⟨y0,y1⟩:=ai.dU.args y (aq bt);obtain⟨yn,rfl⟩:∃aJ:Nat,y=aJ:=⟨y.toNat,V⟩;have E2:=j.ext x2;refine⟨bh,V,yn,(ha.ext E2.x).aO bt,?_⟩;have ch:∀o∈[v.az,e],o<ae.size:=λo hc=>by simp at hc;omega
  refine(gQ (e:=[v.az,e]) ch (m.bt.le E2.x.le) m.types i.bK).mono λC R⟨aS,ct,ec,hc,qc,x3⟩=>⟨x3.da hl,aS,ec,?_⟩;subst qc;have cI:=hc.len;have z3:=x3.size;intro m4;refine Hc (E2.em.ext x3) (E2.x.trans x3) (fR V) V (LL z3 (Or.inl rfl)) λs5 l5 z a8 e5 f5 b5=>?_;have z5:=f5.size;have w5:xw r (pc b) B (λ_=>False) (·=q.length) q l5 1:=e5▸xw.aaf aH;have c6:l5.length=q.length+1:=by rw[e5];simp
  intro m6 m7;have x6:J z m6:=J.push _ _;have x7:J m6 m7:=J.push _ _;have s6:m6.size=z.size+1:=by simp[m6]
  have s7:m7.size=m6.size+1:=by simp[m7]
  have bV:GI [] z m7 (.mk z.size 0 0 0) []:=(GI.nil [] z).ext x7;have bT:GI [] z m7 (.mk m6.size 0 0 0) []:=GI.cG (GI.nil [] m6) (λ_ h=>h) x6.size;clear_value m7 m6;have bj:=x6.trans x7;have aF:∀{g s:E}{f:O},Fz [e,v.az] R g->(f.az=v.az\/R.size<=f.az)->Fz [e,f.az] g s->Fz [e,v.az] R s:=λN d ab=>N.rq ab λy l=>by simp at l⊢;omega
  have F0:Fz [e,v.az] I R:=(x2.trans x3).fz _;have bk:∀{g:E}{f:O}{w:Nat}{o:Int},Fz [e,v.az] R g->(f.az=v.az\/R.size<=f.az)->(bY r i.bK)[w]? =some o->af g aS.az (aS.off+w*1)=some (vi o):=λ{g f w o} N d h=>(dY.1 ((hc.le (oR (c:=[f.az,e]) (a:=g) λc a9 m=>by
   simp at m;exact⟨by simp;rcases d with p|p<;>omega,N.same c a9 bN⟩)).aO h)).2
  have bC:∀{g:E},z.size<=g.size->Fz (List.range z.size) z g:=λh=>⟨h,λc d m=>absurd (List.mem_range.2 d) m⟩;have al:∀{g s:E}{u:O}{ul:List Int}{aR:List Nat},GI [] z g u ul->Fz aR g s->u.az∉aR->GI [] z s u ul:=λ{g s u ul aR} ab N h=>GI.any ((GI.any (e:=aR) ab).MR tm.mono N (λ_ h=>h) h);have o7:Eg (z.size::m6.size::G) K m7 e s5 l5:=a8.re (bj.fz []) aH λc d=>by
   simp only[aV]at d;rcases d with p|p|p
   .exact Or.inr V
   .exact Or.inr V
   .exact Or.inl p
  refine vS (n:=(bY r i.bK).length) V (λak Q en g=>∃f P W F,Eg (Q.az::en.az::G) K g e f P/\xw r (pc b) B (λt=>(t:Int)∈F) (·=q.length) q P (1+6*bw (i.bF.take ak))/\GI [] z g Q W/\(W.length=ak/\∀y∈W,(q.length:Int)<y/\y<=(P.length:Int))/\GI [] z g en F/\F.length<=ak/\(∀y∈F,∃t:Nat,y=t/\q.length<t/\t<P.length)/\Q.az≠en.az/\Fz [e,v.az] R g/\(f.az=v.az\/R.size<=f.az)/\m7.size<=g.size/\q.length<P.length)
   ⟨s5,l5,[],[],o7,w5.imp (λ_=>aH) aH,bV,⟨rfl,aH⟩,bT,ad _,aH,by show z.size≠m6.size;omega,f5.then bj,V,ad _,V⟩ ?_
  rintro H Q en g cp μ hj ⟨f,P,W,F,A,bf,gt,⟨cc,bc⟩,ge,cK,aY,cV,N,d,zM,cT⟩ bu
  have bE:=F0.trans N;have XM:=j.em.fR j.x bE;have ty:=gt.bg;have ey:=ge.bg;have t1:Q.az≠e:=gt.ne A.box bh;have t2:Q.az≠f.az:=gt.Kw A.gr bh;have n1:en.az≠e:=ge.ne A.box bh;have n2:en.az≠f.az:=ge.Kw A.gr bh;have cW:=A.gr.len bh;have cZ:=bf.len;have b0:=JX i.bF H;have oy:=A.gr.bg;have c9:=A.box.lt;refine dit (λh=>?_) λh=>?_
  .let⟨o,a_⟩:=cg (bY r i.bK) H;let⟨c,aG⟩:=cg i.bF H;have cD:=tP aG;have cF:=JX i.bF (H+1);have cC:=c.Gj;have bp:AE r i.op i.bK H=(bZ r o).length:=JU h8 a_;have cB:=OU m.types i.op i.bK H;refine⟨f,A.box.cJ 0,?_⟩;intro m8;refine GI.ku gt (bC V) aH V λt' M1 aU cv z1 q1=>?_;have fa:Fz [Q.az] g M1:=⟨z1.1,λc d m=>q1 c d (by simpa using m)⟩;refine⟨λc d=>by
    simp at d;rw[q1 c V V,(J.push g _).same c V],?_⟩
   have f1:Fz [e,v.az] R M1:=N.rq fa λy l=>by simp at l⊢;omega
   have bS:=al ge fa bN;have o1:Eg (t'.az::en.az::G) K M1 e f P:=A.re fa (by simp;exact⟨t1,t2⟩) λc d=>by
    rcases List.mem_cons.1 d with p|p
    .rcases z1.2 with e'|e'
     .exact Or.inl (by rw[p,e'];simp)
     .exact Or.inr V
    .exact Or.inl (ah _ p)
   have cm:=aU.bg;refine⟨V,V,o,bk f1 d a_,?_⟩;have X1:=j.em.fR j.x (F0.trans f1);refine(dC (e:=[]) aH (m.bt.le (X1.le.trans (yS _))) m.types o).mono λC M2⟨ff,cy,ef,hf,qf,aP⟩=>⟨aP.da λc d=>by simp at d;omega,ff,ef,?_⟩;subst qf;have b7:=hf.len;have z2:=aP.size;have f2:=f1.then aP;refine dZ (n:=(bZ r o).length) V (λw s=>∃az aw,Eg (t'.az::en.az::G) K s e az aw/\xw r (pc b) B (λt=>(t:Int)∈F) (·=q.length) q aw (1+6*bw (i.bF.take H)+w)/\Fz [e,f.az] M2 s/\(az.az=f.az\/M2.size<=az.az)/\P.length<=aw.length) ⟨f,P,o1.ext aP,bf,Fz.aF _ _,Or.inl rfl,ad _⟩ ?_;rintro w M3 I3 μ3 hi ⟨ag,l3,o3,w3,f3,b3,c3⟩ ci;have db:=f3.size;have F3:=aF f2 d f3;have aW:ag.az=v.az\/R.size<=ag.az:=V;have cY:=w3.len;have X3:=j.em.fR j.x (F0.trans F3);have LM:∀{s:E}{u:O},M3.size<=s.size->(u.az=v.az\/R.size<=u.az)->∀c∈[ax.size,I.size],c<s.size/\c≠e/\c≠u.az:=λhz d=>LL V V;have aZ:∀{s:E},M3.size<=s.size->∀o∈t'.az::en.az::G,o<s.size:=λh=>bQ (bQ (fR (g:=M3) V) (ad _) V) h V;refine⟨λba=>?_,λba=>?_⟩
   .simp only[an]at ba;intro m9;refine Hc o3 X3 (aZ (ad _)) V (LM (ad _) aW) λs4 l4 M4 o4 e4 f4 b4=>ci V _ ⟨s4,l4,o4,?_,f3.rq f4 λy l=>by simp at l⊢;omega,V,by rw[e4];simp;omega⟩;rw[e4];exact w3.then (mZ.ln ⟨bN,⟨by show 0<=cQ _;rw[aQ V V];omega,by show cQ _<_;rw[aQ V V];omega⟩,Or.inr (Or.inr (Or.inr rfl)),Or.inl rfl,Or.inr rfl,by simp[Sp];omega⟩ (by show(19:Int)<20;decide) aH)
   simp only[br]at ba;have bb:w=(bZ r o).length:=V;subst bb;have y3:=o3.gr.bg;have cq:=o3.box.lt;have ac:∀{s:E},M3.size<=s.size->∀o∈[ag.az,e],o<s.size:=λh o hc=>by simp at hc;omega
   rw[b7];refine(lA (S:=[ag.az,e]) (ac (ad _)) 0 (bZ r o).length V).mono λC M4⟨s4,l4,e4,g4,q4,x4⟩=>⟨x4.da λc d=>by simp at d;omega,s4,e4,?_⟩;have z4:=x4.size;have h4:=GI.done g4 (ac (ad _)) V;let⟨tk,cb,k0,k1⟩:=aI aG (X3.trans x4);have F4:=F3.then x4;have Y:∀{u C:E},J M4 u->J u C->∀A,af C ax.size A=af u ax.size A/\af C I.size A=af u I.size A:=λaa c A=>⟨gl c (oh aa.size) A,gl c (oh aa.size) A⟩;refine⟨V,V,tk,k0,_,k1,V,V,o,bk F4 aW a_,?_⟩;have S4:=st o3 (F0.trans F3) V (aZ (ad _));have cr:=S4.cons.len;have cx:=S4.first.len;have c_:=S4.same;refine(ud (S:=[ag.az,e]) (ac z4) (S4.cons.le (x4.cR _)) V (a:=yn) V o).mono λC M5⟨s5,c5,e5,g5,q5,T⟩=>⟨T.da λc d=>by simp at d;omega,s5,e5,gx T k0,gx T k1,(Y (J.aF _) T _).1,(Y (J.aF _) T _).2,(Y (J.aF _) T _).2,?_⟩;have z5:=T.size;have h5:=GI.done g5 (ac z4) (by rw[<-q5];simp;omega);refine(eE (S:=[ag.az,e]) (ac V) h5 (h4.le (T.cR _)) (by rw[<-q5];simp;omega)).mono λC M6⟨be,U,e6,g6,q6,am⟩=>⟨am.da λc d=>by simp at d;omega,be,e6,gx am (T.af k0),gx am (T.af k1),(Y T am _).1,(Y T am _).2,(Y T am _).2,?_⟩;have z6:=am.size;have au:=T.trans am;have h6:=GI.done g6 (ac V) (by rw[<-q6,<-q5];simp;omega);refine(ud (S:=[ag.az,e]) (ac V) (S4.first.le ((x4.trans au).cR _)) V (a:=yn) V cons.len).mono λC M7⟨cj,l7,e7,g7,q7,aj⟩=>⟨aj.da λc d=>by simp at d;omega,cj,e7,gx aj (au.af k0),gx aj (au.af k1),(Y au aj _).1,(Y au aj _).2,(Y au aj _).2,?_⟩;have z7:=aj.size;have av:=au.trans aj;have bW:=GI.done g7 (ac V) (by rw[<-q7];simp;omega);refine(eE (S:=[ag.az,e]) (ac V) bW (h4.le (av.cR _)) (by rw[<-q7];simp;omega)).mono λC M8⟨s8,l8,e8,g8,q8,L⟩=>⟨L.da λc d=>by simp at d;omega,s8,e8,gx L (av.af k0),gx L (av.af k1),(Y av L _).1,(Y av L _).2,(Y av L _).2,?_⟩;have z8:=L.size;have bX:=GI.done g8 (ac V) (by rw[<-q8,<-q7];simp;omega);have ar:=(x4.trans av).trans L;have bq:U.length=cl.length+AE r i.op i.bK H:=by rw[<-q6,<-q5,bp];simp;omega
   have b8:l8.length=U.length:=by rw[<-q8,<-q7,bq,bp];simp;omega
   have ES:RE (t'.az::en.az::G) K M8 e ag l3 be s8 U l8:=⟨o3.ext ar,X3.trans ar,aZ ar.size,h6.le ((aj.trans L).cR _),bX,b8,λy l=>by
    rw[<-q8]at l;rcases List.mem_append.1 l with l|l
    .rw[<-q7]at l;rcases cL l with l|l
     .have:=j.jg y l;omega
     .omega
    .have:=q4.1 y l;omega⟩
   have ce:WB r (pc b) True U.length c:=by rw[bq];exact ai.bF H c aG
   refine(ih c (aq aG) _ K M8 e ag l3 be s8 U l8 a7 bd tk ES ce V hB V m cb).mono λC M9⟨s9,l9,o9,p9,f9,b9⟩=>⟨OH.da f9 (LM (oh ar.size) aW),?_⟩;have z9:=f9.size;have dc:=ar.size;have F9:=aF (F3.then ar) aW f9;have X9:=j.em.fR j.x (F0.trans F9);have w9:=w3.then p9;have cd:=w9.len;have c4:=p9.len.1;obtain⟨_,-,-,g9⟩:=aI aG X9;refine⟨V,V,_,g9,?_⟩;refine Hc o9 X9 (aZ V) V (LM V V) λbA Z bg a0 aK aC bJ=>?_;have co:=aC.size;have aB:=aF F9 V aC;have aO:xw r (pc b) B (λt=>(t:Int)∈F) (·=q.length) q Z (1+6*bw (i.bF.take H)+(bZ r o).length+6*(c.w -1)+1):=aK▸w9.then (QA ⟨V,V⟩ (kB aG));have cf:Z.length=l9.length+1:=by rw[aK];simp
   have cX:=aO.len;have kI:∀{u:O}{ul:List Int},GI [] z M1 u ul->u.az≠e->u.az≠f.az->u.az<M1.size->GI [] z bg u ul:=λ{u ul} ab a1 a2 a3=>by
    have g2:=ab.ext aP;have g3:=al g2 f3 (by simp;exact⟨a1,a2⟩);have bM:=g3.ext ar;have bP:=al bM f9 (by simp;exact⟨a1,by rcases b3 with p|p<;>omega⟩);exact al bP aC (by simp;exact⟨a1,by rcases b9 with p|p<;>omega⟩)
   have bB:t'.az≠e:=aU.ne o1.box bh;have ck:t'.az≠f.az:=aU.Kw o1.gr bh;have bn:=kI aU bB ck cm.2;have bl:=kI bS n1 n2 V;have bs:∀{aJ:Nat},Z.length<=aJ->(W++[(f.len:Int)]).length=H+1/\∀y∈W++[(f.len:Int)],(q.length:Int)<y/\y<=(aJ:Int):=λ{aJ} h=>⟨bN,λy l=>by
    rcases List.mem_append.1 l with l|l
    .have:=bc y l;omega
    .simp at l;omega⟩
   rw[aQ (b:=(aS.len:Int) -1) V V];refine⟨λb_=>?_,λb_=>bu V _ _ _ ⟨bA,Z,W++[(f.len:Int)],F,a0,aO.imp (λ_=>CI) V,bn,bs (ad _),bl,V,λy l=>by obtain⟨t,p,h1,h2⟩:=aY y l;exact⟨t,p,h1,V⟩,V,aB,V,V,V⟩⟩;have c8:=a0.gr.bg;refine TC a0 (j.em.fR j.x (F0.trans aB)) V (LM V V) λa4 aN a5 bv aT aL bK=>?_;have da:=aL.size;have bF:=aF aB V aL;have cn:xw r (pc b) B (λt=>(t:Int)∈F++[(Z.length:Int)]) (·=q.length) q aN (1+6*bw (i.bF.take H)+(bZ r o).length+6*(c.w -1)+1+1):=aT▸(aO.L9 V).imp (λt=>by rw[lE,fN];exact or_congr CI V) (ad _);have c2:aN.length=Z.length+1:=by rw[aT];simp
   have nx:∀{u:O}{ul:List Int},GI [] z bg u ul->u.az≠e->GI [] z a5 u ul:=λab aa=>al ab aL (by simp;exact⟨aa,ab.Kw a0.gr bh⟩);have bU:=nx bn bB;have bm:=nx bl n1;intro c7;refine GI.ku bm (bC V) aH V λcu bH bR cw bD bx=>?_;have fb:Fz [en.az] a5 bH:=⟨bD.1,λc d m=>bx c d (by simpa using m)⟩;have bL:en.az≠a4.az:=bm.Kw bv.gr bh;refine⟨λc d=>by
    simp at d;rw[bx c V V,(J.push a5 _).same c V],bu V _ _ _ ⟨a4,aN,W++[(f.len:Int)],F++[(Z.length:Int)],?_,cn.imp (λ_=>CI) V,al bU fb bN,bs V,bR,bN,λy l=>?_,V,bF.rq fb λy l=>by simp at l⊢;omega,V,V,V⟩⟩
   .exact bv.re fb (by simp;exact⟨n1,bL⟩) λc d=>by
     simp only[aV]at d⊢;rcases d with p|p|p
     .exact Or.inl (Or.inl p)
     .rcases bD.2 with e'|e'
      .exact Or.inl (Or.inr (Or.inl V))
      .exact Or.inr V
     .exact Or.inl (Or.inr (Or.inr p))
   .rcases List.mem_append.1 l with l|l
    .let⟨t,p,h1,h2⟩:=aY y l;exact⟨t,p,h1,V⟩
    .simp at l;exact⟨Z.length,l,V,V⟩
  .have am:H=(bY r i.bK).length:=V;subst am;refine⟨f,A.box.cJ 0,?_⟩;intro m8;have L:J g m8:=J.push _ _;have av:ap (bG (f.az::e::G) m8) (.mk g.size 0 1 1) [(yn:Int)]:=ap.lit ay _ (bQ (bQ (fR (g:=g) V) (ad _) V) (ad _) V) rfl rfl aH;have s8:m8.size=g.size+1:=by simp[m8]
   clear_value m8;refine⟨gl L V _,gl L V _,V,V,?_⟩;have T:Eg G K m8 e f P:=(A.ext L).re (Fz.aF [] _) aH λc d=>Or.inl (ah _ (ah _ d));have aB:Q.az∉f.az::e::G:=by
    simp only[aV,uH];exact⟨t2,t1,λh=>oh (fR (g:=I) (ad _) _ h)⟩
   have au:ap (bG (f.az::e::G) m8) Q W:=(GI.any (e:=f.az::e::G) (gt.ext L)).ng tm.mono aB bh V;obtain⟨wr,gs,-,Z⟩:=T.gr.set dG.mono (X:=List.range K.size) ⟨V,λc d m=>absurd (List.mem_range.2 d) m⟩ (k:=q.length) V (a:=⟨21,0,i.bK,0,[(yn:Int)],W⟩) (cs:=[.i 21,.i 0,.i i.bK,.i 0,.s (.mk g.size 0 1 1),.s Q]) ⟨_,_,rfl,av,au⟩;refine⟨wr,?_⟩;intro m9;have s9:m9.size=m8.size:=aA _ _ _ _;have o9:Eg G K m9 e f (P.set q.length ⟨21,0,i.bK,0,[(yn:Int)],W⟩):=⟨T.box.congr (Z e (kG T.ne)),gs,T.up⟩;have f9:Fz [e,f.az] g m9:=⟨V,λc d m=>by
    simp at m;have e1:m9[c]? =m8[c]? :=Z c m.2;rw[e1,L.same c d]⟩
   have w9:=bf.set (x:=⟨21,0,i.bK,0,[(yn:Int)],W⟩) (k:=q.length) (D':=λt=>(t:Int)∈F) (E':=λ_=>False) (ad _) ⟨bN,⟨dh _,by show(0:Int)<_;omega⟩,Or.inl rfl,Or.inl rfl,Or.inl rfl,⟨rfl,rfl,by show 0<(bY r i.bK).length;omega,cc,λH hj=>(bc H hj).1⟩⟩ ⟨λp=>absurd p (by show¬((21:Int)=20\/(21:Int)=22);decide),λH hj=>(bc H hj).2⟩ ⟨aH,by show W.length<=_;omega⟩ (λh=>by obtain⟨q',e',h1,_⟩:=aY _ h;omega) (λ_ h=>h) (λ_ h _=>h) (λ_ h=>h.elim) λ_ h m=>m h;refine⟨λc d=>Z c (by simp at d;omega),?_⟩;have aC:=ge.len bh;refine dZ (n:=F.length) V (λw s=>∃az aw,Eg G K s e az aw/\xw r (pc b) B (λt=>(t:Int)∈F.drop w) (λ_=>False) q aw (1+6*bw (i.bF.take (bY r i.bK).length))/\aw.length=P.length/\GI [] z s en F/\Fz [e,v.az] R s/\(az.az=v.az\/R.size<=az.az)/\m7.size<=s.size) ⟨f,_,o9,by simpa using w9,aH,al ge f9 (by simp;exact⟨n1,n2⟩),aF N d f9,d,V⟩ ?_;rintro w s I2 μ2 hi ⟨az,l2,o2,w2,ar,U,f2,b2,z2⟩ aw;refine dit (λh=>?_) λh=>?_
   .let⟨y,Y⟩:=cg F w;obtain⟨t,rfl,aG,aK⟩:=aY y (aq Y);have aj:ap (bG [] s) en F:=(GI.any (e:=[]) U).ng tm.mono aH bh V;have ag:=aj.le (bz _ _);let⟨xq,ac⟩:=cg l2 t;refine⟨V,V,t,ag.aO Y,?_⟩;refine SK o2 (j.em.fR j.x (F0.trans f2)) ac (LL V V) λs4 l4 M4 o4 e4 f4 b4=>aw V _ ⟨s4,l4,o4,?_,by rw[e4];simp;exact ar,al U f4 (by simp;exact⟨n1,U.Kw o2.gr bh⟩),aF f2 b2 f4,oh f2.size,oh f4.size⟩;rw[e4];have hd:F.drop w=(t:Int)::F.drop (w+1):=by rw[lC V];congr 1;exact(List.getElem?_eq_some_iff.1 Y).2
    refine w2.ZH (hd▸aX) V ac (λ_ h=>hd▸ah _ h) λq' h m=>?_;rw[hd]at h;exact(List.mem_cons.1 h).resolve_left V
   .have bb:w=F.length:=V;subst bb;rw[List.drop_length]at w2;exact⟨az,l2,o2,w2.Yk aH (λ_ h=>h) V,F0.trans f2,V⟩
def KY{c:List bo}:∀a:Bk,WE c b B a:=Bk.ind λaC r f=>KX λx e h=>KS h λa d=>f x e a d
end
section
variable{b:List Nat}{e:E}{d r:O}{c:List eP}{W:Nat}
def CX(c:List bo)(d:List Nat)(B:Nat)(a:Int)(l:List Instr):Prop:=∀(k:Nat)(x:Instr),l[k]? =some x->(Uu c d B k x/\Tg (l.length -1) x)/\x.dst<a/\∀b∈x.args,b<a
def mZ.bn{b:List bo}{c:List Nat}{B n:Nat}{l:List Instr}{v:Int}(h:mZ b c B [] l n)(p:0<=v/\v<(B:Int)):CX b c B B (l++[⟨23,0,0,0,[v],[]⟩])/\RD (l++[⟨23,0,0,0,[v],[]⟩])/\PZ (l++[⟨23,0,0,0,[v],[]⟩])/\l.length<=n:=by
 obtain⟨q,m,f,j,d⟩:=h;simp only[dW,cD,bE]at m f;subst q;have g:CX b c B B (l++[⟨23,0,0,0,[v],[]⟩]):=λk x a=>by
  have:Uu b c B k x/\Tg l.length x:=by
   rcases aU k l.length with e|e
   .rw[aw e]at a;exact f k x a
   .rw[aG e]at a;have:k -l.length=0:=by have:=ax a;simp at this;omega
    rw[this]at a;simp at a;subst a;exact⟨⟨by simpa using p,⟨dh _,by show(0:Int)<_;omega⟩,Or.inl rfl,Or.inl rfl,Or.inr rfl,by simp[Sp]⟩,.no (by show(23:Int)≠20/\(23:Int)≠22;decide) rfl⟩
  exact⟨by simpa using this,this.1.dst.2,λi o=>(this.1.args i o).2⟩
 refine⟨g,λk x a=>(g k x a).1.1.ok,λx a=>?_,d⟩;rcases List.mem_append.1 a with h|h
 .exact j x h
 .simp at h;subst h;simp
structure PX(ds:List bo)(ps:List Nat)(B:Nat)(q:eP)(p:cZ):Prop where
 params:p.params=q.params
 df:p.df=q.df
 aR:p.aR=q.aR
 av:(q.params.length:Int)<=p.av/\p.av<=(B:Int)
 bn:CX ds ps B p.av p.bn
 yP:∀x,p.bn[p.bn.length -1]? =some x->x.op=23
def zA(hS:∀k∈b,k<e.size){K:List bo}(hn:dX e d r K c){C:Nat}(aF:uI K c True W)(hW:4*W+3<=C/\C<=500000000000):Nu 35 [.agg #[O.v d,O.v r]] e b K λps=>yw ps/\ps.length=c.length/\∀(l:Nat)(p:cZ),ps[l]? =some p->∃q,c[l]? =some q/\PX K (pc c) C q p/\p.bn.length<=6*W:=by
 apply Dw;simp -zeta only[aE,aD];have ht:=hn.types;have hp:=hn.iD;intro f a2;let⟨x2,hl⟩:=dj (a:=f) (c:=a2) rfl rfl;have s1:f.size=e.size+1:=by simp[f]
 clear_value a2;have a4:=hp.len;have bu:=hn.nA;have bt:=aF.gS;refine(fD (b:=f.size::b) (bQ hS x2.size (hl _ aH)) (hn.bt.le x2.le) ht).mono λ_ al⟨dd,o,a1,x3⟩=>?_;subst o;refine⟨x3.da hl,_,rfl,?_⟩;intro s bb aK;have u2:=x2.trans x3;let⟨x5,B0,g0,s3,s5⟩:=kD (b:=s.size::f.size::b) kN.mono (d:=al) (a:=s) (c:=bb) (h:=aK) rfl rfl rfl;clear_value aK;have aC:∀k∈[f.size,e.size],k<al.size:=λk u=>x3.lt (hl k u);have aA:∀k∈f.size::b,k<al.size:=λk u=>x3.lt (bQ hS x2.size (hl _ aH) k u);refine kj (R:=λv0 v1 D=>∃d p am,Value.agg #[O.v v0,O.v v1]=.agg #[O.v d,O.v p]/\bX (bG b D) d K/\gK (bG b D) p am/\(yw am/\am.length=c.length/\∀(l:Nat)(p:cZ),am[l]? =some p->∃q,c[l]? =some q/\PX K (pc c) C q p/\p.bn.length<=6*W)/\J e D) (t:=c.length) (f:=e) (b:=b) kN.mono bh bh hS ⟨V,aC _ aH⟩ u2 s3 a1 a4 V x5 B0 g0 (λl p=>SG p/\∃q,c[l]? =some q/\PX K (pc c) C q p/\p.bn.length<=6*W) (λg r' aG m' j h2 h3 h4 t=>⟨g,r',aG,rfl,j,h2,⟨⟨V,V,λq hq=>by obtain⟨v,h⟩:=List.mem_iff_getElem?.1 hq;exact(h4 v q h).1⟩,h3,λl p h=>(h4 l p h).2⟩,t⟩) λl D v aG bl μ a3 br xM ay ar bf=>?_
 let⟨q,hq⟩:=cg c l a3;let⟨q3,bi,aP,qw⟩:=aF.de q (aq hq);have T:=u2.trans xM;obtain⟨cs,⟨bm,t,bj,rfl,c1,c2,c3⟩,hr⟩:=hp.jC l q hq;have aW:=c1.len;have qp:=q.body.Gj;refine⟨V,V,_,T.af (hr 0 _ rfl),_,T.af (hr 1 _ rfl),_,T.af (hr 2 _ rfl),_,T.af (hr 3 _ rfl),_,T.af (hr 4 _ rfl),?_⟩;intro m7 g;have hy:=ay.bg;have bp:=ar.lt;have zM:=xM.size;obtain⟨x8,-,s8⟩:=iN (M:=D) (d:=m7) (c:=g) rfl rfl rfl;clear_value g;have bs:=u2.size;have w8:=T.trans x8;have aa:∀{X:E},g.size<=X.size->∀k∈v.az::s.size::f.size::b,k<X.size:=λh k u=>by
  simp only[aV]at u;rcases u with o|o|o|o
  .omega
  .omega
  .have:=aA k (by simp[o]);omega
  .have:=aA k (by simp[o]);omega
 have bq:f.size<al.size:=aC _ aH;intro j z;have x9:J g j:=J.push _ _;have s9:j.size=g.size+1:=by simp[j]
 have aQ:J j z:=J.push _ _;have bB:z.size=j.size+1:=by simp[z]
 have g9:VD (j.size::v.az::s.size::f.size::b) g j (.mk g.size 0 0 0) []:=Gr.new _ (ad _) _ _ _;have aS:cz z j.size nE [.s (.mk g.size 0 0 0)]:=cz.push _ _ _;have aX:Eg (v.az::s.size::f.size::b) g z j.size (.mk g.size 0 0 0) []:=⟨aS,g9.ext dG.mono aQ,V⟩;clear_value z j;have av:=x9.trans aQ;have aI:∀k∈[g.size,j.size],k<z.size:=λk u=>by simp at u;omega
 have LL:∀{X:E}{s':O},z.size<=X.size->(s'.az=g.size\/z.size<=s'.az)->∀t∈[D.size,f.size,e.size],t<X.size/\t≠j.size/\t≠s'.az:=λhz L t aZ=>by simp at aZ;omega
 rw[aW];refine(lA (S:=[g.size,j.size]) aI 0 q.params.length V).mono λ_ aJ⟨ab,ak,o,aY,ap,ac⟩=>⟨ac.da λt L=>by simp at L;omega,ab,o,?_⟩;have az:=GI.done aY aI V;have bk:=ac.size;have aT:RE (v.az::s.size::f.size::b) g aJ j.size (.mk g.size 0 0 0) [] ab ab ak ak:=⟨aX.ext ac,av.trans ac,aa V,az,az,rfl,λy hy=>by have:=ap.1 y hy;have:=ap.2;omega⟩;refine(KY (B:=C) q.body _ g aJ j.size _ [] ab ab ak ak d r bj aT (by rw[ap.2];exact aP) V (oh hW) bN (hn.le w8.le) (eH.le w8.le c3)).mono λbD a9⟨bC,a6,an,aO,aj,aU⟩=>⟨OH.da aj (LL bk (Or.inl rfl)),?_⟩;have bH:=aj.size;simp only[O.fG]at aU aj;have aw:J g a9:=Fz.ext ((((av.trans ac).fz [j.size,g.size]).trans aj).CG λt L=>Or.inr (by simp at L;omega));have bg:=aO.len;intro bv;refine Hc an aw (aa V) (by simp at bg;omega) (LL V V) λN y F Z ai ax bn=>?_;have bI:=ax.size;have bE:=an.gr.bg;have ae:J g F:=an.fR aw ax;have a5:0<=q.body.aR/\q.body.aR<(C:Int):=by
  have h:=aP.bB.2;have h2:=pM q.body.aC;have h3:=fw q.body.aC;have h4:=Bk.lg q.body;omega
 let⟨cx,aM,aN,bA⟩:=aO.bn a5;rw[<-ai]at cx aM aN;have a7:y.length=a6.length+1:=by rw[ai];simp
 have a8:0<y.length:=by rw[ai];simp
 have au:=ar.ext (x8.trans ae);refine⟨v,au.cJ 1,N,Z.box.cJ 0,N,Z.box.cJ 0,?_⟩;have bF:=Z.gr.bg;have be:=Z.ne;have bd:N.az∉j.size::v.az::s.size::f.size::b:=by
  simp only[aV,uH];have u:=λh:N.az∈v.az::s.size::f.size::b=>aa (X:=g) (ad _) _ h;refine⟨be,λh=>?_,λh=>?_,λh=>?_,λh=>?_⟩<;>have:=u (by simp[h])<;>omega
 have aB:eu (bG (j.size::v.az::s.size::f.size::b) F) N y:=Z.gr.ng dG.mono bd bh V;have G:∀{I Y:E}{t aL:Nat},F.size<=I.size->J I Y->t<F.size->af Y t aL=af I t aL:=λh x L=>gl x V _;have sm:∀{I Y:E},F.size<=I.size->J I Y->eG [D.size,f.size,e.size] I Y:=λh x=>x.da λt L=>by simp at L;omega
 have i9:j.size<F.size:=V;have Q:D.size<F.size:=V;have i3:s.size<F.size:=V;refine(bO (v.az::s.size::f.size::b) (c1.ext (w8.trans ae)) V).mono λ_ bw⟨a',la,o,ga,ea,w⟩=>⟨sm (ad _) w,a',o,G (ad _) w i9,G (ad _) w Q,G (ad _) w i9,G (ad _) w Q,G (ad _) w Q,G (ad _) w i3,?_⟩;subst ea;have U:=w.size;refine(bO (v.az::s.size::f.size::b) (c2.ext ((w8.trans ae).trans w)) V).mono λ_ a_⟨b',lb,o,gb,eb,A⟩=>⟨sm U A,b',o,G U A i9,G U A Q,G U A i9,G U A Q,G U A i3,?_⟩;subst eb;have bJ:=A.size;have aR:=w.trans A;refine(Mp (m:=a_) (eu.ext aR (eN.le aB (bz _ _) λ_ _=>dG.le (bz _ _))) (p:=q.params.length) (B:=C) ⟨V,V⟩ λx P=>by
  obtain⟨l,H⟩:=List.mem_iff_getElem?.1 P;exact⟨(cx l x H).1.1.dst,(cx l x H).1.1.args⟩).mono λ_ ba⟨rg,o,ao,H⟩=>⟨sm V H,rg,o,G V H i9,G V H Q,G V H i3,?_⟩
 have bK:=H.size;have ag:=aR.trans H;intro bx;have a0:eu (bG (v.az::s.size::f.size::b) ba) N y:=eN.le aB ((ag.cR _).trans (gN _ λ_ h=>ah _ h)) λ_ _=>dG.le ((ag.cR _).trans (gN _ λ_ h=>ah _ h));have XX:=(x8.trans ae).trans ag;refine Gr.box (g:=[.s .nil,.s .nil,.i 0,.i 0,.s .nil]) (j:=1) (y:=88) (i:=[.s dd,.s v]) (w:=⟨q.params,q.df,q.aR,rg,y⟩) kN.mono bh (ay.ext kN.mono XX) ((xM.trans XX).fz []) ⟨a',b',N,rfl,(GI.done ga (aa V) V).le ((A.trans H).cR _),(GI.done gb (aa V) V).le (H.cR _),a0⟩ V (au.ext ag) aH bh ⟨V,aH⟩ (λk u=>?_) λr' m' g' B' f' z' q'=>bf r' m' _ g' B' f'.ext ⟨⟨q3,bi,a8,by show y.length<=_;omega,aM,aN⟩,q,hq,⟨rfl,rfl,rfl,⟨ao.1,ao.2.1⟩,λl x P=>⟨(cx l x P).1,ao.2.2 x (aq P)⟩,λx P=>by
  have h:y[y.length -1]? =some x:=P;rw[a7,ai]at h;simp at h;rw[<-h]⟩,by show y.length<=_;omega⟩
 simp at u;omega
def K6(k:∀a∈b,a<e.size){a:List bo}(l:dX e d r a c)(m:uI a c True W)(o:W<=120000000000):Nu 35 [.agg #[O.v d,O.v r]] e b a yw:=
 (zA k l m (C:=4*W+3) ⟨ad _,V⟩).mono λ_ _⟨d,p,n,f,g,h,i,j⟩=>⟨d,p,n,f,g,h,i.1,j⟩
end
section
def Mn{α:Type}(T:E->O->O->α->Prop):Prop:=∀M a b c x,Le M a->T M b c x->T a b c x
def PP{α:Type}(T:E->O->O->α->Prop)(U:α->Prop)(S:List Nat)(d:Nat)(e:O)(m:E)(P:Nat)(v:Value)(a:E):Prop:=∃b c x,v=.agg #[O.v b,O.v c]/\T (bG S a) b c x/\U x/\Rd d e P a/\Fz [d] m a
def NT(m:E)(a b:O)(x:List bo×List eP):Prop:=dX m a b x.1 x.2
def IT(m:E)(a b:O)(x:List bo×List cZ):Prop:=bX m a x.1/\gK m b x.2
def GT(m:E)(a b:O)(x:List bo×List (cZ×Ex)):Prop:=bX m a x.1/\UD m b x.2
def UN(c:Prop)(W:Nat)(x:List bo×List eP):Prop:=uI x.1 x.2 c W/\x.1∈oB
def UI(x:List bo×List cZ):Prop:=yw x.2/\x.1∈oB
def NT.mn:Mn NT:=λ_ _ _ _ _ h t=>dX.le t h
def IT.mn:Mn IT:=λ_ _ _ _ _ h t=>⟨t.1.le h,gK.le h t.2⟩
structure BS(B:List Nat)(rb:Nat)(bs:O)(m:E)(Q:Nat)(M:E):Prop where
 s:Rs rb bs m Q M
 fR:∀c∈B,m.size<=c/\c<M.size
section
variable{α:Type}{T:E->O->O->α->Prop}{U:α->Prop}{S B L:List Nat}{d Q h j k f t:Nat}{g a b:O}{m M e:E}{x:α}{i:List Value}
def BS.hS(h:BS B d g m Q M)(a:∀c∈S,c<m.size):∀c∈B++S,c<M.size:=λc b=>(List.mem_append.1 b).elim (λe=>(h.fR c e).2) λe=>aJ (a c e) h.s.f.size
def BS.to(a:BS B d g m Q M)(f:Fz [d] M e)(r:Rd d g h e):BS B d g m h e:=⟨a.s.to f r,λc b=>⟨(a.fR c b).1,aJ (a.fR c b).2 f.size⟩⟩
def BS.lw(h:BS B d g m Q M)(a:d<m.size)(c:∀b∈L,b∈B):Lw d L M:=Go.Proofs.YtdalfjkmdekijaaGreat.lw a λb e=>h.fR b (c b e)
def BS.call(c:BS B d g m Q M)(o:d<m.size)(p:∀b∈L,b∈B)(l:aN cq f i M (PP T U (B++S) d g M h)){K:O->O->E->Prop}
 (q:∀a b x e,U x->T (bG (B++S) e) a b x->BS B d g m h e->Fz [d] M e->K a b e):aN cq f i M λv e=>eG L M e/\∃j k:O,v=.agg #[O.v j,O.v k]/\K j k e:=
 l.mono λ_ e⟨a,b,x,n,t,u,r,f⟩=>⟨(c.lw o p).da f,a,b,n,q a b x e u t (c.to f r) f⟩
def BS.pick(h:BS B d g m Q M)(c:d<m.size)(k:Q<=10^16)(j:∀b∈L,b∈B)(n:Int){K:Int->E->Prop}
 (l:∀i e,0<=i->(i<n\/i=0)->BS B d g m (Q+1) e->Fz [d] M e->K i e):aN cq 20 [vp d 0,vi n] M λv e=>eG L M e/\∃i:Int,v=vi i/\K i e:=
 (bV h.s.r k n).mono λ_ e⟨i,a,o,p,r,f⟩=>⟨(h.lw c j).da f,i,a,l i e o p (h.to f r) f⟩
def BS.box{m1 m2:E}{z l:List Ce}(h:BS B d g m Q M)(f:m1=M.push (.cells (bD z) t))(i:m2=ai m1 M.size 0 l)(n:l.length=z.length):BS (M.size::B) d g m Q m2/\Le (bG (B++S) M) (bG (M.size::B++S) m2)/\cz m2 M.size t l:=by
 let⟨x,a,z⟩:=iN f i n;have o:=h.s.f.size;refine⟨⟨h.s.ext x,λc k=>?_⟩,x.bG λb j=>(List.mem_cons.1 j).elim (λh=>Or.inr V) Or.inl,a⟩;rcases List.mem_cons.1 k with e|e
 .omega
 .have:=h.fR c e;omega
def BS.put(h:BS B d g m Q M)(b:Rd d g j m)(a:k∈B)(l:List Ce):BS B d g m Q (ai M k 0 l)/\Le (bG (B++S) M) (bG (B++S) (ai M k 0 l)):=
 ⟨⟨h.s.put b (h.fR k a).1 _ _,λc e=>by rw[aA];exact h.fR c e⟩,cb (by simp[a]) λ_ h=>h⟩
def BS.le(a:d∈S)(f:Fz [d] M e):Le (bG (B++S) M) (bG (B++S) e):=f.cR (by simp[a])
def BS.hO(f:BS B d g m Q M)(o:Mn T)(i:Rd d g j m)(p:k∈B)(q:T (bG (B++S) M) a b x)(r:U x)(n:Q<=h)(l:List Ce):PP T U S d g m h (.agg #[O.v a,O.v b]) (ai M k 0 l):=
 have⟨c,e⟩:=f.put (S:=S) i p l
 ⟨a,b,x,rfl,o _ _ _ _ _ (e.trans (gN _ λ_=>dv _)) q,r,c.s.r.mono n,c.s.f⟩
def BS.ln(a:Rd d g Q m)(o:Obj):BS [m.size] d g m Q (m.push o)/\Le (bG S m) (bG ([m.size]++S) (m.push o)):=⟨⟨⟨(J.push m o).fz _,a.ext (J.push m o)⟩,aH⟩,sE (J.push m o) (ad _)⟩
def Kx{a:List bo}{c:Prop}{W:Nat}(j:qU f i M S a λb=>uI a b c W)(hd:a∈oB)(r:Rd d g Q M):aN cq f i M (PP NT (UN c W) S d g M Q):=
 j.mono λ_ _⟨e,k,b,h,n,o,x⟩=>⟨e,k,(a,b),h,n,⟨o,hd⟩,r.ext x,x.fz _⟩
def VY{a:List bo}(h:Nu f i M S a yw)(hd:a∈oB)(r:Rd d g Q M):aN cq f i M (PP IT UI S d g M Q):=
 h.mono λ_ _⟨b,j,k,e,n,c,o,x⟩=>⟨b,j,(a,k),e,⟨n,c⟩,⟨o,hd⟩,r.ext x,x.fz _⟩
end
section
variable{a:List Nat}{m:E}{b P:Nat}{c:O}
def HO(f:∀d∈a,d<m.size)(j:b∈a)(d:Rd b c P m)(D:P+1000+4*(300+40*Cg 18)<=10^16):aN cq 225 [vp b 0] m (PP NT (UN False 95) a b c m (P+11+4*(300+40*Cg 18))):=by
 apply zY (b,0);simp -zeta only[aE,aD];have e:=d.lt;intro k;obtain⟨b1,-⟩:BS [m.size] b c m P k/\True:=⟨(BS.ln (S:=a) d _).1,trivial⟩;clear_value k;refine b1.call (T:=GT) (U:=λx=>UH x.1 x.2) (S:=a) e (λ_ h=>h) ((sO (b1.hS f) (by simp[j]) b1.s.r V).mono λv M⟨i,p,g,t,l,n,o,q,r,s⟩=>⟨i,p,(g,t),l,⟨n,o⟩,q,r,s⟩) λi p x F u t b2 A=>?_;refine b2.call (S:=a) e (λ_ h=>h) (Kx (HI (b2.hS f) (t.1.le (bz _ _)) (eN.le t.2 (bz _ _) λ_ _=>XJ.mono.le (bz _ _)) u) u.gp.ds b2.s.r) λy J L G g t3 b3 B=>?_;intro r l;obtain⟨b5,q,-⟩:=b3.box (S:=a) (m1:=r) (m2:=l) rfl rfl rfl;clear_value l;have s:=NT.mn _ _ _ _ _ q t3;refine b5.pick e V (λ_ h=>h) 3 λE H _ _ b6 o=>?_;have n:=NT.mn _ _ _ _ _ (BS.le j o) s;refine⟨λ_=>?_,λ_=>b6.hO NT.mn d aH n g V _⟩;exact b6.call (S:=a) e (λ_ h=>h) (Kx (Jg (b6.hS f) (n.le (bz _ _)) V g.1) g.2 b6.s.r) λz K M I w v h C=>h.hO NT.mn d aH v w V _
def Ds(j:∀d∈a,d<m.size)(g:b∈a)(d:Rd b c P m)(M:P+1000+4*(300+40*Cg 18)<=10^16):aN cq 172 [vp b 0] m (PP NT (UN True 104500) a b c m (P+12+4*(300+40*Cg 18))):=by
 apply wj (b,0);simp -zeta only[aE,aD];have f:=d.lt;intro n;obtain⟨b1,-⟩:BS [m.size] b c m P n/\True:=⟨(BS.ln (S:=a) d _).1,trivial⟩;clear_value n;refine b1.call (S:=a) f (λ_ h=>h) (HO (b1.hS j) (by simp[g]) b1.s.r V) λI U X Q i t2 b2 K=>?_;intro x o;obtain⟨b4,w,-⟩:=b2.box (S:=a) (m1:=x) (m2:=o) rfl rfl rfl;clear_value o;have q:=NT.mn _ _ _ _ _ w t2;refine b4.call (S:=a) f (λ_ h=>h) (Kx (KV (b4.hS j) (q.le (bz _ _)) i.1) i.2 b4.s.r) λJ W Y y G B b5 u=>?_;intro z p;obtain⟨r,l,-⟩:=b5.box (S:=a) (m1:=z) (m2:=p) rfl rfl rfl;clear_value p;have C:=NT.mn _ _ _ _ _ l B;refine r.pick f V (λ_ h=>h) 4 λN R _ _ e k=>?_;have D:=NT.mn _ _ _ _ _ (BS.le g k) C;refine⟨λ_=>?_,λ_=>e.hO NT.mn d aH D G V _⟩;have E:=NT.mn _ _ _ _ _ (((BS.le g u).trans l).trans (BS.le g k)) q;refine e.call (S:=a) f (λ_ h=>h) (Kx (PA (e.hS j) (E.le (bz _ _)) i.1) i.2 e.s.r) λt A Z T H F s L=>?_;intro O;let⟨h,v⟩:=s.put (S:=a) d (by simp:y.size∈_) [.s t,.s A];exact h.hO NT.mn d aH (NT.mn _ _ _ _ _ v F) H V _
end
end
section
variable{c:Prop}
structure BF(S:List Nat)(rb:Nat)(bs:O)(m:E)(k Q W:Nat)(M:E):Prop where
 b:BS [k,m.size] rb bs m Q M
 x:∃d r x,cz M k mD [.s d,.s r]/\NT (bG (k::m.size::S) M) d r x/\UN True W x
def UN.mono{W W':Nat}{x:List bo×List eP}(h:UN c W x)(f:W<=W'):UN c W' x:=⟨⟨h.1.gS,λq g=>let⟨a,b,d,e⟩:=h.1.de q g;⟨a,b,d,bH e f⟩⟩,h.2⟩
section
variable{e h:List Nat}{d k Q Q' W W' i f:Nat}{g:O}{a M b:E}{K:E->Prop}{j:O->O->List Value}
def BF.mono(h:BF e d g a k Q W M)(j:Q<=Q')(l:W<=W'):BF e d g a k Q' W' M:=⟨⟨⟨h.b.s.f,h.b.s.r.mono j⟩,h.b.fR⟩,let⟨i,r,x,b,f,c⟩:=h.x;⟨i,r,x,b,f,c.mono l⟩⟩
def BF.to(i:BF e d g a k Q W M)(n:d<a.size)(m:d∈e)(f:Fz [d] M b)(j:BS [k,a.size] d g a Q' b):BF e d g a k Q' W b:=
 let⟨l,r,x,h,t,c⟩:=i.x
 ⟨j,l,r,x,h.congr (f.same k h.lt (by have:=i.b.fR k aH;simp;omega)),NT.mn _ _ _ _ _ (BS.le (B:=[k,a.size]) m f) t,c⟩
def BF.pick(j:BF e d g a k Q W M)(l:d<a.size)(q:d∈e)(o:Q<=10^16)(m:∀c∈h,c∈[k,a.size])(n:Int){K:Int->E->Prop}
 (p:∀i b,BF e d g a k (Q+1) W b->K i b):aN cq 20 [vp d 0,vi n] M λv b=>eG h M b/\∃i:Int,v=vi i/\K i b:=
 j.b.pick l o m n λi b _ _ c f=>p i b (j.to l q f c)
def BF.Zg(q:BF e d g a k Q W M)(w:Rd d g i a)(F:k≠a.size)(y:∀p∈h,p=a.size)
 (c:∀l n x,NT (bG (k::a.size::e) M) l n x->UN True W x->aN cq f (j l n) M (PP NT (UN True W') (k::a.size::e) d g M Q'))
 (I:∀b,BF e d g a k Q' W' b->K b):∃z:O,af M k 0=some (O.v z)/\∃A:O,af M k 1=some (O.v A)/\aN cq f (j z A) M λT b=>eG h M b/\∃t u:O,T=.agg #[O.v t,O.v u]/\fg b k 0 2/\(eG h b (ai b k 0 [.s t,.s u])/\K (ai b k 0 [.s t,.s u])):=by
 let⟨l,n,x,B,J,P⟩:=q.x
 have G:=w.lt
 have V:=q.b.fR k aH
 refine⟨l,B.cJ 0,n,B.cJ 1,q.b.call (S:=e) (L:=h) G (λp s=>by simp[y p s]) (c l n x J P) λp s U b R N C D=>?_⟩
 have v:=B.congr (D.same k B.lt bN)
 let⟨b2,H⟩:=C.put (S:=e) w (by simp:k∈_) [.s p,.s s]
 exact⟨v.fg aH,λc E=>bd _ _ _ _ (by rw[y c E];exact kG F),I _ ⟨b2,p,s,U,cz.ai (m:=b) (o:=0) (r:=[.s p,.s s]) v,NT.mn _ _ _ _ _ H N,R⟩⟩
def BF.bB(h:BF e d g a k Q W M)(j:Rd d g i a)(l:Q<=Q'):∃b:O,af M k 0=some (O.v b)/\∃c:O,af M k 1=some (O.v c)/\PP NT (UN True W) e d g a Q' (.agg #[O.v b,O.v c]) (ai M a.size 0 [.s b,.s c]):=
 let⟨f,r,_,B,t,u⟩:=h.x
 ⟨f,B.cJ 0,r,B.cJ 1,h.b.hO NT.mn j aH t u l _⟩
end
section
variable{a:List Nat}{b:E}{d P:Nat}{e:O}
def Yx{h:Nat}{g:List Value}{M:E}{Q:Nat}{b:List bo}{W:Nat}(k:SA h g M a d e Q b λf=>uI b f c W)(hd:b∈oB):aN cq h g M (PP NT (UN c W) a d e M Q):=
 k.mono λ_ _⟨i,l,f,j,n,o,r,x⟩=>⟨i,l,(b,f),j,n,⟨o,hd⟩,r,x⟩
def Re(i:∀c∈a,c<b.size)(k:d∈a)(g:Rd d e P b)(h:P+4<=10^16){W:Nat}(j:W<=200000000000)(f r:O)(x:List bo×List eP)(t:NT (bG a b) f r x)(u:UN True W x):aN cq 173 [vp d 0,.agg #[O.v f,O.v r]] b (PP NT (UN True (W+4)) a d e b (P+4)):=
 Yx (Pz i k g h t u.1 j) u.2
def Bj(z:∀c∈a,c<b.size)(l:d∈a)(g:Rd d e P b)(Z:P+1000+4*(300+40*Cg 18)<=10^16):aN cq 126 [vp d 0] b (PP NT (UN True 98289774148) a d e b (P+24+4*(300+40*Cg 18))):=by
 apply vh (d,0);simp -zeta only[aE,aD];have k:=g.lt;intro q;have z1:q.size=b.size+1:=by simp[q]
 obtain⟨b1,-⟩:BS [b.size] d e b P q/\True:=⟨(BS.ln (S:=a) g _).1,trivial⟩;clear_value q;refine b1.call (S:=a) k (λ_ h=>h) (Ds (b1.hS z) (by simp[l]) b1.s.r V) λD H J f I t2 b2 K=>?_;have z2:=K.size;intro N G;let⟨b4,L,C⟩:=b2.box (S:=a) (m1:=N) (m2:=G) rfl rfl rfl;clear_value G;have X:=NT.mn _ _ _ _ _ L t2;have p:f.size≠b.size:=V;have n:∀{M:E}{Q W:Nat},BF a d e b f.size Q W M->∀c∈f.size::b.size::a,c<M.size:=λh=>h.b.hS z;have F:d∈f.size::b.size::a:=by simp[l]
 refine⟨BF a d e b f.size (P+17+4*(300+40*Cg 18)) 104504,?_,λR U=>?_⟩
 .refine b4.pick k V (λ_ h=>h) 4 λA m5 _ _ b5 t=>?_;have u:=NT.mn _ _ _ _ _ (BS.le (B:=[f.size,b.size]) l t) X;have s:=C.congr (t.same _ C.lt bN);refine⟨λ_=>b5.call (S:=a) k (λ_ h=>h) (Re (b5.hS z) F b5.s.r V V D H J u I) λi j x O Y T b6 w=>?_,λ_=>BF.mono ⟨b5,D,H,J,s,u,I⟩ V V⟩;intro R;let⟨v,y⟩:=b6.put (S:=a) g (by simp:f.size∈_) [.s i,.s j];exact BF.mono ⟨v,i,j,x,cz.ai (m:=O) (o:=0) (r:=[.s i,.s j]) (s.congr (w.same _ s.lt bN)),NT.mn _ _ _ _ _ y T,Y⟩ V V
 refine⟨BF a d e b f.size (P+18+4*(300+40*Cg 18)) 10921086016,?_,λY O=>?_⟩
 .refine U.pick k l V aH 4 λA v s=>⟨λ_=>s.Zg g p aH (λi j x t u=>Kx (Hk (n s) (t.le (bz _ _)) V u.1) u.2 s.b.s.r) λy h=>h.mono V V,λ_=>s.mono V V⟩
 refine O.pick k l V aH 3 λA aa s=>?_;refine⟨BF a d e b f.size (P+19+4*(300+40*Cg 18)) 98289774144,⟨λ_=>s.Zg g p aH (λi j x t u=>Kx (DO (n s) (t.le (bz _ _)) V u.1) u.2 s.b.s.r) λy h=>h.mono V V,λ_=>s.mono V V⟩,λab v=>?_⟩;refine⟨BF a d e b f.size (P+19+4*(300+40*Cg 18)) 98289774144,⟨λ_=>v.Zg g p aH (λi j x t u=>Kx (Mq (n v) (t.le (bz _ _)) V u.1) u.2 v.b.s.r) λy h=>h.mono V V,λ_=>v.mono V V⟩,λac T=>?_⟩;refine T.pick k l V aH 6 λA ad w=>⟨λ_=>w.Zg g p aH (λi j x t u=>Re (n w) F w.b.s.r V V i j x t u) λy h=>h.bB g V,λ_=>(w.mono (Q':=P+24+4*(300+40*Cg 18)) (W':=98289774148) V V).bB g V⟩
def Ht(j:∀c∈a,c<b.size)(l:d∈a)(f:Rd d e P b)(B:P+1000+4*(300+40*Cg 18)<=10^16):aN cq 79 [vp d 0] b (PP IT UI a d e b (P+25+4*(300+40*Cg 18))):=by
 apply zD (d,0);simp -zeta only[aE,aD];have g:=f.lt;intro m;obtain⟨b1,-⟩:BS [b.size] d e b P m/\True:=⟨(BS.ln (S:=a) f _).1,trivial⟩;clear_value m;refine b1.call (S:=a) g (λ_ h=>h) (Bj (b1.hS j) (by simp[l]) b1.s.r V) λv H K D o t2 b2 y=>?_;refine b2.call (S:=a) g (λ_ h=>h) (VY (K6 (b2.hS j) (t2.le (bz _ _)) o.1 V) o.2 b2.s.r) λw I L E i t3 b3 z=>?_;intro r n;obtain⟨b5,q,-⟩:=b3.box (S:=a) (m1:=r) (m2:=n) rfl rfl rfl;clear_value n;have s:=IT.mn _ _ _ _ _ q t3;refine b5.pick g V (λ_ h=>h) 3 λC F _ _ b6 p=>?_;have k:=IT.mn _ _ _ _ _ (BS.le l p) s;refine⟨λ_=>?_,λ_=>b6.hO IT.mn f aH k i V _⟩;exact b6.call (S:=a) g (λ_ h=>h) (VY (HT (b6.hS j) (k.1.le (bz _ _)) (pI i.2) (gK.le (bz _ _) k.2) i.1) i.2 b6.s.r) λx J M G u t h A=>h.hO IT.mn f aH t u V _
end
end
section
variable{x:Instr}
section
variable{S:List Nat}{m M:E}{a P Q:Nat}{b:O}
def yU(h:Rs a b m Q M)(i:Q<=10^16)(c:List Int){d:List Ce}{n:Nat}(j:d=c.map Ce.i)(p:n=c.length)(l:0<c.length/\c.length<=100):
 aN cq 74 [vp a 0,O.v (.mk M.size 0 n n)] (M.push (.cells (bD d) ay)) λv e=>∃t:Int,v=vi t/\t∈c/\Rs a b m (Q+1) e/\Fz [a] (M.push (.cells (bD d) ay)) e:=by
 have x:=J.push M (.cells (bD d) ay)
 have o:=h.r.lt
 refine(jR (h.ext x).r i (ap.lit ay c (by simp;exact o) j p V) l.1).mono λv e⟨q,g,k,r,f⟩=>⟨q,g,k,(h.ext x).to f r,f⟩
def _root_.Go.Vc.Gr.Kq{b c:E}{s:O}{l:List Int}(h:GI S b M s l)(f:Fz [a] M c)(d:a<b.size):GI S b c s l:=have:=h.bg;GI.iy h (f.same _ this.2 bN)
def qb(n:Rd a b P m)(hP:P+10<=10^16){D:O}{l:List Int}(S:ap m D l)(hb:l.length<=10^12):aN cq 85 [vp a 0,O.v D] m λaa o=>∃s c,aa=O.v s/\GI [] m o s c/\c.length<=l.length+1/\(∀w∈c,w∈l\/-1<=w/\w<=1001)/\Rd a b (P+3) o/\Fz [a] m o:=by
 apply rW (a,0);have g:=n.lt;refine(bO [] S V).mono λ_ W⟨s,c,e,j,I,G⟩=>⟨s,e,?_⟩;subst I;have ab:=j.len bh;have p:Rs a b m P W:=⟨G.fz _,n.ext G⟩;have hO:∀{M:E}{Q:Nat},Rs a b m Q M->Q<=P+2->GI [] m M s l->aN cq 74 [vp a 0,O.v (.mk M.size 0 5 5)] (M.push (.cells (bD [.i 0,.i 1,.i 2,.i (-1),.i 1000]) ay)) λx r=>∃i:Int,x=vi i/\
  jb (r.push (.cells (bD [.i i]) ay)) ay [.i 0] 8 s (.mk r.size 0 1 1) λt q=>∃s c,O.v t=O.v s/\GI [] m q s c/\c.length<=l.length+1/\(∀w∈c,w∈l\/-1<=w/\w<=1001)/\Rd a b (P+3) q/\Fz [a] m q:=λ{M Q} rM hQ gM=>
  (yU rM V [0,1,2,-1,1000] rfl rfl aH).mono λ_ r⟨t,e,u,f,d⟩=>⟨t,e,by
   have g2:=(gM.ext (J.push M _)).Kq d g;refine GI.ku g2 f.f aH V λx o L z z' Y=>⟨x,_,rfl,L,aH,λw v=>?_,?_,z⟩
   .rcases List.mem_append.1 v with h|h
    .exact Or.inl h
    .simp at h u;exact Or.inr V
   .exact(n.LZ f.r z (Y a f.r.lt (oh g2.bg))).mono V⟩
 refine⟨λR=>?_,λ_=>hO p V j⟩;simp only[gJ,an]at R;refine(bV p.r V 2).mono λ_ m2⟨T,e,_,_,y,d⟩=>⟨T,e,λ_=>?_,λ_=>hO (p.to d y) V (j.Kq d g)⟩;have f:=p.to d y;refine(bV f.r V (s.len:Int)).mono λ_ X⟨i,e,U,k1,H,A⟩=>⟨i,e,?_⟩;refine(yU (f.to A H) V [0,1,-1,7,1000,1001] rfl rfl aH).mono λ_ m5⟨t,e,u,F,K⟩=>⟨t,e,U,V,?_⟩;have C:=(((j.Kq d g).Kq A g).ext (J.push X _)).Kq K g;let⟨w,N,B,Z⟩:=C.set F.f (k:=i.toNat) V t;refine⟨w,s,_,rfl,N,aH,λw v=>?_,(n.LZ F.r B (Z a (oh C.bg))).mono V,B⟩;rcases cL v with h|h
 .exact Or.inl h
 .simp at u;exact Or.inr V
def IX(Z:List Nat)(a:Nat)(b:O)(m:E)(P:Nat)(U:Instr->Prop)(v:Value)(c:E):Prop:=∃x d j,v=VZ x d j/\ap (bG Z c) d x.args/\ap (bG Z c) j x.di/\U x/\Rd a b P c/\Fz [a] m c
def vm(S:List Nat){p t:O}(v:ap m p x.args)(w:ap m t x.di)(s:x.args.length<=10^12/\x.di.length<=10^12):
 aN cq 178 [VZ x p t] m λz l=>∃c d,z=VZ x c d/\GI S m l c x.args/\GI S m l d x.di/\c.az≠d.az/\J m l:=by
 apply qO
 simp -zeta only[aE,aD]
 intro i j
 let⟨e,g⟩:=dj (a:=i) (c:=j) rfl rfl
 have F:i.size=m.size+1:=by simp[i]
 clear_value j
 have b:∀{M n:E},J j M->J M n->∀o,af n m.size o=af M m.size o:=λh u o=>aK (u.same _ (h.lt (g _ aH))) o
 refine(bO S (v.ext e) s.1).aI (J.aF j) g λc _ B q k a _=>⟨_,rfl,b (J.aF _) a _,b (J.aF _) a _,b (J.aF _) a _,b (J.aF _) a _,b (J.aF _) a _,?_⟩
 subst k
 refine(bO S (w.ext (e.trans a)) s.2).aI a g λd _ C r k f y=>⟨_,rfl,b a f _,b a f _,b a f _,b a f _,?_⟩
 subst k
 intro D
 have G:=q.bg;have H:=r.bg
 have A:=g i.size aH
 exact⟨c,d,rfl,((q.ext f).iy (bd _ _ _ _ V)).cG (λ_ h=>h) e.size,(r.iy (bd _ _ _ _ V)).cG (λ_ h=>h) (e.trans a).size,V,(e.trans y).ai V _ _⟩
end
structure BI(a0:E)(k rb:Nat)(bs:O)(m:E)(Q:Nat)(M:E)(a j:O)(l l':List Int):Prop where
 ga:GI [] a0 M a l
 gj:GI [] a0 M j l'
 ne:a.az≠j.az
 s:Rs rb bs m Q M
 lo:m.size+2<=a0.size/\l.length<=1000000000001/\l'.length<=1000000000001
 hi:a.az≠k/\j.az≠k/\m.size<=k/\k<M.size
section
variable{Z L:List Nat}{f m M c:E}{b k P g Q h:Nat}{d a j:O}{l e:List Int}
def BI.to(g:BI f k b d m Q M a j l e)(n:b<m.size)(i:Fz [b] M c)(r:Rd b d h c):BI f k b d m h c a j l e:=
 have:=g.lo
 ⟨g.ga.Kq i V,g.gj.Kq i V,g.ne,g.s.to i r,g.lo,g.hi.1,g.hi.2.1,g.hi.2.2.1,aJ g.hi.2.2.2 i.size⟩
def BI.put(h:BI f k b d m Q M a j l e)(g:Rd b d P m)(o:Nat)(c:List Ce):BI f k b d m Q (ai M k o c) a j l e:=
 have:=h.lo;have:=h.hi;have:=h.ga.bg
 ⟨GI.iy h.ga (bd _ _ _ _ V),GI.iy h.gj (bd _ _ _ _ V),h.ne,h.s.put g V _ _,h.lo,by rw[aA];exact h.hi⟩
def BI.hO{U:Instr->Prop}(h:BI f k b d m Q M a j l e)(v:Rd b d P m)(t:∀c∈Z,c<m.size){i:Nat}(y:i=m.size+1)(w:Q<=g){r n q p:Int}(x:U ⟨r,n,q,p,l,e⟩)(s:List Ce):IX Z b d m g U (.agg #[vi r,vi n,vi q,vi p,O.v a,O.v j]) (ai M i 0 s):=by
 have:=h.lo;have:=h.hi;have z:=h.ga.bg;have A:=h.gj.bg;have u:=h.s.put v (k:=i) V 0 s;exact⟨⟨r,n,q,p,l,e⟩,a,j,rfl,Gr.done tm.mono (GI.any (GI.iy h.ga (bd _ _ _ _ V))) (λc o=>oh (t c o)) bh (bH h.lo.2.1 bh),Gr.done tm.mono (GI.any (GI.iy h.gj (bd _ _ _ _ V))) (λc o=>oh (t c o)) bh (bH h.lo.2.2 bh),x,u.r.mono w,u.f⟩
def BI.pick(h:BI f k b d m Q M a j l e)(r:b<m.size)(t:Q<=10^16)(s:∀g∈L,m.size<=g/\g<=k)(p:Int){K:Int->E->Prop}
 (v:∀i c,0<=i->(i<p\/i=0)->BI f k b d m (Q+1) c a j l e->(∀o,af c k o=af M k o)->Fz [b] M c->K i c):aN cq 20 [vp b 0,vi p] M λz c=>eG L M c/\∃i:Int,z=vi i/\K i c:=
 have:=h.lo;have:=h.hi;have:=h.ga.bg
 (bV h.s.r t p).mono λ_ c⟨i,q,w,x,y,n⟩=>⟨n.da λg u=>by have:=s g u;simp;omega,i,q,v i c w x (h.to r n y) (λo=>aK (n.same k h.hi.2.2.2 bN) o) n⟩
end
def Sw(x y:Instr):Prop:=(∀k,SC k x->SC k y)/\y.args.length<=10^12/\y.di.length<=10^12
def Hi{Z:List Nat}{m:E}{g P:Nat}{t F H:O}(d:∀c∈Z,c<m.size)(a:Rd g t P m)(hP:P+10<=10^16)(R:ap (bG [g] m) F x.args)(hj:ap m H x.di)(b:x.args.length<=10^12/\x.di.length<=10^12)(hx:∃I,SC I x):
 aN cq 129 [vp g 0,VZ x F H] m (IX Z g t m (P+3) (Sw x)):=by
 apply zf (g,0)
 simp(config:={maxSteps:=1000000}) -zeta only[aE,aD]
 have p:=a.lt
 intro r u
 let⟨W,hl⟩:=dj (a:=r) (c:=u) rfl rfl
 have i:r.size=m.size+1:=by simp[r]
 have s2:u.size=m.size+2:=by simp[u,i]
 clear_value u
 clear_value r
 refine(vm [] ((R.le (bz _ _)).ext W) (hj.ext W) b).mono λ_ w⟨s,K,e,ga,gj,T,X⟩=>⟨X.da hl,_,_,_,_,_,_,e,?_⟩
 intro m4 U
 obtain⟨N,-,z5⟩:=iN (M:=w) (d:=m4) (c:=U) rfl rfl rfl
 clear_value U
 have ya:=ga.bg;have yj:=gj.bg
 have X5:=(W.trans X).trans N
 have b5:BI u w.size g t m P U s K x.args x.di:=⟨ga.ext N,gj.ext N,T,⟨X5.fz _,a.ext X5⟩,⟨V,oA b.1,oA b.2⟩,V,V,V,V⟩
 have o:∀n∈[w.size,r.size,m.size],m.size<=n/\n<=w.size:=bN
 let⟨q,z,C,A,j,B⟩:=x
 have Fe:Sw ⟨q,z,C,A,j,B⟩ ⟨q,z,C,A,j,B⟩:=⟨λ_ h=>h,b⟩
 refine b5.pick p V o 5 λae f _ _ b6 _ f6=>?_
 have y:∀{Y:E}{aa:Nat},BI u w.size g t m aa Y s K j B->aa<=P+3->IX Z g t m (P+3) (Sw ⟨q,z,C,A,j,B⟩) (.agg #[vi q,vi z,vi C,vi A,O.v s,O.v K]) (ai Y r.size 0 [.i q,.i z,.i C,.i A,.s s,.s K]):=λh hQ=>h.hO a d i hQ Fe _
 have ab:q=16\/q=17->(0:Int)<=0/\(0:Int)<(F.len:Int)/\∃v:Int,af f F.az (F.off+Int.toNat 0*1)=some (vi v)/\IX Z g t m (P+3) (Sw ⟨q,z,C,A,j,B⟩) (.agg #[vi 15,vi 0,vi 0,vi 0,O.v (.mk f.size 0 1 1),O.v .nil]) (ai (f.push (.cells (bD [.i v]) ay)) r.size 0 [.i 15,.i 0,.i 0,.i 0,.s (.mk f.size 0 1 1),.s .nil]):=λe=>by
  have hn:0<j.length:=let⟨_,h⟩:=hx;h.arg bN;have S:=R.len;let⟨D,hy⟩:=cg j 0 hn;have z6:=b6.hi;have r7:=(b6.s.ext (J.push f (.cells (bD [.i D]) ay))).put a (k:=r.size) V 0 [.i 15,.i 0,.i 0,.i 0,.s (.mk f.size 0 1 1),.s .nil];have Q:GI [] f (f.push (.cells (bD [.i D]) ay)) (.mk f.size 0 1 1) [D]:=Gr.lit (f:=[[.i D]]) tm.mono (ad _) aH rfl rfl ⟨rfl,aH,λH cs x G L=>by
   cases H with
   |zero=>simp at G L;rw[<-G,<-L];rfl
   |succ H=>simp at G⟩
  exact⟨dh 0,by simp at S;omega,D,(dY.1 ((R.le (b6.s.f.cR aH)).aO hy)).2,⟨15,0,0,0,[D],[]⟩,_,.nil,rfl,GI.done (GI.any (GI.iy Q (bd _ _ _ _ bN))) (λc L=>oh (d c L)) aH,⟨rfl,dE _,aH,aH⟩,⟨λ_ _=>⟨sx,sx⟩,aH,aH⟩,r7.r.mono V,r7.f⟩
 refine⟨λ_=>⟨λe=>?_,λ_=>⟨λe=>(b6.put a _ _).hO a d i V ⟨λ_ _=>⟨sx,sx⟩,b⟩ _,λ_=>⟨λe=>?_,λ_=>y b6 V⟩⟩⟩,λ_=>⟨λ_=>⟨λG=>?_,λ_=>y b6 V⟩,λ_=>⟨λ_=>?_,λ_=>⟨λ_=>⟨λe=>ab (Or.inl (by simpa using e)),λ_=>⟨λe=>ab (Or.inr (by simpa using e)),λ_=>⟨λe=>b6.pick p V o 4 λv L _ _ c _ _=>(c.put a _ _).hO a d i V ⟨λ_ h=>⟨h.L9,h.arg⟩,b⟩ _,λ_=>y b6 V⟩⟩⟩,λ_=>⟨λ_=>⟨λe=>?_,λ_=>⟨λe=>?_,λ_=>y b6 V⟩⟩,λ_=>y b6 V⟩⟩⟩⟩⟩
 .simp only[aM]at e
  exact(b6.put a _ _).hO a d i V ⟨λ_ _=>⟨sx,sx⟩,b⟩ _
 .simp only[aM]at e
  exact(b6.put a _ _).hO a d i V ⟨λ_ h=>⟨sx,λ_=>h.arg (by simp[e])⟩,b⟩ _
 .simp only[gJ,an]at G
  have S:=b6.ga.len bh
  refine b6.pick p V o (s.len:Int) λI m7 k0 k1 b7 Q f7=>⟨Q 4,b7.pick p V o 4 λv L _ _ c g8 f8=>⟨g8 4,k0,V,?_⟩⟩
  let⟨ac,g9,f9,q9⟩:=GI.set c.ga (((((X.trans N).fz [g]).trans f6).trans f7).trans f8) (k:=I.toNat) (by show I.toNat<j.length;have:s.len=j.length:=S;omega) v
  have yb:=c.hi
  refine⟨ac,λn b=>q9 n (by have:=o n b;simp at b;omega),BI.hO (k:=w.size) (l:=j.set I.toNat v) (e:=B) ⟨g9,GI.iy c.gj (q9 _ (kG T)),T,⟨c.s.f.ai (Or.inr V) _ _,a.ai c.s.r c.s.f V _ _⟩,⟨V,by simpa using oA b.1,oA b.2⟩,V,V,V,by rw[aA];omega⟩ a d i V ⟨λ_ h=>⟨h.L9,λe=>by simpa using h.arg e⟩,by simpa using b⟩ _⟩
 .refine(rX q f).any.mono λ_ m7⟨n,e,I⟩=>⟨I.da λn b=>Pk (o n b) b6.hi,n,e,λ_=>?_,λ_=>y (b6.to p (I.fz _) (b6.s.r.ext I)) V⟩
  exact(b6.to p (I.fz _) (b6.s.r.ext I)).pick p V o 4 λv L _ _ c _ _=>(c.put a _ _).hO a d i V ⟨λ_ h=>⟨h.L9,h.arg⟩,b⟩ _
 .simp only[aM]at e
  exact b6.pick p V o 9 λv L _ _ c _ _=>(c.put a _ _).hO a d i V ⟨λ_ h=>⟨λh=>by simp[e]at h,h.arg⟩,b⟩ _
 .simp only[aM]at e
  exact b6.pick p V o 3 λv L _ _ c _ _=>(c.put a _ _).hO a d i V ⟨λ_ h=>⟨λh=>by simp[e]at h,h.arg⟩,b⟩ _
end
section
def RA(M:E)(c:List Ce)(x:cZ×O):Prop:=∃a b,c=[.s a,.s b,.i x.1.aR,.i x.1.av,.s x.2]/\ap M a x.1.params/\ap M b x.1.df
def RA.mono:nH 5 RA:=⟨λh⟨a,b,e,c,d⟩=>⟨a,b,e,c.le h,d.le h⟩,λ⟨_,_,e,_⟩=>by rw[e];rfl⟩
def hd(x:cZ×O):cZ×O:=({x.1 with bn:=[]},x.2)
abbrev Ks(l:List (cZ×O)):List Nat:=l.map λx=>x.2.az
structure uJ(S:List Nat)(m0 M:E)(dd q:O)(ds:List bo)(l:List (cZ×O)):Prop where
 d:bX (bG (q.az::(Ks l++S)) M) dd ds
 g:Gr (Ks l++S) m0 M jd 5 RA q (l.map hd)
 c:∀x∈l,Gr (q.az::(Ks l++S)) m0 M dN 6 dG x.2 x.1.bn
 nd:(Ks l).Nodup
 lt:∀b∈S,b<M.size
 nq:q.az∉S
 nc:∀x∈l,x.2.az∉S
section
variable{S S' Y:List Nat}{b f M e:E}{c q:O}{d:List bo}{l:List (cZ×O)}
def uJ.kq(h:uJ S b M c q d l):∀x∈l,x.2.az≠q.az:=λx a=>(h.c x a).Kw h.g bh
def uJ.re(i:uJ S b M c q d l)(o:Fz Y M e)(k:∀a∈Y,a∈S)(n:∀a∈S',(a∈S\/M.size<=a)/\a<e.size)(p:f.size<=b.size):uJ S' f e c q d l:=by
 have t:=i.g.bg;have r:∀{a:Nat},a∈Ks l++S'->a∈Ks l++S\/M.size<=a:=λg=>by
  rcases List.mem_append.1 g with h|h
  .exact Or.inl (bu _ h)
  .exact(n _ h).1.imp (dv _) id
 have s:∀{a:Nat},a∈q.az::(Ks l++S')->a∈q.az::(Ks l++S)\/M.size<=a:=λg=>by
  rcases List.mem_cons.1 g with h|h
  .exact Or.inl (by simp[h])
  .exact(r h).imp (ah _) id
 refine⟨i.d.le (o.bG (λa g=>by simp[k a g]) λa g=>s g),Gr.cG RA.mono (i.g.re RA.mono o (λa g=>by simp[k a g]) (λj=>i.nq (k _ j)) λa g=>r g) (λa g=>Or.inl g) p,λx m=>Gr.cG dG.mono ((i.c x m).re dG.mono o (λa g=>by simp[k a g]) (λj=>i.nc x m (k _ j)) λa g=>s g) (λa g=>Or.inl g) p,i.nd,λa g=>(n a g).2,λj=>?_,λx m j=>?_⟩
 .rcases(n _ j).1 with h|h
  .exact i.nq h
  .omega
 .have:=(i.c x m).bg;rcases(n _ j).1 with h|h
  .exact i.nc x m h
  .omega
def uJ.bn(h:uJ S b M c q d l){y:cZ×O}(a:y∈l)(j:y.1.bn.length<=10^12):eu (bG (q.az::S) M) y.2 y.1.bn:=
 have g:Gr (q.az::S) b M dN 6 dG y.2 y.1.bn:=(h.c y a).re dG.mono (Fz.aF [] M) aH aH λi f=>Or.inl (by rcases List.mem_cons.1 f with e|e<;>simp[e])
 g.ng dG.mono (by simp;exact⟨h.kq y a,h.nc y a⟩) bh V
def uJ.gr(h:uJ S b M c q d l)(u:∀x∈l,x.1.bn.length<=10^12):Gr S b M jd 5 kN q (l.map (·.1)):=by
 let⟨v,n,z,r⟩:=h.g;refine⟨v,n,z,by simpa using r.len,r.size,λk m x t a=>?_⟩;rw[bR]at a;cases f:l[k]? with
 |none=>simp[f]at a
 |some y=>
  simp[f]at a;subst a;let⟨j,g,e,o,p⟩:=r.de k m (hd y) t (by simp[f]);have i:=aq f;have w:Le (bG (q.az::(Ks l++S)) M) (bG (q.az::S) M):=gN M λg s=>by rcases List.mem_cons.1 s with e|e<;>simp[e]
  exact⟨j,g,y.2,e,o.le w,p.le w,h.bn i (u y i)⟩
def uJ.y9{L:List Nat}{j G:E}{t e ks:O}{p:cZ}{h tb i:Nat}{bc:List Ce}{P:E->Prop}(n:uJ S b M c q d l)(x:J M j)(Q:Gr (q.az::(Ks l++S)) G j dN 6 dG ks p.bn)(h8:M.size<=G.size)
 (ha:ap (bG (ks.az::q.az::(Ks l++S)) j) t p.params)(g:ap (bG (ks.az::q.az::(Ks l++S)) j) e p.df)(Z:cz M h tb bc)(hi:i<bc.length)(ht:tb≠jd)(v:b.size<=h/\h∈S)(R:∀e∈L,e<j.size/\e≠h/\e≠q.az)(hl:l.length<=1000)(T:J b M)
 (hk:∀r k,uJ S b k c r d (l++[(p,ks)])->cz k h tb (iO bc i [.s r])->J b k->P k):
 af (j.push (.cells (bD [.s t,.s e,.i p.aR,.i p.av,.s ks]) jd)) h i=af j h i/\
 jb (j.push (.cells (bD [.s t,.s e,.i p.aR,.i p.av,.s ks]) jd)) jd [.s .nil,.s .nil,.i 0,.i 0,.s .nil] 88 q (.mk j.size 0 1 1) λr k=>eG L (j.push (.cells (bD [.s t,.s e,.i p.aR,.i p.av,.s ks]) jd)) k/\fg k h i 1/\(eG L k (ai k h i [.s r])/\P (ai k h i [.s r])):=by
 have z:=Z.ext x
 have U:=J.push j (.cells (bD [.s t,.s e,.i p.aR,.i p.av,.s ks]) jd)
 have yk:=Q.bg
 have yq:=n.g.bg
 have zx:=x.size
 have hq:q.az≠h:=λf=>n.nq (by rw[f];exact v.2)
 have kx:ks.az∉S:=λo=>by have:=n.lt _ o;omega
 have ck:∀y∈l,y.2.az<M.size:=λy s=>(n.c y s).bg.2
 have I:∀e∈Ks (l++[(p,ks)])++S,e∈Ks l++S\/e=ks.az:=λe g=>by
  simp only[Ks,eW,cA,fe,lE,fN]at g⊢;rcases g with(f|f)|f<;>simp[f]
 have g1:Gr (Ks (l++[(p,ks)])++S) b j jd 5 RA q (l.map hd):=n.g.re RA.mono (x.fz []) aH aH λe g=>(I e g).imp id λf=>V
 have Y:Le (bG (ks.az::q.az::(Ks l++S)) j) (bG (q.az::(Ks (l++[(p,ks)])++S)) j):=gN j λe g=>by
  rcases List.mem_cons.1 g with f|f
  .simp[f]
  .rcases I e f with f|f
   .exact ah _ (ah _ f)
   .simp[f]
 refine⟨aK (U.same h z.lt) i,Gr.ku (g:=[.s .nil,.s .nil,.i 0,.i 0,.s .nil]) (k:=hd (p,ks)) RA.mono bh g1 ((T.trans x).fz []) ⟨t,e,rfl,ha.le Y,g.le Y⟩ bN λr k ab aa B F=>?_⟩
 have K:=z.congr (F h z.lt (kG hq))
 have hr:r.az≠h:=by have:=z.lt;omega
 have A:∀e,e≠h->(ai k h i [.s r])[e]? =k[e]? :=λe g=>bd _ _ _ _ g
 have N:Fz [q.az,h] j (ai k h i [.s r]):=⟨by rw[aA];exact B.1,λe g w=>(A e (by simp at w;omega)).trans (F e g (by simp at w;omega))⟩
 have C:Fz [q.az,h] M (ai k h i [.s r]):=(x.fz _).trans N
 have F0:J b (ai k h i [.s r]):=(aa.ai (Or.inr v.1) _ _).ext
 have ae:=B.1
 have W:∀e∈r.az::(Ks (l++[(p,ks)])++S),(e∈q.az::(Ks l++S)\/e=ks.az)\/j.size<=e:=λe g=>by
  rcases List.mem_cons.1 g with f|f
  .rcases B.2 with u|u
   .exact Or.inl (Or.inl (by simp[f,u]))
   .exact Or.inr V
  .exact Or.inl ((I e f).imp (ah _) id)
 have X:∀e∈r.az::(Ks (l++[(p,ks)])++S),e∈q.az::(Ks l++S)\/M.size<=e:=λe g=>(W e g).elim (λf=>f.imp id λf=>V) λf=>Or.inr V
 have H:∀e∈[q.az,h],e∈q.az::(Ks l++S):=λe g=>by simp at g;rcases g with f|f<;>simp[f,v.2]
 refine⟨λe g=>?_,K.fg V,λe g=>A e (R e g).2.1,hk r _ ⟨n.d.le (C.bG H X),?_,λy s=>?_,?_,λe g=>?_,λo=>?_,λy s o=>?_⟩ (cz.ai (m:=k) K) F0⟩
 .have D:=R e g
  rw[F e V D.2.2,U.same e V]
 .rw[eW]
  let⟨g0,D,g1,g2⟩:=ab
  exact⟨g0,D,g1.congr (A _ hr),g2.mono λcs y=>RA.mono.le (oR λe g w=>⟨w,A e λf=>w (by rw[f];simp[v.2])⟩)⟩
 .rcases List.mem_append.1 s with f|f
  .exact(n.c y f).re dG.mono C H (by simp;exact⟨n.kq y f,λu=>n.nc y f (u▸v.2)⟩) X
  .simp at f
   subst f
   let⟨ac,D,ad,rr⟩:=Q
   have w:Gr (ks.az::q.az::(Ks l++S)) G j dN 6 dG ks p.bn:=⟨ac,D,ad,rr.mono λcs y=>dG.mono.le (gN j λe g=>by
    rcases List.mem_cons.1 g with f|f
    .simp[f]
    .exact f)⟩
   exact Gr.cG dG.mono (w.re dG.mono N (λe g=>ah _ (H e g)) (by simp;exact⟨V,λu=>kx (u▸v.2)⟩) λe g=>(W e g).imp (λf=>f.elim (ah _) λf=>by simp[f]) id) (λe g=>Or.inl g) (oh T.size)
 .simp only[Ks,eW,cA,fe]
  refine List.nodup_append.2 ⟨n.nd,aH,λe g u o=>?_⟩
  simp at o g
  obtain⟨w,D,s,rfl⟩:=g
  have:=ck _ s
  simp at this;omega
 .have:=n.lt e g
  have:=C.size
  omega
 .rcases B.2 with f|f
  .exact n.nq (f▸o)
  .have:=n.lt _ o;omega
 .rcases List.mem_append.1 s with f|f
  .exact n.nc y f o
  .simp at f
   subst f
   exact kx o
end
end
def vk{h:List Nat}{m:E}(R:∀c∈h,c<m.size){ae ak:O}{H:List bo}{C:List cZ}(hd:bX m ae H)(ht:dH H)(hp:gK m ak C)(ai:yw C):
 aN cq 128 [.agg #[O.v ae,O.v ak]] m λN Y=>∃t q l,N=.agg #[O.v t,O.v q]/\uJ h m Y t q H l/\l.map (·.1)=C/\J m Y:=by
 apply zm
 simp -zeta only[aE,aD]
 intro b a2
 let⟨x2,hl⟩:=dj (a:=b) (c:=a2) rfl rfl
 have s1:b.size=m.size+1:=by simp[b]
 clear_value a2
 have aI:=hp.len;have aG:=ai.nA
 refine(fD (b:=b.size::h) (bQ R x2.size (hl _ aH)) (hd.le x2.le) ht).mono λ_ z⟨t,e,av,x3⟩=>?_
 subst e
 refine⟨x3.da hl,_,rfl,?_⟩
 intro j az ac
 have Z:=x2.trans x3
 let⟨x5,B0,g0,s3,s5⟩:=kD (b:=j.size::b.size::h) RA.mono (d:=z) (a:=j) (c:=az) (h:=ac) rfl rfl rfl
 clear_value ac
 have ah:∀c∈[b.size,m.size],c<z.size:=λc d=>x3.lt (hl c d)
 have i1:=ah b.size aH
 have z2:=Z.size
 have A0:uJ (j.size::b.size::h) z ac t (.mk z.size 0 0 0) H []:=⟨av.le (x5.bG λf s=>by
  simp only[Ks,fe,dW,aV]at s;rcases s with e|e|e
  .exact Or.inr (by rw[e];exact ad _)
  .exact Or.inr V
  .exact Or.inl (List.mem_cons.2 e)),g0,aH,aH,λf s=>by
   simp only[aV]at s;rcases s with e|e|e
   .omega
   .omega
   .have:=R f e;omega,λd=>by
   simp only[aV]at d;rcases d with e|e|e
   .simp at e;omega
   .simp at e;omega
   .have:=R _ e;simp at this;omega,aH⟩
 refine dZ (n:=C.length) V (λX g=>J z g/\∃k l,uJ (j.size::b.size::h) z g t k H l/\cz g j.size uD [.s t,.s k]/\l.map (·.1)=C.take X) ⟨x5,_,[],A0,B0,rfl⟩ ?_
 rintro X g aC μ hk ⟨xM,o,l,A,B,T⟩ aB
 have zM:=xM.size
 refine dit (λx=>?_) λx=>?_
 .let⟨q,hq⟩:=cg C X
  have W:=ai.de q (aq hq)
  have q3:=W.params;have q4:=W.df;have qf:=W.nA
  have v6:=Z.trans xM
  let⟨aF,f,c,c1,c2,c3,e0,e1,e2,e3,e4⟩:=hp.aO hq
  have G:∀{N:Value}{f y:Nat},af m f y=some N->af g f y=some N:=λx=>v6.af x
  refine⟨V,V,_,G e0,_,G e1,_,G e2,_,G e3,_,G e4,?_⟩
  intro m7 k
  obtain⟨Q,-,s8⟩:=iN (M:=g) (d:=m7) (c:=k) rfl rfl rfl
  clear_value k
  have U:∀c∈[g.size,b.size,m.size],c<k.size:=λc d=>by
   rcases List.mem_cons.1 d with e|e
   .omega
   .have:=ah c e;omega
  have w8:=v6.trans Q
  have hT:∀{w:E},g.size<=w.size->∀c∈o.az::(Ks l++(j.size::b.size::h)),c<w.size:=λx c d=>by
   rcases List.mem_cons.1 d with e|e
   .have:=A.g.bg;omega
   .rcases List.mem_append.1 e with e|e
    .obtain⟨u,r,rfl⟩:=List.mem_map.1 e;have:=(A.c u r).bg;omega
    .have:=A.lt c e;omega
  intro m9
  have x9:J k m9:=J.push _ _
  have ar:Gr (o.az::(Ks l++(j.size::b.size::h))) k m9 dN 6 dG (.mk k.size 0 0 0) []:=Gr.new _ (ad _) _ _ _
  clear_value m9
  have au:=c3.len
  refine dx (n:=q.bn.length) (au▸c3.fu) (λab ks u=>J k u/\Gr (o.az::(Ks l++(j.size::b.size::h))) k u dN 6 dG ks (q.bn.take ab)) ⟨x9,ar⟩ ?_
  rintro ab ks u I2 μ2 hj ⟨r,I⟩ aA
  have X2:=w8.trans r
  have z2:=r.size
  have ay:∀c∈[g.size,b.size,m.size],c<u.size:=λc d=>r.lt (U c d)
  refine dit (λh2=>?_) λh2=>?_
  .let⟨K,D⟩:=cg q.bn ab
   let⟨pa,pj,ha,ax,P,ag,aj,am,an,ao⟩:=(eu.ext X2 c3).aO D
   have yk:=I.bg
   refine⟨V,V,_,P,_,ag,_,aj,_,am,_,an,_,ao,?_⟩
   refine(vn (S:=ks.az::o.az::(Ks l++(j.size::b.size::h))) (λc d=>?_) ha ax (W.jg K (aq D))).mono λN aL⟨a',j',e,aa,aw,v⟩=>⟨λc d=>v.same c (ay c d),_,_,_,_,_,_,e,?_⟩
   .rcases List.mem_cons.1 d with e|e
    .omega
    .exact hT V c e
   intro aM
   refine Gr.ku (g:=[.i 0,.i 0,.i 0,.i 0,.s .nil,.s .nil]) (k:=K) dG.mono bh (I.ext dG.mono v) ((r.trans v).fz []) ⟨a',j',rfl,aa,aw⟩ bN λal M3 g3 F z3 aO=>⟨J.nR ((r.trans v).aP _) F.ext U,aA V _ _ ⟨F.ext,?_⟩⟩
   rw[bC D];exact g3
  .rw[cy V]at I
   have v:∀{M1 u:E},J k M1->J M1 u->∀f,f<k.size->∀y,af u f y=af M1 f y:=λx h' f s y=>aK (h'.same f (x.lt s)) y
   have K:g.size<k.size:=V
   have i2:j.size<k.size:=aJ B.lt Q.size
   refine⟨o,(B.ext (Q.trans r)).cJ 1,?_⟩
   refine(bO [] (c1.ext X2) V).aI r U λa' _ ao ga e F D=>⟨_,rfl,v r F _ K _,v r F _ K _,v r F _ K _,v r F _ i2 _,?_⟩
   subst e
   refine(bO [] (c2.ext (w8.trans D)) V).aI D U λb' _ aj gb e P am=>⟨_,rfl,v D P _ K _,v D P _ K _,v D P _ i2 _,?_⟩
   subst e
   intro aw
   have ax:=D.size
   have aL:=am.size
   have yk:=I.bg
   have ag:∀{w:E},u.size<=w.size->∀c∈ks.az::o.az::(Ks l++(j.size::b.size::h)),c<w.size:=λx c d=>by
    rcases List.mem_cons.1 d with e|e
    .omega
    .exact hT V c e
   have aa:ap (bG (ks.az::o.az::(Ks l++(j.size::b.size::h))) aj) a' q.params:=(GI.done (GI.any ga) (ag (ad _)) V).le (P.cR _)
   have an:ap (bG (ks.az::o.az::(Ks l++(j.size::b.size::h))) aj) b' q.df:=GI.done (GI.any gb) (ag F.size) V
   have ll:l.length=X:=by have:=th List.length T;simp at this;omega
   have yq:=A.g.bg
   exact A.y9 (i:=1) (bc:=[.s t,.s o]) (tb:=uD) (p:=⟨q.params,q.df,q.aR,q.av,q.bn⟩) (L:=[g.size,b.size,m.size]) (Q.trans am) (I.ext dG.mono (F.trans P)) V aa an B aH bh ⟨V,aH⟩ (λc d=>by
    have hn:=A.nq;simp only[aV,uH]at d hn;have:=Q.size;have:=B.lt;rcases d with e|e|e|e
    .omega
    .omega
    .omega
    .simp at e) V xM λal Y A' B' x'=>aB V Y ⟨x',al,_,A',B',by rw[bC hq,eW,T];rfl⟩
 .refine⟨t,B.cJ 0,o,B.cJ 1,?_⟩
  intro w
  rw[cy V]at T
  have k:Fz [b.size] g w:=(Fz.aF _ g).ai (Or.inl aH) _ _
  exact⟨t,o,l,rfl,A.re k aH (λf s=>⟨Or.inl (by simp[s]),Pk (R f s) k.size⟩) Z.size,T,(Z.trans xM).ai V _ _⟩
section
variable{cs:List Ce}{p:cZ}{y:Instr}
def Pw{α:Type}{l:List α}{f:Nat}{x:α}(h:l[f]? =some x):l.set f x=l:=by
 apply eL;intro i;rw[ik];split
 .next e=>
  subst e;rw[h];split
  .rfl
  .next hi=>exact absurd (ax h) hi
 .rfl
section
variable{S L B X:List Nat}{c m M:E}{a q d:O}{b:List bo}{l:List (cZ×O)}{e Q f k:Nat}{x:cZ×O}
def BS.Zo(h:BS B e d m Q M)(o:Obj):BS (M.size::B) e d m Q (M.push o):=⟨h.s.ext (J.push M o),λc b=>by
 have z:=h.s.f.size;rw[Array.size_push];rcases List.mem_cons.1 b with a|a
 .omega
 .have:=h.fR c a;omega⟩
def uJ.nA(h:yw (l.map (·.1)))(a:x∈l):SG x.1:=h.de x.1 (List.mem_map.2 ⟨x,a,rfl⟩)
def uJ.len(h:uJ S c M a q b l):q.len=l.length:=by have:=h.g.len bh;simpa using this
def uJ.jC(n:uJ S c M a q b l)(z:l.length<=1000)(k:l[f]? =some x):∃e d:O,af M q.az (q.off+f*5)=some (O.v e)/\af M q.az (q.off+f*5+1)=some (O.v d)/\af M q.az (q.off+f*5+2)=some (vi x.1.aR)/\af M q.az (q.off+f*5+3)=some (vi x.1.av)/\af M q.az (q.off+f*5+4)=some (O.v x.2)/\ap (bG (q.az::S) M) e x.1.params/\ap (bG (q.az::S) M) d x.1.df:=by
 let⟨A,m,v,r⟩:=n.g;have y:=ax k;have t:f<m.length:=by have:=r.len;simp at this;omega
 let⟨cs,j⟩:=dI t;let⟨e,d,h,o,p⟩:=r.de f cs (hd x) j (by simp[k]);have jC:=v.jC;have w:Le (bG (q.az::(Ks l++S)) M) (bG (q.az::S) M):=gN M λd s=>by rcases List.mem_cons.1 s with h|h<;>simp[h]
 have aO:∀i g,cs[i]? =some g->af M q.az (q.off+f*5+i)=some g.v:=λi g u=>by
  have:=jC (f*5+i) g (iJ r.size j u);rwa[<-dR]at this
 subst h;exact⟨e,d,aO 0 _ rfl,aO 1 _ rfl,aO 2 _ rfl,aO 3 _ rfl,aO 4 _ rfl,o.le w,p.le w⟩
def uJ.it(h:uJ S c M a q b l)(g:l.length<=1000)(e:∀x∈l,x.1.bn.length<=10^12):IT (bG S M) a q (b,l.map (·.1)):=
 ⟨h.d.le (gN M λf d=>by simp[d]),(h.gr e).ng kN.mono h.nq bh (by simp only[dO];omega)⟩
def uJ.aad(h:uJ S c M a q b l)(i:Fz X c M)(o:l.length<=1000)(f:∀x∈l,x.1.bn.length<=10^12)(j:k<l.length)(m:kN (bG (q.az::S) M) cs p):
 fg M q.az (q.off+k*5) 5/\∃n,IT (bG S (ai M q.az (q.off+k*5) cs)) a q (b,n):=by
 obtain⟨w,g,-,-⟩:=(h.gr f).set kN.mono i (k:=k) (by simpa using j) m
 have F:Fz [q.az] M (ai M q.az (q.off+k*5) cs):=(Fz.aF _ M).ai (Or.inl aH) _ _
 exact⟨w,_,h.d.le (F.bG (λe d=>by simp at d;simp[d]) λe d=>Or.inl (by simp[d])),g.ng kN.mono h.nq bh bN⟩
def uJ.wr(h:uJ S c M a q b l)(v:Fz X c M)(j:l[f]? =some x)(A:k<x.1.bn.length)(B:dG (bG (q.az::(Ks l++S)) M) cs y):
 fg M x.2.az (x.2.off+k*6) 6/\uJ S c (ai M x.2.az (x.2.off+k*6) cs) a q b (l.set f ({x.1 with bn:=x.1.bn.set k y},x.2)):=by
 have n:=aq j
 have t:x.2.az∈Ks l:=List.mem_map.2 ⟨x,n,rfl⟩
 have C:∀d∈x.2.az::q.az::(Ks l++S),d∈q.az::(Ks l++S):=λd g=>by
  rcases List.mem_cons.1 g with e|e
  .rw[e];exact ah _ (bu _ t)
  .exact e
 obtain⟨D,u,-,E⟩:=(h.c x n).set dG.mono v A (dG.le (gN M C) B)
 have F:Fz [x.2.az] M (ai M x.2.az (x.2.off+k*6) cs):=(Fz.aF _ M).ai (Or.inl aH) _ _
 have p:∀d∈[x.2.az],d∈Ks l++S:=λd g=>by simp at g;rw[g];exact bu _ t
 have o:Ks (l.set f ({x.1 with bn:=x.1.bn.set k y},x.2))=Ks l:=by
  simp only[Ks,tg];exact Pw (by simp[j])
 have w:(l.set f ({x.1 with bn:=x.1.bn.set k y},x.2)).map hd=l.map hd:=by
  rw[tg];exact Pw (by simp[j,hd])
 have r:∀z∈l.set f ({x.1 with bn:=x.1.bn.set k y},x.2),z=({x.1 with bn:=x.1.bn.set k y},x.2)\/z∈l/\z.2.az≠x.2.az:=λz m=>by
  let⟨G,i⟩:=List.mem_iff_getElem?.1 m;rw[ik]at i;split at i
  .split at i
   .exact Or.inl (by simpa using i.symm)
   .simp at i
  .next hne=>
   refine Or.inr ⟨aq i,λe=>hne ?_⟩;have s:f<(Ks l).length:=by simpa[Ks]using ax j
   exact(List.getElem?_inj s h.nd).1 (by simp[Ks,j,i,e])
 refine⟨D,?_,?_,λz m=>?_,by rw[o];exact h.nd,λd g=>by rw[aA];exact h.lt d g,h.nq,λz m=>?_⟩
 .rw[o];exact h.d.le (F.cR λd g=>ah _ (p d g))
 .rw[o,w];exact h.g.MR RA.mono F p (by simp;exactλe=>h.kq x n e.symm)
 .rw[o]
  rcases r z m with e|⟨e,s⟩
  .rw[e];exact u
  .exact(h.c z e).MR dG.mono F (λd g=>ah _ (p d g)) (by simpa using s)
 .rcases r z m with e|⟨e,s⟩
  .rw[e];exact h.nc x n
  .exact h.nc z e
end
def UM{c:List cZ}(h:yw c){f k:Nat}{x:Instr}(g:c[f]? =some p)(i:p.bn[k]? =some x)(d:Sw x y):yw (c.set f {p with bn:=p.bn.set k y}):=by
 have b:=h.de p (aq g);refine⟨by simpa using h.gS,by simpa using h.nA,λq j=>?_⟩;rcases cL j with e|e
 .exact h.de q e
 .subst e;refine⟨b.params,b.df,by simpa using b.gS,by simpa using b.nA,λl z a=>?_,λz a=>?_⟩
  .simp only[ik]at a;split at a
   .next e=>
    subst e;split at a
    .simp at a;subst a;exact d.1 _ (b.bn _ _ i)
    .simp at a
   .exact b.bn _ _ a
  .rcases cL a with e|e
   .exact b.jg z e
   .rw[e];exact d.2
section
variable{a:List Nat}{m:E}{b P:Nat}{c:O}
def Hj(hS:∀k∈a,k<m.size)(ac:b∈a)(I:Rd b c P m)(hP:P+100<=10^16){ab p:O}{s:List bo×List cZ}(ag:IT (bG a m) ab p s)(R:UI s):aN cq 80 [vp b 0,.agg #[O.v ab,O.v p]] m (PP IT UI a b c m (P+11)):=by
 apply zg (b,0);simp -zeta only[aE,aD];have z:=I.lt;intro i Z;have b2:BS [i.size,m.size] b c m P Z:=BS.Zo (BS.ln (S:=a) I _).1 _;have T:J m Z:=(J.push m _).trans (J.push i _);clear_value Z;refine(vk (b2.hS hS) ((ag.1.le (bz _ _)).ext T) (pI R.2) (eN.mono (gK.le (bz _ _) ag.2) T λ_ _=>kN.le T.le) R.1).mono λ_ j⟨w,q,l,e,A,hl,x3⟩=>⟨(b2.lw z λ_ h=>h).da (x3.fz _),w,q,e,?_⟩;have b3:=b2.to (x3.fz _) (b2.s.r.ext x3);intro m4 K;obtain⟨b5,-,-⟩:=b3.box (S:=a) (m1:=m4) (m2:=K) rfl rfl rfl;obtain⟨x5,-,-⟩:=iN (M:=j) (d:=m4) (c:=K) rfl rfl rfl;clear_value K;have A5:uJ ([j.size,i.size,m.size]++a) m K w q s.1 l:=A.re (x5.fz []) aH (λd f=>⟨by
  rcases List.mem_cons.1 f with e|e
  .exact Or.inr V
  .exact Or.inl e,b5.hS hS d f⟩) T.size
 refine b5.pick z V (λ_ h=>h) 2 λam m6 i0 i1 b6 f6=>?_;have hB:∀d∈[b],d∈[j.size,i.size,m.size]++a:=by simp[ac]
 have Q:∀{u M':E}{l:List (cZ×O)},uJ ([j.size,i.size,m.size]++a) m u w q s.1 l->Fz [b] u M'->uJ ([j.size,i.size,m.size]++a) m M' w q s.1 l:=λh G=>h.re G hB (λd f=>⟨Or.inl f,aJ (h.lt d f) G.size⟩) (ad _);refine⟨λN u=>∃n:Nat,N=n/\n<=2/\BS [j.size,i.size,m.size] b c m (P+11 -5*n) u/\∃l,uJ ([j.size,i.size,m.size]++a) m u w q s.1 l/\yw (l.map (·.1)),λN _=>N.toNat,⟨(am+1).toNat,by rw[aQ V V];omega,V,⟨⟨b6.s.f,b6.s.r.mono V⟩,b6.fR⟩,l,Q A5 f6,hl▸R.1⟩,?_⟩;rintro N u ⟨n,rfl,hk,d,l,A,r⟩;refine⟨λh=>?_,λ_=>d.hO IT.mn I aH (x:=(s.1,l.map (·.1))) (A.it (by have:=r.nA;simp at this;omega) λy g=>(uJ.nA r g).nA) ⟨r,R.2⟩ V _⟩;simp only[gJ,an]at h;have ay:=A.len;have l4:l.length<=4:=by simpa using r.nA
 have l0:0<l.length:=by simpa using r.gS
 refine d.pick z V (λ_ h=>h) (q.len:Int) λG m7 X f1 b7 f7=>?_;have U:=Q A f7;let⟨y,g⟩:=cg l G.toNat;obtain⟨-,-,-,-,-,-,g7,-,-⟩:=U.jC V g;have C:=uJ.nA r (aq g);have av:=(U.bn (aq g) C.nA).len;have au:=C.gS;refine⟨X,V,y.2,g7,b7.pick z V (λ_ h=>h) (y.2.len:Int) λao L j0 j1 W f8=>?_⟩;have t:=Q U f8;obtain⟨-,-,-,-,-,-,g8,-,-⟩:=t.jC V g;let⟨ap,B⟩:=cg y.1.bn ao.toNat;let⟨ar,jj,ha,hj,e0,e1,e2,e3,e4,e5⟩:=(t.bn (aq g) C.nA).aO B;have fR:∀{d o:Nat}{ai:Value},af (bG (q.az::([j.size,i.size,m.size]++a)) L) d o=some ai->af L d o=some ai:=λh=>(dY.1 h).2;refine⟨X,V,y.2,g8,X,V,y.2,g8,j0,V,_,fR e0,_,fR e1,_,fR e2,_,fR e3,_,fR e4,_,fR e5,?_⟩;have hZ:∀k∈q.az::(Ks l++([j.size,i.size,m.size]++a)),k<L.size:=λk Y=>by
  rcases List.mem_cons.1 Y with e|e
  .rw[e];exact t.g.bg.2
  .rcases List.mem_append.1 e with e|e
   .obtain⟨aa,v,rfl⟩:=List.mem_map.1 e;exact(t.c aa v).bg.2
   .exact t.lt k e
 refine(Hi hZ W.s.r V (ha.le (gN _ (by simp[ac]))) (hj.le (bz _ _)) (C.jg ap (aq B)) ⟨_,C.bn _ _ B⟩).mono λ_ m9⟨D,a',j',e,ak,al,f,r9,H⟩=>⟨(W.lw z λ_ h=>h).da H,_,_,_,_,_,_,e,?_⟩;have F:=Q t H;have v:=W.to H r9;let⟨aa,aj⟩:=F.wr v.s.f g (ax B) (cs:=[.i D.op,.i D.dst,.i D.bK,.i D.bW,.s a',.s j']) (y:=D) ⟨a',j',rfl,ak,al⟩;have yc:=(F.c y (aq g)).bg;have ae:∀o d,d∈q.az::([j.size,i.size,m.size]++a)->d≠b->af m9 d o=af L d o:=λo d f hn=>aK (H.same d (hZ d ((List.mem_cons.1 f).elim (λe=>by simp[e]) λe=>ah _ (dv _ e))) (by simpa using hn)) o;have yq:=F.g.bg;have aw:=v.fR j.size aH;refine⟨ae _ _ aH V,ae _ _ aH V,j0,V,aa,λd f=>bd _ _ _ _ λe=>(F.nc y (aq g)) (by rw[<-e];exact bu _ f),⟨n -1,?_,V,⟨⟨v.s.f.ai (Or.inr V) _ _,(I.ai v.s.r v.s.f V _ _).mono V⟩,λk Y=>by rw[aA];exact v.fR k Y⟩,_,aj,?_⟩,?_⟩
 .rw[aQ V V];omega
 .rw[tg];exact UM r (by simp[g]) B f
 .rw[aQ V V];show((n:Int) -1).toNat<(n:Int).toNat;omega
end
end
section
variable{m:E}{b:Nat}{a j:O}
def BI.ln{L:List Nat}{g M:E}{k Q:Nat}{i:O}{p q:List Int}(h:BI g k b i m Q M a j p q)(o:b<m.size)(u:Q<=10^16)(s:∀e∈L,m.size<=e/\e<=k)(d:List Int){f:List Ce}{n:Nat}(w:f=d.map Ce.i)(A:n=d.length)(z:0<d.length/\d.length<=100){K:Int->E->Prop}
 (y:∀t c,BI g k b i m (Q+1) c a j p q->K t c):aN cq 74 [vp b 0,O.v (.mk M.size 0 n n)] (M.push (.cells (bD f) ay)) λC c=>eG L (M.push (.cells (bD f) ay)) c/\∃t:Int,C=vi t/\K t c:=
 have:=h.hi
 have x:=J.push M (.cells (bD f) ay)
 have D:=x.size
 (yU h.s u d w A z).mono λ_ c⟨t,r,_,B,l⟩=>⟨l.da λe v=>by have:=s e v;simp only[fN];omega,t,r,y t c ((h.to o (x.fz _) (h.s.r.ext x)).to o l B.r)⟩
def FR{Z:List Nat}{P:Nat}{s:O}{x:Instr}(o:∀c∈Z,c<m.size)(c:Rd b s P m)(hP:P+20<=10^16)(U:ap m a x.args)(W:ap m j x.di)(p:x.args.length<=10^12/\x.di.length<=10^12):
 aN cq 131 [vp b 0,VZ x a j] m (IX Z b s m (P+4) λ_=>True):=by
 apply xZ (b,0)
 simp(config:={maxSteps:=1000000}) -zeta only[aE,aD]
 have q:=c.lt
 intro v h
 let⟨H,C⟩:=dj (a:=v) (c:=h) rfl rfl
 have i:v.size=m.size+1:=by simp[v]
 have s2:h.size=m.size+2:=by simp[h,i]
 clear_value h
 clear_value v
 refine(vm [] (U.ext H) (W.ext H) p).mono λ_ r⟨K,N,l,L,E,X,S⟩=>⟨S.da C,_,_,_,_,_,_,l,?_⟩
 intro Y F
 obtain⟨I,-,z5⟩:=iN (M:=r) (d:=Y) (c:=F) rfl rfl rfl
 clear_value F
 have ya:=L.bg;have yj:=E.bg
 have J:=(H.trans S).trans I
 have b5:BI h r.size b s m P F K N x.args x.di:=⟨L.ext I,E.ext I,X,⟨J.fz _,c.ext J⟩,⟨V,oA p.1,oA p.2⟩,V,V,V,V⟩
 have u:∀B∈[r.size,v.size,m.size],m.size<=B/\B<=r.size:=bN
 refine b5.pick q V u 6 λac y _ _ b6 _ f6=>?_
 have y6:=b6.hi
 have R:∀{w:O}{Q:List Int},GI [] h y w Q->Q.length<=10^12->aN cq 85 [vp b 0,O.v w] y λA f=>eG [r.size,v.size,m.size] y f/\∃e,A=O.v e/\∃g,GI [] y f e g/\g.length<=1000000000001/\Rd b s (P+4) f/\Fz [b] y f:=λn C=>
  (qb b6.s.r V (ap.le (bz _ _) (n.done aH C)) C).mono λ_ f⟨e,g,l,T,D,_,z,t⟩=>⟨t.da λB p=>by have:=u B p;simp only[fN];omega,e,l,g,T,V,z,t⟩
 refine⟨λ_=>b6.pick q V u 26 λA G _ _ d _ _=>(d.put c _ _).hO c o i V trivial _,λ_=>⟨λ_=>b6.ln q V u [0,1,-1,99] rfl rfl aH λA G d=>(d.put c _ _).hO c o i V trivial _,λ_=>⟨λ_=>b6.ln q V u [0,1,5,-1,1000,2000] rfl rfl aH λA G d=>(d.put c _ _).hO c o i V trivial _,λ_=>⟨λ_=>b6.ln q V u [0,1,-1,99] rfl rfl aH λA G d=>(d.put c _ _).hO c o i V trivial _,λ_=>⟨λ_=>?_,λ_=>⟨λ_=>?_,λ_=>b6.hO c o i V trivial _⟩⟩⟩⟩⟩⟩
 .refine(R b6.ga p.1).mono λ_ f⟨w,e,l,g,n,D,z,t⟩=>⟨w,e,l,?_⟩
  have aa:=n.bg
  have ab:=b6.s.f.size
  have k:=b6.to q t z
  have d:BI h r.size b s m (P+4) f e N g x.di:=⟨n.cG aH V,k.gj,oh E.bg,k.s,⟨V,D,b6.lo.2.2⟩,V,V,k.hi.2.2⟩
  exact(d.put c _ _).hO c o i V trivial _
 .refine(R b6.gj p.2).mono λ_ f⟨w,e,l,g,n,D,z,t⟩=>⟨w,e,l,?_⟩
  have aa:=n.bg
  have ab:=b6.s.f.size
  have k:=b6.to q t z
  have d:BI h r.size b s m (P+4) f K e x.args g:=⟨k.ga,n.cG aH V,V,k.s,⟨V,b6.lo.2.1,D⟩,V,V,k.hi.2.2⟩
  exact(d.put c _ _).hO c o i V trivial _
end
section
def AD(S:List Nat)(b:Nat)(c:O)(m:E)(P:Nat)(v:Value)(a:E):Prop:=∃s d,v=O.v s/\bX (bG S a) s d/\Rd b c P a/\Fz [b] m a
structure DD(S:List Nat)(rb:Nat)(bs:O)(m:E)(Q:Nat)(M:E)(s:O)(ds:List bo):Prop where
 g:Zd S m M s ds
 r:Rs rb bs m Q M
 l:0<ds.length/\ds.length<=100
section
variable{a:List Nat}{b P Q h g:Nat}{c s:O}{m M f:E}{e:List bo}
def DD.to(d:DD a b c m Q M s e)(i:b∈a/\b<m.size)(g:Fz [b] M f)(r:Rs b c m h f):DD a b c m h f s e:=⟨d.g.fS ij.mono g (by simp;exact i),r,d.l⟩
def DD.ext(h:DD a b c m Q M s e)(x:J M f):DD a b c m Q f s e:=⟨h.g.ext ij.mono x,h.r.ext x,h.l⟩
def DD.fR(h:DD a b c m Q M s e)(g:∀d∈a,d<m.size):∀d∈s.az::a,d<M.size:=λd i=>(List.mem_cons.1 i).elim (λf=>f▸h.g.bg.2) λf=>aJ (g d f) h.r.f.size
def DD.lit(h:DD a b c m Q M s e)(f:∀d∈a,d<m.size)(l:List Int){cs:List Ce}{n:Nat}(d:cs=l.map Ce.i)(g:n=l.length)(i:l.length<=100):ap (bG (s.az::a) (M.push (.cells (bD cs) ay))) (.mk M.size 0 n n) l:=ap.lit ay l (h.fR f) d g V
def DD.hO(h:DD a b c m Q M s e)(f:∀d∈a,d<m.size)(d:Q<=g):AD a b c m g (O.v s) M:=⟨s,e,rfl,h.g.done ij.mono f bh (oh h.l),h.r.r.mono d,h.r.f⟩
def DD.set(h:DD a b c m Q M s e)(o:∀f∈a,f<m.size)(i:Rd b c P m)(n:Q<=g){k:Int}(p:0<=k/\k<(e.length:Int)){cs:List Ce}{d:bo}(hd:ij (bG (s.az::a) M) cs d):
 0<=k/\k<(s.len:Int)/\fg M s.az (s.off+k.toNat*3) 3/\AD a b c m g (O.v s) (ai M s.az (s.off+k.toNat*3) cs):=by
 have q:=h.g.len bh
 have y:=h.g.bg
 let⟨w,l,f,j⟩:=h.g.set ij.mono h.r.f (k:=k.toNat) V hd
 exact⟨p.1,V,w,s,_,rfl,l.done ij.mono o bh (by have:=h.l;simp;omega),(i.LZ h.r.r f (j b (oh i.lt))).mono n,f⟩
def DD.fW(h:DD a b c m Q M s e)(i:∀d∈a,d<m.size)(k:Rd b c P m)(q:Q<=g){d:List Ce}{n:Nat}(l:List (bo×List Ce))(hd:∀x∈l,ij (bG (s.az::a) M) x.2 x.1)(t:d=l.flatMap (·.2))(u:n=l.length)(v:l.length<=100):
 jb (M.push (.cells (bD d) jL)) jL [.i 0,.i 0,.s .nil] 40 s (.mk M.size 0 n n) λr f=>AD a b c m g (O.v r) f:=by
 have x:=J.push M (.cells (bD d) jL)
 have z:=h.g.bg
 have H:=(AO ij.mono (h.fR i) jL l hd t u).done ij.mono (h.fR i) bh bN
 have w:=h.l
 refine Gr.all (g:=[.i 0,.i 0,.s .nil]) ij.mono bh (h.ext x).g (h.ext x).r.f H bN λr y p j A o=>⟨r,_,rfl,p.done ij.mono i bh bN,(k.LZ (h.ext x).r.r j (o b (h.ext x).r.r.lt (oh k.lt))).mono q,j⟩
def IS(g:∀z∈a,z<m.size)(O:b∈a)(v:Rd b c P m)(hP:P+100<=10^16):aN cq 130 [vp b 0] m (AD a b c m (P+6)):=by
 apply Bg (b,0);have hr:=v.lt;have w:b∈a/\b<m.size:=⟨O,hr⟩;refine(vr g O v V).mono λ_ m1⟨s,e,h,g1,ad,d1,f1⟩=>⟨s,h,?_⟩;have R:DD a b c m (P+1) m1 s e:=⟨g1,⟨f1,d1⟩,oh (na e ad)⟩;have sl:s.len=e.length:=g1.len bh;have dl:=R.l;refine(bV d1 V (s.len:Int)).mono λ_ m2⟨D,h,k0,k1,d2,f2⟩=>⟨D,h,?_⟩;have Z:=R.to w f2 (R.r.to f2 d2);have N:0<=D/\D<(e.length:Int):=V;refine(bV d2 V 14).mono λ_ F⟨ae,h,_,_,d3,f3⟩=>⟨ae,h,?_⟩;have k:=Z.to w f3 (Z.r.to f3 d3);have Q:∀{M:E},UB M .nil []:=⟨rfl,dE _,aH,aH⟩;have x:∀{M f:E},J M f->Le (bG (s.az::a) M) (bG (s.az::a) f):=λX=>X.cR _;refine⟨λ_=>?_,λ_=>⟨λ_=>?_,λ_=>⟨λ_=>?_,λ_=>⟨λ_=>?_,λ_=>⟨λ_=>?_,λ_=>⟨λ_=>k.fW g v V [(⟨0,0,[]⟩,[.i 0,.i 0,.s .nil]),(⟨3,0,[]⟩,[.i 3,.i 0,.s .nil])] (by simp;exact⟨⟨.nil,rfl,Q⟩,⟨.nil,rfl,Q⟩⟩) rfl rfl aH,λ_=>k.hO g V⟩⟩⟩⟩⟩⟩
 .refine(yU k.r V [-1,5,0,2] rfl rfl aH).mono λ_ o⟨t,h,_,G,u⟩=>⟨t,h,?_⟩;have r:=(k.ext (J.push F _)).to w u G;refine(yU G V [0,1,5] rfl rfl aH).mono λ_ l⟨q,h,_,A,y⟩=>⟨q,h,?_⟩;have p:=(r.ext (J.push o _)).to w y A;exact p.set g v V N (d:=⟨t,q,[]⟩) ⟨.nil,rfl,Q⟩
 .refine(yU k.r V [-1,0,4,5] rfl rfl aH).mono λ_ o⟨t,h,_,G,u⟩=>⟨t,h,?_⟩;have r:=(k.ext (J.push F _)).to w u G;have L:=r.lit g [t] (cs:=[.i t]) (n:=1) rfl rfl aH;refine Cq _ λl y=>?_;have p:=(r.ext (J.push o _)).ext y;have a2:=p.lit g [0,0,0,0] (cs:=[.i 0,.i 0,.i 0,.i 0]) (n:=4) rfl rfl aH;refine Cq _ λq B=>?_;have H:=(p.ext (J.push l _)).ext B;have a3:=H.lit g [] (cs:=[]) (n:=0) rfl rfl aH;refine Cq _ λA C=>?_;have I:=(H.ext (J.push q _)).ext C;have K:=(J.push q (.cells (bD []) ay)).trans C;have U:=((J.push l (.cells (bD [.i 0,.i 0,.i 0,.i 0]) ay)).trans B);have z:=vM (I.fR g) ou [([t],.mk o.size 0 1 1),([0,0,0,0],.mk l.size 0 4 4),([],.mk q.size 0 0 0)] aH (by
   simp only[aV,iW,AA,forall_eq_or_imp,forall_eq];exact⟨L.le (x ((y.trans U).trans K)),a2.le (x (B.trans K)),a3.le (x C)⟩) (c:=[.s (.mk o.size 0 1 1),.s (.mk l.size 0 4 4),.s (.mk q.size 0 0 0)]) (b:=3) rfl rfl
  exact(I.ext (J.push A _)).set g v V N (d:=⟨0,0,_⟩) ⟨_,rfl,z⟩
 .have L:=k.lit g [cQ (D+1)] (cs:=[.i (cQ (D+1))]) (n:=1) rfl rfl aH;refine Cq _ λl y=>?_;have p:=(k.ext (J.push F _)).ext y;have z:=vM (p.fR g) ou [([cQ (D+1)],.mk F.size 0 1 1)] aH (by
   simp only[aV,iW,AA,forall_eq];exact L.le (x y)) (c:=[.s (.mk F.size 0 1 1)]) (b:=1) rfl rfl
  exact(p.ext (J.push l _)).set g v V N (d:=⟨0,0,_⟩) ⟨_,rfl,z⟩
 .refine(yU k.r V [0,2,1] rfl rfl aH).mono λ_ o⟨t,h,_,G,u⟩=>⟨t,h,?_⟩;have r:=(k.ext (J.push F _)).to w u G;exact r.fW g v V [(⟨2,t,[]⟩,[.i 2,.i t,.s .nil])] (by simp;exact⟨.nil,rfl,Q⟩) rfl rfl aH
 .refine(bV k.r.r V 2).mono λ_ o⟨t,h,_,_,d4,u⟩=>⟨t,h,?_⟩;have r:=k.to w u (k.r.to u d4);have L:=r.lit g [] (cs:=[]) (n:=0) rfl rfl aH;refine Cq _ λl y=>?_;have p:=(r.ext (J.push o _)).ext y;have a2:=p.lit g [2] (cs:=[.i 2]) (n:=1) rfl rfl aH;refine Cq _ λq B=>?_;have H:=(p.ext (J.push l _)).ext B;have a3:=H.lit g [] (cs:=[]) (n:=0) rfl rfl aH;refine Cq _ λA C=>?_;have I:=(H.ext (J.push q _)).ext C;have a4:=I.lit g [] (cs:=[]) (n:=0) rfl rfl aH;refine Cq _ λm8 Y=>?_;have D8:=(I.ext (J.push A _)).ext Y;have W:=(J.push A (.cells (bD []) ay)).trans Y;have K:=(J.push q (.cells (bD []) ay)).trans C;have U:=((J.push l (.cells (bD [.i 2]) ay)).trans B);have z:=vM (D8.fR g) ou [([],.mk o.size 0 0 0),([2],.mk l.size 0 1 1),([],.mk q.size 0 0 0),([],.mk A.size 0 0 0)] aH (by
   simp only[aV,iW,AA,forall_eq_or_imp,forall_eq];exact⟨L.le (x (((y.trans U).trans K).trans W)),a2.le (x ((B.trans K).trans W)),a3.le (x (C.trans W)),a4.le (x Y)⟩) (c:=[.s (.mk o.size 0 0 0),.s (.mk l.size 0 1 1),.s (.mk q.size 0 0 0),.s (.mk A.size 0 0 0)]) (b:=4) rfl rfl
  have T:=D8.ext (J.push m8 (.cells (bD [.s (.mk o.size 0 0 0),.s (.mk l.size 0 1 1),.s (.mk q.size 0 0 0),.s (.mk A.size 0 0 0)]) ou));refine(bV T.r.r V 3).mono λ_ af⟨aa,h,j0,j1,ac,G⟩=>⟨aa,h,j0,bN,aH,?_⟩;have c':=(eN.le z (G.cR (S:=s.az::a) (by simp[O])) λab X=>mf.le (G.cR (by simp[O])) ab X).J4 (i:=aa.toNat) (j:=4) V aH;exact(T.to w G (T.r.to G ac)).set g v V N (d:=⟨t,0,_⟩) ⟨_,rfl,c'⟩
end
end
section
def Tr{α:Type}(_:α):Prop:=True
section
variable{a:List Nat}{m:E}{b P:Nat}{c:O}
def tZ(hS:∀w∈a,w<m.size)(aa:b∈a)(Z:Rd b c P m)(hP:P+200<=10^16){an ao:O}{x:List bo×List cZ}(u:IT (bG a m) an ao x)(ap:UI x)(aB:Int):aN cq 81 [vp b 0,.agg #[O.v an,O.v ao],vi aB] m (PP IT Tr a b c m (P+10)):=by
 apply xY (b,0);simp(config:={maxSteps:=1000000}) -zeta only[aE,aD];have F:=Z.lt;intro d ae;have b2:BS [d.size,m.size] b c m P ae:=BS.Zo (BS.ln (S:=a) Z _).1 _;have x2:J m ae:=(J.push m _).trans (J.push d _);have s1:d.size=m.size+1:=by simp[d]
 have t2:IT (bG ([d.size,m.size]++a) ae) an ao x:=IT.mn _ _ _ _ _ (x2.bG λh r=>by
  simp at r;rcases r with e|e|e
  .exact Or.inr V
  .exact Or.inr V
  .exact Or.inl e) u
 clear_value ae;refine b2.pick F V (λ_ o=>o) aB λaP m3 _ _ b3 f3=>?_;have t3:=IT.mn _ _ _ _ _ (BS.le (B:=[d.size,m.size]) aa f3) t2;refine⟨λ_=>b3.hO IT.mn Z aH t3 trivial V _,λ_=>?_⟩;refine(vk (b3.hS hS) (t3.1.le (bz _ _)) (pI ap.2) (gK.le (bz _ _) t3.2) ap.1).mono λ_ f⟨N,q,C,e,A4,hl,x4⟩=>⟨(b3.lw F λ_ o=>o).da (x4.fz _),N,q,e,?_⟩;have b4:=b3.to (x4.fz _) (b3.s.r.ext x4);intro m5 m6;obtain⟨b6,-,-⟩:=b4.box (S:=a) (m1:=m5) (m2:=m6) rfl rfl rfl;obtain⟨x6,-,-⟩:=iN (M:=f) (d:=m5) (c:=m6) rfl rfl rfl;clear_value m6;have A6:uJ ([f.size,d.size,m.size]++a) m m6 N q x.1 C:=A4.re (x6.fz []) aH (λh r=>⟨by
  rcases List.mem_cons.1 r with e|e
  .exact Or.inr V
  .exact Or.inl e,b6.hS hS h r⟩) b3.s.f.size
 have ok:yw (C.map (·.1)):=hl▸ap.1;have aX:=A6.len;have l4:C.length<=4:=by simpa using ok.nA
 have l0:0<C.length:=by simpa using ok.gS
 have cl:∀g∈C,g.1.bn.length<=10^12:=λg A=>(uJ.nA ok A).nA;refine b6.pick F V (λ_ o=>o) (q.len:Int) λp i f0 f1 b7 f7=>?_;have A7:=A6.re f7 (S':=[f.size,d.size,m.size]++a) (by simp[aa]) (λh r=>⟨Or.inl r,b7.hS hS h r⟩) (ad _);let⟨g,A⟩:=cg C p.toNat;let⟨ac,h,g0,g1,g2,g3,g4,aL,aM⟩:=A7.jC V A;refine⟨f0,V,ac,g0,h,g1,_,g2,_,g3,g.2,g4,?_⟩;intro m8 m9;obtain⟨b9,-,-⟩:=b7.box (S:=a) (m1:=m8) (m2:=m9) rfl rfl rfl;obtain⟨x9,-,-⟩:=iN (M:=i) (d:=m8) (c:=m9) rfl rfl rfl;clear_value m9;have A9:uJ ([i.size,f.size,d.size,m.size]++a) m m9 N q x.1 C:=A7.re (x9.fz []) aH (λh r=>⟨by
  rcases List.mem_cons.1 r with e|e
  .exact Or.inr V
  .exact Or.inl e,b9.hS hS h r⟩) (ad _)
 have hO:∀{l:E}{T:O}{ar:List bo×List cZ}{Q:Nat},BS [i.size,f.size,d.size,m.size] b c m Q l->IT (bG ([i.size,f.size,d.size,m.size]++a) l) T q ar->Q<=P+10->PP IT Tr a b c m (P+10) (.agg #[O.v T,O.v q]) (ai l d.size 0 [.s T,.s q]):=λh u o=>h.hO IT.mn Z aH u trivial o _;refine⟨λ_=>hO b9 (A9.it V cl) V,λhn=>?_⟩;have hB:∀h∈[b],h∈[i.size,f.size,d.size,m.size]++a:=by simp[aa]
 have W:∀{l n:E}{C:List (cZ×O)},uJ ([i.size,f.size,d.size,m.size]++a) m l N q x.1 C->Fz [b] l n->uJ ([i.size,f.size,d.size,m.size]++a) m n N q x.1 C:=λo p=>o.re p hB (λh r=>⟨Or.inl r,aJ (o.lt h r) p.size⟩) (ad _);refine b9.pick F V (λ_ o=>o) 8 λaP H _ _ j au=>?_;have U:=W A9 au;have aw:Le (bG (q.az::([f.size,d.size,m.size]++a)) i) (bG (q.az::([i.size,f.size,d.size,m.size]++a)) H):=(x9.bG λh r=>by
  simp only[db,dW,aV]at r⊢;rcases r with e|e|e
  .exact Or.inl (Or.inl e)
  .exact Or.inr V
  .exact Or.inl (Or.inr e)).trans (au.cR (by simp[aa]))
 have ha:=aL.le aw;have r:=aM.le aw;have az:∀{l n:E},Fz [b] l n->Le (bG (q.az::([i.size,f.size,d.size,m.size]++a)) l) (bG (q.az::([i.size,f.size,d.size,m.size]++a)) n):=λp=>p.cR (by simp[aa]);have G:=uJ.nA ok (aq A);have done:∀{l:E}{Q:Nat}{D:List Ce}{aC:cZ},BS [i.size,f.size,d.size,m.size] b c m Q l->uJ ([i.size,f.size,d.size,m.size]++a) m l N q x.1 C->kN (bG (q.az::([i.size,f.size,d.size,m.size]++a)) l) D aC->Q<=P+10->
  0<=p/\p<(q.len:Int)/\fg l q.az (q.off+p.toNat*5) 5/\(eG [i.size,f.size,d.size,m.size] l (ai l q.az (q.off+p.toNat*5) D)/\PP IT Tr a b c m (P+10) (.agg #[O.v N,O.v q]) (ai (ai l q.az (q.off+p.toNat*5) D) d.size 0 [.s N,.s q])):=λ{l Q D aC} h K hp hQ=>by
  let⟨X,ps,tt⟩:=K.aad h.s.f V cl (k:=p.toNat) V hp
  have yq:=K.g.bg
  exact⟨f0,V,X,λw R=>bd _ _ _ _ λe=>K.nq (by rw[<-e];exact bu _ R),hO ⟨h.s.put Z yq.1 _ _,λw R=>by rw[aA];exact h.fR w R⟩ tt hQ⟩
 have v:∀{l n:E}{Q:Nat},BS [i.size,f.size,d.size,m.size] b c m Q l->Fz [b] l n->∀s,af n i.size s=af l i.size s:=λh p s=>kg p F (h.fR _ aH) s;have Y:∀{l n:E}{Q:Nat},BS [i.size,f.size,d.size,m.size] b c m Q l->Fz [b] l n->∀s,af n f.size s=af l f.size s:=λh p s=>kg p F (h.fR _ aH) s;have am:=U.bn (aq A) G.nA;have av:=j.hS hS;have lq:∀w∈q.az::([i.size,f.size,d.size,m.size]++a),w<H.size:=λw R=>(List.mem_cons.1 R).elim (λe=>e▸U.g.bg.2) (av w);have ln:∀(ls:List Int){D:List Ce}{ag:Nat},D=ls.map Ce.i->ag=ls.length->0<ls.length/\ls.length<=100->∀{ak:Int->E->Prop},(∀u n,BS [i.size,f.size,d.size,m.size] b c m (P+4) n->uJ ([i.size,f.size,d.size,m.size]++a) m n N q x.1 C->Le (bG (q.az::([i.size,f.size,d.size,m.size]++a)) H) (bG (q.az::([i.size,f.size,d.size,m.size]++a)) n)->(∀s,af n i.size s=af (H.push (.cells (bD D) ay)) i.size s)->(∀s,af n f.size s=af (H.push (.cells (bD D) ay)) f.size s)->ak u n)->
  aN cq 74 [vp b 0,O.v (.mk H.size 0 ag ag)] (H.push (.cells (bD D) ay)) λah n=>eG [i.size,f.size,d.size,m.size] (H.push (.cells (bD D) ay)) n/\∃u:Int,ah=vi u/\ak u n:=λls{D ag} h1 h2 h3{ak} hk=>by
  have x:=J.push H (.cells (bD D) ay)
  have L:=j.to (x.fz _) (j.s.r.ext x)
  exact(yU j.s V ls h1 h2 h3).mono λ_ n⟨u,e,_,aS,p⟩=>⟨(L.lw F λ_ o=>o).da p,u,e,hk u n (L.to p aS.r) (W U ((x.fz _).trans p)) (az ((x.fz _).trans p)) (v L p) (Y L p)⟩
 refine⟨λ_=>?_,λ_=>⟨λ_=>?_,λ_=>⟨λ_=>?_,λ_=>⟨λ_=>?_,λ_=>?_⟩⟩⟩⟩
 .refine(qb j.s.r V (r.le (bz _ _)) (oh G.df)).mono λ_ ab⟨T,I,e,al,aF,_,aj,t⟩=>⟨(j.lw F λ_ o=>o).da t,T,e,v j t _,v j t _,v j t _,v j t _,Y j t _,?_⟩;exact done (aC:=⟨g.1.params,I,g.1.aR,g.1.av,g.1.bn⟩) (j.to t aj) (W U t) ⟨ac,T,g.2,rfl,ha.le (az t),GI.done (GI.any al) lq (by have:=G.df;show I.length<=_;omega),(W U t).bn (aq A) G.nA⟩ V
 .have x:=(J.push H (.cells (bD [.i 0,.i 1,.i (cQ (g.1.av+1)),.i 2001,.i (-1)]) ay)).fz [b];exact⟨v j x _,v j x _,v j x _,v j x _,Y j x _,ln [0,1,cQ (g.1.av+1),2001,-1] rfl rfl aH λu n b' K le I e4=>⟨I _,I _,I _,I _,e4 _,done (aC:=⟨g.1.params,g.1.df,g.1.aR,u,g.1.bn⟩) b' K ⟨ac,h,g.2,rfl,ha.le le,r.le le,K.bn (aq A) G.nA⟩ V⟩⟩
 .have x:=(J.push H (.cells (bD [.i 0,.i 1,.i 9]) ay)).fz [b];have cl:=am.len;have cc:=am.cap;have c0:=G.gS;have cf:=G.nA;have ew:cQ ((g.2.len:Int) -1)=((g.2.len -1:Nat):Int):=by rw[aQ V V];omega
  rw[ew];refine⟨dh 0,V,V,v j x _,v j x _,v j x _,v j x _,v j x _,Y j x _,ln [0,1,9] rfl rfl aH λu n b' K le I e4=>⟨I _,I _,I _,I _,I _,e4 _,done (aC:=⟨g.1.params,g.1.df,u,g.1.av,g.1.bn.take (g.2.len -1)⟩) b' K ⟨ac,h,g.2.cut 0 (g.2.len -1) 6,rfl,ha.le le,r.le le,eN.UX (K.bn (aq A) G.nA) V⟩ V⟩⟩
 .refine(IS av (by simp[aa]) j.s.r V).mono λ_ ab⟨T,I,e,hd,aj,t⟩=>⟨(j.lw F λ_ o=>o).da t,T,e,Y j t _,?_⟩;exact hO (ar:=(I,_)) (j.to t aj) ⟨hd,((W U t).it V cl).2⟩ V
 .have aW:=am.len;have aU:=G.gS;refine j.pick F V (λ_ o=>o) (g.2.len:Int) λaR ab j0 j1 L t=>?_;have I:=W U t;obtain⟨-,-,-,-,-,-,aG,-,-⟩:=I.jC V A;let⟨ar,hz⟩:=cg g.1.bn aR.toNat;let⟨a',jj,aI,hj,e0,e1,e2,e3,e4,e5⟩:=(I.bn (aq A) G.nA).aO hz;have fR:∀{h s:Nat}{ah:Value},af (bG (q.az::([i.size,f.size,d.size,m.size]++a)) ab) h s=some ah->af ab h s=some ah:=λo=>(dY.1 o).2;refine⟨f0,V,g.2,aG,j0,V,_,fR e0,_,fR e1,_,fR e2,_,fR e3,_,fR e4,_,fR e5,?_⟩;have hZ:∀w∈q.az::(Ks C++([i.size,f.size,d.size,m.size]++a)),w<ab.size:=λw R=>by
   rcases List.mem_cons.1 R with e|e
   .rw[e];exact I.g.bg.2
   .rcases List.mem_append.1 e with e|e
    .obtain⟨X,hw,rfl⟩:=List.mem_map.1 e;exact(I.c X hw).bg.2
    .exact I.lt w e
  refine(FR hZ L.s.r V (aI.le (bz _ _)) (hj.le (bz _ _)) (G.jg ar (aq hz))).mono λ_ aY⟨z',a2,j2,e,aK,aO,_,aT,K⟩=>⟨(L.lw F λ_ o=>o).da K,_,_,_,_,_,_,e,?_⟩;have aj:=W I K;have al:=L.to K aT;let⟨X,aF⟩:=aj.wr al.s.f A (ax hz) (cs:=[.i z'.op,.i z'.dst,.i z'.bK,.i z'.bW,.s a2,.s j2]) (y:=z') ⟨a2,j2,rfl,aK,aO⟩;have yc:=(aj.c g (aq A)).bg;have yq:=I.g.bg;refine⟨kg K F yq _,Y L K _,j0,V,X,λh r=>bd _ _ _ _ λe=>(aj.nc g (aq A)) (by rw[<-e];exact bu _ r),hO ⟨al.s.put Z yc.1 _ _,λw R=>by rw[aA];exact al.fR w R⟩ (aF.it bN λX hw=>?_) V⟩;rcases cL hw with e|e
  .exact cl X e
  .rw[e];simpa using G.nA
def IU(f:∀d∈a,d<m.size)(l:b∈a)(d:Rd b c P m)(K:P+2000+4*(300+40*Cg 18)<=10^16):aN cq 40 [vp b 0] m (PP IT Tr a b c m (P+50+4*(300+40*Cg 18))):=by
 apply Bh (b,0);simp -zeta only[aE,aD];have e:=d.lt;intro g;have z1:g.size=m.size+1:=by simp[g]
 obtain⟨b1,-⟩:BS [m.size] b c m P g/\True:=⟨(BS.ln (S:=a) d _).1,trivial⟩;clear_value g;refine b1.call (S:=a) e (λ_ h=>h) (Ht (b1.hS f) (by simp[l]) b1.s.r V) λH Q R o r t2 b2 I=>?_;intro y p;obtain⟨b4,w,-⟩:=b2.box (S:=a) (m1:=y) (m2:=p) rfl rfl rfl;clear_value p;have C:=IT.mn _ _ _ _ _ w t2;have k:b∈[o.size,m.size]++a:=by simp[l]
 refine b4.pick e V (λ_ h=>h) 4 λL M _ _ b5 u=>?_;have q:=IT.mn _ _ _ _ _ (BS.le l u) C;refine⟨λ_=>?_,λ_=>b5.call (S:=a) e (λ_ h=>h) (tZ (b5.hS f) k b5.s.r V q r 14) λt B G z F n j v=>j.hO IT.mn d aH n trivial V _⟩;refine b5.call (S:=a) e (λ_ h=>h) (Hj (b5.hS f) k b5.s.r V q r) λs A T N E D b6 J=>?_;intro O;let⟨i,x⟩:=b6.put (S:=a) d (by simp:o.size∈_) [.s s,.s A];exact i.call (S:=a) e (λ_ h=>h) (tZ (i.hS f) k i.s.r V (IT.mn _ _ _ _ _ x D) E 14) λt B G z F n j v=>j.hO IT.mn d aH n trivial V _
end
end
end Go.Proofs.YtdalfjkmdekijaaGreat
