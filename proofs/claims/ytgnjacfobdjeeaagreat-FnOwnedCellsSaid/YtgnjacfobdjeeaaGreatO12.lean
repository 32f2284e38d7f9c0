/- Part of a proof, joined by a program. -/
import Derived.Test.YtgnjacfobdjeeaaGreatO11
set_option linter.unusedVariables false
set_option linter.unusedSimpArgs false
set_option linter.defProp false
set_option linter.constructorNameAsVariable false
set_option maxHeartbeats 8000000
set_option maxRecDepth 100000
namespace Go.Proofs.YtgnjacfobdjeeaaGreat
open Go.Vc
section
variable{S:List Nat}{d c:I}{b:Nat}{s:O}{l:List Instr}{x:Instr}
structure CG(S:List Nat)(d c:I)(b:Nat)(s:O)(l:List Instr):Prop where
 box:cB c b mG [.s s]
 gr:Sv (b::S) d c s l
 up:d.size<=b
def CG.ext{S:List Nat}{d c a:I}{b:Nat}{s:O}{l:List Instr}(h:CG S d c b s l)(x:J c a):CG S d a b s l:=⟨h.box.ext x,h.gr.ext dt.mono x,h.up⟩
def CG.ne{S:List Nat}{d c:I}{b:Nat}{s:O}{l:List Instr}(h:CG S d c b s l):s.F≠b:=h.gr.ne h.box bd
def MD(S:List Nat)(d c:I)(b:Nat)(s:O)(P:List Instr->Prop)(f:I):Prop:=∃a e,CG S d f b a e/\P e/\Fz [b,s.F] c f/\(a.F=s.F\/c.size<=a.F)
def oR{v z:O}(p:CG S d c b s l)(F:d.size<=c.size)(K:ar (bA (s.F::b::S) c) v x.args)(L:ar (bA (s.F::b::S) c) z x.dR)(q:l.length<=1000000000000):
 aN bY 191 [vp b 0,SY x v z] c λT Q=>T=vi (l.length:Nat)/\MD S d c b s (l++[x]=·) Q:=by
 apply uX (b,0)
 simp -zeta only[aE,aD]
 intro g
 have n:J c g:=J.push _ _
 have s1:g.size=c.size+1:=by simp[g]
 clear_value g
 have h:=p.ext n
 have hy:=h.gr.aY
 have N:=h.ne
 have D:=h.box.lt
 have X:=p.box.lt
 have aa:=p.gr.aY
 refine⟨s,h.box.cy 0,?_⟩
 intro R
 have G:J g R:=J.push _ _
 refine⟨aI (G.same _ D) _,?_⟩
 have Z:(c.extract 0 d.size).size=d.size:=kG F
 have I:Sv (b::S) (c.extract 0 d.size) g s l:=Gr.cG dt.mono h.gr (λH q=>Or.inl q) V
 refine Gr.jK (g:=[.i 0,.i 0,.i 0,.i 0,.s .nil,.s .nil]) (k:=x) dt.mono bd I ((((J.My F).trans n).fz [])) ⟨v,z,rfl,K.le (n.cJ _),L.le (n.cJ _)⟩ V λi k A W U u=>?_
 have q3:∀e,e<g.size->e≠s.F->k[e]? =g[e]? :=u
 have y:cB k b mG [.s s]:=h.box.congr (u b D (jQ N))
 have P:=A.ne y bd
 refine⟨λe f=>?_,y.fm E,?_⟩
 ·simp at f;subst f
  rw[u c.size V V,G.same _ V]
 intro t
 have C:cB t b mG [.s i]:=cB.aj (m:=k) (o:=0) (r:=[.s i]) y
 have w:∀e,e≠b->t[e]? =k[e]? :=λe f=>bh _ _ _ _ f
 have s4:t.size=k.size:=az _ _ _ _
 refine⟨λe f=>w e (by simp at f;omega),i,C.cy 0,?_⟩
 have B:Sv (b::S) d t i (l++[x]):=by
  refine Gr.cG dt.mono (A.re dt.mono (Y:=[b]) ⟨V,λe f j=>w e (by simpa using j)⟩ E (by simp;exact P) λe f=>Or.inl f) (λH q=>Or.inl q) V
 have H:=B.len bd
 have M:i.len=l.length+1:=by rw[H];simp
 refine⟨?_,i,_,⟨C,B,p.up⟩,rfl,⟨V,λe f j=>?_⟩,by have:=U.2;omega⟩
 ·rw[M,aP V V];congr 1;omega
 ·simp only[aS,jo,zc,tA]at j
  rw[w e j.1,u e V j.2,n.same e f]
def OG{j:Nat}(h:CG S d c b s l)(o:d.size<=c.size)(r:l[j]? =some x):
 aN bY 232 [vp b 0,vi j] c λ_ L=>MD S d c b s (l.set j ⟨x.op,0,l.length,0,x.args,x.dR⟩=·) L:=by
 apply uW (b,0)
 simp -zeta only[aE,aD]
 have H:=ax r
 have K:=h.gr.len bd
 obtain⟨O,⟨q,t,rfl,F,G⟩,kd⟩:=h.gr.cells r
 have w:=kd 0 _ rfl;have y:=kd 1 _ rfl;have z:=kd 2 _ rfl;have A:=kd 3 _ rfl;have B:=kd 4 _ rfl;have C:=kd 5 _ rfl
 refine⟨s,h.box.cy 0,V,V,_,w,_,y,_,z,_,A,_,B,_,C,?_⟩
 intro M e
 have g:J c e:=(J.push c _).aj (ad _) _ _
 have T:e.size=c.size+1:=by simp[e,M,az]
 clear_value e
 have i:=h.ext g
 have I:=i.ne
 have Q:=h.gr.aY
 have R:=g.size
 refine⟨s,i.box.cy 0,s,i.box.cy 0,V,V,?_⟩
 have D:Sv (b::S) (c.extract 0 d.size) e s l:=Gr.cG dt.mono i.gr (λv m=>Or.inl m) (by rw[kG o];exact ad _)
 rw[K]
 obtain⟨N,E,P,p⟩:=Gr.set (k:=j) (cs:=[.i x.op,.i 0,.i l.length,.i 0,.s q,.s t]) (a:=⟨x.op,0,l.length,0,x.args,x.dR⟩) dt.mono D (((J.My o).trans g).fz []) H ⟨q,t,rfl,F.le (g.cJ _),G.le (g.cJ _)⟩
 refine⟨N,?_⟩
 intro u
 have U:u.size=e.size:=az _ _ _ _
 refine⟨λf n=>p f (by simp at n;omega),s,_,⟨i.box.congr (p b (jQ I)),Gr.cG dt.mono E (λv m=>Or.inl m) (by rw[kG o];exact ad _),h.up⟩,rfl,⟨V,λf n m=>?_⟩,Or.inl rfl⟩
 simp only[aS,jo,zc,tA]at m
 have v:u[f]? =e[f]? :=p f m.2
 rw[v,g.same f n]
end
section
variable{n a:Nat}
def lz(l b:List Instr)(n:Nat):Prop:=∃a,b=l++a/\(∀(i:Nat)(x:Instr),a[i]? =some x->MG (l.length+i) x)/\NS a/\a.length<=n
def lz.aC(l:List Instr):lz l l 0:=⟨[],E,E,λ_ h=>by simp at h,ad _⟩
def lz.fG{l b:List Instr}(h:lz l b n)(i:n<=a):lz l b a:=let⟨f,c,d,e,g⟩:=h;⟨f,c,d,e,V⟩
def lz.len{l a:List Instr}(h:lz l a n):a.length<=l.length+n:=by obtain⟨b,rfl,_,_,d⟩:=h;simp;omega
def lz.trans{l e f:List Instr}(h:lz l e n)(p:lz e f a):lz l f (n+a):=by
 obtain⟨c,rfl,g,k,s⟩:=h;obtain⟨r,rfl,j,m,t⟩:=p;refine⟨c++r,E,λi x b=>?_,λx q=>?_,bK⟩
 ·rcases aV i c.length with d|d
  ·rw[aw d]at b;exact g i x b
  ·rw[aF d]at b;have:=j _ x b;have o:(l++c).length+(i -c.length)=l.length+i:=bK;rw[o]at this;exact this
 ·rcases List.mem_append.1 q with h|h
  ·exact k x h
  ·exact m x h
def lz.kj{l:List Instr}{x:Instr}(h:MG l.length x)(c:x.args.length<=1000000000000/\x.dR.length<=1000000000000):lz l (l++[x]) 1:=
 ⟨[x],rfl,λi y a=>by
  have:i=0:=by have:=ax a;simp at this;omega
  subst this;simp at a;subst a;exact h,λy b=>by simp at b;subst b;exact c,E⟩
section
variable{S:List Nat}{d m c:I}{b:Nat}{s e:O}{l f:List Instr}
def CG.fq(h:CG S d m b s l)(f:J d m)(e:Fz [b,s.F] m c):J d c:=by
 have j:=h.gr.aY;have i:=h.up;exact Fz.ext (((f.fz [b,s.F]).trans e).AZ λg a=>Or.inr (by simp at a;omega))
def N9(h:Fz [b,s.F] m c)(f:e.F=s.F\/m.size<=e.F):Le (bA [s.F,b] m) (bA [e.F,b] c):=nM λa g i=>by
 simp at i;refine⟨by simp;rcases f with d|d<;>omega,h.same a g bK⟩
def MD.da{L:List Nat}(f:Fz [b,s.F] m c)(d:∀a∈L,a<m.size/\a≠b/\a≠s.F):dV L m c:=λa e=>f.same a (d a e).1 (by have:=d a e;simp;omega)
end
structure PB(S:List Nat)(mb m:I)(eb:Nat)(s:O)(l:List Instr)(cons first:O)(cl fl:List Int):Prop where
 em:CG S mb m eb s l
 x:J mb m
 fq:∀c∈S,c<m.size
 cons:ar (bA [s.F,eb] m) cons cl
 first:ar (bA [s.F,eb] m) first fl
 same:fl.length=cl.length
 iQ:∀y∈fl,0<=y/\y<=900000000000
def PB.ext{S:List Nat}{e m d:I}{b:Nat}{s:O}{l:List Instr}{cons first:O}{a c:List Int}(h:PB S e m b s l cons first a c)(x:J m d):PB S e d b s l cons first a c:=
 ⟨h.em.ext x,h.x.trans x,λf g=>x.lt (h.fq f g),h.cons.le (x.cJ _),h.first.le (x.cJ _),h.same,h.iQ⟩
def PB.next{S:List Nat}{e m d:I}{a:Nat}{s c:O}{o j:List Instr}{cons first:O}{f g:List Int}(h:PB S e m a s o cons first f g)(l:CG S e d a c j)(b:Fz [a,s.F] m d)(i:c.F=s.F\/m.size<=c.F):PB S e d a c j cons first f g:=
 ⟨l,h.em.fq h.x b,λk n=>aJ (h.fq k n) b.size,h.cons.le (N9 b i),h.first.le (N9 b i),h.same,h.iQ⟩
def U6(f:List bq)(g:List fD)(x:cq):Prop:=∀(S:List Nat)(a m:I)(c:Nat)(s:O)(l:List Instr)(cons first:O)(b h:List Int)(e r d k:O),PB S a m c s l cons first b h->WS f g.length True b.length x->b.length+4*x.w<=900000000000->l.length+6*x.w<=1000000000000->dJ a e r f g->ar a d x.args->mo a k x.bu->
 aN bY 217 [vp c 0,.agg #[O.v e,O.v r],nv x d k,O.v cons,O.v first] m λ_ j=>MD S a m c s (λi=>lz l i (6*x.w)) j
def T9(f:List bq)(g:List fD)(b:Bk):Prop:=∀(S:List Nat)(a m:I)(d:Nat)(s:O)(l:List Instr)(cons first:O)(c h:List Int)(e r t:O),PB S a m d s l cons first c h->WB f g.length True c.length b->c.length+4*b.w<=900000000000->l.length+6*b.w<=1000000000000->dJ a e r f g->dN a t b.aA->
 aN bY 190 [vp d 0,.agg #[O.v e,O.v r],.agg #[O.v t,vi b.aR],O.v cons,O.v first] m λ_ j=>MD S a m d s (λi=>lz l i (6*(b.w -1))) j
end
def rc(m:I):ar m .nil []:=⟨rfl,ad _,E,E⟩
def Ju{ds:List bq}{rs:List fD}{aA:List cq}{a8:Int}(b:∀a∈aA,a.op=7\/a.op=8->U6 ds rs a):T9 ds rs (.mk aA a8):=by
 intro B mb H f ac ai cons first cl fl aO a7 bx E0 a1 bf bg hn hs
 have a2:=a1.bo;rw[Bk.oV]at*;simp only[Bk.jd,Bk.iy]at*;apply th (f,0);simp -zeta only[aE,aD];intro W K;obtain⟨x2,hl⟩:=di (a:=W) (c:=K) rfl rfl;have s1:W.size=H.size+1:=by simp[W]
 have s2:K.size=H.size+2:=by simp[K,s1]
 clear_value K;have a0:=hs.len;have aC:=yY aA;have bm:=eW aA;have bi:=E0.em.box.lt;have bu:=E0.em.gr.aY;have bk:=E0.x.size;refine uL (n:=aA.length) (a0▸hs.fL) (λq cons first M=>∃p U F Q,PB B mb M f p U cons first F Q/\F.length=cl.length+dc (aA.take q)/\lz ai U (6*sw (aA.take q))/\Fz [f,ac.F] H M/\(p.F=ac.F\/K.size<=p.F)/\K.size<=M.size) ⟨ac,ai,cl,fl,E0.ext x2,E,(lz.aC ai).fG (dH _),x2.fz _,Or.inl rfl,ad _⟩ ?_;rintro q cons first M a9 μ hk ⟨p,U,F,Q,Y,aW,ah,fz,aZ,hM⟩ aK
 have bj:=ah.len;have bo:=aC q;have u:=Y.em.gr.aY;refine dit (λm=>?_) λm=>?_
 ·obtain⟨a,hx⟩:=ag (l:=aA) (k:=q) V;obtain⟨pa,pk,T,aX,e0,e1,e2,e3,e4⟩:=hs.u hx;have br:=od hx;have bp:=oY hx;have bs:=cq.kN a;have bn:=aC (q+1);have bh:=qT (aA.take q);have bl:=eW (aA.take q);have aa:=a2.1 q a hx;rw[<-aW]at aa;have X:=Y.x;refine⟨V,V,_,X.D e0,_,X.D e1,_,X.D e2,_,X.D e3,_,X.D e4,?_⟩;intro m3 r;have x4:J M r:=(J.push M _).aj (ad _) _ _;have s4:r.size=M.size+1:=by simp[r,m3,az]
  clear_value r;have j:=Y.ext x4;have R:∀{Z:I},r.size<=Z.size->∀h∈[M.size,W.size,H.size],h<Z.size/\h≠f/\h≠p.F:=λhz h t=>by simp at t;omega
  have kS:∀{A M2:I},r.size<=A.size->J A M2->dV [M.size,W.size,H.size] A M2:=λhz xx h t=>xx.same h (R hz h t).1;have C:∀{A M2:I},r.size<=A.size->J A M2->∀aj,D M2 M.size aj=D A M.size aj:=λhz xx aj=>aI (xx.same _ V) aj;have ao:∀{Z:I},r.size<=Z.size->∀c∈p.F::f::B,c<Z.size:=λhz c b=>by
   simp only[aS]at b;rcases b with e|e|e
   ·omega
   ·omega
   ·have:=Y.fq c e;have:=X.size;omega
  refine⟨λO=>∃g y,PB B mb O f g y cons first F Q/\lz U y (6*a.w)/\Fz [f,p.F] r O/\(g.F=p.F\/r.size<=g.F),⟨λh7=>?_,λn7=>⟨λaR=>?_,λa5=>⟨λaT=>?_,λa6=>?_⟩⟩⟩,?_⟩
  ·simp only[cv,aL]at h7;refine(b a (au hx) h7 B mb r f p U cons first F Q aO a7 pa pk j aa V V hn T aX).mono λv m5⟨g,y,af,p5,P,b5⟩=>⟨MD.da P (R (ad _)),g,y,j.next af P b5,p5,P,b5⟩
  ·simp only[cv,aL]at aR;refine(bE (p.F::f::B) (T.ext j.x) V).mono λv m5⟨a',la,e,ga,ea,d⟩=>⟨kS (ad _) d,a',e,C (ad _) d _,?_⟩;subst ea;have o:=j.ext d;have w:=d.size;refine(oR (x:=⟨a.op,0,0,0,a.args,[]⟩) o.em o.x.size (GI.done ga (ao (ad _)) (by show a.args.length<=_;omega)) (rc _) V).mono λv L⟨ev,s6,l6,ak,p6,G,b6⟩=>⟨MD.da G (R w),_,ev,s6,l6,o.next ak G b6,?_,(d.fz _).trans G,V⟩;subst p6;exact(lz.kj ⟨λm=>by simp only at m;omega,λm=>by simp only at m;omega⟩ ⟨by show a.args.length<=_;omega,E⟩).fG V
  ·simp only[cv,aL]at aT;have bb:=aa.dY.kj V;obtain⟨N,ap⟩:=ag (l:=a.args) (k:=0) V;obtain⟨y0,y1⟩:=aa.dY.args N (au ap);have be:=T.len;have c4:=(j.cons.le (bt _ _));have f4:=(j.first.le (bt _ _));have a3:=c4.len;have a4:=f4.len;have aY:=j.same;obtain⟨cn,aP⟩:=ag (l:=F) (k:=N.toNat) V;obtain⟨fn,am⟩:=ag (l:=Q) (k:=N.toNat) V;obtain⟨a_,ba⟩:=j.iQ fn (au am);have F4:=f4.u am;refine⟨bd,V,N,(T.ext j.x).u ap,y0,V,cn,c4.u aP,y0,V,fn,F4,?_⟩;refine(dk (e:=[]) E (hn.aT.le (j.x.le.trans (xB _))) hn.types cn).mono λv m5⟨aU,bv,e,aM,ax,d⟩=>⟨kS (ad _) d,aU,e,by rw[d.D F4,F4],C (ad _) d _,C (ad _) d _,?_⟩;subst ax;have w:=d.size;have F3:=CY hn.types cn;obtain⟨fk,aQ⟩:∃fk:Nat,fn=fk:=⟨fn.toNat,V⟩;subst aQ;refine(pT (S:=[]) E aM fk V).mono λv L⟨aV,bw,e,aF,al,i⟩=>⟨kS w i,aV,e,C w i _,C w i _,?_⟩;have z6:=i.size;refine(dL (S:=[]) E ((T.ext (j.x.trans (d.trans i))).le (xB _)) (aF.done rS.mono E bd (by have:=al.2;omega)) (by have:=al.2;omega)).mono λv m7⟨aw,ab,e,aG,av,s⟩=>⟨kS V s,aw,e,C V s _,?_⟩;have X7:=(d.trans i).trans s;have z:=j.ext X7;have z7:=s.size;have aH:GI (p.F::f::B) L m7 aw ab:=GI.any aG;have bc:ab.length<=a.args.length+3:=by rw[<-av];simp;have:=al.2;omega
   have aN:0<ab.length:=by rw[<-av];simp;omega
   refine(oR (x:=⟨a.op,0,0,0,ab,[]⟩) z.em z.x.size (aH.done (ao V) V) (rc _) V).mono λv m8⟨ev,s8,l8,ay,p8,f8,b8⟩=>⟨MD.da f8 (R V),_,ev,s8,l8,z.next ay f8 b8,?_,(X7.fz _).trans f8,V⟩;subst p8;exact(lz.kj ⟨λm=>by simp only at m;omega,λ_=>aN⟩ ⟨by show ab.length<=_;omega,E⟩).fG V
  ·refine(bE (p.F::f::B) (T.ext j.x) V).mono λv m5⟨a',la,e,ga,ea,d⟩=>⟨kS (ad _) d,a',e,C (ad _) d _,C (ad _) d _,C (ad _) d _,?_⟩;subst ea;simp only[bQ,an]at a5 a6;have o:=j.ext d;have w:=d.size;have ab:a.op<=11:=by
    rcases aa.dY.op with m|m
    ·exact m.2
    ·omega
   refine(oR (x:=⟨a.op,(cons.len:Int),a.bL,a.bV,a.args,[]⟩) o.em o.x.size (GI.done ga (ao (ad _)) (by show a.args.length<=_;omega)) (rc _) V).mono λv L⟨ev,s6,l6,ak,p6,G,b6⟩=>⟨MD.da G (R w),_,ev,s6,l6,o.next ak G b6,?_,(d.fz _).trans G,V⟩;subst p6;exact(lz.kj ⟨λm=>by simp only at m;omega,λm=>by simp only at m;omega⟩ ⟨by show a.args.length<=_;omega,E⟩).fG V
  ·rintro O ⟨g,y,o,p5,P,b5⟩;have w:=P.size;have af:lz ai y (6*sw (aA.take (q+1))):=(ah.trans p5).fG V;have aw:Fz [f,ac.F] H O:=(fz.then x4).pZ P λN u=>by
    simp only[aS,jo,zc]at u⊢;rcases u with e|e
    ·exact Or.inl (Or.inl e)
    ·rcases aZ with d|d
     ·exact Or.inl (Or.inr V)
     ·exact Or.inr V
   have ax:g.F=ac.F\/K.size<=g.F:=V;have bb:=o.em.gr.aY;have al:∀h∈[M.size,W.size,H.size],h<O.size:=λh t=>aJ (R (ad _) h t).1 w;have ay:=λh t=>qV a h t;refine(iX a.op O).mono λv L⟨h,e,t,i⟩=>⟨λc b=>i.same c (al c b),h,e,λht=>?_,λhf=>?_⟩
   ·have hd:=ay h t;rw[aq ht]at hd;intro m7;have s:J L m7:=J.push _ _;have ba:=o.em.box.lt;have z6:=i.size;have ab:∀c∈[g.F,f],c<L.size:=λc b=>by simp at b;omega
    have a3:ar (bA [g.F,f] m7) (.mk L.size 0 1 1) [0]:=ar.lit aB [0] ab rfl rfl E;have X7:=i.trans s;have z:=o.ext X7;have a_:=z.cons.len;refine(dL (S:=[g.F,f]) (λc b=>s.lt (ab c b)) z.cons a3 bK).mono λv m8⟨aM,aF,e,aP,ap,x8⟩=>⟨λc b=>x8.same c (s.lt (i.lt (al c b))),aM,e,?_⟩;intro m9;have d:J m8 m9:=J.push _ _;have z7:=s.size;have z8:=x8.size;have am:∀c∈[g.F,f],c<m8.size:=λc b=>by have:=ab c b;omega
    have a4:ar (bA [g.F,f] m9) (.mk m8.size 0 1 1) [0]:=ar.lit aB [0] am rfl rfl E;have E9:=z.ext (x8.trans d);have aY:=E9.same;refine(dL (S:=[g.F,f]) (λc b=>d.lt (am c b)) E9.first a4 bK).mono λv aH⟨aN,aG,e,aQ,av,G⟩=>⟨λc b=>G.same c (d.lt (x8.lt (s.lt (i.lt (al c b))))),aN,e,?_⟩;have ak:=E9.ext G;have aU:ar (bA [g.F,f] aH) aM aF:=(GI.done aP (λc b=>s.lt (ab c b)) (by rw[<-ap];simp;omega)).le ((d.trans G).cJ _);have aV:ar (bA [g.F,f] aH) aN aG:=GI.done aQ (λc b=>d.lt (am c b)) (by rw[<-av];simp;omega);refine aK V _ _ _ ⟨g,y,aF,aG,⟨ak.em,ak.x,ak.fq,aU,aV,by rw[<-ap,<-av];simp;omega,λN u=>?_⟩,by rw[<-ap];simp;omega,af,aw.then (((X7.trans x8).trans d).trans G),ax,?_⟩
    ·rw[<-av]at u;rcases List.mem_append.1 u with u|u
     ·exact o.iQ N u
     ·simp at u;omega
    ·have:=d.size;have:=G.size;omega
   ·have hd:=ay h t;rw[ae (by simp[hf])]at hd;exact aK V _ _ _ ⟨g,y,F,Q,o.ext i,V,af,aw.then i,ax,by have:=i.size;omega⟩
 ·have a:q=aA.length:=V;subst a;rw[fZ]at ah;exact⟨p,U,Y.em,ah.fG V,fz,V⟩
section
variable{m:I}
def Ge(m:I)(s:O):Prop:=s.len<=s.cap/\∀k:Nat,k<s.len->∃v:Int,0<=v/\v<=255/\D m s.F (s.off+k*1)=some (.int .u8 v)
def FE{cE:O}(h:Ge m cE):aN bY 37 [O.v cE] m λv i=>∃a,v=vp m.size 0/\Rd m.size a 0 i/\J m i:=by
 obtain⟨g,f⟩:=h;apply yz;have R:∀a:O,Ge m a->∃l,vp m.size 0=vp m.size 0/\Rd m.size l 0 (m.push (.cells (br [.s a,.i 0]) om))/\J m (m.push (.cells (br [.s a,.i 0]) om)):=λa⟨n,o⟩=>by
  refine⟨a,rfl,⟨⟨0,cB.push _ _ _,dZ _,E⟩,n,λk c=>?_⟩,J.push _ _⟩;obtain⟨v,d,e,b⟩:=o k c;have s:=lC b;exact⟨v,d,e,dP.2 ⟨bK,(J.push m _).D b⟩⟩
 refine⟨λh=>?_,λ_=>R cE ⟨g,f⟩⟩;simp only[ao]at h;refine⟨bd,bd,V,?_⟩;refine R _ ?_;cases cE with
 |nil=>simp at h
 |Bj j p q=>simp at h
 |mk j p t q=>
  simp only[O.fj,O.LD]at h g;refine⟨by simp[O.cut];omega,λk c=>?_⟩;have r:k<2000:=by simpa[O.cut]using c
  obtain⟨v,d,e,b⟩:=f k bK;exact⟨v,d,e,by simpa[O.cut]using b⟩
def H4(f:Nat)(b:List Value)(m:I)(S:List Nat)(Q:Ex->Prop):Prop:=aN bY f b m λv a=>∃s e,v=.agg #[vi e.op,vi e.bL,O.v s]/\eJ (bA S a) s e.bu/\Q e/\J m a
def ym(S:List Nat)(n:Int)(m:I):H4 278 [vi n] m S (.mk 0 n []=·):=by
 apply BW;simp -zeta only[aE,aD];intro a b d;have c:J m b:=(J.push m _).trans (J.push a _);exact⟨_,.mk 0 n [],rfl,kY _ _ _ _ _ _,rfl,c.aj (ad _) _ _⟩
def kM(S:List Nat)(n:Int)(m:I):H4 313 [vi n] m S (.mk 12 n []=·):=by
 apply AA;simp -zeta only[aE,aD];intro a b d;have c:J m b:=(J.push m _).trans (J.push a _);exact⟨_,.mk 12 n [],rfl,kY _ _ _ _ _ _,rfl,c.aj (ad _) _ _⟩
def GJ{S:List Nat}{s:O}{bu:List Ex}(h:eJ (bA S m) s bu)(a bL:Int):H4 311 [vi a,vi bL,O.v s] m S (.mk a bL bu=·):=by
 apply Hz;simp -zeta only[aE,aD];intro d c;have b:J m c:=(J.push m _).aj (ad _) _ _;exact⟨s,.mk a bL bu,rfl,h.le (b.cJ _),rfl,b⟩
def yL{a P:Nat}{b:O}(r:Rd a b P m)(x:P+4<=10000000000000000):aN bY 330 [vp a 0] m λv h=>∃k:Int,v=vi k/\Rd a b (P+4) h/\Fz [a] m h:=by
 apply Cl (a,0);refine(bO r V 6).mono λv y⟨d,e,_,_,s,n⟩=>⟨d,e,?_⟩;refine(bO s V 6).mono λv z⟨f,e,_,_,t,o⟩=>⟨f,e,?_⟩;refine(bO t V 40).mono λv i⟨g,e,_,_,c,p⟩=>⟨g,e,?_⟩;intro j;have l:J i j:=J.push _ _;have w:ar (bA [a] j) (.mk i.size 0 10 10) [d,f,0,1,2,-1,3,g,999,-998]:=ar.lit aB _ (by have:=c.lt;simpa using this) rfl rfl E;refine(jw (c.ext l) V w E).mono λv A⟨k,e,_,u,q⟩=>⟨k,e,k,rfl,u,((n.trans o).trans p).then l|>.trans q⟩
end
section
variable{m:I}
def WT(e:Ex):Prop:=∀(m:I)(t:O),eJ m t e.bu->∀left:Int,left<=600->qM 315 [.agg #[vi e.op,vi e.bL,O.v t],vi left] m λk=>k= -1\/0<=k/\k+e.n=left
def FF:∀e:Ex,WT e:=by
 refine Ex.ind ?_;intro R bL bu z m S d left N;simp only[Ex.Ta,Ex.QZ,Ex.Pj,Ex.PR]at*;apply yA;simp -zeta only[aE,aD];intro b;have g:J m b:=J.push _ _;have t:∀i∈[m.size],i<b.size:=by simp[b]
 clear_value b;have f:∀{M:I},J m M->∃a:Int,vi (-1:Int)=vi a/\(a= -1\/0<=a/\a+((1+en bu:Nat):Int)=left)/\J m M:=λG=>⟨-1,rfl,Or.inl rfl,G⟩;refine⟨λ_=>f g,λr=>?_⟩;simp only[bP]at r;have y:=d.len;rw[aP (b:=left -1) V V];refine dC (n:=bu.length) (y▸d.fL) (λa(v:Int) M=>J b M/\0<=v/\v+1+en (bu.take a)=left) ⟨J.aC _,V,E⟩ ?_;rintro a v M K μ L ⟨h,D,F⟩ A
 have u:=g.trans h;refine dit (λq=>?_) λq=>?_
 ·obtain⟨e,c⟩:=ag (l:=bu) (k:=a) V;obtain⟨B,w,j,o,p⟩:=d.u c;refine⟨V,V,_,u.D j,_,u.D o,_,u.D p,?_⟩;refine(z e (au c) M B (eJ.le u.le w) v V).aG h t λQ P O H C=>⟨_,rfl,λ_=>f (u.trans H),λs=>?_⟩;simp only[bP]at s;refine A V _ _ ⟨C,V,?_⟩
  rw[HR c];omega
 ·rw[bZ V]at F;exact⟨v,rfl,Or.inr ⟨D,V⟩,u⟩
def yB{t:O}{e:Ex}(h:eJ m t e.bu):qM 284 [.agg #[vi e.op,vi e.bL,O.v t]] m λk=>k= -1\/k=e.n/\e.n<=30:=by
 apply Cd;simp -zeta only[aE,aD];intro a;have b:J m a:=J.push _ _;have g:∀d∈[m.size],d<a.size:=by simp[a]
 clear_value a;refine(FF e a t (eJ.le b.le h) 30 bd).aG (J.aC a) g λn j i c l=>⟨_,rfl,λ_=>⟨-1,rfl,Or.inl rfl,b.trans c⟩,λf=>?_⟩;simp only[bP]at f;rw[aP (b:=30 -n) V V];exact⟨_,rfl,Or.inr ⟨V,V⟩,b.trans c⟩
def JF{s:O}{b:List Int}(h:ar m s b)(g:Int):qM 277 [O.v s,vi g] m λa=>-1<=a/\a<b.length:=by
 apply Ci;have e:=h.len;refine dO (n:=b.length) (e▸h.fL) (λ_ M=>J m M) (J.aC _) ?_;rintro a M I μ j c i
 refine⟨λd=>?_,λ_=>⟨-1,rfl,⟨V,V⟩,c⟩⟩;simp only[ao]at d;obtain⟨x,f⟩:=ag (l:=b) (k:=a) V;exact⟨V,V,x,(h.ext c).u f,λ_=>⟨a,rfl,⟨V,V⟩,c⟩,λ_=>i V _ c⟩
def Jr(f:O)(m:I):aN bY 201 [O.v f] m λv a=>v=.agg #[O.v f]/\J m a:=by
 apply Jq;simp -zeta only[aE,aD];intro b c;exact⟨trivial,(J.push m _).aj (ad _) _ _⟩
def OI(p:O)(r:Int)(m:I):aN bY 248 [O.v p,vi r] m λv a=>v=.agg #[O.v p,vi r,vi 0,vi 0,O.v .nil]/\J m a:=by
 apply JG;simp -zeta only[aE,aD];intro b c;exact⟨trivial,(J.push m _).aj (ad _) _ _⟩
end
section
variable{a:List Nat}{m:I}{b d p:O}
def Eh(t:∀c∈a,c<m.size){d:List Int}(h:ar m b d)(A:d.length<=1000000000000)(w:Int):jR 331 [O.v b,vi w] m a λc=>(∀y∈c,0<=y/\y<(d.length:Int))/\c.length<=d.length:=by
 apply wO;intro D;have u:=h.len;refine dC (n:=d.length) (u▸h.fL) (λj s M=>J m M/\∃c,GI a m M s c/\(∀y∈c,0<=y/\y<(d.length:Int))/\c.length<=j) ⟨J.push m _,[],GI.nil a m,E,ad _⟩ ?_;rintro j s M I μ B ⟨f,c,g,i,C⟩ p
 refine⟨λo=>?_,λo=>⟨s,c,rfl,g,⟨i,V⟩,f⟩⟩;simp only[ao]at o;obtain⟨x,v⟩:=ag (l:=d) (k:=j) V;refine⟨V,V,x,(h.ext f).u v,λ_=>?_,λ_=>p V _ _ ⟨f,c,g,i,V⟩⟩;intro F;exact GI.jK g (f.fz []) t V λG z r q _ _=>p V _ _ ⟨q.ext,_,r,λy e=>by
  rcases List.mem_append.1 e with e|e
  ·exact i y e
  ·simp at e;omega,bK⟩
def Qm(m:I)(b:List Ce)(p:cY):Prop:=∃a x y z,b=[.s a,.i p.aR,.i x,.i y,.s z]/\ar m a p.params
abbrev nG(m:I)(s:O)(l:List cY):Prop:=dW m 5 (Qm m) s l
def Qm.le{m b:I}(h:Le m b){a:List Ce}{p:cY}:Qm m a p->Qm b a p:=λ⟨c,x,y,z,d,e⟩=>⟨c,x,y,z,d,e.le h⟩
def nG.le{m b:I}(a:Le m b){s:O}{l:List cY}(h:nG m s l):nG b s l:=dW.le h a λ_ _=>Qm.le a
def nG.u{s:O}{l:List cY}(h:nG m s l){k:Nat}{p:cY}(d:l[k]? =some p):∃a,ar m a p.params/\D m s.F (s.off+k*5)=some (O.v a)/\D m s.F (s.off+k*5+1)=some (vi p.aR):=by
 obtain⟨e,⟨a,x,y,z,rfl,c⟩,b⟩:=h.je k p d;exact⟨a,c,b 0 _ rfl,b 1 _ rfl⟩
def XS(a:List bq)(b:List cY)(t y:Int):Prop:=∃(f:Nat)(q:cY),y=f/\b[f]? =some q/\0<q.params.length/\(0<t->∃d∈a,d.cons.length=0/\q.params.getLast?=some d.rR/\q.aR=d.to)
def vE(hS:∀g∈a,g<m.size){h:List bq}{e:List cY}(hd:bR m d h)(ht:dv h)(r:nG m p e)(hf:e.length<=1000)(z:Int):jR 337 [.agg #[O.v d,O.v p],vi z] m a λb=>(∀y∈b,XS h e z y)/\b.length<=e.length:=by
 apply zO;simp -zeta only[aE,aD];intro c s;have B:J m c:=J.push _ _;have K:∀g∈[m.size],g<c.size:=by simp[c]
 have U:GI a c s (.mk c.size 0 0 0) []:=GI.nil a c;have x2:J c s:=J.push _ _;clear_value s;clear_value c;have ab:=r.len;refine dC (n:=e.length) (ab▸r.fL) (λo w M=>J c M/\∃b,GI a c M w b/\(∀y∈b,XS h e z y)/\b.length<=o) ⟨x2,[],U,E,ad _⟩ ?_;rintro o w M ae μ hk ⟨C,b,i,j,ah⟩ t
 have u:=B.trans C;refine⟨λI=>?_,λI=>⟨w,b,rfl,i.cG (λ_ H=>H) B.size,⟨j,V⟩,u⟩⟩;simp only[ao]at I;obtain⟨v,N⟩:=ag (l:=e) (k:=o) V;obtain⟨D,q,F,S⟩:=r.u N;have af:=q.len;have ai:=q.fL;refine⟨V,V,_,u.D F,λW=>?_,λ_=>t V _ _ ⟨C,b,i,j,V⟩⟩;simp only[ao]at W;rw[aP (b:=(D.len:Int) -1) V V];obtain⟨y,P⟩:=ag (l:=v.params) (k:=((D.len:Int) -1).toNat) V;refine⟨V,V,_,u.D F,V,V,y,(q.ext u).u P,V,V,_,u.D S,?_⟩;refine(xO (hd.le u.le) ht y v.aR).aG C K λak m3 L Q A=>⟨_,rfl,λaa=>?_,λ_=>t V _ _ ⟨A,b,i.ext Q,j,V⟩⟩;intro m4;refine GI.jK (i.ext Q) (A.fz []) (λg f=>B.lt (hS g f)) V λal M' T G _ _=>⟨J.mU (A.aM _) G.ext K,t V _ _ ⟨G.ext,_,T,λac f=>?_,bK⟩⟩;rcases List.mem_append.1 f with f|f
 ·exact j ac f
 ·simp at f aa;refine⟨o,v,f,N,V,λH=>?_⟩;rcases L with L|⟨aj,R,_,he,X,Y,Z⟩
  ·omega
  ·refine⟨R,au he,X,?_,Z.symm⟩;rw[List.getLast?_eq_getElem?,Y,<-P];congr 1;omega
def nZ{i:List bq}{j:List cY}{v:List Int}(k:bR m d i)(l:dv i)(r:nG m p j)(q:j.length<=1000)(s:ar m b v)(t:Int):ng 332 [.agg #[O.v d,O.v p],O.v b,vi t] m:=by
 apply BK;simp -zeta only[aE,aD];intro a;have f:J m a:=J.push _ _;have e:∀o∈[m.size],o<a.size:=by simp[a]
 clear_value a;refine(lH (k.le f.le) l t).any.aG (J.aC a) e λn y g _=>⟨_,rfl,λ_=>rA (f.trans g),λ_=>?_⟩;have c:=f.trans g;refine(vE (a:=[]) E (k.le c.le) l (nG.le c.le r) q t).aG g e λB x z _ _ h u=>⟨_,rfl,λ_=>rA (c.trans h),λ_=>?_⟩;exact(cU (s.ext (c.trans h)) t).any.aG u e λn A w _=>⟨_,rfl,rA ((c.trans h).trans w)⟩
end
def Jo{a P:Nat}{p:O}{m:I}(h:Rd a p P m)(S:P+1<=10000000000000000){q w y:O}{i:List bq}{r:List cY}{N:List Int}(s:bR (bA [a] m) q i)(K:dv i)(H:nG (bA [a] m) w r)(C:r.length<=1000)(L:ar (bA [a] m) y N):
 aN bY 325 [vp a 0,.agg #[O.v q,O.v w],O.v y] m λx v=>∃k:Int,x=vi k/\(k=1\/0<=k/\k<=4/\k<=i.length)/\Rd a p (P+1) v/\Fz [a] m v:=by
 apply BH (a,0)
 simp -zeta only[aE,aD]
 intro b d
 have X:b.size=m.size+1:=by simp[b]
 have Q:J m b:=J.push _ _
 have z:J b d:=J.push _ _
 have A:J m d:=Q.trans z
 have U:=h.lt
 have u:∀c∈[m.size],c<d.size/\c∉[a]:=λc n=>by have:=z.size;simp at n⊢;omega
 have M:ar (bA [a] d) (.mk b.size 0 7 7) [1,1,3,0,2,4,3]:=ar.lit aB _ bK rfl rfl E
 clear_value d
 have T:=s.len
 refine(jw (h.ext A) V M E).mono λx f⟨k,B,D,l,j⟩=>⟨j.da u,k,B,?_⟩
 have e:Fz [a] m f:=(A.fz _).trans j
 have t:0<=k/\k<=4:=by simp at D;omega
 refine⟨λ_=>⟨1,rfl,Or.inl rfl,l,e⟩,λG=>?_⟩
 simp only[bP]at G
 have o:Le (bA [a] m) f:=(e.cJ λ_ h=>h).trans (bt _ _)
 have F:∀c∈[m.size],c<f.size:=λc n=>aJ (u c n).1 j.size
 refine(nZ (s.le o) K (nG.le o H) C (L.le o) k).aG (J.aC f) F λR W g _=>⟨_,rfl,λ_=>⟨1,rfl,Or.inl rfl,l.ext g,e.then g⟩,λ_=>⟨k,rfl,Or.inr ⟨t.1,t.2,V⟩,l.ext g,e.then g⟩⟩

section
variable{t:Int}{x:Ex}
def Ig:List bq:=[⟨0,0,[[],[0,1]]⟩,⟨0,0,[]⟩,⟨0,0,[[],[3,0,3]]⟩]
def Pk:List bq:=[⟨0,0,[[1,3]]⟩,⟨1,0,[]⟩,⟨0,0,[[1,1,0],[0],[3]]⟩,⟨0,1,[]⟩]
def pN:List (List bq):=Ig::Pk.map λd=>Ig++[d]
def MM:List (List Int×Int):=[([],0),([1],0),([1,1],1),([1],1),([1,0],1),([2,1],1),([1,1],0),([3],0),([0],1),([0,1],1),([3,0],3),([3],1),([1,3,0],0),([0],0),([0,0],0),([1,0],0)]
structure GP(ds:List bq)(fs:List cY):Prop where
 ds:ds∈pN
 gR:0<fs.length
 mN:fs.length<=4
 df:∀q∈fs,(q.params,q.aR)∈MM
def Lo(t:Int):Prop:=t=0\/t=1\/t=3
instance(t:Int):Decidable (Lo t):=inferInstanceAs (Decidable (_\/_))
def Ty(a:List bq)(t:Int):Prop:=0<=t/\t<=(a.length:Int)
instance(a:List bq)(t:Int):Decidable (Ty a t):=inferInstanceAs (Decidable (_/\_))
section
variable{a:List bq}{b:List cY}
def nI:∀a∈pN,3<=a.length/\a.length<=4:=bd
def NW:∀a∈pN,∀t∈[(0:Int),1,2,3,4],∀c∈(bU a t).take 2,((bU a t).head?=some c\/t∉bT a c)->(bT a c).length<=3/\(∀f∈bT a c,Lo f)/\(Lo t->(bT a c).length=0):=bd
def OS:∀a∈pN,0<(bU a 1).length/\0<(bU a 3).length/\(bU a 0).length=0:=bd
def NU:∀a∈pN,∀d∈a,d.cons.length=0->∀s∈MM,s.1.getLast?=some d.rR->s.2=d.to->∀f∈s.1.dropLast,Lo f:=bd
def KC:∀a∈pN,bU a 1=[0,1]/\bU a 3=[2,3]/\bT a 0=[]/\bT a 1=[0,1]/\bT a 2=[]/\bT a 3=[3,0,3]:=bd
def wW:∀a∈pN,(∀t∈[(0:Int),1,2,3,4],∀c∈bU a t,(bT a c).length<=3/\∀f∈bT a c,Ty a f)/\(∀t∈[(0:Int),1,2,3,4],(bU a t).length<=3)/\(∀d∈a,Ty a d.rR):=bd
def NV:∀a∈pN,∀t∈[(1:Int),3,4],(t:Int)<=a.length->(∀d∈a[t.toNat -1]?,d.cons.length≠0)->0<(bU a t).length:=bd
def uB:∀s∈MM,s.1.length<=3/\(∀t∈s.1,0<=t/\t<=3)/\0<=s.2/\s.2<=3:=bd
def RY(a:0<=t)(b:t<=4):t∈[(0:Int),1,2,3,4]:=bK
def Ty.Vv(b:a∈pN)(h:Ty a t):t∈[(0:Int),1,2,3,4]:=RY h.1 (by have:=nI a b;have:=h.2;omega)
def GP.ty(h:GP a b)(c:0<=t)(d:t<=3):Ty a t:=⟨c,by have:=nI a h.ds;omega⟩
def Lo.ty(b:a∈pN)(h:Lo t):Ty a t:=by have:=nI a b;unfold Lo at h;constructor<;>omega
end
def Qo:∀a∈pN,∀d∈a,0<d.cons.length->d.cons.length<=3/\d.rR=0/\d.to=0/\∀f∈d.cons,f.length<=3/\∀t∈f,0<=t/\t<=(a.length:Int):=bd
def Qp:∀a∈pN,∀k∈List.range a.length,∀d∈a[k]?,d.cons.length=0->(∀e∈a.take k,¬(e.cons.length=0/\e.rR=d.rR/\e.to=d.to))/\Ty a d.rR/\Ty a d.to:=bd
def qP{a:List bq}(h:a∈pN):dv a:=
 ⟨(nI a h).2,λk d b=>⟨Qo a h d (au b),Qp a h k (List.mem_range.2 (ax b)) d b⟩⟩
structure XF(ds:List bq)(nf a:Nat)(op bL:Int)(n:Nat):Prop where
 o:0<=op/\op<=13
 Rg:op=12->0<=bL/\bL<(a:Int)
 HO:op=13->n=2
 Wh:op=7->n=3
 all:op=8->n=1+(bU ds bL).length/\0<(bU ds bL).length
 call:op=9->0<=bL/\bL<(nf:Int)
def xb(b:List bq)(a bL:Int):Nat->Nat
 |0=>0
 |i+1=>if a=13 then 1 else ze b a bL i
inductive WX(ds:List bq)(nf:Nat):Nat->Ex->Prop
 |mk {a:Nat} {op bL:Int} {bu:List Ex} (dY:XF ds nf a op bL bu.length) (hk:∀(i:Nat)(e:Ex),bu[i]? =some e->WX ds nf (a+xb ds op bL i) e):WX ds nf a (.mk op bL bu)
section
variable{b:List bq}{c a:Nat}{d bL:Int}{bu:List Ex}
def WX.bo{e:Ex}(h:WX b c a e):XF b c a e.op e.bL e.bu.length/\∀(i:Nat)(x:Ex),e.bu[i]? =some x->WX b c (a+xb b e.op e.bL i) x:=by
 cases h with
 |mk dY d=>exact⟨dY,d⟩
def Wl(a:d≠13)(c:d≠8)(i:Nat):xb b d bL i=0:=by
 cases i with
 |zero=>rfl
 |succ i=>show(if d=13 then 1 else ze b d bL i)=0;rw[ae a,Ii c]
def WX.dY(k:0<=d/\d<=11)(g:d=7->bu.length=3)(f:d≠8)(i:d=9->0<=bL/\bL<(c:Int))(j:∀e∈bu,WX b c a e):WX b c a (.mk d bL bu):=
 .mk ⟨⟨V,V⟩,λh=>V,λh=>V,g,λh=>absurd h f,i⟩ λl e h=>by rw[Wl V f];exact j e (au h)
def WX.int(n:Int):WX b c a (.mk 0 n []):=.dY bd (λh=>V) bd (λh=>V) E
def WX.Rg(h:0<=bL/\bL<(a:Int)):WX b c a (.mk 12 bL []):=.mk ⟨bd,λ_=>h,λh=>V,λh=>V,λh=>V,λh=>V⟩ E
def WX.lt{y:Ex}(e:WX b c a x)(f:WX b c (a+1) y):WX b c a (.mk 13 0 [x,y]):=
 .mk ⟨bd,λh=>V,λ_=>rfl,λh=>V,λh=>V,λh=>V⟩ λi g d=>by
  rcases i with _|_|i
  ·simp at d;subst d;exact e
  ·simp at d;subst d;exact f
  ·simp at d
def WX.mt{g:List Ex}(m:WX b c a x)(o:g.length=(bU b bL).length)(n:0<g.length)(j:∀(i:Nat)(e:Ex)(f:Int),g[i]? =some e->(bU b bL)[i]? =some f->WX b c (a+(bT b f).length) e):WX b c a (.mk 8 bL (x::g)):=
 .mk ⟨bd,λh=>V,λh=>V,λh=>V,λ_=>⟨bK,V⟩,λh=>V⟩ λi e d=>by
  rcases i with _|i
  ·simp at d;subst d;exact m
  ·simp at d;obtain⟨f,h⟩:=ag (l:=bU b bL) (k:=i) (by have:=ax d;omega);have:=j i e f d h;show WX b c (a+ze b 8 bL i) e;rw[Ih rfl h];exact this
end
end
section
variable{X:List Nat}{b k c:Nat}{s:O}
structure GC(rb:Nat)(bs:O)(P:Nat)(d p:O)(ds:List bq)(fs:List cY)(m:I):Prop where
 rd:Rd rb bs P m
 hd:bR (bA [rb] m) d ds
 hp:nG (bA [rb] m) p fs
 gp:GP ds fs
def Lw(a:Nat)(L:List Nat)(m:I):Prop:=∀b∈L,b<m.size/\b≠a
def XP(S:List Nat)(b:Nat)(c:O)(m:I)(P:Nat)(Q:Ex->Prop)(v:Value)(a:I):Prop:=∃s e,v=.agg #[vi e.op,vi e.bL,O.v s]/\eJ (bA S a) s e.bu/\Q e/\Rd b c P a/\Fz [b] m a
abbrev IR(a:Nat)(m:I)(s:O)(l:List Int):Prop:=ar (bA [a] m) s l
section
variable{e P i:Nat}{h d p:O}{l:List bq}{n:List cY}{m M g:I}{S L:List Nat}{f:Nat}{j:List Value}{Q Q':Ex->Prop}
def fh(f:Fz [e] m M):Le (bA [e] m) (bA [e] M):=f.cJ λ_ h=>h
def GC.to(a:GC e h P d p l n m)(f:Fz [e] m M)(r:Rd e h i M):GC e h i d p l n M:=⟨r,a.hd.le (fh f),nG.le (fh f) a.hp,a.gp⟩
def GC.ext(a:GC e h P d p l n m)(x:J m M):GC e h P d p l n M:=a.to (x.fz _) (a.rd.ext x)
def GC.types(a:GC e h P d p l n m):dv l:=qP a.gp.ds
def Lw.fz(h:Lw e L m)(f:Fz X m M):Lw e L M:=λb a=>⟨aJ (h b a).1 f.size,(h b a).2⟩
def Lw.lt(h:Lw e L m)(f:Fz X m M):∀b∈L,b<M.size:=λb a=>(h.fz f b a).1
def Lw.da(h:Lw e L m)(f:Fz [e] m M):dV L m M:=f.da λb a=>⟨(h b a).1,by have:=(h b a).2;simpa using this⟩
def Lw.cy(h:Lw e L m)(f:Fz [e] m M)(c:Fz [e] M g)(a:b∈L)(o:Nat):D g b o=D M b o:=aI (c.same b (h.fz f b a).1 (by have:=(h b a).2;simpa using this)) o
def XP.mono{P i:Nat}(k:∀a,Q a->Q' a)(j:P<=i){v:Value}:XP S e h m P Q v M->XP S e h m i Q' v M:=λ⟨s,a,b,c,d,f,g⟩=>⟨s,a,b,c,k a d,f.mono j,g⟩
def XP.then{K:Value->I->Prop}(c:aN bY f j M (XP S e h M P Q))(m:Lw e L M)(n:∀s a g,eJ (bA S g) s a.bu->Q a->Rd e h P g->Fz [e] M g->K (.agg #[vi a.op,vi a.bL,O.v s]) g):aN bY f j M λv g=>dV L M g/\K v g:=
 c.mono λv g⟨s,a,d,i,k,l,b⟩=>⟨m.da b,d▸n s a g i k l b⟩
def Lw.zE(h:Lw e L m)(f:Fz [e] m M)(a:Fz [e] m g):dV L M g:=λb c=>by
 have:=h b c;rw[f.same b this.1 (by simpa using this.2),a.same b this.1 (by simpa using this.2)]
def XP.ret{p:Nat}(q:aN bY f j M (XP (b::S) e h M P Q))(t:Lw e L M)(o:Fz [e] m M)(r:Rd e h p m)(n:m.size<=b)(v:∀a,Q a->Q' a)(u:P<=i):
 aN bY f j M λA g=>dV L M g/\∃c d:Int,∃k:O,A=.agg #[vi c,vi d,O.v k]/\XP S e h m i Q' (.agg #[vi c,vi d,O.v k]) (aj g b 0 [.i c,.i d,.s k]):=
 XP.then q t λs a g z y w l=>⟨_,_,_,rfl,s,a,rfl,eJ.le (bS E λB x=>ai _ x) z,v a y,r.aj (w.mono u) (o.trans l) n 0 _,(o.trans l).aj (Or.inr n) _ _⟩
abbrev GE(S:List Nat)(a m:I)(s:O)(l:List Ex):Prop:=Gr S a m bz 3 zd s l
def XP.jK{B:Nat}{i:I}{s:O}{n:List Ex}{K:O->I->Prop}(D:aN bY f j M (XP (s.F::S) e h M P Q))(t:GE S i M s n)(z:Fz [e] i M)(w:Lw e L i)(u:Rd e h B i)(G:e∈S)(l:n.length<=1000)
 (E:∀c r g,Q c->GE S i g r (n++[c])->Rd e h P g->Fz [e] i g->Fz [e,s.F] M g->(r.F=s.F\/M.size<=r.F)->K r g):
 aN bY f j M λN k=>dV L M k/\∃o p:Int,∃q:O,N=.agg #[vi o,vi p,O.v q]/\
  iS (k.push (.cells (br [.i o,.i p,.s q]) bz)) bz [.i 0,.i 0,.s .nil] 40 s (O.mk k.size 0 1 1) λr g=>dV L (k.push (.cells (br [.i o,.i p,.s q]) bz)) g/\K r g:=
 XP.then D (w.fz z) λU c k J F x d=>⟨_,_,_,rfl,by
  have T:=t.aY;have H:=u.lt;have v:=z.trans d;refine Gr.jK (g:=[.i 0,.i 0,.s .nil]) (k:=c) zd.mono bd (t.fu zd.mono d (by simp;exact⟨G,H⟩)) v (by cases c;exact zd.of J) V λr g C m R A=>⟨w.zE (v.push _) m,E c r g F C (u.J6 x m (A e x.lt V)) m ⟨bJ d.size R.1,λb y l=>?_⟩ (by have:=d.size;omega)⟩;simp only[aS,jo,zc,tA]at l;rw[A b (aJ y d.size) l.2,d.same b y (by simpa using l.1)]⟩
def Vy{b:I}(h:Fz [e,k] b M)(d:s.F=k\/b.size<=s.F)(a:Fz [e,s.F] M g):Fz [e,k] b g:=
 h.pZ a λy c=>by simp at c⊢;omega
end
def lI{S:List Nat}{d P:Nat}{b:O}{m:I}{bu:List Ex}(j:Rd d b P m)(h:eJ (bA S m) s bu)(a bL:Int):aN bY 311 [vi a,vi bL,O.v s] m (XP S d b m P (.mk a bL bu=·)):=
 (GJ h a bL).mono λv l⟨k,e,f,g,i,c⟩=>⟨k,e,f,g,i,j.ext c,c.fz _⟩
def UG(b:List bq)(d:List cY)(c:Nat)(e:Ex):Prop:=(∀a,WX b d.length a e)/\e.n<=c
def Uf(c k:Nat)(e:List bq)(f:List cY)(t:Int):Prop:=∀(S:List Nat)(a P:Nat)(b d p:O)(m:I),(∀g∈S,g<m.size)->a∈S->GC a b P d p e f m->P+k<=10000000000000000->
 aN bY 333 [vp a 0,.agg #[O.v d,O.v p],vi t] m (XP S a b m (P+k) (UG e f c))
def Pu{a:List bq}{b:List cY}{l:List Ex}{f i:Int}(m:f=6\/f=10)(h:∀e∈l,UG a b 1 e)(k:l.length+1<=c):UG a b c (.mk f i l):=
 ⟨λg=>.dY V (λh=>V) V (λh=>V) λe d=>(h e d).1 g,by
  rw[Ex.PR];have:∀l:List Ex,(∀e∈l,UG a b 1 e)->en l<=l.length:=λl=>by
   induction l with
   |nil=>simp
   |cons x l j=>intro h;rw[LH,bg];have:=(h x E).2;have:=j λe d=>h e (by simp[d]);omega
  have:=this l h;omega⟩
def GH{d:List bq}{fs:List cY}{t:Int}(ht:Ty d t)(G:(Lo t/\c=1/\k=5)\/((∀a,Lo a->Uf 1 5 d fs a)/\c=4/\k=20)):Uf c k d fs t:=by
 intro u f C L ar az an hS ab a hP;apply Aw (f,0);simp -zeta only[aE,aD];intro o ac;obtain⟨x2,hl⟩:=di (a:=o) (c:=ac) rfl rfl;have s1:o.size=an.size+1:=by simp[o]
 clear_value ac;have hr:=a.rd.lt;have L2:Lw f [o.size,an.size] ac:=λb O=>⟨hl b O,by simp at O;omega⟩;have aa:=a.types;have h5:=Ty.Vv a.gp.ds ht;have ah:∀e∈o.size::u,e<ac.size:=bG hS x2.size (hl _ E);have c2:=a.ext x2;refine(fR (e:=[f]) (by simp;exact c2.rd.lt) (c2.hd.le (bt _ _)) aa t).mono λB m3⟨cs,m,e,hc,q,K⟩=>⟨L2.da (K.fz _),cs,e,?_⟩;subst q;have v:=c2.ext K;have R:=L2.fz (K.fz []);have u3:=x2.trans K;have aO:=hc.len;refine dit (λh0=>?_) λh0=>?_
 ·obtain⟨y0,al⟩:=ag (l:=bU d t) (k:=0) V;have hh:(bU d t).head?=some y0:=by rw[List.head?_eq_getElem?];exact al
  have Q:y0∈(bU d t).take 2:=List.mem_take_iff_getElem.2 ⟨0,V,by have:=List.getElem?_eq_some_iff.1 al;exact this.2⟩;have A0:∀{M:I},Fz [f] m3 M->D M cs.F (cs.off+Int.toNat 0*1)=some (vi y0):=λX=>(dP.1 ((hc.le (fh X)).u al)).2;refine⟨bd,V,y0,A0 (Fz.aC _ _),λa M=>a∈(bU d t).take 2/\Rd f L (C+1) M/\Fz [f] m3 M,⟨λN=>?_,λN=>⟨Q,v.rd.mono V,Fz.aC _ _⟩⟩,?_⟩
  ·simp only[ao]at N;obtain⟨p,i⟩:=ag (l:=bU d t) (k:=1) V;have r:p∈(bU d t).take 2:=List.mem_take_iff_getElem.2 ⟨1,V,by have:=List.getElem?_eq_some_iff.1 i;exact this.2⟩;refine(bO v.rd V 4).mono λB m4⟨H,e,_,_,j,g⟩=>⟨R.da g,H,e,λh=>⟨bd,V,p,(dP.1 ((hc.le (fh g)).u i)).2,r,j,g⟩,λh=>⟨Q,j,g⟩⟩
  rintro c' w ⟨aC,x,i⟩;have W:=v.to i x;have T:=R.fz i;refine⟨λa M=>a∈(bU d t).take 2/\((bU d t).head?=some a\/t∉bT d a)/\Rd f L (C+1) M/\Fz [f] m3 M,?_,?_⟩
  ·refine(dk (e:=[]) E (W.hd.le ((bt _ _).trans (xB _))) aa c').mono λB m6⟨X,m,e,hf,q,z⟩=>⟨T.da (z.fz _),X,e,?_⟩;subst q;refine(cU (hf.le (bt _ _)) t).mono λB p⟨b,e,O,g⟩=>⟨(T.fz (z.fz [])).da (g.fz _),b,e,λaw=>?_,λai=>?_⟩
   ·have F:=(i.then z).then g;exact⟨bd,V,y0,A0 F,Q,Or.inl hh,(x.ext z).ext g,F⟩
   ·exact⟨aC,Or.inr λj=>by rw[O.2 j]at ai;exact absurd ai bd,(x.ext z).ext g,(i.then z).then g⟩
  rintro U r ⟨N,h2,r8,f8⟩;obtain⟨z3,aG,zz⟩:=NW d a.gp.ds t h5 U N h2;have c8:=v.to f8 r8;have L8:=R.fz f8;have F8:Fz [f] an r:=(u3.fz _).trans f8;have z8:=f8.size;have aI:=K.size;have z2:=x2.size;intro Z;have x9:J r Z:=J.push _ _;have g9:GE (o.size::u) r Z (.mk r.size 0 0 0) []:=Gr.new _ (ad _) _ _ _;have s9:Z.size=r.size+1:=by simp[Z]
  clear_value Z;have L9:=L8.fz (x9.fz []);refine(dk (e:=[f,r.size]) bK (c8.hd.le (x9.bA E)) aa U).mono λB ay⟨X,m,e,hf,q,ae⟩=>⟨L9.da (ae.fz _),X,e,?_⟩;subst q;have aF:=hf.len;refine dC (n:=(bT d U).length) V (λj s M=>∃m,GE (o.size::u) r M s m/\m.length=j/\(∀e∈m,UG d fs 1 e)/\Rd f L (C+1+5*j) M/\Fz [f] r M/\Fz [f,r.size] ay M/\(s.F=r.size\/ay.size<=s.F)) ⟨[],g9.ext zd.mono ae,rfl,E,(r8.ext x9).ext ae,((x9.trans ae).fz _),Fz.aC _ _,Or.inl rfl⟩ ?_;rintro j s M aA μ hj ⟨m,F,aH,Y,rM,p,af,hs⟩ ap
  have LM:=L8.fz p;refine dit (λh=>?_) λh=>?_
  ·rcases G with⟨ak,_,_⟩|⟨ih,e1,e2⟩
   ·have:=zz ak;omega
   obtain⟨y,A⟩:=ag (l:=bT d U) (k:=j) V;have am:=F.aY;refine⟨V,V,y,(dP.1 ((hf.le (af.cJ λ_ h=>h)).u A)).2,?_⟩;exact XP.jK (ih y (aG y (au A)) (s.F::o.size::u) f (C+1+5*j) L ar az M (bG (λe g=>by have:=ah e g;have:=p.size;have:=K.size;omega) (ad _) am.2) (by simp[ab]) (c8.to p rM) V) F p L8 r8 (by simp[ab]) V λe aN M' g g' r' f' av aK=>
    ap V _ _ ⟨_,g',bK,λe' aj=>by rcases List.mem_append.1 aj with h|h;exact Y e' h;simp at h;subst h;exact g,r'.mono V,f',Vy af hs av,by have:=af.size;omega⟩
  ·have aB:∀e∈o.size::u,e<r.size:=λe g=>by have:=ah e g;omega
   exact XP.ret (lI rM (F.done zd.mono aB bd V) 6 U) LM (F8.trans p) a.rd V (λe g=>g▸Pu (Or.inl rfl) Y (by rcases G with⟨h,e,_⟩|⟨_,e,_⟩;have:=zz h;omega;omega)) (by rcases G with⟨h,_,e⟩|⟨_,_,e⟩;have:=zz h;omega;omega)
 ·refine(vE (a:=[f]) (by simp;exact v.rd.lt) (v.hd.le (bt _ _)) aa (nG.le (bt _ _) v.hp) (by have:=a.gp.mN;omega) t).mono λB m4⟨X,m,e,gl,Y,r⟩=>⟨R.da (r.fz _),X,e,?_⟩;have af:IR f m4 X m:=GI.done gl (by simp;exact v.rd.lt) (by have:=Y.2;have:=a.gp.mN;omega);have aR:=af.len;have c4:=v.ext r;have U:=R.fz (r.fz []);have u4:=u3.trans r;have z4:=r.size;have z3:=K.size;refine⟨λb M=>(b=true->0<t/\0<X.len)/\M=m4,⟨λh=>⟨λZ=>by simp only[ao]at h Z;omega,rfl⟩,λh=>⟨E,rfl⟩⟩,?_⟩;rintro b _ ⟨O,rfl⟩;refine⟨λaw=>?_,λai=>?_⟩
  ·obtain⟨Q,aQ⟩:=O aw;refine(bO c4.rd V X.len).mono λB w⟨H,e,k0,k2,x,i⟩=>⟨U.da i,H,e,k0,V,?_⟩;obtain⟨y,A⟩:=ag (l:=m) (k:=H.toNat) V;obtain⟨fi,q,rfl,Z,aU,aJ⟩:=Y.1 y (au A);obtain⟨dd,aC,aB,aG,aL⟩:=aJ Q;have ak:=NU d a.gp.ds dd aC aB _ (a.gp.df q (au Z)) aG aL;have aV:q.params.length<=3:=(uB _ (a.gp.df q (au Z))).1;have W:=c4.to i x;have T:=U.fz i;obtain⟨ps,al,e0,e1⟩:=W.hp.u Z;have aS:=al.len;have aF:=ax Z;have aT:=W.hp.len;refine⟨_,(dP.1 ((af.le (fh i)).u A)).2,V,V,ps,(dP.1 e0).2,?_⟩;intro m6;have z:J w m6:=J.push _ _;have g6:GE (o.size::u) w m6 (.mk w.size 0 0 0) []:=Gr.new _ (ad _) _ _ _;clear_value m6;have z5:=i.size;have ae:∀e∈o.size::u,e<w.size:=λe g=>by have:=ah e g;omega
   have aW:¬Lo t\/(Lo t/\0<t):=by by_cases h:Lo t;exact Or.inr ⟨h,Q⟩;exact Or.inl h
   have hd:=OS d a.gp.ds;rcases G with⟨aI,_,_⟩|⟨ih,e2,e3⟩
   ·exfalso;rcases aI with h|h|h
    ·omega
    ·subst h;omega
    ·subst h;omega
   refine dC (n:=q.params.length -1) V (λj s M=>∃m,GE (o.size::u) w M s m/\m.length=j/\(∀e∈m,UG d fs 1 e)/\Rd f L (C+1+5*j) M/\Fz [f] w M) ⟨[],g6,rfl,E,x.ext z,z.fz _⟩ ?_;rintro j s M aA μ hj ⟨l',F,aH,ay,rM,p⟩ ap
   have ew:cK ((j:Int)+1)=j+1:=aP V V;refine⟨λh=>?_,λh=>?_⟩
   ·simp only[ew,ao]at h;obtain⟨y,A⟩:=ag (l:=q.params) (k:=j) V;have am:=F.aY;have aM:y∈q.params.dropLast:=List.mem_iff_getElem?.2 ⟨j,by rw[List.getElem?_dropLast,aq V];exact A⟩;refine⟨V,V,y,(dP.1 ((al.le (fh p)).u A)).2,?_⟩;exact XP.jK (ih y (ak y aM) (s.F::o.size::u) f (C+1+5*j) L ar az M (bG (λe g=>by have:=ae e g;have:=p.size;omega) (ad _) am.2) (by simp[ab]) (W.to p rM) V) F p T x (by simp[ab]) V λe aN M' g g' r' f' av aK=>
     ap V _ _ ⟨_,g',bK,λe' aj=>by rcases List.mem_append.1 aj with h|h;exact ay e' h;simp at h;subst h;exact g,r'.mono V,f'⟩
   ·simp only[ew,bP]at h;exact XP.ret (lI rM (F.done zd.mono ae bd V) 10 _) (T.fz p) (((u4.fz _).trans i).trans p) a.rd V (λe g=>g▸Pu (Or.inr rfl) ay V) V
  ·refine(yL c4.rd (by rcases G with⟨_,_,e⟩|⟨_,_,e⟩<;>omega)).mono λB w⟨H,e,x,i⟩=>⟨U.da i,H,e,?_⟩;exact XP.ret (P:=C+4) ((ym (o.size::u) H w).mono λB y⟨p,e,N,h2,j,h⟩=>⟨p,e,N,h2,j,x.ext h,h.fz _⟩) (U.fz i) ((u4.fz _).trans i) a.rd V (λe g=>g▸⟨λh=>.int _,by rw[Ex.PR];rcases G with⟨_,e,_⟩|⟨_,e,_⟩<;>simp[e]⟩) (by rcases G with⟨_,_,e⟩|⟨_,_,e⟩<;>omega)
end
section
variable{a:Nat}{t:Int}
def _root_.Go.Vc.Of{σ:Type}(p:a<=9223372036854775807)(f:1<=a){m:I}{j:σ}{h:(σ->Int->I->Prop)->(σ->Int->I->Nat)->σ->Int->I->Prop}(Q:Nat->σ->I->Prop)(n:Q 1 j m)
 (l:∀(k:Nat)(s:σ)(b:I)(c:σ->Int->I->Prop)(μ:σ->Int->I->Nat),1<=k->k<=a->Q k s b->
  (k<a->∀e d,Q (k+1) e d->c e (cK ((k:Int)+1)) d/\μ e (cK ((k:Int)+1)) d<μ s k b)->h c μ s k b):
 ∃(c:σ->Int->I->Prop)(μ:σ->Int->I->Nat),c j 1 m/\∀s i b,c s i b->h c μ s i b:=by
 refine⟨λs i d=>∃k:Nat,i=k/\1<=k/\k<=a/\Q k s d,λ_ i _=>(a -i).toNat,⟨1,rfl,ad _,f,n⟩,?_⟩
 rintro s i b ⟨k,rfl,f,o,q⟩
 refine l k s b _ _ f o q λg e d r=>?_
 rw[jJ g p]
 exact⟨⟨k+1,rfl,V,g,r⟩,AM g⟩
def _root_.Go.Vc.Vw(n:a<=9223372036854775807)(e:1<=a){m:I}{g:(Int->I->Prop)->(Int->I->Nat)->Int->I->Prop}(Q:Nat->I->Prop)(j:Q 1 m)
 (h:∀(k:Nat)(b:I)(c:Int->I->Prop)(μ:Int->I->Nat),1<=k->k<=a->Q k b->
  (k<a->∀d,Q (k+1) d->c (cK ((k:Int)+1)) d/\μ (cK ((k:Int)+1)) d<μ k b)->g c μ k b):
 ∃(c:Int->I->Prop)(μ:Int->I->Nat),c 1 m/\∀i b,c i b->g c μ i b:=by
 refine⟨λi d=>∃k:Nat,i=k/\1<=k/\k<=a/\Q k d,λi _=>(a -i).toNat,⟨1,rfl,ad _,e,j⟩,?_⟩
 rintro i b ⟨k,rfl,e,l,o⟩
 refine h k b _ _ e l o λf d p=>?_
 rw[jJ f n]
 exact⟨⟨k+1,rfl,V,f,p⟩,AM f⟩
def HK{a:List bq}{b:List cY}(c:a∈pN)(d:Ty a t):Uf 4 20 a b t:=GH d (Or.inr ⟨λ_ h=>GH (h.ty c) (Or.inl ⟨h,rfl,rfl⟩),rfl,rfl⟩)
def H4.x{f:Nat}{a:List Value}{S:List Nat}{d P:Nat}{b:O}{m:I}{Q:Ex->Prop}(h:H4 f a m S Q)(k:Rd d b P m):aN bY f a m (XP S d b m P Q):=
 h.mono λv n⟨l,e,g,i,j,c⟩=>⟨l,e,g,i,j,k.ext c,c.fz _⟩
section
variable{f:List Nat}{c P:Nat}{h d p j:O}{g:List bq}{e:List cY}{b:I}{i:List Int}
def pG(hS:∀r∈f,r<b.size)(ah:c∈f)(r:GC c h P d p g e b)(hP:P+22<=10000000000000000)(hv:IR c b j i)(am:i.length<=1000)(ht:Ty g t):
 aN bY 314 [vp c 0,.agg #[O.v d,O.v p],O.v j,vi t] b (XP f c h b (P+22) λa=>WX g e.length i.length a/\a.n<=4):=by
 apply Hv (c,0)
 simp -zeta only[aE,aD]
 intro n A
 obtain⟨C,hl⟩:=di (a:=n) (c:=A) rfl rfl
 have s1:n.size=b.size+1:=by simp[n]
 clear_value A
 have hr:=r.rd.lt
 have L2:Lw c [n.size,b.size] A:=λW hb=>⟨hl W hb,by simp at hb;omega⟩
 have af:∀a∈n.size::f,a<A.size:=bG hS C.size (hl _ E)
 have z2:=C.size
 refine(Eh (a:=[c]) (m:=A) bK ((hv.le (bt _ _)).ext C) V t).mono λ_ Z⟨u,ad,a,gl,ak,F⟩=>⟨L2.da (F.fz _),u,a,?_⟩
 have ab:IR c Z u ad:=GI.done gl bK V
 have K:=(r.ext C).ext F
 have H:=L2.fz (F.fz [])
 have G:Fz [c] b Z:=(C.trans F).fz _
 have an:=ab.len
 have z3:=F.size
 have iQ:∀{Q:Nat}{M:I},GC c h Q d p g e M->Fz [c] b M->A.size<=M.size->Lw c [n.size,b.size] M->Q<=P+2->aN bY 333 [vp c 0,.agg #[O.v d,O.v p],vi t] M λv' q=>dV [n.size,b.size] M q/\∃w x:Int,∃y:O,v'=.agg #[vi w,vi x,O.v y]/\XP f c h b (P+22) (λa=>WX g e.length i.length a/\a.n<=4) (.agg #[vi w,vi x,O.v y]) (aj q n.size 0 [.i w,.i x,.s y]):=λX Y h1 R hq=>
  XP.ret (HK r.gp.ds ht (n.size::f) c _ h d p _ (λa o=>by have:=af a o;omega) (by simp[ah]) X V) R Y r.rd V (λa o=>⟨o.1 _,o.2⟩) V
 have Rg:∀{Q:Nat}{M:I},GC c h Q d p g e M->Fz [c] b M->Fz [c] Z M->Lw c [n.size,b.size] M->Q<=P+2->0<u.len->aN bY 81 [vp c 0,vi (u.len:Int)] M λal q=>dV [n.size,b.size] M q/\∃T:Int,al=vi T/\(0:Int)<=T/\T<(u.len:Int)/\∃ae:Int,D q u.F (u.off+Int.toNat T*1)=some (vi ae)/\
  aN bY 313 [vi ae] q λv' M2=>dV [n.size,b.size] q M2/\∃w x:Int,∃y:O,v'=.agg #[vi w,vi x,O.v y]/\XP f c h b (P+22) (λa=>WX g e.length i.length a/\a.n<=4) (.agg #[vi w,vi x,O.v y]) (aj M2 n.size 0 [.i w,.i x,.s y]):=λX Y f3 R hq h0=>
  (bO X.rd V u.len).mono λ_ q⟨ac,a,k0,k1,r',N⟩=>by
   obtain⟨aa,hy⟩:=ag (l:=ad) (k:=ac.toNat) V;have ai:=ak.1 aa (au hy);exact⟨R.da N,ac,a,k0,V,aa,(dP.1 ((ab.le (fh (f3.trans N))).u hy)).2,XP.ret ((kM (n.size::f) aa q).x r') (R.fz N) (Y.trans N) r.rd V (λa o=>o▸⟨.Rg ai,by rw[Ex.PR];simp⟩) V⟩
 refine⟨λz=>?_,λz=>iQ K G z3 H V⟩
 simp only[ao]at z
 refine(bO K.rd V 6).mono λ_ m4⟨k1,a,_,_,r4,o⟩=>⟨H.da o,k1,a,λz=>Rg (K.to o r4) (G.trans o) o (H.fz o) V V,λz=>?_⟩
 intro m5
 have B:J m4 m5:=J.push _ _
 have c4:=K.to o r4
 have L:=c4.ext B
 have U:=(H.fz o).fz (B.fz [])
 refine(nZ (v:=[]) (L.hd.le (bt _ _)) r.types (nG.le (bt _ _) L.hp) (by have:=r.gp.mN;omega) (kY _ _ _ _ _ _) t).mono λ_ m6⟨W,a,s⟩=>⟨U.da (s.fz _),W,a,λz=>?_,λz=>?_⟩
 ·exact Rg (L.ext s) ((G.trans o).then (B.trans s)) (o.then (B.trans s)) (U.fz (s.fz [])) V V
 ·exact iQ (L.ext s) ((G.trans o).then (B.trans s)) (by have:=o.size;have:=B.size;have:=s.size;omega) (U.fz (s.fz [])) V
def Hg(hS:∀r∈f,r<b.size)(hd:bR b d g)(ht:dv g)(H:nG b p e)(hf:e.length<=1000)(h1:1<=e.length)(t:Int):jR 328 [.agg #[O.v d,O.v p],vi t] b f λh=>(∀y∈h,∃(s:Nat)(q:cY),y=s/\e[s]? =some q)/\h.length<=e.length:=by
 apply zN;simp -zeta only[aE,aD];intro a K;have R:J b a:=J.push _ _;have C:∀r∈[b.size],r<a.size:=by simp[a]
 have g0:GI f a K (.mk a.size 0 0 0) []:=GI.nil f a;have x2:J a K:=J.push _ _;clear_value K;clear_value a;have ai:=H.len;refine Of (a:=e.length) V h1 (λx P M=>J a M/\∃h,GI f a M P h/\(∀y∈h,∃(s:Nat)(q:cY),y=s/\e[s]? =some q)/\h.length<=x) ⟨x2,[],g0,E,E⟩ ?_;rintro x P M ad μ af hk ⟨o,h,A,I,ah⟩ Y
 have Q:=R.trans o;refine⟨λU=>?_,λU=>⟨P,h,rfl,A.cG (λ_ i=>i) R.size,⟨I,V⟩,Q⟩⟩;simp only[ao]at U;obtain⟨q,W⟩:=ag (l:=e) (k:=x) V;obtain⟨ae,B,z,Z⟩:=H.u W;have aa:=B.len;refine⟨V,V,_,Q.D Z,?_⟩;refine dC (n:=q.params.length) (aa▸B.fL) (λ_ _ S=>J M S) (J.aC _) ?_;rintro ab ok u I2 μ2 hj c X;have m:=Q.trans c;refine⟨V,V,_,m.D z,λi=>⟨λ_=>?_,λ_=>X (by simp only[ao]at i;omega) _ _ c⟩,λi=>⟨λ_=>?_,λ_=>Y V _ _ ⟨o.trans c,h,A.ext c,I,V⟩⟩⟩
 ·simp only[ao]at i;obtain⟨y,hy⟩:=ag (l:=q.params) (k:=ab) V;have T:=(B.ext m).u hy;refine⟨V,V,_,m.D z,V,V,y,T,?_⟩;intro L;have j:J u L:=J.push _ _;have G:∀{w N:Nat}{ac:Value},D u w N=some ac->D L w N=D u w N:=λi=>by rw[j.D i,i]
  have F:b.size<u.size:=aJ (C _ E) (o.trans c).size;refine⟨G T,G (m.D z),aI (j.same _ F) _,aI (j.same _ F) _,aI (j.same _ F) _,?_⟩;exact(nZ (v:=[]) (hd.le (m.trans j).le) ht (nG.le (m.trans j).le H) hf (kY _ _ _ _ _ _) y).aG ((o.trans c).trans j) C λw m5 x5 _=>⟨_,rfl,X V _ _ ((c.trans j).trans x5)⟩
 ·intro L;refine GI.jK (A.ext c) ((o.trans c).fz []) (λr j=>R.lt (hS r j)) V λT S F w _ _=>⟨J.mU ((o.trans c).aM _) w.ext C,Y V _ _ ⟨w.ext,_,F,λN j=>?_,bK⟩⟩;rcases List.mem_append.1 j with j|j
  ·exact I N j
  ·simp at j;exact⟨x,q,j,W⟩
end
end
section
variable{f c:Int}{g:O}{e:List Int}
def Cg(c:Int):Nat:=30*4^c.toNat
def sq(h:f<=c):Cg f<=Cg c:=Nat.mul_le_mul_left _ (Nat.pow_le_pow_right bd V)
def NQ(c:Int):30<=Cg c:=Nat.le_mul_of_pos_right _ (Nat.pow_pos bd)
def OO(a:0<=f)(h:f+1<=c):4*Cg f<=Cg c:=by
 refine bJ (rP ?_) (sq h);unfold Cg;rw[show(f+1).toNat=f.toNat+1 by omega,Nat.pow_succ];omega
def HZ(b:List bq)(g:List cY)(c:Int):Prop:=∀(S:List Nat)(a P:Nat)(d e p h:O)(m:I)(v:List Int)(t:Int),(∀f∈S,f<m.size)->a∈S->GC a d P e p b g m->P+Cg c<=10000000000000000->IR a m h v->v.length+3*c.toNat<=1000->Ty b t->
 aN bY 310 [vp a 0,.agg #[O.v e,O.v p],O.v h,vi t,vi c] m (XP S a d m (P+Cg c) λf=>WX b g.length v.length f/\(c<=2->f.n<=4))
def XL(S:List Nat)(b:Nat)(c:O)(m:I)(P:Nat)(Q:List Ex->Prop)(v:Value)(a:I):Prop:=∃s l,v=O.v s/\eJ (bA S a) s l/\Q l/\Rd b c P a/\Fz [b] m a
def Iz{S:List Nat}{M:I}(i:∀c∈S,c<M.size)(p:Nat):∀(l:List (Ex×O))(_:l.length<=1000)(_:∀x∈l,eJ (bA S M) x.2 x.1.bu){a:List Ce}{n:Nat},a=l.flatMap (λx=>[.i x.1.op,.i x.1.bL,.s x.2])->n=l.length->
 GE S M (M.push (.cells (br a) bz)) (.mk M.size 0 n n) (l.map (·.1)):=by
 intro l q h a n j k
 refine Gr.lit (f:=l.map λx=>[.i x.1.op,.i x.1.bL,.s x.2]) zd.mono (ad _) i (by rw[j,YY]) (by simp[k]) ⟨E,λc d=>?_,λr c o f e=>?_⟩
 ·simp at d;obtain⟨_,_,_,rfl⟩:=d;rfl
 ·simp only[bW,iK]at f e
  obtain⟨x,g,rfl⟩:=f
  obtain⟨y,b,rfl⟩:=e
  rw[g]at b;simp at b;subst b
  have:=h x (au g)
  cases m:x.1 with
  |mk t n s=>rw[m]at this;exact zd.of this
section
variable{j L:List Nat}{h P:Nat}{o d p r:O}{i:List bq}{q:List cY}{m:I}{v:List Int}
def Kj(B:0<=c)(ih:∀a,0<=a->a<=c->HZ i q a)(K:∀u∈j,u<m.size)(N:h∈j)(u:GC h o P d p i q m)(hP:P+3*Cg c<=10000000000000000)(hv:IR h m r v)(ak:v.length+3*c.toNat<=1000)(ah:c<=1000)(Q:IR h m g e)(h3:e.length<=3)(ac:∀y∈e,Ty i y):
 aN bY 326 [vp h 0,.agg #[O.v d,O.v p],O.v r,O.v g,vi c] m (XL j h o m (P+3*Cg c) λb=>b.length=e.length/\∀f∈b,WX i q.length v.length f):=by
 apply DK (h,0)
 simp -zeta only[aE,aD]
 intro a D
 have F:J m a:=J.push _ _
 have hr:=u.rd.lt
 have U:Lw h [m.size] a:=by intro c B;simp[a]at B⊢;omega
 have g0:GE j a D (.mk a.size 0 0 0) []:=Gr.new _ (ad _) _ _ _
 have T:J a D:=J.push _ _
 clear_value D
 clear_value a
 have G:=u.ext F
 have aj:=Q.len
 refine dC (n:=e.length) V (λt z M=>∃b,GE j a M z b/\b.length=t/\(∀f∈b,WX i q.length v.length f)/\Rd h o (P+t*Cg c) M/\Fz [h] a M) ⟨[],g0,rfl,E,by simpa using G.rd.ext T,T.fz _⟩ ?_
 rintro t z M af μ hk ⟨b,A,ai,L,S,I⟩ ae
 have w:=(F.fz [h]).trans I
 refine dit (λs=>?_) λs=>?_
 ·obtain⟨y,R⟩:=ag (l:=e) (k:=t) V
  obtain⟨W,H⟩:=Lf (d:=(g.len:Int)) B V
  rw[aP (b:=Int.tdiv c _) V V]
  have hy:=A.aY
  have hm:=sq H
  have ab:t*Cg c+Cg c<=3*Cg c:=by rw[<-oA];exact cZ _ V
  refine⟨V,V,y,(dP.1 ((Q.le (fh w)).u R)).2,V,?_⟩
  exact XP.jK (ih _ W H (z.F::j) h _ o d p r M v y (bG K w.size hy.2) (by simp[N]) (u.to w S) V (hv.le (fh w)) V (ac y (au R))) A I U G.rd N V λf al M' C Z r' Y _ _=>
   ae V _ _ ⟨_,Z,bK,λX aa=>by rcases List.mem_append.1 aa with s|s;exact L X s;simp at s;subst s;exact C.1,r'.mono (by rw[oA];omega),Y⟩
 ·have ab:t*Cg c<=3*Cg c:=cZ _ V
  exact⟨z,b,rfl,A.done zd.mono (λf C=>F.lt (K f C)) bd V,⟨V,L⟩,S.mono V,w⟩
def wX{f E B:Nat}{k:I}{Q:Ex->Prop}{u bL:Int}(T:0<=c)(ih:∀a,0<=a->a<=c->HZ i q a)(R:∀n∈f::j,n<m.size)(Y:h∈j)(n:GC h o P d p i q m)(K:P+3*Cg c<=10000000000000000)(hv:IR h m r v)(ab:v.length+3*c.toNat<=1000)(U:c<=1000)(Z:IR h m g e)(H:e.length<=3)(aa:∀t∈e,Ty i t)
 (D:Lw h L m)(W:Fz [h] k m)(F:Rd h o E k)(X:k.size<=f)(N:∀l,l.length=e.length->(∀b∈l,WX i q.length v.length b)->Q (.mk u bL l))(M:P+3*Cg c<=B):
 aN bY 326 [vp h 0,.agg #[O.v d,O.v p],O.v r,O.v g,vi c] m λw a=>dV L m a/\∃s:O,w=O.v s/\
  aN bY 311 [vi u,vi bL,O.v s] a λw A=>dV L a A/\∃x y:Int,∃z:O,w=.agg #[vi x,vi y,O.v z]/\XP j h o k B Q (.agg #[vi x,vi y,O.v z]) (aj A f 0 [.i x,.i y,.s z]):=
 (Kj (j:=f::j) T ih R (by simp[Y]) n K hv ab U Z H aa).mono λ_ a⟨s,l,b,G,C,J,t⟩=>⟨D.da t,s,b,XP.ret (lI J G u bL) (D.fz t) (W.trans t) F X (λb V=>V▸N l C.1 C.2) M⟩
def Hk(N:3<=c/\c<=100)(ih:∀e,0<=e->e<=c -1->HZ i q e)(hS:∀t∈j,t<m.size)(ah:h∈j)(t:GC h o P d p i q m)(hP:P+23+3*Cg (c -1)<=10000000000000000)(hv:IR h m r v)(aU:v.length+3*c.toNat<=1000){am:Int}(ht:Ty i am):
 aN bY 327 [vp h 0,.agg #[O.v d,O.v p],O.v r,vi am,vi c] m (XP j h o m (P+23+3*Cg (c -1)) (WX i q.length v.length)):=by
 apply zZ (h,0)
 simp -zeta only[aE,aD]
 intro s H m3
 obtain⟨X,hl⟩:=di (a:=s) (c:=H) rfl rfl
 have s1:s.size=m.size+1:=by simp[s]
 have Y:J H m3:=J.push _ _
 have hr:=t.rd.lt
 have z2:=X.size
 have aG:ar (bA [h] m3) (.mk H.size 0 4 4) [1,1,3,4]:=ar.lit aB _ bK rfl rfl E
 clear_value m3
 clear_value H
 have L2:Lw h [s.size,m.size] H:=λc N=>⟨hl c N,by simp at N;omega⟩
 have az:∀e∈s.size::j,e<H.size:=bG hS X.size (hl _ E)
 have c3:=(t.ext X).ext Y
 have L3:=L2.fz (Y.fz [])
 have Z:=t.types
 refine(jw c3.rd V aG E).mono λ_ m4⟨W,e,hk,r4,K⟩=>⟨L3.da K,W,e,?_⟩
 have c4:=c3.to K r4
 have L4:=L3.fz K
 have aM:=c4.hd.len
 have dl:=nI i t.gp.ds
 have af:W∈[(1:Int),3,4]:=by simp at hk⊢;omega
 have kj:0<(bU i 1).length:=(OS i t.gp.ds).1
 refine⟨λg M=>g∈[(1:Int),3,4]/\g<=i.length/\0<(bU i g).length/\J m4 M,⟨λ_=>⟨bd,V,kj,J.aC _⟩,λab=>?_⟩,?_⟩
 ·simp only[bP]at ab
  refine(lH (c4.hd.le (bt _ _)) Z W).mono λ_ m5⟨c,e,N,y⟩=>⟨L4.da (y.fz _),c,e,λ_=>⟨bd,V,kj,y⟩,λf=>⟨af,V,NV i t.gp.ds W af V λaj T u=>?_,y⟩⟩
  rw[N.2 ⟨aj,by simp at af;omega,T,u⟩]at f;exact absurd f bd
 rintro g m5 ⟨ao,aA,aJ,y⟩
 have c5:=c4.ext y
 have L5:=L4.fz (y.fz [])
 have F5:Fz [h] m m5:=(((X.trans Y).fz _).trans K).then y
 have k5:g∈[(0:Int),1,2,3,4]:=by simp at ao⊢;omega
 have hf:=wW i t.gp.ds
 have aK:=hf.2.1 g k5
 refine(fR (e:=[h]) (by simp;exact c5.rd.lt) (c5.hd.le (bt _ _)) Z g).mono λ_ m6⟨cs,w,e,hc,aj,R⟩=>⟨L5.da (R.fz _),cs,e,?_⟩
 subst aj
 have c6:=c5.ext R
 have L6:=L5.fz (R.fz [])
 have F6:=F5.then R
 have aL:=hc.len
 have z3:=Y.size;have z4:=K.size;have z5:=y.size;have z6:=R.size
 have an:∀e∈s.size::j,e<m6.size:=λe u=>by have:=az e u;omega
 refine XP.then (pG (f:=s.size::j) an (by simp[ah]) c6 V (hv.le (fh F6)) V ⟨by simp at ao;omega,aA⟩) L6 λs0 e0 I h7 q7 r7 L=>⟨_,_,_,rfl,?_⟩
 intro m8
 have x8:J I m8:=J.push _ _
 have z7:=L.size
 have ac:∀e∈s.size::j,e<I.size:=λe u=>by have:=an e u;omega
 have g8:GE (s.size::j) I m8 (.mk I.size 0 1 1) [e0]:=Iz ac 0 [(e0,s0)] E (by simpa using h7) rfl rfl
 clear_value m8
 have c7:=c6.to L r7
 have L7:=L6.fz L
 have F7:=F6.trans L
 refine dC (n:=(bU i g).length) V (λC ak M=>∃w,GE (s.size::j) I M ak (e0::w)/\w.length=C/\(∀(B:Nat)(e:Ex)(F:Int),w[B]? =some e->(bU i g)[B]? =some F->WX i q.length (v.length+(bT i F).length) e)/\Rd h o (P+23+C*Cg (c -1)) M/\Fz [h] I M) ⟨[],g8,rfl,E,by simpa using(r7.ext x8).mono V,x8.fz _⟩ ?_
 rintro C ak M aI μ hj ⟨w,aa,aT,T,Q,G⟩ aH
 have z:=L7.fz G
 have aR:C*Cg (c -1)<=3*Cg (c -1):=cZ _ V
 refine dit (λab=>?_) λab=>?_
 ·obtain⟨F,hy⟩:=ag (l:=bU i g) (k:=C) V
  obtain⟨aO,aQ⟩:=hf.1 g k5 F (au hy)
  have aW:=aa.aY
  have cM:=c7.to G Q
  refine⟨V,V,F,(dP.1 ((hc.le (fh (L.trans G))).u hy)).2,V,?_⟩
  refine(dk (e:=[h]) (by simp;exact Q.lt) cM.hd Z F).mono λ_ m9⟨f9,l9,e,h9,q9,f⟩=>⟨z.da (f.fz _),f9,e,z.cy (Fz.aC _ _) (f.fz _) E _,z.cy (Fz.aC _ _) (f.fz _) E _,?_⟩
  subst q9
  have F9:=(F7.trans G).then f
  refine(dL (S:=[h]) (by simp;exact(Q.ext f).lt) (hv.le (fh F9)) h9 V).mono λ_ ap⟨al,ai,e,av,aq,D⟩=>⟨(z.fz (f.fz [])).da (D.fz _),al,e,z.cy (f.fz _) (D.fz _) E _,z.cy (f.fz _) (D.fz _) E _,?_⟩
  have ay:IR h ap al ai:=GI.done av (by simp;exact(Q.ext f).lt) (by rw[<-aq];simp;omega)
  obtain⟨d0,d1⟩:=Lf (f:=c -2) (d:=(cs.len:Int)) V V
  rw[aP (b:=c -2) V V,aP (b:=Int.tdiv _ _) V V]
  have hm:=sq (f:=Int.tdiv (c -2) cs.len) (c:=c -1) V
  have aS:C*Cg (c -1)+Cg (c -1)<=3*Cg (c -1):=by rw[<-oA];exact cZ _ V
  have fT:=(G.then f).then D
  have aC:ai.length=v.length+(bT i F).length:=by rw[<-aq];simp
  refine XP.jK (ih _ d0 V (ak.F::s.size::j) h _ o d p al ap ai am (bG (λe u=>by have:=ac e u;have:=fT.size;omega) (ad _) (by have:=f.size;have:=D.size;omega)) (by simp[ah]) ((cM.ext f).ext D) V ay V ht) ((aa.ext zd.mono f).ext zd.mono D) fT L7 r7 (by simp[ah]) bK λe aX M' u g' r' f' _ _=>
   aH V _ _ ⟨w++[e],g',bK,λB e' y' A U=>?_,r'.mono (by rw[oA];omega),f'⟩
  rcases aV B w.length with ae|ae
  ·rw[aw ae]at A;exact T B e' y' A U
  ·rw[aF ae]at A
   have:B -w.length=0:=by have:=ax A;simp at this;omega
   rw[this]at A;simp at A;subst A
   have:B=C:=V
   subst this
   rw[hy]at U;simp at U;subst U
   rw[<-aC];exact u.1
 ·exact XP.ret (lI Q (aa.done zd.mono ac bd bK) 8 g) z (F7.trans G) t.rd V (λe u=>u▸.mt q7.1 V V T) V
end
end
section
section
variable{e L:List Nat}{c P:Nat}{g d p i:O}{f:List bq}{h:List cY}{m:I}{v:List Int}
def Hl{r:Int}(hb:3<=r/\r<=100)(ih:∀j,0<=j->j<=r -1->HZ f h j)(hS:∀s∈e,s<m.size)(W:c∈e)(s:GC c g P d p f h m)(hP:P+24+3*Cg (r -1)<=10000000000000000)(X:IR c m i v)(aI:v.length+3*r.toNat<=1000){ac:Int}(ht:Ty f ac):
 aN bY 329 [vp c 0,.agg #[O.v d,O.v p],O.v i,vi ac,vi r] m (XP e c g m (P+24+3*Cg (r -1)) (WX f h.length v.length)):=by
 apply Aa (c,0)
 simp -zeta only[aE,aD]
 intro z ab
 obtain⟨Z,T⟩:=di (a:=z) (c:=ab) rfl rfl
 have s1:z.size=m.size+1:=by simp[z]
 clear_value ab
 have hr:=s.rd.lt
 have z2:=Z.size
 have L2:Lw c [z.size,m.size] ab:=λr hb=>⟨T r hb,by simp at hb;omega⟩
 have av:∀j∈z.size::e,j<ab.size:=bG hS Z.size (T _ E)
 have c2:=s.ext Z
 have ae:=s.types
 have aH:=s.hd.len
 have dl:=nI f s.gp.ds
 have ax:cK (r -2)=r -2:=aP V V
 have am:cK (r -1)=r -1:=aP V V
 have mN:=s.gp.mN
 have aA:v.length+3*(r -2).toNat<=1000:=V
 have hm:=sq (f:=r -2) (c:=r -1) V
 have aF:P+24+Cg (r -2)<=10000000000000000:=V
 refine⟨λM=>Rd c g (P+1) M/\Fz [c] ab M,?_,?_⟩
 ·refine(bO c2.rd V 4).mono λ_ m3⟨A,j,_,_,r3,f3⟩=>⟨L2.da f3,A,j,λ_=>?_,λ_=>⟨r3,f3⟩⟩
  refine Vw (a:=f.length+1) V V (λ_ M=>Rd c g (P+1) M/\Fz [c] ab M) ⟨r3,f3⟩ ?_
  rintro aa M aw μ ay ha ⟨U,L⟩ af
  have R:=c2.to L U
  have LM:=L2.fz L
  refine⟨λu=>?_,λu=>⟨U,L⟩⟩
  simp only[ao]at u
  have ea:cK ((aa:Int) -1)=aa -1:=aP V V
  rw[ea]
  refine(lH (R.hd.le (bt _ _)) ae aa).mono λ_ N⟨b4,j,aq,Q⟩=>⟨LM.da (Q.fz _),b4,j,λh1=>?_,λ_=>af V _ ⟨U.ext Q,L.then Q⟩⟩
  obtain⟨al,_,hq,az⟩:=aq.1 h1
  have Y:f[((aa:Int) -1).toNat]? =some al:=by rw[<-hq];congr 1;omega
  obtain⟨_,_,g0,g1,_⟩:=R.hd.u Y
  have G:=R.ext Q
  have x:=LM.fz (Q.fz [])
  have q:=L.then Q
  refine⟨V,V,_,Q.D (dP.1 g1).2,λ_=>?_,λ_=>af V _ ⟨U.ext Q,q⟩⟩
  refine(nZ (G.hd.le (bt _ _)) ae (nG.le (bt _ _) G.hp) V ((X.le (fh ((Z.fz _).trans q))).le (bt _ _)) aa).mono λ_ w⟨b5,j,o⟩=>⟨x.da (o.fz _),b5,j,λ_=>?_,λ_=>af V _ ⟨(U.ext Q).ext o,q.then o⟩⟩
  have H:=G.ext o
  have y:=x.fz (o.fz [])
  have f5:=q.then o
  have z5:=f5.size
  have ai:∀j∈z.size::e,j<w.size:=λj K=>by have:=av j K;omega
  obtain⟨_,_,ah,_,_⟩:=H.hd.u Y
  refine⟨V,V,_,(dP.1 ah).2,?_⟩
  refine XP.then (pG (f:=z.size::e) ai (by simp[W]) H V (X.le (fh ((Z.fz _).trans f5))) V ⟨V,V⟩) y λs6 e6 D h6 q6 r6 B=>⟨_,_,_,rfl,?_⟩
  have c6:=H.to B r6
  have C:=y.fz B
  obtain⟨_,_,ap,_,_⟩:=c6.hd.u Y
  refine⟨by rw[(dP.1 ap).2,(dP.1 ah).2],y.cy (Fz.aC _ _) B E _,y.cy (Fz.aC _ _) B E _,y.cy (Fz.aC _ _) B E _,?_⟩
  rw[ax]
  have F6:=(Z.fz [c]).trans (f5.trans B)
  have ak:∀j∈z.size::e,j<D.size:=λj K=>by have:=ai j K;have:=B.size;omega
  refine XP.then (ih (r -2) V V (z.size::e) c (P+1+22) g d p i D v _ ak (by simp[W]) c6 V (X.le (fh F6)) aA ((wW f s.gp.ds).2.2 al (au Y))) C λs7 e7 F h7 q7 r7 t=>⟨_,_,_,rfl,?_⟩
  intro m8
  have x8:J F m8:=J.push _ _
  have an:∀j∈z.size::e,j<F.size:=λj K=>by have:=ak j K;have:=t.size;omega
  have g8:GE (z.size::e) F m8 (.mk F.size 0 2 2) [e6,e7]:=Iz an 0 [(e6,s6),(e7,s7)] E (by simp;exact⟨eJ.le (t.cJ (by simp[W])) h6,h7⟩) rfl rfl
  clear_value m8
  exact XP.ret (lI (r7.ext x8) (g8.done zd.mono an bd E) 11 0) ((C.fz t).fz (x8.fz [])) ((F6.trans t).then x8) s.rd V (λj K=>K▸.dY bd (λu=>V) bd (λu=>V) (by simp;exact⟨q6.1,q7.1⟩)) V
 rintro M ⟨U,L⟩
 have R:=c2.to L U
 have LM:=L2.fz L
 have zM:=L.size
 have FM:=(Z.fz [c]).trans L
 refine(fR (e:=[c]) (by simp;exact U.lt) (R.hd.le (bt _ _)) ae ac).mono λ_ m3⟨cs,an,j,hc,al,x3⟩=>⟨LM.da (x3.fz _),cs,j,?_⟩
 subst al
 have c3:=R.ext x3
 have L3:=LM.fz (x3.fz [])
 have Q:=FM.then x3
 have z3:=x3.size
 have aG:=hc.len
 have ah:∀{M:I},m3.size<=M.size->∀j∈z.size::e,j<M.size:=λu j K=>by have:=av j K;omega
 have t5:=Ty.Vv s.gp.ds ht
 have ay:=wW f s.gp.ds
 refine⟨λu=>?_,λu=>⟨λu=>?_,λu=>?_⟩⟩
 ·simp only[ao]at u
  refine(bO c3.rd V cs.len).mono λ_ N⟨A,j,k0,k1,Y,q⟩=>⟨L3.da q,A,j,k0,V,?_⟩
  obtain⟨af,hy⟩:=ag (l:=bU f ac) (k:=A.toNat) V
  have ai:=ay.1 ac t5 af (au hy)
  have G:=c3.to q Y
  have x:=L3.fz q
  refine⟨af,(dP.1 ((hc.le (fh q)).u hy)).2,?_⟩
  refine(dk (e:=[c]) (by simp;exact Y.lt) G.hd ae af).mono λ_ w⟨f5,l5,j,h5,q5,o⟩=>⟨x.da (o.fz _),f5,j,x.cy (Fz.aC _ _) (o.fz _) E _,x.cy (Fz.aC _ _) (o.fz _) E _,?_⟩
  subst q5
  rw[am]
  exact wX V ih (ah (by have:=q.size;have:=o.size;omega)) W (G.ext o) V (X.le (fh ((Q.trans q).then o))) V V h5 ai.1 ai.2 (x.fz (o.fz [])) ((Q.trans q).then o) s.rd V (λan _ T=>.dY bd (λu=>V) bd (λu=>V) T) V
 ·exact XP.ret (pG (f:=z.size::e) (ah (ad _)) (by simp[W]) c3 V (X.le (fh Q)) V ht) L3 Q s.rd V (λj K=>K.1) V
 ·refine(bO c3.rd V 3).mono λ_ N⟨A,j,k0,k1,Y,q⟩=>⟨L3.da q,A,j,λ_=>?_,λ_=>?_⟩
  ·have G:=c3.to q Y
   have x:=L3.fz q
   have z4:=q.size;have az:=Y.lt
   intro w
   have o:J N w:=J.push _ _
   have af:ar (bA [c] w) (.mk N.size 0 1 1) [0]:=ar.lit aB _ bK rfl rfl E
   clear_value w
   have z5:=o.size
   rw[am]
   exact wX V ih (ah V) W (G.ext o) V (X.le (fh ((Q.trans q).then o))) V V af E (by simp[s.gp.ty]) (x.fz (o.fz [])) ((Q.trans q).then o) s.rd V (λan _ T=>.dY bd (λu=>V) bd (λu=>V) T) V
  ·have G:=c3.to q Y
   have x:=L3.fz q
   have F4:=Q.trans q
   have z4:=q.size;have az:=Y.lt
   have il:∀{aC M:I}{aa t0:Nat},GC c g (P+3) d p f h M->Fz [c] N M->ar (bA [c] M) (.mk t0 0 2 2) [0,0]->∀op:Int,op∈[(1:Int),2,3,4]->aN bY 326 [vp c 0,.agg #[O.v d,O.v p],O.v i,O.v (.mk t0 0 2 2),vi (r -1)] M λaq M1=>dV [z.size,m.size] M M1/\∃aw:O,aq=O.v aw/\
    aN bY 311 [vi op,vi 0,O.v aw] M1 λaq M2=>dV [z.size,m.size] M1 M2/\∃r0 r1:Int,∃r2:O,aq=.agg #[vi r0,vi r1,O.v r2]/\XP e c g m (P+24+3*Cg (r -1)) (WX f h.length v.length) (.agg #[vi r0,vi r1,O.v r2]) (aj M2 z.size 0 [.i r0,.i r1,.s r2]):=λR af u op ai=>
    wX V ih (ah (by have:=af.size;omega)) W R V (X.le (fh (F4.trans af))) V V u E (by simp[s.gp.ty]) (x.fz af) (F4.trans af) s.rd V (λan _ T=>.dY (by simp at ai;omega) (λu=>by simp at ai;omega) (by simp at ai;omega) (λu=>by simp at ai;omega) T) V
   rw[am]
   refine⟨?_,?_⟩
   ·intro w
    have o:J N w:=J.push _ _
    have ak:ar (bA [c] w) (.mk N.size 0 4 4) [1,2,3,4]:=ar.lit aB _ bK rfl rfl E
    clear_value w
    have H:=G.ext o
    have y:=x.fz (o.fz [])
    have z5:=o.size
    refine⟨x.cy (Fz.aC _ _) (o.fz _) E _,x.cy (Fz.aC _ _) (o.fz _) E _,?_,?_⟩
    ·refine(jw H.rd V ak E).mono λ_ D⟨A,j,hk,r6,B⟩=>⟨y.da B,A,j,y.cy (Fz.aC _ _) B E _,y.cy (Fz.aC _ _) B E _,?_⟩
     intro F
     have x7:J D F:=J.push _ _
     have ap:ar (bA [c] F) (.mk D.size 0 2 2) [0,0]:=ar.lit aB _ (by simp;exact r6.lt) rfl rfl E
     clear_value F
     have C:=y.fz B
     exact⟨C.cy (Fz.aC _ _) (x7.fz _) E _,C.cy (Fz.aC _ _) (x7.fz _) E _,il (aC:=F) (aa:=0) ((H.to B r6).ext x7) (((o.fz _).trans B).then x7) ap A hk⟩
    ·intro D
     have B:J w D:=J.push _ _
     have ap:ar (bA [c] D) (.mk w.size 0 2 2) [0,0]:=ar.lit aB _ bK rfl rfl E
     clear_value D
     have C:=y.fz (B.fz [])
     refine⟨y.cy (Fz.aC _ _) (B.fz _) E _,y.cy (Fz.aC _ _) (B.fz _) E _,?_⟩
     refine(jw (H.ext B).rd V (ak.le (fh (B.fz _))) E).mono λ_ F⟨A,j,hk,r7,t⟩=>⟨C.da t,A,j,C.cy (Fz.aC _ _) t E _,C.cy (Fz.aC _ _) t E _,il (aC:=F) (aa:=0) ((H.ext B).to t r7) (((o.trans B).fz _).trans t) (ap.le (fh t)) A hk⟩
   ·intro w
    have o:J N w:=J.push _ _
    have ak:ar (bA [c] w) (.mk N.size 0 2 2) [0,0]:=ar.lit aB _ bK rfl rfl E
    clear_value w
    have H:=G.ext o
    have y:=x.fz (o.fz [])
    have z5:=o.size
    refine⟨x.cy (Fz.aC _ _) (o.fz _) E _,x.cy (Fz.aC _ _) (o.fz _) E _,?_⟩
    intro D
    have B:J w D:=J.push _ _
    have ap:ar (bA [c] D) (.mk w.size 0 4 4) [1,2,3,4]:=ar.lit aB _ bK rfl rfl E
    clear_value D
    have C:=y.fz (B.fz [])
    refine⟨y.cy (Fz.aC _ _) (B.fz _) E _,y.cy (Fz.aC _ _) (B.fz _) E _,?_⟩
    refine(jw (H.ext B).rd V ap E).mono λ_ F⟨A,j,hk,r7,t⟩=>⟨C.da t,A,j,C.cy (Fz.aC _ _) t E _,C.cy (Fz.aC _ _) t E _,il (aC:=F) (aa:=0) ((H.ext B).to t r7) (((o.trans B).fz _).trans t) ((ak.le (fh (B.fz _))).le (fh t)) A hk⟩
end
end
section
variable{c:Int}
def Um{o:List bq}{s:List cY}(hb:0<=c/\c<=100)(ih:∀d,0<=d->d<=c -1->HZ o s d):HZ o s c:=by
 intro t e P L X Z ae y z C hS B j hP R aI Q;apply Jz (e,0);simp -zeta only[aE,aD];intro h aa;obtain⟨x2,hl⟩:=di (a:=h) (c:=aa) rfl rfl;have s1:h.size=y.size+1:=by simp[h]
 clear_value aa;have hr:=j.rd.lt;have z2:=x2.size;have L2:Lw e [h.size,y.size] aa:=λc hb=>⟨hl c hb,by simp at hb;omega⟩;have N:∀{d:I},aa.size<=d.size->∀f∈h.size::t,f<d.size:=λA f he=>by have:=bG hS x2.size (hl h.size E) f he;omega
 have c2:=j.ext x2;have am:=j.types;have mN:=j.gp.mN;have gR:=j.gp.gR;have aF:=NQ c;have aq:∀{al:Nat}{d:I},GC e L al X Z o s d->Fz [e] aa d->al+22<=P+Cg c->aN bY 314 [vp e 0,.agg #[O.v X,O.v Z],O.v ae,vi C] d λad M2=>dV [h.size,y.size] d M2/\∃r0 r1:Int,∃r2:O,ad=.agg #[vi r0,vi r1,O.v r2]/\XP t e L y (P+Cg c) (λf=>WX o s.length z.length f/\(c<=2->f.n<=4)) (.agg #[vi r0,vi r1,O.v r2]) (aj M2 h.size 0 [.i r0,.i r1,.s r2]):=λcM g hq=>
  XP.ret (pG (f:=h.size::t) (N g.size) (by simp[B]) cM V (R.le (fh ((x2.fz _).trans g))) V Q) (L2.fz g) ((x2.fz _).trans g) j.rd V (λf he=>⟨he.1,λ_=>he.2⟩) hq
 refine⟨λ_=>aq c2 (Fz.aC _ _) V,λh3=>?_⟩;simp only[bP]at h3;have aG:=OO (f:=c -1) (c:=c) V V;have aH:=OO (f:=c -2) (c:=c -1) V V;have aC:=NQ (c -2);have an:cK (c -1)=c -1:=aP V V;have hQ:∀f,WX o s.length z.length f->WX o s.length z.length f/\(c<=2->f.n<=4):=λf A=>⟨A,λA=>V⟩;refine(bO c2.rd V 12).mono λ_ m3⟨ab,f,k0,k1,r3,f3⟩=>⟨L2.da f3,ab,f,?_⟩;have w:=c2.to f3 r3;have U:=L2.fz f3;have v:=(x2.fz [e]).trans f3;have z3:=f3.size;have ay:=N z3;have av:∀{d:I},J m3 d->aN bY 329 [vp e 0,.agg #[O.v X,O.v Z],O.v ae,vi C,vi c] d λad M2=>dV [h.size,y.size] d M2/\∃r0 r1:Int,∃r2:O,ad=.agg #[vi r0,vi r1,O.v r2]/\XP t e L y (P+Cg c) (λf=>WX o s.length z.length f/\(c<=2->f.n<=4)) (.agg #[vi r0,vi r1,O.v r2]) (aj M2 h.size 0 [.i r0,.i r1,.s r2]):=λG=>
  XP.ret (Hl (e:=h.size::t) ⟨V,V⟩ ih (N (by have:=G.size;omega)) (by simp[B]) (w.ext G) V (R.le (fh (v.then G))) V Q) (U.fz (G.fz [])) (v.then G) j.rd V hQ V
 refine⟨λ_=>aq w f3 V,λ_=>⟨λ_=>?_,λ_=>⟨λ_=>?_,λ_=>⟨λ_=>?_,λ_=>⟨λ_=>?_,λ_=>av (J.aC _)⟩⟩⟩⟩⟩
 ·refine(Jo r3 V w.hd am w.hp V (R.le (fh v))).mono λ_ m⟨F,f,hu,r4,f4⟩=>⟨U.da f4,F,f,bd,bd,?_⟩;have W:=w.to f4 r4;have r:=U.fz f4;have F4:=v.trans f4;have z4:=f4.size;have az:Ty o F:=by have:=nI o j.gp.ds;unfold Ty;omega
  obtain⟨d0,d1⟩:=Lf (f:=c) (d:=2) V V;have d2:Int.tdiv c 2<=c -1:=by rw[ou V];omega
  have d3:Int.tdiv c 2+Int.tdiv c 2<=c:=by rw[ou V];omega
  rw[aP (b:=Int.tdiv c 2) V V];generalize Int.tdiv c 2=h2 at*;have hm:=sq d2;have H:∀{d M':I},Fz [e] m d->Fz [e] d M'->D M' y.size 0=D d y.size 0:=λg f'=>r.cy g f' E _;have K:∀{d M':I},Fz [e] m d->Fz [e] d M'->D M' y.size 1=D d y.size 1:=λg f'=>r.cy g f' E _;have af:=λ(d:I)(cM:GC e L (P+2) X Z o s d)(g:Fz [e] m d)=>ih h2 d0 d2 (h.size::t) e (P+2) L X Z ae d z F (N (by have:=g.size;omega)) (by simp[B]) cM V (R.le (fh (F4.trans g))) V az;have ah:=λ(d:I)(ac:O)(cM:GC e L (P+2+Cg h2) X Z o s d)(g:Fz [e] m d)(hw:IR e d ac (z++[F]))=>ih h2 d0 d2 (h.size::t) e (P+2+Cg h2) L X Z ac d (z++[F]) C (N (by have:=g.size;omega)) (by simp[B]) cM V hw bK Q;have ai:=λ(d:I)(ac:O)(g:Fz [e] m d)(hR:e<d.size)(A:IR e d ac [F])=>dL (S:=[e]) (by simp;exact hR) (R.le (fh (F4.trans g))) A bK;have ak:=λ(M0 d:I)(e1 e2:Ex)(t1 t2:O)(g:Fz [e] m d)(hR:Rd e L (P+2+Cg h2+Cg h2) d)(h1:eJ (bA (h.size::t) d) t1 e1.bu)(aw:eJ (bA (h.size::t) d) t2 e2.bu)(w1:WX o s.length z.length e1)(w2:WX o s.length (z++[F]).length e2)=>
   have G:=J.push d (.cells (br [.i e1.op,.i e1.bL,.s t1,.i e2.op,.i e2.bL,.s t2]) bz)
   have ap:=N (d:=d) (by have:=g.size;omega)
   XP.ret (S:=t) (Q':=λf=>WX o s.length z.length f/\(c<=2->f.n<=4)) (lI (hR.ext G) ((Iz ap 0 [(e1,t1),(e2,t2)] E (by simp;exact⟨h1,aw⟩) rfl rfl).done zd.mono ap bd E) 13 0) ((r.fz g).fz (G.fz [])) ((F4.trans g).then G) j.rd V (λf he=>he▸hQ _ (.lt w1 (by simpa using w2))) (i:=P+Cg c) V
  refine⟨?_,?_⟩
  ·refine XP.then (af m W (Fz.aC _ _)) r λs5 Y T h5 q5 r5 p=>⟨_,_,_,rfl,H (Fz.aC _ _) p,K (Fz.aC _ _) p,?_⟩;intro m6;have u:J T m6:=J.push _ _;have aA:ar (bA [e] m6) (.mk T.size 0 1 1) [F]:=ar.lit aB _ (by simp;exact r5.lt) rfl rfl E;clear_value m6;have q:=p.then u;refine⟨H p (u.fz _),K p (u.fz _),H p (u.fz _),K p (u.fz _),?_⟩;refine(ai m6 _ q (r5.ext u).lt aA).mono λ_ m7⟨s7,l7,f,g7,q7,i⟩=>⟨(r.fz q).da (i.fz _),s7,f,H q (i.fz _),K q (i.fz _),?_⟩;subst q7;refine XP.then (ah m7 s7 (((W.to p r5).ext u).ext i) (q.then i) (GI.done g7 (by simp;exact(r5.ext u).lt) bK)) ((r.fz q).fz (i.fz [])) λs8 e8 m8 h8 q8 r8 f8=>⟨_,_,_,rfl,?_⟩;exact ak m8 m8 Y e8 s5 s8 ((q.then i).trans f8) r8 (eJ.le (((u.trans i).fz [e]).trans f8|>.cJ (by simp[B])) h5) h8 q5.1 q8.1
  ·intro T;have u:J m T:=J.push _ _;have aA:ar (bA [e] T) (.mk m.size 0 1 1) [F]:=ar.lit aB _ (by simp;exact r4.lt) rfl rfl E;clear_value T;refine⟨H (Fz.aC _ _) (u.fz _),K (Fz.aC _ _) (u.fz _),H (Fz.aC _ _) (u.fz _),K (Fz.aC _ _) (u.fz _),?_⟩;refine XP.then (af T (W.ext u) (u.fz _)) (r.fz (u.fz [])) λs6 e6 m6 h6 q6 r6 q=>⟨_,_,_,rfl,H (u.fz _) q,K (u.fz _) q,?_⟩;have Y:=(u.fz [e]).trans q;refine(ai m6 _ Y r6.lt (aA.le (fh q))).mono λ_ m7⟨s7,l7,f,g7,q7,i⟩=>⟨(r.fz Y).da (i.fz _),s7,f,H Y (i.fz _),K Y (i.fz _),?_⟩;subst q7;refine XP.then (ah m7 s7 (((W.ext u).to q r6).ext i) (Y.then i) (GI.done g7 (by simp;exact r6.lt) bK)) ((r.fz Y).fz (i.fz [])) λs8 e8 m8 h8 q8 r8 f8=>⟨_,_,_,rfl,?_⟩;exact ak m8 m8 e6 e8 s6 s8 ((Y.then i).trans f8) r8 (eJ.le ((i.fz [e]).trans f8|>.cJ (by simp[B])) h6) h8 q6.1 q8.1
 ·intro m;have i:J m3 m:=J.push _ _;have u:ar (bA [e] m) (.mk m3.size 0 3 3) [0,C,C]:=ar.lit aB _ (by simp;exact r3.lt) rfl rfl E;clear_value m;rw[an];exact wX V ih (N (by have:=i.size;omega)) B (w.ext i) V (R.le (fh (v.then i))) V V u E (by simp;exact⟨j.gp.ty bd bd,Q⟩) (U.fz (i.fz [])) (v.then i) j.rd V (λq hl hw=>hQ _ (.dY bd (λ_=>by simpa using hl) bd (λA=>V) hw)) V
 ·exact XP.ret (Hk (j:=h.size::t) ⟨V,V⟩ ih ay (by simp[B]) w V (R.le (fh v)) V Q) U v j.rd V hQ V
 ·refine(Hg (f:=[e]) (by simp;exact r3.lt) (w.hd.le (bt _ _)) am (nG.le (bt _ _) w.hp) V gR C).mono λ_ m⟨F,q,f,gl,hq,i⟩=>⟨U.da (i.fz _),F,f,λA=>?_,λ_=>av i⟩;simp only[ao]at A;have ac:IR e m F q:=GI.done gl (by simp;exact r3.lt) V;have ap:=ac.len;have W:=w.ext i;have r:=U.fz (i.fz []);refine(bO W.rd V F.len).mono λ_ T⟨ab,f,k0,k1,r5,p⟩=>⟨r.da p,ab,f,k0,V,?_⟩;obtain⟨ai,hy⟩:=ag (l:=q) (k:=ab.toNat) V;obtain⟨fi,ah,rfl,K⟩:=hq.1 ai (au hy);have u:=W.to p r5;obtain⟨ps,af,e0,e1⟩:=u.hp.u K;have ak:=ax K;have aw:=u.hp.len;have Y:=uB _ (j.gp.df ah (au K));have H:=(i.fz [e]).trans p;refine⟨_,(dP.1 ((ac.le (fh p)).u hy)).2,V,V,ps,(dP.1 e0).2,?_⟩;rw[an];exact wX V ih (N (by have:=H.size;omega)) B u V (R.le (fh (v.trans H))) V V af Y.1 (λC Q=>j.gp.ty (Y.2.1 C Q).1 (Y.2.1 C Q).2) (r.fz p) (v.trans H) j.rd V (λq _ hw=>hQ _ (.dY bd (λA=>V) bd (λ_=>⟨V,V⟩) hw)) V
def Oi{b:List bq}{d:List cY}:∀(n:Nat)(c:Int),c.toNat=n->0<=c/\c<=100->HZ b d c:=λn=>by
 induction n using Nat.strongRecOn with
 |ind n f=>exactλc i h=>Um h λa e g=>f a.toNat V a rfl ⟨e,V⟩
section
variable{S:List Nat}{e P:Nat}{h d p j:O}{g:List bq}{i:List cY}{f:I}{v:List Int}
def U7(g:List bq)(b a:Nat)(e:Ex):Prop:=WX g b a e/\e.n<=30
def Jx(hS:∀y∈S,y<f.size)(ab:e∈S)(y:GC e h P d p g i f)(hP:P+20*Cg 18<=10000000000000000)(hv:IR e f j v)(ah:v.length<=100){W:Int}(ht:Ty g W)(s:0<=c/\c<=18):
 aN bY 283 [vp e 0,.agg #[O.v d,O.v p],O.v j,vi W,vi c] f (XP S e h f (P+20*Cg 18) (U7 g i.length v.length)):=by
 apply BQ (e,0)
 simp -zeta only[aE,aD]
 intro t B
 obtain⟨w,hl⟩:=di (a:=t) (c:=B) rfl rfl
 have s1:t.size=f.size+1:=by simp[t]
 clear_value B
 have hr:=y.rd.lt
 have z2:=w.size
 have R:Lw e [t.size,f.size] B:=λc s=>⟨hl c s,by simp at s;omega⟩
 have aa:∀{M:I},B.size<=M.size->∀k∈t.size::S,k<M.size:=λU k he=>by have:=bG hS w.size (hl t.size E) k he;omega
 have Y:=y.ext w
 have hm:=sq s.2
 refine XP.then (Oi _ c rfl ⟨s.1,V⟩ (t.size::S) e P h d p j B v W (aa (ad _)) (by simp[ab]) Y V (hv.le (fh (w.fz _))) V ht) R λs3 G l h3 q3 r3 f3=>⟨_,_,_,rfl,?_⟩
 intro m4 C
 have X:J l C:=(J.push l _).aj (ad _) _ _
 have B5:cB C l.size bz [.i G.op,.i G.bL,.s s3]:=cB.aj (m:=m4) (o:=0) (r:=[.i G.op,.i G.bL,.s s3]) (cB.push l _ _)
 have s5:C.size=l.size+1:=by simp[C,m4,az]
 clear_value C
 have z3:=f3.size
 have f5:=f3.then X
 have ae:∀k∈l.size::t.size::S,k<C.size:=bG (aa z3) X.size V
 refine⟨λq M=>∃(L:O)(k:Ex)(u:Nat),0<=q/\q<=18/\q.toNat<=u/\u<=18/\cB M l.size bz [.i k.op,.i k.bL,.s L]/\eJ (bA (l.size::t.size::S) M) L k.bu/\WX g i.length v.length k/\(q<=2->k.n<=4)/\Rd e h (P+(19 -u)*Cg 18) M/\Fz [e] B M/\C.size<=M.size,λq _=>q.toNat,⟨s3,G,18,s.1,s.2,V,ad _,B5,?_,q3.1,q3.2,(r3.ext X).mono V,f5,ad _⟩,?_⟩
 ·exact eJ.le (X.bA λc s=>(List.mem_cons.1 s).elim (λU=>Or.inr V) Or.inl) h3
 rintro q M ⟨L,k,u,b0,b1,bk,ak,N,hs,hw,hn,rM,Z,zM⟩
 have LM:=R.fz Z
 have FM:=(w.fz [e]).trans Z
 refine⟨_,N.cy 0,_,N.cy 1,_,N.cy 2,?_⟩
 refine(yB (eJ.le (bt _ _) hs)).mono λ_ K⟨n6,e6,q6,F⟩=>⟨LM.da (F.fz _),n6,e6,?_⟩
 have Q:=N.ext F
 have r6:=rM.ext F
 have z:=Z.then F
 have z6:=F.size
 have L6:=R.fz z
 have kc:(19 -u)*Cg 18+Cg 18<=20*Cg 18:=by rw[<-oA];exact cZ _ V
 have bo:k.n<=30->∃v0:Int,D K l.size 0=some (vi v0)/\∃v1:Int,D K l.size 1=some (vi v1)/\∃v2:O,D K l.size 2=some (O.v v2)/\XP S e h f (P+20*Cg 18) (U7 g i.length v.length) (.agg #[vi v0,vi v1,O.v v2]) (aj K t.size 0 [.i v0,.i v1,.s v2]):=λac=>
  ⟨_,Q.cy 0,_,Q.cy 1,_,Q.cy 2,L,k,rfl,eJ.le (bS E λy hc=>ai _ (ai _ hc)) (eJ.le (F.cJ _) hs),⟨hw,ac⟩,y.rd.aj (r6.mono V) ((w.fz _).trans z) V 0 _,((w.fz _).trans z).aj (Or.inr V) _ _⟩
 refine⟨λU=>⟨λA=>?_,λA=>bo (by simp only[bP]at A;have:=hn V;omega)⟩,λU=>bo (by simp only[bP]at U;omega)⟩
 simp only[ao]at A
 obtain⟨d0,d1⟩:=Lf (f:=q) (d:=2) b0 V
 have d2:Int.tdiv q 2<=q -1:=by rw[ou b0];omega
 rw[aP (b:=Int.tdiv q 2) V V]
 generalize Int.tdiv q 2=A at*
 have af:=sq (f:=A) (c:=18) V
 refine⟨bd,?_⟩
 refine XP.then (Oi _ A rfl ⟨d0,V⟩ (l.size::t.size::S) e _ h d p j K v W (λk he=>by have:=ae k he;omega) (by simp[ab]) (Y.to z r6) V (hv.le (fh ((w.fz _).trans z))) V ht) L6 λs7 H m7 h7 q7 r7 T=>⟨_,_,_,rfl,?_⟩
 have ag:e≠l.size:=V
 have B7:cB m7 l.size bz [.i k.op,.i k.bL,.s L]:=Q.congr (T.same _ V bK)
 refine⟨B7.fm E,?_⟩
 intro m8
 have B8:cB m8 l.size bz [.i H.op,.i H.bL,.s s7]:=cB.aj (m:=m7) (o:=0) (r:=[.i H.op,.i H.bL,.s s7]) B7
 have f8:Fz [e] B m8:=(z.trans T).aj (Or.inr V) _ _
 have s8:m8.size=m7.size:=az _ _ _ _
 have z7:=T.size
 refine⟨λc s=>bh _ _ _ _ (by have:=(R c s).1;omega),⟨s7,H,u -1,d0,V,V,V,B8,?_,q7.1,q7.2,?_,f8,V⟩,by show A.toNat<q.toNat;omega⟩
 ·exact eJ.le (bS E λy hc=>hc) h7
 ·refine Y.rd.aj (r7.mono ?_) (z.trans T) V 0 _
  rw[show 19 -(u -1)=19 -u+1 by omega,oA];omega
end
end
section
structure HX(S:List Nat)(ds:List bq)(nf a:Nat)(M:I)(s:O)(e:Ex):Prop where
 sl:eJ (bA S M) s e.bu
 wx:WX ds nf a e
structure Rs(rb:Nat)(bs:O)(m:I)(Q:Nat)(M:I):Prop where
 f:Fz [rb] m M
 r:Rd rb bs Q M
section
variable{S L:List Nat}{f Q q u k a i:Nat}{j d p s w:O}{h:List bq}{t:List cY}{n M c:I}{g:Ex}{v:List Int}{K:Int->Int->O->I->Prop}
def HX.fz(b:HX S h i a M s g)(e:f∈S)(d:Fz [f] M c):HX S h i a c s g:=⟨eJ.le (d.cJ (by simp[e])) b.sl,b.wx⟩
def HX.ext(b:HX S h i a M s g)(x:J M c):HX S h i a c s g:=⟨eJ.le (x.cJ _) b.sl,b.wx⟩
def HX.fw(b:HX S h i a M s g)(x:J M c)(f:M.size<=k):HX (k::S) h i a c s g:=⟨eJ.le (x.bA λe d=>(List.mem_cons.1 d).elim (λb=>Or.inr V) Or.inl) b.sl,b.wx⟩
def HX.fG(b:HX (k::S) h i a M s g):HX S h i a M s g:=⟨eJ.le (gJ M λ_=>ai _) b.sl,b.wx⟩
def HX.put(b:HX S h i a M s g)(c:k∈S)(o:Nat)(l:List Ce):HX S h i a (aj M k o l) s g:=⟨eJ.le (bS c λ_ b=>b) b.sl,b.wx⟩
def Rs.ext(h:Rs f j n Q M)(x:J M c):Rs f j n Q c:=⟨h.f.then x,h.r.ext x⟩
def Rs.to(h:Rs f j n Q M)(a:Fz [f] M c)(r:Rd f j q c):Rs f j n q c:=⟨h.f.trans a,r⟩
def Rs.put(h:Rs f j n Q M)(b:Rd f j u n)(a:n.size<=k)(o:Nat)(l:List Ce):Rs f j n Q (aj M k o l):=⟨h.f.aj (Or.inr a) _ _,b.aj h.r h.f a o l⟩
def lw(h:f<n.size)(a:∀b∈L,n.size<=b/\b<M.size):Lw f L M:=λb c=>⟨(a b c).2,by have:=(a b c).1;omega⟩
def kg(a:Fz [f] M c)(h:f<n.size)(b:n.size<=k/\k<M.size)(o:Nat):D c k o=D M k o:=aI (a.same k b.2 bK) o
def jz{d c:I}{z a:List Ce}{t:Nat}(f:d=M.push (.cells (br z) t))(g:c=aj d M.size 0 a)(i:a.length=z.length):J M c/\cB c M.size t a/\c.size=M.size+1:=by
 subst f g;refine⟨(J.push M _).aj (ad _) _ _,?_,by rw[az];simp⟩;have h:=cB.aj (m:=M.push (.cells (br z) t)) (b:=M.size) (e:=t) (l:=z) (o:=0) (r:=a) (cB.push _ _ _);rwa[show iE z 0 a=a from by
  have h:=zr [] a z V;rw[Gd V]at h;simpa using h]at h
def XP.kk{e:Nat}{b:List Value}{T:Ex->Prop}(n:aN bY e b M (XP S f j M Q T))(o:Lw f L M)(p:∀s g c,eJ (bA S c) s g.bu->T g->Rd f j Q c->Fz [f] M c->K g.op g.bL s c):aN bY e b M λv c=>dV L M c/\∃h i:Int,∃k:O,v=.agg #[vi h,vi i,O.v k]/\K h i k c:=
 XP.then n o λs g c a l m d=>⟨_,_,_,rfl,p s g c a l m d⟩
def uz(S:List Nat)(h:List bq)(i:Nat)(m:Lw f L M){n:Int}(p:0<=n/\n<(a:Int))(o:∀s c,HX S h i a c s (.mk 12 n [])->J M c->K 12 n s c):aN bY 313 [vi n] M λv c=>dV L M c/\∃b d:Int,∃e:O,v=.agg #[vi b,vi d,O.v e]/\K b d e c:=
 (kM S n M).mono λv c⟨s,g,j,k,l,x⟩=>⟨m.da (x.fz _),by subst l;exact⟨_,_,_,j,o s c ⟨k,.Rg p⟩ x⟩⟩
def Gp(S:List Nat)(h:List bq)(i a:Nat)(m:Lw f L M)(n:Int)(o:∀s c,HX S h i a c s (.mk 0 n [])->J M c->K 0 n s c):aN bY 278 [vi n] M λv c=>dV L M c/\∃b d:Int,∃e:O,v=.agg #[vi b,vi d,O.v e]/\K b d e c:=
 (ym S n M).mono λv c⟨s,g,j,k,l,x⟩=>⟨m.da (x.fz _),by subst l;exact⟨_,_,_,j,o s c ⟨k,.int n⟩ x⟩⟩
def nk(l:List (Ex×O))(d:l.length<=1000)(b:∀c∈S,c<M.size)(h:∀x∈l,eJ (bA S M) x.2 x.1.bu){a:List Ce}{n:Nat}(c:a=l.flatMap λx=>[.i x.1.op,.i x.1.bL,.s x.2])(e:n=l.length):eJ (bA S (M.push (.cells (br a) bz))) (.mk M.size 0 n n) (l.map (·.1)):=
 (Iz b 0 l d h c e).done zd.mono b bd bK
def iD{bu:List Ex}(k:eJ (bA S M) s bu){b bL:Int}(q:WX h i a (.mk b bL bu))(o:Lw f L M)(p:∀s c,HX S h i a c s (.mk b bL bu)->J M c->K b bL s c):
 aN bY 311 [vi b,vi bL,O.v s] M λv c=>dV L M c/\∃d e:Int,∃j:O,v=.agg #[vi d,vi e,O.v j]/\K d e j c:=
 (GJ k b bL).mono λv c⟨s,g,l,m,n,x⟩=>⟨o.da (x.fz _),by subst n;exact⟨_,_,_,l,p s c ⟨m,q⟩ x⟩⟩
def C1(x:∀a∈S,a<M.size)(z:f∈S)(a:GC f j Q d p h t M)(C:Q+Cg 18<=10000000000000000)(B:IR f M w v)(E:v.length<=100){e b:Int}(A:Ty h e)(i:0<=b/\b<=18)(u:Lw f L M)(y:∀g s c,HX S h t.length v.length c s g->Rd f j (Q+Cg 18) c->Fz [f] M c->K g.op g.bL s c):
 aN bY 310 [vp f 0,.agg #[O.v d,O.v p],O.v w,vi e,vi b] M λv c=>dV L M c/\∃k l:Int,∃m:O,v=.agg #[vi k,vi l,O.v m]/\K k l m c:=
 have D:=sq i.2
 XP.kk (Oi _ b rfl ⟨i.1,V⟩ S f Q j d p w M v e x z a V B V A) u λs g c n o q r=>y g s c ⟨n,o.1⟩ (q.mono V) r
end
end
section
def WX.Mx{b:List bq}{c a:Nat}{n:Int}{bu:List Ex}(h:∀e∈bu,WX b c a e):WX b c a (.mk 6 n bu):=.dY bd (λh=>V) bd (λh=>V) h
section
variable{c:List Nat}{e P:Nat}{g d p:O}{f:List bq}{h:List cY}{b:I}
def JC(f:List bq)(z:Nat)(hS:∀ab∈c,ab<b.size)(ac:e∈c)(X:Rd e g P b)(hP:P+100<=10000000000000000)(aG:Int):aN bY 312 [vp e 0,vi aG] b (XP c e g b (P+100) (WX f z 0)):=by
 apply Cc (e,0);simp -zeta only[aE,aD];intro aB af;have x2:J b af:=(J.push b _).trans (J.push aB _);have s2:af.size=b.size+2:=by simp[af,aB]
 clear_value af;have Q:=X.lt;have ar:∀{h:I},af.size<=h.size->∀ab∈b.size::c,ab<h.size:=λv=>bG hS V V;have Z:Rs e g b P af:=⟨x2.fz _,X.ext x2⟩;refine iD (S:=b.size::c) (a:=0) (h:=f) (i:=z) (f:=e) (bu:=[]) (kY _ _ _ _ _ _) (.Mx E) (lw Q bK) λs3 m3 h3 x3=>?_;intro m4 F;obtain⟨x5,B5,z5⟩:=jz (M:=m3) (d:=m4) (c:=F) rfl rfl rfl;clear_value F;have z3:=x3.size;have r5:=(Z.ext x3).ext x5;refine⟨λ_=>?_,λ_=>?_⟩
 ·intro m6;have x6:J F m6:=J.push _ _;clear_value m6;have z6:=x6.size;refine iD (S:=b.size::c) (a:=0) (h:=f) (i:=z) (f:=e) (bu:=[]) (kY _ _ _ _ _ _) (.Mx E) (lw Q bK) λT H h7 x7=>?_;intro m8 y;obtain⟨x9,B9,z9⟩:=jz (M:=H) (d:=m8) (c:=y) rfl rfl rfl;clear_value y;have z7:=x7.size;have r9:=((r5.ext x6).ext x7).ext x9;have h9:=h7.ext x9;have G:∀{h C:I},y.size<=h.size->Fz [e] h C->∀i,D C H.size i=D h H.size i:=λv ai i=>kg ai Q ⟨V,V⟩ i;have LW:∀{h:I},y.size<=h.size->Lw e [H.size,m3.size,b.size] h:=λv=>lw Q bK;have LK:∀{h:I}{s:Nat},y.size<=s->s<h.size->Lw e [s,H.size,m3.size,b.size] h:=λv W=>lw Q bK;have hw:∀n:Int,WX f z 0 (.mk 6 3 [.mk 6 2 [],.mk 0 n [],.mk 6 2 []]):=λn=>.Mx (by simp;exact⟨.Mx E,.int n,.Mx E⟩);refine⟨λkj h=>∃K l,kj.2=0/\b.size<=kj.1/\cB h kj.1 bz [.i l.op,.i l.bL,.s K]/\HX (b.size::c) f z 0 h K l/\HX (b.size::c) f z 0 h T (.mk 6 2 [])/\Rs e g b (P+1) h/\y.size<=h.size,?_,?_⟩
  ·have il:∀{s t0:Nat}{h:I}{n:Int},cB h s bz [.i 0,.i 0,.s .nil]->y.size<=s->eJ (bA (s::b.size::c) h) (.mk t0 0 3 3) [.mk 6 2 [],.mk 0 n [],.mk 6 2 []]->Rs e g b (P+1) h->HX (s::b.size::c) f z 0 h T (.mk 6 2 [])->
    aN bY 311 [vi 6,vi 3,O.v (.mk t0 0 3 3)] h λaH C=>dV [s,H.size,m3.size,b.size] h C/\∃r0 r1:Int,∃Z:O,aH=.agg #[vi r0,vi r1,O.v Z]/\∃K l,((s,0):Nat×Nat).2=0/\b.size<=((s,0):Nat×Nat).1/\cB (aj C s 0 [.i r0,.i r1,.s Z]) ((s,0):Nat×Nat).1 bz [.i l.op,.i l.bL,.s K]/\HX (b.size::c) f z 0 (aj C s 0 [.i r0,.i r1,.s Z]) K l/\HX (b.size::c) f z 0 (aj C s 0 [.i r0,.i r1,.s Z]) T (.mk 6 2 [])/\Rs e g b (P+1) (aj C s 0 [.i r0,.i r1,.s Z])/\y.size<=(aj C s 0 [.i r0,.i r1,.s Z]).size:=λB hk Y R v=>
    iD Y (hw _) (LK hk B.lt) λs' C W av=>⟨s',.mk 6 3 [.mk 6 2 [],.mk 0 _ [],.mk 6 2 []],rfl,by show b.size<=_;omega,cB.aj (m:=C) (o:=0) (r:=[.i 6,.i 3,.s s']) (B.ext av),(W.put E _ _).fG,((v.ext av).put E _ _).fG,(R.ext av).put X V _ _,by rw[az];have:=B.lt;have:=av.size;omega⟩
   have zb:∀h:I,J h (h.push (.cells (br [.i 0,.i 0,.s .nil]) bz))/\cB (h.push (.cells (br [.i 0,.i 0,.s .nil]) bz)) h.size bz [.i 0,.i 0,.s .nil]:=λh=>⟨J.push _ _,cB.push _ _ _⟩;have au:∀{ah:List Nat}{h:I}{n:Int}{si:O},(∀ab∈ah,ab<h.size)->HX ah f z 0 h T (.mk 6 2 [])->HX ah f z 0 h si (.mk 0 n [])->eJ (bA ah (h.push (.cells (br [.i 6,.i 2,.s T,.i 0,.i n,.s si,.i 6,.i 2,.s T]) bz))) (.mk h.size 0 3 3) [.mk 6 2 [],.mk 0 n [],.mk 6 2 []]:=λhS v W=>
    nk [(.mk 6 2 [],T),(.mk 0 _ [],_),(.mk 6 2 [],T)] E hS (by simp;exact⟨v.sl,W.sl,v.sl⟩) rfl rfl
   have ay:∀{h:I}{s:Nat},y.size<=s->s<h.size->∀ab∈s::b.size::c,ab<h.size:=λv W=>bG (ar (h:=y) V) V W;refine⟨(bO r9.r V 9).mono λ_ w⟨n,l,_,_,ap,u⟩=>⟨(LW (ad _)).da u,n,l,G (ad _) u _,G (ad _) u _,G (ad _) u _,G (ad _) u _,G (ad _) u _,G (ad _) u _,?_,?_⟩,?_⟩
   ·have L:=r9.to u ap;have vP:=u.size;have N:=h9.fz (by simp[ac]) u;refine Gp (b.size::c) f z 0 (LW vP) n λaC p ak q=>?_;have aw:=q.size;have d:=λi=>G vP (q.fz _) i;refine⟨d _,d _,d _,d _,d _,d _,?_,?_⟩
    ·intro k;have j:J p k:=J.push _ _;have Y:eJ (bA (b.size::c) k) (.mk p.size 0 3 3) [.mk 6 2 [],.mk 0 n [],.mk 6 2 []]:=au (ah:=b.size::c) (ar V) (N.ext q) ak;have aI:=j.size;refine⟨?_,?_⟩
     ·refine iD (M:=k) (f:=e) Y (hw n) (LW V) λaA A aq t=>?_;intro U;have al:J A U:=J.push _ _;have am:=t.size;have d:=λi=>G (h:=A) (C:=U) V (al.fz _) i;refine⟨d _,d _,d _,d _,d _,d _,?_⟩;intro ag;obtain⟨aa,ae,an⟩:=jz (M:=A) (d:=U) (c:=ag) rfl rfl rfl;exact⟨aA,.mk 6 3 [.mk 6 2 [],.mk 0 n [],.mk 6 2 []],rfl,by show b.size<=A.size;omega,ae,aq.ext aa,(((N.ext q).ext j).ext t).ext aa,(((L.ext q).ext j).ext t).ext aa,V⟩
     ·intro A;obtain⟨t,U⟩:J k A/\cB A k.size bz [.i 0,.i 0,.s .nil]:=zb k;have d:=λi=>G (h:=k) (C:=A) V (t.fz _) i;exact⟨d _,d _,d _,d _,d _,d _,il U V (eJ.le (t.bA λan hb=>(List.mem_cons.1 hb).elim (λv=>Or.inr V) Or.inl) Y) (((L.ext q).ext j).ext t) (((N.ext q).ext j).fw t (ad _))⟩
    ·intro k;obtain⟨j,ag⟩:J p k/\cB k p.size bz [.i 0,.i 0,.s .nil]:=zb p;have d:=λi=>G (h:=p) (C:=k) V (j.fz _) i;refine⟨d _,d _,d _,d _,d _,d _,?_⟩;intro A;have t:J k A:=J.push _ _;have U:=(N.ext q).fw j (ad _);exact il (ag.ext t) V (au (ay V ag.lt) U (ak.fw j (ad _))) (((L.ext q).ext j).ext t) (U.ext t)
   ·have L:=r9.to u ap;have vP:=u.size;have N:=h9.fz (by simp[ac]) u;intro p;obtain⟨q,aa⟩:J w p/\cB p w.size bz [.i 0,.i 0,.s .nil]:=zb w;have d:=λi=>G (h:=w) (C:=p) V (q.fz _) i;have aw:=q.size;refine⟨d _,d _,d _,d _,d _,d _,?_⟩;refine Gp (w.size::b.size::c) f z 0 (LK V aa.lt) n λam k al j=>?_;have d:=λi=>G (h:=p) (C:=k) V (j.fz _) i;refine⟨d _,d _,d _,d _,d _,d _,?_⟩;intro A;have t:J k A:=J.push _ _;have U:=(N.fw q (ad _)).ext j;exact il ((aa.ext j).ext t) V (au (ay V (aa.ext j).lt) U al) (((L.ext q).ext j).ext t) (U.ext t)
   ·intro w;obtain⟨L,ax⟩:J y w/\cB w y.size bz [.i 0,.i 0,.s .nil]:=zb y;have d:=λi=>G (h:=y) (C:=w) V (L.fz _) i;have vP:=L.size;refine⟨d _,d _,d _,d _,d _,d _,?_⟩;refine(bO (r9.ext L).r V 9).mono λ_ p⟨n,l,_,_,aF,ae⟩=>⟨(LK (ad _) ax.lt).da ae,n,l,?_⟩;have d:=λi=>G (h:=w) (C:=p) V ae i;refine⟨d _,d _,d _,d _,d _,d _,?_⟩;have aa:=ax.congr (ae.same y.size ax.lt bK);have aw:=ae.size;refine Gp (y.size::b.size::c) f z 0 (LK (ad _) aa.lt) n λam k al j=>?_;have d:=λi=>G (h:=p) (C:=k) V (j.fz _) i;refine⟨d _,d _,d _,d _,d _,d _,?_⟩;intro A;have t:J k A:=J.push _ _;have U:=((h9.fw L (ad _)).fz (by simp[ac]) ae).ext j;exact il ((aa.ext j).ext t) (ad _) (au (ay (ad _) (aa.ext j).lt) U al) ((((r9.ext L).to ae aF).ext j).ext t) (U.ext t)
  ·rintro⟨s,i⟩ h ⟨K,l,ho,hk,B,v,W,R,aa⟩;simp only at ho hk B;subst ho;have bl:=B.lt;refine⟨_,B.cy 0,_,B.cy 1,_,B.cy 2,?_⟩;have L3:∀{C:I},h.size<=C.size->Lw e [H.size,m3.size,b.size] C:=λv=>LW V;refine(bO R.r V 9).mono λ_ w⟨n,en,_,_,ap,u⟩=>⟨(L3 (ad _)).da u,n,en,?_⟩;have vP:=u.size;have gg:∀{U ae:I},h.size<=U.size->Fz [e] U ae->∀i,D ae s i=D U s i:=λv ai i=>kg ai Q ⟨hk,V⟩ i;have ga:=λi=>G (h:=h) (C:=w) aa u i;have gb:=λi=>gg (U:=h) (ae:=w) (ad _) u i;refine⟨?_,?_,?_,?_,?_,?_,?_⟩;iterate 6 first|exact ga _|exact gb _
   refine Gp (b.size::c) f z 0 (L3 vP) n λaC p ak q=>?_;have ga:=λi=>G (h:=w) (C:=p) V (q.fz _) i;have gb:=λi=>gg (U:=w) (ae:=p) vP (q.fz _) i;refine⟨?_,?_,?_,?_,?_,?_,?_⟩;iterate 6 first|exact ga _|exact gb _
   intro k;have j:J p k:=J.push _ _;have aw:=q.size;have ah:=(v.fz (by simp[ac]) u).ext q;have an:=(W.fz (by simp[ac]) u).ext q;have Y:eJ (bA (b.size::c) k) (.mk p.size 0 3 3) [l,.mk 0 n [],.mk 6 2 []]:=nk (S:=b.size::c) (M:=p) [(l,K),(.mk 0 n [],aC),(.mk 6 2 [],T)] E (ar V) (by simp;exact⟨ah.sl,ak.sl,an.sl⟩) rfl rfl;refine iD (M:=k) (f:=e) Y (.Mx (by simp;exact⟨ah.wx,ak.wx,an.wx⟩)) (L3 (C:=k) (by have:=j.size;omega)) λaA A aq t=>?_;have au:=(((R.to u ap).ext q).ext j).ext t;exact⟨aA,_,rfl,(aq.put E _ _).fG.sl,aq.wx,((au.put X (ad _) _ _).r).mono V,(au.put X (ad _) _ _).f⟩
 ·intro m6 H;obtain⟨x7,B7,z7⟩:=jz (M:=F) (d:=m6) (c:=H) rfl rfl rfl;clear_value H;have r7:=r5.ext x7;have C:∀{h:I},H.size<=h.size->Lw e [m3.size,b.size] h:=λv=>lw Q bK;refine(bO r7.r V 3).mono λ_ m8⟨n,en,n0,n3,T,u⟩=>⟨(lw Q bK:Lw e [F.size,m3.size,b.size] H).da u,n,en,?_⟩;rw[aP (b:=1+n) V V];have z8:=u.size;have W:b.size<=F.size:=V;refine⟨λs h=>0<=s/\s<=3/\∃K l,cB h F.size bz [.i l.op,.i l.bL,.s K]/\HX (F.size::b.size::c) f z 0 h K l/\Rs e g b (P+1+4*(3 -s).toNat) h/\H.size<=h.size,λs _=>s.toNat,⟨V,V,s3,.mk 6 0 [],B7.congr (u.same _ V bK),((h3.ext x5).fw x7 (ad _)).fz (by simp[ac]) u,?_,z8⟩,?_⟩
  ·exact⟨(r7.to u T).f,T.mono V⟩
  rintro s h ⟨i0,i3,K,l,B,v,R,aa⟩;refine⟨λhi=>?_,λ_=>⟨_,B.cy 0,_,B.cy 1,_,B.cy 2,K,l,rfl,(v.fG.put E _ _).fG.sl,v.wx,(R.put X (ad _) _ _).r.mono V,(R.put X (ad _) _ _).f⟩⟩;simp only[ao]at hi;refine⟨_,B.cy 0,_,B.cy 1,_,B.cy 2,?_⟩;have d:∀{U ae:I},H.size<=U.size->Fz [e] U ae->∀i,D ae F.size i=D U F.size i:=λv ai i=>kg ai Q ⟨W,V⟩ i;refine(yL R.r V).mono λ_ y⟨A,en,d9,t⟩=>⟨(C aa).da t,A,en,d aa t _,d aa t _,d aa t _,?_⟩;have z9:=t.size;refine Gp (F.size::b.size::c) f z 0 (C V) A λap w N L=>⟨d V (L.fz _) _,d V (L.fz _) _,d V (L.fz _) _,?_⟩;intro p;have q:J w p:=J.push _ _;have vP:=L.size;have aw:=q.size;have ah:=(v.fz (by simp[ac]) t).ext L;have Y:eJ (bA (F.size::b.size::c) p) (.mk w.size 0 2 2) [.mk 0 A [],l]:=nk (S:=F.size::b.size::c) (M:=w) [(.mk 0 A [],ap),(l,K)] E (bG (ar (h:=w) V) (ad _) V) (by simp;exact⟨N.sl,ah.sl⟩) rfl rfl;refine iD (M:=p) (f:=e) Y (.Mx (by simp;exact⟨N.wx,ah.wx⟩)) (C (h:=p) V) λam k al j=>?_;have ag:cB k F.size bz [.i l.op,.i l.bL,.s K]:=(((B.congr (t.same _ B.lt bK)).ext L).ext q).ext j;have aI:=j.size;rw[aP (b:=s -1) V V];refine⟨ag.fm E,λan hb=>bh _ _ _ _ (by simp at hb;omega),⟨V,V,am,.mk 6 1 [.mk 0 A [],l],cB.aj (m:=k) (o:=0) (r:=[.i 6,.i 1,.s am]) ag,al.put E _ _,?_,by rw[az];omega⟩,by show(s -1).toNat<s.toNat;omega⟩;have ak:=((((R.to t d9).ext L).ext q).ext j).put X W 0 [.i 6,.i 1,.s am];exact⟨ak.f,ak.r.mono V⟩
end
end
section
structure BX(S:List Nat)(ds:List bq)(nf a k:Nat)(M:I)(s:O)(e:Ex):Prop where
 b:cB M k bz [.i e.op,.i e.bL,.s s]
 h:HX (k::S) ds nf a M s e
section
variable{S:List Nat}{d Q i j k a c:Nat}{h s:O}{b:List bq}{g M f:I}{e:Ex}
def BX.new{f d:I}(h:HX S b c a M s e)(g:f=M.push (.cells (br [.i 0,.i 0,.s .nil]) bz))(i:d=aj f M.size 0 [.i e.op,.i e.bL,.s s]):J M d/\BX S b c a M.size d s e/\d.size=M.size+1:=
 let⟨x,B,z⟩:=jz g i rfl;⟨x,⟨B,h.fw x (ad _)⟩,z⟩
def BX.fz(h:BX S b c a k M s e)(j:d∈S)(i:k≠d)(g:Fz [d] M f):BX S b c a k f s e:=⟨h.b.congr (g.same k h.b.lt (by simpa using i)),h.h.fz (by simp[j]) g⟩
def BX.ext(h:BX S b c a k M s e)(x:J M f):BX S b c a k f s e:=⟨h.b.ext x,h.h.ext x⟩
def BX.set(h:BX S b c a k M s e){f:O}{d:Ex}(g:HX (k::S) b c a M f d):BX S b c a k (aj M k 0 [.i d.op,.i d.bL,.s f]) f d:=⟨cB.aj (m:=M) (o:=0) (r:=[.i d.op,.i d.bL,.s f]) h.b,g.put E _ _⟩
def HX.il(f:HX (k::S) b c a M s e)(r:Rs d h g Q M)(l:Rd d h j g)(m:g.size<=k)(n:Q<=i):XP S d h g i (WX b c a) (.agg #[vi e.op,vi e.bL,O.v s]) (aj M k 0 [.i e.op,.i e.bL,.s s]):=
 ⟨s,e,rfl,(f.put E _ _).fG.sl,f.wx,(r.put l m _ _).r.mono n,(r.put l m _ _).f⟩
end
section
variable{b:List Nat}{c P:Nat}{g d p:O}{f:List bq}{e:List cY}{m:I}
def Hx(hS:∀l∈b,l<m.size)(z:c∈b)(l:GC c g P d p f e m)(hP:P+200+Cg 18<=10000000000000000):aN bY 279 [vp c 0,.agg #[O.v d,O.v p]] m (XP b c g m (P+200+Cg 18) (WX f e.length 0)):=by
 apply Ai (c,0);simp -zeta only[aE,aD];intro h q A;obtain⟨x2,hl⟩:=di (a:=h) (c:=q) rfl rfl;have s1:h.size=m.size+1:=by simp[h]
 have s2:q.size=m.size+2:=by simp[q,s1]
 have Y:J q A:=J.push _ _;have y:=l.rd.lt;have ac:ar (bA [c] A) (.mk q.size 0 3 3) [1,1,3]:=ar.lit aB _ bK rfl rfl E;clear_value A;clear_value q;have G:∀{i:I},q.size<=i.size->∀l∈h.size::b,l<i.size:=λF=>bG hS V V;have r3:Rs c g m P A:=⟨(x2.trans Y).fz _,(l.rd.ext x2).ext Y⟩;have z3:=Y.size;refine(jw r3.r V ac E).mono λ_ m4⟨X,u,ht,d4,H⟩=>⟨(lw y bK:Lw c [h.size,m.size] A).da H,X,u,?_⟩;have r4:=r3.to H d4;have z4:=H.size;intro R;have x5:J m4 R:=J.push _ _;have ae:ar (bA [c] R) (.mk m4.size 0 1 1) [X]:=ar.lit aB _ (by simp;exact d4.lt) rfl rfl E;clear_value R;have T:=r4.ext x5;have z5:=x5.size;refine C1 (S:=h.size::b) (G V) (by simp[z]) (l.to T.f T.r) V ae E (l.gp.ty (t:=0) bd bd) bd (lw y bK) λD s6 v h6 d6 f6=>?_;intro m7 B;obtain⟨x8,b8,z8⟩:=BX.new (f:=m7) (d:=B) h6 rfl rfl;clear_value B;have z6:=f6.size;have U:=(T.to f6 d6).ext x8;have N:v.size≠c:=V;have L8:∀{i:I},B.size<=i.size->Lw c [v.size,h.size,m.size] i:=λF=>lw y bK;refine⟨λi=>∃W u,BX (h.size::b) f e.length 1 v.size i W u/\Rs c g m (P+2+Cg 18) i/\B.size<=i.size,?_,?_⟩
 ·refine(bO U.r V 3).mono λ_ n⟨aa,K,_,_,x,j⟩=>⟨(L8 (ad _)).da j,aa,K,λ_=>?_,λ_=>⟨s6,D,b8.fz (by simp[z]) N j,⟨(U.to j x).f,x.mono V⟩,j.size⟩⟩;have s:=b8.fz (by simp[z]) N j;have r9:=U.to j x;have z9:=j.size;intro o;have w:J n o:=J.push _ _;have Q:eJ (bA (v.size::h.size::b) o) (.mk n.size 0 1 1) [D]:=nk (S:=v.size::h.size::b) (M:=n) [(D,s6)] E (bG (G (i:=n) V) (ad _) s.b.lt) (by simp;exact s.h.sl) rfl rfl;have vP:=w.size;refine iD (M:=o) Q (.dY (a:=1) (b:=f) (c:=e.length) bd (λF=>V) bd (λF=>V) (by simp;exact s.h.wx)) (L8 V) λab af L C=>?_;have r:=(r9.ext w).ext C;have Z:=((s.ext w).ext C).set L;exact⟨ab,.mk 5 0 [D],Z,⟨(r.put l.rd V _ _).f,((r.put l.rd V _ _).r).mono V⟩,by rw[az];have:=C.size;omega⟩
 rintro i ⟨W,u,r,aa,ah⟩;refine⟨_,r.b.cy 0,_,r.b.cy 1,_,r.b.cy 2,?_⟩;have Z:∀{i:I},B.size<=i.size->Lw c [h.size,m.size] i:=λF=>lw y bK;refine XP.kk (JC (c:=h.size::b) f e.length (G V) (by simp[z]) aa.r V X) (Z ah) λs9 e9 n h9 w9 x j=>?_;have K:=λag=>kg j y (k:=v.size) ⟨V,r.b.lt⟩ ag;refine⟨K _,K _,K _,?_⟩;have z9:=j.size;intro o;have w:J n o:=J.push _ _;have s:=r.fz (by simp[z]) N j;have Q:eJ (bA (h.size::b) o) (.mk n.size 0 2 2) [e9,u]:=nk (S:=h.size::b) (M:=n) [(e9,s9),(u,W)] E (G V) (by simp;exact⟨h9,s.h.fG.sl⟩) rfl rfl;refine iD (M:=o) Q (.lt w9 r.h.wx) (Z (by have:=w.size;omega)) λab af L C=>?_;exact L.il (((aa.to j x).ext w).ext C) l.rd V V
def Hj(hS:∀j∈b,j<m.size)(z:c∈b)(j:GC c g P d p f e m)(hP:P+200+2*Cg 18<=10000000000000000){N:Nat}{q:cY}(hq:e[N]? =some q)(h1:1<=q.params.length):
 aN bY 282 [vp c 0,.agg #[O.v d,O.v p],vi N] m (XP b c g m (P+200+2*Cg 18) (WX f e.length q.params.length)):=by
 apply zW (c,0)
 simp -zeta only[aE,aD]
 intro i F
 obtain⟨x2,hl⟩:=di (a:=i) (c:=F) rfl rfl
 have s1:i.size=m.size+1:=by simp[i]
 have s2:F.size=m.size+2:=by simp[F,s1]
 have y:=j.rd.lt
 clear_value F
 have w:∀{h:I},F.size<=h.size->∀j∈i.size::b,j<h.size:=λo=>bG hS V V
 have r2:Rs c g m P F:=⟨x2.fz _,j.rd.ext x2⟩
 have u:∀{h:I},F.size<=h.size->Lw c [i.size,m.size] h:=λo=>lw y bK
 obtain⟨ps,aw,e0,e1⟩:=j.hp.u hq
 have aX:=ax hq
 have a0:=j.hp.len
 have aa:=uB _ (j.gp.df q (au hq))
 have h3:q.params.length<=3:=aa.1
 have Z:∀{h:I},Fz [c] m h->IR c h ps q.params:=λah=>aw.le (fh ah)
 have E1:∀{h:I},Fz [c] m h->D h p.F (p.off+N*5+1)=some (vi q.aR):=λah=>(dP.1 (fh ah _ _ _ e1)).2
 refine⟨V,V,ps,(dP.1 (fh r2.f _ _ _ e0)).2,?_⟩
 refine uz (i.size::b) f e.length (a:=q.params.length) (u (ad _)) V λs3 m3 av x3=>?_
 have z3:=x3.size
 refine Gp (i.size::b) f e.length q.params.length (u z3) 1 λs4 m4 h4 x4=>?_
 have z4:=x4.size
 intro m5
 have x5:J m4 m5:=J.push _ _
 have aL:eJ (bA (i.size::b) m5) (.mk m4.size 0 2 2) [.mk 12 0 [],.mk 0 1 []]:=nk (S:=i.size::b) (M:=m4) [(.mk 12 0 [],s3),(.mk 0 1 [],s4)] E (w V) (by simp;exact⟨(av.ext x4).sl,h4.sl⟩) rfl rfl
 have z5:=x5.size
 refine iD (M:=m5) aL (.dY (a:=q.params.length) (b:=f) (c:=e.length) bd (λo=>V) bd (λo=>V) (by simp;exact⟨av.wx,h4.wx⟩)) (u V) λs6 Q h6 x6=>?_
 have z6:=x6.size
 have r6:=(((r2.ext x3).ext x4).ext x5).ext x6
 intro m7
 have x7:J Q m7:=J.push _ _
 have g7:GE (i.size::b) Q m7 (.mk Q.size 0 1 1) [.mk 2 0 [.mk 12 0 [],.mk 0 1 []]]:=Iz (w V) 0 [(.mk 2 0 [.mk 12 0 [],.mk 0 1 []],s6)] E (by simpa using h6.sl) rfl rfl
 clear_value m7
 have a1:=aw.len
 refine Of (a:=q.params.length) V h1 (λab H h=>∃A,GE (i.size::b) Q h H A/\A.length=ab/\(∀x∈A,WX f e.length q.params.length x)/\Rd c g (P+22*ab) h/\Fz [c] Q h) ⟨_,g7,rfl,by simpa using h6.wx,(r6.r.ext x7).mono V,x7.fz _⟩ ?_
 rintro ab H h aW μ aY hj ⟨A,s,aZ,hw,rM,fM⟩ aP
 have Y:=r6.f.trans fM
 have zM:=fM.size
 refine⟨λo=>?_,λ_=>?_⟩
 ·simp only[ao]at o
  obtain⟨B,r⟩:=ag (l:=q.params) (k:=ab) V
  have v:=aa.2.1 B (au r)
  refine⟨V,V,B,(dP.1 ((Z Y).u r)).2,?_⟩
  exact XP.jK (pG (f:=H.F::i.size::b) (bG (w (h:=h) V) (ad _) s.aY.2) (by simp[z]) (j.to Y rM) V (Z Y) V (j.gp.ty v.1 v.2)) s fM (u V) r6.r (by simp[z]) V λx aA T K g' R G _ _=>
   aP V _ _ ⟨_,g',bK,λC L=>by rcases List.mem_append.1 L with o|o;exact hw C o;simp at o;subst o;exact K.1,R.mono V,G⟩
 refine iD (s.done zd.mono (w (h:=Q) V) bd V) (.dY (a:=q.params.length) (b:=f) (c:=e.length) bd (λo=>V) bd (λ_=>⟨V,V⟩) hw) (u V) λs8 r h8 x8=>?_
 intro m9 B
 obtain⟨aB,af,vP⟩:=BX.new (f:=m9) (d:=B) h8 rfl rfl
 clear_value B
 have z8:=x8.size
 have G:Rs c g m (P+66) B:=⟨(Y.then x8).then aB,((rM.ext x8).ext aB).mono V⟩
 have hk:r.size≠c:=V
 refine⟨λh=>∃H x,BX (i.size::b) f e.length q.params.length r.size h H x/\Rs c g m (P+66+Cg 18) h/\B.size<=h.size,⟨V,V,_,E1 G.f,λ_=>?_,λ_=>⟨s8,_,af,⟨G.f,G.r.mono V⟩,ad _⟩⟩,?_⟩
 ·have X:∀{h:I},B.size<=h.size->Lw c [r.size,i.size,m.size] h:=λo=>lw y bK
  have aj:∀{h:I},B.size<=h.size->∀j∈r.size::i.size::b,j<h.size:=λo=>bG (w (h:=B) V) o V
  refine C1 (S:=r.size::i.size::b) (aj (ad _)) (by simp[z]) (j.to G.f G.r) V (Z G.f) V (j.gp.ty (t:=0) bd bd) bd (X (ad _)) λL ak ac T am v=>?_
  have s:=λW=>kg v y (k:=r.size) ⟨V,af.b.lt⟩ W
  refine⟨s _,s _,s _,?_⟩
  have aH:=v.size
  intro C
  have K:J ac C:=J.push _ _
  have ai:=af.fz (by simp[z]) hk v
  have U:eJ (bA (r.size::i.size::b) C) (.mk ac.size 0 2 2) [L,.mk 9 N A]:=nk (S:=r.size::i.size::b) (M:=ac) [(L,ak),(.mk 9 N A,s8)] E (aj aH) (by simp;exact⟨T.sl,ai.h.sl⟩) rfl rfl
  have aV:=K.size
  refine iD (M:=C) U (.Mx (by simp;exact⟨T.wx,h8.wx⟩)) (X V) λal ae an R=>?_
  have ap:=(((G.to v am).ext K).ext R).put j.rd (k:=r.size) V 0 [.i 6,.i 1,.s al]
  have hb:=((ai.ext K).ext R).set an
  exact⟨al,.mk 6 1 [L,.mk 9 N A],hb,ap,by rw[az];have:=R.size;omega⟩
 rintro M3 ⟨H,x,v,aA,a4⟩
 refine Gp (i.size::b) f e.length q.params.length (u V) 0 λak ac T aC=>?_
 have aH:=aC.size
 refine uz (i.size::b) f e.length (a:=q.params.length) (u V) V λaQ C ap K=>?_
 have aV:=K.size
 intro ae
 have R:J C ae:=J.push _ _
 have U:eJ (bA (i.size::b) ae) (.mk C.size 0 2 2) [.mk 0 0 [],.mk 12 0 []]:=nk (S:=i.size::b) (M:=C) [(.mk 0 0 [],ak),(.mk 12 0 [],aQ)] E (w V) (by simp;exact⟨(T.ext K).sl,ap.sl⟩) rfl rfl
 have a5:=R.size
 refine iD (M:=ae) U (.dY (a:=q.params.length) (b:=f) (c:=e.length) bd (λo=>V) bd (λo=>V) (by simp;exact⟨T.wx,ap.wx⟩)) (u V) λaR aM aq aF=>?_
 intro aO ay
 obtain⟨aT,am,a7⟩:=BX.new (f:=aO) (d:=ay) aq rfl rfl
 clear_value ay
 have a6:=aF.size
 have al:=(((aC.trans K).trans R).trans aF).trans aT
 have X:=aA.ext al
 have v:=v.ext al
 refine⟨_,v.b.cy 0,_,v.b.cy 1,_,v.b.cy 2,V,V,_,E1 X.f,?_⟩
 refine C1 (S:=i.size::b) (w V) (by simp[z]) (j.to X.f X.r) V (Z X.f) V (j.gp.ty aa.2.2.1 aa.2.2.2) bd (lw y bK) λan aS ai ar aJ L=>?_
 have s:=λW=>kg L y (k:=r.size) ⟨V,v.b.lt⟩ W
 have g':=λW=>kg L y (k:=aM.size) ⟨V,am.b.lt⟩ W
 refine⟨?_,?_,?_,?_,?_,?_,?_⟩
 iterate 6 first|exact s _|exact g' _
 have a8:=L.size
 intro aj
 have aG:J ai aj:=J.push _ _
 have aI:=v.fz (by simp[z]) hk L
 have U:eJ (bA (i.size::b) aj) (.mk ai.size 0 3 3) [.mk 4 0 [.mk 0 0 [],.mk 12 0 []],x,an]:=nk (S:=i.size::b) (M:=ai) [(.mk 4 0 [.mk 0 0 [],.mk 12 0 []],aR),(x,H),(an,aS)] E (w V) (by simp;exact⟨(am.h.fG.fz (by simp[z]) L).sl,aI.h.fG.sl,ar.sl⟩) rfl rfl
 refine iD (M:=aj) U (.dY (a:=q.params.length) (b:=f) (c:=e.length) bd (λ_=>rfl) bd (λo=>V) (by simp;exact⟨aq.wx,v.h.wx,ar.wx⟩)) (lw y (by have:=aG.size;simp;omega)) λa3 a2 aK aU=>?_
 exact aK.il (((X.to L aJ).ext aG).ext aU) j.rd V V
end
end
end Go.Proofs.YtgnjacfobdjeeaaGreat
