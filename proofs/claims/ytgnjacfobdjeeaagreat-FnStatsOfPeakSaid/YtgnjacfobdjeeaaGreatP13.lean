/- Part of a proof, joined by a program. -/
import Derived.Test.YtgnjacfobdjeeaaGreatP12
set_option linter.unusedVariables false
set_option linter.unusedSimpArgs false
set_option linter.defProp false
set_option linter.constructorNameAsVariable false
set_option maxHeartbeats 8000000
set_option maxRecDepth 100000
namespace Go.Proofs.YtgnjacfobdjeeaaGreat
open Go.Vc
section
variable{S:List Nat}{d c:J}{b:Nat}{s:O}{l:List Instr}{x:Instr}
structure DT(S:List Nat)(d c:J)(b:Nat)(s:O)(l:List Instr):Prop where
 box:cx c b nK [.s s]
 gr:TL (b::S) d c s l
 up:d.size<=b
def DT.ext{S:List Nat}{d c a:J}{b:Nat}{s:O}{l:List Instr}(h:DT S d c b s l)(x:N c a):DT S d a b s l:=⟨h.box.ext x,h.gr.ext dG.mono x,h.up⟩
def DT.ne{S:List Nat}{d c:J}{b:Nat}{s:O}{l:List Instr}(h:DT S d c b s l):s.E≠b:=h.gr.ne h.box bh
def Nx(S:List Nat)(d c:J)(b:Nat)(s:O)(P:List Instr->Prop)(f:J):Prop:=∃a e,DT S d f b a e/\P e/\Fz [b,s.E] c f/\(a.E=s.E\/c.size<=a.E)
def pT{v z:O}(p:DT S d c b s l)(E:d.size<=c.size)(H:aq (bM (s.E::b::S) c) v x.args)(I:aq (bM (s.E::b::S) c) z x.dX)(q:l.length<=1000000000000):
 aL cp 191 [vp b 0,Ug x v z] c λQ M=>Q=vi (l.length:Nat)/\Nx S d c b s (l++[x]=·) M:=by
 apply wH (b,0)
 simp -zeta only[aC,aB]
 intro g
 have n:N c g:=N.push _ _
 have s1:g.size=c.size+1:=by simp[g]
 clear_value g
 have h:=p.ext n
 have X:=h.gr.be
 have K:=h.ne
 have D:=h.box.lt
 have U:=p.box.lt
 have Z:=p.gr.be
 refine⟨s,h.box.bV 0,?_⟩
 intro P
 have F:N g P:=N.push _ _
 refine⟨aM (F.same _ D) _,?_⟩
 have W:(c.extract 0 d.size).size=d.size:=nC E
 have g1:TL (b::S) (c.extract 0 d.size) g s l:=Gr.ct dG.mono h.gr (λG q=>Or.inl q) V
 refine Gr.jY (g:=[.i 0,.i 0,.i 0,.i 0,.s .nil,.s .nil]) (k:=x) dG.mono bh g1 ((((N.KC E).trans n).fz [])) ⟨v,z,rfl,H.le (n.cW _),I.le (n.cW _)⟩ V λi k A T R u=>?_
 have q3:∀e,e<g.size->e≠s.E->k[e]? =g[e]? :=u
 have y:cx k b nK [.s s]:=h.box.congr (u b D (km K))
 have L:=A.ne y bh
 refine⟨λe f=>?_,y.dZ aJ,?_⟩
 ·simp at f;subst f
  rw[u c.size V V,F.same _ V]
 intro t
 have C:cx t b nK [.s i]:=cx.ah (m:=k) (o:=0) (r:=[.s i]) y
 have w:∀e,e≠b->t[e]? =k[e]? :=λe f=>bt _ _ _ _ f
 have s4:t.size=k.size:=ay _ _ _ _
 refine⟨λe f=>w e (by simp at f;omega),i,C.bV 0,?_⟩
 have B:TL (b::S) d t i (l++[x]):=by
  refine Gr.ct dG.mono (A.re dG.mono (Y:=[b]) ⟨V,λe f j=>w e (by simpa using j)⟩ aJ (by simp;exact L) λe f=>Or.inl f) (λG q=>Or.inl q) V
 have G:=B.len bh
 have J:i.len=l.length+1:=by rw[G];simp
 refine⟨?_,i,_,⟨C,B,p.up⟩,rfl,⟨V,λe f j=>?_⟩,by have:=R.2;omega⟩
 ·rw[J,aP V V];congr 1;omega
 ·simp only[aU,jy,AE,tn]at j
  rw[w e j.1,u e V j.2,n.same e f]
def PI{j:Nat}(h:DT S d c b s l)(o:d.size<=c.size)(r:l[j]? =some x):
 aL cp 232 [vp b 0,vi j] c λ_ J=>Nx S d c b s (l.set j ⟨x.op,0,l.length,0,x.args,x.dX⟩=·) J:=by
 apply wG (b,0)
 simp -zeta only[aC,aB]
 have G:=aD r
 have I:=h.gr.len bh
 obtain⟨L,⟨q,t,rfl,E,F⟩,jk⟩:=h.gr.cells r
 have w:=jk 0 _ rfl;have y:=jk 1 _ rfl;have z:=jk 2 _ rfl;have A:=jk 3 _ rfl;have B:=jk 4 _ rfl;have C:=jk 5 _ rfl
 refine⟨s,h.box.bV 0,V,V,_,w,_,y,_,z,_,A,_,B,_,C,?_⟩
 intro K e
 have g:N c e:=(N.push c _).ah (ad _) _ _
 have Q:e.size=c.size+1:=by simp[e,K,ay]
 clear_value e
 have i:=h.ext g
 have H:=i.ne
 have O:=h.gr.be
 have P:=g.size
 refine⟨s,i.box.bV 0,s,i.box.bV 0,V,V,?_⟩
 have g1:TL (b::S) (c.extract 0 d.size) e s l:=Gr.ct dG.mono i.gr (λv m=>Or.inl m) (by rw[nC o];exact ad _)
 rw[I]
 obtain⟨wr,D,M,p⟩:=Gr.set (k:=j) (cs:=[.i x.op,.i 0,.i l.length,.i 0,.s q,.s t]) (a:=⟨x.op,0,l.length,0,x.args,x.dX⟩) dG.mono g1 (((N.KC o).trans g).fz []) G ⟨q,t,rfl,E.le (g.cW _),F.le (g.cW _)⟩
 refine⟨wr,?_⟩
 intro u
 have R:u.size=e.size:=ay _ _ _ _
 refine⟨λf n=>p f (by simp at n;omega),s,_,⟨i.box.congr (p b (km H)),Gr.ct dG.mono D (λv m=>Or.inl m) (by rw[nC o];exact ad _),h.up⟩,rfl,⟨V,λf n m=>?_⟩,Or.inl rfl⟩
 simp only[aU,jy,AE,tn]at m
 have v:u[f]? =e[f]? :=p f m.2
 rw[v,g.same f n]
end
section
variable{n a:Nat}
def my(l b:List Instr)(n:Nat):Prop:=∃a,b=l++a/\(∀(i:Nat)(x:Instr),a[i]? =some x->NA (l.length+i) x)/\O3 a/\a.length<=n
def my.az(l:List Instr):my l l 0:=⟨[],aJ,aJ,λ_ h=>by simp at h,ad _⟩
def my.eQ{l b:List Instr}(h:my l b n)(i:n<=a):my l b a:=let⟨f,c,d,e,g⟩:=h;⟨f,c,d,e,V⟩
def my.len{l a:List Instr}(h:my l a n):a.length<=l.length+n:=by obtain⟨b,rfl,_,_,d⟩:=h;simp;omega
def my.trans{l e f:List Instr}(h:my l e n)(p:my e f a):my l f (n+a):=by
 obtain⟨c,rfl,g,k,s⟩:=h;obtain⟨r,rfl,j,m,t⟩:=p;refine⟨c++r,aJ,λi x b=>?_,λx q=>?_,bR⟩
 ·rcases bA i c.length with d|d
  ·rw[aw d]at b;exact g i x b
  ·rw[aF d]at b;have:=j _ x b;have o:(l++c).length+(i -c.length)=l.length+i:=bR;rw[o]at this;exact this
 ·rcases List.mem_append.1 q with h|h
  ·exact k x h
  ·exact m x h
def my.jZ{l:List Instr}{x:Instr}(h:NA l.length x)(c:x.args.length<=1000000000000/\x.dX.length<=1000000000000):my l (l++[x]) 1:=
 ⟨[x],rfl,λi y a=>by
  have:i=0:=by have:=aD a;simp at this;omega
  subst this;simp at a;subst a;exact h,λy b=>by simp at b;subst b;exact c,aJ⟩
section
variable{S:List Nat}{d m c:J}{b:Nat}{s e:O}{l f:List Instr}
def DT.fW(h:DT S d m b s l)(f:N d m)(e:Fz [b,s.E] m c):N d c:=by
 have j:=h.gr.be;have i:=h.up;exact Fz.ext (((f.fz [b,s.E]).trans e).CD λg a=>Or.inr (by simp at a;omega))
def Pd(h:Fz [b,s.E] m c)(f:e.E=s.E\/m.size<=e.E):Le (bM [s.E,b] m) (bM [e.E,b] c):=oT λa g i=>by
 simp at i;refine⟨by simp;rcases f with d|d<;>omega,h.same a g bR⟩
def Nx.dv{L:List Nat}(f:Fz [b,s.E] m c)(d:∀a∈L,a<m.size/\a≠b/\a≠s.E):dR L m c:=λa e=>f.same a (d a e).1 (by have:=d a e;simp;omega)
end
structure Qw(S:List Nat)(mb m:J)(eb:Nat)(s:O)(l:List Instr)(cons first:O)(cl fl:List Int):Prop where
 em:DT S mb m eb s l
 x:N mb m
 fW:∀c∈S,c<m.size
 cons:aq (bM [s.E,eb] m) cons cl
 first:aq (bM [s.E,eb] m) first fl
 same:fl.length=cl.length
 lI:∀y∈fl,0<=y/\y<=900000000000
def Qw.ext{S:List Nat}{e m d:J}{b:Nat}{s:O}{l:List Instr}{cons first:O}{a c:List Int}(h:Qw S e m b s l cons first a c)(x:N m d):Qw S e d b s l cons first a c:=
 ⟨h.em.ext x,h.x.trans x,λf g=>x.lt (h.fW f g),h.cons.le (x.cW _),h.first.le (x.cW _),h.same,h.lI⟩
def Qw.next{S:List Nat}{e m d:J}{a:Nat}{s c:O}{o j:List Instr}{cons first:O}{f g:List Int}(h:Qw S e m a s o cons first f g)(l:DT S e d a c j)(b:Fz [a,s.E] m d)(i:c.E=s.E\/m.size<=c.E):Qw S e d a c j cons first f g:=
 ⟨l,h.em.fW h.x b,λk n=>aO (h.fW k n) b.size,h.cons.le (Pd b i),h.first.le (Pd b i),h.same,h.lI⟩
def V3(f:List bu)(g:List gB)(x:cK):Prop:=∀(S:List Nat)(a m:J)(c:Nat)(s:O)(l:List Instr)(cons first:O)(b h:List Int)(e r d k:O),Qw S a m c s l cons first b h->WS f g.length True b.length x->b.length+4*x.w<=900000000000->l.length+6*x.w<=1000000000000->eg a e r f g->aq a d x.args->np a k x.bD->
 aL cp 217 [vp c 0,.agg #[O.v e,O.v r],oG x d k,O.v cons,O.v first] m λ_ j=>Nx S a m c s (λi=>my l i (6*x.w)) j
def U9(f:List bu)(g:List gB)(b:Bk):Prop:=∀(S:List Nat)(a m:J)(d:Nat)(s:O)(l:List Instr)(cons first:O)(c h:List Int)(e r t:O),Qw S a m d s l cons first c h->WB f g.length True c.length b->c.length+4*b.w<=900000000000->l.length+6*b.w<=1000000000000->eg a e r f g->eD a t b.ar->
 aL cp 190 [vp d 0,.agg #[O.v e,O.v r],.agg #[O.v t,vi b.aV],O.v cons,O.v first] m λ_ j=>Nx S a m d s (λi=>my l i (6*(b.w -1))) j
end
def sI(m:J):aq m .nil []:=⟨rfl,ad _,aJ,aJ⟩
def J8{ds:List bu}{rs:List gB}{ar:List cK}{a_:Int}(b:∀a∈ar,a.op=7\/a.op=8->V3 ds rs a):U9 ds rs (.mk ar a_):=by
 intro B mb F f ac aj cons first cl fl aQ a9 bA E0 a3 bg bi hn hs
 have a4:=a3.bd;rw[Bk.pW]at*;simp only[Bk.jq,Bk.iH]at*;apply uA (f,0);simp -zeta only[aC,aB];intro T G;obtain⟨x2,hl⟩:=dF (a:=T) (c:=G) rfl rfl;have s1:T.size=F.size+1:=by simp[T]
 have s2:G.size=F.size+2:=by simp[G,s1]
 clear_value G;have a2:=hs.len;have aF:=Aw ar;have bo:=fH ar;have bk:=E0.em.box.lt;have bw:=E0.em.gr.be;have bm:=E0.x.size;refine wi (n:=ar.length) (a2▸hs.gV) (λq cons first M=>∃p R D O,Qw B mb M f p R cons first D O/\D.length=cl.length+dc (ar.take q)/\my aj R (6*sw (ar.take q))/\Fz [f,ac.E] F M/\(p.E=ac.E\/G.size<=p.E)/\G.size<=M.size) ⟨ac,aj,cl,fl,E0.ext x2,aJ,(my.az aj).eQ (eY _),x2.fz _,Or.inl rfl,ad _⟩ ?_;rintro q cons first M ba μ hk ⟨p,R,D,O,U,aY,ai,fz,a1,hM⟩ aL
 have bl:=ai.len;have br:=aF q;have u:=U.em.gr.be;refine dit (λm=>?_) λm=>?_
 ·obtain⟨a,hx⟩:=ag (l:=ar) (k:=q) V;obtain⟨pa,pk,Q,aZ,e0,e1,e2,e3,e4⟩:=hs.D hx;have bt:=pu hx;have bs:=qd hx;have bv:=cK.lO a;have bp:=aF (q+1);have bj:=sq (ar.take q);have bn:=fH (ar.take q);have aa:=a4.1 q a hx;rw[<-aY]at aa;have X:=U.x;refine⟨V,V,_,X.af e0,_,X.af e1,_,X.af e2,_,X.af e3,_,X.af e4,?_⟩;intro m3 r;have x4:N M r:=(N.push M _).ah (ad _) _ _;have s4:r.size=M.size+1:=by simp[r,m3,ay]
  clear_value r;have j:=U.ext x4;have P:∀{W:J},r.size<=W.size->∀h∈[M.size,T.size,F.size],h<W.size/\h≠f/\h≠p.E:=λhz h t=>by simp at t;omega
  have kS:∀{A Y:J},r.size<=A.size->N A Y->dR [M.size,T.size,F.size] A Y:=λhz xx h t=>xx.same h (P hz h t).1;have C:∀{A Y:J},r.size<=A.size->N A Y->∀al,af Y M.size al=af A M.size al:=λhz xx al=>aM (xx.same _ V) al;have au:∀{W:J},r.size<=W.size->∀c∈p.E::f::B,c<W.size:=λhz c b=>by
   simp only[aU]at b;rcases b with e|e|e
   ·omega
   ·omega
   ·have:=U.fW c e;have:=X.size;omega
  refine⟨λK=>∃g y,Qw B mb K f g y cons first D O/\my R y (6*a.w)/\Fz [f,p.E] r K/\(g.E=p.E\/r.size<=g.E),⟨λh7=>?_,λn7=>⟨λaT=>?_,λa7=>⟨λaV=>?_,λa8=>?_⟩⟩⟩,?_⟩
  ·simp only[bT,aE]at h7;refine(b a (av hx) h7 B mb r f p R cons first D O aQ a9 pa pk j aa V V hn Q aZ).mono λv m5⟨g,y,ah,p5,L,b5⟩=>⟨Nx.dv L (P (ad _)),g,y,j.next ah L b5,p5,L,b5⟩
  ·simp only[bT,aE]at aT;refine(bN (p.E::f::B) (Q.ext j.x) V).mono λv m5⟨a',la,e,ga,ea,d⟩=>⟨kS (ad _) d,a',e,C (ad _) d _,?_⟩;subst ea;have o:=j.ext d;have w:=d.size;refine(pT (x:=⟨a.op,0,0,0,a.args,[]⟩) o.em o.x.size (GI.done ga (au (ad _)) (by show a.args.length<=_;omega)) (sI _) V).mono λv H⟨ev,s6,l6,am,p6,E,b6⟩=>⟨Nx.dv E (P w),_,ev,s6,l6,o.next am E b6,?_,(d.fz _).trans E,V⟩;subst p6;exact(my.jZ ⟨λm=>by simp only at m;omega,λm=>by simp only at m;omega⟩ ⟨by show a.args.length<=_;omega,aJ⟩).eQ V
  ·simp only[bT,aE]at aV;have bd:=aa.eO.jZ V;obtain⟨I,aw⟩:=ag (l:=a.args) (k:=0) V;obtain⟨y0,y1⟩:=aa.eO.args I (av aw);have bf:=Q.len;have c4:=(j.cons.le (bG _ _));have f4:=(j.first.le (bG _ _));have a5:=c4.len;have a6:=f4.len;have a0:=j.same;obtain⟨cn,aR⟩:=ag (l:=D) (k:=I.toNat) V;obtain⟨fn,ap⟩:=ag (l:=O) (k:=I.toNat) V;obtain⟨bb,bc⟩:=j.lI fn (av ap);have F4:=f4.D ap;refine⟨bh,V,I,(Q.ext j.x).D aw,y0,V,cn,c4.D aR,y0,V,fn,F4,?_⟩;refine(dC (e:=[]) aJ (hn.aT.le (j.x.le.trans (zc _))) hn.types cn).mono λv m5⟨aW,bx,e,aN,aA,d⟩=>⟨kS (ad _) d,aW,e,by rw[d.af F4,F4],C (ad _) d _,C (ad _) d _,?_⟩;subst aA;have w:=d.size;have F3:=Ek hn.types cn;obtain⟨fk,aS⟩:∃fk:Nat,fn=fk:=⟨fn.toNat,V⟩;subst aS;refine(qW (S:=[]) aJ aN fk V).mono λv H⟨aX,bz,e,aG,ao,i⟩=>⟨kS w i,aX,e,C w i _,C w i _,?_⟩;have z6:=i.size;refine(eB (S:=[]) aJ ((Q.ext (j.x.trans (d.trans i))).le (zc _)) (aG.done tq.mono aJ bh (by have:=ao.2;omega)) (by have:=ao.2;omega)).mono λv m7⟨az,ab,e,aH,ax,s⟩=>⟨kS V s,az,e,C V s _,?_⟩;have Z:=(d.trans i).trans s;have z:=j.ext Z;have z7:=s.size;have aK:GI (p.E::f::B) H m7 az ab:=GI.any aH;have be:ab.length<=a.args.length+3:=by rw[<-ax];simp;have:=ao.2;omega
   have aP:0<ab.length:=by rw[<-ax];simp;omega
   refine(pT (x:=⟨a.op,0,0,0,ab,[]⟩) z.em z.x.size (aK.done (au V) V) (sI _) V).mono λv m8⟨ev,s8,l8,aD,p8,f8,b8⟩=>⟨Nx.dv f8 (P V),_,ev,s8,l8,z.next aD f8 b8,?_,(Z.fz _).trans f8,V⟩;subst p8;exact(my.jZ ⟨λm=>by simp only at m;omega,λ_=>aP⟩ ⟨by show ab.length<=_;omega,aJ⟩).eQ V
  ·refine(bN (p.E::f::B) (Q.ext j.x) V).mono λv m5⟨a',la,e,ga,ea,d⟩=>⟨kS (ad _) d,a',e,C (ad _) d _,C (ad _) d _,C (ad _) d _,?_⟩;subst ea;simp only[bq,ak]at a7 a8;have o:=j.ext d;have w:=d.size;have ab:a.op<=11:=by
    rcases aa.eO.op with m|m
    ·exact m.2
    ·omega
   refine(pT (x:=⟨a.op,(cons.len:Int),a.bL,a.bH,a.args,[]⟩) o.em o.x.size (GI.done ga (au (ad _)) (by show a.args.length<=_;omega)) (sI _) V).mono λv H⟨ev,s6,l6,am,p6,E,b6⟩=>⟨Nx.dv E (P w),_,ev,s6,l6,o.next am E b6,?_,(d.fz _).trans E,V⟩;subst p6;exact(my.jZ ⟨λm=>by simp only at m;omega,λm=>by simp only at m;omega⟩ ⟨by show a.args.length<=_;omega,aJ⟩).eQ V
  ·rintro K ⟨g,y,o,p5,L,b5⟩;have w:=L.size;have ah:my aj y (6*sw (ar.take (q+1))):=(ai.trans p5).eQ V;have az:Fz [f,ac.E] F K:=(fz.then x4).rf L λI u=>by
    simp only[aU,jy,AE]at u⊢;rcases u with e|e
    ·exact Or.inl (Or.inl e)
    ·rcases a1 with d|d
     ·exact Or.inl (Or.inr V)
     ·exact Or.inr V
   have aA:g.E=ac.E\/G.size<=g.E:=V;have bd:=o.em.gr.be;have ao:∀h∈[M.size,T.size,F.size],h<K.size:=λh t=>aO (P (ad _) h t).1 w;have aD:=λh t=>sB a h t;refine(je a.op K).mono λv H⟨h,e,t,i⟩=>⟨λc b=>i.same c (ao c b),h,e,λht=>?_,λhf=>?_⟩
   ·have hd:=aD h t;rw[an ht]at hd;intro m7;have s:N H m7:=N.push _ _;have bc:=o.em.box.lt;have z6:=i.size;have ab:∀c∈[g.E,f],c<H.size:=λc b=>by simp at b;omega
    have a5:aq (bM [g.E,f] m7) (.mk H.size 0 1 1) [0]:=aq.lit aI [0] ab rfl rfl aJ;have Z:=i.trans s;have z:=o.ext Z;have bb:=z.cons.len;refine(eB (S:=[g.E,f]) (λc b=>s.lt (ab c b)) z.cons a5 bR).mono λv m8⟨aN,aG,e,aR,aw,x8⟩=>⟨λc b=>x8.same c (s.lt (i.lt (ao c b))),aN,e,?_⟩;intro m9;have d:N m8 m9:=N.push _ _;have z7:=s.size;have z8:=x8.size;have ap:∀c∈[g.E,f],c<m8.size:=λc b=>by have:=ab c b;omega
    have a6:aq (bM [g.E,f] m9) (.mk m8.size 0 1 1) [0]:=aq.lit aI [0] ap rfl rfl aJ;have E9:=z.ext (x8.trans d);have a0:=E9.same;refine(eB (S:=[g.E,f]) (λc b=>d.lt (ap c b)) E9.first a6 bR).mono λv aK⟨aP,aH,e,aS,ax,E⟩=>⟨λc b=>E.same c (d.lt (x8.lt (s.lt (i.lt (ao c b))))),aP,e,?_⟩;have am:=E9.ext E;have aW:aq (bM [g.E,f] aK) aN aG:=(GI.done aR (λc b=>s.lt (ab c b)) (by rw[<-aw];simp;omega)).le ((d.trans E).cW _);have aX:aq (bM [g.E,f] aK) aP aH:=GI.done aS (λc b=>d.lt (ap c b)) (by rw[<-ax];simp;omega);refine aL V _ _ _ ⟨g,y,aG,aH,⟨am.em,am.x,am.fW,aW,aX,by rw[<-aw,<-ax];simp;omega,λI u=>?_⟩,by rw[<-aw];simp;omega,ah,az.then (((Z.trans x8).trans d).trans E),aA,?_⟩
    ·rw[<-ax]at u;rcases List.mem_append.1 u with u|u
     ·exact o.lI I u
     ·simp at u;omega
    ·have:=d.size;have:=E.size;omega
   ·have hd:=aD h t;rw[ae (by simp[hf])]at hd;exact aL V _ _ _ ⟨g,y,D,O,o.ext i,V,ah,az.then i,aA,by have:=i.size;omega⟩
 ·have a:q=ar.length:=V;subst a;rw[fE]at ai;exact⟨p,R,U.em,ai.eQ V,fz,V⟩
section
variable{m:J}
def DV(m:J)(s:O):Prop:=s.len<=s.cap/\∀k:Nat,k<s.len->∃v:Int,0<=v/\v<=255/\af m s.E (s.off+k*1)=some (.int .u8 v)
def GM{cJ:O}(h:DV m cJ):aL cp 37 [O.v cJ] m λv i=>∃a,v=vp m.size 0/\Rd m.size a 0 i/\N m i:=by
 obtain⟨g,f⟩:=h;apply zY;have R:∀a:O,DV m a->∃l,vp m.size 0=vp m.size 0/\Rd m.size l 0 (m.push (.cells (bC [.s a,.i 0]) pw))/\N m (m.push (.cells (bC [.s a,.i 0]) pw)):=λa⟨n,o⟩=>by
  refine⟨a,rfl,⟨⟨0,cx.push _ _ _,cC _,aJ⟩,n,λk c=>?_⟩,N.push _ _⟩;obtain⟨v,d,e,b⟩:=o k c;have s:=mB b;exact⟨v,d,e,dV.2 ⟨bR,(N.push m _).af b⟩⟩
 refine⟨λh=>?_,λ_=>R cJ ⟨g,f⟩⟩;simp only[au]at h;refine⟨bh,bh,V,?_⟩;refine R _ ?_;cases cJ with
 |nil=>simp at h
 |A2 j p q=>simp at h
 |mk j p t q=>
  simp only[O.jt,O.Mk]at h g;refine⟨by simp[O.cut];omega,λk c=>?_⟩;have r:k<2000:=by simpa[O.cut]using c
  obtain⟨v,d,e,b⟩:=f k bR;exact⟨v,d,e,by simpa[O.cut]using b⟩
def IW(f:Nat)(b:List Value)(m:J)(S:List Nat)(Q:Ex->Prop):Prop:=aL cp f b m λv a=>∃s e,v=.agg #[vi e.op,vi e.bL,O.v s]/\fe (bM S a) s e.bD/\Q e/\N m a
def zP(S:List Nat)(n:Int)(m:J):IW 278 [vi n] m S (.mk 0 n []=·):=by
 apply Dm;simp -zeta only[aC,aB];intro a b d;have c:N m b:=(N.push m _).trans (N.push a _);exact⟨_,.mk 0 n [],rfl,lZ _ _ _ _ _ _,rfl,c.ah (ad _) _ _⟩
def lL(S:List Nat)(n:Int)(m:J):IW 313 [vi n] m S (.mk 12 n []=·):=by
 apply Cd;simp -zeta only[aC,aB];intro a b d;have c:N m b:=(N.push m _).trans (N.push a _);exact⟨_,.mk 12 n [],rfl,lZ _ _ _ _ _ _,rfl,c.ah (ad _) _ _⟩
def HG{S:List Nat}{s:O}{bD:List Ex}(h:fe (bM S m) s bD)(a bL:Int):IW 311 [vi a,vi bL,O.v s] m S (.mk a bL bD=·):=by
 apply Iv;simp -zeta only[aC,aB];intro d c;have b:N m c:=(N.push m _).ah (ad _) _ _;exact⟨s,.mk a bL bD,rfl,h.le (b.cW _),rfl,b⟩
def Aj{a P:Nat}{b:O}(r:Rd a b P m)(x:P+4<=10000000000000000):aL cp 330 [vp a 0] m λv h=>∃k:Int,v=vi k/\Rd a b (P+4) h/\Fz [a] m h:=by
 apply Dz (a,0);refine(cw r V 6).mono λv y⟨d,e,_,_,s,n⟩=>⟨d,e,?_⟩;refine(cw s V 6).mono λv z⟨f,e,_,_,t,o⟩=>⟨f,e,?_⟩;refine(cw t V 40).mono λv i⟨g,e,_,_,c,p⟩=>⟨g,e,?_⟩;intro j;have l:N i j:=N.push _ _;have w:aq (bM [a] j) (.mk i.size 0 10 10) [d,f,0,1,2,-1,3,g,999,-998]:=aq.lit aI _ (by have:=c.lt;simpa using this) rfl rfl aJ;refine(j9 (c.ext l) V w aJ).mono λv A⟨k,e,_,u,q⟩=>⟨k,e,k,rfl,u,((n.trans o).trans p).then l|>.trans q⟩
end
section
variable{m:J}
def X0(e:Ex):Prop:=∀(m:J)(t:O),fe m t e.bD->∀left:Int,left<=600->sg 315 [.agg #[vi e.op,vi e.bL,O.v t],vi left] m λk=>k= -1\/0<=k/\k+e.n=left
def GN:∀e:Ex,X0 e:=by
 refine Ex.ind ?_;intro O bL bD w m P d left G;simp only[Ex.Uk,Ex.RZ,Ex.Qf,Ex.QM]at*;apply zZ;simp -zeta only[aC,aB];intro b;have g:N m b:=N.push _ _;have r:∀i∈[m.size],i<b.size:=by simp[b]
 clear_value b;have f:∀{M:J},N m M->∃a:Int,vi (-1:Int)=vi a/\(a= -1\/0<=a/\a+((1+en bD:Nat):Int)=left)/\N m M:=λD=>⟨-1,rfl,Or.inl rfl,D⟩;refine⟨λ_=>f g,λp=>?_⟩;simp only[bU]at p;have t:=d.len;rw[aP (b:=left -1) V V];refine dS (n:=bD.length) (t▸d.gV) (λa(v:Int) M=>N b M/\0<=v/\v+1+en (bD.take a)=left) ⟨N.az _,V,aJ⟩ ?_;rintro a v M I μ F ⟨h,B,C⟩ y
 have u:=g.trans h;refine dit (λo=>?_) λo=>?_
 ·obtain⟨e,c⟩:=ag (l:=bD) (k:=a) V;obtain⟨z,s,j,g1,g2⟩:=d.D c;refine⟨V,V,_,u.af j,_,u.af g1,_,u.af g2,?_⟩;refine(w e (av c) M z (fe.le u.le s) v V).aK h r λL K H E A=>⟨_,rfl,λ_=>f (u.trans E),λq=>?_⟩;simp only[bU]at q;refine y V _ _ ⟨A,V,?_⟩
  rw[IM c];omega
 ·rw[cN V]at C;exact⟨v,rfl,Or.inr ⟨B,V⟩,u⟩
def Aa{t:O}{e:Ex}(h:fe m t e.bD):sg 284 [.agg #[vi e.op,vi e.bL,O.v t]] m λk=>k= -1\/k=e.n/\e.n<=30:=by
 apply Dt;simp -zeta only[aC,aB];intro a;have b:N m a:=N.push _ _;have g:∀d∈[m.size],d<a.size:=by simp[a]
 clear_value a;refine(GN e a t (fe.le b.le h) 30 bh).aK (N.az a) g λn j i c l=>⟨_,rfl,λ_=>⟨-1,rfl,Or.inl rfl,b.trans c⟩,λf=>?_⟩;simp only[bU]at f;rw[aP (b:=30 -n) V V];exact⟨_,rfl,Or.inr ⟨V,V⟩,b.trans c⟩
def Ki{s:O}{b:List Int}(h:aq m s b)(g:Int):sg 277 [O.v s,vi g] m λa=>-1<=a/\a<b.length:=by
 apply Dw;have e:=h.len;refine fB (n:=b.length) (e▸h.gV) (λ_ M=>N m M) (N.az _) ?_;rintro a M I μ j c i
 refine⟨λd=>?_,λ_=>⟨-1,rfl,⟨V,V⟩,c⟩⟩;simp only[au]at d;obtain⟨x,f⟩:=ag (l:=b) (k:=a) V;exact⟨V,V,x,(h.ext c).D f,λ_=>⟨a,rfl,⟨V,V⟩,c⟩,λ_=>i V _ c⟩
def J5(f:O)(m:J):aL cp 201 [O.v f] m λv a=>v=.agg #[O.v f]/\N m a:=by
 apply J4;simp -zeta only[aC,aB];intro b c;exact⟨trivial,(N.push m _).ah (ad _) _ _⟩
def PK(p:O)(r:Int)(m:J):aL cp 248 [O.v p,vi r] m λv a=>v=.agg #[O.v p,vi r,vi 0,vi 0,O.v .nil]/\N m a:=by
 apply Kj;simp -zeta only[aC,aB];intro b c;exact⟨trivial,(N.push m _).ah (ad _) _ _⟩
end
section
variable{b:List Nat}{m:J}{c d p:O}{a:List dk}
def Fk(t:∀a∈b,a<m.size){d:List Int}(h:aq m c d)(A:d.length<=1000000000000)(w:Int):ku 331 [O.v c,vi w] m b λa=>(∀y∈a,0<=y/\y<(d.length:Int))/\a.length<=d.length:=by
 apply yx;intro D;have u:=h.len;refine dS (n:=d.length) (u▸h.gV) (λj s M=>N m M/\∃a,GI b m M s a/\(∀y∈a,0<=y/\y<(d.length:Int))/\a.length<=j) ⟨N.push m _,[],GI.nil b m,aJ,ad _⟩ ?_;rintro j s M I μ B ⟨f,a,g,i,C⟩ p
 refine⟨λo=>?_,λo=>⟨s,a,rfl,g,⟨i,V⟩,f⟩⟩;simp only[au]at o;obtain⟨x,v⟩:=ag (l:=d) (k:=j) V;refine⟨V,V,x,(h.ext f).D v,λ_=>?_,λ_=>p V _ _ ⟨f,a,g,i,V⟩⟩;intro E;exact GI.jY g (f.fz []) t V λF z r q _ _=>p V _ _ ⟨q.ext,_,r,λy e=>by
  rcases List.mem_append.1 e with e|e
  ·exact i y e
  ·simp at e;omega,bR⟩
def Rl(m:J)(b:List Ce)(p:dk):Prop:=∃a x y z,b=[.s a,.i p.aV,.i x,.i y,.s z]/\aq m a p.params
abbrev oN(m:J)(s:O)(l:List dk):Prop:=eK m 5 (Rl m) s l
def Rl.le{m b:J}(h:Le m b){a:List Ce}{p:dk}:Rl m a p->Rl b a p:=λ⟨c,x,y,z,d,e⟩=>⟨c,x,y,z,d,e.le h⟩
def oN.le{m b:J}(a:Le m b){s:O}{l:List dk}(h:oN m s l):oN b s l:=eK.le h a λ_ _=>Rl.le a
def oN.D{s:O}{l:List dk}(h:oN m s l){k:Nat}{p:dk}(d:l[k]? =some p):∃a,aq m a p.params/\af m s.E (s.off+k*5)=some (O.v a)/\af m s.E (s.off+k*5+1)=some (vi p.aV):=by
 obtain⟨e,⟨a,x,y,z,rfl,c⟩,b⟩:=h.iv k p d;exact⟨a,c,b 0 _ rfl,b 1 _ rfl⟩
def YV(b:List bu)(a:List dk)(t y:Int):Prop:=∃(f:Nat)(q:dk),y=f/\a[f]? =some q/\0<q.params.length/\(0<t->∃d∈b,d.cons.length=0/\q.params.getLast?=some d.uP/\q.aV=d.to)
def xu(Z:∀g∈b,g<m.size){h:List bu}(hd:cr m d h)(ht:dI h)(r:oN m p a)(hf:a.length<=1000)(z:Int):ku 337 [.agg #[O.v d,O.v p],vi z] m b λc=>(∀y∈c,YV h a z y)/\c.length<=a.length:=by
 apply Bo;simp -zeta only[aC,aB];intro e s;have B:N m e:=N.push _ _;have I:∀g∈[m.size],g<e.size:=by simp[e]
 have T:GI b e s (.mk e.size 0 0 0) []:=GI.nil b e;have x2:N e s:=N.push _ _;clear_value s;clear_value e;have ab:=r.len;refine dS (n:=a.length) (ab▸r.gV) (λo w M=>N e M/\∃c,GI b e M w c/\(∀y∈c,YV h a z y)/\c.length<=o) ⟨x2,[],T,aJ,ad _⟩ ?_;rintro o w M ae μ hk ⟨C,c,i,j,ah⟩ t
 have u:=B.trans C;refine⟨λH=>?_,λH=>⟨w,c,rfl,i.ct (λ_ G=>G) B.size,⟨j,V⟩,u⟩⟩;simp only[au]at H;obtain⟨v,K⟩:=ag (l:=a) (k:=o) V;obtain⟨D,q,E,R⟩:=r.D K;have af:=q.len;have ai:=q.gV;refine⟨V,V,_,u.af E,λU=>?_,λ_=>t V _ _ ⟨C,c,i,j,V⟩⟩;simp only[au]at U;rw[aP (b:=(D.len:Int) -1) V V];obtain⟨y,L⟩:=ag (l:=v.params) (k:=((D.len:Int) -1).toNat) V;refine⟨V,V,_,u.af E,V,V,y,(q.ext u).D L,V,V,_,u.af R,?_⟩;refine(zr (hd.le u.le) ht y v.aV).aK C I λak m3 J P A=>⟨_,rfl,λaa=>?_,λ_=>t V _ _ ⟨A,c,i.ext P,j,V⟩⟩;intro m4;refine GI.jY (i.ext P) (A.fz []) (λg f=>B.lt (Z g f)) V λal M' S F _ _=>⟨N.nW (A.aN _) F.ext I,t V _ _ ⟨F.ext,_,S,λac f=>?_,bR⟩⟩;rcases List.mem_append.1 f with f|f
 ·exact j ac f
 ·simp at f aa;refine⟨o,v,f,K,V,λG=>?_⟩;rcases J with J|⟨aj,Q,_,he,W,X,Y⟩
  ·omega
  ·refine⟨Q,av he,W,?_,Y.symm⟩;rw[List.getLast?_eq_getElem?,X,<-L];congr 1;omega
def pp{j:List bu}{v:List Int}(hd:cr m d j)(k:dI j)(q:oN m p a)(o:a.length<=1000)(r:aq m c v)(t:Int):od 332 [.agg #[O.v d,O.v p],O.v c,vi t] m:=by
 apply Db;simp -zeta only[aC,aB];intro b;have g:N m b:=N.push _ _;have f:∀n∈[m.size],n<b.size:=by simp[b]
 clear_value b;refine(mI (hd.le g.le) k t).any.aK (N.az b) f λl x h _=>⟨_,rfl,λ_=>rA (g.trans h),λ_=>?_⟩;have e:=g.trans h;refine(xu (b:=[]) aJ (hd.le e.le) k (oN.le e.le q) o t).aK h f λA w y _ _ i s=>⟨_,rfl,λ_=>rA (e.trans i),λ_=>?_⟩;exact(dj (r.ext (e.trans i)) t).any.aK s f λl z u _=>⟨_,rfl,rA ((e.trans i).trans u)⟩
end
def J2{a P:Nat}{p:O}{m:J}(h:Rd a p P m)(Q:P+1<=10000000000000000){q v x:O}{i:List bu}{r:List dk}{K:List Int}(hd:cr (bM [a] m) q i)(G:dI i)(F:oN (bM [a] m) v r)(B:r.length<=1000)(H:aq (bM [a] m) x K):
 aL cp 325 [vp a 0,.agg #[O.v q,O.v v],O.v x] m λw u=>∃k:Int,w=vi k/\(k=1\/0<=k/\k<=4/\k<=i.length)/\Rd a p (P+1) u/\Fz [a] m u:=by
 apply C9 (a,0)
 simp -zeta only[aC,aB]
 intro b d
 have U:b.size=m.size+1:=by simp[b]
 have L:N m b:=N.push _ _
 have y:N b d:=N.push _ _
 have z:N m d:=L.trans y
 have S:=h.lt
 have t:∀c∈[m.size],c<d.size/\c∉[a]:=λc n=>by have:=y.size;simp at n⊢;omega
 have I:aq (bM [a] d) (.mk b.size 0 7 7) [1,1,3,0,2,4,3]:=aq.lit aI _ bR rfl rfl aJ
 clear_value d
 have R:=hd.len
 refine(j9 (h.ext z) V I aJ).mono λw f⟨k,A,C,l,j⟩=>⟨j.dv t,k,A,?_⟩
 have e:Fz [a] m f:=(z.fz _).trans j
 have s:0<=k/\k<=4:=by simp at C;omega
 refine⟨λ_=>⟨1,rfl,Or.inl rfl,l,e⟩,λE=>?_⟩
 simp only[bU]at E
 have o:Le (bM [a] m) f:=(e.cW λ_ h=>h).trans (bG _ _)
 have D:∀c∈[m.size],c<f.size:=λc n=>aO (t c n).1 j.size
 refine(pp (hd.le o) G (oN.le o F) B (H.le o) k).aK (N.az f) D λM T g _=>⟨_,rfl,λ_=>⟨1,rfl,Or.inl rfl,l.ext g,e.then g⟩,λ_=>⟨k,rfl,Or.inr ⟨s.1,s.2,V⟩,l.ext g,e.then g⟩⟩

section
variable{t:Int}{x:Ex}
def Ja:List bu:=[⟨0,0,[[],[0,1]]⟩,⟨0,0,[]⟩,⟨0,0,[[],[3,0,3]]⟩]
def Qg:List bu:=[⟨0,0,[[1,3]]⟩,⟨1,0,[]⟩,⟨0,0,[[1,1,0],[0],[3]]⟩,⟨0,1,[]⟩]
def qQ:List (List bu):=Ja::Qg.map λd=>Ja++[d]
def NI:List (List Int×Int):=[([],0),([1],0),([1,1],1),([1],1),([1,0],1),([2,1],1),([1,1],0),([3],0),([0],1),([0,1],1),([3,0],3),([3],1),([1,3,0],0),([0],0),([0,0],0),([1,0],0)]
structure GP(ds:List bu)(fs:List dk):Prop where
 ds:ds∈qQ
 iu:0<fs.length
 nR:fs.length<=4
 dz:∀q∈fs,(q.params,q.aV)∈NI
def Lo(t:Int):Prop:=t=0\/t=1\/t=3
instance(t:Int):Decidable (Lo t):=inferInstanceAs (Decidable (_\/_))
def Ty(a:List bu)(t:Int):Prop:=0<=t/\t<=(a.length:Int)
instance(a:List bu)(t:Int):Decidable (Ty a t):=inferInstanceAs (Decidable (_/\_))
section
variable{a:List bu}{b:List dk}
def oP:∀a∈qQ,3<=a.length/\a.length<=4:=bh
def O6:∀a∈qQ,∀t∈[(0:Int),1,2,3,4],∀c∈(cg a t).take 2,((cg a t).head?=some c\/t∉cz a c)->(cz a c).length<=3/\(∀f∈cz a c,Lo f)/\(Lo t->(cz a c).length=0):=bh
def PY:∀a∈qQ,0<(cg a 1).length/\0<(cg a 3).length/\(cg a 0).length=0:=bh
def O4:∀a∈qQ,∀d∈a,d.cons.length=0->∀s∈NI,s.1.getLast?=some d.uP->s.2=d.to->∀f∈s.1.dropLast,Lo f:=bh
def Lh:∀a∈qQ,cg a 1=[0,1]/\cg a 3=[2,3]/\cz a 0=[]/\cz a 1=[0,1]/\cz a 2=[]/\cz a 3=[3,0,3]:=bh
def yI:∀a∈qQ,(∀t∈[(0:Int),1,2,3,4],∀c∈cg a t,(cz a c).length<=3/\∀f∈cz a c,Ty a f)/\(∀t∈[(0:Int),1,2,3,4],(cg a t).length<=3)/\(∀d∈a,Ty a d.uP):=bh
def O5:∀a∈qQ,∀t∈[(1:Int),3,4],(t:Int)<=a.length->(∀d∈a[t.toNat -1]?,d.cons.length≠0)->0<(cg a t).length:=bh
def vZ:∀s∈NI,s.1.length<=3/\(∀t∈s.1,0<=t/\t<=3)/\0<=s.2/\s.2<=3:=bh
def Ti(a:0<=t)(b:t<=4):t∈[(0:Int),1,2,3,4]:=bR
def Ty.Wu(hd:a∈qQ)(h:Ty a t):t∈[(0:Int),1,2,3,4]:=Ti h.1 (by have:=oP a hd;have:=h.2;omega)
def GP.ty(h:GP a b)(c:0<=t)(d:t<=3):Ty a t:=⟨c,by have:=oP a h.ds;omega⟩
def Lo.ty(hd:a∈qQ)(h:Lo t):Ty a t:=by have:=oP a hd;unfold Lo at h;constructor<;>omega
end
def Rn:∀a∈qQ,∀d∈a,0<d.cons.length->d.cons.length<=3/\d.uP=0/\d.to=0/\∀f∈d.cons,f.length<=3/\∀t∈f,0<=t/\t<=(a.length:Int):=bh
def Ro:∀a∈qQ,∀k∈List.range a.length,∀d∈a[k]?,d.cons.length=0->(∀e∈a.take k,¬(e.cons.length=0/\e.uP=d.uP/\e.to=d.to))/\Ty a d.uP/\Ty a d.to:=bh
def sj{a:List bu}(h:a∈qQ):dI a:=
 ⟨(oP a h).2,λk d b=>⟨Rn a h d (av b),Ro a h k (List.mem_range.2 (aD b)) d b⟩⟩
structure XF(ds:List bu)(nf a:Nat)(op bL:Int)(n:Nat):Prop where
 o:0<=op/\op<=13
 So:op=12->0<=bL/\bL<(a:Int)
 IK:op=13->n=2
 Xo:op=7->n=3
 all:op=8->n=1+(cg ds bL).length/\0<(cg ds bL).length
 call:op=9->0<=bL/\bL<(nf:Int)
def xb(b:List bu)(a bL:Int):Nat->Nat
 |0=>0
 |i+1=>if a=13 then 1 else AG b a bL i
inductive WX(ds:List bu)(nf:Nat):Nat->Ex->Prop
 |mk {a:Nat} {op bL:Int} {bD:List Ex} (eO:XF ds nf a op bL bD.length) (hk:∀(i:Nat)(e:Ex),bD[i]? =some e->WX ds nf (a+xb ds op bL i) e):WX ds nf a (.mk op bL bD)
section
variable{b:List bu}{c a:Nat}{d bL:Int}{bD:List Ex}
def WX.bd{e:Ex}(h:WX b c a e):XF b c a e.op e.bL e.bD.length/\∀(i:Nat)(x:Ex),e.bD[i]? =some x->WX b c (a+xb b e.op e.bL i) x:=by
 cases h with
 |mk eO d=>exact⟨eO,d⟩
def Xr(a:d≠13)(c:d≠8)(i:Nat):xb b d bL i=0:=by
 cases i with
 |zero=>rfl
 |succ i=>show(if d=13 then 1 else AG b d bL i)=0;rw[ae a,Jc c]
def WX.eO(k:0<=d/\d<=11)(g:d=7->bD.length=3)(f:d≠8)(i:d=9->0<=bL/\bL<(c:Int))(j:∀e∈bD,WX b c a e):WX b c a (.mk d bL bD):=
 .mk ⟨⟨V,V⟩,λh=>V,λh=>V,g,λh=>absurd h f,i⟩ λl e h=>by rw[Xr V f];exact j e (av h)
def WX.int(n:Int):WX b c a (.mk 0 n []):=.eO bh (λh=>V) bh (λh=>V) aJ
def WX.So(h:0<=bL/\bL<(a:Int)):WX b c a (.mk 12 bL []):=.mk ⟨bh,λ_=>h,λh=>V,λh=>V,λh=>V,λh=>V⟩ aJ
def WX.lt{y:Ex}(e:WX b c a x)(f:WX b c (a+1) y):WX b c a (.mk 13 0 [x,y]):=
 .mk ⟨bh,λh=>V,λ_=>rfl,λh=>V,λh=>V,λh=>V⟩ λi g d=>by
  rcases i with _|_|i
  ·simp at d;subst d;exact e
  ·simp at d;subst d;exact f
  ·simp at d
def WX.mt{g:List Ex}(m:WX b c a x)(o:g.length=(cg b bL).length)(n:0<g.length)(j:∀(i:Nat)(e:Ex)(f:Int),g[i]? =some e->(cg b bL)[i]? =some f->WX b c (a+(cz b f).length) e):WX b c a (.mk 8 bL (x::g)):=
 .mk ⟨bh,λh=>V,λh=>V,λh=>V,λ_=>⟨bR,V⟩,λh=>V⟩ λi e d=>by
  rcases i with _|i
  ·simp at d;subst d;exact m
  ·simp at d;obtain⟨f,h⟩:=ag (l:=cg b bL) (k:=i) (by have:=aD d;omega);have:=j i e f d h;show WX b c (a+AG b 8 bL i) e;rw[Jb rfl h];exact this
end
end
section
variable{X:List Nat}{b k c:Nat}{s:O}
structure GC(rb:Nat)(bs:O)(P:Nat)(d p:O)(ds:List bu)(fs:List dk)(m:J):Prop where
 rd:Rd rb bs P m
 hd:cr (bM [rb] m) d ds
 hp:oN (bM [rb] m) p fs
 gp:GP ds fs
def Lw(a:Nat)(L:List Nat)(m:J):Prop:=∀b∈L,b<m.size/\b≠a
def XP(S:List Nat)(b:Nat)(c:O)(m:J)(P:Nat)(Q:Ex->Prop)(v:Value)(a:J):Prop:=∃s e,v=.agg #[vi e.op,vi e.bL,O.v s]/\fe (bM S a) s e.bD/\Q e/\Rd b c P a/\Fz [b] m a
abbrev IR(a:Nat)(m:J)(s:O)(l:List Int):Prop:=aq (bM [a] m) s l
section
variable{e P i:Nat}{h d p:O}{l:List bu}{n:List dk}{m M g:J}{S L:List Nat}{f:Nat}{j:List Value}{Q Q':Ex->Prop}
def fh(f:Fz [e] m M):Le (bM [e] m) (bM [e] M):=f.cW λ_ h=>h
def GC.to(a:GC e h P d p l n m)(f:Fz [e] m M)(r:Rd e h i M):GC e h i d p l n M:=⟨r,a.hd.le (fh f),oN.le (fh f) a.hp,a.gp⟩
def GC.ext(a:GC e h P d p l n m)(x:N m M):GC e h P d p l n M:=a.to (x.fz _) (a.rd.ext x)
def GC.types(a:GC e h P d p l n m):dI l:=sj a.gp.ds
def Lw.fz(h:Lw e L m)(f:Fz X m M):Lw e L M:=λb a=>⟨aO (h b a).1 f.size,(h b a).2⟩
def Lw.lt(h:Lw e L m)(f:Fz X m M):∀b∈L,b<M.size:=λb a=>(h.fz f b a).1
def Lw.dv(h:Lw e L m)(f:Fz [e] m M):dR L m M:=f.dv λb a=>⟨(h b a).1,by have:=(h b a).2;simpa using this⟩
def Lw.bV(h:Lw e L m)(f:Fz [e] m M)(c:Fz [e] M g)(a:b∈L)(o:Nat):af g b o=af M b o:=aM (c.same b (h.fz f b a).1 (by have:=(h b a).2;simpa using this)) o
def XP.mono{P i:Nat}(k:∀a,Q a->Q' a)(j:P<=i){v:Value}:XP S e h m P Q v M->XP S e h m i Q' v M:=λ⟨s,a,b,c,d,f,g⟩=>⟨s,a,b,c,k a d,f.mono j,g⟩
def XP.then{K:Value->J->Prop}(c:aL cp f j M (XP S e h M P Q))(m:Lw e L M)(n:∀s a g,fe (bM S g) s a.bD->Q a->Rd e h P g->Fz [e] M g->K (.agg #[vi a.op,vi a.bL,O.v s]) g):aL cp f j M λv g=>dR L M g/\K v g:=
 c.mono λv g⟨s,a,d,i,k,l,b⟩=>⟨m.dv b,d▸n s a g i k l b⟩
def Lw.sM(h:Lw e L m)(f:Fz [e] m M)(a:Fz [e] m g):dR L M g:=λb c=>by
 have:=h b c;rw[f.same b this.1 (by simpa using this.2),a.same b this.1 (by simpa using this.2)]
def XP.ret{p:Nat}(q:aL cp f j M (XP (b::S) e h M P Q))(t:Lw e L M)(o:Fz [e] m M)(r:Rd e h p m)(n:m.size<=b)(v:∀a,Q a->Q' a)(u:P<=i):
 aL cp f j M λA g=>dR L M g/\∃c d:Int,∃k:O,A=.agg #[vi c,vi d,O.v k]/\XP S e h m i Q' (.agg #[vi c,vi d,O.v k]) (ah g b 0 [.i c,.i d,.s k]):=
 XP.then q t λs a g z y w l=>⟨_,_,_,rfl,s,a,rfl,fe.le (cv aJ λB x=>ai _ x) z,v a y,r.ah (w.mono u) (o.trans l) n 0 _,(o.trans l).ah (Or.inr n) _ _⟩
abbrev GE(S:List Nat)(a m:J)(s:O)(l:List Ex):Prop:=Gr S a m bI 3 AF s l
def XP.jY{B:Nat}{i:J}{s:O}{n:List Ex}{K:O->J->Prop}(D:aL cp f j M (XP (s.E::S) e h M P Q))(t:GE S i M s n)(z:Fz [e] i M)(w:Lw e L i)(u:Rd e h B i)(G:e∈S)(l:n.length<=1000)
 (E:∀c r g,Q c->GE S i g r (n++[c])->Rd e h P g->Fz [e] i g->Fz [e,s.E] M g->(r.E=s.E\/M.size<=r.E)->K r g):
 aL cp f j M λN k=>dR L M k/\∃o p:Int,∃q:O,N=.agg #[vi o,vi p,O.v q]/\
  jh (k.push (.cells (bC [.i o,.i p,.s q]) bI)) bI [.i 0,.i 0,.s .nil] 40 s (O.mk k.size 0 1 1) λr g=>dR L (k.push (.cells (bC [.i o,.i p,.s q]) bI)) g/\K r g:=
 XP.then D (w.fz z) λU c k I F x d=>⟨_,_,_,rfl,by
  have T:=t.be;have H:=u.lt;have v:=z.trans d;refine Gr.jY (g:=[.i 0,.i 0,.s .nil]) (k:=c) AF.mono bh (t.dO AF.mono d (by simp;exact⟨G,H⟩)) v (by cases c;exact AF.of I) V λr g C m R A=>⟨w.sM (v.push _) m,E c r g F C (u.MC x m (A e x.lt V)) m ⟨bX d.size R.1,λb y l=>?_⟩ (by have:=d.size;omega)⟩;simp only[aU,jy,AE,tn]at l;rw[A b (aO y d.size) l.2,d.same b y (by simpa using l.1)]⟩
def Ww{b:J}(h:Fz [e,k] b M)(d:s.E=k\/b.size<=s.E)(a:Fz [e,s.E] M g):Fz [e,k] b g:=
 h.rf a λy c=>by simp at c⊢;omega
end
def mJ{S:List Nat}{d P:Nat}{b:O}{m:J}{bD:List Ex}(j:Rd d b P m)(h:fe (bM S m) s bD)(a bL:Int):aL cp 311 [vi a,vi bL,O.v s] m (XP S d b m P (.mk a bL bD=·)):=
 (HG h a bL).mono λv l⟨k,e,f,g,i,c⟩=>⟨k,e,f,g,i,j.ext c,c.fz _⟩
def VL(b:List bu)(d:List dk)(c:Nat)(e:Ex):Prop:=(∀a,WX b d.length a e)/\e.n<=c
def Vm(c k:Nat)(e:List bu)(f:List dk)(t:Int):Prop:=∀(S:List Nat)(a P:Nat)(b d p:O)(m:J),(∀g∈S,g<m.size)->a∈S->GC a b P d p e f m->P+k<=10000000000000000->
 aL cp 333 [vp a 0,.agg #[O.v d,O.v p],vi t] m (XP S a b m (P+k) (VL e f c))
def Qr{a:List bu}{b:List dk}{l:List Ex}{f i:Int}(m:f=6\/f=10)(h:∀e∈l,VL a b 1 e)(k:l.length+1<=c):VL a b c (.mk f i l):=
 ⟨λg=>.eO V (λh=>V) V (λh=>V) λe d=>(h e d).1 g,by
  rw[Ex.QM];have:∀l:List Ex,(∀e∈l,VL a b 1 e)->en l<=l.length:=λl=>by
   induction l with
   |nil=>simp
   |cons x l j=>intro h;rw[Mo,aZ];have:=(h x aJ).2;have:=j λe d=>h e (by simp[d]);omega
  have:=this l h;omega⟩
def HF{d:List bu}{fs:List dk}{t:Int}(ht:Ty d t)(E:(Lo t/\c=1/\k=5)\/((∀a,Lo a->Vm 1 5 d fs a)/\c=4/\k=20)):Vm c k d fs t:=by
 intro u f C H ar az ap hS ab a hP;apply BY (f,0);simp -zeta only[aC,aB];intro o ac;obtain⟨x2,hl⟩:=dF (a:=o) (c:=ac) rfl rfl;have s1:o.size=ap.size+1:=by simp[o]
 clear_value ac;have hr:=a.rd.lt;have L2:Lw f [o.size,ap.size] ac:=λb K=>⟨hl b K,by simp at K;omega⟩;have aa:=a.types;have h5:=Ty.Wu a.gp.ds ht;have ai:∀e∈o.size::u,e<ac.size:=bP hS x2.size (hl _ aJ);have c2:=a.ext x2;refine(gN (e:=[f]) (by simp;exact c2.rd.lt) (c2.hd.le (bG _ _)) aa t).mono λB m3⟨cs,m,e,hc,q,G⟩=>⟨L2.dv (G.fz _),cs,e,?_⟩;subst q;have v:=c2.ext G;have O:=L2.fz (G.fz []);have u3:=x2.trans G;have aR:=hc.len;refine dit (λh0=>?_) λh0=>?_
 ·obtain⟨Z,am⟩:=ag (l:=cg d t) (k:=0) V;have hh:(cg d t).head?=some Z:=by rw[List.head?_eq_getElem?];exact am
  have L:Z∈(cg d t).take 2:=List.mem_take_iff_getElem.2 ⟨0,V,by have:=List.getElem?_eq_some_iff.1 am;exact this.2⟩;have A0:∀{M:J},Fz [f] m3 M->af M cs.E (cs.off+Int.toNat 0*1)=some (vi Z):=λU=>(dV.1 ((hc.le (fh U)).D am)).2;refine⟨bh,V,Z,A0 (Fz.az _ _),λa M=>a∈(cg d t).take 2/\Rd f H (C+1) M/\Fz [f] m3 M,⟨λI=>?_,λI=>⟨L,v.rd.mono V,Fz.az _ _⟩⟩,?_⟩
  ·simp only[au]at I;obtain⟨p,i⟩:=ag (l:=cg d t) (k:=1) V;have t1:p∈(cg d t).take 2:=List.mem_take_iff_getElem.2 ⟨1,V,by have:=List.getElem?_eq_some_iff.1 i;exact this.2⟩;refine(cw v.rd V 4).mono λB m4⟨F,e,_,_,j,g⟩=>⟨O.dv g,F,e,λh=>⟨bh,V,p,(dV.1 ((hc.le (fh g)).D i)).2,t1,j,g⟩,λh=>⟨L,j,g⟩⟩
  rintro c' w ⟨aF,x,i⟩;have T:=v.to i x;have Q:=O.fz i;refine⟨λa M=>a∈(cg d t).take 2/\((cg d t).head?=some a\/t∉cz d a)/\Rd f H (C+1) M/\Fz [f] m3 M,?_,?_⟩
  ·refine(dC (e:=[]) aJ (T.hd.le ((bG _ _).trans (zc _))) aa c').mono λB m6⟨U,m,e,hf,q,z⟩=>⟨Q.dv (z.fz _),U,e,?_⟩;subst q;refine(dj (hf.le (bG _ _)) t).mono λB p⟨b,e,K,g⟩=>⟨(Q.fz (z.fz [])).dv (g.fz _),b,e,λax=>?_,λaj=>?_⟩
   ·have j:=(i.then z).then g;exact⟨bh,V,Z,A0 j,L,Or.inl hh,(x.ext z).ext g,j⟩
   ·exact⟨aF,Or.inr λj=>by rw[K.2 j]at aj;exact absurd aj bh,(x.ext z).ext g,(i.then z).then g⟩
  rintro R r ⟨I,h2,r8,f8⟩;obtain⟨z3,aH,zz⟩:=O6 d a.gp.ds t h5 R I h2;have c8:=v.to f8 r8;have L8:=O.fz f8;have F8:Fz [f] ap r:=(u3.fz _).trans f8;have z8:=f8.size;have aK:=G.size;have z2:=x2.size;intro X;have x9:N r X:=N.push _ _;have g9:GE (o.size::u) r X (.mk r.size 0 0 0) []:=Gr.new _ (ad _) _ _ _;have s9:X.size=r.size+1:=by simp[X]
  clear_value X;have L9:=L8.fz (x9.fz []);refine(dC (e:=[f,r.size]) bR (c8.hd.le (x9.bM aJ)) aa R).mono λB ay⟨U,m,e,hf,q,ae⟩=>⟨L9.dv (ae.fz _),U,e,?_⟩;subst q;have aG:=hf.len;refine dS (n:=(cz d R).length) V (λj s M=>∃m,GE (o.size::u) r M s m/\m.length=j/\(∀e∈m,VL d fs 1 e)/\Rd f H (C+1+5*j) M/\Fz [f] r M/\Fz [f,r.size] ay M/\(s.E=r.size\/ay.size<=s.E)) ⟨[],g9.ext AF.mono ae,rfl,aJ,(r8.ext x9).ext ae,((x9.trans ae).fz _),Fz.az _ _,Or.inl rfl⟩ ?_;rintro j s M aA μ hj ⟨m,D,aI,W,Y,p,ah,hs⟩ aq
  have LM:=L8.fz p;refine dit (λh=>?_) λh=>?_
  ·rcases E with⟨al,_,_⟩|⟨ih,e1,e2⟩
   ·have:=zz al;omega
   obtain⟨y,A⟩:=ag (l:=cz d R) (k:=j) V;have ao:=D.be;refine⟨V,V,y,(dV.1 ((hf.le (ah.cW λ_ h=>h)).D A)).2,?_⟩;exact XP.jY (ih y (aH y (av A)) (s.E::o.size::u) f (C+1+5*j) H ar az M (bP (λe g=>by have:=ai e g;have:=p.size;have:=G.size;omega) (ad _) ao.2) (by simp[ab]) (c8.to p Y) V) D p L8 r8 (by simp[ab]) V λe aQ M' g g' r' f' aw aM=>
    aq V _ _ ⟨_,g',bR,λe' ak=>by rcases List.mem_append.1 ak with h|h;exact W e' h;simp at h;subst h;exact g,r'.mono V,f',Ww ah hs aw,by have:=ah.size;omega⟩
  ·have aE:∀e∈o.size::u,e<r.size:=λe g=>by have:=ai e g;omega
   exact XP.ret (mJ Y (D.done AF.mono aE bh V) 6 R) LM (F8.trans p) a.rd V (λe g=>g▸Qr (Or.inl rfl) W (by rcases E with⟨h,e,_⟩|⟨_,e,_⟩;have:=zz h;omega;omega)) (by rcases E with⟨h,_,e⟩|⟨_,_,e⟩;have:=zz h;omega;omega)
 ·refine(xu (b:=[f]) (by simp;exact v.rd.lt) (v.hd.le (bG _ _)) aa (oN.le (bG _ _) v.hp) (by have:=a.gp.nR;omega) t).mono λB m4⟨U,m,e,gl,W,r⟩=>⟨O.dv (r.fz _),U,e,?_⟩;have ah:IR f m4 U m:=GI.done gl (by simp;exact v.rd.lt) (by have:=W.2;have:=a.gp.nR;omega);have aT:=ah.len;have Z:=v.ext r;have R:=O.fz (r.fz []);have u4:=u3.trans r;have z4:=r.size;have z3:=G.size;refine⟨λb M=>(b=true->0<t/\0<U.len)/\M=m4,⟨λh=>⟨λX=>by simp only[au]at h X;omega,rfl⟩,λh=>⟨aJ,rfl⟩⟩,?_⟩;rintro b _ ⟨K,rfl⟩;refine⟨λax=>?_,λaj=>?_⟩
  ·obtain⟨L,aS⟩:=K ax;refine(cw Z.rd V U.len).mono λB w⟨F,e,k0,k2,x,i⟩=>⟨R.dv i,F,e,k0,V,?_⟩;obtain⟨y,A⟩:=ag (l:=m) (k:=F.toNat) V;obtain⟨fi,q,rfl,X,aW,aL⟩:=W.1 y (av A);obtain⟨dd,aF,aE,aH,aN⟩:=aL L;have al:=O4 d a.gp.ds dd aF aE _ (a.gp.dz q (av X)) aH aN;have aX:q.params.length<=3:=(vZ _ (a.gp.dz q (av X))).1;have T:=Z.to i x;have Q:=R.fz i;obtain⟨ps,am,e0,e1⟩:=T.hp.D X;have aU:=am.len;have aG:=aD X;have aV:=T.hp.len;refine⟨_,(dV.1 ((ah.le (fh i)).D A)).2,V,V,ps,(dV.1 e0).2,?_⟩;intro m6;have z:N w m6:=N.push _ _;have g6:GE (o.size::u) w m6 (.mk w.size 0 0 0) []:=Gr.new _ (ad _) _ _ _;clear_value m6;have z5:=i.size;have ae:∀e∈o.size::u,e<w.size:=λe g=>by have:=ai e g;omega
   have aY:¬Lo t\/(Lo t/\0<t):=by by_cases h:Lo t;exact Or.inr ⟨h,L⟩;exact Or.inl h
   have hd:=PY d a.gp.ds;rcases E with⟨aK,_,_⟩|⟨ih,e2,e3⟩
   ·exfalso;rcases aK with h|h|h
    ·omega
    ·subst h;omega
    ·subst h;omega
   refine dS (n:=q.params.length -1) V (λj s M=>∃m,GE (o.size::u) w M s m/\m.length=j/\(∀e∈m,VL d fs 1 e)/\Rd f H (C+1+5*j) M/\Fz [f] w M) ⟨[],g6,rfl,aJ,x.ext z,z.fz _⟩ ?_;rintro j s M aA μ hj ⟨l',D,aI,ay,Y,p⟩ aq
   have ew:cR ((j:Int)+1)=j+1:=aP V V;refine⟨λh=>?_,λh=>?_⟩
   ·simp only[ew,au]at h;obtain⟨y,A⟩:=ag (l:=q.params) (k:=j) V;have ao:=D.be;have aO:y∈q.params.dropLast:=List.mem_iff_getElem?.2 ⟨j,by rw[List.getElem?_dropLast,an V];exact A⟩;refine⟨V,V,y,(dV.1 ((am.le (fh p)).D A)).2,?_⟩;exact XP.jY (ih y (al y aO) (s.E::o.size::u) f (C+1+5*j) H ar az M (bP (λe g=>by have:=ae e g;have:=p.size;omega) (ad _) ao.2) (by simp[ab]) (T.to p Y) V) D p Q x (by simp[ab]) V λe aQ M' g g' r' f' aw aM=>
     aq V _ _ ⟨_,g',bR,λe' ak=>by rcases List.mem_append.1 ak with h|h;exact ay e' h;simp at h;subst h;exact g,r'.mono V,f'⟩
   ·simp only[ew,bU]at h;exact XP.ret (mJ Y (D.done AF.mono ae bh V) 10 _) (Q.fz p) (((u4.fz _).trans i).trans p) a.rd V (λe g=>g▸Qr (Or.inr rfl) ay V) V
  ·refine(Aj Z.rd (by rcases E with⟨_,_,e⟩|⟨_,_,e⟩<;>omega)).mono λB w⟨F,e,x,i⟩=>⟨R.dv i,F,e,?_⟩;exact XP.ret (P:=C+4) ((zP (o.size::u) F w).mono λB y⟨p,e,I,h2,j,h⟩=>⟨p,e,I,h2,j,x.ext h,h.fz _⟩) (R.fz i) ((u4.fz _).trans i) a.rd V (λe g=>g▸⟨λh=>.int _,by rw[Ex.QM];rcases E with⟨_,e,_⟩|⟨_,e,_⟩<;>simp[e]⟩) (by rcases E with⟨_,_,e⟩|⟨_,_,e⟩<;>omega)
end
section
variable{a:Nat}{t:Int}
def _root_.Go.Vc.Ph{σ:Type}(o:a<=9223372036854775807)(e:1<=a){m:J}{h:σ}{g:(σ->Int->J->Prop)->(σ->Int->J->Nat)->σ->Int->J->Prop}(Q:Nat->σ->J->Prop)(l:Q 1 h m)
 (j:∀(k:Nat)(s:σ)(b:J)(I:σ->Int->J->Prop)(μ:σ->Int->J->Nat),1<=k->k<=a->Q k s b->
  (k<a->∀d c,Q (k+1) d c->I d (cR ((k:Int)+1)) c/\μ d (cR ((k:Int)+1)) c<μ s k b)->g I μ s k b):
 ∃(I:σ->Int->J->Prop)(μ:σ->Int->J->Nat),I h 1 m/\∀s i b,I s i b->g I μ s i b:=by
 refine⟨λs i c=>∃k:Nat,i=k/\1<=k/\k<=a/\Q k s c,λ_ i _=>(a -i).toNat,⟨1,rfl,ad _,e,l⟩,?_⟩
 rintro s i b ⟨k,rfl,e,n,p⟩
 refine j k s b _ _ e n p λf d c q=>?_
 rw[kV f o]
 exact⟨⟨k+1,rfl,V,f,q⟩,EB f⟩
def _root_.Go.Vc.Wv(l:a<=9223372036854775807)(d:1<=a){m:J}{f:(Int->J->Prop)->(Int->J->Nat)->Int->J->Prop}(Q:Nat->J->Prop)(g:Q 1 m)
 (h:∀(k:Nat)(b:J)(I:Int->J->Prop)(μ:Int->J->Nat),1<=k->k<=a->Q k b->
  (k<a->∀c,Q (k+1) c->I (cR ((k:Int)+1)) c/\μ (cR ((k:Int)+1)) c<μ k b)->f I μ k b):
 ∃(I:Int->J->Prop)(μ:Int->J->Nat),I 1 m/\∀i b,I i b->f I μ i b:=by
 refine⟨λi c=>∃k:Nat,i=k/\1<=k/\k<=a/\Q k c,λi _=>(a -i).toNat,⟨1,rfl,ad _,d,g⟩,?_⟩
 rintro i b ⟨k,rfl,d,j,n⟩
 refine h k b _ _ d j n λe c o=>?_
 rw[kV e l]
 exact⟨⟨k+1,rfl,V,e,o⟩,EB e⟩
def IE{a:List bu}{b:List dk}(hd:a∈qQ)(c:Ty a t):Vm 4 20 a b t:=HF c (Or.inr ⟨λ_ h=>HF (h.ty hd) (Or.inl ⟨h,rfl,rfl⟩),rfl,rfl⟩)
def IW.x{f:Nat}{a:List Value}{S:List Nat}{d P:Nat}{b:O}{m:J}{Q:Ex->Prop}(h:IW f a m S Q)(k:Rd d b P m):aL cp f a m (XP S d b m P Q):=
 h.mono λv n⟨l,e,g,i,j,c⟩=>⟨l,e,g,i,j,k.ext c,c.fz _⟩
section
variable{f:List Nat}{c P:Nat}{h d p j:O}{g:List bu}{e:List dk}{b:J}{i:List Int}
def qK(hS:∀r∈f,r<b.size)(ai:c∈f)(r:GC c h P d p g e b)(hP:P+22<=10000000000000000)(hv:IR c b j i)(am:i.length<=1000)(ht:Ty g t):
 aL cp 314 [vp c 0,.agg #[O.v d,O.v p],O.v j,vi t] b (XP f c h b (P+22) λa=>WX g e.length i.length a/\a.n<=4):=by
 apply Iq (c,0)
 simp -zeta only[aC,aB]
 intro n A
 obtain⟨C,hl⟩:=dF (a:=n) (c:=A) rfl rfl
 have s1:n.size=b.size+1:=by simp[n]
 clear_value A
 have hr:=r.rd.lt
 have L2:Lw c [n.size,b.size] A:=λT hb=>⟨hl T hb,by simp at hb;omega⟩
 have ae:∀a∈n.size::f,a<A.size:=bP hS C.size (hl _ aJ)
 have z2:=C.size
 refine(Fk (b:=[c]) (m:=A) bR ((hv.le (bG _ _)).ext C) V t).mono λ_ X⟨u,ac,a,gl,ak,D⟩=>⟨L2.dv (D.fz _),u,a,?_⟩
 have aa:IR c X u ac:=GI.done gl bR V
 have G:=(r.ext C).ext D
 have F:=L2.fz (D.fz [])
 have E:Fz [c] b X:=(C.trans D).fz _
 have an:=aa.len
 have z3:=D.size
 have lI:∀{Q:Nat}{M:J},GC c h Q d p g e M->Fz [c] b M->A.size<=M.size->Lw c [n.size,b.size] M->Q<=P+2->aL cp 333 [vp c 0,.agg #[O.v d,O.v p],vi t] M λY q=>dR [n.size,b.size] M q/\∃w x:Int,∃y:O,Y=.agg #[vi w,vi x,O.v y]/\XP f c h b (P+22) (λa=>WX g e.length i.length a/\a.n<=4) (.agg #[vi w,vi x,O.v y]) (ah q n.size 0 [.i w,.i x,.s y]):=λU W h1 K hq=>
  XP.ret (IE r.gp.ds ht (n.size::f) c _ h d p _ (λa o=>by have:=ae a o;omega) (by simp[ai]) U V) K W r.rd V (λa o=>⟨o.1 _,o.2⟩) V
 have So:∀{Q:Nat}{M:J},GC c h Q d p g e M->Fz [c] b M->Fz [c] X M->Lw c [n.size,b.size] M->Q<=P+2->0<u.len->aL cp 81 [vp c 0,vi (u.len:Int)] M λal q=>dR [n.size,b.size] M q/\∃L:Int,al=vi L/\(0:Int)<=L/\L<(u.len:Int)/\∃ad:Int,af q u.E (u.off+Int.toNat L*1)=some (vi ad)/\
  aL cp 313 [vi ad] q λY M2=>dR [n.size,b.size] q M2/\∃w x:Int,∃y:O,Y=.agg #[vi w,vi x,O.v y]/\XP f c h b (P+22) (λa=>WX g e.length i.length a/\a.n<=4) (.agg #[vi w,vi x,O.v y]) (ah M2 n.size 0 [.i w,.i x,.s y]):=λU W f3 K hq h0=>
  (cw U.rd V u.len).mono λ_ q⟨ab,a,k0,k1,r',I⟩=>by
   obtain⟨Z,hy⟩:=ag (l:=ac) (k:=ab.toNat) V;have aj:=ak.1 Z (av hy);exact⟨K.dv I,ab,a,k0,V,Z,(dV.1 ((aa.le (fh (f3.trans I))).D hy)).2,XP.ret ((lL (n.size::f) Z q).x r') (K.fz I) (W.trans I) r.rd V (λa o=>o▸⟨.So aj,by rw[Ex.QM];simp⟩) V⟩
 refine⟨λz=>?_,λz=>lI G E z3 F V⟩
 simp only[au]at z
 refine(cw G.rd V 6).mono λ_ m4⟨k1,a,_,_,r4,o⟩=>⟨F.dv o,k1,a,λz=>So (G.to o r4) (E.trans o) o (F.fz o) V V,λz=>?_⟩
 intro m5
 have B:N m4 m5:=N.push _ _
 have c4:=G.to o r4
 have H:=c4.ext B
 have R:=(F.fz o).fz (B.fz [])
 refine(pp (v:=[]) (H.hd.le (bG _ _)) r.types (oN.le (bG _ _) H.hp) (by have:=r.gp.nR;omega) (lZ _ _ _ _ _ _) t).mono λ_ m6⟨T,a,s⟩=>⟨R.dv (s.fz _),T,a,λz=>?_,λz=>?_⟩
 ·exact So (H.ext s) ((E.trans o).then (B.trans s)) (o.then (B.trans s)) (R.fz (s.fz [])) V V
 ·exact lI (H.ext s) ((E.trans o).then (B.trans s)) (by have:=o.size;have:=B.size;have:=s.size;omega) (R.fz (s.fz [])) V
def Ia(hS:∀r∈f,r<b.size)(hd:cr b d g)(ht:dI g)(E:oN b p e)(hf:e.length<=1000)(Z:1<=e.length)(t:Int):ku 328 [.agg #[O.v d,O.v p],vi t] b f λh=>(∀y∈h,∃(s:Nat)(q:dk),y=s/\e[s]? =some q)/\h.length<=e.length:=by
 apply Bn;simp -zeta only[aC,aB];intro a H;have P:N b a:=N.push _ _;have C:∀r∈[b.size],r<a.size:=by simp[a]
 have Y:GI f a H (.mk a.size 0 0 0) []:=GI.nil f a;have x2:N a H:=N.push _ _;clear_value H;clear_value a;have aj:=E.len;refine Ph (a:=e.length) V Z (λx K M=>N a M/\∃h,GI f a M K h/\(∀y∈h,∃(s:Nat)(q:dk),y=s/\e[s]? =some q)/\h.length<=x) ⟨x2,[],Y,aJ,aJ⟩ ?_;rintro x K M ad μ ah hk ⟨o,h,A,F,ai⟩ W
 have L:=P.trans o;refine⟨λS=>?_,λS=>⟨K,h,rfl,A.ct (λ_ i=>i) P.size,⟨F,V⟩,L⟩⟩;simp only[au]at S;obtain⟨q,T⟩:=ag (l:=e) (k:=x) V;obtain⟨ae,B,z,X⟩:=E.D T;have aa:=B.len;refine⟨V,V,_,L.af X,?_⟩;refine dS (n:=q.params.length) (aa▸B.gV) (λ_ _ Q=>N M Q) (N.az _) ?_;rintro ab ok u I2 μ2 hj c U;have m:=L.trans c;refine⟨V,V,_,m.af z,λi=>⟨λ_=>?_,λ_=>U (by simp only[au]at i;omega) _ _ c⟩,λi=>⟨λ_=>?_,λ_=>W V _ _ ⟨o.trans c,h,A.ext c,F,V⟩⟩⟩
 ·simp only[au]at i;obtain⟨y,hy⟩:=ag (l:=q.params) (k:=ab) V;have R:=(B.ext m).D hy;refine⟨V,V,_,m.af z,V,V,y,R,?_⟩;intro I;have j:N u I:=N.push _ _;have G:∀{w J:Nat}{ac:Value},af u w J=some ac->af I w J=af u w J:=λi=>by rw[j.af i,i]
  have D:b.size<u.size:=aO (C _ aJ) (o.trans c).size;refine⟨G R,G (m.af z),aM (j.same _ D) _,aM (j.same _ D) _,aM (j.same _ D) _,?_⟩;exact(pp (v:=[]) (hd.le (m.trans j).le) ht (oN.le (m.trans j).le E) hf (lZ _ _ _ _ _ _) y).aK ((o.trans c).trans j) C λw m5 x5 _=>⟨_,rfl,U V _ _ ((c.trans j).trans x5)⟩
 ·intro I;refine GI.jY (A.ext c) ((o.trans c).fz []) (λr j=>P.lt (hS r j)) V λR Q D w _ _=>⟨N.nW ((o.trans c).aN _) w.ext C,W V _ _ ⟨w.ext,_,D,λJ j=>?_,bR⟩⟩;rcases List.mem_append.1 j with j|j
  ·exact F J j
  ·simp at j;exact⟨x,q,j,T⟩
end
end
section
variable{f c:Int}{g:O}{e:List Int}
def Cg(c:Int):Nat:=30*4^c.toNat
def tH(h:f<=c):Cg f<=Cg c:=Nat.mul_le_mul_left _ (Nat.pow_le_pow_right bh V)
def O0(c:Int):30<=Cg c:=Nat.le_mul_of_pos_right _ (Nat.pow_pos bh)
def PT(a:0<=f)(h:f+1<=c):4*Cg f<=Cg c:=by
 refine bX (tj ?_) (tH h);unfold Cg;rw[show(f+1).toNat=f.toNat+1 by omega,Nat.pow_succ];omega
def IV(b:List bu)(g:List dk)(c:Int):Prop:=∀(S:List Nat)(a P:Nat)(d e p h:O)(m:J)(v:List Int)(t:Int),(∀f∈S,f<m.size)->a∈S->GC a d P e p b g m->P+Cg c<=10000000000000000->IR a m h v->v.length+3*c.toNat<=1000->Ty b t->
 aL cp 310 [vp a 0,.agg #[O.v e,O.v p],O.v h,vi t,vi c] m (XP S a d m (P+Cg c) λf=>WX b g.length v.length f/\(c<=2->f.n<=4))
def XL(S:List Nat)(b:Nat)(c:O)(m:J)(P:Nat)(Q:List Ex->Prop)(v:Value)(a:J):Prop:=∃s l,v=O.v s/\fe (bM S a) s l/\Q l/\Rd b c P a/\Fz [b] m a
def Jq{S:List Nat}{M:J}(i:∀c∈S,c<M.size)(p:Nat):∀(l:List (Ex×O))(_:l.length<=1000)(_:∀x∈l,fe (bM S M) x.2 x.1.bD){a:List Ce}{n:Nat},a=l.flatMap (λx=>[.i x.1.op,.i x.1.bL,.s x.2])->n=l.length->
 GE S M (M.push (.cells (bC a) bI)) (.mk M.size 0 n n) (l.map (·.1)):=by
 intro l q h a n j k
 refine Gr.lit (f:=l.map λx=>[.i x.1.op,.i x.1.bL,.s x.2]) AF.mono (ad _) i (by rw[j,ZV]) (by simp[k]) ⟨aJ,λc d=>?_,λr c o f e=>?_⟩
 ·simp at d;obtain⟨_,_,_,rfl⟩:=d;rfl
 ·simp only[cU,iW]at f e
  obtain⟨x,g,rfl⟩:=f
  obtain⟨y,b,rfl⟩:=e
  rw[g]at b;simp at b;subst b
  have:=h x (av g)
  cases m:x.1 with
  |mk t n s=>rw[m]at this;exact AF.of this
section
variable{j L:List Nat}{h P:Nat}{o d p r:O}{i:List bu}{q:List dk}{m:J}{v:List Int}
def KZ(B:0<=c)(ih:∀a,0<=a->a<=c->IV i q a)(I:∀u∈j,u<m.size)(K:h∈j)(u:GC h o P d p i q m)(hP:P+3*Cg c<=10000000000000000)(hv:IR h m r v)(ak:v.length+3*c.toNat<=1000)(ah:c<=1000)(L:IR h m g e)(h3:e.length<=3)(ac:∀y∈e,Ty i y):
 aL cp 326 [vp h 0,.agg #[O.v d,O.v p],O.v r,O.v g,vi c] m (XL j h o m (P+3*Cg c) λb=>b.length=e.length/\∀f∈b,WX i q.length v.length f):=by
 apply ER (h,0)
 simp -zeta only[aC,aB]
 intro a D
 have E:N m a:=N.push _ _
 have hr:=u.rd.lt
 have T:Lw h [m.size] a:=by intro c B;simp[a]at B⊢;omega
 have Z:GE j a D (.mk a.size 0 0 0) []:=Gr.new _ (ad _) _ _ _
 have S:N a D:=N.push _ _
 clear_value D
 clear_value a
 have F:=u.ext E
 have aj:=L.len
 refine dS (n:=e.length) V (λt z M=>∃b,GE j a M z b/\b.length=t/\(∀f∈b,WX i q.length v.length f)/\Rd h o (P+t*Cg c) M/\Fz [h] a M) ⟨[],Z,rfl,aJ,by simpa using F.rd.ext S,S.fz _⟩ ?_
 rintro t z M af μ hk ⟨b,A,ai,J,R,H⟩ ae
 have w:=(E.fz [h]).trans H
 refine dit (λs=>?_) λs=>?_
 ·obtain⟨y,Q⟩:=ag (l:=e) (k:=t) V
  obtain⟨U,G⟩:=LU (f:=(g.len:Int)) B V
  rw[aP (b:=Int.tdiv c _) V V]
  have hy:=A.be
  have hm:=tH G
  have ab:t*Cg c+Cg c<=3*Cg c:=by rw[<-pE];exact dp _ V
  refine⟨V,V,y,(dV.1 ((L.le (fh w)).D Q)).2,V,?_⟩
  exact XP.jY (ih _ U G (z.E::j) h _ o d p r M v y (bP I w.size hy.2) (by simp[K]) (u.to w R) V (hv.le (fh w)) V (ac y (av Q))) A H T F.rd K V λf al M' C Y r' X _ _=>
   ae V _ _ ⟨_,Y,bR,λW aa=>by rcases List.mem_append.1 aa with s|s;exact J W s;simp at s;subst s;exact C.1,r'.mono (by rw[pE];omega),X⟩
 ·have ab:t*Cg c<=3*Cg c:=dp _ V
  exact⟨z,b,rfl,A.done AF.mono (λf C=>E.lt (I f C)) bh V,⟨V,J⟩,R.mono V,w⟩
def yJ{f E B:Nat}{k:J}{Q:Ex->Prop}{u bL:Int}(T:0<=c)(ih:∀a,0<=a->a<=c->IV i q a)(R:∀n∈f::j,n<m.size)(Y:h∈j)(n:GC h o P d p i q m)(K:P+3*Cg c<=10000000000000000)(hv:IR h m r v)(ab:v.length+3*c.toNat<=1000)(U:c<=1000)(Z:IR h m g e)(H:e.length<=3)(aa:∀t∈e,Ty i t)
 (D:Lw h L m)(W:Fz [h] k m)(F:Rd h o E k)(X:k.size<=f)(N:∀l,l.length=e.length->(∀b∈l,WX i q.length v.length b)->Q (.mk u bL l))(M:P+3*Cg c<=B):
 aL cp 326 [vp h 0,.agg #[O.v d,O.v p],O.v r,O.v g,vi c] m λw a=>dR L m a/\∃s:O,w=O.v s/\
  aL cp 311 [vi u,vi bL,O.v s] a λw A=>dR L a A/\∃x y:Int,∃z:O,w=.agg #[vi x,vi y,O.v z]/\XP j h o k B Q (.agg #[vi x,vi y,O.v z]) (ah A f 0 [.i x,.i y,.s z]):=
 (KZ (j:=f::j) T ih R (by simp[Y]) n K hv ab U Z H aa).mono λ_ a⟨s,l,b,G,C,I,t⟩=>⟨D.dv t,s,b,XP.ret (mJ I G u bL) (D.fz t) (W.trans t) F X (λb V=>V▸N l C.1 C.2) M⟩
def If(K:3<=c/\c<=100)(ih:∀e,0<=e->e<=c -1->IV i q e)(hS:∀t∈j,t<m.size)(ah:h∈j)(t:GC h o P d p i q m)(hP:P+23+3*Cg (c -1)<=10000000000000000)(hv:IR h m r v)(aV:v.length+3*c.toNat<=1000){am:Int}(ht:Ty i am):
 aL cp 327 [vp h 0,.agg #[O.v d,O.v p],O.v r,vi am,vi c] m (XP j h o m (P+23+3*Cg (c -1)) (WX i q.length v.length)):=by
 apply Bz (h,0)
 simp -zeta only[aC,aB]
 intro s G m3
 obtain⟨W,hl⟩:=dF (a:=s) (c:=G) rfl rfl
 have s1:s.size=m.size+1:=by simp[s]
 have X:N G m3:=N.push _ _
 have hr:=t.rd.lt
 have z2:=W.size
 have aE:aq (bM [h] m3) (.mk G.size 0 4 4) [1,1,3,4]:=aq.lit aI _ bR rfl rfl aJ
 clear_value m3
 clear_value G
 have L2:Lw h [s.size,m.size] G:=λc K=>⟨hl c K,by simp at K;omega⟩
 have ay:∀e∈s.size::j,e<G.size:=bP hS W.size (hl _ aJ)
 have c3:=(t.ext W).ext X
 have L3:=L2.fz (X.fz [])
 have Y:=t.types
 refine(j9 c3.rd V aE aJ).mono λ_ m4⟨U,e,hk,r4,I⟩=>⟨L3.dv I,U,e,?_⟩
 have Z:=c3.to I r4
 have L4:=L3.fz I
 have aO:=Z.hd.len
 have dl:=oP i t.gp.ds
 have af:U∈[(1:Int),3,4]:=by simp at hk⊢;omega
 have jZ:0<(cg i 1).length:=(PY i t.gp.ds).1
 refine⟨λg M=>g∈[(1:Int),3,4]/\g<=i.length/\0<(cg i g).length/\N m4 M,⟨λ_=>⟨bh,V,jZ,N.az _⟩,λab=>?_⟩,?_⟩
 ·simp only[bU]at ab
  refine(mI (Z.hd.le (bG _ _)) Y U).mono λ_ m5⟨c,e,K,y⟩=>⟨L4.dv (y.fz _),c,e,λ_=>⟨bh,V,jZ,y⟩,λf=>⟨af,V,O5 i t.gp.ds U af V λaj R u=>?_,y⟩⟩
  rw[K.2 ⟨aj,by simp at af;omega,R,u⟩]at f;exact absurd f bh
 rintro g m5 ⟨ao,az,aK,y⟩
 have c5:=Z.ext y
 have L5:=L4.fz (y.fz [])
 have F5:Fz [h] m m5:=(((W.trans X).fz _).trans I).then y
 have k5:g∈[(0:Int),1,2,3,4]:=by simp at ao⊢;omega
 have hf:=yI i t.gp.ds
 have aM:=hf.2.1 g k5
 refine(gN (e:=[h]) (by simp;exact c5.rd.lt) (c5.hd.le (bG _ _)) Y g).mono λ_ m6⟨cs,w,e,hc,aj,Q⟩=>⟨L5.dv (Q.fz _),cs,e,?_⟩
 subst aj
 have c6:=c5.ext Q
 have L6:=L5.fz (Q.fz [])
 have F6:=F5.then Q
 have aN:=hc.len
 have z3:=X.size;have z4:=I.size;have z5:=y.size;have z6:=Q.size
 have an:∀e∈s.size::j,e<m6.size:=λe u=>by have:=ay e u;omega
 refine XP.then (qK (f:=s.size::j) an (by simp[ah]) c6 V (hv.le (fh F6)) V ⟨by simp at ao;omega,az⟩) L6 λs0 e0 H h7 q7 r7 J=>⟨_,_,_,rfl,?_⟩
 intro m8
 have x8:N H m8:=N.push _ _
 have z7:=J.size
 have ac:∀e∈s.size::j,e<H.size:=λe u=>by have:=an e u;omega
 have g8:GE (s.size::j) H m8 (.mk H.size 0 1 1) [e0]:=Jq ac 0 [(e0,s0)] aJ (by simpa using h7) rfl rfl
 clear_value m8
 have c7:=c6.to J r7
 have L7:=L6.fz J
 have F7:=F6.trans J
 refine dS (n:=(cg i g).length) V (λC ak M=>∃w,GE (s.size::j) H M ak (e0::w)/\w.length=C/\(∀(B:Nat)(e:Ex)(E:Int),w[B]? =some e->(cg i g)[B]? =some E->WX i q.length (v.length+(cz i E).length) e)/\Rd h o (P+23+C*Cg (c -1)) M/\Fz [h] H M) ⟨[],g8,rfl,aJ,by simpa using(r7.ext x8).mono V,x8.fz _⟩ ?_
 rintro C ak M aH μ hj ⟨w,aa,aU,R,L,F⟩ aG
 have z:=L7.fz F
 have aS:C*Cg (c -1)<=3*Cg (c -1):=dp _ V
 refine dit (λab=>?_) λab=>?_
 ·obtain⟨E,hy⟩:=ag (l:=cg i g) (k:=C) V
  obtain⟨aQ,aR⟩:=hf.1 g k5 E (av hy)
  have aW:=aa.be
  have cM:=c7.to F L
  refine⟨V,V,E,(dV.1 ((hc.le (fh (J.trans F))).D hy)).2,V,?_⟩
  refine(dC (e:=[h]) (by simp;exact L.lt) cM.hd Y E).mono λ_ m9⟨f9,l9,e,h9,q9,f⟩=>⟨z.dv (f.fz _),f9,e,z.bV (Fz.az _ _) (f.fz _) aJ _,z.bV (Fz.az _ _) (f.fz _) aJ _,?_⟩
  subst q9
  have F9:=(F7.trans F).then f
  refine(eB (S:=[h]) (by simp;exact(L.ext f).lt) (hv.le (fh F9)) h9 V).mono λ_ ap⟨al,ai,e,au,ar,D⟩=>⟨(z.fz (f.fz [])).dv (D.fz _),al,e,z.bV (f.fz _) (D.fz _) aJ _,z.bV (f.fz _) (D.fz _) aJ _,?_⟩
  have ax:IR h ap al ai:=GI.done au (by simp;exact(L.ext f).lt) (by rw[<-ar];simp;omega)
  obtain⟨d0,d1⟩:=LU (g:=c -2) (f:=(cs.len:Int)) V V
  rw[aP (b:=c -2) V V,aP (b:=Int.tdiv _ _) V V]
  have hm:=tH (f:=Int.tdiv (c -2) cs.len) (c:=c -1) V
  have aT:C*Cg (c -1)+Cg (c -1)<=3*Cg (c -1):=by rw[<-pE];exact dp _ V
  have fT:=(F.then f).then D
  have aA:ai.length=v.length+(cz i E).length:=by rw[<-ar];simp
  refine XP.jY (ih _ d0 V (ak.E::s.size::j) h _ o d p al ap ai am (bP (λe u=>by have:=ac e u;have:=fT.size;omega) (ad _) (by have:=f.size;have:=D.size;omega)) (by simp[ah]) ((cM.ext f).ext D) V ax V ht) ((aa.ext AF.mono f).ext AF.mono D) fT L7 r7 (by simp[ah]) bR λe aX M' u g' r' f' _ _=>
   aG V _ _ ⟨w++[e],g',bR,λB e' y' A T=>?_,r'.mono (by rw[pE];omega),f'⟩
  rcases bA B w.length with ae|ae
  ·rw[aw ae]at A;exact R B e' y' A T
  ·rw[aF ae]at A
   have:B -w.length=0:=by have:=aD A;simp at this;omega
   rw[this]at A;simp at A;subst A
   have:B=C:=V
   subst this
   rw[hy]at T;simp at T;subst T
   rw[<-aA];exact u.1
 ·exact XP.ret (mJ L (aa.done AF.mono ac bh bR) 8 g) z (F7.trans F) t.rd V (λe u=>u▸.mt q7.1 V V R) V
end
end
section
section
variable{e L:List Nat}{c P:Nat}{g d p i:O}{f:List bu}{h:List dk}{m:J}{v:List Int}
def Ig{r:Int}(hb:3<=r/\r<=100)(ih:∀j,0<=j->j<=r -1->IV f h j)(hS:∀s∈e,s<m.size)(U:c∈e)(s:GC c g P d p f h m)(hP:P+24+3*Cg (r -1)<=10000000000000000)(W:IR c m i v)(aH:v.length+3*r.toNat<=1000){ac:Int}(ht:Ty f ac):
 aL cp 329 [vp c 0,.agg #[O.v d,O.v p],O.v i,vi ac,vi r] m (XP e c g m (P+24+3*Cg (r -1)) (WX f h.length v.length)):=by
 apply BA (c,0)
 simp -zeta only[aC,aB]
 intro z ab
 obtain⟨Y,R⟩:=dF (a:=z) (c:=ab) rfl rfl
 have s1:z.size=m.size+1:=by simp[z]
 clear_value ab
 have hr:=s.rd.lt
 have z2:=Y.size
 have L2:Lw c [z.size,m.size] ab:=λr hb=>⟨R r hb,by simp at hb;omega⟩
 have ar:∀j∈z.size::e,j<ab.size:=bP hS Y.size (R _ aJ)
 have c2:=s.ext Y
 have ae:=s.types
 have aG:=s.hd.len
 have dl:=oP f s.gp.ds
 have ax:cR (r -2)=r -2:=aP V V
 have am:cR (r -1)=r -1:=aP V V
 have nR:=s.gp.nR
 have aA:v.length+3*(r -2).toNat<=1000:=V
 have hm:=tH (f:=r -2) (c:=r -1) V
 have aE:P+24+Cg (r -2)<=10000000000000000:=V
 refine⟨λM=>Rd c g (P+1) M/\Fz [c] ab M,?_,?_⟩
 ·refine(cw c2.rd V 4).mono λ_ m3⟨A,j,_,_,r3,Z⟩=>⟨L2.dv Z,A,j,λ_=>?_,λ_=>⟨r3,Z⟩⟩
  refine Wv (a:=f.length+1) V V (λ_ M=>Rd c g (P+1) M/\Fz [c] ab M) ⟨r3,Z⟩ ?_
  rintro aa M aw μ ay ha ⟨T,I⟩ af
  have Q:=c2.to I T
  have LM:=L2.fz I
  refine⟨λu=>?_,λu=>⟨T,I⟩⟩
  simp only[au]at u
  have ea:cR ((aa:Int) -1)=aa -1:=aP V V
  rw[ea]
  refine(mI (Q.hd.le (bG _ _)) ae aa).mono λ_ K⟨b4,j,ap,L⟩=>⟨LM.dv (L.fz _),b4,j,λh1=>?_,λ_=>af V _ ⟨T.ext L,I.then L⟩⟩
  obtain⟨al,_,hq,az⟩:=ap.1 h1
  have X:f[((aa:Int) -1).toNat]? =some al:=by rw[<-hq];congr 1;omega
  obtain⟨_,_,g0,g1,_⟩:=Q.hd.D X
  have F:=Q.ext L
  have x:=LM.fz (L.fz [])
  have q:=I.then L
  refine⟨V,V,_,L.af (dV.1 g1).2,λ_=>?_,λ_=>af V _ ⟨T.ext L,q⟩⟩
  refine(pp (F.hd.le (bG _ _)) ae (oN.le (bG _ _) F.hp) V ((W.le (fh ((Y.fz _).trans q))).le (bG _ _)) aa).mono λ_ w⟨b5,j,o⟩=>⟨x.dv (o.fz _),b5,j,λ_=>?_,λ_=>af V _ ⟨(T.ext L).ext o,q.then o⟩⟩
  have G:=F.ext o
  have y:=x.fz (o.fz [])
  have f5:=q.then o
  have z5:=f5.size
  have aj:∀j∈z.size::e,j<w.size:=λj H=>by have:=ar j H;omega
  obtain⟨_,_,ai,_,_⟩:=G.hd.D X
  refine⟨V,V,_,(dV.1 ai).2,?_⟩
  refine XP.then (qK (f:=z.size::e) aj (by simp[U]) G V (W.le (fh ((Y.fz _).trans f5))) V ⟨V,V⟩) y λs6 e6 D h6 q6 r6 B=>⟨_,_,_,rfl,?_⟩
  have c6:=G.to B r6
  have C:=y.fz B
  obtain⟨_,_,ao,_,_⟩:=c6.hd.D X
  refine⟨by rw[(dV.1 ao).2,(dV.1 ai).2],y.bV (Fz.az _ _) B aJ _,y.bV (Fz.az _ _) B aJ _,y.bV (Fz.az _ _) B aJ _,?_⟩
  rw[ax]
  have F6:=(Y.fz [c]).trans (f5.trans B)
  have ak:∀j∈z.size::e,j<D.size:=λj H=>by have:=aj j H;have:=B.size;omega
  refine XP.then (ih (r -2) V V (z.size::e) c (P+1+22) g d p i D v _ ak (by simp[U]) c6 V (W.le (fh F6)) aA ((yI f s.gp.ds).2.2 al (av X))) C λs7 e7 E h7 q7 r7 t=>⟨_,_,_,rfl,?_⟩
  intro m8
  have x8:N E m8:=N.push _ _
  have an:∀j∈z.size::e,j<E.size:=λj H=>by have:=ak j H;have:=t.size;omega
  have g8:GE (z.size::e) E m8 (.mk E.size 0 2 2) [e6,e7]:=Jq an 0 [(e6,s6),(e7,s7)] aJ (by simp;exact⟨fe.le (t.cW (by simp[U])) h6,h7⟩) rfl rfl
  clear_value m8
  exact XP.ret (mJ (r7.ext x8) (g8.done AF.mono an bh aJ) 11 0) ((C.fz t).fz (x8.fz [])) ((F6.trans t).then x8) s.rd V (λj H=>H▸.eO bh (λu=>V) bh (λu=>V) (by simp;exact⟨q6.1,q7.1⟩)) V
 rintro M ⟨T,I⟩
 have Q:=c2.to I T
 have LM:=L2.fz I
 have zM:=I.size
 have FM:=(Y.fz [c]).trans I
 refine(gN (e:=[c]) (by simp;exact T.lt) (Q.hd.le (bG _ _)) ae ac).mono λ_ m3⟨cs,an,j,hc,al,x3⟩=>⟨LM.dv (x3.fz _),cs,j,?_⟩
 subst al
 have c3:=Q.ext x3
 have Z:=LM.fz (x3.fz [])
 have L:=FM.then x3
 have z3:=x3.size
 have aF:=hc.len
 have ai:∀{M:J},m3.size<=M.size->∀j∈z.size::e,j<M.size:=λu j H=>by have:=ar j H;omega
 have t5:=Ty.Wu s.gp.ds ht
 have ay:=yI f s.gp.ds
 refine⟨λu=>?_,λu=>⟨λu=>?_,λu=>?_⟩⟩
 ·simp only[au]at u
  refine(cw c3.rd V cs.len).mono λ_ K⟨A,j,k0,k1,X,q⟩=>⟨Z.dv q,A,j,k0,V,?_⟩
  obtain⟨af,hy⟩:=ag (l:=cg f ac) (k:=A.toNat) V
  have aj:=ay.1 ac t5 af (av hy)
  have F:=c3.to q X
  have x:=Z.fz q
  refine⟨af,(dV.1 ((hc.le (fh q)).D hy)).2,?_⟩
  refine(dC (e:=[c]) (by simp;exact X.lt) F.hd ae af).mono λ_ w⟨f5,l5,j,h5,q5,o⟩=>⟨x.dv (o.fz _),f5,j,x.bV (Fz.az _ _) (o.fz _) aJ _,x.bV (Fz.az _ _) (o.fz _) aJ _,?_⟩
  subst q5
  rw[am]
  exact yJ V ih (ai (by have:=q.size;have:=o.size;omega)) U (F.ext o) V (W.le (fh ((L.trans q).then o))) V V h5 aj.1 aj.2 (x.fz (o.fz [])) ((L.trans q).then o) s.rd V (λan _ R=>.eO bh (λu=>V) bh (λu=>V) R) V
 ·exact XP.ret (qK (f:=z.size::e) (ai (ad _)) (by simp[U]) c3 V (W.le (fh L)) V ht) Z L s.rd V (λj H=>H.1) V
 ·refine(cw c3.rd V 3).mono λ_ K⟨A,j,k0,k1,X,q⟩=>⟨Z.dv q,A,j,λ_=>?_,λ_=>?_⟩
  ·have F:=c3.to q X
   have x:=Z.fz q
   have z4:=q.size;have az:=X.lt
   intro w
   have o:N K w:=N.push _ _
   have af:aq (bM [c] w) (.mk K.size 0 1 1) [0]:=aq.lit aI _ bR rfl rfl aJ
   clear_value w
   have z5:=o.size
   rw[am]
   exact yJ V ih (ai V) U (F.ext o) V (W.le (fh ((L.trans q).then o))) V V af aJ (by simp[s.gp.ty]) (x.fz (o.fz [])) ((L.trans q).then o) s.rd V (λan _ R=>.eO bh (λu=>V) bh (λu=>V) R) V
  ·have F:=c3.to q X
   have x:=Z.fz q
   have F4:=L.trans q
   have z4:=q.size;have az:=X.lt
   have gW:∀{aD M:J}{aa t0:Nat},GC c g (P+3) d p f h M->Fz [c] K M->aq (bM [c] M) (.mk t0 0 2 2) [0,0]->∀op:Int,op∈[(1:Int),2,3,4]->aL cp 326 [vp c 0,.agg #[O.v d,O.v p],O.v i,O.v (.mk t0 0 2 2),vi (r -1)] M λap M1=>dR [z.size,m.size] M M1/\∃aw:O,ap=O.v aw/\
    aL cp 311 [vi op,vi 0,O.v aw] M1 λap M2=>dR [z.size,m.size] M1 M2/\∃r0 r1:Int,∃r2:O,ap=.agg #[vi r0,vi r1,O.v r2]/\XP e c g m (P+24+3*Cg (r -1)) (WX f h.length v.length) (.agg #[vi r0,vi r1,O.v r2]) (ah M2 z.size 0 [.i r0,.i r1,.s r2]):=λQ af u op aj=>
    yJ V ih (ai (by have:=af.size;omega)) U Q V (W.le (fh (F4.trans af))) V V u aJ (by simp[s.gp.ty]) (x.fz af) (F4.trans af) s.rd V (λan _ R=>.eO (by simp at aj;omega) (λu=>by simp at aj;omega) (by simp at aj;omega) (λu=>by simp at aj;omega) R) V
   rw[am]
   refine⟨?_,?_⟩
   ·intro w
    have o:N K w:=N.push _ _
    have ak:aq (bM [c] w) (.mk K.size 0 4 4) [1,2,3,4]:=aq.lit aI _ bR rfl rfl aJ
    clear_value w
    have G:=F.ext o
    have y:=x.fz (o.fz [])
    have z5:=o.size
    refine⟨x.bV (Fz.az _ _) (o.fz _) aJ _,x.bV (Fz.az _ _) (o.fz _) aJ _,?_,?_⟩
    ·refine(j9 G.rd V ak aJ).mono λ_ D⟨A,j,hk,r6,B⟩=>⟨y.dv B,A,j,y.bV (Fz.az _ _) B aJ _,y.bV (Fz.az _ _) B aJ _,?_⟩
     intro E
     have x7:N D E:=N.push _ _
     have ao:aq (bM [c] E) (.mk D.size 0 2 2) [0,0]:=aq.lit aI _ (by simp;exact r6.lt) rfl rfl aJ
     clear_value E
     have C:=y.fz B
     exact⟨C.bV (Fz.az _ _) (x7.fz _) aJ _,C.bV (Fz.az _ _) (x7.fz _) aJ _,gW (aD:=E) (aa:=0) ((G.to B r6).ext x7) (((o.fz _).trans B).then x7) ao A hk⟩
    ·intro D
     have B:N w D:=N.push _ _
     have ao:aq (bM [c] D) (.mk w.size 0 2 2) [0,0]:=aq.lit aI _ bR rfl rfl aJ
     clear_value D
     have C:=y.fz (B.fz [])
     refine⟨y.bV (Fz.az _ _) (B.fz _) aJ _,y.bV (Fz.az _ _) (B.fz _) aJ _,?_⟩
     refine(j9 (G.ext B).rd V (ak.le (fh (B.fz _))) aJ).mono λ_ E⟨A,j,hk,r7,t⟩=>⟨C.dv t,A,j,C.bV (Fz.az _ _) t aJ _,C.bV (Fz.az _ _) t aJ _,gW (aD:=E) (aa:=0) ((G.ext B).to t r7) (((o.trans B).fz _).trans t) (ao.le (fh t)) A hk⟩
   ·intro w
    have o:N K w:=N.push _ _
    have ak:aq (bM [c] w) (.mk K.size 0 2 2) [0,0]:=aq.lit aI _ bR rfl rfl aJ
    clear_value w
    have G:=F.ext o
    have y:=x.fz (o.fz [])
    have z5:=o.size
    refine⟨x.bV (Fz.az _ _) (o.fz _) aJ _,x.bV (Fz.az _ _) (o.fz _) aJ _,?_⟩
    intro D
    have B:N w D:=N.push _ _
    have ao:aq (bM [c] D) (.mk w.size 0 4 4) [1,2,3,4]:=aq.lit aI _ bR rfl rfl aJ
    clear_value D
    have C:=y.fz (B.fz [])
    refine⟨y.bV (Fz.az _ _) (B.fz _) aJ _,y.bV (Fz.az _ _) (B.fz _) aJ _,?_⟩
    refine(j9 (G.ext B).rd V ao aJ).mono λ_ E⟨A,j,hk,r7,t⟩=>⟨C.dv t,A,j,C.bV (Fz.az _ _) t aJ _,C.bV (Fz.az _ _) t aJ _,gW (aD:=E) (aa:=0) ((G.ext B).to t r7) (((o.trans B).fz _).trans t) ((ak.le (fh (B.fz _))).le (fh t)) A hk⟩
end
end
section
variable{c:Int}
def Vq{o:List bu}{s:List dk}(hb:0<=c/\c<=100)(ih:∀d,0<=d->d<=c -1->IV o s d):IV o s c:=by
 intro t e P H U X ae y z C hS B j hP L aK K;apply Kd (e,0);simp -zeta only[aC,aB];intro h aa;obtain⟨x2,hl⟩:=dF (a:=h) (c:=aa) rfl rfl;have s1:h.size=y.size+1:=by simp[h]
 clear_value aa;have hr:=j.rd.lt;have z2:=x2.size;have L2:Lw e [h.size,y.size] aa:=λc hb=>⟨hl c hb,by simp at hb;omega⟩;have I:∀{d:J},aa.size<=d.size->∀f∈h.size::t,f<d.size:=λA f he=>by have:=bP hS x2.size (hl h.size aJ) f he;omega
 have c2:=j.ext x2;have an:=j.types;have nR:=j.gp.nR;have iu:=j.gp.iu;have aF:=O0 c;have ar:∀{am:Nat}{d:J},GC e H am U X o s d->Fz [e] aa d->am+22<=P+Cg c->aL cp 314 [vp e 0,.agg #[O.v U,O.v X],O.v ae,vi C] d λad M2=>dR [h.size,y.size] d M2/\∃Y Z:Int,∃r2:O,ad=.agg #[vi Y,vi Z,O.v r2]/\XP t e H y (P+Cg c) (λf=>WX o s.length z.length f/\(c<=2->f.n<=4)) (.agg #[vi Y,vi Z,O.v r2]) (ah M2 h.size 0 [.i Y,.i Z,.s r2]):=λcM g hq=>
  XP.ret (qK (f:=h.size::t) (I g.size) (by simp[B]) cM V (L.le (fh ((x2.fz _).trans g))) V K) (L2.fz g) ((x2.fz _).trans g) j.rd V (λf he=>⟨he.1,λ_=>he.2⟩) hq
 refine⟨λ_=>ar c2 (Fz.az _ _) V,λh3=>?_⟩;simp only[bU]at h3;have aG:=PT (f:=c -1) (c:=c) V V;have aH:=PT (f:=c -2) (c:=c -1) V V;have aE:=O0 (c -2);have ao:cR (c -1)=c -1:=aP V V;have hQ:∀f,WX o s.length z.length f->WX o s.length z.length f/\(c<=2->f.n<=4):=λf A=>⟨A,λA=>V⟩;refine(cw c2.rd V 12).mono λ_ m3⟨ab,f,k0,k1,r3,f3⟩=>⟨L2.dv f3,ab,f,?_⟩;have w:=c2.to f3 r3;have R:=L2.fz f3;have v:=(x2.fz [e]).trans f3;have z3:=f3.size;have ay:=I z3;have aw:∀{d:J},N m3 d->aL cp 329 [vp e 0,.agg #[O.v U,O.v X],O.v ae,vi C,vi c] d λad M2=>dR [h.size,y.size] d M2/\∃Y Z:Int,∃r2:O,ad=.agg #[vi Y,vi Z,O.v r2]/\XP t e H y (P+Cg c) (λf=>WX o s.length z.length f/\(c<=2->f.n<=4)) (.agg #[vi Y,vi Z,O.v r2]) (ah M2 h.size 0 [.i Y,.i Z,.s r2]):=λE=>
  XP.ret (Ig (e:=h.size::t) ⟨V,V⟩ ih (I (by have:=E.size;omega)) (by simp[B]) (w.ext E) V (L.le (fh (v.then E))) V K) (R.fz (E.fz [])) (v.then E) j.rd V hQ V
 refine⟨λ_=>ar w f3 V,λ_=>⟨λ_=>?_,λ_=>⟨λ_=>?_,λ_=>⟨λ_=>?_,λ_=>⟨λ_=>?_,λ_=>aw (N.az _)⟩⟩⟩⟩⟩
 ·refine(J2 r3 V w.hd an w.hp V (L.le (fh v))).mono λ_ m⟨D,f,hu,r4,f4⟩=>⟨R.dv f4,D,f,bh,bh,?_⟩;have T:=w.to f4 r4;have r:=R.fz f4;have F4:=v.trans f4;have z4:=f4.size;have az:Ty o D:=by have:=oP o j.gp.ds;unfold Ty;omega
  obtain⟨d0,d1⟩:=LU (g:=c) (f:=2) V V;have d2:Int.tdiv c 2<=c -1:=by rw[pA V];omega
  have d3:Int.tdiv c 2+Int.tdiv c 2<=c:=by rw[pA V];omega
  rw[aP (b:=Int.tdiv c 2) V V];generalize Int.tdiv c 2=h2 at*;have hm:=tH d2;have F:∀{d M':J},Fz [e] m d->Fz [e] d M'->af M' y.size 0=af d y.size 0:=λg f'=>r.bV g f' aJ _;have G:∀{d M':J},Fz [e] m d->Fz [e] d M'->af M' y.size 1=af d y.size 1:=λg f'=>r.bV g f' aJ _;have ai:=λ(d:J)(cM:GC e H (P+2) U X o s d)(g:Fz [e] m d)=>ih h2 d0 d2 (h.size::t) e (P+2) H U X ae d z D (I (by have:=g.size;omega)) (by simp[B]) cM V (L.le (fh (F4.trans g))) V az;have aj:=λ(d:J)(ac:O)(cM:GC e H (P+2+Cg h2) U X o s d)(g:Fz [e] m d)(hw:IR e d ac (z++[D]))=>ih h2 d0 d2 (h.size::t) e (P+2+Cg h2) H U X ac d (z++[D]) C (I (by have:=g.size;omega)) (by simp[B]) cM V hw bR K;have ak:=λ(d:J)(ac:O)(g:Fz [e] m d)(hR:e<d.size)(A:IR e d ac [D])=>eB (S:=[e]) (by simp;exact hR) (L.le (fh (F4.trans g))) A bR;have al:=λ(M0 d:J)(e1 e2:Ex)(t1 t2:O)(g:Fz [e] m d)(hR:Rd e H (P+2+Cg h2+Cg h2) d)(h1:fe (bM (h.size::t) d) t1 e1.bD)(ax:fe (bM (h.size::t) d) t2 e2.bD)(w1:WX o s.length z.length e1)(w2:WX o s.length (z++[D]).length e2)=>
   have E:=N.push d (.cells (bC [.i e1.op,.i e1.bL,.s t1,.i e2.op,.i e2.bL,.s t2]) bI)
   have ap:=I (d:=d) (by have:=g.size;omega)
   XP.ret (S:=t) (Q':=λf=>WX o s.length z.length f/\(c<=2->f.n<=4)) (mJ (hR.ext E) ((Jq ap 0 [(e1,t1),(e2,t2)] aJ (by simp;exact⟨h1,ax⟩) rfl rfl).done AF.mono ap bh aJ) 13 0) ((r.fz g).fz (E.fz [])) ((F4.trans g).then E) j.rd V (λf he=>he▸hQ _ (.lt w1 (by simpa using w2))) (i:=P+Cg c) V
  refine⟨?_,?_⟩
  ·refine XP.then (ai m T (Fz.az _ _)) r λs5 W Q h5 q5 r5 p=>⟨_,_,_,rfl,F (Fz.az _ _) p,G (Fz.az _ _) p,?_⟩;intro m6;have u:N Q m6:=N.push _ _;have aA:aq (bM [e] m6) (.mk Q.size 0 1 1) [D]:=aq.lit aI _ (by simp;exact r5.lt) rfl rfl aJ;clear_value m6;have q:=p.then u;refine⟨F p (u.fz _),G p (u.fz _),F p (u.fz _),G p (u.fz _),?_⟩;refine(ak m6 _ q (r5.ext u).lt aA).mono λ_ m7⟨s7,l7,f,g7,q7,i⟩=>⟨(r.fz q).dv (i.fz _),s7,f,F q (i.fz _),G q (i.fz _),?_⟩;subst q7;refine XP.then (aj m7 s7 (((T.to p r5).ext u).ext i) (q.then i) (GI.done g7 (by simp;exact(r5.ext u).lt) bR)) ((r.fz q).fz (i.fz [])) λs8 e8 m8 h8 q8 r8 f8=>⟨_,_,_,rfl,?_⟩;exact al m8 m8 W e8 s5 s8 ((q.then i).trans f8) r8 (fe.le (((u.trans i).fz [e]).trans f8|>.cW (by simp[B])) h5) h8 q5.1 q8.1
  ·intro Q;have u:N m Q:=N.push _ _;have aA:aq (bM [e] Q) (.mk m.size 0 1 1) [D]:=aq.lit aI _ (by simp;exact r4.lt) rfl rfl aJ;clear_value Q;refine⟨F (Fz.az _ _) (u.fz _),G (Fz.az _ _) (u.fz _),F (Fz.az _ _) (u.fz _),G (Fz.az _ _) (u.fz _),?_⟩;refine XP.then (ai Q (T.ext u) (u.fz _)) (r.fz (u.fz [])) λs6 e6 m6 h6 q6 r6 q=>⟨_,_,_,rfl,F (u.fz _) q,G (u.fz _) q,?_⟩;have W:=(u.fz [e]).trans q;refine(ak m6 _ W r6.lt (aA.le (fh q))).mono λ_ m7⟨s7,l7,f,g7,q7,i⟩=>⟨(r.fz W).dv (i.fz _),s7,f,F W (i.fz _),G W (i.fz _),?_⟩;subst q7;refine XP.then (aj m7 s7 (((T.ext u).to q r6).ext i) (W.then i) (GI.done g7 (by simp;exact r6.lt) bR)) ((r.fz W).fz (i.fz [])) λs8 e8 m8 h8 q8 r8 f8=>⟨_,_,_,rfl,?_⟩;exact al m8 m8 e6 e8 s6 s8 ((W.then i).trans f8) r8 (fe.le ((i.fz [e]).trans f8|>.cW (by simp[B])) h6) h8 q6.1 q8.1
 ·intro m;have i:N m3 m:=N.push _ _;have u:aq (bM [e] m) (.mk m3.size 0 3 3) [0,C,C]:=aq.lit aI _ (by simp;exact r3.lt) rfl rfl aJ;clear_value m;rw[ao];exact yJ V ih (I (by have:=i.size;omega)) B (w.ext i) V (L.le (fh (v.then i))) V V u aJ (by simp;exact⟨j.gp.ty bh bh,K⟩) (R.fz (i.fz [])) (v.then i) j.rd V (λq hl hw=>hQ _ (.eO bh (λ_=>by simpa using hl) bh (λA=>V) hw)) V
 ·exact XP.ret (If (j:=h.size::t) ⟨V,V⟩ ih ay (by simp[B]) w V (L.le (fh v)) V K) R v j.rd V hQ V
 ·refine(Ia (f:=[e]) (by simp;exact r3.lt) (w.hd.le (bG _ _)) an (oN.le (bG _ _) w.hp) V iu C).mono λ_ m⟨D,q,f,gl,hq,i⟩=>⟨R.dv (i.fz _),D,f,λA=>?_,λ_=>aw i⟩;simp only[au]at A;have ac:IR e m D q:=GI.done gl (by simp;exact r3.lt) V;have ap:=ac.len;have T:=w.ext i;have r:=R.fz (i.fz []);refine(cw T.rd V D.len).mono λ_ Q⟨ab,f,k0,k1,r5,p⟩=>⟨r.dv p,ab,f,k0,V,?_⟩;obtain⟨ak,hy⟩:=ag (l:=q) (k:=ab.toNat) V;obtain⟨fi,aj,rfl,G⟩:=hq.1 ak (av hy);have u:=T.to p r5;obtain⟨ps,ai,e0,e1⟩:=u.hp.D G;have al:=aD G;have ax:=u.hp.len;have W:=vZ _ (j.gp.dz aj (av G));have F:=(i.fz [e]).trans p;refine⟨_,(dV.1 ((ac.le (fh p)).D hy)).2,V,V,ps,(dV.1 e0).2,?_⟩;rw[ao];exact yJ V ih (I (by have:=F.size;omega)) B u V (L.le (fh (v.trans F))) V V ai W.1 (λC K=>j.gp.ty (W.2.1 C K).1 (W.2.1 C K).2) (r.fz p) (v.trans F) j.rd V (λq _ hw=>hQ _ (.eO bh (λA=>V) bh (λ_=>⟨V,V⟩) hw)) V
def Pl{b:List bu}{d:List dk}:∀(n:Nat)(c:Int),c.toNat=n->0<=c/\c<=100->IV b d c:=λn=>by
 induction n using Nat.strongRecOn with
 |ind n f=>exactλc i h=>Vq h λa e g=>f a.toNat V a rfl ⟨e,V⟩
section
variable{S:List Nat}{e P:Nat}{h d p j:O}{g:List bu}{i:List dk}{f:J}{v:List Int}
def V5(g:List bu)(b a:Nat)(e:Ex):Prop:=WX g b a e/\e.n<=30
def Kb(hS:∀y∈S,y<f.size)(ab:e∈S)(y:GC e h P d p g i f)(hP:P+20*Cg 18<=10000000000000000)(hv:IR e f j v)(ak:v.length<=100){T:Int}(ht:Ty g T)(s:0<=c/\c<=18):
 aL cp 283 [vp e 0,.agg #[O.v d,O.v p],O.v j,vi T,vi c] f (XP S e h f (P+20*Cg 18) (V5 g i.length v.length)):=by
 apply Dh (e,0)
 simp -zeta only[aC,aB]
 intro t B
 obtain⟨w,hl⟩:=dF (a:=t) (c:=B) rfl rfl
 have s1:t.size=f.size+1:=by simp[t]
 clear_value B
 have hr:=y.rd.lt
 have z2:=w.size
 have L:Lw e [t.size,f.size] B:=λc s=>⟨hl c s,by simp at s;omega⟩
 have aa:∀{M:J},B.size<=M.size->∀k∈t.size::S,k<M.size:=λR k Z=>by have:=bP hS w.size (hl t.size aJ) k Z;omega
 have W:=y.ext w
 have hm:=tH s.2
 refine XP.then (Pl _ c rfl ⟨s.1,V⟩ (t.size::S) e P h d p j B v T (aa (ad _)) (by simp[ab]) W V (hv.le (fh (w.fz _))) V ht) L λs3 E l h3 q3 r3 f3=>⟨_,_,_,rfl,?_⟩
 intro m4 C
 have U:N l C:=(N.push l _).ah (ad _) _ _
 have B5:cx C l.size bI [.i E.op,.i E.bL,.s s3]:=cx.ah (m:=m4) (o:=0) (r:=[.i E.op,.i E.bL,.s s3]) (cx.push l _ _)
 have s5:C.size=l.size+1:=by simp[C,m4,ay]
 clear_value C
 have z3:=f3.size
 have f5:=f3.then U
 have ae:∀k∈l.size::t.size::S,k<C.size:=bP (aa z3) U.size V
 refine⟨λq M=>∃(H:O)(k:Ex)(u:Nat),0<=q/\q<=18/\q.toNat<=u/\u<=18/\cx M l.size bI [.i k.op,.i k.bL,.s H]/\fe (bM (l.size::t.size::S) M) H k.bD/\WX g i.length v.length k/\(q<=2->k.n<=4)/\Rd e h (P+(19 -u)*Cg 18) M/\Fz [e] B M/\C.size<=M.size,λq _=>q.toNat,⟨s3,E,18,s.1,s.2,V,ad _,B5,?_,q3.1,q3.2,(r3.ext U).mono V,f5,ad _⟩,?_⟩
 ·exact fe.le (U.bM λc s=>(List.mem_cons.1 s).elim (λR=>Or.inr V) Or.inl) h3
 rintro q M ⟨H,k,u,b0,b1,bk,al,I,hs,hw,hn,rM,X,zM⟩
 have LM:=L.fz X
 have FM:=(w.fz [e]).trans X
 refine⟨_,I.bV 0,_,I.bV 1,_,I.bV 2,?_⟩
 refine(Aa (fe.le (bG _ _) hs)).mono λ_ G⟨n6,e6,q6,D⟩=>⟨LM.dv (D.fz _),n6,e6,?_⟩
 have K:=I.ext D
 have r6:=rM.ext D
 have z:=X.then D
 have z6:=D.size
 have L6:=L.fz z
 have kc:(19 -u)*Cg 18+Cg 18<=20*Cg 18:=by rw[<-pE];exact dp _ V
 have bd:k.n<=30->∃v0:Int,af G l.size 0=some (vi v0)/\∃v1:Int,af G l.size 1=some (vi v1)/\∃v2:O,af G l.size 2=some (O.v v2)/\XP S e h f (P+20*Cg 18) (V5 g i.length v.length) (.agg #[vi v0,vi v1,O.v v2]) (ah G t.size 0 [.i v0,.i v1,.s v2]):=λac=>
  ⟨_,K.bV 0,_,K.bV 1,_,K.bV 2,H,k,rfl,fe.le (cv aJ λy Y=>ai _ (ai _ Y)) (fe.le (D.cW _) hs),⟨hw,ac⟩,y.rd.ah (r6.mono V) ((w.fz _).trans z) V 0 _,((w.fz _).trans z).ah (Or.inr V) _ _⟩
 refine⟨λR=>⟨λA=>?_,λA=>bd (by simp only[bU]at A;have:=hn V;omega)⟩,λR=>bd (by simp only[bU]at R;omega)⟩
 simp only[au]at A
 obtain⟨d0,d1⟩:=LU (g:=q) (f:=2) b0 V
 have d2:Int.tdiv q 2<=q -1:=by rw[pA b0];omega
 rw[aP (b:=Int.tdiv q 2) V V]
 generalize Int.tdiv q 2=A at*
 have ag:=tH (f:=A) (c:=18) V
 refine⟨bh,?_⟩
 refine XP.then (Pl _ A rfl ⟨d0,V⟩ (l.size::t.size::S) e _ h d p j G v T (λk Z=>by have:=ae k Z;omega) (by simp[ab]) (W.to z r6) V (hv.le (fh ((w.fz _).trans z))) V ht) L6 λs7 F m7 h7 q7 r7 Q=>⟨_,_,_,rfl,?_⟩
 have aj:e≠l.size:=V
 have B7:cx m7 l.size bI [.i k.op,.i k.bL,.s H]:=K.congr (Q.same _ V bR)
 refine⟨B7.dZ aJ,?_⟩
 intro m8
 have B8:cx m8 l.size bI [.i F.op,.i F.bL,.s s7]:=cx.ah (m:=m7) (o:=0) (r:=[.i F.op,.i F.bL,.s s7]) B7
 have f8:Fz [e] B m8:=(z.trans Q).ah (Or.inr V) _ _
 have s8:m8.size=m7.size:=ay _ _ _ _
 have z7:=Q.size
 refine⟨λc s=>bt _ _ _ _ (by have:=(L c s).1;omega),⟨s7,F,u -1,d0,V,V,V,B8,?_,q7.1,q7.2,?_,f8,V⟩,by show A.toNat<q.toNat;omega⟩
 ·exact fe.le (cv aJ λy Y=>Y) h7
 ·refine W.rd.ah (r7.mono ?_) (z.trans Q) V 0 _
  rw[show 19 -(u -1)=19 -u+1 by omega,pE];omega
end
end
section
structure HX(S:List Nat)(ds:List bu)(nf a:Nat)(M:J)(s:O)(e:Ex):Prop where
 sl:fe (bM S M) s e.bD
 wx:WX ds nf a e
structure Rs(rb:Nat)(bs:O)(m:J)(Q:Nat)(M:J):Prop where
 f:Fz [rb] m M
 r:Rd rb bs Q M
section
variable{S L:List Nat}{f Q q u k a i:Nat}{j d p s w:O}{h:List bu}{t:List dk}{n M c:J}{g:Ex}{v:List Int}{K:Int->Int->O->J->Prop}
def HX.fz(b:HX S h i a M s g)(e:f∈S)(d:Fz [f] M c):HX S h i a c s g:=⟨fe.le (d.cW (by simp[e])) b.sl,b.wx⟩
def HX.ext(b:HX S h i a M s g)(x:N M c):HX S h i a c s g:=⟨fe.le (x.cW _) b.sl,b.wx⟩
def HX.jB(b:HX S h i a M s g)(x:N M c)(f:M.size<=k):HX (k::S) h i a c s g:=⟨fe.le (x.bM λe d=>(List.mem_cons.1 d).elim (λb=>Or.inr V) Or.inl) b.sl,b.wx⟩
def HX.eQ(b:HX (k::S) h i a M s g):HX S h i a M s g:=⟨fe.le (ji M λ_=>ai _) b.sl,b.wx⟩
def HX.put(b:HX S h i a M s g)(c:k∈S)(o:Nat)(l:List Ce):HX S h i a (ah M k o l) s g:=⟨fe.le (cv c λ_ b=>b) b.sl,b.wx⟩
def Rs.ext(h:Rs f j n Q M)(x:N M c):Rs f j n Q c:=⟨h.f.then x,h.r.ext x⟩
def Rs.to(h:Rs f j n Q M)(a:Fz [f] M c)(r:Rd f j q c):Rs f j n q c:=⟨h.f.trans a,r⟩
def Rs.put(h:Rs f j n Q M)(b:Rd f j u n)(a:n.size<=k)(o:Nat)(l:List Ce):Rs f j n Q (ah M k o l):=⟨h.f.ah (Or.inr a) _ _,b.ah h.r h.f a o l⟩
def lw(h:f<n.size)(a:∀b∈L,n.size<=b/\b<M.size):Lw f L M:=λb c=>⟨(a b c).2,by have:=(a b c).1;omega⟩
def kg(a:Fz [f] M c)(h:f<n.size)(b:n.size<=k/\k<M.size)(o:Nat):af c k o=af M k o:=aM (a.same k b.2 bR) o
def jN{d c:J}{z a:List Ce}{t:Nat}(f:d=M.push (.cells (bC z) t))(g:c=ah d M.size 0 a)(i:a.length=z.length):N M c/\cx c M.size t a/\c.size=M.size+1:=by
 subst f g;refine⟨(N.push M _).ah (ad _) _ _,?_,by rw[ay];simp⟩;have h:=cx.ah (m:=M.push (.cells (bC z) t)) (b:=M.size) (e:=t) (l:=z) (o:=0) (r:=a) (cx.push _ _ _);rwa[show iK z 0 a=a from by
  have h:=AQ [] a z V;rw[VF V]at h;simpa using h]at h
def XP.kk{e:Nat}{b:List Value}{T:Ex->Prop}(n:aL cp e b M (XP S f j M Q T))(o:Lw f L M)(p:∀s g c,fe (bM S c) s g.bD->T g->Rd f j Q c->Fz [f] M c->K g.op g.bL s c):aL cp e b M λv c=>dR L M c/\∃h i:Int,∃k:O,v=.agg #[vi h,vi i,O.v k]/\K h i k c:=
 XP.then n o λs g c a l m d=>⟨_,_,_,rfl,p s g c a l m d⟩
def vX(S:List Nat)(h:List bu)(i:Nat)(m:Lw f L M){n:Int}(p:0<=n/\n<(a:Int))(o:∀s c,HX S h i a c s (.mk 12 n [])->N M c->K 12 n s c):aL cp 313 [vi n] M λv c=>dR L M c/\∃b d:Int,∃e:O,v=.agg #[vi b,vi d,O.v e]/\K b d e c:=
 (lL S n M).mono λv c⟨s,g,j,k,l,x⟩=>⟨m.dv (x.fz _),by subst l;exact⟨_,_,_,j,o s c ⟨k,.So p⟩ x⟩⟩
def Hs(S:List Nat)(h:List bu)(i a:Nat)(m:Lw f L M)(n:Int)(o:∀s c,HX S h i a c s (.mk 0 n [])->N M c->K 0 n s c):aL cp 278 [vi n] M λv c=>dR L M c/\∃b d:Int,∃e:O,v=.agg #[vi b,vi d,O.v e]/\K b d e c:=
 (zP S n M).mono λv c⟨s,g,j,k,l,x⟩=>⟨m.dv (x.fz _),by subst l;exact⟨_,_,_,j,o s c ⟨k,.int n⟩ x⟩⟩
def ou(l:List (Ex×O))(d:l.length<=1000)(b:∀c∈S,c<M.size)(h:∀x∈l,fe (bM S M) x.2 x.1.bD){a:List Ce}{n:Nat}(c:a=l.flatMap λx=>[.i x.1.op,.i x.1.bL,.s x.2])(e:n=l.length):fe (bM S (M.push (.cells (bC a) bI))) (.mk M.size 0 n n) (l.map (·.1)):=
 (Jq b 0 l d h c e).done AF.mono b bh bR
def iR{bD:List Ex}(k:fe (bM S M) s bD){b bL:Int}(q:WX h i a (.mk b bL bD))(o:Lw f L M)(p:∀s c,HX S h i a c s (.mk b bL bD)->N M c->K b bL s c):
 aL cp 311 [vi b,vi bL,O.v s] M λv c=>dR L M c/\∃d e:Int,∃j:O,v=.agg #[vi d,vi e,O.v j]/\K d e j c:=
 (HG k b bL).mono λv c⟨s,g,l,m,n,x⟩=>⟨o.dv (x.fz _),by subst n;exact⟨_,_,_,l,p s c ⟨m,q⟩ x⟩⟩
def Em(x:∀a∈S,a<M.size)(z:f∈S)(a:GC f j Q d p h t M)(C:Q+Cg 18<=10000000000000000)(B:IR f M w v)(E:v.length<=100){e b:Int}(A:Ty h e)(i:0<=b/\b<=18)(u:Lw f L M)(y:∀g s c,HX S h t.length v.length c s g->Rd f j (Q+Cg 18) c->Fz [f] M c->K g.op g.bL s c):
 aL cp 310 [vp f 0,.agg #[O.v d,O.v p],O.v w,vi e,vi b] M λv c=>dR L M c/\∃k l:Int,∃m:O,v=.agg #[vi k,vi l,O.v m]/\K k l m c:=
 have D:=tH i.2
 XP.kk (Pl _ b rfl ⟨i.1,V⟩ S f Q j d p w M v e x z a V B V A) u λs g c n o q r=>y g s c ⟨n,o.1⟩ (q.mono V) r
end
end
section
def WX.Nq{b:List bu}{c a:Nat}{n:Int}{bD:List Ex}(h:∀e∈bD,WX b c a e):WX b c a (.mk 6 n bD):=.eO bh (λh=>V) bh (λh=>V) h
section
variable{c:List Nat}{e P:Nat}{g d p:O}{f:List bu}{h:List dk}{b:J}
def Kf(f:List bu)(z:Nat)(hS:∀Z∈c,Z<b.size)(aa:e∈c)(U:Rd e g P b)(hP:P+100<=10000000000000000)(aF:Int):aL cp 312 [vp e 0,vi aF] b (XP c e g b (P+100) (WX f z 0)):=by
 apply Ds (e,0);simp -zeta only[aC,aB];intro aA ac;have x2:N b ac:=(N.push b _).trans (N.push aA _);have s2:ac.size=b.size+2:=by simp[ac,aA]
 clear_value ac;have K:=U.lt;have ap:∀{h:J},ac.size<=h.size->∀Z∈b.size::c,Z<h.size:=λv=>bP hS V V;have X:Rs e g b P ac:=⟨x2.fz _,U.ext x2⟩;refine iR (S:=b.size::c) (a:=0) (h:=f) (i:=z) (f:=e) (bD:=[]) (lZ _ _ _ _ _ _) (.Nq aJ) (lw K bR) λs3 m3 h3 x3=>?_;intro m4 D;obtain⟨x5,B5,z5⟩:=jN (M:=m3) (d:=m4) (c:=D) rfl rfl rfl;clear_value D;have z3:=x3.size;have r5:=(X.ext x3).ext x5;refine⟨λ_=>?_,λ_=>?_⟩
 ·intro m6;have x6:N D m6:=N.push _ _;clear_value m6;have z6:=x6.size;refine iR (S:=b.size::c) (a:=0) (h:=f) (i:=z) (f:=e) (bD:=[]) (lZ _ _ _ _ _ _) (.Nq aJ) (lw K bR) λQ E h7 x7=>?_;intro m8 y;obtain⟨x9,B9,z9⟩:=jN (M:=E) (d:=m8) (c:=y) rfl rfl rfl;clear_value y;have z7:=x7.size;have r9:=((r5.ext x6).ext x7).ext x9;have h9:=h7.ext x9;have G:∀{h C:J},y.size<=h.size->Fz [e] h C->∀i,af C E.size i=af h E.size i:=λv ai i=>kg ai K ⟨V,V⟩ i;have LW:∀{h:J},y.size<=h.size->Lw e [E.size,m3.size,b.size] h:=λv=>lw K bR;have LK:∀{h:J}{s:Nat},y.size<=s->s<h.size->Lw e [s,E.size,m3.size,b.size] h:=λv T=>lw K bR;have hw:∀n:Int,WX f z 0 (.mk 6 3 [.mk 6 2 [],.mk 0 n [],.mk 6 2 []]):=λn=>.Nq (by simp;exact⟨.Nq aJ,.int n,.Nq aJ⟩);refine⟨λjZ h=>∃F l,jZ.2=0/\b.size<=jZ.1/\cx h jZ.1 bI [.i l.op,.i l.bL,.s F]/\HX (b.size::c) f z 0 h F l/\HX (b.size::c) f z 0 h Q (.mk 6 2 [])/\Rs e g b (P+1) h/\y.size<=h.size,?_,?_⟩
  ·have gW:∀{s t0:Nat}{h:J}{n:Int},cx h s bI [.i 0,.i 0,.s .nil]->y.size<=s->fe (bM (s::b.size::c) h) (.mk t0 0 3 3) [.mk 6 2 [],.mk 0 n [],.mk 6 2 []]->Rs e g b (P+1) h->HX (s::b.size::c) f z 0 h Q (.mk 6 2 [])->
    aL cp 311 [vi 6,vi 3,O.v (.mk t0 0 3 3)] h λaG C=>dR [s,E.size,m3.size,b.size] h C/\∃r0 r1:Int,∃X:O,aG=.agg #[vi r0,vi r1,O.v X]/\∃F l,((s,0):Nat×Nat).2=0/\b.size<=((s,0):Nat×Nat).1/\cx (ah C s 0 [.i r0,.i r1,.s X]) ((s,0):Nat×Nat).1 bI [.i l.op,.i l.bL,.s F]/\HX (b.size::c) f z 0 (ah C s 0 [.i r0,.i r1,.s X]) F l/\HX (b.size::c) f z 0 (ah C s 0 [.i r0,.i r1,.s X]) Q (.mk 6 2 [])/\Rs e g b (P+1) (ah C s 0 [.i r0,.i r1,.s X])/\y.size<=(ah C s 0 [.i r0,.i r1,.s X]).size:=λB hk W L v=>
    iR W (hw _) (LK hk B.lt) λs' C T ar=>⟨s',.mk 6 3 [.mk 6 2 [],.mk 0 _ [],.mk 6 2 []],rfl,by show b.size<=_;omega,cx.ah (m:=C) (o:=0) (r:=[.i 6,.i 3,.s s']) (B.ext ar),(T.put aJ _ _).eQ,((v.ext ar).put aJ _ _).eQ,(L.ext ar).put U V _ _,by rw[ay];have:=B.lt;have:=ar.size;omega⟩
   have zb:∀h:J,N h (h.push (.cells (bC [.i 0,.i 0,.s .nil]) bI))/\cx (h.push (.cells (bC [.i 0,.i 0,.s .nil]) bI)) h.size bI [.i 0,.i 0,.s .nil]:=λh=>⟨N.push _ _,cx.push _ _ _⟩;have aq:∀{ag:List Nat}{h:J}{n:Int}{si:O},(∀Z∈ag,Z<h.size)->HX ag f z 0 h Q (.mk 6 2 [])->HX ag f z 0 h si (.mk 0 n [])->fe (bM ag (h.push (.cells (bC [.i 6,.i 2,.s Q,.i 0,.i n,.s si,.i 6,.i 2,.s Q]) bI))) (.mk h.size 0 3 3) [.mk 6 2 [],.mk 0 n [],.mk 6 2 []]:=λhS v T=>
    ou [(.mk 6 2 [],Q),(.mk 0 _ [],_),(.mk 6 2 [],Q)] aJ hS (by simp;exact⟨v.sl,T.sl,v.sl⟩) rfl rfl
   have ax:∀{h:J}{s:Nat},y.size<=s->s<h.size->∀Z∈s::b.size::c,Z<h.size:=λv T=>bP (ap (h:=y) V) V T;refine⟨(cw r9.r V 9).mono λ_ w⟨n,l,_,_,an,u⟩=>⟨(LW (ad _)).dv u,n,l,G (ad _) u _,G (ad _) u _,G (ad _) u _,G (ad _) u _,G (ad _) u _,G (ad _) u _,?_,?_⟩,?_⟩
   ·have H:=r9.to u an;have yz:=u.size;have I:=h9.fz (by simp[aa]) u;refine Hs (b.size::c) f z 0 (LW yz) n λaD p aj q=>?_;have av:=q.size;have d:=λi=>G yz (q.fz _) i;refine⟨d _,d _,d _,d _,d _,d _,?_,?_⟩
    ·intro k;have j:N p k:=N.push _ _;have W:fe (bM (b.size::c) k) (.mk p.size 0 3 3) [.mk 6 2 [],.mk 0 n [],.mk 6 2 []]:=aq (ag:=b.size::c) (ap V) (I.ext q) aj;have aH:=j.size;refine⟨?_,?_⟩
     ·refine iR (M:=k) (f:=e) W (hw n) (LW V) λaz A ao t=>?_;intro R;have ak:N A R:=N.push _ _;have al:=t.size;have d:=λi=>G (h:=A) (C:=R) V (ak.fz _) i;refine⟨d _,d _,d _,d _,d _,d _,?_⟩;intro ae;obtain⟨Y,ab,am⟩:=jN (M:=A) (d:=R) (c:=ae) rfl rfl rfl;exact⟨az,.mk 6 3 [.mk 6 2 [],.mk 0 n [],.mk 6 2 []],rfl,by show b.size<=A.size;omega,ab,ao.ext Y,(((I.ext q).ext j).ext t).ext Y,(((H.ext q).ext j).ext t).ext Y,V⟩
     ·intro A;obtain⟨t,R⟩:N k A/\cx A k.size bI [.i 0,.i 0,.s .nil]:=zb k;have d:=λi=>G (h:=k) (C:=A) V (t.fz _) i;exact⟨d _,d _,d _,d _,d _,d _,gW R V (fe.le (t.bM λam hb=>(List.mem_cons.1 hb).elim (λv=>Or.inr V) Or.inl) W) (((H.ext q).ext j).ext t) (((I.ext q).ext j).jB t (ad _))⟩
    ·intro k;obtain⟨j,ae⟩:N p k/\cx k p.size bI [.i 0,.i 0,.s .nil]:=zb p;have d:=λi=>G (h:=p) (C:=k) V (j.fz _) i;refine⟨d _,d _,d _,d _,d _,d _,?_⟩;intro A;have t:N k A:=N.push _ _;have R:=(I.ext q).jB j (ad _);exact gW (ae.ext t) V (aq (ax V ae.lt) R (aj.jB j (ad _))) (((H.ext q).ext j).ext t) (R.ext t)
   ·have H:=r9.to u an;have yz:=u.size;have I:=h9.fz (by simp[aa]) u;intro p;obtain⟨q,Y⟩:N w p/\cx p w.size bI [.i 0,.i 0,.s .nil]:=zb w;have d:=λi=>G (h:=w) (C:=p) V (q.fz _) i;have av:=q.size;refine⟨d _,d _,d _,d _,d _,d _,?_⟩;refine Hs (w.size::b.size::c) f z 0 (LK V Y.lt) n λal k ak j=>?_;have d:=λi=>G (h:=p) (C:=k) V (j.fz _) i;refine⟨d _,d _,d _,d _,d _,d _,?_⟩;intro A;have t:N k A:=N.push _ _;have R:=(I.jB q (ad _)).ext j;exact gW ((Y.ext j).ext t) V (aq (ax V (Y.ext j).lt) R ak) (((H.ext q).ext j).ext t) (R.ext t)
   ·intro w;obtain⟨H,aw⟩:N y w/\cx w y.size bI [.i 0,.i 0,.s .nil]:=zb y;have d:=λi=>G (h:=y) (C:=w) V (H.fz _) i;have yz:=H.size;refine⟨d _,d _,d _,d _,d _,d _,?_⟩;refine(cw (r9.ext H).r V 9).mono λ_ p⟨n,l,_,_,aE,ab⟩=>⟨(LK (ad _) aw.lt).dv ab,n,l,?_⟩;have d:=λi=>G (h:=w) (C:=p) V ab i;refine⟨d _,d _,d _,d _,d _,d _,?_⟩;have Y:=aw.congr (ab.same y.size aw.lt bR);have av:=ab.size;refine Hs (y.size::b.size::c) f z 0 (LK (ad _) Y.lt) n λal k ak j=>?_;have d:=λi=>G (h:=p) (C:=k) V (j.fz _) i;refine⟨d _,d _,d _,d _,d _,d _,?_⟩;intro A;have t:N k A:=N.push _ _;have R:=((h9.jB H (ad _)).fz (by simp[aa]) ab).ext j;exact gW ((Y.ext j).ext t) (ad _) (aq (ax (ad _) (Y.ext j).lt) R ak) ((((r9.ext H).to ab aE).ext j).ext t) (R.ext t)
  ·rintro⟨s,i⟩ h ⟨F,l,ho,hk,B,v,T,L,Y⟩;simp only at ho hk B;subst ho;have bl:=B.lt;refine⟨_,B.bV 0,_,B.bV 1,_,B.bV 2,?_⟩;have L3:∀{C:J},h.size<=C.size->Lw e [E.size,m3.size,b.size] C:=λv=>LW V;refine(cw L.r V 9).mono λ_ w⟨n,en,_,_,an,u⟩=>⟨(L3 (ad _)).dv u,n,en,?_⟩;have yz:=u.size;have gg:∀{R ab:J},h.size<=R.size->Fz [e] R ab->∀i,af ab s i=af R s i:=λv ai i=>kg ai K ⟨hk,V⟩ i;have ga:=λi=>G (h:=h) (C:=w) Y u i;have gb:=λi=>gg (R:=h) (ab:=w) (ad _) u i;refine⟨?_,?_,?_,?_,?_,?_,?_⟩;iterate 6 first|exact ga _|exact gb _
   refine Hs (b.size::c) f z 0 (L3 yz) n λaD p aj q=>?_;have ga:=λi=>G (h:=w) (C:=p) V (q.fz _) i;have gb:=λi=>gg (R:=w) (ab:=p) yz (q.fz _) i;refine⟨?_,?_,?_,?_,?_,?_,?_⟩;iterate 6 first|exact ga _|exact gb _
   intro k;have j:N p k:=N.push _ _;have av:=q.size;have ag:=(v.fz (by simp[aa]) u).ext q;have am:=(T.fz (by simp[aa]) u).ext q;have W:fe (bM (b.size::c) k) (.mk p.size 0 3 3) [l,.mk 0 n [],.mk 6 2 []]:=ou (S:=b.size::c) (M:=p) [(l,F),(.mk 0 n [],aD),(.mk 6 2 [],Q)] aJ (ap V) (by simp;exact⟨ag.sl,aj.sl,am.sl⟩) rfl rfl;refine iR (M:=k) (f:=e) W (.Nq (by simp;exact⟨ag.wx,aj.wx,am.wx⟩)) (L3 (C:=k) (by have:=j.size;omega)) λaz A ao t=>?_;have aq:=(((L.to u an).ext q).ext j).ext t;exact⟨az,_,rfl,(ao.put aJ _ _).eQ.sl,ao.wx,((aq.put U (ad _) _ _).r).mono V,(aq.put U (ad _) _ _).f⟩
 ·intro m6 E;obtain⟨x7,B7,z7⟩:=jN (M:=D) (d:=m6) (c:=E) rfl rfl rfl;clear_value E;have r7:=r5.ext x7;have C:∀{h:J},E.size<=h.size->Lw e [m3.size,b.size] h:=λv=>lw K bR;refine(cw r7.r V 3).mono λ_ m8⟨n,en,n0,n3,Q,u⟩=>⟨(lw K bR:Lw e [D.size,m3.size,b.size] E).dv u,n,en,?_⟩;rw[aP (b:=1+n) V V];have z8:=u.size;have T:b.size<=D.size:=V;refine⟨λs h=>0<=s/\s<=3/\∃F l,cx h D.size bI [.i l.op,.i l.bL,.s F]/\HX (D.size::b.size::c) f z 0 h F l/\Rs e g b (P+1+4*(3 -s).toNat) h/\E.size<=h.size,λs _=>s.toNat,⟨V,V,s3,.mk 6 0 [],B7.congr (u.same _ V bR),((h3.ext x5).jB x7 (ad _)).fz (by simp[aa]) u,?_,z8⟩,?_⟩
  ·exact⟨(r7.to u Q).f,Q.mono V⟩
  rintro s h ⟨i0,i3,F,l,B,v,L,Y⟩;refine⟨λhi=>?_,λ_=>⟨_,B.bV 0,_,B.bV 1,_,B.bV 2,F,l,rfl,(v.eQ.put aJ _ _).eQ.sl,v.wx,(L.put U (ad _) _ _).r.mono V,(L.put U (ad _) _ _).f⟩⟩;simp only[au]at hi;refine⟨_,B.bV 0,_,B.bV 1,_,B.bV 2,?_⟩;have d:∀{R ab:J},E.size<=R.size->Fz [e] R ab->∀i,af ab D.size i=af R D.size i:=λv ai i=>kg ai K ⟨T,V⟩ i;refine(Aj L.r V).mono λ_ y⟨A,en,d9,t⟩=>⟨(C Y).dv t,A,en,d Y t _,d Y t _,d Y t _,?_⟩;have z9:=t.size;refine Hs (D.size::b.size::c) f z 0 (C V) A λan w I H=>⟨d V (H.fz _) _,d V (H.fz _) _,d V (H.fz _) _,?_⟩;intro p;have q:N w p:=N.push _ _;have yz:=H.size;have av:=q.size;have ag:=(v.fz (by simp[aa]) t).ext H;have W:fe (bM (D.size::b.size::c) p) (.mk w.size 0 2 2) [.mk 0 A [],l]:=ou (S:=D.size::b.size::c) (M:=w) [(.mk 0 A [],an),(l,F)] aJ (bP (ap (h:=w) V) (ad _) V) (by simp;exact⟨I.sl,ag.sl⟩) rfl rfl;refine iR (M:=p) (f:=e) W (.Nq (by simp;exact⟨I.wx,ag.wx⟩)) (C (h:=p) V) λal k ak j=>?_;have ae:cx k D.size bI [.i l.op,.i l.bL,.s F]:=(((B.congr (t.same _ B.lt bR)).ext H).ext q).ext j;have aH:=j.size;rw[aP (b:=s -1) V V];refine⟨ae.dZ aJ,λam hb=>bt _ _ _ _ (by simp at hb;omega),⟨V,V,al,.mk 6 1 [.mk 0 A [],l],cx.ah (m:=k) (o:=0) (r:=[.i 6,.i 1,.s al]) ae,ak.put aJ _ _,?_,by rw[ay];omega⟩,by show(s -1).toNat<s.toNat;omega⟩;have aj:=((((L.to t d9).ext H).ext q).ext j).put U T 0 [.i 6,.i 1,.s al];exact⟨aj.f,aj.r.mono V⟩
end
end
section
structure BX(S:List Nat)(ds:List bu)(nf a k:Nat)(M:J)(s:O)(e:Ex):Prop where
 b:cx M k bI [.i e.op,.i e.bL,.s s]
 h:HX (k::S) ds nf a M s e
section
variable{S:List Nat}{d Q i j k a c:Nat}{h s:O}{b:List bu}{g M f:J}{e:Ex}
def BX.new{f d:J}(h:HX S b c a M s e)(g:f=M.push (.cells (bC [.i 0,.i 0,.s .nil]) bI))(i:d=ah f M.size 0 [.i e.op,.i e.bL,.s s]):N M d/\BX S b c a M.size d s e/\d.size=M.size+1:=
 let⟨x,B,z⟩:=jN g i rfl;⟨x,⟨B,h.jB x (ad _)⟩,z⟩
def BX.fz(h:BX S b c a k M s e)(j:d∈S)(i:k≠d)(g:Fz [d] M f):BX S b c a k f s e:=⟨h.b.congr (g.same k h.b.lt (by simpa using i)),h.h.fz (by simp[j]) g⟩
def BX.ext(h:BX S b c a k M s e)(x:N M f):BX S b c a k f s e:=⟨h.b.ext x,h.h.ext x⟩
def BX.set(h:BX S b c a k M s e){f:O}{d:Ex}(g:HX (k::S) b c a M f d):BX S b c a k (ah M k 0 [.i d.op,.i d.bL,.s f]) f d:=⟨cx.ah (m:=M) (o:=0) (r:=[.i d.op,.i d.bL,.s f]) h.b,g.put aJ _ _⟩
def HX.gW(f:HX (k::S) b c a M s e)(r:Rs d h g Q M)(l:Rd d h j g)(m:g.size<=k)(n:Q<=i):XP S d h g i (WX b c a) (.agg #[vi e.op,vi e.bL,O.v s]) (ah M k 0 [.i e.op,.i e.bL,.s s]):=
 ⟨s,e,rfl,(f.put aJ _ _).eQ.sl,f.wx,(r.put l m _ _).r.mono n,(r.put l m _ _).f⟩
end
section
variable{b:List Nat}{c P:Nat}{g d p:O}{f:List bu}{e:List dk}{m:J}
def It(hS:∀l∈b,l<m.size)(z:c∈b)(l:GC c g P d p f e m)(hP:P+200+Cg 18<=10000000000000000):aL cp 279 [vp c 0,.agg #[O.v d,O.v p]] m (XP b c g m (P+200+Cg 18) (WX f e.length 0)):=by
 apply BK (c,0);simp -zeta only[aC,aB];intro h q A;obtain⟨x2,hl⟩:=dF (a:=h) (c:=q) rfl rfl;have s1:h.size=m.size+1:=by simp[h]
 have s2:q.size=m.size+2:=by simp[q,s1]
 have X:N q A:=N.push _ _;have y:=l.rd.lt;have ac:aq (bM [c] A) (.mk q.size 0 3 3) [1,1,3]:=aq.lit aI _ bR rfl rfl aJ;clear_value A;clear_value q;have F:∀{i:J},q.size<=i.size->∀l∈h.size::b,l<i.size:=λE=>bP hS V V;have r3:Rs c g m P A:=⟨(x2.trans X).fz _,(l.rd.ext x2).ext X⟩;have z3:=X.size;refine(j9 r3.r V ac aJ).mono λ_ m4⟨W,u,ht,d4,G⟩=>⟨(lw y bR:Lw c [h.size,m.size] A).dv G,W,u,?_⟩;have r4:=r3.to G d4;have z4:=G.size;intro Q;have x5:N m4 Q:=N.push _ _;have ae:aq (bM [c] Q) (.mk m4.size 0 1 1) [W]:=aq.lit aI _ (by simp;exact d4.lt) rfl rfl aJ;clear_value Q;have R:=r4.ext x5;have z5:=x5.size;refine Em (S:=h.size::b) (F V) (by simp[z]) (l.to R.f R.r) V ae aJ (l.gp.ty (t:=0) bh bh) bh (lw y bR) λD s6 v h6 d6 f6=>?_;intro m7 B;obtain⟨x8,b8,z8⟩:=BX.new (f:=m7) (d:=B) h6 rfl rfl;clear_value B;have z6:=f6.size;have T:=(R.to f6 d6).ext x8;have K:v.size≠c:=V;have Z:∀{i:J},B.size<=i.size->Lw c [v.size,h.size,m.size] i:=λE=>lw y bR;refine⟨λi=>∃U u,BX (h.size::b) f e.length 1 v.size i U u/\Rs c g m (P+2+Cg 18) i/\B.size<=i.size,?_,?_⟩
 ·refine(cw T.r V 3).mono λ_ n⟨Y,en,_,_,x,j⟩=>⟨(Z (ad _)).dv j,Y,en,λ_=>?_,λ_=>⟨s6,D,b8.fz (by simp[z]) K j,⟨(T.to j x).f,x.mono V⟩,j.size⟩⟩;have s:=b8.fz (by simp[z]) K j;have r9:=T.to j x;have z9:=j.size;intro o;have w:N n o:=N.push _ _;have L:fe (bM (v.size::h.size::b) o) (.mk n.size 0 1 1) [D]:=ou (S:=v.size::h.size::b) (M:=n) [(D,s6)] aJ (bP (F (i:=n) V) (ad _) s.b.lt) (by simp;exact s.h.sl) rfl rfl;have yz:=w.size;refine iR (M:=o) L (.eO (a:=1) (b:=f) (c:=e.length) bh (λE=>V) bh (λE=>V) (by simp;exact s.h.wx)) (Z V) λab af I C=>?_;have r:=(r9.ext w).ext C;have H:=((s.ext w).ext C).set I;exact⟨ab,.mk 5 0 [D],H,⟨(r.put l.rd V _ _).f,((r.put l.rd V _ _).r).mono V⟩,by rw[ay];have:=C.size;omega⟩
 rintro i ⟨U,u,r,aa,ah⟩;refine⟨_,r.b.bV 0,_,r.b.bV 1,_,r.b.bV 2,?_⟩;have Y:∀{i:J},B.size<=i.size->Lw c [h.size,m.size] i:=λE=>lw y bR;refine XP.kk (Kf (c:=h.size::b) f e.length (F V) (by simp[z]) aa.r V W) (Y ah) λs9 e9 n h9 w9 x j=>?_;have H:=λag=>kg j y (k:=v.size) ⟨V,r.b.lt⟩ ag;refine⟨H _,H _,H _,?_⟩;have z9:=j.size;intro o;have w:N n o:=N.push _ _;have s:=r.fz (by simp[z]) K j;have L:fe (bM (h.size::b) o) (.mk n.size 0 2 2) [e9,u]:=ou (S:=h.size::b) (M:=n) [(e9,s9),(u,U)] aJ (F V) (by simp;exact⟨h9,s.h.eQ.sl⟩) rfl rfl;refine iR (M:=o) L (.lt w9 r.h.wx) (Y (by have:=w.size;omega)) λab af I C=>?_;exact I.gW (((aa.to j x).ext w).ext C) l.rd V V
def Ie(hS:∀j∈b,j<m.size)(z:c∈b)(j:GC c g P d p f e m)(hP:P+200+2*Cg 18<=10000000000000000){I:Nat}{q:dk}(hq:e[I]? =some q)(h1:1<=q.params.length):
 aL cp 282 [vp c 0,.agg #[O.v d,O.v p],vi I] m (XP b c g m (P+200+2*Cg 18) (WX f e.length q.params.length)):=by
 apply Bw (c,0)
 simp -zeta only[aC,aB]
 intro i D
 obtain⟨x2,hl⟩:=dF (a:=i) (c:=D) rfl rfl
 have s1:i.size=m.size+1:=by simp[i]
 have s2:D.size=m.size+2:=by simp[D,s1]
 have y:=j.rd.lt
 clear_value D
 have w:∀{h:J},D.size<=h.size->∀j∈i.size::b,j<h.size:=λo=>bP hS V V
 have r2:Rs c g m P D:=⟨x2.fz _,j.rd.ext x2⟩
 have u:∀{h:J},D.size<=h.size->Lw c [i.size,m.size] h:=λo=>lw y bR
 obtain⟨ps,ar,e0,e1⟩:=j.hp.D hq
 have aX:=aD hq
 have a0:=j.hp.len
 have Y:=vZ _ (j.gp.dz q (av hq))
 have h3:q.params.length<=3:=Y.1
 have X:∀{h:J},Fz [c] m h->IR c h ps q.params:=λae=>ar.le (fh ae)
 have E1:∀{h:J},Fz [c] m h->af h p.E (p.off+I*5+1)=some (vi q.aV):=λae=>(dV.1 (fh ae _ _ _ e1)).2
 refine⟨V,V,ps,(dV.1 (fh r2.f _ _ _ e0)).2,?_⟩
 refine vX (i.size::b) f e.length (a:=q.params.length) (u (ad _)) V λs3 m3 aq x3=>?_
 have z3:=x3.size
 refine Hs (i.size::b) f e.length q.params.length (u z3) 1 λs4 m4 h4 x4=>?_
 have z4:=x4.size
 intro m5
 have x5:N m4 m5:=N.push _ _
 have aM:fe (bM (i.size::b) m5) (.mk m4.size 0 2 2) [.mk 12 0 [],.mk 0 1 []]:=ou (S:=i.size::b) (M:=m4) [(.mk 12 0 [],s3),(.mk 0 1 [],s4)] aJ (w V) (by simp;exact⟨(aq.ext x4).sl,h4.sl⟩) rfl rfl
 have z5:=x5.size
 refine iR (M:=m5) aM (.eO (a:=q.params.length) (b:=f) (c:=e.length) bh (λo=>V) bh (λo=>V) (by simp;exact⟨aq.wx,h4.wx⟩)) (u V) λs6 K h6 x6=>?_
 have z6:=x6.size
 have r6:=(((r2.ext x3).ext x4).ext x5).ext x6
 intro m7
 have x7:N K m7:=N.push _ _
 have g7:GE (i.size::b) K m7 (.mk K.size 0 1 1) [.mk 2 0 [.mk 12 0 [],.mk 0 1 []]]:=Jq (w V) 0 [(.mk 2 0 [.mk 12 0 [],.mk 0 1 []],s6)] aJ (by simpa using h6.sl) rfl rfl
 clear_value m7
 have a1:=ar.len
 refine Ph (a:=q.params.length) V h1 (λZ F h=>∃A,GE (i.size::b) K h F A/\A.length=Z/\(∀x∈A,WX f e.length q.params.length x)/\Rd c g (P+22*Z) h/\Fz [c] K h) ⟨_,g7,rfl,by simpa using h6.wx,(r6.r.ext x7).mono V,x7.fz _⟩ ?_
 rintro Z F h aW μ aY hj ⟨A,s,aZ,hw,rM,fM⟩ aP
 have W:=r6.f.trans fM
 have zM:=fM.size
 refine⟨λo=>?_,λ_=>?_⟩
 ·simp only[au]at o
  obtain⟨B,r⟩:=ag (l:=q.params) (k:=Z) V
  have v:=Y.2.1 B (av r)
  refine⟨V,V,B,(dV.1 ((X W).D r)).2,?_⟩
  exact XP.jY (qK (f:=F.E::i.size::b) (bP (w (h:=h) V) (ad _) s.be.2) (by simp[z]) (j.to W rM) V (X W) V (j.gp.ty v.1 v.2)) s fM (u V) r6.r (by simp[z]) V λx ax Q G g' L E _ _=>
   aP V _ _ ⟨_,g',bR,λC H=>by rcases List.mem_append.1 H with o|o;exact hw C o;simp at o;subst o;exact G.1,L.mono V,E⟩
 refine iR (s.done AF.mono (w (h:=K) V) bh V) (.eO (a:=q.params.length) (b:=f) (c:=e.length) bh (λo=>V) bh (λ_=>⟨V,V⟩) hw) (u V) λs8 r h8 x8=>?_
 intro m9 B
 obtain⟨az,ac,yz⟩:=BX.new (f:=m9) (d:=B) h8 rfl rfl
 clear_value B
 have z8:=x8.size
 have E:Rs c g m (P+66) B:=⟨(W.then x8).then az,((rM.ext x8).ext az).mono V⟩
 have hk:r.size≠c:=V
 refine⟨λh=>∃F x,BX (i.size::b) f e.length q.params.length r.size h F x/\Rs c g m (P+66+Cg 18) h/\B.size<=h.size,⟨V,V,_,E1 E.f,λ_=>?_,λ_=>⟨s8,_,ac,⟨E.f,E.r.mono V⟩,ad _⟩⟩,?_⟩
 ·have U:∀{h:J},B.size<=h.size->Lw c [r.size,i.size,m.size] h:=λo=>lw y bR
  have ai:∀{h:J},B.size<=h.size->∀j∈r.size::i.size::b,j<h.size:=λo=>bP (w (h:=B) V) o V
  refine Em (S:=r.size::i.size::b) (ai (ad _)) (by simp[z]) (j.to E.f E.r) V (X E.f) V (j.gp.ty (t:=0) bh bh) bh (U (ad _)) λH aj aa Q al v=>?_
  have s:=λT=>kg v y (k:=r.size) ⟨V,ac.b.lt⟩ T
  refine⟨s _,s _,s _,?_⟩
  have aG:=v.size
  intro C
  have G:N aa C:=N.push _ _
  have ah:=ac.fz (by simp[z]) hk v
  have R:fe (bM (r.size::i.size::b) C) (.mk aa.size 0 2 2) [H,.mk 9 I A]:=ou (S:=r.size::i.size::b) (M:=aa) [(H,aj),(.mk 9 I A,s8)] aJ (ai aG) (by simp;exact⟨Q.sl,ah.h.sl⟩) rfl rfl
  have aV:=G.size
  refine iR (M:=C) R (.Nq (by simp;exact⟨Q.wx,h8.wx⟩)) (U V) λak ab am L=>?_
  have an:=(((E.to v al).ext G).ext L).put j.rd (k:=r.size) V 0 [.i 6,.i 1,.s ak]
  have hb:=((ah.ext G).ext L).set am
  exact⟨ak,.mk 6 1 [H,.mk 9 I A],hb,an,by rw[ay];have:=L.size;omega⟩
 rintro M3 ⟨F,x,v,ax,a4⟩
 refine Hs (i.size::b) f e.length q.params.length (u V) 0 λaj aa Q aA=>?_
 have aG:=aA.size
 refine vX (i.size::b) f e.length (a:=q.params.length) (u V) V λaQ C an G=>?_
 have aV:=G.size
 intro ab
 have L:N C ab:=N.push _ _
 have R:fe (bM (i.size::b) ab) (.mk C.size 0 2 2) [.mk 0 0 [],.mk 12 0 []]:=ou (S:=i.size::b) (M:=C) [(.mk 0 0 [],aj),(.mk 12 0 [],aQ)] aJ (w V) (by simp;exact⟨(Q.ext G).sl,an.sl⟩) rfl rfl
 have a5:=L.size
 refine iR (M:=ab) R (.eO (a:=q.params.length) (b:=f) (c:=e.length) bh (λo=>V) bh (λo=>V) (by simp;exact⟨Q.wx,an.wx⟩)) (u V) λaR aN ao aE=>?_
 intro aO aw
 obtain⟨aT,al,a7⟩:=BX.new (f:=aO) (d:=aw) ao rfl rfl
 clear_value aw
 have a6:=aE.size
 have ak:=(((aA.trans G).trans L).trans aE).trans aT
 have U:=ax.ext ak
 have v:=v.ext ak
 refine⟨_,v.b.bV 0,_,v.b.bV 1,_,v.b.bV 2,V,V,_,E1 U.f,?_⟩
 refine Em (S:=i.size::b) (w V) (by simp[z]) (j.to U.f U.r) V (X U.f) V (j.gp.ty Y.2.2.1 Y.2.2.2) bh (lw y bR) λam aS ah ap aI H=>?_
 have s:=λT=>kg H y (k:=r.size) ⟨V,v.b.lt⟩ T
 have g':=λT=>kg H y (k:=aN.size) ⟨V,al.b.lt⟩ T
 refine⟨?_,?_,?_,?_,?_,?_,?_⟩
 iterate 6 first|exact s _|exact g' _
 have a8:=H.size
 intro ai
 have aF:N ah ai:=N.push _ _
 have aH:=v.fz (by simp[z]) hk H
 have R:fe (bM (i.size::b) ai) (.mk ah.size 0 3 3) [.mk 4 0 [.mk 0 0 [],.mk 12 0 []],x,am]:=ou (S:=i.size::b) (M:=ah) [(.mk 4 0 [.mk 0 0 [],.mk 12 0 []],aR),(x,F),(am,aS)] aJ (w V) (by simp;exact⟨(al.h.eQ.fz (by simp[z]) H).sl,aH.h.eQ.sl,ap.sl⟩) rfl rfl
 refine iR (M:=ai) R (.eO (a:=q.params.length) (b:=f) (c:=e.length) bh (λ_=>rfl) bh (λo=>V) (by simp;exact⟨ao.wx,v.h.wx,ap.wx⟩)) (lw y (by have:=aF.size;simp;omega)) λa3 a2 aK aU=>?_
 exact aK.gW (((U.to H aI).ext aF).ext aU) j.rd V V
end
end
end Go.Proofs.YtgnjacfobdjeeaaGreat
