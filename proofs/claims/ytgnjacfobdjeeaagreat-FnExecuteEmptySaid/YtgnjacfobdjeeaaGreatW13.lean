/- Part of a proof, joined by a program. -/
import Derived.Test.YtgnjacfobdjeeaaGreatW12
set_option linter.unusedVariables false
set_option linter.unusedSimpArgs false
set_option linter.defProp false
set_option linter.constructorNameAsVariable false
set_option maxHeartbeats 8000000
set_option maxRecDepth 100000
namespace Go.Proofs.YtgnjacfobdjeeaaGreat
open Go.Vc
section
variable{S:List Nat}{d c:I}{b:Nat}{s:O}{l:List Instr}{x:Instr}
structure EE(S:List Nat)(d c:I)(b:Nat)(s:O)(l:List Instr):Prop where
 box:cF c b nX [.s s]
 gr:UF (b::S) d c s l
 up:d.size<=b
def EE.ext{S:List Nat}{d c a:I}{b:Nat}{s:O}{l:List Instr}(h:EE S d c b s l)(x:J c a):EE S d a b s l:=⟨h.box.ext x,h.gr.ext dO.mono x,h.up⟩
def EE.ne{S:List Nat}{d c:I}{b:Nat}{s:O}{l:List Instr}(h:EE S d c b s l):s.F≠b:=h.gr.ne h.box bh
def Ok(S:List Nat)(d c:I)(b:Nat)(s:O)(P:List Instr->Prop)(f:I):Prop:=∃a e,EE S d f b a e/\P e/\Fz [b,s.F] c f/\(a.F=s.F\/c.size<=a.F)
def qv{v z:O}(p:EE S d c b s l)(F:d.size<=c.size)(K:ap (bO (s.F::b::S) c) v x.args)(L:ap (bO (s.F::b::S) c) z x.ez)(q:l.length<=1000000000000):
 aO cw 191 [vp b 0,Vb x v z] c λT Q=>T=vi (l.length:Nat)/\Ok S d c b s (l++[x]=·) Q:=by
 apply wY (b,0)
 simp -zeta only[aD,aC]
 intro g
 have n:J c g:=J.push _ _
 have s1:g.size=c.size+1:=by simp[g]
 clear_value g
 have h:=p.ext n
 have hy:=h.gr.bg
 have N:=h.ne
 have E:=h.box.lt
 have X:=p.box.lt
 have aa:=p.gr.bg
 refine⟨s,h.box.cp 0,?_⟩
 intro R
 have G:J g R:=J.push _ _
 refine⟨aN (G.same _ E) _,?_⟩
 have Z:(c.extract 0 d.size).size=d.size:=nL F
 have I:UF (b::S) (c.extract 0 d.size) g s l:=Gr.bY dO.mono h.gr (λH q=>Or.inl q) V
 refine Gr.kv (g:=[.i 0,.i 0,.i 0,.i 0,.s .nil,.s .nil]) (k:=x) dO.mono bh I ((((J.Lr F).trans n).fz [])) ⟨v,z,rfl,K.le (n.da _),L.le (n.da _)⟩ V λi k A W U u=>?_
 have q3:∀e,e<g.size->e≠s.F->k[e]? =g[e]? :=u
 have y:cF k b nX [.s s]:=h.box.congr (u b E (kd N))
 have P:=A.ne y bh
 refine⟨λe f=>?_,y.fH D,?_⟩
 ·simp at f;subst f
  rw[u c.size V V,G.same _ V]
 intro t
 have C:cF t b nX [.s i]:=cF.ai (m:=k) (o:=0) (r:=[.s i]) y
 have w:∀e,e≠b->t[e]? =k[e]? :=λe f=>bd _ _ _ _ f
 have s4:t.size=k.size:=av _ _ _ _
 refine⟨λe f=>w e (by simp at f;omega),i,C.cp 0,?_⟩
 have B:UF (b::S) d t i (l++[x]):=by
  refine Gr.bY dO.mono (A.re dO.mono (Y:=[b]) ⟨V,λe f j=>w e (by simpa using j)⟩ D (by simp;exact P) λe f=>Or.inl f) (λH q=>Or.inl q) V
 have H:=B.len bh
 have M:i.len=l.length+1:=by rw[H];simp
 refine⟨?_,i,_,⟨C,B,p.up⟩,rfl,⟨V,λe f j=>?_⟩,by have:=U.2;omega⟩
 ·rw[M,aQ V V];congr 1;omega
 ·simp only[aU,jS,Bc,tH]at j
  rw[w e j.1,u e V j.2,n.same e f]
def Qt{j:Nat}(h:EE S d c b s l)(o:d.size<=c.size)(r:l[j]? =some x):
 aO cw 232 [vp b 0,vi j] c λ_ L=>Ok S d c b s (l.set j ⟨x.op,0,l.length,0,x.args,x.ez⟩=·) L:=by
 apply wX (b,0)
 simp -zeta only[aD,aC]
 have H:=ax r
 have K:=h.gr.len bh
 obtain⟨O,⟨q,t,rfl,F,G⟩,jg⟩:=h.gr.cells r
 have w:=jg 0 _ rfl;have y:=jg 1 _ rfl;have z:=jg 2 _ rfl;have A:=jg 3 _ rfl;have B:=jg 4 _ rfl;have C:=jg 5 _ rfl
 refine⟨s,h.box.cp 0,V,V,_,w,_,y,_,z,_,A,_,B,_,C,?_⟩
 intro M e
 have g:J c e:=(J.push c _).ai (ad _) _ _
 have T:e.size=c.size+1:=by simp[e,M,av]
 clear_value e
 have i:=h.ext g
 have I:=i.ne
 have Q:=h.gr.bg
 have R:=g.size
 refine⟨s,i.box.cp 0,s,i.box.cp 0,V,V,?_⟩
 have D:UF (b::S) (c.extract 0 d.size) e s l:=Gr.bY dO.mono i.gr (λv m=>Or.inl m) (by rw[nL o];exact ad _)
 rw[K]
 obtain⟨N,E,P,p⟩:=Gr.set (k:=j) (cs:=[.i x.op,.i 0,.i l.length,.i 0,.s q,.s t]) (a:=⟨x.op,0,l.length,0,x.args,x.ez⟩) dO.mono D (((J.Lr o).trans g).fz []) H ⟨q,t,rfl,F.le (g.da _),G.le (g.da _)⟩
 refine⟨N,?_⟩
 intro u
 have U:u.size=e.size:=av _ _ _ _
 refine⟨λf n=>p f (by simp at n;omega),s,_,⟨i.box.congr (p b (kd I)),Gr.bY dO.mono E (λv m=>Or.inl m) (by rw[nL o];exact ad _),h.up⟩,rfl,⟨V,λf n m=>?_⟩,Or.inl rfl⟩
 simp only[aU,jS,Bc,tH]at m
 have v:u[f]? =e[f]? :=p f m.2
 rw[v,g.same f n]
end
section
variable{n a:Nat}
def mK(l b:List Instr)(n:Nat):Prop:=∃a,b=l++a/\(∀(i:Nat)(x:Instr),a[i]? =some x->On (l.length+i) x)/\PK a/\a.length<=n
def mK.aB(l:List Instr):mK l l 0:=⟨[],D,D,λ_ h=>by simp at h,ad _⟩
def mK.fg{l b:List Instr}(h:mK l b n)(i:n<=a):mK l b a:=let⟨f,c,d,e,g⟩:=h;⟨f,c,d,e,V⟩
def mK.len{l a:List Instr}(h:mK l a n):a.length<=l.length+n:=by obtain⟨b,rfl,_,_,d⟩:=h;simp;omega
def mK.trans{l e f:List Instr}(h:mK l e n)(p:mK e f a):mK l f (n+a):=by
 obtain⟨c,rfl,g,k,s⟩:=h;obtain⟨r,rfl,j,m,t⟩:=p;refine⟨c++r,D,λi x b=>?_,λx q=>?_,bJ⟩
 ·rcases be i c.length with d|d
  ·rw[aw d]at b;exact g i x b
  ·rw[aG d]at b;have:=j _ x b;have o:(l++c).length+(i -c.length)=l.length+i:=bJ;rw[o]at this;exact this
 ·rcases List.mem_append.1 q with h|h
  ·exact k x h
  ·exact m x h
def mK.kK{l:List Instr}{x:Instr}(h:On l.length x)(c:x.args.length<=1000000000000/\x.ez.length<=1000000000000):mK l (l++[x]) 1:=
 ⟨[x],rfl,λi y a=>by
  have:i=0:=by have:=ax a;simp at this;omega
  subst this;simp at a;subst a;exact h,λy b=>by simp at b;subst b;exact c,D⟩
section
variable{S:List Nat}{d m c:I}{b:Nat}{s e:O}{l f:List Instr}
def EE.fX(h:EE S d m b s l)(f:J d m)(e:Fz [b,s.F] m c):J d c:=by
 have j:=h.gr.bg;have i:=h.up;exact Fz.ext (((f.fz [b,s.F]).trans e).CY λg a=>Or.inr (by simp at a;omega))
def PW(h:Fz [b,s.F] m c)(f:e.F=s.F\/m.size<=e.F):Le (bO [s.F,b] m) (bO [e.F,b] c):=px λa g i=>by
 simp at i;refine⟨by simp;rcases f with d|d<;>omega,h.same a g bJ⟩
def Ok.dm{L:List Nat}(f:Fz [b,s.F] m c)(d:∀a∈L,a<m.size/\a≠b/\a≠s.F):eE L m c:=λa e=>f.same a (d a e).1 (by have:=d a e;simp;omega)
end
structure Q8(S:List Nat)(mb m:I)(eb:Nat)(s:O)(l:List Instr)(cons first:O)(cl fl:List Int):Prop where
 em:EE S mb m eb s l
 x:J mb m
 fX:∀c∈S,c<m.size
 cons:ap (bO [s.F,eb] m) cons cl
 first:ap (bO [s.F,eb] m) first fl
 same:fl.length=cl.length
 lE:∀y∈fl,0<=y/\y<=900000000000
def Q8.ext{S:List Nat}{e m d:I}{b:Nat}{s:O}{l:List Instr}{cons first:O}{a c:List Int}(h:Q8 S e m b s l cons first a c)(x:J m d):Q8 S e d b s l cons first a c:=
 ⟨h.em.ext x,h.x.trans x,λf g=>x.lt (h.fX f g),h.cons.le (x.da _),h.first.le (x.da _),h.same,h.lE⟩
def Q8.next{S:List Nat}{e m d:I}{a:Nat}{s c:O}{o j:List Instr}{cons first:O}{f g:List Int}(h:Q8 S e m a s o cons first f g)(l:EE S e d a c j)(b:Fz [a,s.F] m d)(i:c.F=s.F\/m.size<=c.F):Q8 S e d a c j cons first f g:=
 ⟨l,h.em.fX h.x b,λk n=>aP (h.fX k n) b.size,h.cons.le (PW b i),h.first.le (PW b i),h.same,h.lE⟩
def WW(f:List bB)(g:List gC)(x:cR):Prop:=∀(S:List Nat)(a m:I)(c:Nat)(s:O)(l:List Instr)(cons first:O)(b h:List Int)(e r d k:O),Q8 S a m c s l cons first b h->WS f g.length True b.length x->b.length+4*x.w<=900000000000->l.length+6*x.w<=1000000000000->eD a e r f g->ap a d x.args->nD a k x.bE->
 aO cw 217 [vp c 0,.agg #[O.v e,O.v r],oW x d k,O.v cons,O.v first] m λ_ j=>Ok S a m c s (λi=>mK l i (6*x.w)) j
def V0(f:List bB)(g:List gC)(b:Bk):Prop:=∀(S:List Nat)(a m:I)(d:Nat)(s:O)(l:List Instr)(cons first:O)(c h:List Int)(e r t:O),Q8 S a m d s l cons first c h->WB f g.length True c.length b->c.length+4*b.w<=900000000000->l.length+6*b.w<=1000000000000->eD a e r f g->eI a t b.aA->
 aO cw 190 [vp d 0,.agg #[O.v e,O.v r],.agg #[O.v t,vi b.aV],O.v cons,O.v first] m λ_ j=>Ok S a m d s (λi=>mK l i (6*(b.w -1))) j
end
def sZ(m:I):ap m .nil []:=⟨rfl,ad _,D,D⟩
def KQ{ds:List bB}{rs:List gC}{aA:List cR}{a9:Int}(b:∀a∈aA,a.op=7\/a.op=8->WW ds rs a):V0 ds rs (.mk aA a9):=by
 intro B mb G f ac aj cons first cl fl aO a8 bw E0 a2 bf bg hn hs
 have a3:=a2.aW;rw[Bk.qA]at*;simp only[Bk.jN,Bk.jd]at*;apply uU (f,0);simp -zeta only[aD,aC];intro U H;obtain⟨x2,hl⟩:=dG (a:=U) (c:=H) rfl rfl;have s1:U.size=G.size+1:=by simp[U]
 have s2:H.size=G.size+2:=by simp[H,s1]
 clear_value H;have a1:=hs.len;have aG:=AZ aA;have bn:=fO aA;have bj:=E0.em.box.lt;have bt:=E0.em.gr.bg;have bl:=E0.x.size;refine wK (n:=aA.length) (a1▸hs.fS) (λq cons first M=>∃p T E P,Q8 B mb M f p T cons first E P/\E.length=cl.length+dc (aA.take q)/\mK aj T (6*sw (aA.take q))/\Fz [f,ac.F] G M/\(p.F=ac.F\/H.size<=p.F)/\H.size<=M.size) ⟨ac,aj,cl,fl,E0.ext x2,D,(mK.aB aj).fg (eJ _),x2.fz _,Or.inl rfl,ad _⟩ ?_;rintro q cons first M a_ μ hk ⟨p,T,E,P,W,aX,ai,fz,a0,hM⟩ aK
 have bk:=ai.len;have bp:=aG q;have u:=W.em.gr.bg;refine dit (λm=>?_) λm=>?_
 ·obtain⟨a,hx⟩:=ag (l:=aA) (k:=q) V;obtain⟨pa,pk,R,aY,e0,e1,e2,e3,e4⟩:=hs.E hx;have br:=pN hx;have bq:=qF hx;have bs:=cR.mf a;have bo:=aG (q+1);have bi:=sP (aA.take q);have bm:=fO (aA.take q);have aa:=a3.1 q a hx;rw[<-aX]at aa;have X:=W.x;refine⟨V,V,_,X.af e0,_,X.af e1,_,X.af e2,_,X.af e3,_,X.af e4,?_⟩;intro m3 r;have x4:J M r:=(J.push M _).ai (ad _) _ _;have s4:r.size=M.size+1:=by simp[r,m3,av]
  clear_value r;have j:=W.ext x4;have Q:∀{Y:I},r.size<=Y.size->∀h∈[M.size,U.size,G.size],h<Y.size/\h≠f/\h≠p.F:=λhz h t=>by simp at t;omega
  have kS:∀{A Z:I},r.size<=A.size->J A Z->eE [M.size,U.size,G.size] A Z:=λhz xx h t=>xx.same h (Q hz h t).1;have C:∀{A Z:I},r.size<=A.size->J A Z->∀al,af Z M.size al=af A M.size al:=λhz xx al=>aN (xx.same _ V) al;have au:∀{Y:I},r.size<=Y.size->∀c∈p.F::f::B,c<Y.size:=λhz c b=>by
   simp only[aU]at b;rcases b with e|e|e
   ·omega
   ·omega
   ·have:=W.fX c e;have:=X.size;omega
  refine⟨λN=>∃g y,Q8 B mb N f g y cons first E P/\mK T y (6*a.w)/\Fz [f,p.F] r N/\(g.F=p.F\/r.size<=g.F),⟨λh7=>?_,λn7=>⟨λaS=>?_,λa6=>⟨λaT=>?_,λa7=>?_⟩⟩⟩,?_⟩
  ·simp only[bT,aF]at h7;refine(b a (ar hx) h7 B mb r f p T cons first E P aO a8 pa pk j aa V V hn R aY).mono λv m5⟨g,y,ah,p5,O,b5⟩=>⟨Ok.dm O (Q (ad _)),g,y,j.next ah O b5,p5,O,b5⟩
  ·simp only[bT,aF]at aS;refine(bP (p.F::f::B) (R.ext j.x) V).mono λv m5⟨a',la,e,ga,ea,d⟩=>⟨kS (ad _) d,a',e,C (ad _) d _,?_⟩;subst ea;have o:=j.ext d;have w:=d.size;refine(qv (x:=⟨a.op,0,0,0,a.args,[]⟩) o.em o.x.size (GI.done ga (au (ad _)) (by show a.args.length<=_;omega)) (sZ _) V).mono λv K⟨ev,s6,l6,am,p6,F,b6⟩=>⟨Ok.dm F (Q w),_,ev,s6,l6,o.next am F b6,?_,(d.fz _).trans F,V⟩;subst p6;exact(mK.kK ⟨λm=>by simp only at m;omega,λm=>by simp only at m;omega⟩ ⟨by show a.args.length<=_;omega,D⟩).fg V
  ·simp only[bT,aF]at aT;have bc:=aa.eR.kK V;obtain⟨L,aw⟩:=ag (l:=a.args) (k:=0) V;obtain⟨y0,y1⟩:=aa.eR.args L (ar aw);have be:=R.len;have c4:=(j.cons.le (bD _ _));have f4:=(j.first.le (bD _ _));have a4:=c4.len;have a5:=f4.len;have aZ:=j.same;obtain⟨cn,aQ⟩:=ag (l:=E) (k:=L.toNat) V;obtain⟨fn,aq⟩:=ag (l:=P) (k:=L.toNat) V;obtain⟨ba,bb⟩:=j.lE fn (ar aq);have F4:=f4.E aq;refine⟨bh,V,L,(R.ext j.x).E aw,y0,V,cn,c4.E aQ,y0,V,fn,F4,?_⟩;refine(dH (e:=[]) D (hn.aT.le (j.x.le.trans (zJ _))) hn.types cn).mono λv m5⟨aV,bu,e,aL,az,d⟩=>⟨kS (ad _) d,aV,e,by rw[d.af F4,F4],C (ad _) d _,C (ad _) d _,?_⟩;subst az;have w:=d.size;have F3:=EX hn.types cn;obtain⟨fk,aR⟩:∃fk:Nat,fn=fk:=⟨fn.toNat,V⟩;subst aR;refine(rL (S:=[]) D aL fk V).mono λv K⟨aW,bv,e,aH,an,i⟩=>⟨kS w i,aW,e,C w i _,C w i _,?_⟩;have z6:=i.size;refine(eG (S:=[]) D ((R.ext (j.x.trans (d.trans i))).le (zJ _)) (aH.done tI.mono D bh (by have:=an.2;omega)) (by have:=an.2;omega)).mono λv m7⟨ay,ab,e,aI,ax,s⟩=>⟨kS V s,ay,e,C V s _,?_⟩;have X7:=(d.trans i).trans s;have z:=j.ext X7;have z7:=s.size;have aJ:GI (p.F::f::B) K m7 ay ab:=GI.any aI;have bd:ab.length<=a.args.length+3:=by rw[<-ax];simp;have:=an.2;omega
   have aM:0<ab.length:=by rw[<-ax];simp;omega
   refine(qv (x:=⟨a.op,0,0,0,ab,[]⟩) z.em z.x.size (aJ.done (au V) V) (sZ _) V).mono λv m8⟨ev,s8,l8,aB,p8,f8,b8⟩=>⟨Ok.dm f8 (Q V),_,ev,s8,l8,z.next aB f8 b8,?_,(X7.fz _).trans f8,V⟩;subst p8;exact(mK.kK ⟨λm=>by simp only at m;omega,λ_=>aM⟩ ⟨by show ab.length<=_;omega,D⟩).fg V
  ·refine(bP (p.F::f::B) (R.ext j.x) V).mono λv m5⟨a',la,e,ga,ea,d⟩=>⟨kS (ad _) d,a',e,C (ad _) d _,C (ad _) d _,C (ad _) d _,?_⟩;subst ea;simp only[bz,ak]at a6 a7;have o:=j.ext d;have w:=d.size;have ab:a.op<=11:=by
    rcases aa.eR.op with m|m
    ·exact m.2
    ·omega
   refine(qv (x:=⟨a.op,(cons.len:Int),a.bN,a.bW,a.args,[]⟩) o.em o.x.size (GI.done ga (au (ad _)) (by show a.args.length<=_;omega)) (sZ _) V).mono λv K⟨ev,s6,l6,am,p6,F,b6⟩=>⟨Ok.dm F (Q w),_,ev,s6,l6,o.next am F b6,?_,(d.fz _).trans F,V⟩;subst p6;exact(mK.kK ⟨λm=>by simp only at m;omega,λm=>by simp only at m;omega⟩ ⟨by show a.args.length<=_;omega,D⟩).fg V
  ·rintro N ⟨g,y,o,p5,O,b5⟩;have w:=O.size;have ah:mK aj y (6*sw (aA.take (q+1))):=(ai.trans p5).fg V;have ay:Fz [f,ac.F] G N:=(fz.then x4).rS O λL u=>by
    simp only[aU,jS,Bc]at u⊢;rcases u with e|e
    ·exact Or.inl (Or.inl e)
    ·rcases a0 with d|d
     ·exact Or.inl (Or.inr V)
     ·exact Or.inr V
   have az:g.F=ac.F\/H.size<=g.F:=V;have bc:=o.em.gr.bg;have an:∀h∈[M.size,U.size,G.size],h<N.size:=λh t=>aP (Q (ad _) h t).1 w;have aB:=λh t=>sR a h t;refine(jH a.op N).mono λv K⟨h,e,t,i⟩=>⟨λc b=>i.same c (an c b),h,e,λht=>?_,λhf=>?_⟩
   ·have hd:=aB h t;rw[ao ht]at hd;intro m7;have s:J K m7:=J.push _ _;have bb:=o.em.box.lt;have z6:=i.size;have ab:∀c∈[g.F,f],c<K.size:=λc b=>by simp at b;omega
    have a4:ap (bO [g.F,f] m7) (.mk K.size 0 1 1) [0]:=ap.lit aE [0] ab rfl rfl D;have X7:=i.trans s;have z:=o.ext X7;have ba:=z.cons.len;refine(eG (S:=[g.F,f]) (λc b=>s.lt (ab c b)) z.cons a4 bJ).mono λv m8⟨aL,aH,e,aQ,aw,x8⟩=>⟨λc b=>x8.same c (s.lt (i.lt (an c b))),aL,e,?_⟩;intro m9;have d:J m8 m9:=J.push _ _;have z7:=s.size;have z8:=x8.size;have aq:∀c∈[g.F,f],c<m8.size:=λc b=>by have:=ab c b;omega
    have a5:ap (bO [g.F,f] m9) (.mk m8.size 0 1 1) [0]:=ap.lit aE [0] aq rfl rfl D;have E9:=z.ext (x8.trans d);have aZ:=E9.same;refine(eG (S:=[g.F,f]) (λc b=>d.lt (aq c b)) E9.first a5 bJ).mono λv aJ⟨aM,aI,e,aR,ax,F⟩=>⟨λc b=>F.same c (d.lt (x8.lt (s.lt (i.lt (an c b))))),aM,e,?_⟩;have am:=E9.ext F;have aV:ap (bO [g.F,f] aJ) aL aH:=(GI.done aQ (λc b=>s.lt (ab c b)) (by rw[<-aw];simp;omega)).le ((d.trans F).da _);have aW:ap (bO [g.F,f] aJ) aM aI:=GI.done aR (λc b=>d.lt (aq c b)) (by rw[<-ax];simp;omega);refine aK V _ _ _ ⟨g,y,aH,aI,⟨am.em,am.x,am.fX,aV,aW,by rw[<-aw,<-ax];simp;omega,λL u=>?_⟩,by rw[<-aw];simp;omega,ah,ay.then (((X7.trans x8).trans d).trans F),az,?_⟩
    ·rw[<-ax]at u;rcases List.mem_append.1 u with u|u
     ·exact o.lE L u
     ·simp at u;omega
    ·have:=d.size;have:=F.size;omega
   ·have hd:=aB h t;rw[ae (by simp[hf])]at hd;exact aK V _ _ _ ⟨g,y,E,P,o.ext i,V,ah,ay.then i,az,by have:=i.size;omega⟩
 ·have a:q=aA.length:=V;subst a;rw[eZ]at ai;exact⟨p,T,W.em,ai.fg V,fz,V⟩
section
variable{m:I}
def y8(m:I)(s:O):Prop:=s.len<=s.cap/\∀k:Nat,k<s.len->∃v:Int,0<=v/\v<=255/\af m s.F (s.off+k*1)=some (.int .u8 v)
def HI{cL:O}(h:y8 m cL):aO cw 37 [O.v cL] m λv i=>∃a,v=vp m.size 0/\Rd m.size a 0 i/\J m i:=by
 obtain⟨g,f⟩:=h;apply Ay;have R:∀a:O,y8 m a->∃l,vp m.size 0=vp m.size 0/\Rd m.size l 0 (m.push (.cells (bG [.s a,.i 0]) pP))/\J m (m.push (.cells (bG [.s a,.i 0]) pP)):=λa⟨n,o⟩=>by
  refine⟨a,rfl,⟨⟨0,cF.push _ _ _,cE _,D⟩,n,λk c=>?_⟩,J.push _ _⟩;obtain⟨v,d,e,b⟩:=o k c;have s:=nF b;exact⟨v,d,e,eg.2 ⟨bJ,(J.push m _).af b⟩⟩
 refine⟨λh=>?_,λ_=>R cL ⟨g,f⟩⟩;simp only[au]at h;refine⟨bh,bh,V,?_⟩;refine R _ ?_;cases cL with
 |nil=>simp at h
 |zn j p q=>simp at h
 |mk j p t q=>
  simp only[O.iE,O.Nm]at h g;refine⟨by simp[O.cut];omega,λk c=>?_⟩;have r:k<2000:=by simpa[O.cut]using c
  obtain⟨v,d,e,b⟩:=f k bJ;exact⟨v,d,e,by simpa[O.cut]using b⟩
def JM(f:Nat)(b:List Value)(m:I)(S:List Nat)(Q:Ex->Prop):Prop:=aO cw f b m λv a=>∃s e,v=.agg #[vi e.op,vi e.bN,O.v s]/\fw (bO S a) s e.bE/\Q e/\J m a
def Ao(S:List Nat)(n:Int)(m:I):JM 278 [vi n] m S (.mk 0 n []=·):=by
 apply D0;simp -zeta only[aD,aC];intro a b d;have c:J m b:=(J.push m _).trans (J.push a _);exact⟨_,.mk 0 n [],rfl,my _ _ _ _ _ _,rfl,c.ai (ad _) _ _⟩
def me(S:List Nat)(n:Int)(m:I):JM 313 [vi n] m S (.mk 12 n []=·):=by
 apply CD;simp -zeta only[aD,aC];intro a b d;have c:J m b:=(J.push m _).trans (J.push a _);exact⟨_,.mk 12 n [],rfl,my _ _ _ _ _ _,rfl,c.ai (ad _) _ _⟩
def IF{S:List Nat}{s:O}{bE:List Ex}(h:fw (bO S m) s bE)(a bN:Int):JM 311 [vi a,vi bN,O.v s] m S (.mk a bN bE=·):=by
 apply Jn;simp -zeta only[aD,aC];intro d c;have b:J m c:=(J.push m _).ai (ad _) _ _;exact⟨s,.mk a bN bE,rfl,h.le (b.da _),rfl,b⟩
def AM{a P:Nat}{b:O}(r:Rd a b P m)(x:P+4<=10000000000000000):aO cw 330 [vp a 0] m λv h=>∃k:Int,v=vi k/\Rd a b (P+4) h/\Fz [a] m h:=by
 apply El (a,0);refine(cB r V 6).mono λv y⟨d,e,_,_,s,n⟩=>⟨d,e,?_⟩;refine(cB s V 6).mono λv z⟨f,e,_,_,t,o⟩=>⟨f,e,?_⟩;refine(cB t V 40).mono λv i⟨g,e,_,_,c,p⟩=>⟨g,e,?_⟩;intro j;have l:J i j:=J.push _ _;have w:ap (bO [a] j) (.mk i.size 0 10 10) [d,f,0,1,2,-1,3,g,999,-998]:=ap.lit aE _ (by have:=c.lt;simpa using this) rfl rfl D;refine(kN (c.ext l) V w D).mono λv A⟨k,e,_,u,q⟩=>⟨k,e,k,rfl,u,((n.trans o).trans p).then l|>.trans q⟩
end
section
variable{m:I}
def Y8(e:Ex):Prop:=∀(m:I)(t:O),fw m t e.bE->∀left:Int,left<=600->sM 315 [.agg #[vi e.op,vi e.bN,O.v t],vi left] m λk=>k= -1\/0<=k/\k+e.n=left
def HJ:∀e:Ex,Y8 e:=by
 refine Ex.ind ?_;intro R bN bE z m S d left N;simp only[Ex.Vg,Ex.SS,Ex.QV,Ex.Rt]at*;apply Az;simp -zeta only[aD,aC];intro b;have g:J m b:=J.push _ _;have t:∀i∈[m.size],i<b.size:=by simp[b]
 clear_value b;have f:∀{M:I},J m M->∃a:Int,vi (-1:Int)=vi a/\(a= -1\/0<=a/\a+((1+en bE:Nat):Int)=left)/\J m M:=λG=>⟨-1,rfl,Or.inl rfl,G⟩;refine⟨λ_=>f g,λr=>?_⟩;simp only[bH]at r;have y:=d.len;rw[aQ (b:=left -1) V V];refine dU (n:=bE.length) (y▸d.fS) (λa(v:Int) M=>J b M/\0<=v/\v+1+en (bE.take a)=left) ⟨J.aB _,V,D⟩ ?_;rintro a v M K μ L ⟨h,E,F⟩ A
 have u:=g.trans h;refine dit (λq=>?_) λq=>?_
 ·obtain⟨e,c⟩:=ag (l:=bE) (k:=a) V;obtain⟨B,w,j,o,p⟩:=d.E c;refine⟨V,V,_,u.af j,_,u.af o,_,u.af p,?_⟩;refine(z e (ar c) M B (fw.le u.le w) v V).aI h t λQ P O H C=>⟨_,rfl,λ_=>f (u.trans H),λs=>?_⟩;simp only[bH]at s;refine A V _ _ ⟨C,V,?_⟩
  rw[JE c];omega
 ·rw[cN V]at F;exact⟨v,rfl,Or.inr ⟨E,V⟩,u⟩
def AA{t:O}{e:Ex}(h:fw m t e.bE):sM 284 [.agg #[vi e.op,vi e.bN,O.v t]] m λk=>k= -1\/k=e.n/\e.n<=30:=by
 apply Ef;simp -zeta only[aD,aC];intro a;have b:J m a:=J.push _ _;have g:∀d∈[m.size],d<a.size:=by simp[a]
 clear_value a;refine(HJ e a t (fw.le b.le h) 30 bh).aI (J.aB a) g λn j i c l=>⟨_,rfl,λ_=>⟨-1,rfl,Or.inl rfl,b.trans c⟩,λf=>?_⟩;simp only[bH]at f;rw[aQ (b:=30 -n) V V];exact⟨_,rfl,Or.inr ⟨V,V⟩,b.trans c⟩
def K3{s:O}{b:List Int}(h:ap m s b)(g:Int):sM 277 [O.v s,vi g] m λa=>-1<=a/\a<b.length:=by
 apply Ei;have e:=h.len;refine eU (n:=b.length) (e▸h.fS) (λ_ M=>J m M) (J.aB _) ?_;rintro a M I μ j c i
 refine⟨λd=>?_,λ_=>⟨-1,rfl,⟨V,V⟩,c⟩⟩;simp only[au]at d;obtain⟨x,f⟩:=ag (l:=b) (k:=a) V;exact⟨V,V,x,(h.ext c).E f,λ_=>⟨a,rfl,⟨V,V⟩,c⟩,λ_=>i V _ c⟩
def KN(f:O)(m:I):aO cw 201 [O.v f] m λv a=>v=.agg #[O.v f]/\J m a:=by
 apply KM;simp -zeta only[aD,aC];intro b c;exact⟨trivial,(J.push m _).ai (ad _) _ _⟩
def Qv(p:O)(r:Int)(m:I):aO cw 248 [O.v p,vi r] m λv a=>v=.agg #[O.v p,vi r,vi 0,vi 0,O.v .nil]/\J m a:=by
 apply K6;simp -zeta only[aD,aC];intro b c;exact⟨trivial,(J.push m _).ai (ad _) _ _⟩
end
section
variable{b:List Nat}{m:I}{c d p:O}{a:List dw}
def Gg(t:∀a∈b,a<m.size){d:List Int}(h:ap m c d)(A:d.length<=1000000000000)(w:Int):kT 331 [O.v c,vi w] m b λa=>(∀y∈a,0<=y/\y<(d.length:Int))/\a.length<=d.length:=by
 apply yV;intro E;have u:=h.len;refine dU (n:=d.length) (u▸h.fS) (λj s M=>J m M/\∃a,GI b m M s a/\(∀y∈a,0<=y/\y<(d.length:Int))/\a.length<=j) ⟨J.push m _,[],GI.nil b m,D,ad _⟩ ?_;rintro j s M I μ B ⟨f,a,g,i,C⟩ p
 refine⟨λo=>?_,λo=>⟨s,a,rfl,g,⟨i,V⟩,f⟩⟩;simp only[au]at o;obtain⟨x,v⟩:=ag (l:=d) (k:=j) V;refine⟨V,V,x,(h.ext f).E v,λ_=>?_,λ_=>p V _ _ ⟨f,a,g,i,V⟩⟩;intro F;exact GI.kv g (f.fz []) t V λG z r q _ _=>p V _ _ ⟨q.ext,_,r,λy e=>by
  rcases List.mem_append.1 e with e|e
  ·exact i y e
  ·simp at e;omega,bJ⟩
def Sa(m:I)(b:List Ce)(p:dw):Prop:=∃a x y z,b=[.s a,.i p.aV,.i x,.i y,.s z]/\ap m a p.params
abbrev pd(m:I)(s:O)(l:List dw):Prop:=eH m 5 (Sa m) s l
def Sa.le{m b:I}(h:Le m b){a:List Ce}{p:dw}:Sa m a p->Sa b a p:=λ⟨c,x,y,z,d,e⟩=>⟨c,x,y,z,d,e.le h⟩
def pd.le{m b:I}(a:Le m b){s:O}{l:List dw}(h:pd m s l):pd b s l:=eH.le h a λ_ _=>Sa.le a
def pd.E{s:O}{l:List dw}(h:pd m s l){k:Nat}{p:dw}(d:l[k]? =some p):∃a,ap m a p.params/\af m s.F (s.off+k*5)=some (O.v a)/\af m s.F (s.off+k*5+1)=some (vi p.aV):=by
 obtain⟨e,⟨a,x,y,z,rfl,c⟩,b⟩:=h.iP k p d;exact⟨a,c,b 0 _ rfl,b 1 _ rfl⟩
def Z2(b:List bB)(a:List dw)(t y:Int):Prop:=∃(f:Nat)(q:dw),y=f/\a[f]? =some q/\0<q.params.length/\(0<t->∃d∈b,d.cons.length=0/\q.params.getLast?=some d.ug/\q.aV=d.to)
def xP(hS:∀g∈b,g<m.size){h:List bB}(hd:cx m d h)(ht:dP h)(r:pd m p a)(hf:a.length<=1000)(z:Int):kT 337 [.agg #[O.v d,O.v p],vi z] m b λc=>(∀y∈c,Z2 h a z y)/\c.length<=a.length:=by
 apply BR;simp -zeta only[aD,aC];intro e s;have B:J m e:=J.push _ _;have K:∀g∈[m.size],g<e.size:=by simp[e]
 have U:GI b e s (.mk e.size 0 0 0) []:=GI.nil b e;have x2:J e s:=J.push _ _;clear_value s;clear_value e;have ab:=r.len;refine dU (n:=a.length) (ab▸r.fS) (λo w M=>J e M/\∃c,GI b e M w c/\(∀y∈c,Z2 h a z y)/\c.length<=o) ⟨x2,[],U,D,ad _⟩ ?_;rintro o w M ae μ hk ⟨C,c,i,j,ah⟩ t
 have u:=B.trans C;refine⟨λI=>?_,λI=>⟨w,c,rfl,i.bY (λ_ H=>H) B.size,⟨j,V⟩,u⟩⟩;simp only[au]at I;obtain⟨v,N⟩:=ag (l:=a) (k:=o) V;obtain⟨E,q,F,S⟩:=r.E N;have af:=q.len;have ai:=q.fS;refine⟨V,V,_,u.af F,λW=>?_,λ_=>t V _ _ ⟨C,c,i,j,V⟩⟩;simp only[au]at W;rw[aQ (b:=(E.len:Int) -1) V V];obtain⟨y,P⟩:=ag (l:=v.params) (k:=((E.len:Int) -1).toNat) V;refine⟨V,V,_,u.af F,V,V,y,(q.ext u).E P,V,V,_,u.af S,?_⟩;refine(zX (hd.le u.le) ht y v.aV).aI C K λak m3 L Q A=>⟨_,rfl,λaa=>?_,λ_=>t V _ _ ⟨A,c,i.ext Q,j,V⟩⟩;intro m4;refine GI.kv (i.ext Q) (A.fz []) (λg f=>B.lt (hS g f)) V λal M' T G _ _=>⟨J.oC (A.aK _) G.ext K,t V _ _ ⟨G.ext,_,T,λac f=>?_,bJ⟩⟩;rcases List.mem_append.1 f with f|f
 ·exact j ac f
 ·simp at f aa;refine⟨o,v,f,N,V,λH=>?_⟩;rcases L with L|⟨aj,R,_,he,X,Y,Z⟩
  ·omega
  ·refine⟨R,ar he,X,?_,Z.symm⟩;rw[List.getLast?_eq_getElem?,Y,<-P];congr 1;omega
def pL{j:List bB}{v:List Int}(k:cx m d j)(l:dP j)(r:pd m p a)(q:a.length<=1000)(s:ap m c v)(t:Int):oJ 332 [.agg #[O.v d,O.v p],O.v c,vi t] m:=by
 apply DN;simp -zeta only[aD,aC];intro b;have g:J m b:=J.push _ _;have f:∀o∈[m.size],o<b.size:=by simp[b]
 clear_value b;refine(mR (k.le g.le) l t).any.aI (J.aB b) f λn y h _=>⟨_,rfl,λ_=>rA (g.trans h),λ_=>?_⟩;have e:=g.trans h;refine(xP (b:=[]) D (k.le e.le) l (pd.le e.le r) q t).aI h f λB x z _ _ i u=>⟨_,rfl,λ_=>rA (e.trans i),λ_=>?_⟩;exact(dp (s.ext (e.trans i)) t).any.aI u f λn A w _=>⟨_,rfl,rA ((e.trans i).trans w)⟩
end
def KK{a P:Nat}{p:O}{m:I}(h:Rd a p P m)(S:P+1<=10000000000000000){q w y:O}{i:List bB}{r:List dw}{N:List Int}(s:cx (bO [a] m) q i)(K:dP i)(H:pd (bO [a] m) w r)(C:r.length<=1000)(L:ap (bO [a] m) y N):
 aO cw 325 [vp a 0,.agg #[O.v q,O.v w],O.v y] m λx v=>∃k:Int,x=vi k/\(k=1\/0<=k/\k<=4/\k<=i.length)/\Rd a p (P+1) v/\Fz [a] m v:=by
 apply DL (a,0)
 simp -zeta only[aD,aC]
 intro b d
 have X:b.size=m.size+1:=by simp[b]
 have Q:J m b:=J.push _ _
 have z:J b d:=J.push _ _
 have A:J m d:=Q.trans z
 have U:=h.lt
 have u:∀c∈[m.size],c<d.size/\c∉[a]:=λc n=>by have:=z.size;simp at n⊢;omega
 have M:ap (bO [a] d) (.mk b.size 0 7 7) [1,1,3,0,2,4,3]:=ap.lit aE _ bJ rfl rfl D
 clear_value d
 have T:=s.len
 refine(kN (h.ext A) V M D).mono λx f⟨k,B,E,l,j⟩=>⟨j.dm u,k,B,?_⟩
 have e:Fz [a] m f:=(A.fz _).trans j
 have t:0<=k/\k<=4:=by simp at E;omega
 refine⟨λ_=>⟨1,rfl,Or.inl rfl,l,e⟩,λG=>?_⟩
 simp only[bH]at G
 have o:Le (bO [a] m) f:=(e.da λ_ h=>h).trans (bD _ _)
 have F:∀c∈[m.size],c<f.size:=λc n=>aP (u c n).1 j.size
 refine(pL (s.le o) K (pd.le o H) C (L.le o) k).aI (J.aB f) F λR W g _=>⟨_,rfl,λ_=>⟨1,rfl,Or.inl rfl,l.ext g,e.then g⟩,λ_=>⟨k,rfl,Or.inr ⟨t.1,t.2,V⟩,l.ext g,e.then g⟩⟩

section
variable{t:Int}{x:Ex}
def JT:List bB:=[⟨0,0,[[],[0,1]]⟩,⟨0,0,[]⟩,⟨0,0,[[],[3,0,3]]⟩]
def QW:List bB:=[⟨0,0,[[1,3]]⟩,⟨1,0,[]⟩,⟨0,0,[[1,1,0],[0],[3]]⟩,⟨0,1,[]⟩]
def rD:List (List bB):=JT::QW.map λd=>JT++[d]
def Ow:List (List Int×Int):=[([],0),([1],0),([1,1],1),([1],1),([1,0],1),([2,1],1),([1,1],0),([3],0),([0],1),([0,1],1),([3,0],3),([3],1),([1,3,0],0),([0],0),([0,0],0),([1,0],0)]
structure GP(ds:List bB)(fs:List dw):Prop where
 ds:ds∈rD
 iL:0<fs.length
 om:fs.length<=4
 dt:∀q∈fs,(q.params,q.aV)∈Ow
def Lo(t:Int):Prop:=t=0\/t=1\/t=3
instance(t:Int):Decidable (Lo t):=inferInstanceAs (Decidable (_\/_))
def Ty(a:List bB)(t:Int):Prop:=0<=t/\t<=(a.length:Int)
instance(a:List bB)(t:Int):Decidable (Ty a t):=inferInstanceAs (Decidable (_/\_))
section
variable{a:List bB}{b:List dw}
def pt:∀a∈rD,3<=a.length/\a.length<=4:=bh
def PN:∀a∈rD,∀t∈[(0:Int),1,2,3,4],∀c∈(cq a t).take 2,((cq a t).head?=some c\/t∉cD a c)->(cD a c).length<=3/\(∀f∈cD a c,Lo f)/\(Lo t->(cD a c).length=0):=bh
def QE:∀a∈rD,0<(cq a 1).length/\0<(cq a 3).length/\(cq a 0).length=0:=bh
def PL:∀a∈rD,∀d∈a,d.cons.length=0->∀s∈Ow,s.1.getLast?=some d.ug->s.2=d.to->∀f∈s.1.dropLast,Lo f:=bh
def Mo:∀a∈rD,cq a 1=[0,1]/\cq a 3=[2,3]/\cD a 0=[]/\cD a 1=[0,1]/\cD a 2=[]/\cD a 3=[3,0,3]:=bh
def zf:∀a∈rD,(∀t∈[(0:Int),1,2,3,4],∀c∈cq a t,(cD a c).length<=3/\∀f∈cD a c,Ty a f)/\(∀t∈[(0:Int),1,2,3,4],(cq a t).length<=3)/\(∀d∈a,Ty a d.ug):=bh
def PM:∀a∈rD,∀t∈[(1:Int),3,4],(t:Int)<=a.length->(∀d∈a[t.toNat -1]?,d.cons.length≠0)->0<(cq a t).length:=bh
def wE:∀s∈Ow,s.1.length<=3/\(∀t∈s.1,0<=t/\t<=3)/\0<=s.2/\s.2<=3:=bh
def Ua(a:0<=t)(b:t<=4):t∈[(0:Int),1,2,3,4]:=bJ
def Ty.Xv(b:a∈rD)(h:Ty a t):t∈[(0:Int),1,2,3,4]:=Ua h.1 (by have:=pt a b;have:=h.2;omega)
def GP.ty(h:GP a b)(c:0<=t)(d:t<=3):Ty a t:=⟨c,by have:=pt a h.ds;omega⟩
def Lo.ty(b:a∈rD)(h:Lo t):Ty a t:=by have:=pt a b;unfold Lo at h;constructor<;>omega
end
def Sc:∀a∈rD,∀d∈a,0<d.cons.length->d.cons.length<=3/\d.ug=0/\d.to=0/\∀f∈d.cons,f.length<=3/\∀t∈f,0<=t/\t<=(a.length:Int):=bh
def Sd:∀a∈rD,∀k∈List.range a.length,∀d∈a[k]?,d.cons.length=0->(∀e∈a.take k,¬(e.cons.length=0/\e.ug=d.ug/\e.to=d.to))/\Ty a d.ug/\Ty a d.to:=bh
def sN{a:List bB}(h:a∈rD):dP a:=
 ⟨(pt a h).2,λk d b=>⟨Sc a h d (ar b),Sd a h k (List.mem_range.2 (ax b)) d b⟩⟩
structure XF(ds:List bB)(nf a:Nat)(op bN:Int)(n:Nat):Prop where
 o:0<=op/\op<=13
 Tj:op=12->0<=bN/\bN<(a:Int)
 JA:op=13->n=2
 Yw:op=7->n=3
 all:op=8->n=1+(cq ds bN).length/\0<(cq ds bN).length
 call:op=9->0<=bN/\bN<(nf:Int)
def xb(b:List bB)(a bN:Int):Nat->Nat
 |0=>0
 |i+1=>if a=13 then 1 else Be b a bN i
inductive WX(ds:List bB)(nf:Nat):Nat->Ex->Prop
 |mk {a:Nat} {op bN:Int} {bE:List Ex} (eR:XF ds nf a op bN bE.length) (hk:∀(i:Nat)(e:Ex),bE[i]? =some e->WX ds nf (a+xb ds op bN i) e):WX ds nf a (.mk op bN bE)
section
variable{b:List bB}{c a:Nat}{d bN:Int}{bE:List Ex}
def WX.aW{e:Ex}(h:WX b c a e):XF b c a e.op e.bN e.bE.length/\∀(i:Nat)(x:Ex),e.bE[i]? =some x->WX b c (a+xb b e.op e.bN i) x:=by
 cases h with
 |mk eR d=>exact⟨eR,d⟩
def YA(a:d≠13)(c:d≠8)(i:Nat):xb b d bN i=0:=by
 cases i with
 |zero=>rfl
 |succ i=>show(if d=13 then 1 else Be b d bN i)=0;rw[ae a,JV c]
def WX.eR(k:0<=d/\d<=11)(g:d=7->bE.length=3)(f:d≠8)(i:d=9->0<=bN/\bN<(c:Int))(j:∀e∈bE,WX b c a e):WX b c a (.mk d bN bE):=
 .mk ⟨⟨V,V⟩,λh=>V,λh=>V,g,λh=>absurd h f,i⟩ λl e h=>by rw[YA V f];exact j e (ar h)
def WX.int(n:Int):WX b c a (.mk 0 n []):=.eR bh (λh=>V) bh (λh=>V) D
def WX.Tj(h:0<=bN/\bN<(a:Int)):WX b c a (.mk 12 bN []):=.mk ⟨bh,λ_=>h,λh=>V,λh=>V,λh=>V,λh=>V⟩ D
def WX.lt{y:Ex}(e:WX b c a x)(f:WX b c (a+1) y):WX b c a (.mk 13 0 [x,y]):=
 .mk ⟨bh,λh=>V,λ_=>rfl,λh=>V,λh=>V,λh=>V⟩ λi g d=>by
  rcases i with _|_|i
  ·simp at d;subst d;exact e
  ·simp at d;subst d;exact f
  ·simp at d
def WX.mt{g:List Ex}(m:WX b c a x)(o:g.length=(cq b bN).length)(n:0<g.length)(j:∀(i:Nat)(e:Ex)(f:Int),g[i]? =some e->(cq b bN)[i]? =some f->WX b c (a+(cD b f).length) e):WX b c a (.mk 8 bN (x::g)):=
 .mk ⟨bh,λh=>V,λh=>V,λh=>V,λ_=>⟨bJ,V⟩,λh=>V⟩ λi e d=>by
  rcases i with _|i
  ·simp at d;subst d;exact m
  ·simp at d;obtain⟨f,h⟩:=ag (l:=cq b bN) (k:=i) (by have:=ax d;omega);have:=j i e f d h;show WX b c (a+Be b 8 bN i) e;rw[JU rfl h];exact this
end
end
section
variable{X:List Nat}{b k c:Nat}{s:O}
structure GC(rb:Nat)(bs:O)(P:Nat)(d p:O)(ds:List bB)(fs:List dw)(m:I):Prop where
 rd:Rd rb bs P m
 hd:cx (bO [rb] m) d ds
 hp:pd (bO [rb] m) p fs
 gp:GP ds fs
def Lw(a:Nat)(L:List Nat)(m:I):Prop:=∀b∈L,b<m.size/\b≠a
def XP(S:List Nat)(b:Nat)(c:O)(m:I)(P:Nat)(Q:Ex->Prop)(v:Value)(a:I):Prop:=∃s e,v=.agg #[vi e.op,vi e.bN,O.v s]/\fw (bO S a) s e.bE/\Q e/\Rd b c P a/\Fz [b] m a
abbrev IR(a:Nat)(m:I)(s:O)(l:List Int):Prop:=ap (bO [a] m) s l
section
variable{e P i:Nat}{h d p:O}{l:List bB}{n:List dw}{m M g:I}{S L:List Nat}{f:Nat}{j:List Value}{Q Q':Ex->Prop}
def fh(f:Fz [e] m M):Le (bO [e] m) (bO [e] M):=f.da λ_ h=>h
def GC.to(a:GC e h P d p l n m)(f:Fz [e] m M)(r:Rd e h i M):GC e h i d p l n M:=⟨r,a.hd.le (fh f),pd.le (fh f) a.hp,a.gp⟩
def GC.ext(a:GC e h P d p l n m)(x:J m M):GC e h P d p l n M:=a.to (x.fz _) (a.rd.ext x)
def GC.types(a:GC e h P d p l n m):dP l:=sN a.gp.ds
def Lw.fz(h:Lw e L m)(f:Fz X m M):Lw e L M:=λb a=>⟨aP (h b a).1 f.size,(h b a).2⟩
def Lw.lt(h:Lw e L m)(f:Fz X m M):∀b∈L,b<M.size:=λb a=>(h.fz f b a).1
def Lw.dm(h:Lw e L m)(f:Fz [e] m M):eE L m M:=f.dm λb a=>⟨(h b a).1,by have:=(h b a).2;simpa using this⟩
def Lw.cp(h:Lw e L m)(f:Fz [e] m M)(c:Fz [e] M g)(a:b∈L)(o:Nat):af g b o=af M b o:=aN (c.same b (h.fz f b a).1 (by have:=(h b a).2;simpa using this)) o
def XP.mono{P i:Nat}(k:∀a,Q a->Q' a)(j:P<=i){v:Value}:XP S e h m P Q v M->XP S e h m i Q' v M:=λ⟨s,a,b,c,d,f,g⟩=>⟨s,a,b,c,k a d,f.mono j,g⟩
def XP.then{K:Value->I->Prop}(c:aO cw f j M (XP S e h M P Q))(m:Lw e L M)(n:∀s a g,fw (bO S g) s a.bE->Q a->Rd e h P g->Fz [e] M g->K (.agg #[vi a.op,vi a.bN,O.v s]) g):aO cw f j M λv g=>eE L M g/\K v g:=
 c.mono λv g⟨s,a,d,i,k,l,b⟩=>⟨m.dm b,d▸n s a g i k l b⟩
def Lw.th(h:Lw e L m)(f:Fz [e] m M)(a:Fz [e] m g):eE L M g:=λb c=>by
 have:=h b c;rw[f.same b this.1 (by simpa using this.2),a.same b this.1 (by simpa using this.2)]
def XP.ret{p:Nat}(q:aO cw f j M (XP (b::S) e h M P Q))(t:Lw e L M)(o:Fz [e] m M)(r:Rd e h p m)(n:m.size<=b)(v:∀a,Q a->Q' a)(u:P<=i):
 aO cw f j M λA g=>eE L M g/\∃c d:Int,∃k:O,A=.agg #[vi c,vi d,O.v k]/\XP S e h m i Q' (.agg #[vi c,vi d,O.v k]) (ai g b 0 [.i c,.i d,.s k]):=
 XP.then q t λs a g z y w l=>⟨_,_,_,rfl,s,a,rfl,fw.le (cz D λB x=>aj _ x) z,v a y,r.ai (w.mono u) (o.trans l) n 0 _,(o.trans l).ai (Or.inr n) _ _⟩
abbrev GE(S:List Nat)(a m:I)(s:O)(l:List Ex):Prop:=Gr S a m bK 3 Bd s l
def XP.kv{B:Nat}{i:I}{s:O}{n:List Ex}{K:O->I->Prop}(D:aO cw f j M (XP (s.F::S) e h M P Q))(t:GE S i M s n)(z:Fz [e] i M)(w:Lw e L i)(u:Rd e h B i)(G:e∈S)(l:n.length<=1000)
 (E:∀c r g,Q c->GE S i g r (n++[c])->Rd e h P g->Fz [e] i g->Fz [e,s.F] M g->(r.F=s.F\/M.size<=r.F)->K r g):
 aO cw f j M λN k=>eE L M k/\∃o p:Int,∃q:O,N=.agg #[vi o,vi p,O.v q]/\
  jE (k.push (.cells (bG [.i o,.i p,.s q]) bK)) bK [.i 0,.i 0,.s .nil] 40 s (O.mk k.size 0 1 1) λr g=>eE L (k.push (.cells (bG [.i o,.i p,.s q]) bK)) g/\K r g:=
 XP.then D (w.fz z) λU c k J F x d=>⟨_,_,_,rfl,by
  have T:=t.bg;have H:=u.lt;have v:=z.trans d;refine Gr.kv (g:=[.i 0,.i 0,.s .nil]) (k:=c) Bd.mono bh (t.dW Bd.mono d (by simp;exact⟨G,H⟩)) v (by cases c;exact Bd.of J) V λr g C m R A=>⟨w.th (v.push _) m,E c r g F C (u.NB x m (A e x.lt V)) m ⟨cg d.size R.1,λb y l=>?_⟩ (by have:=d.size;omega)⟩;simp only[aU,jS,Bc,tH]at l;rw[A b (aP y d.size) l.2,d.same b y (by simpa using l.1)]⟩
def Xx{b:I}(h:Fz [e,k] b M)(d:s.F=k\/b.size<=s.F)(a:Fz [e,s.F] M g):Fz [e,k] b g:=
 h.rS a λy c=>by simp at c⊢;omega
end
def mS{S:List Nat}{d P:Nat}{b:O}{m:I}{bE:List Ex}(j:Rd d b P m)(h:fw (bO S m) s bE)(a bN:Int):aO cw 311 [vi a,vi bN,O.v s] m (XP S d b m P (.mk a bN bE=·)):=
 (IF h a bN).mono λv l⟨k,e,f,g,i,c⟩=>⟨k,e,f,g,i,j.ext c,c.fz _⟩
def WC(b:List bB)(d:List dw)(c:Nat)(e:Ex):Prop:=(∀a,WX b d.length a e)/\e.n<=c
def V8(c k:Nat)(e:List bB)(f:List dw)(t:Int):Prop:=∀(S:List Nat)(a P:Nat)(b d p:O)(m:I),(∀g∈S,g<m.size)->a∈S->GC a b P d p e f m->P+k<=10000000000000000->
 aO cw 333 [vp a 0,.agg #[O.v d,O.v p],vi t] m (XP S a b m (P+k) (WC e f c))
def Q3{a:List bB}{b:List dw}{l:List Ex}{f i:Int}(m:f=6\/f=10)(h:∀e∈l,WC a b 1 e)(k:l.length+1<=c):WC a b c (.mk f i l):=
 ⟨λg=>.eR V (λh=>V) V (λh=>V) λe d=>(h e d).1 g,by
  rw[Ex.Rt];have:∀l:List Ex,(∀e∈l,WC a b 1 e)->en l<=l.length:=λl=>by
   induction l with
   |nil=>simp
   |cons x l j=>intro h;rw[Np,aY];have:=(h x D).2;have:=j λe d=>h e (by simp[d]);omega
  have:=this l h;omega⟩
def IE{d:List bB}{fs:List dw}{t:Int}(ht:Ty d t)(F:(Lo t/\c=1/\k=5)\/((∀a,Lo a->V8 1 5 d fs a)/\c=4/\k=20)):V8 c k d fs t:=by
 intro u f C K av aA ap hS ab a hP;apply Cx (f,0);simp -zeta only[aD,aC];intro o ac;obtain⟨x2,hl⟩:=dG (a:=o) (c:=ac) rfl rfl;have s1:o.size=ap.size+1:=by simp[o]
 clear_value ac;have hr:=a.rd.lt;have L2:Lw f [o.size,ap.size] ac:=λb N=>⟨hl b N,by simp at N;omega⟩;have aa:=a.types;have h5:=Ty.Xv a.gp.ds ht;have ai:∀e∈o.size::u,e<ac.size:=bR hS x2.size (hl _ D);have c2:=a.ext x2;refine(gU (e:=[f]) (by simp;exact c2.rd.lt) (c2.hd.le (bD _ _)) aa t).mono λB m3⟨cs,m,e,hc,q,H⟩=>⟨L2.dm (H.fz _),cs,e,?_⟩;subst q;have v:=c2.ext H;have Q:=L2.fz (H.fz []);have u3:=x2.trans H;have aP:=hc.len;refine dit (λh0=>?_) λh0=>?_
 ·obtain⟨y0,am⟩:=ag (l:=cq d t) (k:=0) V;have hh:(cq d t).head?=some y0:=by rw[List.head?_eq_getElem?];exact am
  have O:y0∈(cq d t).take 2:=List.mem_take_iff_getElem.2 ⟨0,V,by have:=List.getElem?_eq_some_iff.1 am;exact this.2⟩;have A0:∀{M:I},Fz [f] m3 M->af M cs.F (cs.off+Int.toNat 0*1)=some (vi y0):=λW=>(eg.1 ((hc.le (fh W)).E am)).2;refine⟨bh,V,y0,A0 (Fz.aB _ _),λa M=>a∈(cq d t).take 2/\Rd f K (C+1) M/\Fz [f] m3 M,⟨λL=>?_,λL=>⟨O,v.rd.mono V,Fz.aB _ _⟩⟩,?_⟩
  ·simp only[au]at L;obtain⟨p,i⟩:=ag (l:=cq d t) (k:=1) V;have r:p∈(cq d t).take 2:=List.mem_take_iff_getElem.2 ⟨1,V,by have:=List.getElem?_eq_some_iff.1 i;exact this.2⟩;refine(cB v.rd V 4).mono λB m4⟨G,e,_,_,j,g⟩=>⟨Q.dm g,G,e,λh=>⟨bh,V,p,(eg.1 ((hc.le (fh g)).E i)).2,r,j,g⟩,λh=>⟨O,j,g⟩⟩
  rintro c' w ⟨aF,x,i⟩;have U:=v.to i x;have R:=Q.fz i;refine⟨λa M=>a∈(cq d t).take 2/\((cq d t).head?=some a\/t∉cD d a)/\Rd f K (C+1) M/\Fz [f] m3 M,?_,?_⟩
  ·refine(dH (e:=[]) D (U.hd.le ((bD _ _).trans (zJ _))) aa c').mono λB m6⟨W,m,e,hf,q,z⟩=>⟨R.dm (z.fz _),W,e,?_⟩;subst q;refine(dp (hf.le (bD _ _)) t).mono λB p⟨b,e,N,g⟩=>⟨(R.fz (z.fz [])).dm (g.fz _),b,e,λay=>?_,λaj=>?_⟩
   ·have j:=(i.then z).then g;exact⟨bh,V,y0,A0 j,O,Or.inl hh,(x.ext z).ext g,j⟩
   ·exact⟨aF,Or.inr λj=>by rw[N.2 j]at aj;exact absurd aj bh,(x.ext z).ext g,(i.then z).then g⟩
  rintro T r ⟨L,h2,r8,f8⟩;obtain⟨z3,aH,zz⟩:=PN d a.gp.ds t h5 T L h2;have c8:=v.to f8 r8;have L8:=Q.fz f8;have F8:Fz [f] ap r:=(u3.fz _).trans f8;have z8:=f8.size;have aJ:=H.size;have z2:=x2.size;intro Y;have x9:J r Y:=J.push _ _;have g9:GE (o.size::u) r Y (.mk r.size 0 0 0) []:=Gr.new _ (ad _) _ _ _;have s9:Y.size=r.size+1:=by simp[Y]
  clear_value Y;have L9:=L8.fz (x9.fz []);refine(dH (e:=[f,r.size]) bJ (c8.hd.le (x9.bO D)) aa T).mono λB az⟨W,m,e,hf,q,ae⟩=>⟨L9.dm (ae.fz _),W,e,?_⟩;subst q;have aG:=hf.len;refine dU (n:=(cD d T).length) V (λj s M=>∃m,GE (o.size::u) r M s m/\m.length=j/\(∀e∈m,WC d fs 1 e)/\Rd f K (C+1+5*j) M/\Fz [f] r M/\Fz [f,r.size] az M/\(s.F=r.size\/az.size<=s.F)) ⟨[],g9.ext Bd.mono ae,rfl,D,(r8.ext x9).ext ae,((x9.trans ae).fz _),Fz.aB _ _,Or.inl rfl⟩ ?_;rintro j s M aB μ hj ⟨m,E,aI,X,Z,p,ah,hs⟩ aq
  have LM:=L8.fz p;refine dit (λh=>?_) λh=>?_
  ·rcases F with⟨al,_,_⟩|⟨ih,e1,e2⟩
   ·have:=zz al;omega
   obtain⟨y,A⟩:=ag (l:=cD d T) (k:=j) V;have an:=E.bg;refine⟨V,V,y,(eg.1 ((hf.le (ah.da λ_ h=>h)).E A)).2,?_⟩;exact XP.kv (ih y (aH y (ar A)) (s.F::o.size::u) f (C+1+5*j) K av aA M (bR (λe g=>by have:=ai e g;have:=p.size;have:=H.size;omega) (ad _) an.2) (by simp[ab]) (c8.to p Z) V) E p L8 r8 (by simp[ab]) V λe aO M' g g' r' f' aw aL=>
    aq V _ _ ⟨_,g',bJ,λe' ak=>by rcases List.mem_append.1 ak with h|h;exact X e' h;simp at h;subst h;exact g,r'.mono V,f',Xx ah hs aw,by have:=ah.size;omega⟩
  ·have aE:∀e∈o.size::u,e<r.size:=λe g=>by have:=ai e g;omega
   exact XP.ret (mS Z (E.done Bd.mono aE bh V) 6 T) LM (F8.trans p) a.rd V (λe g=>g▸Q3 (Or.inl rfl) X (by rcases F with⟨h,e,_⟩|⟨_,e,_⟩;have:=zz h;omega;omega)) (by rcases F with⟨h,_,e⟩|⟨_,_,e⟩;have:=zz h;omega;omega)
 ·refine(xP (b:=[f]) (by simp;exact v.rd.lt) (v.hd.le (bD _ _)) aa (pd.le (bD _ _) v.hp) (by have:=a.gp.om;omega) t).mono λB m4⟨W,m,e,gl,X,r⟩=>⟨Q.dm (r.fz _),W,e,?_⟩;have ah:IR f m4 W m:=GI.done gl (by simp;exact v.rd.lt) (by have:=X.2;have:=a.gp.om;omega);have aS:=ah.len;have c4:=v.ext r;have T:=Q.fz (r.fz []);have u4:=u3.trans r;have z4:=r.size;have z3:=H.size;refine⟨λb M=>(b=true->0<t/\0<W.len)/\M=m4,⟨λh=>⟨λY=>by simp only[au]at h Y;omega,rfl⟩,λh=>⟨D,rfl⟩⟩,?_⟩;rintro b _ ⟨N,rfl⟩;refine⟨λay=>?_,λaj=>?_⟩
  ·obtain⟨O,aR⟩:=N ay;refine(cB c4.rd V W.len).mono λB w⟨G,e,k0,k2,x,i⟩=>⟨T.dm i,G,e,k0,V,?_⟩;obtain⟨y,A⟩:=ag (l:=m) (k:=G.toNat) V;obtain⟨fi,q,rfl,Y,aV,aK⟩:=X.1 y (ar A);obtain⟨dd,aF,aE,aH,aM⟩:=aK O;have al:=PL d a.gp.ds dd aF aE _ (a.gp.dt q (ar Y)) aH aM;have aW:q.params.length<=3:=(wE _ (a.gp.dt q (ar Y))).1;have U:=c4.to i x;have R:=T.fz i;obtain⟨ps,am,e0,e1⟩:=U.hp.E Y;have aT:=am.len;have aG:=ax Y;have aU:=U.hp.len;refine⟨_,(eg.1 ((ah.le (fh i)).E A)).2,V,V,ps,(eg.1 e0).2,?_⟩;intro m6;have z:J w m6:=J.push _ _;have g6:GE (o.size::u) w m6 (.mk w.size 0 0 0) []:=Gr.new _ (ad _) _ _ _;clear_value m6;have z5:=i.size;have ae:∀e∈o.size::u,e<w.size:=λe g=>by have:=ai e g;omega
   have aX:¬Lo t\/(Lo t/\0<t):=by by_cases h:Lo t;exact Or.inr ⟨h,O⟩;exact Or.inl h
   have hd:=QE d a.gp.ds;rcases F with⟨aJ,_,_⟩|⟨ih,e2,e3⟩
   ·exfalso;rcases aJ with h|h|h
    ·omega
    ·subst h;omega
    ·subst h;omega
   refine dU (n:=q.params.length -1) V (λj s M=>∃m,GE (o.size::u) w M s m/\m.length=j/\(∀e∈m,WC d fs 1 e)/\Rd f K (C+1+5*j) M/\Fz [f] w M) ⟨[],g6,rfl,D,x.ext z,z.fz _⟩ ?_;rintro j s M aB μ hj ⟨l',E,aI,az,Z,p⟩ aq
   have ew:cW ((j:Int)+1)=j+1:=aQ V V;refine⟨λh=>?_,λh=>?_⟩
   ·simp only[ew,au]at h;obtain⟨y,A⟩:=ag (l:=q.params) (k:=j) V;have an:=E.bg;have aN:y∈q.params.dropLast:=List.mem_iff_getElem?.2 ⟨j,by rw[List.getElem?_dropLast,ao V];exact A⟩;refine⟨V,V,y,(eg.1 ((am.le (fh p)).E A)).2,?_⟩;exact XP.kv (ih y (al y aN) (s.F::o.size::u) f (C+1+5*j) K av aA M (bR (λe g=>by have:=ae e g;have:=p.size;omega) (ad _) an.2) (by simp[ab]) (U.to p Z) V) E p R x (by simp[ab]) V λe aO M' g g' r' f' aw aL=>
     aq V _ _ ⟨_,g',bJ,λe' ak=>by rcases List.mem_append.1 ak with h|h;exact az e' h;simp at h;subst h;exact g,r'.mono V,f'⟩
   ·simp only[ew,bH]at h;exact XP.ret (mS Z (E.done Bd.mono ae bh V) 10 _) (R.fz p) (((u4.fz _).trans i).trans p) a.rd V (λe g=>g▸Q3 (Or.inr rfl) az V) V
  ·refine(AM c4.rd (by rcases F with⟨_,_,e⟩|⟨_,_,e⟩<;>omega)).mono λB w⟨G,e,x,i⟩=>⟨T.dm i,G,e,?_⟩;exact XP.ret (P:=C+4) ((Ao (o.size::u) G w).mono λB y⟨p,e,L,h2,j,h⟩=>⟨p,e,L,h2,j,x.ext h,h.fz _⟩) (T.fz i) ((u4.fz _).trans i) a.rd V (λe g=>g▸⟨λh=>.int _,by rw[Ex.Rt];rcases F with⟨_,e,_⟩|⟨_,e,_⟩<;>simp[e]⟩) (by rcases F with⟨_,_,e⟩|⟨_,_,e⟩<;>omega)
end
section
variable{a:Nat}{t:Int}
def _root_.Go.Vc.P3{σ:Type}(p:a<=9223372036854775807)(f:1<=a){m:I}{j:σ}{h:(σ->Int->I->Prop)->(σ->Int->I->Nat)->σ->Int->I->Prop}(Q:Nat->σ->I->Prop)(n:Q 1 j m)
 (l:∀(k:Nat)(s:σ)(b:I)(c:σ->Int->I->Prop)(μ:σ->Int->I->Nat),1<=k->k<=a->Q k s b->
  (k<a->∀e d,Q (k+1) e d->c e (cW ((k:Int)+1)) d/\μ e (cW ((k:Int)+1)) d<μ s k b)->h c μ s k b):
 ∃(c:σ->Int->I->Prop)(μ:σ->Int->I->Nat),c j 1 m/\∀s i b,c s i b->h c μ s i b:=by
 refine⟨λs i d=>∃k:Nat,i=k/\1<=k/\k<=a/\Q k s d,λ_ i _=>(a -i).toNat,⟨1,rfl,ad _,f,n⟩,?_⟩
 rintro s i b ⟨k,rfl,f,o,q⟩
 refine l k s b _ _ f o q λg e d r=>?_
 rw[ka g p]
 exact⟨⟨k+1,rfl,V,g,r⟩,Fp g⟩
def _root_.Go.Vc.Xw(n:a<=9223372036854775807)(e:1<=a){m:I}{g:(Int->I->Prop)->(Int->I->Nat)->Int->I->Prop}(Q:Nat->I->Prop)(j:Q 1 m)
 (h:∀(k:Nat)(b:I)(c:Int->I->Prop)(μ:Int->I->Nat),1<=k->k<=a->Q k b->
  (k<a->∀d,Q (k+1) d->c (cW ((k:Int)+1)) d/\μ (cW ((k:Int)+1)) d<μ k b)->g c μ k b):
 ∃(c:Int->I->Prop)(μ:Int->I->Nat),c 1 m/\∀i b,c i b->g c μ i b:=by
 refine⟨λi d=>∃k:Nat,i=k/\1<=k/\k<=a/\Q k d,λi _=>(a -i).toNat,⟨1,rfl,ad _,e,j⟩,?_⟩
 rintro i b ⟨k,rfl,e,l,o⟩
 refine h k b _ _ e l o λf d p=>?_
 rw[ka f n]
 exact⟨⟨k+1,rfl,V,f,p⟩,Fp f⟩
def Jv{a:List bB}{b:List dw}(c:a∈rD)(d:Ty a t):V8 4 20 a b t:=IE d (Or.inr ⟨λ_ h=>IE (h.ty c) (Or.inl ⟨h,rfl,rfl⟩),rfl,rfl⟩)
def JM.x{f:Nat}{a:List Value}{S:List Nat}{d P:Nat}{b:O}{m:I}{Q:Ex->Prop}(h:JM f a m S Q)(k:Rd d b P m):aO cw f a m (XP S d b m P Q):=
 h.mono λv n⟨l,e,g,i,j,c⟩=>⟨l,e,g,i,j,k.ext c,c.fz _⟩
section
variable{f:List Nat}{c P:Nat}{h d p j:O}{g:List bB}{e:List dw}{b:I}{i:List Int}
def rl(hS:∀r∈f,r<b.size)(aj:c∈f)(r:GC c h P d p g e b)(hP:P+22<=10000000000000000)(hv:IR c b j i)(an:i.length<=1000)(ht:Ty g t):
 aO cw 314 [vp c 0,.agg #[O.v d,O.v p],O.v j,vi t] b (XP f c h b (P+22) λa=>WX g e.length i.length a/\a.n<=4):=by
 apply Jj (c,0)
 simp -zeta only[aD,aC]
 intro n A
 obtain⟨C,hl⟩:=dG (a:=n) (c:=A) rfl rfl
 have s1:n.size=b.size+1:=by simp[n]
 clear_value A
 have hr:=r.rd.lt
 have L2:Lw c [n.size,b.size] A:=λU hb=>⟨hl U hb,by simp at hb;omega⟩
 have ah:∀a∈n.size::f,a<A.size:=bR hS C.size (hl _ D)
 have z2:=C.size
 refine(Gg (b:=[c]) (m:=A) bJ ((hv.le (bD _ _)).ext C) V t).mono λ_ Y⟨u,ad,a,gl,al,E⟩=>⟨L2.dm (E.fz _),u,a,?_⟩
 have ab:IR c Y u ad:=GI.done gl bJ V
 have H:=(r.ext C).ext E
 have G:=L2.fz (E.fz [])
 have F:Fz [c] b Y:=(C.trans E).fz _
 have ao:=ab.len
 have z3:=E.size
 have lE:∀{Q:Nat}{M:I},GC c h Q d p g e M->Fz [c] b M->A.size<=M.size->Lw c [n.size,b.size] M->Q<=P+2->aO cw 333 [vp c 0,.agg #[O.v d,O.v p],vi t] M λZ q=>eE [n.size,b.size] M q/\∃w x:Int,∃y:O,Z=.agg #[vi w,vi x,O.v y]/\XP f c h b (P+22) (λa=>WX g e.length i.length a/\a.n<=4) (.agg #[vi w,vi x,O.v y]) (ai q n.size 0 [.i w,.i x,.s y]):=λW X h1 N hq=>
  XP.ret (Jv r.gp.ds ht (n.size::f) c _ h d p _ (λa o=>by have:=ah a o;omega) (by simp[aj]) W V) N X r.rd V (λa o=>⟨o.1 _,o.2⟩) V
 have Tj:∀{Q:Nat}{M:I},GC c h Q d p g e M->Fz [c] b M->Fz [c] Y M->Lw c [n.size,b.size] M->Q<=P+2->0<u.len->aO cw 81 [vp c 0,vi (u.len:Int)] M λam q=>eE [n.size,b.size] M q/\∃R:Int,am=vi R/\(0:Int)<=R/\R<(u.len:Int)/\∃ae:Int,af q u.F (u.off+Int.toNat R*1)=some (vi ae)/\
  aO cw 313 [vi ae] q λZ M2=>eE [n.size,b.size] q M2/\∃w x:Int,∃y:O,Z=.agg #[vi w,vi x,O.v y]/\XP f c h b (P+22) (λa=>WX g e.length i.length a/\a.n<=4) (.agg #[vi w,vi x,O.v y]) (ai M2 n.size 0 [.i w,.i x,.s y]):=λW X f3 N hq h0=>
  (cB W.rd V u.len).mono λ_ q⟨ac,a,k0,k1,r',L⟩=>by
   obtain⟨aa,hy⟩:=ag (l:=ad) (k:=ac.toNat) V;have ak:=al.1 aa (ar hy);exact⟨N.dm L,ac,a,k0,V,aa,(eg.1 ((ab.le (fh (f3.trans L))).E hy)).2,XP.ret ((me (n.size::f) aa q).x r') (N.fz L) (X.trans L) r.rd V (λa o=>o▸⟨.Tj ak,by rw[Ex.Rt];simp⟩) V⟩
 refine⟨λz=>?_,λz=>lE H F z3 G V⟩
 simp only[au]at z
 refine(cB H.rd V 6).mono λ_ m4⟨k1,a,_,_,r4,o⟩=>⟨G.dm o,k1,a,λz=>Tj (H.to o r4) (F.trans o) o (G.fz o) V V,λz=>?_⟩
 intro m5
 have B:J m4 m5:=J.push _ _
 have c4:=H.to o r4
 have K:=c4.ext B
 have T:=(G.fz o).fz (B.fz [])
 refine(pL (v:=[]) (K.hd.le (bD _ _)) r.types (pd.le (bD _ _) K.hp) (by have:=r.gp.om;omega) (my _ _ _ _ _ _) t).mono λ_ m6⟨U,a,s⟩=>⟨T.dm (s.fz _),U,a,λz=>?_,λz=>?_⟩
 ·exact Tj (K.ext s) ((F.trans o).then (B.trans s)) (o.then (B.trans s)) (T.fz (s.fz [])) V V
 ·exact lE (K.ext s) ((F.trans o).then (B.trans s)) (by have:=o.size;have:=B.size;have:=s.size;omega) (T.fz (s.fz [])) V
def IZ(hS:∀r∈f,r<b.size)(hd:cx b d g)(ht:dP g)(F:pd b p e)(hf:e.length<=1000)(h1:1<=e.length)(t:Int):kT 328 [.agg #[O.v d,O.v p],vi t] b f λh=>(∀y∈h,∃(s:Nat)(q:dw),y=s/\e[s]? =some q)/\h.length<=e.length:=by
 apply BQ;simp -zeta only[aD,aC];intro a I;have Q:J b a:=J.push _ _;have C:∀r∈[b.size],r<a.size:=by simp[a]
 have Z:GI f a I (.mk a.size 0 0 0) []:=GI.nil f a;have x2:J a I:=J.push _ _;clear_value I;clear_value a;have aj:=F.len;refine P3 (a:=e.length) V h1 (λx N M=>J a M/\∃h,GI f a M N h/\(∀y∈h,∃(s:Nat)(q:dw),y=s/\e[s]? =some q)/\h.length<=x) ⟨x2,[],Z,D,D⟩ ?_;rintro x N M ad μ ah hk ⟨o,h,A,H,ai⟩ X
 have P:=Q.trans o;refine⟨λT=>?_,λT=>⟨N,h,rfl,A.bY (λ_ i=>i) Q.size,⟨H,V⟩,P⟩⟩;simp only[au]at T;obtain⟨q,U⟩:=ag (l:=e) (k:=x) V;obtain⟨ae,B,z,Y⟩:=F.E U;have aa:=B.len;refine⟨V,V,_,P.af Y,?_⟩;refine dU (n:=q.params.length) (aa▸B.fS) (λ_ _ R=>J M R) (J.aB _) ?_;rintro ab ok u I2 μ2 hj c W;have m:=P.trans c;refine⟨V,V,_,m.af z,λi=>⟨λ_=>?_,λ_=>W (by simp only[au]at i;omega) _ _ c⟩,λi=>⟨λ_=>?_,λ_=>X V _ _ ⟨o.trans c,h,A.ext c,H,V⟩⟩⟩
 ·simp only[au]at i;obtain⟨y,hy⟩:=ag (l:=q.params) (k:=ab) V;have S:=(B.ext m).E hy;refine⟨V,V,_,m.af z,V,V,y,S,?_⟩;intro K;have j:J u K:=J.push _ _;have G:∀{w L:Nat}{ac:Value},af u w L=some ac->af K w L=af u w L:=λi=>by rw[j.af i,i]
  have E:b.size<u.size:=aP (C _ D) (o.trans c).size;refine⟨G S,G (m.af z),aN (j.same _ E) _,aN (j.same _ E) _,aN (j.same _ E) _,?_⟩;exact(pL (v:=[]) (hd.le (m.trans j).le) ht (pd.le (m.trans j).le F) hf (my _ _ _ _ _ _) y).aI ((o.trans c).trans j) C λw m5 x5 _=>⟨_,rfl,W V _ _ ((c.trans j).trans x5)⟩
 ·intro K;refine GI.kv (A.ext c) ((o.trans c).fz []) (λr j=>Q.lt (hS r j)) V λS R E w _ _=>⟨J.oC ((o.trans c).aK _) w.ext C,X V _ _ ⟨w.ext,_,E,λL j=>?_,bJ⟩⟩;rcases List.mem_append.1 j with j|j
  ·exact H L j
  ·simp at j;exact⟨x,q,j,U⟩
end
end
section
variable{f c:Int}{g:O}{e:List Int}
def Cg(c:Int):Nat:=30*4^c.toNat
def tZ(h:f<=c):Cg f<=Cg c:=Nat.mul_le_mul_left _ (Nat.pow_le_pow_right bh V)
def PH(c:Int):30<=Cg c:=Nat.le_mul_of_pos_right _ (Nat.pow_pos bh)
def QA(a:0<=f)(h:f+1<=c):4*Cg f<=Cg c:=by
 refine cg (yY ?_) (tZ h);unfold Cg;rw[show(f+1).toNat=f.toNat+1 by omega,Nat.pow_succ];omega
def JL(b:List bB)(g:List dw)(c:Int):Prop:=∀(S:List Nat)(a P:Nat)(d e p h:O)(m:I)(v:List Int)(t:Int),(∀f∈S,f<m.size)->a∈S->GC a d P e p b g m->P+Cg c<=10000000000000000->IR a m h v->v.length+3*c.toNat<=1000->Ty b t->
 aO cw 310 [vp a 0,.agg #[O.v e,O.v p],O.v h,vi t,vi c] m (XP S a d m (P+Cg c) λf=>WX b g.length v.length f/\(c<=2->f.n<=4))
def XL(S:List Nat)(b:Nat)(c:O)(m:I)(P:Nat)(Q:List Ex->Prop)(v:Value)(a:I):Prop:=∃s l,v=O.v s/\fw (bO S a) s l/\Q l/\Rd b c P a/\Fz [b] m a
def J8{S:List Nat}{M:I}(i:∀c∈S,c<M.size)(p:Nat):∀(l:List (Ex×O))(_:l.length<=1000)(_:∀x∈l,fw (bO S M) x.2 x.1.bE){a:List Ce}{n:Nat},a=l.flatMap (λx=>[.i x.1.op,.i x.1.bN,.s x.2])->n=l.length->
 GE S M (M.push (.cells (bG a) bK)) (.mk M.size 0 n n) (l.map (·.1)):=by
 intro l q h a n j k
 refine Gr.lit (f:=l.map λx=>[.i x.1.op,.i x.1.bN,.s x.2]) Bd.mono (ad _) i (by rw[j,List.flatMap_def]) (by simp[k]) ⟨D,λc d=>?_,λr c o f e=>?_⟩
 ·simp at d;obtain⟨_,_,_,rfl⟩:=d;rfl
 ·simp only[cQ,jv]at f e
  obtain⟨x,g,rfl⟩:=f
  obtain⟨y,b,rfl⟩:=e
  rw[g]at b;simp at b;subst b
  have:=h x (ar g)
  cases m:x.1 with
  |mk t n s=>rw[m]at this;exact Bd.of this
section
variable{j L:List Nat}{h P:Nat}{o d p r:O}{i:List bB}{q:List dw}{m:I}{v:List Int}
def Ma(B:0<=c)(ih:∀a,0<=a->a<=c->JL i q a)(K:∀u∈j,u<m.size)(N:h∈j)(u:GC h o P d p i q m)(hP:P+3*Cg c<=10000000000000000)(hv:IR h m r v)(ak:v.length+3*c.toNat<=1000)(ah:c<=1000)(Q:IR h m g e)(h3:e.length<=3)(ac:∀y∈e,Ty i y):
 aO cw 326 [vp h 0,.agg #[O.v d,O.v p],O.v r,O.v g,vi c] m (XL j h o m (P+3*Cg c) λb=>b.length=e.length/\∀f∈b,WX i q.length v.length f):=by
 apply FK (h,0)
 simp -zeta only[aD,aC]
 intro a E
 have F:J m a:=J.push _ _
 have hr:=u.rd.lt
 have U:Lw h [m.size] a:=by intro c B;simp[a]at B⊢;omega
 have g0:GE j a E (.mk a.size 0 0 0) []:=Gr.new _ (ad _) _ _ _
 have T:J a E:=J.push _ _
 clear_value E
 clear_value a
 have G:=u.ext F
 have aj:=Q.len
 refine dU (n:=e.length) V (λt z M=>∃b,GE j a M z b/\b.length=t/\(∀f∈b,WX i q.length v.length f)/\Rd h o (P+t*Cg c) M/\Fz [h] a M) ⟨[],g0,rfl,D,by simpa using G.rd.ext T,T.fz _⟩ ?_
 rintro t z M af μ hk ⟨b,A,ai,L,S,I⟩ ae
 have w:=(F.fz [h]).trans I
 refine dit (λs=>?_) λs=>?_
 ·obtain⟨y,R⟩:=ag (l:=e) (k:=t) V
  obtain⟨W,H⟩:=MT (d:=(g.len:Int)) B V
  rw[aQ (b:=Int.tdiv c _) V V]
  have hy:=A.bg
  have hm:=tZ H
  have ab:t*Cg c+Cg c<=3*Cg c:=by rw[<-pU];exact db _ V
  refine⟨V,V,y,(eg.1 ((Q.le (fh w)).E R)).2,V,?_⟩
  exact XP.kv (ih _ W H (z.F::j) h _ o d p r M v y (bR K w.size hy.2) (by simp[N]) (u.to w S) V (hv.le (fh w)) V (ac y (ar R))) A I U G.rd N V λf al M' C Z r' Y _ _=>
   ae V _ _ ⟨_,Z,bJ,λX aa=>by rcases List.mem_append.1 aa with s|s;exact L X s;simp at s;subst s;exact C.1,r'.mono (by rw[pU];omega),Y⟩
 ·have ab:t*Cg c<=3*Cg c:=db _ V
  exact⟨z,b,rfl,A.done Bd.mono (λf C=>F.lt (K f C)) bh V,⟨V,L⟩,S.mono V,w⟩
def zg{f E B:Nat}{k:I}{Q:Ex->Prop}{u bN:Int}(T:0<=c)(ih:∀a,0<=a->a<=c->JL i q a)(R:∀n∈f::j,n<m.size)(Y:h∈j)(n:GC h o P d p i q m)(K:P+3*Cg c<=10000000000000000)(hv:IR h m r v)(ab:v.length+3*c.toNat<=1000)(U:c<=1000)(Z:IR h m g e)(H:e.length<=3)(aa:∀t∈e,Ty i t)
 (D:Lw h L m)(W:Fz [h] k m)(F:Rd h o E k)(X:k.size<=f)(N:∀l,l.length=e.length->(∀b∈l,WX i q.length v.length b)->Q (.mk u bN l))(M:P+3*Cg c<=B):
 aO cw 326 [vp h 0,.agg #[O.v d,O.v p],O.v r,O.v g,vi c] m λw a=>eE L m a/\∃s:O,w=O.v s/\
  aO cw 311 [vi u,vi bN,O.v s] a λw A=>eE L a A/\∃x y:Int,∃z:O,w=.agg #[vi x,vi y,O.v z]/\XP j h o k B Q (.agg #[vi x,vi y,O.v z]) (ai A f 0 [.i x,.i y,.s z]):=
 (Ma (j:=f::j) T ih R (by simp[Y]) n K hv ab U Z H aa).mono λ_ a⟨s,l,b,G,C,J,t⟩=>⟨D.dm t,s,b,XP.ret (mS J G u bN) (D.fz t) (W.trans t) F X (λb V=>V▸N l C.1 C.2) M⟩
def I9(N:3<=c/\c<=100)(ih:∀e,0<=e->e<=c -1->JL i q e)(hS:∀t∈j,t<m.size)(ah:h∈j)(t:GC h o P d p i q m)(hP:P+23+3*Cg (c -1)<=10000000000000000)(hv:IR h m r v)(aU:v.length+3*c.toNat<=1000){am:Int}(ht:Ty i am):
 aO cw 327 [vp h 0,.agg #[O.v d,O.v p],O.v r,vi am,vi c] m (XP j h o m (P+23+3*Cg (c -1)) (WX i q.length v.length)):=by
 apply Cc (h,0)
 simp -zeta only[aD,aC]
 intro s H m3
 obtain⟨X,hl⟩:=dG (a:=s) (c:=H) rfl rfl
 have s1:s.size=m.size+1:=by simp[s]
 have Y:J H m3:=J.push _ _
 have hr:=t.rd.lt
 have z2:=X.size
 have aF:ap (bO [h] m3) (.mk H.size 0 4 4) [1,1,3,4]:=ap.lit aE _ bJ rfl rfl D
 clear_value m3
 clear_value H
 have L2:Lw h [s.size,m.size] H:=λc N=>⟨hl c N,by simp at N;omega⟩
 have az:∀e∈s.size::j,e<H.size:=bR hS X.size (hl _ D)
 have c3:=(t.ext X).ext Y
 have L3:=L2.fz (Y.fz [])
 have Z:=t.types
 refine(kN c3.rd V aF D).mono λ_ m4⟨W,e,hk,r4,K⟩=>⟨L3.dm K,W,e,?_⟩
 have c4:=c3.to K r4
 have L4:=L3.fz K
 have aM:=c4.hd.len
 have dl:=pt i t.gp.ds
 have af:W∈[(1:Int),3,4]:=by simp at hk⊢;omega
 have kK:0<(cq i 1).length:=(QE i t.gp.ds).1
 refine⟨λg M=>g∈[(1:Int),3,4]/\g<=i.length/\0<(cq i g).length/\J m4 M,⟨λ_=>⟨bh,V,kK,J.aB _⟩,λab=>?_⟩,?_⟩
 ·simp only[bH]at ab
  refine(mR (c4.hd.le (bD _ _)) Z W).mono λ_ m5⟨c,e,N,y⟩=>⟨L4.dm (y.fz _),c,e,λ_=>⟨bh,V,kK,y⟩,λf=>⟨af,V,PM i t.gp.ds W af V λaj T u=>?_,y⟩⟩
  rw[N.2 ⟨aj,by simp at af;omega,T,u⟩]at f;exact absurd f bh
 rintro g m5 ⟨ao,aA,aJ,y⟩
 have c5:=c4.ext y
 have L5:=L4.fz (y.fz [])
 have F5:Fz [h] m m5:=(((X.trans Y).fz _).trans K).then y
 have k5:g∈[(0:Int),1,2,3,4]:=by simp at ao⊢;omega
 have hf:=zf i t.gp.ds
 have aK:=hf.2.1 g k5
 refine(gU (e:=[h]) (by simp;exact c5.rd.lt) (c5.hd.le (bD _ _)) Z g).mono λ_ m6⟨cs,w,e,hc,aj,R⟩=>⟨L5.dm (R.fz _),cs,e,?_⟩
 subst aj
 have c6:=c5.ext R
 have L6:=L5.fz (R.fz [])
 have F6:=F5.then R
 have aL:=hc.len
 have z3:=Y.size;have z4:=K.size;have z5:=y.size;have z6:=R.size
 have an:∀e∈s.size::j,e<m6.size:=λe u=>by have:=az e u;omega
 refine XP.then (rl (f:=s.size::j) an (by simp[ah]) c6 V (hv.le (fh F6)) V ⟨by simp at ao;omega,aA⟩) L6 λs0 e0 I h7 q7 r7 L=>⟨_,_,_,rfl,?_⟩
 intro m8
 have x8:J I m8:=J.push _ _
 have z7:=L.size
 have ac:∀e∈s.size::j,e<I.size:=λe u=>by have:=an e u;omega
 have g8:GE (s.size::j) I m8 (.mk I.size 0 1 1) [e0]:=J8 ac 0 [(e0,s0)] D (by simpa using h7) rfl rfl
 clear_value m8
 have c7:=c6.to L r7
 have L7:=L6.fz L
 have F7:=F6.trans L
 refine dU (n:=(cq i g).length) V (λC ak M=>∃w,GE (s.size::j) I M ak (e0::w)/\w.length=C/\(∀(B:Nat)(e:Ex)(F:Int),w[B]? =some e->(cq i g)[B]? =some F->WX i q.length (v.length+(cD i F).length) e)/\Rd h o (P+23+C*Cg (c -1)) M/\Fz [h] I M) ⟨[],g8,rfl,D,by simpa using(r7.ext x8).mono V,x8.fz _⟩ ?_
 rintro C ak M aI μ hj ⟨w,aa,aT,T,Q,G⟩ aH
 have z:=L7.fz G
 have aR:C*Cg (c -1)<=3*Cg (c -1):=db _ V
 refine dit (λab=>?_) λab=>?_
 ·obtain⟨F,hy⟩:=ag (l:=cq i g) (k:=C) V
  obtain⟨aN,aP⟩:=hf.1 g k5 F (ar hy)
  have aV:=aa.bg
  have cM:=c7.to G Q
  refine⟨V,V,F,(eg.1 ((hc.le (fh (L.trans G))).E hy)).2,V,?_⟩
  refine(dH (e:=[h]) (by simp;exact Q.lt) cM.hd Z F).mono λ_ m9⟨f9,l9,e,h9,q9,f⟩=>⟨z.dm (f.fz _),f9,e,z.cp (Fz.aB _ _) (f.fz _) D _,z.cp (Fz.aB _ _) (f.fz _) D _,?_⟩
  subst q9
  have F9:=(F7.trans G).then f
  refine(eG (S:=[h]) (by simp;exact(Q.ext f).lt) (hv.le (fh F9)) h9 V).mono λ_ aq⟨al,ai,e,av,au,E⟩=>⟨(z.fz (f.fz [])).dm (E.fz _),al,e,z.cp (f.fz _) (E.fz _) D _,z.cp (f.fz _) (E.fz _) D _,?_⟩
  have ay:IR h aq al ai:=GI.done av (by simp;exact(Q.ext f).lt) (by rw[<-au];simp;omega)
  obtain⟨d0,d1⟩:=MT (f:=c -2) (d:=(cs.len:Int)) V V
  rw[aQ (b:=c -2) V V,aQ (b:=Int.tdiv _ _) V V]
  have hm:=tZ (f:=Int.tdiv (c -2) cs.len) (c:=c -1) V
  have aS:C*Cg (c -1)+Cg (c -1)<=3*Cg (c -1):=by rw[<-pU];exact db _ V
  have fT:=(G.then f).then E
  have aB:ai.length=v.length+(cD i F).length:=by rw[<-au];simp
  refine XP.kv (ih _ d0 V (ak.F::s.size::j) h _ o d p al aq ai am (bR (λe u=>by have:=ac e u;have:=fT.size;omega) (ad _) (by have:=f.size;have:=E.size;omega)) (by simp[ah]) ((cM.ext f).ext E) V ay V ht) ((aa.ext Bd.mono f).ext Bd.mono E) fT L7 r7 (by simp[ah]) bJ λe aW M' u g' r' f' _ _=>
   aH V _ _ ⟨w++[e],g',bJ,λB e' y' A U=>?_,r'.mono (by rw[pU];omega),f'⟩
  rcases be B w.length with ae|ae
  ·rw[aw ae]at A;exact T B e' y' A U
  ·rw[aG ae]at A
   have:B -w.length=0:=by have:=ax A;simp at this;omega
   rw[this]at A;simp at A;subst A
   have:B=C:=V
   subst this
   rw[hy]at U;simp at U;subst U
   rw[<-aB];exact u.1
 ·exact XP.ret (mS Q (aa.done Bd.mono ac bh bJ) 8 g) z (F7.trans G) t.rd V (λe u=>u▸.mt q7.1 V V T) V
end
end
section
section
variable{e L:List Nat}{c P:Nat}{g d p i:O}{f:List bB}{h:List dw}{m:I}{v:List Int}
def Ja{r:Int}(hb:3<=r/\r<=100)(ih:∀j,0<=j->j<=r -1->JL f h j)(hS:∀s∈e,s<m.size)(W:c∈e)(s:GC c g P d p f h m)(hP:P+24+3*Cg (r -1)<=10000000000000000)(X:IR c m i v)(aI:v.length+3*r.toNat<=1000){ac:Int}(ht:Ty f ac):
 aO cw 329 [vp c 0,.agg #[O.v d,O.v p],O.v i,vi ac,vi r] m (XP e c g m (P+24+3*Cg (r -1)) (WX f h.length v.length)):=by
 apply Cd (c,0)
 simp -zeta only[aD,aC]
 intro z ab
 obtain⟨Z,T⟩:=dG (a:=z) (c:=ab) rfl rfl
 have s1:z.size=m.size+1:=by simp[z]
 clear_value ab
 have hr:=s.rd.lt
 have z2:=Z.size
 have L2:Lw c [z.size,m.size] ab:=λr hb=>⟨T r hb,by simp at hb;omega⟩
 have av:∀j∈z.size::e,j<ab.size:=bR hS Z.size (T _ D)
 have c2:=s.ext Z
 have ae:=s.types
 have aH:=s.hd.len
 have dl:=pt f s.gp.ds
 have ax:cW (r -2)=r -2:=aQ V V
 have am:cW (r -1)=r -1:=aQ V V
 have om:=s.gp.om
 have aA:v.length+3*(r -2).toNat<=1000:=V
 have hm:=tZ (f:=r -2) (c:=r -1) V
 have aF:P+24+Cg (r -2)<=10000000000000000:=V
 refine⟨λM=>Rd c g (P+1) M/\Fz [c] ab M,?_,?_⟩
 ·refine(cB c2.rd V 4).mono λ_ m3⟨A,j,_,_,r3,f3⟩=>⟨L2.dm f3,A,j,λ_=>?_,λ_=>⟨r3,f3⟩⟩
  refine Xw (a:=f.length+1) V V (λ_ M=>Rd c g (P+1) M/\Fz [c] ab M) ⟨r3,f3⟩ ?_
  rintro aa M aw μ ay ha ⟨U,L⟩ af
  have R:=c2.to L U
  have LM:=L2.fz L
  refine⟨λu=>?_,λu=>⟨U,L⟩⟩
  simp only[au]at u
  have ea:cW ((aa:Int) -1)=aa -1:=aQ V V
  rw[ea]
  refine(mR (R.hd.le (bD _ _)) ae aa).mono λ_ N⟨b4,j,aq,Q⟩=>⟨LM.dm (Q.fz _),b4,j,λh1=>?_,λ_=>af V _ ⟨U.ext Q,L.then Q⟩⟩
  obtain⟨al,_,hq,az⟩:=aq.1 h1
  have Y:f[((aa:Int) -1).toNat]? =some al:=by rw[<-hq];congr 1;omega
  obtain⟨_,_,g0,g1,_⟩:=R.hd.E Y
  have G:=R.ext Q
  have x:=LM.fz (Q.fz [])
  have q:=L.then Q
  refine⟨V,V,_,Q.af (eg.1 g1).2,λ_=>?_,λ_=>af V _ ⟨U.ext Q,q⟩⟩
  refine(pL (G.hd.le (bD _ _)) ae (pd.le (bD _ _) G.hp) V ((X.le (fh ((Z.fz _).trans q))).le (bD _ _)) aa).mono λ_ w⟨b5,j,o⟩=>⟨x.dm (o.fz _),b5,j,λ_=>?_,λ_=>af V _ ⟨(U.ext Q).ext o,q.then o⟩⟩
  have H:=G.ext o
  have y:=x.fz (o.fz [])
  have f5:=q.then o
  have z5:=f5.size
  have aj:∀j∈z.size::e,j<w.size:=λj K=>by have:=av j K;omega
  obtain⟨_,_,ah,_,_⟩:=H.hd.E Y
  refine⟨V,V,_,(eg.1 ah).2,?_⟩
  refine XP.then (rl (f:=z.size::e) aj (by simp[W]) H V (X.le (fh ((Z.fz _).trans f5))) V ⟨V,V⟩) y λs6 e6 E h6 q6 r6 B=>⟨_,_,_,rfl,?_⟩
  have c6:=H.to B r6
  have C:=y.fz B
  obtain⟨_,_,ao,_,_⟩:=c6.hd.E Y
  refine⟨by rw[(eg.1 ao).2,(eg.1 ah).2],y.cp (Fz.aB _ _) B D _,y.cp (Fz.aB _ _) B D _,y.cp (Fz.aB _ _) B D _,?_⟩
  rw[ax]
  have F6:=(Z.fz [c]).trans (f5.trans B)
  have ak:∀j∈z.size::e,j<E.size:=λj K=>by have:=aj j K;have:=B.size;omega
  refine XP.then (ih (r -2) V V (z.size::e) c (P+1+22) g d p i E v _ ak (by simp[W]) c6 V (X.le (fh F6)) aA ((zf f s.gp.ds).2.2 al (ar Y))) C λs7 e7 F h7 q7 r7 t=>⟨_,_,_,rfl,?_⟩
  intro m8
  have x8:J F m8:=J.push _ _
  have an:∀j∈z.size::e,j<F.size:=λj K=>by have:=ak j K;have:=t.size;omega
  have g8:GE (z.size::e) F m8 (.mk F.size 0 2 2) [e6,e7]:=J8 an 0 [(e6,s6),(e7,s7)] D (by simp;exact⟨fw.le (t.da (by simp[W])) h6,h7⟩) rfl rfl
  clear_value m8
  exact XP.ret (mS (r7.ext x8) (g8.done Bd.mono an bh D) 11 0) ((C.fz t).fz (x8.fz [])) ((F6.trans t).then x8) s.rd V (λj K=>K▸.eR bh (λu=>V) bh (λu=>V) (by simp;exact⟨q6.1,q7.1⟩)) V
 rintro M ⟨U,L⟩
 have R:=c2.to L U
 have LM:=L2.fz L
 have zM:=L.size
 have FM:=(Z.fz [c]).trans L
 refine(gU (e:=[c]) (by simp;exact U.lt) (R.hd.le (bD _ _)) ae ac).mono λ_ m3⟨cs,an,j,hc,al,x3⟩=>⟨LM.dm (x3.fz _),cs,j,?_⟩
 subst al
 have c3:=R.ext x3
 have L3:=LM.fz (x3.fz [])
 have Q:=FM.then x3
 have z3:=x3.size
 have aG:=hc.len
 have ah:∀{M:I},m3.size<=M.size->∀j∈z.size::e,j<M.size:=λu j K=>by have:=av j K;omega
 have t5:=Ty.Xv s.gp.ds ht
 have ay:=zf f s.gp.ds
 refine⟨λu=>?_,λu=>⟨λu=>?_,λu=>?_⟩⟩
 ·simp only[au]at u
  refine(cB c3.rd V cs.len).mono λ_ N⟨A,j,k0,k1,Y,q⟩=>⟨L3.dm q,A,j,k0,V,?_⟩
  obtain⟨af,hy⟩:=ag (l:=cq f ac) (k:=A.toNat) V
  have aj:=ay.1 ac t5 af (ar hy)
  have G:=c3.to q Y
  have x:=L3.fz q
  refine⟨af,(eg.1 ((hc.le (fh q)).E hy)).2,?_⟩
  refine(dH (e:=[c]) (by simp;exact Y.lt) G.hd ae af).mono λ_ w⟨f5,l5,j,h5,q5,o⟩=>⟨x.dm (o.fz _),f5,j,x.cp (Fz.aB _ _) (o.fz _) D _,x.cp (Fz.aB _ _) (o.fz _) D _,?_⟩
  subst q5
  rw[am]
  exact zg V ih (ah (by have:=q.size;have:=o.size;omega)) W (G.ext o) V (X.le (fh ((Q.trans q).then o))) V V h5 aj.1 aj.2 (x.fz (o.fz [])) ((Q.trans q).then o) s.rd V (λan _ T=>.eR bh (λu=>V) bh (λu=>V) T) V
 ·exact XP.ret (rl (f:=z.size::e) (ah (ad _)) (by simp[W]) c3 V (X.le (fh Q)) V ht) L3 Q s.rd V (λj K=>K.1) V
 ·refine(cB c3.rd V 3).mono λ_ N⟨A,j,k0,k1,Y,q⟩=>⟨L3.dm q,A,j,λ_=>?_,λ_=>?_⟩
  ·have G:=c3.to q Y
   have x:=L3.fz q
   have z4:=q.size;have az:=Y.lt
   intro w
   have o:J N w:=J.push _ _
   have af:ap (bO [c] w) (.mk N.size 0 1 1) [0]:=ap.lit aE _ bJ rfl rfl D
   clear_value w
   have z5:=o.size
   rw[am]
   exact zg V ih (ah V) W (G.ext o) V (X.le (fh ((Q.trans q).then o))) V V af D (by simp[s.gp.ty]) (x.fz (o.fz [])) ((Q.trans q).then o) s.rd V (λan _ T=>.eR bh (λu=>V) bh (λu=>V) T) V
  ·have G:=c3.to q Y
   have x:=L3.fz q
   have F4:=Q.trans q
   have z4:=q.size;have az:=Y.lt
   have ic:∀{aB M:I}{aa t0:Nat},GC c g (P+3) d p f h M->Fz [c] N M->ap (bO [c] M) (.mk t0 0 2 2) [0,0]->∀op:Int,op∈[(1:Int),2,3,4]->aO cw 326 [vp c 0,.agg #[O.v d,O.v p],O.v i,O.v (.mk t0 0 2 2),vi (r -1)] M λaq M1=>eE [z.size,m.size] M M1/\∃aw:O,aq=O.v aw/\
    aO cw 311 [vi op,vi 0,O.v aw] M1 λaq M2=>eE [z.size,m.size] M1 M2/\∃r0 r1:Int,∃r2:O,aq=.agg #[vi r0,vi r1,O.v r2]/\XP e c g m (P+24+3*Cg (r -1)) (WX f h.length v.length) (.agg #[vi r0,vi r1,O.v r2]) (ai M2 z.size 0 [.i r0,.i r1,.s r2]):=λR af u op aj=>
    zg V ih (ah (by have:=af.size;omega)) W R V (X.le (fh (F4.trans af))) V V u D (by simp[s.gp.ty]) (x.fz af) (F4.trans af) s.rd V (λan _ T=>.eR (by simp at aj;omega) (λu=>by simp at aj;omega) (by simp at aj;omega) (λu=>by simp at aj;omega) T) V
   rw[am]
   refine⟨?_,?_⟩
   ·intro w
    have o:J N w:=J.push _ _
    have ak:ap (bO [c] w) (.mk N.size 0 4 4) [1,2,3,4]:=ap.lit aE _ bJ rfl rfl D
    clear_value w
    have H:=G.ext o
    have y:=x.fz (o.fz [])
    have z5:=o.size
    refine⟨x.cp (Fz.aB _ _) (o.fz _) D _,x.cp (Fz.aB _ _) (o.fz _) D _,?_,?_⟩
    ·refine(kN H.rd V ak D).mono λ_ E⟨A,j,hk,r6,B⟩=>⟨y.dm B,A,j,y.cp (Fz.aB _ _) B D _,y.cp (Fz.aB _ _) B D _,?_⟩
     intro F
     have x7:J E F:=J.push _ _
     have ao:ap (bO [c] F) (.mk E.size 0 2 2) [0,0]:=ap.lit aE _ (by simp;exact r6.lt) rfl rfl D
     clear_value F
     have C:=y.fz B
     exact⟨C.cp (Fz.aB _ _) (x7.fz _) D _,C.cp (Fz.aB _ _) (x7.fz _) D _,ic (aB:=F) (aa:=0) ((H.to B r6).ext x7) (((o.fz _).trans B).then x7) ao A hk⟩
    ·intro E
     have B:J w E:=J.push _ _
     have ao:ap (bO [c] E) (.mk w.size 0 2 2) [0,0]:=ap.lit aE _ bJ rfl rfl D
     clear_value E
     have C:=y.fz (B.fz [])
     refine⟨y.cp (Fz.aB _ _) (B.fz _) D _,y.cp (Fz.aB _ _) (B.fz _) D _,?_⟩
     refine(kN (H.ext B).rd V (ak.le (fh (B.fz _))) D).mono λ_ F⟨A,j,hk,r7,t⟩=>⟨C.dm t,A,j,C.cp (Fz.aB _ _) t D _,C.cp (Fz.aB _ _) t D _,ic (aB:=F) (aa:=0) ((H.ext B).to t r7) (((o.trans B).fz _).trans t) (ao.le (fh t)) A hk⟩
   ·intro w
    have o:J N w:=J.push _ _
    have ak:ap (bO [c] w) (.mk N.size 0 2 2) [0,0]:=ap.lit aE _ bJ rfl rfl D
    clear_value w
    have H:=G.ext o
    have y:=x.fz (o.fz [])
    have z5:=o.size
    refine⟨x.cp (Fz.aB _ _) (o.fz _) D _,x.cp (Fz.aB _ _) (o.fz _) D _,?_⟩
    intro E
    have B:J w E:=J.push _ _
    have ao:ap (bO [c] E) (.mk w.size 0 4 4) [1,2,3,4]:=ap.lit aE _ bJ rfl rfl D
    clear_value E
    have C:=y.fz (B.fz [])
    refine⟨y.cp (Fz.aB _ _) (B.fz _) D _,y.cp (Fz.aB _ _) (B.fz _) D _,?_⟩
    refine(kN (H.ext B).rd V ao D).mono λ_ F⟨A,j,hk,r7,t⟩=>⟨C.dm t,A,j,C.cp (Fz.aB _ _) t D _,C.cp (Fz.aB _ _) t D _,ic (aB:=F) (aa:=0) ((H.ext B).to t r7) (((o.trans B).fz _).trans t) ((ak.le (fh (B.fz _))).le (fh t)) A hk⟩
end
end
section
variable{c:Int}
def Wg{o:List bB}{s:List dw}(hb:0<=c/\c<=100)(ih:∀d,0<=d->d<=c -1->JL o s d):JL o s c:=by
 intro t e P K W Y ae y z C hS B j hP Q aJ N;apply KV (e,0);simp -zeta only[aD,aC];intro h aa;obtain⟨x2,hl⟩:=dG (a:=h) (c:=aa) rfl rfl;have s1:h.size=y.size+1:=by simp[h]
 clear_value aa;have hr:=j.rd.lt;have z2:=x2.size;have L2:Lw e [h.size,y.size] aa:=λc hb=>⟨hl c hb,by simp at hb;omega⟩;have L:∀{d:I},aa.size<=d.size->∀f∈h.size::t,f<d.size:=λA f he=>by have:=bR hS x2.size (hl h.size D) f he;omega
 have c2:=j.ext x2;have an:=j.types;have om:=j.gp.om;have iL:=j.gp.iL;have aG:=PH c;have av:∀{am:Nat}{d:I},GC e K am W Y o s d->Fz [e] aa d->am+22<=P+Cg c->aO cw 314 [vp e 0,.agg #[O.v W,O.v Y],O.v ae,vi C] d λad M2=>eE [h.size,y.size] d M2/\∃Z r1:Int,∃r2:O,ad=.agg #[vi Z,vi r1,O.v r2]/\XP t e K y (P+Cg c) (λf=>WX o s.length z.length f/\(c<=2->f.n<=4)) (.agg #[vi Z,vi r1,O.v r2]) (ai M2 h.size 0 [.i Z,.i r1,.s r2]):=λcM g hq=>
  XP.ret (rl (f:=h.size::t) (L g.size) (by simp[B]) cM V (Q.le (fh ((x2.fz _).trans g))) V N) (L2.fz g) ((x2.fz _).trans g) j.rd V (λf he=>⟨he.1,λ_=>he.2⟩) hq
 refine⟨λ_=>av c2 (Fz.aB _ _) V,λh3=>?_⟩;simp only[bH]at h3;have aH:=QA (f:=c -1) (c:=c) V V;have aI:=QA (f:=c -2) (c:=c -1) V V;have aF:=PH (c -2);have ao:cW (c -1)=c -1:=aQ V V;have hQ:∀f,WX o s.length z.length f->WX o s.length z.length f/\(c<=2->f.n<=4):=λf A=>⟨A,λA=>V⟩;refine(cB c2.rd V 12).mono λ_ m3⟨ab,f,k0,k1,r3,f3⟩=>⟨L2.dm f3,ab,f,?_⟩;have w:=c2.to f3 r3;have T:=L2.fz f3;have v:=(x2.fz [e]).trans f3;have z3:=f3.size;have az:=L z3;have aw:∀{d:I},J m3 d->aO cw 329 [vp e 0,.agg #[O.v W,O.v Y],O.v ae,vi C,vi c] d λad M2=>eE [h.size,y.size] d M2/\∃Z r1:Int,∃r2:O,ad=.agg #[vi Z,vi r1,O.v r2]/\XP t e K y (P+Cg c) (λf=>WX o s.length z.length f/\(c<=2->f.n<=4)) (.agg #[vi Z,vi r1,O.v r2]) (ai M2 h.size 0 [.i Z,.i r1,.s r2]):=λF=>
  XP.ret (Ja (e:=h.size::t) ⟨V,V⟩ ih (L (by have:=F.size;omega)) (by simp[B]) (w.ext F) V (Q.le (fh (v.then F))) V N) (T.fz (F.fz [])) (v.then F) j.rd V hQ V
 refine⟨λ_=>av w f3 V,λ_=>⟨λ_=>?_,λ_=>⟨λ_=>?_,λ_=>⟨λ_=>?_,λ_=>⟨λ_=>?_,λ_=>aw (J.aB _)⟩⟩⟩⟩⟩
 ·refine(KK r3 V w.hd an w.hp V (Q.le (fh v))).mono λ_ m⟨E,f,hu,r4,f4⟩=>⟨T.dm f4,E,f,bh,bh,?_⟩;have U:=w.to f4 r4;have r:=T.fz f4;have F4:=v.trans f4;have z4:=f4.size;have aA:Ty o E:=by have:=pt o j.gp.ds;unfold Ty;omega
  obtain⟨d0,d1⟩:=MT (f:=c) (d:=2) V V;have d2:Int.tdiv c 2<=c -1:=by rw[pQ V];omega
  have d3:Int.tdiv c 2+Int.tdiv c 2<=c:=by rw[pQ V];omega
  rw[aQ (b:=Int.tdiv c 2) V V];generalize Int.tdiv c 2=h2 at*;have hm:=tZ d2;have G:∀{d M':I},Fz [e] m d->Fz [e] d M'->af M' y.size 0=af d y.size 0:=λg f'=>r.cp g f' D _;have H:∀{d M':I},Fz [e] m d->Fz [e] d M'->af M' y.size 1=af d y.size 1:=λg f'=>r.cp g f' D _;have ah:=λ(d:I)(cM:GC e K (P+2) W Y o s d)(g:Fz [e] m d)=>ih h2 d0 d2 (h.size::t) e (P+2) K W Y ae d z E (L (by have:=g.size;omega)) (by simp[B]) cM V (Q.le (fh (F4.trans g))) V aA;have aj:=λ(d:I)(ac:O)(cM:GC e K (P+2+Cg h2) W Y o s d)(g:Fz [e] m d)(hw:IR e d ac (z++[E]))=>ih h2 d0 d2 (h.size::t) e (P+2+Cg h2) K W Y ac d (z++[E]) C (L (by have:=g.size;omega)) (by simp[B]) cM V hw bJ N;have ak:=λ(d:I)(ac:O)(g:Fz [e] m d)(hR:e<d.size)(A:IR e d ac [E])=>eG (S:=[e]) (by simp;exact hR) (Q.le (fh (F4.trans g))) A bJ;have al:=λ(M0 d:I)(e1 e2:Ex)(t1 t2:O)(g:Fz [e] m d)(hR:Rd e K (P+2+Cg h2+Cg h2) d)(h1:fw (bO (h.size::t) d) t1 e1.bE)(ay:fw (bO (h.size::t) d) t2 e2.bE)(w1:WX o s.length z.length e1)(w2:WX o s.length (z++[E]).length e2)=>
   have F:=J.push d (.cells (bG [.i e1.op,.i e1.bN,.s t1,.i e2.op,.i e2.bN,.s t2]) bK)
   have aq:=L (d:=d) (by have:=g.size;omega)
   XP.ret (S:=t) (Q':=λf=>WX o s.length z.length f/\(c<=2->f.n<=4)) (mS (hR.ext F) ((J8 aq 0 [(e1,t1),(e2,t2)] D (by simp;exact⟨h1,ay⟩) rfl rfl).done Bd.mono aq bh D) 13 0) ((r.fz g).fz (F.fz [])) ((F4.trans g).then F) j.rd V (λf he=>he▸hQ _ (.lt w1 (by simpa using w2))) (i:=P+Cg c) V
  refine⟨?_,?_⟩
  ·refine XP.then (ah m U (Fz.aB _ _)) r λs5 X R h5 q5 r5 p=>⟨_,_,_,rfl,G (Fz.aB _ _) p,H (Fz.aB _ _) p,?_⟩;intro m6;have u:J R m6:=J.push _ _;have aB:ap (bO [e] m6) (.mk R.size 0 1 1) [E]:=ap.lit aE _ (by simp;exact r5.lt) rfl rfl D;clear_value m6;have q:=p.then u;refine⟨G p (u.fz _),H p (u.fz _),G p (u.fz _),H p (u.fz _),?_⟩;refine(ak m6 _ q (r5.ext u).lt aB).mono λ_ m7⟨s7,l7,f,g7,q7,i⟩=>⟨(r.fz q).dm (i.fz _),s7,f,G q (i.fz _),H q (i.fz _),?_⟩;subst q7;refine XP.then (aj m7 s7 (((U.to p r5).ext u).ext i) (q.then i) (GI.done g7 (by simp;exact(r5.ext u).lt) bJ)) ((r.fz q).fz (i.fz [])) λs8 e8 m8 h8 q8 r8 f8=>⟨_,_,_,rfl,?_⟩;exact al m8 m8 X e8 s5 s8 ((q.then i).trans f8) r8 (fw.le (((u.trans i).fz [e]).trans f8|>.da (by simp[B])) h5) h8 q5.1 q8.1
  ·intro R;have u:J m R:=J.push _ _;have aB:ap (bO [e] R) (.mk m.size 0 1 1) [E]:=ap.lit aE _ (by simp;exact r4.lt) rfl rfl D;clear_value R;refine⟨G (Fz.aB _ _) (u.fz _),H (Fz.aB _ _) (u.fz _),G (Fz.aB _ _) (u.fz _),H (Fz.aB _ _) (u.fz _),?_⟩;refine XP.then (ah R (U.ext u) (u.fz _)) (r.fz (u.fz [])) λs6 e6 m6 h6 q6 r6 q=>⟨_,_,_,rfl,G (u.fz _) q,H (u.fz _) q,?_⟩;have X:=(u.fz [e]).trans q;refine(ak m6 _ X r6.lt (aB.le (fh q))).mono λ_ m7⟨s7,l7,f,g7,q7,i⟩=>⟨(r.fz X).dm (i.fz _),s7,f,G X (i.fz _),H X (i.fz _),?_⟩;subst q7;refine XP.then (aj m7 s7 (((U.ext u).to q r6).ext i) (X.then i) (GI.done g7 (by simp;exact r6.lt) bJ)) ((r.fz X).fz (i.fz [])) λs8 e8 m8 h8 q8 r8 f8=>⟨_,_,_,rfl,?_⟩;exact al m8 m8 e6 e8 s6 s8 ((X.then i).trans f8) r8 (fw.le ((i.fz [e]).trans f8|>.da (by simp[B])) h6) h8 q6.1 q8.1
 ·intro m;have i:J m3 m:=J.push _ _;have u:ap (bO [e] m) (.mk m3.size 0 3 3) [0,C,C]:=ap.lit aE _ (by simp;exact r3.lt) rfl rfl D;clear_value m;rw[ao];exact zg V ih (L (by have:=i.size;omega)) B (w.ext i) V (Q.le (fh (v.then i))) V V u D (by simp;exact⟨j.gp.ty bh bh,N⟩) (T.fz (i.fz [])) (v.then i) j.rd V (λq hl hw=>hQ _ (.eR bh (λ_=>by simpa using hl) bh (λA=>V) hw)) V
 ·exact XP.ret (I9 (j:=h.size::t) ⟨V,V⟩ ih az (by simp[B]) w V (Q.le (fh v)) V N) T v j.rd V hQ V
 ·refine(IZ (f:=[e]) (by simp;exact r3.lt) (w.hd.le (bD _ _)) an (pd.le (bD _ _) w.hp) V iL C).mono λ_ m⟨E,q,f,gl,hq,i⟩=>⟨T.dm (i.fz _),E,f,λA=>?_,λ_=>aw i⟩;simp only[au]at A;have ac:IR e m E q:=GI.done gl (by simp;exact r3.lt) V;have aq:=ac.len;have U:=w.ext i;have r:=T.fz (i.fz []);refine(cB U.rd V E.len).mono λ_ R⟨ab,f,k0,k1,r5,p⟩=>⟨r.dm p,ab,f,k0,V,?_⟩;obtain⟨ak,hy⟩:=ag (l:=q) (k:=ab.toNat) V;obtain⟨fi,aj,rfl,H⟩:=hq.1 ak (ar hy);have u:=U.to p r5;obtain⟨ps,ah,e0,e1⟩:=u.hp.E H;have al:=ax H;have ay:=u.hp.len;have X:=wE _ (j.gp.dt aj (ar H));have G:=(i.fz [e]).trans p;refine⟨_,(eg.1 ((ac.le (fh p)).E hy)).2,V,V,ps,(eg.1 e0).2,?_⟩;rw[ao];exact zg V ih (L (by have:=G.size;omega)) B u V (Q.le (fh (v.trans G))) V V ah X.1 (λC N=>j.gp.ty (X.2.1 C N).1 (X.2.1 C N).2) (r.fz p) (v.trans G) j.rd V (λq _ hw=>hQ _ (.eR bh (λA=>V) bh (λ_=>⟨V,V⟩) hw)) V
def P6{b:List bB}{d:List dw}:∀(n:Nat)(c:Int),c.toNat=n->0<=c/\c<=100->JL b d c:=λn=>by
 induction n using Nat.strongRecOn with
 |ind n f=>exactλc i h=>Wg h λa e g=>f a.toNat V a rfl ⟨e,V⟩
section
variable{S:List Nat}{e P:Nat}{h d p j:O}{g:List bB}{i:List dw}{f:I}{v:List Int}
def WY(g:List bB)(b a:Nat)(e:Ex):Prop:=WX g b a e/\e.n<=30
def KT(hS:∀y∈S,y<f.size)(ab:e∈S)(y:GC e h P d p g i f)(hP:P+20*Cg 18<=10000000000000000)(hv:IR e f j v)(ak:v.length<=100){U:Int}(ht:Ty g U)(s:0<=c/\c<=18):
 aO cw 283 [vp e 0,.agg #[O.v d,O.v p],O.v j,vi U,vi c] f (XP S e h f (P+20*Cg 18) (WY g i.length v.length)):=by
 apply DV (e,0)
 simp -zeta only[aD,aC]
 intro t B
 obtain⟨w,hl⟩:=dG (a:=t) (c:=B) rfl rfl
 have s1:t.size=f.size+1:=by simp[t]
 clear_value B
 have hr:=y.rd.lt
 have z2:=w.size
 have Q:Lw e [t.size,f.size] B:=λc s=>⟨hl c s,by simp at s;omega⟩
 have aa:∀{M:I},B.size<=M.size->∀k∈t.size::S,k<M.size:=λT k he=>by have:=bR hS w.size (hl t.size D) k he;omega
 have X:=y.ext w
 have hm:=tZ s.2
 refine XP.then (P6 _ c rfl ⟨s.1,V⟩ (t.size::S) e P h d p j B v U (aa (ad _)) (by simp[ab]) X V (hv.le (fh (w.fz _))) V ht) Q λs3 F l h3 q3 r3 f3=>⟨_,_,_,rfl,?_⟩
 intro m4 C
 have W:J l C:=(J.push l _).ai (ad _) _ _
 have B5:cF C l.size bK [.i F.op,.i F.bN,.s s3]:=cF.ai (m:=m4) (o:=0) (r:=[.i F.op,.i F.bN,.s s3]) (cF.push l _ _)
 have s5:C.size=l.size+1:=by simp[C,m4,av]
 clear_value C
 have z3:=f3.size
 have f5:=f3.then W
 have ae:∀k∈l.size::t.size::S,k<C.size:=bR (aa z3) W.size V
 refine⟨λq M=>∃(K:O)(k:Ex)(u:Nat),0<=q/\q<=18/\q.toNat<=u/\u<=18/\cF M l.size bK [.i k.op,.i k.bN,.s K]/\fw (bO (l.size::t.size::S) M) K k.bE/\WX g i.length v.length k/\(q<=2->k.n<=4)/\Rd e h (P+(19 -u)*Cg 18) M/\Fz [e] B M/\C.size<=M.size,λq _=>q.toNat,⟨s3,F,18,s.1,s.2,V,ad _,B5,?_,q3.1,q3.2,(r3.ext W).mono V,f5,ad _⟩,?_⟩
 ·exact fw.le (W.bO λc s=>(List.mem_cons.1 s).elim (λT=>Or.inr V) Or.inl) h3
 rintro q M ⟨K,k,u,b0,b1,bk,al,L,hs,hw,hn,rM,Y,zM⟩
 have LM:=Q.fz Y
 have FM:=(w.fz [e]).trans Y
 refine⟨_,L.cp 0,_,L.cp 1,_,L.cp 2,?_⟩
 refine(AA (fw.le (bD _ _) hs)).mono λ_ H⟨n6,e6,q6,E⟩=>⟨LM.dm (E.fz _),n6,e6,?_⟩
 have N:=L.ext E
 have r6:=rM.ext E
 have z:=Y.then E
 have z6:=E.size
 have L6:=Q.fz z
 have kc:(19 -u)*Cg 18+Cg 18<=20*Cg 18:=by rw[<-pU];exact db _ V
 have aW:k.n<=30->∃v0:Int,af H l.size 0=some (vi v0)/\∃v1:Int,af H l.size 1=some (vi v1)/\∃v2:O,af H l.size 2=some (O.v v2)/\XP S e h f (P+20*Cg 18) (WY g i.length v.length) (.agg #[vi v0,vi v1,O.v v2]) (ai H t.size 0 [.i v0,.i v1,.s v2]):=λac=>
  ⟨_,N.cp 0,_,N.cp 1,_,N.cp 2,K,k,rfl,fw.le (cz D λy Z=>aj _ (aj _ Z)) (fw.le (E.da _) hs),⟨hw,ac⟩,y.rd.ai (r6.mono V) ((w.fz _).trans z) V 0 _,((w.fz _).trans z).ai (Or.inr V) _ _⟩
 refine⟨λT=>⟨λA=>?_,λA=>aW (by simp only[bH]at A;have:=hn V;omega)⟩,λT=>aW (by simp only[bH]at T;omega)⟩
 simp only[au]at A
 obtain⟨d0,d1⟩:=MT (f:=q) (d:=2) b0 V
 have d2:Int.tdiv q 2<=q -1:=by rw[pQ b0];omega
 rw[aQ (b:=Int.tdiv q 2) V V]
 generalize Int.tdiv q 2=A at*
 have ag:=tZ (f:=A) (c:=18) V
 refine⟨bh,?_⟩
 refine XP.then (P6 _ A rfl ⟨d0,V⟩ (l.size::t.size::S) e _ h d p j H v U (λk he=>by have:=ae k he;omega) (by simp[ab]) (X.to z r6) V (hv.le (fh ((w.fz _).trans z))) V ht) L6 λs7 G m7 h7 q7 r7 R=>⟨_,_,_,rfl,?_⟩
 have ah:e≠l.size:=V
 have B7:cF m7 l.size bK [.i k.op,.i k.bN,.s K]:=N.congr (R.same _ V bJ)
 refine⟨B7.fH D,?_⟩
 intro m8
 have B8:cF m8 l.size bK [.i G.op,.i G.bN,.s s7]:=cF.ai (m:=m7) (o:=0) (r:=[.i G.op,.i G.bN,.s s7]) B7
 have f8:Fz [e] B m8:=(z.trans R).ai (Or.inr V) _ _
 have s8:m8.size=m7.size:=av _ _ _ _
 have z7:=R.size
 refine⟨λc s=>bd _ _ _ _ (by have:=(Q c s).1;omega),⟨s7,G,u -1,d0,V,V,V,B8,?_,q7.1,q7.2,?_,f8,V⟩,by show A.toNat<q.toNat;omega⟩
 ·exact fw.le (cz D λy Z=>Z) h7
 ·refine X.rd.ai (r7.mono ?_) (z.trans R) V 0 _
  rw[show 19 -(u -1)=19 -u+1 by omega,pU];omega
end
end
section
structure HX(S:List Nat)(ds:List bB)(nf a:Nat)(M:I)(s:O)(e:Ex):Prop where
 sl:fw (bO S M) s e.bE
 wx:WX ds nf a e
structure Rs(rb:Nat)(bs:O)(m:I)(Q:Nat)(M:I):Prop where
 f:Fz [rb] m M
 r:Rd rb bs Q M
section
variable{S L:List Nat}{f Q q u k a i:Nat}{j d p s w:O}{h:List bB}{t:List dw}{n M c:I}{g:Ex}{v:List Int}{K:Int->Int->O->I->Prop}
def HX.fz(b:HX S h i a M s g)(e:f∈S)(d:Fz [f] M c):HX S h i a c s g:=⟨fw.le (d.da (by simp[e])) b.sl,b.wx⟩
def HX.ext(b:HX S h i a M s g)(x:J M c):HX S h i a c s g:=⟨fw.le (x.da _) b.sl,b.wx⟩
def HX.iV(b:HX S h i a M s g)(x:J M c)(f:M.size<=k):HX (k::S) h i a c s g:=⟨fw.le (x.bO λe d=>(List.mem_cons.1 d).elim (λb=>Or.inr V) Or.inl) b.sl,b.wx⟩
def HX.fg(b:HX (k::S) h i a M s g):HX S h i a M s g:=⟨fw.le (jL M λ_=>aj _) b.sl,b.wx⟩
def HX.put(b:HX S h i a M s g)(c:k∈S)(o:Nat)(l:List Ce):HX S h i a (ai M k o l) s g:=⟨fw.le (cz c λ_ b=>b) b.sl,b.wx⟩
def Rs.ext(h:Rs f j n Q M)(x:J M c):Rs f j n Q c:=⟨h.f.then x,h.r.ext x⟩
def Rs.to(h:Rs f j n Q M)(a:Fz [f] M c)(r:Rd f j q c):Rs f j n q c:=⟨h.f.trans a,r⟩
def Rs.put(h:Rs f j n Q M)(b:Rd f j u n)(a:n.size<=k)(o:Nat)(l:List Ce):Rs f j n Q (ai M k o l):=⟨h.f.ai (Or.inr a) _ _,b.ai h.r h.f a o l⟩
def lw(h:f<n.size)(a:∀b∈L,n.size<=b/\b<M.size):Lw f L M:=λb c=>⟨(a b c).2,by have:=(a b c).1;omega⟩
def kg(a:Fz [f] M c)(h:f<n.size)(b:n.size<=k/\k<M.size)(o:Nat):af c k o=af M k o:=aN (a.same k b.2 bJ) o
def km{d c:I}{z a:List Ce}{t:Nat}(f:d=M.push (.cells (bG z) t))(g:c=ai d M.size 0 a)(i:a.length=z.length):J M c/\cF c M.size t a/\c.size=M.size+1:=by
 subst f g;refine⟨(J.push M _).ai (ad _) _ _,?_,by rw[av];simp⟩;have h:=cF.ai (m:=M.push (.cells (bG z) t)) (b:=M.size) (e:=t) (l:=z) (o:=0) (r:=a) (cF.push _ _ _);rwa[show iX z 0 a=a from by
  have h:=Bp [] a z V;rw[Ig V]at h;simpa using h]at h
def XP.kk{e:Nat}{b:List Value}{T:Ex->Prop}(n:aO cw e b M (XP S f j M Q T))(o:Lw f L M)(p:∀s g c,fw (bO S c) s g.bE->T g->Rd f j Q c->Fz [f] M c->K g.op g.bN s c):aO cw e b M λv c=>eE L M c/\∃h i:Int,∃k:O,v=.agg #[vi h,vi i,O.v k]/\K h i k c:=
 XP.then n o λs g c a l m d=>⟨_,_,_,rfl,p s g c a l m d⟩
def wB(S:List Nat)(h:List bB)(i:Nat)(m:Lw f L M){n:Int}(p:0<=n/\n<(a:Int))(o:∀s c,HX S h i a c s (.mk 12 n [])->J M c->K 12 n s c):aO cw 313 [vi n] M λv c=>eE L M c/\∃b d:Int,∃e:O,v=.agg #[vi b,vi d,O.v e]/\K b d e c:=
 (me S n M).mono λv c⟨s,g,j,k,l,x⟩=>⟨m.dm (x.fz _),by subst l;exact⟨_,_,_,j,o s c ⟨k,.Tj p⟩ x⟩⟩
def Ip(S:List Nat)(h:List bB)(i a:Nat)(m:Lw f L M)(n:Int)(o:∀s c,HX S h i a c s (.mk 0 n [])->J M c->K 0 n s c):aO cw 278 [vi n] M λv c=>eE L M c/\∃b d:Int,∃e:O,v=.agg #[vi b,vi d,O.v e]/\K b d e c:=
 (Ao S n M).mono λv c⟨s,g,j,k,l,x⟩=>⟨m.dm (x.fz _),by subst l;exact⟨_,_,_,j,o s c ⟨k,.int n⟩ x⟩⟩
def oN(l:List (Ex×O))(d:l.length<=1000)(b:∀c∈S,c<M.size)(h:∀x∈l,fw (bO S M) x.2 x.1.bE){a:List Ce}{n:Nat}(c:a=l.flatMap λx=>[.i x.1.op,.i x.1.bN,.s x.2])(e:n=l.length):fw (bO S (M.push (.cells (bG a) bK))) (.mk M.size 0 n n) (l.map (·.1)):=
 (J8 b 0 l d h c e).done Bd.mono b bh bJ
def jq{bE:List Ex}(k:fw (bO S M) s bE){b bN:Int}(q:WX h i a (.mk b bN bE))(o:Lw f L M)(p:∀s c,HX S h i a c s (.mk b bN bE)->J M c->K b bN s c):
 aO cw 311 [vi b,vi bN,O.v s] M λv c=>eE L M c/\∃d e:Int,∃j:O,v=.agg #[vi d,vi e,O.v j]/\K d e j c:=
 (IF k b bN).mono λv c⟨s,g,l,m,n,x⟩=>⟨o.dm (x.fz _),by subst n;exact⟨_,_,_,l,p s c ⟨m,q⟩ x⟩⟩
def EZ(x:∀a∈S,a<M.size)(z:f∈S)(a:GC f j Q d p h t M)(C:Q+Cg 18<=10000000000000000)(B:IR f M w v)(E:v.length<=100){e b:Int}(A:Ty h e)(i:0<=b/\b<=18)(u:Lw f L M)(y:∀g s c,HX S h t.length v.length c s g->Rd f j (Q+Cg 18) c->Fz [f] M c->K g.op g.bN s c):
 aO cw 310 [vp f 0,.agg #[O.v d,O.v p],O.v w,vi e,vi b] M λv c=>eE L M c/\∃k l:Int,∃m:O,v=.agg #[vi k,vi l,O.v m]/\K k l m c:=
 have D:=tZ i.2
 XP.kk (P6 _ b rfl ⟨i.1,V⟩ S f Q j d p w M v e x z a V B V A) u λs g c n o q r=>y g s c ⟨n,o.1⟩ (q.mono V) r
end
end
section
def WX.Of{b:List bB}{c a:Nat}{n:Int}{bE:List Ex}(h:∀e∈bE,WX b c a e):WX b c a (.mk 6 n bE):=.eR bh (λh=>V) bh (λh=>V) h
section
variable{c:List Nat}{e P:Nat}{g d p:O}{f:List bB}{h:List dw}{b:I}
def KX(f:List bB)(z:Nat)(hS:∀aa∈c,aa<b.size)(ab:e∈c)(W:Rd e g P b)(hP:P+100<=10000000000000000)(aG:Int):aO cw 312 [vp e 0,vi aG] b (XP c e g b (P+100) (WX f z 0)):=by
 apply Ee (e,0);simp -zeta only[aD,aC];intro aB ae;have x2:J b ae:=(J.push b _).trans (J.push aB _);have s2:ae.size=b.size+2:=by simp[ae,aB]
 clear_value ae;have N:=W.lt;have aq:∀{h:I},ae.size<=h.size->∀aa∈b.size::c,aa<h.size:=λv=>bR hS V V;have Y:Rs e g b P ae:=⟨x2.fz _,W.ext x2⟩;refine jq (S:=b.size::c) (a:=0) (h:=f) (i:=z) (f:=e) (bE:=[]) (my _ _ _ _ _ _) (.Of D) (lw N bJ) λs3 m3 h3 x3=>?_;intro m4 E;obtain⟨x5,B5,z5⟩:=km (M:=m3) (d:=m4) (c:=E) rfl rfl rfl;clear_value E;have z3:=x3.size;have r5:=(Y.ext x3).ext x5;refine⟨λ_=>?_,λ_=>?_⟩
 ·intro m6;have x6:J E m6:=J.push _ _;clear_value m6;have z6:=x6.size;refine jq (S:=b.size::c) (a:=0) (h:=f) (i:=z) (f:=e) (bE:=[]) (my _ _ _ _ _ _) (.Of D) (lw N bJ) λR F h7 x7=>?_;intro m8 y;obtain⟨x9,B9,z9⟩:=km (M:=F) (d:=m8) (c:=y) rfl rfl rfl;clear_value y;have z7:=x7.size;have r9:=((r5.ext x6).ext x7).ext x9;have h9:=h7.ext x9;have G:∀{h C:I},y.size<=h.size->Fz [e] h C->∀i,af C F.size i=af h F.size i:=λv aj i=>kg aj N ⟨V,V⟩ i;have LW:∀{h:I},y.size<=h.size->Lw e [F.size,m3.size,b.size] h:=λv=>lw N bJ;have LK:∀{h:I}{s:Nat},y.size<=s->s<h.size->Lw e [s,F.size,m3.size,b.size] h:=λv U=>lw N bJ;have hw:∀n:Int,WX f z 0 (.mk 6 3 [.mk 6 2 [],.mk 0 n [],.mk 6 2 []]):=λn=>.Of (by simp;exact⟨.Of D,.int n,.Of D⟩);refine⟨λkK h=>∃H l,kK.2=0/\b.size<=kK.1/\cF h kK.1 bK [.i l.op,.i l.bN,.s H]/\HX (b.size::c) f z 0 h H l/\HX (b.size::c) f z 0 h R (.mk 6 2 [])/\Rs e g b (P+1) h/\y.size<=h.size,?_,?_⟩
  ·have ic:∀{s t0:Nat}{h:I}{n:Int},cF h s bK [.i 0,.i 0,.s .nil]->y.size<=s->fw (bO (s::b.size::c) h) (.mk t0 0 3 3) [.mk 6 2 [],.mk 0 n [],.mk 6 2 []]->Rs e g b (P+1) h->HX (s::b.size::c) f z 0 h R (.mk 6 2 [])->
    aO cw 311 [vi 6,vi 3,O.v (.mk t0 0 3 3)] h λaH C=>eE [s,F.size,m3.size,b.size] h C/\∃r0 r1:Int,∃Y:O,aH=.agg #[vi r0,vi r1,O.v Y]/\∃H l,((s,0):Nat×Nat).2=0/\b.size<=((s,0):Nat×Nat).1/\cF (ai C s 0 [.i r0,.i r1,.s Y]) ((s,0):Nat×Nat).1 bK [.i l.op,.i l.bN,.s H]/\HX (b.size::c) f z 0 (ai C s 0 [.i r0,.i r1,.s Y]) H l/\HX (b.size::c) f z 0 (ai C s 0 [.i r0,.i r1,.s Y]) R (.mk 6 2 [])/\Rs e g b (P+1) (ai C s 0 [.i r0,.i r1,.s Y])/\y.size<=(ai C s 0 [.i r0,.i r1,.s Y]).size:=λB hk X Q v=>
    jq X (hw _) (LK hk B.lt) λs' C U aw=>⟨s',.mk 6 3 [.mk 6 2 [],.mk 0 _ [],.mk 6 2 []],rfl,by show b.size<=_;omega,cF.ai (m:=C) (o:=0) (r:=[.i 6,.i 3,.s s']) (B.ext aw),(U.put D _ _).fg,((v.ext aw).put D _ _).fg,(Q.ext aw).put W V _ _,by rw[av];have:=B.lt;have:=aw.size;omega⟩
   have zb:∀h:I,J h (h.push (.cells (bG [.i 0,.i 0,.s .nil]) bK))/\cF (h.push (.cells (bG [.i 0,.i 0,.s .nil]) bK)) h.size bK [.i 0,.i 0,.s .nil]:=λh=>⟨J.push _ _,cF.push _ _ _⟩;have ar:∀{ah:List Nat}{h:I}{n:Int}{si:O},(∀aa∈ah,aa<h.size)->HX ah f z 0 h R (.mk 6 2 [])->HX ah f z 0 h si (.mk 0 n [])->fw (bO ah (h.push (.cells (bG [.i 6,.i 2,.s R,.i 0,.i n,.s si,.i 6,.i 2,.s R]) bK))) (.mk h.size 0 3 3) [.mk 6 2 [],.mk 0 n [],.mk 6 2 []]:=λhS v U=>
    oN [(.mk 6 2 [],R),(.mk 0 _ [],_),(.mk 6 2 [],R)] D hS (by simp;exact⟨v.sl,U.sl,v.sl⟩) rfl rfl
   have az:∀{h:I}{s:Nat},y.size<=s->s<h.size->∀aa∈s::b.size::c,aa<h.size:=λv U=>bR (aq (h:=y) V) V U;refine⟨(cB r9.r V 9).mono λ_ w⟨n,l,_,_,ao,u⟩=>⟨(LW (ad _)).dm u,n,l,G (ad _) u _,G (ad _) u _,G (ad _) u _,G (ad _) u _,G (ad _) u _,G (ad _) u _,?_,?_⟩,?_⟩
   ·have K:=r9.to u ao;have uG:=u.size;have L:=h9.fz (by simp[ab]) u;refine Ip (b.size::c) f z 0 (LW uG) n λaE p ak q=>?_;have ax:=q.size;have d:=λi=>G uG (q.fz _) i;refine⟨d _,d _,d _,d _,d _,d _,?_,?_⟩
    ·intro k;have j:J p k:=J.push _ _;have X:fw (bO (b.size::c) k) (.mk p.size 0 3 3) [.mk 6 2 [],.mk 0 n [],.mk 6 2 []]:=ar (ah:=b.size::c) (aq V) (L.ext q) ak;have aI:=j.size;refine⟨?_,?_⟩
     ·refine jq (M:=k) (f:=e) X (hw n) (LW V) λaA A ap t=>?_;intro T;have al:J A T:=J.push _ _;have am:=t.size;have d:=λi=>G (h:=A) (C:=T) V (al.fz _) i;refine⟨d _,d _,d _,d _,d _,d _,?_⟩;intro ag;obtain⟨Z,ac,an⟩:=km (M:=A) (d:=T) (c:=ag) rfl rfl rfl;exact⟨aA,.mk 6 3 [.mk 6 2 [],.mk 0 n [],.mk 6 2 []],rfl,by show b.size<=A.size;omega,ac,ap.ext Z,(((L.ext q).ext j).ext t).ext Z,(((K.ext q).ext j).ext t).ext Z,V⟩
     ·intro A;obtain⟨t,T⟩:J k A/\cF A k.size bK [.i 0,.i 0,.s .nil]:=zb k;have d:=λi=>G (h:=k) (C:=A) V (t.fz _) i;exact⟨d _,d _,d _,d _,d _,d _,ic T V (fw.le (t.bO λan hb=>(List.mem_cons.1 hb).elim (λv=>Or.inr V) Or.inl) X) (((K.ext q).ext j).ext t) (((L.ext q).ext j).iV t (ad _))⟩
    ·intro k;obtain⟨j,ag⟩:J p k/\cF k p.size bK [.i 0,.i 0,.s .nil]:=zb p;have d:=λi=>G (h:=p) (C:=k) V (j.fz _) i;refine⟨d _,d _,d _,d _,d _,d _,?_⟩;intro A;have t:J k A:=J.push _ _;have T:=(L.ext q).iV j (ad _);exact ic (ag.ext t) V (ar (az V ag.lt) T (ak.iV j (ad _))) (((K.ext q).ext j).ext t) (T.ext t)
   ·have K:=r9.to u ao;have uG:=u.size;have L:=h9.fz (by simp[ab]) u;intro p;obtain⟨q,Z⟩:J w p/\cF p w.size bK [.i 0,.i 0,.s .nil]:=zb w;have d:=λi=>G (h:=w) (C:=p) V (q.fz _) i;have ax:=q.size;refine⟨d _,d _,d _,d _,d _,d _,?_⟩;refine Ip (w.size::b.size::c) f z 0 (LK V Z.lt) n λam k al j=>?_;have d:=λi=>G (h:=p) (C:=k) V (j.fz _) i;refine⟨d _,d _,d _,d _,d _,d _,?_⟩;intro A;have t:J k A:=J.push _ _;have T:=(L.iV q (ad _)).ext j;exact ic ((Z.ext j).ext t) V (ar (az V (Z.ext j).lt) T al) (((K.ext q).ext j).ext t) (T.ext t)
   ·intro w;obtain⟨K,ay⟩:J y w/\cF w y.size bK [.i 0,.i 0,.s .nil]:=zb y;have d:=λi=>G (h:=y) (C:=w) V (K.fz _) i;have uG:=K.size;refine⟨d _,d _,d _,d _,d _,d _,?_⟩;refine(cB (r9.ext K).r V 9).mono λ_ p⟨n,l,_,_,aF,ac⟩=>⟨(LK (ad _) ay.lt).dm ac,n,l,?_⟩;have d:=λi=>G (h:=w) (C:=p) V ac i;refine⟨d _,d _,d _,d _,d _,d _,?_⟩;have Z:=ay.congr (ac.same y.size ay.lt bJ);have ax:=ac.size;refine Ip (y.size::b.size::c) f z 0 (LK (ad _) Z.lt) n λam k al j=>?_;have d:=λi=>G (h:=p) (C:=k) V (j.fz _) i;refine⟨d _,d _,d _,d _,d _,d _,?_⟩;intro A;have t:J k A:=J.push _ _;have T:=((h9.iV K (ad _)).fz (by simp[ab]) ac).ext j;exact ic ((Z.ext j).ext t) (ad _) (ar (az (ad _) (Z.ext j).lt) T al) ((((r9.ext K).to ac aF).ext j).ext t) (T.ext t)
  ·rintro⟨s,i⟩ h ⟨H,l,ho,hk,B,v,U,Q,Z⟩;simp only at ho hk B;subst ho;have bl:=B.lt;refine⟨_,B.cp 0,_,B.cp 1,_,B.cp 2,?_⟩;have L3:∀{C:I},h.size<=C.size->Lw e [F.size,m3.size,b.size] C:=λv=>LW V;refine(cB Q.r V 9).mono λ_ w⟨n,en,_,_,ao,u⟩=>⟨(L3 (ad _)).dm u,n,en,?_⟩;have uG:=u.size;have gg:∀{T ac:I},h.size<=T.size->Fz [e] T ac->∀i,af ac s i=af T s i:=λv aj i=>kg aj N ⟨hk,V⟩ i;have ga:=λi=>G (h:=h) (C:=w) Z u i;have gb:=λi=>gg (T:=h) (ac:=w) (ad _) u i;refine⟨?_,?_,?_,?_,?_,?_,?_⟩;iterate 6 first|exact ga _|exact gb _
   refine Ip (b.size::c) f z 0 (L3 uG) n λaE p ak q=>?_;have ga:=λi=>G (h:=w) (C:=p) V (q.fz _) i;have gb:=λi=>gg (T:=w) (ac:=p) uG (q.fz _) i;refine⟨?_,?_,?_,?_,?_,?_,?_⟩;iterate 6 first|exact ga _|exact gb _
   intro k;have j:J p k:=J.push _ _;have ax:=q.size;have ah:=(v.fz (by simp[ab]) u).ext q;have an:=(U.fz (by simp[ab]) u).ext q;have X:fw (bO (b.size::c) k) (.mk p.size 0 3 3) [l,.mk 0 n [],.mk 6 2 []]:=oN (S:=b.size::c) (M:=p) [(l,H),(.mk 0 n [],aE),(.mk 6 2 [],R)] D (aq V) (by simp;exact⟨ah.sl,ak.sl,an.sl⟩) rfl rfl;refine jq (M:=k) (f:=e) X (.Of (by simp;exact⟨ah.wx,ak.wx,an.wx⟩)) (L3 (C:=k) (by have:=j.size;omega)) λaA A ap t=>?_;have ar:=(((Q.to u ao).ext q).ext j).ext t;exact⟨aA,_,rfl,(ap.put D _ _).fg.sl,ap.wx,((ar.put W (ad _) _ _).r).mono V,(ar.put W (ad _) _ _).f⟩
 ·intro m6 F;obtain⟨x7,B7,z7⟩:=km (M:=E) (d:=m6) (c:=F) rfl rfl rfl;clear_value F;have r7:=r5.ext x7;have C:∀{h:I},F.size<=h.size->Lw e [m3.size,b.size] h:=λv=>lw N bJ;refine(cB r7.r V 3).mono λ_ m8⟨n,en,n0,n3,R,u⟩=>⟨(lw N bJ:Lw e [E.size,m3.size,b.size] F).dm u,n,en,?_⟩;rw[aQ (b:=1+n) V V];have z8:=u.size;have U:b.size<=E.size:=V;refine⟨λs h=>0<=s/\s<=3/\∃H l,cF h E.size bK [.i l.op,.i l.bN,.s H]/\HX (E.size::b.size::c) f z 0 h H l/\Rs e g b (P+1+4*(3 -s).toNat) h/\F.size<=h.size,λs _=>s.toNat,⟨V,V,s3,.mk 6 0 [],B7.congr (u.same _ V bJ),((h3.ext x5).iV x7 (ad _)).fz (by simp[ab]) u,?_,z8⟩,?_⟩
  ·exact⟨(r7.to u R).f,R.mono V⟩
  rintro s h ⟨i0,i3,H,l,B,v,Q,Z⟩;refine⟨λhi=>?_,λ_=>⟨_,B.cp 0,_,B.cp 1,_,B.cp 2,H,l,rfl,(v.fg.put D _ _).fg.sl,v.wx,(Q.put W (ad _) _ _).r.mono V,(Q.put W (ad _) _ _).f⟩⟩;simp only[au]at hi;refine⟨_,B.cp 0,_,B.cp 1,_,B.cp 2,?_⟩;have d:∀{T ac:I},F.size<=T.size->Fz [e] T ac->∀i,af ac E.size i=af T E.size i:=λv aj i=>kg aj N ⟨U,V⟩ i;refine(AM Q.r V).mono λ_ y⟨A,en,d9,t⟩=>⟨(C Z).dm t,A,en,d Z t _,d Z t _,d Z t _,?_⟩;have z9:=t.size;refine Ip (E.size::b.size::c) f z 0 (C V) A λao w L K=>⟨d V (K.fz _) _,d V (K.fz _) _,d V (K.fz _) _,?_⟩;intro p;have q:J w p:=J.push _ _;have uG:=K.size;have ax:=q.size;have ah:=(v.fz (by simp[ab]) t).ext K;have X:fw (bO (E.size::b.size::c) p) (.mk w.size 0 2 2) [.mk 0 A [],l]:=oN (S:=E.size::b.size::c) (M:=w) [(.mk 0 A [],ao),(l,H)] D (bR (aq (h:=w) V) (ad _) V) (by simp;exact⟨L.sl,ah.sl⟩) rfl rfl;refine jq (M:=p) (f:=e) X (.Of (by simp;exact⟨L.wx,ah.wx⟩)) (C (h:=p) V) λam k al j=>?_;have ag:cF k E.size bK [.i l.op,.i l.bN,.s H]:=(((B.congr (t.same _ B.lt bJ)).ext K).ext q).ext j;have aI:=j.size;rw[aQ (b:=s -1) V V];refine⟨ag.fH D,λan hb=>bd _ _ _ _ (by simp at hb;omega),⟨V,V,am,.mk 6 1 [.mk 0 A [],l],cF.ai (m:=k) (o:=0) (r:=[.i 6,.i 1,.s am]) ag,al.put D _ _,?_,by rw[av];omega⟩,by show(s -1).toNat<s.toNat;omega⟩;have ak:=((((Q.to t d9).ext K).ext q).ext j).put W U 0 [.i 6,.i 1,.s am];exact⟨ak.f,ak.r.mono V⟩
end
end
section
structure BX(S:List Nat)(ds:List bB)(nf a k:Nat)(M:I)(s:O)(e:Ex):Prop where
 b:cF M k bK [.i e.op,.i e.bN,.s s]
 h:HX (k::S) ds nf a M s e
section
variable{S:List Nat}{d Q i j k a c:Nat}{h s:O}{b:List bB}{g M f:I}{e:Ex}
def BX.new{f d:I}(h:HX S b c a M s e)(g:f=M.push (.cells (bG [.i 0,.i 0,.s .nil]) bK))(i:d=ai f M.size 0 [.i e.op,.i e.bN,.s s]):J M d/\BX S b c a M.size d s e/\d.size=M.size+1:=
 let⟨x,B,z⟩:=km g i rfl;⟨x,⟨B,h.iV x (ad _)⟩,z⟩
def BX.fz(h:BX S b c a k M s e)(j:d∈S)(i:k≠d)(g:Fz [d] M f):BX S b c a k f s e:=⟨h.b.congr (g.same k h.b.lt (by simpa using i)),h.h.fz (by simp[j]) g⟩
def BX.ext(h:BX S b c a k M s e)(x:J M f):BX S b c a k f s e:=⟨h.b.ext x,h.h.ext x⟩
def BX.set(h:BX S b c a k M s e){f:O}{d:Ex}(g:HX (k::S) b c a M f d):BX S b c a k (ai M k 0 [.i d.op,.i d.bN,.s f]) f d:=⟨cF.ai (m:=M) (o:=0) (r:=[.i d.op,.i d.bN,.s f]) h.b,g.put D _ _⟩
def HX.ic(f:HX (k::S) b c a M s e)(r:Rs d h g Q M)(l:Rd d h j g)(m:g.size<=k)(n:Q<=i):XP S d h g i (WX b c a) (.agg #[vi e.op,vi e.bN,O.v s]) (ai M k 0 [.i e.op,.i e.bN,.s s]):=
 ⟨s,e,rfl,(f.put D _ _).fg.sl,f.wx,(r.put l m _ _).r.mono n,(r.put l m _ _).f⟩
end
section
variable{b:List Nat}{c P:Nat}{g d p:O}{f:List bB}{e:List dw}{m:I}
def Jl(hS:∀l∈b,l<m.size)(z:c∈b)(l:GC c g P d p f e m)(hP:P+200+Cg 18<=10000000000000000):aO cw 279 [vp c 0,.agg #[O.v d,O.v p]] m (XP b c g m (P+200+Cg 18) (WX f e.length 0)):=by
 apply Cm (c,0);simp -zeta only[aD,aC];intro h q A;obtain⟨x2,hl⟩:=dG (a:=h) (c:=q) rfl rfl;have s1:h.size=m.size+1:=by simp[h]
 have s2:q.size=m.size+2:=by simp[q,s1]
 have Y:J q A:=J.push _ _;have y:=l.rd.lt;have ac:ap (bO [c] A) (.mk q.size 0 3 3) [1,1,3]:=ap.lit aE _ bJ rfl rfl D;clear_value A;clear_value q;have G:∀{i:I},q.size<=i.size->∀l∈h.size::b,l<i.size:=λF=>bR hS V V;have r3:Rs c g m P A:=⟨(x2.trans Y).fz _,(l.rd.ext x2).ext Y⟩;have z3:=Y.size;refine(kN r3.r V ac D).mono λ_ m4⟨X,u,ht,d4,H⟩=>⟨(lw y bJ:Lw c [h.size,m.size] A).dm H,X,u,?_⟩;have r4:=r3.to H d4;have z4:=H.size;intro R;have x5:J m4 R:=J.push _ _;have ae:ap (bO [c] R) (.mk m4.size 0 1 1) [X]:=ap.lit aE _ (by simp;exact d4.lt) rfl rfl D;clear_value R;have T:=r4.ext x5;have z5:=x5.size;refine EZ (S:=h.size::b) (G V) (by simp[z]) (l.to T.f T.r) V ae D (l.gp.ty (t:=0) bh bh) bh (lw y bJ) λE s6 v h6 d6 f6=>?_;intro m7 B;obtain⟨x8,b8,z8⟩:=BX.new (f:=m7) (d:=B) h6 rfl rfl;clear_value B;have z6:=f6.size;have U:=(T.to f6 d6).ext x8;have N:v.size≠c:=V;have L8:∀{i:I},B.size<=i.size->Lw c [v.size,h.size,m.size] i:=λF=>lw y bJ;refine⟨λi=>∃W u,BX (h.size::b) f e.length 1 v.size i W u/\Rs c g m (P+2+Cg 18) i/\B.size<=i.size,?_,?_⟩
 ·refine(cB U.r V 3).mono λ_ n⟨aa,K,_,_,x,j⟩=>⟨(L8 (ad _)).dm j,aa,K,λ_=>?_,λ_=>⟨s6,E,b8.fz (by simp[z]) N j,⟨(U.to j x).f,x.mono V⟩,j.size⟩⟩;have s:=b8.fz (by simp[z]) N j;have r9:=U.to j x;have z9:=j.size;intro o;have w:J n o:=J.push _ _;have Q:fw (bO (v.size::h.size::b) o) (.mk n.size 0 1 1) [E]:=oN (S:=v.size::h.size::b) (M:=n) [(E,s6)] D (bR (G (i:=n) V) (ad _) s.b.lt) (by simp;exact s.h.sl) rfl rfl;have uG:=w.size;refine jq (M:=o) Q (.eR (a:=1) (b:=f) (c:=e.length) bh (λF=>V) bh (λF=>V) (by simp;exact s.h.wx)) (L8 V) λab af L C=>?_;have r:=(r9.ext w).ext C;have Z:=((s.ext w).ext C).set L;exact⟨ab,.mk 5 0 [E],Z,⟨(r.put l.rd V _ _).f,((r.put l.rd V _ _).r).mono V⟩,by rw[av];have:=C.size;omega⟩
 rintro i ⟨W,u,r,aa,ah⟩;refine⟨_,r.b.cp 0,_,r.b.cp 1,_,r.b.cp 2,?_⟩;have Z:∀{i:I},B.size<=i.size->Lw c [h.size,m.size] i:=λF=>lw y bJ;refine XP.kk (KX (c:=h.size::b) f e.length (G V) (by simp[z]) aa.r V X) (Z ah) λs9 e9 n h9 w9 x j=>?_;have K:=λag=>kg j y (k:=v.size) ⟨V,r.b.lt⟩ ag;refine⟨K _,K _,K _,?_⟩;have z9:=j.size;intro o;have w:J n o:=J.push _ _;have s:=r.fz (by simp[z]) N j;have Q:fw (bO (h.size::b) o) (.mk n.size 0 2 2) [e9,u]:=oN (S:=h.size::b) (M:=n) [(e9,s9),(u,W)] D (G V) (by simp;exact⟨h9,s.h.fg.sl⟩) rfl rfl;refine jq (M:=o) Q (.lt w9 r.h.wx) (Z (by have:=w.size;omega)) λab af L C=>?_;exact L.ic (((aa.to j x).ext w).ext C) l.rd V V
def I7(hS:∀j∈b,j<m.size)(z:c∈b)(j:GC c g P d p f e m)(hP:P+200+2*Cg 18<=10000000000000000){L:Nat}{q:dw}(hq:e[L]? =some q)(h1:1<=q.params.length):
 aO cw 282 [vp c 0,.agg #[O.v d,O.v p],vi L] m (XP b c g m (P+200+2*Cg 18) (WX f e.length q.params.length)):=by
 apply Ca (c,0)
 simp -zeta only[aD,aC]
 intro i E
 obtain⟨x2,hl⟩:=dG (a:=i) (c:=E) rfl rfl
 have s1:i.size=m.size+1:=by simp[i]
 have s2:E.size=m.size+2:=by simp[E,s1]
 have y:=j.rd.lt
 clear_value E
 have w:∀{h:I},E.size<=h.size->∀j∈i.size::b,j<h.size:=λo=>bR hS V V
 have r2:Rs c g m P E:=⟨x2.fz _,j.rd.ext x2⟩
 have u:∀{h:I},E.size<=h.size->Lw c [i.size,m.size] h:=λo=>lw y bJ
 obtain⟨ps,ay,e0,e1⟩:=j.hp.E hq
 have aX:=ax hq
 have a0:=j.hp.len
 have Z:=wE _ (j.gp.dt q (ar hq))
 have h3:q.params.length<=3:=Z.1
 have Y:∀{h:I},Fz [c] m h->IR c h ps q.params:=λah=>ay.le (fh ah)
 have E1:∀{h:I},Fz [c] m h->af h p.F (p.off+L*5+1)=some (vi q.aV):=λah=>(eg.1 (fh ah _ _ _ e1)).2
 refine⟨V,V,ps,(eg.1 (fh r2.f _ _ _ e0)).2,?_⟩
 refine wB (i.size::b) f e.length (a:=q.params.length) (u (ad _)) V λs3 m3 aw x3=>?_
 have z3:=x3.size
 refine Ip (i.size::b) f e.length q.params.length (u z3) 1 λs4 m4 h4 x4=>?_
 have z4:=x4.size
 intro m5
 have x5:J m4 m5:=J.push _ _
 have aL:fw (bO (i.size::b) m5) (.mk m4.size 0 2 2) [.mk 12 0 [],.mk 0 1 []]:=oN (S:=i.size::b) (M:=m4) [(.mk 12 0 [],s3),(.mk 0 1 [],s4)] D (w V) (by simp;exact⟨(aw.ext x4).sl,h4.sl⟩) rfl rfl
 have z5:=x5.size
 refine jq (M:=m5) aL (.eR (a:=q.params.length) (b:=f) (c:=e.length) bh (λo=>V) bh (λo=>V) (by simp;exact⟨aw.wx,h4.wx⟩)) (u V) λs6 N h6 x6=>?_
 have z6:=x6.size
 have r6:=(((r2.ext x3).ext x4).ext x5).ext x6
 intro m7
 have x7:J N m7:=J.push _ _
 have g7:GE (i.size::b) N m7 (.mk N.size 0 1 1) [.mk 2 0 [.mk 12 0 [],.mk 0 1 []]]:=J8 (w V) 0 [(.mk 2 0 [.mk 12 0 [],.mk 0 1 []],s6)] D (by simpa using h6.sl) rfl rfl
 clear_value m7
 have a1:=ay.len
 refine P3 (a:=q.params.length) V h1 (λaa G h=>∃A,GE (i.size::b) N h G A/\A.length=aa/\(∀x∈A,WX f e.length q.params.length x)/\Rd c g (P+22*aa) h/\Fz [c] N h) ⟨_,g7,rfl,by simpa using h6.wx,(r6.r.ext x7).mono V,x7.fz _⟩ ?_
 rintro aa G h aW μ aY hj ⟨A,s,aZ,hw,rM,fM⟩ aP
 have X:=r6.f.trans fM
 have zM:=fM.size
 refine⟨λo=>?_,λ_=>?_⟩
 ·simp only[au]at o
  obtain⟨B,r⟩:=ag (l:=q.params) (k:=aa) V
  have v:=Z.2.1 B (ar r)
  refine⟨V,V,B,(eg.1 ((Y X).E r)).2,?_⟩
  exact XP.kv (rl (f:=G.F::i.size::b) (bR (w (h:=h) V) (ad _) s.bg.2) (by simp[z]) (j.to X rM) V (Y X) V (j.gp.ty v.1 v.2)) s fM (u V) r6.r (by simp[z]) V λx aA R H g' Q F _ _=>
   aP V _ _ ⟨_,g',bJ,λC K=>by rcases List.mem_append.1 K with o|o;exact hw C o;simp at o;subst o;exact H.1,Q.mono V,F⟩
 refine jq (s.done Bd.mono (w (h:=N) V) bh V) (.eR (a:=q.params.length) (b:=f) (c:=e.length) bh (λo=>V) bh (λ_=>⟨V,V⟩) hw) (u V) λs8 r h8 x8=>?_
 intro m9 B
 obtain⟨aB,ae,uG⟩:=BX.new (f:=m9) (d:=B) h8 rfl rfl
 clear_value B
 have z8:=x8.size
 have F:Rs c g m (P+66) B:=⟨(X.then x8).then aB,((rM.ext x8).ext aB).mono V⟩
 have hk:r.size≠c:=V
 refine⟨λh=>∃G x,BX (i.size::b) f e.length q.params.length r.size h G x/\Rs c g m (P+66+Cg 18) h/\B.size<=h.size,⟨V,V,_,E1 F.f,λ_=>?_,λ_=>⟨s8,_,ae,⟨F.f,F.r.mono V⟩,ad _⟩⟩,?_⟩
 ·have W:∀{h:I},B.size<=h.size->Lw c [r.size,i.size,m.size] h:=λo=>lw y bJ
  have aj:∀{h:I},B.size<=h.size->∀j∈r.size::i.size::b,j<h.size:=λo=>bR (w (h:=B) V) o V
  refine EZ (S:=r.size::i.size::b) (aj (ad _)) (by simp[z]) (j.to F.f F.r) V (Y F.f) V (j.gp.ty (t:=0) bh bh) bh (W (ad _)) λK ak ab R am v=>?_
  have s:=λU=>kg v y (k:=r.size) ⟨V,ae.b.lt⟩ U
  refine⟨s _,s _,s _,?_⟩
  have aH:=v.size
  intro C
  have H:J ab C:=J.push _ _
  have ai:=ae.fz (by simp[z]) hk v
  have T:fw (bO (r.size::i.size::b) C) (.mk ab.size 0 2 2) [K,.mk 9 L A]:=oN (S:=r.size::i.size::b) (M:=ab) [(K,ak),(.mk 9 L A,s8)] D (aj aH) (by simp;exact⟨R.sl,ai.h.sl⟩) rfl rfl
  have aV:=H.size
  refine jq (M:=C) T (.Of (by simp;exact⟨R.wx,h8.wx⟩)) (W V) λal ac an Q=>?_
  have ao:=(((F.to v am).ext H).ext Q).put j.rd (k:=r.size) V 0 [.i 6,.i 1,.s al]
  have hb:=((ai.ext H).ext Q).set an
  exact⟨al,.mk 6 1 [K,.mk 9 L A],hb,ao,by rw[av];have:=Q.size;omega⟩
 rintro M3 ⟨G,x,v,aA,a4⟩
 refine Ip (i.size::b) f e.length q.params.length (u V) 0 λak ab R aE=>?_
 have aH:=aE.size
 refine wB (i.size::b) f e.length (a:=q.params.length) (u V) V λaQ C ao H=>?_
 have aV:=H.size
 intro ac
 have Q:J C ac:=J.push _ _
 have T:fw (bO (i.size::b) ac) (.mk C.size 0 2 2) [.mk 0 0 [],.mk 12 0 []]:=oN (S:=i.size::b) (M:=C) [(.mk 0 0 [],ak),(.mk 12 0 [],aQ)] D (w V) (by simp;exact⟨(R.ext H).sl,ao.sl⟩) rfl rfl
 have a5:=Q.size
 refine jq (M:=ac) T (.eR (a:=q.params.length) (b:=f) (c:=e.length) bh (λo=>V) bh (λo=>V) (by simp;exact⟨R.wx,ao.wx⟩)) (u V) λaR aM ap aF=>?_
 intro aN az
 obtain⟨aT,am,a7⟩:=BX.new (f:=aN) (d:=az) ap rfl rfl
 clear_value az
 have a6:=aF.size
 have al:=(((aE.trans H).trans Q).trans aF).trans aT
 have W:=aA.ext al
 have v:=v.ext al
 refine⟨_,v.b.cp 0,_,v.b.cp 1,_,v.b.cp 2,V,V,_,E1 W.f,?_⟩
 refine EZ (S:=i.size::b) (w V) (by simp[z]) (j.to W.f W.r) V (Y W.f) V (j.gp.ty Z.2.2.1 Z.2.2.2) bh (lw y bJ) λan aS ai aq aJ K=>?_
 have s:=λU=>kg K y (k:=r.size) ⟨V,v.b.lt⟩ U
 have g':=λU=>kg K y (k:=aM.size) ⟨V,am.b.lt⟩ U
 refine⟨?_,?_,?_,?_,?_,?_,?_⟩
 iterate 6 first|exact s _|exact g' _
 have a8:=K.size
 intro aj
 have aG:J ai aj:=J.push _ _
 have aI:=v.fz (by simp[z]) hk K
 have T:fw (bO (i.size::b) aj) (.mk ai.size 0 3 3) [.mk 4 0 [.mk 0 0 [],.mk 12 0 []],x,an]:=oN (S:=i.size::b) (M:=ai) [(.mk 4 0 [.mk 0 0 [],.mk 12 0 []],aR),(x,G),(an,aS)] D (w V) (by simp;exact⟨(am.h.fg.fz (by simp[z]) K).sl,aI.h.fg.sl,aq.sl⟩) rfl rfl
 refine jq (M:=aj) T (.eR (a:=q.params.length) (b:=f) (c:=e.length) bh (λ_=>rfl) bh (λo=>V) (by simp;exact⟨ap.wx,v.h.wx,aq.wx⟩)) (lw y (by have:=aG.size;simp;omega)) λa3 a2 aK aU=>?_
 exact aK.ic (((W.to K aJ).ext aG).ext aU) j.rd V V
end
end
end Go.Proofs.YtgnjacfobdjeeaaGreat
