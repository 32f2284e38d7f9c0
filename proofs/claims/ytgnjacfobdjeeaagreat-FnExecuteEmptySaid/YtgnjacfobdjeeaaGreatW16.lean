/- Part of a proof, joined by a program. -/
import Derived.Test.YtgnjacfobdjeeaaGreatW11
set_option linter.unusedVariables false
set_option linter.unusedSimpArgs false
set_option linter.defProp false
set_option linter.constructorNameAsVariable false
set_option maxHeartbeats 8000000
set_option maxRecDepth 100000
namespace Go.Proofs.YtgnjacfobdjeeaaGreat
open Go.Vc
section
variable{a:Nat}{c:bX}{b:List Int}{x:O}{K:O->I->Prop}{i:Int}
def LR(b r:List Ce)(o:Nat)(c:Ce)(h:b.length<=o):(b++r).set o c=b++r.set (o -b.length) c:=by
 rw[WN _ _ h]
def ln:∀(a b r:List Ce)(o:Nat),b.length<=o->iX (b++r) o a=b++iX r (o -b.length) a
 |[],b,r,o,_=>rfl
 |c::a,b,r,o,h=>by
  simp only[iX];rw[LR _ _ _ _ h,ln a b _ (o+1) V];congr 2;omega
def CS:∀(a b r:List Ce)(o:Nat),o+a.length<=b.length->iX (b++r) o a=iX b o a++r
 |[],b,r,o,_=>rfl
 |c::a,b,r,o,h=>by
  simp only[aY]at h;simp only[iX];rw[Ln _ _ V,CS a _ _ (o+1) bJ]
def Bq{f:Nat}:∀(b:List (List Ce))(a:Nat)(e:List Ce)(o:Nat)(d:List Ce),(∀c∈b,c.length=f)->b[a]? =some e->o+d.length<=f->iX b.flatten (a*f+o) d=(b.set a (iX e o d)).flatten
 |[],a,e,o,d,_,h,_=>by simp at h
 |x::b,0,e,o,d,g,h,j=>by
  simp at h;subst h;have i:=g x ba;rw[js,PE,cC,CS _ _ _ _ V,gW,js]
 |x::b,a+1,e,o,d,g,h,j=>by
  have i:=g x ba;rw[js,ln _ _ _ _ (by rw[i,gA];omega),iU,js];have k:(a+1)*f+o -x.length=a*f+o:=by rw[i,gA];omega
  rw[k,Bq b a e o d (λc l=>g c (aj _ l)) (by simpa using h) j]
def _root_.Go.Vc.gD.set{α:Type}{f:Nat}{R:List Ce->α->Prop}{g:List (List Ce)}{b:List α}(h:gD f R g b)(a:Nat){cs:List Ce}{x:α}(m:cs.length=f)(n:R cs x):gD f R (g.set a cs) (b.set a x):=by
 refine⟨by simp[h.len],λc d=>?_,λl c y d e=>?_⟩
 ·rcases di d with d|d
  ·exact h.size c d
  ·rw[d];exact m
 ·by_cases k:l=a
  ·subst k;have i:=ax d;have j:=ax e;simp at i j;rw[dE i]at d;rw[dE j]at e;simp at d e;subst d;subst e;exact n
  ·rw[cy (λi=>k i.symm)]at d e;exact h.dt l c y d e
def _root_.Go.Vc.gD.take{α:Type}{f:Nat}{R:List Ce->α->Prop}{d:List (List Ce)}{b:List α}(h:gD f R d b)(n:Nat):gD f R (d.take n) (b.take n):=by
 refine⟨by simp[h.len],λc a=>h.size c (fR a),λj c y a e=>?_⟩;have g:=ax a;simp at g;rw[dC V]at a e;exact h.dt j c y a e
def EY{b:Nat}:∀(a:List (List Ce))(n:Nat),(∀c∈a,c.length=b)->a.flatten.take (n*b)=(a.take n).flatten
 |[],n,_=>D
 |x::a,0,_=>D
 |x::a,n+1,h=>by
  have d:=h x ba;rw[js,List.take_append,nB (by rw[d,gA];omega),Mk,js];have e:(n+1)*b -x.length=n*b:=by rw[d,gA];omega
  rw[e,EY a n λc f=>h c (aj _ f)]
section
variable{N:Nat}{e:Nat->Nat}{m:I}{d:O}{h:List bX}
def dT.len(c:dT N e m d h):d.len=h.length:=by
 obtain⟨f,b,a,_⟩:=c;have:=b.len;rw[cr a.size,a.len]at this;omega
def dT.cp(t:dT N e m d h)(b:h[a]? =some c):∃f,af m d.F (d.off+a*3)=some (vi c.aS)/\af m d.F (d.off+a*3+1)=some (vi c.jQ)/\af m d.F (d.off+a*3+2)=some (O.v f)/\ap m f c.aL/\FN N e m f c.aL:=by
 obtain⟨o,q,g,_⟩:=t;obtain⟨n,j⟩:=ag (l:=o) (k:=a) (by rw[g.len];exact ax b);obtain⟨f,rfl,s,p⟩:=g.dt a n c j b;have r:=λi c b=>q.iP (a*3+i) c (fK g.size j b);exact⟨f,r 0 (.i c.aS) rfl,r 1 (.i c.jQ) rfl,r 2 (.s f) rfl,s,p⟩
def dT.cells(j:dT N e m d h)(v:h.length<=9223372036854775807):dN m d h:=by
 have t:=j.len;obtain⟨p,f,a,_⟩:=j;refine⟨t,f.le,V,λb x n=>?_⟩;obtain⟨o,g⟩:=ag (l:=p) (k:=b) (by rw[a.len];exact ax n);obtain⟨q,rfl,s,u⟩:=a.dt b o x g n;refine⟨_,⟨q,rfl,s⟩,λi c r=>?_⟩;have:=f.iP (b*3+i) c (fK a.size g r);rwa[<-df]at this
def dT.wr(g:dT N e m d h){a o n:Nat}(f:a<h.length)(j:o+n<=3):fH m d.F (d.off+a*3+o) n:=by
 obtain⟨i,c,b,_⟩:=g;rw[df];exact c.wr (by rw[cr b.size,b.len];have:(a+1)*3<=h.length*3:=db _ f;omega)
def dT.F(c:dT N e m d h){a:Nat}(i:a<h.length):e d.F=3/\d.F<m.size:=by
 have j:=c.len;obtain⟨f,b,g,_⟩:=c;have:=b.le;have:=b.F V;exact⟨this.2,this.1⟩
def Ra(N:Nat)(e:Nat->Nat)(m:I)(d:O)(h:List bX)(f:O)(b:List Int):Prop:=
 b≠[]->(e f.F=0/\N<=f.F/\FB m f b)/\∀(i:Nat)(g:O),i<h.length->af m d.F (d.off+i*3+2)=some (O.v g)->g.len≠0->g.F≠f.F
def FB.fV{d:I}{f:O}(h:gG d m aE 1 f (b.map Ce.i))(g:b≠[]):d.size<=f.F/\FB m f b:=by
 rcases h.E with e|⟨i,c,tail,e,h2,h3,_,_⟩
 ·have a:=h.len;rw[e,dR,O.NC,PE]at a;exact absurd (List.length_eq_zero_iff.1 a) g
 ·rw[e];exact⟨h2,c,tail,rfl,h3⟩
def Ra.of{a:I}{x:Nat->Nat}{f:O}(r:dT N x a d h)(t:0<h.length->m[d.F]? =a[d.F]?)(v:b≠[]->gG a m aE 1 f (b.map Ce.i))(n:b≠[]->e f.F=0)(B:N<=a.size):Ra N e m d h f b:=λg=>by
 obtain⟨A,o⟩:=FB.fV (v g) g;refine⟨⟨n g,V,o⟩,λi y s j q=>?_⟩;obtain⟨c,p⟩:=ag s;obtain⟨z,_,_,w,k,_⟩:=r.cp p;rw[aN (t V),w]at j;have:=O.Gp.1 (lV j);subst this;have u:c.aL≠[]:=λl=>by have:=k.len;rw[l]at this;simp at this;exact q this
 have:=iB k u;omega
def dT.put(P:dT N e m d h)(ab:∀g,m.size<=g->e g=0){o:Nat}{q:bX}(K:h[a]? =some c){new:List Ce}(ho:o+new.length<=3)
 (Y:∀s,ap m s c.aL->FN N e m s c.aL->∃f,iX [.i c.aS,.i c.jQ,.s s] o new=[.i q.aS,.i q.jQ,.s f]/\ap m f q.aL/\FN N e m f q.aL/\(f=s\/Ra N e m d h f q.aL)):
 dT N e (ai m d.F (d.off+a*3+o) new) d (h.set a q)/\dv (λk=>k=3) e m e (ai m d.F (d.off+a*3+o) new):=by
 have D:=ax K
 have X:=P.F D
 have L:dv (λk=>k=3) e m e (ai m d.F (d.off+a*3+o) new):=dv.ai ab X.1 _ _
 obtain⟨w,G,p,H⟩:=P
 obtain⟨U,y⟩:=ag (l:=w) (k:=a) (by rw[p.len];exact D)
 obtain⟨s,rfl,Z,V⟩:=p.dt a U c y K
 obtain⟨f,F,M,W,C⟩:=Y s Z V
 have S:∀(j:Nat)(r:List Ce)(g:O),w[j]? =some r->r[2]? =some (.s g)->j≠a->f.len≠0->g.len≠0->f.F≠g.F:=λj r g b J aa t u=>by
  rcases C with rfl|C
  ·exact H a j _ r f g y b rfl J (λn=>aa n.symm) t u
  ·have v:q.aL≠[]:=λn=>by have:=M.len;rw[n]at this;simp at this;exact t this
   refine kd ((C v).2 j g (by rw[<-p.len];exact ax b) ?_ u);have:=G.iP (j*3+2) _ (fK p.size b J);rwa[<-df]at this
 refine⟨⟨w.set a (iX [.i c.aS,.i c.jQ,.s s] o new),?_,?_,?_⟩,L⟩
 ·rw[<-Bq w a _ o new p.size y ho,df]
  exact G.set (by rw[cr p.size,p.len];have:(a+1)*3<=h.length*3:=db _ D;omega)
 ·rw[F]
  exact(p.set a rfl ⟨f,rfl,M,W⟩).mono (xG.eV L bh)
 ·rw[F]
  have I:=ax y
  intro i j E r x T v b A B z t u
  by_cases Q:i=a
  ·subst Q
   rw[dE I]at v
   rw[cy z]at b
   simp at v;subst v
   simp at A;subst A
   exact S j r T b B (λn=>z n.symm) t u
  ·rw[cy (λn=>Q n.symm)]at v
   by_cases R:j=a
   ·subst R
    rw[dE I]at b
    simp at b;subst b
    simp at B;subst B
    exact kd (S i E x v A z u t)
   ·rw[cy (λn=>R n.symm)]at b
    exact H i j E r x T v b A B z t u
def dT.tj(j:dT N e m d h)(k:∀b,m.size<=b->e b=0)(g:h[a]? =some c)(n:Int):
 dT N e (ai m d.F (d.off+a*3) [.i n]) d (h.set a {c with aS:=n})/\dv (λb=>b=3) e m e (ai m d.F (d.off+a*3) [.i n]):=
 j.put k g (o:=0) (new:=[.i n]) D λf i b=>⟨f,rfl,i,b,Or.inl rfl⟩
def dT.setCell(l:dT N e m d h)(q:∀f,m.size<=f->e f=0)(i:a<h.length)(n t:Int){f:O}(k:ap m f b)(g:Ra N e m d h f b):
 dT N e (ai m d.F (d.off+a*3) [.i n,.i t,.s f]) d (h.set a ⟨n,t,b⟩)/\dv (λj=>j=3) e m e (ai m d.F (d.off+a*3) [.i n,.i t,.s f]):=by
 obtain⟨c,j⟩:=ag i
 exact l.put q j (o:=0) (new:=[.i n,.i t,.s f]) D λr u s=>⟨f,rfl,k,λp=>(g p).1,Or.inr g⟩
def dT.cut(j:dT N e m d h){n:Nat}(v:n<=h.length):dT N e m (d.cut 0 n 3) (h.take n):=by
 have u:=j.len;obtain⟨f,q,g,r⟩:=j;refine⟨f.take n,by rw[<-EY f n g.size];exact q.cut V,g.take n,λi k o p a l b c=>?_⟩;have s:i<n:=by have:=ax b;simp at this;omega
 have t:k<n:=by have:=ax c;simp at this;omega
 rw[dC s]at b;rw[dC t]at c;exact r i k o p a l b c
def dT.push(F:dT N e m d h)(Q:∀c,m.size<=c->e c=0)(S:x.len=1){p t:Int}{f:O}(R:fN m x.F x.off [.i p,.i t,.s f])(E:ap m f b)(C:Ra N e m d h f b)(W:h.length<=2000000000)
 (M:∀z y w,dT N z w y (h++[⟨p,t,b⟩])->dv (λk=>k=3) e m z w->K y w):jE m nh [.i (0:Int),.i (0:Int),.s O.nil] 40 d x K:=by
 have U:=F.len
 obtain⟨l,D,A,J⟩:=F
 refine gY.append (c:=[.i 0,.i 0,.s .nil]) (d:=[.i p,.i t,.s f]) D Q (by simp[S]) R V λz y w T H=>M z y w ⟨l++[[.i p,.i t,.s f]],by simpa using T,?_,?_⟩ H
 ·exact(A.yy (cs:=[.i p,.i t,.s f]) (x:=⟨p,t,b⟩) rfl ⟨f,rfl,E,λg=>(C g).1⟩).mono (xG.eV H bh)
 have G:∀(o:Nat)(q:List Ce)(c:O),l[o]? =some q->q[2]? =some (.s c)->f.len≠0->c.len≠0->f.F≠c.F:=λo q c v s g n=>by
  have P:b≠[]:=λI=>by have:=E.len;rw[I]at this;simp at this;exact g this
  refine kd ((C P).2 o c (by rw[<-A.len];exact ax v) ?_ n);have:=D.iP (o*3+2) _ (fK A.size v s);rwa[<-df]at this
 have Qg:∀{i:Nat}{k:List Ce}{a:O},(l++[[.i p,.i t,.s f]])[i]? =some k->k[2]? =some (.s a)->l[i]? =some k\/(i=l.length/\a=f):=λ{i k a} j r=>by
  rcases be i l.length with g|g
  ·rw[aw g]at j;exact Or.inl j
  ·rw[aG g]at j;have n:i -l.length=0:=by have:=ax j;simp at this;omega
   rw[n]at j;simp at j;subst j;simp at r;exact Or.inr ⟨V,r.symm⟩
 intro i o k q a c j v r s L g n
 rcases Qg j r with B|⟨B,rfl⟩
 ·rcases Qg v s with u|⟨u,rfl⟩
  ·exact J i o k q a c B u r s L g n
  ·exact kd (G i k a B r n g)
 ·rcases Qg v s with u|⟨u,rfl⟩
  ·exact G o q c u s g n
  ·omega
end
structure sL(ro:Nat->Nat)(m:I)(fr:O)(fs:List aX)(f:aX)(r o h:O)(css:List (List Ce)):Prop where
 pS:gY ro m dB 6 4 fr (css.flatten++[.i f.eP,.i f.pc,.i f.dst,.s r,.s o,.s h])
 len:css.length=fs.length
 size:∀cs∈css,cs.length=6
 dt:∀(i:Nat)(cs:List Ce)(g:aX),css[i]? =some cs->fs[i]? =some g->RO ro m i cs g
 u:gY ro m aE 1 (10+3*fs.length) r (f.u.map Ce.i)
 aR:gY ro m aE 1 (11+3*fs.length) o (f.aR.map Ce.i)
 bo:gY ro m aE 1 (12+3*fs.length) h (f.bo.map Ce.i)
section
variable{e n:Nat->Nat}{m l:I}{d:O}{a:List aX}{f:aX}{r j h:O}{k:List (List Ce)}
def oU.fP(n:oU e m d (a++[f])):∃r j h k,sL e m d a f r j h k:=by
 obtain⟨k,u,l,v,p⟩:=n;have o:k≠[]:=λb=>by rw[b]at l;simp at l
 have b:k=k.dropLast++[k.getLast o]:=(dX o).symm;generalize k.dropLast=c0 at b;generalize k.getLast o=cl at b;subst b;have t:c0.length=a.length:=by simpa using l
 obtain⟨r,j,h,rfl,y,x,n⟩:=p a.length cl f (by rw[aG V];simp[t]) D;refine⟨r,j,h,c0,by simpa using u,t,λc w=>v c (by simp[w]),λi c g q s=>p i c g ?_ ?_,y,x,n⟩
 ·rw[aw (ax q)];exact q
 ·rw[aw (ax s)];exact s
def sL.ug(T:sL e m d a f r j h k):oU e m d (a++[f]):=by
 refine⟨k++[[.i f.eP,.i f.pc,.i f.dst,.s r,.s j,.s h]],by simpa using T.pS,by simp[T.len],λl b=>?_,λi l o c g=>?_⟩
 ·rcases List.mem_append.1 b with b|b
  ·exact T.size l b
  ·simp at b;subst b;rfl
 ·rcases be i a.length with n|n
  ·rw[aw (by rw[T.len];exact n)]at c;rw[aw n]at g;exact T.dt i l o c g
  ·have p:i=a.length:=by have:=ax g;simp at this;omega
   subst p;rw[aG (by rw[T.len];omega)]at c;simp[T.len]at c g;subst c;subst g;exact⟨r,j,h,rfl,T.u,T.aR,T.bo⟩
def sL.xH(T:sL e m d a f r j h k):d.len=a.length+1:=by
 have:=T.pS.len;simp only[aZ,cr T.size,T.len,aY,dY]at this;omega
def sL.iP(T:sL e m d a f r j h k):af m d.F (d.off+a.length*6)=some (vi f.eP)/\af m d.F (d.off+a.length*6+1)=some (vi f.pc)/\af m d.F (d.off+a.length*6+2)=some (vi f.dst)/\
 af m d.F (d.off+a.length*6+3)=some (O.v r)/\af m d.F (d.off+a.length*6+4)=some (O.v j)/\af m d.F (d.off+a.length*6+5)=some (O.v h):=by
 have l:k.flatten.length=a.length*6:=by rw[cr T.size,T.len]
 have b:=λ(i:Nat)(c:Ce)(g:[Ce.i f.eP,Ce.i f.pc,Ce.i f.dst,Ce.s r,Ce.s j,Ce.s h][i]? =some c)=>T.pS.iP (a.length*6+i) c (by rw[aG V,l,Gt];exact g)
 exact⟨b 0 (.i f.eP) rfl,b 1 (.i f.pc) rfl,b 2 (.i f.dst) rfl,b 3 (.s r) rfl,b 4 (.s j) rfl,b 5 (.s h) rfl⟩
def sL.eV{p:Nat->Prop}(T:sL e m d a f r j h k)(b:dv p e m n l)(c:∀g,(g=4\/10<=g)->¬p g):sL n l d a f r j h k:=
 ⟨T.pS.eV b (c _ V),T.len,T.size,λi o q s t=>(T.dt i o q s t).eV b λg u _=>c g V,T.u.eV b (c _ V),T.aR.eV b (c _ V),T.bo.eV b (c _ V)⟩
def sL.ext(T:sL e m d a f r j h k)(c:∀b,m.size<=b->e b=0)(b:J m l):sL e l d a f r j h k:=T.eV (dv.eN (λ_=>False) b c) λ_ _=>id
def sL.xL{p:Nat->Prop}(T:sL e m d a f r j h k)(s:dv p e m n l)(t:∀b,10<=b->b<10+3*a.length->¬p b):∀(i:Nat)(c:List Ce)(g:aX),k[i]? =some c->a[i]? =some g->RO n l i c g:=λi c g q o=>
 (T.dt i c g q o).eV s λb u _=>t b V (by have:=ax o;omega)
def sL.DF(T:sL e m d a f r j h k)(q:∀b,m.size<=b->e b=0)(n:0<=i)(g:i<f.u.length)(v:Int):
 sL e (ai m r.F (r.off+i.toNat*1) [.i v]) d a {f with u:=gF f.u i v} r j h k/\dv (λb=>4<=b/\b≠9) e m e (ai m r.F (r.off+i.toNat*1) [.i v]):=by
 have p:r.cap≠0:=λl=>by have:=(T.u.uf l).1;simp at this;rw[this]at g;simp at g;omega
 have o:=T.u.F p
 have c:dv (λb=>b=10+3*a.length) e m e (ai m r.F (r.off+i.toNat*1) [.i v]):=dv.ai q o.2 _ _
 exact⟨⟨T.pS.eV c V,T.len,T.size,T.xL c λb _ s=>V,T.u.gF n g v,T.aR.eV c V,T.bo.eV c V⟩,c.mono λb s=>V⟩
def sL.pJ(T:sL e m d a f r j h k)(q:∀b,m.size<=b->e b=0)(n:0<=i)(g:i<f.aR.length)(v:Int):
 sL e (ai m j.F (j.off+i.toNat*1) [.i v]) d a {f with aR:=gF f.aR i v} r j h k/\dv (λb=>4<=b/\b≠9) e m e (ai m j.F (j.off+i.toNat*1) [.i v]):=by
 have p:j.cap≠0:=λl=>by have:=(T.aR.uf l).1;simp at this;rw[this]at g;simp at g;omega
 have o:=T.aR.F p
 have c:dv (λb=>b=11+3*a.length) e m e (ai m j.F (j.off+i.toNat*1) [.i v]):=dv.ai q o.2 _ _
 exact⟨⟨T.pS.eV c V,T.len,T.size,T.xL c λb _ s=>V,T.u.eV c V,T.aR.gF n g v,T.bo.eV c V⟩,c.mono λb s=>V⟩
def sL.Bo(T:sL e m d a f r j h k)(q:∀b,m.size<=b->e b=0)(n:0<=i)(g:i<f.bo.length)(v:Int):
 sL e (ai m h.F (h.off+i.toNat*1) [.i v]) d a {f with bo:=gF f.bo i v} r j h k/\dv (λb=>4<=b/\b≠9) e m e (ai m h.F (h.off+i.toNat*1) [.i v]):=by
 have p:h.cap≠0:=λl=>by have:=(T.bo.uf l).1;simp at this;rw[this]at g;simp at g;omega
 have o:=T.bo.F p
 have c:dv (λb=>b=12+3*a.length) e m e (ai m h.F (h.off+i.toNat*1) [.i v]):=dv.ai q o.2 _ _
 exact⟨⟨T.pS.eV c V,T.len,T.size,T.xL c λb _ s=>V,T.u.eV c V,T.aR.eV c V,T.bo.gF n g v⟩,c.mono λb s=>V⟩
def sL.F(T:sL e m d a f r j h k):e d.F=4/\d.F<m.size:=by
 have:=T.xH;have:=T.pS.le;have:=T.pS.F V;exact⟨this.2,this.1⟩
def sL.MQ(T:sL e m d a f r j h k)(l:∀b,m.size<=b->e b=0)(v:Int):
 sL e (ai m d.F (d.off+a.length*6+1) [.i v]) d a {f with pc:=v} r j h k/\dv (λb=>4<=b/\b≠9) e m e (ai m d.F (d.off+a.length*6+1) [.i v]):=by
 have i:=T.F
 have c:dv (λb=>b=4) e m e (ai m d.F (d.off+a.length*6+1) [.i v]):=dv.ai l i.1 _ _
 refine⟨⟨?_,T.len,T.size,T.xL c λb n p=>V,T.u.eV c V,T.aR.eV c V,T.bo.eV c V⟩,c.mono λb q=>V⟩
 have g:k.flatten.length=a.length*6:=by rw[cr T.size,T.len]
 have:=T.pS.set (o:=a.length*6+1) (new:=[.i v]) (by simp[g])
 rw[ln _ _ _ _ V,g,Gt]at this
 rw[df];exact this
def sL.Uy(T:sL e m d a f r j h k):fH m d.F (d.off+a.length*6+1) 1:=by
 rw[df];exact T.pS.wr (by simp only[aZ,cr T.size,T.len,aY,dY];omega)
end
def oU.Uo{d:Nat->Nat}{m:I}{c:O}{a:List aX}{f:aX}(e:oU d m c (a++[f])):oU d m (c.cut 0 a.length 6) a:=by
 obtain⟨r,o,h,b,T⟩:=e.fP;have g:b.flatten.length=a.length*6:=by rw[cr T.size,T.len]
 have:=T.pS.cut (n:=a.length) (by rw[T.xH];omega);rw[nj V,nB V]at this;exact⟨b,this,T.len,T.size,T.dt⟩
def oU.push{d:Nat->Nat}{m:I}{n:O}{b:List aX}(E:oU d m n b)(F:∀a,m.size<=a->d a=0)(H:x.len=1){a:aX}{c k j:O}(G:fN m x.F x.off [.i a.eP,.i a.pc,.i a.dst,.s c,.s k,.s j])
 (z:gY d m aE 1 (10+3*b.length) c (a.u.map Ce.i))(A:gY d m aE 1 (11+3*b.length) k (a.aR.map Ce.i))(B:gY d m aE 1 (12+3*b.length) j (a.bo.map Ce.i))(P:b.length<=1000000)
 (p:∀l c e,oU l e c (b++[a])->dv (λq=>q=4) d m l e->K c e):jE m dB [.i (0:Int),.i (0:Int),.i (0:Int),.s O.nil,.s O.nil,.s O.nil] 96 n x K:=by
 obtain⟨w,s,t,u,L⟩:=E
 have N:n.len=b.length:=by have:=s.len;rw[cr u,t]at this;omega
 refine gY.append (c:=[.i 0,.i 0,.i 0,.s .nil,.s .nil,.s .nil]) (d:=[.i a.eP,.i a.pc,.i a.dst,.s c,.s k,.s j]) s F (by simp[H]) G V λl M e J g=>p l M e ?_ g
 exact sL.ug (f:=a) (a:=b) (k:=w) (r:=c) (j:=k) (h:=j) ⟨by simpa using J,t,u,λi v y C D=>(L i v y C D).eV g λq p _=>V,z.eV g V,A.eV g V,B.eV g V⟩
end
section
variable{m:I}{d:List bX}{g:Nat->Nat}{b k N j:Nat}{q r:List Int}{c:bX}{i:Int}{e:Nat->Int}
def zp:∀(d:List bX)(k:Nat),k<=d.length->(∀c∈d.take k,c.aS≠0)->k<=dA d
 |[],k,a,_=>by simp at a;simp[a]
 |c::d,0,_,_=>eJ _
 |c::d,k+1,a,b=>by
  have f:=b c D;have:=zp d k (by simpa using a) (λe g=>b e (by simp[g]));simp only[dA];rw[ae f];omega
def GN:∀(d:List bX)(k:Nat)(c:bX),(∀b∈d.take k,b.aS≠0)->d[k]? =some c->c.aS=0->dA d=k
 |[],k,c,_,a,_=>by simp at a
 |b::d,0,c,_,a,e=>by simp at a;subst a;simp[dA,e]
 |b::d,k+1,c,f,a,e=>by
  have g:=f b D;have:=GN d k c (λx h=>f x (by simp[h])) (by simpa using a) e;simp only[dA];rw[ae g,this]
def FJ{i:O}(g:dN m i d):EH cw 211 [O.v i] m (vi (dA d)):=by
 apply Ak;have q:=g.len;refine eU (n:=d.length) (q▸g.fS) (λk a=>J m a/\∀c∈d.take k,c.aS≠0) ⟨J.aB _,D⟩ ?_;rintro k u I μ p ⟨a,h⟩ r
 refine dit (λo=>?_) λo=>?_
 ·obtain⟨c,f⟩:=ag (l:=d) (k:=k) V;obtain⟨s,t,j,_⟩:=(dN.ext a g).E f;refine⟨V,V,c.aS,by simpa using j,λb=>⟨?_,a⟩,λb=>r V _ ⟨a,bV f h (by simpa using b)⟩⟩;rw[GN d k c h f (by simpa using b)]
 ·refine⟨?_,a⟩;have:=zp d k p h;have:=qb d;have e:(i.len:Int)=(dA d:Int):=V;rw[e]
def pT(g:Nat->Nat)(b k:Nat):Nat->Nat:=λc=>if c=b then k else g c
def gJ(g:Nat->Nat)(b k:Nat):pT g b k b=k:=ao rfl
def eM{c:Nat}(d:c≠b):pT g b k c=g c:=ae d
def dv.pT{p:Nat->Prop}{m':I}(d:J m m')(e:∀b,m.size<=b->g b=0)(f:m.size<=b)(h:b<m'.size)(k:Nat):dv p g m (pT g b k) m':=
 ⟨d.size,λc a=>eM V,λc a=>by rw[eM V];exact e c (cg d.size a),λc a _=>d.same c a⟩
def Me{s:O}(f:dT N g m s d)(p:∀b,m.size<=b->g b=0){c:Nat}(ha:c<=d.length)(w:Int){H:O}(U:ap m H q)(X:d.length<=2000000000)(M:q.length<=1000000000)(K:N<=m.size):
 aO cw 212 [O.v s,vi c,vi w,O.v H] m λaa T=>∃v P,aa=O.v P/\dT N v T P (iH d c ⟨1,w,q⟩)/\HC g m v T:=by
 apply HO
 simp -zeta only[aD,aC]
 refine(lp U M).then M λF u D R I=>⟨F,rfl,?_⟩
 intro Y a
 have n:J u a:=((J.aB u).aK _).ai (ad _) _ _
 have s3:a.size=u.size+1:=by simp[a,Y,av]
 have t:=I.trans n
 clear_value a
 have y:HC g m g a:=dv.eN _ t p
 have C:=y.new
 have A:dT N g a s d:=f.eV (dv.eN (λ_=>False) t p) id id
 have ab:=f.len
 have S:=R.ext n
 have Q:q≠[]->g F.F=0:=λW=>by
  rcases D.F with e|e
  ·subst e;have:=R.len;simp at this;exact absurd (List.length_eq_zero_iff.1 this.symm) W
  ·exact p _ e
 have L:g u.size=0:=p _ I.size
 refine⟨λe=>?_,λe=>?_⟩
 ·simp at e
  intro h
  have i:J a h:=(J.aB a).aK _
  have jg:fN h a.size 0 [.i 1,.i w,.s F]:=(cF.push a _ _).iP
  have G:HC g m g h:=y.trans (dv.eN _ i C)
  have s4:h.size=a.size+1:=by simp[h]
  clear_value h
  refine dT.push (A.eV (dv.eN (λ_=>False) i C) id id) G.new (x:=.mk a.size 0 1 1) rfl jg (S.ext i) (Ra.of f (λz=>(t.trans i).same _ (f.F z).2) (λ_=>D.ext (n.trans i)) Q K) X λv r Z E l=>⟨λb j=>?_,v,r,rfl,?_,G.trans (l.mono λk B=>Or.inl B)⟩
  ·simp at j;subst j
   exact l.dW _ V (by rw[L];decide)
  ·rw[iH,ao V];exact E
 ·simp at e
  have h:c<d.length:=V
  have i:Int.toNat (c:Int)=c:=V
  rw[i]
  refine⟨V,V,A.wr (o:=0) h bh,?_⟩
  intro Z
  obtain⟨E,l⟩:=A.setCell C h 1 w S (Ra.of f (λz=>t.same _ (f.F z).2) (λ_=>D.ext n) Q K)
  refine⟨λb j=>?_,g,s,rfl,?_,y.trans (l.mono λk B=>Or.inl B)⟩
  ·simp at j;subst j
   exact l.dW _ V (by rw[L];decide)
  ·rw[iH,ae V];exact E
def Lh(b:d[j]? =some c)(a:c.aS≠0):iR d (j+1)=j+1:=by
 simp only[iR,b];rw[ae a]
def Ps(b:d[j]? =some c)(a:c.aS=0):iR d (j+1)=iR d j:=by
 simp only[iR,b];rw[ao a]
def xy{a:O}(b:dN m a d):aO cw 215 [O.v a] m λv o=>v=O.v (a.cut 0 (iR d d.length) 3)/\J m o:=by
 apply Jz;have x:=b.len;have u:=b.cap;have y:=b.fS;refine⟨λi o=>J m o/\∃j:Nat,i=j/\j<=d.length/\iR d j=iR d d.length,λi _=>i.toNat,⟨J.aB _,d.length,V,ad _,rfl⟩,?_⟩;rintro i s ⟨n,j,rfl,z,p⟩;have ic:iR d j=j->Value.slice=Value.slice->(0:Int)<=(0:Int)/\(0:Int)<=(j:Int)/\(j:Int)<=(a.cap:Int)/\(O.v (O.cut a (Int.toNat (0:Int)) (Int.toNat (j:Int)) 3)=O.v (a.cut 0 (iR d d.length) 3)/\J m s):=λe _=>by
  refine⟨V,V,V,?_,n⟩;rw[<-p,e];rfl
 refine⟨λf=>?_,λf=>?_⟩
 ·simp only[kU,au]at f;obtain⟨k,rfl⟩:∃k,j=k+1:=⟨j -1,V⟩;have q:cW (((k+1:Nat):Int) -1)=(k:Int):=by rw[aQ V V];omega
  rw[q];obtain⟨c,h⟩:=ag (l:=d) (k:=k) V;obtain⟨t,w,r,_⟩:=(dN.ext n b).E h;refine⟨V,V,c.aS,by simpa using r,λg=>⟨⟨n,k,rfl,V,?_⟩,by show(k:Int).toNat<((k+1:Nat):Int).toNat;omega⟩,λg=>?_⟩
  ·rw[<-p,Ps h (by simpa using g)]
  ·exact ic (Lh h (by simpa using g)) rfl
 ·simp only[kU,bH]at f;have:j=0:=V;subst this;exact ic rfl rfl
def gY.Uo{s:O}(d:gY g m aE 1 k s ((q++[i]).map Ce.i)):s.len=q.length+1/\af m s.F (s.off+q.length*1)=some (vi i)/\gY g m aE 1 k (s.cut 0 q.length 1) (q.map Ce.i):=by
 have a:s.len=q.length+1:=by have:=d.len;simp at this;omega
 refine⟨a,?_,?_⟩
 ·have:=d.iP q.length (.i i) D;rw[gX];exact this
 ·have:=d.cut (n:=q.length) V;rw[gX,fD,nj D,nB D]at this;exact this
def fE.QJ(h:fE d (λb=>e b+eL (i::r) b))(c:∀b,0<=e b)(a:gE d i)(f:(aJ d i).aS=1):fE (d.set (ix i) jc) (λb=>e b+eL ((aJ d i).aL.reverse++r) b):=by
 obtain⟨g,j⟩:=bZ a;refine fE.Qb h g f ?_ bh bh rfl (by simp[jc]) (by simp[jc]) (λ_=>rfl) λb=>?_
 ·simp only[iF a.1,ao];have:=c (ix i);have:=iG r (ix i);omega
 ·simp only[iF a.1,lM,zK];omega
def fE.OH(c:fE d (λb=>e b+eL (i::r) b))(g:∀b,0<=e b)(f:gE d i)(j:(aJ d i).aS≠1):fE (fg d i) (λb=>e b+eL r b):=by
 obtain⟨a,h⟩:=bZ f;have k:=(c.cell _ (ar a)).hi;refine fE.JG c a h V V (λb=>?_) ?_
 ·simp only[iF f.1];split<;>omega
 ·have:=g (ix i);have:=iG r (ix i);omega
def fE.QI(a:fE d (λb=>e b+eL (i::r) b))(c:i<1000):fE d (λb=>e b+eL r b):=
 a.congr λb=>by simp only[eL];rw[ae V];omega
def fE.OG(f:fE d (λb=>e b+eL (i::r) b))(c:∀b,0<=e b)(a:1000<=i):gE d i:=
 ⟨a,f.lv _ (by simp only[iF a,ao];have:=c (ix i);have:=iG r (ix i);omega)⟩
def By:List bX->Nat
 |[]=>0
 |c::d=>c.aL.length+By d
def zq:∀{d:List bX}{e:Nat}{c:bX}(b:bX),d[e]? =some c->By (d.set e b)+c.aL.length=By d+b.aL.length
 |[],e,c,b,d=>by simp at d
 |g::d,0,c,b,f=>by simp at f;subst f;simp only[gW,By];omega
 |g::d,e+1,c,b,f=>by
  have:=zq (d:=d) (e:=e) b (by simpa using f);simp only[iU,By];omega
def Nv:∀{d:List bX},(∀c∈d,c.aL.length<=3)->By d<=3*d.length
 |[],_=>by simp[By]
 |c::d,a=>by
  have:=Nv (λb e=>a b (aj _ e));have:=a c ba;simp only[By,aY];omega
def FH{F:O}(hh:dT N g m F d)(hn:∀b,m.size<=b->g b=0){ws:O}(hw:ap m ws [i])(hI:fE d (λb=>e b+eL [i] b))(he:∀b,0<=e b)(aP:d.length<=2000000000):
 aO cw 184 [O.v F,O.v ws] m λaG v=>∃y an,aG=O.v an/\dT N y v an (oX (iD d [i]))/\HC g m y v:=by
 apply Aj
 refine(lp hw D).then D λs Q o1 i1 h1=>⟨s,rfl,?_⟩
 have av:s≠.nil:=λe=>by subst e;have:=i1.len;simp at this
 have I:m.size<=s.F/\s.F<Q.size:=by
  rcases o1.F with e|e
  ·exact absurd e av
  ·rcases o1.lt with A|A
   ·exact absurd A av
   ·exact⟨e,A⟩
 have c1:HC g m (pT g s.F 6) Q:=dv.pT h1 hn I.1 I.2 6
 have a1:gY (pT g s.F 6) Q aE 1 6 s ([i].map Ce.i):=gY.fV o1 λ_=>gJ _ _ _
 have aA:dT N (pT g s.F 6) Q F d:=hh.eV (dv.pT (p:=λ_=>False) h1 hn I.1 I.2 6) id id
 have aL:=Nv λc a=>(hI.cell c a).fl
 have aM:=hh.len
 refine JJ (γ:=List bX×List Int) (λh G v=>∃y,dT N y v F h.1/\gY y v aE 1 6 G (h.2.reverse.map Ce.i)/\HC g m y v/\fE h.1 (λb=>e b+eL h.2 b)/\iD h.1 h.2=iD d [i]/\h.1.length=d.length/\h.2.length+By h.1<=1+By d) (λh=>Df h.1+h.2.length) (d,[i])
  ⟨_,aA,a1,c1,hI,rfl,rfl,D⟩ ?_
 rintro⟨a,st⟩ G m2 aH μ ⟨q,B,z,h,t,u,M,ag⟩ ad
 simp only[]at B z t u M ag
 have aw:G.len=st.length:=by have:=z.len;simp at this;omega
 refine⟨λW=>?_,λW=>?_⟩
 ·simp only[kU,au]at W
  cases st with
  |nil=>simp at aw;omega
  |cons x r=>
   simp only[PB]at z
   obtain⟨p1,p2,p3⟩:=z.Uo
   simp only[aY,mI]at aw p1 p2 p3 ag
   have e1:cW ((G.len:Int) -1)=(r.length:Int):=by rw[aQ V V];omega
   have aI:=z.le
   rw[e1]
   have A:Int.toNat (0:Int)=0:=rfl
   have e3:Int.toNat (r.length:Int)=r.length:=V
   rw[A,e3]
   refine⟨V,V,x,p2,V,V,V,(fu _ _).then λb R hb n=>⟨b,rfl,λaz=>?_,λay=>?_⟩⟩
   ·have hx:=hb.1 az
    have E:=t.OG he hx
    obtain⟨j,aq⟩:=bZ E
    have aj:=ax j
    have aC:ix x=(x -1000).toNat:=rfl
    have aN:=(t.cell _ (ar j)).hi
    have e4:cW (x -1000)=x -1000:=aQ V V
    rw[e4,<-aC]
    have K:HC q m2 q R:=dv.eN _ n h.new
    have ab:dT N q R F a:=B.eV (dv.eN (λ_=>False) n h.new) id id
    have a3:=p3.eV (dv.eN (λ_=>False) n h.new) id
    obtain⟨f0,g0,_,_,_,_⟩:=ab.cp j
    refine⟨V,V,_,g0,V,V,ab.wr (o:=0) aj bh,?_⟩
    have e5:cW ((aJ a x).aS -1)=(aJ a x).aS -1:=aQ V V
    rw[e5]
    intro m4
    obtain⟨ac,c4⟩:=ab.tj K.new j ((aJ a x).aS -1)
    have T:=a3.eV c4 bh
    have U:HC g m q m4:=(h.trans K).trans (c4.mono λk C=>Or.inl C)
    have Z:=k8 (d:=jc) j
    simp only[ao aq,jc]at Z
    simp at Z
    have aD:(a.set (ix x) {aJ a x with aS:=(aJ a x).aS -1})[ix x]? =some {aJ a x with aS:=(aJ a x).aS -1}:=eA j
    obtain⟨f1,k0,_,k2,kf,kr⟩:=ac.cp aD
    refine⟨V,V,_,k0,λX=>?_,λX=>?_⟩
    ·simp only[aF]at X
     have am:(aJ a x).aS=1:=V
     have aK:=(t.cell _ (ar j)).fl
     have aa:=kf.len
     simp only[]at aa kf kr
     have L:=zq jc j
     simp only[jc,dY]at L
     refine⟨V,V,f1,k2,gY.append (c:=[.i 0]) (d:=(aJ a x).aL.map Ce.i) T U.new (by simp[aa]) kf.Hk ?_ λae aR S q1 q2=>?_⟩
     ·have:(G.cut 0 r.length 1).len=r.length:=by have:=T.len;simp at this;omega
      rw[this,aa];omega
     have aB:=ac.eV q2 bh bh
     have H:HC g m ae S:=U.trans (q2.mono λk C=>Or.inr (Or.inr C))
     intro m6
     have Y:J S m6:=(J.aB S).aK _
     have ah:=aB.eV (dv.eN (λ_=>False) Y H.new) id id
     have a6:=q1.eV (dv.eN (λ_=>False) Y H.new) id
     have af:HC g m ae m6:=H.trans (dv.eN _ Y H.new)
     clear_value m6
     have al:ix x<(a.set (ix x) {aJ a x with aS:=(aJ a x).aS -1}).length:=by simpa using aj
     refine⟨V,V,ah.wr (o:=0) al bh,?_⟩
     intro m7
     obtain⟨ai,c7⟩:=ah.setCell af.new al 0 0 (f:=.mk S.size 0 0 0) (b:=[]) ⟨rfl,D,D,D⟩ (λP=>absurd rfl P)
     rw[Wv]at ai
     refine ad (a.set (ix x) jc,(aJ a x).aL.reverse++r) _ _ ⟨ae,ai,?_,af.trans (c7.mono λk C=>Or.inl C),t.QJ he E am,?_,by simpa using M,?_⟩ ?_
     ·have:=a6.eV c7 bh
      simpa using this
     ·rw[<-vv E am];exact u
     ·simp only[aZ,mI]
      have C:By (a.set (ix x) jc)+(aJ a x).aL.length=By a:=by simpa[jc]using L
      omega
     ·simp only[aZ,mI,aY]
      have C:Df (a.set (ix x) jc)+((aJ a x).aS.toNat+(aJ a x).aL.length)=Df a:=by simpa[jc]using Z
      omega
    ·simp only[ak]at X
     have P:(aJ a x).aS≠1:=V
     have C:=k8 (d:={aJ a x with aS:=(aJ a x).aS -1}) j
     simp only[ao aq]at C
     rw[ao V]at C
     have L:=zq {aJ a x with aS:=(aJ a x).aS -1} j
     refine ad (fg a x,r) _ _ ⟨q,ac,T,U,t.OH he E P,?_,by simpa[fg]using M,?_⟩ ?_
     ·rw[<-sS E P];exact u
     ·simp only[fg];simp only[]at L;omega
     ·simp only[fg,aY];omega
   ·have hx:=fb hb ay
    have K:HC q m2 q R:=dv.eN _ n h.new
    refine ad (a,r) _ _ ⟨q,B.eV (dv.eN (λ_=>False) n h.new) id id,p3.eV (dv.eN (λ_=>False) n h.new) id,h.trans K,t.QI V,?_,M,by simp only[];omega⟩ D
    rw[<-sT (w:=x) (λj=>hx j.1)];exact u
 ·simp only[kU,bH]at W
  have j:st=[]:=List.length_eq_zero_iff.1 V
  subst j
  rw[vu]at u
  subst u
  refine(xy (B.cells V)).mono ?_
  rintro _ R ⟨rfl,n⟩
  refine⟨_,rfl,q,_,rfl,?_,h.trans (dv.eN _ n h.new)⟩
  exact(B.eV (dv.eN (λ_=>False) n h.new) id id).cut (tC _ _)
end
section
variable{i:Int}
structure ST(m0:I)(ro:Nat->Nat)(m:I)(mb e:Nat)(bx:List Ce)(aW hp fr:O)(lo:List Int)(lh:List bX)(fs:List aX)(f:aX)(r o h:O)(css:List (List Ce)):Prop where
 cO:tJ m0 ro m mb e bx aW hp fr lo lh (fs++[f])
 fP:sL ro m fr fs f r o h css
section
variable{g:I}{a t:Nat->Nat}{m s:I}{d e:Nat}{j:List Ce}{aW l b:O}{q:List Int}{n:List bX}{c:List aX}{f:aX}{r o h:O}{k:List (List Ce)}
def ST.ext(S:ST g a m d e j aW l b q n c f r o h k)(i:J m s):ST g a s d e j aW l b q n c f r o h k/\To a m a s:=
 ⟨⟨(S.cO.ext i).1,S.fP.ext S.cO.new i⟩,(S.cO.ext i).2⟩
def ST.DF(S:ST g a m d e j aW l b q n c f r o h k){i:Int}(s:0<=i)(t:i<f.u.length)(v:Int):ST g a (ai m r.F (r.off+i.toNat*1) [.i v]) d e j aW l b q n c {f with u:=gF f.u i v} r o h k/\To a m a (ai m r.F (r.off+i.toNat*1) [.i v]):=by
 obtain⟨p,w⟩:=S.fP.DF S.cO.new s t v;obtain⟨x,y⟩:=S.cO.jz w p.ug;exact⟨⟨x,p⟩,y⟩
def ST.pJ(S:ST g a m d e j aW l b q n c f r o h k){i:Int}(s:0<=i)(t:i<f.aR.length)(v:Int):ST g a (ai m o.F (o.off+i.toNat*1) [.i v]) d e j aW l b q n c {f with aR:=gF f.aR i v} r o h k/\To a m a (ai m o.F (o.off+i.toNat*1) [.i v]):=by
 obtain⟨p,u⟩:=S.fP.pJ S.cO.new s t v;obtain⟨w,x⟩:=S.cO.jz u p.ug;exact⟨⟨w,p⟩,x⟩
def ST.Bo(S:ST g a m d e j aW l b q n c f r o h k){i:Int}(s:0<=i)(t:i<f.bo.length)(v:Int):ST g a (ai m h.F (h.off+i.toNat*1) [.i v]) d e j aW l b q n c {f with bo:=gF f.bo i v} r o h k/\To a m a (ai m h.F (h.off+i.toNat*1) [.i v]):=by
 obtain⟨p,u⟩:=S.fP.Bo S.cO.new s t v;obtain⟨w,x⟩:=S.cO.jz u p.ug;exact⟨⟨w,p⟩,x⟩
def ST.MQ(S:ST g a m d e j aW l b q n c f r o h k)(v:Int):ST g a (ai m b.F (b.off+c.length*6+1) [.i v]) d e j aW l b q n c {f with pc:=v} r o h k/\To a m a (ai m b.F (b.off+c.length*6+1) [.i v]):=by
 obtain⟨i,p⟩:=S.fP.MQ S.cO.new v;obtain⟨s,t⟩:=S.cO.jz p i.ug;exact⟨⟨s,i⟩,t⟩
def ST.je(S:ST g a m d e j aW l b q n c f r o h k)(i:Nat)(s:List Ce):ST g a (ai m d i s) d e (iX j i s) aW l b q n c f r o h k/\To a m a (ai m d i s):=by
 obtain⟨u,v⟩:=S.cO.je i s;exact⟨⟨u,S.fP.eV (dv.ai (p:=λt=>t=1) S.cO.new S.cO.PG i s) λt w=>V⟩,v⟩
def ST.fU(S:ST g a m d e j aW l b q n c f r o h k)(i:HC a m t s){p:O}{u:List bX}(x:dT g.size t s p u):ST g t s d e j aW p b q u c f r o h k/\To a m t s:=by
 obtain⟨v,w⟩:=S.cO.fU i x;exact⟨⟨v,S.fP.eV i λz y=>V⟩,w⟩
def ST.KI(S:ST g a m d e j aW l b q n c f r o h k)(i:dv (λp=>p=2) a m t s){v:O}{u:List Int}(y:gY t s aE 1 2 v (u.map Ce.i)):ST g t s d e j v l b u n c f r o h k/\To a m t s:=by
 obtain⟨w,x⟩:=S.cO.KI i y;exact⟨⟨w,S.fP.eV i λp z=>V⟩,x⟩
end
def dv.Qo{c f:Nat->Nat}{m a:I}(h:To c m f a){b:Nat}(e:b<m.size)(d:c b=0):eE [b] m a:=h.dm (by simpa using⟨e,d⟩)
abbrev SB(d p:O)(s:St)(aW b a:O):List Ce:=[.s d,.s p,.i s.bU,.i s.value,.i s.bq,.i s.bA,.s aW,.s b,.s a]
def ye(f:I)(h:Nat->Nat)(m:I)(g:Nat)(e p:O)(s:St)(c:I):Prop:=
 ∃d aW b a,tJ f d c g bQ (SB e p s aW b a) aW b a s.aW s.heap s.az/\To h m d c
def ye.from{b:I}{f g:Nat->Nat}{m c a:I}{e:Nat}{d p:O}{s:St}(i:ye b g c e d p s a)(n:To f m g c):ye b f m e d p s a:=
 let⟨o,aW,l,h,j,k⟩:=i
 ⟨o,aW,l,h,j,n.trans k⟩
section
variable{q:I}{e:Nat->Nat}{m:I}{g:Nat}{d p aW b c:O}{a:St}{j:List aX}{f:aX}{r t h:O}{u:List (List Ce)}
def jP(S:ST q e m g bQ (SB d p a aW b c) aW b c a.aW a.heap j f r t h u)(s:j.length<=100000)(v:Int):
 aO cw 183 [vp g 0,vi v] m λw k=>ST q e k g bQ (SB d p a aW b c) aW b c a.aW a.heap j {f with pc:=v} r t h u/\To e m e k:=by
 apply oQ (g,0)
 have i:af m g 8=some (O.v c):=S.cO.box.cp 8
 have o:=S.fP.xH
 have l:cW ((c.len:Int) -1)=(j.length:Int):=by rw[aQ V V];omega
 have n:Int.toNat (j.length:Int)=j.length:=V
 refine⟨c,i,c,i,?_⟩
 rw[l,n]
 exact⟨V,V,S.fP.Uy,S.MQ v⟩
def AL(S:ST q e m g bQ (SB d p a aW b c) aW b c a.aW a.heap j f r t h u)(T:j.length<=100000)(k:0<=i)(x:i<f.u.length)(y:i<f.aR.length)(w:Int)(aa:0<=f.pc/\f.pc<=100000):
 aO cw 176 [vp g 0,vi i,vi w] m λ_ A=>ST q e A g bQ (SB d p a aW b c) aW b c a.aW a.heap j (aX.put {f with pc:=f.pc+1} i w 0) r t h u/\To e m e A:=by
 apply tX (g,0)
 simp -zeta only[aD,aC]
 have z:af m g 8=some (O.v c):=S.cO.box.cp 8
 have Y:=S.fP.xH
 have H:cW ((c.len:Int) -1)=(j.length:Int):=by rw[aQ V V];omega
 have I:Int.toNat (j.length:Int)=j.length:=V
 obtain⟨L,M,N,P,Q,R⟩:=S.fP.iP
 have ab:r.len=f.u.length:=by have:=S.fP.u.len;simp at this;omega
 have Z:t.len=f.aR.length:=by have:=S.fP.aR.len;simp at this;omega
 refine⟨c,z,c,z,?_⟩
 rw[H,I]
 refine⟨V,V,_,L,_,M,_,N,r,P,t,Q,h,R,?_⟩
 intro W l
 have U:J m l:=((J.aB m).aK _).ai (ad _) _ _
 have s2:l.size=m.size+1:=by simp[l,W,av]
 have n:e m.size=0:=S.cO.new _ (ad _)
 obtain⟨s,X⟩:=S.ext U
 clear_value l
 refine⟨k,V,s.fP.u.Og k x,?_⟩
 intro o
 obtain⟨v,C⟩:=s.DF k x w
 have s3:o.size=l.size:=av _ _ _ _
 refine⟨C.Qo (show m.size<l.size by omega) n,k,V,v.fP.aR.Og k y,?_⟩
 intro B
 obtain⟨F,D⟩:=v.pJ k (by simpa using y) 0
 have s4:B.size=o.size:=av _ _ _ _
 have K:cW (f.pc+1)=f.pc+1:=aQ V V
 rw[K]
 refine⟨D.Qo (show m.size<o.size by omega) n,(jP F T (f.pc+1)).mono ?_⟩
 rintro _ m5 ⟨G,E⟩
 exact⟨E.Qo (show m.size<B.size by omega) n,G,((X.trans C).trans D).trans E⟩
def tx(S:ST q e m g bQ (SB d p a aW b c) aW b c a.aW a.heap j f r t h u)(ah:j.length<=100000)(k:0<=i)(E:i<f.u.length)(n:i<f.aR.length)(w:Int):
 aO cw 186 [vp g 0,vi i,vi w] m λ_ I=>ST q e I g bQ (SB d p a aW b c) aW b c a.aW a.heap j (f.put i w (fW w)) r t h u/\To e m e I:=by
 apply tW (g,0)
 simp -zeta only[aD,aC]
 have H:af m g 8=some (O.v c):=S.cO.box.cp 8
 have ag:=S.fP.xH
 have Q:cW ((c.len:Int) -1)=(j.length:Int):=by rw[aQ V V];omega
 have R:Int.toNat (j.length:Int)=j.length:=V
 obtain⟨U,W,X,Y,Z,g5⟩:=S.fP.iP
 have aj:r.len=f.u.length:=by have:=S.fP.u.len;simp at this;omega
 have ai:t.len=f.aR.length:=by have:=S.fP.aR.len;simp at this;omega
 refine⟨c,H,c,H,?_⟩
 rw[Q,R]
 refine⟨V,V,_,U,_,W,_,X,r,Y,t,Z,h,g5,?_⟩
 intro m1 l
 have ac:J m l:=((J.aB m).aK _).ai (ad _) _ _
 have s2:l.size=m.size+1:=by simp[l,m1,av]
 have o:e m.size=0:=S.cO.new _ (ad _)
 obtain⟨B,L⟩:=S.ext ac
 clear_value l
 refine⟨k,V,B.fP.u.Og k E,?_⟩
 intro x
 obtain⟨C,y⟩:=B.DF k E w
 have s3:x.size=l.size:=av _ _ _ _
 refine⟨y.Qo (show m.size<l.size by omega) o,k,V,C.fP.aR.Og k n,?_⟩
 intro K
 obtain⟨N,z⟩:=C.pJ k (by simpa using n) 0
 have s4:K.size=x.size:=av _ _ _ _
 refine⟨z.Qo (show m.size<x.size by omega) o,(fu _ _).mono ?_⟩
 rintro _ m5 ⟨P,rfl,G,F⟩
 obtain⟨s,A⟩:=N.ext F
 have s5:=F.size
 refine⟨A.Qo (show m.size<K.size by omega) o,P,rfl,λab=>?_,λaa=>?_⟩
 ·refine⟨k,V,s.fP.aR.Og k (by simpa[jM]using n),?_⟩
  intro m6
  obtain⟨D,M⟩:=s.pJ k (by simpa[jM]using n) 1
  refine⟨M.Qo (show m.size<m5.size by omega) o,?_,(((L.trans y).trans z).trans A).trans M⟩
  have T:gF (gF f.aR i 0) i 1=gF f.aR i 1:=by simp[gF,Wv]
  have v:fW w=1:=by rw[fW,ao (G.1 ab)]
  simp only[T]at D
  rw[v];exact D
 ·refine⟨?_,((L.trans y).trans z).trans A⟩
  have v:fW w=0:=by rw[fW,ae (fb G aa)]
  rw[v];exact s
def vO:∀(a:List Int)(g:List bX),(jy g a).length=g.length
 |[],g=>rfl
 |w::a,g=>by rw[jy,vO a];simp[nl]
def DB:∀(a:List Int)(g:List bX)(w:Int),jy g (a++[w])=nl (jy g a) w
 |[],g,w=>rfl
 |v::a,g,w=>by rw[cU,jy,DB a,jy]
def zO:∀(b:List Int)(g:List bX)(n:Int),(∀c∈g,-10<=c.aS/\c.aS<=n)->∀c∈jy g b,-10<=c.aS/\c.aS<=n+b.length
 |[],g,n,h,c,e=>by have:=h c e;simp;omega
 |w::b,g,n,h,c,e=>by
  have:=zO b (nl g w) (n+1) (λd a=>by
   rcases nI a with rfl|⟨j,_,i⟩
   ·simp only[aJ];cases f:g[ix w]? with
    |none=>
     unfold nl at a;rw[ru (List.getElem?_eq_none_iff.1 f)]at a;have:=h _ a;simp only[aJ,f]at this⊢;omega
    |some x=>have:=h x (ar f);simp only[vh];omega
   ·have:=h d (ar i);omega) c e
  simp only[aY];omega
def CT(L:tJ q e m g bQ (SB d p a aW b c) aW b c a.aW a.heap j){w:O}{f:List Int}(y:ap m w f)(R:f≠[]->e w.F=0)(N:∀h∈f,1000<=h/\ix h<a.heap.length)(J:∀i∈a.heap,-10<=i.aS/\i.aS<=999999)(ab:f.length<=1000000)(Y:a.heap.length<=2000000000):
 aO cw 182 [vp g 0,O.v w] m λ_ u=>dT q.size e u b (jy a.heap f)/\dv (λh=>h=3) e m e u:=by
 apply uZ (g,0)
 have ac:=y.len
 have K:af m g 7=some (O.v b):=L.box.cp 7
 refine eU (n:=f.length) V (λh u=>dT q.size e u b (jy a.heap (f.take h))/\dv (λh=>h=3) e m e u) ⟨L.heap,dv.aB _ L.new⟩ ?_
 rintro h C U μ Z ⟨r,s⟩ T
 refine dit (λH=>?_) λH=>?_
 ·obtain⟨x,t⟩:=ag (l:=f) (k:=h) V
  obtain⟨ad,B⟩:=N x (ar t)
  have A:f≠[]:=λD=>by rw[D]at t;simp at t
  have S:ap C w f:=gL y λ_=>s.dW _ (iB y A) (by rw[R A];decide)
  have z:af C g 7=some (O.v b):=by rw[aN (s.dW _ L.box.lt (by rw[L.PG];decide))];exact K
  have Q:=r.len
  rw[vO]at Q
  obtain⟨i,v⟩:=ag (l:=jy a.heap (f.take h)) (k:=ix x) (by rw[vO];exact B)
  obtain⟨W,G,_⟩:=r.cp v
  have P:ix x=(x -1000).toNat:=rfl
  have E:cW (x -1000)=x -1000:=aQ V V
  have X:=zO (f.take h) a.heap 999999 J i (ar v)
  have aa:((f.take h).length:Int)<=1000000:=bJ
  have F:cW (i.aS+1)=i.aS+1:=aQ V V
  refine⟨V,V,x,by simpa using S.E t,b,z,b,z,?_⟩
  rw[E,<-P]
  refine⟨V,V,i.aS,G,V,V,r.wr (o:=0) (by rw[vO];exact B) bh,?_⟩
  rw[F]
  obtain⟨M,I⟩:=r.tj s.new v (i.aS+1)
  refine T V _ ⟨?_,s.trans I⟩
  rw[bn t,DB]
  have:aJ (jy a.heap (f.take h)) x=i:=by simp[aJ,v]
  unfold nl
  rw[this];exact M
 ·rw[cN V]at r
  exact⟨r,s⟩
def AP(L:tJ q e m g bQ (SB d p a aW b c) aW b c a.aW a.heap j){w:Int}(A:gE a.heap w){k:Nat->Int}(r:fE a.heap k)(N:a.heap.length<=2000000000):
 aO cw 214 [vp g 0,vi w] m λE u=>∃i:Bool,E=vb i/\(i=true<->(aJ a.heap w).aS=1)/\dv (λy=>y=3) e m e u/\(i=true->dT q.size e u b a.heap)/\(i=false->dT q.size e u b (jy (fg a.heap w) (kL (aJ a.heap w).aL))):=by
 apply tY (g,0)
 obtain⟨f,ae⟩:=bZ A
 have Q:=ax f
 have ac:=L.heap.len
 have P:ix w=(w -1000).toNat:=rfl
 have ab:=A.1
 have H:cW (w -1000)=w -1000:=aQ V V
 have t:af m g 7=some (O.v b):=L.box.cp 7
 have ad:=(r.cell _ (ar f)).hi
 have I:cW ((aJ a.heap w).aS -1)=(aJ a.heap w).aS -1:=aQ V V
 obtain⟨Z,x,g1,g2,gf,gr⟩:=L.heap.cp f
 rw[H,<-P]
 refine⟨b,t,V,V,_,x,λn=>?_,λn=>?_⟩
 ·exact⟨true,rfl,by simpa using n,dv.aB _ L.new,λ_=>L.heap,λh=>by simp at h⟩
 ·simp only[ak]at n
  refine⟨b,t,b,t,V,V,_,x,V,V,L.heap.wr (o:=0) Q bh,?_⟩
  rw[I]
  intro m1
  obtain⟨z,l⟩:=L.heap.tj L.new f ((aJ a.heap w).aS -1)
  obtain⟨J,k0,k1,W,X,kr⟩:=z.cp (eA f)
  obtain⟨v,t1⟩:=L.fU (l.mono λy B=>Or.inl B) z
  have aa:=(r.cell _ (ar f)).fl
  refine⟨b,v.box.cp 7,V,V,J,W,?_⟩
  refine(oE X (by simp only[];omega)).then (by have:=nM (aJ a.heap w).aL;simp only[];omega) λD m2 Y C y=>⟨D,rfl,?_⟩
  obtain⟨F,t2⟩:=v.ext y
  have S:kL (aJ a.heap w).aL≠[]->e D.F=0:=λR=>by
   rcases Y.F with k|k
   ·subst k;have:=C.len;simp at this;exact absurd (List.length_eq_zero_iff.1 this.symm) R
   ·exact l.new _ k
  have:=nM (aJ a.heap w).aL
  refine(CT (a:={a with heap:=fg a.heap w}) (j:=j) F C S (λE T=>?_) (λG K=>?_) (by simp only[];omega) (by simpa[fg]using N)).mono ?_
  ·obtain⟨U,B⟩:=lW.1 T
   have M:=r.field (ar f) U B
   exact⟨B,by simpa[fg]using ax (bZ M).1⟩
  ·rcases nI K with rfl|⟨i,_,B⟩
   ·simp only[];omega
   ·have:=r.cell G (ar B);have M:=this.lo;have U:=this.hi;omega
  ·rintro _ U ⟨M,B⟩
   exact⟨false,rfl,by simpa using n,(l.trans (dv.eN _ y l.new)).trans B,λh=>by simp at h,λ_=>M⟩
end
end
section
variable{q:Nat->Nat}{c:I}{e:Nat}{g:List Ce}{x:Instr}{a j:O}{b:Int}
def xZ(c:Nat->Nat)(m:I)(a:List Nat):Prop:=∀b∈a,b<m.size/\c b=0
def xZ.to{p:Nat->Prop}{e:Nat->Nat}{m:I}{d:List Nat}(h:xZ e m d)(t:dv p e m q c):xZ q c d:=λb a=>⟨aP (h b a).1 t.size,by rw[t.iW b (h b a).1];exact(h b a).2⟩
def dv.dF{b:Nat->Nat}{m:I}(t:To b m q c){a:List Nat}(h:xZ b m a):eE a m c:=t.dm h
def xZ.JA{f:Nat->Nat}{m d e:I}(c:∀b,m.size<=b->f b=0)(g:d.size=m.size+1)(h:e.size=m.size+2):xZ f e [d.size,m.size]:=λb a=>by
 simp at a;rcases a with rfl|rfl
 ·exact⟨V,c _ V⟩
 ·exact⟨V,c _ V⟩
noncomputable def nm (s:St) (a:List aX) (f:aX) (x:Instr) (t:Int):St:=
 open Classical in
 if x.bW≠0/\E f.bo (x.bW -1)≠0 then
  {s with heap:=s.heap.set (ix (E f.bo (x.bW -1))) ⟨1,t,cv f x.args⟩,az:=a++[aX.put {f with pc:=f.pc+1,bo:=gF f.bo (x.bW -1) 0} x.dst (E f.bo (x.bW -1)) 1]}
 else{s with heap:=iH s.heap (dA s.heap) ⟨1,t,cv f x.args⟩,az:=a++[aX.put {f with pc:=f.pc+1} x.dst (1000+dA s.heap) 1]}
section
variable{G:I}{A:Nat->Nat}{v:I}{F:Nat}{d p aW y B:O}{u:St}{C:List aX}{t:aX}{r z h:O}{H:List (List Ce)}
def ST.zQ{b:List Int}{a:List bX}(S:ST G A v F e g aW y B b a C t r z h H)(c:t.u.length<=1000000):ap v r t.u:=S.fP.u.mZ V
def ST.Ix{b:List Int}{a:List bX}(S:ST G A v F e g aW y B b a C t r z h H)(c:t.aR.length<=1000000):ap v z t.aR:=S.fP.aR.mZ V
def ST.Qc{b:List Int}{a:List bX}(S:ST G A v F e g aW y B b a C t r z h H)(c:t.bo.length<=1000000):ap v h t.bo:=S.fP.bo.mZ V
def uw(S:ST G A v F bQ (SB d p u aW y B) aW y B u.aW u.heap C t r z h H)(ha:ap G a x.args)(ah:∀b∈x.args,0<=b/\b<t.u.length)(au:x.args.length<=4)(g:Int)
 (ay:t.u.length=t.aR.length/\t.bo.length=t.aR.length/\t.aR.length<=2000)(ai:0<=x.dst/\x.dst<t.aR.length)(ax:0<=x.bW/\x.bW<=t.bo.length)(aA:0<=t.pc/\t.pc<=100000)(ab:C.length<=100000)(av:u.heap.length<=1000000000)
 (ak:∀w∈t.bo,w≠0->1000<=w/\ix w<u.heap.length):
 aO cw 178 [vp F 0,fv t r z h,xv x a j,vi g] v λ_ c=>ye G A v F d p (nm u C t x g) c:=by
 apply rP (F,0)
 simp -zeta only[aD,aC]
 intro w I
 have an:J v I:=((J.aB v).aK _).aK _
 have s1:w.size=v.size+1:=by simp[w]
 have s2:I.size=v.size+2:=by simp[I,s1]
 have X:=xZ.JA S.cO.new s1 s2
 obtain⟨M,t2⟩:=S.ext an
 clear_value I
 have aw:h.len=t.bo.length:=by have:=S.fP.bo.len;simp at this;omega
 have q:∀{A v t},ST G A v F bQ (SB d p u aW y B) aW y B u.aW u.heap C t r z h H->af v F 7=some (O.v y):=λS=>S.cO.box.cp 7
 refine⟨y,q M,(FJ (M.cO.heap.cells V)).mono ?_⟩
 rintro _ P ⟨rfl,ac⟩
 obtain⟨o,K⟩:=M.ext ac
 have L:=X.to K
 refine⟨K.dF X,_,rfl,λaa c=>∃(b:Nat)(e:aX),aa=b/\ST G A c F bQ (SB d p u aW y B) aW y B u.aW u.heap C e r z h H/\To A v A c/\xZ A c [w.size,v.size]/\b<=u.heap.length/\
  e.u=t.u/\e.aR=t.aR/\e.pc=t.pc/\nm u C t x g={u with heap:=iH u.heap b ⟨1,g,cv t x.args⟩,az:=C++[aX.put {e with pc:=t.pc+1} x.dst (1000+b) 1]},?_,?_⟩
 ·have none:¬(x.bW≠0/\E t.bo (x.bW -1)≠0)->∃(b:Nat)(e:aX),((dA u.heap:Nat):Int)=b/\ST G A P F bQ (SB d p u aW y B) aW y B u.aW u.heap C e r z h H/\To A v A P/\xZ A P [w.size,v.size]/\b<=u.heap.length/\
   e.u=t.u/\e.aR=t.aR/\e.pc=t.pc/\nm u C t x g={u with heap:=iH u.heap b ⟨1,g,cv t x.args⟩,az:=C++[aX.put {e with pc:=t.pc+1} x.dst (1000+b) 1]}:=λY=>
   ⟨_,t,rfl,o,t2.trans K,L,qb _,rfl,rfl,rfl,by rw[nm,ae Y]⟩
  refine⟨λN=>?_,λN=>none λT=>by simp at N;omega⟩
  simp at N
  have U:cW (x.bW -1)=x.bW -1:=aQ V V
  rw[U]
  have k:0<=x.bW -1/\x.bW -1<t.bo.length:=V
  have R:=(o.Qc V).pu k.1 k.2
  refine⟨V,V,_,R,λm=>?_,λm=>none λT=>by simp at m;exact T.2 m⟩
  simp at m
  obtain⟨Z,ag⟩:=ak _ (eW k.1 k.2) m
  refine⟨V,V,_,R,V,V,o.fP.bo.Og k.1 k.2,?_⟩
  intro Q
  obtain⟨l,n⟩:=o.Bo k.1 k.2 0
  have ad:ix (E t.bo (x.bW -1))=(E t.bo (x.bW -1) -1000).toNat:=rfl
  have W:cW (E t.bo (x.bW -1) -1000)=((ix (E t.bo (x.bW -1)):Nat):Int):=by rw[aQ V V];omega
  refine⟨n.dF L,ix (E t.bo (x.bW -1)),_,W,l,(t2.trans K).trans n,L.to n,V,rfl,rfl,rfl,?_⟩
  rw[nm,ao ⟨V,m⟩,iH,ae V,iI Z]
 ·rintro aa Q ⟨b,e,rfl,l,n,Y,ag,m,eo,ep,ec⟩
  have aq:J G Q:=l.cO.bY
  have al:ap Q r t.u:=m▸l.zQ (by rw[m];omega)
  refine⟨y,q l,(rR (f:=t) al (ha.ext aq) ah V).mono ?_⟩
  rintro _ m5 ⟨ws,rfl,ow,ad⟩
  obtain⟨k,R⟩:=l.ext ad
  have Z:=Y.to R
  have am:(cv t x.args).length<=1000000000:=by simp[cv];omega
  have iw:ap m5 ws (cv t x.args):=ap.fV ow V
  refine⟨R.dF Y,ws,rfl,by rw[q k,q l],(Me k.cO.heap k.cO.new ag g iw V am k.cO.bY.size).mono ?_⟩
  rintro _ m6 ⟨ar,N,rfl,aj,c6⟩
  obtain⟨S6,T⟩:=k.fU c6 aj
  have B6:=Z.to T
  refine⟨T.dF Z,N,rfl,S6.cO.mg (i:=7) D,?_⟩
  intro m7
  obtain⟨S7,U⟩:=S6.je 7 [.s N]
  have B7:=B6.to U
  have e3:cW (1000+(b:Int))=1000+(b:Int):=aQ V V
  have e4:cW (t.pc+1)=t.pc+1:=aQ V V
  rw[e3,e4]
  refine⟨U.dF B6,(tx (a:={u with heap:=iH u.heap b ⟨1,g,cv t x.args⟩}) S7 ab ai.1 (by rw[m];omega) (by rw[eo];omega) (1000+b)).mono ?_⟩
  rintro _ m8 ⟨S8,W⟩
  have B8:=B7.to W
  refine⟨W.dF B7,(jP (a:={u with heap:=iH u.heap b ⟨1,g,cv t x.args⟩}) S8 ab (t.pc+1)).mono ?_⟩
  rintro _ m9 ⟨S9,t9⟩
  refine⟨t9.dF B8,ar,aW,N,B,?_,((((n.trans R).trans T).trans U).trans W).trans t9⟩
  rw[ec]
  have e5:fW (1000+(b:Int))=1:=by rw[fW,ao V]
  have:=S9.cO
  rw[e5]at this
  exact this
def sg:∀(a aR:List Int)(r:Int),dz aR (a++[r])=gF (dz aR a) r (E (dz aR a) r+1)
 |[],aR,r=>rfl
 |q::a,aR,r=>by rw[cU,dz,sg a,dz]
def EN{l:List Int}{i:Int}(h:∀z∈l,0<=z/\z<=b)(d:0<=b):0<=E l i/\E l i<=b:=by
 rcases be i.toNat l.length with a|a
 ·obtain⟨y,c⟩:=ag a;rw[JS c];exact h y (ar c)
 ·rw[E,fI,cY a];simp;omega
def qE:∀(c aR:List Int)(b:Int),0<=b->(∀z∈aR,0<=z/\z<=b)->∀z∈dz aR c,0<=z/\z<=b+c.length
 |[],aR,b,e,h,z,d=>by have:=h z d;simp;omega
 |r::c,aR,b,e,h,z,d=>by
  have:=qE c (gF aR r (E aR r+1)) (b+1) V (λq a=>by
   have:=EN (i:=r) h e;rcases pD a with a|a
   ·omega
   ·have:=h q a;omega) z d
  simp only[aY];omega
noncomputable def tc (u:St) (C:List aX) (t:aX) (x:Instr):St:=
 open Classical in
 if(aJ u.heap (E t.u (E x.args 0))).aS=1/\x.op=17 then
  {u with heap:=u.heap.set (ix (E t.u (E x.args 0))) ⟨-1,0,cZ (aJ u.heap (E t.u (E x.args 0))).aL.length⟩,az:=C++[{t with aR:=dz t.aR (x.args.drop 1),pc:=t.pc+1,bo:=gF t.bo (E x.args 0) (E t.u (E x.args 0))}]}
 else{u with heap:=apart u.heap (E t.u (E x.args 0)),az:=C++[{t with aR:=dz t.aR (x.args.drop 1),pc:=t.pc+1}]}
def tE(b:Nat):ni [.i (0:Int)] b=(cZ b).map Ce.i:=by
 induction b with
 |zero=>rfl
 |succ b a=>
  have:ni [.i (0:Int)] (b+1)=.i 0::ni [.i (0:Int)] b:=by simp[ni,qD]
  rw[this,a];simp[cZ,qD]
def qN{v:I}(a:0<=b)(e:b<=1000000):aO cw 159 [vi b] v λd c=>d=O.v (.mk v.size 0 b.toNat b.toNat)/\c=v.push (.cells (bG ((cZ b.toNat).map Ce.i)) aE):=by
 apply HY;refine⟨a,cE _,V,V,?_⟩;rw[tE];exact⟨rfl,rfl⟩
def MU{v:I}(b:Nat):gG v (v.push (.cells (bG ((cZ b).map Ce.i)) aE)) aE 1 (.mk v.size 0 b b) ((cZ b).map Ce.i):=gG.new (J.aB v) aE 1 _ b (by simp[jZ])
def HL(S:ST G A v F bQ (SB d p u aW y B) aW y B u.aW u.heap C t r z h H)(ha:ap G a x.args)(aq:∀g∈x.args,0<=g/\g<t.u.length)(aK:1<=x.args.length/\x.args.length<=4)(aZ:x.op=16\/x.op=17)
 (aV:t.u.length=t.aR.length/\t.bo.length=t.aR.length/\t.aR.length<=2000)(a0:0<=t.pc/\t.pc<=100000)(am:C.length<=100000)(aN:u.heap.length<=1000000000)(aH:∀T∈t.aR,0<=T/\T<=999999)
 (aj:gE u.heap (E t.u (E x.args 0))){e:Nat->Int}(hI:fE u.heap e):
 aO cw 185 [vp F 0,fv t r z h,xv x a j] v λ_ c=>ye G A v F d p (tc u C t x) c:=by
 apply sI (F,0)
 simp -zeta only[aD,aC]
 intro m1 m2
 have aI:J v m2:=((J.aB v).aK _).aK _
 have s1:m1.size=v.size+1:=by simp[m1]
 have s2:m2.size=v.size+2:=by simp[m2,s1]
 have B2:=xZ.JA S.cO.new s1 s2
 obtain⟨S2,t2⟩:=S.ext aI
 clear_value m2
 have a2:r.len=t.u.length:=by have:=S.fP.u.len;simp at this;omega
 have aY:z.len=t.aR.length:=by have:=S.fP.aR.len;simp at this;omega
 have aP:h.len=t.bo.length:=by have:=S.fP.bo.len;simp at this;omega
 have aL:=ha.len
 have K:0<=E x.args 0/\E x.args 0<t.u.length:=aq _ (eW V V)
 have ga:∀{c},J G c->∀{b:Nat}{g},x.args[b]? =some g->af c a.F (a.off+Int.toNat (b:Int)*1)=some (vi g):=λhx b g Y=>by simpa using(ha.ext hx).E Y
 refine⟨V,V,E x.args 0,(ha.ext S2.cO.bY).pu V V,K.1,V,E t.u (E x.args 0),(S2.zQ V).pu K.1 K.2,?_⟩
 refine⟨λak c=>∃b:Nat,ak=b/\1<=b/\b<=x.args.length/\ST G A c F bQ (SB d p u aW y B) aW y B u.aW u.heap C {t with aR:=dz t.aR ((x.args.take b).drop 1)} r z h H/\To A v A c/\xZ A c [m1.size,v.size],λak _=>((x.args.length:Int) -ak).toNat,⟨1,rfl,V,V,?_,t2,B2⟩,?_⟩
 ·have e1:(x.args.take 1).drop 1=[]:=D
  rw[e1];exact S2
 rintro ak m3 ⟨b,rfl,aS,aT,L,t3,B3⟩
 have aG:∀T∈dz t.aR ((x.args.take b).drop 1),0<=T/\T<=1000010:=λT hq=>by
  have:=qE _ t.aR 999999 V aH T hq;have h3:((x.args.take b).drop 1).length<=4:=bJ;omega
 refine dit (λh1=>?_) λh1=>?_
 ·obtain⟨g,Y⟩:=ag (l:=x.args) (k:=b) V
  have M:=aq g (ar Y)
  have P:g<(dz t.aR ((x.args.take b).drop 1)).length:=by rw[lD];omega
  have hb:=EN (i:=g) aG V
  refine⟨V,V,g,ga L.cO.bY Y,V,V,g,ga L.cO.bY Y,M.1,V,_,(L.Ix (by simp only[lD];omega)).pu M.1 P,M.1,V,L.fP.aR.Og M.1 P,?_⟩
  intro q
  have Q:cW (E (dz t.aR ((x.args.take b).drop 1)) g+1)=E (dz t.aR ((x.args.take b).drop 1)) g+1:=aQ V V
  obtain⟨I,N⟩:=L.pJ M.1 P (E (dz t.aR ((x.args.take b).drop 1)) g+1)
  have R:q=ai m3 z.F (z.off+g.toNat*1) [.i (E (dz t.aR ((x.args.take b).drop 1)) g+1)]:=by simp only[q,Q]
  clear_value q
  subst R
  refine⟨N.dF B3,?_,?_⟩
  ·rw[ka (k:=b) (n:=x.args.length) V V]
   refine⟨b+1,rfl,V,V,?_,t3.trans N,B3.to N⟩
   have e4:(x.args.take (b+1)).drop 1=(x.args.take b).drop 1++[g]:=by
    rw[bn Y,List.drop_append_of_le_length bJ]
   rw[e4,sg]
   exact I
  ·rw[ka (k:=b) (n:=x.args.length) V V]
   show((x.args.length:Int) -((b+1:Nat):Int)).toNat<((x.args.length:Int) -(b:Int)).toNat
   omega
 ·have e1:(x.args.take b).drop 1=x.args.drop 1:=by rw[cN V]
  rw[e1]at L
  have a3:=iI aj.1
  obtain⟨al,a1⟩:=bZ aj
  have ah:=ax al
  have aX:=L.cO.heap.len
  have e4:cW (t.pc+1)=t.pc+1:=aQ V V
  have aU:=aj.1
  have aF:ix (E t.u (E x.args 0))=(E t.u (E x.args 0) -1000).toNat:=rfl
  have e5:cW (E t.u (E x.args 0) -1000)=E t.u (E x.args 0) -1000:=aQ V V
  rw[e4,e5,<-aF]
  generalize hw:E t.u (E x.args 0)=w at*
  have gw:∀{A v lh own' held'},ST G A v F bQ (SB d p u aW y B) aW y B u.aW lh C {t with aR:=own',bo:=held'} r z h H->af v r.F (r.off+Int.toNat (E x.args 0)*1)=some (vi w):=λS=>by rw[<-hw];exact(S.zQ (by simp only[];omega)).pu K.1 K.2
  refine⟨K.1,V,w,gw L,(AP L.cO aj hI V).mono ?_⟩
  rintro _ q ⟨ay,rfl,hb,c4,aB,aA⟩
  refine⟨(c4.mono λb Q=>by omega:To A m3 A q).dF B3,ay,rfl,λav=>?_,λau=>?_⟩
  ·have ac:=hb.1 av
   obtain⟨I,N⟩:=L.fU (c4.mono λb Q=>Or.inl Q) (aB av)
   have B4:=B3.to N
   have g7:af q F 7=some (O.v y):=I.cO.box.cp 7
   refine⟨λaa=>?_,λaa=>?_⟩
   ·simp at aa
    obtain⟨f0,k0,k1,k2,kf,kr⟩:=I.cO.heap.cp al
    have az:=(hI.cell _ (ar al)).fl
    have aM:=kf.len
    refine⟨y,g7,y,g7,V,V,f0,k2,(qN V V).mono ?_⟩
    rintro _ m5 ⟨rfl,rfl⟩
    have e6:Int.toNat (f0.len:Int)=(aJ u.heap w).aL.length:=V
    rw[e6]
    have ab:J q (q.push (.cells (bG ((cZ (aJ u.heap w).aL.length).map Ce.i)) aE)):=J.push _ _
    have oz:=MU (v:=q) (aJ u.heap w).aL.length
    obtain⟨M,P⟩:=I.ext ab
    have B5:=B4.to P
    have aw:A q.size=0:=I.cO.new _ (ad _)
    generalize q.push (.cells (bG ((cZ (aJ u.heap w).aL.length).map Ce.i)) aE)=m5 at*
    obtain⟨an,c6⟩:=M.cO.heap.setCell M.cO.new ah (-1) 0 (f:=.mk q.size 0 _ _) (ap.fV oz (by rw[jZ];omega)) (Ra.of I.cO.heap (λK=>ab.same _ (I.cO.heap.F K).2) (λ_=>oz) (λ_=>aw) I.cO.bY.size)
    refine⟨P.dF B4,_,rfl,ab.cV g7,V,V,M.cO.heap.wr (o:=0) ah bh,?_⟩
    intro m6
    obtain⟨R,U⟩:=M.fU (c6.mono λb Q=>Or.inl Q) an
    have B6:=B5.to U
    refine⟨U.dF B5,K.1,V,w,gw R,K.1,V,R.fP.bo.Og K.1 (by simp only[];omega),?_⟩
    intro m7
    obtain⟨X,W⟩:=R.Bo K.1 (by simp only[];omega) w
    have B7:=B6.to W
    refine⟨W.dF B6,(jP (a:={u with heap:=u.heap.set (ix w) ⟨-1,0,cZ (aJ u.heap w).aL.length⟩}) X am (t.pc+1)).mono ?_⟩
    rintro _ m8 ⟨S8,Z⟩
    refine⟨Z.dF B7,A,aW,y,B,?_,(((((t3.trans N).trans P).trans U).trans W).trans Z)⟩
    rw[tc,hw,ao ⟨ac,aa⟩]
    exact S8.cO
   ·simp at aa
    refine⟨y,g7,?_⟩
    intro m5
    have ab:J q m5:=(J.aB q).aK _
    obtain⟨M,P⟩:=I.ext ab
    have B5:=B4.to P
    clear_value m5
    refine⟨V,V,M.cO.heap.wr (o:=0) ah bh,?_⟩
    intro m6
    obtain⟨an,c6⟩:=M.cO.heap.setCell M.cO.new ah 0 0 (f:=.mk q.size 0 0 0) (b:=[]) ⟨rfl,D,D,D⟩ (λaw=>absurd rfl aw)
    obtain⟨R,U⟩:=M.fU (c6.mono λb Q=>Or.inl Q) an
    have B6:=B5.to U
    refine⟨U.dF B5,y,R.cO.box.cp 7,(xy (R.cO.heap.cells bJ)).mono ?_⟩
    rintro _ m7 ⟨rfl,az⟩
    obtain⟨X,W⟩:=R.ext az
    have B7:=B6.to W
    refine⟨W.dF B6,_,rfl,X.cO.mg (i:=7) D,?_⟩
    intro m8
    obtain⟨aw,aM⟩:=X.fU (dv.aB _ X.cO.new) (X.cO.heap.cut (tC _ _))
    obtain⟨S8,Z⟩:=aw.je 7 [.s (y.cut 0 (iR (u.heap.set (ix w) jc) (u.heap.set (ix w) jc).length) 3)]
    have B8:=B7.to Z
    refine⟨Z.dF B7,(jP (a:={u with heap:=oX (u.heap.set (ix w) jc)}) S8 am (t.pc+1)).mono ?_⟩
    rintro _ m9 ⟨S9,t9⟩
    refine⟨t9.dF B8,A,aW,y.cut 0 (iR (u.heap.set (ix w) jc) (u.heap.set (ix w) jc).length) 3,B,?_,((((((t3.trans N).trans P).trans U).trans W).trans Z).trans t9)⟩
    rw[tc,hw,ae (λhh=>aa hh.2),Go.Proofs.YtgnjacfobdjeeaaGreat.apart,ao ac]
    exact S9.cO
  ·have ac:(aJ u.heap w).aS≠1:=λe=>by have:=hb.2 e;rw[au]at this;simp at this
   obtain⟨I,N⟩:=L.fU (c4.mono λb Q=>Or.inl Q) (aA au)
   have B4:=B3.to N
   refine(jP (a:={u with heap:=jy (fg u.heap w) (kL (aJ u.heap w).aL)}) I am (t.pc+1)).mono ?_
   rintro _ m5 ⟨M,P⟩
   refine⟨P.dF B4,A,aW,y,B,?_,(t3.trans N).trans P⟩
   rw[tc,hw,ae (λhh=>ac hh.1),Go.Proofs.YtgnjacfobdjeeaaGreat.apart,ae ac]
   exact M.cO
end
end
section
variable{t:cH}{g:Instr}{w:O}{c:List Int}{v q j s b:Nat}{e:I}
def ig(t:cH)(g:Instr):Nat->List Int->List Int
 |_,[]=>[]
 |b,a::w=>(if(g.op=9\/g.op=24)/\np t g b=true then 0 else fW a)::ig t g (b+1) w
def CR(t:cH)(g:Instr):∀(c r:List Int)(b:Nat),ig t g b (c++r)=ig t g b c++ig t g (b+c.length) r
 |[],r,b=>by simp[ig]
 |a::c,r,b=>by
  have:=CR t g c r (b+1);simp only[cU,ig,this,aY];have e:b+(c.length+1)=b+1+c.length:=V;rw[e]
def Dx(t:cH)(g:Instr):∀(c:List Int)(b:Nat),(ig t g b c).length=c.length
 |[],b=>rfl
 |a::c,b=>by simp only[ig,aY,Dx t g c]
def Iw{t:cH}{g:Instr}(a:g.op=9\/g.op=24):∀(c:List Int)(b:Nat),ig t g b c=dD (dx t g.bN).cJ b c
 |[],b=>rfl
 |e::c,b=>by
  simp only[ig,dD,Iw a c];congr 1;unfold np;by_cases h:((dx t g.bN).cJ.any λy=>y==(b:Int))=true
  ·rw[ao ⟨a,h⟩,ao h]
  ·rw[ae (λd=>h d.2),ae h]
def Ft{t:cH}{g:Instr}(a:¬(g.op=9\/g.op=24)):∀(c:List Int)(b:Nat),ig t g b c=dD [] b c
 |[],b=>rfl
 |e::c,b=>by
  simp only[ig,dD,Ft a c,PA,iT,rB];rw[ae (λd=>a d.1)]
def Eh{m:I}{q:Nat}{s E:O}(ad:eu m s E t)(Y:af m q 0=some (O.v s))(Z:af m q 1=some (O.v E))(hc:y9 t g)(H T:O)(P:ap m w c)(ai:c.length<=1000000):
 nY 216 [vp q 0,xv g H T,O.v w] m (ig t g 0 c):=by
 apply rm (q,0)
 simp -zeta only[aD,aC]
 intro a B
 have z:J m a:=(J.aB m).aK _
 have h2:J a B:=(J.aB a).aK _
 have ho:gG a B aE 1 (.mk a.size 0 0 0) []:=gG.new (J.aB a) aE 1 [] 0 D
 have f:∀r∈[m.size],r<a.size:=by simp[a]
 have aj:=P.len
 clear_value B
 clear_value a
 refine dU (n:=c.length) V (λb F e=>J a e/\gG a e aE 1 F ((ig t g 0 (c.take b)).map Ce.i)) ⟨h2,by simpa[ig]using ho⟩ ?_
 rintro b F m3 ah μ hk ⟨Q,h⟩ C
 have R:=z.trans Q
 refine dit (λaa=>?_) λaa=>?_
 ·obtain⟨G,S⟩:=ag (l:=c) (k:=b) V
  have N:(c.take b).length=b:=bJ
  have y:ig t g 0 (c.take (b+1))=ig t g 0 (c.take b)++[if(g.op=9\/g.op=24)/\np t g b=true then 0 else fW G]:=by
   rw[bn S,CR,N];simp[ig]
  have x:(ig t g 0 (c.take b)).length<1000000000:=by rw[Dx,N];omega
  refine⟨V,V,G,by simpa using R.af (P.E S),(fu _ _).aI Q f λr m4 L u o=>⟨r,rfl,λac=>?_,λab=>?_⟩⟩
  ·have A:=z.trans o
   refine⟨s,A.af Y,E,A.af Z,(rO (ad.ext A) hc H T b).aI o f λj m5 M K p=>⟨j,rfl,λv=>?_,λv=>?_⟩⟩
   ·intro U
    refine nK ((h.ext u).ext K) p x λX W i d=>⟨J.th (p.aK _) d f,C V _ _ ⟨d,?_⟩⟩
    rw[y,ae (nb M v),fW,ao (L.1 ac)];exact i
   ·intro U
    refine nK ((h.ext u).ext K) p x λX W i d=>⟨J.th (p.aK _) d f,C V _ _ ⟨d,?_⟩⟩
    rw[y,ao (yb M v)];exact i
  ·intro U
   refine nK (h.ext u) o x λX W i d=>⟨J.th (o.aK _) d f,C V _ _ ⟨d,?_⟩⟩
   rw[y]
   have p:(if(g.op=9\/g.op=24)/\np t g b=true then 0 else fW G)=0:=by
    rw[fW,ae (fb L ab)];split<;>rfl
   rw[p];exact i
 ·rw[cN V]at h
  exact⟨F,rfl,h.bY z.size,R⟩
structure o8(m e:I)(q j s v:Nat)(u aR bo:List Int):Prop where
 ext:J m e
 lo:m.size<=q/\m.size<=j/\m.size<=s/\q≠j/\q≠s/\j≠s/\q<e.size/\j<e.size/\s<e.size
 kr:cF e q aE (u.map Ce.i)
 ko:cF e j aE (aR.map Ce.i)
 kh:cF e s aE (bo.map Ce.i)
 len:u.length=v/\aR.length=v/\bo.length=v
def J9{a:I}{b:Nat}(f:cF a b aE ((cZ v).map Ce.i))(g:c.length<=v):cF (ai a b 0 (c.map Ce.i)) b aE ((c++cZ (v -c.length)).map Ce.i):=by
 have:=cF.ai (m:=a) (o:=0) (r:=c.map Ce.i) f;have e:iX ((cZ v).map Ce.i) 0 (c.map Ce.i)=(c++cZ (v -c.length)).map Ce.i:=by
  have d:=Bp [] (c.map Ce.i) ((cZ v).map Ce.i) (by simp[jZ];omega);simp only[dS,dY]at d;rw[d];simp[cZ,List.drop_replicate]
 rw[e]at this;exact this
def xS{m:I}{L U:O}(N:eu m L U t){r:Int}(W:0<=r){a:dw}(Q:t.cA[r.toNat]? =some a)(F:0<=a.u/\a.u<=2000)(M:Int){K:O}{d h:List Int}(R:ap m w d)(P:ap m K h)(ak:(d.length:Int)<=a.u)(ai:h.length=d.length):
 aO cw 114 [.agg #[O.v L,O.v U],vi r,vi M,O.v w,O.v K] m λag e=>∃q j s,ag=.agg #[vi r,vi 0,vi M,O.v (.mk q 0 a.u.toNat a.u.toNat),O.v (.mk j 0 a.u.toNat a.u.toNat),O.v (.mk s 0 a.u.toNat a.u.toNat)]/\
  o8 m e q j s a.u.toNat (d++cZ (a.u.toNat -d.length)) (h++cZ (a.u.toNat -h.length)) (cZ a.u.toNat):=by
 apply DX
 simp -zeta only[aD,aC]
 intro A b
 have z:J m b:=((J.aB m).aK _).aK _
 have s1:A.size=m.size+1:=by simp[A]
 have s2:b.size=m.size+2:=by simp[b,s1]
 have k:∀g∈[A.size,m.size],g<b.size:=bJ
 have aj:=N.cA.len
 have ah:=ax Q
 have aa:=R.len
 have Z:=P.len
 clear_value b
 obtain⟨a',l',c',_,_,_,_,_,_,k3,_⟩:=(N.ext z).cA.E Q
 refine⟨W,V,a.u,k3,(qN F.1 V).mono ?_⟩
 rintro _ c ⟨rfl,n⟩
 have C:J b c:=by rw[n];exact J.push _ _
 have s3:c.size=b.size+1:=by rw[n];simp
 have S:cF c b.size aE ((cZ a.u.toNat).map Ce.i):=by rw[n];exact cF.push _ _ _
 clear n
 refine⟨C.dm k,_,rfl,(qN F.1 V).mono ?_⟩
 rintro _ B ⟨rfl,o⟩
 have x:J c B:=by rw[o];exact J.push _ _
 have s4:B.size=c.size+1:=by rw[o];simp
 have k2:cF B c.size aE ((cZ a.u.toNat).map Ce.i):=by rw[o];exact cF.push _ _ _
 clear o
 have D:=C.trans x
 have ab:=z.trans D
 have X:min w.len a.u.toNat=d.length:=by rw[aa];exact iO V
 have Y:min K.len a.u.toNat=h.length:=by rw[Z];exact iO V
 refine⟨x.dm (λg E=>C.lt (k g E)),_,rfl,d.map Ce.i,by simp only[O.iE];rw[X];simp,(R.ext ab).Hk,(S.ext x).fH (by simp[jZ];omega),?_⟩
 intro i
 have k5:cF i b.size aE ((d++cZ (a.u.toNat -d.length)).map Ce.i):=J9 (S.ext x) V
 have T:cF i c.size aE ((cZ a.u.toNat).map Ce.i):=k2.congr (bd _ _ _ _ (show c.size≠b.size by omega))
 have u:J b i:=D.ai (ad _) _ _
 have s5:i.size=B.size:=av _ _ _ _
 clear_value i
 have ac:=z.trans u
 refine⟨J.th D u k,h.map Ce.i,by simp only[O.iE];rw[Y];simp,(P.ext ac).Hk,T.fH (by simp[jZ];omega),?_⟩
 intro f
 have k6:cF f c.size aE ((h++cZ (a.u.toNat -h.length)).map Ce.i):=J9 T V
 have af:cF f b.size aE ((d++cZ (a.u.toNat -d.length)).map Ce.i):=k5.congr (bd _ _ _ _ (show b.size≠c.size by omega))
 have v:J b f:=u.ai (show b.size<=c.size by omega) _ _
 have s6:f.size=i.size:=av _ _ _ _
 clear_value f
 refine⟨J.th u v k,(qN F.1 V).mono ?_⟩
 rintro _ l ⟨rfl,p⟩
 have y:J f l:=by rw[p];exact J.push _ _
 have s7:l.size=f.size+1:=by rw[p];simp
 have k7:cF l f.size aE ((cZ a.u.toNat).map Ce.i):=by rw[p];exact cF.push _ _ _
 clear p
 refine⟨J.th v (v.trans y) k,_,rfl,?_⟩
 intro G
 have ae:J m G:=(z.trans (v.trans y)).ai V _ _
 have s8:G.size=l.size:=av _ _ _ _
 have H:∀g,g≠A.size->G[g]? =l[g]? :=λg E=>bd _ _ _ _ E
 refine⟨b.size,c.size,f.size,rfl,ae,V,(af.ext y).congr (H _ V),(k6.ext y).congr (H _ V),k7.congr (H _ V),by simp[jZ];omega⟩
def mF(a:Nat->Nat)(q j s v:Nat):Nat->Nat:=pT (pT (pT a q (10+3*v)) j (11+3*v)) s (12+3*v)
def o8.eV{p:Nat->Prop}{d:Nat->Nat}{m:I}{u aR bo:List Int}(N:o8 m e q j s b u aR bo)(f:∀a,m.size<=a->d a=0):dv p d m (mF d q j s v) e:=by
 have g:=N.lo;refine⟨N.ext.size,λa c=>?_,λa c=>?_,λa c _=>N.ext.same a c⟩
 ·unfold mF;rw[eM V,eM V,eM V]
 ·unfold mF;rw[eM V,eM V,eM V];exact f a (by have:=N.ext.size;omega)
def o8.pS{a:Nat->Nat}{m:I}{u aR bo:List Int}(N:o8 m e q j s b u aR bo):
 gY (mF a q j s v) e aE 1 (10+3*v) (.mk q 0 b b) (u.map Ce.i)/\gY (mF a q j s v) e aE 1 (11+3*v) (.mk j 0 b b) (aR.map Ce.i)/\gY (mF a q j s v) e aE 1 (12+3*v) (.mk s 0 b b) (bo.map Ce.i):=by
 have g:=N.lo
 obtain⟨c,d,f⟩:=N.len
 refine⟨⟨by simp[c],D,Or.inr ⟨q,b,[],rfl,?_,by rw[dI];exact N.kr,by simp[c]⟩⟩,⟨by simp[d],D,Or.inr ⟨j,b,[],rfl,?_,by rw[dI];exact N.ko,by simp[d]⟩⟩,⟨by simp[f],D,Or.inr ⟨s,b,[],rfl,?_,by rw[dI];exact N.kh,by simp[f]⟩⟩⟩
 ·unfold mF;rw[eM V,eM V,gJ]
 ·unfold mF;rw[eM V,gJ]
 ·unfold mF;rw[gJ]
def o8.box{m:I}{u aR bo:List Int}(N:o8 m e q j s b u aR bo){m1:I}(a:J m1 m){nb:Nat}(d:m1.size<=nb)(f:nb<m.size)(i:Nat)(c:List Ce):o8 m1 (ai e nb i c) q j s b u aR bo:=by
 have g:=N.lo;have h:=a.size;exact⟨(a.trans N.ext).ai d _ _,by rw[av];omega,N.kr.congr (bd _ _ _ _ V),N.ko.congr (bd _ _ _ _ V),N.kh.congr (bd _ _ _ _ V),N.len⟩
def o8.OO{m c:I}{u aR bo:List Int}(N:o8 m e q j s b u aR bo)(a:J e c):o8 m c q j s b u aR bo:=by
 have d:=N.lo;have:=a.size;exact⟨N.ext.trans a,V,N.kr.ext a,N.ko.ext a,N.kh.ext a,N.len⟩
section
variable{F:I}{y:Nat->Nat}{m:I}{z:Nat}{d p aW C l:O}{A:St}{k:List aX}{u:aX}{H G E:O}{B:List (List Ce)}
def sL.replace{c:Nat->Nat}(T:sL y m l k u H G E B)(t:dv (λ_=>False) y m c e){a:aX}{i g d:O}(v:gY c e aE 1 (10+3*k.length) i (a.u.map Ce.i))(q:gY c e aE 1 (11+3*k.length) g (a.aR.map Ce.i))(s:gY c e aE 1 (12+3*k.length) d (a.bo.map Ce.i)):
 fH e l.F (l.off+k.length*6) 6/\oU c (ai e l.F (l.off+k.length*6) [.i a.eP,.i a.pc,.i a.dst,.s i,.s g,.s d]) l (k++[a])/\dv (λb=>b=4) c e c (ai e l.F (l.off+k.length*6) [.i a.eP,.i a.pc,.i a.dst,.s i,.s g,.s d]):=by
 have n:sL c e l k u H G E B:=T.eV t λ_ _=>id
 have w:=n.F
 have p:B.flatten.length=k.length*6:=by rw[cr T.size,T.len]
 have j:dv (λb=>b=4) c e c (ai e l.F (l.off+k.length*6) [.i a.eP,.i a.pc,.i a.dst,.s i,.s g,.s d]):=dv.ai t.new w.1 _ _
 refine⟨n.pS.wr (by simp[p]),sL.ug (f:=a) (a:=k) (k:=B) (r:=i) (j:=g) (h:=d) ⟨?_,T.len,T.size,n.xL j λb q s=>V,v.eV j V,q.eV j V,s.eV j V⟩,j⟩
 have:=n.pS.set (o:=k.length*6) (new:=[.i a.eP,.i a.pc,.i a.dst,.s i,.s g,.s d]) (by simp[p])
 rw[ln _ _ _ _ V,p,PD]at this
 exact this
def Mm(z c:Nat)(e:List Nat)(m q g:Int)(h i p:Int)(n l j:O)(f:I)(R:Value->I->Prop):Prop:=
 ((m==(24:Int))=true->
 let b:I:=ai f c 2 [.i g]
 ∃a:O,af b z 8=some (O.v a)/\
 ∃d:O,af b z 8=some (O.v d)/\
 (0:Int)<=(cW ((d.len:Int) -(1:Int)))/\(cW ((d.len:Int) -(1:Int)))<(a.len:Int)/\
 fH b a.F (a.off+Int.toNat (cW ((d.len:Int) -(1:Int)))*6) 6/\
 let k:I:=ai b a.F (a.off+Int.toNat (cW ((d.len:Int) -(1:Int)))*6) [.i h,.i i,.i g,.s n,.s l,.s j]
 eE (c::e) b k/\
 R (.tuple #[]) k)/\
 ((m==(24:Int))=false->
 aO cw 183 [vp z 0,vi (cW (q+(1:Int)))] f λ_ a=>
 eE (c::e) f a/\
 ∃o:O,af a z 8=some (O.v o)/\
 let d:I:=a.push (.cells (bG [.i h,.i i,.i p,.s n,.s l,.s j]) dB)
 af d z 8=af a z 8/\
 jE d dB [.i (0:Int),.i (0:Int),.i (0:Int),.s O.nil,.s O.nil,.s O.nil] 96 o (O.mk a.size 0 1 1) λr b=>
 eE (c::e) d b/\
 fH b z 8 1/\
 let k:I:=ai b z 8 [.s r]
 eE (c::e) b k/\
 R (.tuple #[]) k)
def Nq(S:ST F y m z bQ (SB d p A aW C l) aW C l A.aW A.heap k u H G E B){bs:List Nat}(M:xZ y m bs){L:Nat}{r:I}{h:aX}(N:o8 m r q j s b h.u h.aR h.bo)(aj:m.size<=L/\L<r.size)(w:L≠q/\L≠j/\L≠s)
 (aD:k.length<=100000)(aH:0<=u.pc/\u.pc<=100000){Y:Value->I->Prop}
 (ax:g.op=24->∀e,ye F y m z d p {A with az:=k++[{h with dst:=u.dst}]} e->Y (.tuple #[]) e)
 (ay:g.op≠24->∀e,ye F y m z d p {A with az:=k++[{u with pc:=u.pc+1},h]} e->Y (.tuple #[]) e):
 Mm z L bs g.op u.pc u.dst h.eP h.pc h.dst (.mk q 0 b b) (.mk j 0 b b) (.mk s 0 b b) r Y:=by
 have aF:=N.lo
 have aC:=S.fP.xH
 have K:cW ((l.len:Int) -1)=(k.length:Int):=by rw[aQ V V];omega
 have e2:Int.toNat (k.length:Int)=k.length:=V
 have e4:cW (u.pc+1)=u.pc+1:=aQ V V
 have al:y L=0:=S.cO.new _ aj.1
 have aG:=N.ext.size
 refine⟨λU=>?_,λU=>?_⟩
 ·intro P
  have W:o8 m P q j s b h.u h.aR h.bo:=⟨N.ext.ai aj.1 _ _,by simp only[P,av];omega,N.kr.congr (bd _ _ _ _ (λK=>w.1 K.symm)),N.ko.congr (bd _ _ _ _ (λK=>w.2.1 K.symm)),N.kh.congr (bd _ _ _ _ (λK=>w.2.2 K.symm)),N.len⟩
  have ad:P.size=r.size:=av _ _ _ _
  clear_value P
  have v:dv (λ_=>False) y m (mF y q j s k.length) P:=W.eV S.cO.new
  obtain⟨a1,a2,a3⟩:=W.pS (a:=y) (v:=k.length)
  obtain⟨w1,w2,Q⟩:=S.fP.replace v (a:={h with dst:=u.dst}) a1 a2 a3
  obtain⟨T,aa⟩:=S.cO.fU (v.mono λ_=>False.elim) (S.cO.heap.eV v id id)
  have R:af P z 8=some (O.v l):=T.box.cp 8
  refine⟨l,R,l,R,?_⟩
  rw[K,e2]
  refine⟨V,V,w1,?_⟩
  intro ac
  obtain⟨Z,ab⟩:=T.jz (Q.mono λb X=>V) w2
  refine⟨?_,ax (by simpa using U) _ ⟨_,aW,C,l,Z,aa.trans ab⟩⟩
  intro t o
  rcases List.mem_cons.1 o with rfl|o
  ·refine Q.dW _ V ?_
   unfold mF;rw[eM w.2.2,eM w.2.1,eM w.1,al];decide
  ·refine Q.dW _ (by have:=(M t o).1;omega) ?_
   rw[v.iW t (M t o).1,(M t o).2];decide
 ·simp only[ak]at U
  rw[e4]
  have v:dv (λ_=>False) y m (mF y q j s (k.length+1)) r:=N.eV S.cO.new
  obtain⟨a1,a2,a3⟩:=N.pS (a:=y) (v:=k.length+1)
  obtain⟨au,aB⟩:=S.cO.fU (v.mono λ_=>False.elim) (S.cO.heap.eV v id id)
  have Q:ST F (mF y q j s (k.length+1)) r z bQ (SB d p A aW C l) aW C l A.aW A.heap k u H G E B:=⟨au,S.fP.eV v λ_ _=>id⟩
  have ai:xZ (mF y q j s (k.length+1)) r (L::bs):=λt o=>by
   rcases List.mem_cons.1 o with rfl|o
   ·refine⟨V,?_⟩;unfold mF;rw[eM w.2.2,eM w.2.1,eM w.1,al]
   ·exact⟨by have:=(M t o).1;omega,by rw[v.iW t (M t o).1];exact(M t o).2⟩
  apply oQ (z,0)
  have R:af r z 8=some (O.v l):=Q.cO.box.cp 8
  refine⟨l,R,l,R,?_⟩
  rw[K,e2]
  refine⟨V,V,Q.fP.Uy,?_⟩
  intro P
  obtain⟨T,ac⟩:=Q.MQ (u.pc+1)
  have aw:dv (λb=>b=4) (mF y q j s (k.length+1)) r (mF y q j s (k.length+1)) P:=dv.ai Q.cO.new Q.fP.F.1 _ _
  have aq:=ai.to ac
  refine⟨ac.dF ai,l,T.cO.box.cp 8,?_⟩
  intro ab
  have aa:J P ab:=(J.aB P).aK _
  obtain⟨Z,ao⟩:=T.ext aa
  have ae:=aq.to ao
  have jg:fN ab P.size 0 [.i h.eP,.i h.pc,.i h.dst,.s (.mk q 0 b b),.s (.mk j 0 b b),.s (.mk s 0 b b)]:=(cF.push P _ _).iP
  have W:(k++[{u with pc:=u.pc+1}]).length=k.length+1:=D
  have ch:=λ{b:Nat}{A:O}{c:List Ce}(a:gY (mF y q j s (k.length+1)) r aE 1 b A c)(X:b≠4)=>(a.eV aw X).eV (dv.eN (λ_=>False) aa T.cO.new) id
  refine⟨aa.cV (T.cO.box.cp 8),oU.push Z.cO.az Z.cO.new (x:=.mk P.size 0 1 1) rfl (a:=h) jg (by rw[W];exact ch a1 V) (by rw[W];exact ch a2 V) (by rw[W];exact ch a3 V) (by rw[W];omega) λan am aA q1 q2=>?_⟩
  have ad:To _ ab an aA:=q2.mono λb X=>V
  obtain⟨ag,aJ⟩:=Z.cO.jz (q2.mono λb X=>V) q1
  have ar:=ae.to ad
  refine⟨ad.dF ae,ag.mg (i:=8) D,?_⟩
  intro aI
  obtain⟨ah,ap⟩:=ag.je 8 [.s am]
  refine⟨ap.dF ar,ay U _ ⟨an,aW,C,am,?_,(((aB.trans ac).trans ao).trans ad).trans ap⟩⟩
  have e9:k++[{u with pc:=u.pc+1}]++[h]=k++[{u with pc:=u.pc+1},h]:=D
  rw[e9]at ah
  exact ah
end
end
section
variable{a:cH}
noncomputable def qG (a:cH) (s:St) (b:List aX) (f:aX) (x:Instr):St:=
 if x.op=9 then{s with bq:=s.bq+1,az:=b++[{f with pc:=f.pc+1},br a x.bN x.dst (cv f x.args)]}
 else if x.op=24 then{s with bq:=s.bq+1,az:=b++[br a x.bN f.dst (cv f x.args)]}
 else{s with bq:=s.bq+1,heap:=apart s.heap (E f.u (E x.args 0)),az:=b++[{f with pc:=f.pc+1},br a ((aJ s.heap (E f.u (E x.args 0))).jQ -bI a) x.dst ((aJ s.heap (E f.u (E x.args 0))).aL++[E f.u (E x.args 1)])]}
section
variable{t:I}{j:Nat->Nat}{m:I}{n:Nat}{d p aW q e:O}{s:St}{c:List aX}{b:aX}{r u h:O}{v:List (List Ce)}
def ST.rv(S:ST t j m n bQ (SB d p s aW q e) aW q e s.aW s.heap c b r u h v)(g:eu t d p a)(k:s.aW.length<=2000000000)(i:s.heap.length<=2000000000)(f:lF m e (c++[b])):
 RV m n 2 d p aW q e a {s with az:=c++[b]}:=
 ⟨g.ext S.cO.bY,S.cO.box.cp 0,S.cO.box.cp 1,S.cO.box.cp 2,S.cO.box.cp 3,S.cO.box.cp 4,S.cO.box.cp 5,S.cO.box.cp 6,S.cO.box.cp 7,S.cO.box.cp 8,S.cO.aW.mZ V,S.cO.heap.cells V,f⟩
def oU.Fv{c:List aX}(d:oU j m e c)(C:c.length<=2000000000)(t:∀b∈c,b.u.length<=1000000/\b.aR.length<=1000000/\b.bo.length<=1000000):lF m e c:=by
 obtain⟨v,a,i,n,s⟩:=d;have y:e.len=c.length:=by have:=a.len;rw[cr n,i]at this;omega
 refine⟨y,a.le,V,λg x f=>?_⟩;obtain⟨q,o⟩:=ag (l:=v) (k:=g) (by rw[i];exact ax f);obtain⟨r,u,h,rfl,A,z,d⟩:=s g q x o f;obtain⟨D,E,F⟩:=t x (ar f);refine⟨_,⟨r,u,h,rfl,A.mZ V,z.mZ V,d.mZ V⟩,λB p w=>?_⟩;have:=a.iP (g*6+B) p (fK n o w);rwa[<-df]at this
def LZ(au:ST t j m n bQ (SB d p s aW q e) aW q e s.aW s.heap c b r u h v)(aS:eu t d p a)(aI:gP a){y:Instr}{ah al:O}(ha:ap t ah y.args)(bn:∀C∈y.args,0<=C/\C<b.u.length)(bO:y.args.length<=4)
 (b1:y.op=9\/y.op=24\/y.op=11)(a4:(y.op=9\/y.op=24)->vn a y.bN y.args.length)(bm:y.op=11->y.args.length=2/\vm a s.heap (E b.u (E y.args 0)))
 (bY:b.u.length=b.aR.length/\b.bo.length=b.aR.length/\b.aR.length<=2000)(bl:∀L∈c,L.u.length<=1000000/\L.aR.length<=1000000/\L.bo.length<=1000000)(bC:0<=b.pc/\b.pc<=100000)(bU:c.length<=10000)(bV:s.heap.length<=1000000000)(b2:s.aW.length<=1000000000)(bP:0<=s.bq/\s.bq<=100000)
 {B:Nat->Int}(hI:fE s.heap B):
 aO cw 180 [vp n 0,fv b r u h,xv y ah al] m λ_ N=>ye t j m n d p (qG a s c b y) N:=by
 apply uX (n,0)
 simp -zeta only[aD,aC]
 intro G m2
 have bF:J m m2:=((J.aB m).aK _).aK _
 have s1:G.size=m.size+1:=by simp[G]
 have s2:m2.size=m.size+2:=by simp[m2,s1]
 have B2:=xZ.JA au.cO.new s1 s2
 have kB:cF m2 G.size dQ [.i y.op,.i y.dst,.i y.bN,.i y.bW,.s ah,.s al]:=cF.push G _ _
 obtain⟨S2,t2⟩:=au.ext bF
 clear_value m2
 have bt:y9 a y:=λB=>let⟨z,h1,F,_⟩:=a4 B;⟨h1,z,F⟩
 have bN:(eK a.aT).length<=12:=by
  have:=qS aI.mw.types a.aT.length;rw[mL _ _ (ad _)]at this;exact this
 have bw:∀{j m q lh bx},ST t j m n bQ bx aW q e s.aW lh c b r u h v->lF m e (c++[b]):=λau=>au.cO.az.Fv bJ (λL A=>by
  rcases List.mem_append.1 A with A|A
  ·exact bl L A
  ·simp at A;subst A;omega)
 refine(rR (f:=b) (S2.zQ V) (ha.ext S2.cO.bY) bn V).mono ?_
 rintro _ m3 ⟨Y,rfl,ow,aH⟩
 obtain⟨S3,t3⟩:=S2.ext aH
 have B3:=B2.to t3
 have bE:(cv b y.args).length=y.args.length:=by simp[cv]
 have ay:ap m3 Y (cv b y.args):=ap.fV ow V
 have bL:∀{N:I}{Y:O}{aB:List Ce},gG N m3 aE 1 Y aB->m.size<=N.size->Y≠.nil->j Y.F=0:=λho hs ab=>by
  rcases ho.F with B|B
  ·exact absurd B ab
  ·exact au.cO.new _ V
 refine⟨t3.dF B2,Y,rfl,λL wv N=>∃(aM:Nat->Nat)(a8:O)(aq:List bX)(A:List Int)(z:dw),ST t aM N n bQ (SB d p s aW a8 e) aW a8 e s.aW aq c b r u h v/\To j m aM N/\xZ aM N [G.size,m.size]/\cF N G.size dQ [.i y.op,.i y.dst,.i y.bN,.i y.bW,.s ah,.s al]/\ap N wv A/\(A≠[]->aM wv.F=0)/\
  0<=L/\a.cA[L.toNat]? =some z/\A.length=z.params.length/\ig a y 0 A=dD z.cJ 0 A/\
  (y.op=24->qG a s c b y={s with bq:=s.bq+1,heap:=aq,az:=c++[br a L b.dst A]})/\(y.op≠24->qG a s c b y={s with bq:=s.bq+1,heap:=aq,az:=c++[{b with pc:=b.pc+1},br a L y.dst A]}),?_,?_⟩
 ·refine⟨λac=>?_,λac=>?_⟩
  ·simp at ac
   obtain⟨F,T,a9,b3,bB,a6,bS⟩:=bm ac
   obtain⟨am,bD⟩:=bZ T
   have a0:=hI.cell _ (ar am)
   have b4:=(a0.qQ bD).2
   have a7:=ax am
   have bo:y.args=[E y.args 0,E y.args 1]:=by
    cases M:y.args with
    |nil=>rw[M]at F;simp at F
    |cons C aB=>cases aB with
     |nil=>rw[M]at F;simp at F
     |cons H aB=>cases aB with
      |nil=>rfl
      |cons _ _=>rw[M]at F;simp at F
   have a_:cv b y.args=[E b.u (E y.args 0),E b.u (E y.args 1)]:=by rw[bo];rfl
   have b6:=ay.len
   have b5:=ay.cap
   have gw:af m3 Y.F (Y.off+Int.toNat (0:Int)*1)=some (vi (E b.u (E y.args 0))):=ay.E (k:=0) (by rw[a_];rfl)
   have aj:=S3.rv aS V V (bw S3)
   generalize hw:E b.u (E y.args 0)=w at*
   generalize hv:E b.u (E y.args 1)=ak at*
   obtain⟨z,hq⟩:=ag (l:=a.cA) (k:=((aJ s.heap w).jQ -bI a).toNat) V
   have an:dx a ((aJ s.heap w).jQ -bI a)=z:=by simp[dx,hq]
   rw[an]at bB a6
   refine⟨V,V,w,gw,d,aj.aT,(fG aj T.1 am).mono ?_⟩
   rintro _ m4 ⟨f4,rfl,bR,aa⟩
   obtain⟨S4,t4⟩:=S3.ext aa
   have B4:=B3.to t4
   have a1:=aj.ext aa
   refine⟨t4.dF B3,_,_,_,rfl,aa.cV aj.aT,(qu a1.fe.aT aI.mw.types).mono ?_⟩
   rintro _ H ⟨rfl,aG⟩
   obtain⟨Q,t5⟩:=S4.ext aG
   have B5:=B4.to t5
   have bk:=a1.ext aG
   refine⟨t5.dF B4,_,rfl,V,V,V,(fG bk T.1 am).mono ?_⟩
   rintro _ m6 ⟨f6,rfl,bv,aY⟩
   obtain⟨S6,t6⟩:=Q.ext aY
   have B6:=B5.to t6
   have aF:=(aa.trans aG).trans aY
   have e1:(Int.toNat (1:Int))=1:=rfl
   have e2:(Int.toNat (Y.len:Int))=Y.len:=V
   rw[e1,e2]
   have bG:ap m6 (O.cut Y 1 Y.len 1) [ak]:=by
    have:=T4 (ay.ext aF) (by rw[bE];omega);rw[a_]at this;exact this
   have bT:=a0.fl
   refine⟨t6.dF B5,_,_,_,rfl,(KS bv bG bJ).mono ?_⟩
   rintro _ m7 ⟨P,rfl,oe,aZ⟩
   obtain⟨S7,t7⟩:=S6.ext aZ
   have U:=B6.to t7
   have ie:ap m7 P ((aJ s.heap w).aL++[ak]):=ap.fV oe bJ
   have aw:j P.F=0:=by
    rcases oe.F with B|B
    ·subst B;have:=ie.len;simp at this
    ·exact au.cO.new _ (by have:=aF.size;have:=aH.size;omega)
   have bu:P.F<m7.size:=iB ie D
   refine⟨t7.dF B6,P,rfl,(AP S7.cO T hI V).mono ?_⟩
   rintro _ C ⟨ai,rfl,hb,K,bs,bp⟩
   have t8:To j m7 j C:=K.mono λW R=>V
   have X:=U.to t8
   have ba:ap C P ((aJ s.heap w).aL++[ak]):=gL ie λ_=>K.dW _ bu (by rw[aw];decide)
   have bc:To j m j C:=(((((t2.trans t3).trans t4).trans t5).trans t6).trans t7).trans t8
   have bb:cF C G.size dQ [.i y.op,.i y.dst,.i y.bN,.i y.bW,.s ah,.s al]:=(kB.ext (aH.trans (aF.trans aZ))).congr (K.dW _ (U G.size D).1 (by rw[(U G.size D).2];decide))
   have e3:cW ((aJ s.heap w).jQ -((eK a.aT).length:Int))=(aJ s.heap w).jQ -bI a:=aQ V V
   rw[e3]
   have aK:ig a y 0 ((aJ s.heap w).aL++[ak])=dD z.cJ 0 ((aJ s.heap w).aL++[ak]):=by
    rw[Ft V,List.length_eq_zero_iff.1 a6]
   have a5:∀aq,aq=apart s.heap w->qG a s c b y={s with bq:=s.bq+1,heap:=aq,az:=c++[{b with pc:=b.pc+1},br a ((aJ s.heap w).jQ -bI a) y.dst ((aJ s.heap w).aL++[ak])]}:=λaq B=>by
    rw[qG,ae V,ae V,hw,hv,B]
   refine⟨t8.dF U,ai,rfl,λa3=>?_,λa2=>?_⟩
   ·have aL:=hb.1 a3
    obtain⟨S,bM⟩:=S7.fU (K.mono λW R=>Or.inl R) (bs a3)
    have b0:=S.cO.heap.len
    refine⟨q,S.cO.box.cp 7,?_⟩
    intro m9
    have bj:J C m9:=(J.aB C).aK _
    obtain⟨S9,t9⟩:=S.ext bj
    have B9:=X.to t9
    clear_value m9
    have bW:=T.1
    have bA:ix w=(w -1000).toNat:=rfl
    have e5:cW (w -1000)=w -1000:=aQ V V
    rw[e5,<-bA]
    refine⟨V,V,S9.cO.heap.wr (o:=0) a7 bh,?_⟩
    intro b7
    obtain⟨bz,bg⟩:=S9.cO.heap.setCell S9.cO.new a7 0 0 (f:=.mk C.size 0 0 0) (b:=[]) ⟨rfl,D,D,D⟩ (λab=>absurd rfl ab)
    obtain⟨aA,aP⟩:=S9.fU (bg.mono λW R=>Or.inl R) bz
    have aV:=B9.to aP
    refine⟨aP.dF B9,q,aA.cO.box.cp 7,(xy (aA.cO.heap.cells bJ)).mono ?_⟩
    rintro _ b8 ⟨rfl,bi⟩
    obtain⟨Z,aR⟩:=aA.ext bi
    have aX:=aV.to aR
    refine⟨aR.dF aV,_,rfl,Z.cO.mg (i:=7) D,?_⟩
    intro aN
    obtain⟨be,b9⟩:=Z.fU (dv.aB _ Z.cO.new) (Z.cO.heap.cut (tC _ _))
    obtain⟨bf,aT⟩:=be.je 7 [.s (q.cut 0 (iR (s.heap.set (ix w) jc) (s.heap.set (ix w) jc).length) 3)]
    have bd:=aX.to aT
    have aU:To j C j aN:=((t9.trans aP).trans aR).trans aT
    have bH:ap aN P ((aJ s.heap w).aL++[ak]):=gL ba λ_=>aU.dW _ (by have:=K.size;omega) (by rw[aw];simp)
    have bK:cF aN G.size dQ [.i y.op,.i y.dst,.i y.bN,.i y.bW,.s ah,.s al]:=bb.congr (aU.dW _ (X G.size D).1 (by rw[(X G.size D).2];simp))
    refine⟨aT.dF aX,j,_,_,_,z,bf,bc.trans aU,bd,bK,bH,λ_=>aw,a9,hq,bJ,aK,λB=>V,λ_=>a5 _ ?_⟩
    rw[apart,ao aL];rfl
   ·have aL:(aJ s.heap w).aS≠1:=λB=>by have:=hb.2 B;rw[a2]at this;simp at this
    obtain⟨S,bM⟩:=S7.fU (K.mono λW R=>Or.inl R) (bp a2)
    refine⟨j,q,_,_,z,S,bc,X,bb,ba,λ_=>aw,a9,hq,bJ,aK,λB=>V,λ_=>a5 _ ?_⟩
    rw[apart,ae aL]
  ·simp at ac
   have C:y.op=9\/y.op=24:=V
   obtain⟨z,P,K,R⟩:=a4 C
   have an:dx a y.bN=z:=by simp[dx,K]
   refine⟨j,q,s.heap,cv b y.args,z,S3,t2.trans t3,B3,kB.ext aH,ay,λab=>bL ow V (λB=>by subst B;have:=ay.len;simp at this;exact ab (List.length_eq_zero_iff.1 this.symm)),P,K,V,by rw[Iw C,an],λB=>?_,λB=>?_⟩
   ·rw[qG,ae V,ao B]
   ·rw[qG,ao V]
 ·rintro L wv m4 ⟨aA,aZ,aU,A,z,S4,t4,B4,bg,a0,bf,ba,hq,bk,aK,a9,a_⟩
  have an:dx a L=z:=by simp[dx,hq]
  have bj:=(aI.dt z (ar hq)).u
  have h3:=(aI.mw.dt z (ar hq)).1
  refine⟨s.bq,S4.cO.box.cp 4,S4.cO.mg (i:=4) D,?_⟩
  have e3:cW (s.bq+1)=s.bq+1:=aQ V V
  rw[e3]
  intro H
  obtain⟨Q,t5⟩:=S4.je 4 [.i (s.bq+1)]
  have B5:xZ aA H [G.size,m.size]:=B4.to t5
  replace t5:To aA m4 aA H:=t5
  have c5:dv (λW=>W=1) aA m4 aA H:=dv.ai S4.cO.new S4.cO.PG _ _
  have a1:ap H wv A:=gL a0 λab=>c5.dW _ (iB a0 ab) (by rw[bf ab];decide)
  have bi:cF H G.size dQ [.i y.op,.i y.dst,.i y.bN,.i y.bW,.s ah,.s al]:=bg.congr (c5.dW _ (B4 G.size D).1 (by rw[(B4 G.size D).2];decide))
  replace Q:ST t aA H n bQ (SB d p {s with bq:=s.bq+1,heap:=aU} aW aZ e) aW aZ e s.aW aU c b r u h v:=Q
  refine⟨t5.dF B4,d,Q.cO.box.cp 0,p,Q.cO.box.cp 1,?_⟩
  clear_value H
  have a6:=t4.trans t5
  have kg:∀{K a3:I},J K a3->∀{ai aj:Nat}{ak:Value},af K ai aj=some ak->af a3 ai aj=af K ai aj:=λM=>M.cV
  have be:(ig a y 0 A).length=A.length:=Dx _ _ _ _
  have bd:(br a L y.dst A).u=A++cZ (z.u.toNat -A.length):=by simp[br,an]
  have bc:(br a L y.dst A).aR=ig a y 0 A++cZ (z.u.toNat -(ig a y 0 A).length):=by simp[br,an,aK,lP]
  have bb:(br a L y.dst A).bo=cZ z.u.toNat:=by simp[br,an]
  have ic:∀(Z aG:I)(ac S T U:Nat),J H Z->o8 Z aG S T U z.u.toNat (A++cZ (z.u.toNat -A.length)) (ig a y 0 A++cZ (z.u.toNat -(ig a y 0 A).length)) (cZ z.u.toNat)->Z.size<=ac/\ac<aG.size->ac≠S/\ac≠T/\ac≠U->
   Mm n ac [G.size,m.size] y.op b.pc b.dst L 0 y.dst (.mk S 0 z.u.toNat z.u.toNat) (.mk T 0 z.u.toNat z.u.toNat) (.mk U 0 z.u.toNat z.u.toNat) aG (λ_ N=>ye t j m n d p (qG a s c b y) N):=λZ aG ac S T U M P aT ab=>by
   obtain⟨SM,tM⟩:=Q.ext M
   refine Nq (A:={s with bq:=s.bq+1,heap:=aU}) (h:=br a L y.dst A) (g:=y) SM (B5.to tM) (by rw[bd,bc,bb];exact P) aT ab V bC (λB N hF=>?_) (λB N hF=>?_)
   ·rw[a9 B];exact ye.from hF (a6.trans tM)
   ·rw[a_ B];exact ye.from hF (a6.trans tM)
  have aN:∀{Z:I}{os:O},J H Z->ap Z os (ig a y 0 A)->aO cw 114 [.agg #[O.v d,O.v p],vi L,vi y.dst,O.v wv,O.v os] Z _:=λM ho=>xS (aS.ext (Q.cO.bY.trans M)) ba hq V y.dst (a1.ext M) ho V be
  have aF:∀{K X:I},J H K->J K X->∀aj,aj<6->af X G.size aj=af K G.size aj:=λh1 F aj hi=>by
   have W:=bi.ext h1;match aj,hi with
   |0,_=>exact F.cV (W.cp 0)
   |1,_=>exact F.cV (W.cp 1)
   |2,_=>exact F.cV (W.cp 2)
   |3,_=>exact F.cV (W.cp 3)
   |4,_=>exact F.cV (W.cp 4)
   |5,_=>exact F.cV (W.cp 5)
  have JA:∀{K X:I},J H K->J K X->af X n 0=af K n 0/\af X n 1=af K n 1:=λh1 F=>⟨F.cV (h1.af (Q.cO.box.cp 0)),F.cV (h1.af (Q.cO.box.cp 1))⟩
  have a5:∀{Z:I},J H Z->nY 216 [vp n 0,xv y ah al,O.v wv] Z (ig a y 0 A):=λM=>Eh (aS.ext (Q.cO.bY.trans M)) (M.af (Q.cO.box.cp 0)) (M.af (Q.cO.box.cp 1)) bt ah al (a1.ext M) V
  have sm:∀{K X:I},J H K->J K X->eE [G.size,m.size] K X:=λh1 F=>F.dm λai hb=>h1.lt (B5 ai hb).1
  have aV:∀{K X:I}{ac:Nat},J H K->J K X->ac<K.size->eE [ac,G.size,m.size] K X:=λh1 F aT=>F.dm λai hb=>by
   rcases List.mem_cons.1 hb with rfl|hb
   ·exact aT
   ·exact h1.lt (B5 ai hb).1
  refine⟨(a5 (J.aB _)).mono ?_,?_⟩
  ·rintro _ am ⟨os,rfl,oo,R⟩
   have io:ap am os (ig a y 0 A):=ap.fV oo V
   refine⟨sm (J.aB _) R,os,rfl,aF (J.aB _) R 1 V,(JA (J.aB _) R).1,(JA (J.aB _) R).2,?_,?_⟩
   ·refine(aN R io).mono ?_
    rintro _ aw ⟨S,T,U,rfl,P⟩
    have aP:=P.ext
    have aX:=R.trans aP
    refine⟨sm R aP,_,_,_,_,_,_,rfl,?_⟩
    intro a2
    have aR:J aw a2:=(J.aB aw).aK _
    have C:=aF aX aR
    have t9:=JA aX aR
    refine⟨C 0 V,C 1 V,C 2 V,C 3 V,C 4 V,C 5 V,C 1 V,t9.1,t9.2,?_⟩
    intro aL
    have a7:J aw aL:=aR.ai (ad _) _ _
    have bo:aL.size=aw.size+1:=by simp[aL,a2,av]
    have aY:=P.lo
    exact ic am aL aw.size S T U R (P.OO a7) ⟨by have:=aP.size;omega,V⟩ ⟨V,V,V⟩
   ·intro aL
    have aw:J am aL:=(J.aB am).aK _
    have a7:aL.size=am.size+1:=by simp[aL]
    have C:=aF R aw
    have t9:=JA R aw
    refine⟨C 0 V,C 1 V,C 2 V,C 3 V,C 4 V,C 5 V,C 1 V,t9.1,t9.2,?_⟩
    clear_value aL
    refine(aN (R.trans aw) (io.ext aw)).mono ?_
    rintro _ a2 ⟨S,T,U,rfl,P⟩
    have aP:=P.ext
    refine⟨aV (R.trans aw) aP V,_,_,_,_,_,_,rfl,?_⟩
    intro aR
    have aY:=P.lo
    have aX:=P.box aw (nb:=am.size) (ad _) V 0 [.i L,.i 0,.i y.dst,.s (.mk S 0 z.u.toNat z.u.toNat),.s (.mk T 0 z.u.toNat z.u.toNat),.s (.mk U 0 z.u.toNat z.u.toNat)]
    exact ic am aR am.size S T U R aX ⟨ad _,by simp only[aR,av];have:=aP.size;omega⟩ ⟨V,V,V⟩
  ·intro am
   have R:J H am:=(J.aB H).aK _
   have a7:am.size=H.size+1:=by simp[am]
   have C:=aF (J.aB _) R
   have t9:=JA (J.aB _) R
   refine⟨C 0 V,C 1 V,C 2 V,C 3 V,C 4 V,C 5 V,C 1 V,t9.1,t9.2,?_⟩
   clear_value am
   refine(a5 R).mono ?_
   rintro _ aX ⟨os,rfl,oo,aa⟩
   have io:ap aX os (ig a y 0 A):=ap.fV oo V
   have aw:=R.trans aa
   have bo:=aa.size
   refine⟨aV R aa V,os,rfl,aF R aa 1 V,(JA R aa).1,(JA R aa).2,?_⟩
   refine(aN aw io).mono ?_
   rintro _ a2 ⟨S,T,U,rfl,P⟩
   have aL:=P.ext
   refine⟨aV aw aL V,_,_,_,_,_,_,rfl,?_⟩
   intro aP
   have aY:=P.lo
   have aR:=P.box aw (nb:=H.size) (ad _) V 0 [.i L,.i 0,.i y.dst,.s (.mk S 0 z.u.toNat z.u.toNat),.s (.mk T 0 z.u.toNat z.u.toNat),.s (.mk U 0 z.u.toNat z.u.toNat)]
   exact ic H aP H.size S T U (J.aB _) aR ⟨ad _,by simp only[aP,av];have:=aL.size;omega⟩ ⟨V,V,V⟩
def Md(S:ST t j m n bQ (SB d p s aW q e) aW q e s.aW s.heap c b r u h v)(ah:c.length<=100000)(w:Int)(Y:∀g,c.getLast?=some g->0<=b.dst/\b.dst<g.u.length/\b.dst<g.aR.length):
 aO cw 181 [vp n 0,fv b r u h,vi w] m λ_ m'=>ye t j m n d p (match c.getLast? with|none=>{s with bU:=0,value:=w,az:=[]}|some g=>{s with az:=c.dropLast++[g.put b.dst w (fW w)]}) m':=by
 apply uY (n,0)
 simp -zeta only[aD,aC]
 intro f
 have ab:J m f:=(J.aB m).aK _
 have s1:f.size=m.size+1:=by simp[f]
 obtain⟨l,M⟩:=S.ext ab
 have Q:j m.size=0:=S.cO.new _ (ad _)
 have E:xZ j f [m.size]:=λG I=>by simp at I;subst I;exact⟨V,Q⟩
 clear_value f
 have K:=l.fP.xH
 have ae:=l.fP.pS.le
 have A:cW ((e.len:Int) -1)=(c.length:Int):=by rw[aQ V V];omega
 have P:Int.toNat (c.length:Int)=c.length:=V
 have H:af f n 8=some (O.v e):=l.cO.box.cp 8
 refine⟨e,H,e,H,?_⟩
 rw[A,P]
 refine⟨V,V,V,l.cO.mg (i:=8) D,?_⟩
 intro m2
 obtain⟨z,x⟩:=l.cO.je 8 [.s (e.cut 0 c.length 6)]
 obtain⟨a,_⟩:=z.jz (dv.aB _ z.new) (z.az.Uo)
 have y:=E.to x
 have ag:(e.cut 0 c.length 6).len=c.length:=by
  cases e with
  |nil=>simp at K
  |zn G L k=>simp at K
  |mk G L o k=>simp[O.cut]
 have e3:Int.toNat (0:Int)=0:=rfl
 refine⟨x.dF E,e.cut 0 c.length 6,a.box.cp 8,λB=>?_,λB=>?_⟩
 ·simp at B
  have R:c=[]:=List.length_eq_zero_iff.1 V
  subst R
  refine⟨a.mg (i:=2) (by simp[kH]),?_⟩
  intro m3
  obtain⟨o,k⟩:=a.je 2 [.i 0]
  have F:=y.to k
  refine⟨k.dF y,o.mg (i:=3) (by simp[kH]),?_⟩
  intro T
  obtain⟨N,C⟩:=o.je 3 [.i w]
  exact⟨C.dF F,j,aW,q,_,N,(((M.trans x).trans k).trans C)⟩
 ·simp at B
  have aa:c.length≠0:=V
  have C:c≠[]:=λA=>aa (by rw[A];rfl)
  obtain⟨g,o⟩:∃g,c.getLast?=some g:=⟨_,eT C⟩
  obtain⟨R,U,W⟩:=Y g o
  rw[o]
  simp only[]
  have Z:c=c.dropLast++[g]:=by
   rw[eT C]at o;simp at o;rw[<-o];exact(dX C).symm
  have F:tJ t j m2 n bQ (SB d p s aW q (e.cut 0 c.length 6)) aW q (e.cut 0 c.length 6) s.aW s.heap (c.dropLast++[g]):=
   ⟨a.bY,a.jK,a.new,a.box,a.PG,a.aW,a.heap,by rw[<-Z];exact a.az⟩
  obtain⟨r',L,h',ac,T⟩:=F.az.fP
  have X:c.dropLast.length<=100000:=bJ
  refine(tx (a:=s) ⟨F,T⟩ X R U W w).mono ?_
  rintro _ m3 ⟨N,k⟩
  exact⟨k.dF y,j,aW,q,_,N.cO,(M.trans x).trans k⟩
end
end
end Go.Proofs.YtgnjacfobdjeeaaGreat
