/- Part of a proof, joined by a program. -/
import Derived.Test.YtgnjacfobdjeeaaGreatO10
set_option linter.unusedVariables false
set_option linter.unusedSimpArgs false
set_option linter.defProp false
set_option linter.constructorNameAsVariable false
set_option maxHeartbeats 8000000
set_option maxRecDepth 100000
namespace Go.Proofs.YtgnjacfobdjeeaaGreat
open Go.Vc
section
variable{a:Nat}{c:bM}{b:List Int}{x:O}{K:O->I->Prop}{i:Int}
def Kd(b r:List Ce)(o:Nat)(c:Ce)(h:b.length<=o):(b++r).set o c=b++r.set (o -b.length) c:=by
 rw[UT _ _ h]
def lF:∀(a b r:List Ce)(o:Nat),b.length<=o->iE (b++r) o a=b++iE r (o -b.length) a
 |[],b,r,o,_=>rfl
 |c::a,b,r,o,h=>by
  simp only[iE];rw[Kd _ _ _ _ h,lF a b _ (o+1) V];congr 2;omega
def AO:∀(a b r:List Ce)(o:Nat),o+a.length<=b.length->iE (b++r) o a=iE b o a++r
 |[],b,r,o,_=>rfl
 |c::a,b,r,o,h=>by
  simp only[bg]at h;simp only[iE];rw[Wo _ _ V,AO a _ _ (o+1) bK]
def La{f:Nat}:∀(b:List (List Ce))(a:Nat)(e:List Ce)(o:Nat)(d:List Ce),(∀c∈b,c.length=f)->b[a]? =some e->o+d.length<=f->iE b.flatten (a*f+o) d=(b.set a (iE e o d)).flatten
 |[],a,e,o,d,_,h,_=>by simp at h
 |x::b,0,e,o,d,g,h,j=>by
  simp at h;subst h;have i:=g x ba;rw[iG,NP,bN,AO _ _ _ _ V,ig,iG]
 |x::b,a+1,e,o,d,g,h,j=>by
  have i:=g x ba;rw[iG,lF _ _ _ _ (by rw[i,fC];omega),ic,iG];have k:(a+1)*f+o -x.length=a*f+o:=by rw[i,fC];omega
  rw[k,La b a e o d (λc l=>g c (ai _ l)) (by simpa using h) j]
def _root_.Go.Vc.fU.set{α:Type}{f:Nat}{R:List Ce->α->Prop}{g:List (List Ce)}{b:List α}(h:fU f R g b)(a:Nat){cs:List Ce}{x:α}(m:cs.length=f)(n:R cs x):fU f R (g.set a cs) (b.set a x):=by
 refine⟨by simp[h.len],λc d=>?_,λl c y d e=>?_⟩
 ·rcases cx d with d|d
  ·exact h.size c d
  ·rw[d];exact m
 ·by_cases k:l=a
  ·subst k;have i:=ax d;have j:=ax e;simp at i j;rw[dA i]at d;rw[dA j]at e;simp at d e;subst d;subst e;exact n
  ·rw[dQ (λi=>k i.symm)]at d e;exact h.df l c y d e
def _root_.Go.Vc.fU.take{α:Type}{f:Nat}{R:List Ce->α->Prop}{d:List (List Ce)}{b:List α}(h:fU f R d b)(n:Nat):fU f R (d.take n) (b.take n):=by
 refine⟨by simp[h.len],λc a=>h.size c (cT a),λj c y a e=>?_⟩;have g:=ax a;simp at g;rw[dj V]at a e;exact h.df j c y a e
def CZ{b:Nat}:∀(a:List (List Ce))(n:Nat),(∀c∈a,c.length=b)->a.flatten.take (n*b)=(a.take n).flatten
 |[],n,_=>E
 |x::a,0,_=>E
 |x::a,n+1,h=>by
  have d:=h x ba;rw[iG,Y1,mh (by rw[d,fC];omega),Kw,iG];have e:(n+1)*b -x.length=n*b:=by rw[d,fC];omega
  rw[e,CZ a n λc f=>h c (ai _ f)]
section
variable{N:Nat}{e:Nat->Nat}{m:I}{d:O}{h:List bM}
def ez.len(c:ez N e m d h):d.len=h.length:=by
 obtain⟨f,b,a,_⟩:=c;have:=b.len;rw[cX a.size,a.len]at this;omega
def ez.cy(t:ez N e m d h)(b:h[a]? =some c):∃f,D m d.F (d.off+a*3)=some (vi c.aQ)/\D m d.F (d.off+a*3+1)=some (vi c.lp)/\D m d.F (d.off+a*3+2)=some (O.v f)/\ar m f c.aK/\FN N e m f c.aK:=by
 obtain⟨o,q,g,_⟩:=t;obtain⟨n,j⟩:=ag (l:=o) (k:=a) (by rw[g.len];exact ax b);obtain⟨f,rfl,s,p⟩:=g.df a n c j b;have r:=λi c b=>q.je (a*3+i) c (gY g.size j b);exact⟨f,r 0 (.i c.aQ) rfl,r 1 (.i c.lp) rfl,r 2 (.s f) rfl,s,p⟩
def ez.cells(j:ez N e m d h)(v:h.length<=9223372036854775807):cV m d h:=by
 have t:=j.len;obtain⟨p,f,a,_⟩:=j;refine⟨t,f.le,V,λb x n=>?_⟩;obtain⟨o,g⟩:=ag (l:=p) (k:=b) (by rw[a.len];exact ax n);obtain⟨q,rfl,s,u⟩:=a.df b o x g n;refine⟨_,⟨q,rfl,s⟩,λi c r=>?_⟩;have:=f.je (b*3+i) c (gY a.size g r);rwa[<-dB]at this
def ez.wr(g:ez N e m d h){a o n:Nat}(f:a<h.length)(j:o+n<=3):fm m d.F (d.off+a*3+o) n:=by
 obtain⟨i,c,b,_⟩:=g;rw[dB];exact c.wr (by rw[cX b.size,b.len];have:(a+1)*3<=h.length*3:=cZ _ f;omega)
def ez.F(c:ez N e m d h){a:Nat}(i:a<h.length):e d.F=3/\d.F<m.size:=by
 have j:=c.len;obtain⟨f,b,g,_⟩:=c;have:=b.le;have:=b.F V;exact⟨this.2,this.1⟩
def Rz(N:Nat)(e:Nat->Nat)(m:I)(d:O)(h:List bM)(f:O)(b:List Int):Prop:=
 b≠[]->(e f.F=0/\N<=f.F/\FB m f b)/\∀(i:Nat)(g:O),i<h.length->D m d.F (d.off+i*3+2)=some (O.v g)->g.len≠0->g.F≠f.F
def FB.ij{d:I}{f:O}(h:iO d m aB 1 f (b.map Ce.i))(g:b≠[]):d.size<=f.F/\FB m f b:=by
 rcases h.u with e|⟨i,c,tail,e,h2,h3,_,_⟩
 ·have a:=h.len;rw[e,eO,O.LU,NP]at a;exact absurd (List.length_eq_zero_iff.1 a) g
 ·rw[e];exact⟨h2,c,tail,rfl,h3⟩
def Rz.of{a:I}{x:Nat->Nat}{f:O}(r:ez N x a d h)(t:0<h.length->m[d.F]? =a[d.F]?)(v:b≠[]->iO a m aB 1 f (b.map Ce.i))(n:b≠[]->e f.F=0)(B:N<=a.size):Rz N e m d h f b:=λg=>by
 obtain⟨A,o⟩:=FB.ij (v g) g;refine⟨⟨n g,V,o⟩,λi y s j q=>?_⟩;obtain⟨c,p⟩:=ag s;obtain⟨z,_,_,w,k,_⟩:=r.cy p;rw[aI (t V),w]at j;have:=O.GM.1 (mB j);subst this;have u:c.aK≠[]:=λl=>by have:=k.len;rw[l]at this;simp at this;exact q this
 have:=nD k u;omega
def ez.put(P:ez N e m d h)(ab:∀g,m.size<=g->e g=0){o:Nat}{q:bM}(K:h[a]? =some c){new:List Ce}(ho:o+new.length<=3)
 (Y:∀s,ar m s c.aK->FN N e m s c.aK->∃f,iE [.i c.aQ,.i c.lp,.s s] o new=[.i q.aQ,.i q.lp,.s f]/\ar m f q.aK/\FN N e m f q.aK/\(f=s\/Rz N e m d h f q.aK)):
 ez N e (aj m d.F (d.off+a*3+o) new) d (h.set a q)/\dy (λk=>k=3) e m e (aj m d.F (d.off+a*3+o) new):=by
 have D:=ax K
 have X:=P.F D
 have L:dy (λk=>k=3) e m e (aj m d.F (d.off+a*3+o) new):=dy.aj ab X.1 _ _
 obtain⟨w,G,p,H⟩:=P
 obtain⟨U,y⟩:=ag (l:=w) (k:=a) (by rw[p.len];exact D)
 obtain⟨s,rfl,Z,V⟩:=p.df a U c y K
 obtain⟨f,F,M,W,C⟩:=Y s Z V
 have S:∀(j:Nat)(r:List Ce)(g:O),w[j]? =some r->r[2]? =some (.s g)->j≠a->f.len≠0->g.len≠0->f.F≠g.F:=λj r g b J aa t u=>by
  rcases C with rfl|C
  ·exact H a j _ r f g y b rfl J (λn=>aa n.symm) t u
  ·have v:q.aK≠[]:=λn=>by have:=M.len;rw[n]at this;simp at this;exact t this
   refine jQ ((C v).2 j g (by rw[<-p.len];exact ax b) ?_ u);have:=G.je (j*3+2) _ (gY p.size b J);rwa[<-dB]at this
 refine⟨⟨w.set a (iE [.i c.aQ,.i c.lp,.s s] o new),?_,?_,?_⟩,L⟩
 ·rw[<-La w a _ o new p.size y ho,dB]
  exact G.set (by rw[cX p.size,p.len];have:(a+1)*3<=h.length*3:=cZ _ D;omega)
 ·rw[F]
  exact(p.set a rfl ⟨f,rfl,M,W⟩).mono (Gf.eY L bd)
 ·rw[F]
  have I:=ax y
  intro i j E r x T v b A B z t u
  by_cases Q:i=a
  ·subst Q
   rw[dA I]at v
   rw[dQ z]at b
   simp at v;subst v
   simp at A;subst A
   exact S j r T b B (λn=>z n.symm) t u
  ·rw[dQ (λn=>Q n.symm)]at v
   by_cases R:j=a
   ·subst R
    rw[dA I]at b
    simp at b;subst b
    simp at B;subst B
    exact jQ (S i E x v A z u t)
   ·rw[dQ (λn=>R n.symm)]at b
    exact H i j E r x T v b A B z t u
def ez.Dv(j:ez N e m d h)(k:∀b,m.size<=b->e b=0)(g:h[a]? =some c)(n:Int):
 ez N e (aj m d.F (d.off+a*3) [.i n]) d (h.set a {c with aQ:=n})/\dy (λb=>b=3) e m e (aj m d.F (d.off+a*3) [.i n]):=
 j.put k g (o:=0) (new:=[.i n]) E λf i b=>⟨f,rfl,i,b,Or.inl rfl⟩
def ez.setCell(l:ez N e m d h)(q:∀f,m.size<=f->e f=0)(i:a<h.length)(n t:Int){f:O}(k:ar m f b)(g:Rz N e m d h f b):
 ez N e (aj m d.F (d.off+a*3) [.i n,.i t,.s f]) d (h.set a ⟨n,t,b⟩)/\dy (λj=>j=3) e m e (aj m d.F (d.off+a*3) [.i n,.i t,.s f]):=by
 obtain⟨c,j⟩:=ag i
 exact l.put q j (o:=0) (new:=[.i n,.i t,.s f]) E λr u s=>⟨f,rfl,k,λp=>(g p).1,Or.inr g⟩
def ez.cut(j:ez N e m d h){n:Nat}(v:n<=h.length):ez N e m (d.cut 0 n 3) (h.take n):=by
 have u:=j.len;obtain⟨f,q,g,r⟩:=j;refine⟨f.take n,by rw[<-CZ f n g.size];exact q.cut V,g.take n,λi k o p a l b c=>?_⟩;have s:i<n:=by have:=ax b;simp at this;omega
 have t:k<n:=by have:=ax c;simp at this;omega
 rw[dj s]at b;rw[dj t]at c;exact r i k o p a l b c
def ez.push(F:ez N e m d h)(Q:∀c,m.size<=c->e c=0)(S:x.len=1){p t:Int}{f:O}(R:fQ m x.F x.off [.i p,.i t,.s f])(E:ar m f b)(C:Rz N e m d h f b)(W:h.length<=2000000000)
 (M:∀z y w,ez N z w y (h++[⟨p,t,b⟩])->dy (λk=>k=3) e m z w->K y w):iS m qL [.i (0:Int),.i (0:Int),.s O.nil] 40 d x K:=by
 have U:=F.len
 obtain⟨l,D,A,J⟩:=F
 refine gX.append (zs:=[.i 0,.i 0,.s .nil]) (c:=[.i p,.i t,.s f]) D Q (by simp[S]) R V λz y w T H=>M z y w ⟨l++[[.i p,.i t,.s f]],by simpa using T,?_,?_⟩ H
 ·exact(A.xK (cs:=[.i p,.i t,.s f]) (x:=⟨p,t,b⟩) rfl ⟨f,rfl,E,λg=>(C g).1⟩).mono (Gf.eY H bd)
 have G:∀(o:Nat)(q:List Ce)(c:O),l[o]? =some q->q[2]? =some (.s c)->f.len≠0->c.len≠0->f.F≠c.F:=λo q c v s g n=>by
  have P:b≠[]:=λI=>by have:=E.len;rw[I]at this;simp at this;exact g this
  refine jQ ((C P).2 o c (by rw[<-A.len];exact ax v) ?_ n);have:=D.je (o*3+2) _ (gY A.size v s);rwa[<-dB]at this
 have J8:∀{i:Nat}{k:List Ce}{a:O},(l++[[.i p,.i t,.s f]])[i]? =some k->k[2]? =some (.s a)->l[i]? =some k\/(i=l.length/\a=f):=λ{i k a} j r=>by
  rcases aV i l.length with g|g
  ·rw[aw g]at j;exact Or.inl j
  ·rw[aF g]at j;have n:i -l.length=0:=by have:=ax j;simp at this;omega
   rw[n]at j;simp at j;subst j;simp at r;exact Or.inr ⟨V,r.symm⟩
 intro i o k q a c j v r s L g n
 rcases J8 j r with B|⟨B,rfl⟩
 ·rcases J8 v s with u|⟨u,rfl⟩
  ·exact J i o k q a c B u r s L g n
  ·exact jQ (G i k a B r n g)
 ·rcases J8 v s with u|⟨u,rfl⟩
  ·exact G o q c u s g n
  ·omega
end
structure qO(ro:Nat->Nat)(m:I)(fr:O)(fs:List aZ)(f:aZ)(r o h:O)(css:List (List Ce)):Prop where
 qQ:gX ro m eg 6 4 fr (css.flatten++[.i f.eS,.i f.pc,.i f.dst,.s r,.s o,.s h])
 len:css.length=fs.length
 size:∀cs∈css,cs.length=6
 df:∀(i:Nat)(cs:List Ce)(g:aZ),css[i]? =some cs->fs[i]? =some g->Rq ro m i cs g
 av:gX ro m aB 1 (10+3*fs.length) r (f.av.map Ce.i)
 aW:gX ro m aB 1 (11+3*fs.length) o (f.aW.map Ce.i)
 bn:gX ro m aB 1 (12+3*fs.length) h (f.bn.map Ce.i)
section
variable{e n:Nat->Nat}{m l:I}{d:O}{a:List aZ}{f:aZ}{r j h:O}{k:List (List Ce)}
def nC.hO(n:nC e m d (a++[f])):∃r j h k,qO e m d a f r j h k:=by
 obtain⟨k,u,l,v,p⟩:=n;have o:k≠[]:=λb=>by rw[b]at l;simp at l
 have b:k=k.dropLast++[k.getLast o]:=(gV o).symm;generalize k.dropLast=c0 at b;generalize k.getLast o=cl at b;subst b;have t:c0.length=a.length:=by simpa using l
 obtain⟨r,j,h,rfl,y,x,n⟩:=p a.length cl f (by rw[aF V];simp[t]) E;refine⟨r,j,h,c0,by simpa using u,t,λc w=>v c (by simp[w]),λi c g q s=>p i c g ?_ ?_,y,x,n⟩
 ·rw[aw (ax q)];exact q
 ·rw[aw (ax s)];exact s
def qO.rR(T:qO e m d a f r j h k):nC e m d (a++[f]):=by
 refine⟨k++[[.i f.eS,.i f.pc,.i f.dst,.s r,.s j,.s h]],by simpa using T.qQ,by simp[T.len],λl b=>?_,λi l o c g=>?_⟩
 ·rcases List.mem_append.1 b with b|b
  ·exact T.size l b
  ·simp at b;subst b;rfl
 ·rcases aV i a.length with n|n
  ·rw[aw (by rw[T.len];exact n)]at c;rw[aw n]at g;exact T.df i l o c g
  ·have p:i=a.length:=by have:=ax g;simp at this;omega
   subst p;rw[aF (by rw[T.len];omega)]at c;simp[T.len]at c g;subst c;subst g;exact⟨r,j,h,rfl,T.av,T.aW,T.bn⟩
def qO.C0(T:qO e m d a f r j h k):d.len=a.length+1:=by
 have:=T.qQ.len;simp only[a9,cX T.size,T.len,bg,eF]at this;omega
def qO.je(T:qO e m d a f r j h k):D m d.F (d.off+a.length*6)=some (vi f.eS)/\D m d.F (d.off+a.length*6+1)=some (vi f.pc)/\D m d.F (d.off+a.length*6+2)=some (vi f.dst)/\
 D m d.F (d.off+a.length*6+3)=some (O.v r)/\D m d.F (d.off+a.length*6+4)=some (O.v j)/\D m d.F (d.off+a.length*6+5)=some (O.v h):=by
 have l:k.flatten.length=a.length*6:=by rw[cX T.size,T.len]
 have b:=λ(i:Nat)(c:Ce)(g:[Ce.i f.eS,Ce.i f.pc,Ce.i f.dst,Ce.s r,Ce.s j,Ce.s h][i]? =some c)=>T.qQ.je (a.length*6+i) c (by rw[aF V,l,Er];exact g)
 exact⟨b 0 (.i f.eS) rfl,b 1 (.i f.pc) rfl,b 2 (.i f.dst) rfl,b 3 (.s r) rfl,b 4 (.s j) rfl,b 5 (.s h) rfl⟩
def qO.eY{p:Nat->Prop}(T:qO e m d a f r j h k)(b:dy p e m n l)(c:∀g,(g=4\/10<=g)->¬p g):qO n l d a f r j h k:=
 ⟨T.qQ.eY b (c _ V),T.len,T.size,λi o q s t=>(T.df i o q s t).eY b λg u _=>c g V,T.av.eY b (c _ V),T.aW.eY b (c _ V),T.bn.eY b (c _ V)⟩
def qO.ext(T:qO e m d a f r j h k)(c:∀b,m.size<=b->e b=0)(b:J m l):qO e l d a f r j h k:=T.eY (dy.fe (λ_=>False) b c) λ_ _=>id
def qO.vC{p:Nat->Prop}(T:qO e m d a f r j h k)(s:dy p e m n l)(t:∀b,10<=b->b<10+3*a.length->¬p b):∀(i:Nat)(c:List Ce)(g:aZ),k[i]? =some c->a[i]? =some g->Rq n l i c g:=λi c g q o=>
 (T.df i c g q o).eY s λb u _=>t b V (by have:=ax o;omega)
def qO.Fe(T:qO e m d a f r j h k)(q:∀b,m.size<=b->e b=0)(n:0<=i)(g:i<f.av.length)(v:Int):
 qO e (aj m r.F (r.off+i.toNat*1) [.i v]) d a {f with av:=gU f.av i v} r j h k/\dy (λb=>4<=b/\b≠9) e m e (aj m r.F (r.off+i.toNat*1) [.i v]):=by
 have p:r.cap≠0:=λl=>by have:=(T.av.CU l).1;simp at this;rw[this]at g;simp at g;omega
 have o:=T.av.F p
 have c:dy (λb=>b=10+3*a.length) e m e (aj m r.F (r.off+i.toNat*1) [.i v]):=dy.aj q o.2 _ _
 exact⟨⟨T.qQ.eY c V,T.len,T.size,T.vC c λb _ s=>V,T.av.gU n g v,T.aW.eY c V,T.bn.eY c V⟩,c.mono λb s=>V⟩
def qO.xJ(T:qO e m d a f r j h k)(q:∀b,m.size<=b->e b=0)(n:0<=i)(g:i<f.aW.length)(v:Int):
 qO e (aj m j.F (j.off+i.toNat*1) [.i v]) d a {f with aW:=gU f.aW i v} r j h k/\dy (λb=>4<=b/\b≠9) e m e (aj m j.F (j.off+i.toNat*1) [.i v]):=by
 have p:j.cap≠0:=λl=>by have:=(T.aW.CU l).1;simp at this;rw[this]at g;simp at g;omega
 have o:=T.aW.F p
 have c:dy (λb=>b=11+3*a.length) e m e (aj m j.F (j.off+i.toNat*1) [.i v]):=dy.aj q o.2 _ _
 exact⟨⟨T.qQ.eY c V,T.len,T.size,T.vC c λb _ s=>V,T.av.eY c V,T.aW.gU n g v,T.bn.eY c V⟩,c.mono λb s=>V⟩
def qO.Dw(T:qO e m d a f r j h k)(q:∀b,m.size<=b->e b=0)(n:0<=i)(g:i<f.bn.length)(v:Int):
 qO e (aj m h.F (h.off+i.toNat*1) [.i v]) d a {f with bn:=gU f.bn i v} r j h k/\dy (λb=>4<=b/\b≠9) e m e (aj m h.F (h.off+i.toNat*1) [.i v]):=by
 have p:h.cap≠0:=λl=>by have:=(T.bn.CU l).1;simp at this;rw[this]at g;simp at g;omega
 have o:=T.bn.F p
 have c:dy (λb=>b=12+3*a.length) e m e (aj m h.F (h.off+i.toNat*1) [.i v]):=dy.aj q o.2 _ _
 exact⟨⟨T.qQ.eY c V,T.len,T.size,T.vC c λb _ s=>V,T.av.eY c V,T.aW.eY c V,T.bn.gU n g v⟩,c.mono λb s=>V⟩
def qO.F(T:qO e m d a f r j h k):e d.F=4/\d.F<m.size:=by
 have:=T.C0;have:=T.qQ.le;have:=T.qQ.F V;exact⟨this.2,this.1⟩
def qO.Pt(T:qO e m d a f r j h k)(l:∀b,m.size<=b->e b=0)(v:Int):
 qO e (aj m d.F (d.off+a.length*6+1) [.i v]) d a {f with pc:=v} r j h k/\dy (λb=>4<=b/\b≠9) e m e (aj m d.F (d.off+a.length*6+1) [.i v]):=by
 have i:=T.F
 have c:dy (λb=>b=4) e m e (aj m d.F (d.off+a.length*6+1) [.i v]):=dy.aj l i.1 _ _
 refine⟨⟨?_,T.len,T.size,T.vC c λb n p=>V,T.av.eY c V,T.aW.eY c V,T.bn.eY c V⟩,c.mono λb q=>V⟩
 have g:k.flatten.length=a.length*6:=by rw[cX T.size,T.len]
 have:=T.qQ.set (o:=a.length*6+1) (new:=[.i v]) (by simp[g])
 rw[lF _ _ _ _ V,g,Er]at this
 rw[dB];exact this
def qO.Wk(T:qO e m d a f r j h k):fm m d.F (d.off+a.length*6+1) 1:=by
 rw[dB];exact T.qQ.wr (by simp only[a9,cX T.size,T.len,bg,eF];omega)
end
def nC.UP{d:Nat->Nat}{m:I}{c:O}{a:List aZ}{f:aZ}(e:nC d m c (a++[f])):nC d m (c.cut 0 a.length 6) a:=by
 obtain⟨r,o,h,b,T⟩:=e.hO;have g:b.flatten.length=a.length*6:=by rw[cX T.size,T.len]
 have:=T.qQ.cut (n:=a.length) (by rw[T.C0];omega);rw[lW V,mh V]at this;exact⟨b,this,T.len,T.size,T.df⟩
def nC.push{d:Nat->Nat}{m:I}{n:O}{b:List aZ}(E:nC d m n b)(F:∀a,m.size<=a->d a=0)(H:x.len=1){a:aZ}{c k j:O}(G:fQ m x.F x.off [.i a.eS,.i a.pc,.i a.dst,.s c,.s k,.s j])
 (z:gX d m aB 1 (10+3*b.length) c (a.av.map Ce.i))(A:gX d m aB 1 (11+3*b.length) k (a.aW.map Ce.i))(B:gX d m aB 1 (12+3*b.length) j (a.bn.map Ce.i))(P:b.length<=1000000)
 (p:∀l c e,nC l e c (b++[a])->dy (λq=>q=4) d m l e->K c e):iS m eg [.i (0:Int),.i (0:Int),.i (0:Int),.s O.nil,.s O.nil,.s O.nil] 96 n x K:=by
 obtain⟨w,s,t,u,L⟩:=E
 have N:n.len=b.length:=by have:=s.len;rw[cX u,t]at this;omega
 refine gX.append (zs:=[.i 0,.i 0,.i 0,.s .nil,.s .nil,.s .nil]) (c:=[.i a.eS,.i a.pc,.i a.dst,.s c,.s k,.s j]) s F (by simp[H]) G V λl M e J g=>p l M e ?_ g
 exact qO.rR (f:=a) (a:=b) (k:=w) (r:=c) (j:=k) (h:=j) ⟨by simpa using J,t,u,λi v y C D=>(L i v y C D).eY g λq p _=>V,z.eY g V,A.eY g V,B.eY g V⟩
end
section
variable{m:I}{d:List bM}{g:Nat->Nat}{b k N j:Nat}{q r:List Int}{c:bM}{i:Int}{e:Nat->Int}
def Gk:∀(d:List bM)(k:Nat),k<=d.length->(∀c∈d.take k,c.aQ≠0)->k<=eK d
 |[],k,a,_=>by simp at a;simp[a]
 |c::d,0,_,_=>dH _
 |c::d,k+1,a,b=>by
  have f:=b c E;have:=Gk d k (by simpa using a) (λe g=>b e (by simp[g]));simp only[eK];rw[ae f];omega
def KO:∀(d:List bM)(k:Nat)(c:bM),(∀b∈d.take k,b.aQ≠0)->d[k]? =some c->c.aQ=0->eK d=k
 |[],k,c,_,a,_=>by simp at a
 |b::d,0,c,_,a,e=>by simp at a;subst a;simp[eK,e]
 |b::d,k+1,c,f,a,e=>by
  have g:=f b E;have:=KO d k c (λx h=>f x (by simp[h])) (by simpa using a) e;simp only[eK];rw[ae g,this]
def DJ{i:O}(g:cV m i d):GQ bY 211 [O.v i] m (vi (eK d)):=by
 apply yf;have q:=g.len;refine dO (n:=d.length) (q▸g.fL) (λk a=>J m a/\∀c∈d.take k,c.aQ≠0) ⟨J.aC _,E⟩ ?_;rintro k u I μ p ⟨a,h⟩ r
 refine dit (λo=>?_) λo=>?_
 ·obtain⟨c,f⟩:=ag (l:=d) (k:=k) V;obtain⟨s,t,j,_⟩:=(cV.ext a g).u f;refine⟨V,V,c.aQ,by simpa using j,λb=>⟨?_,a⟩,λb=>r V _ ⟨a,bD f h (by simpa using b)⟩⟩;rw[KO d k c h f (by simpa using b)]
 ·refine⟨?_,a⟩;have:=Gk d k p h;have:=tG d;have e:(i.len:Int)=(eK d:Int):=V;rw[e]
def uA(g:Nat->Nat)(b k:Nat):Nat->Nat:=λc=>if c=b then k else g c
def iF(g:Nat->Nat)(b k:Nat):uA g b k b=k:=aq rfl
def eX{c:Nat}(d:c≠b):uA g b k c=g c:=ae d
def dy.uA{p:Nat->Prop}{m':I}(d:J m m')(e:∀b,m.size<=b->g b=0)(f:m.size<=b)(h:b<m'.size)(k:Nat):dy p g m (uA g b k) m':=
 ⟨d.size,λc a=>eX V,λc a=>by rw[eX V];exact e c (bJ d.size a),λc a _=>d.same c a⟩
def Kn{s:O}(f:ez N g m s d)(p:∀b,m.size<=b->g b=0){c:Nat}(ha:c<=d.length)(w:Int){H:O}(U:ar m H q)(X:d.length<=2000000000)(M:q.length<=1000000000)(K:N<=m.size):
 aN bY 212 [O.v s,vi c,vi w,O.v H] m λaa T=>∃v P,aa=O.v P/\ez N v T P (lg d c ⟨1,w,q⟩)/\HC g m v T:=by
 apply FK
 simp -zeta only[aE,aD]
 refine(fE U M).then M λF u D R I=>⟨F,rfl,?_⟩
 intro Y a
 have n:J u a:=((J.aC u).aM _).aj (ad _) _ _
 have s3:a.size=u.size+1:=by simp[a,Y,az]
 have t:=I.trans n
 clear_value a
 have y:HC g m g a:=dy.fe _ t p
 have C:=y.new
 have A:ez N g a s d:=f.eY (dy.fe (λ_=>False) t p) id id
 have ab:=f.len
 have S:=R.ext n
 have Q:q≠[]->g F.F=0:=λW=>by
  rcases D.F with e|e
  ·subst e;have:=R.len;simp at this;exact absurd (List.length_eq_zero_iff.1 this.symm) W
  ·exact p _ e
 have L:g u.size=0:=p _ I.size
 refine⟨λe=>?_,λe=>?_⟩
 ·simp at e
  intro h
  have i:J a h:=(J.aC a).aM _
  have kd:fQ h a.size 0 [.i 1,.i w,.s F]:=(cB.push a _ _).je
  have G:HC g m g h:=y.trans (dy.fe _ i C)
  have s4:h.size=a.size+1:=by simp[h]
  clear_value h
  refine ez.push (A.eY (dy.fe (λ_=>False) i C) id id) G.new (x:=.mk a.size 0 1 1) rfl kd (S.ext i) (Rz.of f (λz=>(t.trans i).same _ (f.F z).2) (λ_=>D.ext (n.trans i)) Q K) X λv r Z E l=>⟨λb j=>?_,v,r,rfl,?_,G.trans (l.mono λk B=>Or.inl B)⟩
  ·simp at j;subst j
   exact l.fu _ V (by rw[L];decide)
  ·rw[lg,aq V];exact E
 ·simp at e
  have h:c<d.length:=V
  have i:Int.toNat (c:Int)=c:=V
  rw[i]
  refine⟨V,V,A.wr (o:=0) h bd,?_⟩
  intro Z
  obtain⟨E,l⟩:=A.setCell C h 1 w S (Rz.of f (λz=>t.same _ (f.F z).2) (λ_=>D.ext n) Q K)
  refine⟨λb j=>?_,g,s,rfl,?_,y.trans (l.mono λk B=>Or.inl B)⟩
  ·simp at j;subst j
   exact l.fu _ V (by rw[L];decide)
  ·rw[lg,ae V];exact E
def OL(b:d[j]? =some c)(a:c.aQ≠0):jS d (j+1)=j+1:=by
 simp only[jS,b];rw[ae a]
def Rb(b:d[j]? =some c)(a:c.aQ=0):jS d (j+1)=jS d j:=by
 simp only[jS,b];rw[aq a]
def vt{a:O}(b:cV m a d):aN bY 215 [O.v a] m λv o=>v=O.v (a.cut 0 (jS d d.length) 3)/\J m o:=by
 apply HN;have x:=b.len;have u:=b.cap;have y:=b.fL;refine⟨λi o=>J m o/\∃j:Nat,i=j/\j<=d.length/\jS d j=jS d d.length,λi _=>i.toNat,⟨J.aC _,d.length,V,ad _,rfl⟩,?_⟩;rintro i s ⟨n,j,rfl,z,p⟩;have il:jS d j=j->Value.slice=Value.slice->(0:Int)<=(0:Int)/\(0:Int)<=(j:Int)/\(j:Int)<=(a.cap:Int)/\(O.v (O.cut a (Int.toNat (0:Int)) (Int.toNat (j:Int)) 3)=O.v (a.cut 0 (jS d d.length) 3)/\J m s):=λe _=>by
  refine⟨V,V,V,?_,n⟩;rw[<-p,e];rfl
 refine⟨λf=>?_,λf=>?_⟩
 ·simp only[mH,ao]at f;obtain⟨k,rfl⟩:∃k,j=k+1:=⟨j -1,V⟩;have q:cK (((k+1:Nat):Int) -1)=(k:Int):=by rw[aP V V];omega
  rw[q];obtain⟨c,h⟩:=ag (l:=d) (k:=k) V;obtain⟨t,w,r,_⟩:=(cV.ext n b).u h;refine⟨V,V,c.aQ,by simpa using r,λg=>⟨⟨n,k,rfl,V,?_⟩,by show(k:Int).toNat<((k+1:Nat):Int).toNat;omega⟩,λg=>?_⟩
  ·rw[<-p,Rb h (by simpa using g)]
  ·exact il (OL h (by simpa using g)) rfl
 ·simp only[mH,bP]at f;have:j=0:=V;subst this;exact il rfl rfl
def gX.UP{s:O}(d:gX g m aB 1 k s ((q++[i]).map Ce.i)):s.len=q.length+1/\D m s.F (s.off+q.length*1)=some (vi i)/\gX g m aB 1 k (s.cut 0 q.length 1) (q.map Ce.i):=by
 have a:s.len=q.length+1:=by have:=d.len;simp at this;omega
 refine⟨a,?_,?_⟩
 ·have:=d.je q.length (.i i) E;rw[dG];exact this
 ·have:=d.cut (n:=q.length) V;rw[dG,eP,lW E,mh E]at this;exact this
def fp.RX(h:fp d (λb=>e b+dS (i::r) b))(c:∀b,0<=e b)(a:jc d i)(f:(aX d i).aQ=1):fp (d.set (ix i) jx) (λb=>e b+dS ((aX d i).aK.reverse++r) b):=by
 obtain⟨g,j⟩:=cp a;refine fp.On h g f ?_ bd bd rfl (by simp[jx]) (by simp[jx]) (λ_=>rfl) λb=>?_
 ·simp only[gK a.1,aq];have:=c (ix i);have:=gL r (ix i);omega
 ·simp only[gK a.1,mS,xC];omega
def fp.Qz(c:fp d (λb=>e b+dS (i::r) b))(g:∀b,0<=e b)(f:jc d i)(j:(aX d i).aQ≠1):fp (fG d i) (λb=>e b+dS r b):=by
 obtain⟨a,h⟩:=cp f;have k:=(c.cell _ (au a)).hi;refine fp.HV c a h V V (λb=>?_) ?_
 ·simp only[gK f.1];split<;>omega
 ·have:=g (ix i);have:=gL r (ix i);omega
def fp.RW(a:fp d (λb=>e b+dS (i::r) b))(c:i<1000):fp d (λb=>e b+dS r b):=
 a.congr λb=>by simp only[dS];rw[ae V];omega
def fp.Qy(f:fp d (λb=>e b+dS (i::r) b))(c:∀b,0<=e b)(a:1000<=i):jc d i:=
 ⟨a,f.lv _ (by simp only[gK a,aq];have:=c (ix i);have:=gL r (ix i);omega)⟩
def G6:List bM->Nat
 |[]=>0
 |c::d=>c.aK.length+G6 d
def IC:∀{d:List bM}{e:Nat}{c:bM}(b:bM),d[e]? =some c->G6 (d.set e b)+c.aK.length=G6 d+b.aK.length
 |[],e,c,b,d=>by simp at d
 |g::d,0,c,b,f=>by simp at f;subst f;simp only[ig,G6];omega
 |g::d,e+1,c,b,f=>by
  have:=IC (d:=d) (e:=e) b (by simpa using f);simp only[ic,G6];omega
def Pe:∀{d:List bM},(∀c∈d,c.aK.length<=3)->G6 d<=3*d.length
 |[],_=>by simp[G6]
 |c::d,a=>by
  have:=Pe (λb e=>a b (ai _ e));have:=a c ba;simp only[G6,bg];omega
def DH{F:O}(hh:ez N g m F d)(hn:∀b,m.size<=b->g b=0){ws:O}(hw:ar m ws [i])(hI:fp d (λb=>e b+dS [i] b))(he:∀b,0<=e b)(aO:d.length<=2000000000):
 aN bY 184 [O.v F,O.v ws] m λaF v=>∃y am,aF=O.v am/\ez N y v am (p7 (iC d [i]))/\HC g m y v:=by
 apply ye
 refine(fE hw E).then E λs Q o1 i1 h1=>⟨s,rfl,?_⟩
 have av:s≠.nil:=λe=>by subst e;have:=i1.len;simp at this
 have I:m.size<=s.F/\s.F<Q.size:=by
  rcases o1.F with e|e
  ·exact absurd e av
  ·rcases o1.lt with A|A
   ·exact absurd A av
   ·exact⟨e,A⟩
 have c1:HC g m (uA g s.F 6) Q:=dy.uA h1 hn I.1 I.2 6
 have a1:gX (uA g s.F 6) Q aB 1 6 s ([i].map Ce.i):=gX.ij o1 λ_=>iF _ _ _
 have aA:ez N (uA g s.F 6) Q F d:=hh.eY (dy.uA (p:=λ_=>False) h1 hn I.1 I.2 6) id id
 have aJ:=Pe λc a=>(hI.cell c a).fl
 have aK:=hh.len
 refine Mr (γ:=List bM×List Int) (λh G v=>∃y,ez N y v F h.1/\gX y v aB 1 6 G (h.2.reverse.map Ce.i)/\HC g m y v/\fp h.1 (λb=>e b+dS h.2 b)/\iC h.1 h.2=iC d [i]/\h.1.length=d.length/\h.2.length+G6 h.1<=1+G6 d) (λh=>GW h.1+h.2.length) (d,[i])
  ⟨_,aA,a1,c1,hI,rfl,rfl,E⟩ ?_
 rintro⟨a,st⟩ G m2 aG μ ⟨q,B,z,h,t,u,M,ag⟩ ad
 simp only[]at B z t u M ag
 have aw:G.len=st.length:=by have:=z.len;simp at this;omega
 refine⟨λW=>?_,λW=>?_⟩
 ·simp only[mH,ao]at W
  cases st with
  |nil=>simp at aw;omega
  |cons x r=>
   simp only[YK]at z
   obtain⟨p1,p2,p3⟩:=z.UP
   simp only[bg,Kv]at aw p1 p2 p3 ag
   have e1:cK ((G.len:Int) -1)=(r.length:Int):=by rw[aP V V];omega
   have aH:=z.le
   rw[e1]
   have A:Int.toNat (0:Int)=0:=rfl
   have e3:Int.toNat (r.length:Int)=r.length:=V
   rw[A,e3]
   refine⟨V,V,x,p2,V,V,V,(dw _ _).then λb R hb n=>⟨b,rfl,λaz=>?_,λay=>?_⟩⟩
   ·have hx:=hb.1 az
    have D:=t.Qy he hx
    obtain⟨j,ap⟩:=cp D
    have aj:=ax j
    have aD:ix x=(x -1000).toNat:=rfl
    have aM:=(t.cell _ (au j)).hi
    have e4:cK (x -1000)=x -1000:=aP V V
    rw[e4,<-aD]
    have K:HC q m2 q R:=dy.fe _ n h.new
    have ab:ez N q R F a:=B.eY (dy.fe (λ_=>False) n h.new) id id
    have a3:=p3.eY (dy.fe (λ_=>False) n h.new) id
    obtain⟨f0,g0,_,_,_,_⟩:=ab.cy j
    refine⟨V,V,_,g0,V,V,ab.wr (o:=0) aj bd,?_⟩
    have e5:cK ((aX a x).aQ -1)=(aX a x).aQ -1:=aP V V
    rw[e5]
    intro m4
    obtain⟨ac,c4⟩:=ab.Dv K.new j ((aX a x).aQ -1)
    have T:=a3.eY c4 bd
    have U:HC g m q m4:=(h.trans K).trans (c4.mono λk C=>Or.inl C)
    have Z:=lB (d:=jx) j
    simp only[aq ap,jx]at Z
    simp at Z
    have aE:(a.set (ix x) {aX a x with aQ:=(aX a x).aQ -1})[ix x]? =some {aX a x with aQ:=(aX a x).aQ -1}:=eD j
    obtain⟨f1,k0,_,k2,kf,kr⟩:=ac.cy aE
    refine⟨V,V,_,k0,λX=>?_,λX=>?_⟩
    ·simp only[aL]at X
     have al:(aX a x).aQ=1:=V
     have aI:=(t.cell _ (au j)).fl
     have aa:=kf.len
     simp only[]at aa kf kr
     have L:=IC jx j
     simp only[jx,eF]at L
     refine⟨V,V,f1,k2,gX.append (zs:=[.i 0]) (c:=(aX a x).aK.map Ce.i) T U.new (by simp[aa]) kf.Hd ?_ λae aR S q1 q2=>?_⟩
     ·have:(G.cut 0 r.length 1).len=r.length:=by have:=T.len;simp at this;omega
      rw[this,aa];omega
     have aC:=ac.eY q2 bd bd
     have H:HC g m ae S:=U.trans (q2.mono λk C=>Or.inr (Or.inr C))
     intro m6
     have Y:J S m6:=(J.aC S).aM _
     have ah:=aC.eY (dy.fe (λ_=>False) Y H.new) id id
     have a6:=q1.eY (dy.fe (λ_=>False) Y H.new) id
     have af:HC g m ae m6:=H.trans (dy.fe _ Y H.new)
     clear_value m6
     have ak:ix x<(a.set (ix x) {aX a x with aQ:=(aX a x).aQ -1}).length:=by simpa using aj
     refine⟨V,V,ah.wr (o:=0) ak bd,?_⟩
     intro m7
     obtain⟨ai,c7⟩:=ah.setCell af.new ak 0 0 (f:=.mk S.size 0 0 0) (b:=[]) ⟨rfl,E,E,E⟩ (λP=>absurd rfl P)
     rw[List.set_set]at ai
     refine ad (a.set (ix x) jx,(aX a x).aK.reverse++r) _ _ ⟨ae,ai,?_,af.trans (c7.mono λk C=>Or.inl C),t.RX he D al,?_,by simpa using M,?_⟩ ?_
     ·have:=a6.eY c7 bd
      simpa using this
     ·rw[<-zh D al];exact u
     ·simp only[a9,Kv]
      have C:G6 (a.set (ix x) jx)+(aX a x).aK.length=G6 a:=by simpa[jx]using L
      omega
     ·simp only[a9,Kv,bg]
      have C:GW (a.set (ix x) jx)+((aX a x).aQ.toNat+(aX a x).aK.length)=GW a:=by simpa[jx]using Z
      omega
    ·simp only[an]at X
     have P:(aX a x).aQ≠1:=V
     have C:=lB (d:={aX a x with aQ:=(aX a x).aQ -1}) j
     simp only[aq ap]at C
     rw[aq V]at C
     have L:=IC {aX a x with aQ:=(aX a x).aQ -1} j
     refine ad (fG a x,r) _ _ ⟨q,ac,T,U,t.Qz he D P,?_,by simpa[fG]using M,?_⟩ ?_
     ·rw[<-uI D P];exact u
     ·simp only[fG];simp only[]at L;omega
     ·simp only[fG,bg];omega
   ·have hx:=fb hb ay
    have K:HC q m2 q R:=dy.fe _ n h.new
    refine ad (a,r) _ _ ⟨q,B.eY (dy.fe (λ_=>False) n h.new) id id,p3.eY (dy.fe (λ_=>False) n h.new) id,h.trans K,t.RW V,?_,M,by simp only[];omega⟩ E
    rw[<-uJ (w:=x) (λj=>hx j.1)];exact u
 ·simp only[mH,bP]at W
  have j:st=[]:=List.length_eq_zero_iff.1 V
  subst j
  rw[zg]at u
  subst u
  refine(vt (B.cells V)).mono ?_
  rintro _ R ⟨rfl,n⟩
  refine⟨_,rfl,q,_,rfl,?_,h.trans (dy.fe _ n h.new)⟩
  exact(B.eY (dy.fe (λ_=>False) n h.new) id id).cut (rK _ _)
end
section
variable{i:Int}
structure ST(m0:I)(ro:Nat->Nat)(m:I)(mb e:Nat)(bx:List Ce)(bo hp fr:O)(lo:List Int)(lh:List bM)(fs:List aZ)(f:aZ)(r o h:O)(css:List (List Ce)):Prop where
 eu:zy m0 ro m mb e bx bo hp fr lo lh (fs++[f])
 hO:qO ro m fr fs f r o h css
section
variable{g:I}{a t:Nat->Nat}{m s:I}{d e:Nat}{j:List Ce}{bo l b:O}{q:List Int}{n:List bM}{c:List aZ}{f:aZ}{r o h:O}{k:List (List Ce)}
def ST.ext(S:ST g a m d e j bo l b q n c f r o h k)(i:J m s):ST g a s d e j bo l b q n c f r o h k/\To a m a s:=
 ⟨⟨(S.eu.ext i).1,S.hO.ext S.eu.new i⟩,(S.eu.ext i).2⟩
def ST.Fe(S:ST g a m d e j bo l b q n c f r o h k){i:Int}(s:0<=i)(t:i<f.av.length)(v:Int):ST g a (aj m r.F (r.off+i.toNat*1) [.i v]) d e j bo l b q n c {f with av:=gU f.av i v} r o h k/\To a m a (aj m r.F (r.off+i.toNat*1) [.i v]):=by
 obtain⟨p,u⟩:=S.hO.Fe S.eu.new s t v;obtain⟨w,x⟩:=S.eu.kQ u p.rR;exact⟨⟨w,p⟩,x⟩
def ST.xJ(S:ST g a m d e j bo l b q n c f r o h k){i:Int}(s:0<=i)(t:i<f.aW.length)(v:Int):ST g a (aj m o.F (o.off+i.toNat*1) [.i v]) d e j bo l b q n c {f with aW:=gU f.aW i v} r o h k/\To a m a (aj m o.F (o.off+i.toNat*1) [.i v]):=by
 obtain⟨p,u⟩:=S.hO.xJ S.eu.new s t v;obtain⟨w,x⟩:=S.eu.kQ u p.rR;exact⟨⟨w,p⟩,x⟩
def ST.Dw(S:ST g a m d e j bo l b q n c f r o h k){i:Int}(s:0<=i)(t:i<f.bn.length)(v:Int):ST g a (aj m h.F (h.off+i.toNat*1) [.i v]) d e j bo l b q n c {f with bn:=gU f.bn i v} r o h k/\To a m a (aj m h.F (h.off+i.toNat*1) [.i v]):=by
 obtain⟨p,u⟩:=S.hO.Dw S.eu.new s t v;obtain⟨w,x⟩:=S.eu.kQ u p.rR;exact⟨⟨w,p⟩,x⟩
def ST.Pt(S:ST g a m d e j bo l b q n c f r o h k)(v:Int):ST g a (aj m b.F (b.off+c.length*6+1) [.i v]) d e j bo l b q n c {f with pc:=v} r o h k/\To a m a (aj m b.F (b.off+c.length*6+1) [.i v]):=by
 obtain⟨i,p⟩:=S.hO.Pt S.eu.new v;obtain⟨s,t⟩:=S.eu.kQ p i.rR;exact⟨⟨s,i⟩,t⟩
def ST.nX(S:ST g a m d e j bo l b q n c f r o h k)(i:Nat)(s:List Ce):ST g a (aj m d i s) d e (iE j i s) bo l b q n c f r o h k/\To a m a (aj m d i s):=by
 obtain⟨u,v⟩:=S.eu.nX i s;exact⟨⟨u,S.hO.eY (dy.aj (p:=λt=>t=1) S.eu.new S.eu.Pr i s) λt w=>V⟩,v⟩
def ST.jh(S:ST g a m d e j bo l b q n c f r o h k)(i:HC a m t s){p:O}{u:List bM}(x:ez g.size t s p u):ST g t s d e j bo p b q u c f r o h k/\To a m t s:=by
 obtain⟨v,w⟩:=S.eu.jh i x;exact⟨⟨v,S.hO.eY i λz y=>V⟩,w⟩
def ST.Jm(S:ST g a m d e j bo l b q n c f r o h k)(i:dy (λp=>p=2) a m t s){v:O}{u:List Int}(y:gX t s aB 1 2 v (u.map Ce.i)):ST g t s d e j v l b u n c f r o h k/\To a m t s:=by
 obtain⟨w,x⟩:=S.eu.Jm i y;exact⟨⟨w,S.hO.eY i λp z=>V⟩,x⟩
end
def dy.OC{c f:Nat->Nat}{m a:I}(h:To c m f a){b:Nat}(e:b<m.size)(d:c b=0):dV [b] m a:=h.da (by simpa using⟨e,d⟩)
abbrev SB(d p:O)(s:St)(bo b a:O):List Ce:=[.s d,.s p,.i s.cL,.i s.value,.i s.bI,.i s.dK,.s bo,.s b,.s a]
def vT(f:I)(h:Nat->Nat)(m:I)(g:Nat)(e p:O)(s:St)(c:I):Prop:=
 ∃d bo b a,zy f d c g bF (SB e p s bo b a) bo b a s.bo s.heap s.ak/\To h m d c
def vT.from{b:I}{f g:Nat->Nat}{m c a:I}{e:Nat}{d p:O}{s:St}(i:vT b g c e d p s a)(n:To f m g c):vT b f m e d p s a:=
 let⟨o,bo,l,h,j,k⟩:=i
 ⟨o,bo,l,h,j,n.trans k⟩
section
variable{q:I}{e:Nat->Nat}{m:I}{g:Nat}{d p bo b c:O}{a:St}{j:List aZ}{f:aZ}{r t h:O}{u:List (List Ce)}
def ji(S:ST q e m g bF (SB d p a bo b c) bo b c a.bo a.heap j f r t h u)(s:j.length<=100000)(v:Int):
 aN bY 183 [vp g 0,vi v] m λw k=>ST q e k g bF (SB d p a bo b c) bo b c a.bo a.heap j {f with pc:=v} r t h u/\To e m e k:=by
 apply np (g,0)
 have i:D m g 8=some (O.v c):=S.eu.box.cy 8
 have o:=S.hO.C0
 have l:cK ((c.len:Int) -1)=(j.length:Int):=by rw[aP V V];omega
 have n:Int.toNat (j.length:Int)=j.length:=V
 refine⟨c,i,c,i,?_⟩
 rw[l,n]
 exact⟨V,V,S.hO.Wk,S.Pt v⟩
def yK(S:ST q e m g bF (SB d p a bo b c) bo b c a.bo a.heap j f r t h u)(U:j.length<=100000)(k:0<=i)(x:i<f.av.length)(y:i<f.aW.length)(w:Int)(ab:0<=f.pc/\f.pc<=100000):
 aN bY 176 [vp g 0,vi i,vi w] m λ_ A=>ST q e A g bF (SB d p a bo b c) bo b c a.bo a.heap j (aZ.put {f with pc:=f.pc+1} i w 0) r t h u/\To e m e A:=by
 apply sj (g,0)
 simp -zeta only[aE,aD]
 have z:D m g 8=some (O.v c):=S.eu.box.cy 8
 have Z:=S.hO.C0
 have I:cK ((c.len:Int) -1)=(j.length:Int):=by rw[aP V V];omega
 have K:Int.toNat (j.length:Int)=j.length:=V
 obtain⟨M,N,P,Q,R,T⟩:=S.hO.je
 have ac:r.len=f.av.length:=by have:=S.hO.av.len;simp at this;omega
 have aa:t.len=f.aW.length:=by have:=S.hO.aW.len;simp at this;omega
 refine⟨c,z,c,z,?_⟩
 rw[I,K]
 refine⟨V,V,_,M,_,N,_,P,r,Q,t,R,h,T,?_⟩
 intro X l
 have W:J m l:=((J.aC m).aM _).aj (ad _) _ _
 have s2:l.size=m.size+1:=by simp[l,X,az]
 have n:e m.size=0:=S.eu.new _ (ad _)
 obtain⟨s,Y⟩:=S.ext W
 clear_value l
 refine⟨k,V,s.hO.av.P9 k x,?_⟩
 intro o
 obtain⟨v,C⟩:=s.Fe k x w
 have s3:o.size=l.size:=az _ _ _ _
 refine⟨C.OC (show m.size<l.size by omega) n,k,V,v.hO.aW.P9 k y,?_⟩
 intro B
 obtain⟨G,E⟩:=v.xJ k (by simpa using y) 0
 have s4:B.size=o.size:=az _ _ _ _
 have L:cK (f.pc+1)=f.pc+1:=aP V V
 rw[L]
 refine⟨E.OC (show m.size<o.size by omega) n,(ji G U (f.pc+1)).mono ?_⟩
 rintro _ m5 ⟨H,F⟩
 exact⟨F.OC (show m.size<B.size by omega) n,H,((Y.trans C).trans E).trans F⟩
def rC(S:ST q e m g bF (SB d p a bo b c) bo b c a.bo a.heap j f r t h u)(ag:j.length<=100000)(k:0<=i)(F:i<f.av.length)(n:i<f.aW.length)(w:Int):
 aN bY 186 [vp g 0,vi i,vi w] m λ_ K=>ST q e K g bF (SB d p a bo b c) bo b c a.bo a.heap j (f.put i w (iV w)) r t h u/\To e m e K:=by
 apply sg (g,0)
 simp -zeta only[aE,aD]
 have I:D m g 8=some (O.v c):=S.eu.box.cy 8
 have af:=S.hO.C0
 have R:cK ((c.len:Int) -1)=(j.length:Int):=by rw[aP V V];omega
 have T:Int.toNat (j.length:Int)=j.length:=V
 obtain⟨W,X,Y,Z,g4,g5⟩:=S.hO.je
 have ai:r.len=f.av.length:=by have:=S.hO.av.len;simp at this;omega
 have ah:t.len=f.aW.length:=by have:=S.hO.aW.len;simp at this;omega
 refine⟨c,I,c,I,?_⟩
 rw[R,T]
 refine⟨V,V,_,W,_,X,_,Y,r,Z,t,g4,h,g5,?_⟩
 intro m1 l
 have ac:J m l:=((J.aC m).aM _).aj (ad _) _ _
 have s2:l.size=m.size+1:=by simp[l,m1,az]
 have o:e m.size=0:=S.eu.new _ (ad _)
 obtain⟨B,M⟩:=S.ext ac
 clear_value l
 refine⟨k,V,B.hO.av.P9 k F,?_⟩
 intro x
 obtain⟨C,y⟩:=B.Fe k F w
 have s3:x.size=l.size:=az _ _ _ _
 refine⟨y.OC (show m.size<l.size by omega) o,k,V,C.hO.aW.P9 k n,?_⟩
 intro L
 obtain⟨P,z⟩:=C.xJ k (by simpa using n) 0
 have s4:L.size=x.size:=az _ _ _ _
 refine⟨z.OC (show m.size<x.size by omega) o,(dw _ _).mono ?_⟩
 rintro _ m5 ⟨Q,rfl,H,G⟩
 obtain⟨s,A⟩:=P.ext G
 have s5:=G.size
 refine⟨A.OC (show m.size<L.size by omega) o,Q,rfl,λab=>?_,λaa=>?_⟩
 ·refine⟨k,V,s.hO.aW.P9 k (by simpa[jH]using n),?_⟩
  intro m6
  obtain⟨E,N⟩:=s.xJ k (by simpa[jH]using n) 1
  refine⟨N.OC (show m.size<m5.size by omega) o,?_,(((M.trans y).trans z).trans A).trans N⟩
  have U:gU (gU f.aW i 0) i 1=gU f.aW i 1:=by simp[gU,List.set_set]
  have v:iV w=1:=by rw[iV,aq (H.1 ab)]
  simp only[U]at E
  rw[v];exact E
 ·refine⟨?_,((M.trans y).trans z).trans A⟩
  have v:iV w=0:=by rw[iV,ae (fb H aa)]
  rw[v];exact s
def zm:∀(a:List Int)(g:List bM),(jZ g a).length=g.length
 |[],g=>rfl
 |w::a,g=>by rw[jZ,zm a];simp[nJ]
def Je:∀(a:List Int)(g:List bM)(w:Int),jZ g (a++[w])=nJ (jZ g a) w
 |[],g,w=>rfl
 |v::a,g,w=>by rw[cR,jZ,Je a,jZ]
def GF:∀(b:List Int)(g:List bM)(n:Int),(∀c∈g,-10<=c.aQ/\c.aQ<=n)->∀c∈jZ g b,-10<=c.aQ/\c.aQ<=n+b.length
 |[],g,n,h,c,e=>by have:=h c e;simp;omega
 |w::b,g,n,h,c,e=>by
  have:=GF b (nJ g w) (n+1) (λd a=>by
   rcases pd a with rfl|⟨j,_,i⟩
   ·simp only[aX];cases f:g[ix w]? with
    |none=>
     unfold nJ at a;rw[CF (List.getElem?_eq_none_iff.1 f)]at a;have:=h _ a;simp only[aX,f]at this⊢;omega
    |some x=>have:=h x (au f);simp only[tx];omega
   ·have:=h d (au i);omega) c e
  simp only[bg];omega
def AP(L:zy q e m g bF (SB d p a bo b c) bo b c a.bo a.heap j){w:O}{f:List Int}(y:ar m w f)(S:f≠[]->e w.F=0)(P:∀h∈f,1000<=h/\ix h<a.heap.length)(K:∀i∈a.heap,-10<=i.aQ/\i.aQ<=999999)(ab:f.length<=1000000)(Z:a.heap.length<=2000000000):
 aN bY 182 [vp g 0,O.v w] m λ_ u=>ez q.size e u b (jZ a.heap f)/\dy (λh=>h=3) e m e u:=by
 apply tq (g,0)
 have ac:=y.len
 have M:D m g 7=some (O.v b):=L.box.cy 7
 refine dO (n:=f.length) V (λh u=>ez q.size e u b (jZ a.heap (f.take h))/\dy (λh=>h=3) e m e u) ⟨L.heap,dy.aC _ L.new⟩ ?_
 rintro h C W μ hk ⟨r,s⟩ U
 refine dit (λI=>?_) λI=>?_
 ·obtain⟨x,t⟩:=ag (l:=f) (k:=h) V
  obtain⟨ad,B⟩:=P x (au t)
  have A:f≠[]:=λE=>by rw[E]at t;simp at t
  have T:ar C w f:=mJ y λ_=>s.fu _ (nD y A) (by rw[S A];decide)
  have z:D C g 7=some (O.v b):=by rw[aI (s.fu _ L.box.lt (by rw[L.Pr];decide))];exact M
  have R:=r.len
  rw[zm]at R
  obtain⟨i,v⟩:=ag (l:=jZ a.heap (f.take h)) (k:=ix x) (by rw[zm];exact B)
  obtain⟨X,H,_⟩:=r.cy v
  have Q:ix x=(x -1000).toNat:=rfl
  have F:cK (x -1000)=x -1000:=aP V V
  have Y:=GF (f.take h) a.heap 999999 K i (au v)
  have aa:((f.take h).length:Int)<=1000000:=bK
  have G:cK (i.aQ+1)=i.aQ+1:=aP V V
  refine⟨V,V,x,by simpa using T.u t,b,z,b,z,?_⟩
  rw[F,<-Q]
  refine⟨V,V,i.aQ,H,V,V,r.wr (o:=0) (by rw[zm];exact B) bd,?_⟩
  rw[G]
  obtain⟨N,J⟩:=r.Dv s.new v (i.aQ+1)
  refine U V _ ⟨?_,s.trans J⟩
  rw[bH t,Je]
  have:aX (jZ a.heap (f.take h)) x=i:=by simp[aX,v]
  unfold nJ
  rw[this];exact N
 ·rw[bZ V]at r
  exact⟨r,s⟩
def yO(L:zy q e m g bF (SB d p a bo b c) bo b c a.bo a.heap j){w:Int}(A:jc a.heap w){k:Nat->Int}(r:fp a.heap k)(P:a.heap.length<=2000000000):
 aN bY 214 [vp g 0,vi w] m λF u=>∃i:Bool,F=vb i/\(i=true<->(aX a.heap w).aQ=1)/\dy (λy=>y=3) e m e u/\(i=true->ez q.size e u b a.heap)/\(i=false->ez q.size e u b (jZ (fG a.heap w) (pR (aX a.heap w).aK))):=by
 apply sk (g,0)
 obtain⟨f,ae⟩:=cp A
 have R:=ax f
 have ac:=L.heap.len
 have Q:ix w=(w -1000).toNat:=rfl
 have ab:=A.1
 have I:cK (w -1000)=w -1000:=aP V V
 have t:D m g 7=some (O.v b):=L.box.cy 7
 have ad:=(r.cell _ (au f)).hi
 have J:cK ((aX a.heap w).aQ -1)=(aX a.heap w).aQ -1:=aP V V
 obtain⟨f0,x,g1,g2,gf,gr⟩:=L.heap.cy f
 rw[I,<-Q]
 refine⟨b,t,V,V,_,x,λn=>?_,λn=>?_⟩
 ·exact⟨true,rfl,by simpa using n,dy.aC _ L.new,λ_=>L.heap,λh=>by simp at h⟩
 ·simp only[an]at n
  refine⟨b,t,b,t,V,V,_,x,V,V,L.heap.wr (o:=0) R bd,?_⟩
  rw[J]
  intro m1
  obtain⟨z,l⟩:=L.heap.Dv L.new f ((aX a.heap w).aQ -1)
  obtain⟨K,k0,k1,X,Y,kr⟩:=z.cy (eD f)
  obtain⟨v,t1⟩:=L.jh (l.mono λy B=>Or.inl B) z
  have aa:=(r.cell _ (au f)).fl
  refine⟨b,v.box.cy 7,V,V,K,X,?_⟩
  refine(mV Y (by simp only[];omega)).then (by have:=rh (aX a.heap w).aK;simp only[];omega) λE m2 Z C y=>⟨E,rfl,?_⟩
  obtain⟨G,t2⟩:=v.ext y
  have T:pR (aX a.heap w).aK≠[]->e E.F=0:=λS=>by
   rcases Z.F with k|k
   ·subst k;have:=C.len;simp at this;exact absurd (List.length_eq_zero_iff.1 this.symm) S
   ·exact l.new _ k
  have:=rh (aX a.heap w).aK
  refine(AP (a:={a with heap:=fG a.heap w}) (j:=j) G C T (λF U=>?_) (λH M=>?_) (by simp only[];omega) (by simpa[fG]using P)).mono ?_
  ·obtain⟨W,B⟩:=mu.1 U
   have N:=r.field (au f) W B
   exact⟨B,by simpa[fG]using ax (cp N).1⟩
  ·rcases pd M with rfl|⟨i,_,B⟩
   ·simp only[];omega
   ·have:=r.cell H (au B);have N:=this.lo;have W:=this.hi;omega
  ·rintro _ W ⟨N,B⟩
   exact⟨false,rfl,by simpa using n,(l.trans (dy.fe _ y l.new)).trans B,λh=>by simp at h,λ_=>N⟩
end
end
section
variable{q:Nat->Nat}{c:I}{e:Nat}{g:List Ce}{x:Instr}{a j:O}{b:Int}
def Ll(c:Nat->Nat)(m:I)(a:List Nat):Prop:=∀b∈a,b<m.size/\c b=0
def Ll.to{p:Nat->Prop}{e:Nat->Nat}{m:I}{d:List Nat}(h:Ll e m d)(t:dy p e m q c):Ll q c d:=λb a=>⟨aJ (h b a).1 t.size,by rw[t.iW b (h b a).1];exact(h b a).2⟩
def dy.fW{b:Nat->Nat}{m:I}(t:To b m q c){a:List Nat}(h:Ll b m a):dV a m c:=t.da h
def Ll.HO{f:Nat->Nat}{m d e:I}(c:∀b,m.size<=b->f b=0)(g:d.size=m.size+1)(h:e.size=m.size+2):Ll f e [d.size,m.size]:=λb a=>by
 simp at a;rcases a with rfl|rfl
 ·exact⟨V,c _ V⟩
 ·exact⟨V,c _ V⟩
noncomputable def uG (s:St) (a:List aZ) (f:aZ) (x:Instr) (t:Int):St:=
 open Classical in
 if x.bV≠0/\u f.bn (x.bV -1)≠0 then
  {s with heap:=s.heap.set (ix (u f.bn (x.bV -1))) ⟨1,t,dh f x.args⟩,ak:=a++[aZ.put {f with pc:=f.pc+1,bn:=gU f.bn (x.bV -1) 0} x.dst (u f.bn (x.bV -1)) 1]}
 else{s with heap:=lg s.heap (eK s.heap) ⟨1,t,dh f x.args⟩,ak:=a++[aZ.put {f with pc:=f.pc+1} x.dst (1000+eK s.heap) 1]}
section
variable{H:I}{B:Nat->Nat}{y:I}{G:Nat}{d p bo z C:O}{v:St}{F:List aZ}{t:aZ}{r A h:O}{K:List (List Ce)}
def ST.Jg{b:List Int}{a:List bM}(S:ST H B y G e g bo z C b a F t r A h K)(c:t.av.length<=1000000):ar y r t.av:=S.hO.av.ov V
def ST.Q3{b:List Int}{a:List bM}(S:ST H B y G e g bo z C b a F t r A h K)(c:t.aW.length<=1000000):ar y A t.aW:=S.hO.aW.ov V
def ST.QO{b:List Int}{a:List bM}(S:ST H B y G e g bo z C b a F t r A h K)(c:t.bn.length<=1000000):ar y h t.bn:=S.hO.bn.ov V
def sN(S:ST H B y G bF (SB d p v bo z C) bo z C v.bo v.heap F t r A h K)(ha:ar H a x.args)(ag:∀b∈x.args,0<=b/\b<t.av.length)(au:x.args.length<=4)(g:Int)
 (ay:t.av.length=t.aW.length/\t.bn.length=t.aW.length/\t.aW.length<=2000)(ah:0<=x.dst/\x.dst<t.aW.length)(ax:0<=x.bV/\x.bV<=t.bn.length)(az:0<=t.pc/\t.pc<=100000)(ab:F.length<=100000)(av:v.heap.length<=1000000000)
 (aj:∀w∈t.bn,w≠0->1000<=w/\ix w<v.heap.length):
 aN bY 178 [vp G 0,fv t r A h,xv x a j,vi g] y λ_ c=>vT H B y G d p (uG v F t x g) c:=by
 apply pV (G,0)
 simp -zeta only[aE,aD]
 intro w I
 have an:J y I:=((J.aC y).aM _).aM _
 have s1:w.size=y.size+1:=by simp[w]
 have s2:I.size=y.size+2:=by simp[I,s1]
 have Y:=Ll.HO S.eu.new s1 s2
 obtain⟨N,t2⟩:=S.ext an
 clear_value I
 have aw:h.len=t.bn.length:=by have:=S.hO.bn.len;simp at this;omega
 have q:∀{B y t},ST H B y G bF (SB d p v bo z C) bo z C v.bo v.heap F t r A h K->D y G 7=some (O.v z):=λS=>S.eu.box.cy 7
 refine⟨z,q N,(DJ (N.eu.heap.cells V)).mono ?_⟩
 rintro _ Q ⟨rfl,ac⟩
 obtain⟨o,L⟩:=N.ext ac
 have M:=Y.to L
 refine⟨L.fW Y,_,rfl,λaa c=>∃(b:Nat)(e:aZ),aa=b/\ST H B c G bF (SB d p v bo z C) bo z C v.bo v.heap F e r A h K/\To B y B c/\Ll B c [w.size,y.size]/\b<=v.heap.length/\
  e.av=t.av/\e.aW=t.aW/\e.pc=t.pc/\uG v F t x g={v with heap:=lg v.heap b ⟨1,g,dh t x.args⟩,ak:=F++[aZ.put {e with pc:=t.pc+1} x.dst (1000+b) 1]},?_,?_⟩
 ·have none:¬(x.bV≠0/\u t.bn (x.bV -1)≠0)->∃(b:Nat)(e:aZ),((eK v.heap:Nat):Int)=b/\ST H B Q G bF (SB d p v bo z C) bo z C v.bo v.heap F e r A h K/\To B y B Q/\Ll B Q [w.size,y.size]/\b<=v.heap.length/\
   e.av=t.av/\e.aW=t.aW/\e.pc=t.pc/\uG v F t x g={v with heap:=lg v.heap b ⟨1,g,dh t x.args⟩,ak:=F++[aZ.put {e with pc:=t.pc+1} x.dst (1000+b) 1]}:=λZ=>
   ⟨_,t,rfl,o,t2.trans L,M,tG _,rfl,rfl,rfl,by rw[uG,ae Z]⟩
  refine⟨λP=>?_,λP=>none λU=>by simp at P;omega⟩
  simp at P
  have W:cK (x.bV -1)=x.bV -1:=aP V V
  rw[W]
  have k:0<=x.bV -1/\x.bV -1<t.bn.length:=V
  have T:=(o.QO V).EG k.1 k.2
  refine⟨V,V,_,T,λm=>?_,λm=>none λU=>by simp at m;exact U.2 m⟩
  simp at m
  obtain⟨ad,ai⟩:=aj _ (iv k.1 k.2) m
  refine⟨V,V,_,T,V,V,o.hO.bn.P9 k.1 k.2,?_⟩
  intro R
  obtain⟨l,n⟩:=o.Dw k.1 k.2 0
  have af:ix (u t.bn (x.bV -1))=(u t.bn (x.bV -1) -1000).toNat:=rfl
  have X:cK (u t.bn (x.bV -1) -1000)=((ix (u t.bn (x.bV -1)):Nat):Int):=by rw[aP V V];omega
  refine⟨n.fW M,ix (u t.bn (x.bV -1)),_,X,l,(t2.trans L).trans n,M.to n,V,rfl,rfl,rfl,?_⟩
  rw[uG,aq ⟨V,m⟩,lg,ae V,gP ad]
 ·rintro aa R ⟨b,e,rfl,l,n,Z,af,m,eo,ep,ec⟩
  have ao:J H R:=l.eu.cG
  have al:ar R r t.av:=m▸l.Jg (by rw[m];omega)
  refine⟨z,q l,(pX (f:=t) al (ha.ext ao) ag V).mono ?_⟩
  rintro _ m5 ⟨ws,rfl,ow,ad⟩
  obtain⟨k,T⟩:=l.ext ad
  have B5:=Z.to T
  have am:(dh t x.args).length<=1000000000:=by simp[dh];omega
  have iw:ar m5 ws (dh t x.args):=ar.ij ow V
  refine⟨T.fW Z,ws,rfl,by rw[q k,q l],(Kn k.eu.heap k.eu.new af g iw V am k.eu.cG.size).mono ?_⟩
  rintro _ m6 ⟨ap,P,rfl,ai,c6⟩
  obtain⟨S6,U⟩:=k.jh c6 ai
  have B6:=B5.to U
  refine⟨U.fW B5,P,rfl,S6.eu.vO (i:=7) E,?_⟩
  intro m7
  obtain⟨S7,W⟩:=S6.nX 7 [.s P]
  have B7:=B6.to W
  have e3:cK (1000+(b:Int))=1000+(b:Int):=aP V V
  have e4:cK (t.pc+1)=t.pc+1:=aP V V
  rw[e3,e4]
  refine⟨W.fW B6,(rC (a:={v with heap:=lg v.heap b ⟨1,g,dh t x.args⟩}) S7 ab ah.1 (by rw[m];omega) (by rw[eo];omega) (1000+b)).mono ?_⟩
  rintro _ m8 ⟨S8,X⟩
  have B8:=B7.to X
  refine⟨X.fW B7,(ji (a:={v with heap:=lg v.heap b ⟨1,g,dh t x.args⟩}) S8 ab (t.pc+1)).mono ?_⟩
  rintro _ m9 ⟨S9,t9⟩
  refine⟨t9.fW B8,ap,bo,P,C,?_,((((n.trans T).trans U).trans W).trans X).trans t9⟩
  rw[ec]
  have e5:iV (1000+(b:Int))=1:=by rw[iV,aq V]
  have:=S9.eu
  rw[e5]at this
  exact this
def CQ:∀(a aW:List Int)(r:Int),eL aW (a++[r])=gU (eL aW a) r (u (eL aW a) r+1)
 |[],aW,r=>rfl
 |q::a,aW,r=>by rw[cR,eL,CQ a,eL]
def MP{l:List Int}{i:Int}(h:∀A∈l,0<=A/\A<=b)(d:0<=b):0<=u l i/\u l i<=b:=by
 rcases aV i.toNat l.length with a|a
 ·obtain⟨y,c⟩:=ag a;rw[LA c];exact h y (au c)
 ·rw[u,iH,cb a];simp;omega
def AH:∀(c aW:List Int)(b:Int),0<=b->(∀A∈aW,0<=A/\A<=b)->∀A∈eL aW c,0<=A/\A<=b+c.length
 |[],aW,b,e,h,A,d=>by have:=h A d;simp;omega
 |r::c,aW,b,e,h,A,d=>by
  have:=AH c (gU aW r (u aW r+1)) (b+1) V (λq a=>by
   have:=MP (i:=r) h e;rcases qZ a with a|a
   ·omega
   ·have:=h q a;omega) A d
  simp only[bg];omega
noncomputable def I6 (v:St) (F:List aZ) (t:aZ) (x:Instr):St:=
 open Classical in
 if(aX v.heap (u t.av (u x.args 0))).aQ=1/\x.op=17 then
  {v with heap:=v.heap.set (ix (u t.av (u x.args 0))) ⟨-1,0,fH (aX v.heap (u t.av (u x.args 0))).aK.length⟩,ak:=F++[{t with aW:=eL t.aW (x.args.drop 1),pc:=t.pc+1,bn:=gU t.bn (u x.args 0) (u t.av (u x.args 0))}]}
 else{v with heap:=apart v.heap (u t.av (u x.args 0)),ak:=F++[{t with aW:=eL t.aW (x.args.drop 1),pc:=t.pc+1}]}
def JR(b:Nat):lU [.i (0:Int)] b=(fH b).map Ce.i:=by
 induction b with
 |zero=>rfl
 |succ b a=>
  have:lU [.i (0:Int)] (b+1)=.i 0::lU [.i (0:Int)] b:=by simp[lU,oX]
  rw[this,a];simp[fH,oX]
def pu{y:I}(a:0<=b)(d:b<=1000000):aN bY 159 [vi b] y λv c=>v=O.v (.mk y.size 0 b.toNat b.toNat)/\c=y.push (.cells (br ((fH b.toNat).map Ce.i)) aB):=by
 apply FW;refine⟨a,dZ _,V,V,?_⟩;rw[JR];exact⟨rfl,rfl⟩
def P5{y:I}(b:Nat):iO y (y.push (.cells (br ((fH b).map Ce.i)) aB)) aB 1 (.mk y.size 0 b b) ((fH b).map Ce.i):=iO.new (J.aC y) aB 1 _ b (by simp[kU])
def FH(S:ST H B y G bF (SB d p v bo z C) bo z C v.bo v.heap F t r A h K)(ha:ar H a x.args)(an:∀g∈x.args,0<=g/\g<t.av.length)(aI:1<=x.args.length/\x.args.length<=4)(aV:x.op=16\/x.op=17)
 (aS:t.av.length=t.aW.length/\t.bn.length=t.aW.length/\t.aW.length<=2000)(aY:0<=t.pc/\t.pc<=100000)(al:F.length<=100000)(aL:v.heap.length<=1000000000)(aG:∀U∈t.aW,0<=U/\U<=999999)
 (ah:jc v.heap (u t.av (u x.args 0))){e:Nat->Int}(hI:fp v.heap e):
 aN bY 185 [vp G 0,fv t r A h,xv x a j] y λ_ c=>vT H B y G d p (I6 v F t x) c:=by
 apply qG (G,0)
 simp -zeta only[aE,aD]
 intro m1 m2
 have aH:J y m2:=((J.aC y).aM _).aM _
 have s1:m1.size=y.size+1:=by simp[m1]
 have s2:m2.size=y.size+2:=by simp[m2,s1]
 have B2:=Ll.HO S.eu.new s1 s2
 obtain⟨S2,t2⟩:=S.ext aH
 clear_value m2
 have a0:r.len=t.av.length:=by have:=S.hO.av.len;simp at this;omega
 have aU:A.len=t.aW.length:=by have:=S.hO.aW.len;simp at this;omega
 have aM:h.len=t.bn.length:=by have:=S.hO.bn.len;simp at this;omega
 have aJ:=ha.len
 have L:0<=u x.args 0/\u x.args 0<t.av.length:=an _ (iv V V)
 have ga:∀{c},J H c->∀{b:Nat}{g},x.args[b]? =some g->D c a.F (a.off+Int.toNat (b:Int)*1)=some (vi g):=λhx b g Z=>by simpa using(ha.ext hx).u Z
 refine⟨V,V,u x.args 0,(ha.ext S2.eu.cG).EG V V,L.1,V,u t.av (u x.args 0),(S2.Jg V).EG L.1 L.2,?_⟩
 refine⟨λai c=>∃b:Nat,ai=b/\1<=b/\b<=x.args.length/\ST H B c G bF (SB d p v bo z C) bo z C v.bo v.heap F {t with aW:=eL t.aW ((x.args.take b).drop 1)} r A h K/\To B y B c/\Ll B c [m1.size,y.size],λai _=>((x.args.length:Int) -ai).toNat,⟨1,rfl,V,V,?_,t2,B2⟩,?_⟩
 ·have e1:(x.args.take 1).drop 1=[]:=E
  rw[e1];exact S2
 rintro ai m3 ⟨b,rfl,aO,aQ,M,t3,B3⟩
 have aF:∀U∈eL t.aW ((x.args.take b).drop 1),0<=U/\U<=1000010:=λU hq=>by
  have:=AH _ t.aW 999999 V aG U hq;have h3:((x.args.take b).drop 1).length<=4:=bK;omega
 refine dit (λh1=>?_) λh1=>?_
 ·obtain⟨g,Z⟩:=ag (l:=x.args) (k:=b) V
  have N:=an g (au Z)
  have Q:g<(eL t.aW ((x.args.take b).drop 1)).length:=by rw[sD];omega
  have hb:=MP (i:=g) aF V
  refine⟨V,V,g,ga M.eu.cG Z,V,V,g,ga M.eu.cG Z,N.1,V,_,(M.Q3 (by simp only[sD];omega)).EG N.1 Q,N.1,V,M.hO.aW.P9 N.1 Q,?_⟩
  intro q
  have R:cK (u (eL t.aW ((x.args.take b).drop 1)) g+1)=u (eL t.aW ((x.args.take b).drop 1)) g+1:=aP V V
  obtain⟨I,P⟩:=M.xJ N.1 Q (u (eL t.aW ((x.args.take b).drop 1)) g+1)
  have T:q=aj m3 A.F (A.off+g.toNat*1) [.i (u (eL t.aW ((x.args.take b).drop 1)) g+1)]:=by simp only[q,R]
  clear_value q
  subst T
  refine⟨P.fW B3,?_,?_⟩
  ·rw[jJ (k:=b) (n:=x.args.length) V V]
   refine⟨b+1,rfl,V,V,?_,t3.trans P,B3.to P⟩
   have e4:(x.args.take (b+1)).drop 1=(x.args.take b).drop 1++[g]:=by
    rw[bH Z,List.drop_append_of_le_length bK]
   rw[e4,CQ]
   exact I
  ·rw[jJ (k:=b) (n:=x.args.length) V V]
   show((x.args.length:Int) -((b+1:Nat):Int)).toNat<((x.args.length:Int) -(b:Int)).toNat
   omega
 ·have e1:(x.args.take b).drop 1=x.args.drop 1:=by rw[bZ V]
  rw[e1]at M
  have a1:=gP ah.1
  obtain⟨ak,aZ⟩:=cp ah
  have af:=ax ak
  have aT:=M.eu.heap.len
  have e4:cK (t.pc+1)=t.pc+1:=aP V V
  have aR:=ah.1
  have aC:ix (u t.av (u x.args 0))=(u t.av (u x.args 0) -1000).toNat:=rfl
  have e5:cK (u t.av (u x.args 0) -1000)=u t.av (u x.args 0) -1000:=aP V V
  rw[e4,e5,<-aC]
  generalize hw:u t.av (u x.args 0)=w at*
  have gw:∀{B y lh own' held'},ST H B y G bF (SB d p v bo z C) bo z C v.bo lh F {t with aW:=own',bn:=held'} r A h K->D y r.F (r.off+Int.toNat (u x.args 0)*1)=some (vi w):=λS=>by rw[<-hw];exact(S.Jg (by simp only[];omega)).EG L.1 L.2
  refine⟨L.1,V,w,gw M,(yO M.eu ah hI V).mono ?_⟩
  rintro _ q ⟨aw,rfl,hb,c4,aA,az⟩
  refine⟨(c4.mono λb R=>by omega:To B m3 B q).fW B3,aw,rfl,λap=>?_,λao=>?_⟩
  ·have ac:=hb.1 ap
   obtain⟨I,P⟩:=M.jh (c4.mono λb R=>Or.inl R) (aA ap)
   have B4:=B3.to P
   have g7:D q G 7=some (O.v z):=I.eu.box.cy 7
   refine⟨λaa=>?_,λaa=>?_⟩
   ·simp at aa
    obtain⟨f0,k0,k1,k2,kf,kr⟩:=I.eu.heap.cy ak
    have ay:=(hI.cell _ (au ak)).fl
    have aK:=kf.len
    refine⟨z,g7,z,g7,V,V,f0,k2,(pu V V).mono ?_⟩
    rintro _ m5 ⟨rfl,rfl⟩
    have e6:Int.toNat (f0.len:Int)=(aX v.heap w).aK.length:=V
    rw[e6]
    have ab:J q (q.push (.cells (br ((fH (aX v.heap w).aK.length).map Ce.i)) aB)):=J.push _ _
    have oz:=P5 (y:=q) (aX v.heap w).aK.length
    obtain⟨N,Q⟩:=I.ext ab
    have B5:=B4.to Q
    have av:B q.size=0:=I.eu.new _ (ad _)
    generalize q.push (.cells (br ((fH (aX v.heap w).aK.length).map Ce.i)) aB)=m5 at*
    obtain⟨am,c6⟩:=N.eu.heap.setCell N.eu.new af (-1) 0 (f:=.mk q.size 0 _ _) (ar.ij oz (by rw[kU];omega)) (Rz.of I.eu.heap (λL=>ab.same _ (I.eu.heap.F L).2) (λ_=>oz) (λ_=>av) I.eu.cG.size)
    refine⟨Q.fW B4,_,rfl,ab.dg g7,V,V,N.eu.heap.wr (o:=0) af bd,?_⟩
    intro m6
    obtain⟨T,W⟩:=N.jh (c6.mono λb R=>Or.inl R) am
    have B6:=B5.to W
    refine⟨W.fW B5,L.1,V,w,gw T,L.1,V,T.hO.bn.P9 L.1 (by simp only[];omega),?_⟩
    intro m7
    obtain⟨Y,X⟩:=T.Dw L.1 (by simp only[];omega) w
    have B7:=B6.to X
    refine⟨X.fW B6,(ji (a:={v with heap:=v.heap.set (ix w) ⟨-1,0,fH (aX v.heap w).aK.length⟩}) Y al (t.pc+1)).mono ?_⟩
    rintro _ m8 ⟨S8,t8⟩
    refine⟨t8.fW B7,B,bo,z,C,?_,(((((t3.trans P).trans Q).trans W).trans X).trans t8)⟩
    rw[I6,hw,aq ⟨ac,aa⟩]
    exact S8.eu
   ·simp at aa
    refine⟨z,g7,?_⟩
    intro m5
    have ab:J q m5:=(J.aC q).aM _
    obtain⟨N,Q⟩:=I.ext ab
    have B5:=B4.to Q
    clear_value m5
    refine⟨V,V,N.eu.heap.wr (o:=0) af bd,?_⟩
    intro m6
    obtain⟨am,c6⟩:=N.eu.heap.setCell N.eu.new af 0 0 (f:=.mk q.size 0 0 0) (b:=[]) ⟨rfl,E,E,E⟩ (λav=>absurd rfl av)
    obtain⟨T,W⟩:=N.jh (c6.mono λb R=>Or.inl R) am
    have B6:=B5.to W
    refine⟨W.fW B5,z,T.eu.box.cy 7,(vt (T.eu.heap.cells bK)).mono ?_⟩
    rintro _ m7 ⟨rfl,ay⟩
    obtain⟨Y,X⟩:=T.ext ay
    have B7:=B6.to X
    refine⟨X.fW B6,_,rfl,Y.eu.vO (i:=7) E,?_⟩
    intro m8
    obtain⟨av,aK⟩:=Y.jh (dy.aC _ Y.eu.new) (Y.eu.heap.cut (rK _ _))
    obtain⟨S8,t8⟩:=av.nX 7 [.s (z.cut 0 (jS (v.heap.set (ix w) jx) (v.heap.set (ix w) jx).length) 3)]
    have B8:=B7.to t8
    refine⟨t8.fW B7,(ji (a:={v with heap:=p7 (v.heap.set (ix w) jx)}) S8 al (t.pc+1)).mono ?_⟩
    rintro _ m9 ⟨S9,t9⟩
    refine⟨t9.fW B8,B,bo,z.cut 0 (jS (v.heap.set (ix w) jx) (v.heap.set (ix w) jx).length) 3,C,?_,((((((t3.trans P).trans Q).trans W).trans X).trans t8).trans t9)⟩
    rw[I6,hw,ae (λhh=>aa hh.2),Go.Proofs.YtgnjacfobdjeeaaGreat.apart,aq ac]
    exact S9.eu
  ·have ac:(aX v.heap w).aQ≠1:=λe=>by have:=hb.2 e;rw[ao]at this;simp at this
   obtain⟨I,P⟩:=M.jh (c4.mono λb R=>Or.inl R) (az ao)
   have B4:=B3.to P
   refine(ji (a:={v with heap:=jZ (fG v.heap w) (pR (aX v.heap w).aK)}) I al (t.pc+1)).mono ?_
   rintro _ m5 ⟨N,Q⟩
   refine⟨Q.fW B4,B,bo,z,C,?_,(t3.trans P).trans Q⟩
   rw[I6,hw,ae (λhh=>ac hh.1),Go.Proofs.YtgnjacfobdjeeaaGreat.apart,ae ac]
   exact N.eu
end
end
section
variable{t:cD}{g:Instr}{v:O}{c:List Int}{u q j s b:Nat}{e:I}
def gC(t:cD)(g:Instr):Nat->List Int->List Int
 |_,[]=>[]
 |b,w::v=>(if(g.op=9\/g.op=24)/\mQ t g b=true then 0 else iV w)::gC t g (b+1) v
def AN(t:cD)(g:Instr):∀(c r:List Int)(b:Nat),gC t g b (c++r)=gC t g b c++gC t g (b+c.length) r
 |[],r,b=>by simp[gC]
 |a::c,r,b=>by
  have:=AN t g c r (b+1);simp only[cR,gC,this,bg];have e:b+(c.length+1)=b+1+c.length:=V;rw[e]
def Bu(t:cD)(g:Instr):∀(c:List Int)(b:Nat),(gC t g b c).length=c.length
 |[],b=>rfl
 |a::c,b=>by simp only[gC,bg,Bu t g c]
def Gw{t:cD}{g:Instr}(a:g.op=9\/g.op=24):∀(c:List Int)(b:Nat),gC t g b c=gN (dF t g.bL).cW b c
 |[],b=>rfl
 |e::c,b=>by
  simp only[gC,gN,Gw a c];congr 1;unfold mQ;by_cases h:((dF t g.bL).cW.any λy=>y==(b:Int))=true
  ·rw[aq ⟨a,h⟩,aq h]
  ·rw[ae (λd=>h d.2),ae h]
def Dm{t:cD}{g:Instr}(a:¬(g.op=9\/g.op=24)):∀(c:List Int)(b:Nat),gC t g b c=gN [] b c
 |[],b=>rfl
 |e::c,b=>by
  simp only[gC,gN,Dm a c,NM,ib,pL];rw[ae (λd=>a d.1)]
def Ch{m:I}{q:Nat}{s F:O}(ad:eV m s F t)(Z:D m q 0=some (O.v s))(g1:D m q 1=some (O.v F))(hc:Bc t g)(K U:O)(Q:ar m v c)(ah:c.length<=1000000):
 oE 216 [vp q 0,xv g K U,O.v v] m (gC t g 0 c):=by
 apply pH (q,0)
 simp -zeta only[aE,aD]
 intro a B
 have z:J m a:=(J.aC m).aM _
 have h2:J a B:=(J.aC a).aM _
 have ho:iO a B aB 1 (.mk a.size 0 0 0) []:=iO.new (J.aC a) aB 1 [] 0 E
 have f:∀r∈[m.size],r<a.size:=by simp[a]
 have ai:=Q.len
 clear_value B
 clear_value a
 refine dC (n:=c.length) V (λb G e=>J a e/\iO a e aB 1 G ((gC t g 0 (c.take b)).map Ce.i)) ⟨h2,by simpa[gC]using ho⟩ ?_
 rintro b G m3 af μ hk ⟨R,h⟩ C
 have S:=z.trans R
 refine dit (λaa=>?_) λaa=>?_
 ·obtain⟨H,T⟩:=ag (l:=c) (k:=b) V
  have P:(c.take b).length=b:=bK
  have y:gC t g 0 (c.take (b+1))=gC t g 0 (c.take b)++[if(g.op=9\/g.op=24)/\mQ t g b=true then 0 else iV H]:=by
   rw[bH T,AN,P];simp[gC]
  have x:(gC t g 0 (c.take b)).length<1000000000:=by rw[Bu,P];omega
  refine⟨V,V,H,by simpa using S.D (Q.u T),(dw _ _).aG R f λr m4 M u o=>⟨r,rfl,λac=>?_,λab=>?_⟩⟩
  ·have A:=z.trans o
   refine⟨s,A.D Z,F,A.D g1,(pU (ad.ext A) hc K U b).aG o f λj m5 N L p=>⟨j,rfl,λw=>?_,λw=>?_⟩⟩
   ·intro W
    refine nT ((h.ext u).ext L) p x λY X i d=>⟨J.zE (p.aM _) d f,C V _ _ ⟨d,?_⟩⟩
    rw[y,ae (nb N w),iV,aq (M.1 ac)];exact i
   ·intro W
    refine nT ((h.ext u).ext L) p x λY X i d=>⟨J.zE (p.aM _) d f,C V _ _ ⟨d,?_⟩⟩
    rw[y,aq (yb N w)];exact i
  ·intro W
   refine nT (h.ext u) o x λY X i d=>⟨J.zE (o.aM _) d f,C V _ _ ⟨d,?_⟩⟩
   rw[y]
   have p:(if(g.op=9\/g.op=24)/\mQ t g b=true then 0 else iV H)=0:=by
    rw[iV,ae (fb M ab)];split<;>rfl
   rw[p];exact i
 ·rw[bZ V]at h
  exact⟨G,rfl,h.cG z.size,S⟩
structure rT(m e:I)(q j s u:Nat)(av aW bn:List Int):Prop where
 ext:J m e
 lo:m.size<=q/\m.size<=j/\m.size<=s/\q≠j/\q≠s/\j≠s/\q<e.size/\j<e.size/\s<e.size
 kr:cB e q aB (av.map Ce.i)
 ko:cB e j aB (aW.map Ce.i)
 kh:cB e s aB (bn.map Ce.i)
 len:av.length=u/\aW.length=u/\bn.length=u
def IA{a:I}{b:Nat}(f:cB a b aB ((fH u).map Ce.i))(g:c.length<=u):cB (aj a b 0 (c.map Ce.i)) b aB ((c++fH (u -c.length)).map Ce.i):=by
 have:=cB.aj (m:=a) (o:=0) (r:=c.map Ce.i) f;have e:iE ((fH u).map Ce.i) 0 (c.map Ce.i)=(c++fH (u -c.length)).map Ce.i:=by
  have d:=zr [] (c.map Ce.i) ((fH u).map Ce.i) (by simp[kU];omega);simp only[dT,eF]at d;rw[d];simp[fH,List.drop_replicate]
 rw[e]at this;exact this
def vH{m:I}{L U:O}(N:eV m L U t){r:Int}(W:0<=r){a:cY}(Q:t.cA[r.toNat]? =some a)(F:0<=a.av/\a.av<=2000)(M:Int){K:O}{d h:List Int}(R:ar m v d)(P:ar m K h)(ak:(d.length:Int)<=a.av)(ai:h.length=d.length):
 aN bY 114 [.agg #[O.v L,O.v U],vi r,vi M,O.v v,O.v K] m λag e=>∃q j s,ag=.agg #[vi r,vi 0,vi M,O.v (.mk q 0 a.av.toNat a.av.toNat),O.v (.mk j 0 a.av.toNat a.av.toNat),O.v (.mk s 0 a.av.toNat a.av.toNat)]/\
  rT m e q j s a.av.toNat (d++fH (a.av.toNat -d.length)) (h++fH (a.av.toNat -h.length)) (fH a.av.toNat):=by
 apply BT
 simp -zeta only[aE,aD]
 intro A b
 have z:J m b:=((J.aC m).aM _).aM _
 have s1:A.size=m.size+1:=by simp[A]
 have s2:b.size=m.size+2:=by simp[b,s1]
 have k:∀g∈[A.size,m.size],g<b.size:=bK
 have aj:=N.cA.len
 have ah:=ax Q
 have aa:=R.len
 have Z:=P.len
 clear_value b
 obtain⟨a',l',c',_,_,_,_,_,_,k3,_⟩:=(N.ext z).cA.u Q
 refine⟨W,V,a.av,k3,(pu F.1 V).mono ?_⟩
 rintro _ c ⟨rfl,n⟩
 have C:J b c:=by rw[n];exact J.push _ _
 have s3:c.size=b.size+1:=by rw[n];simp
 have S:cB c b.size aB ((fH a.av.toNat).map Ce.i):=by rw[n];exact cB.push _ _ _
 clear n
 refine⟨C.da k,_,rfl,(pu F.1 V).mono ?_⟩
 rintro _ B ⟨rfl,o⟩
 have x:J c B:=by rw[o];exact J.push _ _
 have s4:B.size=c.size+1:=by rw[o];simp
 have k2:cB B c.size aB ((fH a.av.toNat).map Ce.i):=by rw[o];exact cB.push _ _ _
 clear o
 have D:=C.trans x
 have ab:=z.trans D
 have X:min v.len a.av.toNat=d.length:=by rw[aa];exact iR V
 have Y:min K.len a.av.toNat=h.length:=by rw[Z];exact iR V
 refine⟨x.da (λg E=>C.lt (k g E)),_,rfl,d.map Ce.i,by simp only[O.fj];rw[X];simp,(R.ext ab).Hd,(S.ext x).fm (by simp[kU];omega),?_⟩
 intro i
 have k5:cB i b.size aB ((d++fH (a.av.toNat -d.length)).map Ce.i):=IA (S.ext x) V
 have T:cB i c.size aB ((fH a.av.toNat).map Ce.i):=k2.congr (bh _ _ _ _ (show c.size≠b.size by omega))
 have u:J b i:=D.aj (ad _) _ _
 have s5:i.size=B.size:=az _ _ _ _
 clear_value i
 have ac:=z.trans u
 refine⟨J.zE D u k,h.map Ce.i,by simp only[O.fj];rw[Y];simp,(P.ext ac).Hd,T.fm (by simp[kU];omega),?_⟩
 intro f
 have k6:cB f c.size aB ((h++fH (a.av.toNat -h.length)).map Ce.i):=IA T V
 have af:cB f b.size aB ((d++fH (a.av.toNat -d.length)).map Ce.i):=k5.congr (bh _ _ _ _ (show b.size≠c.size by omega))
 have w:J b f:=u.aj (show b.size<=c.size by omega) _ _
 have s6:f.size=i.size:=az _ _ _ _
 clear_value f
 refine⟨J.zE u w k,(pu F.1 V).mono ?_⟩
 rintro _ l ⟨rfl,p⟩
 have y:J f l:=by rw[p];exact J.push _ _
 have s7:l.size=f.size+1:=by rw[p];simp
 have k7:cB l f.size aB ((fH a.av.toNat).map Ce.i):=by rw[p];exact cB.push _ _ _
 clear p
 refine⟨J.zE w (w.trans y) k,_,rfl,?_⟩
 intro G
 have ae:J m G:=(z.trans (w.trans y)).aj V _ _
 have s8:G.size=l.size:=az _ _ _ _
 have H:∀g,g≠A.size->G[g]? =l[g]? :=λg E=>bh _ _ _ _ E
 refine⟨b.size,c.size,f.size,rfl,ae,V,(af.ext y).congr (H _ V),(k6.ext y).congr (H _ V),k7.congr (H _ V),by simp[kU];omega⟩
def pS(a:Nat->Nat)(q j s u:Nat):Nat->Nat:=uA (uA (uA a q (10+3*u)) j (11+3*u)) s (12+3*u)
def rT.eY{p:Nat->Prop}{d:Nat->Nat}{m:I}{av aW bn:List Int}(N:rT m e q j s b av aW bn)(f:∀a,m.size<=a->d a=0):dy p d m (pS d q j s u) e:=by
 have g:=N.lo;refine⟨N.ext.size,λa c=>?_,λa c=>?_,λa c _=>N.ext.same a c⟩
 ·unfold pS;rw[eX V,eX V,eX V]
 ·unfold pS;rw[eX V,eX V,eX V];exact f a (by have:=N.ext.size;omega)
def rT.qQ{a:Nat->Nat}{m:I}{av aW bn:List Int}(N:rT m e q j s b av aW bn):
 gX (pS a q j s u) e aB 1 (10+3*u) (.mk q 0 b b) (av.map Ce.i)/\gX (pS a q j s u) e aB 1 (11+3*u) (.mk j 0 b b) (aW.map Ce.i)/\gX (pS a q j s u) e aB 1 (12+3*u) (.mk s 0 b b) (bn.map Ce.i):=by
 have g:=N.lo
 obtain⟨c,d,f⟩:=N.len
 refine⟨⟨by simp[c],E,Or.inr ⟨q,b,[],rfl,?_,by rw[fx];exact N.kr,by simp[c]⟩⟩,⟨by simp[d],E,Or.inr ⟨j,b,[],rfl,?_,by rw[fx];exact N.ko,by simp[d]⟩⟩,⟨by simp[f],E,Or.inr ⟨s,b,[],rfl,?_,by rw[fx];exact N.kh,by simp[f]⟩⟩⟩
 ·unfold pS;rw[eX V,eX V,iF]
 ·unfold pS;rw[eX V,iF]
 ·unfold pS;rw[iF]
def rT.box{m:I}{av aW bn:List Int}(N:rT m e q j s b av aW bn){m1:I}(a:J m1 m){nb:Nat}(d:m1.size<=nb)(f:nb<m.size)(i:Nat)(c:List Ce):rT m1 (aj e nb i c) q j s b av aW bn:=by
 have g:=N.lo;have h:=a.size;exact⟨(a.trans N.ext).aj d _ _,by rw[az];omega,N.kr.congr (bh _ _ _ _ V),N.ko.congr (bh _ _ _ _ V),N.kh.congr (bh _ _ _ _ V),N.len⟩
def rT.Uk{m c:I}{av aW bn:List Int}(N:rT m e q j s b av aW bn)(a:J e c):rT m c q j s b av aW bn:=by
 have d:=N.lo;have:=a.size;exact⟨N.ext.trans a,V,N.kr.ext a,N.ko.ext a,N.kh.ext a,N.len⟩
section
variable{G:I}{y:Nat->Nat}{m:I}{z:Nat}{d p bo C l:O}{A:St}{k:List aZ}{w:aZ}{K H F:O}{B:List (List Ce)}
def qO.replace{c:Nat->Nat}(T:qO y m l k w K H F B)(t:dy (λ_=>False) y m c e){a:aZ}{i g d:O}(u:gX c e aB 1 (10+3*k.length) i (a.av.map Ce.i))(q:gX c e aB 1 (11+3*k.length) g (a.aW.map Ce.i))(s:gX c e aB 1 (12+3*k.length) d (a.bn.map Ce.i)):
 fm e l.F (l.off+k.length*6) 6/\nC c (aj e l.F (l.off+k.length*6) [.i a.eS,.i a.pc,.i a.dst,.s i,.s g,.s d]) l (k++[a])/\dy (λb=>b=4) c e c (aj e l.F (l.off+k.length*6) [.i a.eS,.i a.pc,.i a.dst,.s i,.s g,.s d]):=by
 have n:qO c e l k w K H F B:=T.eY t λ_ _=>id
 have v:=n.F
 have p:B.flatten.length=k.length*6:=by rw[cX T.size,T.len]
 have j:dy (λb=>b=4) c e c (aj e l.F (l.off+k.length*6) [.i a.eS,.i a.pc,.i a.dst,.s i,.s g,.s d]):=dy.aj t.new v.1 _ _
 refine⟨n.qQ.wr (by simp[p]),qO.rR (f:=a) (a:=k) (k:=B) (r:=i) (j:=g) (h:=d) ⟨?_,T.len,T.size,n.vC j λb q s=>V,u.eY j V,q.eY j V,s.eY j V⟩,j⟩
 have:=n.qQ.set (o:=k.length*6) (new:=[.i a.eS,.i a.pc,.i a.dst,.s i,.s g,.s d]) (by simp[p])
 rw[lF _ _ _ _ V,p,Nat.sub_self]at this
 exact this
def Ky(z c:Nat)(e:List Nat)(m q g:Int)(h i p:Int)(n l j:O)(f:I)(R:Value->I->Prop):Prop:=
 ((m==(24:Int))=true->
 let b:I:=aj f c 2 [.i g]
 ∃a:O,D b z 8=some (O.v a)/\
 ∃d:O,D b z 8=some (O.v d)/\
 (0:Int)<=(cK ((d.len:Int) -(1:Int)))/\(cK ((d.len:Int) -(1:Int)))<(a.len:Int)/\
 fm b a.F (a.off+Int.toNat (cK ((d.len:Int) -(1:Int)))*6) 6/\
 let k:I:=aj b a.F (a.off+Int.toNat (cK ((d.len:Int) -(1:Int)))*6) [.i h,.i i,.i g,.s n,.s l,.s j]
 dV (c::e) b k/\
 R (.tuple #[]) k)/\
 ((m==(24:Int))=false->
 aN bY 183 [vp z 0,vi (cK (q+(1:Int)))] f λ_ a=>
 dV (c::e) f a/\
 ∃o:O,D a z 8=some (O.v o)/\
 let d:I:=a.push (.cells (br [.i h,.i i,.i p,.s n,.s l,.s j]) eg)
 D d z 8=D a z 8/\
 iS d eg [.i (0:Int),.i (0:Int),.i (0:Int),.s O.nil,.s O.nil,.s O.nil] 96 o (O.mk a.size 0 1 1) λr b=>
 dV (c::e) d b/\
 fm b z 8 1/\
 let k:I:=aj b z 8 [.s r]
 dV (c::e) b k/\
 R (.tuple #[]) k)
def LI(S:ST G y m z bF (SB d p A bo C l) bo C l A.bo A.heap k w K H F B){bs:List Nat}(P:Ll y m bs){M:Nat}{r:I}{h:aZ}(N:rT m r q j s b h.av h.aW h.bn)(aj:m.size<=M/\M<r.size)(v:M≠q/\M≠j/\M≠s)
 (aE:k.length<=100000)(aH:0<=w.pc/\w.pc<=100000){Z:Value->I->Prop}
 (ax:g.op=24->∀e,vT G y m z d p {A with ak:=k++[{h with dst:=w.dst}]} e->Z (.tuple #[]) e)
 (ay:g.op≠24->∀e,vT G y m z d p {A with ak:=k++[{w with pc:=w.pc+1},h]} e->Z (.tuple #[]) e):
 Ky z M bs g.op w.pc w.dst h.eS h.pc h.dst (.mk q 0 b b) (.mk j 0 b b) (.mk s 0 b b) r Z:=by
 have aF:=N.lo
 have aD:=S.hO.C0
 have L:cK ((l.len:Int) -1)=(k.length:Int):=by rw[aP V V];omega
 have e2:Int.toNat (k.length:Int)=k.length:=V
 have e4:cK (w.pc+1)=w.pc+1:=aP V V
 have al:y M=0:=S.eu.new _ aj.1
 have aG:=N.ext.size
 refine⟨λW=>?_,λW=>?_⟩
 ·intro Q
  have X:rT m Q q j s b h.av h.aW h.bn:=⟨N.ext.aj aj.1 _ _,by simp only[Q,az];omega,N.kr.congr (bh _ _ _ _ (λL=>v.1 L.symm)),N.ko.congr (bh _ _ _ _ (λL=>v.2.1 L.symm)),N.kh.congr (bh _ _ _ _ (λL=>v.2.2 L.symm)),N.len⟩
  have ae:Q.size=r.size:=az _ _ _ _
  clear_value Q
  have u:dy (λ_=>False) y m (pS y q j s k.length) Q:=X.eY S.eu.new
  obtain⟨a1,a2,a3⟩:=X.qQ (a:=y) (u:=k.length)
  obtain⟨w1,w2,R⟩:=S.hO.replace u (a:={h with dst:=w.dst}) a1 a2 a3
  obtain⟨U,ab⟩:=S.eu.jh (u.mono λ_=>False.elim) (S.eu.heap.eY u id id)
  have T:D Q z 8=some (O.v l):=U.box.cy 8
  refine⟨l,T,l,T,?_⟩
  rw[L,e2]
  refine⟨V,V,w1,?_⟩
  intro ad
  obtain⟨aa,ac⟩:=U.kQ (R.mono λb Y=>V) w2
  refine⟨?_,ax (by simpa using W) _ ⟨_,bo,C,l,aa,ab.trans ac⟩⟩
  intro t o
  rcases List.mem_cons.1 o with rfl|o
  ·refine R.fu _ V ?_
   unfold pS;rw[eX v.2.2,eX v.2.1,eX v.1,al];decide
  ·refine R.fu _ (by have:=(P t o).1;omega) ?_
   rw[u.iW t (P t o).1,(P t o).2];decide
 ·simp only[an]at W
  rw[e4]
  have u:dy (λ_=>False) y m (pS y q j s (k.length+1)) r:=N.eY S.eu.new
  obtain⟨a1,a2,a3⟩:=N.qQ (a:=y) (u:=k.length+1)
  obtain⟨av,aC⟩:=S.eu.jh (u.mono λ_=>False.elim) (S.eu.heap.eY u id id)
  have R:ST G (pS y q j s (k.length+1)) r z bF (SB d p A bo C l) bo C l A.bo A.heap k w K H F B:=⟨av,S.hO.eY u λ_ _=>id⟩
  have ai:Ll (pS y q j s (k.length+1)) r (M::bs):=λt o=>by
   rcases List.mem_cons.1 o with rfl|o
   ·refine⟨V,?_⟩;unfold pS;rw[eX v.2.2,eX v.2.1,eX v.1,al]
   ·exact⟨by have:=(P t o).1;omega,by rw[u.iW t (P t o).1];exact(P t o).2⟩
  apply np (z,0)
  have T:D r z 8=some (O.v l):=R.eu.box.cy 8
  refine⟨l,T,l,T,?_⟩
  rw[L,e2]
  refine⟨V,V,R.hO.Wk,?_⟩
  intro Q
  obtain⟨U,ad⟩:=R.Pt (w.pc+1)
  have aw:dy (λb=>b=4) (pS y q j s (k.length+1)) r (pS y q j s (k.length+1)) Q:=dy.aj R.eu.new R.hO.F.1 _ _
  have ar:=ai.to ad
  refine⟨ad.fW ai,l,U.eu.box.cy 8,?_⟩
  intro ac
  have ab:J Q ac:=(J.aC Q).aM _
  obtain⟨aa,ap⟩:=U.ext ab
  have af:=ar.to ap
  have kd:fQ ac Q.size 0 [.i h.eS,.i h.pc,.i h.dst,.s (.mk q 0 b b),.s (.mk j 0 b b),.s (.mk s 0 b b)]:=(cB.push Q _ _).je
  have X:(k++[{w with pc:=w.pc+1}]).length=k.length+1:=E
  have ch:=λ{b:Nat}{A:O}{c:List Ce}(a:gX (pS y q j s (k.length+1)) r aB 1 b A c)(Y:b≠4)=>(a.eY aw Y).eY (dy.fe (λ_=>False) ab U.eu.new) id
  refine⟨ab.dg (U.eu.box.cy 8),nC.push aa.eu.ak aa.eu.new (x:=.mk Q.size 0 1 1) rfl (a:=h) kd (by rw[X];exact ch a1 V) (by rw[X];exact ch a2 V) (by rw[X];exact ch a3 V) (by rw[X];omega) λao am aA q1 q2=>?_⟩
  have ae:To _ ac ao aA:=q2.mono λb Y=>V
  obtain⟨ag,aJ⟩:=aa.eu.kQ (q2.mono λb Y=>V) q1
  have au:=af.to ae
  refine⟨ae.fW af,ag.vO (i:=8) E,?_⟩
  intro aI
  obtain⟨ah,aq⟩:=ag.nX 8 [.s am]
  refine⟨aq.fW au,ay W _ ⟨ao,bo,C,am,?_,(((aC.trans ad).trans ap).trans ae).trans aq⟩⟩
  have e9:k++[{w with pc:=w.pc+1}]++[h]=k++[{w with pc:=w.pc+1},h]:=E
  rw[e9]at ah
  exact ah
end
end
section
variable{a:cD}
noncomputable def oZ (a:cD) (s:St) (b:List aZ) (f:aZ) (x:Instr):St:=
 if x.op=9 then{s with bI:=s.bI+1,ak:=b++[{f with pc:=f.pc+1},cw a x.bL x.dst (dh f x.args)]}
 else if x.op=24 then{s with bI:=s.bI+1,ak:=b++[cw a x.bL f.dst (dh f x.args)]}
 else{s with bI:=s.bI+1,heap:=apart s.heap (u f.av (u x.args 0)),ak:=b++[{f with pc:=f.pc+1},cw a ((aX s.heap (u f.av (u x.args 0))).lp -fF a) x.dst ((aX s.heap (u f.av (u x.args 0))).aK++[u f.av (u x.args 1)])]}
section
variable{v:I}{n:Nat->Nat}{m:I}{q:Nat}{d p bo t j:O}{b:St}{e:List aZ}{c:aZ}{r y h:O}{z:List (List Ce)}
def ST.rv(S:ST v n m q bF (SB d p b bo t j) bo t j b.bo b.heap e c r y h z)(g:eV v d p a)(k:b.bo.length<=2000000000)(i:b.heap.length<=2000000000)(f:k8 m j (e++[c])):
 RV m q 2 d p bo t j a {b with ak:=e++[c]}:=
 ⟨g.ext S.eu.cG,S.eu.box.cy 0,S.eu.box.cy 1,S.eu.box.cy 2,S.eu.box.cy 3,S.eu.box.cy 4,S.eu.box.cy 5,S.eu.box.cy 6,S.eu.box.cy 7,S.eu.box.cy 8,S.eu.bo.ov V,S.eu.heap.cells V,f⟩
def nC.Jc{e:List aZ}(b:nC n m j e)(C:e.length<=2000000000)(t:∀c∈e,c.av.length<=1000000/\c.aW.length<=1000000/\c.bn.length<=1000000):k8 m j e:=by
 obtain⟨z,a,g,i,s⟩:=b;have v:j.len=e.length:=by have:=a.len;rw[cX i,g]at this;omega
 refine⟨v,a.le,V,λf x d=>?_⟩;obtain⟨q,o⟩:=ag (l:=z) (k:=f) (by rw[g];exact ax d);obtain⟨r,y,h,rfl,A,w,b⟩:=s f q x o d;obtain⟨D,E,F⟩:=t x (au d);refine⟨_,⟨r,y,h,rfl,A.ov V,w.ov V,b.ov V⟩,λB p u=>?_⟩;have:=a.je (f*6+B) p (gY i o u);rwa[<-dB]at this
def Ki(av:ST v n m q bF (SB d p b bo t j) bo t j b.bo b.heap e c r y h z)(aR:eV v d p a)(aI:lO a){A:Instr}{ah am:O}(ha:ar v ah A.args)(bm:∀G∈A.args,0<=G/\G<c.av.length)(bO:A.args.length<=4)
 (bZ:A.op=9\/A.op=24\/A.op=11)(a3:(A.op=9\/A.op=24)->tC a A.bL A.args.length)(bl:A.op=11->A.args.length=2/\CL a b.heap (u c.av (u A.args 0)))
 (bW:c.av.length=c.aW.length/\c.bn.length=c.aW.length/\c.aW.length<=2000)(bk:∀N∈e,N.av.length<=1000000/\N.aW.length<=1000000/\N.bn.length<=1000000)(bA:0<=c.pc/\c.pc<=100000)(bT:e.length<=10000)(bU:b.heap.length<=1000000000)(b0:b.bo.length<=1000000000)(bP:0<=b.bI/\b.bI<=100000)
 {F:Nat->Int}(hI:fp b.heap F):
 aN bY 180 [vp q 0,fv c r y h,xv A ah am] m λ_ Q=>vT v n m q d p (oZ a b e c A) Q:=by
 apply tn (q,0)
 simp -zeta only[aE,aD]
 intro K m2
 have bD:J m m2:=((J.aC m).aM _).aM _
 have s1:K.size=m.size+1:=by simp[K]
 have s2:m2.size=m.size+2:=by simp[m2,s1]
 have B2:=Ll.HO av.eu.new s1 s2
 have kB:cB m2 K.size dz [.i A.op,.i A.dst,.i A.bL,.i A.bV,.s ah,.s am]:=cB.push K _ _
 obtain⟨S2,t2⟩:=av.ext bD
 clear_value m2
 have br:Bc a A:=λF=>let⟨B,h1,H,_⟩:=a3 F;⟨h1,B,H⟩
 have bN:(eC a.aT).length<=12:=by
  have:=qW aI.pC.types a.aT.length;rw[mM _ _ (ad _)]at this;exact this
 have bu:∀{n m t lh bx},ST v n m q bF bx bo t j b.bo lh e c r y h z->k8 m j (e++[c]):=λav=>av.eu.ak.Jc bK (λN C=>by
  rcases List.mem_append.1 C with C|C
  ·exact bk N C
  ·simp at C;subst C;omega)
 refine(pX (f:=c) (S2.Jg V) (ha.ext S2.eu.cG) bm V).mono ?_
 rintro _ m3 ⟨ws,rfl,ow,aH⟩
 obtain⟨S3,t3⟩:=S2.ext aH
 have B3:=B2.to t3
 have bC:(dh c A.args).length=A.args.length:=by simp[dh]
 have ay:ar m3 ws (dh c A.args):=ar.ij ow V
 have bJ:∀{Q:I}{ws:O}{aC:List Ce},iO Q m3 aB 1 ws aC->m.size<=Q.size->ws≠.nil->n ws.F=0:=λho hs ac=>by
  rcases ho.F with F|F
  ·exact absurd F ac
  ·exact av.eu.new _ V
 refine⟨t3.fW B2,ws,rfl,λN wv Q=>∃(aL:Nat->Nat)(a7:O)(ap:List bM)(C:List Int)(B:cY),ST v aL Q q bF (SB d p b bo a7 j) bo a7 j b.bo ap e c r y h z/\To n m aL Q/\Ll aL Q [K.size,m.size]/\cB Q K.size dz [.i A.op,.i A.dst,.i A.bL,.i A.bV,.s ah,.s am]/\ar Q wv C/\(C≠[]->aL wv.F=0)/\
  0<=N/\a.cA[N.toNat]? =some B/\C.length=B.params.length/\gC a A 0 C=gN B.cW 0 C/\
  (A.op=24->oZ a b e c A={b with bI:=b.bI+1,heap:=ap,ak:=e++[cw a N c.dst C]})/\(A.op≠24->oZ a b e c A={b with bI:=b.bI+1,heap:=ap,ak:=e++[{c with pc:=c.pc+1},cw a N A.dst C]}),?_,?_⟩
 ·refine⟨λaf=>?_,λaf=>?_⟩
  ·simp at af
   obtain⟨H,W,a8,b1,bz,a5,bR⟩:=bl af
   obtain⟨an,bB⟩:=cp W
   have aZ:=hI.cell _ (au an)
   have b2:=(aZ.oC bB).2
   have a6:=ax an
   have bn:A.args=[u A.args 0,u A.args 1]:=by
    cases P:A.args with
    |nil=>rw[P]at H;simp at H
    |cons G aC=>cases aC with
     |nil=>rw[P]at H;simp at H
     |cons L aC=>cases aC with
      |nil=>rfl
      |cons _ _=>rw[P]at H;simp at H
   have a9:dh c A.args=[u c.av (u A.args 0),u c.av (u A.args 1)]:=by rw[bn];rfl
   have b4:=ay.len
   have b3:=ay.cap
   have gw:D m3 ws.F (ws.off+Int.toNat (0:Int)*1)=some (vi (u c.av (u A.args 0))):=ay.u (k:=0) (by rw[a9];rfl)
   have aj:=S3.rv aR V V (bu S3)
   generalize hw:u c.av (u A.args 0)=w at*
   generalize hv:u c.av (u A.args 1)=al at*
   obtain⟨B,hq⟩:=ag (l:=a.cA) (k:=((aX b.heap w).lp -fF a).toNat) V
   have ao:dF a ((aX b.heap w).lp -fF a)=B:=by simp[dF,hq]
   rw[ao]at bz a5
   refine⟨V,V,w,gw,d,aj.aT,(eR aj W.1 an).mono ?_⟩
   rintro _ m4 ⟨f4,rfl,bQ,ab⟩
   obtain⟨S4,t4⟩:=S3.ext ab
   have B4:=B3.to t4
   have a0:=aj.ext ab
   refine⟨t4.fW B3,_,_,_,rfl,ab.dg aj.aT,(oQ a0.fK.aT aI.pC.types).mono ?_⟩
   rintro _ L ⟨rfl,aG⟩
   obtain⟨S,t5⟩:=S4.ext aG
   have B5:=B4.to t5
   have bj:=a0.ext aG
   refine⟨t5.fW B4,_,rfl,V,V,V,(eR bj W.1 an).mono ?_⟩
   rintro _ m6 ⟨f6,rfl,bt,aW⟩
   obtain⟨S6,t6⟩:=S.ext aW
   have B6:=B5.to t6
   have aF:=(ab.trans aG).trans aW
   have e1:(Int.toNat (1:Int))=1:=rfl
   have e2:(Int.toNat (ws.len:Int))=ws.len:=V
   rw[e1,e2]
   have bE:ar m6 (O.cut ws 1 ws.len 1) [al]:=by
    have:=Vh (ay.ext aF) (by rw[bC];omega);rw[a9]at this;exact this
   have bS:=aZ.fl
   refine⟨t6.fW B5,_,_,_,rfl,(Jw bt bE bK).mono ?_⟩
   rintro _ m7 ⟨R,rfl,oe,aY⟩
   obtain⟨S7,t7⟩:=S6.ext aY
   have X:=B6.to t7
   have ie:ar m7 R ((aX b.heap w).aK++[al]):=ar.ij oe bK
   have aw:n R.F=0:=by
    rcases oe.F with F|F
    ·subst F;have:=ie.len;simp at this
    ·exact av.eu.new _ (by have:=aF.size;have:=aH.size;omega)
   have bs:R.F<m7.size:=nD ie E
   refine⟨t7.fW B6,R,rfl,(yO S7.eu W hI V).mono ?_⟩
   rintro _ G ⟨ai,rfl,hb,M,bq,bp⟩
   have t8:To n m7 n G:=M.mono λY T=>V
   have Z:=X.to t8
   have a_:ar G R ((aX b.heap w).aK++[al]):=mJ ie λ_=>M.fu _ bs (by rw[aw];decide)
   have bb:To n m n G:=(((((t2.trans t3).trans t4).trans t5).trans t6).trans t7).trans t8
   have ba:cB G K.size dz [.i A.op,.i A.dst,.i A.bL,.i A.bV,.s ah,.s am]:=(kB.ext (aH.trans (aF.trans aY))).congr (M.fu _ (X K.size E).1 (by rw[(X K.size E).2];decide))
   have e3:cK ((aX b.heap w).lp -((eC a.aT).length:Int))=(aX b.heap w).lp -fF a:=aP V V
   rw[e3]
   have aJ:gC a A 0 ((aX b.heap w).aK++[al])=gN B.cW 0 ((aX b.heap w).aK++[al]):=by
    rw[Dm V,List.length_eq_zero_iff.1 a5]
   have a4:∀ap,ap=apart b.heap w->oZ a b e c A={b with bI:=b.bI+1,heap:=ap,ak:=e++[{c with pc:=c.pc+1},cw a ((aX b.heap w).lp -fF a) A.dst ((aX b.heap w).aK++[al])]}:=λap F=>by
    rw[oZ,ae V,ae V,hw,hv,F]
   refine⟨t8.fW X,ai,rfl,λa2=>?_,λa1=>?_⟩
   ·have aK:=hb.1 a2
    obtain⟨U,bL⟩:=S7.jh (M.mono λY T=>Or.inl T) (bq a2)
    have bX:=U.eu.heap.len
    refine⟨t,U.eu.box.cy 7,?_⟩
    intro m9
    have bi:J G m9:=(J.aC G).aM _
    obtain⟨S9,t9⟩:=U.ext bi
    have B9:=Z.to t9
    clear_value m9
    have bV:=W.1
    have bw:ix w=(w -1000).toNat:=rfl
    have e5:cK (w -1000)=w -1000:=aP V V
    rw[e5,<-bw]
    refine⟨V,V,S9.eu.heap.wr (o:=0) a6 bd,?_⟩
    intro b5
    obtain⟨bv,bg⟩:=S9.eu.heap.setCell S9.eu.new a6 0 0 (f:=.mk G.size 0 0 0) (b:=[]) ⟨rfl,E,E,E⟩ (λac=>absurd rfl ac)
    obtain⟨aA,aO⟩:=S9.jh (bg.mono λY T=>Or.inl T) bv
    have aU:=B9.to aO
    refine⟨aO.fW B9,t,aA.eu.box.cy 7,(vt (aA.eu.heap.cells bK)).mono ?_⟩
    rintro _ b6 ⟨rfl,bh⟩
    obtain⟨aa,aQ⟩:=aA.ext bh
    have aV:=aU.to aQ
    refine⟨aQ.fW aU,_,rfl,aa.eu.vO (i:=7) E,?_⟩
    intro aM
    obtain⟨be,b7⟩:=aa.jh (dy.aC _ aa.eu.new) (aa.eu.heap.cut (rK _ _))
    obtain⟨bf,aS⟩:=be.nX 7 [.s (t.cut 0 (jS (b.heap.set (ix w) jx) (b.heap.set (ix w) jx).length) 3)]
    have bc:=aV.to aS
    have aT:To n G n aM:=((t9.trans aO).trans aQ).trans aS
    have bG:ar aM R ((aX b.heap w).aK++[al]):=mJ a_ λ_=>aT.fu _ (by have:=M.size;omega) (by rw[aw];simp)
    have bH:cB aM K.size dz [.i A.op,.i A.dst,.i A.bL,.i A.bV,.s ah,.s am]:=ba.congr (aT.fu _ (Z K.size E).1 (by rw[(Z K.size E).2];simp))
    refine⟨aS.fW aV,n,_,_,_,B,bf,bb.trans aT,bc,bH,bG,λ_=>aw,a8,hq,bK,aJ,λF=>V,λ_=>a4 _ ?_⟩
    rw[apart,aq aK];rfl
   ·have aK:(aX b.heap w).aQ≠1:=λF=>by have:=hb.2 F;rw[a1]at this;simp at this
    obtain⟨U,bL⟩:=S7.jh (M.mono λY T=>Or.inl T) (bp a1)
    refine⟨n,t,_,_,B,U,bb,Z,ba,a_,λ_=>aw,a8,hq,bK,aJ,λF=>V,λ_=>a4 _ ?_⟩
    rw[apart,ae aK]
  ·simp at af
   have G:A.op=9\/A.op=24:=V
   obtain⟨B,R,M,T⟩:=a3 G
   have ao:dF a A.bL=B:=by simp[dF,M]
   refine⟨n,t,b.heap,dh c A.args,B,S3,t2.trans t3,B3,kB.ext aH,ay,λac=>bJ ow V (λF=>by subst F;have:=ay.len;simp at this;exact ac (List.length_eq_zero_iff.1 this.symm)),R,M,V,by rw[Gw G,ao],λF=>?_,λF=>?_⟩
   ·rw[oZ,ae V,aq F]
   ·rw[oZ,aq V]
 ·rintro N wv m4 ⟨aA,aY,aT,C,B,S4,t4,B4,bg,aZ,bf,a_,hq,bj,aJ,a8,a9⟩
  have ao:dF a N=B:=by simp[dF,hq]
  have bi:=(aI.df B (au hq)).av
  have h3:=(aI.pC.df B (au hq)).1
  refine⟨b.bI,S4.eu.box.cy 4,S4.eu.vO (i:=4) E,?_⟩
  have e3:cK (b.bI+1)=b.bI+1:=aP V V
  rw[e3]
  intro L
  obtain⟨S,t5⟩:=S4.nX 4 [.i (b.bI+1)]
  have B5:Ll aA L [K.size,m.size]:=B4.to t5
  replace t5:To aA m4 aA L:=t5
  have c5:dy (λY=>Y=1) aA m4 aA L:=dy.aj S4.eu.new S4.eu.Pr _ _
  have a0:ar L wv C:=mJ aZ λac=>c5.fu _ (nD aZ ac) (by rw[bf ac];decide)
  have bh:cB L K.size dz [.i A.op,.i A.dst,.i A.bL,.i A.bV,.s ah,.s am]:=bg.congr (c5.fu _ (B4 K.size E).1 (by rw[(B4 K.size E).2];decide))
  replace S:ST v aA L q bF (SB d p {b with bI:=b.bI+1,heap:=aT} bo aY j) bo aY j b.bo aT e c r y h z:=S
  refine⟨t5.fW B4,d,S.eu.box.cy 0,p,S.eu.box.cy 1,?_⟩
  clear_value L
  have a5:=t4.trans t5
  have kg:∀{M a2:I},J M a2->∀{ai aj:Nat}{al:Value},D M ai aj=some al->D a2 ai aj=D M ai aj:=λP=>P.dg
  have be:(gC a A 0 C).length=C.length:=Bu _ _ _ _
  have bc:(cw a N A.dst C).av=C++fH (B.av.toNat -C.length):=by simp[cw,ao]
  have bb:(cw a N A.dst C).aW=gC a A 0 C++fH (B.av.toNat -(gC a A 0 C).length):=by simp[cw,ao,aJ,lP]
  have ba:(cw a N A.dst C).bn=fH B.av.toNat:=by simp[cw,ao]
  have il:∀(aa aG:I)(af U W X:Nat),J L aa->rT aa aG U W X B.av.toNat (C++fH (B.av.toNat -C.length)) (gC a A 0 C++fH (B.av.toNat -(gC a A 0 C).length)) (fH B.av.toNat)->aa.size<=af/\af<aG.size->af≠U/\af≠W/\af≠X->
   Ky q af [K.size,m.size] A.op c.pc c.dst N 0 A.dst (.mk U 0 B.av.toNat B.av.toNat) (.mk W 0 B.av.toNat B.av.toNat) (.mk X 0 B.av.toNat B.av.toNat) aG (λ_ Q=>vT v n m q d p (oZ a b e c A) Q):=λaa aG af U W X P R aS ac=>by
   obtain⟨SM,tM⟩:=S.ext P
   refine LI (A:={b with bI:=b.bI+1,heap:=aT}) (h:=cw a N A.dst C) (g:=A) SM (B5.to tM) (by rw[bc,bb,ba];exact R) aS ac V bA (λF Q hF=>?_) (λF Q hF=>?_)
   ·rw[a8 F];exact vT.from hF (a5.trans tM)
   ·rw[a9 F];exact vT.from hF (a5.trans tM)
  have aM:∀{aa:I}{os:O},J L aa->ar aa os (gC a A 0 C)->aN bY 114 [.agg #[O.v d,O.v p],vi N,vi A.dst,O.v wv,O.v os] aa _:=λP ho=>vH (aR.ext (S.eu.cG.trans P)) a_ hq V A.dst (a0.ext P) ho V be
  have aF:∀{M Z:I},J L M->J M Z->∀aj,aj<6->D Z K.size aj=D M K.size aj:=λh1 H aj hi=>by
   have Y:=bh.ext h1;match aj,hi with
   |0,_=>exact H.dg (Y.cy 0)
   |1,_=>exact H.dg (Y.cy 1)
   |2,_=>exact H.dg (Y.cy 2)
   |3,_=>exact H.dg (Y.cy 3)
   |4,_=>exact H.dg (Y.cy 4)
   |5,_=>exact H.dg (Y.cy 5)
  have HO:∀{M Z:I},J L M->J M Z->D Z q 0=D M q 0/\D Z q 1=D M q 1:=λh1 H=>⟨H.dg (h1.D (S.eu.box.cy 0)),H.dg (h1.D (S.eu.box.cy 1))⟩
  have a4:∀{aa:I},J L aa->oE 216 [vp q 0,xv A ah am,O.v wv] aa (gC a A 0 C):=λP=>Ch (aR.ext (S.eu.cG.trans P)) (P.D (S.eu.box.cy 0)) (P.D (S.eu.box.cy 1)) br ah am (a0.ext P) V
  have sm:∀{M Z:I},J L M->J M Z->dV [K.size,m.size] M Z:=λh1 H=>H.da λai hb=>h1.lt (B5 ai hb).1
  have aU:∀{M Z:I}{af:Nat},J L M->J M Z->af<M.size->dV [af,K.size,m.size] M Z:=λh1 H aS=>H.da λai hb=>by
   rcases List.mem_cons.1 hb with rfl|hb
   ·exact aS
   ·exact h1.lt (B5 ai hb).1
  refine⟨(a4 (J.aC _)).mono ?_,?_⟩
  ·rintro _ an ⟨os,rfl,oo,T⟩
   have io:ar an os (gC a A 0 C):=ar.ij oo V
   refine⟨sm (J.aC _) T,os,rfl,aF (J.aC _) T 1 V,(HO (J.aC _) T).1,(HO (J.aC _) T).2,?_,?_⟩
   ·refine(aM T io).mono ?_
    rintro _ aw ⟨U,W,X,rfl,R⟩
    have aO:=R.ext
    have aV:=T.trans aO
    refine⟨sm T aO,_,_,_,_,_,_,rfl,?_⟩
    intro a1
    have aQ:J aw a1:=(J.aC aw).aM _
    have G:=aF aV aQ
    have t9:=HO aV aQ
    refine⟨G 0 V,G 1 V,G 2 V,G 3 V,G 4 V,G 5 V,G 1 V,t9.1,t9.2,?_⟩
    intro aK
    have a6:J aw aK:=aQ.aj (ad _) _ _
    have bn:aK.size=aw.size+1:=by simp[aK,a1,az]
    have aW:=R.lo
    exact il an aK aw.size U W X T (R.Uk a6) ⟨by have:=aO.size;omega,V⟩ ⟨V,V,V⟩
   ·intro aK
    have aw:J an aK:=(J.aC an).aM _
    have a6:aK.size=an.size+1:=by simp[aK]
    have G:=aF T aw
    have t9:=HO T aw
    refine⟨G 0 V,G 1 V,G 2 V,G 3 V,G 4 V,G 5 V,G 1 V,t9.1,t9.2,?_⟩
    clear_value aK
    refine(aM (T.trans aw) (io.ext aw)).mono ?_
    rintro _ a1 ⟨U,W,X,rfl,R⟩
    have aO:=R.ext
    refine⟨aU (T.trans aw) aO V,_,_,_,_,_,_,rfl,?_⟩
    intro aQ
    have aW:=R.lo
    have aV:=R.box aw (nb:=an.size) (ad _) V 0 [.i N,.i 0,.i A.dst,.s (.mk U 0 B.av.toNat B.av.toNat),.s (.mk W 0 B.av.toNat B.av.toNat),.s (.mk X 0 B.av.toNat B.av.toNat)]
    exact il an aQ an.size U W X T aV ⟨ad _,by simp only[aQ,az];have:=aO.size;omega⟩ ⟨V,V,V⟩
  ·intro an
   have T:J L an:=(J.aC L).aM _
   have a6:an.size=L.size+1:=by simp[an]
   have G:=aF (J.aC _) T
   have t9:=HO (J.aC _) T
   refine⟨G 0 V,G 1 V,G 2 V,G 3 V,G 4 V,G 5 V,G 1 V,t9.1,t9.2,?_⟩
   clear_value an
   refine(a4 T).mono ?_
   rintro _ aV ⟨os,rfl,oo,ab⟩
   have io:ar aV os (gC a A 0 C):=ar.ij oo V
   have aw:=T.trans ab
   have bn:=ab.size
   refine⟨aU T ab V,os,rfl,aF T ab 1 V,(HO T ab).1,(HO T ab).2,?_⟩
   refine(aM aw io).mono ?_
   rintro _ a1 ⟨U,W,X,rfl,R⟩
   have aK:=R.ext
   refine⟨aU aw aK V,_,_,_,_,_,_,rfl,?_⟩
   intro aO
   have aW:=R.lo
   have aQ:=R.box aw (nb:=L.size) (ad _) V 0 [.i N,.i 0,.i A.dst,.s (.mk U 0 B.av.toNat B.av.toNat),.s (.mk W 0 B.av.toNat B.av.toNat),.s (.mk X 0 B.av.toNat B.av.toNat)]
   exact il L aO L.size U W X (J.aC _) aQ ⟨ad _,by simp only[aO,az];have:=aK.size;omega⟩ ⟨V,V,V⟩
def Km(S:ST v n m q bF (SB d p b bo t j) bo t j b.bo b.heap e c r y h z)(ai:e.length<=100000)(w:Int)(aa:∀g,e.getLast?=some g->0<=c.dst/\c.dst<g.av.length/\c.dst<g.aW.length):
 aN bY 181 [vp q 0,fv c r y h,vi w] m λ_ m'=>vT v n m q d p (match e.getLast? with|none=>{b with cL:=0,value:=w,ak:=[]}|some g=>{b with ak:=e.dropLast++[g.put c.dst w (iV w)]}) m':=by
 apply tp (q,0)
 simp -zeta only[aE,aD]
 intro f
 have ae:J m f:=(J.aC m).aM _
 have s1:f.size=m.size+1:=by simp[f]
 obtain⟨l,P⟩:=S.ext ae
 have U:n m.size=0:=S.eu.new _ (ad _)
 have G:Ll n f [m.size]:=λI L=>by simp at L;subst L;exact⟨V,U⟩
 clear_value f
 have M:=l.hO.C0
 have ag:=l.hO.qQ.le
 have B:cK ((j.len:Int) -1)=(e.length:Int):=by rw[aP V V];omega
 have R:Int.toNat (e.length:Int)=e.length:=V
 have K:D f q 8=some (O.v j):=l.eu.box.cy 8
 refine⟨j,K,j,K,?_⟩
 rw[B,R]
 refine⟨V,V,V,l.eu.vO (i:=8) E,?_⟩
 intro m2
 obtain⟨A,u⟩:=l.eu.nX 8 [.s (j.cut 0 e.length 6)]
 obtain⟨a,_⟩:=A.kQ (dy.aC _ A.new) (A.ak.UP)
 have x:=G.to u
 have ah:(j.cut 0 e.length 6).len=e.length:=by
  cases j with
  |nil=>simp at M
  |Bj I N k=>simp at M
  |mk I N o k=>simp[O.cut]
 have e3:Int.toNat (0:Int)=0:=rfl
 refine⟨u.fW G,j.cut 0 e.length 6,a.box.cy 8,λC=>?_,λC=>?_⟩
 ·simp at C
  have T:e=[]:=List.length_eq_zero_iff.1 V
  subst T
  refine⟨a.vO (i:=2) (by simp[nm]),?_⟩
  intro m3
  obtain⟨o,k⟩:=a.nX 2 [.i 0]
  have H:=x.to k
  refine⟨k.fW x,o.vO (i:=3) (by simp[nm]),?_⟩
  intro W
  obtain⟨Q,F⟩:=o.nX 3 [.i w]
  exact⟨F.fW H,n,bo,t,_,Q,(((P.trans u).trans k).trans F)⟩
 ·simp at C
  have ac:e.length≠0:=V
  have F:e≠[]:=λB=>ac (by rw[B];rfl)
  obtain⟨g,o⟩:∃g,e.getLast?=some g:=⟨_,lV F⟩
  obtain⟨W,X,Y⟩:=aa g o
  rw[o]
  simp only[]
  have ab:e=e.dropLast++[g]:=by
   rw[lV F]at o;simp at o;rw[<-o];exact(gV F).symm
  have H:zy v n m2 q bF (SB d p b bo t (j.cut 0 e.length 6)) bo t (j.cut 0 e.length 6) b.bo b.heap (e.dropLast++[g]):=
   ⟨a.cG,a.jV,a.new,a.box,a.Pr,a.bo,a.heap,by rw[<-ab];exact a.ak⟩
  obtain⟨r',N,h',af,T⟩:=H.ak.hO
  have Z:e.dropLast.length<=100000:=bK
  refine(rC (a:=b) ⟨H,T⟩ Z W X Y w).mono ?_
  rintro _ m3 ⟨Q,k⟩
  exact⟨k.fW x,n,bo,t,_,Q.eu,(P.trans u).trans k⟩
end
end
end Go.Proofs.YtgnjacfobdjeeaaGreat
