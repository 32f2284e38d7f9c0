/- Part of a proof, joined by a program. -/
import Derived.Test.YtakpkjhmbbfniaaGreatU10
import Derived.Test.YtakpkjhmbbfniaaGreatU14
set_option linter.unusedVariables false
set_option linter.unusedSimpArgs false
set_option linter.defProp false
set_option linter.constructorNameAsVariable false
set_option maxHeartbeats 8000000
set_option maxRecDepth 100000
namespace Go.Proofs.YtakpkjhmbbfniaaGreat
open Go.Vc
section
variable{d a:Nat}{c:bL}{b:List Int}{x:O}{K:O->I->Prop}{i:Int}
def JZ(b r:List Ce)(o:Nat)(c:Ce)(h:b.length<=o):(b++r).set o c=b++r.set (o -b.length) c:=by
 rw[UC _ _ h]
def lH:∀(a b r:List Ce)(o:Nat),b.length<=o->iD (b++r) o a=b++iD r (o -b.length) a
 |[],b,r,o,_=>rfl
 |c::a,b,r,o,h=>by
  simp only[iD];rw[JZ _ _ _ _ h,lH a b _ (o+1) V];congr 2;omega
def AN:∀(a b r:List Ce)(o:Nat),o+a.length<=b.length->iD (b++r) o a=iD b o a++r
 |[],b,r,o,_=>rfl
 |c::a,b,r,o,h=>by
  simp only[ba]at h;simp only[iD];rw[V2 _ _ V,AN a _ _ (o+1) bF]
def KS{d:Nat}:∀(b:List (List Ce))(a:Nat)(f:List Ce)(o:Nat)(e:List Ce),(∀c∈b,c.length=d)->b[a]? =some f->o+e.length<=d->iD b.flatten (a*d+o) e=(b.set a (iD f o e)).flatten
 |[],a,f,o,e,_,h,_=>by simp at h
 |x::b,0,f,o,e,g,h,j=>by
  simp at h;subst h;have i:=g x aS;rw[iG,Nz,bQ,AN _ _ _ _ V,ig,iG]
 |x::b,a+1,f,o,e,g,h,j=>by
  have i:=g x aS;rw[iG,lH _ _ _ _ (by rw[i,fD];omega),ic,iG];have k:(a+1)*d+o -x.length=a*d+o:=by rw[i,fD];omega
  rw[k,KS b a f o e (λc l=>g c (ah _ l)) (by simpa using h) j]
def _root_.Go.Vc.fX.set{α:Type}{R:List Ce->α->Prop}{g:List (List Ce)}{b:List α}(h:fX d R g b)(a:Nat){cs:List Ce}{x:α}(m:cs.length=d)(n:R cs x):fX d R (g.set a cs) (b.set a x):=by
 refine⟨by simp[h.len],λc e=>?_,λl c y e f=>?_⟩
 ·rcases cx e with e|e
  ·exact h.size c e
  ·rw[e];exact m
 ·by_cases k:l=a
  ·subst k;have i:=ax e;have j:=ax f;simp at i j;rw[dC i]at e;rw[dC j]at f;simp at e f;subst e;subst f;exact n
  ·rw[dO (λi=>k i.symm)]at e f;exact h.dh l c y e f
def _root_.Go.Vc.fX.take{α:Type}{R:List Ce->α->Prop}{e:List (List Ce)}{b:List α}(h:fX d R e b)(n:Nat):fX d R (e.take n) (b.take n):=by
 refine⟨by simp[h.len],λc a=>h.size c (cw a),λj c y a f=>?_⟩;have g:=ax a;simp at g;rw[di V]at a f;exact h.dh j c y a f
def CZ{d:Nat}:∀(a:List (List Ce))(n:Nat),(∀c∈a,c.length=d)->a.flatten.take (n*d)=(a.take n).flatten
 |[],n,_=>E
 |x::a,0,_=>E
 |x::a,n+1,h=>by
  have b:=h x aS;rw[iG,Yz,dD (by rw[b,fD];omega),Kg,iG];have e:(n+1)*d -x.length=n*d:=by rw[b,fD];omega
  rw[e,CZ a n λc f=>h c (ah _ f)]
section
variable{N:Nat}{f:Nat->Nat}{m:I}{e:O}{h:List bL}
def eB.len(c:eB N f m e h):e.len=h.length:=by
 obtain⟨d,b,a,_⟩:=c;have:=b.len;rw[cX a.size,a.len]at this;omega
def eB.cy(t:eB N f m e h)(d:h[a]? =some c):∃b,D m e.F (e.off+a*3)=some (vi c.aQ)/\D m e.F (e.off+a*3+1)=some (vi c.lA)/\D m e.F (e.off+a*3+2)=some (O.v b)/\au m b c.aI/\FN N f m b c.aI:=by
 obtain⟨o,q,g,_⟩:=t;obtain⟨n,j⟩:=ag (l:=o) (k:=a) (by rw[g.len];exact ax d);obtain⟨b,rfl,s,p⟩:=g.dh a n c j d;have r:=λi c d=>q.jA (a*3+i) c (gZ g.size j d);exact⟨b,r 0 (.i c.aQ) rfl,r 1 (.i c.lA) rfl,r 2 (.s b) rfl,s,p⟩
def eB.cells(j:eB N f m e h)(v:h.length<=9223372036854775807):cW m e h:=by
 have t:=j.len;obtain⟨p,d,a,_⟩:=j;refine⟨t,d.le,V,λb x n=>?_⟩;obtain⟨o,g⟩:=ag (l:=p) (k:=b) (by rw[a.len];exact ax n);obtain⟨q,rfl,s,u⟩:=a.dh b o x g n;refine⟨_,⟨q,rfl,s⟩,λi c r=>?_⟩;have:=d.jA (b*3+i) c (gZ a.size g r);rwa[<-dE]at this
def eB.wr(g:eB N f m e h){a o n:Nat}(d:a<h.length)(j:o+n<=3):fu m e.F (e.off+a*3+o) n:=by
 obtain⟨i,c,b,_⟩:=g;rw[dE];exact c.wr (by rw[cX b.size,b.len];have:(a+1)*3<=h.length*3:=da _ d;omega)
def eB.F(c:eB N f m e h){a:Nat}(i:a<h.length):f e.F=3/\e.F<m.size:=by
 have j:=c.len;obtain⟨d,b,g,_⟩:=c;have:=b.le;have:=b.F V;exact⟨this.2,this.1⟩
def Rq(N:Nat)(f:Nat->Nat)(m:I)(e:O)(h:List bL)(a:O)(b:List Int):Prop:=
 b≠[]->(f a.F=0/\N<=a.F/\FB m a b)/\∀(i:Nat)(g:O),i<h.length->D m e.F (e.off+i*3+2)=some (O.v g)->g.len≠0->g.F≠a.F
def FB.iC{d:I}{f:O}(h:iZ d m aB 1 f (b.map Ce.i))(g:b≠[]):d.size<=f.F/\FB m f b:=by
 rcases h.u with e|⟨i,c,tail,e,h2,h3,_,_⟩
 ·have a:=h.len;rw[e,eP,O.LC,Nz]at a;exact absurd (List.length_eq_zero_iff.1 a) g
 ·rw[e];exact⟨h2,c,tail,rfl,h3⟩
def Rq.of{a:I}{x:Nat->Nat}{d:O}(r:eB N x a e h)(t:0<h.length->m[e.F]? =a[e.F]?)(v:b≠[]->iZ a m aB 1 d (b.map Ce.i))(n:b≠[]->f d.F=0)(B:N<=a.size):Rq N f m e h d b:=λg=>by
 obtain⟨A,o⟩:=FB.iC (v g) g;refine⟨⟨n g,V,o⟩,λi y s j q=>?_⟩;obtain⟨c,p⟩:=ag s;obtain⟨z,_,_,w,k,_⟩:=r.cy p;rw[aJ (t V),w]at j;have:=O.GD.1 (vz j);subst this;have u:c.aI≠[]:=λl=>by have:=k.len;rw[l]at this;simp at this;exact q this
 have:=nv k u;omega
def eB.put(P:eB N f m e h)(ab:∀g,m.size<=g->f g=0){o:Nat}{q:bL}(K:h[a]? =some c){new:List Ce}(ho:o+new.length<=3)
 (Y:∀s,au m s c.aI->FN N f m s c.aI->∃d,iD [.i c.aQ,.i c.lA,.s s] o new=[.i q.aQ,.i q.lA,.s d]/\au m d q.aI/\FN N f m d q.aI/\(d=s\/Rq N f m e h d q.aI)):
 eB N f (aj m e.F (e.off+a*3+o) new) e (h.set a q)/\dA (λk=>k=3) f m f (aj m e.F (e.off+a*3+o) new):=by
 have D:=ax K
 have X:=P.F D
 have L:dA (λk=>k=3) f m f (aj m e.F (e.off+a*3+o) new):=dA.aj ab X.1 _ _
 obtain⟨w,G,p,H⟩:=P
 obtain⟨U,y⟩:=ag (l:=w) (k:=a) (by rw[p.len];exact D)
 obtain⟨s,rfl,Z,V⟩:=p.dh a U c y K
 obtain⟨d,F,M,W,C⟩:=Y s Z V
 have S:∀(j:Nat)(r:List Ce)(g:O),w[j]? =some r->r[2]? =some (.s g)->j≠a->d.len≠0->g.len≠0->d.F≠g.F:=λj r g b J aa t u=>by
  rcases C with rfl|C
  ·exact H a j _ r d g y b rfl J (λn=>aa n.symm) t u
  ·have v:q.aI≠[]:=λn=>by have:=M.len;rw[n]at this;simp at this;exact t this
   refine km ((C v).2 j g (by rw[<-p.len];exact ax b) ?_ u);have:=G.jA (j*3+2) _ (gZ p.size b J);rwa[<-dE]at this
 refine⟨⟨w.set a (iD [.i c.aQ,.i c.lA,.s s] o new),?_,?_,?_⟩,L⟩
 ·rw[<-KS w a _ o new p.size y ho,dE]
  exact G.set (by rw[cX p.size,p.len];have:(a+1)*3<=h.length*3:=da _ D;omega)
 ·rw[F]
  exact(p.set a rfl ⟨d,rfl,M,W⟩).mono (FZ.fe L bd)
 ·rw[F]
  have I:=ax y
  intro i j E r x T v b A B z t u
  by_cases Q:i=a
  ·subst Q
   rw[dC I]at v
   rw[dO z]at b
   simp at v;subst v
   simp at A;subst A
   exact S j r T b B (λn=>z n.symm) t u
  ·rw[dO (λn=>Q n.symm)]at v
   by_cases R:j=a
   ·subst R
    rw[dC I]at b
    simp at b;subst b
    simp at B;subst B
    exact km (S i E x v A z u t)
   ·rw[dO (λn=>R n.symm)]at b
    exact H i j E r x T v b A B z t u
def eB.Du(j:eB N f m e h)(k:∀b,m.size<=b->f b=0)(g:h[a]? =some c)(n:Int):
 eB N f (aj m e.F (e.off+a*3) [.i n]) e (h.set a {c with aQ:=n})/\dA (λb=>b=3) f m f (aj m e.F (e.off+a*3) [.i n]):=
 j.put k g (o:=0) (new:=[.i n]) E λb i d=>⟨b,rfl,i,d,Or.inl rfl⟩
def eB.setCell(l:eB N f m e h)(q:∀d,m.size<=d->f d=0)(i:a<h.length)(n t:Int){d:O}(k:au m d b)(g:Rq N f m e h d b):
 eB N f (aj m e.F (e.off+a*3) [.i n,.i t,.s d]) e (h.set a ⟨n,t,b⟩)/\dA (λj=>j=3) f m f (aj m e.F (e.off+a*3) [.i n,.i t,.s d]):=by
 obtain⟨c,j⟩:=ag i
 exact l.put q j (o:=0) (new:=[.i n,.i t,.s d]) E λr u s=>⟨d,rfl,k,λp=>(g p).1,Or.inr g⟩
def eB.cut(j:eB N f m e h){n:Nat}(v:n<=h.length):eB N f m (e.cut 0 n 3) (h.take n):=by
 have u:=j.len;obtain⟨d,q,g,r⟩:=j;refine⟨d.take n,by rw[<-CZ d n g.size];exact q.cut V,g.take n,λi k o p a l b c=>?_⟩;have s:i<n:=by have:=ax b;simp at this;omega
 have t:k<n:=by have:=ax c;simp at this;omega
 rw[di s]at b;rw[di t]at c;exact r i k o p a l b c
def eB.push(F:eB N f m e h)(Q:∀c,m.size<=c->f c=0)(S:x.len=1){p t:Int}{d:O}(R:fU m x.F x.off [.i p,.i t,.s d])(E:au m d b)(C:Rq N f m e h d b)(W:h.length<=2000000000)
 (M:∀z y w,eB N z w y (h++[⟨p,t,b⟩])->dA (λk=>k=3) f m z w->K y w):iP m qK [.i (0:Int),.i (0:Int),.s O.nil] 40 e x K:=by
 have U:=F.len
 obtain⟨l,D,A,J⟩:=F
 refine gY.append (zs:=[.i 0,.i 0,.s .nil]) (new:=[.i p,.i t,.s d]) D Q (by simp[S]) R V λz y w T H=>M z y w ⟨l++[[.i p,.i t,.s d]],by simpa using T,?_,?_⟩ H
 ·exact(A.xH (cs:=[.i p,.i t,.s d]) (x:=⟨p,t,b⟩) rfl ⟨d,rfl,E,λg=>(C g).1⟩).mono (FZ.fe H bd)
 have G:∀(o:Nat)(q:List Ce)(c:O),l[o]? =some q->q[2]? =some (.s c)->d.len≠0->c.len≠0->d.F≠c.F:=λo q c v s g n=>by
  have P:b≠[]:=λI=>by have:=E.len;rw[I]at this;simp at this;exact g this
  refine km ((C P).2 o c (by rw[<-A.len];exact ax v) ?_ n);have:=D.jA (o*3+2) _ (gZ A.size v s);rwa[<-dE]at this
 have JV:∀{i:Nat}{k:List Ce}{a:O},(l++[[.i p,.i t,.s d]])[i]? =some k->k[2]? =some (.s a)->l[i]? =some k\/(i=l.length/\a=d):=λ{i k a} j r=>by
  rcases aX i l.length with g|g
  ·rw[aw g]at j;exact Or.inl j
  ·rw[aF g]at j;have n:i -l.length=0:=by have:=ax j;simp at this;omega
   rw[n]at j;simp at j;subst j;simp at r;exact Or.inr ⟨V,r.symm⟩
 intro i o k q a c j v r s L g n
 rcases JV j r with B|⟨B,rfl⟩
 ·rcases JV v s with u|⟨u,rfl⟩
  ·exact J i o k q a c B u r s L g n
  ·exact km (G i k a B r n g)
 ·rcases JV v s with u|⟨u,rfl⟩
  ·exact G o q c u s g n
  ·omega
end
structure qO(ro:Nat->Nat)(m:I)(fr:O)(fs:List a9)(f:a9)(r o h:O)(css:List (List Ce)):Prop where
 qQ:gY ro m ez 6 4 fr (css.flatten++[.i f.eU,.i f.pc,.i f.dst,.s r,.s o,.s h])
 len:css.length=fs.length
 size:∀cs∈css,cs.length=6
 dh:∀(i:Nat)(cs:List Ce)(g:a9),css[i]? =some cs->fs[i]? =some g->Rk ro m i cs g
 av:gY ro m aB 1 (10+3*fs.length) r (f.av.map Ce.i)
 aV:gY ro m aB 1 (11+3*fs.length) o (f.aV.map Ce.i)
 be:gY ro m aB 1 (12+3*fs.length) h (f.be.map Ce.i)
section
variable{j p:Nat->Nat}{m n:I}{e:O}{a:List a9}{f:a9}{r k h:O}{l:List (List Ce)}
def nu.ib(n:nu j m e (a++[f])):∃r k h l,qO j m e a f r k h l:=by
 obtain⟨l,u,d,v,p⟩:=n;have o:l≠[]:=λb=>by rw[b]at d;simp at d
 have b:l=l.dropLast++[l.getLast o]:=(gW o).symm;generalize l.dropLast=c0 at b;generalize l.getLast o=cl at b;subst b;have t:c0.length=a.length:=by simpa using d
 obtain⟨r,k,h,rfl,y,x,n⟩:=p a.length cl f (by rw[aF V];simp[t]) E;refine⟨r,k,h,c0,by simpa using u,t,λc w=>v c (by simp[w]),λi c g q s=>p i c g ?_ ?_,y,x,n⟩
 ·rw[aw (ax q)];exact q
 ·rw[aw (ax s)];exact s
def qO.rV(T:qO j m e a f r k h l):nu j m e (a++[f]):=by
 refine⟨l++[[.i f.eU,.i f.pc,.i f.dst,.s r,.s k,.s h]],by simpa using T.qQ,by simp[T.len],λg b=>?_,λi g o c d=>?_⟩
 ·rcases List.mem_append.1 b with b|b
  ·exact T.size g b
  ·simp at b;subst b;rfl
 ·rcases aX i a.length with n|n
  ·rw[aw (by rw[T.len];exact n)]at c;rw[aw n]at d;exact T.dh i g o c d
  ·have p:i=a.length:=by have:=ax d;simp at this;omega
   subst p;rw[aF (by rw[T.len];omega)]at c;simp[T.len]at c d;subst c;subst d;exact⟨r,k,h,rfl,T.av,T.aV,T.be⟩
def qO.C0(T:qO j m e a f r k h l):e.len=a.length+1:=by
 have:=T.qQ.len;simp only[bg,cX T.size,T.len,ba,eG]at this;omega
def qO.jA(T:qO j m e a f r k h l):D m e.F (e.off+a.length*6)=some (vi f.eU)/\D m e.F (e.off+a.length*6+1)=some (vi f.pc)/\D m e.F (e.off+a.length*6+2)=some (vi f.dst)/\
 D m e.F (e.off+a.length*6+3)=some (O.v r)/\D m e.F (e.off+a.length*6+4)=some (O.v k)/\D m e.F (e.off+a.length*6+5)=some (O.v h):=by
 have g:l.flatten.length=a.length*6:=by rw[cX T.size,T.len]
 have b:=λ(i:Nat)(c:Ce)(d:[Ce.i f.eU,Ce.i f.pc,Ce.i f.dst,Ce.s r,Ce.s k,Ce.s h][i]? =some c)=>T.qQ.jA (a.length*6+i) c (by rw[aF V,g,Er];exact d)
 exact⟨b 0 (.i f.eU) rfl,b 1 (.i f.pc) rfl,b 2 (.i f.dst) rfl,b 3 (.s r) rfl,b 4 (.s k) rfl,b 5 (.s h) rfl⟩
def qO.fe{g:Nat->Prop}(T:qO j m e a f r k h l)(b:dA g j m p n)(c:∀d,(d=4\/10<=d)->¬g d):qO p n e a f r k h l:=
 ⟨T.qQ.fe b (c _ V),T.len,T.size,λi o q s t=>(T.dh i o q s t).fe b λd u _=>c d V,T.av.fe b (c _ V),T.aV.fe b (c _ V),T.be.fe b (c _ V)⟩
def qO.ext(T:qO j m e a f r k h l)(c:∀b,m.size<=b->j b=0)(b:J m n):qO j n e a f r k h l:=T.fe (dA.fj (λ_=>False) b c) λ_ _=>id
def qO.vD{o:Nat->Prop}(T:qO j m e a f r k h l)(s:dA o j m p n)(t:∀b,10<=b->b<10+3*a.length->¬o b):∀(i:Nat)(c:List Ce)(g:a9),l[i]? =some c->a[i]? =some g->Rk p n i c g:=λi c g q d=>
 (T.dh i c g q d).fe s λb u _=>t b V (by have:=ax d;omega)
def qO.E8(T:qO j m e a f r k h l)(q:∀b,m.size<=b->j b=0)(n:0<=i)(d:i<f.av.length)(v:Int):
 qO j (aj m r.F (r.off+i.toNat*1) [.i v]) e a {f with av:=gU f.av i v} r k h l/\dA (λb=>4<=b/\b≠9) j m j (aj m r.F (r.off+i.toNat*1) [.i v]):=by
 have p:r.cap≠0:=λg=>by have:=(T.av.CU g).1;simp at this;rw[this]at d;simp at d;omega
 have o:=T.av.F p
 have c:dA (λb=>b=10+3*a.length) j m j (aj m r.F (r.off+i.toNat*1) [.i v]):=dA.aj q o.2 _ _
 exact⟨⟨T.qQ.fe c V,T.len,T.size,T.vD c λb _ s=>V,T.av.gU n d v,T.aV.fe c V,T.be.fe c V⟩,c.mono λb s=>V⟩
def qO.xG(T:qO j m e a f r k h l)(q:∀b,m.size<=b->j b=0)(n:0<=i)(d:i<f.aV.length)(v:Int):
 qO j (aj m k.F (k.off+i.toNat*1) [.i v]) e a {f with aV:=gU f.aV i v} r k h l/\dA (λb=>4<=b/\b≠9) j m j (aj m k.F (k.off+i.toNat*1) [.i v]):=by
 have p:k.cap≠0:=λg=>by have:=(T.aV.CU g).1;simp at this;rw[this]at d;simp at d;omega
 have o:=T.aV.F p
 have c:dA (λb=>b=11+3*a.length) j m j (aj m k.F (k.off+i.toNat*1) [.i v]):=dA.aj q o.2 _ _
 exact⟨⟨T.qQ.fe c V,T.len,T.size,T.vD c λb _ s=>V,T.av.fe c V,T.aV.gU n d v,T.be.fe c V⟩,c.mono λb s=>V⟩
def qO.Dv(T:qO j m e a f r k h l)(q:∀b,m.size<=b->j b=0)(n:0<=i)(d:i<f.be.length)(v:Int):
 qO j (aj m h.F (h.off+i.toNat*1) [.i v]) e a {f with be:=gU f.be i v} r k h l/\dA (λb=>4<=b/\b≠9) j m j (aj m h.F (h.off+i.toNat*1) [.i v]):=by
 have p:h.cap≠0:=λg=>by have:=(T.be.CU g).1;simp at this;rw[this]at d;simp at d;omega
 have o:=T.be.F p
 have c:dA (λb=>b=12+3*a.length) j m j (aj m h.F (h.off+i.toNat*1) [.i v]):=dA.aj q o.2 _ _
 exact⟨⟨T.qQ.fe c V,T.len,T.size,T.vD c λb _ s=>V,T.av.fe c V,T.aV.fe c V,T.be.gU n d v⟩,c.mono λb s=>V⟩
def qO.F(T:qO j m e a f r k h l):j e.F=4/\e.F<m.size:=by
 have:=T.C0;have:=T.qQ.le;have:=T.qQ.F V;exact⟨this.2,this.1⟩
def qO.Pe(T:qO j m e a f r k h l)(i:∀b,m.size<=b->j b=0)(v:Int):
 qO j (aj m e.F (e.off+a.length*6+1) [.i v]) e a {f with pc:=v} r k h l/\dA (λb=>4<=b/\b≠9) j m j (aj m e.F (e.off+a.length*6+1) [.i v]):=by
 have g:=T.F
 have c:dA (λb=>b=4) j m j (aj m e.F (e.off+a.length*6+1) [.i v]):=dA.aj i g.1 _ _
 refine⟨⟨?_,T.len,T.size,T.vD c λb n p=>V,T.av.fe c V,T.aV.fe c V,T.be.fe c V⟩,c.mono λb q=>V⟩
 have d:l.flatten.length=a.length*6:=by rw[cX T.size,T.len]
 have:=T.qQ.set (o:=a.length*6+1) (new:=[.i v]) (by simp[d])
 rw[lH _ _ _ _ V,d,Er]at this
 rw[dE];exact this
def qO.VY(T:qO j m e a f r k h l):fu m e.F (e.off+a.length*6+1) 1:=by
 rw[dE];exact T.qQ.wr (by simp only[bg,cX T.size,T.len,ba,eG];omega)
end
def nu.Uy{d:Nat->Nat}{m:I}{c:O}{a:List a9}{f:a9}(e:nu d m c (a++[f])):nu d m (c.cut 0 a.length 6) a:=by
 obtain⟨r,o,h,b,T⟩:=e.ib;have g:b.flatten.length=a.length*6:=by rw[cX T.size,T.len]
 have:=T.qQ.cut (n:=a.length) (by rw[T.C0];omega);rw[lU V,dD V]at this;exact⟨b,this,T.len,T.size,T.dh⟩
def nu.push{d:Nat->Nat}{m:I}{n:O}{b:List a9}(E:nu d m n b)(F:∀a,m.size<=a->d a=0)(H:x.len=1){a:a9}{c k j:O}(G:fU m x.F x.off [.i a.eU,.i a.pc,.i a.dst,.s c,.s k,.s j])
 (z:gY d m aB 1 (10+3*b.length) c (a.av.map Ce.i))(A:gY d m aB 1 (11+3*b.length) k (a.aV.map Ce.i))(B:gY d m aB 1 (12+3*b.length) j (a.be.map Ce.i))(P:b.length<=1000000)
 (p:∀l c e,nu l e c (b++[a])->dA (λq=>q=4) d m l e->K c e):iP m ez [.i (0:Int),.i (0:Int),.i (0:Int),.s O.nil,.s O.nil,.s O.nil] 96 n x K:=by
 obtain⟨w,s,t,u,L⟩:=E
 have N:n.len=b.length:=by have:=s.len;rw[cX u,t]at this;omega
 refine gY.append (zs:=[.i 0,.i 0,.i 0,.s .nil,.s .nil,.s .nil]) (new:=[.i a.eU,.i a.pc,.i a.dst,.s c,.s k,.s j]) s F (by simp[H]) G V λl M e J g=>p l M e ?_ g
 exact qO.rV (f:=a) (a:=b) (l:=w) (r:=c) (k:=k) (h:=j) ⟨by simpa using J,t,u,λi v y C D=>(L i v y C D).fe g λq p _=>V,z.fe g V,A.fe g V,B.fe g V⟩
end
section
variable{m:I}{j:O}{d:List bL}{g:Nat->Nat}{b k N q:Nat}{s r:List Int}{c:bL}{i:Int}{e:Nat->Int}
def Ge:∀(d:List bL)(k:Nat),k<=d.length->(∀c∈d.take k,c.aQ≠0)->k<=eL d
 |[],k,a,_=>by simp at a;simp[a]
 |c::d,0,_,_=>dZ _
 |c::d,k+1,a,b=>by
  have f:=b c E;have:=Ge d k (by simpa using a) (λe g=>b e (by simp[g]));simp only[eL];rw[ae f];omega
def KB:∀(d:List bL)(k:Nat)(c:bL),(∀b∈d.take k,b.aQ≠0)->d[k]? =some c->c.aQ=0->eL d=k
 |[],k,c,_,a,_=>by simp at a
 |b::d,0,c,_,a,e=>by simp at a;subst a;simp[eL,e]
 |b::d,k+1,c,f,a,e=>by
  have g:=f b E;have:=KB d k c (λx h=>f x (by simp[h])) (by simpa using a) e;simp only[eL];rw[ae g,this]
def DI(g:cW m j d):JI bY 174 [O.v j] m (vi (eL d)):=by
 apply xZ;have q:=g.len;refine eg (n:=d.length) (q▸g.gA) (λk a=>J m a/\∀c∈d.take k,c.aQ≠0) ⟨J.aC _,E⟩ ?_;rintro k u I μ p ⟨a,h⟩ r
 refine dit (λo=>?_) λo=>?_
 ·obtain⟨c,f⟩:=ag (l:=d) (k:=k) V;obtain⟨s,t,i,_⟩:=(cW.ext a g).u f;refine⟨V,V,c.aQ,by simpa using i,λb=>⟨?_,a⟩,λb=>r V _ ⟨a,bA f h (by simpa using b)⟩⟩;rw[KB d k c h f (by simpa using b)]
 ·refine⟨?_,a⟩;have:=Ge d k p h;have:=tI d;have e:(j.len:Int)=(eL d:Int):=V;rw[e]
def uz(g:Nat->Nat)(b k:Nat):Nat->Nat:=λc=>if c=b then k else g c
def iE(g:Nat->Nat)(b k:Nat):uz g b k b=k:=aq rfl
def eZ{c:Nat}(d:c≠b):uz g b k c=g c:=ae d
def dA.uz{p:Nat->Prop}{m':I}(d:J m m')(e:∀b,m.size<=b->g b=0)(f:m.size<=b)(h:b<m'.size)(k:Nat):dA p g m (uz g b k) m':=
 ⟨d.size,λc a=>eZ V,λc a=>by rw[eZ V];exact e c (bI d.size a),λc a _=>d.same c a⟩
def J9(f:eB N g m j d)(q:∀b,m.size<=b->g b=0){c:Nat}(ha:c<=d.length)(w:Int){H:O}(U:au m H s)(Y:d.length<=2000000000)(M:s.length<=1000000000)(K:N<=m.size):
 aN bY 175 [O.v j,vi c,vi w,O.v H] m λaa T=>∃v P,aa=O.v P/\eB N v T P (lp d c ⟨1,w,s⟩)/\HC g m v T:=by
 apply FH
 simp -zeta only[aE,aD]
 refine(fG U M).then M λF u D R I=>⟨F,rfl,?_⟩
 intro Z a
 have p:J u a:=((J.aC u).aM _).aj (ad _) _ _
 have s3:a.size=u.size+1:=by simp[a,Z,az]
 have t:=I.trans p
 clear_value a
 have y:HC g m g a:=dA.fj _ t q
 have C:=y.new
 have A:eB N g a j d:=f.fe (dA.fj (λ_=>False) t q) id id
 have ab:=f.len
 have S:=R.ext p
 have Q:s≠[]->g F.F=0:=λW=>by
  rcases D.F with e|e
  ·subst e;have:=R.len;simp at this;exact absurd (List.length_eq_zero_iff.1 this.symm) W
  ·exact q _ e
 have L:g u.size=0:=q _ I.size
 refine⟨λe=>?_,λe=>?_⟩
 ·simp at e
  intro h
  have i:J a h:=(J.aC a).aM _
  have X:fU h a.size 0 [.i 1,.i w,.s F]:=(cD.push a _ _).jA
  have G:HC g m g h:=y.trans (dA.fj _ i C)
  have s4:h.size=a.size+1:=by simp[h]
  clear_value h
  refine eB.push (A.fe (dA.fj (λ_=>False) i C) id id) G.new (x:=.mk a.size 0 1 1) rfl X (S.ext i) (Rq.of f (λz=>(t.trans i).same _ (f.F z).2) (λ_=>D.ext (p.trans i)) Q K) Y λv r m5 E n=>⟨λb l=>?_,v,r,rfl,?_,G.trans (n.mono λk B=>Or.inl B)⟩
  ·simp at l;subst l
   exact n.fw _ V (by rw[L];decide)
  ·rw[lp,aq V];exact E
 ·simp at e
  have h:c<d.length:=V
  have i:Int.toNat (c:Int)=c:=V
  rw[i]
  refine⟨V,V,A.wr (o:=0) h bd,?_⟩
  intro m5
  obtain⟨E,n⟩:=A.setCell C h 1 w S (Rq.of f (λz=>t.same _ (f.F z).2) (λ_=>D.ext p) Q K)
  refine⟨λb l=>?_,g,j,rfl,?_,y.trans (n.mono λk B=>Or.inl B)⟩
  ·simp at l;subst l
   exact n.fw _ V (by rw[L];decide)
  ·rw[lp,ae V];exact E
def Ox(b:d[q]? =some c)(a:c.aQ≠0):jT d (q+1)=q+1:=by
 simp only[jT,b];rw[ae a]
def Q7(b:d[q]? =some c)(a:c.aQ=0):jT d (q+1)=jT d q:=by
 simp only[jT,b];rw[aq a]
def vr(a:cW m j d):aN bY 177 [O.v j] m λv n=>v=O.v (j.cut 0 (jT d d.length) 3)/\J m n:=by
 apply HA;have x:=a.len;have u:=a.cap;have y:=a.gA;refine⟨λi n=>J m n/\∃q:Nat,i=q/\q<=d.length/\jT d q=jT d d.length,λi _=>i.toNat,⟨J.aC _,d.length,V,ad _,rfl⟩,?_⟩;rintro i s ⟨h,q,rfl,z,o⟩;have ij:jT d q=q->Value.slice=Value.slice->(0:Int)<=(0:Int)/\(0:Int)<=(q:Int)/\(q:Int)<=(j.cap:Int)/\(O.v (O.cut j (Int.toNat (0:Int)) (Int.toNat (q:Int)) 3)=O.v (j.cut 0 (jT d d.length) 3)/\J m s):=λe _=>by
  refine⟨V,V,V,?_,h⟩;rw[<-o,e];rfl
 refine⟨λb=>?_,λb=>?_⟩
 ·simp only[mz,ao]at b;obtain⟨k,rfl⟩:∃k,q=k+1:=⟨q -1,V⟩;have p:cO (((k+1:Nat):Int) -1)=(k:Int):=by rw[aP V V];omega
  rw[p];obtain⟨c,g⟩:=ag (l:=d) (k:=k) V;obtain⟨t,w,r,_⟩:=(cW.ext h a).u g;refine⟨V,V,c.aQ,by simpa using r,λf=>⟨⟨h,k,rfl,V,?_⟩,by show(k:Int).toNat<((k+1:Nat):Int).toNat;omega⟩,λf=>?_⟩
  ·rw[<-o,Q7 g (by simpa using f)]
  ·exact ij (Ox g (by simpa using f)) rfl
 ·simp only[mz,bN]at b;have:q=0:=V;subst this;exact ij rfl rfl
def gY.Uy{a:O}(d:gY g m aB 1 k a ((s++[i]).map Ce.i)):a.len=s.length+1/\D m a.F (a.off+s.length*1)=some (vi i)/\gY g m aB 1 k (a.cut 0 s.length 1) (s.map Ce.i):=by
 have b:a.len=s.length+1:=by have:=d.len;simp at this;omega
 refine⟨b,?_,?_⟩
 ·have:=d.jA s.length (.i i) E;rw[dP];exact this
 ·have:=d.cut (n:=s.length) V;rw[dP,eQ,lU E,dD E]at this;exact this
def fq.RN(h:fq d (λb=>e b+dJ (i::r) b))(c:∀b,0<=e b)(a:iX d i)(f:(aW d i).aQ=1):fq (d.set (ix i) jz) (λb=>e b+dJ ((aW d i).aI.reverse++r) b):=by
 obtain⟨g,j⟩:=cq a;refine fq.N9 h g f ?_ bd bd rfl (by simp[jz]) (by simp[jz]) (λ_=>rfl) λb=>?_
 ·simp only[gN a.1,aq];have:=c (ix i);have:=gB r (ix i);omega
 ·simp only[gN a.1,mM,xz];omega
def fq.Qr(c:fq d (λb=>e b+dJ (i::r) b))(g:∀b,0<=e b)(f:iX d i)(h:(aW d i).aQ≠1):fq (fI d i) (λb=>e b+dJ r b):=by
 obtain⟨a,j⟩:=cq f;have k:=(c.cell _ (ar a)).hi;refine fq.HK c a j V V (λb=>?_) ?_
 ·simp only[gN f.1];split<;>omega
 ·have:=g (ix i);have:=gB r (ix i);omega
def fq.RL(a:fq d (λb=>e b+dJ (i::r) b))(c:i<1000):fq d (λb=>e b+dJ r b):=
 a.congr λb=>by simp only[dJ];rw[ae V];omega
def fq.Qq(f:fq d (λb=>e b+dJ (i::r) b))(c:∀b,0<=e b)(a:1000<=i):iX d i:=
 ⟨a,f.lv _ (by simp only[gN a,aq];have:=c (ix i);have:=gB r (ix i);omega)⟩
def GN:List bL->Nat
 |[]=>0
 |c::d=>c.aI.length+GN d
def Iq:∀{d:List bL}{e:Nat}{c:bL}(b:bL),d[e]? =some c->GN (d.set e b)+c.aI.length=GN d+b.aI.length
 |[],e,c,b,d=>by simp at d
 |g::d,0,c,b,f=>by simp at f;subst f;simp only[ig,GN];omega
 |g::d,e+1,c,b,f=>by
  have:=Iq (d:=d) (e:=e) b (by simpa using f);simp only[ic,GN];omega
def OV:∀{d:List bL},(∀c∈d,c.aI.length<=3)->GN d<=3*d.length
 |[],_=>by simp[GN]
 |c::d,a=>by
  have:=OV (λb e=>a b (ah _ e));have:=a c aS;simp only[GN,ba];omega
def DG(hh:eB N g m j d)(hn:∀b,m.size<=b->g b=0){ws:O}(hw:au m ws [i])(hI:fq d (λb=>e b+dJ [i] b))(he:∀b,0<=e b)(aO:d.length<=2000000000):
 aN bY 151 [O.v j,O.v ws] m λaF y=>∃z am,aF=O.v am/\eB N z y am (pY (iA d [i]))/\HC g m z y:=by
 apply xY
 refine(fG hw E).then E λt Q o1 i1 h1=>⟨t,rfl,?_⟩
 have av:t≠.nil:=λe=>by subst e;have:=i1.len;simp at this
 have I:m.size<=t.F/\t.F<Q.size:=by
  rcases o1.F with e|e
  ·exact absurd e av
  ·rcases o1.lt with B|B
   ·exact absurd B av
   ·exact⟨e,B⟩
 have c1:HC g m (uz g t.F 6) Q:=dA.uz h1 hn I.1 I.2 6
 have a1:gY (uz g t.F 6) Q aB 1 6 t ([i].map Ce.i):=gY.iC o1 λ_=>iE _ _ _
 have aA:eB N (uz g t.F 6) Q j d:=hh.fe (dA.uz (p:=λ_=>False) h1 hn I.1 I.2 6) id id
 have aJ:=OV λc a=>(hI.cell c a).fl
 have aK:=hh.len
 refine Pm (γ:=List bL×List Int) (λh G y=>∃z,eB N z y j h.1/\gY z y aB 1 6 G (h.2.reverse.map Ce.i)/\HC g m z y/\fq h.1 (λb=>e b+dJ h.2 b)/\iA h.1 h.2=iA d [i]/\h.1.length=d.length/\h.2.length+GN h.1<=1+GN d) (λh=>GH h.1+h.2.length) (d,[i])
  ⟨_,aA,a1,c1,hI,rfl,rfl,E⟩ ?_
 rintro⟨a,st⟩ G m2 aG μ ⟨s,C,A,h,u,v,M,ag⟩ ad
 simp only[]at C A u v M ag
 have aw:G.len=st.length:=by have:=A.len;simp at this;omega
 refine⟨λW=>?_,λW=>?_⟩
 ·simp only[mz,ao]at W
  cases st with
  |nil=>simp at aw;omega
  |cons x r=>
   simp only[Yl]at A
   obtain⟨p1,p2,p3⟩:=A.Uy
   simp only[ba,Kf]at aw p1 p2 p3 ag
   have e1:cO ((G.len:Int) -1)=(r.length:Int):=by rw[aP V V];omega
   have aH:=A.le
   rw[e1]
   have B:Int.toNat (0:Int)=0:=rfl
   have e3:Int.toNat (r.length:Int)=r.length:=V
   rw[B,e3]
   refine⟨V,V,x,p2,V,V,V,(dy _ _).then λb R hb q=>⟨b,rfl,λaz=>?_,λay=>?_⟩⟩
   ·have hx:=hb.1 az
    have F:=u.Qq he hx
    obtain⟨n,ap⟩:=cq F
    have aj:=ax n
    have aD:ix x=(x -1000).toNat:=rfl
    have aM:=(u.cell _ (ar n)).hi
    have e4:cO (x -1000)=x -1000:=aP V V
    rw[e4,<-aD]
    have K:HC s m2 s R:=dA.fj _ q h.new
    have ab:eB N s R j a:=C.fe (dA.fj (λ_=>False) q h.new) id id
    have a3:=p3.fe (dA.fj (λ_=>False) q h.new) id
    obtain⟨f0,g0,_,_,_,_⟩:=ab.cy n
    refine⟨V,V,_,g0,V,V,ab.wr (o:=0) aj bd,?_⟩
    have e5:cO ((aW a x).aQ -1)=(aW a x).aQ -1:=aP V V
    rw[e5]
    intro m4
    obtain⟨ac,c4⟩:=ab.Du K.new n ((aW a x).aQ -1)
    have T:=a3.fe c4 bd
    have U:HC g m s m4:=(h.trans K).trans (c4.mono λk D=>Or.inl D)
    have Z:=lE (d:=jz) n
    simp only[aq ap,jz]at Z
    simp at Z
    have aE:(a.set (ix x) {aW a x with aQ:=(aW a x).aQ -1})[ix x]? =some {aW a x with aQ:=(aW a x).aQ -1}:=eE n
    obtain⟨f1,k0,_,k2,kf,kr⟩:=ac.cy aE
    refine⟨V,V,_,k0,λX=>?_,λX=>?_⟩
    ·simp only[aL]at X
     have al:(aW a x).aQ=1:=V
     have aI:=(u.cell _ (ar n)).fl
     have aa:=kf.len
     simp only[]at aa kf kr
     have L:=Iq jz n
     simp only[jz,eG]at L
     refine⟨V,V,f1,k2,gY.append (zs:=[.i 0]) (new:=(aW a x).aI.map Ce.i) T U.new (by simp[aa]) kf.Ol ?_ λae aR S q1 q2=>?_⟩
     ·have:(G.cut 0 r.length 1).len=r.length:=by have:=T.len;simp at this;omega
      rw[this,aa];omega
     have aC:=ac.fe q2 bd bd
     have H:HC g m ae S:=U.trans (q2.mono λk D=>Or.inr (Or.inr D))
     intro m6
     have Y:J S m6:=(J.aC S).aM _
     have ah:=aC.fe (dA.fj (λ_=>False) Y H.new) id id
     have a6:=q1.fe (dA.fj (λ_=>False) Y H.new) id
     have af:HC g m ae m6:=H.trans (dA.fj _ Y H.new)
     clear_value m6
     have ak:ix x<(a.set (ix x) {aW a x with aQ:=(aW a x).aQ -1}).length:=by simpa using aj
     refine⟨V,V,ah.wr (o:=0) ak bd,?_⟩
     intro m7
     obtain⟨ai,c7⟩:=ah.setCell af.new ak 0 0 (d:=.mk S.size 0 0 0) (b:=[]) ⟨rfl,E,E,E⟩ (λP=>absurd rfl P)
     rw[List.set_set]at ai
     refine ad (a.set (ix x) jz,(aW a x).aI.reverse++r) _ _ ⟨ae,ai,?_,af.trans (c7.mono λk D=>Or.inl D),u.RN he F al,?_,by simpa using M,?_⟩ ?_
     ·have:=a6.fe c7 bd
      simpa using this
     ·rw[<-ze F al];exact v
     ·simp only[bg,Kf]
      have D:GN (a.set (ix x) jz)+(aW a x).aI.length=GN a:=by simpa[jz]using L
      omega
     ·simp only[bg,Kf,ba]
      have D:GH (a.set (ix x) jz)+((aW a x).aQ.toNat+(aW a x).aI.length)=GH a:=by simpa[jz]using Z
      omega
    ·simp only[an]at X
     have P:(aW a x).aQ≠1:=V
     have D:=lE (d:={aW a x with aQ:=(aW a x).aQ -1}) n
     simp only[aq ap]at D
     rw[aq V]at D
     have L:=Iq {aW a x with aQ:=(aW a x).aQ -1} n
     refine ad (fI a x,r) _ _ ⟨s,ac,T,U,u.Qr he F P,?_,by simpa[fI]using M,?_⟩ ?_
     ·rw[<-uI F P];exact v
     ·simp only[fI];simp only[]at L;omega
     ·simp only[fI,ba];omega
   ·have hx:=fb hb ay
    have K:HC s m2 s R:=dA.fj _ q h.new
    refine ad (a,r) _ _ ⟨s,C.fe (dA.fj (λ_=>False) q h.new) id id,p3.fe (dA.fj (λ_=>False) q h.new) id,h.trans K,u.RL V,?_,M,by simp only[];omega⟩ E
    rw[<-uJ (w:=x) (λn=>hx n.1)];exact v
 ·simp only[mz,bN]at W
  have n:st=[]:=List.length_eq_zero_iff.1 V
  subst n
  rw[zd]at v
  subst v
  refine(vr (C.cells V)).mono ?_
  rintro _ R ⟨rfl,q⟩
  refine⟨_,rfl,s,_,rfl,?_,h.trans (dA.fj _ q h.new)⟩
  exact(C.fe (dA.fj (λ_=>False) q h.new) id id).cut (rQ _ _)
end
section
variable{i:Int}
structure ST(m0:I)(ro:Nat->Nat)(m:I)(mb e:Nat)(bx:List Ce)(bq hp fr:O)(lo:List Int)(lh:List bL)(fs:List a9)(f:a9)(r o h:O)(css:List (List Ce)):Prop where
 eA:AA m0 ro m mb e bx bq hp fr lo lh (fs++[f])
 ib:qO ro m fr fs f r o h css
section
variable{g:I}{a t:Nat->Nat}{m s:I}{d e:Nat}{j:List Ce}{bq l b:O}{q:List Int}{n:List bL}{c:List a9}{f:a9}{r o h:O}{k:List (List Ce)}
def ST.ext(S:ST g a m d e j bq l b q n c f r o h k)(i:J m s):ST g a s d e j bq l b q n c f r o h k/\To a m a s:=
 ⟨⟨(S.eA.ext i).1,S.ib.ext S.eA.new i⟩,(S.eA.ext i).2⟩
def ST.E8(S:ST g a m d e j bq l b q n c f r o h k){i:Int}(s:0<=i)(t:i<f.av.length)(v:Int):ST g a (aj m r.F (r.off+i.toNat*1) [.i v]) d e j bq l b q n c {f with av:=gU f.av i v} r o h k/\To a m a (aj m r.F (r.off+i.toNat*1) [.i v]):=by
 obtain⟨p,u⟩:=S.ib.E8 S.eA.new s t v;obtain⟨w,x⟩:=S.eA.kW u p.rV;exact⟨⟨w,p⟩,x⟩
def ST.xG(S:ST g a m d e j bq l b q n c f r o h k){i:Int}(s:0<=i)(t:i<f.aV.length)(v:Int):ST g a (aj m o.F (o.off+i.toNat*1) [.i v]) d e j bq l b q n c {f with aV:=gU f.aV i v} r o h k/\To a m a (aj m o.F (o.off+i.toNat*1) [.i v]):=by
 obtain⟨p,u⟩:=S.ib.xG S.eA.new s t v;obtain⟨w,x⟩:=S.eA.kW u p.rV;exact⟨⟨w,p⟩,x⟩
def ST.Dv(S:ST g a m d e j bq l b q n c f r o h k){i:Int}(s:0<=i)(t:i<f.be.length)(v:Int):ST g a (aj m h.F (h.off+i.toNat*1) [.i v]) d e j bq l b q n c {f with be:=gU f.be i v} r o h k/\To a m a (aj m h.F (h.off+i.toNat*1) [.i v]):=by
 obtain⟨p,u⟩:=S.ib.Dv S.eA.new s t v;obtain⟨w,x⟩:=S.eA.kW u p.rV;exact⟨⟨w,p⟩,x⟩
def ST.Pe(S:ST g a m d e j bq l b q n c f r o h k)(v:Int):ST g a (aj m b.F (b.off+c.length*6+1) [.i v]) d e j bq l b q n c {f with pc:=v} r o h k/\To a m a (aj m b.F (b.off+c.length*6+1) [.i v]):=by
 obtain⟨i,p⟩:=S.ib.Pe S.eA.new v;obtain⟨s,t⟩:=S.eA.kW p i.rV;exact⟨⟨s,i⟩,t⟩
def ST.nU(S:ST g a m d e j bq l b q n c f r o h k)(i:Nat)(s:List Ce):ST g a (aj m d i s) d e (iD j i s) bq l b q n c f r o h k/\To a m a (aj m d i s):=by
 obtain⟨u,v⟩:=S.eA.nU i s;exact⟨⟨u,S.ib.fe (dA.aj (p:=λt=>t=1) S.eA.new S.eA.Pc i s) λt w=>V⟩,v⟩
def ST.jf(S:ST g a m d e j bq l b q n c f r o h k)(i:HC a m t s){p:O}{u:List bL}(x:eB g.size t s p u):ST g t s d e j bq p b q u c f r o h k/\To a m t s:=by
 obtain⟨v,w⟩:=S.eA.jf i x;exact⟨⟨v,S.ib.fe i λz y=>V⟩,w⟩
def ST.I9(S:ST g a m d e j bq l b q n c f r o h k)(i:dA (λp=>p=2) a m t s){v:O}{u:List Int}(y:gY t s aB 1 2 v (u.map Ce.i)):ST g t s d e j v l b u n c f r o h k/\To a m t s:=by
 obtain⟨w,x⟩:=S.eA.I9 i y;exact⟨⟨w,S.ib.fe i λp z=>V⟩,x⟩
end
def dA.Om{c f:Nat->Nat}{m a:I}(h:To c m f a){b:Nat}(e:b<m.size)(d:c b=0):dV [b] m a:=h.de (by simpa using⟨e,d⟩)
abbrev SB(d p:O)(s:St)(bq b a:O):List Ce:=[.s d,.s p,.i s.cR,.i s.value,.i s.bG,.i s.dQ,.s bq,.s b,.s a]
def vT(f:I)(h:Nat->Nat)(m:I)(g:Nat)(e p:O)(s:St)(c:I):Prop:=
 ∃d bq b a,AA f d c g bC (SB e p s bq b a) bq b a s.bq s.heap s.ak/\To h m d c
def vT.from{b:I}{f g:Nat->Nat}{m c a:I}{e:Nat}{d p:O}{s:St}(i:vT b g c e d p s a)(n:To f m g c):vT b f m e d p s a:=
 let⟨o,bq,l,h,j,k⟩:=i
 ⟨o,bq,l,h,j,n.trans k⟩
section
variable{q:I}{e:Nat->Nat}{m:I}{g:Nat}{d p bq b c:O}{a:St}{j:List a9}{f:a9}{r t h:O}{u:List (List Ce)}
def jg(S:ST q e m g bC (SB d p a bq b c) bq b c a.bq a.heap j f r t h u)(s:j.length<=100000)(v:Int):
 aN bY 150 [vp g 0,vi v] m λw k=>ST q e k g bC (SB d p a bq b c) bq b c a.bq a.heap j {f with pc:=v} r t h u/\To e m e k:=by
 apply nh (g,0)
 have i:D m g 8=some (O.v c):=S.eA.box.cy 8
 have o:=S.ib.C0
 have l:cO ((c.len:Int) -1)=(j.length:Int):=by rw[aP V V];omega
 have n:Int.toNat (j.length:Int)=j.length:=V
 refine⟨c,i,c,i,?_⟩
 rw[l,n]
 exact⟨V,V,S.ib.VY,S.Pe v⟩
def yH(S:ST q e m g bC (SB d p a bq b c) bq b c a.bq a.heap j f r t h u)(U:j.length<=100000)(k:0<=i)(x:i<f.av.length)(y:i<f.aV.length)(w:Int)(ab:0<=f.pc/\f.pc<=100000):
 aN bY 143 [vp g 0,vi i,vi w] m λ_ A=>ST q e A g bC (SB d p a bq b c) bq b c a.bq a.heap j (a9.put {f with pc:=f.pc+1} i w 0) r t h u/\To e m e A:=by
 apply sB (g,0)
 simp -zeta only[aE,aD]
 have z:D m g 8=some (O.v c):=S.eA.box.cy 8
 have Z:=S.ib.C0
 have I:cO ((c.len:Int) -1)=(j.length:Int):=by rw[aP V V];omega
 have K:Int.toNat (j.length:Int)=j.length:=V
 obtain⟨M,N,P,Q,R,T⟩:=S.ib.jA
 have ac:r.len=f.av.length:=by have:=S.ib.av.len;simp at this;omega
 have aa:t.len=f.aV.length:=by have:=S.ib.aV.len;simp at this;omega
 refine⟨c,z,c,z,?_⟩
 rw[I,K]
 refine⟨V,V,_,M,_,N,_,P,r,Q,t,R,h,T,?_⟩
 intro X l
 have W:J m l:=((J.aC m).aM _).aj (ad _) _ _
 have s2:l.size=m.size+1:=by simp[l,X,az]
 have n:e m.size=0:=S.eA.new _ (ad _)
 obtain⟨s,Y⟩:=S.ext W
 clear_value l
 refine⟨k,V,s.ib.av.P1 k x,?_⟩
 intro o
 obtain⟨v,C⟩:=s.E8 k x w
 have s3:o.size=l.size:=az _ _ _ _
 refine⟨C.Om (show m.size<l.size by omega) n,k,V,v.ib.aV.P1 k y,?_⟩
 intro B
 obtain⟨G,E⟩:=v.xG k (by simpa using y) 0
 have s4:B.size=o.size:=az _ _ _ _
 have L:cO (f.pc+1)=f.pc+1:=aP V V
 rw[L]
 refine⟨E.Om (show m.size<o.size by omega) n,(jg G U (f.pc+1)).mono ?_⟩
 rintro _ m5 ⟨H,F⟩
 exact⟨F.Om (show m.size<B.size by omega) n,H,((Y.trans C).trans E).trans F⟩
def rE(S:ST q e m g bC (SB d p a bq b c) bq b c a.bq a.heap j f r t h u)(ag:j.length<=100000)(k:0<=i)(F:i<f.av.length)(n:i<f.aV.length)(w:Int):
 aN bY 153 [vp g 0,vi i,vi w] m λ_ K=>ST q e K g bC (SB d p a bq b c) bq b c a.bq a.heap j (f.put i w (iR w)) r t h u/\To e m e K:=by
 apply sA (g,0)
 simp -zeta only[aE,aD]
 have I:D m g 8=some (O.v c):=S.eA.box.cy 8
 have af:=S.ib.C0
 have R:cO ((c.len:Int) -1)=(j.length:Int):=by rw[aP V V];omega
 have T:Int.toNat (j.length:Int)=j.length:=V
 obtain⟨W,X,Y,Z,g4,g5⟩:=S.ib.jA
 have ai:r.len=f.av.length:=by have:=S.ib.av.len;simp at this;omega
 have ah:t.len=f.aV.length:=by have:=S.ib.aV.len;simp at this;omega
 refine⟨c,I,c,I,?_⟩
 rw[R,T]
 refine⟨V,V,_,W,_,X,_,Y,r,Z,t,g4,h,g5,?_⟩
 intro m1 l
 have ac:J m l:=((J.aC m).aM _).aj (ad _) _ _
 have s2:l.size=m.size+1:=by simp[l,m1,az]
 have o:e m.size=0:=S.eA.new _ (ad _)
 obtain⟨B,M⟩:=S.ext ac
 clear_value l
 refine⟨k,V,B.ib.av.P1 k F,?_⟩
 intro x
 obtain⟨C,y⟩:=B.E8 k F w
 have s3:x.size=l.size:=az _ _ _ _
 refine⟨y.Om (show m.size<l.size by omega) o,k,V,C.ib.aV.P1 k n,?_⟩
 intro L
 obtain⟨P,z⟩:=C.xG k (by simpa using n) 0
 have s4:L.size=x.size:=az _ _ _ _
 refine⟨z.Om (show m.size<x.size by omega) o,(dy _ _).mono ?_⟩
 rintro _ m5 ⟨Q,rfl,H,G⟩
 obtain⟨s,A⟩:=P.ext G
 have s5:=G.size
 refine⟨A.Om (show m.size<L.size by omega) o,Q,rfl,λab=>?_,λaa=>?_⟩
 ·refine⟨k,V,s.ib.aV.P1 k (by simpa[jK]using n),?_⟩
  intro m6
  obtain⟨E,N⟩:=s.xG k (by simpa[jK]using n) 1
  refine⟨N.Om (show m.size<m5.size by omega) o,?_,(((M.trans y).trans z).trans A).trans N⟩
  have U:gU (gU f.aV i 0) i 1=gU f.aV i 1:=by simp[gU,List.set_set]
  have v:iR w=1:=by rw[iR,aq (H.1 ab)]
  simp only[U]at E
  rw[v];exact E
 ·refine⟨?_,((M.trans y).trans z).trans A⟩
  have v:iR w=0:=by rw[iR,ae (fb H aa)]
  rw[v];exact s
def zj:∀(a:List Int)(g:List bL),(j8 g a).length=g.length
 |[],g=>rfl
 |w::a,g=>by rw[j8,zj a];simp[nE]
def IW:∀(a:List Int)(g:List bL)(w:Int),j8 g (a++[w])=nE (j8 g a) w
 |[],g,w=>rfl
 |v::a,g,w=>by rw[cN,j8,IW a,j8]
def Gv:∀(b:List Int)(g:List bL)(n:Int),(∀c∈g,-10<=c.aQ/\c.aQ<=n)->∀c∈j8 g b,-10<=c.aQ/\c.aQ<=n+b.length
 |[],g,n,h,c,e=>by have:=h c e;simp;omega
 |w::b,g,n,h,c,e=>by
  have:=Gv b (nE g w) (n+1) (λd a=>by
   rcases o8 a with rfl|⟨j,_,i⟩
   ·simp only[aW];cases f:g[ix w]? with
    |none=>
     unfold nE at a;rw[CE (List.getElem?_eq_none_iff.1 f)]at a;have:=h _ a;simp only[aW,f]at this⊢;omega
    |some x=>have:=h x (ar f);simp only[tB];omega
   ·have:=h d (ar i);omega) c e
  simp only[ba];omega
def AO(L:AA q e m g bC (SB d p a bq b c) bq b c a.bq a.heap j){w:O}{f:List Int}(y:au m w f)(S:f≠[]->e w.F=0)(P:∀h∈f,1000<=h/\ix h<a.heap.length)(K:∀i∈a.heap,-10<=i.aQ/\i.aQ<=999999)(ab:f.length<=1000000)(Z:a.heap.length<=2000000000):
 aN bY 149 [vp g 0,O.v w] m λ_ u=>eB q.size e u b (j8 a.heap f)/\dA (λh=>h=3) e m e u:=by
 apply tv (g,0)
 have ac:=y.len
 have M:D m g 7=some (O.v b):=L.box.cy 7
 refine eg (n:=f.length) V (λh u=>eB q.size e u b (j8 a.heap (f.take h))/\dA (λh=>h=3) e m e u) ⟨L.heap,dA.aC _ L.new⟩ ?_
 rintro h C W μ hk ⟨r,s⟩ U
 refine dit (λI=>?_) λI=>?_
 ·obtain⟨x,t⟩:=ag (l:=f) (k:=h) V
  obtain⟨ad,B⟩:=P x (ar t)
  have A:f≠[]:=λE=>by rw[E]at t;simp at t
  have T:au C w f:=mC y λ_=>s.fw _ (nv y A) (by rw[S A];decide)
  have z:D C g 7=some (O.v b):=by rw[aJ (s.fw _ L.box.lt (by rw[L.Pc];decide))];exact M
  have R:=r.len
  rw[zj]at R
  obtain⟨i,v⟩:=ag (l:=j8 a.heap (f.take h)) (k:=ix x) (by rw[zj];exact B)
  obtain⟨X,H,_⟩:=r.cy v
  have Q:ix x=(x -1000).toNat:=rfl
  have F:cO (x -1000)=x -1000:=aP V V
  have Y:=Gv (f.take h) a.heap 999999 K i (ar v)
  have aa:((f.take h).length:Int)<=1000000:=bF
  have G:cO (i.aQ+1)=i.aQ+1:=aP V V
  refine⟨V,V,x,by simpa using T.u t,b,z,b,z,?_⟩
  rw[F,<-Q]
  refine⟨V,V,i.aQ,H,V,V,r.wr (o:=0) (by rw[zj];exact B) bd,?_⟩
  rw[G]
  obtain⟨N,J⟩:=r.Du s.new v (i.aQ+1)
  refine U V _ ⟨?_,s.trans J⟩
  rw[bK t,IW]
  have:aW (j8 a.heap (f.take h)) x=i:=by simp[aW,v]
  unfold nE
  rw[this];exact N
 ·rw[cE V]at r
  exact⟨r,s⟩
def yL(L:AA q e m g bC (SB d p a bq b c) bq b c a.bq a.heap j){w:Int}(A:iX a.heap w){k:Nat->Int}(r:fq a.heap k)(P:a.heap.length<=2000000000):
 aN bY 176 [vp g 0,vi w] m λF u=>∃i:Bool,F=vb i/\(i=true<->(aW a.heap w).aQ=1)/\dA (λy=>y=3) e m e u/\(i=true->eB q.size e u b a.heap)/\(i=false->eB q.size e u b (j8 (fI a.heap w) (pQ (aW a.heap w).aI))):=by
 apply sC (g,0)
 obtain⟨f,ae⟩:=cq A
 have R:=ax f
 have ac:=L.heap.len
 have Q:ix w=(w -1000).toNat:=rfl
 have ab:=A.1
 have I:cO (w -1000)=w -1000:=aP V V
 have t:D m g 7=some (O.v b):=L.box.cy 7
 have ad:=(r.cell _ (ar f)).hi
 have J:cO ((aW a.heap w).aQ -1)=(aW a.heap w).aQ -1:=aP V V
 obtain⟨f0,x,g1,g2,gf,gr⟩:=L.heap.cy f
 rw[I,<-Q]
 refine⟨b,t,V,V,_,x,λn=>?_,λn=>?_⟩
 ·exact⟨true,rfl,by simpa using n,dA.aC _ L.new,λ_=>L.heap,λh=>by simp at h⟩
 ·simp only[an]at n
  refine⟨b,t,b,t,V,V,_,x,V,V,L.heap.wr (o:=0) R bd,?_⟩
  rw[J]
  intro m1
  obtain⟨z,l⟩:=L.heap.Du L.new f ((aW a.heap w).aQ -1)
  obtain⟨K,k0,k1,X,Y,kr⟩:=z.cy (eE f)
  obtain⟨v,t1⟩:=L.jf (l.mono λy B=>Or.inl B) z
  have aa:=(r.cell _ (ar f)).fl
  refine⟨b,v.box.cy 7,V,V,K,X,?_⟩
  refine(mP Y (by simp only[];omega)).then (by have:=rp (aW a.heap w).aI;simp only[];omega) λE m2 Z C y=>⟨E,rfl,?_⟩
  obtain⟨G,t2⟩:=v.ext y
  have T:pQ (aW a.heap w).aI≠[]->e E.F=0:=λS=>by
   rcases Z.F with k|k
   ·subst k;have:=C.len;simp at this;exact absurd (List.length_eq_zero_iff.1 this.symm) S
   ·exact l.new _ k
  have:=rp (aW a.heap w).aI
  refine(AO (a:={a with heap:=fI a.heap w}) (j:=j) G C T (λF U=>?_) (λH M=>?_) (by simp only[];omega) (by simpa[fI]using P)).mono ?_
  ·obtain⟨W,B⟩:=mj.1 U
   have N:=r.field (ar f) W B
   exact⟨B,by simpa[fI]using ax (cq N).1⟩
  ·rcases o8 M with rfl|⟨i,_,B⟩
   ·simp only[];omega
   ·have:=r.cell H (ar B);have N:=this.lo;have W:=this.hi;omega
  ·rintro _ W ⟨N,B⟩
   exact⟨false,rfl,by simpa using n,(l.trans (dA.fj _ y l.new)).trans B,λh=>by simp at h,λ_=>N⟩
end
end
section
variable{y:Nat->Nat}{c:I}{g:List Nat}{e:Nat}{t:List Ce}{v:List Int}{q:List bL}{x:Instr}{a j:O}{b:Int}
def K6(a:Nat->Nat)(m:I)(g:List Nat):Prop:=∀b∈g,b<m.size/\a b=0
def K6.to{p:Nat->Prop}{d:Nat->Nat}{m:I}(h:K6 d m g)(t:dA p d m y c):K6 y c g:=λb a=>⟨aK (h b a).1 t.size,by rw[t.iS b (h b a).1];exact(h b a).2⟩
def dA.gD{a:Nat->Nat}{m:I}(t:To a m y c)(h:K6 a m g):dV g m c:=t.de h
def K6.HB{f:Nat->Nat}{m d e:I}(c:∀b,m.size<=b->f b=0)(g:d.size=m.size+1)(h:e.size=m.size+2):K6 f e [d.size,m.size]:=λb a=>by
 simp at a;rcases a with rfl|rfl
 ·exact⟨V,c _ V⟩
 ·exact⟨V,c _ V⟩
noncomputable def uG (s:St) (a:List a9) (f:a9) (x:Instr) (t:Int):St:=
 open Classical in
 if x.bV≠0/\u f.be (x.bV -1)≠0 then
  {s with heap:=s.heap.set (ix (u f.be (x.bV -1))) ⟨1,t,dg f x.args⟩,ak:=a++[a9.put {f with pc:=f.pc+1,be:=gU f.be (x.bV -1) 0} x.dst (u f.be (x.bV -1)) 1]}
 else{s with heap:=lp s.heap (eL s.heap) ⟨1,t,dg f x.args⟩,ak:=a++[a9.put {f with pc:=f.pc+1} x.dst (1000+eL s.heap) 1]}
section
variable{M:I}{G:Nat->Nat}{B:I}{L:Nat}{d p bq C H:O}{A:St}{K:List a9}{z:a9}{r F h:O}{N:List (List Ce)}
def ST.IZ(S:ST M G B L e t bq C H v q K z r F h N)(a:z.av.length<=1000000):au B r z.av:=S.ib.av.pw V
def ST.QX(S:ST M G B L e t bq C H v q K z r F h N)(a:z.aV.length<=1000000):au B F z.aV:=S.ib.aV.pw V
def ST.QG(S:ST M G B L e t bq C H v q K z r F h N)(a:z.be.length<=1000000):au B h z.be:=S.ib.be.pw V
def sO(S:ST M G B L bC (SB d p A bq C H) bq C H A.bq A.heap K z r F h N)(ha:au M a x.args)(ag:∀y∈x.args,0<=y/\y<z.av.length)(ar:x.args.length<=4)(t:Int)
 (ay:z.av.length=z.aV.length/\z.be.length=z.aV.length/\z.aV.length<=2000)(ah:0<=x.dst/\x.dst<z.aV.length)(ax:0<=x.bV/\x.bV<=z.be.length)(az:0<=z.pc/\z.pc<=100000)(ab:K.length<=100000)(av:A.heap.length<=1000000000)
 (aj:∀w∈z.be,w≠0->1000<=w/\ix w<A.heap.length):
 aN bY 145 [vp L 0,fv z r F h,xv x a j,vi t] B λ_ c=>vT M G B L d p (uG A K z x t) c:=by
 apply pU (L,0)
 simp -zeta only[aE,aD]
 intro q v
 have an:J B v:=((J.aC B).aM _).aM _
 have s1:q.size=B.size+1:=by simp[q]
 have s2:v.size=B.size+2:=by simp[v,s1]
 have Y:=K6.HB S.eA.new s1 s2
 obtain⟨I,t2⟩:=S.ext an
 clear_value v
 have aw:h.len=z.be.length:=by have:=S.ib.be.len;simp at this;omega
 have o:∀{G B z},ST M G B L bC (SB d p A bq C H) bq C H A.bq A.heap K z r F h N->D B L 7=some (O.v C):=λS=>S.eA.box.cy 7
 refine⟨C,o I,(DI (I.eA.heap.cells V)).mono ?_⟩
 rintro _ Q ⟨rfl,ac⟩
 obtain⟨n,w⟩:=I.ext ac
 have y:=Y.to w
 refine⟨w.gD Y,_,rfl,λaa c=>∃(b:Nat)(e:a9),aa=b/\ST M G c L bC (SB d p A bq C H) bq C H A.bq A.heap K e r F h N/\To G B G c/\K6 G c [q.size,B.size]/\b<=A.heap.length/\
  e.av=z.av/\e.aV=z.aV/\e.pc=z.pc/\uG A K z x t={A with heap:=lp A.heap b ⟨1,t,dg z x.args⟩,ak:=K++[a9.put {e with pc:=z.pc+1} x.dst (1000+b) 1]},?_,?_⟩
 ·have none:¬(x.bV≠0/\u z.be (x.bV -1)≠0)->∃(b:Nat)(e:a9),((eL A.heap:Nat):Int)=b/\ST M G Q L bC (SB d p A bq C H) bq C H A.bq A.heap K e r F h N/\To G B G Q/\K6 G Q [q.size,B.size]/\b<=A.heap.length/\
   e.av=z.av/\e.aV=z.aV/\e.pc=z.pc/\uG A K z x t={A with heap:=lp A.heap b ⟨1,t,dg z x.args⟩,ak:=K++[a9.put {e with pc:=z.pc+1} x.dst (1000+b) 1]}:=λZ=>
   ⟨_,z,rfl,n,t2.trans w,y,tI _,rfl,rfl,rfl,by rw[uG,ae Z]⟩
  refine⟨λP=>?_,λP=>none λU=>by simp at P;omega⟩
  simp at P
  have W:cO (x.bV -1)=x.bV -1:=aP V V
  rw[W]
  have g:0<=x.bV -1/\x.bV -1<z.be.length:=V
  have T:=(n.QG V).EF g.1 g.2
  refine⟨V,V,_,T,λl=>?_,λl=>none λU=>by simp at l;exact U.2 l⟩
  simp at l
  obtain⟨ad,ai⟩:=aj _ (il g.1 g.2) l
  refine⟨V,V,_,T,V,V,n.ib.be.P1 g.1 g.2,?_⟩
  intro R
  obtain⟨k,m⟩:=n.Dv g.1 g.2 0
  have af:ix (u z.be (x.bV -1))=(u z.be (x.bV -1) -1000).toNat:=rfl
  have X:cO (u z.be (x.bV -1) -1000)=((ix (u z.be (x.bV -1)):Nat):Int):=by rw[aP V V];omega
  refine⟨m.gD y,ix (u z.be (x.bV -1)),_,X,k,(t2.trans w).trans m,y.to m,V,rfl,rfl,rfl,?_⟩
  rw[uG,aq ⟨V,l⟩,lp,ae V,gC ad]
 ·rintro aa R ⟨b,e,rfl,k,m,Z,af,l,eo,ep,ec⟩
  have ao:J M R:=k.eA.cF
  have al:au R r z.av:=l▸k.IZ (by rw[l];omega)
  refine⟨C,o k,(pW (f:=z) al (ha.ext ao) ag V).mono ?_⟩
  rintro _ m5 ⟨ws,rfl,ow,ad⟩
  obtain⟨g,T⟩:=k.ext ad
  have B5:=Z.to T
  have am:(dg z x.args).length<=1000000000:=by simp[dg];omega
  have iw:au m5 ws (dg z x.args):=au.iC ow V
  refine⟨T.gD Z,ws,rfl,by rw[o g,o k],(J9 g.eA.heap g.eA.new af t iw V am g.eA.cF.size).mono ?_⟩
  rintro _ m6 ⟨ap,P,rfl,ai,c6⟩
  obtain⟨S6,U⟩:=g.jf c6 ai
  have B6:=B5.to U
  refine⟨U.gD B5,P,rfl,S6.eA.vO (i:=7) E,?_⟩
  intro m7
  obtain⟨S7,W⟩:=S6.nU 7 [.s P]
  have B7:=B6.to W
  have e3:cO (1000+(b:Int))=1000+(b:Int):=aP V V
  have e4:cO (z.pc+1)=z.pc+1:=aP V V
  rw[e3,e4]
  refine⟨W.gD B6,(rE (a:={A with heap:=lp A.heap b ⟨1,t,dg z x.args⟩}) S7 ab ah.1 (by rw[l];omega) (by rw[eo];omega) (1000+b)).mono ?_⟩
  rintro _ m8 ⟨S8,X⟩
  have B8:=B7.to X
  refine⟨X.gD B7,(jg (a:={A with heap:=lp A.heap b ⟨1,t,dg z x.args⟩}) S8 ab (z.pc+1)).mono ?_⟩
  rintro _ m9 ⟨S9,t9⟩
  refine⟨t9.gD B8,ap,bq,P,H,?_,((((m.trans T).trans U).trans W).trans X).trans t9⟩
  rw[ec]
  have e5:iR (1000+(b:Int))=1:=by rw[iR,aq V]
  have:=S9.eA
  rw[e5]at this
  exact this
def CQ:∀(a aV:List Int)(r:Int),eM aV (a++[r])=gU (eM aV a) r (u (eM aV a) r+1)
 |[],aV,r=>rfl
 |q::a,aV,r=>by rw[cN,eM,CQ a,eM]
def MC{l:List Int}{i:Int}(h:∀F∈l,0<=F/\F<=b)(d:0<=b):0<=u l i/\u l i<=b:=by
 rcases aX i.toNat l.length with a|a
 ·obtain⟨y,c⟩:=ag a;rw[Lm c];exact h y (ar c)
 ·rw[u,iH,bZ a];simp;omega
def AF:∀(c aV:List Int)(b:Int),0<=b->(∀F∈aV,0<=F/\F<=b)->∀F∈eM aV c,0<=F/\F<=b+c.length
 |[],aV,b,e,h,F,d=>by have:=h F d;simp;omega
 |r::c,aV,b,e,h,F,d=>by
  have:=AF c (gU aV r (u aV r+1)) (b+1) V (λq a=>by
   have:=MC (i:=r) h e;rcases rc a with a|a
   ·omega
   ·have:=h q a;omega) F d
  simp only[ba];omega
noncomputable def IL (A:St) (K:List a9) (z:a9) (x:Instr):St:=
 open Classical in
 if(aW A.heap (u z.av (u x.args 0))).aQ=1/\x.op=17 then
  {A with heap:=A.heap.set (ix (u z.av (u x.args 0))) ⟨-1,0,fJ (aW A.heap (u z.av (u x.args 0))).aI.length⟩,ak:=K++[{z with aV:=eM z.aV (x.args.drop 1),pc:=z.pc+1,be:=gU z.be (u x.args 0) (u z.av (u x.args 0))}]}
 else{A with heap:=apart A.heap (u z.av (u x.args 0)),ak:=K++[{z with aV:=eM z.aV (x.args.drop 1),pc:=z.pc+1}]}
def JE(b:Nat):lS [.i (0:Int)] b=(fJ b).map Ce.i:=by
 induction b with
 |zero=>rfl
 |succ b a=>
  have:lS [.i (0:Int)] (b+1)=.i 0::lS [.i (0:Int)] b:=by simp[lS,oW]
  rw[this,a];simp[fJ,oW]
def pu{B:I}(a:0<=b)(d:b<=1000000):aN bY 108 [vi b] B λv c=>v=O.v (.mk B.size 0 b.toNat b.toNat)/\c=B.push (.cells (br ((fJ b.toNat).map Ce.i)) aB):=by
 apply FT;refine⟨a,dY _,V,V,?_⟩;rw[JE];exact⟨rfl,rfl⟩
def PV{B:I}(b:Nat):iZ B (B.push (.cells (br ((fJ b).map Ce.i)) aB)) aB 1 (.mk B.size 0 b b) ((fJ b).map Ce.i):=iZ.new (J.aC B) aB 1 _ b (by simp[kY])
def FD(T:ST M G B L bC (SB d p A bq C H) bq C H A.bq A.heap K z r F h N)(ha:au M a x.args)(an:∀y∈x.args,0<=y/\y<z.av.length)(aI:1<=x.args.length/\x.args.length<=4)(aX:x.op=16\/x.op=17)
 (aS:z.av.length=z.aV.length/\z.be.length=z.aV.length/\z.aV.length<=2000)(aY:0<=z.pc/\z.pc<=100000)(al:K.length<=100000)(aL:A.heap.length<=1000000000)(aG:∀W∈z.aV,0<=W/\W<=999999)
 (ah:iX A.heap (u z.av (u x.args 0))){e:Nat->Int}(hI:fq A.heap e):
 aN bY 152 [vp L 0,fv z r F h,xv x a j] B λ_ c=>vT M G B L d p (IL A K z x) c:=by
 apply qF (L,0)
 simp -zeta only[aE,aD]
 intro m1 m2
 have aH:J B m2:=((J.aC B).aM _).aM _
 have s1:m1.size=B.size+1:=by simp[m1]
 have s2:m2.size=B.size+2:=by simp[m2,s1]
 have B2:=K6.HB T.eA.new s1 s2
 obtain⟨S2,t2⟩:=T.ext aH
 clear_value m2
 have a0:r.len=z.av.length:=by have:=T.ib.av.len;simp at this;omega
 have aU:F.len=z.aV.length:=by have:=T.ib.aV.len;simp at this;omega
 have aM:h.len=z.be.length:=by have:=T.ib.be.len;simp at this;omega
 have aJ:=ha.len
 have v:0<=u x.args 0/\u x.args 0<z.av.length:=an _ (il V V)
 have ga:∀{c},J M c->∀{b:Nat}{y},x.args[b]? =some y->D c a.F (a.off+Int.toNat (b:Int)*1)=some (vi y):=λhx b y hy=>by simpa using(ha.ext hx).u hy
 refine⟨V,V,u x.args 0,(ha.ext S2.eA.cF).EF V V,v.1,V,u z.av (u x.args 0),(S2.IZ V).EF v.1 v.2,?_⟩
 refine⟨λai c=>∃b:Nat,ai=b/\1<=b/\b<=x.args.length/\ST M G c L bC (SB d p A bq C H) bq C H A.bq A.heap K {z with aV:=eM z.aV ((x.args.take b).drop 1)} r F h N/\To G B G c/\K6 G c [m1.size,B.size],λai _=>((x.args.length:Int) -ai).toNat,⟨1,rfl,V,V,?_,t2,B2⟩,?_⟩
 ·have e1:(x.args.take 1).drop 1=[]:=E
  rw[e1];exact S2
 rintro ai m3 ⟨b,rfl,aO,aQ,I,t3,B3⟩
 have aF:∀W∈eM z.aV ((x.args.take b).drop 1),0<=W/\W<=1000010:=λW hq=>by
  have:=AF _ z.aV 999999 V aG W hq;have h3:((x.args.take b).drop 1).length<=4:=bF;omega
 refine dit (λh1=>?_) λh1=>?_
 ·obtain⟨y,hy⟩:=ag (l:=x.args) (k:=b) V
  have P:=an y (ar hy)
  have R:y<(eM z.aV ((x.args.take b).drop 1)).length:=by rw[sG];omega
  have hb:=MC (i:=y) aF V
  refine⟨V,V,y,ga I.eA.cF hy,V,V,y,ga I.eA.cF hy,P.1,V,_,(I.QX (by simp only[sG];omega)).EF P.1 R,P.1,V,I.ib.aV.P1 P.1 R,?_⟩
  intro g
  have S:cO (u (eM z.aV ((x.args.take b).drop 1)) y+1)=u (eM z.aV ((x.args.take b).drop 1)) y+1:=aP V V
  obtain⟨t,Q⟩:=I.xG P.1 R (u (eM z.aV ((x.args.take b).drop 1)) y+1)
  have U:g=aj m3 F.F (F.off+y.toNat*1) [.i (u (eM z.aV ((x.args.take b).drop 1)) y+1)]:=by simp only[g,S]
  clear_value g
  subst U
  refine⟨Q.gD B3,?_,?_⟩
  ·rw[jM (k:=b) (n:=x.args.length) V V]
   refine⟨b+1,rfl,V,V,?_,t3.trans Q,B3.to Q⟩
   have e4:(x.args.take (b+1)).drop 1=(x.args.take b).drop 1++[y]:=by
    rw[bK hy,List.drop_append_of_le_length bF]
   rw[e4,CQ]
   exact t
  ·rw[jM (k:=b) (n:=x.args.length) V V]
   show((x.args.length:Int) -((b+1:Nat):Int)).toNat<((x.args.length:Int) -(b:Int)).toNat
   omega
 ·have e1:(x.args.take b).drop 1=x.args.drop 1:=by rw[cE V]
  rw[e1]at I
  have a1:=gC ah.1
  obtain⟨ak,aZ⟩:=cq ah
  have af:=ax ak
  have aT:=I.eA.heap.len
  have e4:cO (z.pc+1)=z.pc+1:=aP V V
  have aR:=ah.1
  have aC:ix (u z.av (u x.args 0))=(u z.av (u x.args 0) -1000).toNat:=rfl
  have e5:cO (u z.av (u x.args 0) -1000)=u z.av (u x.args 0) -1000:=aP V V
  rw[e4,e5,<-aC]
  generalize hw:u z.av (u x.args 0)=w at*
  have gw:∀{G B q own' held'},ST M G B L bC (SB d p A bq C H) bq C H A.bq q K {z with aV:=own',be:=held'} r F h N->D B r.F (r.off+Int.toNat (u x.args 0)*1)=some (vi w):=λT=>by rw[<-hw];exact(T.IZ (by simp only[];omega)).EF v.1 v.2
  refine⟨v.1,V,w,gw I,(yL I.eA ah hI V).mono ?_⟩
  rintro _ g ⟨aw,rfl,hb,c4,aA,az⟩
  refine⟨(c4.mono λb S=>by omega:To G m3 G g).gD B3,aw,rfl,λap=>?_,λao=>?_⟩
  ·have ac:=hb.1 ap
   obtain⟨t,Q⟩:=I.jf (c4.mono λb S=>Or.inl S) (aA ap)
   have B4:=B3.to Q
   have g7:D g L 7=some (O.v C):=t.eA.box.cy 7
   refine⟨λaa=>?_,λaa=>?_⟩
   ·simp at aa
    obtain⟨f0,k0,k1,k2,kf,kr⟩:=t.eA.heap.cy ak
    have ay:=(hI.cell _ (ar ak)).fl
    have aK:=kf.len
    refine⟨C,g7,C,g7,V,V,f0,k2,(pu V V).mono ?_⟩
    rintro _ m5 ⟨rfl,rfl⟩
    have e6:Int.toNat (f0.len:Int)=(aW A.heap w).aI.length:=V
    rw[e6]
    have ab:J g (g.push (.cells (br ((fJ (aW A.heap w).aI.length).map Ce.i)) aB)):=J.push _ _
    have oz:=PV (B:=g) (aW A.heap w).aI.length
    obtain⟨P,R⟩:=t.ext ab
    have B5:=B4.to R
    have av:G g.size=0:=t.eA.new _ (ad _)
    generalize g.push (.cells (br ((fJ (aW A.heap w).aI.length).map Ce.i)) aB)=m5 at*
    obtain⟨am,c6⟩:=P.eA.heap.setCell P.eA.new af (-1) 0 (d:=.mk g.size 0 _ _) (au.iC oz (by rw[kY];omega)) (Rq.of t.eA.heap (λv=>ab.same _ (t.eA.heap.F v).2) (λ_=>oz) (λ_=>av) t.eA.cF.size)
    refine⟨R.gD B4,_,rfl,ab.dk g7,V,V,P.eA.heap.wr (o:=0) af bd,?_⟩
    intro m6
    obtain⟨U,X⟩:=P.jf (c6.mono λb S=>Or.inl S) am
    have B6:=B5.to X
    refine⟨X.gD B5,v.1,V,w,gw U,v.1,V,U.ib.be.P1 v.1 (by simp only[];omega),?_⟩
    intro m7
    obtain⟨Z,Y⟩:=U.Dv v.1 (by simp only[];omega) w
    have B7:=B6.to Y
    refine⟨Y.gD B6,(jg (a:={A with heap:=A.heap.set (ix w) ⟨-1,0,fJ (aW A.heap w).aI.length⟩}) Z al (z.pc+1)).mono ?_⟩
    rintro _ m8 ⟨S8,t8⟩
    refine⟨t8.gD B7,G,bq,C,H,?_,(((((t3.trans Q).trans R).trans X).trans Y).trans t8)⟩
    rw[IL,hw,aq ⟨ac,aa⟩]
    exact S8.eA
   ·simp at aa
    refine⟨C,g7,?_⟩
    intro m5
    have ab:J g m5:=(J.aC g).aM _
    obtain⟨P,R⟩:=t.ext ab
    have B5:=B4.to R
    clear_value m5
    refine⟨V,V,P.eA.heap.wr (o:=0) af bd,?_⟩
    intro m6
    obtain⟨am,c6⟩:=P.eA.heap.setCell P.eA.new af 0 0 (d:=.mk g.size 0 0 0) (b:=[]) ⟨rfl,E,E,E⟩ (λav=>absurd rfl av)
    obtain⟨U,X⟩:=P.jf (c6.mono λb S=>Or.inl S) am
    have B6:=B5.to X
    refine⟨X.gD B5,C,U.eA.box.cy 7,(vr (U.eA.heap.cells bF)).mono ?_⟩
    rintro _ m7 ⟨rfl,ay⟩
    obtain⟨Z,Y⟩:=U.ext ay
    have B7:=B6.to Y
    refine⟨Y.gD B6,_,rfl,Z.eA.vO (i:=7) E,?_⟩
    intro m8
    obtain⟨av,aK⟩:=Z.jf (dA.aC _ Z.eA.new) (Z.eA.heap.cut (rQ _ _))
    obtain⟨S8,t8⟩:=av.nU 7 [.s (C.cut 0 (jT (A.heap.set (ix w) jz) (A.heap.set (ix w) jz).length) 3)]
    have B8:=B7.to t8
    refine⟨t8.gD B7,(jg (a:={A with heap:=pY (A.heap.set (ix w) jz)}) S8 al (z.pc+1)).mono ?_⟩
    rintro _ m9 ⟨S9,t9⟩
    refine⟨t9.gD B8,G,bq,C.cut 0 (jT (A.heap.set (ix w) jz) (A.heap.set (ix w) jz).length) 3,H,?_,((((((t3.trans Q).trans R).trans X).trans Y).trans t8).trans t9)⟩
    rw[IL,hw,ae (λhh=>aa hh.2),Go.Proofs.YtakpkjhmbbfniaaGreat.apart,aq ac]
    exact S9.eA
  ·have ac:(aW A.heap w).aQ≠1:=λe=>by have:=hb.2 e;rw[ao]at this;simp at this
   obtain⟨t,Q⟩:=I.jf (c4.mono λb S=>Or.inl S) (az ao)
   have B4:=B3.to Q
   refine(jg (a:={A with heap:=j8 (fI A.heap w) (pQ (aW A.heap w).aI)}) t al (z.pc+1)).mono ?_
   rintro _ m5 ⟨P,R⟩
   refine⟨R.gD B4,G,bq,C,H,?_,(t3.trans Q).trans R⟩
   rw[IL,hw,ae (λhh=>ac hh.1),Go.Proofs.YtakpkjhmbbfniaaGreat.apart,ae ac]
   exact P.eA
end
end
section
variable{M d:I}{b e a:Nat}{f:Nat->Int}{i:O}{h:List bL}{w:Int}{c:bL}
def Ev(w:Int):Prop:=-9223372036854775808<=w/\w<=9223372036854775807
def Pr(h:List bL):Prop:=∀c∈h,∀w∈c.aI,Ev w
def rK(B:cD M b aB ((qI e f).map Ce.i))(h:a<e):D M b a=some (vi (f a)):=by
 rw[B.cy a,bW,sW h];rfl
def FV(B:cD M b aB ((qI e f).map Ce.i))(a:Nat)(v:Int):cD (aj M b a [.i v]) b aB ((qI e (λx=>if x=a then v else f x)).map Ce.i):=by
 have:=B.aj (m:=M) (o:=a) (r:=[.i v]);rw[xF,Pj]at this;exact this
def KV(B:cD M b aB ((qI e f).map Ce.i))(h:a<e):fu M b a 1:=B.fu (by simp[mw];omega)
def Mc(B:cD M b aB ((qI e f).map Ce.i))(h:e<=9223372036854775807):au M (.mk b 0 e e) (qI e f):=
 ⟨by simp[mw],ad _,h,λk x a=>⟨[.i x],rfl,λi c d=>by
  have g:k<e:=by have:=ax a;rwa[mw]at this
  rw[sW g]at a;simp at a;cases i with
  |zero=>simp at d;subst d;have:=rK B g;rw[a]at this;simpa[Ce.v]using this
  |succ i=>simp at d⟩⟩
def JA(M:I)(e:Nat):cD (M.push (.cells (br (lS [.i (0:Int)] e)) aB)) M.size aB ((qI e (λ_=>0)).map Ce.i):=by
 rw[JE,PQ];exact cD.push M _ _
def Qf(f:Nat)(b:List Value)(d:I)(l:List Int):Prop:=aN bY f b d λv a=>∃s,v=O.v s/\au a s l/\J d a
def Jo(j:cW d i h)(l:Ev w):dq bY 84 [O.v i,vi w] d (oK h w):=by
 apply DQ;refine(aU _ _ _ _).then λb n e c=>⟨b,rfl,λa=>je (Or.inl (e.1 a)) c,λa=>?_⟩;refine(gS (cW.ext c j) l).then λf o g m=>⟨f,rfl,fB ?_ (c.trans m)⟩;rw[g];exact⟨λh=>Or.inr h,λh=>h.resolve_left λk=>fb e a k⟩
def Eb{f:O}(K:cW d i h)(B:au d f c.aI)(L:∀w∈c.aI,Ev w):dq bY 55 [O.v i,.agg #[vi c.aQ,vi c.lA,O.v f]] d (mB h c):=by
 apply yM;simp -zeta only[aE,aD];intro r;have e:J d r:=(J.aC d).aM _;have T:r.size=d.size+1:=by simp[r]
 clear_value r;have G:=B.len;refine⟨λy=>bX (λa=>by have:=a.fl;simp at y;omega) e,λy=>?_⟩;have C:c.aI.length<=3:=by simp at y;omega
 have t:∀b∈[d.size],b<r.size:=bF;refine(aU _ _ _ _).aG (J.aC _) t λb S F j _=>⟨b,rfl,λz=>bX (λa=>nb F z ⟨a.lo,a.hi⟩) (e.trans j),λz=>?_⟩;have q:=yb F z;refine⟨λA=>?_,λA=>?_⟩
 ·have o:c.aQ<1:=by simpa using A
  refine⟨λp=>?_,λp=>bX (λa=>by simp at p;exact p (a.uH o).1) (e.trans j)⟩;have v:c.lA=0:=by simpa using p
  refine(kN (B.ext (e.trans j))).aG j t λH M x m _=>⟨H,rfl,λg=>?_,λg=>bX (λa=>fb x g (a.uH o).2.1) ((e.trans j).trans m)⟩;have D:=x.1 g;refine⟨λu=>je ⟨C,q.1,q.2,λ_=>⟨v,D,λs=>by simp at u;omega⟩,λs=>V⟩ ((e.trans j).trans m),λu=>fB ?_ ((e.trans j).trans m)⟩;have I:c.aQ=0:=by simp at u;omega
  constructor
  ·intro s;have:c.aI=[]:=by simp at s;exact List.length_eq_zero_iff.1 V
   exact⟨C,q.1,q.2,λ_=>⟨v,D,λ_=>this⟩,λs=>V⟩
  ·intro a;have:=(a.uH o).2.2 I;rw[this]at G;simp[G]
 ·have o:0<c.aQ:=by simp at A;omega
  refine eg (n:=c.aI.length) V (λD s=>J r s/\∀w∈c.aI.take D,oK h w) ⟨j,E⟩ ?_;rintro D M Q μ R ⟨m,H⟩ N
  refine dit (λp=>?_) λp=>?_
  ·obtain⟨w,u⟩:=ag (l:=c.aI) (k:=D) V;refine⟨V,V,w,by simpa using(B.ext (e.trans m)).u u,(Jo (cW.ext (e.trans m) K) (L w (ar u))).aG m t λx I s P v=>⟨x,rfl,λg=>bX (λa=>nb s g ((a.ov o).1 w (ar u))) (e.trans v),λg=>N V I ⟨v,bA u H (yb s g)⟩⟩⟩
  ·refine(aU _ _ _ _).aG m t λx I s P v=>⟨x,rfl,fB ?_ (e.trans v)⟩;rw[s];exact⟨λu=>⟨C,q.1,q.2,λg=>V,λ_=>⟨cJ V H,u⟩⟩,λa=>(a.ov o).2⟩
def KP{i:Nat}(b:h[i]? =some c)(a:Nat):dw (h.take (i+1)) a=dw (h.take i) a+dJ c.aI a:=by
 rw[bK b,sM];simp[dw]
def pA{l:List Int}{k:Nat}(b:l[k]? =some w)(a:Nat):dJ (l.take (k+1)) a=dJ (l.take k) a+(if w=1000+(a:Int)then 1 else 0):=by
 rw[bK b,mM];simp[dJ]
def zk:∀(h:List bL)(a:Nat),(∀c∈h,c.aI.length<=3)->dw h a<=3*h.length
 |[],a,_=>by simp[dw]
 |c::h,a,b=>by
  have f:=zk h a λd e=>b d (by simp[e]);have g:=jO c.aI a;have i:=b c E;simp only[dw,ba];omega
def Gb(b:∀c∈h,mB h c)(d:c∈h)(e:w∈c.aI):iX h w\/w<1000:=by
 by_cases i:0<c.aQ
 ·rcases((b c d).ov i).1 w e with a|a
  ·have:=a.2;exact Or.inr V
  ·exact Or.inl a
 ·have:=((b c d).uH V).2.1 w e;exact Or.inr V
def yE(C:cW d i h)(y:∀c∈h,mB h c)(U:Pr h)(ai:h.length<=1000000000):Qf 56 [O.v i] d (qI h.length (dw h)):=by
 apply DT;have hl:=C.len;have Q:Int.toNat (i.len:Int)=h.length:=V;rw[Q];refine⟨V,V,V,V,?_⟩;intro E;have x1:J d E:=(J.aC d).aM _;have M:cD E d.size aB ((qI h.length (λ_=>0)).map Ce.i):=JA d _;clear_value E;have T:∀e,∀c∈h.take e,c.aI.length<=3:=λe c W=>(y c (cw W)).fl;refine eg (n:=h.length) V (λe m=>J d m/\cD m d.size aB ((qI h.length (λa=>dw (h.take e) a)).map Ce.i)) ⟨x1,by simpa[dw]using M⟩ ?_;rintro e m2 ab μ hi ⟨L,s⟩ aa
 refine dit (λR=>?_) λR=>?_
 ·obtain⟨c,z⟩:=ag (l:=h) (k:=e) V;have A:=ar z;have af:=(y c A).fl;refine eg (n:=c.aI.length) V (λj m=>J d m/\cD m d.size aB ((qI h.length (λa=>dw (h.take e) a+dJ (c.aI.take j) a)).map Ce.i)) ⟨L,by simpa[dJ]using s⟩ ?_;rintro j Y ac ν hk ⟨q,r⟩ K;obtain⟨f,B,_,_,v⟩:=(cW.ext q C).u z;have ah:=B.len;refine⟨V,V,f,by simpa using v,dit (λS=>?_) λS=>?_⟩
  ·obtain⟨w,p⟩:=ag (l:=c.aI) (k:=j) V;have I:=ar p;have H:=U c A w I;refine⟨V,V,f,by simpa using v,V,V,w,by simpa using B.u p,(gS (cW.ext q C) H).then λb Z o m=>⟨b,rfl,λx=>?_,λx=>?_⟩⟩
   ·have D:=o.1 x;have G:=ax (cq D).1;have N:cO (w -1000)=(ix w:Nat):=by have:=D.1;have:=H.2;unfold ix;rw[aP V V];omega
    have P:Int.toNat ((ix w:Nat):Int)=ix w:=V;have t:=r.ext m;have q1:=zk (h.take e) (ix w) (T e);have q2:=jO (c.aI.take j) (ix w);have q3:=nQ (h.take e) (ix w);have q4:=gB (c.aI.take j) (ix w);have q5:(h.take e).length<=h.length:=bF;have q6:(c.aI.take j).length<=3:=bF;refine⟨V,V,f,by simpa using m.D v,V,V,w,by simpa using(B.ext m).u p,?_⟩;rw[N,P];simp only[O.fZ,O.jb,O.mN,bQ,dP];refine⟨V,V,_,rK t G,V,V,KV t G,?_⟩;rw[show cO (dw (h.take e) (ix w)+dJ (c.aI.take j) (ix w)+1)=dw (h.take e) (ix w)+dJ (c.aI.take j) (ix w)+1 from aP V V];refine K V _ ⟨(q.trans m).aj (ad _) _ _,?_⟩;have F:=FV t (ix w) (dw (h.take e) (ix w)+dJ (c.aI.take j) (ix w)+1);rw[eH (g:=λa=>dw (h.take e) a+dJ (c.aI.take (j+1)) a)]at F
    ·exact F
    ·intro b o;rw[pA p];by_cases u:b=ix w
     ·subst u;rw[aq rfl,aq (gC D.1).symm];omega
     ·rw[ae u,ae (λX=>u (by rw[X,jZ]))];omega
   ·refine K V Z ⟨q.trans m,?_⟩;have t:w<1000:=(Gb y A I).resolve_left (fb o x);rw[eH (g:=λa=>dw (h.take e) a+dJ (c.aI.take j) a)]
    ·exact r.ext m
    ·intro b o;rw[pA p,ae V];omega
  ·refine aa V Y ⟨q,?_⟩
   have m:c.aI.take j=c.aI:=cE V;rw[m]at r;rw[eH (g:=λa=>dw (h.take e) a+dJ c.aI a)]
   ·exact r
   ·intro b o;exact KP z b
 ·rw[cE V]at s;exact⟨_,rfl,Mc s V,L⟩
end
section
variable{mk g:Nat->Bool}{a b c:Nat}{h:List bL}{M i:I}{e:O}
def k8(mk:Nat->Bool):Nat->Nat
 |0=>0
 |c+1=>k8 mk c+(if mk c=true then 1 else 0)
def CS(mk:Nat->Bool):∀c,k8 mk c<=c
 |0=>ad _
 |c+1=>by have:=CS mk c;simp only[k8];split<;>omega
def Ic{mk:Nat->Bool}:∀{c:Nat},(k8 mk c=c<->∀i,i<c->mk i=true)
 |0=>by simp[k8]
 |c+1=>by
  have g:=CS mk c;have a:=Ic (mk:=mk) (c:=c);simp only[k8];constructor
  ·intro h i f;have b:mk c=true:=by by_cases e:mk c=true;exact e;rw[ae e]at h;omega
   rw[aq b]at h;rcases aX i c with d|d
   ·exact a.1 V i d
   ·have:i=c:=V;rw[this];exact b
  ·intro h;rw[aq (h c V),a.2 λi f=>h i V]
def Ie{mk a:Nat->Bool}:∀{c:Nat},(∀i,i<c->mk i=a i)->k8 mk c=k8 a c
 |0,_=>rfl
 |c+1,h=>by simp only[k8];rw[Ie λi b=>h i V,h c V]
def lz(mk:Nat->Bool)(a:Nat):Nat->Bool:=λx=>if x=a then true else mk x
def zn(mk:Nat->Bool)(a:Nat):lz mk a a=true:=aq rfl
def nT(h:b≠a):lz mk a b=mk b:=ae h
def zo(h:mk b=true):lz mk a b=true:=by unfold lz;split;rfl;exact h
def xg{mk:Nat->Bool}{a:Nat}(h:mk a=false):∀{c:Nat},a<c->k8 (lz mk a) c=k8 mk c+1
 |0,d=>absurd d (fy _)
 |c+1,d=>by
  simp only[k8];rcases aX a c with b|b
  ·rw[xg h b,nT V];omega
  ·have e:a=c:=V;subst e;rw[zn,aq rfl,h,ae E,Ie (a:=mk) λi f=>nT V]
def Kk(h:List bL)(mk:Nat->Bool):Prop:=
 ∃t:Nat->Nat,(∀j,mk j=true->t j<=k8 mk h.length)/\∀(i:Nat)(c:bL),h[i]? =some c->mk i=true->∀w∈c.aI,1000<=w->mk (ix w)=true/\t (ix w)<t i
def Mo(mk:Nat->Bool)(a:List Int):Prop:=∀w∈a,1000<=w->mk (ix w)=true
def Kk.set(v:Kk h mk){l:bL}(n:h[a]? =some l)(g:mk a=false)(t:Mo mk l.aI):Kk h (lz mk a):=by
 obtain⟨A,m,s⟩:=v;have u:=ax n;have r:=xg g u;refine⟨λx=>if x=a then k8 mk h.length+1 else A x,λy p=>?_,λk d b o w q e=>?_⟩
 ·simp only[r];split
  ·omega
  ·rename_i c;rw[nT c]at p;have:=m y p;omega
 ·by_cases i:k=a
  ·subst i;rw[n]at b;simp at b;subst b;have c:=t w q e;have j:ix w≠k:=λf=>by rw[f,g]at c;cases c
   simp only[aq,ae j];exact⟨zo c,by have:=m _ c;omega⟩
  ·rw[nT i]at o;obtain⟨c,z⟩:=s k d b o w q e;have j:ix w≠a:=λf=>by rw[f,g]at c;cases c
   simp only[ae i,ae j];exact⟨zo c,z⟩
def PH(n:Kk h mk)(m:∀a∈h,∀w∈a.aI,1000<=w->ix w<h.length)(k:∀(i:Nat)(a:bL),h[i]? =some a->mk i=true\/¬Mo mk a.aI):
 k8 mk h.length=h.length<->P3 h:=by
 rw[Ic]
 constructor
 ·intro g
  obtain⟨t,_,f⟩:=n
  exact⟨t,λi a b w d e=>(f i a b (g i (ax b)) w d e).2⟩
 ·rintro⟨j,o⟩
  have q:∀(c i:Nat),j i<c->i<h.length->mk i=true:=by
   intro c;induction c with
   |zero=>intro i g;omega
   |succ c p=>
    intro i g l;obtain⟨a,b⟩:=ag l;rcases k i a b with f|f
    ·exact f
    ·refine absurd (λw d e=>?_) f;exact p (ix w) (by have:=o i a b w d e;omega) (m a (ar b) w d e)
  exactλi g=>q (j i+1) i V g
def xc(c:Nat)(g:Nat->Bool):List Ce:=(List.range c).map λa=>Ce.t (g a)
def CO(c:Nat)(g:Nat->Bool):(xc c g).length=c:=by simp[xc]
def OH(B:cD M b qJ (xc c g))(h:a<c):D M b a=some (vb (g a)):=by
 rw[B.cy a];unfold xc;rw[bW,Ke h];rfl
def RD(B:cD M b qJ (xc c g))(a:Nat):cD (aj M b a [.t true]) b qJ (xc c (lz g a)):=by
 have j:=B.aj (m:=M) (o:=a) (r:=[.t true]);have e:iD (xc c g) a [.t true]=xc c (lz g a):=by
  apply fK;intro i;simp only[iD];by_cases k:i<c
  ·have f:∀d:Nat->Bool,(xc c d)[i]? =some (.t (d i)):=λd=>by unfold xc;rw[bW,Ke k];rfl
   rw[f];by_cases e:a=i
   ·subst e;rw[dC (by rw[CO];exact k),zn]
   ·rw[dO e,f,nT (λh=>e h.symm)]
  ·rw[bZ (by rw[gX,CO];omega),bZ (by rw[CO];omega)]
 rw[e]at j;exact j
def RC(M:I)(c:Nat):cD (M.push (.cells (br (lS [.t false] c)) qJ)) M.size qJ (xc c (λ_=>false)):=by
 have e:lS [.t false] c=xc c (λ_=>false):=by
  unfold lS xc;rw[YJ];simp
 rw[e];exact cD.push M _ _
def Dx{g:O}{d:List Int}(B:cD i b qJ (xc c mk))(o:au i g d)(s:∀w∈d,Ev w)(G:∀w∈d,1000<=w->ix w<c):
 dq bY 86 [O.v (.mk b 0 c c),O.v g] i (Mo mk d):=by
 apply xJ
 have L:=o.len
 have M:=o.gA
 refine eg (n:=d.length) V (λu a=>J i a/\Mo mk (d.take u)) ⟨J.aC _,λw s=>by simp at s⟩ ?_
 rintro u N I μ K ⟨f,p⟩ z
 refine dit (λD=>?_) λD=>?_
 ·obtain⟨w,h⟩:=ag (l:=d) (k:=u) V
  have t:=ar h
  have E:=s w t
  refine⟨V,V,w,by simpa using(o.ext f).u h,(dy _ _).then λH y x j=>⟨H,rfl,λr=>?_,λr=>?_⟩⟩
  ·have e:=x.1 r
   have F:=G w t e
   have A:cO (w -1000)=(ix w:Nat):=by have:=E.2;unfold ix;rw[aP V V];omega
   have C:Int.toNat ((ix w:Nat):Int)=ix w:=V
   refine⟨V,V,w,by simpa using(o.ext (f.trans j)).u h,?_⟩
   rw[A,C]
   simp only[O.fZ,O.jb,O.mN,bQ,dP]
   refine⟨V,V,mk (ix w),OH (B.ext (f.trans j)) F,λm=>?_,λm=>z V y ⟨f.trans j,?_⟩⟩
   ·exact bX (λa=>by rw[a w t e]at m;cases m) (f.trans j)
   ·rw[Mo,bK h]
    intro v a q
    rcases List.mem_append.1 a with a|a
    ·exact p v a q
    ·simp at a;subst a;simpa using m
  ·refine z V y ⟨f.trans j,?_⟩
   rw[Mo,bK h]
   intro v a q
   rcases List.mem_append.1 a with a|a
   ·exact p v a q
   ·simp at a;subst a;exact absurd q (fb x r)
 ·rw[cE V]at p
  exact je p f
def DM(Q:cW i e h)(hc:∀d∈h,mB h d)(aa:Pr h)(ae:h.length<=1000000000):dq bY 57 [O.v e] i (P3 h):=by
 apply yi;have hl:=Q.len;have en:Int.toNat (e.len:Int)=h.length:=V;rw[en];have S:∀d∈h,∀K∈d.aI,1000<=K->ix K<h.length:=λd hm K hw e=>by
  rcases Gb hc hm hw with q|q
  ·exact ax (cq q).1
  ·omega
 refine⟨V,V,V,V,?_⟩;intro I;have x1:J i I:=(J.aC i).aM _;have Z:cD I i.size qJ (xc h.length (λ_=>false)):=RC i _;clear_value I;have c0:k8 (λ_=>false) h.length=0:=by
  generalize h.length=c;induction c with
  |zero=>rfl
  |succ c a=>simp[k8,a]
 refine Pn (γ:=(Nat->Bool)×Bool) (λj U fx w=>fx=j.2/\U=(k8 j.1 h.length:Nat)/\J i w/\cD w i.size qJ (xc h.length j.1)/\Kk h j.1/\(fx=false->∀(f:Nat)(d:bL),h[f]? =some d->j.1 f=true\/¬Mo j.1 d.aI))
  (λj=>if j.2=true then h.length -k8 j.1 h.length+1 else 0) (λ_=>false,true) ⟨rfl,by rw[c0];rfl,x1,Z,⟨λ_=>0,E,E⟩,E⟩ ?_
 rintro⟨mk,fx⟩ U af m2 ab μ ⟨rfl,rfl,Y,L,D,M⟩ X
 simp only at L D M X⊢
 refine⟨λq=>?_,λq=>?_⟩
 ·refine⟨λW A f w=>∃(k:Nat)(a:Nat->Bool),f=k/\k<=h.length/\W=(k8 a h.length:Nat)/\J i w/\cD w i.size qJ (xc h.length a)/\Kk h a/\k8 mk h.length<=k8 a h.length/\(A=true->k8 mk h.length<k8 a h.length)/\
   (A=false->∀(f:Nat)(d:bL),f<k->h[f]? =some d->a f=true\/¬Mo a d.aI),λ_ _ f _=>((h.length:Int) -f).toNat,⟨0,mk,rfl,dZ _,rfl,Y,L,D,ad _,E,λ_ f d l=>absurd l (fy _)⟩,?_⟩
  rintro W A f m3 ⟨k,a,rfl,hk,rfl,x,p,y,T,H,C⟩;have ac:=CS a h.length;have rI:∀{P:Prop},k<h.length->(cO ((k:Int)+1)=((k+1:Nat):Int)->((h.length:Int) -((k+1:Nat):Int)).toNat<((h.length:Int) -(k:Int)).toNat->P)->P:=λR hP=>hP (jM R V) (AK R);refine dit (λh2=>?_) λh2=>?_
  ·have r:k<h.length:=V;obtain⟨d,u⟩:=ag r;have e2:Int.toNat (k:Int)=k:=V;simp only[O.fZ,O.jb,O.mN,bQ,dP,e2];refine⟨V,V,a k,OH p r,λF=>?_,λF=>?_⟩
   ·have z:a k=false:=by simpa using F
    obtain⟨g,hf,_,_,g3⟩:=(cW.ext x Q).u u;refine⟨V,V,g,g3,(Dx p hf (aa d (ar u)) (S d (ar u))).then λb m4 N B=>⟨b,rfl,λG=>?_,λG=>?_⟩⟩
    ·have l:=p.ext B;have m:=xg z r;refine⟨V,V,l.fu (by rw[CO];omega),?_⟩;refine rI r λt v=>?_;rw[t,show cO ((k8 a h.length:Nat)+1:Int)=((k8 (lz a k) h.length:Nat):Int)by rw[m,aP V V];omega];exact⟨⟨k+1,lz a k,rfl,V,rfl,(x.trans B).aj (ad _) _ _,RD l k,y.set u z (N.1 G),V,λ_=>V,λn=>by cases n⟩,v⟩
    ·refine rI r λt v=>?_;rw[t];refine⟨⟨k+1,a,rfl,V,rfl,x.trans B,p.ext B,y,T,H,λn m s hj l=>?_⟩,v⟩;rcases aX m k with o|o
     ·exact C n m s o l
     ·have:m=k:=V;subst this;rw[u]at l;simp at l;subst l;exact Or.inr (fb N G)
   ·have z:a k=true:=by simpa using F
    refine rI r λt v=>?_;rw[t];refine⟨⟨k+1,a,rfl,V,rfl,x,p,y,T,H,λn m s hj l=>?_⟩,v⟩;rcases aX m k with o|o
    ·exact C n m s o l
    ·have:m=k:=V;subst this;exact Or.inl z
  ·refine X (a,A) _ _ m3 ⟨rfl,rfl,x,p,y,λn m s l=>C n m s (by have:=ax l;omega) l⟩ ?_
   simp only[q,Up];split
   ·rename_i o;have:=H o;omega
   ·omega
 ·refine fB ?_ Y;rw[<-PH D S (M q)];simp;omega
def Ed(q:cW i e h)(G:Pr h)(Q:h.length<=1000000000):dq bY 29 [O.v e] i (Lb h):=by
 apply yO;have hl:=q.len;refine⟨λv=>v=i/\mr h,⟨λu=>?_,λu=>⟨rfl,λc d=>?_⟩⟩,?_⟩
 ·simp at u;rw[aP V V];obtain⟨c,d⟩:=ag (l:=h) (k:=h.length -1) V;obtain⟨g,F,s,_,_⟩:=q.u d;have j:Int.toNat ((e.len:Int) -1)=h.length -1:=V;rw[j];refine⟨V,V,c.aQ,s,λm=>bX (λp=>?_) (J.aC _),λm=>⟨rfl,λr o=>?_⟩⟩
  ·exact p.iy c d (by simpa using m)
  ·rw[d]at o;simp at o;subst o;simpa using m
 ·have:=ax d;simp at u;omega
 rintro Y ⟨rfl,X⟩;refine eg (n:=h.length) V (λj v=>J Y v/\∀c∈h.take j,mB h c) ⟨J.aC _,E⟩ ?_;rintro j m2 ab μ p ⟨t,M⟩ Z
 refine dit (λu=>?_) λu=>?_
 ·obtain⟨c,d⟩:=ag (l:=h) (k:=j) V;obtain⟨g,F,s,I,K⟩:=(cW.ext t q).u d;refine⟨V,V,c.aQ,by simpa using s,c.lA,by simpa using I,g,by simpa using K,(Eb (cW.ext t q) F (G c (ar d))).then λb H x z=>⟨b,rfl,λm=>bX (λp=>nb x m (p.cells c (ar d))) (t.trans z),λm=>Z V H ⟨t.trans z,bA d M (yb x m)⟩⟩⟩
 have D:=cJ V M;refine(yE (cW.ext t q) D G Q).mono ?_;rintro _ H ⟨aa,rfl,P,z⟩;have W:=P.len;rw[mw]at W;refine⟨aa,rfl,eg (n:=h.length) V (λj v=>J H v/\∀(a:Nat)(c:bL),a<j->h[a]? =some c->0<c.aQ->dw h a<=c.aQ) ⟨J.aC _,λa c w=>absurd w (fy _)⟩ ?_⟩;rintro j R ac ν ad ⟨A,N⟩ S;have y:=(t.trans z).trans A;refine dit (λm=>?_) λm=>?_
 ·obtain⟨c,d⟩:=ag (l:=h) (k:=j) V;obtain⟨g,F,s,I,K⟩:=(cW.ext y q).u d;have fx:(0<c.aQ->dw h j<=c.aQ)->∀(a:Nat)(r:bL),a<j+1->h[a]? =some r->0<r.aQ->dw h a<=r.aQ:=λU a r w o=>by
   rcases aX a j with L|L
   ·exact N a r L o
   ·have:a=j:=V;subst this;rw[d]at o;simp at o;subst o;exact U
  refine⟨V,V,c.aQ,by simpa using s,λB=>?_,λB=>S V R ⟨A,fx λC=>by simp at B;omega⟩⟩;have T:=(P.ext A).u (k:=j) (sW (f:=dw h) (show j<h.length by omega));refine⟨V,V,c.aQ,by simpa using s,V,V,dw h j,by simpa using T,λC=>bX (λp=>?_) y,λC=>S V R ⟨A,fx λ_=>by simp at C;omega⟩⟩;have:=p.dw j c d (by simpa using B);simp at C;omega
 ·refine(DM (cW.ext y q) D G Q).then λb r x o=>⟨b,rfl,fB ?_ (y.trans o)⟩;rw[x];exact⟨λw=>⟨X,D,λa c d e=>N a c (by have:=ax d;omega) d e,w⟩,λp=>p.JK⟩
end
section
variable{m:I}{a:O}{f:a9}
structure fA(m:I)(bq a fr:O)(s:St):Prop where
 bq:au m bq s.bq
 heap:cW m a s.heap
 ak:jy m fr s.ak
def fA.ext{m d:I}{bq a c:O}{s:St}(h:fA m bq a c s)(b:J m d):fA d bq a c s:=⟨h.bq.ext b,cW.ext b h.heap,jy.ext b h.ak⟩
def Pq(f:a9):Prop:=(∀w∈f.av,Ev w)/\(∀w∈f.aV,Ev w)/\(∀w∈f.be,Ev w)
structure Bd(s:St):Prop where
 bG:Ev s.bG
 heap:Pr s.heap
 ak:∀f∈s.ak,Pq f
 lh:s.heap.length<=10000000
 lf:s.ak.length<=10000000
 lr:∀f∈s.ak,f.av.length<=10000000/\f.aV.length<=10000000/\f.be.length<=10000000
def Pg(s:St)(bq a b:O):Value:=.agg #[vi s.cR,vi s.value,vi s.bG,vi s.dQ,O.v bq,O.v a,O.v b]
def BC{f:O}{a:List Int}(d:au m f a):dq bY 28 [O.v f] m (∀b∈a,gF b):=by
 apply wa;have u:=d.len;have v:=d.gA;refine eg (n:=a.length) V (λg c=>J m c/\∀b∈a.take g,gF b) ⟨J.aC _,E⟩ ?_;rintro g x I μ t ⟨b,i⟩ s
 refine dit (λp=>?_) λp=>?_
 ·obtain⟨w,e⟩:=ag (l:=a) (k:=g) V;exact⟨V,V,w,by simpa using(d.ext b).u e,(aU _ _ _ _).then λo r h j=>⟨o,rfl,λc=>bX (λq=>nb h c (q w (ar e))) (b.trans j),λc=>s V r ⟨b.trans j,bA e i (yb h c)⟩⟩⟩
 ·exact je (cJ V i) b
def OD(h:List bL)(w o:Int):Prop:=(gF w\/1000<=w)/\(0<=o/\o<=999999)/\(0<o->iX h w)
def Ef{B o ae:O}{h:List bL}(hh:cW m a h)(H:au m B f.av)(X:au m o f.aV)(ai:f.aV.length=f.av.length)(af:Pq f)(ac C ad:Int):
 dq bY 58 [O.v a,.agg #[vi ac,vi C,vi ad,O.v B,O.v o,O.v ae]] m (EB h f):=by
 apply yS
 simp -zeta only[aE,aD]
 intro d
 have s:J m d:=(J.aC m).aM _
 have s1:d.size=m.size+1:=by simp[d]
 clear_value d
 have z:∀C∈[m.size],C<d.size:=bF
 have al:=H.len
 have ak:=X.len
 have aj:=H.gA
 refine eg (n:=f.av.length) V (λb m'=>J d m'/\∀(j:Nat)(w o:Int),j<b->f.av[j]? =some w->f.aV[j]? =some o->OD h w o) ⟨J.aC _,λj w o U=>absurd U (fy _)⟩ ?_
 rintro b m2 R μ W ⟨Q,Y⟩ aa
 refine dit (λh1=>?_) λh1=>?_
 ·obtain⟨w,q⟩:=ag (l:=f.av) (k:=b) V
  obtain⟨u,G⟩:=ag (l:=f.aV) (k:=b) V
  have gw:∀{M:I},J d M->D M B.F (B.off+Int.toNat (b:Int)*1)=some (vi w):=λK=>by simpa using(H.ext (s.trans K)).u q
  have S:∀{M:I},J d M->D M o.F (o.off+Int.toNat (b:Int)*1)=some (vi u):=λK=>by simpa using(X.ext (s.trans K)).u G
  have fx:OD h w u->∀(j:Nat)(w o:Int),j<b+1->f.av[j]? =some w->f.aV[j]? =some o->OD h w o:=λc j w' N U A t=>by
   rcases aX j b with T|T
   ·exact Y j w' N T A t
   ·have:j=b:=V;subst this;rw[q]at A;rw[G]at t;simp at A t;subst A;subst t;exact c
  have L:¬OD h w u->¬EB h f:=λc W=>c (W.dh b w u q G)
  have jJ:∀{M:I},J d M->(gF w\/1000<=w)->(0:Int)<=(b:Int)/\(b:Int)<(o.len:Int)/\∃ab:Int,D M o.F (o.off+Int.toNat (b:Int)*1)=some (vi ab)/\
   aN bY 27 [vi ab,vi (0:Int),vi (999999:Int)] M λah r=>dV [m.size] M r/\∃P:Bool,ah=vb P/\
   ((!P)=true->∃e:Bool,vb false=.bool e/\(e=true<->EB h f)/\J m r)/\
   ((!P)=false->(0:Int)<=(b:Int)/\(b:Int)<(o.len:Int)/\∃p:Int,D r o.F (o.off+Int.toNat (b:Int)*1)=some (vi p)/\
   ((decide (p>(0:Int)))=true->aN bY 85 [O.v a,vi w] r λv g=>dV [m.size] r g/\∃i:Bool,v=vb i/\
    ((!i)=true->∃e:Bool,vb false=.bool e/\(e=true<->EB h f)/\J m g)/\((!i)=false->R (cO ((b:Int)+(1:Int))) g/\μ (cO ((b:Int)+(1:Int))) g<μ b m2))/\
   ((decide (p>(0:Int)))=false->R (cO ((b:Int)+(1:Int))) r/\μ (cO ((b:Int)+(1:Int))) r<μ b m2)):=λ{M} xM hi=>by
   refine⟨V,V,u,S xM,(aU _ _ _ _).aG xM z λE m3 v x3 e=>⟨E,rfl,λg=>bX (L λc=>nb v g c.2.1) (s.trans e),λg=>?_⟩⟩
   have Z:=yb v g
   refine⟨V,V,u,S e,λi=>?_,λi=>aa V _ ⟨e,fx ⟨hi,Z,λa=>by simp at i;omega⟩⟩⟩
   refine(gS (cW.ext (s.trans e) hh) (af.1 w (ar q))).aG e z λF m4 x x4 y=>⟨F,rfl,λp=>bX (L λc=>nb x p (c.2.2 (by simpa using i))) (s.trans y),λp=>aa V _ ⟨y,fx ⟨hi,Z,λ_=>yb x p⟩⟩⟩
  refine⟨V,V,w,gw Q,(aU _ _ _ _).aG Q z λE m3 v x3 e=>⟨E,rfl,λg=>?_,λg=>jJ e (Or.inl (yb v g))⟩⟩
  refine(dy _ _).aG e z λF m4 x x4 y=>⟨F,rfl,λi=>bX (L λc=>?_) (s.trans y),λi=>jJ y (Or.inr (yb x i))⟩
  rcases c.1 with p|p
  ·exact nb v g p
  ·exact nb x i p
 ·exact je ⟨λj w N q t=>Y j w N (by have:=ax q;omega) q t⟩ (s.trans Q)
def Cp{T p bq W:O}{o:cL}{s:St}(M:eX m T p o)(n:fA m bq a W s)(aj:Bd s){c:Nat}(L:s.ak[c]? =some f):
 dq bY 30 [.agg #[O.v T,O.v p],Pg s bq a W,vi c] m (HM o s.heap (lW s.ak c) f):=by
 apply wG
 simp -zeta only[aE,aD]
 intro w d
 have x2:J m d:=((J.aC m).aM _).aM _
 have s1:w.size=m.size+1:=by simp[w]
 have s2:d.size=m.size+2:=by simp[d,s1]
 clear_value d
 have aw:=n.ak.len
 have ay:=n.ak.gA
 have aB:=ax L
 have aK:=M.cB.len
 have aM:=M.cB.gA
 obtain⟨ap,ao,ah,hr,ho,he,g0,g1,g2,g3,g4,g5⟩:=(n.ext x2).ak.u L
 have ek:Int.toNat (c:Int)=c:=V
 rw[ek]
 refine⟨V,V,_,g0,_,g1,_,g2,ap,g3,ao,g4,ah,g5,?_⟩
 intro m3 q
 have x4:J d q:=((J.aC d).aM _).aj (ad _) _ _
 have s4:q.size=d.size+1:=by simp[q,m3,az]
 clear_value q
 have hl:∀C∈[d.size,w.size,m.size],C<q.size:=bF
 have Q:=x2.trans x4
 rw[aP V V]
 refine(aU _ _ _ _).aG (J.aC _) hl λb5 x Y A _=>⟨b5,rfl,λD=>bX (λb=>nb Y D ⟨b.eU.1,by have:=b.eU.2;omega⟩) (Q.trans A),λD=>?_⟩
 have al:=yb Y D
 have R:=Q.trans A
 obtain⟨y,hq⟩:=ag (l:=o.cB) (k:=f.eU.toNat) V
 have e:dF o f.eU=y:=by unfold dF;rw[hq];rfl
 obtain⟨pa,pl,pc,aH,aL,ab,k0,k1,k2,k3,k4⟩:=(M.ext R).cB.u hq
 have aI:=ab.len
 have aJ:=ab.gA
 refine⟨V,V,pa,k0,pl,k1,_,k2,_,k3,pc,k4,?_⟩
 intro m6 r
 have x7:J x r:=((J.aC x).aM _).aj (ad _) _ _
 have s7:r.size=x.size+1:=by simp[r,m6,az]
 have z5:=A.size
 clear_value r
 have N:∀C∈[x.size,d.size,w.size,m.size],C<r.size:=bF
 have S:=R.trans x7
 rw[aP V V]
 refine(aU _ _ _ _).aG (J.aC _) N λb8 m8 Z B _=>⟨b8,rfl,λE=>bX (λb=>nb Z E ⟨b.pc.1,by have:=b.pc.2;rw[e]at this;omega⟩) (S.trans B),λE=>?_⟩
 have am:=yb Z E
 have g:=S.trans B
 have aO:=hr.len
 have aC:=ho.len
 have av:=he.len
 refine⟨λF=>bX (λb=>by have:=b.lr;rw[e]at this;simp at F;omega) g,λF=>?_⟩
 have q1:(f.av.length:Int)=y.av:=by simp at F;omega
 refine⟨λG=>bX (λb=>by have:=b.lo;rw[e]at this;simp at G;omega) g,λG=>?_⟩
 have q2:(f.aV.length:Int)=y.av:=by simp at G;omega
 refine⟨λH=>bX (λb=>by have:=b.lh;rw[e]at this;simp at H;omega) g,λH=>?_⟩
 have q3:(f.be.length:Int)=y.av:=by simp at H;omega
 have ak:=aj.ak f (ar L)
 have ae:=((x4.trans A).trans x7).trans B
 refine(Ef (n.ext g).heap (hr.ext ae) (ho.ext ae) V ak _ _ _).aG B N λb9 m9 aa x9 aq=>⟨b9,rfl,λI=>bX (λb=>nb aa I b.av) (g.trans x9),λI=>?_⟩
 have an:=yb aa I
 have t:=g.trans x9
 have mk:(lW s.ak c=none->f.dst=0)->(∀p,lW s.ak c=some p->0<=f.dst/\f.dst<p.aV.length/\u p.aV f.dst=0)->HM o s.heap (lW s.ak c) f:=λha hb=>
  ⟨⟨al.1,V⟩,⟨am.1,by rw[e];omega⟩,by rw[e];exact q1,by rw[e];exact q2,by rw[e];exact q3,an,ha,hb⟩
 refine⟨λK=>fB ?_ t,λK=>?_⟩
 ·have h:c=0:=by simp at K;omega
  subst h
  refine⟨λi=>mk (λ_=>by simpa using i) (λp a=>by simp[lW]at a),λb=>by simpa using b.first rfl⟩
 ·have aA:c≠0:=by simp at K;omega
  obtain⟨j,rfl⟩:∃j,c=j+1:=⟨c -1,V⟩
  have ej:cO (((j+1:Nat):Int) -1)=(j:Int):=by rw[aP V V];omega
  have ai:Int.toNat (j:Int)=j:=V
  rw[ej,ai]
  obtain⟨h,hg⟩:=ag (l:=s.ak) (k:=j) V
  have v:lW s.ak (j+1)=some h:=hg
  obtain⟨r',o',e',aN,P,au,_,_,_,_,y4,_⟩:=(n.ext t).ak.u hg
  have aF:=P.len
  have aG:=P.gA
  refine⟨V,V,o',y4,?_⟩
  rw[aP V V]
  refine(aU _ _ _ _).aG aq N λaf aQ X z _=>⟨af,rfl,λi=>?_,λi=>bX (λb=>?_) (t.trans z)⟩
  ·have hd:=X.1 i
   obtain⟨ac,hv⟩:=ag (l:=h.aV) (k:=f.dst.toNat) V
   have U:u h.aV f.dst=ac:=Lm hv
   refine⟨V,V,o',z.D y4,V,V,ac,(P.ext z).u hv,fB ?_ (t.trans z)⟩
   refine⟨λh9=>mk (λhn=>by rw[v]at hn;cases hn) (λp a=>by rw[v]at a;simp at a;subst a;exact⟨hd.1,V,by rw[U];simpa using h9⟩),λb=>?_⟩
   have:=(b.next h v).2.2
   rw[U]at this;simpa using this
  ·have:=b.next h v
   exact fb X i ⟨this.1,V⟩
end
section
variable{a:List a9}{i:Nat}{f:a9}
def Ix(c:a[i]? =some f)(b:Nat):holds (a.take (i+1)) b=holds (a.take i) b+dJ f.be b:=by
 rw[bK c,dH,gT]
def KK(c:a[i]? =some f)(b:Nat):eu (a.take (i+1)) b=eu (a.take i) b+cz f.av f.aV b:=by
 rw[bK c,eW,jI]
def rj:∀{av aV:List Int}{a:Nat}{w o:Int},av[a]? =some w->aV[a]? =some o->∀b,cz (av.take (a+1)) (aV.take (a+1)) b=cz (av.take a) (aV.take a) b+(if w=1000+(b:Int)then o else 0)
 |[],_,_,_,_,h,_,_=>by simp at h
 |_::_,[],_,_,_,_,h,_=>by simp at h
 |r::f,p::e,0,w,o,c,d,b=>by simp at c d;subst c;subst d;simp[cz]
 |r::f,p::e,a+1,w,o,c,d,b=>by
  have:=rj (av:=f) (aV:=e) (a:=a) (by simpa using c) (by simpa using d) b;simp only[Kg,cz]at this⊢;omega
def Iw:∀{a:List a9}{n:Nat},(∀f∈a,f.be.length<=n)->∀b,holds a b<=a.length*n
 |[],n,_,b=>by simp[holds]
 |f::a,n,h,b=>by
  have c:=Iw (a:=a) λg d=>h g (by simp[d]);have e:=c b;have i:=jO f.be b;have j:=h f E;simp only[holds,ba];have:((a.length+1:Nat):Int)*n=a.length*n+n:=by push_cast;rw[V0];omega
  omega
def Dn:∀{av aV:List Int}{n:Int},0<=n->(∀o∈aV,0<=o/\o<=n)->∀a,0<=cz av aV a/\cz av aV a<=aV.length*n
 |[],aV,n,b,h,a=>by simp[cz];exact Int.mul_nonneg V b
 |_::_,[],n,b,h,a=>by simp[cz]
 |r::e,o::c,n,b,h,a=>by
  have f:=Dn (av:=e) (aV:=c) b (λx d=>h x (by simp[d])) a;have d:=h o E;have:((c.length+1:Nat):Int)*n=c.length*n+n:=by push_cast;rw[V0];omega
  simp only[cz,ba];split<;>omega
def HJ:∀{a:List a9}{n:Nat}{k:Int},0<=k->(∀f∈a,f.aV.length<=n/\∀o∈f.aV,0<=o/\o<=k)->∀b,0<=eu a b/\eu a b<=a.length*(n*k)
 |[],n,k,_,_,b=>by simp[eu]
 |f::a,n,k,c,h,b=>by
  have e:=HJ (a:=a) c (λg d=>h g (by simp[d])) b;obtain⟨j,d⟩:=h f E;have g:=Dn (av:=f.av) c d b;have i:(f.aV.length:Int)*k<=n*k:=Int.mul_le_mul_of_nonneg_right V c;have:((a.length+1:Nat):Int)*(n*k)=a.length*(n*k)+n*k:=by push_cast;rw[V0];omega
  simp only[eu,ba];omega
section
variable{m:I}{d p bq b c:O}{e:cL}{s:St}
def Fp(N:fA m bq b c s)(W:Bd s)(G:s.ak.length<=41):dq bY 31 [Pg s bq b c] m (Lc s.heap s.ak):=by
 apply zZ;simp -zeta only[aE,aD];intro o;have A:J m o:=(J.aC m).aM _;have s1:o.size=m.size+1:=by simp[o]
 clear_value o;have hl:=N.heap.len;have ay:=W.lh;have av:=N.ak.len;have en:Int.toNat (b.len:Int)=s.heap.length:=V;rw[en];refine⟨V,V,V,V,?_⟩;intro m2;have x2:J o m2:=(J.aC o).aM _;have B2:cD m2 o.size aB ((qI s.heap.length (λ_=>0)).map Ce.i):=JA o _;clear_value m2;have u:∀{T M':I},J o T->J T M'->dV [m.size] T M':=λU x=>x.de λB u=>U.lt (by simp at u;omega);have ah:=λf C=>(W.lr f C).2.2;refine eg (n:=s.ak.length) V (λi z=>J o z/\cD z o.size aB ((qI s.heap.length (λe=>holds (s.ak.take i) e)).map Ce.i)/\∀f∈s.ak.take i,∀w∈f.be,w=0\/(1000<=w/\ix w<s.heap.length)) ⟨x2,by simpa[holds]using B2,E⟩ ?_;rintro i m3 ao μ hi ⟨K,Q,Z⟩ an
 refine dit (λU=>?_) λU=>?_
 ·obtain⟨f,C⟩:=ag (l:=s.ak) (k:=i) V;have X:=ar C;have aw:=ah f X;have ai:(∃w∈f.be,¬(w=0\/(1000<=w/\ix w<s.heap.length)))->¬Lc s.heap s.ak:=λ⟨w,j,h⟩ y=>h (y.dg f X w j);refine eg (n:=f.be.length) V (λa z=>J o z/\cD z o.size aB ((qI s.heap.length (λe=>holds (s.ak.take i) e+dJ (f.be.take a) e)).map Ce.i)/\∀w∈f.be.take a,w=0\/(1000<=w/\ix w<s.heap.length)) ⟨K,by simpa[dJ]using Q,E⟩ ?_;rintro a q S ν y ⟨L,M,v⟩ H;obtain⟨aC,aA,t,_,_,he,_,_,_,_,_,g5⟩:=(N.ext (A.trans L)).ak.u C;have au:=he.len;refine⟨V,V,t,by simpa using g5,dit (λx=>?_) λx=>?_⟩
  ·obtain⟨w,j⟩:=ag (l:=f.be) (k:=a) V;have aa:=ar j;have am:=(W.ak f X).2.2 w aa;refine⟨V,V,t,by simpa using g5,V,V,w,by simpa using he.u j,λr=>?_,λr=>?_⟩
   ·have P:w≠0:=by simpa using r
    refine(dy _ _).mono ?_;rintro _ m5 ⟨b5,rfl,ac,x5⟩;have ab:=L.trans x5;refine⟨u L x5,b5,rfl,λp=>bX (ai ⟨w,aa,λh=>?_⟩) (A.trans ab),λp=>?_⟩
    ·rcases h with h|h
     ·exact P h
     ·exact nb ac p h.1
    have aj:=yb ac p;have ap:=am.2;have e1:cO (w -1000)=(ix w:Nat):=by unfold ix;rw[aP V V];omega
    have e2:Int.toNat ((ix w:Nat):Int)=ix w:=V;rw[e1,e2,show cO ((b.len:Int) -1)=(b.len:Int) -1 from aP V V];refine(aU _ _ _ _).mono ?_;rintro _ m6 ⟨b6,rfl,af,x6⟩;have ak:=ab.trans x6;refine⟨u ab x6,b6,rfl,λF=>bX (ai ⟨w,aa,λh=>?_⟩) (A.trans ak),λF=>?_⟩
    ·rcases h with h|h
     ·exact P h
     ·exact nb af F ⟨V,V⟩
    have az:=yb af F;have Y:ix w<s.heap.length:=V;have R:=M.ext (x5.trans x6);simp only[O.fZ,O.jb,O.mN,bQ,dP];have q1:=Iw (a:=s.ak.take i) (n:=10000000) (λal hg=>ah al (cw hg)) (ix w);have q2:=jO (f.be.take a) (ix w);have q3:=tK (s.ak.take i) (ix w);have q4:=gB (f.be.take a) (ix w);have q5:(s.ak.take i).length<=41:=bF;have q6:(f.be.take a).length<=10000000:=bF;refine⟨V,V,_,rK R Y,V,V,KV R Y,?_⟩;rw[show cO (holds (s.ak.take i) (ix w)+dJ (f.be.take a) (ix w)+1)=holds (s.ak.take i) (ix w)+dJ (f.be.take a) (ix w)+1 from aP V V];have B7:=FV R (ix w) (holds (s.ak.take i) (ix w)+dJ (f.be.take a) (ix w)+1);rw[eH (g:=λe=>holds (s.ak.take i) e+dJ (f.be.take (a+1)) e)]at B7
    ·refine⟨λB u=>bn _ _ _ _ (by simp at u;omega),H V _ ⟨ak.aj (ad _) _ _,B7,bA j v (Or.inr ⟨aj,Y⟩)⟩⟩
    ·intro B u;rw[pA j];by_cases t:B=ix w
     ·subst t;rw[aq rfl,aq (gC aj).symm];omega
     ·rw[ae t,ae (λal=>t (by rw[al,jZ]))];omega
   ·have P:w=0:=by simpa using r
    refine H V q ⟨L,?_,bA j v (Or.inl P)⟩;rw[eH (g:=λe=>holds (s.ak.take i) e+dJ (f.be.take a) e)]
    ·exact M
    ·intro B u;rw[pA j,ae V];omega
  ·have P:f.be.take a=f.be:=cE V;rw[P]at M v;refine an V q ⟨L,?_,bA C Z v⟩
   rw[eH (g:=λe=>holds (s.ak.take i) e+dJ f.be e)]
   ·exact M
   ·intro B u;exact Ix C B
 ·have P:s.ak.take i=s.ak:=cE V;rw[P]at Q Z;simp only[O.fZ,O.jb,O.mN,bQ,dP];refine eg (n:=s.heap.length) V (λa z=>z=m3/\∀(e:Nat)(j:bL),e<a->s.heap[e]? =some j->(j.aQ<0->holds s.ak e=1)/\(0<=j.aQ->holds s.ak e=0)) ⟨rfl,λe j ha=>absurd ha (fy _)⟩ ?_;rintro a q S ν y ⟨rfl,v⟩ H;refine⟨λx=>?_,λx=>?_⟩
  ·have aa:a<s.heap.length:=by first|omega|(simp at x;omega)
   obtain⟨j,t⟩:=ag aa;obtain⟨f,_,R,_,_⟩:=(N.ext (A.trans K)).heap.u t;have ek:Int.toNat (a:Int)=a:=V;rw[ek];have X:=rK Q aa;have fx:(j.aQ<0->holds s.ak a=1)/\(0<=j.aQ->holds s.ak a=0)->∀(e:Nat)(j:bL),e<a+1->s.heap[e]? =some j->(j.aQ<0->holds s.ak e=1)/\(0<=j.aQ->holds s.ak e=0):=λh e d ha G=>by
    rcases aX e a with Y|Y
    ·exact v e d Y G
    ·have:e=a:=V;subst this;rw[t]at G;simp at G;subst G;exact h
   have JV:(j.aQ<0->holds s.ak a=1)->(0:Int)<=(a:Int)/\(a:Int)<(b.len:Int)/\∃w:Int,D q b.F (b.off+a*3)=some (vi w)/\
    ((decide (w>=(0:Int)))=true->(0:Int)<=(a:Int)/\(a:Int)<(s.heap.length:Int)/\∃L:Int,D q o.size a=some (vi L)/\
    ((L !=(0:Int))=true->∃M:Bool,vb false=.bool M/\(M=true<->Lc s.heap s.ak)/\J m q)/\((L !=(0:Int))=false->S (cO ((a:Int)+1)) q/\ν (cO ((a:Int)+1)) q<ν a q))/\
    ((decide (w>=(0:Int)))=false->S (cO ((a:Int)+1)) q/\ν (cO ((a:Int)+1)) q<ν a q):=λh=>by
    refine⟨V,V,_,R,λr=>⟨V,V,_,X,λp=>bX (λy=>?_) (A.trans K),λp=>H V _ ⟨rfl,fx ⟨h,λ_=>by simpa using p⟩⟩⟩,λr=>H V _ ⟨rfl,fx ⟨h,λF=>by simp at r;omega⟩⟩⟩
    have:=y.kJ a j t (by simpa using r)
    simp at p;exact p this
   refine⟨V,V,_,R,λr=>⟨V,V,_,X,λp=>bX (λy=>?_) (A.trans K),λp=>JV λ_=>by simpa using p⟩,λr=>JV λF=>by simp at r;omega⟩;have:=y.ju a j t (by simpa using r);simp at p;exact p this
  ·have p:s.heap.length<=a:=by first|omega|(simp at x;omega)
   exact je ⟨Z,λe j t h=>(v e j (by have:=ax t;omega) t).1 h,λe j t h=>(v e j (by have:=ax t;omega) t).2 h⟩ (A.trans K)
end
end
section
def MD(a:Int):(a==(0:Int))=decide (a=0):=by by_cases h:a=0<;>simp[h]
def CM(a b:Int):(!((a==(0:Int))==(b==(0:Int))))=false<->(a=0<->b=0):=by
 rw[MD,MD];by_cases c:a=0<;>by_cases d:b=0<;>simp[c,d]
section
variable{m:I}{d p bq c b:O}{a:cL}{s:St}
structure P5(h:List bL)(fs:List a9):Prop where
 len:∀f∈fs,f.aV.length=f.av.length
 av:∀f∈fs,EB h f
def P5.aV{h:List bL}{a:List a9}(H:P5 h a){f:a9}(b:f∈a):∀o∈f.aV,0<=o/\o<=999999:=λo e=>by
 obtain⟨d,c⟩:=List.mem_iff_getElem?.1 e;obtain⟨w,g⟩:=ag (l:=f.av) (k:=d) (by have:=ax c;have:=H.len f b;omega);exact((H.av f b).dh d w o g c).2.1
def FG(z:fA m bq c b s)(E:Bd s)(hd:s.ak.length<=41)(H:P5 s.heap s.ak):Qf 60 [Pg s bq c b] m (qI s.heap.length (eu s.ak)):=by
 apply Ak;simp -zeta only[aE,aD];intro d;have p:J m d:=(J.aC m).aM _;have s1:d.size=m.size+1:=by simp[d]
 clear_value d;have hl:=z.heap.len;have aC:=E.lh;have ay:=z.ak.len;have en:Int.toNat (c.len:Int)=s.heap.length:=V;rw[en];refine⟨V,V,V,V,?_⟩;intro B;have x2:J d B:=(J.aC d).aM _;have B2:cD B d.size aB ((qI s.heap.length (λ_=>0)).map Ce.i):=JA d _;have s2:B.size=d.size+1:=by simp[B]
 clear_value B;refine eg (n:=s.ak.length) V (λi j=>J d j/\d.size<j.size/\cD j d.size aB ((qI s.heap.length (λe=>eu (s.ak.take i) e)).map Ce.i)) ⟨x2,V,by simpa[eu]using B2⟩ ?_;rintro i U ao μ hi ⟨C,z3,L⟩ am
 refine dit (λh1=>?_) λh1=>?_
 ·obtain⟨f,x⟩:=ag (l:=s.ak) (k:=i) V;have y:=ar x;have aF:=E.lr f y;obtain⟨af,K,v,hr,S,he,g0,g1,g2,g3,g4,g5⟩:=(z.ext (p.trans C)).ak.u x;have aJ:=hr.len;have aH:=S.len;have aA:=H.len f y;have ei:Int.toNat (i:Int)=i:=V;rw[ei];refine⟨V,V,_,g0,_,g1,_,g2,af,g3,K,g4,v,g5,?_⟩;intro m4 o;have x5:J U o:=((J.aC U).aM _).aj (ad _) _ _;have s5:o.size=U.size+1:=by simp[o,m4,az]
  clear_value o;have B5:=L.ext x5;have an:=C.trans x5;refine eg (n:=f.aV.length) V (λa j=>J d j/\o.size<=j.size/\(∀h,h<o.size->h≠d.size->j[h]? =o[h]?)/\cD j d.size aB ((qI s.heap.length (λe=>eu (s.ak.take i) e+cz (f.av.take a) (f.aV.take a) e)).map Ce.i)) ⟨an,ad _,λ_ _ _=>rfl,by simpa[cz]using B5⟩ ?_;rintro a I ap ν hk ⟨u,z6,Z,r⟩ ac;refine dit (λh2=>?_) λh2=>?_
  ·obtain⟨w,A⟩:=ag (l:=f.av) (k:=a) V;obtain⟨q,G⟩:=ag (l:=f.aV) (k:=a) V;have R:=(H.av f y).dh a w q A G;obtain⟨r',o',e',aI,aG,aw,_,_,_,_,y4,_⟩:=(z.ext (p.trans u)).ak.u x;have lb:∀{sl:O}{ab:List Int},au m sl ab->ab≠[]->sl.F<m.size:=λah F=>nv ah F;obtain⟨X,W,e0,ak,aj,_,_,_,_,w3,w4,_⟩:=z.ak.u x;have er:X=af:=by have:=(p.trans C).D w3;rw[g3]at this;exact(O.GD.1 (vz this)).symm
   have eo:W=K:=by have:=(p.trans C).D w4;rw[g4]at this;exact(O.GD.1 (vz this)).symm
   subst er;subst eo;have gq:D I W.F (W.off+Int.toNat (a:Int)*1)=some (vi q):=by simpa using(aj.ext (p.trans u)).u G
   have gw:D I X.F (X.off+Int.toNat (a:Int)*1)=some (vi w):=by simpa using(ak.ext (p.trans u)).u A
   refine⟨V,V,q,gq,λP=>?_,λP=>?_⟩
   ·have T:0<q:=by simpa using P
    have Q:=R.2.2 T;have aa:=ax (cq Q).1;have ai:=(E.ak f y).1 w (ar A);have M:cO (w -1000)=(ix w:Nat):=by have:=Q.1;have:=ai.2;unfold ix;rw[aP V V];omega
    have N:Int.toNat ((ix w:Nat):Int)=ix w:=V;refine⟨V,V,w,gw,V,V,w,gw,?_⟩;rw[M,N];simp only[O.fZ,O.jb,O.mN,bQ,dP];have q1:=HJ (a:=s.ak.take i) (n:=10000000) (k:=999999) V (λY t=>⟨(E.lr Y (cw t)).2.1,H.aV (cw t)⟩) (ix w);have q2:=Dn (av:=f.av.take a) (aV:=f.aV.take a) (n:=999999) V (λK S=>H.aV y K (cw S)) (ix w);have q5:(s.ak.take i).length<=41:=bF;have q6:(f.aV.take a).length<=10000000:=bF;have q7:=R.2.1;refine⟨V,V,_,rK r aa,V,V,q,by simpa using gq,V,V,KV r aa,?_⟩;rw[show cO (eu (s.ak.take i) (ix w)+cz (f.av.take a) (f.aV.take a) (ix w)+q)=eu (s.ak.take i) (ix w)+cz (f.av.take a) (f.aV.take a) (ix w)+q from aP V V];have Y:=FV r (ix w) (eu (s.ak.take i) (ix w)+cz (f.av.take a) (f.aV.take a) (ix w)+q);rw[eH (g:=λe=>eu (s.ak.take i) e+cz (f.av.take (a+1)) (f.aV.take (a+1)) e)]at Y
    ·refine⟨λh t=>bn _ _ _ _ (by simp at t;omega),ac V _ ⟨u.aj (ad _) _ _,by rw[az];exact z6,λh t F=>by rw[bn _ _ _ _ F];exact Z h t F,Y⟩⟩
    ·intro h t;rw[rj A G];by_cases v:h=ix w
     ·subst v;rw[aq rfl,aq (gC Q.1).symm];omega
     ·rw[ae v,ae (λal=>v (by rw[al,jZ]))];omega
   ·have T:q=0:=by have:=R.2.1.1;simp at P;omega
    refine ac V I ⟨u,z6,Z,?_⟩;rw[eH (g:=λe=>eu (s.ak.take i) e+cz (f.av.take a) (f.aV.take a) e)]
    ·exact r
    ·intro h t;rw[rj A G,T];split<;>omega
  ·have M:f.av.take a=f.av:=cE V;have N:f.aV.take a=f.aV:=cE V;rw[M,N]at r;refine am V I ⟨u,V,?_⟩
   rw[eH (g:=λe=>eu (s.ak.take i) e+cz f.av f.aV e)]
   ·exact r
   ·intro h t;exact KK x h
 ·have a:s.ak.take i=s.ak:=cE V;rw[a]at L;exact⟨_,rfl,Mc L V,p.trans C⟩
def zU(l:fA m bq c b s)(j:Bd s)(g:s.ak.length<=41)(H:P5 s.heap s.ak)(i:∀a∈s.heap,mB s.heap a):
 dq bY 32 [Pg s bq c b] m (∀(e:Nat)(a:bL),s.heap[e]? =some a->0<a.aQ->a.aQ=dw s.heap e+eu s.ak e):=by
 apply uX
 simp -zeta only[aE,aD]
 intro o
 have w:J m o:=(J.aC m).aM _
 have s1:o.size=m.size+1:=by simp[o]
 clear_value o
 have T:=l.heap.len
 have U:=j.lh
 refine(yE (l.ext w).heap i j.heap V).mono ?_
 rintro _ W ⟨Q,rfl,E,p⟩
 have z2:=p.size
 refine⟨p.de bF,Q,rfl,(FG (l.ext (w.trans p)) j g H).mono ?_⟩
 rintro _ O ⟨P,rfl,C,x⟩
 have M:=E.len
 have L:=C.len
 rw[mw]at M L
 have q:=(w.trans p).trans x
 refine⟨x.de bF,P,rfl,?_⟩
 refine eg (n:=s.heap.length) V (λf N=>N=O/\∀(e:Nat)(a:bL),e<f->s.heap[e]? =some a->0<a.aQ->a.aQ=dw s.heap e+eu s.ak e) ⟨rfl,λe a A=>absurd A (fy _)⟩ ?_
 rintro f X R μ B ⟨rfl,D⟩ F
 refine dit (λI=>?_) λI=>?_
 ·have u:f<s.heap.length:=V
  obtain⟨a,t⟩:=ag u
  obtain⟨S,_,y,_,_⟩:=(l.ext q).heap.u t
  have G:Int.toNat (f:Int)=f:=V
  rw[G]
  have fx:(0<a.aQ->a.aQ=dw s.heap f+eu s.ak f)->∀(e:Nat)(a:bL),e<f+1->s.heap[e]? =some a->0<a.aQ->a.aQ=dw s.heap e+eu s.ak e:=λv e d A g=>by
   rcases aX e f with z|z
   ·exact D e d z g
   ·have:e=f:=V;subst this;rw[t]at g;simp at g;subst g;exact v
  have Y:=zk s.heap f λa K=>(i a K).fl
  have Z:=nQ s.heap f
  have q3:=HJ (a:=s.ak) (n:=10000000) (k:=999999) V (λr h=>⟨(j.lr r h).2.1,H.aV h⟩) f
  refine⟨V,V,_,y,λr=>?_,λr=>F V _ ⟨rfl,fx λh=>by simp at r;omega⟩⟩
  refine⟨V,V,_,y,V,V,_,(E.ext x).u (sW u),V,V,_,C.u (sW u),?_⟩
  rw[show cO (dw s.heap f+eu s.ak f)=dw s.heap f+eu s.ak f from aP V V]
  refine⟨λh=>bX (λB=>?_) q,λh=>F V _ ⟨rfl,fx λ_=>by simpa using h⟩⟩
  have:=B f a t (by simpa using r)
  simp at h;exact h this
 ·exact je (λe a i v=>D e a (by have:=ax i;omega) i v) q
def Ct(ah:eX m d p a)(z:fA m bq c b s)(H:Bd s):dq bY 14 [.agg #[O.v d,O.v p],Pg s bq c b] m (cA a s):=by
 apply wK;simp -zeta only[aE,aD];intro K q;have r:J m q:=((J.aC m).aM _).aM _;have s1:K.size=m.size+1:=by simp[K]
 have s2:q.size=m.size+2:=by simp[q,s1]
 clear_value q;have o:∀ai∈[K.size,m.size],ai<q.size:=bF;have an:=z.ak.len;have h:∀{N:I},J q N->¬Kl a s->∃t:Bool,vb false=.bool t/\(t=true<->cA a s)/\J m N:=λZ hn=>bX (λe=>hn (Lp e)) (r.trans Z);refine(rG (ah.ext r)).aG (J.aC _) o λb3 m3 ab x3 _=>⟨b3,rfl,λP=>h x3 λe=>nb ab P e.fP,λP=>?_⟩;have hi:=yb ab P;refine(aU _ _ _ _).aG x3 o λb4 m4 ac aA x4=>⟨b4,rfl,λQ=>h x4 λe=>nb ac Q e.cR,λQ=>?_⟩;have aq:=yb ac Q;have ae:(s.ak=[])<->((b.len:Int)=0):=by rw[an];simp
 refine⟨λR=>h x4 λe=>?_,λR=>?_⟩
 ·have:=e.done;rw[ae,<-CM]at this;rw[this]at R;cases R
 have am:s.cR=0<->s.ak=[]:=by rw[ae];exact(CM _ _).1 R
 refine⟨λN=>J q N/\gF s.value/\(s.value≠0->s.cR=0)/\(0<=s.dQ/\s.dQ<=40)/\(0<=s.bG/\s.bG<=s.dQ),?_,?_⟩
 ·refine(aU _ _ _ _).aG x4 o λx m5 w C y=>⟨x,rfl,λu=>h y λe=>nb w u e.value,λu=>?_⟩;have X:=yb w u;have tail:(s.value≠0->s.cR=0)->aN bY 27 [vi s.dQ,vi (0:Int),vi (40:Int)] m5 λA f=>dV [K.size,m.size] m5 f/\∃i:Bool,A=vb i/\
   ((!i)=true->∃t:Bool,vb false=.bool t/\(t=true<->cA a s)/\J m f)/\((!i)=false->aN bY 27 [vi s.bG,vi (0:Int),vi s.dQ] f λv g=>
   dV [K.size,m.size] f g/\∃j:Bool,v=vb j/\((!j)=true->∃t:Bool,vb false=.bool t/\(t=true<->cA a s)/\J m g)/\
   ((!j)=false->J q g/\gF s.value/\(s.value≠0->s.cR=0)/\(0<=s.dQ/\s.dQ<=40)/\(0<=s.bG/\s.bG<=s.dQ))):=λY=>
   (aU _ _ _ _).aG y o λT m6 E au B=>⟨T,rfl,λg=>h B λe=>nb E g e.dQ,λg=>
    (aU _ _ _ _).aG B o λU m7 F av L=>⟨U,rfl,λD=>h L λe=>nb F D e.bG,λD=>⟨L,X,Y,yb E g,yb F D⟩⟩⟩
  refine⟨λv=>⟨λg=>h y λe=>?_,λg=>tail λ_=>by simpa using g⟩,λv=>tail λg=>absurd (by simpa using v) g⟩;have:=e.rR (by simpa using v);simp at g;exact g this
 ·rintro m5 ⟨y,X,Y,ao,ak⟩;rw[aP V V];refine⟨λu=>h y λe=>by have:=e.ln;simp at u;omega,λu=>?_⟩;have al:(s.ak.length:Int)<=s.bG+1:=by simp at u;omega
  have ad:s.ak.length<=41:=V;refine(BC (z.ext (r.trans y)).bq).aG y o λT m6 E au B=>⟨T,rfl,λv=>h B λe=>nb E v e.bq,λv=>?_⟩;have ap:=yb E v;refine(Ed (z.ext (r.trans B)).heap H.heap (by have:=H.lh;omega)).aG B o λU m7 F av L=>⟨U,rfl,λg=>h L λe=>nb F g e.heap,λg=>?_⟩;have af:=yb F g;refine eg (n:=s.ak.length) V (λA m'=>J q m'/\∀(j:Nat)(f:a9),j<A->s.ak[j]? =some f->HM a s.heap (lW s.ak j) f) ⟨L,λj f x=>absurd x (fy _)⟩ ?_;rintro A m8 ay μ e ⟨M,hq⟩ ar
  refine dit (λD=>?_) λD=>?_
  ·obtain⟨f,i⟩:=ag (l:=s.ak) (k:=A) V;refine(Cp (ah.ext (r.trans M)) (z.ext (r.trans M)) H i).aG M o λW m9 G aw C=>⟨W,rfl,λw=>h C λe=>nb G w (e.ak A f i),λw=>ar V _ ⟨C,λj aj x S=>?_⟩⟩;rcases aX j A with aa|aa
   ·exact hq j aj aa S
   ·have:j=A:=V;subst this;rw[i]at S;simp at S;subst S;exact yb G w
  ·have S:∀(j:Nat)(f:a9),s.ak[j]? =some f->HM a s.heap (lW s.ak j) f:=λj f i=>hq j f (by have:=ax i;omega) i;have HF:P5 s.heap s.ak:=⟨λf i=>by
    obtain⟨j,x⟩:=tR i;have P:=(S j f x).lr;have Q:=(S j f x).lo;omega,λf i=>let⟨j,x⟩:=tR i;(S j f x).av⟩
   refine(Fp (z.ext (r.trans M)) H ad).aG M o λW m9 G aw C=>⟨W,rfl,λw=>?_,λw=>h C λe=>fb G w e.be⟩;refine(zU (z.ext (r.trans C)) H ad HF af.cells).aG C o λx az aa aB aj=>⟨x,rfl,fB ?_ (r.trans aj)⟩;rw[aa];exact⟨λZ=>Jw ⟨hi,aq,am,X,Y,ao,ak,al,ap,af,S,G.1 w,Z⟩,λe=>(Lp e).NS⟩
end
end
end Go.Proofs.YtakpkjhmbbfniaaGreat
