/- Part of a proof, joined by a program. -/
import Derived.Test.YtgnjacfobdjeeaaGreatP11
set_option linter.unusedVariables false
set_option linter.unusedSimpArgs false
set_option linter.defProp false
set_option linter.constructorNameAsVariable false
set_option maxHeartbeats 8000000
set_option maxRecDepth 100000
namespace Go.Proofs.YtgnjacfobdjeeaaGreat
open Go.Vc
section
variable{a:Nat}{c:bQ}{b:List Int}{x:O}{K:O->J->Prop}{i:Int}
def KT(b r:List Ce)(o:Nat)(c:Ce)(h:b.length<=o):(b++r).set o c=b++r.set (o -b.length) c:=by
 rw[VW _ _ h]
def kQ:∀(a b r:List Ce)(o:Nat),b.length<=o->iK (b++r) o a=b++iK r (o -b.length) a
 |[],b,r,o,_=>rfl
 |c::a,b,r,o,h=>by
  simp only[iK];rw[KT _ _ _ _ h,kQ a b _ (o+1) V];congr 2;omega
def Cw:∀(a b r:List Ce)(o:Nat),o+a.length<=b.length->iK (b++r) o a=iK b o a++r
 |[],b,r,o,_=>rfl
 |c::a,b,r,o,h=>by
  simp only[aZ]at h;simp only[iK];rw[Kz _ _ V,Cw a _ _ (o+1) bR]
def LO{f:Nat}:∀(b:List (List Ce))(a:Nat)(e:List Ce)(o:Nat)(d:List Ce),(∀c∈b,c.length=f)->b[a]? =some e->o+d.length<=f->iK b.flatten (a*f+o) d=(b.set a (iK e o d)).flatten
 |[],a,e,o,d,_,h,_=>by simp at h
 |x::b,0,e,o,d,g,h,j=>by
  simp at h;subst h;have i:=g x aX;rw[iU,OZ,cO,Cw _ _ _ _ V,fj,iU]
 |x::b,a+1,e,o,d,g,h,j=>by
  have i:=g x aX;rw[iU,kQ _ _ _ _ (by rw[i,gq];omega),fO,iU];have k:(a+1)*f+o -x.length=a*f+o:=by rw[i,gq];omega
  rw[k,LO b a e o d (λc l=>g c (ai _ l)) (by simpa using h) j]
def _root_.Go.Vc.gH.set{α:Type}{f:Nat}{R:List Ce->α->Prop}{g:List (List Ce)}{b:List α}(h:gH f R g b)(a:Nat){cs:List Ce}{x:α}(m:cs.length=f)(n:R cs x):gH f R (g.set a cs) (b.set a x):=by
 refine⟨by simp[h.len],λc d=>?_,λl c y d e=>?_⟩
 ·rcases dE d with d|d
  ·exact h.size c d
  ·rw[d];exact m
 ·by_cases k:l=a
  ·subst k;have i:=aD d;have j:=aD e;simp at i j;rw[eA i]at d;rw[eA j]at e;simp at d e;subst d;subst e;exact n
  ·rw[fK (λi=>k i.symm)]at d e;exact h.dz l c y d e
def _root_.Go.Vc.gH.take{α:Type}{f:Nat}{R:List Ce->α->Prop}{d:List (List Ce)}{b:List α}(h:gH f R d b)(n:Nat):gH f R (d.take n) (b.take n):=by
 refine⟨by simp[h.len],λc a=>h.size c (jL a),λj c y a e=>?_⟩;have g:=aD a;simp at g;rw[dP V]at a e;exact h.dz j c y a e
def El{b:Nat}:∀(a:List (List Ce))(n:Nat),(∀c∈a,c.length=b)->a.flatten.take (n*b)=(a.take n).flatten
 |[],n,_=>aJ
 |x::a,0,_=>aJ
 |x::a,n+1,h=>by
  have d:=h x aX;rw[iU,ZY,nl (by rw[d,gq];omega),XI,iU];have e:(n+1)*b -x.length=n*b:=by rw[d,gq];omega
  rw[e,El a n λc f=>h c (ai _ f)]
section
variable{N:Nat}{e:Nat->Nat}{m:J}{d:O}{h:List bQ}
def dH.len(c:dH N e m d h):d.len=h.length:=by
 obtain⟨f,b,a,_⟩:=c;have:=b.len;rw[df a.size,a.len]at this;omega
def dH.bV(t:dH N e m d h)(b:h[a]? =some c):∃f,af m d.E (d.off+a*3)=some (vi c.aS)/\af m d.E (d.off+a*3+1)=some (vi c.kd)/\af m d.E (d.off+a*3+2)=some (O.v f)/\aq m f c.aR/\FN N e m f c.aR:=by
 obtain⟨o,q,g,_⟩:=t;obtain⟨n,j⟩:=ag (l:=o) (k:=a) (by rw[g.len];exact aD b);obtain⟨f,rfl,s,p⟩:=g.dz a n c j b;have r:=λi c b=>q.iv (a*3+i) c (iy g.size j b);exact⟨f,r 0 (.i c.aS) rfl,r 1 (.i c.kd) rfl,r 2 (.s f) rfl,s,p⟩
def dH.cells(j:dH N e m d h)(v:h.length<=9223372036854775807):fN m d h:=by
 have t:=j.len;obtain⟨p,f,a,_⟩:=j;refine⟨t,f.le,V,λb x n=>?_⟩;obtain⟨o,g⟩:=ag (l:=p) (k:=b) (by rw[a.len];exact aD n);obtain⟨q,rfl,s,u⟩:=a.dz b o x g n;refine⟨_,⟨q,rfl,s⟩,λi c r=>?_⟩;have:=f.iv (b*3+i) c (iy a.size g r);rwa[<-dQ]at this
def dH.wr(g:dH N e m d h){a o n:Nat}(f:a<h.length)(j:o+n<=3):dZ m d.E (d.off+a*3+o) n:=by
 obtain⟨i,c,b,_⟩:=g;rw[dQ];exact c.wr (by rw[df b.size,b.len];have:(a+1)*3<=h.length*3:=dp _ f;omega)
def dH.E(c:dH N e m d h){a:Nat}(i:a<h.length):e d.E=3/\d.E<m.size:=by
 have j:=c.len;obtain⟨f,b,g,_⟩:=c;have:=b.le;have:=b.E V;exact⟨this.2,this.1⟩
def Qx(N:Nat)(e:Nat->Nat)(m:J)(d:O)(h:List bQ)(f:O)(b:List Int):Prop:=
 b≠[]->(e f.E=0/\N<=f.E/\FB m f b)/\∀(i:Nat)(g:O),i<h.length->af m d.E (d.off+i*3+2)=some (O.v g)->g.len≠0->g.E≠f.E
def FB.gQ{d:J}{f:O}(h:ij d m aI 1 f (b.map Ce.i))(g:b≠[]):d.size<=f.E/\FB m f b:=by
 rcases h.D with e|⟨i,c,tail,e,h2,h3,_,_⟩
 ·have a:=h.len;rw[e,dL,O.ME,OZ]at a;exact absurd (List.length_eq_zero_iff.1 a) g
 ·rw[e];exact⟨h2,c,tail,rfl,h3⟩
def Qx.of{a:J}{w:Nat->Nat}{f:O}(q:dH N w a d h)(s:0<h.length->m[d.E]? =a[d.E]?)(u:b≠[]->ij a m aI 1 f (b.map Ce.i))(l:b≠[]->e f.E=0)(A:N<=a.size):Qx N e m d h f b:=λg=>by
 obtain⟨z,n⟩:=FB.gQ (u g) g;refine⟨⟨l g,V,n⟩,λi x r j p=>?_⟩;obtain⟨c,o⟩:=ag r;obtain⟨y,_,_,v,kf,_⟩:=q.bV o;rw[aM (s V),v]at j;have:=O.Qu.1 (Q2 j);subst this;have t:c.aR≠[]:=λk=>by have:=kf.len;rw[k]at this;simp at this;exact p this
 have:=iB kf t;omega
def dH.put(M:dH N e m d h)(aa:∀g,m.size<=g->e g=0){o:Nat}{q:bQ}(J:h[a]? =some c){new:List Ce}(ho:o+new.length<=3)
 (X:∀s,aq m s c.aR->FN N e m s c.aR->∃f,iK [.i c.aS,.i c.kd,.s s] o new=[.i q.aS,.i q.kd,.s f]/\aq m f q.aR/\FN N e m f q.aR/\(f=s\/Qx N e m d h f q.aR)):
 dH N e (ah m d.E (d.off+a*3+o) new) d (h.set a q)/\eC (λk=>k=3) e m e (ah m d.E (d.off+a*3+o) new):=by
 have C:=aD J
 have W:=M.E C
 have K:eC (λk=>k=3) e m e (ah m d.E (d.off+a*3+o) new):=eC.ah aa W.1 _ _
 obtain⟨w,F,p,G⟩:=M
 obtain⟨T,y⟩:=ag (l:=w) (k:=a) (by rw[p.len];exact C)
 obtain⟨s,rfl,Y,U⟩:=p.dz a T c y J
 obtain⟨f,E,L,V,hd⟩:=X s Y U
 have R:∀(j:Nat)(r:List Ce)(g:O),w[j]? =some r->r[2]? =some (.s g)->j≠a->f.len≠0->g.len≠0->f.E≠g.E:=λj r g b I Z t u=>by
  rcases hd with rfl|hd
  ·exact G a j _ r f g y b rfl I (λn=>Z n.symm) t u
  ·have v:q.aR≠[]:=λn=>by have:=L.len;rw[n]at this;simp at this;exact t this
   refine km ((hd v).2 j g (by rw[<-p.len];exact aD b) ?_ u);have:=F.iv (j*3+2) _ (iy p.size b I);rwa[<-dQ]at this
 refine⟨⟨w.set a (iK [.i c.aS,.i c.kd,.s s] o new),?_,?_,?_⟩,K⟩
 ·rw[<-LO w a _ o new p.size y ho,dQ]
  exact F.set (by rw[df p.size,p.len];have:(a+1)*3<=h.length*3:=dp _ C;omega)
 ·rw[E]
  exact(p.set a rfl ⟨f,rfl,L,V⟩).mono (Hh.gC K bh)
 ·rw[E]
  have H:=aD y
  intro i j D r x S v b A B z t u
  by_cases P:i=a
  ·subst P
   rw[eA H]at v
   rw[fK z]at b
   simp at v;subst v
   simp at A;subst A
   exact R j r S b B (λn=>z n.symm) t u
  ·rw[fK (λn=>P n.symm)]at v
   by_cases Q:j=a
   ·subst Q
    rw[eA H]at b
    simp at b;subst b
    simp at B;subst B
    exact km (R i D x v A z u t)
   ·rw[fK (λn=>Q n.symm)]at b
    exact G i j D r x S v b A B z t u
def dH.sN(j:dH N e m d h)(k:∀b,m.size<=b->e b=0)(g:h[a]? =some c)(n:Int):
 dH N e (ah m d.E (d.off+a*3) [.i n]) d (h.set a {c with aS:=n})/\eC (λb=>b=3) e m e (ah m d.E (d.off+a*3) [.i n]):=
 j.put k g (o:=0) (new:=[.i n]) aJ λf i b=>⟨f,rfl,i,b,Or.inl rfl⟩
def dH.setCell(l:dH N e m d h)(q:∀f,m.size<=f->e f=0)(i:a<h.length)(n t:Int){f:O}(k:aq m f b)(g:Qx N e m d h f b):
 dH N e (ah m d.E (d.off+a*3) [.i n,.i t,.s f]) d (h.set a ⟨n,t,b⟩)/\eC (λj=>j=3) e m e (ah m d.E (d.off+a*3) [.i n,.i t,.s f]):=by
 obtain⟨c,j⟩:=ag i
 exact l.put q j (o:=0) (new:=[.i n,.i t,.s f]) aJ λr u s=>⟨f,rfl,k,λp=>(g p).1,Or.inr g⟩
def dH.cut(j:dH N e m d h){n:Nat}(v:n<=h.length):dH N e m (d.cut 0 n 3) (h.take n):=by
 have u:=j.len;obtain⟨f,q,g,r⟩:=j;refine⟨f.take n,by rw[<-El f n g.size];exact q.cut V,g.take n,λi k o p a l b c=>?_⟩;have s:i<n:=by have:=aD b;simp at this;omega
 have t:k<n:=by have:=aD c;simp at this;omega
 rw[dP s]at b;rw[dP t]at c;exact r i k o p a l b c
def dH.push(F:dH N e m d h)(Q:∀c,m.size<=c->e c=0)(S:x.len=1){p t:Int}{f:O}(R:fZ m x.E x.off [.i p,.i t,.s f])(E:aq m f b)(C:Qx N e m d h f b)(W:h.length<=2000000000)
 (M:∀z y w,dH N z w y (h++[⟨p,t,b⟩])->eC (λk=>k=3) e m z w->K y w):jh m wZ [.i (0:Int),.i (0:Int),.s O.nil] 40 d x K:=by
 have U:=F.len
 obtain⟨l,D,A,J⟩:=F
 refine iD.append (c:=[.i 0,.i 0,.s .nil]) (d:=[.i p,.i t,.s f]) D Q (by simp[S]) R V λz y w T H=>M z y w ⟨l++[[.i p,.i t,.s f]],by simpa using T,?_,?_⟩ H
 ·exact(A.zp (cs:=[.i p,.i t,.s f]) (x:=⟨p,t,b⟩) rfl ⟨f,rfl,E,λg=>(C g).1⟩).mono (Hh.gC H bh)
 have G:∀(o:Nat)(q:List Ce)(c:O),l[o]? =some q->q[2]? =some (.s c)->f.len≠0->c.len≠0->f.E≠c.E:=λo q c v s g n=>by
  have P:b≠[]:=λI=>by have:=E.len;rw[I]at this;simp at this;exact g this
  refine km ((C P).2 o c (by rw[<-A.len];exact aD v) ?_ n);have:=D.iv (o*3+2) _ (iy A.size v s);rwa[<-dQ]at this
 have Pu:∀{i:Nat}{k:List Ce}{a:O},(l++[[.i p,.i t,.s f]])[i]? =some k->k[2]? =some (.s a)->l[i]? =some k\/(i=l.length/\a=f):=λ{i k a} j r=>by
  rcases bA i l.length with g|g
  ·rw[aw g]at j;exact Or.inl j
  ·rw[aF g]at j;have n:i -l.length=0:=by have:=aD j;simp at this;omega
   rw[n]at j;simp at j;subst j;simp at r;exact Or.inr ⟨V,r.symm⟩
 intro i o k q a c j v r s L g n
 rcases Pu j r with B|⟨B,rfl⟩
 ·rcases Pu v s with u|⟨u,rfl⟩
  ·exact J i o k q a c B u r s L g n
  ·exact km (G i k a B r n g)
 ·rcases Pu v s with u|⟨u,rfl⟩
  ·exact G o q c u s g n
  ·omega
end
structure sa(ro:Nat->Nat)(m:J)(fr:O)(fs:List aW)(f:aW)(r o h:O)(css:List (List Ce)):Prop where
 p7:iD ro m cQ 6 4 fr (css.flatten++[.i f.eu,.i f.pc,.i f.dst,.s r,.s o,.s h])
 len:css.length=fs.length
 size:∀cs∈css,cs.length=6
 dz:∀(i:Nat)(cs:List Ce)(g:aW),css[i]? =some cs->fs[i]? =some g->Sy ro m i cs g
 ao:iD ro m aI 1 (10+3*fs.length) r (f.ao.map Ce.i)
 aQ:iD ro m aI 1 (11+3*fs.length) o (f.aQ.map Ce.i)
 br:iD ro m aI 1 (12+3*fs.length) h (f.br.map Ce.i)
section
variable{e n:Nat->Nat}{m l:J}{d:O}{a:List aW}{f:aW}{r j h:O}{k:List (List Ce)}
def oJ.fI(n:oJ e m d (a++[f])):∃r j h k,sa e m d a f r j h k:=by
 obtain⟨k,u,l,v,p⟩:=n;have o:k≠[]:=λb=>by rw[b]at l;simp at l
 have b:k=k.dropLast++[k.getLast o]:=(eU o).symm;generalize k.dropLast=c0 at b;generalize k.getLast o=cl at b;subst b;have t:c0.length=a.length:=by simpa using l
 obtain⟨r,j,h,rfl,y,x,n⟩:=p a.length cl f (by rw[aF V];simp[t]) aJ;refine⟨r,j,h,c0,by simpa using u,t,λc w=>v c (by simp[w]),λi c g q s=>p i c g ?_ ?_,y,x,n⟩
 ·rw[aw (aD q)];exact q
 ·rw[aw (aD s)];exact s
def sa.uP(T:sa e m d a f r j h k):oJ e m d (a++[f]):=by
 refine⟨k++[[.i f.eu,.i f.pc,.i f.dst,.s r,.s j,.s h]],by simpa using T.p7,by simp[T.len],λl b=>?_,λi l o c g=>?_⟩
 ·rcases List.mem_append.1 b with b|b
  ·exact T.size l b
  ·simp at b;subst b;rfl
 ·rcases bA i a.length with n|n
  ·rw[aw (by rw[T.len];exact n)]at c;rw[aw n]at g;exact T.dz i l o c g
  ·have p:i=a.length:=by have:=aD g;simp at this;omega
   subst p;rw[aF (by rw[T.len];omega)]at c;simp[T.len]at c g;subst c;subst g;exact⟨r,j,h,rfl,T.ao,T.aQ,T.br⟩
def sa.uX(T:sa e m d a f r j h k):d.len=a.length+1:=by
 have:=T.p7.len;simp only[a8,df T.size,T.len,aZ,eG]at this;omega
def sa.iv(T:sa e m d a f r j h k):af m d.E (d.off+a.length*6)=some (vi f.eu)/\af m d.E (d.off+a.length*6+1)=some (vi f.pc)/\af m d.E (d.off+a.length*6+2)=some (vi f.dst)/\
 af m d.E (d.off+a.length*6+3)=some (O.v r)/\af m d.E (d.off+a.length*6+4)=some (O.v j)/\af m d.E (d.off+a.length*6+5)=some (O.v h):=by
 have l:k.flatten.length=a.length*6:=by rw[df T.size,T.len]
 have b:=λ(i:Nat)(c:Ce)(g:[Ce.i f.eu,Ce.i f.pc,Ce.i f.dst,Ce.s r,Ce.s j,Ce.s h][i]? =some c)=>T.p7.iv (a.length*6+i) c (by rw[aF V,l,Fw];exact g)
 exact⟨b 0 (.i f.eu) rfl,b 1 (.i f.pc) rfl,b 2 (.i f.dst) rfl,b 3 (.s r) rfl,b 4 (.s j) rfl,b 5 (.s h) rfl⟩
def sa.gC{p:Nat->Prop}(T:sa e m d a f r j h k)(b:eC p e m n l)(c:∀g,(g=4\/10<=g)->¬p g):sa n l d a f r j h k:=
 ⟨T.p7.gC b (c _ V),T.len,T.size,λi o q s t=>(T.dz i o q s t).gC b λg u _=>c g V,T.ao.gC b (c _ V),T.aQ.gC b (c _ V),T.br.gC b (c _ V)⟩
def sa.ext(T:sa e m d a f r j h k)(c:∀b,m.size<=b->e b=0)(b:N m l):sa e l d a f r j h k:=T.gC (eC.fP (λ_=>False) b c) λ_ _=>id
def sa.xp{p:Nat->Prop}(T:sa e m d a f r j h k)(s:eC p e m n l)(t:∀b,10<=b->b<10+3*a.length->¬p b):∀(i:Nat)(c:List Ce)(g:aW),k[i]? =some c->a[i]? =some g->Sy n l i c g:=λi c g q o=>
 (T.dz i c g q o).gC s λb u _=>t b V (by have:=aD o;omega)
def sa.C2(T:sa e m d a f r j h k)(q:∀b,m.size<=b->e b=0)(n:0<=i)(g:i<f.ao.length)(v:Int):
 sa e (ah m r.E (r.off+i.toNat*1) [.i v]) d a {f with ao:=gF f.ao i v} r j h k/\eC (λb=>4<=b/\b≠9) e m e (ah m r.E (r.off+i.toNat*1) [.i v]):=by
 have p:r.cap≠0:=λl=>by have:=(T.ao.xg l).1;simp at this;rw[this]at g;simp at g;omega
 have o:=T.ao.E p
 have c:eC (λb=>b=10+3*a.length) e m e (ah m r.E (r.off+i.toNat*1) [.i v]):=eC.ah q o.2 _ _
 exact⟨⟨T.p7.gC c V,T.len,T.size,T.xp c λb _ s=>V,T.ao.gF n g v,T.aQ.gC c V,T.br.gC c V⟩,c.mono λb s=>V⟩
def sa.ph(T:sa e m d a f r j h k)(q:∀b,m.size<=b->e b=0)(n:0<=i)(g:i<f.aQ.length)(v:Int):
 sa e (ah m j.E (j.off+i.toNat*1) [.i v]) d a {f with aQ:=gF f.aQ i v} r j h k/\eC (λb=>4<=b/\b≠9) e m e (ah m j.E (j.off+i.toNat*1) [.i v]):=by
 have p:j.cap≠0:=λl=>by have:=(T.aQ.xg l).1;simp at this;rw[this]at g;simp at g;omega
 have o:=T.aQ.E p
 have c:eC (λb=>b=11+3*a.length) e m e (ah m j.E (j.off+i.toNat*1) [.i v]):=eC.ah q o.2 _ _
 exact⟨⟨T.p7.gC c V,T.len,T.size,T.xp c λb _ s=>V,T.ao.gC c V,T.aQ.gF n g v,T.br.gC c V⟩,c.mono λb s=>V⟩
def sa.AP(T:sa e m d a f r j h k)(q:∀b,m.size<=b->e b=0)(n:0<=i)(g:i<f.br.length)(v:Int):
 sa e (ah m h.E (h.off+i.toNat*1) [.i v]) d a {f with br:=gF f.br i v} r j h k/\eC (λb=>4<=b/\b≠9) e m e (ah m h.E (h.off+i.toNat*1) [.i v]):=by
 have p:h.cap≠0:=λl=>by have:=(T.br.xg l).1;simp at this;rw[this]at g;simp at g;omega
 have o:=T.br.E p
 have c:eC (λb=>b=12+3*a.length) e m e (ah m h.E (h.off+i.toNat*1) [.i v]):=eC.ah q o.2 _ _
 exact⟨⟨T.p7.gC c V,T.len,T.size,T.xp c λb _ s=>V,T.ao.gC c V,T.aQ.gC c V,T.br.gF n g v⟩,c.mono λb s=>V⟩
def sa.E(T:sa e m d a f r j h k):e d.E=4/\d.E<m.size:=by
 have:=T.uX;have:=T.p7.le;have:=T.p7.E V;exact⟨this.2,this.1⟩
def sa.LP(T:sa e m d a f r j h k)(l:∀b,m.size<=b->e b=0)(v:Int):
 sa e (ah m d.E (d.off+a.length*6+1) [.i v]) d a {f with pc:=v} r j h k/\eC (λb=>4<=b/\b≠9) e m e (ah m d.E (d.off+a.length*6+1) [.i v]):=by
 have i:=T.E
 have c:eC (λb=>b=4) e m e (ah m d.E (d.off+a.length*6+1) [.i v]):=eC.ah l i.1 _ _
 refine⟨⟨?_,T.len,T.size,T.xp c λb n p=>V,T.ao.gC c V,T.aQ.gC c V,T.br.gC c V⟩,c.mono λb q=>V⟩
 have g:k.flatten.length=a.length*6:=by rw[df T.size,T.len]
 have:=T.p7.set (o:=a.length*6+1) (new:=[.i v]) (by simp[g])
 rw[kQ _ _ _ _ V,g,Fw]at this
 rw[dQ];exact this
def sa.TB(T:sa e m d a f r j h k):dZ m d.E (d.off+a.length*6+1) 1:=by
 rw[dQ];exact T.p7.wr (by simp only[a8,df T.size,T.len,aZ,eG];omega)
end
def oJ.Vx{d:Nat->Nat}{m:J}{c:O}{a:List aW}{f:aW}(e:oJ d m c (a++[f])):oJ d m (c.cut 0 a.length 6) a:=by
 obtain⟨r,o,h,b,T⟩:=e.fI;have g:b.flatten.length=a.length*6:=by rw[df T.size,T.len]
 have:=T.p7.cut (n:=a.length) (by rw[T.uX];omega);rw[mV V,nl V]at this;exact⟨b,this,T.len,T.size,T.dz⟩
def oJ.push{d:Nat->Nat}{m:J}{l:O}{b:List aW}(D:oJ d m l b)(E:∀a,m.size<=a->d a=0)(G:x.len=1){a:aW}{c j g:O}(F:fZ m x.E x.off [.i a.eu,.i a.pc,.i a.dst,.s c,.s j,.s g])
 (y:iD d m aI 1 (10+3*b.length) c (a.ao.map Ce.i))(z:iD d m aI 1 (11+3*b.length) j (a.aQ.map Ce.i))(A:iD d m aI 1 (12+3*b.length) g (a.br.map Ce.i))(N:b.length<=1000000)
 (n:∀k c e,oJ k e c (b++[a])->eC (λp=>p=4) d m k e->K c e):jh m cQ [.i (0:Int),.i (0:Int),.i (0:Int),.s O.nil,.s O.nil,.s O.nil] 96 l x K:=by
 obtain⟨v,q,s,t,I⟩:=D
 have M:l.len=b.length:=by have:=q.len;rw[df t,s]at this;omega
 refine iD.append (c:=[.i 0,.i 0,.i 0,.s .nil,.s .nil,.s .nil]) (d:=[.i a.eu,.i a.pc,.i a.dst,.s c,.s j,.s g]) q E (by simp[G]) F V λk L e H p2=>n k L e ?_ p2
 exact sa.uP (f:=a) (a:=b) (k:=v) (r:=c) (j:=j) (h:=g) ⟨by simpa using H,s,t,λi u w B C=>(I i u w B C).gC p2 λp n _=>V,y.gC p2 V,z.gC p2 V,A.gC p2 V⟩
end
section
variable{m:J}{d:List bQ}{i:Nat->Nat}{b g t q:Nat}{s r:List Int}{c:bQ}{j:Int}{e:Nat->Int}
def yS:∀(d:List bQ)(g:Nat),g<=d.length->(∀c∈d.take g,c.aS≠0)->g<=dg d
 |[],g,a,_=>by simp at a;simp[a]
 |c::d,0,_,_=>eY _
 |c::d,g+1,a,b=>by
  have f:=b c aJ;have:=yS d g (by simpa using a) (λe hd=>b e (by simp[hd]));simp only[dg];rw[ae f];omega
def FO:∀(d:List bQ)(g:Nat)(c:bQ),(∀b∈d.take g,b.aS≠0)->d[g]? =some c->c.aS=0->dg d=g
 |[],g,c,_,a,_=>by simp at a
 |b::d,0,c,_,a,e=>by simp at a;subst a;simp[dg,e]
 |b::d,g+1,c,f,a,e=>by
  have h:=f b aJ;have:=FO d g c (λx i=>f x (by simp[i])) (by simpa using a) e;simp only[dg];rw[ae h,this]
def EQ{j:O}(h:fN m j d):uR cp 211 [O.v j] m (vi (dg d)):=by
 apply zK;have r:=h.len;refine fB (n:=d.length) (r▸h.gV) (λg a=>N m a/\∀c∈d.take g,c.aS≠0) ⟨N.az _,aJ⟩ ?_;rintro g v I μ q ⟨a,i⟩ s
 refine dit (λp=>?_) λp=>?_
 ·obtain⟨c,f⟩:=ag (l:=d) (k:=g) V;obtain⟨t,u,o,_⟩:=(fN.ext a h).D f;refine⟨V,V,c.aS,by simpa using o,λb=>⟨?_,a⟩,λb=>s V _ ⟨a,cF f i (by simpa using b)⟩⟩;rw[FO d g c i f (by simpa using b)]
 ·refine⟨?_,a⟩;have:=yS d g q i;have:=pN d;have e:(j.len:Int)=(dg d:Int):=V;rw[e]
def rh(i:Nat->Nat)(b g:Nat):Nat->Nat:=λc=>if c=b then g else i c
def gX(i:Nat->Nat)(b g:Nat):rh i b g b=g:=an rfl
def eF{c:Nat}(d:c≠b):rh i b g c=i c:=ae d
def eC.rh{p:Nat->Prop}{e:J}(d:N m e)(f:∀b,m.size<=b->i b=0)(h:m.size<=b)(j:b<e.size)(g:Nat):eC p i m (rh i b g) e:=
 ⟨d.size,λc a=>eF V,λc a=>by rw[eF V];exact f c (bX d.size a),λc a _=>d.same c a⟩
def K7{q:O}(f:dH t i m q d)(p:∀b,m.size<=b->i b=0){c:Nat}(ha:c<=d.length)(y:Int){H:O}(T:aq m H s)(W:d.length<=2000000000)(L:s.length<=1000000000)(J:t<=m.size):
 aL cp 212 [O.v q,vi c,vi y,O.v H] m λZ S=>∃w M,Z=O.v M/\dH t w S M (gL d c ⟨1,y,s⟩)/\HC i m w S:=by
 apply GX
 simp -zeta only[aC,aB]
 refine(mS T L).then L λF v o1 Q I=>⟨F,rfl,?_⟩
 intro X a
 have n:N v a:=((N.az v).aN _).ah (ad _) _ _
 have s3:a.size=v.size+1:=by simp[a,X,ay]
 have u:=I.trans n
 clear_value a
 have z:HC i m i a:=eC.fP _ u p
 have D:=z.new
 have B:dH t i a q d:=f.gC (eC.fP (λ_=>False) u p) id id
 have aa:=f.len
 have R:=Q.ext n
 have P:s≠[]->i F.E=0:=λU=>by
  rcases o1.E with e|e
  ·subst e;have:=Q.len;simp at this;exact absurd (List.length_eq_zero_iff.1 this.symm) U
  ·exact p _ e
 have K:i v.size=0:=p _ I.size
 refine⟨λe=>?_,λe=>?_⟩
 ·simp at e
  intro h
  have j:N a h:=(N.az a).aN _
  have jk:fZ h a.size 0 [.i 1,.i y,.s F]:=(cx.push a _ _).iv
  have G:HC i m i h:=z.trans (eC.fP _ j D)
  have s4:h.size=a.size+1:=by simp[h]
  clear_value h
  refine dH.push (B.gC (eC.fP (λ_=>False) j D) id id) G.new (x:=.mk a.size 0 1 1) rfl jk (R.ext j) (Qx.of f (λA=>(u.trans j).same _ (f.E A).2) (λ_=>o1.ext (n.trans j)) P J) W λw r Y E l=>⟨λb k=>?_,w,r,rfl,?_,G.trans (l.mono λg C=>Or.inl C)⟩
  ·simp at k;subst k
   exact l.dO _ V (by rw[K];decide)
  ·rw[gL,an V];exact E
 ·simp at e
  have h:c<d.length:=V
  have j:Int.toNat (c:Int)=c:=V
  rw[j]
  refine⟨V,V,B.wr (o:=0) h bh,?_⟩
  intro Y
  obtain⟨E,l⟩:=B.setCell D h 1 y R (Qx.of f (λA=>u.same _ (f.E A).2) (λ_=>o1.ext n) P J)
  refine⟨λb k=>?_,i,q,rfl,?_,z.trans (l.mono λg C=>Or.inl C)⟩
  ·simp at k;subst k
   exact l.dO _ V (by rw[K];decide)
  ·rw[gL,ae V];exact E
def Kv(b:d[q]? =some c)(a:c.aS≠0):iA d (q+1)=q+1:=by
 simp only[iA,b];rw[ae a]
def OL(b:d[q]? =some c)(a:c.aS=0):iA d (q+1)=iA d q:=by
 simp only[iA,b];rw[an a]
def wU{a:O}(b:fN m a d):aL cp 215 [O.v a] m λv o=>v=O.v (a.cut 0 (iA d d.length) 3)/\N m o:=by
 apply IJ;have y:=b.len;have w:=b.cap;have z:=b.gV;refine⟨λi o=>N m o/\∃q:Nat,i=q/\q<=d.length/\iA d q=iA d d.length,λi _=>i.toNat,⟨N.az _,d.length,V,ad _,rfl⟩,?_⟩;rintro i t ⟨n,q,rfl,A,p⟩;have gW:iA d q=q->Value.slice=Value.slice->(0:Int)<=(0:Int)/\(0:Int)<=(q:Int)/\(q:Int)<=(a.cap:Int)/\(O.v (O.cut a (Int.toNat (0:Int)) (Int.toNat (q:Int)) 3)=O.v (a.cut 0 (iA d d.length) 3)/\N m t):=λe _=>by
  refine⟨V,V,V,?_,n⟩;rw[<-p,e];rfl
 refine⟨λf=>?_,λf=>?_⟩
 ·simp only[mP,au]at f;obtain⟨g,rfl⟩:∃g,q=g+1:=⟨q -1,V⟩;have r:cR (((g+1:Nat):Int) -1)=(g:Int):=by rw[aP V V];omega
  rw[r];obtain⟨c,j⟩:=ag (l:=d) (k:=g) V;obtain⟨u,x,s,_⟩:=(fN.ext n b).D j;refine⟨V,V,c.aS,by simpa using s,λh=>⟨⟨n,g,rfl,V,?_⟩,by show(g:Int).toNat<((g+1:Nat):Int).toNat;omega⟩,λh=>?_⟩
  ·rw[<-p,OL j (by simpa using h)]
  ·exact gW (Kv j (by simpa using h)) rfl
 ·simp only[mP,bU]at f;have:q=0:=V;subst this;exact gW rfl rfl
def iD.Vx{a:O}(d:iD i m aI 1 g a ((s++[j]).map Ce.i)):a.len=s.length+1/\af m a.E (a.off+s.length*1)=some (vi j)/\iD i m aI 1 g (a.cut 0 s.length 1) (s.map Ce.i):=by
 have b:a.len=s.length+1:=by have:=d.len;simp at this;omega
 refine⟨b,?_,?_⟩
 ·have:=d.iv s.length (.i j) aJ;rw[mW];exact this
 ·have:=d.cut (n:=s.length) V;rw[mW,fx,mV aJ,nl aJ]at this;exact this
def ft.P3(h:ft d (λb=>e b+fR (j::r) b))(c:∀b,0<=e b)(a:fQ d j)(f:(aG d j).aS=1):ft (d.set (ix j) ic) (λb=>e b+fR ((aG d j).aR.reverse++r) b):=by
 obtain⟨g,i⟩:=bY a;refine ft.Pq h g f ?_ bh bh rfl (by simp[ic]) (by simp[ic]) (λ_=>rfl) λb=>?_
 ·simp only[iN a.1,an];have:=c (ix j);have:=ju r (ix j);omega
 ·simp only[iN a.1,mF,zd];omega
def ft.NQ(c:ft d (λb=>e b+fR (j::r) b))(g:∀b,0<=e b)(f:fQ d j)(i:(aG d j).aS≠1):ft (eQ d j) (λb=>e b+fR r b):=by
 obtain⟨a,h⟩:=bY f;have k:=(c.cell _ (av a)).hi;refine ft.IQ c a h V V (λb=>?_) ?_
 ·simp only[iN f.1];split<;>omega
 ·have:=g (ix j);have:=ju r (ix j);omega
def ft.P2(a:ft d (λb=>e b+fR (j::r) b))(c:j<1000):ft d (λb=>e b+fR r b):=
 a.congr λb=>by simp only[fR];rw[ae V];omega
def ft.NP(f:ft d (λb=>e b+fR (j::r) b))(c:∀b,0<=e b)(a:1000<=j):fQ d j:=
 ⟨a,f.lv _ (by simp only[iN a,an];have:=c (ix j);have:=ju r (ix j);omega)⟩
def A3:List bQ->Nat
 |[]=>0
 |c::d=>c.aR.length+A3 d
def yT:∀{d:List bQ}{e:Nat}{c:bQ}(b:bQ),d[e]? =some c->A3 (d.set e b)+c.aR.length=A3 d+b.aR.length
 |[],e,c,b,d=>by simp at d
 |g::d,0,c,b,f=>by simp at f;subst f;simp only[fj,A3];omega
 |g::d,e+1,c,b,f=>by
  have:=yT (d:=d) (e:=e) b (by simpa using f);simp only[fO,A3];omega
def Mw:∀{d:List bQ},(∀c∈d,c.aR.length<=3)->A3 d<=3*d.length
 |[],_=>by simp[A3]
 |c::d,a=>by
  have:=Mw (λb hd=>a b (ai _ hd));have:=a c aX;simp only[A3,aZ];omega
def EO{E:O}(hh:dH t i m E d)(hn:∀b,m.size<=b->i b=0){ws:O}(hw:aq m ws [j])(hI:ft d (λb=>e b+fR [j] b))(X:∀b,0<=e b)(aO:d.length<=2000000000):
 aL cp 184 [O.v E,O.v ws] m λaB y=>∃z al,aB=O.v al/\dH t z y al (mM (fY d [j]))/\HC i m z y:=by
 apply zJ
 refine(mS hw aJ).then aJ λs M o1 i1 h1=>⟨s,rfl,?_⟩
 have ao:s≠.nil:=λe=>by subst e;have:=i1.len;simp at this
 have H:m.size<=s.E/\s.E<M.size:=by
  rcases o1.E with e|e
  ·exact absurd e ao
  ·rcases o1.lt with A|A
   ·exact absurd A ao
   ·exact⟨e,A⟩
 have c1:HC i m (rh i s.E 6) M:=eC.rh h1 hn H.1 H.2 6
 have a1:iD (rh i s.E 6) M aI 1 6 s ([j].map Ce.i):=iD.gQ o1 λ_=>gX _ _ _
 have ax:dH t (rh i s.E 6) M E d:=hh.gC (eC.rh (p:=λ_=>False) h1 hn H.1 H.2 6) id id
 have aK:=Mw λc a=>(hI.cell c a).fl
 have aM:=hh.len
 refine Nl (γ:=List bQ×List Int) (λh F y=>∃z,dH t z y E h.1/\iD z y aI 1 6 F (h.2.reverse.map Ce.i)/\HC i m z y/\ft h.1 (λb=>e b+fR h.2 b)/\fY h.1 h.2=fY d [j]/\h.1.length=d.length/\h.2.length+A3 h.1<=1+A3 d) (λh=>yM h.1+h.2.length) (d,[j])
  ⟨_,ax,a1,c1,hI,rfl,rfl,aJ⟩ ?_
 rintro⟨a,st⟩ F m2 aC μ ⟨q,B,a2,h,u,v,K,ae⟩ ab
 simp only[]at B a2 u v K ae
 have ap:F.len=st.length:=by have:=a2.len;simp at this;omega
 refine⟨λS=>?_,λS=>?_⟩
 ·simp only[mP,au]at S
  cases st with
  |nil=>simp at ap;omega
  |cons x r=>
   simp only[OW]at a2
   obtain⟨p1,p2,p3⟩:=a2.Vx
   simp only[aZ,mu]at ap p1 p2 p3 ae
   have e1:cR ((F.len:Int) -1)=(r.length:Int):=by rw[aP V V];omega
   have aF:=a2.le
   rw[e1]
   have A:Int.toNat (0:Int)=0:=rfl
   have e3:Int.toNat (r.length:Int)=r.length:=V
   rw[A,e3]
   refine⟨V,V,x,p2,V,V,V,(eZ _ _).then λb P hb n=>⟨b,rfl,λaw=>?_,λar=>?_⟩⟩
   ·have hx:=hb.1 aw
    have D:=u.NP X hx
    obtain⟨k,am⟩:=bY D
    have ah:=aD k
    have az:ix x=(x -1000).toNat:=rfl
    have aN:=(u.cell _ (av k)).hi
    have e4:cR (x -1000)=x -1000:=aP V V
    rw[e4,<-az]
    have I:HC q m2 q P:=eC.fP _ n h.new
    have Z:dH t q P E a:=B.gC (eC.fP (λ_=>False) n h.new) id id
    have a3:=p3.gC (eC.fP (λ_=>False) n h.new) id
    obtain⟨f0,g0,_,_,_,_⟩:=Z.bV k
    refine⟨V,V,_,g0,V,V,Z.wr (o:=0) ah bh,?_⟩
    have e5:cR ((aG a x).aS -1)=(aG a x).aS -1:=aP V V
    rw[e5]
    intro m4
    obtain⟨aa,c4⟩:=Z.sN I.new k ((aG a x).aS -1)
    have a4:=a3.gC c4 bh
    have R:HC i m q m4:=(h.trans I).trans (c4.mono λg C=>Or.inl C)
    have W:=iQ (d:=ic) k
    simp only[an am,ic]at W
    simp at W
    have aA:(a.set (ix x) {aG a x with aS:=(aG a x).aS -1})[ix x]? =some {aG a x with aS:=(aG a x).aS -1}:=dY k
    obtain⟨f1,k0,_,k2,kf,kr⟩:=aa.bV aA
    refine⟨V,V,_,k0,λT=>?_,λT=>?_⟩
    ·simp only[aE]at T
     have aj:(aG a x).aS=1:=V
     have aH:=(u.cell _ (av k)).fl
     have Y:=kf.len
     simp only[]at Y kf kr
     have J:=yT ic k
     simp only[ic,eG]at J
     refine⟨V,V,f1,k2,iD.append (c:=[.i 0]) (d:=(aG a x).aR.map Ce.i) a4 R.new (by simp[Y]) kf.Gk ?_ λac aQ Q q1 q2=>?_⟩
     ·have:(F.cut 0 r.length 1).len=r.length:=by have:=a4.len;simp at this;omega
      rw[this,Y];omega
     have ay:=aa.gC q2 bh bh
     have G:HC i m ac Q:=R.trans (q2.mono λg C=>Or.inr (Or.inr C))
     intro m6
     have U:N Q m6:=(N.az Q).aN _
     have af:=ay.gC (eC.fP (λ_=>False) U G.new) id id
     have a6:=q1.gC (eC.fP (λ_=>False) U G.new) id
     have ad:HC i m ac m6:=G.trans (eC.fP _ U G.new)
     clear_value m6
     have ai:ix x<(a.set (ix x) {aG a x with aS:=(aG a x).aS -1}).length:=by simpa using ah
     refine⟨V,V,af.wr (o:=0) ai bh,?_⟩
     intro m7
     obtain⟨ag,c7⟩:=af.setCell ad.new ai 0 0 (f:=.mk Q.size 0 0 0) (b:=[]) ⟨rfl,aJ,aJ,aJ⟩ (λL=>absurd rfl L)
     rw[VI]at ag
     refine ab (a.set (ix x) ic,(aG a x).aR.reverse++r) _ _ ⟨ac,ag,?_,ad.trans (c7.mono λg C=>Or.inl C),u.P3 X D aj,?_,by simpa using K,?_⟩ ?_
     ·have:=a6.gC c7 bh
      simpa using this
     ·rw[<-pL D aj];exact v
     ·simp only[a8,mu]
      have C:A3 (a.set (ix x) ic)+(aG a x).aR.length=A3 a:=by simpa[ic]using J
      omega
     ·simp only[a8,mu,aZ]
      have C:yM (a.set (ix x) ic)+((aG a x).aS.toNat+(aG a x).aR.length)=yM a:=by simpa[ic]using W
      omega
    ·simp only[ak]at T
     have L:(aG a x).aS≠1:=V
     have C:=iQ (d:={aG a x with aS:=(aG a x).aS -1}) k
     simp only[an am]at C
     rw[an V]at C
     have J:=yT {aG a x with aS:=(aG a x).aS -1} k
     refine ab (eQ a x,r) _ _ ⟨q,aa,a4,R,u.NQ X D L,?_,by simpa[eQ]using K,?_⟩ ?_
     ·rw[<-nP D L];exact v
     ·simp only[eQ];simp only[]at J;omega
     ·simp only[eQ,aZ];omega
   ·have hx:=fb hb ar
    have I:HC q m2 q P:=eC.fP _ n h.new
    refine ab (a,r) _ _ ⟨q,B.gC (eC.fP (λ_=>False) n h.new) id id,p3.gC (eC.fP (λ_=>False) n h.new) id,h.trans I,u.P2 V,?_,K,by simp only[];omega⟩ aJ
    rw[<-nQ (w:=x) (λk=>hx k.1)];exact v
 ·simp only[mP,bU]at S
  have k:st=[]:=List.length_eq_zero_iff.1 V
  subst k
  rw[pK]at v
  subst v
  refine(wU (B.cells V)).mono ?_
  rintro _ P ⟨rfl,n⟩
  refine⟨_,rfl,q,_,rfl,?_,h.trans (eC.fP _ n h.new)⟩
  exact(B.gC (eC.fP (λ_=>False) n h.new) id id).cut (tc _ _)
end
section
variable{i:Int}
structure ST(m0:J)(ro:Nat->Nat)(m:J)(mb e:Nat)(bx:List Ce)(bd hp fr:O)(lo:List Int)(lh:List bQ)(fs:List aW)(f:aW)(r o h:O)(css:List (List Ce)):Prop where
 cH:rl m0 ro m mb e bx bd hp fr lo lh (fs++[f])
 fI:sa ro m fr fs f r o h css
section
variable{g:J}{a t:Nat->Nat}{m s:J}{d e:Nat}{j:List Ce}{bd l b:O}{q:List Int}{n:List bQ}{c:List aW}{f:aW}{r o h:O}{k:List (List Ce)}
def ST.ext(S:ST g a m d e j bd l b q n c f r o h k)(i:N m s):ST g a s d e j bd l b q n c f r o h k/\To a m a s:=
 ⟨⟨(S.cH.ext i).1,S.fI.ext S.cH.new i⟩,(S.cH.ext i).2⟩
def ST.C2(S:ST g a m d e j bd l b q n c f r o h k){i:Int}(s:0<=i)(t:i<f.ao.length)(v:Int):ST g a (ah m r.E (r.off+i.toNat*1) [.i v]) d e j bd l b q n c {f with ao:=gF f.ao i v} r o h k/\To a m a (ah m r.E (r.off+i.toNat*1) [.i v]):=by
 obtain⟨p,u⟩:=S.fI.C2 S.cH.new s t v;obtain⟨w,x⟩:=S.cH.jb u p.uP;exact⟨⟨w,p⟩,x⟩
def ST.ph(S:ST g a m d e j bd l b q n c f r o h k){i:Int}(s:0<=i)(t:i<f.aQ.length)(v:Int):ST g a (ah m o.E (o.off+i.toNat*1) [.i v]) d e j bd l b q n c {f with aQ:=gF f.aQ i v} r o h k/\To a m a (ah m o.E (o.off+i.toNat*1) [.i v]):=by
 obtain⟨p,u⟩:=S.fI.ph S.cH.new s t v;obtain⟨w,x⟩:=S.cH.jb u p.uP;exact⟨⟨w,p⟩,x⟩
def ST.AP(S:ST g a m d e j bd l b q n c f r o h k){i:Int}(s:0<=i)(t:i<f.br.length)(v:Int):ST g a (ah m h.E (h.off+i.toNat*1) [.i v]) d e j bd l b q n c {f with br:=gF f.br i v} r o h k/\To a m a (ah m h.E (h.off+i.toNat*1) [.i v]):=by
 obtain⟨p,u⟩:=S.fI.AP S.cH.new s t v;obtain⟨w,x⟩:=S.cH.jb u p.uP;exact⟨⟨w,p⟩,x⟩
def ST.LP(S:ST g a m d e j bd l b q n c f r o h k)(v:Int):ST g a (ah m b.E (b.off+c.length*6+1) [.i v]) d e j bd l b q n c {f with pc:=v} r o h k/\To a m a (ah m b.E (b.off+c.length*6+1) [.i v]):=by
 obtain⟨i,p⟩:=S.fI.LP S.cH.new v;obtain⟨s,t⟩:=S.cH.jb p i.uP;exact⟨⟨s,i⟩,t⟩
def ST.iJ(S:ST g a m d e j bd l b q n c f r o h k)(i:Nat)(s:List Ce):ST g a (ah m d i s) d e (iK j i s) bd l b q n c f r o h k/\To a m a (ah m d i s):=by
 obtain⟨u,v⟩:=S.cH.iJ i s;exact⟨⟨u,S.fI.gC (eC.ah (p:=λt=>t=1) S.cH.new S.cH.LI i s) λt w=>V⟩,v⟩
def ST.fS(S:ST g a m d e j bd l b q n c f r o h k)(i:HC a m t s){p:O}{u:List bQ}(x:dH g.size t s p u):ST g t s d e j bd p b q u c f r o h k/\To a m t s:=by
 obtain⟨v,w⟩:=S.cH.fS i x;exact⟨⟨v,S.fI.gC i λz y=>V⟩,w⟩
def ST.J0(S:ST g a m d e j bd l b q n c f r o h k)(i:eC (λp=>p=2) a m t s){v:O}{u:List Int}(y:iD t s aI 1 2 v (u.map Ce.i)):ST g t s d e j v l b u n c f r o h k/\To a m t s:=by
 obtain⟨w,x⟩:=S.cH.J0 i y;exact⟨⟨w,S.fI.gC i λp z=>V⟩,x⟩
end
def eC.PE{c f:Nat->Nat}{m a:J}(h:To c m f a){b:Nat}(e:b<m.size)(d:c b=0):dR [b] m a:=h.dv (by simpa using⟨e,d⟩)
abbrev SB(d p:O)(s:St)(bd b a:O):List Ce:=[.s d,.s p,.i s.bW,.i s.value,.i s.bE,.i s.aY,.s bd,.s b,.s a]
def AZ(f:J)(h:Nat->Nat)(m:J)(g:Nat)(e p:O)(s:St)(c:J):Prop:=
 ∃d bd b a,rl f d c g bO (SB e p s bd b a) bd b a s.bd s.heap s.aA/\To h m d c
def AZ.from{b:J}{f g:Nat->Nat}{m c a:J}{e:Nat}{d p:O}{s:St}(i:AZ b g c e d p s a)(n:To f m g c):AZ b f m e d p s a:=
 let⟨o,bd,l,h,j,k⟩:=i
 ⟨o,bd,l,h,j,n.trans k⟩
section
variable{q:J}{e:Nat->Nat}{m:J}{g:Nat}{d p bd b c:O}{a:St}{j:List aW}{f:aW}{r t h:O}{u:List (List Ce)}
def jv(S:ST q e m g bO (SB d p a bd b c) bd b c a.bd a.heap j f r t h u)(s:j.length<=100000)(v:Int):
 aL cp 183 [vp g 0,vi v] m λw k=>ST q e k g bO (SB d p a bd b c) bd b c a.bd a.heap j {f with pc:=v} r t h u/\To e m e k:=by
 apply oB (g,0)
 have i:af m g 8=some (O.v c):=S.cH.box.bV 8
 have o:=S.fI.uX
 have l:cR ((c.len:Int) -1)=(j.length:Int):=by rw[aP V V];omega
 have n:Int.toNat (j.length:Int)=j.length:=V
 refine⟨c,i,c,i,?_⟩
 rw[l,n]
 exact⟨V,V,S.fI.TB,S.LP v⟩
def Ai(S:ST q e m g bO (SB d p a bd b c) bd b c a.bd a.heap j f r t h u)(P:j.length<=100000)(k:0<=i)(x:i<f.ao.length)(y:i<f.aQ.length)(w:Int)(W:0<=f.pc/\f.pc<=100000):
 aL cp 176 [vp g 0,vi i,vi w] m λ_ A=>ST q e A g bO (SB d p a bd b c) bd b c a.bd a.heap j (aW.put {f with pc:=f.pc+1} i w 0) r t h u/\To e m e A:=by
 apply tF (g,0)
 simp -zeta only[aC,aB]
 have z:af m g 8=some (O.v c):=S.cH.box.bV 8
 have T:=S.fI.uX
 have G:cR ((c.len:Int) -1)=(j.length:Int):=by rw[aP V V];omega
 have H:Int.toNat (j.length:Int)=j.length:=V
 obtain⟨J,g1,g2,K,L,M⟩:=S.fI.iv
 have X:r.len=f.ao.length:=by have:=S.fI.ao.len;simp at this;omega
 have U:t.len=f.aQ.length:=by have:=S.fI.aQ.len;simp at this;omega
 refine⟨c,z,c,z,?_⟩
 rw[G,H]
 refine⟨V,V,_,J,_,g1,_,g2,r,K,t,L,h,M,?_⟩
 intro R l
 have Q:N m l:=((N.az m).aN _).ah (ad _) _ _
 have Z:l.size=m.size+1:=by simp[l,R,ay]
 have n:e m.size=0:=S.cH.new _ (ad _)
 obtain⟨s,t2⟩:=S.ext Q
 clear_value l
 refine⟨k,V,s.fI.ao.OR k x,?_⟩
 intro o
 obtain⟨v,t3⟩:=s.C2 k x w
 have s3:o.size=l.size:=ay _ _ _ _
 refine⟨t3.PE (show m.size<l.size by omega) n,k,V,v.fI.aQ.OR k y,?_⟩
 intro B
 obtain⟨E,C⟩:=v.ph k (by simpa using y) 0
 have s4:B.size=o.size:=ay _ _ _ _
 have I:cR (f.pc+1)=f.pc+1:=aP V V
 rw[I]
 refine⟨C.PE (show m.size<o.size by omega) n,(jv E P (f.pc+1)).mono ?_⟩
 rintro _ Y ⟨F,D⟩
 exact⟨D.PE (show m.size<B.size by omega) n,F,((t2.trans t3).trans C).trans D⟩
def sV(S:ST q e m g bO (SB d p a bd b c) bd b c a.bd a.heap j f r t h u)(ab:j.length<=100000)(k:0<=i)(D:i<f.ao.length)(n:i<f.aQ.length)(w:Int):
 aL cp 186 [vp g 0,vi i,vi w] m λ_ H=>ST q e H g bO (SB d p a bd b c) bd b c a.bd a.heap j (f.put i w (fV w)) r t h u/\To e m e H:=by
 apply tE (g,0)
 simp -zeta only[aC,aB]
 have G:af m g 8=some (O.v c):=S.cH.box.bV 8
 have aa:=S.fI.uX
 have M:cR ((c.len:Int) -1)=(j.length:Int):=by rw[aP V V];omega
 have P:Int.toNat (j.length:Int)=j.length:=V
 obtain⟨R,g1,g2,T,U,W⟩:=S.fI.iv
 have ag:r.len=f.ao.length:=by have:=S.fI.ao.len;simp at this;omega
 have ac:t.len=f.aQ.length:=by have:=S.fI.aQ.len;simp at this;omega
 refine⟨c,G,c,G,?_⟩
 rw[M,P]
 refine⟨V,V,_,R,_,g1,_,g2,r,T,t,U,h,W,?_⟩
 intro m1 l
 have Z:N m l:=((N.az m).aN _).ah (ad _) _ _
 have s2:l.size=m.size+1:=by simp[l,m1,ay]
 have o:e m.size=0:=S.cH.new _ (ad _)
 obtain⟨A,t2⟩:=S.ext Z
 clear_value l
 refine⟨k,V,A.fI.ao.OR k D,?_⟩
 intro x
 obtain⟨B,t3⟩:=A.C2 k D w
 have s3:x.size=l.size:=ay _ _ _ _
 refine⟨t3.PE (show m.size<l.size by omega) o,k,V,B.fI.aQ.OR k n,?_⟩
 intro I
 obtain⟨K,y⟩:=B.ph k (by simpa using n) 0
 have s4:I.size=x.size:=ay _ _ _ _
 refine⟨y.PE (show m.size<x.size by omega) o,(eZ _ _).mono ?_⟩
 rintro _ m5 ⟨L,rfl,F,E⟩
 obtain⟨s,z⟩:=K.ext E
 have s5:=E.size
 refine⟨z.PE (show m.size<I.size by omega) o,L,rfl,λY=>?_,λX=>?_⟩
 ·refine⟨k,V,s.fI.aQ.OR k (by simpa[jo]using n),?_⟩
  intro m6
  obtain⟨C,J⟩:=s.ph k (by simpa[jo]using n) 1
  refine⟨J.PE (show m.size<m5.size by omega) o,?_,(((t2.trans t3).trans y).trans z).trans J⟩
  have Q:gF (gF f.aQ i 0) i 1=gF f.aQ i 1:=by simp[gF,VI]
  have v:fV w=1:=by rw[fV,an (F.1 Y)]
  simp only[Q]at C
  rw[v];exact C
 ·refine⟨?_,((t2.trans t3).trans y).trans z⟩
  have v:fV w=0:=by rw[fV,ae (fb F X)]
  rw[v];exact s
def vu:∀(a:List Int)(g:List bQ),(il g a).length=g.length
 |[],g=>rfl
 |w::a,g=>by rw[il,vu a];simp[lW]
def C0:∀(a:List Int)(g:List bQ)(w:Int),il g (a++[w])=lW (il g a) w
 |[],g,w=>rfl
 |v::a,g,w=>by rw[cA,il,C0 a,il]
def zh:∀(a:List Int)(g:List bQ)(n:Int),(∀c∈g,-10<=c.aS/\c.aS<=n)->∀c∈il g a,-10<=c.aS/\c.aS<=n+a.length
 |[],g,n,h,c,b=>by have:=h c b;simp;omega
 |w::a,g,n,h,c,b=>by
  have:=zh a (lW g w) (n+1) (λd hd=>by
   rcases nA hd with rfl|⟨i,_,f⟩
   ·simp only[aG];cases e:g[ix w]? with
    |none=>
     unfold lW at hd;rw[qN (List.getElem?_eq_none_iff.1 e)]at hd;have:=h _ hd;simp only[aG,e]at this⊢;omega
    |some x=>have:=h x (av e);simp only[uN];omega
   ·have:=h d (av f);omega) c b
  simp only[aZ];omega
def Cx(L:rl q e m g bO (SB d p a bd b c) bd b c a.bd a.heap j){w:O}{f:List Int}(y:aq m w f)(R:f≠[]->e w.E=0)(N:∀h∈f,1000<=h/\ix h<a.heap.length)(J:∀i∈a.heap,-10<=i.aS/\i.aS<=999999)(ab:f.length<=1000000)(Y:a.heap.length<=2000000000):
 aL cp 182 [vp g 0,O.v w] m λ_ u=>dH q.size e u b (il a.heap f)/\eC (λh=>h=3) e m e u:=by
 apply uG (g,0)
 have ac:=y.len
 have K:af m g 7=some (O.v b):=L.box.bV 7
 refine fB (n:=f.length) V (λh u=>dH q.size e u b (il a.heap (f.take h))/\eC (λh=>h=3) e m e u) ⟨L.heap,eC.az _ L.new⟩ ?_
 rintro h C U μ Z ⟨r,s⟩ T
 refine dit (λH=>?_) λH=>?_
 ·obtain⟨x,t⟩:=ag (l:=f) (k:=h) V
  obtain⟨ad,B⟩:=N x (av t)
  have A:f≠[]:=λD=>by rw[D]at t;simp at t
  have S:aq C w f:=gR y λ_=>s.dO _ (iB y A) (by rw[R A];decide)
  have z:af C g 7=some (O.v b):=by rw[aM (s.dO _ L.box.lt (by rw[L.LI];decide))];exact K
  have Q:=r.len
  rw[vu]at Q
  obtain⟨i,v⟩:=ag (l:=il a.heap (f.take h)) (k:=ix x) (by rw[vu];exact B)
  obtain⟨W,G,_⟩:=r.bV v
  have P:ix x=(x -1000).toNat:=rfl
  have E:cR (x -1000)=x -1000:=aP V V
  have X:=zh (f.take h) a.heap 999999 J i (av v)
  have aa:((f.take h).length:Int)<=1000000:=bR
  have F:cR (i.aS+1)=i.aS+1:=aP V V
  refine⟨V,V,x,by simpa using S.D t,b,z,b,z,?_⟩
  rw[E,<-P]
  refine⟨V,V,i.aS,G,V,V,r.wr (o:=0) (by rw[vu];exact B) bh,?_⟩
  rw[F]
  obtain⟨M,I⟩:=r.sN s.new v (i.aS+1)
  refine T V _ ⟨?_,s.trans I⟩
  rw[bn t,C0]
  have:aG (il a.heap (f.take h)) x=i:=by simp[aG,v]
  unfold lW
  rw[this];exact M
 ·rw[cN V]at r
  exact⟨r,s⟩
def Am(L:rl q e m g bO (SB d p a bd b c) bd b c a.bd a.heap j){w:Int}(A:fQ a.heap w){k:Nat->Int}(r:ft a.heap k)(N:a.heap.length<=2000000000):
 aL cp 214 [vp g 0,vi w] m λE u=>∃i:Bool,E=vb i/\(i=true<->(aG a.heap w).aS=1)/\eC (λy=>y=3) e m e u/\(i=true->dH q.size e u b a.heap)/\(i=false->dH q.size e u b (il (eQ a.heap w) (j7 (aG a.heap w).aR))):=by
 apply tG (g,0)
 obtain⟨f,ae⟩:=bY A
 have Q:=aD f
 have ac:=L.heap.len
 have P:ix w=(w -1000).toNat:=rfl
 have ab:=A.1
 have H:cR (w -1000)=w -1000:=aP V V
 have t:af m g 7=some (O.v b):=L.box.bV 7
 have ad:=(r.cell _ (av f)).hi
 have I:cR ((aG a.heap w).aS -1)=(aG a.heap w).aS -1:=aP V V
 obtain⟨X,x,g1,g2,Y,Z⟩:=L.heap.bV f
 rw[H,<-P]
 refine⟨b,t,V,V,_,x,λn=>?_,λn=>?_⟩
 ·exact⟨true,rfl,by simpa using n,eC.az _ L.new,λ_=>L.heap,λh=>by simp at h⟩
 ·simp only[ak]at n
  refine⟨b,t,b,t,V,V,_,x,V,V,L.heap.wr (o:=0) Q bh,?_⟩
  rw[I]
  intro m1
  obtain⟨z,l⟩:=L.heap.sN L.new f ((aG a.heap w).aS -1)
  obtain⟨J,k0,k1,W,kf,kr⟩:=z.bV (dY f)
  obtain⟨v,t1⟩:=L.fS (l.mono λy B=>Or.inl B) z
  have aa:=(r.cell _ (av f)).fl
  refine⟨b,v.box.bV 7,V,V,J,W,?_⟩
  refine(nX kf (by simp only[];omega)).then (by have:=nD (aG a.heap w).aR;simp only[];omega) λD m2 o2 C y=>⟨D,rfl,?_⟩
  obtain⟨F,t2⟩:=v.ext y
  have S:j7 (aG a.heap w).aR≠[]->e D.E=0:=λR=>by
   rcases o2.E with k|k
   ·subst k;have:=C.len;simp at this;exact absurd (List.length_eq_zero_iff.1 this.symm) R
   ·exact l.new _ k
  have:=nD (aG a.heap w).aR
  refine(Cx (a:={a with heap:=eQ a.heap w}) (j:=j) F C S (λE T=>?_) (λG K=>?_) (by simp only[];omega) (by simpa[eQ]using N)).mono ?_
  ·obtain⟨U,B⟩:=jT.1 T
   have M:=r.field (av f) U B
   exact⟨B,by simpa[eQ]using aD (bY M).1⟩
  ·rcases nA K with rfl|⟨i,_,B⟩
   ·simp only[];omega
   ·have:=r.cell G (av B);have M:=this.lo;have U:=this.hi;omega
  ·rintro _ U ⟨M,B⟩
   exact⟨false,rfl,by simpa using n,(l.trans (eC.fP _ y l.new)).trans B,λh=>by simp at h,λ_=>M⟩
end
end
section
variable{t:Nat->Nat}{c:J}{g:List Nat}{e:Nat}{q:List Ce}{x:Instr}{a j:O}{b:Int}
def yB(a:Nat->Nat)(m:J)(g:List Nat):Prop:=∀b∈g,b<m.size/\a b=0
def yB.to{p:Nat->Prop}{d:Nat->Nat}{m:J}(h:yB d m g)(e:eC p d m t c):yB t c g:=λb a=>⟨aO (h b a).1 e.size,by rw[e.jU b (h b a).1];exact(h b a).2⟩
def eC.dB{a:Nat->Nat}{m:J}(b:To a m t c)(h:yB a m g):dR g m c:=b.dv h
def yB.IK{f:Nat->Nat}{m d e:J}(c:∀b,m.size<=b->f b=0)(g:d.size=m.size+1)(h:e.size=m.size+2):yB f e [d.size,m.size]:=λb a=>by
 simp at a;rcases a with rfl|rfl
 ·exact⟨V,c _ V⟩
 ·exact⟨V,c _ V⟩
noncomputable def mZ (s:St) (a:List aW) (f:aW) (x:Instr) (t:Int):St:=
 open Classical in
 if x.bH≠0/\D f.br (x.bH -1)≠0 then
  {s with heap:=s.heap.set (ix (D f.br (x.bH -1))) ⟨1,t,cy f x.args⟩,aA:=a++[aW.put {f with pc:=f.pc+1,br:=gF f.br (x.bH -1) 0} x.dst (D f.br (x.bH -1)) 1]}
 else{s with heap:=gL s.heap (dg s.heap) ⟨1,t,cy f x.args⟩,aA:=a++[aW.put {f with pc:=f.pc+1} x.dst (1000+dg s.heap) 1]}
section
variable{G:J}{B:Nat->Nat}{y:J}{F:Nat}{d p bd z C:O}{v:St}{E:List aW}{u:aW}{r A h:O}{H:List (List Ce)}
def ST.zk{b:List Int}{a:List bQ}(S:ST G B y F e q bd z C b a E u r A h H)(c:u.ao.length<=1000000):aq y r u.ao:=S.fI.ao.nu V
def ST.Hz{b:List Int}{a:List bQ}(S:ST G B y F e q bd z C b a E u r A h H)(c:u.aQ.length<=1000000):aq y A u.aQ:=S.fI.aQ.nu V
def ST.Pr{b:List Int}{a:List bQ}(S:ST G B y F e q bd z C b a E u r A h H)(c:u.br.length<=1000000):aq y h u.br:=S.fI.br.nu V
def tU(S:ST G B y F bO (SB d p v bd z C) bd z C v.bd v.heap E u r A h H)(ha:aq G a x.args)(ah:∀b∈x.args,0<=b/\b<u.ao.length)(au:x.args.length<=4)(t:Int)
 (ay:u.ao.length=u.aQ.length/\u.br.length=u.aQ.length/\u.aQ.length<=2000)(ai:0<=x.dst/\x.dst<u.aQ.length)(ax:0<=x.bH/\x.bH<=u.br.length)(az:0<=u.pc/\u.pc<=100000)(ab:E.length<=100000)(av:v.heap.length<=1000000000)
 (ak:∀w∈u.br,w≠0->1000<=w/\ix w<v.heap.length):
 aL cp 178 [vp F 0,fv u r A h,xv x a j,vi t] y λ_ c=>AZ G B y F d p (mZ v E u x t) c:=by
 apply qY (F,0)
 simp -zeta only[aC,aB]
 intro q w
 have ao:N y w:=((N.az y).aN _).aN _
 have s1:q.size=y.size+1:=by simp[q]
 have s2:w.size=y.size+2:=by simp[w,s1]
 have U:=yB.IK S.cH.new s1 s2
 obtain⟨J,t2⟩:=S.ext ao
 clear_value w
 have aw:h.len=u.br.length:=by have:=S.fI.br.len;simp at this;omega
 have o:∀{B y u},ST G B y F bO (SB d p v bd z C) bd z C v.bd v.heap E u r A h H->af y F 7=some (O.v z):=λS=>S.cH.box.bV 7
 refine⟨z,o J,(EQ (J.cH.heap.cells V)).mono ?_⟩
 rintro _ L ⟨rfl,ac⟩
 obtain⟨n,t3⟩:=J.ext ac
 have I:=U.to t3
 refine⟨t3.dB U,_,rfl,λaa c=>∃(b:Nat)(e:aW),aa=b/\ST G B c F bO (SB d p v bd z C) bd z C v.bd v.heap E e r A h H/\To B y B c/\yB B c [q.size,y.size]/\b<=v.heap.length/\
  e.ao=u.ao/\e.aQ=u.aQ/\e.pc=u.pc/\mZ v E u x t={v with heap:=gL v.heap b ⟨1,t,cy u x.args⟩,aA:=E++[aW.put {e with pc:=u.pc+1} x.dst (1000+b) 1]},?_,?_⟩
 ·have none:¬(x.bH≠0/\D u.br (x.bH -1)≠0)->∃(b:Nat)(e:aW),((dg v.heap:Nat):Int)=b/\ST G B L F bO (SB d p v bd z C) bd z C v.bd v.heap E e r A h H/\To B y B L/\yB B L [q.size,y.size]/\b<=v.heap.length/\
   e.ao=u.ao/\e.aQ=u.aQ/\e.pc=u.pc/\mZ v E u x t={v with heap:=gL v.heap b ⟨1,t,cy u x.args⟩,aA:=E++[aW.put {e with pc:=u.pc+1} x.dst (1000+b) 1]}:=λW=>
   ⟨_,u,rfl,n,t2.trans t3,I,pN _,rfl,rfl,rfl,by rw[mZ,ae W]⟩
  refine⟨λK=>?_,λK=>none λQ=>by simp at K;omega⟩
  simp at K
  have R:cR (x.bH -1)=x.bH -1:=aP V V
  rw[R]
  have g:0<=x.bH -1/\x.bH -1<u.br.length:=V
  have P:=(n.Pr V).pD g.1 g.2
  refine⟨V,V,_,P,λl=>?_,λl=>none λQ=>by simp at l;exact Q.2 l⟩
  simp at l
  obtain⟨X,Z⟩:=ak _ (eR g.1 g.2) l
  refine⟨V,V,_,P,V,V,n.fI.br.OR g.1 g.2,?_⟩
  intro M
  obtain⟨k,m⟩:=n.AP g.1 g.2 0
  have Y:ix (D u.br (x.bH -1))=(D u.br (x.bH -1) -1000).toNat:=rfl
  have T:cR (D u.br (x.bH -1) -1000)=((ix (D u.br (x.bH -1)):Nat):Int):=by rw[aP V V];omega
  refine⟨m.dB I,ix (D u.br (x.bH -1)),_,T,k,(t2.trans t3).trans m,I.to m,V,rfl,rfl,rfl,?_⟩
  rw[mZ,an ⟨V,l⟩,gL,ae V,jI X]
 ·rintro aa M ⟨b,e,rfl,k,m,W,ag,l,eo,ep,ec⟩
  have ap:N G M:=k.cH.ct
  have al:aq M r u.ao:=l▸k.zk (by rw[l];omega)
  refine⟨z,o k,(rc (f:=u) al (ha.ext ap) ah V).mono ?_⟩
  rintro _ m5 ⟨ws,rfl,ow,ad⟩
  obtain⟨g,P⟩:=k.ext ad
  have X:=W.to P
  have am:(cy u x.args).length<=1000000000:=by simp[cy];omega
  have iw:aq m5 ws (cy u x.args):=aq.gQ ow V
  refine⟨P.dB W,ws,rfl,by rw[o g,o k],(K7 g.cH.heap g.cH.new ag t iw V am g.cH.ct.size).mono ?_⟩
  rintro _ m6 ⟨ar,K,rfl,aj,c6⟩
  obtain⟨S6,Q⟩:=g.fS c6 aj
  have Y:=X.to Q
  refine⟨Q.dB X,K,rfl,S6.cH.lP (i:=7) aJ,?_⟩
  intro m7
  obtain⟨S7,R⟩:=S6.iJ 7 [.s K]
  have Z:=Y.to R
  have e3:cR (1000+(b:Int))=1000+(b:Int):=aP V V
  have e4:cR (u.pc+1)=u.pc+1:=aP V V
  rw[e3,e4]
  refine⟨R.dB Y,(sV (a:={v with heap:=gL v.heap b ⟨1,t,cy u x.args⟩}) S7 ab ai.1 (by rw[l];omega) (by rw[eo];omega) (1000+b)).mono ?_⟩
  rintro _ m8 ⟨S8,T⟩
  have B8:=Z.to T
  refine⟨T.dB Z,(jv (a:={v with heap:=gL v.heap b ⟨1,t,cy u x.args⟩}) S8 ab (u.pc+1)).mono ?_⟩
  rintro _ m9 ⟨S9,t9⟩
  refine⟨t9.dB B8,ar,bd,K,C,?_,((((m.trans P).trans Q).trans R).trans T).trans t9⟩
  rw[ec]
  have e5:fV (1000+(b:Int))=1:=by rw[fV,an V]
  have:=S9.cH
  rw[e5]at this
  exact this
def rH:∀(a aQ:List Int)(r:Int),dw aQ (a++[r])=gF (dw aQ a) r (D (dw aQ a) r+1)
 |[],aQ,r=>rfl
 |q::a,aQ,r=>by rw[cA,dw,rH a,dw]
def Ec{l:List Int}{i:Int}(h:∀A∈l,0<=A/\A<=b)(d:0<=b):0<=D l i/\D l i<=b:=by
 rcases bA i.toNat l.length with a|a
 ·obtain⟨y,c⟩:=ag a;rw[CK c];exact h y (av c)
 ·rw[D,eM,di a];simp;omega
def qb:∀(c aQ:List Int)(b:Int),0<=b->(∀A∈aQ,0<=A/\A<=b)->∀A∈dw aQ c,0<=A/\A<=b+c.length
 |[],aQ,b,e,h,A,d=>by have:=h A d;simp;omega
 |r::c,aQ,b,e,h,A,d=>by
  have:=qb c (gF aQ r (D aQ r+1)) (b+1) V (λq a=>by
   have:=Ec (i:=r) h e;rcases oW a with a|a
   ·omega
   ·have:=h q a;omega) A d
  simp only[aZ];omega
noncomputable def sJ (v:St) (E:List aW) (u:aW) (x:Instr):St:=
 open Classical in
 if(aG v.heap (D u.ao (D x.args 0))).aS=1/\x.op=17 then
  {v with heap:=v.heap.set (ix (D u.ao (D x.args 0))) ⟨-1,0,cZ (aG v.heap (D u.ao (D x.args 0))).aR.length⟩,aA:=E++[{u with aQ:=dw u.aQ (x.args.drop 1),pc:=u.pc+1,br:=gF u.br (D x.args 0) (D u.ao (D x.args 0))}]}
 else{v with heap:=apart v.heap (D u.ao (D x.args 0)),aA:=E++[{u with aQ:=dw u.aQ (x.args.drop 1),pc:=u.pc+1}]}
def xe(b:Nat):nj [.i (0:Int)] b=(cZ b).map Ce.i:=by
 induction b with
 |zero=>rfl
 |succ b a=>
  have:nj [.i (0:Int)] (b+1)=.i 0::nj [.i (0:Int)] b:=by simp[nj,pY]
  rw[this,a];simp[cZ,pY]
def qt{y:J}(a:0<=b)(d:b<=1000000):aL cp 159 [vi b] y λv c=>v=O.v (.mk y.size 0 b.toNat b.toNat)/\c=y.push (.cells (bC ((cZ b.toNat).map Ce.i)) aI):=by
 apply Hb;refine⟨a,cC _,V,V,?_⟩;rw[xe];exact⟨rfl,rfl⟩
def LV{y:J}(b:Nat):ij y (y.push (.cells (bC ((cZ b).map Ce.i)) aI)) aI 1 (.mk y.size 0 b b) ((cZ b).map Ce.i):=ij.new (N.az y) aI 1 _ b (by simp[jE])
def GQ(S:ST G B y F bO (SB d p v bd z C) bd z C v.bd v.heap E u r A h H)(ha:aq G a x.args)(ap:∀g∈x.args,0<=g/\g<u.ao.length)(aM:1<=x.args.length/\x.args.length<=4)(aZ:x.op=16\/x.op=17)
 (aW:u.ao.length=u.aQ.length/\u.br.length=u.aQ.length/\u.aQ.length<=2000)(a0:0<=u.pc/\u.pc<=100000)(am:E.length<=100000)(aR:v.heap.length<=1000000000)(aH:∀R∈u.aQ,0<=R/\R<=999999)
 (aj:fQ v.heap (D u.ao (D x.args 0))){e:Nat->Int}(hI:ft v.heap e):
 aL cp 185 [vp F 0,fv u r A h,xv x a j] y λ_ c=>AZ G B y F d p (sJ v E u x) c:=by
 apply rV (F,0)
 simp -zeta only[aC,aB]
 intro m1 m2
 have aK:N y m2:=((N.az y).aN _).aN _
 have s1:m1.size=y.size+1:=by simp[m1]
 have s2:m2.size=y.size+2:=by simp[m2,s1]
 have B2:=yB.IK S.cH.new s1 s2
 obtain⟨S2,t2⟩:=S.ext aK
 clear_value m2
 have a2:r.len=u.ao.length:=by have:=S.fI.ao.len;simp at this;omega
 have aY:A.len=u.aQ.length:=by have:=S.fI.aQ.len;simp at this;omega
 have aS:h.len=u.br.length:=by have:=S.fI.br.len;simp at this;omega
 have aN:=ha.len
 have I:0<=D x.args 0/\D x.args 0<u.ao.length:=ap _ (eR V V)
 have ga:∀{c},N G c->∀{b:Nat}{g},x.args[b]? =some g->af c a.E (a.off+Int.toNat (b:Int)*1)=some (vi g):=λhx b g X=>by simpa using(ha.ext hx).D X
 refine⟨V,V,D x.args 0,(ha.ext S2.cH.ct).pD V V,I.1,V,D u.ao (D x.args 0),(S2.zk V).pD I.1 I.2,?_⟩
 refine⟨λak c=>∃b:Nat,ak=b/\1<=b/\b<=x.args.length/\ST G B c F bO (SB d p v bd z C) bd z C v.bd v.heap E {u with aQ:=dw u.aQ ((x.args.take b).drop 1)} r A h H/\To B y B c/\yB B c [m1.size,y.size],λak _=>((x.args.length:Int) -ak).toNat,⟨1,rfl,V,V,?_,t2,B2⟩,?_⟩
 ·have e1:(x.args.take 1).drop 1=[]:=aJ
  rw[e1];exact S2
 rintro ak m3 ⟨b,rfl,aT,aU,J,t3,Z⟩
 have aF:∀R∈dw u.aQ ((x.args.take b).drop 1),0<=R/\R<=1000010:=λR hq=>by
  have:=qb _ u.aQ 999999 V aH R hq;have h3:((x.args.take b).drop 1).length<=4:=bR;omega
 refine dit (λh1=>?_) λh1=>?_
 ·obtain⟨g,X⟩:=ag (l:=x.args) (k:=b) V
  have K:=ap g (av X)
  have M:g<(dw u.aQ ((x.args.take b).drop 1)).length:=by rw[lj];omega
  have hb:=Ec (i:=g) aF V
  refine⟨V,V,g,ga J.cH.ct X,V,V,g,ga J.cH.ct X,K.1,V,_,(J.Hz (by simp only[lj];omega)).pD K.1 M,K.1,V,J.fI.aQ.OR K.1 M,?_⟩
  intro q
  have P:cR (D (dw u.aQ ((x.args.take b).drop 1)) g+1)=D (dw u.aQ ((x.args.take b).drop 1)) g+1:=aP V V
  obtain⟨t,L⟩:=J.ph K.1 M (D (dw u.aQ ((x.args.take b).drop 1)) g+1)
  have Q:q=ah m3 A.E (A.off+g.toNat*1) [.i (D (dw u.aQ ((x.args.take b).drop 1)) g+1)]:=by simp only[q,P]
  clear_value q
  subst Q
  refine⟨L.dB Z,?_,?_⟩
  ·rw[kV (k:=b) (n:=x.args.length) V V]
   refine⟨b+1,rfl,V,V,?_,t3.trans L,Z.to L⟩
   have e4:(x.args.take (b+1)).drop 1=(x.args.take b).drop 1++[g]:=by
    rw[bn X,List.drop_append_of_le_length bR]
   rw[e4,rH]
   exact t
  ·rw[kV (k:=b) (n:=x.args.length) V V]
   show((x.args.length:Int) -((b+1:Nat):Int)).toNat<((x.args.length:Int) -(b:Int)).toNat
   omega
 ·have e1:(x.args.take b).drop 1=x.args.drop 1:=by rw[cN V]
  rw[e1]at J
  have a3:=jI aj.1
  obtain⟨al,a1⟩:=bY aj
  have ai:=aD al
  have aX:=J.cH.heap.len
  have e4:cR (u.pc+1)=u.pc+1:=aP V V
  have aV:=aj.1
  have aE:ix (D u.ao (D x.args 0))=(D u.ao (D x.args 0) -1000).toNat:=rfl
  have e5:cR (D u.ao (D x.args 0) -1000)=D u.ao (D x.args 0) -1000:=aP V V
  rw[e4,e5,<-aE]
  generalize hw:D u.ao (D x.args 0)=w at*
  have gw:∀{B y lh own' held'},ST G B y F bO (SB d p v bd z C) bd z C v.bd lh E {u with aQ:=own',br:=held'} r A h H->af y r.E (r.off+Int.toNat (D x.args 0)*1)=some (vi w):=λS=>by rw[<-hw];exact(S.zk (by simp only[];omega)).pD I.1 I.2
  refine⟨I.1,V,w,gw J,(Am J.cH aj hI V).mono ?_⟩
  rintro _ q ⟨ax,rfl,hb,c4,aA,az⟩
  refine⟨(c4.mono λb P=>by omega:To B m3 B q).dB Z,ax,rfl,λau=>?_,λar=>?_⟩
  ·have ac:=hb.1 au
   obtain⟨t,L⟩:=J.fS (c4.mono λb P=>Or.inl P) (aA au)
   have B4:=Z.to L
   have g7:af q F 7=some (O.v z):=t.cH.box.bV 7
   refine⟨λaa=>?_,λaa=>?_⟩
   ·simp at aa
    obtain⟨f0,k0,k1,k2,kf,kr⟩:=t.cH.heap.bV al
    have ay:=(hI.cell _ (av al)).fl
    have aO:=kf.len
    refine⟨z,g7,z,g7,V,V,f0,k2,(qt V V).mono ?_⟩
    rintro _ m5 ⟨rfl,rfl⟩
    have e6:Int.toNat (f0.len:Int)=(aG v.heap w).aR.length:=V
    rw[e6]
    have ab:N q (q.push (.cells (bC ((cZ (aG v.heap w).aR.length).map Ce.i)) aI)):=N.push _ _
    have oz:=LV (y:=q) (aG v.heap w).aR.length
    obtain⟨K,M⟩:=t.ext ab
    have B5:=B4.to M
    have aw:B q.size=0:=t.cH.new _ (ad _)
    generalize q.push (.cells (bC ((cZ (aG v.heap w).aR.length).map Ce.i)) aI)=m5 at*
    obtain⟨ao,c6⟩:=K.cH.heap.setCell K.cH.new ai (-1) 0 (f:=.mk q.size 0 _ _) (aq.gQ oz (by rw[jE];omega)) (Qx.of t.cH.heap (λI=>ab.same _ (t.cH.heap.E I).2) (λ_=>oz) (λ_=>aw) t.cH.ct.size)
    refine⟨M.dB B4,_,rfl,ab.bZ g7,V,V,K.cH.heap.wr (o:=0) ai bh,?_⟩
    intro m6
    obtain⟨Q,T⟩:=K.fS (c6.mono λb P=>Or.inl P) ao
    have B6:=B5.to T
    refine⟨T.dB B5,I.1,V,w,gw Q,I.1,V,Q.fI.br.OR I.1 (by simp only[];omega),?_⟩
    intro m7
    obtain⟨W,U⟩:=Q.AP I.1 (by simp only[];omega) w
    have B7:=B6.to U
    refine⟨U.dB B6,(jv (a:={v with heap:=v.heap.set (ix w) ⟨-1,0,cZ (aG v.heap w).aR.length⟩}) W am (u.pc+1)).mono ?_⟩
    rintro _ m8 ⟨S8,Y⟩
    refine⟨Y.dB B7,B,bd,z,C,?_,(((((t3.trans L).trans M).trans T).trans U).trans Y)⟩
    rw[sJ,hw,an ⟨ac,aa⟩]
    exact S8.cH
   ·simp at aa
    refine⟨z,g7,?_⟩
    intro m5
    have ab:N q m5:=(N.az q).aN _
    obtain⟨K,M⟩:=t.ext ab
    have B5:=B4.to M
    clear_value m5
    refine⟨V,V,K.cH.heap.wr (o:=0) ai bh,?_⟩
    intro m6
    obtain⟨ao,c6⟩:=K.cH.heap.setCell K.cH.new ai 0 0 (f:=.mk q.size 0 0 0) (b:=[]) ⟨rfl,aJ,aJ,aJ⟩ (λaw=>absurd rfl aw)
    obtain⟨Q,T⟩:=K.fS (c6.mono λb P=>Or.inl P) ao
    have B6:=B5.to T
    refine⟨T.dB B5,z,Q.cH.box.bV 7,(wU (Q.cH.heap.cells bR)).mono ?_⟩
    rintro _ m7 ⟨rfl,ay⟩
    obtain⟨W,U⟩:=Q.ext ay
    have B7:=B6.to U
    refine⟨U.dB B6,_,rfl,W.cH.lP (i:=7) aJ,?_⟩
    intro m8
    obtain⟨aw,aO⟩:=W.fS (eC.az _ W.cH.new) (W.cH.heap.cut (tc _ _))
    obtain⟨S8,Y⟩:=aw.iJ 7 [.s (z.cut 0 (iA (v.heap.set (ix w) ic) (v.heap.set (ix w) ic).length) 3)]
    have B8:=B7.to Y
    refine⟨Y.dB B7,(jv (a:={v with heap:=mM (v.heap.set (ix w) ic)}) S8 am (u.pc+1)).mono ?_⟩
    rintro _ m9 ⟨S9,t9⟩
    refine⟨t9.dB B8,B,bd,z.cut 0 (iA (v.heap.set (ix w) ic) (v.heap.set (ix w) ic).length) 3,C,?_,((((((t3.trans L).trans M).trans T).trans U).trans Y).trans t9)⟩
    rw[sJ,hw,ae (λhh=>aa hh.2),Go.Proofs.YtgnjacfobdjeeaaGreat.apart,an ac]
    exact S9.cH
  ·have ac:(aG v.heap w).aS≠1:=λe=>by have:=hb.2 e;rw[ar]at this;simp at this
   obtain⟨t,L⟩:=J.fS (c4.mono λb P=>Or.inl P) (az ar)
   have B4:=Z.to L
   refine(jv (a:={v with heap:=il (eQ v.heap w) (j7 (aG v.heap w).aR)}) t am (u.pc+1)).mono ?_
   rintro _ m5 ⟨K,M⟩
   refine⟨M.dB B4,B,bd,z,C,?_,(t3.trans L).trans M⟩
   rw[sJ,hw,ae (λhh=>ac hh.1),Go.Proofs.YtgnjacfobdjeeaaGreat.apart,ae ac]
   exact K.cH
end
end
section
variable{j:cq}{g:Instr}{s:O}{c:List Int}{q b1 b2 b3 b:Nat}{e:J}
def gY(j:cq)(g:Instr):Nat->List Int->List Int
 |_,[]=>[]
 |b,w::s=>(if(g.op=9\/g.op=24)/\na j g b=true then 0 else fV w)::gY j g (b+1) s
def Cu(j:cq)(g:Instr):∀(c r:List Int)(b:Nat),gY j g b (c++r)=gY j g b c++gY j g (b+c.length) r
 |[],r,b=>by simp[gY]
 |a::c,r,b=>by
  have:=Cu j g c r (b+1);simp only[cA,gY,this,aZ];have e:b+(c.length+1)=b+1+c.length:=V;rw[e]
def CX(j:cq)(g:Instr):∀(c:List Int)(b:Nat),(gY j g b c).length=c.length
 |[],b=>rfl
 |a::c,b=>by simp only[gY,aZ,CX j g c]
def Hy{j:cq}{g:Instr}(a:g.op=9\/g.op=24):∀(c:List Int)(b:Nat),gY j g b c=dA (dy j g.bL).cG b c
 |[],b=>rfl
 |e::c,b=>by
  simp only[gY,dA,Hy a c];congr 1;unfold na;by_cases h:((dy j g.bL).cG.any λy=>y==(b:Int))=true
  ·rw[an ⟨a,h⟩,an h]
  ·rw[ae (λd=>h d.2),ae h]
def ED{j:cq}{g:Instr}(a:¬(g.op=9\/g.op=24)):∀(c:List Int)(b:Nat),gY j g b c=dA [] b c
 |[],b=>rfl
 |e::c,b=>by
  simp only[gY,dA,ED a c,OV,jx,pC];rw[ae (λd=>a d.1)]
def Dv{m:J}{q:Nat}{t C:O}(ab:eV m t C j)(W:af m q 0=some (O.v t))(g1:af m q 1=some (O.v C))(hc:yC j g)(F R:O)(L:aq m s c)(ad:c.length<=1000000):
 nL 216 [vp q 0,xv g F R,O.v s] m (gY j g 0 c):=by
 apply qL (q,0)
 simp -zeta only[aC,aB]
 intro a A
 have y:N m a:=(N.az m).aN _
 have Y:N a A:=(N.az a).aN _
 have ho:ij a A aI 1 (.mk a.size 0 0 0) []:=ij.new (N.az a) aI 1 [] 0 aJ
 have f:∀r∈[m.size],r<a.size:=by simp[a]
 have ah:=L.len
 clear_value A
 clear_value a
 refine dS (n:=c.length) V (λb D e=>N a e/\ij a e aI 1 D ((gY j g 0 (c.take b)).map Ce.i)) ⟨Y,by simpa[gY]using ho⟩ ?_
 rintro b D m3 ac μ hk ⟨M,h⟩ B
 have P:=y.trans M
 refine dit (λX=>?_) λX=>?_
 ·obtain⟨E,Q⟩:=ag (l:=c) (k:=b) V
  have K:(c.take b).length=b:=bR
  have x:gY j g 0 (c.take (b+1))=gY j g 0 (c.take b)++[if(g.op=9\/g.op=24)/\na j g b=true then 0 else fV E]:=by
   rw[bn Q,Cu,K];simp[gY]
  have w:(gY j g 0 (c.take b)).length<1000000000:=by rw[CX,K];omega
  refine⟨V,V,E,by simpa using P.af (L.D Q),(eZ _ _).aK M f λr m4 H u o=>⟨r,rfl,λaa=>?_,λZ=>?_⟩⟩
  ·have z:=y.trans o
   refine⟨t,z.af W,C,z.af g1,(qX (ab.ext z) hc F R b).aK o f λb2 m5 I G p=>⟨b2,rfl,λv=>?_,λv=>?_⟩⟩
   ·intro S
    refine nB ((h.ext u).ext G) p w λU T i d=>⟨N.sM (p.aN _) d f,B V _ _ ⟨d,?_⟩⟩
    rw[x,ae (nb I v),fV,an (H.1 aa)];exact i
   ·intro S
    refine nB ((h.ext u).ext G) p w λU T i d=>⟨N.sM (p.aN _) d f,B V _ _ ⟨d,?_⟩⟩
    rw[x,an (yb I v)];exact i
  ·intro S
   refine nB (h.ext u) o w λU T i d=>⟨N.sM (o.aN _) d f,B V _ _ ⟨d,?_⟩⟩
   rw[x]
   have p:(if(g.op=9\/g.op=24)/\na j g b=true then 0 else fV E)=0:=by
    rw[fV,ae (fb H Z)];split<;>rfl
   rw[p];exact i
 ·rw[cN V]at h
  exact⟨D,rfl,h.ct y.size,P⟩
structure oE(m e:J)(b1 b2 b3 q:Nat)(ao aQ br:List Int):Prop where
 ext:N m e
 lo:m.size<=b1/\m.size<=b2/\m.size<=b3/\b1≠b2/\b1≠b3/\b2≠b3/\b1<e.size/\b2<e.size/\b3<e.size
 kr:cx e b1 aI (ao.map Ce.i)
 ko:cx e b2 aI (aQ.map Ce.i)
 kh:cx e b3 aI (br.map Ce.i)
 len:ao.length=q/\aQ.length=q/\br.length=q
def Jr{a:J}{b:Nat}(f:cx a b aI ((cZ q).map Ce.i))(g:c.length<=q):cx (ah a b 0 (c.map Ce.i)) b aI ((c++cZ (q -c.length)).map Ce.i):=by
 have:=cx.ah (m:=a) (o:=0) (r:=c.map Ce.i) f;have e:iK ((cZ q).map Ce.i) 0 (c.map Ce.i)=(c++cZ (q -c.length)).map Ce.i:=by
  have d:=AQ [] (c.map Ce.i) ((cZ q).map Ce.i) (by simp[jE];omega);simp only[dN,eG]at d;rw[d];simp[cZ,List.drop_replicate]
 rw[e]at this;exact this
def xz{m:J}{G R:O}(I:eV m G R j){p:Int}(S:0<=p){q:dk}(L:j.cB[p.toNat]? =some q)(C:0<=q.ao/\q.ao<=2000)(H:Int){F:O}{c g:List Int}(M:aq m s c)(K:aq m F g)(ah:(c.length:Int)<=q.ao)(af:g.length=c.length):
 aL cp 114 [.agg #[O.v G,O.v R],vi p,vi H,O.v s,O.v F] m λac e=>∃b1 b2 b3,ac=.agg #[vi p,vi 0,vi H,O.v (.mk b1 0 q.ao.toNat q.ao.toNat),O.v (.mk b2 0 q.ao.toNat q.ao.toNat),O.v (.mk b3 0 q.ao.toNat q.ao.toNat)]/\
  oE m e b1 b2 b3 q.ao.toNat (c++cZ (q.ao.toNat -c.length)) (g++cZ (q.ao.toNat -g.length)) (cZ q.ao.toNat):=by
 apply Dj
 simp -zeta only[aC,aB]
 intro x a
 have w:N m a:=((N.az m).aN _).aN _
 have s1:x.size=m.size+1:=by simp[x]
 have s2:a.size=m.size+2:=by simp[a,s1]
 have i:∀f∈[x.size,m.size],f<a.size:=bR
 have ag:=I.cB.len
 have ae:=aD L
 have X:=M.len
 have W:=K.len
 clear_value a
 obtain⟨a',l',c',_,_,_,_,_,_,k3,_⟩:=(I.ext w).cB.D L
 refine⟨S,V,q.ao,k3,(qt C.1 V).mono ?_⟩
 rintro _ b ⟨rfl,l⟩
 have z:N a b:=by rw[l];exact N.push _ _
 have s3:b.size=a.size+1:=by rw[l];simp
 have P:cx b a.size aI ((cZ q.ao.toNat).map Ce.i):=by rw[l];exact cx.push _ _ _
 clear l
 refine⟨z.dv i,_,rfl,(qt C.1 V).mono ?_⟩
 rintro _ y ⟨rfl,n⟩
 have u:N b y:=by rw[n];exact N.push _ _
 have s4:y.size=b.size+1:=by rw[n];simp
 have k2:cx y b.size aI ((cZ q.ao.toNat).map Ce.i):=by rw[n];exact cx.push _ _ _
 clear n
 have A:=z.trans u
 have Y:=w.trans A
 have T:min s.len q.ao.toNat=c.length:=by rw[X];exact jc V
 have U:min F.len q.ao.toNat=g.length:=by rw[W];exact jc V
 refine⟨u.dv (λf B=>z.lt (i f B)),_,rfl,c.map Ce.i,by simp only[O.jt];rw[T];simp,(M.ext Y).Gk,(P.ext u).dZ (by simp[jE];omega),?_⟩
 intro h
 have k5:cx h a.size aI ((c++cZ (q.ao.toNat -c.length)).map Ce.i):=Jr (P.ext u) V
 have Q:cx h b.size aI ((cZ q.ao.toNat).map Ce.i):=k2.congr (bt _ _ _ _ (show b.size≠a.size by omega))
 have r:N a h:=A.ah (ad _) _ _
 have s5:h.size=y.size:=ay _ _ _ _
 clear_value h
 have Z:=w.trans r
 refine⟨N.sM A r i,g.map Ce.i,by simp only[O.jt];rw[U];simp,(K.ext Z).Gk,Q.dZ (by simp[jE];omega),?_⟩
 intro d
 have k6:cx d b.size aI ((g++cZ (q.ao.toNat -g.length)).map Ce.i):=Jr Q V
 have ab:cx d a.size aI ((c++cZ (q.ao.toNat -c.length)).map Ce.i):=k5.congr (bt _ _ _ _ (show a.size≠b.size by omega))
 have t:N a d:=r.ah (show a.size<=b.size by omega) _ _
 have s6:d.size=h.size:=ay _ _ _ _
 clear_value d
 refine⟨N.sM r t i,(qt C.1 V).mono ?_⟩
 rintro _ k ⟨rfl,o⟩
 have v:N d k:=by rw[o];exact N.push _ _
 have s7:k.size=d.size+1:=by rw[o];simp
 have k7:cx k d.size aI ((cZ q.ao.toNat).map Ce.i):=by rw[o];exact cx.push _ _ _
 clear o
 refine⟨N.sM t (t.trans v) i,_,rfl,?_⟩
 intro D
 have aa:N m D:=(w.trans (t.trans v)).ah V _ _
 have s8:D.size=k.size:=ay _ _ _ _
 have E:∀f,f≠x.size->D[f]? =k[f]? :=λf B=>bt _ _ _ _ B
 refine⟨a.size,b.size,d.size,rfl,aa,V,(ab.ext v).congr (E _ V),(k6.ext v).congr (E _ V),k7.congr (E _ V),by simp[jE];omega⟩
def lX(a:Nat->Nat)(b1 b2 b3 q:Nat):Nat->Nat:=rh (rh (rh a b1 (10+3*q)) b2 (11+3*q)) b3 (12+3*q)
def oE.gC{p:Nat->Prop}{d:Nat->Nat}{m:J}{ao aQ br:List Int}(N:oE m e b1 b2 b3 b ao aQ br)(f:∀a,m.size<=a->d a=0):eC p d m (lX d b1 b2 b3 q) e:=by
 have g:=N.lo;refine⟨N.ext.size,λa c=>?_,λa c=>?_,λa c _=>N.ext.same a c⟩
 ·unfold lX;rw[eF V,eF V,eF V]
 ·unfold lX;rw[eF V,eF V,eF V];exact f a (by have:=N.ext.size;omega)
def oE.p7{a:Nat->Nat}{m:J}{ao aQ br:List Int}(N:oE m e b1 b2 b3 b ao aQ br):
 iD (lX a b1 b2 b3 q) e aI 1 (10+3*q) (.mk b1 0 b b) (ao.map Ce.i)/\iD (lX a b1 b2 b3 q) e aI 1 (11+3*q) (.mk b2 0 b b) (aQ.map Ce.i)/\iD (lX a b1 b2 b3 q) e aI 1 (12+3*q) (.mk b3 0 b b) (br.map Ce.i):=by
 have g:=N.lo
 obtain⟨c,d,f⟩:=N.len
 refine⟨⟨by simp[c],aJ,Or.inr ⟨b1,b,[],rfl,?_,by rw[dD];exact N.kr,by simp[c]⟩⟩,⟨by simp[d],aJ,Or.inr ⟨b2,b,[],rfl,?_,by rw[dD];exact N.ko,by simp[d]⟩⟩,⟨by simp[f],aJ,Or.inr ⟨b3,b,[],rfl,?_,by rw[dD];exact N.kh,by simp[f]⟩⟩⟩
 ·unfold lX;rw[eF V,eF V,gX]
 ·unfold lX;rw[eF V,gX]
 ·unfold lX;rw[gX]
def oE.box{m:J}{ao aQ br:List Int}(a:oE m e b1 b2 b3 b ao aQ br){m1:J}(c:N m1 m){nb:Nat}(f:m1.size<=nb)(g:nb<m.size)(i:Nat)(d:List Ce):oE m1 (ah e nb i d) b1 b2 b3 b ao aQ br:=by
 have h:=a.lo;have j:=c.size;exact⟨(c.trans a.ext).ah f _ _,by rw[ay];omega,a.kr.congr (bt _ _ _ _ V),a.ko.congr (bt _ _ _ _ V),a.kh.congr (bt _ _ _ _ V),a.len⟩
def oE.Ms{m d:J}{ao aQ br:List Int}(a:oE m e b1 b2 b3 b ao aQ br)(c:N e d):oE m d b1 b2 b3 b ao aQ br:=by
 have f:=a.lo;have:=c.size;exact⟨a.ext.trans c,V,a.kr.ext c,a.ko.ext c,a.kh.ext c,a.len⟩
section
variable{B:J}{u:Nat->Nat}{m:J}{v:Nat}{d p bd z l:O}{w:St}{k:List aW}{t:aW}{D C A:O}{y:List (List Ce)}
def sa.replace{c:Nat->Nat}(T:sa u m l k t D C A y)(v:eC (λ_=>False) u m c e){a:aW}{i g d:O}(w:iD c e aI 1 (10+3*k.length) i (a.ao.map Ce.i))(q:iD c e aI 1 (11+3*k.length) g (a.aQ.map Ce.i))(s:iD c e aI 1 (12+3*k.length) d (a.br.map Ce.i)):
 dZ e l.E (l.off+k.length*6) 6/\oJ c (ah e l.E (l.off+k.length*6) [.i a.eu,.i a.pc,.i a.dst,.s i,.s g,.s d]) l (k++[a])/\eC (λb=>b=4) c e c (ah e l.E (l.off+k.length*6) [.i a.eu,.i a.pc,.i a.dst,.s i,.s g,.s d]):=by
 have n:sa c e l k t D C A y:=T.gC v λ_ _=>id
 have x:=n.E
 have p:y.flatten.length=k.length*6:=by rw[df T.size,T.len]
 have j:eC (λb=>b=4) c e c (ah e l.E (l.off+k.length*6) [.i a.eu,.i a.pc,.i a.dst,.s i,.s g,.s d]):=eC.ah v.new x.1 _ _
 refine⟨n.p7.wr (by simp[p]),sa.uP (f:=a) (a:=k) (k:=y) (r:=i) (j:=g) (h:=d) ⟨?_,T.len,T.size,n.xp j λb q s=>V,w.gC j V,q.gC j V,s.gC j V⟩,j⟩
 have:=n.p7.set (o:=k.length*6) (new:=[.i a.eu,.i a.pc,.i a.dst,.s i,.s g,.s d]) (by simp[p])
 rw[kQ _ _ _ _ V,p,OY]at this
 exact this
def Lf(v nb:Nat)(d:List Nat)(k n f:Int)(g g1 g2:Int)(l j h:O)(e:J)(R:Value->J->Prop):Prop:=
 ((k==(24:Int))=true->
 let b:J:=ah e nb 2 [.i f]
 ∃a:O,af b v 8=some (O.v a)/\
 ∃c:O,af b v 8=some (O.v c)/\
 (0:Int)<=(cR ((c.len:Int) -(1:Int)))/\(cR ((c.len:Int) -(1:Int)))<(a.len:Int)/\
 dZ b a.E (a.off+Int.toNat (cR ((c.len:Int) -(1:Int)))*6) 6/\
 let i:J:=ah b a.E (a.off+Int.toNat (cR ((c.len:Int) -(1:Int)))*6) [.i g,.i g1,.i f,.s l,.s j,.s h]
 dR (nb::d) b i/\
 R (.tuple #[]) i)/\
 ((k==(24:Int))=false->
 aL cp 183 [vp v 0,vi (cR (n+(1:Int)))] e λ_ a=>
 dR (nb::d) e a/\
 ∃m:O,af a v 8=some (O.v m)/\
 let c:J:=a.push (.cells (bC [.i g,.i g1,.i g2,.s l,.s j,.s h]) cQ)
 af c v 8=af a v 8/\
 jh c cQ [.i (0:Int),.i (0:Int),.i (0:Int),.s O.nil,.s O.nil,.s O.nil] 96 m (O.mk a.size 0 1 1) λo b=>
 dR (nb::d) c b/\
 dZ b v 8 1/\
 let i:J:=ah b v 8 [.s o]
 dR (nb::d) b i/\
 R (.tuple #[]) i)
def Mp(S:ST B u m v bO (SB d p w bd z l) bd z l w.bd w.heap k t D C A y){W:List Nat}(G:yB u m W){nb:Nat}{o:J}{h:aW}(q:oE m o b1 b2 b3 b h.ao h.aQ h.br)(ah:m.size<=nb/\nb<o.size)(E:nb≠b1/\nb≠b2/\nb≠b3)
 (aB:k.length<=100000)(aE:0<=t.pc/\t.pc<=100000){R:Value->J->Prop}
 (au:g.op=24->∀e,AZ B u m v d p {w with aA:=k++[{h with dst:=t.dst}]} e->R (.tuple #[]) e)
 (av:g.op≠24->∀e,AZ B u m v d p {w with aA:=k++[{t with pc:=t.pc+1},h]} e->R (.tuple #[]) e):
 Lf v nb W g.op t.pc t.dst h.eu h.pc h.dst (.mk b1 0 b b) (.mk b2 0 b b) (.mk b3 0 b b) o R:=by
 have aC:=q.lo
 have az:=S.fI.uX
 have F:cR ((l.len:Int) -1)=(k.length:Int):=by rw[aP V V];omega
 have e2:Int.toNat (k.length:Int)=k.length:=V
 have e4:cR (t.pc+1)=t.pc+1:=aP V V
 have ai:u nb=0:=S.cH.new _ ah.1
 have aD:=q.ext.size
 refine⟨λM=>?_,λM=>?_⟩
 ·intro H
  have P:oE m H b1 b2 b3 b h.ao h.aQ h.br:=⟨q.ext.ah ah.1 _ _,by simp only[H,ay];omega,q.kr.congr (bt _ _ _ _ (λF=>E.1 F.symm)),q.ko.congr (bt _ _ _ _ (λF=>E.2.1 F.symm)),q.kh.congr (bt _ _ _ _ (λF=>E.2.2 F.symm)),q.len⟩
  have ab:H.size=o.size:=ay _ _ _ _
  clear_value H
  have s:eC (λ_=>False) u m (lX u b1 b2 b3 k.length) H:=P.gC S.cH.new
  obtain⟨U,a2,a3⟩:=P.p7 (a:=u) (q:=k.length)
  obtain⟨Z,w2,I⟩:=S.fI.replace s (a:={h with dst:=t.dst}) U a2 a3
  obtain⟨L,X⟩:=S.cH.fS (s.mono λ_=>False.elim) (S.cH.heap.gC s id id)
  have K:af H v 8=some (O.v l):=L.box.bV 8
  refine⟨l,K,l,K,?_⟩
  rw[F,e2]
  refine⟨V,V,Z,?_⟩
  intro aa
  obtain⟨T,Y⟩:=L.jb (I.mono λb Q=>V) w2
  refine⟨?_,au (by simpa using M) _ ⟨_,bd,z,l,T,X.trans Y⟩⟩
  intro r j
  rcases List.mem_cons.1 j with rfl|j
  ·refine I.dO _ V ?_
   unfold lX;rw[eF E.2.2,eF E.2.1,eF E.1,ai];decide
  ·refine I.dO _ (by have:=(G r j).1;omega) ?_
   rw[s.jU r (G r j).1,(G r j).2];decide
 ·simp only[ak]at M
  rw[e4]
  have s:eC (λ_=>False) u m (lX u b1 b2 b3 (k.length+1)) o:=q.gC S.cH.new
  obtain⟨U,a2,a3⟩:=q.p7 (a:=u) (q:=k.length+1)
  obtain⟨aq,ax⟩:=S.cH.fS (s.mono λ_=>False.elim) (S.cH.heap.gC s id id)
  have I:ST B (lX u b1 b2 b3 (k.length+1)) o v bO (SB d p w bd z l) bd z l w.bd w.heap k t D C A y:=⟨aq,S.fI.gC s λ_ _=>id⟩
  have ag:yB (lX u b1 b2 b3 (k.length+1)) o (nb::W):=λr j=>by
   rcases List.mem_cons.1 j with rfl|j
   ·refine⟨V,?_⟩;unfold lX;rw[eF E.2.2,eF E.2.1,eF E.1,ai]
   ·exact⟨by have:=(G r j).1;omega,by rw[s.jU r (G r j).1];exact(G r j).2⟩
  apply oB (v,0)
  have K:af o v 8=some (O.v l):=I.cH.box.bV 8
  refine⟨l,K,l,K,?_⟩
  rw[F,e2]
  refine⟨V,V,I.fI.TB,?_⟩
  intro H
  obtain⟨L,aa⟩:=I.LP (t.pc+1)
  have ar:eC (λb=>b=4) (lX u b1 b2 b3 (k.length+1)) o (lX u b1 b2 b3 (k.length+1)) H:=eC.ah I.cH.new I.fI.E.1 _ _
  have ao:=ag.to aa
  refine⟨aa.dB ag,l,L.cH.box.bV 8,?_⟩
  intro Z
  have Y:N H Z:=(N.az H).aN _
  obtain⟨T,am⟩:=L.ext Y
  have ac:=ao.to am
  have jk:fZ Z H.size 0 [.i h.eu,.i h.pc,.i h.dst,.s (.mk b1 0 b b),.s (.mk b2 0 b b),.s (.mk b3 0 b b)]:=(cx.push H _ _).iv
  have P:(k++[{t with pc:=t.pc+1}]).length=k.length+1:=aJ
  have X:=λ{b:Nat}{w:O}{c:List Ce}(a:iD (lX u b1 b2 b3 (k.length+1)) o aI 1 b w c)(Q:b≠4)=>(a.gC ar Q).gC (eC.fP (λ_=>False) Y L.cH.new) id
  refine⟨Y.bZ (L.cH.box.bV 8),oJ.push T.cH.aA T.cH.new (x:=.mk H.size 0 1 1) rfl (a:=h) jk (by rw[P];exact X U V) (by rw[P];exact X a2 V) (by rw[P];exact X a3 V) (by rw[P];omega) λal aj aw q1 q2=>?_⟩
  have ab:To _ Z al aw:=q2.mono λb Q=>V
  obtain⟨ad,aG⟩:=T.cH.jb (q2.mono λb Q=>V) q1
  have ap:=ac.to ab
  refine⟨ab.dB ac,ad.lP (i:=8) aJ,?_⟩
  intro aF
  obtain⟨ae,an⟩:=ad.iJ 8 [.s aj]
  refine⟨an.dB ap,av M _ ⟨al,bd,z,aj,?_,(((ax.trans aa).trans am).trans ab).trans an⟩⟩
  have e9:k++[{t with pc:=t.pc+1}]++[h]=k++[{t with pc:=t.pc+1},h]:=aJ
  rw[e9]at ae
  exact ae
end
end
section
variable{a:cq}
noncomputable def qe (a:cq) (s:St) (b:List aW) (f:aW) (x:Instr):St:=
 if x.op=9 then{s with bE:=s.bE+1,aA:=b++[{f with pc:=f.pc+1},bg a x.bL x.dst (cy f x.args)]}
 else if x.op=24 then{s with bE:=s.bE+1,aA:=b++[bg a x.bL f.dst (cy f x.args)]}
 else{s with bE:=s.bE+1,heap:=apart s.heap (D f.ao (D x.args 0)),aA:=b++[{f with pc:=f.pc+1},bg a ((aG s.heap (D f.ao (D x.args 0))).kd -bz a) x.dst ((aG s.heap (D f.ao (D x.args 0))).aR++[D f.ao (D x.args 1)])]}
section
variable{u:J}{n:Nat->Nat}{m:J}{q:Nat}{d p bd t j:O}{b:St}{e:List aW}{c:aW}{r v h:O}{y:List (List Ce)}
def ST.rv(S:ST u n m q bO (SB d p b bd t j) bd t j b.bd b.heap e c r v h y)(g:eV u d p a)(k:b.bd.length<=2000000000)(i:b.heap.length<=2000000000)(f:ln m j (e++[c])):
 RV m q 2 d p bd t j a {b with aA:=e++[c]}:=
 ⟨g.ext S.cH.ct,S.cH.box.bV 0,S.cH.box.bV 1,S.cH.box.bV 2,S.cH.box.bV 3,S.cH.box.bV 4,S.cH.box.bV 5,S.cH.box.bV 6,S.cH.box.bV 7,S.cH.box.bV 8,S.cH.bd.nu V,S.cH.heap.cells V,f⟩
def oJ.JP{e:List aW}(b:oJ n m j e)(C:e.length<=2000000000)(t:∀c∈e,c.ao.length<=1000000/\c.aQ.length<=1000000/\c.br.length<=1000000):ln m j e:=by
 obtain⟨y,a,g,i,s⟩:=b;have w:j.len=e.length:=by have:=a.len;rw[df i,g]at this;omega
 refine⟨w,a.le,V,λf x d=>?_⟩;obtain⟨q,o⟩:=ag (l:=y) (k:=f) (by rw[g];exact aD d);obtain⟨r,v,h,rfl,A,z,b⟩:=s f q x o d;obtain⟨D,E,F⟩:=t x (av d);refine⟨_,⟨r,v,h,rfl,A.nu V,z.nu V,b.nu V⟩,λB p u=>?_⟩;have:=a.iv (f*6+B) p (iy i o u);rwa[<-dQ]at this
def KY(ao:ST u n m q bO (SB d p b bd t j) bd t j b.bd b.heap e c r v h y)(aR:eV u d p a)(aF:gP a){z:Instr}{ab aj:O}(ha:aq u ab z.args)(bp:∀E∈z.args,0<=E/\E<c.ao.length)(bP:z.args.length<=4)
 (b5:z.op=9\/z.op=24\/z.op=11)(a4:(z.op=9\/z.op=24)->uT a z.bL z.args.length)(bo:z.op=11->z.args.length=2/\uS a b.heap (D c.ao (D z.args 0)))
 (b0:c.ao.length=c.aQ.length/\c.br.length=c.aQ.length/\c.aQ.length<=2000)(bn:∀K∈e,K.ao.length<=1000000/\K.aQ.length<=1000000/\K.br.length<=1000000)(bD:0<=c.pc/\c.pc<=100000)(bW:e.length<=10000)(bX:b.heap.length<=1000000000)(b6:b.bd.length<=1000000000)(bS:0<=b.bE/\b.bE<=100000)
 {C:Nat->Int}(hI:ft b.heap C):
 aL cp 180 [vp q 0,fv c r v h,xv z ab aj] m λ_ M=>AZ u n m q d p (qe a b e c z) M:=by
 apply uE (q,0)
 simp -zeta only[aC,aB]
 intro G m2
 have bH:N m m2:=((N.az m).aN _).aN _
 have s1:G.size=m.size+1:=by simp[G]
 have s2:m2.size=m.size+2:=by simp[m2,s1]
 have B2:=yB.IK ao.cH.new s1 s2
 have kB:cx m2 G.size cV [.i z.op,.i z.dst,.i z.bL,.i z.bH,.s ab,.s aj]:=cx.push G _ _
 obtain⟨S2,t2⟩:=ao.ext bH
 clear_value m2
 have bt:yC a z:=λC=>let⟨A,Z,F,_⟩:=a4 C;⟨Z,A,F⟩
 have bN:(eE a.aT).length<=12:=by
  have:=qx aF.lY.types a.aT.length;rw[mz _ _ (ad _)]at this;exact this
 have bw:∀{n m t lh bx},ST u n m q bO bx bd t j b.bd lh e c r v h y->ln m j (e++[c]):=λao=>ao.cH.aA.JP bR (λK B=>by
  rcases List.mem_append.1 B with B|B
  ·exact bn K B
  ·simp at B;subst B;omega)
 refine(rc (f:=c) (S2.zk V) (ha.ext S2.cH.ct) bp V).mono ?_
 rintro _ m3 ⟨U,rfl,ow,aE⟩
 obtain⟨S3,t3⟩:=S2.ext aE
 have B3:=B2.to t3
 have bG:(cy c z.args).length=z.args.length:=by simp[cy]
 have ar:aq m3 U (cy c z.args):=aq.gQ ow V
 have bL:∀{M:J}{U:O}{aw:List Ce},ij M m3 aI 1 U aw->m.size<=M.size->U≠.nil->n U.E=0:=λho hs aa=>by
  rcases ho.E with C|C
  ·exact absurd C aa
  ·exact ao.cH.new _ V
 refine⟨t3.dB B2,U,rfl,λK wv M=>∃(aM:Nat->Nat)(a8:O)(am:List bQ)(B:List Int)(A:dk),ST u aM M q bO (SB d p b bd a8 j) bd a8 j b.bd am e c r v h y/\To n m aM M/\yB aM M [G.size,m.size]/\cx M G.size cV [.i z.op,.i z.dst,.i z.bL,.i z.bH,.s ab,.s aj]/\aq M wv B/\(B≠[]->aM wv.E=0)/\
  0<=K/\a.cB[K.toNat]? =some A/\B.length=A.params.length/\gY a z 0 B=dA A.cG 0 B/\
  (z.op=24->qe a b e c z={b with bE:=b.bE+1,heap:=am,aA:=e++[bg a K c.dst B]})/\(z.op≠24->qe a b e c z={b with bE:=b.bE+1,heap:=am,aA:=e++[{c with pc:=c.pc+1},bg a K z.dst B]}),?_,?_⟩
 ·refine⟨λak=>?_,λak=>?_⟩
  ·simp at ak
   obtain⟨F,W,a9,b7,bC,a6,bU⟩:=bo ak
   obtain⟨au,bF⟩:=bY W
   have a0:=hI.cell _ (av au)
   have b8:=(a0.rm bF).2
   have a7:=aD au
   have bq:z.args=[D z.args 0,D z.args 1]:=by
    cases L:z.args with
    |nil=>rw[L]at F;simp at F
    |cons E aw=>cases aw with
     |nil=>rw[L]at F;simp at F
     |cons H aw=>cases aw with
      |nil=>rfl
      |cons _ _=>rw[L]at F;simp at F
   have a_:cy c z.args=[D c.ao (D z.args 0),D c.ao (D z.args 1)]:=by rw[bq];rfl
   have b_:=ar.len
   have b9:=ar.cap
   have gw:af m3 U.E (U.off+Int.toNat (0:Int)*1)=some (vi (D c.ao (D z.args 0))):=ar.D (k:=0) (by rw[a_];rfl)
   have ap:=S3.rv aR V V (bw S3)
   generalize hw:D c.ao (D z.args 0)=w at*
   generalize hv:D c.ao (D z.args 1)=ai at*
   obtain⟨A,hq⟩:=ag (l:=a.cB) (k:=((aG b.heap w).kd -bz a).toNat) V
   have al:dy a ((aG b.heap w).kd -bz a)=A:=by simp[dy,hq]
   rw[al]at bC a6
   refine⟨V,V,w,gw,d,ap.aT,(fD ap W.1 au).mono ?_⟩
   rintro _ m4 ⟨f4,rfl,bT,X⟩
   obtain⟨S4,t4⟩:=S3.ext X
   have B4:=B3.to t4
   have a1:=ap.ext X
   refine⟨t4.dB B3,_,_,_,rfl,X.bZ ap.aT,(pS a1.fC.aT aF.lY.types).mono ?_⟩
   rintro _ H ⟨rfl,aN⟩
   obtain⟨Q,t5⟩:=S4.ext aN
   have B5:=B4.to t5
   have bm:=a1.ext aN
   refine⟨t5.dB B4,_,rfl,V,V,V,(fD bm W.1 au).mono ?_⟩
   rintro _ m6 ⟨f6,rfl,bv,aY⟩
   obtain⟨S6,t6⟩:=Q.ext aY
   have B6:=B5.to t6
   have aK:=(X.trans aN).trans aY
   have e1:(Int.toNat (1:Int))=1:=rfl
   have e2:(Int.toNat (U.len:Int))=U.len:=V
   rw[e1,e2]
   have bI:aq m6 (O.cut U 1 U.len 1) [ai]:=by
    have:=Te (ar.ext aK) (by rw[bG];omega);rw[a_]at this;exact this
   have bV:=a0.fl
   refine⟨t6.dB B5,_,_,_,rfl,(Ka bv bI bR).mono ?_⟩
   rintro _ m7 ⟨P,rfl,oe,aZ⟩
   obtain⟨S7,t7⟩:=S6.ext aZ
   have B7:=B6.to t7
   have ie:aq m7 P ((aG b.heap w).aR++[ai]):=aq.gQ oe bR
   have ax:n P.E=0:=by
    rcases oe.E with C|C
    ·subst C;have:=ie.len;simp at this
    ·exact ao.cH.new _ (by have:=aK.size;have:=aE.size;omega)
   have bu:P.E<m7.size:=iB ie aJ
   refine⟨t7.dB B6,P,rfl,(Am S7.cH W hI V).mono ?_⟩
   rintro _ E ⟨ac,rfl,hb,I,bs,br⟩
   have t8:To n m7 n E:=I.mono λS R=>V
   have B8:=B7.to t8
   have ba:aq E P ((aG b.heap w).aR++[ai]):=gR ie λ_=>I.dO _ bu (by rw[ax];decide)
   have bc:To n m n E:=(((((t2.trans t3).trans t4).trans t5).trans t6).trans t7).trans t8
   have bb:cx E G.size cV [.i z.op,.i z.dst,.i z.bL,.i z.bH,.s ab,.s aj]:=(kB.ext (aE.trans (aK.trans aZ))).congr (I.dO _ (B7 G.size aJ).1 (by rw[(B7 G.size aJ).2];decide))
   have e3:cR ((aG b.heap w).kd -((eE a.aT).length:Int))=(aG b.heap w).kd -bz a:=aP V V
   rw[e3]
   have aH:gY a z 0 ((aG b.heap w).aR++[ai])=dA A.cG 0 ((aG b.heap w).aR++[ai]):=by
    rw[ED V,List.length_eq_zero_iff.1 a6]
   have a5:∀am,am=apart b.heap w->qe a b e c z={b with bE:=b.bE+1,heap:=am,aA:=e++[{c with pc:=c.pc+1},bg a ((aG b.heap w).kd -bz a) z.dst ((aG b.heap w).aR++[ai])]}:=λam C=>by
    rw[qe,ae V,ae V,hw,hv,C]
   refine⟨t8.dB B7,ac,rfl,λa3=>?_,λa2=>?_⟩
   ·have aO:=hb.1 a3
    obtain⟨T,bM⟩:=S7.fS (I.mono λS R=>Or.inl R) (bs a3)
    have b4:=T.cH.heap.len
    refine⟨t,T.cH.box.bV 7,?_⟩
    intro m9
    have bl:N E m9:=(N.az E).aN _
    obtain⟨S9,Y⟩:=T.ext bl
    have B9:=B8.to Y
    clear_value m9
    have bZ:=W.1
    have bB:ix w=(w -1000).toNat:=rfl
    have e5:cR (w -1000)=w -1000:=aP V V
    rw[e5,<-bB]
    refine⟨V,V,S9.cH.heap.wr (o:=0) a7 bh,?_⟩
    intro ca
    obtain⟨bA,bj⟩:=S9.cH.heap.setCell S9.cH.new a7 0 0 (f:=.mk E.size 0 0 0) (b:=[]) ⟨rfl,aJ,aJ,aJ⟩ (λaa=>absurd rfl aa)
    obtain⟨az,aS⟩:=S9.fS (bj.mono λS R=>Or.inl R) bA
    have aW:=B9.to aS
    refine⟨aS.dB B9,t,az.cH.box.bV 7,(wU (az.cH.heap.cells bR)).mono ?_⟩
    rintro _ cb ⟨rfl,bk⟩
    obtain⟨ah,aT⟩:=az.ext bk
    have aX:=aW.to aT
    refine⟨aT.dB aW,_,rfl,ah.cH.lP (i:=7) aJ,?_⟩
    intro aQ
    obtain⟨bf,cc⟩:=ah.fS (eC.az _ ah.cH.new) (ah.cH.heap.cut (tc _ _))
    obtain⟨bi,aU⟩:=bf.iJ 7 [.s (t.cut 0 (iA (b.heap.set (ix w) ic) (b.heap.set (ix w) ic).length) 3)]
    have be:=aX.to aU
    have aV:To n E n aQ:=((Y.trans aS).trans aT).trans aU
    have bJ:aq aQ P ((aG b.heap w).aR++[ai]):=gR ba λ_=>aV.dO _ (by have:=I.size;omega) (by rw[ax];simp)
    have bK:cx aQ G.size cV [.i z.op,.i z.dst,.i z.bL,.i z.bH,.s ab,.s aj]:=bb.congr (aV.dO _ (B8 G.size aJ).1 (by rw[(B8 G.size aJ).2];simp))
    refine⟨aU.dB aX,n,_,_,_,A,bi,bc.trans aV,be,bK,bJ,λ_=>ax,a9,hq,bR,aH,λC=>V,λ_=>a5 _ ?_⟩
    rw[apart,an aO];rfl
   ·have aO:(aG b.heap w).aS≠1:=λC=>by have:=hb.2 C;rw[a2]at this;simp at this
    obtain⟨T,bM⟩:=S7.fS (I.mono λS R=>Or.inl R) (br a2)
    refine⟨n,t,_,_,A,T,bc,B8,bb,ba,λ_=>ax,a9,hq,bR,aH,λC=>V,λ_=>a5 _ ?_⟩
    rw[apart,ae aO]
  ·simp at ak
   have E:z.op=9\/z.op=24:=V
   obtain⟨A,P,I,R⟩:=a4 E
   have al:dy a z.bL=A:=by simp[dy,I]
   refine⟨n,t,b.heap,cy c z.args,A,S3,t2.trans t3,B3,kB.ext aE,ar,λaa=>bL ow V (λC=>by subst C;have:=ar.len;simp at this;exact aa (List.length_eq_zero_iff.1 this.symm)),P,I,V,by rw[Hy E,al],λC=>?_,λC=>?_⟩
   ·rw[qe,ae V,an C]
   ·rw[qe,an V]
 ·rintro K wv m4 ⟨au,aX,aT,B,A,S4,t4,B4,bf,aY,be,a9,hq,bk,aH,a6,a7⟩
  have al:dy a K=A:=by simp[dy,hq]
  have bj:=(aF.dz A (av hq)).ao
  have h3:=(aF.lY.dz A (av hq)).1
  refine⟨b.bE,S4.cH.box.bV 4,S4.cH.lP (i:=4) aJ,?_⟩
  have e3:cR (b.bE+1)=b.bE+1:=aP V V
  rw[e3]
  intro H
  obtain⟨Q,t5⟩:=S4.iJ 4 [.i (b.bE+1)]
  have B5:yB au H [G.size,m.size]:=B4.to t5
  replace t5:To au m4 au H:=t5
  have c5:eC (λS=>S=1) au m4 au H:=eC.ah S4.cH.new S4.cH.LI _ _
  have aZ:aq H wv B:=gR aY λaa=>c5.dO _ (iB aY aa) (by rw[be aa];decide)
  have bi:cx H G.size cV [.i z.op,.i z.dst,.i z.bL,.i z.bH,.s ab,.s aj]:=bf.congr (c5.dO _ (B4 G.size aJ).1 (by rw[(B4 G.size aJ).2];decide))
  replace Q:ST u au H q bO (SB d p {b with bE:=b.bE+1,heap:=aT} bd aX j) bd aX j b.bd aT e c r v h y:=Q
  refine⟨t5.dB B4,d,Q.cH.box.bV 0,p,Q.cH.box.bV 1,?_⟩
  clear_value H
  have a3:=t4.trans t5
  have kg:∀{I a1:J},N I a1->∀{ac ah:Nat}{ai:Value},af I ac ah=some ai->af a1 ac ah=af I ac ah:=λL=>L.bZ
  have bc:(gY a z 0 B).length=B.length:=CX _ _ _ _
  have bb:(bg a K z.dst B).ao=B++cZ (A.ao.toNat -B.length):=by simp[bg,al]
  have ba:(bg a K z.dst B).aQ=gY a z 0 B++cZ (A.ao.toNat -(gY a z 0 B).length):=by simp[bg,al,aH,lA]
  have a_:(bg a K z.dst B).br=cZ A.ao.toNat:=by simp[bg,al]
  have gW:∀(W az:J)(nb b1 b2 b3:Nat),N H W->oE W az b1 b2 b3 A.ao.toNat (B++cZ (A.ao.toNat -B.length)) (gY a z 0 B++cZ (A.ao.toNat -(gY a z 0 B).length)) (cZ A.ao.toNat)->W.size<=nb/\nb<az.size->nb≠b1/\nb≠b2/\nb≠b3->
   Lf q nb [G.size,m.size] z.op c.pc c.dst K 0 z.dst (.mk b1 0 A.ao.toNat A.ao.toNat) (.mk b2 0 A.ao.toNat A.ao.toNat) (.mk b3 0 A.ao.toNat A.ao.toNat) az (λ_ M=>AZ u n m q d p (qe a b e c z) M):=λW az nb b1 b2 b3 L P aS aa=>by
   obtain⟨SM,tM⟩:=Q.ext L
   refine Mp (w:={b with bE:=b.bE+1,heap:=aT}) (h:=bg a K z.dst B) (g:=z) SM (B5.to tM) (by rw[bb,ba,a_];exact P) aS aa V bD (λC M hF=>?_) (λC M hF=>?_)
   ·rw[a6 C];exact AZ.from hF (a3.trans tM)
   ·rw[a7 C];exact AZ.from hF (a3.trans tM)
  have aN:∀{W:J}{os:O},N H W->aq W os (gY a z 0 B)->aL cp 114 [.agg #[O.v d,O.v p],vi K,vi z.dst,O.v wv,O.v os] W _:=λL ho=>xz (aR.ext (Q.cH.ct.trans L)) a9 hq V z.dst (aZ.ext L) ho V bc
  have ax:∀{I T:J},N H I->N I T->∀ah,ah<6->af T G.size ah=af I G.size ah:=λZ F ah hi=>by
   have S:=bi.ext Z;match ah,hi with
   |0,_=>exact F.bZ (S.bV 0)
   |1,_=>exact F.bZ (S.bV 1)
   |2,_=>exact F.bZ (S.bV 2)
   |3,_=>exact F.bZ (S.bV 3)
   |4,_=>exact F.bZ (S.bV 4)
   |5,_=>exact F.bZ (S.bV 5)
  have IK:∀{I T:J},N H I->N I T->af T q 0=af I q 0/\af T q 1=af I q 1:=λZ F=>⟨F.bZ (Z.af (Q.cH.box.bV 0)),F.bZ (Z.af (Q.cH.box.bV 1))⟩
  have a2:∀{W:J},N H W->nL 216 [vp q 0,xv z ab aj,O.v wv] W (gY a z 0 B):=λL=>Dv (aR.ext (Q.cH.ct.trans L)) (L.af (Q.cH.box.bV 0)) (L.af (Q.cH.box.bV 1)) bt ab aj (aZ.ext L) V
  have sm:∀{I T:J},N H I->N I T->dR [G.size,m.size] I T:=λZ F=>F.dv λac hb=>Z.lt (B5 ac hb).1
  have aU:∀{I T:J}{nb:Nat},N H I->N I T->nb<I.size->dR [nb,G.size,m.size] I T:=λZ F aS=>F.dv λac hb=>by
   rcases List.mem_cons.1 hb with rfl|hb
   ·exact aS
   ·exact Z.lt (B5 ac hb).1
  refine⟨(a2 (N.az _)).mono ?_,?_⟩
  ·rintro _ ak ⟨os,rfl,oo,R⟩
   have io:aq ak os (gY a z 0 B):=aq.gQ oo V
   refine⟨sm (N.az _) R,os,rfl,ax (N.az _) R 1 V,(IK (N.az _) R).1,(IK (N.az _) R).2,?_,?_⟩
   ·refine(aN R io).mono ?_
    rintro _ ap ⟨b1,b2,b3,rfl,P⟩
    have aO:=P.ext
    have aV:=R.trans aO
    refine⟨sm R aO,_,_,_,_,_,_,rfl,?_⟩
    intro a0
    have aQ:N ap a0:=(N.az ap).aN _
    have E:=ax aV aQ
    have Y:=IK aV aQ
    refine⟨E 0 V,E 1 V,E 2 V,E 3 V,E 4 V,E 5 V,E 1 V,Y.1,Y.2,?_⟩
    intro aK
    have a5:N ap aK:=aQ.ah (ad _) _ _
    have bl:aK.size=ap.size+1:=by simp[aK,a0,ay]
    have aW:=P.lo
    exact gW ak aK ap.size b1 b2 b3 R (P.Ms a5) ⟨by have:=aO.size;omega,V⟩ ⟨V,V,V⟩
   ·intro aK
    have ap:N ak aK:=(N.az ak).aN _
    have a5:aK.size=ak.size+1:=by simp[aK]
    have E:=ax R ap
    have Y:=IK R ap
    refine⟨E 0 V,E 1 V,E 2 V,E 3 V,E 4 V,E 5 V,E 1 V,Y.1,Y.2,?_⟩
    clear_value aK
    refine(aN (R.trans ap) (io.ext ap)).mono ?_
    rintro _ a0 ⟨b1,b2,b3,rfl,P⟩
    have aO:=P.ext
    refine⟨aU (R.trans ap) aO V,_,_,_,_,_,_,rfl,?_⟩
    intro aQ
    have aW:=P.lo
    have aV:=P.box ap (nb:=ak.size) (ad _) V 0 [.i K,.i 0,.i z.dst,.s (.mk b1 0 A.ao.toNat A.ao.toNat),.s (.mk b2 0 A.ao.toNat A.ao.toNat),.s (.mk b3 0 A.ao.toNat A.ao.toNat)]
    exact gW ak aQ ak.size b1 b2 b3 R aV ⟨ad _,by simp only[aQ,ay];have:=aO.size;omega⟩ ⟨V,V,V⟩
  ·intro ak
   have R:N H ak:=(N.az H).aN _
   have a5:ak.size=H.size+1:=by simp[ak]
   have E:=ax (N.az _) R
   have Y:=IK (N.az _) R
   refine⟨E 0 V,E 1 V,E 2 V,E 3 V,E 4 V,E 5 V,E 1 V,Y.1,Y.2,?_⟩
   clear_value ak
   refine(a2 R).mono ?_
   rintro _ aV ⟨os,rfl,oo,X⟩
   have io:aq aV os (gY a z 0 B):=aq.gQ oo V
   have ap:=R.trans X
   have bl:=X.size
   refine⟨aU R X V,os,rfl,ax R X 1 V,(IK R X).1,(IK R X).2,?_⟩
   refine(aN ap io).mono ?_
   rintro _ a0 ⟨b1,b2,b3,rfl,P⟩
   have aK:=P.ext
   refine⟨aU ap aK V,_,_,_,_,_,_,rfl,?_⟩
   intro aO
   have aW:=P.lo
   have aQ:=P.box ap (nb:=H.size) (ad _) V 0 [.i K,.i 0,.i z.dst,.s (.mk b1 0 A.ao.toNat A.ao.toNat),.s (.mk b2 0 A.ao.toNat A.ao.toNat),.s (.mk b3 0 A.ao.toNat A.ao.toNat)]
   exact gW H aO H.size b1 b2 b3 (N.az _) aQ ⟨ad _,by simp only[aO,ay];have:=aK.size;omega⟩ ⟨V,V,V⟩
def K6(S:ST u n m q bO (SB d p b bd t j) bd t j b.bd b.heap e c r v h y)(ae:e.length<=100000)(w:Int)(U:∀g,e.getLast?=some g->0<=c.dst/\c.dst<g.ao.length/\c.dst<g.aQ.length):
 aL cp 181 [vp q 0,fv c r v h,vi w] m λ_ Z=>AZ u n m q d p (match e.getLast? with|none=>{b with bW:=0,value:=w,aA:=[]}|some g=>{b with aA:=e.dropLast++[g.put c.dst w (fV w)]}) Z:=by
 apply uF (q,0)
 simp -zeta only[aC,aB]
 intro f
 have Y:N m f:=(N.az m).aN _
 have s1:f.size=m.size+1:=by simp[f]
 obtain⟨k,t1⟩:=S.ext Y
 have L:n m.size=0:=S.cH.new _ (ad _)
 have C:yB n f [m.size]:=λE G=>by simp at G;subst G;exact⟨V,L⟩
 clear_value f
 have H:=k.fI.uX
 have ab:=k.fI.p7.le
 have z:cR ((j.len:Int) -1)=(e.length:Int):=by rw[aP V V];omega
 have K:Int.toNat (e.length:Int)=e.length:=V
 have F:af f q 8=some (O.v j):=k.cH.box.bV 8
 refine⟨j,F,j,F,?_⟩
 rw[z,K]
 refine⟨V,V,V,k.cH.lP (i:=8) aJ,?_⟩
 intro m2
 obtain⟨x,t2⟩:=k.cH.iJ 8 [.s (j.cut 0 e.length 6)]
 obtain⟨a,_⟩:=x.jb (eC.az _ x.new) (x.aA.Vx)
 have o:=C.to t2
 have ac:(j.cut 0 e.length 6).len=e.length:=by
  cases j with
  |nil=>simp at H
  |A2 E I l=>simp at H
  |mk E I A l=>simp[O.cut]
 have e3:Int.toNat (0:Int)=0:=rfl
 refine⟨t2.dB C,j.cut 0 e.length 6,a.box.bV 8,λA=>?_,λA=>?_⟩
 ·simp at A
  have M:e=[]:=List.length_eq_zero_iff.1 V
  subst M
  refine⟨a.lP (i:=2) (by simp[jV]),?_⟩
  intro m3
  obtain⟨l,t3⟩:=a.iJ 2 [.i 0]
  have D:=o.to t3
  refine⟨t3.dB o,l.lP (i:=3) (by simp[jV]),?_⟩
  intro P
  obtain⟨J,B⟩:=l.iJ 3 [.i w]
  exact⟨B.dB D,n,bd,t,_,J,(((t1.trans t2).trans t3).trans B)⟩
 ·simp at A
  have X:e.length≠0:=V
  have B:e≠[]:=λz=>X (by rw[z];rfl)
  obtain⟨g,l⟩:∃g,e.getLast?=some g:=⟨_,eP B⟩
  obtain⟨M,P,Q⟩:=U g l
  rw[l]
  simp only[]
  have W:e=e.dropLast++[g]:=by
   rw[eP B]at l;simp at l;rw[<-l];exact(eU B).symm
  have D:rl u n m2 q bO (SB d p b bd t (j.cut 0 e.length 6)) bd t (j.cut 0 e.length 6) b.bd b.heap (e.dropLast++[g]):=
   ⟨a.ct,a.iY,a.new,a.box,a.LI,a.bd,a.heap,by rw[<-W];exact a.aA⟩
  obtain⟨r',I,h',aa,T⟩:=D.aA.fI
  have R:e.dropLast.length<=100000:=bR
  refine(sV (a:=b) ⟨D,T⟩ R M P Q w).mono ?_
  rintro _ m3 ⟨J,t3⟩
  exact⟨t3.dB o,n,bd,t,_,J.cH,(t1.trans t2).trans t3⟩
end
end
end Go.Proofs.YtgnjacfobdjeeaaGreat
