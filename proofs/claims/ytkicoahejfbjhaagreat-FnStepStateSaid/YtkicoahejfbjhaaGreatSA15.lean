/- Part of a proof. -/
import Derived.Test.YtkicoahejfbjhaaGreatSA10
set_option linter.all false
set_option maxHeartbeats 8000000
set_option maxRecDepth 100000
namespace Go.Proofs.YtkicoahejfbjhaaGreat
open Go.Vc
section
variable{a:Nat}{c:bM}{l:List Int}{x:O}{K:O->E->Prop}{i:Int}
def MJ(l r:List Ce)(o:Nat)(c:Ce)(h:l.length<=o):(l++r).set o c=l++r.set (o -l.length) c:=by
 rw[XC _ _ h]
def lB:∀(a l r:List Ce)(o:Nat),l.length<=o->iZ (l++r) o a=l++iZ r (o -l.length) a
 |[],l,r,o,_=>rfl
 |c::a,l,r,o,h=>by
  simp only[iZ];rw[MJ _ _ _ _ h,lB a l _ (o+1) V];congr 2;omega
def Du:∀(a l r:List Ce)(o:Nat),o+a.length<=l.length->iZ (l++r) o a=iZ l o a++r
 |[],l,r,o,_=>rfl
 |c::a,l,r,o,h=>by
  simp only[aZ]at h;simp only[iZ];rw[Mi _ _ V,Du a _ _ (o+1) bE]
def BV{f:Nat}:∀(b:List (List Ce))(a:Nat)(e:List Ce)(o:Nat)(d:List Ce),(∀c∈b,c.length=f)->b[a]? =some e->o+d.length<=f->iZ b.flatten (a*f+o) d=(b.set a (iZ e o d)).flatten
 |[],a,e,o,d,_,h,_=>by simp at h
 |x::b,0,e,o,d,g,h,j=>by
  simp at h;subst h;have i:=g x bg;rw[jC,Ql,bT,Du _ _ _ _ V,iy,jC]
 |x::b,a+1,e,o,d,g,h,j=>by
  have i:=g x bg;rw[jC,lB _ _ _ _ (by rw[i,gL];omega),jm,jC];have k:(a+1)*f+o -x.length=a*f+o:=by rw[i,gL];omega
  rw[k,BV b a e o d (λc l=>g c (ai _ l)) (by simpa using h) j]
def _root_.Go.Vc.gP.set{α:Type}{e:Nat}{R:List Ce->α->Prop}{f:List (List Ce)}{l:List α}(h:gP e R f l)(a:Nat){cs:List Ce}{x:α}(m:cs.length=e)(n:R cs x):gP e R (f.set a cs) (l.set a x):=by
 refine⟨by simp[h.len],λc b=>?_,λk c y b d=>?_⟩
 .rcases cB b with b|b
  .exact h.size c b
  .rw[b];exact m
 .by_cases j:k=a
  .subst j;have g:=av b;have i:=av d;simp at g i;rw[dx g]at b;rw[dx i]at d;simp at b d;subst b;subst d;exact n
  .rw[cr (λg=>j g.symm)]at b d;exact h.dz k c y b d
def _root_.Go.Vc.gP.take{α:Type}{e:Nat}{R:List Ce->α->Prop}{b:List (List Ce)}{l:List α}(h:gP e R b l)(n:Nat):gP e R (b.take n) (l.take n):=by
 refine⟨by simp[h.len],λc a=>h.size c (dA a),λj c y a d=>?_⟩;have f:=av a;simp at f;rw[dG V]at a d;exact h.dz j c y a d
def FA{b:Nat}:∀(a:List (List Ce))(n:Nat),(∀c∈a,c.length=b)->a.flatten.take (n*b)=(a.take n).flatten
 |[],n,_=>aL
 |x::a,0,_=>aL
 |x::a,n+1,h=>by
  have d:=h x bg;rw[jC,List.take_append,nB (by rw[d,gL];omega),Nb,jC];have e:(n+1)*b -x.length=n*b:=by rw[d,gL];omega
  rw[e,FA a n λc f=>h c (ai _ f)]
section
variable{N:Nat}{d:Nat->Nat}{m:E}{b:O}{h:List bM}
def dJ.len(e:dJ N d m b h):b.len=h.length:=by
 obtain⟨f,c,a,_⟩:=e;have:=c.len;rw[cv a.size,a.len]at this;omega
def dJ.bZ(q:dJ N d m b h)(e:h[a]? =some c):∃f,af m b.D (b.off+a*3)=some (vi c.aP)/\af m b.D (b.off+a*3+1)=some (vi c.j8)/\af m b.D (b.off+a*3+2)=some (O.v f)/\ap m f c.aE/\FN N d m f c.aE:=by
 obtain⟨l,o,g,_⟩:=q;let⟨k,j⟩:=cG l a (by rw[g.len];exact av e);obtain⟨f,rfl,p,n⟩:=g.dz a k c j e;have r:=λi c e=>o.iA (a*3+i) c (fV g.size j e);exact⟨f,r 0 (.i c.aP) rfl,r 1 (.i c.j8) rfl,r 2 (.s f) rfl,p,n⟩
def dJ.cells(g:dJ N d m b h)(t:h.length<=9223372036854775807):cX m b h:=by
 have r:=g.len;obtain⟨n,e,a,_⟩:=g;refine⟨r,e.le,V,λk x j=>?_⟩;let⟨l,f⟩:=cG n k (by rw[a.len];exact av j);obtain⟨o,rfl,q,s⟩:=a.dz k l x f j;refine⟨_,⟨o,rfl,q⟩,λi c p=>?_⟩;have:=e.iA (k*3+i) c (fV a.size f p);rwa[<-dj]at this
def dJ.wr(g:dJ N d m b h){a o n:Nat}(f:a<h.length)(j:o+n<=3):fJ m b.D (b.off+a*3+o) n:=by
 obtain⟨i,e,c,_⟩:=g;rw[dj];exact e.wr (by rw[cv c.size,c.len];have:(a+1)*3<=h.length*3:=dh _ f;omega)
def dJ.D(e:dJ N d m b h){a:Nat}(i:a<h.length):d b.D=3/\b.D<m.size:=by
 have j:=e.len;obtain⟨f,c,g,_⟩:=e;have:=c.le;have:=c.D V;exact⟨this.2,this.1⟩
def Re(N:Nat)(d:Nat->Nat)(m:E)(b:O)(h:List bM)(f:O)(l:List Int):Prop:=
 l≠[]->(d f.D=0/\N<=f.D/\FB m f l)/\∀(i:Nat)(g:O),i<h.length->af m b.D (b.off+i*3+2)=some (O.v g)->g.len≠0->g.D≠f.D
def FB.fZ{b:E}{f:O}(h:gV b m aA 1 f (l.map Ce.i))(d:l≠[]):b.size<=f.D/\FB m f l:=by
 rcases h.aF with e|⟨g,c,tail,e,h2,h3,_,_⟩
 .have a:=h.len;rw[e,dY,O.OB,Ql]at a;exact absurd (List.length_eq_zero_iff.1 a) d
 .rw[e];exact⟨h2,c,tail,rfl,h3⟩
def Re.of{a:E}{w:Nat->Nat}{f:O}(q:dJ N w a b h)(s:0<h.length->m[b.D]? =a[b.D]?)(u:l≠[]->gV a m aA 1 f (l.map Ce.i))(k:l≠[]->d f.D=0)(A:N<=a.size):Re N d m b h f l:=λe=>by
 let⟨z,n⟩:=FB.fZ (u e) e;refine⟨⟨k e,V,n⟩,λi x r g p=>?_⟩;let⟨c,o⟩:=dB r;obtain⟨y,_,_,v,kf,_⟩:=q.bZ o;rw[aJ (s V),v]at g;have:=O.Bz.1 (jJ g);subst this;have t:c.aE≠[]:=λj=>by have:=kf.len;rw[j]at this;simp at this;exact p this
 have:=iE kf t;omega
def dJ.put(L:dJ N d m b h)(Z:∀g,m.size<=g->d g=0){o:Nat}{p:bM}(I:h[a]? =some c){new:List Ce}(ho:o+new.length<=3)
 (W:∀r,ap m r c.aE->FN N d m r c.aE->∃f,iZ [.i c.aP,.i c.j8,.s r] o new=[.i p.aP,.i p.j8,.s f]/\ap m f p.aE/\FN N d m f p.aE/\(f=r\/Re N d m b h f p.aE)):
 dJ N d (ah m b.D (b.off+a*3+o) new) b (h.set a p)/\dp (λk=>k=3) d m d (ah m b.D (b.off+a*3+o) new):=by
 have B:=av I
 have V:=L.D B
 have J:dp (λk=>k=3) d m d (ah m b.D (b.off+a*3+o) new):=dp.ah Z V.1 _ _
 let⟨v,E,n,F⟩:=L
 let⟨S,w⟩:=cG v a (by rw[n.len];exact B)
 obtain⟨r,rfl,X,T⟩:=n.dz a S c w I
 let⟨f,D,K,U,hd⟩:=W r X T
 have Q:∀(j:Nat)(q:List Ce)(g:O),v[j]? =some q->q[2]? =some (.s g)->j≠a->f.len≠0->g.len≠0->f.D≠g.D:=λj q g e H Y s t=>by
  rcases hd with rfl|hd
  .exact F a j _ q f g w e rfl H (λl=>Y l.symm) s t
  .have u:p.aE≠[]:=λl=>by have:=K.len;rw[l]at this;simp at this;exact s this
   refine kC ((hd u).2 j g (by rw[<-n.len];exact av e) ?_ t);have:=E.iA (j*3+2) _ (fV n.size e H);rwa[<-dj]at this
 refine⟨⟨v.set a (iZ [.i c.aP,.i c.j8,.s r] o new),?_,?_,?_⟩,J⟩
 .rw[<-BV v a _ o new n.size w ho,dj]
  exact E.set (by rw[cv n.size,n.len];have:(a+1)*3<=h.length*3:=dh _ B;omega)
 .rw[D]
  exact(n.set a rfl ⟨f,rfl,K,U⟩).mono (xN.eH J bh)
 .rw[D]
  have G:=av w
  intro i j C q x R u e z A y s t
  by_cases M:i=a
  .subst M
   rw[dx G]at u
   rw[cr y]at e
   simp at u;subst u
   simp at z;subst z
   exact Q j q R e A (λl=>y l.symm) s t
  .rw[cr (λl=>M l.symm)]at u
   by_cases P:j=a
   .subst P
    rw[dx G]at e
    simp at e;subst e
    simp at A;subst A
    exact kC (Q i C x u z y t s)
   .rw[cr (λl=>P l.symm)]at e
    exact F i j C q x R u e z A y s t
def dJ.rj(j:dJ N d m b h)(k:∀e,m.size<=e->d e=0)(g:h[a]? =some c)(n:Int):
 dJ N d (ah m b.D (b.off+a*3) [.i n]) b (h.set a {c with aP:=n})/\dp (λe=>e=3) d m d (ah m b.D (b.off+a*3) [.i n]):=
 j.put k g (o:=0) (new:=[.i n]) aL λf i e=>⟨f,rfl,i,e,Or.inl rfl⟩
def dJ.setCell(k:dJ N d m b h)(q:∀e,m.size<=e->d e=0)(g:a<h.length)(n t:Int){f:O}(j:ap m f l)(e:Re N d m b h f l):
 dJ N d (ah m b.D (b.off+a*3) [.i n,.i t,.s f]) b (h.set a ⟨n,t,l⟩)/\dp (λi=>i=3) d m d (ah m b.D (b.off+a*3) [.i n,.i t,.s f]):=by
 let⟨c,i⟩:=dB g
 exact k.put q i (o:=0) (new:=[.i n,.i t,.s f]) aL λr u s=>⟨f,rfl,j,λp=>(e p).1,Or.inr e⟩
def dJ.cut(j:dJ N d m b h){n:Nat}(v:n<=h.length):dJ N d m (b.cut 0 n 3) (h.take n):=by
 have u:=j.len;let⟨f,q,g,r⟩:=j;refine⟨f.take n,by rw[<-FA f n g.size];exact q.cut V,g.take n,λi k o p a l c e=>?_⟩;have s:i<n:=by have:=av c;simp at this;omega
 have t:k<n:=by have:=av e;simp at this;omega
 rw[dG s]at c;rw[dG t]at e;exact r i k o p a l c e
def dJ.push(F:dJ N d m b h)(Q:∀c,m.size<=c->d c=0)(S:x.len=1){p t:Int}{f:O}(R:fP m x.D x.off [.i p,.i t,.s f])(E:ap m f l)(C:Re N d m b h f l)(W:h.length<=2000000000)
 (M:∀z y w,dJ N z w y (h++[⟨p,t,l⟩])->dp (λk=>k=3) d m z w->K y w):jK m lW [.i (0:Int),.i (0:Int),.s O.nil] 40 b x K:=by
 have U:=F.len
 let⟨k,D,A,J⟩:=F
 refine iF.append (zs:=[.i 0,.i 0,.s .nil]) (c:=[.i p,.i t,.s f]) D Q (by simp[S]) R V λz y w T H=>M z y w ⟨k++[[.i p,.i t,.s f]],by simpa using T,(A.yD (cs:=[.i p,.i t,.s f]) (x:=⟨p,t,l⟩) rfl ⟨f,rfl,E,λe=>(C e).1⟩).mono (xN.eH H bh),?_⟩ H
 have G:∀(o:Nat)(q:List Ce)(c:O),k[o]? =some q->q[2]? =some (.s c)->f.len≠0->c.len≠0->f.D≠c.D:=λo q c v s e n=>by
  have P:l≠[]:=λI=>by have:=E.len;rw[I]at this;simp at this;exact e this
  refine kC ((C P).2 o c (by rw[<-A.len];exact av v) ?_ n);have:=D.iA (o*3+2) _ (fV A.size v s);rwa[<-dj]at this
 have MF:∀{i:Nat}{j:List Ce}{a:O},(k++[[.i p,.i t,.s f]])[i]? =some j->j[2]? =some (.s a)->k[i]? =some j\/(i=k.length/\a=f):=λ{i j a} g r=>by
  rcases aW i k.length with e|e
  .rw[ax e]at g;exact Or.inl g
  .rw[aI e]at g;have n:i -k.length=0:=by have:=av g;simp at this;omega
   rw[n]at g;simp at g;subst g;simp at r;exact Or.inr ⟨V,r.symm⟩
 intro i o j q a c g v r s L e n
 rcases MF g r with B|⟨B,rfl⟩
 .rcases MF v s with u|⟨u,rfl⟩
  .exact J i o j q a c B u r s L e n
  .exact kC (G i j a B r n e)
 .rcases MF v s with u|⟨u,rfl⟩
  .exact G o q c u s e n
  .omega
end
structure sU(ro:Nat->Nat)(m:E)(fr:O)(fs:List aX)(f:aX)(r o h:O)(css:List (List Ce)):Prop where
 pY:iF ro m dO 6 4 fr (css.flatten++[.i f.fE,.i f.pc,.i f.dst,.s r,.s o,.s h])
 len:css.length=fs.length
 size:∀cs∈css,cs.length=6
 dz:∀(i:Nat)(cs:List Ce)(g:aX),css[i]? =some cs->fs[i]? =some g->SJ ro m i cs g
 ak:iF ro m aA 1 (10+3*fs.length) r (f.ak.map Ce.i)
 aR:iF ro m aA 1 (11+3*fs.length) o (f.aR.map Ce.i)
 ba:iF ro m aA 1 (12+3*fs.length) h (f.ba.map Ce.i)
section
variable{d n:Nat->Nat}{m k:E}{b:O}{a:List aX}{f:aX}{r e h:O}{j:List (List Ce)}
def nE.fS(n:nE d m b (a++[f])):∃r e h j,sU d m b a f r e h j:=by
 let⟨j,u,l,v,p⟩:=n;have o:j≠[]:=λc=>by rw[c]at l;simp at l
 have c:j=j.dropLast++[j.getLast o]:=(fq o).symm;generalize j.dropLast=c0 at c;generalize j.getLast o=cl at c;subst c;have t:c0.length=a.length:=by simpa using l
 obtain⟨r,e,h,rfl,y,x,n⟩:=p a.length cl f (by rw[aI V];simp[t]) aL;refine⟨r,e,h,c0,by simpa using u,t,λk w=>v k (by simp[w]),λi k g q s=>p i k g ?_ ?_,y,x,n⟩
 .rw[ax (av q)];exact q
 .rw[ax (av s)];exact s
def sU.sS(T:sU d m b a f r e h j):nE d m b (a++[f]):=by
 refine⟨j++[[.i f.fE,.i f.pc,.i f.dst,.s r,.s e,.s h]],by simpa using T.pY,by simp[T.len],λl c=>?_,λi l o g k=>?_⟩
 .rcases List.mem_append.1 c with c|c
  .exact T.size l c
  .simp at c;subst c;rfl
 .rcases aW i a.length with n|n
  .rw[ax (by rw[T.len];exact n)]at g;rw[ax n]at k;exact T.dz i l o g k
  .have p:i=a.length:=by have:=av k;simp at this;omega
   subst p;rw[aI (by rw[T.len];omega)]at g;simp[T.len]at g k;subst g;subst k;exact⟨r,e,h,rfl,T.ak,T.aR,T.ba⟩
def sU.xO(T:sU d m b a f r e h j):b.len=a.length+1:=by
 have:=T.pY.len;simp only[be,cv T.size,T.len,aZ,eV]at this;omega
def sU.iA(T:sU d m b a f r e h j):af m b.D (b.off+a.length*6)=some (vi f.fE)/\af m b.D (b.off+a.length*6+1)=some (vi f.pc)/\af m b.D (b.off+a.length*6+2)=some (vi f.dst)/\
 af m b.D (b.off+a.length*6+3)=some (O.v r)/\af m b.D (b.off+a.length*6+4)=some (O.v e)/\af m b.D (b.off+a.length*6+5)=some (O.v h):=by
 have l:j.flatten.length=a.length*6:=by rw[cv T.size,T.len]
 have g:=λ(i:Nat)(c:Ce)(k:[Ce.i f.fE,Ce.i f.pc,Ce.i f.dst,Ce.s r,Ce.s e,Ce.s h][i]? =some c)=>T.pY.iA (a.length*6+i) c (by rw[aI V,l,Hh];exact k)
 exact⟨g 0 (.i f.fE) rfl,g 1 (.i f.pc) rfl,g 2 (.i f.dst) rfl,g 3 (.s r) rfl,g 4 (.s e) rfl,g 5 (.s h) rfl⟩
def sU.eH{p:Nat->Prop}(T:sU d m b a f r e h j)(c:dp p d m n k)(g:∀l,(l=4\/10<=l)->¬p l):sU n k b a f r e h j:=
 ⟨T.pY.eH c (g _ V),T.len,T.size,λi o q s t=>(T.dz i o q s t).eH c λl u _=>g l V,T.ak.eH c (g _ V),T.aR.eH c (g _ V),T.ba.eH c (g _ V)⟩
def sU.ext(T:sU d m b a f r e h j)(g:∀c,m.size<=c->d c=0)(c:J m k):sU d k b a f r e h j:=T.eH (dp.eG (λ_=>False) c g) λ_ _=>id
def sU.xS{p:Nat->Prop}(T:sU d m b a f r e h j)(s:dp p d m n k)(t:∀c,10<=c->c<10+3*a.length->¬p c):∀(i:Nat)(g:List Ce)(l:aX),j[i]? =some g->a[i]? =some l->SJ n k i g l:=λi g l q o=>
 (T.dz i g l q o).eH s λc u _=>t c V (oh (av o))
def sU.Ah(T:sU d m b a f r e h j)(p:∀c,m.size<=c->d c=0)(n:0<=i)(g:i<f.ak.length)(v:Int):
 sU d (ah m r.D (r.off+i.toNat*1) [.i v]) b a {f with ak:=gQ f.ak i v} r e h j/\dp (λk=>4<=k/\k≠9) d m d (ah m r.D (r.off+i.toNat*1) [.i v]):=by
 have o:r.cap≠0:=λl=>by have:=(T.ak.Dj l).1;simp at this;rw[this]at g;simp at g;omega
 have c:dp (λk=>k=10+3*a.length) d m d (ah m r.D (r.off+i.toNat*1) [.i v]):=dp.ah p (T.ak.D o).2 _ _
 exact⟨⟨T.pY.eH c V,T.len,T.size,T.xS c λk _ q=>V,T.ak.gQ n g v,T.aR.eH c V,T.ba.eH c V⟩,c.mono λk q=>V⟩
def sU.pL(T:sU d m b a f r e h j)(p:∀c,m.size<=c->d c=0)(n:0<=i)(g:i<f.aR.length)(v:Int):
 sU d (ah m e.D (e.off+i.toNat*1) [.i v]) b a {f with aR:=gQ f.aR i v} r e h j/\dp (λk=>4<=k/\k≠9) d m d (ah m e.D (e.off+i.toNat*1) [.i v]):=by
 have o:e.cap≠0:=λl=>by have:=(T.aR.Dj l).1;simp at this;rw[this]at g;simp at g;omega
 have c:dp (λk=>k=11+3*a.length) d m d (ah m e.D (e.off+i.toNat*1) [.i v]):=dp.ah p (T.aR.D o).2 _ _
 exact⟨⟨T.pY.eH c V,T.len,T.size,T.xS c λk _ q=>V,T.ak.eH c V,T.aR.gQ n g v,T.ba.eH c V⟩,c.mono λk q=>V⟩
def sU.wX(T:sU d m b a f r e h j)(p:∀c,m.size<=c->d c=0)(n:0<=i)(g:i<f.ba.length)(v:Int):
 sU d (ah m h.D (h.off+i.toNat*1) [.i v]) b a {f with ba:=gQ f.ba i v} r e h j/\dp (λk=>4<=k/\k≠9) d m d (ah m h.D (h.off+i.toNat*1) [.i v]):=by
 have o:h.cap≠0:=λl=>by have:=(T.ba.Dj l).1;simp at this;rw[this]at g;simp at g;omega
 have c:dp (λk=>k=12+3*a.length) d m d (ah m h.D (h.off+i.toNat*1) [.i v]):=dp.ah p (T.ba.D o).2 _ _
 exact⟨⟨T.pY.eH c V,T.len,T.size,T.xS c λk _ q=>V,T.ak.eH c V,T.aR.eH c V,T.ba.gQ n g v⟩,c.mono λk q=>V⟩
def sU.D(T:sU d m b a f r e h j):d b.D=4/\b.D<m.size:=by
 have:=T.xO;have:=T.pY.le;have:=T.pY.D V;exact⟨this.2,this.1⟩
def sU.NK(T:sU d m b a f r e h j)(i:∀c,m.size<=c->d c=0)(v:Int):
 sU d (ah m b.D (b.off+a.length*6+1) [.i v]) b a {f with pc:=v} r e h j/\dp (λk=>4<=k/\k≠9) d m d (ah m b.D (b.off+a.length*6+1) [.i v]):=by
 have c:dp (λk=>k=4) d m d (ah m b.D (b.off+a.length*6+1) [.i v]):=dp.ah i T.D.1 _ _
 refine⟨⟨?_,T.len,T.size,T.xS c λk l n=>V,T.ak.eH c V,T.aR.eH c V,T.ba.eH c V⟩,c.mono λk p=>V⟩
 have g:j.flatten.length=a.length*6:=by rw[cv T.size,T.len]
 have:=T.pY.set (o:=a.length*6+1) (new:=[.i v]) (by simp[g])
 rw[lB _ _ _ _ V,g,Hh]at this
 rw[dj];exact this
def sU.Vf(T:sU d m b a f r e h j):fJ m b.D (b.off+a.length*6+1) 1:=by
 rw[dj];exact T.pY.wr (by simp only[be,cv T.size,T.len,aZ,eV];omega)
end
def nE.U6{d:Nat->Nat}{m:E}{c:O}{a:List aX}{f:aX}(e:nE d m c (a++[f])):nE d m (c.cut 0 a.length 6) a:=by
 let⟨r,o,h,b,T⟩:=e.fS;have g:b.flatten.length=a.length*6:=by rw[cv T.size,T.len]
 have:=T.pY.cut (n:=a.length) (by rw[T.xO];omega);rw[np V,nB V]at this;exact⟨b,this,T.len,T.size,T.dz⟩
def nE.push{d:Nat->Nat}{m:E}{l:O}{b:List aX}(D:nE d m l b)(F:∀a,m.size<=a->d a=0)(H:x.len=1){a:aX}{c j g:O}(G:fP m x.D x.off [.i a.fE,.i a.pc,.i a.dst,.s c,.s j,.s g])
 (y:iF d m aA 1 (10+3*b.length) c (a.ak.map Ce.i))(z:iF d m aA 1 (11+3*b.length) j (a.aR.map Ce.i))(A:iF d m aA 1 (12+3*b.length) g (a.ba.map Ce.i))(N:b.length<=1000000)
 (n:∀k c e,nE k e c (b++[a])->dp (λp=>p=4) d m k e->K c e):jK m dO [.i (0:Int),.i (0:Int),.i (0:Int),.s O.nil,.s O.nil,.s O.nil] 96 l x K:=by
 let⟨v,q,s,t,J⟩:=D
 have M:l.len=b.length:=by have:=q.len;rw[cv t,s]at this;omega
 refine iF.append (zs:=[.i 0,.i 0,.i 0,.s .nil,.s .nil,.s .nil]) (c:=[.i a.fE,.i a.pc,.i a.dst,.s c,.s j,.s g]) q F (by simp[H]) G V λk L e I p2=>n k L e ?_ p2
 exact sU.sS (f:=a) (a:=b) (j:=v) (r:=c) (e:=j) (h:=g) ⟨by simpa using I,s,t,λi u w B C=>(J i u w B C).eH p2 λp n _=>V,y.eH p2 V,z.eH p2 V,A.eH p2 V⟩
end
section
variable{m:E}{d:List bM}{g:Nat->Nat}{b k N j:Nat}{q r:List Int}{c:bM}{i:Int}{e:Nat->Int}
def zG:∀(d:List bM)(k:Nat),k<=d.length->(∀c∈d.take k,c.aP≠0)->k<=dF d
 |[],k,a,_=>by simp at a;simp[a]
 |c::d,0,_,_=>dL _
 |c::d,k+1,a,b=>by
  have f:=b c aL;have:=zG d k (by simpa using a) (λe hd=>b e (by simp[hd]));simp only[dF];rw[ae f];omega
def Hz:∀(d:List bM)(k:Nat)(c:bM),(∀b∈d.take k,b.aP≠0)->d[k]? =some c->c.aP=0->dF d=k
 |[],k,c,_,a,_=>by simp at a
 |b::d,0,c,_,a,e=>by simp at a;subst a;simp[dF,e]
 |b::d,k+1,c,f,a,e=>by
  have g:=f b aL;have:=Hz d k c (λx h=>f x (by simp[h])) (by simpa using a) e;simp only[dF];rw[ae g,this]
def Gq{i:O}(g:cX m i d):Hl cg 187 [O.v i] m (vi (dF d)):=by
 apply AF;have p:=g.len;refine dU (n:=d.length) (p▸g.gS) (λk a=>J m a/\∀c∈d.take k,c.aP≠0) ⟨J.az _,aL⟩ ?_;rintro k t I μ o ⟨a,h⟩ q
 refine dit (λl=>?_) λl=>?_
 .let⟨c,f⟩:=cG d k;obtain⟨r,s,j,_⟩:=(cX.ext a g).aF f;refine⟨V,V,c.aP,by simpa using j,λb=>⟨?_,a⟩,λb=>q V _ ⟨a,bB f h (by simpa using b)⟩⟩;rw[Hz d k c h f (by simpa using b)]
 .refine⟨?_,a⟩;have:=zG d k o h;have:=qt d;have e:(i.len:Int)=(dF d:Int):=V;rw[e]
def nX(g:Nat->Nat)(b k:Nat):Nat->Nat:=λc=>if c=b then k else g c
def fH(g:Nat->Nat)(b k:Nat):nX g b k b=k:=an rfl
def eU{c:Nat}(d:c≠b):nX g b k c=g c:=ae d
def dp.nX{p:Nat->Prop}{m':E}(d:J m m')(e:∀b,m.size<=b->g b=0)(f:m.size<=b)(h:b<m'.size)(k:Nat):dp p g m (nX g b k) m':=
 ⟨d.size,λc a=>eU V,λc a=>by rw[eU V];exact e c (bH d.size a),λc a _=>d.same c a⟩
def MT{s:O}(f:dJ N g m s d)(p:∀b,m.size<=b->g b=0){c:Nat}(ha:c<=d.length)(w:Int){G:O}(T:ap m G q)(W:d.length<=2000000000)(L:q.length<=1000000000)(I:N<=m.size):
 aN cg 188 [O.v s,vi c,vi w,O.v G] m λZ S=>∃v M,Z=O.v M/\dJ N v S M (jc d c ⟨1,w,q⟩)/\HC g m v S:=by
 apply IG
 simp -zeta only[aC,aB]
 refine(gR T L).then L λE u o1 Q H=>⟨E,rfl,?_⟩
 intro X a
 have n:J u a:=((J.az u).aK _).ah (ad _) _ _
 have s3:a.size=u.size+1:=by simp[a,X,aw]
 have t:=H.trans n
 clear_value a
 have y:HC g m g a:=dp.eG _ t p
 have C:=y.new
 have A:dJ N g a s d:=f.eH (dp.eG (λ_=>False) t p) id id
 have aa:=f.len
 have R:=Q.ext n
 have P:q≠[]->g E.D=0:=λU=>by
  rcases o1.D with e|e
  .subst e;have:=Q.len;simp at this;exact absurd (List.length_eq_zero_iff.1 this.symm) U
  .exact p _ e
 have K:g u.size=0:=p _ H.size
 refine⟨λe=>?_,λe=>?_⟩
 .simp at e
  intro h
  have i:J a h:=(J.az a).aK _
  have jt:fP h a.size 0 [.i 1,.i w,.s E]:=(cE.push a _ _).iA
  have F:HC g m g h:=y.trans (dp.eG _ i C)
  have s4:h.size=a.size+1:=by simp[h]
  clear_value h
  refine dJ.push (A.eH (dp.eG (λ_=>False) i C) id id) F.new (x:=.mk a.size 0 1 1) rfl jt (R.ext i) (Re.of f (λz=>(t.trans i).same _ (f.D z).2) (λ_=>o1.ext (n.trans i)) P I) W λv r Y D l=>⟨λb j=>?_,v,r,rfl,?_,F.trans (l.mono λk B=>Or.inl B)⟩
  .simp at j;subst j
   exact l.eA _ V (by rw[K];decide)
  .rw[jc,an V];exact D
 .simp at e
  have h:c<d.length:=V
  have i:Int.toNat (c:Int)=c:=V
  rw[i]
  refine⟨V,V,A.wr (o:=0) h bh,?_⟩
  intro Y
  let⟨D,l⟩:=A.setCell C h 1 w R (Re.of f (λz=>t.same _ (f.D z).2) (λ_=>o1.ext n) P I)
  refine⟨λb j=>?_,g,s,rfl,?_,y.trans (l.mono λk B=>Or.inl B)⟩
  .simp at j;subst j
   exact l.eA _ V (by rw[K];decide)
  .rw[jc,ae V];exact D
def Me(b:d[j]? =some c)(a:c.aP≠0):jg d (j+1)=j+1:=by
 simp only[jg,b];rw[ae a]
def P8(b:d[j]? =some c)(a:c.aP=0):jg d (j+1)=jg d j:=by
 simp only[jg,b];rw[an a]
def xF{a:O}(b:cX m a d):aN cg 191 [O.v a] m λv n=>v=O.v (a.cut 0 (jg d d.length) 3)/\J m n:=by
 apply J9;have w:=b.len;have t:=b.cap;have x:=b.gS;refine⟨λi n=>J m n/\∃j:Nat,i=j/\j<=d.length/\jg d j=jg d d.length,λi _=>i.toNat,⟨J.az _,d.length,V,ad _,rfl⟩,?_⟩;rintro i r ⟨l,j,rfl,y,o⟩;have iH:jg d j=j->Value.slice=Value.slice->(0:Int)<=(0:Int)/\(0:Int)<=(j:Int)/\(j:Int)<=(a.cap:Int)/\(O.v (O.cut a (Int.toNat (0:Int)) (Int.toNat (j:Int)) 3)=O.v (a.cut 0 (jg d d.length) 3)/\J m r):=λe _=>by
  refine⟨V,V,V,?_,l⟩;rw[<-o,e];rfl
 refine⟨λf=>?_,λf=>?_⟩
 .simp only[kD,ar]at f;obtain⟨k,rfl⟩:∃k,j=k+1:=⟨j -1,V⟩;have p:cT (((k+1:Nat):Int) -1)=(k:Int):=by rw[aQ V V];omega
  rw[p];let⟨c,h⟩:=cG d k;obtain⟨s,u,q,_⟩:=(cX.ext l b).aF h;refine⟨V,V,c.aP,by simpa using q,λg=>⟨⟨l,k,rfl,V,?_⟩,by show(k:Int).toNat<((k+1:Nat):Int).toNat;omega⟩,λg=>iH (Me h (by simpa using g)) rfl⟩;rw[<-o,P8 h (by simpa using g)]
 .simp only[kD,bL]at f;have:j=0:=V;subst this;exact iH rfl rfl
def iF.U6{s:O}(d:iF g m aA 1 k s ((q++[i]).map Ce.i)):s.len=q.length+1/\af m s.D (s.off+q.length*1)=some (vi i)/\iF g m aA 1 k (s.cut 0 q.length 1) (q.map Ce.i):=by
 have a:s.len=q.length+1:=by have:=d.len;simp at this;omega
 refine⟨a,?_,?_⟩
 .have:=d.iA q.length (.i i) aL;rw[eQ];exact this
 .have:=d.cut (n:=q.length) V;rw[eQ,ft,np aL,nB aL]at this;exact this
def fL.Ro(h:fL d (λb=>e b+eB (i::r) b))(c:∀b,0<=e b)(a:fX d i)(f:(aM d i).aP=1):fL (d.set (ix i) iY) (λb=>e b+eB ((aM d i).aE.reverse++r) b):=by
 let⟨g,j⟩:=bS a;refine fL.QO h g f ?_ bh bh rfl (by simp[iY]) (by simp[iY]) (λ_=>rfl) λb=>?_
 .simp only[iS a.1,an];have:=c (ix i);have:=iC r (ix i);omega
 .simp only[iS a.1,lR,zX];omega
def fL.Pt(c:fL d (λb=>e b+eB (i::r) b))(g:∀b,0<=e b)(f:fX d i)(j:(aM d i).aP≠1):fL (fg d i) (λb=>e b+eB r b):=by
 let⟨a,h⟩:=bS f;have k:=(c.cell _ (aq a)).hi;refine fL.Kg c a h V V (λb=>?_) ?_
 .simp only[iS f.1];split<;>omega
 .have:=g (ix i);have:=iC r (ix i);omega
def fL.Rn(a:fL d (λb=>e b+eB (i::r) b))(c:i<1000):fL d (λb=>e b+eB r b):=
 a.congr λb=>by simp only[eB];rw[ae V];omega
def fL.Ps(f:fL d (λb=>e b+eB (i::r) b))(c:∀b,0<=e b)(a:1000<=i):fX d i:=
 ⟨a,f.lv _ (by simp only[iS a,an];have:=c (ix i);have:=iC r (ix i);omega)⟩
def Cb:List bM->Nat
 |[]=>0
 |c::d=>c.aE.length+Cb d
def zH:∀{d:List bM}{e:Nat}{c:bM}(b:bM),d[e]? =some c->Cb (d.set e b)+c.aE.length=Cb d+b.aE.length
 |[],e,c,b,d=>by simp at d
 |g::d,0,c,b,f=>by simp at f;subst f;simp only[iy,Cb];omega
 |g::d,e+1,c,b,f=>by
  have:=zH (d:=d) (e:=e) b (by simpa using f);simp only[jm,Cb];omega
def Ov:∀{d:List bM},(∀c∈d,c.aE.length<=3)->Cb d<=3*d.length
 |[],_=>by simp[Cb]
 |c::d,a=>by
  have:=Ov (λb hd=>a b (ai _ hd));have:=a c bg;simp only[Cb,aZ];omega
def Gn{D:O}(hh:dJ N g m D d)(hn:∀b,m.size<=b->g b=0){ws:O}(hw:ap m ws [i])(hI:fL d (λb=>e b+eB [i] b))(X:∀b,0<=e b)(aO:d.length<=2000000000):
 aN cg 145 [O.v D,O.v ws] m λaD v=>∃y al,aD=O.v al/\dJ N y v al (nm (gY d [i]))/\HC g m y v:=by
 apply AE
 refine(gR hw aL).then aL λs M o1 i1 h1=>⟨s,rfl,?_⟩
 have ao:s≠.nil:=λe=>by subst e;have:=i1.len;simp at this
 have G:m.size<=s.D/\s.D<M.size:=by
  rcases o1.D with e|e
  .exact absurd e ao
  .rcases o1.lt with z|z
   .exact absurd z ao
   .exact⟨e,z⟩
 have c1:HC g m (nX g s.D 6) M:=dp.nX h1 hn G.1 G.2 6
 have a1:iF (nX g s.D 6) M aA 1 6 s ([i].map Ce.i):=iF.fZ o1 λ_=>fH _ _ _
 have ay:dJ N (nX g s.D 6) M D d:=hh.eH (dp.nX (p:=λ_=>False) h1 hn G.1 G.2 6) id id
 have aI:=Ov λc a=>(hI.cell c a).fl
 have aJ:=hh.len
 refine OX (γ:=List bM×List Int) (λh E v=>∃y,dJ N y v D h.1/\iF y v aA 1 6 E (h.2.reverse.map Ce.i)/\HC g m y v/\fL h.1 (λb=>e b+eB h.2 b)/\gY h.1 h.2=gY d [i]/\h.1.length=d.length/\h.2.length+Cb h.1<=1+Cb d) (λh=>Ca h.1+h.2.length) (d,[i])
  ⟨_,ay,a1,c1,hI,rfl,rfl,aL⟩ ?_
 rintro⟨a,st⟩ E m2 aE μ ⟨q,A,a2,h,t,u,K,ae⟩ ab
 simp only[]at A a2 t u K ae
 have au:E.len=st.length:=by have:=a2.len;simp at this;omega
 refine⟨λS=>?_,λS=>?_⟩
 .simp only[kD,ar]at S
  cases st with
  |nil=>simp at au;omega
  |cons x r=>
   simp only[Qi]at a2
   let⟨p1,p2,p3⟩:=a2.U6
   simp only[aZ,mL]at au p1 p2 p3 ae
   have e1:cT ((E.len:Int) -1)=(r.length:Int):=by rw[aQ V V];omega
   have aF:=a2.le
   rw[e1]
   have z:Int.toNat (0:Int)=0:=rfl
   have e3:Int.toNat (r.length:Int)=r.length:=V
   rw[z,e3]
   refine⟨V,V,x,p2,V,V,V,(dV _ _).then λb P hb n=>⟨b,rfl,λax=>?_,λaw=>?_⟩⟩
   .have hx:=hb.1 ax
    have C:=t.Ps X hx
    let⟨j,am⟩:=bS C
    have ah:=av j
    have aB:ix x=(x -1000).toNat:=rfl
    have aK:=(t.cell _ (aq j)).hi
    have e4:cT (x -1000)=x -1000:=aQ V V
    rw[e4,<-aB]
    have H:HC q m2 q P:=dp.eG _ n h.new
    have Z:dJ N q P D a:=A.eH (dp.eG (λ_=>False) n h.new) id id
    have a3:=p3.eH (dp.eG (λ_=>False) n h.new) id
    obtain⟨f0,g0,_,_,_,_⟩:=Z.bZ j
    refine⟨V,V,_,g0,V,V,Z.wr (o:=0) ah bh,?_⟩
    have e5:cT ((aM a x).aP -1)=(aM a x).aP -1:=aQ V V
    rw[e5]
    intro m4
    let⟨aa,c4⟩:=Z.rj H.new j ((aM a x).aP -1)
    have a4:=a3.eH c4 bh
    have R:HC g m q m4:=(h.trans H).trans (c4.mono λk B=>Or.inl B)
    have W:=kj (d:=iY) j
    simp only[an am,iY]at W
    simp at W
    have aC:(a.set (ix x) {aM a x with aP:=(aM a x).aP -1})[ix x]? =some {aM a x with aP:=(aM a x).aP -1}:=eI j
    obtain⟨f1,k0,_,k2,kf,kr⟩:=aa.bZ aC
    refine⟨V,V,_,k0,λT=>?_,λT=>?_⟩
    .simp only[aG]at T
     have ak:(aM a x).aP=1:=V
     have aH:=(t.cell _ (aq j)).fl
     have Y:=kf.len
     simp only[]at Y kf kr
     have I:=zH iY j
     simp only[iY,eV]at I
     refine⟨V,V,f1,k2,iF.append (zs:=[.i 0]) (c:=(aM a x).aE.map Ce.i) a4 R.new (by simp[Y]) kf.HY ?_ λac aR Q q1 q2=>?_⟩
     .have:(E.cut 0 r.length 1).len=r.length:=by have:=a4.len;simp at this;omega
      rw[this,Y];omega
     have az:=aa.eH q2 bh bh
     have F:HC g m ac Q:=R.trans (q2.mono λk B=>Or.inr (Or.inr B))
     intro m6
     have U:J Q m6:=(J.az Q).aK _
     have af:=az.eH (dp.eG (λ_=>False) U F.new) id id
     have a6:=q1.eH (dp.eG (λ_=>False) U F.new) id
     have ad:HC g m ac m6:=F.trans (dp.eG _ U F.new)
     clear_value m6
     have ai:ix x<(a.set (ix x) {aM a x with aP:=(aM a x).aP -1}).length:=by simpa using ah
     refine⟨V,V,af.wr (o:=0) ai bh,?_⟩
     intro m7
     let⟨ag,c7⟩:=af.setCell ad.new ai 0 0 (f:=.mk Q.size 0 0 0) (l:=[]) ⟨rfl,aL,aL,aL⟩ (λL=>absurd rfl L)
     rw[Xn]at ag
     refine ab (a.set (ix x) iY,(aM a x).aE.reverse++r) _ _ ⟨ac,ag,?_,ad.trans (c7.mono λk B=>Or.inl B),t.Ro X C ak,?_,by simpa using K,?_⟩ ?_
     .have:=a6.eH c7 bh
      simpa using this
     .rw[<-sR C ak];exact u
     .simp only[be,mL]
      have B:Cb (a.set (ix x) iY)+(aM a x).aE.length=Cb a:=by simpa[iY]using I
      omega
     .simp only[be,mL,aZ]
      have B:Ca (a.set (ix x) iY)+((aM a x).aP.toNat+(aM a x).aE.length)=Ca a:=by simpa[iY]using W
      omega
    .simp only[aj]at T
     have L:(aM a x).aP≠1:=V
     have B:=kj (d:={aM a x with aP:=(aM a x).aP -1}) j
     simp only[an am]at B
     rw[an V]at B
     have I:=zH {aM a x with aP:=(aM a x).aP -1} j
     refine ab (fg a x,r) _ _ ⟨q,aa,a4,R,t.Pt X C L,?_,by simpa[fg]using K,?_⟩ ?_
     .rw[<-qe C L];exact u
     .simp only[fg];simp only[]at I;omega
     .simp only[fg,aZ];omega
   .have hx:=fb hb aw
    have H:HC q m2 q P:=dp.eG _ n h.new
    refine ab (a,r) _ _ ⟨q,A.eH (dp.eG (λ_=>False) n h.new) id id,p3.eH (dp.eG (λ_=>False) n h.new) id,h.trans H,t.Rn V,?_,K,by simp only[];omega⟩ aL
    rw[<-qj (w:=x) (λj=>hx j.1)];exact u
 .simp only[kD,bL]at S
  have j:st=[]:=List.length_eq_zero_iff.1 V
  subst j
  rw[sQ]at u
  subst u
  refine(xF (A.cells V)).mono ?_
  rintro _ P ⟨rfl,n⟩
  refine⟨_,rfl,q,_,rfl,?_,h.trans (dp.eG _ n h.new)⟩
  exact(A.eH (dp.eG (λ_=>False) n h.new) id id).cut (tK _ _)
end
section
variable{i:Int}
structure ST(m0:E)(ro:Nat->Nat)(m:E)(mb e:Nat)(bx:List Ce)(aT hp fr:O)(lo:List Int)(lh:List bM)(fs:List aX)(f:aX)(r o h:O)(css:List (List Ce)):Prop where
 cQ:vw m0 ro m mb e bx aT hp fr lo lh (fs++[f])
 fS:sU ro m fr fs f r o h css
section
variable{g:E}{a t:Nat->Nat}{m s:E}{d e:Nat}{j:List Ce}{aT l b:O}{q:List Int}{n:List bM}{c:List aX}{f:aX}{r o h:O}{k:List (List Ce)}
def ST.ext(S:ST g a m d e j aT l b q n c f r o h k)(i:J m s):ST g a s d e j aT l b q n c f r o h k/\To a m a s:=
 ⟨⟨(S.cQ.ext i).1,S.fS.ext S.cQ.new i⟩,(S.cQ.ext i).2⟩
def ST.Ah(S:ST g a m d e j aT l b q n c f r o h k){i:Int}(s:0<=i)(t:i<f.ak.length)(v:Int):ST g a (ah m r.D (r.off+i.toNat*1) [.i v]) d e j aT l b q n c {f with ak:=gQ f.ak i v} r o h k/\To a m a (ah m r.D (r.off+i.toNat*1) [.i v]):=by
 let⟨p,u⟩:=S.fS.Ah S.cQ.new s t v;let⟨w,x⟩:=S.cQ.jI u p.sS;exact⟨⟨w,p⟩,x⟩
def ST.pL(S:ST g a m d e j aT l b q n c f r o h k){i:Int}(s:0<=i)(t:i<f.aR.length)(v:Int):ST g a (ah m o.D (o.off+i.toNat*1) [.i v]) d e j aT l b q n c {f with aR:=gQ f.aR i v} r o h k/\To a m a (ah m o.D (o.off+i.toNat*1) [.i v]):=by
 let⟨p,u⟩:=S.fS.pL S.cQ.new s t v;let⟨w,x⟩:=S.cQ.jI u p.sS;exact⟨⟨w,p⟩,x⟩
def ST.wX(S:ST g a m d e j aT l b q n c f r o h k){i:Int}(s:0<=i)(t:i<f.ba.length)(v:Int):ST g a (ah m h.D (h.off+i.toNat*1) [.i v]) d e j aT l b q n c {f with ba:=gQ f.ba i v} r o h k/\To a m a (ah m h.D (h.off+i.toNat*1) [.i v]):=by
 let⟨p,u⟩:=S.fS.wX S.cQ.new s t v;let⟨w,x⟩:=S.cQ.jI u p.sS;exact⟨⟨w,p⟩,x⟩
def ST.NK(S:ST g a m d e j aT l b q n c f r o h k)(v:Int):ST g a (ah m b.D (b.off+c.length*6+1) [.i v]) d e j aT l b q n c {f with pc:=v} r o h k/\To a m a (ah m b.D (b.off+c.length*6+1) [.i v]):=by
 let⟨i,p⟩:=S.fS.NK S.cQ.new v;let⟨s,t⟩:=S.cQ.jI p i.sS;exact⟨⟨s,i⟩,t⟩
def ST.jv(S:ST g a m d e j aT l b q n c f r o h k)(i:Nat)(s:List Ce):ST g a (ah m d i s) d e (iZ j i s) aT l b q n c f r o h k/\To a m a (ah m d i s):=by
 let⟨u,v⟩:=S.cQ.jv i s;exact⟨⟨u,S.fS.eH (dp.ah (p:=λt=>t=1) S.cQ.new S.cQ.Qm i s) λt w=>V⟩,v⟩
def ST.gA(S:ST g a m d e j aT l b q n c f r o h k)(i:HC a m t s){p:O}{u:List bM}(x:dJ g.size t s p u):ST g t s d e j aT p b q u c f r o h k/\To a m t s:=by
 let⟨v,w⟩:=S.cQ.gA i x;exact⟨⟨v,S.fS.eH i λz y=>V⟩,w⟩
def ST.H9(S:ST g a m d e j aT l b q n c f r o h k)(i:dp (λp=>p=2) a m t s){v:O}{u:List Int}(y:iF t s aA 1 2 v (u.map Ce.i)):ST g t s d e j v l b u n c f r o h k/\To a m t s:=by
 let⟨w,x⟩:=S.cQ.H9 i y;exact⟨⟨w,S.fS.eH i λp z=>V⟩,x⟩
end
def dp.Q0{c f:Nat->Nat}{m a:E}(h:To c m f a){b:Nat}(e:b<m.size)(d:c b=0):eF [b] m a:=h.dv (by simpa using⟨e,d⟩)
abbrev SB(d p:O)(s:St)(aT b a:O):List Ce:=[.s d,.s p,.i s.cz,.i s.value,.i s.bu,.i s.dR,.s aT,.s b,.s a]
def yl(f:E)(h:Nat->Nat)(m:E)(g:Nat)(e p:O)(s:St)(c:E):Prop:=
 ∃d aT b a,vw f d c g bJ (SB e p s aT b a) aT b a s.aT s.heap s.ao/\To h m d c
def yl.from{b:E}{f g:Nat->Nat}{m c a:E}{e:Nat}{d p:O}{s:St}(i:yl b g c e d p s a)(n:To f m g c):yl b f m e d p s a:=
 let⟨o,aT,l,h,j,k⟩:=i
 ⟨o,aT,l,h,j,n.trans k⟩
section
variable{k:E}{e:Nat->Nat}{m:E}{g:Nat}{d p aT b c:O}{a:St}{j:List aX}{f:aX}{r l h:O}{q:List (List Ce)}
def jU(S:ST k e m g bJ (SB d p a aT b c) aT b c a.aT a.heap j f r l h q)(u:j.length<=100000)(v:Int):
 aN cg 144 [vp g 0,vi v] m λw n=>ST k e n g bJ (SB d p a aT b c) aT b c a.aT a.heap j {f with pc:=v} r l h q/\To e m e n:=by
 apply oR (g,0)
 have i:af m g 8=some (O.v c):=S.cQ.box.bZ 8
 have t:=S.fS.xO
 have o:cT ((c.len:Int) -1)=(j.length:Int):=by rw[aQ V V];omega
 have s:Int.toNat (j.length:Int)=j.length:=V
 refine⟨c,i,c,i,?_⟩
 rw[o,s]
 exact⟨V,V,S.fS.Vf,S.NK v⟩
def Bg(S:ST k e m g bJ (SB d p a aT b c) aT b c a.aT a.heap j f r l h q)(P:j.length<=100000)(n:0<=i)(x:i<f.ak.length)(y:i<f.aR.length)(w:Int)(W:0<=f.pc/\f.pc<=100000):
 aN cg 137 [vp g 0,vi i,vi w] m λ_ A=>ST k e A g bJ (SB d p a aT b c) aT b c a.aT a.heap j (aX.put {f with pc:=f.pc+1} i w 0) r l h q/\To e m e A:=by
 apply uf (g,0)
 simp -zeta only[aC,aB]
 have z:af m g 8=some (O.v c):=S.cQ.box.bZ 8
 have T:=S.fS.xO
 have G:cT ((c.len:Int) -1)=(j.length:Int):=by rw[aQ V V];omega
 have H:Int.toNat (j.length:Int)=j.length:=V
 let⟨K,g1,g2,L,M,N⟩:=S.fS.iA
 have X:r.len=f.ak.length:=by have:=S.fS.ak.len;simp at this;omega
 have U:l.len=f.aR.length:=by have:=S.fS.aR.len;simp at this;omega
 refine⟨c,z,c,z,?_⟩
 rw[G,H]
 refine⟨V,V,_,K,_,g1,_,g2,r,L,l,M,h,N,?_⟩
 intro R o
 have Q:J m o:=((J.az m).aK _).ah (ad _) _ _
 have Z:o.size=m.size+1:=by simp[o,R,aw]
 have s:e m.size=0:=S.cQ.new _ (ad _)
 let⟨u,t2⟩:=S.ext Q
 clear_value o
 refine⟨n,V,u.fS.ak.NP n x,?_⟩
 intro t
 let⟨v,t3⟩:=u.Ah n x w
 have s3:t.size=o.size:=aw _ _ _ _
 refine⟨t3.Q0 (show m.size<o.size by omega) s,n,V,v.fS.aR.NP n y,?_⟩
 intro B
 let⟨E,C⟩:=v.pL n (by simpa using y) 0
 have s4:B.size=t.size:=aw _ _ _ _
 have I:cT (f.pc+1)=f.pc+1:=aQ V V
 rw[I]
 refine⟨C.Q0 (show m.size<t.size by omega) s,(jU E P (f.pc+1)).mono ?_⟩
 rintro _ Y ⟨F,D⟩
 exact⟨D.Q0 (show m.size<B.size by omega) s,F,((t2.trans t3).trans C).trans D⟩
def tE(S:ST k e m g bJ (SB d p a aT b c) aT b c a.aT a.heap j f r l h q)(ab:j.length<=100000)(n:0<=i)(D:i<f.ak.length)(s:i<f.aR.length)(w:Int):
 aN cg 147 [vp g 0,vi i,vi w] m λ_ H=>ST k e H g bJ (SB d p a aT b c) aT b c a.aT a.heap j (f.put i w (gG w)) r l h q/\To e m e H:=by
 apply ue (g,0)
 simp -zeta only[aC,aB]
 have G:af m g 8=some (O.v c):=S.cQ.box.bZ 8
 have aa:=S.fS.xO
 have N:cT ((c.len:Int) -1)=(j.length:Int):=by rw[aQ V V];omega
 have P:Int.toNat (j.length:Int)=j.length:=V
 let⟨R,g1,g2,T,U,W⟩:=S.fS.iA
 have ag:r.len=f.ak.length:=by have:=S.fS.ak.len;simp at this;omega
 have ac:l.len=f.aR.length:=by have:=S.fS.aR.len;simp at this;omega
 refine⟨c,G,c,G,?_⟩
 rw[N,P]
 refine⟨V,V,_,R,_,g1,_,g2,r,T,l,U,h,W,?_⟩
 intro m1 o
 have Z:J m o:=((J.az m).aK _).ah (ad _) _ _
 have s2:o.size=m.size+1:=by simp[o,m1,aw]
 have t:e m.size=0:=S.cQ.new _ (ad _)
 let⟨A,t2⟩:=S.ext Z
 clear_value o
 refine⟨n,V,A.fS.ak.NP n D,?_⟩
 intro x
 let⟨B,t3⟩:=A.Ah n D w
 have s3:x.size=o.size:=aw _ _ _ _
 refine⟨t3.Q0 (show m.size<o.size by omega) t,n,V,B.fS.aR.NP n s,?_⟩
 intro I
 let⟨L,y⟩:=B.pL n (by simpa using s) 0
 have s4:I.size=x.size:=aw _ _ _ _
 refine⟨y.Q0 (show m.size<x.size by omega) t,(dV _ _).mono ?_⟩
 rintro _ m5 ⟨M,rfl,F,E⟩
 let⟨u,z⟩:=L.ext E
 have s5:=E.size
 refine⟨z.Q0 (show m.size<I.size by omega) t,M,rfl,λY=>?_,λX=>?_⟩
 .refine⟨n,V,u.fS.aR.NP n (by simpa[jR]using s),?_⟩
  intro m6
  let⟨C,K⟩:=u.pL n (by simpa[jR]using s) 1
  refine⟨K.Q0 (show m.size<m5.size by omega) t,?_,(((t2.trans t3).trans y).trans z).trans K⟩
  have Q:gQ (gQ f.aR i 0) i 1=gQ f.aR i 1:=by simp[gQ,Xn]
  have v:gG w=1:=by rw[gG,an (F.1 Y)]
  simp only[Q]at C
  rw[v];exact C
 .refine⟨?_,((t2.trans t3).trans y).trans z⟩
  have v:gG w=0:=by rw[gG,ae (fb F X)]
  rw[v];exact u
def vT:∀(a:List Int)(g:List bM),(jd g a).length=g.length
 |[],g=>rfl
 |w::a,g=>by rw[jd,vT a];simp[mO]
def Eb:∀(a:List Int)(g:List bM)(w:Int),jd g (a++[w])=mO (jd g a) w
 |[],g,w=>rfl
 |v::a,g,w=>by rw[cZ,jd,Eb a,jd]
def Aa:∀(a:List Int)(g:List bM)(n:Int),(∀c∈g,-10<=c.aP/\c.aP<=n)->∀c∈jd g a,-10<=c.aP/\c.aP<=n+a.length
 |[],g,n,h,c,b=>by have:=h c b;simp;omega
 |w::a,g,n,h,c,b=>by
  have:=Aa a (mO g w) (n+1) (λd hd=>by
   rcases nJ hd with rfl|⟨i,_,f⟩
   .simp only[aM];cases e:g[ix w]? with
    |none=>
     unfold mO at hd;rw[rE (List.getElem?_eq_none_iff.1 e)]at hd;have:=h _ hd;simp only[aM,e]at this⊢;omega
    |some x=>have:=h x (aq e);simp only[vo];omega
   .have:=h d (aq f);omega) c b
  simp only[aZ];omega
def Dv(L:vw k e m g bJ (SB d p a aT b c) aT b c a.aT a.heap j){u:O}{l:List Int}(v:ap m u l)(P:l≠[]->e u.D=0)(K:∀w∈l,1000<=w/\ix w<a.heap.length)(H:∀h∈a.heap,-10<=h.aP/\h.aP<=999999)(Z:l.length<=1000000)(W:a.heap.length<=2000000000):
 aN cg 143 [vp g 0,O.v u] m λ_ s=>dJ k.size e s b (jd a.heap l)/\dp (λf=>f=3) e m e s:=by
 apply vh (g,0)
 have aa:=v.len
 have I:af m g 7=some (O.v b):=L.box.bZ 7
 refine dU (n:=l.length) V (λf s=>dJ k.size e s b (jd a.heap (l.take f))/\dp (λf=>f=3) e m e s) ⟨L.heap,dp.az _ L.new⟩ ?_
 rintro f A S μ X ⟨i,q⟩ R
 refine dit (λF=>?_) λF=>?_
 .let⟨x,r⟩:=cG l f
  let⟨ab,z⟩:=K x (aq r)
  have y:l≠[]:=λB=>by rw[B]at r;simp at r
  have Q:ap A u l:=iP v λ_=>q.eA _ (iE v y) (by rw[P y];decide)
  have w:af A g 7=some (O.v b):=by rw[aJ (q.eA _ L.box.lt (by rw[L.Qm];decide))];exact I
  have N:=i.len
  rw[vT]at N
  let⟨h,t⟩:=cG (jd a.heap (l.take f)) (ix x) (by rw[vT];exact z)
  obtain⟨T,E,_⟩:=i.bZ t
  have M:ix x=(x -1000).toNat:=rfl
  have C:cT (x -1000)=x -1000:=aQ V V
  have U:=Aa (l.take f) a.heap 999999 H h (aq t)
  have Y:((l.take f).length:Int)<=1000000:=bE
  have D:cT (h.aP+1)=h.aP+1:=aQ V V
  refine⟨V,V,x,by simpa using Q.aF r,b,w,b,w,?_⟩
  rw[C,<-M]
  refine⟨V,V,h.aP,E,V,V,i.wr (o:=0) (by rw[vT];exact z) bh,?_⟩
  rw[D]
  let⟨J,G⟩:=i.rj q.new t (h.aP+1)
  refine R V _ ⟨?_,q.trans G⟩
  rw[aU r,Eb]
  have:aM (jd a.heap (l.take f)) x=h:=by simp[aM,t]
  unfold mO
  rw[this];exact J
 .rw[bX V]at i
  exact⟨i,q⟩
def Bl(L:vw k e m g bJ (SB d p a aT b c) aT b c a.aT a.heap j){w:Int}(z:fX a.heap w){i:Nat->Int}(q:fL a.heap i)(M:a.heap.length<=2000000000):
 aN cg 190 [vp g 0,vi w] m λD t=>∃h:Bool,D=vb h/\(h=true<->(aM a.heap w).aP=1)/\dp (λx=>x=3) e m e t/\(h=true->dJ k.size e t b a.heap)/\(h=false->dJ k.size e t b (jd (fg a.heap w) (kU (aM a.heap w).aE))):=by
 apply ug (g,0)
 let⟨f,ad⟩:=bS z
 have P:=av f
 have ab:=L.heap.len
 have N:ix w=(w -1000).toNat:=rfl
 have aa:=z.1
 have G:cT (w -1000)=w -1000:=aQ V V
 have r:af m g 7=some (O.v b):=L.box.bZ 7
 have ac:=(q.cell _ (aq f)).hi
 have H:cT ((aM a.heap w).aP -1)=(aM a.heap w).aP -1:=aQ V V
 let⟨U,v,g1,g2,W,X⟩:=L.heap.bZ f
 rw[G,<-N]
 refine⟨b,r,V,V,_,v,λn=>⟨true,rfl,by simpa using n,dp.az _ L.new,λ_=>L.heap,sx⟩,λn=>?_⟩
 simp only[aj]at n
 refine⟨b,r,b,r,V,V,_,v,V,V,L.heap.wr (o:=0) P bh,?_⟩
 rw[H]
 intro m1
 let⟨y,l⟩:=L.heap.rj L.new f ((aM a.heap w).aP -1)
 let⟨I,k0,k1,T,kf,kr⟩:=y.bZ (eI f)
 let⟨u,t1⟩:=L.gA (l.mono λx A=>Or.inl A) y
 have Z:=(q.cell _ (aq f)).fl
 refine⟨b,u.box.bZ 7,V,V,I,T,?_⟩
 refine(oF kf (by simp only[];omega)).then (by have:=nM (aM a.heap w).aE;simp only[];omega) λC m2 o2 B x=>⟨C,rfl,?_⟩
 let⟨E,t2⟩:=u.ext x
 have R:kU (aM a.heap w).aE≠[]->e C.D=0:=λQ=>by
  rcases o2.D with i|i
  .subst i;have:=B.len;simp at this;exact absurd (List.length_eq_zero_iff.1 this.symm) Q
  .exact l.new _ i
 have:=nM (aM a.heap w).aE
 refine(Dv (a:={a with heap:=fg a.heap w}) (j:=j) E B R (λD S=>?_) (λF J=>?_) (by simp only[];omega) (by simpa[fg]using M)).mono ?_
 .let⟨K,A⟩:=lA.1 S
  exact⟨A,by simpa[fg]using av (bS (q.field (aq f) K A)).1⟩
 .rcases nJ J with rfl|⟨h,_,A⟩
  .simp only[];omega
  .have:=q.cell F (aq A);have K:=this.lo;have Y:=this.hi;omega
 .rintro _ Y ⟨K,A⟩
  exact⟨false,rfl,by simpa using n,(l.trans (dp.eG _ x l.new)).trans A,sx,λ_=>K⟩
end
end
section
variable{q:Nat->Nat}{c:E}{e:Nat}{g:List Ce}{x:Instr}{a j:O}{b:Int}
def zi(c:Nat->Nat)(m:E)(a:List Nat):Prop:=∀b∈a,b<m.size/\c b=0
def zi.to{p:Nat->Prop}{e:Nat->Nat}{m:E}{d:List Nat}(h:zi e m d)(t:dp p e m q c):zi q c d:=λb a=>⟨aO (h b a).1 t.size,by rw[t.gT b (h b a).1];exact(h b a).2⟩
def dp.dH{b:Nat->Nat}{m:E}(t:To b m q c){a:List Nat}(h:zi b m a):eF a m c:=t.dv h
def zi.Ka{f:Nat->Nat}{m d e:E}(c:∀b,m.size<=b->f b=0)(g:d.size=m.size+1)(h:e.size=m.size+2):zi f e [d.size,m.size]:=λb a=>by
 simp at a;rcases a with rfl|rfl
 .exact⟨V,c _ V⟩
 .exact⟨V,c _ V⟩
noncomputable def nt (s:St) (a:List aX) (f:aX) (x:Instr) (t:Int):St:=
 open Classical in
 if x.bY≠0/\aF f.ba (x.bY -1)≠0 then
  {s with heap:=s.heap.set (ix (aF f.ba (x.bY -1))) ⟨1,t,cL f x.args⟩,ao:=a++[aX.put {f with pc:=f.pc+1,ba:=gQ f.ba (x.bY -1) 0} x.dst (aF f.ba (x.bY -1)) 1]}
 else{s with heap:=jc s.heap (dF s.heap) ⟨1,t,cL f x.args⟩,ao:=a++[aX.put {f with pc:=f.pc+1} x.dst (1000+dF s.heap) 1]}
section
variable{F:E}{A:Nat->Nat}{v:E}{D:Nat}{d p aT y B:O}{u:St}{C:List aX}{t:aX}{r z h:O}{G:List (List Ce)}
def ST.Ac{b:List Int}{a:List bM}(S:ST F A v D e g aT y B b a C t r z h G)(c:t.ak.length<=1000000):ap v r t.ak:=S.fS.ak.nH V
def ST.Jm{b:List Int}{a:List bM}(S:ST F A v D e g aT y B b a C t r z h G)(c:t.aR.length<=1000000):ap v z t.aR:=S.fS.aR.nH V
def ST.QP{b:List Int}{a:List bM}(S:ST F A v D e g aT y B b a C t r z h G)(c:t.ba.length<=1000000):ap v h t.ba:=S.fS.ba.nH V
def uC(S:ST F A v D bJ (SB d p u aT y B) aT y B u.aT u.heap C t r z h G)(ha:ap F a x.args)(ah:∀b∈x.args,0<=b/\b<t.ak.length)(av:x.args.length<=4)(g:Int)
 (az:t.ak.length=t.aR.length/\t.ba.length=t.aR.length/\t.aR.length<=2000)(ai:0<=x.dst/\x.dst<t.aR.length)(ay:0<=x.bY/\x.bY<=t.ba.length)(aA:0<=t.pc/\t.pc<=100000)(ab:C.length<=100000)(aw:u.heap.length<=1000000000)
 (ak:∀w∈t.ba,w≠0->1000<=w/\ix w<u.heap.length):
 aN cg 139 [vp D 0,fv t r z h,xv x a j,vi g] v λ_ c=>yl F A v D d p (nt u C t x g) c:=by
 apply rS (D,0)
 simp -zeta only[aC,aB]
 intro w E
 have aq:J v E:=((J.az v).aK _).aK _
 have s1:w.size=v.size+1:=by simp[w]
 have s2:E.size=v.size+2:=by simp[E,s1]
 have T:=zi.Ka S.cQ.new s1 s2
 let⟨I,t2⟩:=S.ext aq
 clear_value E
 have ax:h.len=t.ba.length:=by have:=S.fS.ba.len;simp at this;omega
 have q:∀{A v t},ST F A v D bJ (SB d p u aT y B) aT y B u.aT u.heap C t r z h G->af v D 7=some (O.v y):=λS=>S.cQ.box.bZ 7
 refine⟨y,q I,(Gq (I.cQ.heap.cells V)).mono ?_⟩
 rintro _ L ⟨rfl,ac⟩
 let⟨o,t3⟩:=I.ext ac
 have H:=T.to t3
 refine⟨t3.dH T,_,rfl,λaa c=>∃(b:Nat)(e:aX),aa=b/\ST F A c D bJ (SB d p u aT y B) aT y B u.aT u.heap C e r z h G/\To A v A c/\zi A c [w.size,v.size]/\b<=u.heap.length/\
  e.ak=t.ak/\e.aR=t.aR/\e.pc=t.pc/\nt u C t x g={u with heap:=jc u.heap b ⟨1,g,cL t x.args⟩,ao:=C++[aX.put {e with pc:=t.pc+1} x.dst (1000+b) 1]},?_,?_⟩
 .have none:¬(x.bY≠0/\aF t.ba (x.bY -1)≠0)->∃(b:Nat)(e:aX),((dF u.heap:Nat):Int)=b/\ST F A L D bJ (SB d p u aT y B) aT y B u.aT u.heap C e r z h G/\To A v A L/\zi A L [w.size,v.size]/\b<=u.heap.length/\
   e.ak=t.ak/\e.aR=t.aR/\e.pc=t.pc/\nt u C t x g={u with heap:=jc u.heap b ⟨1,g,cL t x.args⟩,ao:=C++[aX.put {e with pc:=t.pc+1} x.dst (1000+b) 1]}:=λU=>
   ⟨_,t,rfl,o,t2.trans t3,H,qt _,rfl,rfl,rfl,by rw[nt,ae U]⟩
  refine⟨λK=>?_,λK=>none λP=>by simp at K;omega⟩
  simp at K
  have Q:cT (x.bY -1)=x.bY -1:=aQ V V
  rw[Q]
  have k:0<=x.bY -1/\x.bY -1<t.ba.length:=V
  have N:=(o.QP V).pv k.1 k.2
  refine⟨V,V,_,N,λm=>?_,λm=>none λP=>by simp at m;exact P.2 m⟩
  simp at m
  let⟨W,Y⟩:=ak _ (fx k.1 k.2) m
  refine⟨V,V,_,N,V,V,o.fS.ba.NP k.1 k.2,?_⟩
  intro M
  let⟨l,n⟩:=o.wX k.1 k.2 0
  have X:ix (aF t.ba (x.bY -1))=(aF t.ba (x.bY -1) -1000).toNat:=rfl
  have R:cT (aF t.ba (x.bY -1) -1000)=((ix (aF t.ba (x.bY -1)):Nat):Int):=by rw[aQ V V];omega
  refine⟨n.dH H,ix (aF t.ba (x.bY -1)),_,R,l,(t2.trans t3).trans n,H.to n,V,rfl,rfl,rfl,?_⟩
  rw[nt,an ⟨V,m⟩,jc,ae V,ij W]
 .rintro aa M ⟨b,e,rfl,l,n,U,ag,m,eo,ep,ec⟩
  have ar:J F M:=l.cQ.cx
  have al:ap M r t.ak:=m▸l.Ac (by rw[m];omega)
  refine⟨y,q l,(rU (f:=t) al (ha.ext ar) ah V).mono ?_⟩
  rintro _ m5 ⟨ws,rfl,ow,ad⟩
  let⟨k,N⟩:=l.ext ad
  have W:=U.to N
  have am:(cL t x.args).length<=1000000000:=by simp[cL];omega
  have iw:ap m5 ws (cL t x.args):=ap.fZ ow V
  refine⟨N.dH U,ws,rfl,by rw[q k,q l],(MT k.cQ.heap k.cQ.new ag g iw V am k.cQ.cx.size).mono ?_⟩
  rintro _ m6 ⟨au,K,rfl,aj,c6⟩
  let⟨Z,P⟩:=k.gA c6 aj
  have X:=W.to P
  refine⟨P.dH W,K,rfl,Z.cQ.ms (i:=7) aL,?_⟩
  intro m7
  let⟨S7,Q⟩:=Z.jv 7 [.s K]
  have Y:=X.to Q
  have e3:cT (1000+(b:Int))=1000+(b:Int):=aQ V V
  have e4:cT (t.pc+1)=t.pc+1:=aQ V V
  rw[e3,e4]
  refine⟨Q.dH X,(tE (a:={u with heap:=jc u.heap b ⟨1,g,cL t x.args⟩}) S7 ab ai.1 (by rw[m];omega) (by rw[eo];omega) (1000+b)).mono ?_⟩
  rintro _ m8 ⟨S8,R⟩
  refine⟨R.dH Y,(jU (a:={u with heap:=jc u.heap b ⟨1,g,cL t x.args⟩}) S8 ab (t.pc+1)).mono ?_⟩
  rintro _ m9 ⟨S9,t9⟩
  refine⟨t9.dH (Y.to R),au,aT,K,B,?_,((((n.trans N).trans P).trans Q).trans R).trans t9⟩
  rw[ec]
  have e5:gG (1000+(b:Int))=1:=by rw[gG,an V]
  have:=S9.cQ
  rw[e5]at this
  exact this
def sq:∀(a aR:List Int)(r:Int),dE aR (a++[r])=gQ (dE aR a) r (aF (dE aR a) r+1)
 |[],aR,r=>rfl
 |q::a,aR,r=>by rw[cZ,dE,sq a,dE]
def Fl{l:List Int}{i:Int}(h:∀z∈l,0<=z/\z<=b)(d:0<=b):0<=aF l i/\aF l i<=b:=by
 rcases aW i.toNat l.length with a|a
 .let⟨y,c⟩:=dB a;rw[Hv c];exact h y (aq c)
 .rw[aF,fR,cO a];simp;omega
def qK:∀(c aR:List Int)(b:Int),0<=b->(∀z∈aR,0<=z/\z<=b)->∀z∈dE aR c,0<=z/\z<=b+c.length
 |[],aR,b,e,h,z,d=>by have:=h z d;simp;omega
 |r::c,aR,b,e,h,z,d=>by
  have:=qK c (gQ aR r (aF aR r+1)) (b+1) V (λq a=>by
   have:=Fl (i:=r) h e;rcases pD a with a|a
   .omega
   .have:=h q a;omega) z d
  simp only[aZ];omega
noncomputable def tm (u:St) (C:List aX) (t:aX) (x:Instr):St:=
 open Classical in
 if(aM u.heap (aF t.ak (aF x.args 0))).aP=1/\x.op=17 then
  {u with heap:=u.heap.set (ix (aF t.ak (aF x.args 0))) ⟨-1,0,dk (aM u.heap (aF t.ak (aF x.args 0))).aE.length⟩,ao:=C++[{t with aR:=dE t.aR (x.args.drop 1),pc:=t.pc+1,ba:=gQ t.ba (aF x.args 0) (aF t.ak (aF x.args 0))}]}
 else{u with heap:=apart u.heap (aF t.ak (aF x.args 0)),ao:=C++[{t with aR:=dE t.aR (x.args.drop 1),pc:=t.pc+1}]}
def tQ(b:Nat):mF [.i (0:Int)] b=(dk b).map Ce.i:=by
 induction b with
 |zero=>rfl
 |succ b a=>
  have:mF [.i (0:Int)] (b+1)=.i 0::mF [.i (0:Int)] b:=by simp[mF,qJ]
  rw[this,a];simp[dk,qJ]
def qT{v:E}(a:0<=b)(e:b<=1000000):aN cg 193 [vi b] v λd c=>d=O.v (.mk v.size 0 b.toNat b.toNat)/\c=v.push (.cells (bt ((dk b.toNat).map Ce.i)) aA):=by
 apply IP;refine⟨a,dg _,V,V,?_⟩;rw[tQ];exact⟨rfl,rfl⟩
def NQ{v:E}(b:Nat):gV v (v.push (.cells (bt ((dk b).map Ce.i)) aA)) aA 1 (.mk v.size 0 b b) ((dk b).map Ce.i):=gV.new (J.az v) aA 1 _ b (by simp[ka])
def IC(S:ST F A v D bJ (SB d p u aT y B) aT y B u.aT u.heap C t r z h G)(ha:ap F a x.args)(ao:∀g∈x.args,0<=g/\g<t.ak.length)(aJ:1<=x.args.length/\x.args.length<=4)(a1:x.op=16\/x.op=17)
 (aY:t.ak.length=t.aR.length/\t.ba.length=t.aR.length/\t.aR.length<=2000)(a2:0<=t.pc/\t.pc<=100000)(al:C.length<=100000)(aP:u.heap.length<=1000000000)(aH:∀Q∈t.aR,0<=Q/\Q<=999999)
 (ai:fX u.heap (aF t.ak (aF x.args 0))){e:Nat->Int}(hI:fL u.heap e):
 aN cg 146 [vp D 0,fv t r z h,xv x a j] v λ_ c=>yl F A v D d p (tm u C t x) c:=by
 apply sL (D,0)
 simp -zeta only[aC,aB]
 intro m1 m2
 have aI:J v m2:=((J.az v).aK _).aK _
 have s1:m1.size=v.size+1:=by simp[m1]
 have s2:m2.size=v.size+2:=by simp[m2,s1]
 have B2:=zi.Ka S.cQ.new s1 s2
 let⟨S2,t2⟩:=S.ext aI
 clear_value m2
 have a4:r.len=t.ak.length:=by have:=S.fS.ak.len;simp at this;omega
 have a0:z.len=t.aR.length:=by have:=S.fS.aR.len;simp at this;omega
 have aS:h.len=t.ba.length:=by have:=S.fS.ba.len;simp at this;omega
 have aK:=ha.len
 have H:0<=aF x.args 0/\aF x.args 0<t.ak.length:=ao _ (fx V V)
 have ga:∀{c},J F c->∀{b:Nat}{g},x.args[b]? =some g->af c a.D (a.off+Int.toNat (b:Int)*1)=some (vi g):=λhx b g W=>by simpa using(ha.ext hx).aF W
 refine⟨V,V,aF x.args 0,(ha.ext S2.cQ.cx).pv V V,H.1,V,aF t.ak (aF x.args 0),(S2.Ac V).pv H.1 H.2,?_⟩
 refine⟨λaj c=>∃b:Nat,aj=b/\1<=b/\b<=x.args.length/\ST F A c D bJ (SB d p u aT y B) aT y B u.aT u.heap C {t with aR:=dE t.aR ((x.args.take b).drop 1)} r z h G/\To A v A c/\zi A c [m1.size,v.size],λaj _=>((x.args.length:Int) -aj).toNat,⟨1,rfl,V,V,?_,t2,B2⟩,?_⟩
 .have e1:(x.args.take 1).drop 1=[]:=aL
  rw[e1];exact S2
 rintro aj m3 ⟨b,rfl,aV,aW,I,t3,Y⟩
 have aG:∀Q∈dE t.aR ((x.args.take b).drop 1),0<=Q/\Q<=1000010:=λQ hq=>by
  have:=qK _ t.aR 999999 V aH Q hq;have h3:((x.args.take b).drop 1).length<=4:=bE;omega
 refine dit (λh1=>?_) λh1=>?_
 .let⟨g,W⟩:=cG x.args b
  have K:=ao g (aq W)
  have M:g<(dE t.aR ((x.args.take b).drop 1)).length:=by rw[lL];omega
  have hb:=Fl (i:=g) aG V
  refine⟨V,V,g,ga I.cQ.cx W,V,V,g,ga I.cQ.cx W,K.1,V,_,(I.Jm (by simp only[lL];omega)).pv K.1 M,K.1,V,I.fS.aR.NP K.1 M,?_⟩
  intro q
  have N:cT (aF (dE t.aR ((x.args.take b).drop 1)) g+1)=aF (dE t.aR ((x.args.take b).drop 1)) g+1:=aQ V V
  let⟨E,L⟩:=I.pL K.1 M (aF (dE t.aR ((x.args.take b).drop 1)) g+1)
  have P:q=ah m3 z.D (z.off+g.toNat*1) [.i (aF (dE t.aR ((x.args.take b).drop 1)) g+1)]:=by simp only[q,N]
  clear_value q
  subst P
  refine⟨L.dH Y,?_,?_⟩
  .rw[kA (k:=b) (n:=x.args.length) V V]
   refine⟨b+1,rfl,V,V,?_,t3.trans L,Y.to L⟩
   have e4:(x.args.take (b+1)).drop 1=(x.args.take b).drop 1++[g]:=by
    rw[aU W,List.drop_append_of_le_length bE]
   rw[e4,sq]
   exact E
  .rw[kA (k:=b) (n:=x.args.length) V V]
   show((x.args.length:Int) -((b+1:Nat):Int)).toNat<((x.args.length:Int) -(b:Int)).toNat
   omega
 .have e1:(x.args.take b).drop 1=x.args.drop 1:=by rw[bX V]
  rw[e1]at I
  have a5:=ij ai.1
  let⟨ak,a3⟩:=bS ai
  have ag:=av ak
  have aZ:=I.cQ.heap.len
  have e4:cT (t.pc+1)=t.pc+1:=aQ V V
  have aX:=ai.1
  have aE:ix (aF t.ak (aF x.args 0))=(aF t.ak (aF x.args 0) -1000).toNat:=rfl
  have e5:cT (aF t.ak (aF x.args 0) -1000)=aF t.ak (aF x.args 0) -1000:=aQ V V
  rw[e4,e5,<-aE]
  generalize hw:aF t.ak (aF x.args 0)=w at*
  have gw:∀{A v lh own' held'},ST F A v D bJ (SB d p u aT y B) aT y B u.aT lh C {t with aR:=own',ba:=held'} r z h G->af v r.D (r.off+Int.toNat (aF x.args 0)*1)=some (vi w):=λS=>by rw[<-hw];exact(S.Ac (by simp only[];omega)).pv H.1 H.2
  refine⟨H.1,V,w,gw I,(Bl I.cQ ai hI V).mono ?_⟩
  rintro _ q ⟨ax,rfl,hb,c4,aD,az⟩
  refine⟨(c4.mono λb N=>by omega:To A m3 A q).dH Y,ax,rfl,λau=>?_,λar=>?_⟩
  .have ac:=hb.1 au
   let⟨E,L⟩:=I.gA (c4.mono λb N=>Or.inl N) (aD au)
   have B4:=Y.to L
   have g7:af q D 7=some (O.v y):=E.cQ.box.bZ 7
   refine⟨λaa=>?_,λaa=>?_⟩
   .simp at aa
    let⟨f0,k0,k1,k2,kf,kr⟩:=E.cQ.heap.bZ ak
    have ay:=(hI.cell _ (aq ak)).fl
    have aO:=kf.len
    refine⟨y,g7,y,g7,V,V,f0,k2,(qT V V).mono ?_⟩
    rintro _ m5 ⟨rfl,rfl⟩
    have e6:Int.toNat (f0.len:Int)=(aM u.heap w).aE.length:=V
    rw[e6]
    have ab:J q (q.push (.cells (bt ((dk (aM u.heap w).aE.length).map Ce.i)) aA)):=J.push _ _
    have oz:=NQ (v:=q) (aM u.heap w).aE.length
    let⟨K,M⟩:=E.ext ab
    have Z:=B4.to M
    have aw:A q.size=0:=E.cQ.new _ (ad _)
    generalize q.push (.cells (bt ((dk (aM u.heap w).aE.length).map Ce.i)) aA)=m5 at*
    let⟨am,c6⟩:=K.cQ.heap.setCell K.cQ.new ag (-1) 0 (f:=.mk q.size 0 _ _) (ap.fZ oz (by rw[ka];omega)) (Re.of E.cQ.heap (λH=>ab.same _ (E.cQ.heap.D H).2) (λ_=>oz) (λ_=>aw) E.cQ.cx.size)
    refine⟨M.dH B4,_,rfl,ab.da g7,V,V,K.cQ.heap.wr (o:=0) ag bh,?_⟩
    intro m6
    let⟨P,R⟩:=K.gA (c6.mono λb N=>Or.inl N) am
    have B6:=Z.to R
    refine⟨R.dH Z,H.1,V,w,gw P,H.1,V,P.fS.ba.NP H.1 (by simp only[];omega),?_⟩
    intro m7
    let⟨U,T⟩:=P.wX H.1 (by simp only[];omega) w
    refine⟨T.dH B6,(jU (a:={u with heap:=u.heap.set (ix w) ⟨-1,0,dk (aM u.heap w).aE.length⟩}) U al (t.pc+1)).mono ?_⟩
    rintro _ m8 ⟨S8,X⟩
    refine⟨X.dH (B6.to T),A,aT,y,B,?_,(((((t3.trans L).trans M).trans R).trans T).trans X)⟩
    rw[tm,hw,an ⟨ac,aa⟩]
    exact S8.cQ
   .simp at aa
    refine⟨y,g7,?_⟩
    intro m5
    have ab:J q m5:=(J.az q).aK _
    let⟨K,M⟩:=E.ext ab
    have Z:=B4.to M
    clear_value m5
    refine⟨V,V,K.cQ.heap.wr (o:=0) ag bh,?_⟩
    intro m6
    let⟨am,c6⟩:=K.cQ.heap.setCell K.cQ.new ag 0 0 (f:=.mk q.size 0 0 0) (l:=[]) ⟨rfl,aL,aL,aL⟩ (λaw=>absurd rfl aw)
    let⟨P,R⟩:=K.gA (c6.mono λb N=>Or.inl N) am
    have B6:=Z.to R
    refine⟨R.dH Z,y,P.cQ.box.bZ 7,(xF (P.cQ.heap.cells bE)).mono ?_⟩
    rintro _ m7 ⟨rfl,ay⟩
    let⟨U,T⟩:=P.ext ay
    have B7:=B6.to T
    refine⟨T.dH B6,_,rfl,U.cQ.ms (i:=7) aL,?_⟩
    intro m8
    obtain⟨aw,aO⟩:=U.gA (dp.az _ U.cQ.new) (U.cQ.heap.cut (tK _ _))
    obtain⟨S8,X⟩:=aw.jv 7 [.s (y.cut 0 (jg (u.heap.set (ix w) iY) (u.heap.set (ix w) iY).length) 3)]
    refine⟨X.dH B7,(jU (a:={u with heap:=nm (u.heap.set (ix w) iY)}) S8 al (t.pc+1)).mono ?_⟩
    rintro _ m9 ⟨S9,t9⟩
    refine⟨t9.dH (B7.to X),A,aT,y.cut 0 (jg (u.heap.set (ix w) iY) (u.heap.set (ix w) iY).length) 3,B,?_,((((((t3.trans L).trans M).trans R).trans T).trans X).trans t9)⟩
    rw[tm,hw,ae (λhh=>aa hh.2),Go.Proofs.YtkicoahejfbjhaaGreat.apart,an ac]
    exact S9.cQ
  .have ac:(aM u.heap w).aP≠1:=λe=>by have:=hb.2 e;rw[ar]at this;simp at this
   let⟨E,L⟩:=I.gA (c4.mono λb N=>Or.inl N) (az ar)
   refine(jU (a:={u with heap:=jd (fg u.heap w) (kU (aM u.heap w).aE)}) E al (t.pc+1)).mono ?_
   rintro _ m5 ⟨K,M⟩
   refine⟨M.dH (Y.to L),A,aT,y,B,?_,(t3.trans L).trans M⟩
   rw[tm,hw,ae (λhh=>ac hh.1),Go.Proofs.YtkicoahejfbjhaaGreat.apart,ae ac]
   exact K.cQ
end
end
section
variable{e:cN}{c:Instr}{j:O}{l:List Int}{g b1 b2 b3 k:Nat}{b:E}
def iI(e:cN)(c:Instr):Nat->List Int->List Int
 |_,[]=>[]
 |k,w::j=>(if(c.op=9\/c.op=24)/\nu e c k=true then 0 else gG w)::iI e c (k+1) j
def Ds(e:cN)(c:Instr):∀(l r:List Int)(k:Nat),iI e c k (l++r)=iI e c k l++iI e c (k+l.length) r
 |[],r,k=>by simp[iI]
 |b::l,r,k=>by
  have:=Ds e c l r (k+1);simp only[cZ,iI,this,aZ];have a:k+(l.length+1)=k+1+l.length:=V;rw[a]
def DY(e:cN)(c:Instr):∀(l:List Int)(k:Nat),(iI e c k l).length=l.length
 |[],k=>rfl
 |a::l,k=>by simp only[iI,aZ,DY e c l]
def Jl{e:cN}{c:Instr}(a:c.op=9\/c.op=24):∀(l:List Int)(k:Nat),iI e c k l=dK (dN e c.bP).cR k l
 |[],k=>rfl
 |d::l,k=>by
  simp only[iI,dK,Jl a l];congr 1;unfold nu;by_cases h:((dN e c.bP).cR.any λy=>y==(k:Int))=true
  .rw[an ⟨a,h⟩,an h]
  .rw[ae (λb=>h b.2),ae h]
def FY{e:cN}{c:Instr}(a:¬(c.op=9\/c.op=24)):∀(l:List Int)(k:Nat),iI e c k l=dK [] k l
 |[],k=>rfl
 |d::l,k=>by
  simp only[iI,dK,FY a l,Qh,ji,rG];rw[ae (λb=>a b.1)]
def EG{m:E}{p:Nat}{r A:O}(aa:fw m r A e)(T:af m p 0=some (O.v r))(g1:af m p 1=some (O.v A))(Z:zj e c)(D P:O)(K:ap m j l)(ac:l.length<=1000000):
 od 192 [vp p 0,xv c D P,O.v j] m (iI e c 0 l):=by
 apply rC (p,0)
 simp -zeta only[aC,aB]
 intro a y
 have w:J m a:=(J.az m).aK _
 have W:J a y:=(J.az a).aK _
 have ho:gV a y aA 1 (.mk a.size 0 0 0) []:=gV.new (J.az a) aA 1 [] 0 aL
 have f:∀q∈[m.size],q<a.size:=by simp[a]
 have ad:=K.len
 clear_value y
 clear_value a
 refine ez (n:=l.length) V (λk B b=>J a b/\gV a b aA 1 B ((iI e c 0 (l.take k)).map Ce.i)) ⟨W,by simpa[iI]using ho⟩ ?_
 rintro k B m3 ab μ hk ⟨L,g⟩ z
 have M:=w.trans L
 refine dit (λU=>?_) λU=>?_
 .let⟨C,N⟩:=cG l k
  have I:(l.take k).length=k:=bE
  have v:iI e c 0 (l.take (k+1))=iI e c 0 (l.take k)++[if(c.op=9\/c.op=24)/\nu e c k=true then 0 else gG C]:=by
   rw[aU N,Ds,I];simp[iI]
  have u:(iI e c 0 (l.take k)).length<1000000000:=by rw[DY,I];omega
  refine⟨V,V,C,by simpa using M.af (K.aF N),(dV _ _).aH L f λq m4 G s i=>⟨q,rfl,λY=>?_,λX=>?_⟩⟩
  .have x:=w.trans i
   refine⟨r,x.af T,A,x.af g1,(rR (aa.ext x) Z D P k).aH i f λb2 m5 H F o=>⟨b2,rfl,λt=>?_,λt=>?_⟩⟩
   .intro Q
    refine nL ((g.ext s).ext F) o u λS R h d=>⟨J.tv (o.aK _) d f,z V _ _ ⟨d,?_⟩⟩
    rw[v,ae (nb H t),gG,an (G.1 Y)];exact h
   .intro Q
    refine nL ((g.ext s).ext F) o u λS R h d=>⟨J.tv (o.aK _) d f,z V _ _ ⟨d,?_⟩⟩
    rw[v,an (yb H t)];exact h
  .intro Q
   refine nL (g.ext s) i u λS R h d=>⟨J.tv (i.aK _) d f,z V _ _ ⟨d,?_⟩⟩
   rw[v]
   have o:(if(c.op=9\/c.op=24)/\nu e c k=true then 0 else gG C)=0:=by
    rw[gG,ae (fb G X)];split<;>rfl
   rw[o];exact h
 .rw[bX V]at g
  exact⟨B,rfl,g.cx w.size,M⟩
structure qU(m b:E)(b1 b2 b3 g:Nat)(ak aR ba:List Int):Prop where
 ext:J m b
 lo:m.size<=b1/\m.size<=b2/\m.size<=b3/\b1≠b2/\b1≠b3/\b2≠b3/\b1<b.size/\b2<b.size/\b3<b.size
 kr:cE b b1 aA (ak.map Ce.i)
 ko:cE b b2 aA (aR.map Ce.i)
 kh:cE b b3 aA (ba.map Ce.i)
 len:ak.length=g/\aR.length=g/\ba.length=g
def KK{a:E}{b:Nat}(d:cE a b aA ((dk g).map Ce.i))(f:l.length<=g):cE (ah a b 0 (l.map Ce.i)) b aA ((l++dk (g -l.length)).map Ce.i):=by
 have:=cE.ah (m:=a) (o:=0) (r:=l.map Ce.i) d;have e:iZ ((dk g).map Ce.i) 0 (l.map Ce.i)=(l++dk (g -l.length)).map Ce.i:=by
  have c:=BU [] (l.map Ce.i) ((dk g).map Ce.i) (by simp[ka];omega);simp only[eE,eV]at c;rw[c];simp[dk,List.drop_replicate]
 rw[e]at this;exact this
def xZ{m:E}{H R:O}(K:fw m H R e){r:Int}(S:0<=r){q:dy}(M:e.cF[r.toNat]? =some q)(C:0<=q.ak/\q.ak<=2000)(I:Int){G:O}{d h:List Int}(N:ap m j d)(L:ap m G h)(ag:(d.length:Int)<=q.ak)(ae:h.length=d.length):
 aN cg 161 [.agg #[O.v H,O.v R],vi r,vi I,O.v j,O.v G] m λab b=>∃b1 b2 b3,ab=.agg #[vi r,vi 0,vi I,O.v (.mk b1 0 q.ak.toNat q.ak.toNat),O.v (.mk b2 0 q.ak.toNat q.ak.toNat),O.v (.mk b3 0 q.ak.toNat q.ak.toNat)]/\
  qU m b b1 b2 b3 q.ak.toNat (d++dk (q.ak.toNat -d.length)) (h++dk (q.ak.toNat -h.length)) (dk q.ak.toNat):=by
 apply Eu
 simp -zeta only[aC,aB]
 intro x a
 have w:J m a:=((J.az m).aK _).aK _
 have s1:x.size=m.size+1:=by simp[x]
 have s2:a.size=m.size+2:=by simp[a,s1]
 have k:∀g∈[x.size,m.size],g<a.size:=bE
 have af:=K.cF.len
 have ac:=av M
 have X:=N.len
 have W:=L.len
 clear_value a
 obtain⟨a',l',c',_,_,_,_,_,_,k3,_⟩:=(K.ext w).cF.aF M
 refine⟨S,V,q.ak,k3,(qT C.1 V).mono ?_⟩
 rintro _ c ⟨rfl,n⟩
 have z:J a c:=by rw[n];exact J.push _ _
 have s3:c.size=a.size+1:=by rw[n];simp
 have P:cE c a.size aA ((dk q.ak.toNat).map Ce.i):=by rw[n];exact cE.push _ _ _
 clear n
 refine⟨z.dv k,_,rfl,(qT C.1 V).mono ?_⟩
 rintro _ y ⟨rfl,o⟩
 have u:J c y:=by rw[o];exact J.push _ _
 have s4:y.size=c.size+1:=by rw[o];simp
 have Z:cE y c.size aA ((dk q.ak.toNat).map Ce.i):=by rw[o];exact cE.push _ _ _
 clear o
 have A:=z.trans u
 have T:min j.len q.ak.toNat=d.length:=by rw[X];exact jb V
 have U:min G.len q.ak.toNat=h.length:=by rw[W];exact jb V
 refine⟨u.dv (λg B=>z.lt (k g B)),_,rfl,d.map Ce.i,by simp only[O.gE];rw[T];simp,(N.ext (w.trans A)).HY,(P.ext u).fJ (by simp[ka];omega),?_⟩
 intro i
 have k5:cE i a.size aA ((d++dk (q.ak.toNat -d.length)).map Ce.i):=KK (P.ext u) V
 have Q:cE i c.size aA ((dk q.ak.toNat).map Ce.i):=Z.congr (bd _ _ _ _ (show c.size≠a.size by omega))
 have s:J a i:=A.ah (ad _) _ _
 have s5:i.size=y.size:=aw _ _ _ _
 clear_value i
 refine⟨J.tv A s k,h.map Ce.i,by simp only[O.gE];rw[U];simp,(L.ext (w.trans s)).HY,Q.fJ (by simp[ka];omega),?_⟩
 intro f
 have k6:cE f c.size aA ((h++dk (q.ak.toNat -h.length)).map Ce.i):=KK Q V
 have aa:cE f a.size aA ((d++dk (q.ak.toNat -d.length)).map Ce.i):=k5.congr (bd _ _ _ _ (show a.size≠c.size by omega))
 have t:J a f:=s.ah (show a.size<=c.size by omega) _ _
 have s6:f.size=i.size:=aw _ _ _ _
 clear_value f
 refine⟨J.tv s t k,(qT C.1 V).mono ?_⟩
 rintro _ l ⟨rfl,p⟩
 have v:J f l:=by rw[p];exact J.push _ _
 have s7:l.size=f.size+1:=by rw[p];simp
 have k7:cE l f.size aA ((dk q.ak.toNat).map Ce.i):=by rw[p];exact cE.push _ _ _
 clear p
 refine⟨J.tv t (t.trans v) k,_,rfl,?_⟩
 intro D
 have Y:J m D:=(w.trans (t.trans v)).ah V _ _
 have s8:D.size=l.size:=aw _ _ _ _
 have F:∀g,g≠x.size->D[g]? =l[g]? :=λg B=>bd _ _ _ _ B
 refine⟨a.size,c.size,f.size,rfl,Y,V,(aa.ext v).congr (F _ V),(k6.ext v).congr (F _ V),k7.congr (F _ V),by simp[ka];omega⟩
def pI(a:Nat->Nat)(b1 b2 b3 g:Nat):Nat->Nat:=nX (nX (nX a b1 (10+3*g)) b2 (11+3*g)) b3 (12+3*g)
def qU.eH{p:Nat->Prop}{d:Nat->Nat}{m:E}{ak aR ba:List Int}(N:qU m b b1 b2 b3 k ak aR ba)(e:∀a,m.size<=a->d a=0):dp p d m (pI d b1 b2 b3 g) b:=by
 have f:=N.lo;refine⟨N.ext.size,λa c=>?_,λa c=>?_,λa c _=>N.ext.same a c⟩
 .unfold pI;rw[eU V,eU V,eU V]
 .unfold pI;rw[eU V,eU V,eU V];exact e a (oh N.ext.size)
def qU.pY{a:Nat->Nat}{m:E}{ak aR ba:List Int}(N:qU m b b1 b2 b3 k ak aR ba):
 iF (pI a b1 b2 b3 g) b aA 1 (10+3*g) (.mk b1 0 k k) (ak.map Ce.i)/\iF (pI a b1 b2 b3 g) b aA 1 (11+3*g) (.mk b2 0 k k) (aR.map Ce.i)/\iF (pI a b1 b2 b3 g) b aA 1 (12+3*g) (.mk b3 0 k k) (ba.map Ce.i):=by
 have f:=N.lo
 let⟨c,d,e⟩:=N.len
 refine⟨⟨by simp[c],aL,Or.inr ⟨b1,k,[],rfl,?_,by rw[dX];exact N.kr,by simp[c]⟩⟩,⟨by simp[d],aL,Or.inr ⟨b2,k,[],rfl,?_,by rw[dX];exact N.ko,by simp[d]⟩⟩,⟨by simp[e],aL,Or.inr ⟨b3,k,[],rfl,?_,by rw[dX];exact N.kh,by simp[e]⟩⟩⟩
 .unfold pI;rw[eU V,eU V,fH]
 .unfold pI;rw[eU V,fH]
 .unfold pI;rw[fH]
def qU.box{m:E}{ak aR ba:List Int}(N:qU m b b1 b2 b3 k ak aR ba){m1:E}(a:J m1 m){nb:Nat}(d:m1.size<=nb)(e:nb<m.size)(i:Nat)(c:List Ce):qU m1 (ah b nb i c) b1 b2 b3 k ak aR ba:=by
 have f:=N.lo;have g:=a.size;exact⟨(a.trans N.ext).ah d _ _,by rw[aw];omega,N.kr.congr (bd _ _ _ _ V),N.ko.congr (bd _ _ _ _ V),N.kh.congr (bd _ _ _ _ V),N.len⟩
def qU.Sf{m c:E}{ak aR ba:List Int}(N:qU m b b1 b2 b3 k ak aR ba)(a:J b c):qU m c b1 b2 b3 k ak aR ba:=by
 have d:=N.lo;have:=a.size;exact⟨N.ext.trans a,V,N.kr.ext a,N.ko.ext a,N.kh.ext a,N.len⟩
section
variable{B:E}{v:Nat->Nat}{m:E}{w:Nat}{d p aT z t:O}{s:St}{q:List aX}{u:aX}{D C A:O}{y:List (List Ce)}
def sU.replace{c:Nat->Nat}(T:sU v m t q u D C A y)(s:dp (λ_=>False) v m c b){a:aX}{g e d:O}(w:iF c b aA 1 (10+3*q.length) g (a.ak.map Ce.i))(n:iF c b aA 1 (11+3*q.length) e (a.aR.map Ce.i))(p:iF c b aA 1 (12+3*q.length) d (a.ba.map Ce.i)):
 fJ b t.D (t.off+q.length*6) 6/\nE c (ah b t.D (t.off+q.length*6) [.i a.fE,.i a.pc,.i a.dst,.s g,.s e,.s d]) t (q++[a])/\dp (λk=>k=4) c b c (ah b t.D (t.off+q.length*6) [.i a.fE,.i a.pc,.i a.dst,.s g,.s e,.s d]):=by
 have j:sU c b t q u D C A y:=T.eH s λ_ _=>id
 have l:y.flatten.length=q.length*6:=by rw[cv T.size,T.len]
 have i:dp (λk=>k=4) c b c (ah b t.D (t.off+q.length*6) [.i a.fE,.i a.pc,.i a.dst,.s g,.s e,.s d]):=dp.ah s.new j.D.1 _ _
 refine⟨j.pY.wr (by simp[l]),sU.sS (f:=a) (a:=q) (j:=y) (r:=g) (e:=e) (h:=d) ⟨?_,T.len,T.size,j.xS i λk n p=>V,w.eH i V,n.eH i V,p.eH i V⟩,i⟩
 have:=j.pY.set (o:=q.length*6) (new:=[.i a.fE,.i a.pc,.i a.dst,.s g,.s e,.s d]) (by simp[l])
 rw[lB _ _ _ _ V,l,Qk]at this
 exact this
def Nd(w nb:Nat)(d:List Nat)(k n f:Int)(g g1 g2:Int)(l j h:O)(e:E)(R:Value->E->Prop):Prop:=
 ((k==(24:Int))=true->
 let b:E:=ah e nb 2 [.i f]
 ∃a:O,af b w 8=some (O.v a)/\
 ∃c:O,af b w 8=some (O.v c)/\
 (0:Int)<=(cT ((c.len:Int) -(1:Int)))/\(cT ((c.len:Int) -(1:Int)))<(a.len:Int)/\
 fJ b a.D (a.off+Int.toNat (cT ((c.len:Int) -(1:Int)))*6) 6/\
 let i:E:=ah b a.D (a.off+Int.toNat (cT ((c.len:Int) -(1:Int)))*6) [.i g,.i g1,.i f,.s l,.s j,.s h]
 eF (nb::d) b i/\
 R (.tuple #[]) i)/\
 ((k==(24:Int))=false->
 aN cg 144 [vp w 0,vi (cT (n+(1:Int)))] e λ_ a=>
 eF (nb::d) e a/\
 ∃m:O,af a w 8=some (O.v m)/\
 let c:E:=a.push (.cells (bt [.i g,.i g1,.i g2,.s l,.s j,.s h]) dO)
 af c w 8=af a w 8/\
 jK c dO [.i (0:Int),.i (0:Int),.i (0:Int),.s O.nil,.s O.nil,.s O.nil] 96 m (O.mk a.size 0 1 1) λo b=>
 eF (nb::d) c b/\
 fJ b w 8 1/\
 let i:E:=ah b w 8 [.s o]
 eF (nb::d) b i/\
 R (.tuple #[]) i)
def On(S:ST B v m w bJ (SB d p s aT z t) aT z t s.aT s.heap q u D C A y){W:List Nat}(G:zi v m W){nb:Nat}{h:E}{g:aX}(N:qU m h b1 b2 b3 k g.ak g.aR g.ba)(ah:m.size<=nb/\nb<h.size)(r:nb≠b1/\nb≠b2/\nb≠b3)
 (az:q.length<=100000)(aD:0<=u.pc/\u.pc<=100000){R:Value->E->Prop}
 (ar:c.op=24->∀b,yl B v m w d p {s with ao:=q++[{g with dst:=u.dst}]} b->R (.tuple #[]) b)
 (au:c.op≠24->∀b,yl B v m w d p {s with ao:=q++[{u with pc:=u.pc+1},g]} b->R (.tuple #[]) b):
 Nd w nb W c.op u.pc u.dst g.fE g.pc g.dst (.mk b1 0 k k) (.mk b2 0 k k) (.mk b3 0 k k) h R:=by
 have aB:=N.lo
 have ay:=S.fS.xO
 have F:cT ((t.len:Int) -1)=(q.length:Int):=by rw[aQ V V];omega
 have e2:Int.toNat (q.length:Int)=q.length:=V
 have e4:cT (u.pc+1)=u.pc+1:=aQ V V
 have ai:v nb=0:=S.cQ.new _ ah.1
 have aC:=N.ext.size
 refine⟨λM=>?_,λM=>?_⟩
 .intro H
  have P:qU m H b1 b2 b3 k g.ak g.aR g.ba:=⟨N.ext.ah ah.1 _ _,by simp only[H,aw];omega,N.kr.congr (bd _ _ _ _ (λF=>r.1 F.symm)),N.ko.congr (bd _ _ _ _ (λF=>r.2.1 F.symm)),N.kh.congr (bd _ _ _ _ (λF=>r.2.2 F.symm)),N.len⟩
  have ab:H.size=h.size:=aw _ _ _ _
  clear_value H
  have o:dp (λ_=>False) v m (pI v b1 b2 b3 q.length) H:=P.eH S.cQ.new
  let⟨U,a2,a3⟩:=P.pY (a:=v) (g:=q.length)
  let⟨Z,w2,I⟩:=S.fS.replace o (a:={g with dst:=u.dst}) U a2 a3
  let⟨L,X⟩:=S.cQ.gA (o.mono λ_=>False.elim) (S.cQ.heap.eH o id id)
  have K:af H w 8=some (O.v t):=L.box.bZ 8
  refine⟨t,K,t,K,?_⟩
  rw[F,e2]
  refine⟨V,V,Z,?_⟩
  intro aa
  let⟨T,Y⟩:=L.jI (I.mono λk Q=>V) w2
  refine⟨?_,ar (by simpa using M) _ ⟨_,aT,z,t,T,X.trans Y⟩⟩
  intro j e
  rcases List.mem_cons.1 e with rfl|e
  .refine I.eA _ V ?_
   unfold pI;rw[eU r.2.2,eU r.2.1,eU r.1,ai];decide
  .refine I.eA _ (oh ((G j e).1)) ?_
   rw[o.gT j (G j e).1,(G j e).2];decide
 .simp only[aj]at M
  rw[e4]
  have o:dp (λ_=>False) v m (pI v b1 b2 b3 (q.length+1)) h:=N.eH S.cQ.new
  let⟨U,a2,a3⟩:=N.pY (a:=v) (g:=q.length+1)
  let⟨ap,ax⟩:=S.cQ.gA (o.mono λ_=>False.elim) (S.cQ.heap.eH o id id)
  have I:ST B (pI v b1 b2 b3 (q.length+1)) h w bJ (SB d p s aT z t) aT z t s.aT s.heap q u D C A y:=⟨ap,S.fS.eH o λ_ _=>id⟩
  have ag:zi (pI v b1 b2 b3 (q.length+1)) h (nb::W):=λj e=>by
   rcases List.mem_cons.1 e with rfl|e
   .refine⟨V,?_⟩;unfold pI;rw[eU r.2.2,eU r.2.1,eU r.1,ai]
   .exact⟨by have:=(G j e).1;omega,by rw[o.gT j (G j e).1];exact(G j e).2⟩
  apply oR (w,0)
  have K:af h w 8=some (O.v t):=I.cQ.box.bZ 8
  refine⟨t,K,t,K,?_⟩
  rw[F,e2]
  refine⟨V,V,I.fS.Vf,?_⟩
  intro H
  let⟨L,aa⟩:=I.NK (u.pc+1)
  have aq:dp (λk=>k=4) (pI v b1 b2 b3 (q.length+1)) h (pI v b1 b2 b3 (q.length+1)) H:=dp.ah I.cQ.new I.fS.D.1 _ _
  refine⟨aa.dH ag,t,L.cQ.box.bZ 8,?_⟩
  intro Z
  have Y:J H Z:=(J.az H).aK _
  let⟨T,am⟩:=L.ext Y
  have ac:=(ag.to aa).to am
  have jt:fP Z H.size 0 [.i g.fE,.i g.pc,.i g.dst,.s (.mk b1 0 k k),.s (.mk b2 0 k k),.s (.mk b3 0 k k)]:=(cE.push H _ _).iA
  have P:(q++[{u with pc:=u.pc+1}]).length=q.length+1:=aL
  have X:=λ{k:Nat}{s:O}{l:List Ce}(a:iF (pI v b1 b2 b3 (q.length+1)) h aA 1 k s l)(Q:k≠4)=>(a.eH aq Q).eH (dp.eG (λ_=>False) Y L.cQ.new) id
  refine⟨Y.da (L.cQ.box.bZ 8),nE.push T.cQ.ao T.cQ.new (x:=.mk H.size 0 1 1) rfl (a:=g) jt (by rw[P];exact X U V) (by rw[P];exact X a2 V) (by rw[P];exact X a3 V) (by rw[P];omega) λal ak av q1 q2=>?_⟩
  have ab:To _ Z al av:=q2.mono λk Q=>V
  let⟨ad,aF⟩:=T.cQ.jI (q2.mono λk Q=>V) q1
  refine⟨ab.dH ac,ad.ms (i:=8) aL,?_⟩
  intro aE
  let⟨ae,an⟩:=ad.jv 8 [.s ak]
  refine⟨an.dH (ac.to ab),au M _ ⟨al,aT,z,ak,?_,(((ax.trans aa).trans am).trans ab).trans an⟩⟩
  have e9:q++[{u with pc:=u.pc+1}]++[g]=q++[{u with pc:=u.pc+1},g]:=aL
  rw[e9]at ae
  exact ae
end
end
section
variable{a:cN}
noncomputable def qM (a:cN) (s:St) (b:List aX) (f:aX) (x:Instr):St:=
 if x.op=9 then{s with bu:=s.bu+1,ao:=b++[{f with pc:=f.pc+1},bW a x.bP x.dst (cL f x.args)]}
 else if x.op=24 then{s with bu:=s.bu+1,ao:=b++[bW a x.bP f.dst (cL f x.args)]}
 else{s with bu:=s.bu+1,heap:=apart s.heap (aF f.ak (aF x.args 0)),ao:=b++[{f with pc:=f.pc+1},bW a ((aM s.heap (aF f.ak (aF x.args 0))).j8 -cq a) x.dst ((aM s.heap (aF f.ak (aF x.args 0))).aE++[aF f.ak (aF x.args 1)])]}
section
variable{u:E}{n:Nat->Nat}{m:E}{q:Nat}{d p aT t j:O}{b:St}{e:List aX}{c:aX}{r v h:O}{y:List (List Ce)}
def ST.rv(S:ST u n m q bJ (SB d p b aT t j) aT t j b.aT b.heap e c r v h y)(g:fw u d p a)(k:b.aT.length<=2000000000)(i:b.heap.length<=2000000000)(f:jx m j (e++[c])):
 RV m q 2 d p aT t j a {b with ao:=e++[c]}:=
 ⟨g.ext S.cQ.cx,S.cQ.box.bZ 0,S.cQ.box.bZ 1,S.cQ.box.bZ 2,S.cQ.box.bZ 3,S.cQ.box.bZ 4,S.cQ.box.bZ 5,S.cQ.box.bZ 6,S.cQ.box.bZ 7,S.cQ.box.bZ 8,S.cQ.aT.nH V,S.cQ.heap.cells V,f⟩
def nE.Ea{e:List aX}(b:nE n m j e)(A:e.length<=2000000000)(q:∀c∈e,c.ak.length<=1000000/\c.aR.length<=1000000/\c.ba.length<=1000000):jx m j e:=by
 let⟨y,a,f,g,p⟩:=b;have t:j.len=e.length:=by have:=a.len;rw[cv g,f]at this;omega
 refine⟨t,a.le,V,λk x d=>?_⟩;let⟨o,i⟩:=cG y k (by rw[f];exact av d);obtain⟨r,v,h,rfl,w,u,b⟩:=p k o x i d;let⟨B,C,D⟩:=q x (aq d);refine⟨_,⟨r,v,h,rfl,w.nH V,u.nH V,b.nH V⟩,λz l s=>?_⟩;have:=a.iA (k*6+z) l (fV g i s);rwa[<-dj]at this
def MO(al:ST u n m q bJ (SB d p b aT t j) aT t j b.aT b.heap e c r v h y)(aP:fw u d p a)(aE:nj a){z:Instr}{aa ah:O}(ha:ap u aa z.args)(bn:∀D∈z.args,0<=D/\D<c.ak.length)(bO:z.args.length<=4)
 (b0:z.op=9\/z.op=24\/z.op=11)(a4:(z.op=9\/z.op=24)->vy a z.bP z.args.length)(bm:z.op=11->z.args.length=2/\vx a b.heap (aF c.ak (aF z.args 0)))
 (bY:c.ak.length=c.aR.length/\c.ba.length=c.aR.length/\c.aR.length<=2000)(bl:∀K∈e,K.ak.length<=1000000/\K.aR.length<=1000000/\K.ba.length<=1000000)(bB:0<=c.pc/\c.pc<=100000)(bU:e.length<=10000)(bV:b.heap.length<=1000000000)(b4:b.aT.length<=1000000000)(bP:0<=b.bu/\b.bu<=100000)
 {C:Nat->Int}(hI:fL b.heap C):
 aN cg 141 [vp q 0,fv c r v h,xv z aa ah] m λ_ M=>yl u n m q d p (qM a b e c z) M:=by
 apply vf (q,0)
 simp -zeta only[aC,aB]
 intro G m2
 have bF:J m m2:=((J.az m).aK _).aK _
 have s1:G.size=m.size+1:=by simp[G]
 have s2:m2.size=m.size+2:=by simp[m2,s1]
 have B2:=zi.Ka al.cQ.new s1 s2
 have kB:cE m2 G.size dW [.i z.op,.i z.dst,.i z.bP,.i z.bY,.s aa,.s ah]:=cE.push G _ _
 let⟨S2,t2⟩:=al.ext bF
 clear_value m2
 have br:zj a z:=λC=>let⟨A,Y,F,_⟩:=a4 C;⟨Y,A,F⟩
 have bN:(eR a.bo).length<=12:=by
  have:=qW aE.nN.types a.bo.length;rw[mP _ _ (ad _)]at this;exact this
 have bv:∀{n m t lh bx},ST u n m q bJ bx aT t j b.aT lh e c r v h y->jx m j (e++[c]):=λal=>al.cQ.ao.Ea bE (λK B=>by
  rcases List.mem_append.1 B with B|B
  .exact bl K B
  .simp at B;subst B;omega)
 refine(rU (f:=c) (S2.Ac V) (ha.ext S2.cQ.cx) bn V).mono ?_
 rintro _ m3 ⟨T,rfl,ow,aD⟩
 let⟨S3,t3⟩:=S2.ext aD
 have B3:=B2.to t3
 have bD:(cL c z.args).length=z.args.length:=by simp[cL]
 have ar:ap m3 T (cL c z.args):=ap.fZ ow V
 have bK:∀{M:E}{T:O}{ax:List Ce},gV M m3 aA 1 T ax->m.size<=M.size->T≠.nil->n T.D=0:=λho hs Z=>by
  rcases ho.D with C|C
  .exact absurd C Z
  .exact al.cQ.new _ V
 refine⟨t3.dH B2,T,rfl,λK wv M=>∃(aI:Nat->Nat)(a8:O)(ak:List bM)(B:List Int)(A:dy),ST u aI M q bJ (SB d p b aT a8 j) aT a8 j b.aT ak e c r v h y/\To n m aI M/\zi aI M [G.size,m.size]/\cE M G.size dW [.i z.op,.i z.dst,.i z.bP,.i z.bY,.s aa,.s ah]/\ap M wv B/\(B≠[]->aI wv.D=0)/\
  0<=K/\a.cF[K.toNat]? =some A/\B.length=A.params.length/\iI a z 0 B=dK A.cR 0 B/\
  (z.op=24->qM a b e c z={b with bu:=b.bu+1,heap:=ak,ao:=e++[bW a K c.dst B]})/\(z.op≠24->qM a b e c z={b with bu:=b.bu+1,heap:=ak,ao:=e++[{c with pc:=c.pc+1},bW a K z.dst B]}),?_,?_⟩
 .refine⟨λai=>?_,λai=>?_⟩
  .simp at ai
   let⟨F,U,a9,b5,bA,a6,bR⟩:=bm ai
   let⟨au,bC⟩:=bS U
   have a0:=hI.cell _ (aq au)
   have b6:=(a0.oL bC).2
   have a7:=av au
   have bo:z.args=[aF z.args 0,aF z.args 1]:=by
    cases L:z.args with
    |nil=>rw[L]at F;simp at F
    |cons D ax=>cases ax with
     |nil=>rw[L]at F;simp at F
     |cons H ax=>cases ax with
      |nil=>rfl
      |cons _ _=>rw[L]at F;simp at F
   have a_:cL c z.args=[aF c.ak (aF z.args 0),aF c.ak (aF z.args 1)]:=by rw[bo];rfl
   have b8:=ar.len
   have b7:=ar.cap
   have gw:af m3 T.D (T.off+Int.toNat (0:Int)*1)=some (vi (aF c.ak (aF z.args 0))):=ar.aF (k:=0) (by rw[a_];rfl)
   have am:=S3.rv aP V V (bv S3)
   generalize hw:aF c.ak (aF z.args 0)=w at*
   generalize hv:aF c.ak (aF z.args 1)=ag at*
   let⟨A,hq⟩:=cG a.cF (((aM b.heap w).j8 -cq a).toNat)
   have aj:dN a ((aM b.heap w).j8 -cq a)=A:=by simp[dN,hq]
   rw[aj]at bA a6
   refine⟨V,V,w,gw,d,am.bo,(fQ am U.1 au).mono ?_⟩
   rintro _ m4 ⟨f4,rfl,bQ,W⟩
   let⟨S4,t4⟩:=S3.ext W
   have B4:=B3.to t4
   have a1:=am.ext W
   refine⟨t4.dH B3,_,_,_,rfl,W.da am.bo,(qC a1.fy.bo aE.nN.types).mono ?_⟩
   rintro _ H ⟨rfl,aJ⟩
   let⟨P,t5⟩:=S4.ext aJ
   have B5:=B4.to t5
   have bk:=a1.ext aJ
   refine⟨t5.dH B4,_,rfl,V,V,V,(fQ bk U.1 au).mono ?_⟩
   rintro _ m6 ⟨f6,rfl,bt,aY⟩
   let⟨S6,t6⟩:=P.ext aY
   have B6:=B5.to t6
   have aH:=(W.trans aJ).trans aY
   have e1:(Int.toNat (1:Int))=1:=rfl
   have e2:(Int.toNat (T.len:Int))=T.len:=V
   rw[e1,e2]
   have bG:ap m6 (O.cut T 1 T.len 1) [ag]:=by
    have:=UP (ar.ext aH) (by rw[bD];omega);rw[a_]at this;exact this
   have bT:=a0.fl
   refine⟨t6.dH B5,_,_,_,rfl,(LF bt bG bE).mono ?_⟩
   rintro _ m7 ⟨N,rfl,oe,aZ⟩
   let⟨S7,t7⟩:=S6.ext aZ
   have B7:=B6.to t7
   have ie:ap m7 N ((aM b.heap w).aE++[ag]):=ap.fZ oe bE
   have ay:n N.D=0:=by
    rcases oe.D with C|C
    .subst C;have:=ie.len;simp at this
    .exact al.cQ.new _ (O6 aH.size aD.size)
   have bs:N.D<m7.size:=iE ie aL
   refine⟨t7.dH B6,N,rfl,(Bl S7.cQ U hI V).mono ?_⟩
   rintro _ D ⟨ab,rfl,hb,I,bq,bp⟩
   have t8:To n m7 n D:=I.mono λR Q=>V
   have B8:=B7.to t8
   have ba:ap D N ((aM b.heap w).aE++[ag]):=iP ie λ_=>I.eA _ bs (by rw[ay];decide)
   have bc:To n m n D:=(((((t2.trans t3).trans t4).trans t5).trans t6).trans t7).trans t8
   have bb:cE D G.size dW [.i z.op,.i z.dst,.i z.bP,.i z.bY,.s aa,.s ah]:=(kB.ext (aD.trans (aH.trans aZ))).congr (I.eA _ (B7 G.size aL).1 (by rw[(B7 G.size aL).2];decide))
   have e3:cT ((aM b.heap w).j8 -((eR a.bo).length:Int))=(aM b.heap w).j8 -cq a:=aQ V V
   rw[e3]
   have aG:iI a z 0 ((aM b.heap w).aE++[ag])=dK A.cR 0 ((aM b.heap w).aE++[ag]):=by
    rw[FY V,List.length_eq_zero_iff.1 a6]
   have a5:∀ak,ak=apart b.heap w->qM a b e c z={b with bu:=b.bu+1,heap:=ak,ao:=e++[{c with pc:=c.pc+1},bW a ((aM b.heap w).j8 -cq a) z.dst ((aM b.heap w).aE++[ag])]}:=λak C=>by
    rw[qM,ae V,ae V,hw,hv,C]
   refine⟨t8.dH B7,ab,rfl,λa3=>?_,λa2=>?_⟩
   .have aK:=hb.1 a3
    let⟨S,bL⟩:=S7.gA (I.mono λR Q=>Or.inl Q) (bq a3)
    have bZ:=S.cQ.heap.len
    refine⟨t,S.cQ.box.bZ 7,?_⟩
    intro m9
    have bj:J D m9:=(J.az D).aK _
    let⟨S9,X⟩:=S.ext bj
    have B9:=B8.to X
    clear_value m9
    have bX:=U.1
    have bz:ix w=(w -1000).toNat:=rfl
    have e5:cT (w -1000)=w -1000:=aQ V V
    rw[e5,<-bz]
    refine⟨V,V,S9.cQ.heap.wr (o:=0) a7 bh,?_⟩
    intro b9
    let⟨bw,bg⟩:=S9.cQ.heap.setCell S9.cQ.new a7 0 0 (f:=.mk D.size 0 0 0) (l:=[]) ⟨rfl,aL,aL,aL⟩ (λZ=>absurd rfl Z)
    let⟨az,aR⟩:=S9.gA (bg.mono λR Q=>Or.inl Q) bw
    have aW:=B9.to aR
    refine⟨aR.dH B9,t,az.cQ.box.bZ 7,(xF (az.cQ.heap.cells bE)).mono ?_⟩
    rintro _ b_ ⟨rfl,bi⟩
    let⟨ac,aS⟩:=az.ext bi
    have aX:=aW.to aS
    refine⟨aS.dH aW,_,rfl,ac.cQ.ms (i:=7) aL,?_⟩
    intro aO
    obtain⟨be,ca⟩:=ac.gA (dp.az _ ac.cQ.new) (ac.cQ.heap.cut (tK _ _))
    obtain⟨bf,aU⟩:=be.jv 7 [.s (t.cut 0 (jg (b.heap.set (ix w) iY) (b.heap.set (ix w) iY).length) 3)]
    have bd:=aX.to aU
    have aV:To n D n aO:=((X.trans aR).trans aS).trans aU
    have bH:ap aO N ((aM b.heap w).aE++[ag]):=iP ba λ_=>aV.eA _ (oh I.size) (by rw[ay];simp)
    have bI:cE aO G.size dW [.i z.op,.i z.dst,.i z.bP,.i z.bY,.s aa,.s ah]:=bb.congr (aV.eA _ (B8 G.size aL).1 (by rw[(B8 G.size aL).2];simp))
    refine⟨aU.dH aX,n,_,_,_,A,bf,bc.trans aV,bd,bI,bH,λ_=>ay,a9,hq,bE,aG,λC=>V,λ_=>a5 _ ?_⟩
    rw[apart,an aK];rfl
   .have aK:(aM b.heap w).aP≠1:=λC=>by have:=hb.2 C;rw[a2]at this;simp at this
    let⟨S,bL⟩:=S7.gA (I.mono λR Q=>Or.inl Q) (bp a2)
    refine⟨n,t,_,_,A,S,bc,B8,bb,ba,λ_=>ay,a9,hq,bE,aG,λC=>V,λ_=>a5 _ ?_⟩
    rw[apart,ae aK]
  .simp at ai
   have D:z.op=9\/z.op=24:=V
   let⟨A,N,I,Q⟩:=a4 D
   have aj:dN a z.bP=A:=by simp[dN,I]
   refine⟨n,t,b.heap,cL c z.args,A,S3,t2.trans t3,B3,kB.ext aD,ar,λZ=>bK ow V (λC=>by subst C;have:=ar.len;simp at this;exact Z (List.length_eq_zero_iff.1 this.symm)),N,I,V,by rw[Jl D,aj],λC=>?_,λC=>?_⟩
   .rw[qM,ae V,an C]
   .rw[qM,an V]
 .rintro K wv m4 ⟨au,aX,aS,B,A,S4,t4,B4,be,aY,bd,a9,hq,bi,aG,a6,a7⟩
  have aj:dN a K=A:=by simp[dN,hq]
  have bg:=(aE.dz A (aq hq)).ak
  have h3:=(aE.nN.dz A (aq hq)).1
  refine⟨b.bu,S4.cQ.box.bZ 4,S4.cQ.ms (i:=4) aL,?_⟩
  have e3:cT (b.bu+1)=b.bu+1:=aQ V V
  rw[e3]
  intro H
  let⟨P,t5⟩:=S4.jv 4 [.i (b.bu+1)]
  have B5:zi au H [G.size,m.size]:=B4.to t5
  replace t5:To au m4 au H:=t5
  have c5:dp (λR=>R=1) au m4 au H:=dp.ah S4.cQ.new S4.cQ.Qm _ _
  have aZ:ap H wv B:=iP aY λZ=>c5.eA _ (iE aY Z) (by rw[bd Z];decide)
  have bf:cE H G.size dW [.i z.op,.i z.dst,.i z.bP,.i z.bY,.s aa,.s ah]:=be.congr (c5.eA _ (B4 G.size aL).1 (by rw[(B4 G.size aL).2];decide))
  replace P:ST u au H q bJ (SB d p {b with bu:=b.bu+1,heap:=aS} aT aX j) aT aX j b.aT aS e c r v h y:=P
  refine⟨t5.dH B4,d,P.cQ.box.bZ 0,p,P.cQ.box.bZ 1,?_⟩
  clear_value H
  have a3:=t4.trans t5
  have kg:∀{I a1:E},J I a1->∀{ab ac:Nat}{ag:Value},af I ab ac=some ag->af a1 ab ac=af I ab ac:=λL=>L.da
  have bc:(iI a z 0 B).length=B.length:=DY _ _ _ _
  have bb:(bW a K z.dst B).ak=B++dk (A.ak.toNat -B.length):=by simp[bW,aj]
  have ba:(bW a K z.dst B).aR=iI a z 0 B++dk (A.ak.toNat -(iI a z 0 B).length):=by simp[bW,aj,aG,lS]
  have a_:(bW a K z.dst B).ba=dk A.ak.toNat:=by simp[bW,aj]
  have iH:∀(U az:E)(nb b1 b2 b3:Nat),J H U->qU U az b1 b2 b3 A.ak.toNat (B++dk (A.ak.toNat -B.length)) (iI a z 0 B++dk (A.ak.toNat -(iI a z 0 B).length)) (dk A.ak.toNat)->U.size<=nb/\nb<az.size->nb≠b1/\nb≠b2/\nb≠b3->
   Nd q nb [G.size,m.size] z.op c.pc c.dst K 0 z.dst (.mk b1 0 A.ak.toNat A.ak.toNat) (.mk b2 0 A.ak.toNat A.ak.toNat) (.mk b3 0 A.ak.toNat A.ak.toNat) az (λ_ M=>yl u n m q d p (qM a b e c z) M):=λU az nb b1 b2 b3 L N aR Z=>by
   let⟨SM,tM⟩:=P.ext L
   refine On (s:={b with bu:=b.bu+1,heap:=aS}) (g:=bW a K z.dst B) (c:=z) SM (B5.to tM) (by rw[bb,ba,a_];exact N) aR Z V bB (λC M hF=>?_) (λC M hF=>?_)
   .rw[a6 C];exact yl.from hF (a3.trans tM)
   .rw[a7 C];exact yl.from hF (a3.trans tM)
  have aJ:∀{U:E}{os:O},J H U->ap U os (iI a z 0 B)->aN cg 161 [.agg #[O.v d,O.v p],vi K,vi z.dst,O.v wv,O.v os] U _:=λL ho=>xZ (aP.ext (P.cQ.cx.trans L)) a9 hq V z.dst (aZ.ext L) ho V bc
  have ay:∀{I S:E},J H I->J I S->∀ac,ac<6->af S G.size ac=af I G.size ac:=λY F ac hi=>by
   have R:=bf.ext Y;match ac,hi with
   |0,_=>exact F.da (R.bZ 0)
   |1,_=>exact F.da (R.bZ 1)
   |2,_=>exact F.da (R.bZ 2)
   |3,_=>exact F.da (R.bZ 3)
   |4,_=>exact F.da (R.bZ 4)
   |5,_=>exact F.da (R.bZ 5)
  have Ka:∀{I S:E},J H I->J I S->af S q 0=af I q 0/\af S q 1=af I q 1:=λY F=>⟨F.da (Y.af (P.cQ.box.bZ 0)),F.da (Y.af (P.cQ.box.bZ 1))⟩
  have a2:∀{U:E},J H U->od 192 [vp q 0,xv z aa ah,O.v wv] U (iI a z 0 B):=λL=>EG (aP.ext (P.cQ.cx.trans L)) (L.af (P.cQ.box.bZ 0)) (L.af (P.cQ.box.bZ 1)) br aa ah (aZ.ext L) V
  have sm:∀{I S:E},J H I->J I S->eF [G.size,m.size] I S:=λY F=>F.dv λab hb=>Y.lt (B5 ab hb).1
  have aU:∀{I S:E}{nb:Nat},J H I->J I S->nb<I.size->eF [nb,G.size,m.size] I S:=λY F aR=>F.dv λab hb=>by
   rcases List.mem_cons.1 hb with rfl|hb
   .exact aR
   .exact Y.lt (B5 ab hb).1
  refine⟨(a2 (J.az _)).mono ?_,?_⟩
  .rintro _ ai ⟨os,rfl,oo,Q⟩
   have io:ap ai os (iI a z 0 B):=ap.fZ oo V
   refine⟨sm (J.az _) Q,os,rfl,ay (J.az _) Q 1 V,(Ka (J.az _) Q).1,(Ka (J.az _) Q).2,?_,?_⟩
   .refine(aJ Q io).mono ?_
    rintro _ am ⟨b1,b2,b3,rfl,N⟩
    have aK:=N.ext
    have aV:=Q.trans aK
    refine⟨sm Q aK,_,_,_,_,_,_,rfl,?_⟩
    intro a0
    have aO:J am a0:=(J.az am).aK _
    have D:=ay aV aO
    have X:=Ka aV aO
    refine⟨D 0 V,D 1 V,D 2 V,D 3 V,D 4 V,D 5 V,D 1 V,X.1,X.2,?_⟩
    intro aH
    have a5:J am aH:=aO.ah (ad _) _ _
    have bj:aH.size=am.size+1:=by simp[aH,a0,aw]
    have aW:=N.lo
    exact iH ai aH am.size b1 b2 b3 Q (N.Sf a5) ⟨by have:=aK.size;omega,V⟩ ⟨V,V,V⟩
   .intro aH
    have am:J ai aH:=(J.az ai).aK _
    have a5:aH.size=ai.size+1:=by simp[aH]
    have D:=ay Q am
    have X:=Ka Q am
    refine⟨D 0 V,D 1 V,D 2 V,D 3 V,D 4 V,D 5 V,D 1 V,X.1,X.2,?_⟩
    clear_value aH
    refine(aJ (Q.trans am) (io.ext am)).mono ?_
    rintro _ a0 ⟨b1,b2,b3,rfl,N⟩
    have aK:=N.ext
    refine⟨aU (Q.trans am) aK V,_,_,_,_,_,_,rfl,?_⟩
    intro aO
    have aW:=N.lo
    have aV:=N.box am (nb:=ai.size) (ad _) V 0 [.i K,.i 0,.i z.dst,.s (.mk b1 0 A.ak.toNat A.ak.toNat),.s (.mk b2 0 A.ak.toNat A.ak.toNat),.s (.mk b3 0 A.ak.toNat A.ak.toNat)]
    exact iH ai aO ai.size b1 b2 b3 Q aV ⟨ad _,by simp only[aO,aw];have:=aK.size;omega⟩ ⟨V,V,V⟩
  .intro ai
   have Q:J H ai:=(J.az H).aK _
   have a5:ai.size=H.size+1:=by simp[ai]
   have D:=ay (J.az _) Q
   have X:=Ka (J.az _) Q
   refine⟨D 0 V,D 1 V,D 2 V,D 3 V,D 4 V,D 5 V,D 1 V,X.1,X.2,?_⟩
   clear_value ai
   refine(a2 Q).mono ?_
   rintro _ aV ⟨os,rfl,oo,W⟩
   have io:ap aV os (iI a z 0 B):=ap.fZ oo V
   have am:=Q.trans W
   have bj:=W.size
   refine⟨aU Q W V,os,rfl,ay Q W 1 V,(Ka Q W).1,(Ka Q W).2,?_⟩
   refine(aJ am io).mono ?_
   rintro _ a0 ⟨b1,b2,b3,rfl,N⟩
   have aH:=N.ext
   refine⟨aU am aH V,_,_,_,_,_,_,rfl,?_⟩
   intro aK
   have aW:=N.lo
   have aO:=N.box am (nb:=H.size) (ad _) V 0 [.i K,.i 0,.i z.dst,.s (.mk b1 0 A.ak.toNat A.ak.toNat),.s (.mk b2 0 A.ak.toNat A.ak.toNat),.s (.mk b3 0 A.ak.toNat A.ak.toNat)]
   exact iH H aK H.size b1 b2 b3 (J.az _) aO ⟨ad _,by simp only[aK,aw];have:=aH.size;omega⟩ ⟨V,V,V⟩
def MS(S:ST u n m q bJ (SB d p b aT t j) aT t j b.aT b.heap e c r v h y)(ae:e.length<=100000)(w:Int)(U:∀g,e.getLast?=some g->0<=c.dst/\c.dst<g.ak.length/\c.dst<g.aR.length):
 aN cg 142 [vp q 0,fv c r v h,vi w] m λ_ Z=>yl u n m q d p (match e.getLast? with|none=>{b with cz:=0,value:=w,ao:=[]}|some g=>{b with ao:=e.dropLast++[g.put c.dst w (gG w)]}) Z:=by
 apply vg (q,0)
 simp -zeta only[aC,aB]
 intro f
 have Y:J m f:=(J.az m).aK _
 have s1:f.size=m.size+1:=by simp[f]
 let⟨k,t1⟩:=S.ext Y
 have M:n m.size=0:=S.cQ.new _ (ad _)
 have C:zi n f [m.size]:=λE G=>by simp at G;subst G;exact⟨V,M⟩
 clear_value f
 have H:=k.fS.xO
 have ab:=k.fS.pY.le
 have z:cT ((j.len:Int) -1)=(e.length:Int):=by rw[aQ V V];omega
 have L:Int.toNat (e.length:Int)=e.length:=V
 have F:af f q 8=some (O.v j):=k.cQ.box.bZ 8
 refine⟨j,F,j,F,?_⟩
 rw[z,L]
 refine⟨V,V,V,k.cQ.ms (i:=8) aL,?_⟩
 intro m2
 let⟨x,t2⟩:=k.cQ.jv 8 [.s (j.cut 0 e.length 6)]
 obtain⟨a,_⟩:=x.jI (dp.az _ x.new) (x.ao.U6)
 have o:=C.to t2
 have ac:(j.cut 0 e.length 6).len=e.length:=by
  cases j with
  |nil=>simp at H
  |zD E I l=>simp at H
  |mk E I A l=>simp[O.cut]
 have e3:Int.toNat (0:Int)=0:=rfl
 refine⟨t2.dH C,j.cut 0 e.length 6,a.box.bZ 8,λA=>?_,λA=>?_⟩
 .simp at A
  have N:e=[]:=List.length_eq_zero_iff.1 V
  subst N
  refine⟨a.ms (i:=2) (by simp[kO]),?_⟩
  intro m3
  let⟨l,t3⟩:=a.jv 2 [.i 0]
  have D:=o.to t3
  refine⟨t3.dH o,l.ms (i:=3) (by simp[kO]),?_⟩
  intro P
  let⟨K,B⟩:=l.jv 3 [.i w]
  exact⟨B.dH D,n,aT,t,_,K,(((t1.trans t2).trans t3).trans B)⟩
 .simp at A
  have X:e.length≠0:=V
  have B:e≠[]:=λz=>X (by rw[z];rfl)
  obtain⟨g,l⟩:∃g,e.getLast?=some g:=⟨_,gC B⟩
  let⟨N,P,Q⟩:=U g l
  rw[l]
  simp only[]
  have W:e=e.dropLast++[g]:=by
   rw[gC B]at l;simp at l;rw[<-l];exact(fq B).symm
  have D:vw u n m2 q bJ (SB d p b aT t (j.cut 0 e.length 6)) aT t (j.cut 0 e.length 6) b.aT b.heap (e.dropLast++[g]):=
   ⟨a.cx,a.jQ,a.new,a.box,a.Qm,a.aT,a.heap,by rw[<-W];exact a.ao⟩
  let⟨r',I,h',aa,T⟩:=D.ao.fS
  have R:e.dropLast.length<=100000:=bE
  refine(tE (a:=b) ⟨D,T⟩ R N P Q w).mono ?_
  rintro _ m3 ⟨K,t3⟩
  exact⟨t3.dH o,n,aT,t,_,K.cQ,(t1.trans t2).trans t3⟩
end
end
end Go.Proofs.YtkicoahejfbjhaaGreat
