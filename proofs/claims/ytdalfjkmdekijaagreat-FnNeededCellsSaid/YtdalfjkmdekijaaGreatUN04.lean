/- Part of a proof. -/
import Derived.Test.YtdalfjkmdekijaaGreatUN02
import Derived.Test.YtdalfjkmdekijaaGreatUN03
set_option linter.all false
set_option maxHeartbeats 8000000
set_option maxRecDepth 100000
namespace Go.Proofs.YtdalfjkmdekijaaGreat
open Go.Vc
section
variable{a:Nat}{c:bU}{l:List Int}{x:O}{K:O->E->Prop}{i:Int}
def LZ(l r:List Ce)(o:Nat)(c:Ce)(h:l.length<=o):(l++r).set o c=l++r.set (o -l.length) c:=by
 rw[Xv _ _ h]
def mu:∀(a l r:List Ce)(o:Nat),l.length<=o->iO (l++r) o a=l++iO r (o -l.length) a
 |[],l,r,o,_=>rfl
 |c::a,l,r,o,h=>by
  simp only[iO];rw[LZ _ _ _ _ h,mu a l _ (o+1) V];congr 2;omega
def Cx:∀(a l r:List Ce)(o:Nat),o+a.length<=l.length->iO (l++r) o a=iO l o a++r
 |[],l,r,o,_=>rfl
 |c::a,l,r,o,h=>by
  simp only[aY]at h;simp only[iO];rw[Y9 _ _ V,Cx a _ _ (o+1) bS]
def Nb{f:Nat}:∀(b:List (List Ce))(a:Nat)(e:List Ce)(o:Nat)(d:List Ce),(∀c∈b,c.length=f)->b[a]? =some e->o+d.length<=f->iO b.flatten (a*f+o) d=(b.set a (iO e o d)).flatten
 |[],a,e,o,d,_,h,_=>by simp at h
 |x::b,0,e,o,d,g,h,j=>by
  simp at h;subst h;have i:=g x aZ;rw[jk,PN,bG,Cx _ _ _ _ V,iR,jk]
 |x::b,a+1,e,o,d,g,h,j=>by
  have i:=g x aZ;rw[jk,mu _ _ _ _ (by rw[i,fZ];omega),iQ,jk];have k:(a+1)*f+o -x.length=a*f+o:=by rw[i,fZ];omega
  rw[k,Nb b a e o d (λc l=>g c (ah _ l)) (by simpa using h) j]
def _root_.Go.Vc.gU.set{α:Type}{e:Nat}{R:List Ce->α->Prop}{f:List (List Ce)}{l:List α}(h:gU e R f l)(a:Nat){cs:List Ce}{x:α}(m:cs.length=e)(n:R cs x):gU e R (f.set a cs) (l.set a x):=by
 refine⟨by simp[h.len],λc b=>?_,λk c y b d=>?_⟩
 .rcases cO b with b|b
  .exact h.size c b
  .rw[b];exact m
 .by_cases j:k=a
  .subst j;have g:=az b;have i:=az d;simp at g i;rw[dQ g]at b;rw[dQ i]at d;simp at b d;subst b;subst d;exact n
  .rw[dT (λg=>j g.symm)]at b d;exact h.df k c y b d
def _root_.Go.Vc.gU.take{α:Type}{e:Nat}{R:List Ce->α->Prop}{b:List (List Ce)}{l:List α}(h:gU e R b l)(n:Nat):gU e R (b.take n) (l.take n):=by
 refine⟨by simp[h.len],λc a=>h.size c (dq a),λj c y a d=>?_⟩;have f:=az a;simp at f;rw[dz V]at a d;exact h.df j c y a d
def Ez{b:Nat}:∀(a:List (List Ce))(n:Nat),(∀c∈a,c.length=b)->a.flatten.take (n*b)=(a.take n).flatten
 |[],n,_=>aJ
 |x::a,0,_=>aJ
 |x::a,n+1,h=>by
  have d:=h x aZ;rw[jk,List.take_append,dD (by rw[d,fZ];omega),Mr,jk];have e:(n+1)*b -x.length=n*b:=by rw[d,fZ];omega
  rw[e,Ez a n λc f=>h c (ah _ f)]
section
variable{N:Nat}{d:Nat->Nat}{m:E}{b:O}{h:List bU}
def eS.len(e:eS N d m b h):b.len=h.length:=by
 obtain⟨f,c,a,_⟩:=e;have:=c.len;rw[dp a.size,a.len]at this;omega
def eS.cK(q:eS N d m b h)(e:h[a]? =some c):∃f,af m b.aC (b.off+a*3)=some (vi c.aV)/\af m b.aC (b.off+a*3+1)=some (vi c.mJ)/\af m b.aC (b.off+a*3+2)=some (O.v f)/\au m f c.aN/\FN N d m f c.aN:=by
 obtain⟨l,o,g,_⟩:=q;let⟨k,j⟩:=cq l a (by rw[g.len];exact az e);obtain⟨f,rfl,p,n⟩:=g.df a k c j e;have r:=λi c e=>o.jD (a*3+i) c (iH g.size j e);exact⟨f,r 0 (.i c.aV) rfl,r 1 (.i c.mJ) rfl,r 2 (.s f) rfl,p,n⟩
def eS.cells(g:eS N d m b h)(t:h.length<=9223372036854775807):cX m b h:=by
 have r:=g.len;obtain⟨n,e,a,_⟩:=g;refine⟨r,e.le,V,λk x j=>?_⟩;let⟨l,f⟩:=cq n k (by rw[a.len];exact az j);obtain⟨o,rfl,q,s⟩:=a.df k l x f j;refine⟨_,⟨o,rfl,q⟩,λi c p=>?_⟩;have:=e.jD (k*3+i) c (iH a.size f p);rwa[<-dR]at this
def eS.wr(g:eS N d m b h){a o n:Nat}(f:a<h.length)(j:o+n<=3):fq m b.aC (b.off+a*3+o) n:=by
 obtain⟨i,e,c,_⟩:=g;rw[dR];exact e.wr (by rw[dp c.size,c.len];have:(a+1)*3<=h.length*3:=dt _ f;omega)
def eS.aC(e:eS N d m b h){a:Nat}(i:a<h.length):d b.aC=3/\b.aC<m.size:=by
 have j:=e.len;obtain⟨f,c,g,_⟩:=e;have:=c.le;have:=c.aC V;exact⟨this.2,this.1⟩
def UA(N:Nat)(d:Nat->Nat)(m:E)(b:O)(h:List bU)(f:O)(l:List Int):Prop:=
 l≠[]->(d f.aC=0/\N<=f.aC/\FB m f l)/\∀(i:Nat)(g:O),i<h.length->af m b.aC (b.off+i*3+2)=some (O.v g)->g.len≠0->g.aC≠f.aC
def FB.gG{b:E}{f:O}(h:gS b m aA 1 f (l.map Ce.i))(d:l≠[]):b.size<=f.aC/\FB m f l:=by
 rcases h.aQ with e|⟨g,c,tail,e,h2,h3,_,_⟩
 .have a:=h.len;rw[e,dP,O.NN,PN]at a;exact absurd (List.length_eq_zero_iff.1 a) d
 .rw[e];exact⟨h2,c,tail,rfl,h3⟩
def UA.of{a:E}{w:Nat->Nat}{f:O}(q:eS N w a b h)(s:0<h.length->m[b.aC]? =a[b.aC]?)(u:l≠[]->gS a m aA 1 f (l.map Ce.i))(k:l≠[]->d f.aC=0)(A:N<=a.size):UA N d m b h f l:=λe=>by
 let⟨z,n⟩:=FB.gG (u e) e;refine⟨⟨k e,V,n⟩,λi x r g p=>?_⟩;let⟨c,o⟩:=dJ r;obtain⟨y,_,_,v,kf,_⟩:=q.cK o;rw[aM (s V),v]at g;have:=O.Ix.1 (lG g);subst this;have t:c.aN≠[]:=λj=>by have:=kf.len;rw[j]at this;simp at this;exact p this
 have:=oG kf t;omega
def eS.put(L:eS N d m b h)(Z:∀g,m.size<=g->d g=0){o:Nat}{p:bU}(I:h[a]? =some c){new:List Ce}(ho:o+new.length<=3)
 (W:∀r,au m r c.aN->FN N d m r c.aN->∃f,iO [.i c.aV,.i c.mJ,.s r] o new=[.i p.aV,.i p.mJ,.s f]/\au m f p.aN/\FN N d m f p.aN/\(f=r\/UA N d m b h f p.aN)):
 eS N d (aj m b.aC (b.off+a*3+o) new) b (h.set a p)/\dN (λk=>k=3) d m d (aj m b.aC (b.off+a*3+o) new):=by
 have B:=az I
 have V:=L.aC B
 have J:dN (λk=>k=3) d m d (aj m b.aC (b.off+a*3+o) new):=dN.aj Z V.1 _ _
 let⟨v,E,n,F⟩:=L
 let⟨S,w⟩:=cq v a (by rw[n.len];exact B)
 obtain⟨r,rfl,X,T⟩:=n.df a S c w I
 let⟨f,D,K,U,hd⟩:=W r X T
 have Q:∀(j:Nat)(q:List Ce)(g:O),v[j]? =some q->q[2]? =some (.s g)->j≠a->f.len≠0->g.len≠0->f.aC≠g.aC:=λj q g e H Y s t=>by
  rcases hd with rfl|hd
  .exact F a j _ q f g w e rfl H (λl=>Y l.symm) s t
  .have u:p.aN≠[]:=λl=>by have:=K.len;rw[l]at this;simp at this;exact s this
   refine kE ((hd u).2 j g (by rw[<-n.len];exact az e) ?_ t);have:=E.jD (j*3+2) _ (iH n.size e H);rwa[<-dR]at this
 refine⟨⟨v.set a (iO [.i c.aV,.i c.mJ,.s r] o new),?_,?_,?_⟩,J⟩
 .rw[<-Nb v a _ o new n.size w ho,dR]
  exact E.set (by rw[dp n.size,n.len];have:(a+1)*3<=h.length*3:=dt _ B;omega)
 .rw[D]
  exact(n.set a rfl ⟨f,rfl,K,U⟩).mono (HV.fI J bo)
 .rw[D]
  have G:=az w
  intro i j C q x R u e z A y s t
  by_cases M:i=a
  .subst M
   rw[dQ G]at u
   rw[dT y]at e
   simp at u;subst u
   simp at z;subst z
   exact Q j q R e A (λl=>y l.symm) s t
  .rw[dT (λl=>M l.symm)]at u
   by_cases P:j=a
   .subst P
    rw[dQ G]at e
    simp at e;subst e
    simp at A;subst A
    exact kE (Q i C x u z y t s)
   .rw[dT (λl=>P l.symm)]at e
    exact F i j C q x R u e z A y s t
def eS.EX(j:eS N d m b h)(k:∀e,m.size<=e->d e=0)(g:h[a]? =some c)(n:Int):
 eS N d (aj m b.aC (b.off+a*3) [.i n]) b (h.set a {c with aV:=n})/\dN (λe=>e=3) d m d (aj m b.aC (b.off+a*3) [.i n]):=
 j.put k g (o:=0) (new:=[.i n]) aJ λf i e=>⟨f,rfl,i,e,Or.inl rfl⟩
def eS.setCell(k:eS N d m b h)(q:∀e,m.size<=e->d e=0)(g:a<h.length)(n t:Int){f:O}(j:au m f l)(e:UA N d m b h f l):
 eS N d (aj m b.aC (b.off+a*3) [.i n,.i t,.s f]) b (h.set a ⟨n,t,l⟩)/\dN (λi=>i=3) d m d (aj m b.aC (b.off+a*3) [.i n,.i t,.s f]):=by
 let⟨c,i⟩:=dJ g
 exact k.put q i (o:=0) (new:=[.i n,.i t,.s f]) aJ λr u s=>⟨f,rfl,j,λp=>(e p).1,Or.inr e⟩
def eS.cut(j:eS N d m b h){n:Nat}(v:n<=h.length):eS N d m (b.cut 0 n 3) (h.take n):=by
 have u:=j.len;let⟨f,q,g,r⟩:=j;refine⟨f.take n,by rw[<-Ez f n g.size];exact q.cut V,g.take n,λi k o p a l c e=>?_⟩;have s:i<n:=by have:=az c;simp at this;omega
 have t:k<n:=by have:=az e;simp at this;omega
 rw[dz s]at c;rw[dz t]at e;exact r i k o p a l c e
def eS.push(F:eS N d m b h)(Q:∀c,m.size<=c->d c=0)(S:x.len=1){p t:Int}{f:O}(R:gN m x.aC x.off [.i p,.i t,.s f])(E:au m f l)(C:UA N d m b h f l)(W:h.length<=2000000000)
 (M:∀z y w,eS N z w y (h++[⟨p,t,l⟩])->dN (λk=>k=3) d m z w->K y w):jb m rZ [.i (0:Int),.i (0:Int),.s O.nil] 40 b x K:=by
 have U:=F.len
 let⟨k,D,A,J⟩:=F
 refine iG.append (zs:=[.i 0,.i 0,.s .nil]) (c:=[.i p,.i t,.s f]) D Q (by simp[S]) R V λz y w T H=>M z y w ⟨k++[[.i p,.i t,.s f]],by simpa using T,(A.zg (cs:=[.i p,.i t,.s f]) (x:=⟨p,t,l⟩) rfl ⟨f,rfl,E,λe=>(C e).1⟩).mono (HV.fI H bo),?_⟩ H
 have G:∀(o:Nat)(q:List Ce)(c:O),k[o]? =some q->q[2]? =some (.s c)->f.len≠0->c.len≠0->f.aC≠c.aC:=λo q c v s e n=>by
  have P:l≠[]:=λI=>by have:=E.len;rw[I]at this;simp at this;exact e this
  refine kE ((C P).2 o c (by rw[<-A.len];exact az v) ?_ n);have:=D.jD (o*3+2) _ (iH A.size v s);rwa[<-dR]at this
 have yU:∀{i:Nat}{j:List Ce}{a:O},(k++[[.i p,.i t,.s f]])[i]? =some j->j[2]? =some (.s a)->k[i]? =some j\/(i=k.length/\a=f):=λ{i j a} g r=>by
  rcases aX i k.length with e|e
  .rw[ay e]at g;exact Or.inl g
  .rw[aI e]at g;have n:i -k.length=0:=by have:=az g;simp at this;omega
   rw[n]at g;simp at g;subst g;simp at r;exact Or.inr ⟨V,r.symm⟩
 intro i o j q a c g v r s L e n
 rcases yU g r with B|⟨B,rfl⟩
 .rcases yU v s with u|⟨u,rfl⟩
  .exact J i o j q a c B u r s L e n
  .exact kE (G i j a B r n e)
 .rcases yU v s with u|⟨u,rfl⟩
  .exact G o q c u s e n
  .omega
end
structure sj(ro:Nat->Nat)(m:E)(fr:O)(fs:List be)(f:be)(r o h:O)(css:List (List Ce)):Prop where
 sk:iG ro m eE 6 4 fr (css.flatten++[.i f.dW,.i f.pc,.i f.dst,.s r,.s o,.s h])
 len:css.length=fs.length
 size:∀cs∈css,cs.length=6
 df:∀(i:Nat)(cs:List Ce)(g:be),css[i]? =some cs->fs[i]? =some g->Ur ro m i cs g
 ax:iG ro m aA 1 (10+3*fs.length) r (f.ax.map Ce.i)
 bg:iG ro m aA 1 (11+3*fs.length) o (f.bg.map Ce.i)
 bB:iG ro m aA 1 (12+3*fs.length) h (f.bB.map Ce.i)
section
variable{d n:Nat->Nat}{m k:E}{b:O}{a:List be}{f:be}{r e h:O}{j:List (List Ce)}
def oF.iP(n:oF d m b (a++[f])):∃r e h j,sj d m b a f r e h j:=by
 let⟨j,u,l,v,p⟩:=n;have o:j≠[]:=λc=>by rw[c]at l;simp at l
 have c:j=j.dropLast++[j.getLast o]:=(iE o).symm;generalize j.dropLast=c0 at c;generalize j.getLast o=cl at c;subst c;have t:c0.length=a.length:=by simpa using l
 obtain⟨r,e,h,rfl,y,x,n⟩:=p a.length cl f (by rw[aI V];simp[t]) aJ;refine⟨r,e,h,c0,by simpa using u,t,λk w=>v k (by simp[w]),λi k g q s=>p i k g ?_ ?_,y,x,n⟩
 .rw[ay (az q)];exact q
 .rw[ay (az s)];exact s
def sj.tn(T:sj d m b a f r e h j):oF d m b (a++[f]):=by
 refine⟨j++[[.i f.dW,.i f.pc,.i f.dst,.s r,.s e,.s h]],by simpa using T.sk,by simp[T.len],λl c=>?_,λi l o g k=>?_⟩
 .rcases List.mem_append.1 c with c|c
  .exact T.size l c
  .simp at c;subst c;rfl
 .rcases aX i a.length with n|n
  .rw[ay (by rw[T.len];exact n)]at g;rw[ay n]at k;exact T.df i l o g k
  .have p:i=a.length:=by have:=az k;simp at this;omega
   subst p;rw[aI (by rw[T.len];omega)]at g;simp[T.len]at g k;subst g;subst k;exact⟨r,e,h,rfl,T.ax,T.bg,T.bB⟩
def sj.EA(T:sj d m b a f r e h j):b.len=a.length+1:=by
 have:=T.sk.len;simp only[aU,dp T.size,T.len,aY,cE]at this;omega
def sj.jD(T:sj d m b a f r e h j):af m b.aC (b.off+a.length*6)=some (vi f.dW)/\af m b.aC (b.off+a.length*6+1)=some (vi f.pc)/\af m b.aC (b.off+a.length*6+2)=some (vi f.dst)/\
 af m b.aC (b.off+a.length*6+3)=some (O.v r)/\af m b.aC (b.off+a.length*6+4)=some (O.v e)/\af m b.aC (b.off+a.length*6+5)=some (O.v h):=by
 have l:j.flatten.length=a.length*6:=by rw[dp T.size,T.len]
 have g:=λ(i:Nat)(c:Ce)(k:[Ce.i f.dW,Ce.i f.pc,Ce.i f.dst,Ce.s r,Ce.s e,Ce.s h][i]? =some c)=>T.sk.jD (a.length*6+i) c (by rw[aI V,l,Ge];exact k)
 exact⟨g 0 (.i f.dW) rfl,g 1 (.i f.pc) rfl,g 2 (.i f.dst) rfl,g 3 (.s r) rfl,g 4 (.s e) rfl,g 5 (.s h) rfl⟩
def sj.fI{p:Nat->Prop}(T:sj d m b a f r e h j)(c:dN p d m n k)(g:∀l,(l=4\/10<=l)->¬p l):sj n k b a f r e h j:=
 ⟨T.sk.fI c (g _ V),T.len,T.size,λi o q s t=>(T.df i o q s t).fI c λl u _=>g l V,T.ax.fI c (g _ V),T.bg.fI c (g _ V),T.bB.fI c (g _ V)⟩
def sj.ext(T:sj d m b a f r e h j)(g:∀c,m.size<=c->d c=0)(c:J m k):sj d k b a f r e h j:=T.fI (dN.fK (λ_=>False) c g) λ_ _=>id
def sj.xe{p:Nat->Prop}(T:sj d m b a f r e h j)(s:dN p d m n k)(t:∀c,10<=c->c<10+3*a.length->¬p c):∀(i:Nat)(g:List Ce)(l:be),j[i]? =some g->a[i]? =some l->Ur n k i g l:=λi g l q o=>
 (T.df i g l q o).fI s λc u _=>t c V (oh (az o))
def sj.G8(T:sj d m b a f r e h j)(p:∀c,m.size<=c->d c=0)(n:0<=i)(g:i<f.ax.length)(v:Int):
 sj d (aj m r.aC (r.off+i.toNat*1) [.i v]) b a {f with ax:=iD f.ax i v} r e h j/\dN (λk=>4<=k/\k≠9) d m d (aj m r.aC (r.off+i.toNat*1) [.i v]):=by
 have o:r.cap≠0:=λl=>by have:=(T.ax.Et l).1;simp at this;rw[this]at g;simp at g;omega
 have c:dN (λk=>k=10+3*a.length) d m d (aj m r.aC (r.off+i.toNat*1) [.i v]):=dN.aj p (T.ax.aC o).2 _ _
 exact⟨⟨T.sk.fI c V,T.len,T.size,T.xe c λk _ q=>V,T.ax.iD n g v,T.bg.fI c V,T.bB.fI c V⟩,c.mono λk q=>V⟩
def sj.zf(T:sj d m b a f r e h j)(p:∀c,m.size<=c->d c=0)(n:0<=i)(g:i<f.bg.length)(v:Int):
 sj d (aj m e.aC (e.off+i.toNat*1) [.i v]) b a {f with bg:=iD f.bg i v} r e h j/\dN (λk=>4<=k/\k≠9) d m d (aj m e.aC (e.off+i.toNat*1) [.i v]):=by
 have o:e.cap≠0:=λl=>by have:=(T.bg.Et l).1;simp at this;rw[this]at g;simp at g;omega
 have c:dN (λk=>k=11+3*a.length) d m d (aj m e.aC (e.off+i.toNat*1) [.i v]):=dN.aj p (T.bg.aC o).2 _ _
 exact⟨⟨T.sk.fI c V,T.len,T.size,T.xe c λk _ q=>V,T.ax.fI c V,T.bg.iD n g v,T.bB.fI c V⟩,c.mono λk q=>V⟩
def sj.EY(T:sj d m b a f r e h j)(p:∀c,m.size<=c->d c=0)(n:0<=i)(g:i<f.bB.length)(v:Int):
 sj d (aj m h.aC (h.off+i.toNat*1) [.i v]) b a {f with bB:=iD f.bB i v} r e h j/\dN (λk=>4<=k/\k≠9) d m d (aj m h.aC (h.off+i.toNat*1) [.i v]):=by
 have o:h.cap≠0:=λl=>by have:=(T.bB.Et l).1;simp at this;rw[this]at g;simp at g;omega
 have c:dN (λk=>k=12+3*a.length) d m d (aj m h.aC (h.off+i.toNat*1) [.i v]):=dN.aj p (T.bB.aC o).2 _ _
 exact⟨⟨T.sk.fI c V,T.len,T.size,T.xe c λk _ q=>V,T.ax.fI c V,T.bg.fI c V,T.bB.iD n g v⟩,c.mono λk q=>V⟩
def sj.aC(T:sj d m b a f r e h j):d b.aC=4/\b.aC<m.size:=by
 have:=T.EA;have:=T.sk.le;have:=T.sk.aC V;exact⟨this.2,this.1⟩
def sj.Rn(T:sj d m b a f r e h j)(i:∀c,m.size<=c->d c=0)(v:Int):
 sj d (aj m b.aC (b.off+a.length*6+1) [.i v]) b a {f with pc:=v} r e h j/\dN (λk=>4<=k/\k≠9) d m d (aj m b.aC (b.off+a.length*6+1) [.i v]):=by
 have c:dN (λk=>k=4) d m d (aj m b.aC (b.off+a.length*6+1) [.i v]):=dN.aj i T.aC.1 _ _
 refine⟨⟨?_,T.len,T.size,T.xe c λk l n=>V,T.ax.fI c V,T.bg.fI c V,T.bB.fI c V⟩,c.mono λk p=>V⟩
 have g:j.flatten.length=a.length*6:=by rw[dp T.size,T.len]
 have:=T.sk.set (o:=a.length*6+1) (new:=[.i v]) (by simp[g])
 rw[mu _ _ _ _ V,g,Ge]at this
 rw[dR];exact this
def sj.Y5(T:sj d m b a f r e h j):fq m b.aC (b.off+a.length*6+1) 1:=by
 rw[dR];exact T.sk.wr (by simp only[aU,dp T.size,T.len,aY,cE];omega)
end
def oF.Vg{d:Nat->Nat}{m:E}{c:O}{a:List be}{f:be}(e:oF d m c (a++[f])):oF d m (c.cut 0 a.length 6) a:=by
 let⟨r,o,h,b,T⟩:=e.iP;have g:b.flatten.length=a.length*6:=by rw[dp T.size,T.len]
 have:=T.sk.cut (n:=a.length) (by rw[T.EA];omega);rw[mN V,dD V]at this;exact⟨b,this,T.len,T.size,T.df⟩
def oF.push{d:Nat->Nat}{m:E}{l:O}{b:List be}(D:oF d m l b)(F:∀a,m.size<=a->d a=0)(H:x.len=1){a:be}{c j g:O}(G:gN m x.aC x.off [.i a.dW,.i a.pc,.i a.dst,.s c,.s j,.s g])
 (y:iG d m aA 1 (10+3*b.length) c (a.ax.map Ce.i))(z:iG d m aA 1 (11+3*b.length) j (a.bg.map Ce.i))(A:iG d m aA 1 (12+3*b.length) g (a.bB.map Ce.i))(N:b.length<=1000000)
 (n:∀k c e,oF k e c (b++[a])->dN (λp=>p=4) d m k e->K c e):jb m eE [.i (0:Int),.i (0:Int),.i (0:Int),.s O.nil,.s O.nil,.s O.nil] 96 l x K:=by
 let⟨v,q,s,t,J⟩:=D
 have M:l.len=b.length:=by have:=q.len;rw[dp t,s]at this;omega
 refine iG.append (zs:=[.i 0,.i 0,.i 0,.s .nil,.s .nil,.s .nil]) (c:=[.i a.dW,.i a.pc,.i a.dst,.s c,.s j,.s g]) q F (by simp[H]) G V λk L e I p2=>n k L e ?_ p2
 exact sj.tn (f:=a) (a:=b) (j:=v) (r:=c) (e:=j) (h:=g) ⟨by simpa using I,s,t,λi u w B C=>(J i u w B C).fI p2 λp n _=>V,y.fI p2 V,z.fI p2 V,A.fI p2 V⟩
end
section
variable{m:E}{d:List bU}{g:Nat->Nat}{b k N j:Nat}{q r:List Int}{c:bU}{i:Int}{e:Nat->Int}
def H9:∀(d:List bU)(k:Nat),k<=d.length->(∀c∈d.take k,c.aV≠0)->k<=fp d
 |[],k,a,_=>by simp at a;simp[a]
 |c::d,0,_,_=>dy _
 |c::d,k+1,a,b=>by
  have f:=b c aJ;have:=H9 d k (by simpa using a) (λe hd=>b e (by simp[hd]));simp only[fp];rw[ae f];omega
def MK:∀(d:List bU)(k:Nat)(c:bU),(∀b∈d.take k,b.aV≠0)->d[k]? =some c->c.aV=0->fp d=k
 |[],k,c,_,a,_=>by simp at a
 |b::d,0,c,_,a,e=>by simp at a;subst a;simp[fp,e]
 |b::d,k+1,c,f,a,e=>by
  have g:=f b aJ;have:=MK d k c (λx h=>f x (by simp[h])) (by simpa using a) e;simp only[fp];rw[ae g,this]
def Fl{i:O}(g:cX m i d):LA cv 245 [O.v i] m (vi (fp d)):=by
 apply zH;have p:=g.len;refine eu (n:=d.length) (p▸g.fA) (λk a=>J m a/\∀c∈d.take k,c.aV≠0) ⟨J.aH _,aJ⟩ ?_;rintro k t I μ o ⟨a,h⟩ q
 refine dit (λl=>?_) λl=>?_
 .let⟨c,f⟩:=cq d k;obtain⟨r,s,j,_⟩:=(cX.ext a g).aQ f;refine⟨V,V,c.aV,by simpa using j,λb=>⟨?_,a⟩,λb=>q V _ ⟨a,bN f h (by simpa using b)⟩⟩;rw[MK d k c h f (by simpa using b)]
 .refine⟨?_,a⟩;have:=H9 d k o h;have:=uS d;have e:(i.len:Int)=(fp d:Int):=V;rw[e]
def vM(g:Nat->Nat)(b k:Nat):Nat->Nat:=λc=>if c=b then k else g c
def ji(g:Nat->Nat)(b k:Nat):vM g b k b=k:=ao rfl
def fH{c:Nat}(d:c≠b):vM g b k c=g c:=ae d
def dN.vM{p:Nat->Prop}{m':E}(d:J m m')(e:∀b,m.size<=b->g b=0)(f:m.size<=b)(h:b<m'.size)(k:Nat):dN p g m (vM g b k) m':=
 ⟨d.size,λc a=>fH V,λc a=>by rw[fH V];exact e c (bJ d.size a),λc a _=>d.same c a⟩
def Mi{s:O}(f:eS N g m s d)(p:∀b,m.size<=b->g b=0){c:Nat}(ha:c<=d.length)(w:Int){G:O}(T:au m G q)(W:d.length<=2000000000)(L:q.length<=1000000000)(I:N<=m.size):
 aP cv 246 [O.v s,vi c,vi w,O.v G] m λZ S=>∃v M,Z=O.v M/\eS N v S M (lX d c ⟨1,w,q⟩)/\HC g m v S:=by
 apply HD
 simp -zeta only[aG,aF]
 refine(fE T L).then L λE u o1 Q H=>⟨E,rfl,?_⟩
 intro X a
 have n:J u a:=((J.aH u).aR _).aj (ad _) _ _
 have s3:a.size=u.size+1:=by simp[a,X,aD]
 have t:=H.trans n
 clear_value a
 have y:HC g m g a:=dN.fK _ t p
 have C:=y.new
 have A:eS N g a s d:=f.fI (dN.fK (λ_=>False) t p) id id
 have aa:=f.len
 have R:=Q.ext n
 have P:q≠[]->g E.aC=0:=λU=>by
  rcases o1.aC with e|e
  .subst e;have:=Q.len;simp at this;exact absurd (List.length_eq_zero_iff.1 this.symm) U
  .exact p _ e
 have K:g u.size=0:=p _ H.size
 refine⟨λe=>?_,λe=>?_⟩
 .simp at e
  intro h
  have i:J a h:=(J.aH a).aR _
  have kZ:gN h a.size 0 [.i 1,.i w,.s E]:=(cB.push a _ _).jD
  have F:HC g m g h:=y.trans (dN.fK _ i C)
  have s4:h.size=a.size+1:=by simp[h]
  clear_value h
  refine eS.push (A.fI (dN.fK (λ_=>False) i C) id id) F.new (x:=.mk a.size 0 1 1) rfl kZ (R.ext i) (UA.of f (λz=>(t.trans i).same _ (f.aC z).2) (λ_=>o1.ext (n.trans i)) P I) W λv r Y D l=>⟨λb j=>?_,v,r,rfl,?_,F.trans (l.mono λk B=>Or.inl B)⟩
  .simp at j;subst j
   exact l.fU _ V (by rw[K];decide)
  .rw[lX,ao V];exact D
 .simp at e
  have h:c<d.length:=V
  have i:Int.toNat (c:Int)=c:=V
  rw[i]
  refine⟨V,V,A.wr (o:=0) h bo,?_⟩
  intro Y
  let⟨D,l⟩:=A.setCell C h 1 w R (UA.of f (λz=>t.same _ (f.aC z).2) (λ_=>o1.ext n) P I)
  refine⟨λb j=>?_,g,s,rfl,?_,y.trans (l.mono λk B=>Or.inl B)⟩
  .simp at j;subst j
   exact l.fU _ V (by rw[K];decide)
  .rw[lX,ae V];exact D
def QH(b:d[j]? =some c)(a:c.aV≠0):kG d (j+1)=j+1:=by
 simp only[kG,b];rw[ae a]
def Uc(b:d[j]? =some c)(a:c.aV=0):kG d (j+1)=kG d j:=by
 simp only[kG,b];rw[ao a]
def wO{a:O}(b:cX m a d):aP cv 248 [O.v a] m λv n=>v=O.v (a.cut 0 (kG d d.length) 3)/\J m n:=by
 apply Jq;have w:=b.len;have t:=b.cap;have x:=b.fA;refine⟨λi n=>J m n/\∃j:Nat,i=j/\j<=d.length/\kG d j=kG d d.length,λi _=>i.toNat,⟨J.aH _,d.length,V,ad _,rfl⟩,?_⟩;rintro i r ⟨l,j,rfl,y,o⟩;have hO:kG d j=j->Value.slice=Value.slice->(0:Int)<=(0:Int)/\(0:Int)<=(j:Int)/\(j:Int)<=(a.cap:Int)/\(O.v (O.cut a (Int.toNat (0:Int)) (Int.toNat (j:Int)) 3)=O.v (a.cut 0 (kG d d.length) 3)/\J m r):=λe _=>by
  refine⟨V,V,V,?_,l⟩;rw[<-o,e];rfl
 refine⟨λf=>?_,λf=>?_⟩
 .simp only[iX,aq]at f;obtain⟨k,rfl⟩:∃k,j=k+1:=⟨j -1,V⟩;have p:cQ (((k+1:Nat):Int) -1)=(k:Int):=by rw[aS V V];omega
  rw[p];let⟨c,h⟩:=cq d k;obtain⟨s,u,q,_⟩:=(cX.ext l b).aQ h;refine⟨V,V,c.aV,by simpa using q,λg=>⟨⟨l,k,rfl,V,?_⟩,by show(k:Int).toNat<((k+1:Nat):Int).toNat;omega⟩,λg=>hO (QH h (by simpa using g)) rfl⟩;rw[<-o,Uc h (by simpa using g)]
 .simp only[iX,bD]at f;have:j=0:=V;subst this;exact hO rfl rfl
def iG.Vg{s:O}(d:iG g m aA 1 k s ((q++[i]).map Ce.i)):s.len=q.length+1/\af m s.aC (s.off+q.length*1)=some (vi i)/\iG g m aA 1 k (s.cut 0 q.length 1) (q.map Ce.i):=by
 have a:s.len=q.length+1:=by have:=d.len;simp at this;omega
 refine⟨a,?_,?_⟩
 .have:=d.jD q.length (.i i) aJ;rw[cT];exact this
 .have:=d.cut (n:=q.length) V;rw[cT,eX,mN aJ,dD aJ]at this;exact this
def fR.UY(h:fR d (λb=>e b+eK (i::r) b))(c:∀b,0<=e b)(a:ib d i)(f:(bd d i).aV=1):fR (d.set (ix i) jS) (λb=>e b+eK ((bd d i).aN.reverse++r) b):=by
 let⟨g,j⟩:=cz a;refine fR.Ql h g f ?_ bo bo rfl (by simp[jS]) (by simp[jS]) (λ_=>rfl) λb=>?_
 .simp only[iy a.1,ao];have:=c (ix i);have:=iz r (ix i);omega
 .simp only[iy a.1,nO,yX];omega
def fR.Tb(c:fR d (λb=>e b+eK (i::r) b))(g:∀b,0<=e b)(f:ib d i)(j:(bd d i).aV≠1):fR (gE d i) (λb=>e b+eK r b):=by
 let⟨a,h⟩:=cz f;have k:=(c.cell _ (av a)).hi;refine fR.JE c a h V V (λb=>?_) ?_
 .simp only[iy f.1];split<;>omega
 .have:=g (ix i);have:=iz r (ix i);omega
def fR.UX(a:fR d (λb=>e b+eK (i::r) b))(c:i<1000):fR d (λb=>e b+eK r b):=
 a.congr λb=>by simp only[eK];rw[ae V];omega
def fR.Ta(f:fR d (λb=>e b+eK (i::r) b))(c:∀b,0<=e b)(a:1000<=i):ib d i:=
 ⟨a,f.lv _ (by simp only[iy a,ao];have:=c (ix i);have:=iz r (ix i);omega)⟩
def ID:List bU->Nat
 |[]=>0
 |c::d=>c.aN.length+ID d
def J8:∀{d:List bU}{e:Nat}{c:bU}(b:bU),d[e]? =some c->ID (d.set e b)+c.aN.length=ID d+b.aN.length
 |[],e,c,b,d=>by simp at d
 |g::d,0,c,b,f=>by simp at f;subst f;simp only[iR,ID];omega
 |g::d,e+1,c,b,f=>by
  have:=J8 (d:=d) (e:=e) b (by simpa using f);simp only[iQ,ID];omega
def Q6:∀{d:List bU},(∀c∈d,c.aN.length<=3)->ID d<=3*d.length
 |[],_=>by simp[ID]
 |c::d,a=>by
  have:=Q6 (λb hd=>a b (ah _ hd));have:=a c aZ;simp only[ID,aY];omega
def Fj{D:O}(hh:eS N g m D d)(hn:∀b,m.size<=b->g b=0){ws:O}(hw:au m ws [i])(hI:fR d (λb=>e b+eK [i] b))(W:∀b,0<=e b)(aK:d.length<=2000000000):
 aP cv 222 [O.v D,O.v ws] m λaC v=>∃y aj,aC=O.v aj/\eS N y v aj (rh (je d [i]))/\HC g m y v:=by
 apply zE
 refine(fE hw aJ).then aJ λs L o1 i1 h1=>⟨s,rfl,?_⟩
 have al:s≠.nil:=λe=>by subst e;have:=i1.len;simp at this
 have F:m.size<=s.aC/\s.aC<L.size:=by
  rcases o1.aC with e|e
  .exact absurd e al
  .rcases o1.lt with z|z
   .exact absurd z al
   .exact⟨e,z⟩
 have c1:HC g m (vM g s.aC 6) L:=dN.vM h1 hn F.1 F.2 6
 have a1:iG (vM g s.aC 6) L aA 1 6 s ([i].map Ce.i):=iG.gG o1 λ_=>ji _ _ _
 have aw:eS N (vM g s.aC 6) L D d:=hh.fI (dN.vM (p:=λ_=>False) h1 hn F.1 F.2 6) id id
 have aG:=Q6 λc a=>(hI.cell c a).fl
 have aH:=hh.len
 refine wW (γ:=List bU×List Int) (λh rY v=>∃y,eS N y v D h.1/\iG y v aA 1 6 rY (h.2.reverse.map Ce.i)/\HC g m y v/\fR h.1 (λb=>e b+eK h.2 b)/\je h.1 h.2=je d [i]/\h.1.length=d.length/\h.2.length+ID h.1<=1+ID d) (λh=>IA h.1+h.2.length) (d,[i])
  ⟨_,aw,a1,c1,hI,rfl,rfl,aJ⟩ ?_
 rintro⟨a,st⟩ rY m2 aD μ ⟨q,A,a2,h,t,u,I,ad⟩ aa
 simp only[]at A a2 t u I ad
 have am:rY.len=st.length:=by have:=a2.len;simp at this;omega
 refine⟨λR=>?_,λR=>?_⟩
 .simp only[iX,aq]at R
  cases st with
  |nil=>simp at am;omega
  |cons x r=>
   simp only[List.reverse_cons]at a2
   let⟨p1,p2,p3⟩:=a2.Vg
   simp only[aY,Mq]at am p1 p2 p3 ad
   have e1:cQ ((rY.len:Int) -1)=(r.length:Int):=by rw[aS V V];omega
   have aE:=a2.le
   rw[e1]
   have z:Int.toNat (0:Int)=0:=rfl
   have e3:Int.toNat (r.length:Int)=r.length:=V
   rw[z,e3]
   refine⟨V,V,x,p2,V,V,V,(dK _ _).then λb M hb n=>⟨b,rfl,λar=>?_,λan=>?_⟩⟩
   .have hx:=hb.1 ar
    have C:=t.Ta W hx
    let⟨j,ak⟩:=cz C
    have ag:=az j
    have ay:ix x=(x -1000).toNat:=rfl
    have aI:=(t.cell _ (av j)).hi
    have e4:cQ (x -1000)=x -1000:=aS V V
    rw[e4,<-ay]
    have G:HC q m2 q M:=dN.fK _ n h.new
    have Y:eS N q M D a:=A.fI (dN.fK (λ_=>False) n h.new) id id
    have a3:=p3.fI (dN.fK (λ_=>False) n h.new) id
    obtain⟨f0,g0,_,_,_,_⟩:=Y.cK j
    refine⟨V,V,_,g0,V,V,Y.wr (o:=0) ag bo,?_⟩
    have e5:cQ ((bd a x).aV -1)=(bd a x).aV -1:=aS V V
    rw[e5]
    intro m4
    let⟨Z,c4⟩:=Y.EX G.new j ((bd a x).aV -1)
    have a4:=a3.fI c4 bo
    have Q:HC g m q m4:=(h.trans G).trans (c4.mono λk B=>Or.inl B)
    have U:=mh (d:=jS) j
    simp only[ao ak,jS]at U
    simp at U
    have aB:(a.set (ix x) {bd a x with aV:=(bd a x).aV -1})[ix x]? =some {bd a x with aV:=(bd a x).aV -1}:=eV j
    obtain⟨f1,k0,_,k2,kf,kr⟩:=Z.cK aB
    refine⟨V,V,_,k0,λS=>?_,λS=>?_⟩
    .simp only[aO]at S
     have ai:(bd a x).aV=1:=V
     have aF:=(t.cell _ (av j)).fl
     have X:=kf.len
     simp only[]at X kf kr
     have H:=J8 jS j
     simp only[jS,cE]at H
     refine⟨V,V,f1,k2,iG.append (zs:=[.i 0]) (c:=(bd a x).aN.map Ce.i) a4 Q.new (by simp[X]) kf.sK ?_ λab aL P q1 q2=>?_⟩
     .have:(rY.cut 0 r.length 1).len=r.length:=by have:=a4.len;simp at this;omega
      rw[this,X];omega
     have ax:=Z.fI q2 bo bo
     have E:HC g m ab P:=Q.trans (q2.mono λk B=>Or.inr (Or.inr B))
     intro m6
     have T:J P m6:=(J.aH P).aR _
     have ae:=ax.fI (dN.fK (λ_=>False) T E.new) id id
     have a6:=q1.fI (dN.fK (λ_=>False) T E.new) id
     have ac:HC g m ab m6:=E.trans (dN.fK _ T E.new)
     clear_value m6
     have ah:ix x<(a.set (ix x) {bd a x with aV:=(bd a x).aV -1}).length:=by simpa using ag
     refine⟨V,V,ae.wr (o:=0) ah bo,?_⟩
     intro m7
     let⟨af,c7⟩:=ae.setCell ac.new ah 0 0 (f:=.mk P.size 0 0 0) (l:=[]) ⟨rfl,aJ,aJ,aJ⟩ (λK=>absurd rfl K)
     rw[List.set_set]at af
     refine aa (a.set (ix x) jS,(bd a x).aN.reverse++r) _ _ ⟨ab,af,?_,ac.trans (c7.mono λk B=>Or.inl B),t.UY W C ai,?_,by simpa using I,?_⟩ ?_
     .have:=a6.fI c7 bo
      simpa using this
     .rw[<-AL C ai];exact u
     .simp only[aU,Mq]
      have B:ID (a.set (ix x) jS)+(bd a x).aN.length=ID a:=by simpa[jS]using H
      omega
     .simp only[aU,Mq,aY]
      have B:IA (a.set (ix x) jS)+((bd a x).aV.toNat+(bd a x).aN.length)=IA a:=by simpa[jS]using U
      omega
    .simp only[ap]at S
     have K:(bd a x).aV≠1:=V
     have B:=mh (d:={bd a x with aV:=(bd a x).aV -1}) j
     simp only[ao ak]at B
     rw[ao V]at B
     have H:=J8 {bd a x with aV:=(bd a x).aV -1} j
     refine aa (gE a x,r) _ _ ⟨q,Z,a4,Q,t.Tb W C K,?_,by simpa[gE]using I,?_⟩ ?_
     .rw[<-vU C K];exact u
     .simp only[gE];simp only[]at H;omega
     .simp only[gE,aY];omega
   .have hx:=fb hb an
    have G:HC q m2 q M:=dN.fK _ n h.new
    refine aa (a,r) _ _ ⟨q,A.fI (dN.fK (λ_=>False) n h.new) id id,p3.fI (dN.fK (λ_=>False) n h.new) id,h.trans G,t.UX V,?_,I,by simp only[];omega⟩ aJ
    rw[<-vV (w:=x) (λj=>hx j.1)];exact u
 .simp only[iX,bD]at R
  have j:st=[]:=List.length_eq_zero_iff.1 V
  subst j
  rw[AK]at u
  subst u
  refine(wO (A.cells V)).mono ?_
  rintro _ M ⟨rfl,n⟩
  refine⟨_,rfl,q,_,rfl,?_,h.trans (dN.fK _ n h.new)⟩
  exact(A.fI (dN.fK (λ_=>False) n h.new) id id).cut (td _ _)
end
section
variable{i:Int}
structure ST(m0:E)(ro:Nat->Nat)(m:E)(mb e:Nat)(bx:List Ce)(bC hp fr:O)(lo:List Int)(lh:List bU)(fs:List be)(f:be)(r o h:O)(css:List (List Ce)):Prop where
 eR:Cm m0 ro m mb e bx bC hp fr lo lh (fs++[f])
 iP:sj ro m fr fs f r o h css
section
variable{g:E}{a t:Nat->Nat}{m s:E}{d e:Nat}{j:List Ce}{bC l b:O}{q:List Int}{n:List bU}{c:List be}{f:be}{r o h:O}{k:List (List Ce)}
def ST.ext(S:ST g a m d e j bC l b q n c f r o h k)(i:J m s):ST g a s d e j bC l b q n c f r o h k/\To a m a s:=
 ⟨⟨(S.eR.ext i).1,S.iP.ext S.eR.new i⟩,(S.eR.ext i).2⟩
def ST.G8(S:ST g a m d e j bC l b q n c f r o h k){i:Int}(s:0<=i)(t:i<f.ax.length)(v:Int):ST g a (aj m r.aC (r.off+i.toNat*1) [.i v]) d e j bC l b q n c {f with ax:=iD f.ax i v} r o h k/\To a m a (aj m r.aC (r.off+i.toNat*1) [.i v]):=by
 let⟨p,u⟩:=S.iP.G8 S.eR.new s t v;let⟨w,x⟩:=S.eR.lQ u p.tn;exact⟨⟨w,p⟩,x⟩
def ST.zf(S:ST g a m d e j bC l b q n c f r o h k){i:Int}(s:0<=i)(t:i<f.bg.length)(v:Int):ST g a (aj m o.aC (o.off+i.toNat*1) [.i v]) d e j bC l b q n c {f with bg:=iD f.bg i v} r o h k/\To a m a (aj m o.aC (o.off+i.toNat*1) [.i v]):=by
 let⟨p,u⟩:=S.iP.zf S.eR.new s t v;let⟨w,x⟩:=S.eR.lQ u p.tn;exact⟨⟨w,p⟩,x⟩
def ST.EY(S:ST g a m d e j bC l b q n c f r o h k){i:Int}(s:0<=i)(t:i<f.bB.length)(v:Int):ST g a (aj m h.aC (h.off+i.toNat*1) [.i v]) d e j bC l b q n c {f with bB:=iD f.bB i v} r o h k/\To a m a (aj m h.aC (h.off+i.toNat*1) [.i v]):=by
 let⟨p,u⟩:=S.iP.EY S.eR.new s t v;let⟨w,x⟩:=S.eR.lQ u p.tn;exact⟨⟨w,p⟩,x⟩
def ST.Rn(S:ST g a m d e j bC l b q n c f r o h k)(v:Int):ST g a (aj m b.aC (b.off+c.length*6+1) [.i v]) d e j bC l b q n c {f with pc:=v} r o h k/\To a m a (aj m b.aC (b.off+c.length*6+1) [.i v]):=by
 let⟨i,p⟩:=S.iP.Rn S.eR.new v;let⟨s,t⟩:=S.eR.lQ p i.tn;exact⟨⟨s,i⟩,t⟩
def ST.oZ(S:ST g a m d e j bC l b q n c f r o h k)(i:Nat)(s:List Ce):ST g a (aj m d i s) d e (iO j i s) bC l b q n c f r o h k/\To a m a (aj m d i s):=by
 let⟨u,v⟩:=S.eR.oZ i s;exact⟨⟨u,S.iP.fI (dN.aj (p:=λt=>t=1) S.eR.new S.eR.Rl i s) λt w=>V⟩,v⟩
def ST.jJ(S:ST g a m d e j bC l b q n c f r o h k)(i:HC a m t s){p:O}{u:List bU}(x:eS g.size t s p u):ST g t s d e j bC p b q u c f r o h k/\To a m t s:=by
 let⟨v,w⟩:=S.eR.jJ i x;exact⟨⟨v,S.iP.fI i λz y=>V⟩,w⟩
def ST.KJ(S:ST g a m d e j bC l b q n c f r o h k)(i:dN (λp=>p=2) a m t s){v:O}{u:List Int}(y:iG t s aA 1 2 v (u.map Ce.i)):ST g t s d e j v l b u n c f r o h k/\To a m t s:=by
 let⟨w,x⟩:=S.eR.KJ i y;exact⟨⟨w,S.iP.fI i λp z=>V⟩,x⟩
end
def dN.Qz{c f:Nat->Nat}{m a:E}(h:To c m f a){b:Nat}(e:b<m.size)(d:c b=0):eF [b] m a:=h.de (by simpa using⟨e,d⟩)
abbrev SB(d p:O)(s:St)(bC b a:O):List Ce:=[.s d,.s p,.i s.cY,.i s.value,.i s.bO,.i s.eH,.s bC,.s b,.s a]
def xE(f:E)(h:Nat->Nat)(m:E)(g:Nat)(e p:O)(s:St)(c:E):Prop:=
 ∃d bC b a,Cm f d c g bQ (SB e p s bC b a) bC b a s.bC s.heap s.ak/\To h m d c
def xE.from{b:E}{f g:Nat->Nat}{m c a:E}{e:Nat}{d p:O}{s:St}(i:xE b g c e d p s a)(n:To f m g c):xE b f m e d p s a:=
 let⟨o,bC,l,h,j,k⟩:=i
 ⟨o,bC,l,h,j,n.trans k⟩
section
variable{k:E}{e:Nat->Nat}{m:E}{g:Nat}{d p bC b c:O}{a:St}{j:List be}{f:be}{r l h:O}{q:List (List Ce)}
def jK(S:ST k e m g bQ (SB d p a bC b c) bC b c a.bC a.heap j f r l h q)(u:j.length<=100000)(v:Int):
 aP cv 221 [vp g 0,vi v] m λw n=>ST k e n g bQ (SB d p a bC b c) bC b c a.bC a.heap j {f with pc:=v} r l h q/\To e m e n:=by
 apply oc (g,0)
 have i:af m g 8=some (O.v c):=S.eR.box.cK 8
 have t:=S.iP.EA
 have o:cQ ((c.len:Int) -1)=(j.length:Int):=by rw[aS V V];omega
 have s:Int.toNat (j.length:Int)=j.length:=V
 refine⟨c,i,c,i,?_⟩
 rw[o,s]
 exact⟨V,V,S.iP.Y5,S.Rn v⟩
def Ai(S:ST k e m g bQ (SB d p a bC b c) bC b c a.bC a.heap j f r l h q)(P:j.length<=100000)(n:0<=i)(x:i<f.ax.length)(y:i<f.bg.length)(w:Int)(W:0<=f.pc/\f.pc<=1000000):
 aP cv 214 [vp g 0,vi i,vi w] m λ_ A=>ST k e A g bQ (SB d p a bC b c) bC b c a.bC a.heap j (be.put {f with pc:=f.pc+1} i w 0) r l h q/\To e m e A:=by
 apply tE (g,0)
 simp -zeta only[aG,aF]
 have z:af m g 8=some (O.v c):=S.eR.box.cK 8
 have T:=S.iP.EA
 have G:cQ ((c.len:Int) -1)=(j.length:Int):=by rw[aS V V];omega
 have H:Int.toNat (j.length:Int)=j.length:=V
 let⟨K,g1,g2,L,M,N⟩:=S.iP.jD
 have X:r.len=f.ax.length:=by have:=S.iP.ax.len;simp at this;omega
 have U:l.len=f.bg.length:=by have:=S.iP.bg.len;simp at this;omega
 refine⟨c,z,c,z,?_⟩
 rw[G,H]
 refine⟨V,V,_,K,_,g1,_,g2,r,L,l,M,h,N,?_⟩
 intro R o
 have Q:J m o:=((J.aH m).aR _).aj (ad _) _ _
 have Z:o.size=m.size+1:=by simp[o,R,aD]
 have s:e m.size=0:=S.eR.new _ (ad _)
 let⟨u,t2⟩:=S.ext Q
 clear_value o
 refine⟨n,V,u.iP.ax.Sj n x,?_⟩
 intro t
 let⟨v,t3⟩:=u.G8 n x w
 have s3:t.size=o.size:=aD _ _ _ _
 refine⟨t3.Qz (show m.size<o.size by omega) s,n,V,v.iP.bg.Sj n y,?_⟩
 intro B
 let⟨E,C⟩:=v.zf n (by simpa using y) 0
 have s4:B.size=t.size:=aD _ _ _ _
 have I:cQ (f.pc+1)=f.pc+1:=aS V V
 rw[I]
 refine⟨C.Qz (show m.size<t.size by omega) s,(jK E P (f.pc+1)).mono ?_⟩
 rintro _ Y ⟨F,D⟩
 exact⟨D.Qz (show m.size<B.size by omega) s,F,((t2.trans t3).trans C).trans D⟩
def sU(S:ST k e m g bQ (SB d p a bC b c) bC b c a.bC a.heap j f r l h q)(ab:j.length<=100000)(n:0<=i)(D:i<f.ax.length)(s:i<f.bg.length)(w:Int):
 aP cv 224 [vp g 0,vi i,vi w] m λ_ H=>ST k e H g bQ (SB d p a bC b c) bC b c a.bC a.heap j (f.put i w (jx w)) r l h q/\To e m e H:=by
 apply tD (g,0)
 simp -zeta only[aG,aF]
 have G:af m g 8=some (O.v c):=S.eR.box.cK 8
 have aa:=S.iP.EA
 have N:cQ ((c.len:Int) -1)=(j.length:Int):=by rw[aS V V];omega
 have P:Int.toNat (j.length:Int)=j.length:=V
 let⟨R,g1,g2,T,U,W⟩:=S.iP.jD
 have ag:r.len=f.ax.length:=by have:=S.iP.ax.len;simp at this;omega
 have ac:l.len=f.bg.length:=by have:=S.iP.bg.len;simp at this;omega
 refine⟨c,G,c,G,?_⟩
 rw[N,P]
 refine⟨V,V,_,R,_,g1,_,g2,r,T,l,U,h,W,?_⟩
 intro m1 o
 have Z:J m o:=((J.aH m).aR _).aj (ad _) _ _
 have s2:o.size=m.size+1:=by simp[o,m1,aD]
 have t:e m.size=0:=S.eR.new _ (ad _)
 let⟨A,t2⟩:=S.ext Z
 clear_value o
 refine⟨n,V,A.iP.ax.Sj n D,?_⟩
 intro x
 let⟨B,t3⟩:=A.G8 n D w
 have s3:x.size=o.size:=aD _ _ _ _
 refine⟨t3.Qz (show m.size<o.size by omega) t,n,V,B.iP.bg.Sj n s,?_⟩
 intro I
 let⟨L,y⟩:=B.zf n (by simpa using s) 0
 have s4:I.size=x.size:=aD _ _ _ _
 refine⟨y.Qz (show m.size<x.size by omega) t,(dK _ _).mono ?_⟩
 rintro _ m5 ⟨M,rfl,F,E⟩
 let⟨u,z⟩:=L.ext E
 have s5:=E.size
 refine⟨z.Qz (show m.size<I.size by omega) t,M,rfl,λY=>?_,λX=>?_⟩
 .refine⟨n,V,u.iP.bg.Sj n (by simpa[j8]using s),?_⟩
  intro m6
  let⟨C,K⟩:=u.zf n (by simpa[j8]using s) 1
  refine⟨K.Qz (show m.size<m5.size by omega) t,?_,(((t2.trans t3).trans y).trans z).trans K⟩
  have Q:iD (iD f.bg i 0) i 1=iD f.bg i 1:=by simp[iD,List.set_set]
  have v:jx w=1:=by rw[jx,ao (F.1 Y)]
  simp only[Q]at C
  rw[v];exact C
 .refine⟨?_,((t2.trans t3).trans y).trans z⟩
  have v:jx w=0:=by rw[jx,ae (fb F X)]
  rw[v];exact u
def AP:∀(a:List Int)(g:List bU),(kT g a).length=g.length
 |[],g=>rfl
 |w::a,g=>by rw[kT,AP a];simp[oL]
def KB:∀(a:List Int)(g:List bU)(w:Int),kT g (a++[w])=oL (kT g a) w
 |[],g,w=>rfl
 |v::a,g,w=>by rw[db,kT,KB a,kT]
def Ir:∀(a:List Int)(g:List bU)(n:Int),(∀c∈g,-10<=c.aV/\c.aV<=n)->∀c∈kT g a,-10<=c.aV/\c.aV<=n+a.length
 |[],g,n,h,c,b=>by have:=h c b;simp;omega
 |w::a,g,n,h,c,b=>by
  have:=Ir a (oL g w) (n+1) (λd hd=>by
   rcases qj hd with rfl|⟨i,_,f⟩
   .simp only[bd];cases e:g[ix w]? with
    |none=>
     unfold oL at hd;rw[Ee (List.getElem?_eq_none_iff.1 e)]at hd;have:=h _ hd;simp only[bd,e]at this⊢;omega
    |some x=>have:=h x (av e);simp only[pD];omega
   .have:=h d (av f);omega) c b
  simp only[aY];omega
def Cy(L:Cm k e m g bQ (SB d p a bC b c) bC b c a.bC a.heap j){u:O}{l:List Int}(v:au m u l)(P:l≠[]->e u.aC=0)(K:∀w∈l,1000<=w/\ix w<a.heap.length)(H:∀h∈a.heap,-10<=h.aV/\h.aV<=999999)(Z:l.length<=1000000)(W:a.heap.length<=2000000000):
 aP cv 220 [vp g 0,O.v u] m λ_ s=>eS k.size e s b (kT a.heap l)/\dN (λf=>f=3) e m e s:=by
 apply uD (g,0)
 have aa:=v.len
 have I:af m g 7=some (O.v b):=L.box.cK 7
 refine eu (n:=l.length) V (λf s=>eS k.size e s b (kT a.heap (l.take f))/\dN (λf=>f=3) e m e s) ⟨L.heap,dN.aH _ L.new⟩ ?_
 rintro f A S μ X ⟨i,q⟩ R
 refine dit (λF=>?_) λF=>?_
 .let⟨x,r⟩:=cq l f
  let⟨ab,z⟩:=K x (av r)
  have y:l≠[]:=λB=>by rw[B]at r;simp at r
  have Q:au A u l:=nF v λ_=>q.fU _ (oG v y) (by rw[P y];decide)
  have w:af A g 7=some (O.v b):=by rw[aM (q.fU _ L.box.lt (by rw[L.Rl];decide))];exact I
  have N:=i.len
  rw[AP]at N
  let⟨h,t⟩:=cq (kT a.heap (l.take f)) (ix x) (by rw[AP];exact z)
  obtain⟨T,E,_⟩:=i.cK t
  have M:ix x=(x -1000).toNat:=rfl
  have C:cQ (x -1000)=x -1000:=aS V V
  have U:=Ir (l.take f) a.heap 999999 H h (av t)
  have Y:((l.take f).length:Int)<=1000000:=bS
  have D:cQ (h.aV+1)=h.aV+1:=aS V V
  refine⟨V,V,x,by simpa using Q.aQ r,b,w,b,w,?_⟩
  rw[C,<-M]
  refine⟨V,V,h.aV,E,V,V,i.wr (o:=0) (by rw[AP];exact z) bo,?_⟩
  rw[D]
  let⟨J,G⟩:=i.EX q.new t (h.aV+1)
  refine R V _ ⟨?_,q.trans G⟩
  rw[bF r,KB]
  have:bd (kT a.heap (l.take f)) x=h:=by simp[bd,t]
  unfold oL
  rw[this];exact J
 .rw[cG V]at i
  exact⟨i,q⟩
def Am(L:Cm k e m g bQ (SB d p a bC b c) bC b c a.bC a.heap j){w:Int}(z:ib a.heap w){i:Nat->Int}(q:fR a.heap i)(M:a.heap.length<=2000000000):
 aP cv 247 [vp g 0,vi w] m λD t=>∃h:Bool,D=vb h/\(h=true<->(bd a.heap w).aV=1)/\dN (λx=>x=3) e m e t/\(h=true->eS k.size e t b a.heap)/\(h=false->eS k.size e t b (kT (gE a.heap w) (qV (bd a.heap w).aN))):=by
 apply tF (g,0)
 let⟨f,ad⟩:=cz z
 have P:=az f
 have ab:=L.heap.len
 have N:ix w=(w -1000).toNat:=rfl
 have aa:=z.1
 have G:cQ (w -1000)=w -1000:=aS V V
 have r:af m g 7=some (O.v b):=L.box.cK 7
 have ac:=(q.cell _ (av f)).hi
 have H:cQ ((bd a.heap w).aV -1)=(bd a.heap w).aV -1:=aS V V
 let⟨U,v,g1,g2,W,X⟩:=L.heap.cK f
 rw[G,<-N]
 refine⟨b,r,V,V,_,v,λn=>⟨true,rfl,by simpa using n,dN.aH _ L.new,λ_=>L.heap,sx⟩,λn=>?_⟩
 simp only[ap]at n
 refine⟨b,r,b,r,V,V,_,v,V,V,L.heap.wr (o:=0) P bo,?_⟩
 rw[H]
 intro m1
 let⟨y,l⟩:=L.heap.EX L.new f ((bd a.heap w).aV -1)
 let⟨I,k0,k1,T,kf,kr⟩:=y.cK (eV f)
 let⟨u,t1⟩:=L.jJ (l.mono λx A=>Or.inl A) y
 have Z:=(q.cell _ (av f)).fl
 refine⟨b,u.box.cK 7,V,V,I,T,?_⟩
 refine(nQ kf (by simp only[];omega)).then (by have:=sJ (bd a.heap w).aN;simp only[];omega) λC m2 o2 B x=>⟨C,rfl,?_⟩
 let⟨E,t2⟩:=u.ext x
 have R:qV (bd a.heap w).aN≠[]->e C.aC=0:=λQ=>by
  rcases o2.aC with i|i
  .subst i;have:=B.len;simp at this;exact absurd (List.length_eq_zero_iff.1 this.symm) Q
  .exact l.new _ i
 have:=sJ (bd a.heap w).aN
 refine(Cy (a:={a with heap:=gE a.heap w}) (j:=j) E B R (λD S=>?_) (λF J=>?_) (by simp only[];omega) (by simpa[gE]using M)).mono ?_
 .let⟨K,A⟩:=nh.1 S
  exact⟨A,by simpa[gE]using az (cz (q.field (av f) K A)).1⟩
 .rcases qj J with rfl|⟨h,_,A⟩
  .simp only[];omega
  .have:=q.cell F (av A);have K:=this.lo;have Y:=this.hi;omega
 .rintro _ Y ⟨K,A⟩
  exact⟨false,rfl,by simpa using n,(l.trans (dN.fK _ x l.new)).trans A,sx,λ_=>K⟩
end
end
section
variable{q:Nat->Nat}{c:E}{e:Nat}{g:List Ce}{x:Instr}{a j:O}{b:Int}
def Nm(c:Nat->Nat)(m:E)(a:List Nat):Prop:=∀b∈a,b<m.size/\c b=0
def Nm.to{p:Nat->Prop}{e:Nat->Nat}{m:E}{d:List Nat}(h:Nm e m d)(t:dN p e m q c):Nm q c d:=λb a=>⟨aL (h b a).1 t.size,by rw[t.jy b (h b a).1];exact(h b a).2⟩
def dN.gW{b:Nat->Nat}{m:E}(t:To b m q c){a:List Nat}(h:Nm b m a):eF a m c:=t.de h
def Nm.Jr{f:Nat->Nat}{m d e:E}(c:∀b,m.size<=b->f b=0)(g:d.size=m.size+1)(h:e.size=m.size+2):Nm f e [d.size,m.size]:=λb a=>by
 simp at a;rcases a with rfl|rfl
 .exact⟨V,c _ V⟩
 .exact⟨V,c _ V⟩
noncomputable def vS (s:St) (a:List be) (f:be) (x:Instr) (t:Int):St:=
 open Classical in
 if x.bY≠0/\aQ f.bB (x.bY -1)≠0 then
  {s with heap:=s.heap.set (ix (aQ f.bB (x.bY -1))) ⟨1,t,dC f x.args⟩,ak:=a++[be.put {f with pc:=f.pc+1,bB:=iD f.bB (x.bY -1) 0} x.dst (aQ f.bB (x.bY -1)) 1]}
 else{s with heap:=lX s.heap (fp s.heap) ⟨1,t,dC f x.args⟩,ak:=a++[be.put {f with pc:=f.pc+1} x.dst (1000+fp s.heap) 1]}
section
variable{F:E}{A:Nat->Nat}{v:E}{D:Nat}{d p bC y B:O}{u:St}{C:List be}{t:be}{r z h:O}{G:List (List Ce)}
def ST.KD{b:List Int}{a:List bU}(S:ST F A v D e g bC y B b a C t r z h G)(c:t.ax.length<=1000000):au v r t.ax:=S.iP.ax.pw V
def ST.TW{b:List Int}{a:List bU}(S:ST F A v D e g bC y B b a C t r z h G)(c:t.bg.length<=1000000):au v z t.bg:=S.iP.bg.pw V
def ST.Tv{b:List Int}{a:List bU}(S:ST F A v D e g bC y B b a C t r z h G)(c:t.bB.length<=1000000):au v h t.bB:=S.iP.bB.pw V
def tZ(S:ST F A v D bQ (SB d p u bC y B) bC y B u.bC u.heap C t r z h G)(ha:au F a x.args)(ah:∀b∈x.args,0<=b/\b<t.ax.length)(av:x.args.length<=4)(g:Int)
 (az:t.ax.length=t.bg.length/\t.bB.length=t.bg.length/\t.bg.length<=1000000)(ai:0<=x.dst/\x.dst<t.bg.length)(ay:0<=x.bY/\x.bY<=t.bB.length)(aA:0<=t.pc/\t.pc<=1000000)(ab:C.length<=100000)(aw:u.heap.length<=1000000000)
 (al:∀w∈t.bB,w≠0->1000<=w/\ix w<u.heap.length):
 aP cv 216 [vp D 0,fv t r z h,xv x a j,vi g] v λ_ c=>xE F A v D d p (vS u C t x g) c:=by
 apply qZ (D,0)
 simp -zeta only[aG,aF]
 intro w E
 have ap:J v E:=((J.aH v).aR _).aR _
 have s1:w.size=v.size+1:=by simp[w]
 have s2:E.size=v.size+2:=by simp[E,s1]
 have T:=Nm.Jr S.eR.new s1 s2
 let⟨I,t2⟩:=S.ext ap
 clear_value E
 have ax:h.len=t.bB.length:=by have:=S.iP.bB.len;simp at this;omega
 have q:∀{A v t},ST F A v D bQ (SB d p u bC y B) bC y B u.bC u.heap C t r z h G->af v D 7=some (O.v y):=λS=>S.eR.box.cK 7
 refine⟨y,q I,(Fl (I.eR.heap.cells V)).mono ?_⟩
 rintro _ L ⟨rfl,ac⟩
 let⟨o,t3⟩:=I.ext ac
 have H:=T.to t3
 refine⟨t3.gW T,_,rfl,λaa c=>∃(b:Nat)(e:be),aa=b/\ST F A c D bQ (SB d p u bC y B) bC y B u.bC u.heap C e r z h G/\To A v A c/\Nm A c [w.size,v.size]/\b<=u.heap.length/\
  e.ax=t.ax/\e.bg=t.bg/\e.pc=t.pc/\vS u C t x g={u with heap:=lX u.heap b ⟨1,g,dC t x.args⟩,ak:=C++[be.put {e with pc:=t.pc+1} x.dst (1000+b) 1]},?_,?_⟩
 .have none:¬(x.bY≠0/\aQ t.bB (x.bY -1)≠0)->∃(b:Nat)(e:be),((fp u.heap:Nat):Int)=b/\ST F A L D bQ (SB d p u bC y B) bC y B u.bC u.heap C e r z h G/\To A v A L/\Nm A L [w.size,v.size]/\b<=u.heap.length/\
   e.ax=t.ax/\e.bg=t.bg/\e.pc=t.pc/\vS u C t x g={u with heap:=lX u.heap b ⟨1,g,dC t x.args⟩,ak:=C++[be.put {e with pc:=t.pc+1} x.dst (1000+b) 1]}:=λU=>
   ⟨_,t,rfl,o,t2.trans t3,H,uS _,rfl,rfl,rfl,by rw[vS,ae U]⟩
  refine⟨λK=>?_,λK=>none λP=>by simp at K;omega⟩
  simp at K
  have Q:cQ (x.bY -1)=x.bY -1:=aS V V
  rw[Q]
  have k:0<=x.bY -1/\x.bY -1<t.bB.length:=V
  have N:=(o.Tv V).Gs k.1 k.2
  refine⟨V,V,_,N,λm=>?_,λm=>none λP=>by simp at m;exact P.2 m⟩
  simp at m
  let⟨W,Y⟩:=al _ (iK k.1 k.2) m
  refine⟨V,V,_,N,V,V,o.iP.bB.Sj k.1 k.2,?_⟩
  intro M
  let⟨l,n⟩:=o.EY k.1 k.2 0
  have X:ix (aQ t.bB (x.bY -1))=(aQ t.bB (x.bY -1) -1000).toNat:=rfl
  have R:cQ (aQ t.bB (x.bY -1) -1000)=((ix (aQ t.bB (x.bY -1)):Nat):Int):=by rw[aS V V];omega
  refine⟨n.gW H,ix (aQ t.bB (x.bY -1)),_,R,l,(t2.trans t3).trans n,H.to n,V,rfl,rfl,rfl,?_⟩
  rw[vS,ao ⟨V,m⟩,lX,ae V,iN W]
 .rintro aa M ⟨b,e,rfl,l,n,U,ag,m,eo,ep,ec⟩
  have aq:J F M:=l.eR.cL
  have am:au M r t.ax:=m▸l.KD (by rw[m];omega)
  refine⟨y,q l,(nA (f:=t) am (ha.ext aq) ah V).mono ?_⟩
  rintro _ m5 ⟨ws,rfl,ow,ad⟩
  let⟨k,N⟩:=l.ext ad
  have W:=U.to N
  have an:(dC t x.args).length<=1000000000:=by simp[dC];omega
  have iw:au m5 ws (dC t x.args):=au.gG ow V
  refine⟨N.gW U,ws,rfl,by rw[q k,q l],(Mi k.eR.heap k.eR.new ag g iw V an k.eR.cL.size).mono ?_⟩
  rintro _ m6 ⟨ar,K,rfl,aj,c6⟩
  let⟨Z,P⟩:=k.jJ c6 aj
  have X:=W.to P
  refine⟨P.gW W,K,rfl,Z.eR.xz (i:=7) aJ,?_⟩
  intro m7
  let⟨S7,Q⟩:=Z.oZ 7 [.s K]
  have Y:=X.to Q
  have e3:cQ (1000+(b:Int))=1000+(b:Int):=aS V V
  have e4:cQ (t.pc+1)=t.pc+1:=aS V V
  rw[e3,e4]
  refine⟨Q.gW X,(sU (a:={u with heap:=lX u.heap b ⟨1,g,dC t x.args⟩}) S7 ab ai.1 (by rw[m];omega) (by rw[eo];omega) (1000+b)).mono ?_⟩
  rintro _ m8 ⟨S8,R⟩
  refine⟨R.gW Y,(jK (a:={u with heap:=lX u.heap b ⟨1,g,dC t x.args⟩}) S8 ab (t.pc+1)).mono ?_⟩
  rintro _ m9 ⟨S9,t9⟩
  refine⟨t9.gW (Y.to R),ar,bC,K,B,?_,((((n.trans N).trans P).trans Q).trans R).trans t9⟩
  rw[ec]
  have e5:jx (1000+(b:Int))=1:=by rw[jx,ao V]
  have:=S9.eR
  rw[e5]at this
  exact this
def Eo:∀(a bg:List Int)(r:Int),fu bg (a++[r])=iD (fu bg a) r (aQ (fu bg a) r+1)
 |[],bg,r=>rfl
 |q::a,bg,r=>by rw[db,fu,Eo a,fu]
def ON{l:List Int}{i:Int}(h:∀z∈l,0<=z/\z<=b)(d:0<=b):0<=aQ l i/\aQ l i<=b:=by
 rcases aX i.toNat l.length with a|a
 .let⟨y,c⟩:=dJ a;rw[NA c];exact h y (av c)
 .rw[aQ,jm,bV a];simp;omega
def Cq:∀(c bg:List Int)(b:Int),0<=b->(∀z∈bg,0<=z/\z<=b)->∀z∈fu bg c,0<=z/\z<=b+c.length
 |[],bg,b,e,h,z,d=>by have:=h z d;simp;omega
 |r::c,bg,b,e,h,z,d=>by
  have:=Cq c (iD bg r (aQ bg r+1)) (b+1) V (λq a=>by
   have:=ON (i:=r) h e;rcases sE a with a|a
   .omega
   .have:=h q a;omega) z d
  simp only[aY];omega
noncomputable def Kv (u:St) (C:List be) (t:be) (x:Instr):St:=
 open Classical in
 if(bd u.heap (aQ t.ax (aQ x.args 0))).aV=1/\x.op=17 then
  {u with heap:=u.heap.set (ix (aQ t.ax (aQ x.args 0))) ⟨-1,0,gB (bd u.heap (aQ t.ax (aQ x.args 0))).aN.length⟩,ak:=C++[{t with bg:=fu t.bg (x.args.drop 1),pc:=t.pc+1,bB:=iD t.bB (aQ x.args 0) (aQ t.ax (aQ x.args 0))}]}
 else{u with heap:=apart u.heap (aQ t.ax (aQ x.args 0)),ak:=C++[{t with bg:=fu t.bg (x.args.drop 1),pc:=t.pc+1}]}
def Lr(b:Nat):mf [.i (0:Int)] b=(gB b).map Ce.i:=by
 induction b with
 |zero=>rfl
 |succ b a=>
  have:mf [.i (0:Int)] (b+1)=.i 0::mf [.i (0:Int)] b:=by simp[mf,p7]
  rw[this,a];simp[gB,p7]
def qx{v:E}(a:0<=b)(e:b<=1000000):aP cv 166 [vi b] v λd c=>d=O.v (.mk v.size 0 b.toNat b.toNat)/\c=v.push (.cells (bE ((gB b.toNat).map Ce.i)) aA):=by
 apply HN;refine⟨a,dh _,V,V,?_⟩;rw[Lr];exact⟨rfl,rfl⟩
def Sd{v:E}(b:Nat):gS v (v.push (.cells (bE ((gB b).map Ce.i)) aA)) aA 1 (.mk v.size 0 b b) ((gB b).map Ce.i):=gS.new (J.aH v) aA 1 _ b (by simp[lR])
def Hy(S:ST F A v D bQ (SB d p u bC y B) bC y B u.bC u.heap C t r z h G)(ha:au F a x.args)(an:∀g∈x.args,0<=g/\g<t.ax.length)(aI:1<=x.args.length/\x.args.length<=4)(aX:x.op=16\/x.op=17)
 (aU:t.ax.length=t.bg.length/\t.bB.length=t.bg.length/\t.bg.length<=1000000)(aY:0<=t.pc/\t.pc<=1000000)(al:C.length<=100000)(aM:u.heap.length<=1000000000)(aE:∀Q∈t.bg,0<=Q/\Q<=999999)
 (ah:ib u.heap (aQ t.ax (aQ x.args 0))){e:Nat->Int}(hI:fR u.heap e):
 aP cv 223 [vp D 0,fv t r z h,xv x a j] v λ_ c=>xE F A v D d p (Kv u C t x) c:=by
 apply rT (D,0)
 simp -zeta only[aG,aF]
 intro m1 m2
 have aH:J v m2:=((J.aH v).aR _).aR _
 have s1:m1.size=v.size+1:=by simp[m1]
 have s2:m2.size=v.size+2:=by simp[m2,s1]
 have B2:=Nm.Jr S.eR.new s1 s2
 let⟨S2,t2⟩:=S.ext aH
 clear_value m2
 have a0:r.len=t.ax.length:=by have:=S.iP.ax.len;simp at this;omega
 have aW:z.len=t.bg.length:=by have:=S.iP.bg.len;simp at this;omega
 have aN:h.len=t.bB.length:=by have:=S.iP.bB.len;simp at this;omega
 have aK:=ha.len
 have H:0<=aQ x.args 0/\aQ x.args 0<t.ax.length:=an _ (iK V V)
 have ga:∀{c},J F c->∀{b:Nat}{g},x.args[b]? =some g->af c a.aC (a.off+Int.toNat (b:Int)*1)=some (vi g):=λhx b g W=>by simpa using(ha.ext hx).aQ W
 refine⟨V,V,aQ x.args 0,(ha.ext S2.eR.cL).Gs V V,H.1,V,aQ t.ax (aQ x.args 0),(S2.KD V).Gs H.1 H.2,?_⟩
 refine⟨λai c=>∃b:Nat,ai=b/\1<=b/\b<=x.args.length/\ST F A c D bQ (SB d p u bC y B) bC y B u.bC u.heap C {t with bg:=fu t.bg ((x.args.take b).drop 1)} r z h G/\To A v A c/\Nm A c [m1.size,v.size],λai _=>((x.args.length:Int) -ai).toNat,⟨1,rfl,V,V,?_,t2,B2⟩,?_⟩
 .have e1:(x.args.take 1).drop 1=[]:=aJ
  rw[e1];exact S2
 rintro ai m3 ⟨b,rfl,aO,aR,I,t3,Y⟩
 have aD:∀Q∈fu t.bg ((x.args.take b).drop 1),0<=Q/\Q<=1000010:=λQ hq=>by
  have:=Cq _ t.bg 999999 V aE Q hq;have h3:((x.args.take b).drop 1).length<=4:=bS;omega
 refine dit (λh1=>?_) λh1=>?_
 .let⟨g,W⟩:=cq x.args b
  have K:=an g (av W)
  have M:g<(fu t.bg ((x.args.take b).drop 1)).length:=by rw[tP];omega
  have hb:=ON (i:=g) aD V
  refine⟨V,V,g,ga I.eR.cL W,V,V,g,ga I.eR.cL W,K.1,V,_,(I.TW (by simp only[tP];omega)).Gs K.1 M,K.1,V,I.iP.bg.Sj K.1 M,?_⟩
  intro q
  have N:cQ (aQ (fu t.bg ((x.args.take b).drop 1)) g+1)=aQ (fu t.bg ((x.args.take b).drop 1)) g+1:=aS V V
  let⟨E,L⟩:=I.zf K.1 M (aQ (fu t.bg ((x.args.take b).drop 1)) g+1)
  have P:q=aj m3 z.aC (z.off+g.toNat*1) [.i (aQ (fu t.bg ((x.args.take b).drop 1)) g+1)]:=by simp only[q,N]
  clear_value q
  subst P
  refine⟨L.gW Y,?_,?_⟩
  .rw[kd (k:=b) (n:=x.args.length) V V]
   refine⟨b+1,rfl,V,V,?_,t3.trans L,Y.to L⟩
   have e4:(x.args.take (b+1)).drop 1=(x.args.take b).drop 1++[g]:=by
    rw[bF W,List.drop_append_of_le_length bS]
   rw[e4,Eo]
   exact E
  .rw[kd (k:=b) (n:=x.args.length) V V]
   show((x.args.length:Int) -((b+1:Nat):Int)).toNat<((x.args.length:Int) -(b:Int)).toNat
   omega
 .have e1:(x.args.take b).drop 1=x.args.drop 1:=by rw[cG V]
  rw[e1]at I
  have a1:=iN ah.1
  let⟨ak,aZ⟩:=cz ah
  have ag:=az ak
  have aV:=I.eR.heap.len
  have e4:cQ (t.pc+1)=t.pc+1:=aS V V
  have aT:=ah.1
  have aC:ix (aQ t.ax (aQ x.args 0))=(aQ t.ax (aQ x.args 0) -1000).toNat:=rfl
  have e5:cQ (aQ t.ax (aQ x.args 0) -1000)=aQ t.ax (aQ x.args 0) -1000:=aS V V
  rw[e4,e5,<-aC]
  generalize hw:aQ t.ax (aQ x.args 0)=w at*
  have gw:∀{A v lh own' held'},ST F A v D bQ (SB d p u bC y B) bC y B u.bC lh C {t with bg:=own',bB:=held'} r z h G->af v r.aC (r.off+Int.toNat (aQ x.args 0)*1)=some (vi w):=λS=>by rw[<-hw];exact(S.KD (by simp only[];omega)).Gs H.1 H.2
  refine⟨H.1,V,w,gw I,(Am I.eR ah hI V).mono ?_⟩
  rintro _ q ⟨aw,rfl,hb,c4,aB,ay⟩
  refine⟨(c4.mono λb N=>by omega:To A m3 A q).gW Y,aw,rfl,λaq=>?_,λap=>?_⟩
  .have ac:=hb.1 aq
   let⟨E,L⟩:=I.jJ (c4.mono λb N=>Or.inl N) (aB aq)
   have B4:=Y.to L
   have g7:af q D 7=some (O.v y):=E.eR.box.cK 7
   refine⟨λaa=>?_,λaa=>?_⟩
   .simp at aa
    let⟨f0,k0,k1,k2,kf,kr⟩:=E.eR.heap.cK ak
    have ax:=(hI.cell _ (av ak)).fl
    have aL:=kf.len
    refine⟨y,g7,y,g7,V,V,f0,k2,(qx V V).mono ?_⟩
    rintro _ m5 ⟨rfl,rfl⟩
    have e6:Int.toNat (f0.len:Int)=(bd u.heap w).aN.length:=V
    rw[e6]
    have ab:J q (q.push (.cells (bE ((gB (bd u.heap w).aN.length).map Ce.i)) aA)):=J.push _ _
    have oz:=Sd (v:=q) (bd u.heap w).aN.length
    let⟨K,M⟩:=E.ext ab
    have Z:=B4.to M
    have ar:A q.size=0:=E.eR.new _ (ad _)
    generalize q.push (.cells (bE ((gB (bd u.heap w).aN.length).map Ce.i)) aA)=m5 at*
    let⟨am,c6⟩:=K.eR.heap.setCell K.eR.new ag (-1) 0 (f:=.mk q.size 0 _ _) (au.gG oz (by rw[lR];omega)) (UA.of E.eR.heap (λH=>ab.same _ (E.eR.heap.aC H).2) (λ_=>oz) (λ_=>ar) E.eR.cL.size)
    refine⟨M.gW B4,_,rfl,ab.dB g7,V,V,K.eR.heap.wr (o:=0) ag bo,?_⟩
    intro m6
    let⟨P,R⟩:=K.jJ (c6.mono λb N=>Or.inl N) am
    have B6:=Z.to R
    refine⟨R.gW Z,H.1,V,w,gw P,H.1,V,P.iP.bB.Sj H.1 (by simp only[];omega),?_⟩
    intro m7
    let⟨U,T⟩:=P.EY H.1 (by simp only[];omega) w
    refine⟨T.gW B6,(jK (a:={u with heap:=u.heap.set (ix w) ⟨-1,0,gB (bd u.heap w).aN.length⟩}) U al (t.pc+1)).mono ?_⟩
    rintro _ m8 ⟨S8,X⟩
    refine⟨X.gW (B6.to T),A,bC,y,B,?_,(((((t3.trans L).trans M).trans R).trans T).trans X)⟩
    rw[Kv,hw,ao ⟨ac,aa⟩]
    exact S8.eR
   .simp at aa
    refine⟨y,g7,?_⟩
    intro m5
    have ab:J q m5:=(J.aH q).aR _
    let⟨K,M⟩:=E.ext ab
    have Z:=B4.to M
    clear_value m5
    refine⟨V,V,K.eR.heap.wr (o:=0) ag bo,?_⟩
    intro m6
    let⟨am,c6⟩:=K.eR.heap.setCell K.eR.new ag 0 0 (f:=.mk q.size 0 0 0) (l:=[]) ⟨rfl,aJ,aJ,aJ⟩ (λar=>absurd rfl ar)
    let⟨P,R⟩:=K.jJ (c6.mono λb N=>Or.inl N) am
    have B6:=Z.to R
    refine⟨R.gW Z,y,P.eR.box.cK 7,(wO (P.eR.heap.cells bS)).mono ?_⟩
    rintro _ m7 ⟨rfl,ax⟩
    let⟨U,T⟩:=P.ext ax
    have B7:=B6.to T
    refine⟨T.gW B6,_,rfl,U.eR.xz (i:=7) aJ,?_⟩
    intro m8
    obtain⟨ar,aL⟩:=U.jJ (dN.aH _ U.eR.new) (U.eR.heap.cut (td _ _))
    obtain⟨S8,X⟩:=ar.oZ 7 [.s (y.cut 0 (kG (u.heap.set (ix w) jS) (u.heap.set (ix w) jS).length) 3)]
    refine⟨X.gW B7,(jK (a:={u with heap:=rh (u.heap.set (ix w) jS)}) S8 al (t.pc+1)).mono ?_⟩
    rintro _ m9 ⟨S9,t9⟩
    refine⟨t9.gW (B7.to X),A,bC,y.cut 0 (kG (u.heap.set (ix w) jS) (u.heap.set (ix w) jS).length) 3,B,?_,((((((t3.trans L).trans M).trans R).trans T).trans X).trans t9)⟩
    rw[Kv,hw,ae (λhh=>aa hh.2),Go.Proofs.YtdalfjkmdekijaaGreat.apart,ao ac]
    exact S9.eR
  .have ac:(bd u.heap w).aV≠1:=λe=>by have:=hb.2 e;rw[ap]at this;simp at this
   let⟨E,L⟩:=I.jJ (c4.mono λb N=>Or.inl N) (ay ap)
   refine(jK (a:={u with heap:=kT (gE u.heap w) (qV (bd u.heap w).aN)}) E al (t.pc+1)).mono ?_
   rintro _ m5 ⟨K,M⟩
   refine⟨M.gW (Y.to L),A,bC,y,B,?_,(t3.trans L).trans M⟩
   rw[Kv,hw,ae (λhh=>ac hh.1),Go.Proofs.YtdalfjkmdekijaaGreat.apart,ae ac]
   exact K.eR
end
end
section
variable{e:cr}{c:Instr}{j:O}{l:List Int}{g b1 b2 b3 k:Nat}{b:E}
def ic(e:cr)(c:Instr):Nat->List Int->List Int
 |_,[]=>[]
 |k,w::j=>(if(c.op=9\/c.op=24)/\nM e c k=true then 0 else jx w)::ic e c (k+1) j
def Cw(e:cr)(c:Instr):∀(l r:List Int)(k:Nat),ic e c k (l++r)=ic e c k l++ic e c (k+l.length) r
 |[],r,k=>by simp[ic]
 |b::l,r,k=>by
  have:=Cw e c l r (k+1);simp only[db,ic,this,aY];have a:k+(l.length+1)=k+1+l.length:=V;rw[a]
def Da(e:cr)(c:Instr):∀(l:List Int)(k:Nat),(ic e c k l).length=l.length
 |[],k=>rfl
 |a::l,k=>by simp only[ic,aY,Da e c l]
def Ik{e:cr}{c:Instr}(a:c.op=9\/c.op=24):∀(l:List Int)(k:Nat),ic e c k l=iA (dm e c.bM).dg k l
 |[],k=>rfl
 |d::l,k=>by
  simp only[ic,iA,Ik a l];congr 1;unfold nM;by_cases h:((dm e c.bM).dg.any λy=>y==(k:Int))=true
  .rw[ao ⟨a,h⟩,ao h]
  .rw[ae (λb=>h b.2),ae h]
def EO{e:cr}{c:Instr}(a:¬(c.op=9\/c.op=24)):∀(l:List Int)(k:Nat),ic e c k l=iA [] k l
 |[],k=>rfl
 |d::l,k=>by
  simp only[ic,iA,EO a l,PK,ft,mG];rw[ae (λb=>a b.1)]
def DH{m:E}{p:Nat}{r A:O}(aa:eY m r A e)(T:af m p 0=some (O.v r))(g1:af m p 1=some (O.v A))(Z:CM e c)(D P:O)(K:au m j l)(ac:l.length<=1000000):
 nE 249 [vp p 0,xv c D P,O.v j] m (ic e c 0 l):=by
 apply qL (p,0)
 simp -zeta only[aG,aF]
 intro a y
 have w:J m a:=(J.aH m).aR _
 have W:J a y:=(J.aH a).aR _
 have ho:gS a y aA 1 (.mk a.size 0 0 0) []:=gS.new (J.aH a) aA 1 [] 0 aJ
 have f:∀q∈[m.size],q<a.size:=by simp[a]
 have ad:=K.len
 clear_value y
 clear_value a
 refine dE (n:=l.length) V (λk B b=>J a b/\gS a b aA 1 B ((ic e c 0 (l.take k)).map Ce.i)) ⟨W,by simpa[ic]using ho⟩ ?_
 rintro k B m3 ab μ hk ⟨L,g⟩ z
 have M:=w.trans L
 refine dit (λU=>?_) λU=>?_
 .let⟨C,N⟩:=cq l k
  have I:(l.take k).length=k:=bS
  have v:ic e c 0 (l.take (k+1))=ic e c 0 (l.take k)++[if(c.op=9\/c.op=24)/\nM e c k=true then 0 else jx C]:=by
   rw[bF N,Cw,I];simp[ic]
  have u:(ic e c 0 (l.take k)).length<1000000000:=by rw[Da,I];omega
  refine⟨V,V,C,by simpa using M.af (K.aQ N),(dK _ _).aK L f λq m4 G s i=>⟨q,rfl,λY=>?_,λX=>?_⟩⟩
  .have x:=w.trans i
   refine⟨r,x.af T,A,x.af g1,(qY (aa.ext x) Z D P k).aK i f λb2 m5 H F o=>⟨b2,rfl,λt=>?_,λt=>?_⟩⟩
   .intro Q
    refine oW ((g.ext s).ext F) o u λS R h d=>⟨J.Df (o.aR _) d f,z V _ _ ⟨d,?_⟩⟩
    rw[v,ae (nb H t),jx,ao (G.1 Y)];exact h
   .intro Q
    refine oW ((g.ext s).ext F) o u λS R h d=>⟨J.Df (o.aR _) d f,z V _ _ ⟨d,?_⟩⟩
    rw[v,ao (yb H t)];exact h
  .intro Q
   refine oW (g.ext s) i u λS R h d=>⟨J.Df (i.aR _) d f,z V _ _ ⟨d,?_⟩⟩
   rw[v]
   have o:(if(c.op=9\/c.op=24)/\nM e c k=true then 0 else jx C)=0:=by
    rw[jx,ae (fb G X)];split<;>rfl
   rw[o];exact h
 .rw[cG V]at g
  exact⟨B,rfl,g.cL w.size,M⟩
structure tq(m b:E)(b1 b2 b3 g:Nat)(ax bg bB:List Int):Prop where
 ext:J m b
 lo:m.size<=b1/\m.size<=b2/\m.size<=b3/\b1≠b2/\b1≠b3/\b2≠b3/\b1<b.size/\b2<b.size/\b3<b.size
 kr:cB b b1 aA (ax.map Ce.i)
 ko:cB b b2 aA (bg.map Ce.i)
 kh:cB b b3 aA (bB.map Ce.i)
 len:ax.length=g/\bg.length=g/\bB.length=g
def J7{a:E}{b:Nat}(d:cB a b aA ((gB g).map Ce.i))(f:l.length<=g):cB (aj a b 0 (l.map Ce.i)) b aA ((l++gB (g -l.length)).map Ce.i):=by
 have:=cB.aj (m:=a) (o:=0) (r:=l.map Ce.i) d;have e:iO ((gB g).map Ce.i) 0 (l.map Ce.i)=(l++gB (g -l.length)).map Ce.i:=by
  have c:=AW [] (l.map Ce.i) ((gB g).map Ce.i) (by simp[lR];omega);simp only[dX,cE]at c;rw[c];simp[gB,List.drop_replicate]
 rw[e]at this;exact this
def xl{m:E}{H R:O}(K:eY m H R e){r:Int}(S:0<=r){q:da}(M:e.cy[r.toNat]? =some q)(C:0<=q.ax/\q.ax<=1000000)(I:Int){G:O}{d h:List Int}(N:au m j d)(L:au m G h)(ag:(d.length:Int)<=q.ax)(ae:h.length=d.length):
 aP cv 123 [.agg #[O.v H,O.v R],vi r,vi I,O.v j,O.v G] m λab b=>∃b1 b2 b3,ab=.agg #[vi r,vi 0,vi I,O.v (.mk b1 0 q.ax.toNat q.ax.toNat),O.v (.mk b2 0 q.ax.toNat q.ax.toNat),O.v (.mk b3 0 q.ax.toNat q.ax.toNat)]/\
  tq m b b1 b2 b3 q.ax.toNat (d++gB (q.ax.toNat -d.length)) (h++gB (q.ax.toNat -h.length)) (gB q.ax.toNat):=by
 apply Dw
 simp -zeta only[aG,aF]
 intro x a
 have w:J m a:=((J.aH m).aR _).aR _
 have s1:x.size=m.size+1:=by simp[x]
 have s2:a.size=m.size+2:=by simp[a,s1]
 have k:∀g∈[x.size,m.size],g<a.size:=bS
 have af:=K.cy.len
 have ac:=az M
 have X:=N.len
 have W:=L.len
 clear_value a
 obtain⟨a',l',c',_,_,_,_,_,_,k3,_⟩:=(K.ext w).cy.aQ M
 refine⟨S,V,q.ax,k3,(qx C.1 V).mono ?_⟩
 rintro _ c ⟨rfl,n⟩
 have z:J a c:=by rw[n];exact J.push _ _
 have s3:c.size=a.size+1:=by rw[n];simp
 have P:cB c a.size aA ((gB q.ax.toNat).map Ce.i):=by rw[n];exact cB.push _ _ _
 clear n
 refine⟨z.de k,_,rfl,(qx C.1 V).mono ?_⟩
 rintro _ y ⟨rfl,o⟩
 have u:J c y:=by rw[o];exact J.push _ _
 have s4:y.size=c.size+1:=by rw[o];simp
 have Z:cB y c.size aA ((gB q.ax.toNat).map Ce.i):=by rw[o];exact cB.push _ _ _
 clear o
 have A:=z.trans u
 have T:min j.len q.ax.toNat=d.length:=by rw[X];exact jv V
 have U:min G.len q.ax.toNat=h.length:=by rw[W];exact jv V
 refine⟨u.de (λg B=>z.lt (k g B)),_,rfl,d.map Ce.i,by simp only[O.dU];rw[T];simp,(N.ext (w.trans A)).sK,(P.ext u).fq (by simp[lR];omega),?_⟩
 intro i
 have k5:cB i a.size aA ((d++gB (q.ax.toNat -d.length)).map Ce.i):=J7 (P.ext u) V
 have Q:cB i c.size aA ((gB q.ax.toNat).map Ce.i):=Z.congr (bh _ _ _ _ (show c.size≠a.size by omega))
 have s:J a i:=A.aj (ad _) _ _
 have s5:i.size=y.size:=aD _ _ _ _
 clear_value i
 refine⟨J.Df A s k,h.map Ce.i,by simp only[O.dU];rw[U];simp,(L.ext (w.trans s)).sK,Q.fq (by simp[lR];omega),?_⟩
 intro f
 have k6:cB f c.size aA ((h++gB (q.ax.toNat -h.length)).map Ce.i):=J7 Q V
 have aa:cB f a.size aA ((d++gB (q.ax.toNat -d.length)).map Ce.i):=k5.congr (bh _ _ _ _ (show a.size≠c.size by omega))
 have t:J a f:=s.aj (show a.size<=c.size by omega) _ _
 have s6:f.size=i.size:=aD _ _ _ _
 clear_value f
 refine⟨J.Df s t k,(qx C.1 V).mono ?_⟩
 rintro _ l ⟨rfl,p⟩
 have v:J f l:=by rw[p];exact J.push _ _
 have s7:l.size=f.size+1:=by rw[p];simp
 have k7:cB l f.size aA ((gB q.ax.toNat).map Ce.i):=by rw[p];exact cB.push _ _ _
 clear p
 refine⟨J.Df t (t.trans v) k,_,rfl,?_⟩
 intro D
 have Y:J m D:=(w.trans (t.trans v)).aj V _ _
 have s8:D.size=l.size:=aD _ _ _ _
 have F:∀g,g≠x.size->D[g]? =l[g]? :=λg B=>bh _ _ _ _ B
 refine⟨a.size,c.size,f.size,rfl,Y,V,(aa.ext v).congr (F _ V),(k6.ext v).congr (F _ V),k7.congr (F _ V),by simp[lR];omega⟩
def qW(a:Nat->Nat)(b1 b2 b3 g:Nat):Nat->Nat:=vM (vM (vM a b1 (10+3*g)) b2 (11+3*g)) b3 (12+3*g)
def tq.fI{p:Nat->Prop}{d:Nat->Nat}{m:E}{ax bg bB:List Int}(N:tq m b b1 b2 b3 k ax bg bB)(e:∀a,m.size<=a->d a=0):dN p d m (qW d b1 b2 b3 g) b:=by
 have f:=N.lo;refine⟨N.ext.size,λa c=>?_,λa c=>?_,λa c _=>N.ext.same a c⟩
 .unfold qW;rw[fH V,fH V,fH V]
 .unfold qW;rw[fH V,fH V,fH V];exact e a (oh N.ext.size)
def tq.sk{a:Nat->Nat}{m:E}{ax bg bB:List Int}(N:tq m b b1 b2 b3 k ax bg bB):
 iG (qW a b1 b2 b3 g) b aA 1 (10+3*g) (.mk b1 0 k k) (ax.map Ce.i)/\iG (qW a b1 b2 b3 g) b aA 1 (11+3*g) (.mk b2 0 k k) (bg.map Ce.i)/\iG (qW a b1 b2 b3 g) b aA 1 (12+3*g) (.mk b3 0 k k) (bB.map Ce.i):=by
 have f:=N.lo
 let⟨c,d,e⟩:=N.len
 refine⟨⟨by simp[c],aJ,Or.inr ⟨b1,k,[],rfl,?_,by rw[eL];exact N.kr,by simp[c]⟩⟩,⟨by simp[d],aJ,Or.inr ⟨b2,k,[],rfl,?_,by rw[eL];exact N.ko,by simp[d]⟩⟩,⟨by simp[e],aJ,Or.inr ⟨b3,k,[],rfl,?_,by rw[eL];exact N.kh,by simp[e]⟩⟩⟩
 .unfold qW;rw[fH V,fH V,ji]
 .unfold qW;rw[fH V,ji]
 .unfold qW;rw[ji]
def tq.box{m:E}{ax bg bB:List Int}(N:tq m b b1 b2 b3 k ax bg bB){m1:E}(a:J m1 m){nb:Nat}(d:m1.size<=nb)(e:nb<m.size)(i:Nat)(c:List Ce):tq m1 (aj b nb i c) b1 b2 b3 k ax bg bB:=by
 have f:=N.lo;have g:=a.size;exact⟨(a.trans N.ext).aj d _ _,by rw[aD];omega,N.kr.congr (bh _ _ _ _ V),N.ko.congr (bh _ _ _ _ V),N.kh.congr (bh _ _ _ _ V),N.len⟩
def tq.WJ{m c:E}{ax bg bB:List Int}(N:tq m b b1 b2 b3 k ax bg bB)(a:J b c):tq m c b1 b2 b3 k ax bg bB:=by
 have d:=N.lo;have:=a.size;exact⟨N.ext.trans a,V,N.kr.ext a,N.ko.ext a,N.kh.ext a,N.len⟩
section
variable{B:E}{v:Nat->Nat}{m:E}{w:Nat}{d p bC z t:O}{s:St}{q:List be}{u:be}{D C A:O}{y:List (List Ce)}
def sj.replace{c:Nat->Nat}(T:sj v m t q u D C A y)(s:dN (λ_=>False) v m c b){a:be}{g e d:O}(w:iG c b aA 1 (10+3*q.length) g (a.ax.map Ce.i))(n:iG c b aA 1 (11+3*q.length) e (a.bg.map Ce.i))(p:iG c b aA 1 (12+3*q.length) d (a.bB.map Ce.i)):
 fq b t.aC (t.off+q.length*6) 6/\oF c (aj b t.aC (t.off+q.length*6) [.i a.dW,.i a.pc,.i a.dst,.s g,.s e,.s d]) t (q++[a])/\dN (λk=>k=4) c b c (aj b t.aC (t.off+q.length*6) [.i a.dW,.i a.pc,.i a.dst,.s g,.s e,.s d]):=by
 have j:sj c b t q u D C A y:=T.fI s λ_ _=>id
 have l:y.flatten.length=q.length*6:=by rw[dp T.size,T.len]
 have i:dN (λk=>k=4) c b c (aj b t.aC (t.off+q.length*6) [.i a.dW,.i a.pc,.i a.dst,.s g,.s e,.s d]):=dN.aj s.new j.aC.1 _ _
 refine⟨j.sk.wr (by simp[l]),sj.tn (f:=a) (a:=q) (j:=y) (r:=g) (e:=e) (h:=d) ⟨?_,T.len,T.size,j.xe i λk n p=>V,w.fI i V,n.fI i V,p.fI i V⟩,i⟩
 have:=j.sk.set (o:=q.length*6) (new:=[.i a.dW,.i a.pc,.i a.dst,.s g,.s e,.s d]) (by simp[l])
 rw[mu _ _ _ _ V,l,Nat.sub_self]at this
 exact this
def Mt(w nb:Nat)(d:List Nat)(k pc f:Int)(g g1 g2:Int)(l j h:O)(e:E)(R:Value->E->Prop):Prop:=
 ((k==(24:Int))=true->
 let b:E:=aj e nb 2 [.i f]
 ∃a:O,af b w 8=some (O.v a)/\
 ∃c:O,af b w 8=some (O.v c)/\
 (0:Int)<=(cQ ((c.len:Int) -(1:Int)))/\(cQ ((c.len:Int) -(1:Int)))<(a.len:Int)/\
 fq b a.aC (a.off+Int.toNat (cQ ((c.len:Int) -(1:Int)))*6) 6/\
 let i:E:=aj b a.aC (a.off+Int.toNat (cQ ((c.len:Int) -(1:Int)))*6) [.i g,.i g1,.i f,.s l,.s j,.s h]
 eF (nb::d) b i/\
 R (.tuple #[]) i)/\
 ((k==(24:Int))=false->
 aP cv 221 [vp w 0,vi (cQ (pc+(1:Int)))] e λ_ a=>
 eF (nb::d) e a/\
 ∃m:O,af a w 8=some (O.v m)/\
 let c:E:=a.push (.cells (bE [.i g,.i g1,.i g2,.s l,.s j,.s h]) eE)
 af c w 8=af a w 8/\
 jb c eE [.i (0:Int),.i (0:Int),.i (0:Int),.s O.nil,.s O.nil,.s O.nil] 96 m (O.mk a.size 0 1 1) λn b=>
 eF (nb::d) c b/\
 fq b w 8 1/\
 let i:E:=aj b w 8 [.s n]
 eF (nb::d) b i/\
 R (.tuple #[]) i)
def NH(S:ST B v m w bQ (SB d p s bC z t) bC z t s.bC s.heap q u D C A y){W:List Nat}(G:Nm v m W){nb:Nat}{h:E}{g:be}(N:tq m h b1 b2 b3 k g.ax g.bg g.bB)(ah:m.size<=nb/\nb<h.size)(r:nb≠b1/\nb≠b2/\nb≠b3)
 (ay:q.length<=100000)(aC:0<=u.pc/\u.pc<=1000000){R:Value->E->Prop}
 (ar:c.op=24->∀b,xE B v m w d p {s with ak:=q++[{g with dst:=u.dst}]} b->R (.tuple #[]) b)
 (au:c.op≠24->∀b,xE B v m w d p {s with ak:=q++[{u with pc:=u.pc+1},g]} b->R (.tuple #[]) b):
 Mt w nb W c.op u.pc u.dst g.dW g.pc g.dst (.mk b1 0 k k) (.mk b2 0 k k) (.mk b3 0 k k) h R:=by
 have az:=N.lo
 have ax:=S.iP.EA
 have F:cQ ((t.len:Int) -1)=(q.length:Int):=by rw[aS V V];omega
 have e2:Int.toNat (q.length:Int)=q.length:=V
 have e4:cQ (u.pc+1)=u.pc+1:=aS V V
 have ai:v nb=0:=S.eR.new _ ah.1
 have aB:=N.ext.size
 refine⟨λM=>?_,λM=>?_⟩
 .intro H
  have P:tq m H b1 b2 b3 k g.ax g.bg g.bB:=⟨N.ext.aj ah.1 _ _,by simp only[H,aD];omega,N.kr.congr (bh _ _ _ _ (λF=>r.1 F.symm)),N.ko.congr (bh _ _ _ _ (λF=>r.2.1 F.symm)),N.kh.congr (bh _ _ _ _ (λF=>r.2.2 F.symm)),N.len⟩
  have ab:H.size=h.size:=aD _ _ _ _
  clear_value H
  have o:dN (λ_=>False) v m (qW v b1 b2 b3 q.length) H:=P.fI S.eR.new
  let⟨U,a2,a3⟩:=P.sk (a:=v) (g:=q.length)
  let⟨Z,w2,I⟩:=S.iP.replace o (a:={g with dst:=u.dst}) U a2 a3
  let⟨L,X⟩:=S.eR.jJ (o.mono λ_=>False.elim) (S.eR.heap.fI o id id)
  have K:af H w 8=some (O.v t):=L.box.cK 8
  refine⟨t,K,t,K,?_⟩
  rw[F,e2]
  refine⟨V,V,Z,?_⟩
  intro aa
  let⟨T,Y⟩:=L.lQ (I.mono λk Q=>V) w2
  refine⟨?_,ar (by simpa using M) _ ⟨_,bC,z,t,T,X.trans Y⟩⟩
  intro j e
  rcases List.mem_cons.1 e with rfl|e
  .refine I.fU _ V ?_
   unfold qW;rw[fH r.2.2,fH r.2.1,fH r.1,ai];decide
  .refine I.fU _ (oh ((G j e).1)) ?_
   rw[o.jy j (G j e).1,(G j e).2];decide
 .simp only[ap]at M
  rw[e4]
  have o:dN (λ_=>False) v m (qW v b1 b2 b3 (q.length+1)) h:=N.fI S.eR.new
  let⟨U,a2,a3⟩:=N.sk (a:=v) (g:=q.length+1)
  let⟨ao,aw⟩:=S.eR.jJ (o.mono λ_=>False.elim) (S.eR.heap.fI o id id)
  have I:ST B (qW v b1 b2 b3 (q.length+1)) h w bQ (SB d p s bC z t) bC z t s.bC s.heap q u D C A y:=⟨ao,S.iP.fI o λ_ _=>id⟩
  have ag:Nm (qW v b1 b2 b3 (q.length+1)) h (nb::W):=λj e=>by
   rcases List.mem_cons.1 e with rfl|e
   .refine⟨V,?_⟩;unfold qW;rw[fH r.2.2,fH r.2.1,fH r.1,ai]
   .exact⟨by have:=(G j e).1;omega,by rw[o.jy j (G j e).1];exact(G j e).2⟩
  apply oc (w,0)
  have K:af h w 8=some (O.v t):=I.eR.box.cK 8
  refine⟨t,K,t,K,?_⟩
  rw[F,e2]
  refine⟨V,V,I.iP.Y5,?_⟩
  intro H
  let⟨L,aa⟩:=I.Rn (u.pc+1)
  have aq:dN (λk=>k=4) (qW v b1 b2 b3 (q.length+1)) h (qW v b1 b2 b3 (q.length+1)) H:=dN.aj I.eR.new I.iP.aC.1 _ _
  refine⟨aa.gW ag,t,L.eR.box.cK 8,?_⟩
  intro Z
  have Y:J H Z:=(J.aH H).aR _
  let⟨T,am⟩:=L.ext Y
  have ac:=(ag.to aa).to am
  have kZ:gN Z H.size 0 [.i g.dW,.i g.pc,.i g.dst,.s (.mk b1 0 k k),.s (.mk b2 0 k k),.s (.mk b3 0 k k)]:=(cB.push H _ _).jD
  have P:(q++[{u with pc:=u.pc+1}]).length=q.length+1:=aJ
  have X:=λ{k:Nat}{s:O}{l:List Ce}(a:iG (qW v b1 b2 b3 (q.length+1)) h aA 1 k s l)(Q:k≠4)=>(a.fI aq Q).fI (dN.fK (λ_=>False) Y L.eR.new) id
  refine⟨Y.dB (L.eR.box.cK 8),oF.push T.eR.ak T.eR.new (x:=.mk H.size 0 1 1) rfl (a:=g) kZ (by rw[P];exact X U V) (by rw[P];exact X a2 V) (by rw[P];exact X a3 V) (by rw[P];omega) λal aj av q1 q2=>?_⟩
  have ab:To _ Z al av:=q2.mono λk Q=>V
  let⟨ad,aF⟩:=T.eR.lQ (q2.mono λk Q=>V) q1
  refine⟨ab.gW ac,ad.xz (i:=8) aJ,?_⟩
  intro aE
  let⟨ae,an⟩:=ad.oZ 8 [.s aj]
  refine⟨an.gW (ac.to ab),au M _ ⟨al,bC,z,aj,?_,(((aw.trans aa).trans am).trans ab).trans an⟩⟩
  have e9:q++[{u with pc:=u.pc+1}]++[g]=q++[{u with pc:=u.pc+1},g]:=aJ
  rw[e9]at ae
  exact ae
end
end
section
variable{a:cr}
variable{B:Int}
noncomputable def qd (a:cr) (s:St) (b:List be) (f:be) (x:Instr):St:=
 if x.op=9 then{s with bO:=s.bO+1,ak:=b++[{f with pc:=f.pc+1},cN a x.bM x.dst (dC f x.args)]}
 else if x.op=24 then{s with bO:=s.bO+1,ak:=b++[cN a x.bM f.dst (dC f x.args)]}
 else{s with bO:=s.bO+1,heap:=apart s.heap (aQ f.ax (aQ x.args 0)),ak:=b++[{f with pc:=f.pc+1},cN a ((bd s.heap (aQ f.ax (aQ x.args 0))).mJ -gA a) x.dst ((bd s.heap (aQ f.ax (aQ x.args 0))).aN++[aQ f.ax (aQ x.args 1)])]}
section
variable{u:E}{n:Nat->Nat}{m:E}{q:Nat}{d p bC t j:O}{b:St}{e:List be}{c:be}{r v h:O}{y:List (List Ce)}
def ST.rv(S:ST u n m q bQ (SB d p b bC t j) bC t j b.bC b.heap e c r v h y)(g:eY u d p a)(k:b.bC.length<=2000000000)(i:b.heap.length<=2000000000)(f:lW m j (e++[c])):
 RV m q 2 d p bC t j a {b with ak:=e++[c]}:=
 ⟨g.ext S.eR.cL,S.eR.box.cK 0,S.eR.box.cK 1,S.eR.box.cK 2,S.eR.box.cK 3,S.eR.box.cK 4,S.eR.box.cK 5,S.eR.box.cK 6,S.eR.box.cK 7,S.eR.box.cK 8,S.eR.bC.pw V,S.eR.heap.cells V,f⟩
def oF.IK{e:List be}(b:oF n m j e)(A:e.length<=2000000000)(q:∀c∈e,c.ax.length<=1000000/\c.bg.length<=1000000/\c.bB.length<=1000000):lW m j e:=by
 let⟨y,a,f,g,p⟩:=b;have t:j.len=e.length:=by have:=a.len;rw[dp g,f]at this;omega
 refine⟨t,a.le,V,λk x d=>?_⟩;let⟨o,i⟩:=cq y k (by rw[f];exact az d);obtain⟨r,v,h,rfl,w,u,b⟩:=p k o x i d;let⟨B,C,D⟩:=q x (av d);refine⟨_,⟨r,v,h,rfl,w.pw V,u.pw V,b.pw V⟩,λz l s=>?_⟩;have:=a.jD (k*6+z) l (iH g i s);rwa[<-dR]at this
def Md(an:ST u n m q bQ (SB d p b bC t j) bC t j b.bC b.heap e c r v h y)(aN:eY u d p a)(aw:qQ B a){z:Instr}{ab ai:O}(ha:au u ab z.args)(bm:∀F∈z.args,0<=F/\F<c.ax.length)(bL:z.args.length<=4)
 (bZ:z.op=9\/z.op=24\/z.op=11)(a3:(z.op=9\/z.op=24)->uO a z.bM z.args.length)(bl:z.op=11->z.args.length=2/\Ek a b.heap (aQ c.ax (aQ z.args 0)))
 (bX:c.ax.length=c.bg.length/\c.bB.length=c.bg.length/\c.bg.length<=1000000)(bk:∀L∈e,L.ax.length<=1000000/\L.bg.length<=1000000/\L.bB.length<=1000000)(bA:0<=c.pc/\c.pc<=1000000)(bT:e.length<=10000)(bV:b.heap.length<=1000000000)(b0:b.bC.length<=1000000000)(bM:0<=b.bO/\b.bO<=100000)
 {D:Nat->Int}(hI:fR b.heap D):
 aP cv 218 [vp q 0,fv c r v h,xv z ab ai] m λ_ N=>xE u n m q d p (qd a b e c z) N:=by
 apply uB (q,0)
 simp -zeta only[aG,aF]
 intro H m2
 have bE:J m m2:=((J.aH m).aR _).aR _
 have s1:H.size=m.size+1:=by simp[H]
 have s2:m2.size=m.size+2:=by simp[m2,s1]
 have B2:=Nm.Jr an.eR.new s1 s2
 have kB:cB m2 H.size dO [.i z.op,.i z.dst,.i z.bM,.i z.bY,.s ab,.s ai]:=cB.push H _ _
 let⟨S2,t2⟩:=an.ext bE
 clear_value m2
 have br:CM a z:=λD=>let⟨A,Z,G,_⟩:=a3 D;⟨Z,A,G⟩
 have bK:(eI a.bu).length<=12:=by
  have:=sC aw.pA.types a.bu.length;rw[nI _ _ (ad _)]at this;exact this
 have bu:∀{n m t lh bx},ST u n m q bQ bx bC t j b.bC lh e c r v h y->lW m j (e++[c]):=λan=>an.eR.ak.IK bS (λL C=>by
  rcases List.mem_append.1 C with C|C
  .exact bk L C
  .simp at C;subst C;omega)
 refine(nA (f:=c) (S2.KD V) (ha.ext S2.eR.cL) bm V).mono ?_
 rintro _ m3 ⟨U,rfl,ow,aC⟩
 let⟨S3,t3⟩:=S2.ext aC
 have B3:=B2.to t3
 have bD:(dC c z.args).length=z.args.length:=by simp[dC]
 have aq:au m3 U (dC c z.args):=au.gG ow V
 have bI:∀{N:E}{U:O}{ax:List Ce},gS N m3 aA 1 U ax->m.size<=N.size->U≠.nil->n U.aC=0:=λho hs aa=>by
  rcases ho.aC with D|D
  .exact absurd D aa
  .exact an.eR.new _ V
 refine⟨t3.gW B2,U,rfl,λL wv N=>∃(aI:Nat->Nat)(a7:O)(am:List bU)(C:List Int)(A:da),ST u aI N q bQ (SB d p b bC a7 j) bC a7 j b.bC am e c r v h y/\To n m aI N/\Nm aI N [H.size,m.size]/\cB N H.size dO [.i z.op,.i z.dst,.i z.bM,.i z.bY,.s ab,.s ai]/\au N wv C/\(C≠[]->aI wv.aC=0)/\
  0<=L/\a.cy[L.toNat]? =some A/\C.length=A.params.length/\ic a z 0 C=iA A.dg 0 C/\
  (z.op=24->qd a b e c z={b with bO:=b.bO+1,heap:=am,ak:=e++[cN a L c.dst C]})/\(z.op≠24->qd a b e c z={b with bO:=b.bO+1,heap:=am,ak:=e++[{c with pc:=c.pc+1},cN a L z.dst C]}),?_,?_⟩
 .refine⟨λaj=>?_,λaj=>?_⟩
  .simp at aj
   let⟨G,W,a8,b4,bz,a5,bP⟩:=bl aj
   let⟨ar,bB⟩:=cz W
   have aZ:=hI.cell _ (av ar)
   have b5:=(aZ.pF bB).2
   have a6:=az ar
   have bn:z.args=[aQ z.args 0,aQ z.args 1]:=by
    cases M:z.args with
    |nil=>rw[M]at G;simp at G
    |cons F ax=>cases ax with
     |nil=>rw[M]at G;simp at G
     |cons I ax=>cases ax with
      |nil=>rfl
      |cons _ _=>rw[M]at G;simp at G
   have a9:dC c z.args=[aQ c.ax (aQ z.args 0),aQ c.ax (aQ z.args 1)]:=by rw[bn];rfl
   have b7:=aq.len
   have b6:=aq.cap
   have gw:af m3 U.aC (U.off+Int.toNat (0:Int)*1)=some (vi (aQ c.ax (aQ z.args 0))):=aq.aQ (k:=0) (by rw[a9];rfl)
   have ap:=S3.rv aN V V (bu S3)
   generalize hw:aQ c.ax (aQ z.args 0)=w at*
   generalize hv:aQ c.ax (aQ z.args 1)=ah at*
   let⟨A,hq⟩:=cq a.cy (((bd b.heap w).mJ -gA a).toNat)
   have al:dm a ((bd b.heap w).mJ -gA a)=A:=by simp[dm,hq]
   rw[al]at bz a5
   refine⟨V,V,w,gw,d,ap.bu,(fC ap W.1 ar).mono ?_⟩
   rintro _ m4 ⟨f4,rfl,bN,X⟩
   let⟨S4,t4⟩:=S3.ext X
   have B4:=B3.to t4
   have a0:=ap.ext X
   refine⟨t4.gW B3,_,_,_,rfl,X.dB ap.bu,(pU a0.eT.bu aw.pA.types).mono ?_⟩
   rintro _ I ⟨rfl,aK⟩
   let⟨Q,t5⟩:=S4.ext aK
   have B5:=B4.to t5
   have bj:=a0.ext aK
   refine⟨t5.gW B4,_,rfl,V,V,V,(fC bj W.1 ar).mono ?_⟩
   rintro _ m6 ⟨f6,rfl,bt,aX⟩
   let⟨S6,t6⟩:=Q.ext aX
   have B6:=B5.to t6
   have aH:=(X.trans aK).trans aX
   have e1:(Int.toNat (1:Int))=1:=rfl
   have e2:(Int.toNat (U.len:Int))=U.len:=V
   rw[e1,e2]
   have bF:au m6 (O.cut U 1 U.len 1) [ah]:=by
    have:=XY (aq.ext aH) (by rw[bD];omega);rw[a9]at this;exact this
   have bR:=aZ.fl
   refine⟨t6.gW B5,_,_,_,rfl,(KT bt bF bS).mono ?_⟩
   rintro _ m7 ⟨P,rfl,oe,aY⟩
   let⟨S7,t7⟩:=S6.ext aY
   have B7:=B6.to t7
   have ie:au m7 P ((bd b.heap w).aN++[ah]):=au.gG oe bS
   have ay:n P.aC=0:=by
    rcases oe.aC with D|D
    .subst D;have:=ie.len;simp at this
    .exact an.eR.new _ (PO aH.size aC.size)
   have bs:P.aC<m7.size:=oG ie aJ
   refine⟨t7.gW B6,P,rfl,(Am S7.eR W hI V).mono ?_⟩
   rintro _ F ⟨ac,rfl,hb,K,bq,bp⟩
   have t8:To n m7 n F:=K.mono λS R=>V
   have B8:=B7.to t8
   have a_:au F P ((bd b.heap w).aN++[ah]):=nF ie λ_=>K.fU _ bs (by rw[ay];decide)
   have bb:To n m n F:=(((((t2.trans t3).trans t4).trans t5).trans t6).trans t7).trans t8
   have ba:cB F H.size dO [.i z.op,.i z.dst,.i z.bM,.i z.bY,.s ab,.s ai]:=(kB.ext (aC.trans (aH.trans aY))).congr (K.fU _ (B7 H.size aJ).1 (by rw[(B7 H.size aJ).2];decide))
   have e3:cQ ((bd b.heap w).mJ -((eI a.bu).length:Int))=(bd b.heap w).mJ -gA a:=aS V V
   rw[e3]
   have aE:ic a z 0 ((bd b.heap w).aN++[ah])=iA A.dg 0 ((bd b.heap w).aN++[ah]):=by
    rw[EO V,List.length_eq_zero_iff.1 a5]
   have a4:∀am,am=apart b.heap w->qd a b e c z={b with bO:=b.bO+1,heap:=am,ak:=e++[{c with pc:=c.pc+1},cN a ((bd b.heap w).mJ -gA a) z.dst ((bd b.heap w).aN++[ah])]}:=λam D=>by
    rw[qd,ae V,ae V,hw,hv,D]
   refine⟨t8.gW B7,ac,rfl,λa2=>?_,λa1=>?_⟩
   .have aL:=hb.1 a2
    let⟨T,bJ⟩:=S7.jJ (K.mono λS R=>Or.inl R) (bq a2)
    have bY:=T.eR.heap.len
    refine⟨t,T.eR.box.cK 7,?_⟩
    intro m9
    have bi:J F m9:=(J.aH F).aR _
    let⟨S9,Y⟩:=T.ext bi
    have B9:=B8.to Y
    clear_value m9
    have bW:=W.1
    have bw:ix w=(w -1000).toNat:=rfl
    have e5:cQ (w -1000)=w -1000:=aS V V
    rw[e5,<-bw]
    refine⟨V,V,S9.eR.heap.wr (o:=0) a6 bo,?_⟩
    intro b8
    let⟨bv,bg⟩:=S9.eR.heap.setCell S9.eR.new a6 0 0 (f:=.mk F.size 0 0 0) (l:=[]) ⟨rfl,aJ,aJ,aJ⟩ (λaa=>absurd rfl aa)
    let⟨aB,aO⟩:=S9.jJ (bg.mono λS R=>Or.inl R) bv
    have aV:=B9.to aO
    refine⟨aO.gW B9,t,aB.eR.box.cK 7,(wO (aB.eR.heap.cells bS)).mono ?_⟩
    rintro _ b9 ⟨rfl,bh⟩
    let⟨ag,aR⟩:=aB.ext bh
    have aW:=aV.to aR
    refine⟨aR.gW aV,_,rfl,ag.eR.xz (i:=7) aJ,?_⟩
    intro aM
    obtain⟨be,b_⟩:=ag.jJ (dN.aH _ ag.eR.new) (ag.eR.heap.cut (td _ _))
    obtain⟨bf,aT⟩:=be.oZ 7 [.s (t.cut 0 (kG (b.heap.set (ix w) jS) (b.heap.set (ix w) jS).length) 3)]
    have bc:=aW.to aT
    have aU:To n F n aM:=((Y.trans aO).trans aR).trans aT
    have bG:au aM P ((bd b.heap w).aN++[ah]):=nF a_ λ_=>aU.fU _ (oh K.size) (by rw[ay];simp)
    have bH:cB aM H.size dO [.i z.op,.i z.dst,.i z.bM,.i z.bY,.s ab,.s ai]:=ba.congr (aU.fU _ (B8 H.size aJ).1 (by rw[(B8 H.size aJ).2];simp))
    refine⟨aT.gW aW,n,_,_,_,A,bf,bb.trans aU,bc,bH,bG,λ_=>ay,a8,hq,bS,aE,λD=>V,λ_=>a4 _ ?_⟩
    rw[apart,ao aL];rfl
   .have aL:(bd b.heap w).aV≠1:=λD=>by have:=hb.2 D;rw[a1]at this;simp at this
    let⟨T,bJ⟩:=S7.jJ (K.mono λS R=>Or.inl R) (bp a1)
    refine⟨n,t,_,_,A,T,bb,B8,ba,a_,λ_=>ay,a8,hq,bS,aE,λD=>V,λ_=>a4 _ ?_⟩
    rw[apart,ae aL]
  .simp at aj
   have F:z.op=9\/z.op=24:=V
   let⟨A,P,K,R⟩:=a3 F
   have al:dm a z.bM=A:=by simp[dm,K]
   refine⟨n,t,b.heap,dC c z.args,A,S3,t2.trans t3,B3,kB.ext aC,aq,λaa=>bI ow V (λD=>by subst D;have:=aq.len;simp at this;exact aa (List.length_eq_zero_iff.1 this.symm)),P,K,V,by rw[Ik F,al],λD=>?_,λD=>?_⟩
   .rw[qd,ae V,ao D]
   .rw[qd,ao V]
 .rintro L wv m4 ⟨ar,aW,aR,C,A,S4,t4,B4,bc,aX,bb,a6,hq,bh,aE,a4,a5⟩
  have al:dm a L=A:=by simp[dm,hq]
  have bg:=(aw.df A (av hq)).ax
  have bf:=aw.fA
  have h3:=(aw.pA.df A (av hq)).1
  refine⟨b.bO,S4.eR.box.cK 4,S4.eR.xz (i:=4) aJ,?_⟩
  have e3:cQ (b.bO+1)=b.bO+1:=aS V V
  rw[e3]
  intro I
  let⟨Q,t5⟩:=S4.oZ 4 [.i (b.bO+1)]
  have B5:Nm ar I [H.size,m.size]:=B4.to t5
  replace t5:To ar m4 ar I:=t5
  have c5:dN (λS=>S=1) ar m4 ar I:=dN.aj S4.eR.new S4.eR.Rl _ _
  have aY:au I wv C:=nF aX λaa=>c5.fU _ (oG aX aa) (by rw[bb aa];decide)
  have be:cB I H.size dO [.i z.op,.i z.dst,.i z.bM,.i z.bY,.s ab,.s ai]:=bc.congr (c5.fU _ (B4 H.size aJ).1 (by rw[(B4 H.size aJ).2];decide))
  replace Q:ST u ar I q bQ (SB d p {b with bO:=b.bO+1,heap:=aR} bC aW j) bC aW j b.bC aR e c r v h y:=Q
  refine⟨t5.gW B4,d,Q.eR.box.cK 0,p,Q.eR.box.cK 1,?_⟩
  clear_value I
  have a1:=t4.trans t5
  have kg:∀{K a0:E},J K a0->∀{ac ag:Nat}{ah:Value},af K ac ag=some ah->af a0 ac ag=af K ac ag:=λM=>M.dB
  have ba:(ic a z 0 C).length=C.length:=Da _ _ _ _
  have a_:(cN a L z.dst C).ax=C++gB (A.ax.toNat -C.length):=by simp[cN,al]
  have a9:(cN a L z.dst C).bg=ic a z 0 C++gB (A.ax.toNat -(ic a z 0 C).length):=by simp[cN,al,aE,mH]
  have a8:(cN a L z.dst C).bB=gB A.ax.toNat:=by simp[cN,al]
  have hO:∀(W aB:E)(nb b1 b2 b3:Nat),J I W->tq W aB b1 b2 b3 A.ax.toNat (C++gB (A.ax.toNat -C.length)) (ic a z 0 C++gB (A.ax.toNat -(ic a z 0 C).length)) (gB A.ax.toNat)->W.size<=nb/\nb<aB.size->nb≠b1/\nb≠b2/\nb≠b3->
   Mt q nb [H.size,m.size] z.op c.pc c.dst L 0 z.dst (.mk b1 0 A.ax.toNat A.ax.toNat) (.mk b2 0 A.ax.toNat A.ax.toNat) (.mk b3 0 A.ax.toNat A.ax.toNat) aB (λ_ N=>xE u n m q d p (qd a b e c z) N):=λW aB nb b1 b2 b3 M P aO aa=>by
   let⟨SM,tM⟩:=Q.ext M
   refine NH (s:={b with bO:=b.bO+1,heap:=aR}) (g:=cN a L z.dst C) (c:=z) SM (B5.to tM) (by rw[a_,a9,a8];exact P) aO aa V bA (λD N hF=>?_) (λD N hF=>?_)
   .rw[a4 D];exact xE.from hF (a1.trans tM)
   .rw[a5 D];exact xE.from hF (a1.trans tM)
  have aK:∀{W:E}{os:O},J I W->au W os (ic a z 0 C)->aP cv 123 [.agg #[O.v d,O.v p],vi L,vi z.dst,O.v wv,O.v os] W _:=λM ho=>xl (aN.ext (Q.eR.cL.trans M)) a6 hq V z.dst (aY.ext M) ho V ba
  have ay:∀{K T:E},J I K->J K T->∀ag,ag<6->af T H.size ag=af K H.size ag:=λZ G ag hi=>by
   have S:=be.ext Z;match ag,hi with
   |0,_=>exact G.dB (S.cK 0)
   |1,_=>exact G.dB (S.cK 1)
   |2,_=>exact G.dB (S.cK 2)
   |3,_=>exact G.dB (S.cK 3)
   |4,_=>exact G.dB (S.cK 4)
   |5,_=>exact G.dB (S.cK 5)
  have Jr:∀{K T:E},J I K->J K T->af T q 0=af K q 0/\af T q 1=af K q 1:=λZ G=>⟨G.dB (Z.af (Q.eR.box.cK 0)),G.dB (Z.af (Q.eR.box.cK 1))⟩
  have mL:∀{W:E},J I W->nE 249 [vp q 0,xv z ab ai,O.v wv] W (ic a z 0 C):=λM=>DH (aN.ext (Q.eR.cL.trans M)) (M.af (Q.eR.box.cK 0)) (M.af (Q.eR.box.cK 1)) br ab ai (aY.ext M) V
  have sm:∀{K T:E},J I K->J K T->eF [H.size,m.size] K T:=λZ G=>G.de λac hb=>Z.lt (B5 ac hb).1
  have aT:∀{K T:E}{nb:Nat},J I K->J K T->nb<K.size->eF [nb,H.size,m.size] K T:=λZ G aO=>G.de λac hb=>by
   rcases List.mem_cons.1 hb with rfl|hb
   .exact aO
   .exact Z.lt (B5 ac hb).1
  refine⟨(mL (J.aH _)).mono ?_,?_⟩
  .rintro _ aj ⟨os,rfl,oo,R⟩
   have io:au aj os (ic a z 0 C):=au.gG oo V
   refine⟨sm (J.aH _) R,os,rfl,ay (J.aH _) R 1 V,(Jr (J.aH _) R).1,(Jr (J.aH _) R).2,?_,?_⟩
   .refine(aK R io).mono ?_
    rintro _ ap ⟨b1,b2,b3,rfl,P⟩
    have aL:=P.ext
    have aU:=R.trans aL
    refine⟨sm R aL,_,_,_,_,_,_,rfl,?_⟩
    intro aZ
    have aM:J ap aZ:=(J.aH ap).aR _
    have F:=ay aU aM
    have Y:=Jr aU aM
    refine⟨F 0 V,F 1 V,F 2 V,F 3 V,F 4 V,F 5 V,F 1 V,Y.1,Y.2,?_⟩
    intro aH
    have a2:J ap aH:=aM.aj (ad _) _ _
    have bi:aH.size=ap.size+1:=by simp[aH,aZ,aD]
    have aV:=P.lo
    exact hO aj aH ap.size b1 b2 b3 R (P.WJ a2) ⟨by have:=aL.size;omega,V⟩ ⟨V,V,V⟩
   .intro aH
    have ap:J aj aH:=(J.aH aj).aR _
    have a2:aH.size=aj.size+1:=by simp[aH]
    have F:=ay R ap
    have Y:=Jr R ap
    refine⟨F 0 V,F 1 V,F 2 V,F 3 V,F 4 V,F 5 V,F 1 V,Y.1,Y.2,?_⟩
    clear_value aH
    refine(aK (R.trans ap) (io.ext ap)).mono ?_
    rintro _ aZ ⟨b1,b2,b3,rfl,P⟩
    have aL:=P.ext
    refine⟨aT (R.trans ap) aL V,_,_,_,_,_,_,rfl,?_⟩
    intro aM
    have aV:=P.lo
    have aU:=P.box ap (nb:=aj.size) (ad _) V 0 [.i L,.i 0,.i z.dst,.s (.mk b1 0 A.ax.toNat A.ax.toNat),.s (.mk b2 0 A.ax.toNat A.ax.toNat),.s (.mk b3 0 A.ax.toNat A.ax.toNat)]
    exact hO aj aM aj.size b1 b2 b3 R aU ⟨ad _,by simp only[aM,aD];have:=aL.size;omega⟩ ⟨V,V,V⟩
  .intro aj
   have R:J I aj:=(J.aH I).aR _
   have a2:aj.size=I.size+1:=by simp[aj]
   have F:=ay (J.aH _) R
   have Y:=Jr (J.aH _) R
   refine⟨F 0 V,F 1 V,F 2 V,F 3 V,F 4 V,F 5 V,F 1 V,Y.1,Y.2,?_⟩
   clear_value aj
   refine(mL R).mono ?_
   rintro _ aU ⟨os,rfl,oo,X⟩
   have io:au aU os (ic a z 0 C):=au.gG oo V
   have ap:=R.trans X
   have bi:=X.size
   refine⟨aT R X V,os,rfl,ay R X 1 V,(Jr R X).1,(Jr R X).2,?_⟩
   refine(aK ap io).mono ?_
   rintro _ aZ ⟨b1,b2,b3,rfl,P⟩
   have aH:=P.ext
   refine⟨aT ap aH V,_,_,_,_,_,_,rfl,?_⟩
   intro aL
   have aV:=P.lo
   have aM:=P.box ap (nb:=I.size) (ad _) V 0 [.i L,.i 0,.i z.dst,.s (.mk b1 0 A.ax.toNat A.ax.toNat),.s (.mk b2 0 A.ax.toNat A.ax.toNat),.s (.mk b3 0 A.ax.toNat A.ax.toNat)]
   exact hO I aL I.size b1 b2 b3 (J.aH _) aM ⟨ad _,by simp only[aL,aD];have:=aH.size;omega⟩ ⟨V,V,V⟩
def Mh(S:ST u n m q bQ (SB d p b bC t j) bC t j b.bC b.heap e c r v h y)(ae:e.length<=100000)(w:Int)(U:∀g,e.getLast?=some g->0<=c.dst/\c.dst<g.ax.length/\c.dst<g.bg.length):
 aP cv 219 [vp q 0,fv c r v h,vi w] m λ_ Z=>xE u n m q d p (match e.getLast? with|none=>{b with cY:=0,value:=w,ak:=[]}|some g=>{b with ak:=e.dropLast++[g.put c.dst w (jx w)]}) Z:=by
 apply uC (q,0)
 simp -zeta only[aG,aF]
 intro f
 have Y:J m f:=(J.aH m).aR _
 have s1:f.size=m.size+1:=by simp[f]
 let⟨k,t1⟩:=S.ext Y
 have M:n m.size=0:=S.eR.new _ (ad _)
 have C:Nm n f [m.size]:=λE G=>by simp at G;subst G;exact⟨V,M⟩
 clear_value f
 have H:=k.iP.EA
 have ab:=k.iP.sk.le
 have z:cQ ((j.len:Int) -1)=(e.length:Int):=by rw[aS V V];omega
 have L:Int.toNat (e.length:Int)=e.length:=V
 have F:af f q 8=some (O.v j):=k.eR.box.cK 8
 refine⟨j,F,j,F,?_⟩
 rw[z,L]
 refine⟨V,V,V,k.eR.xz (i:=8) aJ,?_⟩
 intro m2
 let⟨x,t2⟩:=k.eR.oZ 8 [.s (j.cut 0 e.length 6)]
 obtain⟨a,_⟩:=x.lQ (dN.aH _ x.new) (x.ak.Vg)
 have o:=C.to t2
 have ac:(j.cut 0 e.length 6).len=e.length:=by
  cases j with
  |nil=>simp at H
  |CS E I l=>simp at H
  |mk E I A l=>simp[O.cut]
 have e3:Int.toNat (0:Int)=0:=rfl
 refine⟨t2.gW C,j.cut 0 e.length 6,a.box.cK 8,λA=>?_,λA=>?_⟩
 .simp at A
  have N:e=[]:=List.length_eq_zero_iff.1 V
  subst N
  refine⟨a.xz (i:=2) (by simp[ln]),?_⟩
  intro m3
  let⟨l,t3⟩:=a.oZ 2 [.i 0]
  have D:=o.to t3
  refine⟨t3.gW o,l.xz (i:=3) (by simp[ln]),?_⟩
  intro P
  let⟨K,B⟩:=l.oZ 3 [.i w]
  exact⟨B.gW D,n,bC,t,_,K,(((t1.trans t2).trans t3).trans B)⟩
 .simp at A
  have X:e.length≠0:=V
  have B:e≠[]:=λz=>X (by rw[z];rfl)
  obtain⟨g,l⟩:∃g,e.getLast?=some g:=⟨_,mM B⟩
  let⟨N,P,Q⟩:=U g l
  rw[l]
  simp only[]
  have W:e=e.dropLast++[g]:=by
   rw[mM B]at l;simp at l;rw[<-l];exact(iE B).symm
  have D:Cm u n m2 q bQ (SB d p b bC t (j.cut 0 e.length 6)) bC t (j.cut 0 e.length 6) b.bC b.heap (e.dropLast++[g]):=
   ⟨a.cL,a.kM,a.new,a.box,a.Rl,a.bC,a.heap,by rw[<-W];exact a.ak⟩
  let⟨r',I,h',aa,T⟩:=D.ak.iP
  have R:e.dropLast.length<=100000:=bS
  refine(sU (a:=b) ⟨D,T⟩ R N P Q w).mono ?_
  rintro _ m3 ⟨K,t3⟩
  exact⟨t3.gW o,n,bC,t,_,K.eR,(t1.trans t2).trans t3⟩
end
end
section
variable{b:cr}{a:Instr}
variable{B:Int}
def CO.HE{s:St}{d:List be}{f:be}(C:CO B b s d f a){bg:List Int}(j:bg=dL f.ax f.bg (dG b a))(i:∀o∈bg,0<=o):
 fR s.heap (λc=>fj d c+cV f.ax bg c+eK ((dG b a).map (aQ f.ax)) c)/\∀c,0<=fj d c+cV f.ax bg c:=by
 have e:=wU (ax:=f.ax) (dG b a) f.bg C.Rr C.LV.1
 rw[<-j]at e
 refine⟨C.ok.heap.congr λc=>?_,λc=>?_⟩
 .rw[C.fr,fF,jY,e];omega
 .have:=JD (c:=d) (λg h=>C.ok.ak g (by rw[C.fr];exact bz _ h)) c
  have:=sG (ax:=f.ax) i c
  omega
def P1{a:List bq}{t mJ:Int}(h:mJ∈cb a t):1<=t/\t<=a.length/\(wX (cb a t) mJ:Int)=mJ -fc a (t.toNat -1)/\(fc a (t.toNat -1):Int)<=mJ:=by
 unfold cb at h⊢;by_cases b:1<=t/\t<=a.length
 .rw[ao b]at h⊢;let⟨d,hd⟩:=cq a (t.toNat -1);rw[hd]at h⊢;simp only[lF,pD]at h⊢;let⟨i,c,e⟩:=List.mem_map.1 h;rw[List.mem_range]at c;have f:wX ((List.range d.cons.length).map λi=>((fc a (t.toNat -1)+i:Nat):Int)) mJ=i:=by
   unfold wX;rw[List.findIdx_eq (by simpa using c)];refine⟨by simp[<-e],λj g=>?_⟩;simp;omega
  rw[f];exact⟨b.1,b.2,V,V⟩
 .rw[ae b]at h;simp at h
def Oa{k d e:Int}(l:gZ d)(o:gZ e)(m:E):LA cv 215 [vi k,vi d,vi e] m (vi (TY k d e)):=by
 have i:∀n:Int,-2000000<=n/\n<=2000000->LA cv 244 [vi (cQ n)] m (vi (JV n)):=λn q=>by
  apply Hd;rw[aS V V];refine⟨?_,J.aH _⟩;unfold JV;congr 1;repeat' split
  all_goals omega
 unfold gZ at l o;have p: -2000000<=d*e/\d*e<=2000000:=by
  have a:(d*e).natAbs<=999*999:=by rw[Int.natAbs_mul];exact Up V V
  omega
 apply Ji;unfold TY;refine⟨λa=>?_,λa=>⟨λb=>?_,λb=>⟨λc=>?_,λc=>⟨λf=>⟨λh=>?_,λh=>?_⟩,λf=>?_⟩⟩⟩⟩
 .simp at a;rw[ao a];exact(i _ V).then λj g=>⟨_,rfl,rfl,g⟩
 .simp at a b;rw[ae a,ao b];exact(i _ V).then λj g=>⟨_,rfl,rfl,g⟩
 .simp at a b c;rw[ae a,ae b,ao c];exact(i _ p).then λj g=>⟨_,rfl,rfl,g⟩
 .simp at a b c f h;rw[ae a,ae b,ae c,ao ⟨f,h⟩];exact⟨rfl,J.aH _⟩
 .simp at a b c f h;rw[ae a,ae b,ae c,ae V];exact⟨rfl,J.aH _⟩
 .simp at a b c f;rw[ae a,ae b,ae c,ae V];exact⟨rfl,J.aH _⟩
section
variable{q:E}{j:Nat->Nat}{m:E}{t:Nat}{d p bC n k:O}{c:St}{g:List be}{f:be}{r o h:O}{u:List (List Ce)}
def Jh(C:CO B b c g f a){bg:List Int}(ay:bg=dL f.ax f.bg (dG b a))(hM:uj b c f a bg)
 (ab:ST q j m t bQ (SB d p c bC n k) bC n k c.bC c.heap g {f with bg:=bg} r o h u)(aU:eY q d p b){ar a0:O}(ha:au q ar a.args)(hj:au q a0 a.di)(bp:c.heap.length<=900000000)(bB:c.bC.length<=900000000):
 aP cv 171 [vp t 0,fv f r o h,xv a ar a0] m λ_ S=>xE q j m t d p (jI b c g f a bg) S:=by
 apply sT (t,0)
 simp -zeta only[aG,aF]
 intro m1 A
 have bk:J m A:=((J.aH m).aR _).aR _
 have s1:m1.size=m.size+1:=by simp[m1]
 have s2:A.size=m.size+2:=by simp[A,s1]
 have F:=Nm.Jr ab.eR.new s1 s2
 have W:cB A m1.size dO [.i a.op,.i a.dst,.i a.bM,.i a.bY,.s ar,.s a0]:=cB.push m1 _ _
 have kF:cB A m.size eE [.i f.dW,.i f.pc,.i f.dst,.s r,.s o,.s h]:=(cB.push m _ _).ext (J.push m1 _)
 let⟨y,t2⟩:=ab.ext bk
 clear_value A
 have bA:bg.length=f.bg.length:=by rw[ay];exact qM _ _ _
 have bq:=C.LV
 have G:=C.QR
 have hd:=C.dst
 have bh:=C.F.pc
 obtain⟨pq,_,bi,hP,bn,hI⟩:=C.I
 rw[bi]at bh
 have bD:=hP.len
 have br:=C.ok.eT.fA
 have an:0<=f.pc/\f.pc<=1000000:=V
 have a4:=C.ok.depth
 have bm:=C.ok.bO
 have bt:=C.ok.eH
 rw[C.fr]at a4
 have bo:g.length<=1000:=by simp at a4;omega
 have aV:f.ax.length=bg.length/\f.bB.length=bg.length/\bg.length<=1000000:=V
 have bF:r.len=f.ax.length:=by have:=ab.iP.ax.len;simp at this;omega
 have bv:o.len=bg.length:=by have:=ab.iP.bg.len;simp at this;omega
 have bl:=ha.len
 have e4:cQ (f.pc+1)=f.pc+1:=aS V V
 have aa:1<=a.args.length->0<=aQ a.args 0/\aQ a.args 0<f.ax.length:=λL=>C.arg _ (iK V V)
 have N:∀{S},J q S->1<=a.args.length->af S ar.aC (ar.off+Int.toNat (0:Int)*1)=some (vi (aQ a.args 0)):=λhx L=>(ha.ext hx).Gs V V
 have U:∀{j m bx bC n k lo lh o h u own'},ST q j m t bQ bx bC n k lo lh g {f with bg:=own'} r o h u->∀{aC:Int},0<=aC->aC<f.ax.length->af m r.aC (r.off+Int.toNat aC*1)=some (vi (aQ f.ax aC)):=λab aC h0 L=>(ab.KD (by simp only[];omega)).Gs h0 L
 have a3:=C.HE ay hM.nn
 have bc:∀{j m n lh bx},ST q j m t bQ bx bC n k c.bC lh g {f with bg:=bg} r o h u->lW m k (g++[{f with bg:=bg}]):=λab=>ab.eR.ak.IK bS (λah H=>by
  rcases List.mem_append.1 H with H|H
  .have Z:=C.ok.ak ah (by rw[C.fr];exact bz _ H);obtain⟨pg,_,aE,aw,_⟩:=Z.Kk C.ok.eT;have L:=Z.lr;have P:=Z.lo;have h3:=Z.lh;rw[aE]at L P h3;have:=aw.ax;have:=C.ok.eT.fA;omega
  .simp at H;subst H;simp only[];omega)
 have a6:∀r',r'∈a.args->aQ f.ax r'<1000->gZ (aQ f.ax r'):=λr' bj bs=>by
  have ax:=C.arg r' bj;rcases C.F.RW _ (iK ax.1 ax.2)with Q|Q
  .exact Q
  .omega
 have a1:∀{ac:E}(hx:J A ac)(Y:Int)(s':St),s'={c with ak:=g++[be.put {f with bg:=bg,pc:=f.pc+1} a.dst Y 0]}->
  aP cv 214 [vp t 0,vi a.dst,vi Y] ac λ_ S=>eF [m1.size,m.size] ac S/\xE q j m t d p s' S:=λhx Y s' v=>by
  let⟨SM,tM⟩:=y.ext hx
  refine(Ai SM V hd.1 (by simp only[];omega) (by simp only[];omega) Y an).mono ?_
  rintro _ S ⟨S',t'⟩
  exact⟨t'.gW (F.to tM),j,bC,n,k,by rw[v];exact S'.eR,(t2.trans tM).trans t'⟩
 have aT:∀{ac:E}(hx:J A ac)(aX:Int)(s':St),s'={c with ak:=g++[{f with bg:=bg,pc:=aX}]}->
  aP cv 221 [vp t 0,vi aX] ac λ_ S=>eF [m1.size,m.size] ac S/\xE q j m t d p s' S:=λhx aX s' v=>by
  let⟨SM,tM⟩:=y.ext hx
  refine(jK SM V aX).mono ?_
  rintro _ S ⟨S',t'⟩
  exact⟨t'.gW (F.to tM),j,bC,n,k,by rw[v];exact S'.eR,(t2.trans tM).trans t'⟩
 refine⟨λv=>?_,λe0=>?_⟩
 .simp at v
  exact a1 (J.aH _) _ _ (by unfold jI;simp only[];rw[ao v])
 simp only[ap]at e0
 refine⟨λv=>?_,λe1=>?_⟩
 .simp only[cD,aO]at v
  have P:=G.2.2.1 V
  have w:=aa V
  have I:0<=aQ a.args 1/\aQ a.args 1<f.ax.length:=C.arg _ (iK V V)
  have K:=hM.pw V
  refine⟨V,V,_,N y.eR.cL V,w.1,V,_,U y w.1 w.2,V,V,_,(ha.ext y.eR.cL).Gs (i:=1) V V,I.1,V,_,U y I.1 I.2,?_⟩
  refine(Oa (a6 _ (iK V V) (K _ (iK V V))) (a6 _ (iK V V) (K _ (iK V V))) A).mono ?_
  rintro _ D ⟨rfl,z⟩
  refine⟨z.de (λT hb=>(F T hb).1),_,rfl,z.dB (W.cK 1),a1 z _ _ ?_⟩
  unfold jI;simp only[];rw[ae e0,ao v]
 simp only[bW,ap]at e1
 have am:¬(a.op=1\/a.op=2\/a.op=3\/a.op=4):=V
 refine⟨λv=>?_,λe5=>?_⟩
 .simp only[aO]at v
  have P:=G.2.1 V
  have w:=aa V
  have ag:(O.len bC)=c.bC.length:=by have:=y.eR.bC.len;simp at this;omega
  refine⟨bC,y.eR.box.cK 6,V,V,_,N y.eR.cL V,w.1,V,_,U y w.1 w.2,?_⟩
  intro D
  have z:J A D:=(J.aH A).aR _
  have kZ:gN D A.size 0 [.i (aQ f.ax (aQ a.args 0))]:=(cB.push A _ _).jD
  let⟨K,t3⟩:=y.ext z
  have B3:=F.to t3
  clear_value D
  refine⟨z.dB (y.eR.box.cK 6),iG.append (zs:=[.i 0]) (x:=.mk A.size 0 1 1) (c:=[.i (aQ f.ax (aQ a.args 0))]) K.eR.bC K.eR.new rfl kZ (by simp only[O.dU];omega) λaq aD m4 q1 q2=>?_⟩
  have R:iG aq m4 aA 1 2 aD ((c.bC++[aQ f.ax (aQ a.args 0)]).map Ce.i):=by simpa using q1
  let⟨M,I⟩:=K.KJ q2 R
  have B4:=B3.to I
  refine⟨I.gW B3,M.eR.xz (i:=6) aJ,?_⟩
  intro m5
  let⟨S5,X⟩:=M.oZ 6 [.s aD]
  refine⟨X.gW B4,V,V,_,N S5.eR.cL V,w.1,V,_,U S5 w.1 w.2,?_⟩
  refine(Ai (a:={c with bC:=c.bC++[aQ f.ax (aQ a.args 0)]}) S5 V hd.1 (by simp only[];omega) (by simp only[];omega) _ an).mono ?_
  rintro _ m6 ⟨S6,t6⟩
  refine⟨t6.gW (B4.to X),aq,aD,n,k,?_,(((t2.trans t3).trans I).trans X).trans t6⟩
  unfold jI;simp only[];rw[ae e0,ae am,ao v];exact S6.eR
 simp only[ap]at e5
 have a7:∀Y∈f.bB,Y≠0->1000<=Y/\ix Y<c.heap.length:=λY hw aW=>by
  obtain⟨L,dd,bb,_⟩:=C.Qo Y hw aW;exact⟨L,az bb⟩
 refine⟨λv=>?_,λe6=>?_⟩
 .simp only[aO]at v
  have h6:=G.2.2.2.2.1 v
  refine(tZ y ha C.arg G.1 a.bM aV (by simp only[];omega) ⟨h6.1,h6.2.1⟩ an V V a7).mono ?_
  rintro _ D ⟨al,aj,ai,ag,L3,t3⟩
  refine⟨t3.gW F,al,aj,ai,ag,?_,t2.trans t3⟩
  have:jI b c g f a bg=vS c g {f with bg:=bg} a a.bM:=by
   unfold jI vS;simp only[];rw[ae e0,ae am,ae e5,ao v];rfl
  rw[this];exact L3
 simp only[ap]at e6
 refine⟨λv=>?_,λaR=>?_⟩
 .simp only[aO]at v
  have aK:=G.2.2.2.2.2.1 v
  have ax:a.bY=0:=by rcases hI.bY with Q|Q;exact Q;omega
  have aL:(eI b.bu).length<=12:=by
   have:=sC C.ok.eT.pA.types b.bu.length;rw[nI _ _ (ad _)]at this;exact this
  refine⟨d,y.eR.box.cK 0,(pU (aU.ext y.eR.cL).bu C.ok.eT.pA.types).mono ?_⟩
  rintro _ D ⟨rfl,z⟩
  let⟨K,t3⟩:=y.ext z
  have e3:cQ (((eI b.bu).length:Int)+a.bM)=gA b+a.bM:=aS V V
  refine⟨t3.gW F,_,rfl,z.dB (W.cK 2),z.dB (W.cK 0),z.dB (W.cK 1),z.dB (W.cK 2),z.dB (W.cK 3),z.dB (W.cK 4),z.dB (W.cK 5),z.dB (kF.cK 0),z.dB (kF.cK 1),z.dB (kF.cK 2),z.dB (kF.cK 3),z.dB (kF.cK 4),z.dB (kF.cK 5),?_⟩
  rw[e3]
  refine(tZ K ha C.arg G.1 (gA b+a.bM) aV (by simp only[];omega) (by rw[ax];omega) an V V a7).mono ?_
  rintro _ m4 ⟨aq,aI,aB,aH,R,I⟩
  refine⟨I.gW (F.to t3),aq,aI,aB,aH,?_,(t2.trans t3).trans I⟩
  have:jI b c g f a bg=vS c g {f with bg:=bg} a (gA b+a.bM):=by
   unfold jI vS;simp only[];rw[ae e0,ae am,ae e5,ae e6,ao v,ae (λhh=>hh.1 ax)];rfl
  rw[this];exact R
 simp only[ap]at aR
 refine⟨λv=>?_,λe9=>?_⟩
 .simp only[cD,aO]at v
  have R:=hI.op
  unfold kK at R
  refine(Md y aU C.ok.eT ha C.arg G.1 V (λe'=>?_) (λe'=>⟨G.2.2.1 V,hM.apply e'⟩) aV (λah H=>?_) an V V V V C.ok.heap).mono ?_
  .rw[ae V,ae V,ae V,ae V,ao e']at R;exact R
  .have Z:=C.ok.ak ah (by rw[C.fr];exact bz _ H)
   obtain⟨pg,_,aE,aw,_⟩:=Z.Kk C.ok.eT
   have L:=Z.lr
   have P:=Z.lo
   have h3:=Z.lh
   rw[aE]at L P h3
   have:=aw.ax
   have:=C.ok.eT.fA
   omega
  rintro _ D ⟨al,aj,ai,ag,L3,t3⟩
  refine⟨t3.gW F,al,aj,ai,ag,?_,t2.trans t3⟩
  have:jI b c g f a bg=qd b c g {f with bg:=bg} a:=by
   unfold jI qd;simp only[];rw[ae e0,ae am,ae e5,ae e6,ae aR,ae V,ae V,ae V,ae V,ae V,ae V,ae V,ae V];by_cases e9:a.op=9
   .rw[ao e9,ao e9];rfl
   .rw[ae e9,ae e9];by_cases Z:a.op=24
    .rw[ao Z,ao Z];rfl
    .rw[ae Z,ae Z,ao V]
  rw[this];exact L3
 simp only[bW,ap]at e9
 refine⟨λv=>?_,λa9=>?_⟩
 .simp only[aO]at v
  have P:=G.2.1 V
  have w:=aa V
  refine⟨V,V,_,N y.eR.cL V,w.1,V,_,U y w.1 w.2,(Mh y V (aQ f.ax (aQ a.args 0)) (λah H=>?_)).mono ?_⟩
  .have aW:g≠[]:=λv=>by rw[v]at H;simp at H
   have Z:g=g.dropLast++[ah]:=by
    rw[mM aW]at H;simp at H;rw[<-H];exact(iE aW).symm
   have aE:g.length=g.dropLast.length+1:=by
    have:=tm List.length Z;simpa using this
   let⟨q1,q2,q3⟩:=C.ok.chain g.dropLast.length ah f (by rw[C.fr,Z];simp) (by rw[C.fr,<-aE];simp)
   have aw:=C.ok.ak ah (by rw[C.fr,Z];simp)
   have:=aw.lr
   have:=aw.lo
   exact⟨q1,by show f.dst<_;omega,by show f.dst<_;omega⟩
  rintro _ D ⟨al,aj,ai,ag,L3,t3⟩
  refine⟨t3.gW F,al,aj,ai,ag,?_,t2.trans t3⟩
  unfold jI
  simp only[]
  rw[ae e0,ae am,ae e5,ae e6,ae aR,ae V,ae V,ae V,ae V,ae V,ae V,ae V,ae V,ae V,ae V,ae V]
  exact L3
 simp only[ap]at a9
 have bf:∀(ah:St),(if a.op=0 then ah else ah)=ah:=λah=>by split<;>rfl
 have NW:jI b c g f a bg=(
  if a.op=14 then{c with heap:=oL c.heap (aQ f.ax (aQ a.args 0)),ak:=g++[{f with bg:=iD bg (aQ a.args 0) (aQ bg (aQ a.args 0)+1),pc:=f.pc+1}]}
  else if a.op=15 then{c with heap:=rh (je c.heap [aQ f.ax (aQ a.args 0)]),ak:=g++[{f with bg:=bg,pc:=f.pc+1}]}
  else if a.op=16\/a.op=17 then Kv c g {f with bg:=bg} a
  else if a.op=18 then{c with ak:=g++[be.put {f with bg:=bg,pc:=f.pc+1} a.dst (aQ f.ax (aQ a.args 0)) (jx (aQ f.ax (aQ a.args 0)))]}
  else if a.op=19 then{c with ak:=g++[be.put {f with bg:=bg,pc:=f.pc+1} a.dst (aQ (bd c.heap (aQ f.ax (aQ a.args 0))).aN a.bM) 0]}
  else if a.op=20 then{c with ak:=g++[{f with bg:=bg,pc:=if aQ f.ax (aQ a.args 0)=0 then a.bM else f.pc+1}]}
  else if a.op=21 then{c with ak:=g++[{f with bg:=bg,pc:=aQ a.di (wX (cb b.bu a.bM) (bd c.heap (aQ f.ax (aQ a.args 0))).mJ)}]}
  else{c with ak:=g++[{f with bg:=bg,pc:=a.bM}]}):=by
  unfold jI
  simp only[]
  rw[ae e0,ae am,ae e5,ae e6,ae aR]
  by_cases aE:a.op=14
  .rw[ao aE,ao aE]
  rw[ae aE,ae aE]
  by_cases aH:a.op=15
  .rw[ao aH,ao aH]
  rw[ae aH,ae aH]
  by_cases aI:a.op=16\/a.op=17
  .rw[ao aI,ao aI];rfl
  rw[ae aI,ae aI]
  by_cases aK:a.op=18
  .rw[ao aK,ao aK]
  rw[ae aK,ae aK]
  by_cases aL:a.op=19
  .rw[ao aL,ao aL]
  rw[ae aL,ae aL]
  by_cases aM:a.op=20
  .rw[ao aM,ao aM]
  rw[ae aM,ae aM]
  by_cases aN:a.op=21
  .rw[ao aN,ao aN]
  rw[ae aN,ae aN]
  have:=C.opc
  rw[ao V]
 rw[NW]
 clear NW bf
 refine⟨λv=>?_,λa2=>?_⟩
 .simp only[aO]at v
  rw[ao v]
  have P:=G.2.1 V
  have w:=aa V
  let⟨Z,bu⟩:=hM.Zg v
  let⟨ba,bE⟩:=cz Z
  refine⟨V,V,_,N y.eR.cL V,w.1,V,_,U y w.1 w.2,?_⟩
  intro D
  have z:J A D:=(J.aH A).aR _
  have ow:gS A D aA 1 (.mk A.size 0 1 1) ([aQ f.ax (aQ a.args 0)].map Ce.i):=gS.new (J.aH A) aA 1 _ 1 aJ
  let⟨K,t3⟩:=y.ext z
  have B3:=F.to t3
  have hz:j A.size=0:=y.eR.new _ (ad _)
  clear_value D
  refine(Cy K.eR (au.gG ow aJ) (λ_=>hz) (λY hw=>?_) (λa8 hc=>?_) aJ V).mono ?_
  .simp at hw;subst hw;exact⟨Z.1,az ba⟩
  .have:=C.ok.heap.cell a8 hc;have Q:=this.lo;have h6:=this.hi;omega
  rintro _ m4 ⟨aY,c4⟩
  let⟨M,I⟩:=K.jJ (c4.mono λah hk=>Or.inl hk) aY
  have B4:=B3.to I
  have aw:aQ a.args 0<bg.length:=V
  have bw:0<=aQ bg (aQ a.args 0)/\aQ bg (aQ a.args 0)<=999999:=by
   refine⟨hM.nn _ (iK (l:=bg) w.1 aw),?_⟩;have H:=pI (l:=bg) w.1 aw;rw[ay]at H;let⟨qq,aZ,a5⟩:=sZ _ _ _ _ H;have:=(C.WW qq (av aZ)).2;rw[<-ay]at a5;omega
  have a_:cQ (aQ bg (aQ a.args 0)+1)=aQ bg (aQ a.args 0)+1:=aS V V
  refine⟨I.gW B3,V,V,_,N M.eR.cL V,V,V,_,N M.eR.cL V,w.1,V,aQ bg (aQ a.args 0),(M.TW (by simp only[];omega)).Gs w.1 aw,w.1,V,M.iP.bg.Sj w.1 aw,?_⟩
  rw[a_,e4]
  intro m5
  let⟨S5,X⟩:=M.zf w.1 aw (aQ bg (aQ a.args 0)+1)
  refine⟨X.gW B4,(jK (a:={c with heap:=kT c.heap [aQ f.ax (aQ a.args 0)]}) S5 V (f.pc+1)).mono ?_⟩
  rintro _ m6 ⟨S6,t6⟩
  exact⟨t6.gW (B4.to X),j,bC,n,k,S6.eR,(((t2.trans t3).trans I).trans X).trans t6⟩
 simp only[ap]at a2
 rw[ae a2]
 have a8:a.args.length=1->a.args=[aQ a.args 0]:=λL=>by
  cases hx:a.args with
  |nil=>rw[hx]at L;simp at L
  |cons aw H=>cases H with
   |nil=>rfl
   |cons a_ H=>rw[hx]at L;simp at L
 refine⟨λv=>?_,λaw=>?_⟩
 .simp only[aO]at v
  rw[ao v]
  have P:=G.2.1 V
  have w:=aa V
  have ht:dG b a=[aQ a.args 0]:=by unfold dG;rw[ao V];exact a8 V
  have H:=a3.1
  rw[ht]at H
  refine⟨n,y.eR.box.cK 7,V,V,_,N y.eR.cL V,w.1,V,_,U y w.1 w.2,?_⟩
  intro D
  have z:J A D:=(J.aH A).aR _
  have ow:gS A D aA 1 (.mk A.size 0 1 1) ([aQ f.ax (aQ a.args 0)].map Ce.i):=gS.new (J.aH A) aA 1 _ 1 aJ
  let⟨K,t3⟩:=y.ext z
  have B3:=F.to t3
  clear_value D
  refine⟨z.dB (y.eR.box.cK 7),(Fj K.eR.heap K.eR.new (au.gG ow aJ) (e:=λT=>fj g T+cV f.ax bg T) (H.congr λT=>rfl) a3.2 V).mono ?_⟩
  rintro _ m4 ⟨aq,aB,rfl,aY,c4⟩
  let⟨M,I⟩:=K.jJ c4 aY
  have B4:=B3.to I
  refine⟨I.gW B3,aB,rfl,M.eR.xz (i:=7) aJ,?_⟩
  intro m5
  let⟨S5,X⟩:=M.oZ 7 [.s aB]
  rw[e4]
  refine⟨X.gW B4,(jK (a:={c with heap:=rh (je c.heap [aQ f.ax (aQ a.args 0)])}) S5 V (f.pc+1)).mono ?_⟩
  rintro _ m6 ⟨S6,t6⟩
  exact⟨t6.gW (B4.to X),aq,bC,aB,k,S6.eR,(((t2.trans t3).trans I).trans X).trans t6⟩
 simp only[ap]at aw
 rw[ae aw]
 refine⟨λv=>?_,λaq=>?_⟩
 .simp only[cD,aO]at v
  rw[ao v]
  refine(Hy y ha C.arg ⟨G.2.2.2.1 v,G.1⟩ v aV an V V (λaD H=>?_) (hM.TS v).1 C.ok.heap).mono ?_
  .refine⟨hM.nn aD H,?_⟩
   let⟨ah,hk⟩:=List.mem_iff_getElem?.1 H
   simp only[]at hk
   rw[ay]at hk
   let⟨qq,aZ,a5⟩:=sZ _ _ _ _ hk
   have:=(C.WW qq (av aZ)).2
   omega
  rintro _ D ⟨al,aj,ai,ag,L3,t3⟩
  exact⟨t3.gW F,al,aj,ai,ag,L3,t2.trans t3⟩
 simp only[bW,ap]at aq
 rw[ae V]
 refine⟨λv=>?_,λX=>?_⟩
 .simp only[aO]at v
  rw[ao v]
  have P:=G.2.1 V
  have w:=aa V
  refine⟨V,V,_,N y.eR.cL V,w.1,V,_,U y w.1 w.2,(sU y V hd.1 (by simp only[];omega) (by simp only[];omega) _).mono ?_⟩
  rintro _ D ⟨K,t3⟩
  rw[e4]
  refine⟨t3.gW F,(jK K V (f.pc+1)).mono ?_⟩
  rintro _ m4 ⟨M,I⟩
  exact⟨I.gW (F.to t3),j,bC,n,k,M.eR,(t2.trans t3).trans I⟩
 simp only[ap]at X
 rw[ae X]
 have ai:=y.rv aU V V (bc y)
 refine⟨λv=>?_,λK=>?_⟩
 .simp only[aO]at v
  rw[ao v]
  have P:=G.2.1 V
  have w:=aa V
  let⟨Z,H⟩:=hM.load v
  have R:=hI.op
  unfold kK at R
  rw[ae V,ae V,ae V,ae V,ae V,ae V,ae V,ao v]at R
  refine⟨V,V,_,N y.eR.cL V,w.1,V,_,U y w.1 w.2,(fC ai Z.1 (cz Z).1).mono ?_⟩
  rintro _ D ⟨fl,rfl,I,z⟩
  have M:=I.len
  refine⟨z.de (λT hb=>(F T hb).1),_,_,_,rfl,z.dB (W.cK 2),z.dB (W.cK 1),R.2.1,V,_,I.Gs R.2.1 H,a1 z _ _ rfl⟩
 simp only[ap]at K
 rw[ae K]
 refine⟨λv=>?_,λM=>?_⟩
 .simp only[aO]at v
  rw[ao v]
  have P:=G.2.1 V
  have w:=aa V
  refine⟨V,V,_,N y.eR.cL V,w.1,V,_,U y w.1 w.2,λQ=>?_,λQ=>?_⟩
  .simp at Q;exact aT (J.aH _) _ _ (by rw[ao Q])
  .simp at Q;rw[e4];exact aT (J.aH _) _ _ (by rw[ae Q])
 simp only[ap]at M
 rw[ae M]
 refine⟨λv=>?_,λag=>?_⟩
 .simp only[aO]at v
  rw[ao v]
  have P:=G.2.1 V
  have w:=aa V
  let⟨Z,aj⟩:=hM.Of v
  let⟨ba,bu,aY,aD⟩:=P1 aj
  have R:=hI.op
  unfold kK at R
  rw[ae V,ae V,ae V,ae V,ae V,ae V,ae V,ae V,ae V,ae V,ao v]at R
  have aZ:wX (cb b.bu a.bM) (bd c.heap (aQ f.ax (aQ a.args 0))).mJ<(cb b.bu a.bM).length:=PL ⟨_,aj,aJ⟩
  have a_:=hj.len
  have a5:=R.2.2.1
  have aB:=(C.ok.heap.cell _ (av (cz Z).1)).pF (cz Z).2
  have bw:=C.ok.eT.pA.types.len
  refine⟨V,V,_,N y.eR.cL V,w.1,V,_,U y w.1 w.2,(fC ai Z.1 (cz Z).1).mono ?_⟩
  rintro _ D ⟨fl,rfl,I,z⟩
  have e7:cQ (a.bM -1)=((a.bM.toNat -1:Nat):Int):=by rw[aS V V];omega
  rw[e7]
  have al:=y.eR.cL.trans z
  refine⟨z.de (λT hb=>(F T hb).1),_,_,_,rfl,d,z.af (y.eR.box.cK 0),(jN (aU.ext al).bu C.ok.eT.pA.types V).mono ?_⟩
  rintro _ m4 ⟨rfl,H⟩
  have e8:cQ ((bd c.heap (aQ f.ax (aQ a.args 0))).mJ -((fc b.bu (a.bM.toNat -1):Nat):Int))=((wX (cb b.bu a.bM) (bd c.heap (aQ f.ax (aQ a.args 0))).mJ:Nat):Int):=by
   rw[aS V V];omega
  refine⟨H.de (λT hb=>z.lt (F T hb).1),_,rfl,H.dB ((W.ext z).cK 5),?_⟩
  rw[e8]
  refine⟨V,V,_,(hj.ext (al.trans H)).Gs V V,aT (z.trans H) _ _ rfl⟩
 simp only[ap]at ag
 rw[ae ag]
 refine⟨λv=>aT (J.aH _) _ _ rfl,λw=>?_⟩
 simp only[ap]at w
 have:=C.opc
 omega
end
end
section
variable{B:Int}
def TZ(l a:List Int)(h:a.length=l.length):iO (l.map Ce.i) 0 (a.map Ce.i)=a.map Ce.i:=by
 have:=AW [] (a.map Ce.i) (l.map Ce.i) bS;simp only[dX,cE]at this;rw[this,th bS,eL]
section
variable{p:E}{b:Nat->Nat}{m:E}{q e:Nat}{i:List Ce}{bC j g:O}{l:List Int}{k:List bU}{c:List be}{f:be}{r a h:O}{d:List (List Ce)}
def ST.US(S:ST p b m q e i bC j g l k c f r a h d){bg:List Int}(t:bg.length=f.bg.length)(w:0<bg.length):fq m a.aC a.off (bg.map Ce.i).length/\ST p b (aj m a.aC a.off (bg.map Ce.i)) q e i bC j g l k c {f with bg:=bg} r a h d/\To b m b (aj m a.aC a.off (bg.map Ce.i)):=by
 have T:=S.iP;have B:a.cap≠0:=λe=>by have:=(T.bg.Et e).1;simp at this;rw[this]at t;simp at t;rw[t]at w;simp at w
 have A:=T.bg.aC B;have s:dN (λu=>u=11+3*c.length) b m b (aj m a.aC a.off (bg.map Ce.i)):=dN.aj S.eR.new A.2 _ _;have x:=T.bg.set (o:=0) (new:=bg.map Ce.i) bS;rw[TZ _ _ t,jo]at x;have v:sj b (aj m a.aC a.off (bg.map Ce.i)) g c {f with bg:=bg} r a h d:=⟨T.sk.fI s V,T.len,T.size,T.xe s λu _ y=>V,T.ax.fI s V,x,T.bB.fI s V⟩;let⟨y,z⟩:=S.eR.lQ (s.mono λu C=>V) v.tn;refine⟨?_,⟨y,v⟩,z⟩;have:=T.bg.wr (o:=0) (n:=(bg.map Ce.i).length) bS;rw[jo]at this;exact this
end
section
variable{h:E}{e:Nat->Nat}{b:E}{g:Nat}{d p bC c a:O}{s:St}
def Ob{k:cr}(N:Cm h e b g bQ (SB d p s bC c a) bC c a s.bC s.heap s.ak)(K:eY h d p k)(y:fG B k s)(aN:∀Q∈s.ak,∀A∈Q.ax,A<=9223372036854775807)(aQ:s.heap.length<=900000000)(aW:s.bC.length<=900000000):
 aP cv 124 [vp g 0] b λ_ m'=>xE h e b g d p (oB k s) m':=by
 apply vC (g,0)
 simp -zeta only[aG,aF]
 refine⟨s.cY,N.box.cK 2,λU=>?_,λU=>?_⟩
 .simp at U
  rw[wT U]
  exact⟨e,bC,c,a,N,dN.aH _ N.new⟩
 have ac:s.cY=3:=by simpa using U
 let⟨n,j,u⟩:=y.split ac
 have aT:s.ak.getLast?=some j:=by rw[u];simp
 have aL:s.ak.dropLast=n:=by rw[u];simp
 have C:CO B k s n j (fJ k j):=⟨y,ac,u,rfl,aN⟩
 have a1:oB k s=(open Classical in if wg (fJ k j).op/\s.bO=s.eH then{s with cY:=1}else if uj k s j (fJ k j) (dL j.ax j.bg (dG k (fJ k j)))then jI k s n j (fJ k j) (dL j.ax j.bg (dG k (fJ k j)))else{s with cY:=2}):=by
  unfold oB;rw[ae (by simpa using ac),aT,aL]
 rw[a1]
 generalize fJ k j=x at*
 have L':Cm h e b g bQ (SB d p s bC c a) bC c a s.bC s.heap (n++[j]):=by rw[<-u];exact N
 let⟨W,M,T,aA,aa⟩:=L'.ak.iP
 have S:ST h e b g bQ (SB d p s bC c a) bC c a s.bC s.heap n j W M T aA:=⟨L',aa⟩
 have a9:=aa.EA
 have ap:=y.depth
 have a8:=y.bO
 have ba:=y.eH
 rw[u]at ap
 have a_:n.length<=1000:=by simp at ap;omega
 have e1:cQ ((a.len:Int) -1)=(n.length:Int):=by rw[aS V V];omega
 have e2:Int.toNat (n.length:Int)=n.length:=V
 have R:af b g 8=some (O.v a):=S.eR.box.cK 8
 let⟨g0,g1,g2,g3,g4,g5⟩:=aa.jD
 refine⟨a,R,a,R,?_⟩
 rw[e1,e2]
 refine⟨V,V,_,g0,_,g1,_,g2,W,g3,M,g4,T,g5,?_⟩
 intro m1
 have v:J b m1:=(J.aH b).aR _
 refine⟨v.dB g0,v.dB g1,v.dB g2,v.dB g3,v.dB g4,v.dB g5,v.dB R,v.dB R,?_⟩
 intro t
 have a2:J b t:=v.aj (ad _) _ _
 have s2:t.size=b.size+1:=by simp[t,m1,aD]
 have kF:cB t b.size eE [.i j.dW,.i j.pc,.i j.dst,.s W,.s M,.s T]:=cB.aj (m:=m1) (o:=0) (r:=[.i j.dW,.i j.pc,.i j.dst,.s W,.s M,.s T]) (cB.push b _ _)
 let⟨P,t2⟩:=S.ext a2
 clear_value t
 let⟨bh,hq,aZ,hP,aK,hI⟩:=C.I
 let⟨pa,pl,pc,bb,bd,ar,k0,k1,k2,k3,k4⟩:=K.cy.aQ hq
 let⟨az,a3,ha,hj,i0,i1,i2,i3,i4,i5⟩:=ar.aQ aK
 have be:=K.cy.len
 have bc:=ar.len
 have hF:=C.F
 have aY:=hF.dW
 have aq:=hF.pc
 rw[aZ]at aq
 have l:=P.eR.cL
 refine⟨p,P.eR.box.cK 1,aY.1,V,pc,l.af k4,aq.1,V,_,l.af i0,_,l.af i1,_,l.af i2,_,l.af i3,az,l.af i4,a3,l.af i5,?_⟩
 intro m3
 have q:J t m3:=(J.aH t).aR _
 refine⟨q.dB (l.af i0),q.dB (l.af i1),q.dB (l.af i2),q.dB (l.af i3),q.dB (l.af i4),q.dB (l.af i5),q.dB (kF.cK 1),q.dB (l.af k4),q.dB (kF.cK 0),q.dB (P.eR.box.cK 1),?_⟩
 intro L
 have ah:J t L:=q.aj (ad _) _ _
 have s4:L.size=t.size+1:=by simp[L,m3,aD]
 let⟨S4,t4⟩:=P.ext ah
 have a4:=kF.ext ah
 have B4:Nm e L [t.size,b.size]:=λag I=>by
  simp at I;rcases I with rfl|rfl
  .exact⟨V,S.eR.new _ V⟩
  .exact⟨V,S.eR.new _ (ad _)⟩
 clear_value L
 have a7:=t2.trans t4
 refine(KX _ _).mono ?_
 rintro _ m5 ⟨ag,rfl,I,ai⟩
 let⟨w,t5⟩:=S4.ext ai
 have X:=B4.to t5
 have D:=a4.ext ai
 have av:=a7.trans t5
 have aR:=C.LV
 have h4:=C.QR
 have ab:(dL j.ax j.bg (dG k x)).length=j.bg.length:=qM _ _ _
 refine⟨t5.gW B4,ag,rfl,λaH=>⟨s.bO,w.eR.box.cK 4,s.eH,w.eR.box.cK 5,λH=>?_,λH=>?_⟩,λaE=>?_⟩
 .simp at H
  refine⟨w.eR.xz (i:=2) aJ,?_⟩
  intro m6
  let⟨G,E⟩:=w.oZ 2 [.i 1]
  refine⟨E.gW X,e,bC,c,a,?_,av.trans E⟩
  rw[ao ⟨I.1 aH,H⟩]
  have:=G.eR
  rw[<-u]at this
  exact this
 all_goals
  have aI:¬(wg x.op/\s.bO=s.eH):=by
   first
   |exactλz=>by simp at H;exact H z.2
   |exactλz=>fb I aE z.1
  rw[ae aI]
  have an:=w.eR.cL
  refine⟨d,w.eR.box.cK 0,p,w.eR.box.cK 1,(Jp (K.ext an) C.call (ha.ext an) V h4.2.2.2.1).mono ?_⟩
  rintro _ m6 ⟨ts,rfl,ot,z⟩
  let⟨G,E⟩:=w.ext z
  have B6:=X.to E
  have bf:=Sa k x
  have it:au m6 ts (dG k x):=au.gG ot V
  refine⟨E.gW X,ts,rfl,z.dB (D.cK 0),z.dB (D.cK 1),z.dB (D.cK 2),z.dB (D.cK 3),z.dB (D.cK 4),z.dB (D.cK 5),?_⟩
  refine(Hz (b:=j) (G.KD V) (G.TW V) it C.Rr aR.1 V V (λA F=>oh (C.WW A F))).mono ?_
  rintro _ m7 ⟨os,rfl,oo,aC⟩
  let⟨A,t7⟩:=G.ext aC
  have B7:=B6.to t7
  have io:au m7 os (dL j.ax j.bg (dG k x)):=au.gG oo V
  have aO:lW m7 a (n++[j]):=A.eR.ak.IK bS (λQ Z=>by
   have F:=y.ak Q (by rw[u];exact Z);obtain⟨pg,_,aj,Y,_⟩:=F.Kk y.eT;have q1:=F.lr;have q2:=F.lo;have q3:=F.lh;rw[aj]at q1 q2 q3;have:=Y.ax;have:=y.eT.fA;omega)
  have al:=A.rv K V V aO
  have a0:({s with ak:=n++[j]}:St)=s:=by rw[<-u]
  rw[a0]at al
  refine⟨t7.gW B6,os,rfl,(K4 al C (A.KD V) (A.Tv V) (ha.ext A.eR.cL) io ab).mono ?_⟩
  rintro _ m8 ⟨b2,rfl,am,aj⟩
  let⟨Q,t8⟩:=A.ext aj
  have Y:=B7.to t8
  have aw:=((av.trans E).trans t7).trans t8
  refine⟨t8.gW B7,b2,rfl,λh9=>?_,λh9=>?_⟩
  .rw[ae (nb am h9)]
   refine⟨Q.eR.xz (i:=2) aJ,?_⟩
   intro m9
   let⟨Z,F⟩:=Q.oZ 2 [.i 2]
   refine⟨F.gW Y,e,bC,c,a,?_,aw.trans F⟩
   have:=Z.eR
   rw[<-u]at this
   exact this
  .have hM:=yb am h9
   rw[ao hM]
   have aV:=io.len
   have aU:M.len=j.bg.length:=by have:=Q.iP.bg.len;simp at this;omega
   let⟨w1,Z,F⟩:=Q.US ab V
   refine⟨(dL j.ax j.bg (dG k x)).map Ce.i,by rw[aV,aU,ab];simp[Nat.min_def];omega,(io.ext aj).sK,w1,?_⟩
   intro m9
   have B9:=Y.to F
   refine⟨F.gW Y,(Jh C rfl hM Z K ha hj aQ aW).mono ?_⟩
   rintro _ bg aM
   let⟨a6,a5,aX,aB,ay,ax⟩:=aM
   exact⟨ax.gW B9,a6,a5,aX,aB,ay,(aw.trans F).trans ax⟩
end
end
section
variable{a:cr}{s:St}{n:Nat}
variable{B:Int}
structure Sm(n:Nat)(s:St):Prop where
 heap:s.heap.length<=n
 bC:s.bC.length<=n
 yN:∀g∈s.ak,∀w∈g.ax,w<=9223372036854775807
def AJ:∀(n:Nat)(h:List bU)(g:List Int),IA h+g.length<=n->(je h g).length=h.length
 |n,h,[],_=>by rw[AK]
 |0,h,w::r,b=>by simp at b
 |n+1,h,w::r,b=>by
  simp only[aY]at b;rcases gX (ib h w)with a|a
  .let⟨e,f⟩:=cz a;by_cases c:(bd h w).aV=1
   .have d:=mh (d:=jS) e;simp only[ao f,jS]at d;simp at d;rw[AL a c,AJ n _ _ (by simp[jS];omega)];simp
   .have d:=mh (d:={bd h w with aV:=(bd h w).aV -1}) e;simp only[ao f]at d;rw[ao V]at d;rw[vU a c,AJ n _ _ (by simp only[gE];omega)];simp[gE]
  .rw[vV a,AJ n _ _ V]
def PA(h:List bU):(rh h).length<=h.length:=by unfold rh;simp;omega
def KA:∀(a:List Int)(g:List bU),(kT g a).length=g.length
 |[],g=>rfl
 |w::a,g=>by rw[kT,KA a];simp[oL]
def MA(h:List bU)(w:Int):(apart h w).length<=h.length:=by
 unfold apart;split
 .exact bJ (PA _) aJ
 .rw[KA];simp[gE]
def MV(h:List bU)(a:Nat)(c:bU):(lX h a c).length<=h.length+1:=by
 unfold lX;split<;>simp
def Qw{k:List be}{f:be}{x:Instr}(C:CO B a s k f x)(D:Sm n s)(hn:n<=900000000)(bg:List Int)(hM:uj a s f x bg):Sm (n+1) (jI a s k f x bg):=by
 have hh:=D.heap;have ho:=D.bC;have v:=D.yN;rw[C.fr]at v;have hF:=C.F;have Z:=C.QR;have hd:=C.dst;have af:=C.LV;have t:∀r,aQ f.ax r<=9223372036854775807:=λr=>by
  rcases aX r.toNat f.ax.length with m|m
  .let⟨y,b⟩:=dJ m;rw[NA b];exact v f aJ y (av b)
  .rw[aQ,jm,bV m];simp
 have xe:∀g∈k,∀w∈g.ax,w<=9223372036854775807:=λg p=>v g (by simp[p]);have c:∀{g:be},(∀w∈g.ax,w<=9223372036854775807)->∀q∈k++[g],∀w∈q.ax,w<=9223372036854775807:=λp q d=>by
  rcases List.mem_append.1 d with d|d
  .exact xe q d
  .simp at d;subst d;exact p
 have e:∀w∈f.ax,w<=9223372036854775807:=v f aJ;have j:∀(I:Int),I<=9223372036854775807->∀w∈iD f.ax x.dst I,w<=9223372036854775807:=λI hv w b=>by
  rcases sE b with rfl|b
  .exact hv
  .exact e w b
 have ab:∀{w},gZ w\/ib s.heap w->w<=9223372036854775807:=λh=>by
  rcases h with h|h
  .have:=h.2;omega
  .have m:=az (cz h).1;unfold ix at m;omega
 have H:∀(g L:Int)(J:List Int),(∀w∈J,w<=9223372036854775807)->∀w∈(cN a g L J).ax,w<=9223372036854775807:=λg L J b w h=>by
  simp only[cN]at h;rcases List.mem_append.1 h with h|h
  .exact b w h
  .rw[pR h];omega
 have Jr:∀{g q:be},(∀w∈g.ax,w<=9223372036854775807)->(∀w∈q.ax,w<=9223372036854775807)->∀K∈k++[g,q],∀w∈K.ax,w<=9223372036854775807:=λp d K o=>by
  rcases List.mem_append.1 o with o|o
  .exact xe K o
  .simp at o;rcases o with rfl|rfl
   .exact p
   .exact d
 have aa:∀w∈dC f x.args,w<=9223372036854775807:=λw b=>by
  obtain⟨r,_,rfl⟩:=List.mem_map.1 b;exact t r
 have ac:=uS s.heap;unfold jI;simp only[];by_cases y:x.op=0
 .rw[ao y];exact⟨by simp only[];omega,by simp only[];omega,c (j _ (oh (Z.2.2.2.2.2.2 y)))⟩
 rw[ae y];by_cases M:x.op=1\/x.op=2\/x.op=3\/x.op=4
 .rw[ao M];exact⟨by simp only[];omega,by simp only[];omega,c (j _ (oh ((Pj x.op (aQ f.ax (aQ x.args 0)) (aQ f.ax (aQ x.args 1))).2)))⟩
 rw[ae M];by_cases X:x.op=5
 .rw[ao X];exact⟨by simp only[];omega,bS,c (j _ (t _))⟩
 rw[ae X];by_cases A:x.op=6
 .rw[ao A];split
  .refine⟨bS,by simp only[];omega,c (j _ ?_)⟩;rename_i u;have F:=Z.2.2.2.2.1 A;obtain⟨G,E,z,_⟩:=C.Qo _ (iK (l:=f.bB) (i:=x.bY -1) V V) u.2;have:=az z;unfold ix at this;omega
  .refine⟨?_,by simp only[];omega,c (j _ V)⟩;have:=MV s.heap (fp s.heap) ⟨1,x.bM,dC f x.args⟩;simp only[];omega
 rw[ae A];by_cases N:x.op=10
 .rw[ao N];refine⟨?_,by simp only[];omega,c (j _ V)⟩;have:=MV s.heap (fp s.heap) ⟨1,gA a+x.bM,dC f x.args⟩;simp only[];omega
 rw[ae N];by_cases O:x.op=14
 .rw[ao O];exact⟨by simp[oL];omega,by simp only[];omega,c e⟩
 rw[ae O];by_cases P:x.op=15
 .rw[ao P];refine⟨?_,by simp only[];omega,c e⟩;have m:=PA (je s.heap [aQ f.ax (aQ x.args 0)]);rw[AJ _ _ _ (ad _)]at m;simp only[];omega
 rw[ae P];by_cases Q:x.op=16\/x.op=17
 .rw[ao Q];split
  .exact⟨bS,by simp only[];omega,c e⟩
  .refine⟨?_,by simp only[];omega,c e⟩;have:=MA s.heap (aQ f.ax (aQ x.args 0));simp only[];omega
 rw[ae Q];by_cases R:x.op=18
 .rw[ao R];exact⟨by simp only[];omega,by simp only[];omega,c (j _ (t _))⟩
 rw[ae R];by_cases u:x.op=19
 .rw[ao u];refine⟨by simp only[];omega,by simp only[];omega,c (j _ ?_)⟩;let⟨F,T⟩:=hM.load u;obtain⟨U,_,_,_,_,S⟩:=C.I;have z:=S.op;unfold kK at z;rw[ae V,ae V,ae V,ae V,ae V,ae V,ae V,ao u]at z;let⟨E,G⟩:=cz F;exact ab (((C.ok.heap.cell _ (av E)).pF G).1 _ (iK z.2.1 T))
 rw[ae u];by_cases S:x.op=20
 .rw[ao S];exact⟨by simp only[];omega,by simp only[];omega,c e⟩
 rw[ae S];by_cases T:x.op=21
 .rw[ao T];exact⟨by simp only[];omega,by simp only[];omega,c e⟩
 rw[ae T];by_cases U:x.op=22
 .rw[ao U];exact⟨by simp only[];omega,by simp only[];omega,c e⟩
 rw[ae U];by_cases Y:x.op=9
 .rw[ao Y];exact⟨by simp only[];omega,by simp only[];omega,Jr e (H _ _ _ aa)⟩
 rw[ae Y];by_cases W:x.op=24
 .rw[ao W];exact⟨by simp only[];omega,by simp only[];omega,c (H _ _ _ aa)⟩
 rw[ae W];by_cases z:x.op=11
 .rw[ao z];refine⟨?_,by simp only[];omega,Jr e (H _ _ _ λw b=>?_)⟩
  .have:=MA s.heap (aQ f.ax (aQ x.args 0));simp only[];omega
  .rcases List.mem_append.1 b with b|b
   .obtain⟨F,_⟩:=hM.apply z;let⟨E,G⟩:=cz F;exact ab (((C.ok.heap.cell _ (av E)).pF G).1 _ b)
   .simp at b;subst b;exact t _
 rw[ae z];split
 .exact⟨by simp only[];omega,by simp only[];omega,aJ⟩
 .rename_i pf E;refine⟨by simp only[];omega,by simp only[];omega,λq d=>?_⟩;have F:pf∈k:=List.mem_of_getLast? E;rcases List.mem_append.1 d with d|d
  .exact xe q ((List.dropLast_sublist k).subset d)
  .simp at d;subst d;intro w b;rcases sE b with rfl|b
   .exact t _
   .exact xe pf F w b
def Vk(h:fG B a s)(c:Sm n s)(l:n<=900000000):Sm (n+1) (oB a s):=by
 have b:Sm (n+1) s:=⟨by have:=c.heap;omega,oh c.bC,c.yN⟩;by_cases d:s.cY=3
 .let⟨g,f,e⟩:=h.split d;have k:s.ak.getLast?=some f:=by rw[e];simp
  have j:s.ak.dropLast=g:=by rw[e];simp
  have C:CO B a s g f (fJ a f):=⟨h,d,e,rfl,c.yN⟩;unfold oB;rw[ae (by simpa using d),k,j];simp only[];split
  .exact⟨b.heap,b.bC,b.yN⟩
  split
  .rename_i i;exact Qw C c l _ i
  .exact⟨b.heap,b.bC,b.yN⟩
 .rw[wT d];exact b
def Lj{a:cr}:∀(k:Nat){s:St}{n:Nat},fG B a s->Sm n s->n+k<=900000000->Sm (n+k) (aE a k s)
 |0,s,n,_,b,_=>b
 |k+1,s,n,h,b,c=>by
  have:=Lj k (Rp h) (Vk h b V) V;rw[aE];have e:n+(k+1)=n+1+k:=V;rw[e];exact this
def Px(a:cr)(eH:Int):Sm 0 (lp a eH):=⟨by simp[lp],by simp[lp],λg b w c=>by
 simp[lp]at b;subst b;simp only[cN,dX]at c;rw[pR c];omega⟩
end
section
variable{a:cr}
variable{B:Int}
section
variable{c:E}{e:Nat->Nat}{m:E}{b:Nat}{d p bC g f:O}{s:St}
def Pv(L:Cm c e m b bQ (SB d p s bC g f) bC g f s.bC s.heap s.ak)(G:eY c d p a)(w:fG B a s){y:Nat}(F:Sm y s)(h:Nat)(M:h<=100000)(N:y<=500000000):
 aP cv 77 [vp b 0,vi h] m λJ u=>(∃i:Int,J=vi i)/\xE c e m b d p (aE a h s) u:=by
 apply wI (b,0)
 refine⟨λo u=>∃k:Nat,o=k/\k<=h/\xE c e m b d p (aE a k s) u,λo _=>((h:Int) -o).toNat,⟨0,rfl,dy _,e,bC,g,f,L,dN.aH _ L.new⟩,?_⟩
 rintro o O ⟨k,rfl,K,A,z,x,v,l,t1⟩
 have H:=Li k w
 have t:=Lj k w F V
 refine dit (λD=>?_) λD=>?_
 .refine⟨_,l.box.cK 2,λr=>?_,λr=>?_⟩
  .refine(Ob l G H t.yN (oh t.heap) (oh t.bC)).mono ?_
   rintro _ j i
   have q:cQ ((k:Int)+1)=((k+1:Nat):Int):=kd (n:=h) V V
   rw[q]
   refine⟨⟨k+1,rfl,V,by rw[Lk];exact i.from t1⟩,?_⟩
   show((h:Int) -((k+1:Nat):Int)).toNat<((h:Int) -(k:Int)).toNat
   omega
  .simp at r
   have q:aE a h s=aE a k s:=by
    have E:h=k+(h -k):=V;have C:∀(i j:Nat)(s:St),aE a (i+j) s=aE a j (aE a i s):=by
     intro i;induction i with
     |zero=>intro j s;simp[aE]
     |succ i I=>intro j s;rw[Nat.succ_add];simp only[aE];exact I j _
    rw[E,C,CE _ r]
   rw[q]
   exact⟨⟨_,rfl⟩,A,z,x,v,l,t1⟩
 .have:k=h:=V
  subst this
  exact⟨⟨_,rfl⟩,A,z,x,v,l,t1⟩
end
def DO{m:E}{u D:O}(K:eY m u D a)(l:qQ B a)(eH:Int):
 aP cv 76 [.agg #[O.v u,O.v D],vi eH] m λT f=>∃bC n v,T=.agg #[vi 3,vi 0,vi 0,vi eH,O.v bC,O.v n,O.v v]/\J m f/\∃b1 b2 b3 b4 k,bC.cap=0/\bC.len=0/\n.cap=0/\n.len=0/\v=.mk b4 0 1 1/\
  tq m f b1 b2 b3 k (cN a 0 0 []).ax (cN a 0 0 []).bg (cN a 0 0 []).bB/\(b4≠b1/\b4≠b2/\b4≠b3/\m.size<=b4/\b4<f.size)/\cB f b4 eE [.i 0,.i 0,.i 0,.s (.mk b1 0 k k),.s (.mk b2 0 k k),.s (.mk b3 0 k k)]:=by
 apply yl
 simp -zeta only[aG,aF]
 intro g z A r s e
 have w:J m e:=((((((J.aH m).aR _).aR _).aR _).aR _).aR _).aR _
 have M:g.size=m.size+1:=by simp[g]
 have P:z.size=m.size+2:=by simp[z,M]
 have Q:A.size=m.size+3:=by simp[A,P]
 have R:r.size=m.size+4:=by simp[r,Q]
 have S:s.size=m.size+5:=by simp[s,R]
 have s6:e.size=m.size+6:=by simp[e,S]
 clear_value e
 have U:=l.pA.len
 let⟨q,o⟩:=cq a.cy 0
 have Y:=(l.df q (av o)).ax
 have W:=l.fA
 have p:dm a 0=q:=by simp[dm,o]
 have C:∀b,au e (.mk b 0 0 0) []:=λb=>⟨rfl,aJ,aJ,aJ⟩
 refine(xl (K.ext w) (dh 0) o V 0 (C r.size) (C s.size) bS rfl).mono ?_
 rintro _ c ⟨b1,b2,b3,rfl,N⟩
 have j:=N.ext
 have X:=N.lo
 refine⟨j.de bS,_,_,_,_,_,_,rfl,?_⟩
 intro d t
 have x:J c d:=(J.aH c).aR _
 have s8:d.size=c.size+1:=by simp[d]
 have s9:t.size=d.size:=aD _ _ _ _
 have Z:=j.size
 have L:cB d c.size eE [.i 0,.i 0,.i 0,.s (.mk b1 0 q.ax.toNat q.ax.toNat),.s (.mk b2 0 q.ax.toNat q.ax.toNat),.s (.mk b3 0 q.ax.toNat q.ax.toNat)]:=cB.push c _ _
 have i:=N.WJ x
 have y:J m t:=(w.trans (j.trans x)).aj (show m.size<=g.size by omega) _ _
 have h:∀b,b≠g.size->t[b]? =d[b]? :=λb I=>bh _ _ _ _ I
 have H:(cN a 0 0 []).ax=[]++gB (q.ax.toNat -([]:List Int).length):=by simp[cN,p]
 have G:(cN a 0 0 []).bg=[]++gB (q.ax.toNat -([]:List Int).length):=by simp[cN,p,iA]
 have F:(cN a 0 0 []).bB=gB q.ax.toNat:=by simp[cN,p]
 refine⟨_,_,_,rfl,y,b1,b2,b3,c.size,q.ax.toNat,rfl,rfl,rfl,rfl,rfl,?_,V,L.congr (h _ V)⟩
 rw[H,G,F]
 exact⟨y,V,i.kr.congr (h _ V),i.ko.congr (h _ V),i.kh.congr (h _ V),N.len⟩
def T9{m j g:E}{u:Nat}{NW:List Ce}{bC i l:O}{eH:Int}{b1 b2 b3 b4 k e:Nat}(c:bC.cap=0/\bC.len=0/\i.cap=0/\i.len=0/\l=.mk b4 0 1 1)
 (N:tq m j b1 b2 b3 k (cN a 0 0 []).ax (cN a 0 0 []).bg (cN a 0 0 []).bB)(C:b4≠b1/\b4≠b2/\b4≠b3/\m.size<=b4/\b4<j.size)(B:cB j b4 eE [.i 0,.i 0,.i 0,.s (.mk b1 0 k k),.s (.mk b2 0 k k),.s (.mk b3 0 k k)])
 (d:J j g)(F:j.size<=e)(kb:cB g e u (NW++[.i 3,.i 0,.i 0,.i eH,.s bC,.s i,.s l])):
 Cm m (vM (vM (qW (λ_=>0) b1 b2 b3 0) b4 4) e 1) g e u (NW++[.i 3,.i 0,.i 0,.i eH,.s bC,.s i,.s l]) bC i l [] [] [cN a 0 0 []]:=by
 have D:=N.lo
 have A:J m g:=N.ext.trans d
 have G:=kb.lt
 have H:=N.ext.size
 have t:∀b,b≠e->b≠b4->(vM (vM (qW (λ_=>0) b1 b2 b3 0) b4 4) e 1) b=qW (λ_=>0) b1 b2 b3 0 b:=λb p q=>by rw[fH p,fH q]
 let⟨y,a2,a3⟩:=(N.WJ d).sk (a:=λ_=>0) (g:=0)
 have conv:∀{v:Nat}{s:O}{w:List Ce},iG (qW (λ_=>0) b1 b2 b3 0) g aA 1 v s w->s.aC≠e->s.aC≠b4->iG (vM (vM (qW (λ_=>0) b1 b2 b3 0) b4 4) e 1) g aA 1 v s w:=λx p q=>x.fU (λ_=>rfl) (λ_=>t _ p q)
 refine⟨A,λb z=>?_,λb z=>?_,kb,ji _ _ _,⟨by simp[c.2.1],by rw[c.1,c.2.1];exact ad _,Or.inl c.1⟩,⟨[],⟨by simp[c.2.2.2.1],by rw[c.2.2.1,c.2.2.2.1];exact ad _,Or.inl c.2.2.1⟩,gU.nil _ _,Xj.nil⟩,?_⟩
 .rw[t b V V];unfold qW;rw[fH V,fH V,fH V]
 .rw[t b (oh d.size) (oh d.size)];unfold qW;rw[fH (oh d.size),fH (oh d.size),fH (oh d.size)]
 .refine sj.tn (a:=[]) (f:=cN a 0 0 []) (r:=.mk b1 0 k k) (e:=.mk b2 0 k k) (h:=.mk b3 0 k k) (j:=[]) ⟨?_,rfl,aJ,aJ,conv y (by simp only[O.fO];omega) (by simp only[O.fO];omega),conv a2 (by simp only[O.fO];omega) (by simp only[O.fO];omega),conv a3 (by simp only[O.fO];omega) (by simp only[O.fO];omega)⟩
  rw[c.2.2.2.2]
  refine⟨rfl,ad _,Or.inr ⟨b4,1,[],rfl,?_,?_,rfl⟩⟩
  .rw[fH V,ji]
  .rw[eL];exact B.ext d
end
structure Exe where
 cY:Int
 value:Int
 bO:Int
 bC:List Int
 ok:Bool
section
variable{m:E}{s:O}{l:List Int}
def rB(c:au m s l)(n:l.length<=1000000000):nE 33 [O.v s] m l:=by
 apply sM;have b:=c.len;refine⟨λh=>?_,λh=>?_⟩
 .cases s with
  |nil=>simp at b;have:l=[]:=List.length_eq_zero_iff.1 b.symm;subst this;exact⟨.nil,rfl,gS.nil _ _ _ _,J.aH _⟩
  |mk a o e d=>simp at h
  |CS a o d=>simp at h
 .intro d;have a:J m d:=(J.aH m).aR _;have f:gS m d aA 1 (.mk m.size 0 0 0) []:=gS.new (J.aH m) aA 1 [] 0 aJ;refine gS.append (zs:=[.i 0]) (d:=l.map Ce.i) f a (by simp[b]) (c.ext a).sK bS λr o a e g i j k=>⟨r,rfl,by simpa using a,e⟩
def Bf(g:au m s l)(b:Int):aP cv 63 [O.v s,vi b] m λv h=>∃r:Int,v=vi r/\J m h/\((r= -1/\b∉l)\/(b∈l/\r=wX l b)):=by
 apply sN;have j:=g.len;refine eu (n:=l.length) (j▸g.fA) (λk h=>J m h/\b∉l.take k) ⟨J.aH _,aJ⟩ ?_;rintro k u I μ t ⟨f,e⟩ p
 refine dit (λi=>?_) λi=>?_
 .let⟨x,d⟩:=cq l k;refine⟨V,V,x,by simpa using f.af (g.aQ d),λc=>?_,λc=>p V _ ⟨f,?_⟩⟩
  .simp at c;subst c;refine⟨_,rfl,f,Or.inr ⟨av d,?_⟩⟩;have:wX l b=k:=by
    unfold wX;rw[List.findIdx_eq (az d)];refine⟨by have:=(List.getElem?_eq_some_iff.1 d).2;simp[this],λo q=>?_⟩;simp;intro a;apply e;rw[<-a];exact List.mem_take_iff_getElem.2 ⟨o,V,rfl⟩
   rw[this]
  .rw[bF d];simp at c;intro a;rcases List.mem_append.1 a with a|a
   .exact e a
   .simp at a;exact c a
 .rw[cG V]at e;exact⟨_,rfl,f,Or.inl ⟨rfl,e⟩⟩
def wm(c:au m s l)(n:Int):dA cv 29 [O.v s,vi n] m (n∈l):=by
 apply qG;refine(Bf c n).mono ?_;rintro _ f ⟨r,rfl,d,h⟩;refine⟨_,rfl,fV ?_ d⟩;simp only[uI,aq];rcases h with⟨rfl,h⟩|⟨b,e⟩
 .exact⟨λa=>V,λa=>absurd a h⟩
 .exact⟨λ_=>b,λ_=>V⟩
def mo{a:O}{h:List bU}(i:cX m a h){w:Int}(u:w<=9223372036854775807):
 aP cv 34 [O.v a,vi w] m λv p=>∃(j:Int)(e:Bool),v=.tuple #[vi j,vb e]/\(e=true<->ib h w)/\(e=true->j=ix w)/\J m p:=by
 apply EI
 have k:=i.len
 have t:=i.fA
 refine⟨λc=>?_,λc=>?_⟩
 .simp at c
  have l:cQ (w -1000)=w -1000:=aS V V
  have o:(ix w:Int)=w -1000:=by unfold ix;omega
  rw[l]
  refine⟨λg=>?_,λg=>?_⟩
  .simp at g
   let⟨f,b⟩:=cq h ((w -1000).toNat)
   obtain⟨r,s,n,_⟩:=i.aQ b
   refine⟨V,V,f.aV,n,_,_,rfl,?_,λ_=>o.symm,J.aH _⟩
   simp only[iX,aq]
   refine⟨λa=>⟨c,f,b,a⟩,λ⟨_,q,d,a⟩=>?_⟩
   unfold ix at d
   rw[b]at d;simp at d;subst d;exact a
  .simp at g
   refine⟨_,_,rfl,⟨sx,λ⟨_,f,b,_⟩=>?_⟩,sx,J.aH _⟩
   have:=az b
   omega
 .simp at c
  exact⟨_,_,rfl,⟨sx,λk=>oh k.1⟩,sx,J.aH _⟩
end
section
variable{B:Int}
structure FP(m:E)(fb fo:Nat)(f:be)(r o h:O):Prop where
 g3:af m fb (fo+3)=some (O.v r)
 g4:af m fb (fo+4)=some (O.v o)
 g5:af m fb (fo+5)=some (O.v h)
 ax:au m r f.ax
 bg:au m o f.bg
 bB:au m h f.bB
def FP.ext{m c:E}{fb b:Nat}{f:be}{r o h:O}(F:FP m fb b f r o h)(a:J m c):FP c fb b f r o h:=⟨a.af F.g3,a.af F.g4,a.af F.g5,F.ax.ext a,F.bg.ext a,F.bB.ext a⟩
end
section
variable{B:Int}
end

section
section
variable{l:E}{p q:Nat->Nat}{m k:E}{n e:Nat}{a:List Ce}{bC g c:O}{j:List Int}{i:List bU}{d:List be}{f:be}{r o h:O}{b:List (List Ce)}
end
section
variable{i:E}{k:Nat->Nat}{m:E}{j:Nat}{d p bC g b:O}{c:Int}{s:St}{e:List be}{f:be}{r o h:O}{a:List (List Ce)}
end
end
section
section
variable{i:E}{k:Nat->Nat}{m:E}{j:Nat}{d p bC g b:O}{c:Int}{s:St}{e:List be}{f:be}{r o h:O}{a:List (List Ce)}
end
end
section
variable{a:E}{b1 b2 b3 n i:Nat}
section
variable{l:E}{b:Nat->Nat}{m:E}{q:Nat}{d p bC k g:O}{c:Int}{s:St}{j:List be}{f:be}{r o h:O}{e:List (List Ce)}
def oF.none{b:Nat->Nat}{m:E}:oF b m .nil []:=⟨[],iG.gG (gS.nil m m _ _) (λa=>absurd rfl a),rfl,aJ,aJ⟩
end
def tq.G8{c:E}{ax bg bB:List Int}(N:tq c a b1 b2 b3 n ax bg bB)(d:i<n)(v:Int):fq a b1 i 1/\tq c (aj a b1 i [.i v]) b1 b2 b3 n (ax.set i v) bg bB:=by
 have b:=N.lo;refine⟨N.kr.fq (by simp[N.len.1];omega),N.ext.aj b.1 _ _,by rw[aD];exact b,?_,N.ko.congr (bh _ _ _ _ V),N.kh.congr (bh _ _ _ _ V),by simp[N.len]⟩;have:=cB.aj (m:=a) (o:=i) (r:=[.i v]) N.kr;rw[ze]at this;exact this
def tq.zf{c:E}{ax bg bB:List Int}(N:tq c a b1 b2 b3 n ax bg bB)(d:i<n)(v:Int):fq a b2 i 1/\tq c (aj a b2 i [.i v]) b1 b2 b3 n ax (bg.set i v) bB:=by
 have b:=N.lo;refine⟨N.ko.fq (by simp[N.len.2.1];omega),N.ext.aj b.2.1 _ _,by rw[aD];exact b,N.kr.congr (bh _ _ _ _ V),?_,N.kh.congr (bh _ _ _ _ V),by simp[N.len]⟩;have:=cB.aj (m:=a) (o:=i) (r:=[.i v]) N.ko;rw[ze]at this;exact this
section
variable{k:E}{q:Nat->Nat}{m:E}{l:Nat}{d p bC j e:O}{c:Int}{s:St}{g:List be}{f:be}{r o h:O}{b:List (List Ce)}
end
end
section
variable{B:Int}
section
variable{g:E}{j:Nat->Nat}{m:E}{i:Nat}{d p bC e b:O}{s:St}{c:List be}{f:be}{r o h:O}{a:List (List Ce)}
end
end
section
variable{B:Int}
section
variable{c:E}{f:Nat->Nat}{m:E}{e:Nat}{d p bC b a:O}{s:St}
end
end
end Go.Proofs.YtdalfjkmdekijaaGreat
section
namespace Go.Vc
def uU{m:E}{b o:Nat}{v:Value}(h:(af m b o).isSome=true):af (qE m b o v) b o=some v:=by
 unfold af at h⊢;simp only[qE,kW,Ly];cases d:m[b]? with
 |none=>rw[d]at h;simp at h
 |some f=>
  rw[d]at h;cases f with
  |cells c g i=>
   simp only[]at h;have e:o<c.size:=by
    rcases aX o c.size with a|a
    .exact a
    .rw[HT a]at h;simp at h
   simp[e]
  |_=>simp at h
def J9{m:E}{c o a b:Nat}{v:Value}(h:a≠c\/b≠o):af (qE m c o v) a b=af m a b:=by
 by_cases d:a=c
 .subst d;have e:b≠o:=by rcases h with h|h;exact absurd rfl h;exact h
  unfold af;simp only[qE,kW,Ly];cases d:m[a]? with
  |none=>rfl
  |some f=>
   cases f with
   |cells g i j=>simp[kE e]
   |_=>rfl
 .exact aM (KI _ _ _ _ d) _
def Qd(m:E)(c o:Nat)(v:Value)(a d:Nat):uT (qE m c o v) a d=uT m a d:=by
 by_cases b:a=c
 .subst b;unfold uT;simp only[qE,kW,Ly];cases b:m[a]? with
  |none=>rfl
  |some e=>
   cases e with
   |cells f g h=>rfl
   |_=>rfl
 .unfold uT;rw[KI _ _ _ _ b]
structure Ut(m:E)(k:Int)(pos:List (Nat×Nat))(m':E):Prop where
 size:m.size<=m'.size
 aC:∀b,b<m.size->(∀p∈pos,p.1≠b)->m'[b]? =m[b]?
 cell:∀b o,b<m.size->(b,o)∉pos->af m' b o=af m b o
 uT:∀b o,b<m.size->Vc.uT m' b o=Vc.uT m b o
 int:∀p∈pos,∃n,af m' p.1 p.2=some (vi n)
 val:pos.Nodup->∀(j:Nat)(p:Nat×Nat),pos[j]? =some p->af m' p.1 p.2=some (vi (k+j))
def Ut.nil{m c:E}(h:J m c)(k:Int):Ut m k [] c:=
 ⟨h.size,λb a _=>h.same b a,λb o a _=>aM (h.same b a) o,λb o a=>by unfold Vc.uT;rw[h.same b a],aJ,aJ⟩
def Ut.lj{m:E}{b o:Nat}(h:(af m b o).isSome=true)(k:Int):Ut m k [(b,o)] (aj m b o [.i k]):=by
 refine⟨pB (aD _ _ _ _).symm,λc f d=>bh _ _ _ _ λe=>d (b,o) aJ e.symm,λc q f d=>?_,λc q f=>Qd _ _ _ _ _ _,λp a=>?_,λ_ j p a=>?_⟩
 .refine J9 ?_;by_cases e:c=b
  .right;intro g;subst e;subst g;simp at d
  .exact Or.inl e
 .simp at a;subst a;exact⟨k,uU h⟩
 .cases j with
  |zero=>
   simp at a;subst a;have e:k+((0:Nat):Int)=k:=V;rw[e];exact uU h
  |succ j=>simp at a
def Ut.trans{m l n:E}{k:Int}{e p2:List (Nat×Nat)}(h:Ut m k e l)(g:Ut l (k+e.length) p2 n):Ut m k (e++p2) n:=by
 have v:=h.size;refine⟨bJ h.size g.size,λc f b=>?_,λc o f b=>?_,λc o f=>?_,λp a=>?_,λhd j p a=>?_⟩
 .rw[g.aC c V λp a=>b p (dw _ a),h.aC c f λp a=>b p (bz _ a)]
 .rw[g.cell c o V λa=>b (dw _ a),h.cell c o f λa=>b (bz _ a)]
 .rw[g.uT c o V,h.uT c o f]
 .by_cases i:p∈p2
  .exact g.int p i
  .have d:p∈e:=by rcases List.mem_append.1 a with d|d;exact d;exact absurd d i
   let⟨q,b⟩:=h.int p d;exact⟨q,by rw[g.cell p.1 p.2 (lH b) i];exact b⟩
 .let⟨i,r,s⟩:=List.nodup_append.1 hd;by_cases u:j<e.length
  .rw[ay u]at a;have d:p∈e:=iV a;let⟨q,b⟩:=h.int p d;rw[g.cell p.1 p.2 (lH b) λt=>s p d p t rfl];exact h.val i j p a
  .rw[aI V]at a;have:=g.val r _ p a;have d:k+(e.length:Int)+((j -e.length:Nat):Int)=k+j:=V;rw[d]at this;exact this
inductive Uu where
 |nil
 |int (r:Uu)
 |sl (e r:Uu)
def Uu.size:Uu->Nat
 | .nil=>0
 | .int r=>r.size+1
 | .sl _ r=>r.size+1
inductive Sx where
 |jD (r:Uu)
 |sK (e:Uu) (n:Nat)
inductive uQ(m:E):Sx->Nat->Nat->List (Nat×Nat)->Prop where
 |nil (b o:Nat):uQ m (.jD .nil) b o []
 |int {b o:Nat} {r:Uu} {p:List (Nat×Nat)} {n:Int} (h:af m b o=some (vi n)) (hf:Vc.uT m b o=false) (hr:uQ m (.jD r) b (o+1) p):uQ m (.jD (.int r)) b o ((b,o)::p)
 |sl {b o:Nat} {e r:Uu} {p1 p2:List (Nat×Nat)} {s:O} (h:af m b o=some (O.v s)) (hl:s.len<=9223372036854775807) (he:uQ m (.sK e s.len) s.aC s.off p1) (hr:uQ m (.jD r) b (o+1) p2):uQ m (.jD (.sl e r)) b o (p1++p2)
 |zero (e:Uu) (b o:Nat):uQ m (.sK e 0) b o []
 |succ {b o n:Nat} {e:Uu} {p1 p2:List (Nat×Nat)} (he:uQ m (.jD e) b o p1) (hr:uQ m (.sK e n) b (o+e.size) p2):uQ m (.sK e (n+1)) b o (p1++p2)
def uQ.pw{m:E}{K:Sx}{f o:Nat}{e:List (Nat×Nat)}(h:uQ m K f o e):∀p∈e,∃n,af m p.1 p.2=some (vi n):=by
 induction h with
 |nil=>simp
 |int h c d b=>
  intro p a;rcases List.mem_cons.1 a with rfl|a
  .exact⟨_,h⟩
  .exact b p a
 |sl h i g d b c=>
  intro p a;rcases List.mem_append.1 a with a|a
  .exact b p a
  .exact c p a
 |zero=>simp
 |succ g d b c=>
  intro p a;rcases List.mem_append.1 a with a|a
  .exact b p a
  .exact c p a
def uQ.lt{m:E}{K:Sx}{b o:Nat}{a:List (Nat×Nat)}(h:uQ m K b o a):∀p∈a,p.1<m.size:=λp d=>let⟨_,c⟩:=h.pw p d;lH c
def Uj(n:Int)(s:O):vi n≠O.v s:=by cases s<;>simp[vi,O.v]
def uQ.Z6{m j:E}{u:Int}{q:List (Nat×Nat)}(g:Ut m u q j)(t:∀p∈q,∃n,af m p.1 p.2=some (vi n)){K:Sx}{b o:Nat}{k:List (Nat×Nat)}(h:uQ m K b o k):uQ j K b o k:=by
 induction h with
 |nil=>exact .nil _ _
 | @int b o v p n h d i e=>
  have a:=lH h;by_cases c:(b,o)∈q
  .let⟨l,f⟩:=g.int _ c;exact .int f (by rw[g.uT b o a];exact d) e
  .exact .int (by rw[g.cell b o a c];exact h) (by rw[g.uT b o a];exact d) e
 | @sl b o w v x p2 l h r p i d e=>
  have a:=lH h;refine .sl (s:=l) ?_ r d e;rw[g.cell b o a λc=>?_]
  .exact h
  .let⟨n,f⟩:=t _ c;rw[h]at f;exact Uj n l (lG f).symm
 |zero=>exact .zero _ _ _
 |succ p i d e=>exact .succ d e
def uQ.ext{m a:E}(d:J m a){K:Sx}{b o:Nat}{c:List (Nat×Nat)}(h:uQ m K b o c):uQ a K b o c:=h.Z6 (Ut.nil d 0) aJ
end Go.Vc
namespace Go.Proofs.YtdalfjkmdekijaaGreat
open Go.Vc
end Go.Proofs.YtdalfjkmdekijaaGreat
end
namespace Go.Proofs.YtdalfjkmdekijaaGreat
open Go.Vc
section
section
variable{m:E}{s t:O}{l r:List Int}
def tT(f:au m s l)(i:au m t r):dA cv 7 [O.v s,O.v t] m (l=r):=by
 apply yV;have o:=f.len;have v:=i.len;refine⟨λh=>cw (λe=>?_) (J.aH _),λh=>?_⟩
 .subst e;simp at h;omega
 .have u:l.length=r.length:=by simp at h;omega
  refine eu (n:=l.length) (o▸f.fA) (λk a=>J m a/\l.take k=r.take k) ⟨J.aH _,aJ⟩ ?_;rintro k w I μ q ⟨b,d⟩ p
  refine dit (λj=>?_) λj=>?_
  .let⟨y,g⟩:=cq l k;let⟨z,c⟩:=cq r k;refine⟨V,V,y,by simpa using b.af (f.aQ g),V,V,z,by simpa using b.af (i.aQ c),λa=>cw (λe=>?_) b,λa=>p V _ ⟨b,?_⟩⟩
   .subst e;rw[g]at c;simp at c a;exact a c
   .simp at a;rw[bF g,bF c,d,a]
  .rw[cG V,cG V]at d;exact jt d b
end
section
variable{m:E}{b P:Nat}{a:O}{S:List Nat}
def HU.ext{a:E}{bt:O}(h:HU m bt)(x:J m a):HU a bt:=⟨h.1,λk d=>let⟨v,b,c,g⟩:=h.2 k d;⟨v,b,c,x.af g⟩⟩
end
end
section
variable{n b:Nat}{f:Nat->Int}{B:Int}{d:cr}{s:St}
def rX(n:Nat)(f:Nat->Int):List Int:=(List.range n).map f
def nB(n:Nat)(f:Nat->Int):(rX n f).length=n:=by simp[rX]
def uh(h:b<n):(rX n f)[b]? =some (f b):=by
 unfold rX;rw[bT,xC h];rfl
def eZ{g:Nat->Int}(h:∀b,b<n->f b=g b):rX n f=rX n g:=by
 unfold rX;exact Zq λb a=>h b (List.mem_range.1 a)
def Rq(v:Int):(rX n f).set b v=rX n (λa=>if a=b then v else f a):=by
 apply eM;intro i;by_cases a:i<n
 .rw[uh a];by_cases e:b=i
  .subst e;rw[dQ (by rw[nB];exact a),ao rfl]
  .rw[dT e,uh a,ae (λh=>e h.symm)]
 .rw[bV (by rw[iF,nB];omega),bV (by rw[nB];omega)]
def R1(n:Nat):rX n (λ_=>0)=gB n:=by
 unfold rX gB;rw[List.map_const'];simp
structure Gi(h:List bU):Prop where
 jc:ns h
 cells:∀c∈h,nD h c
 dS:∀(b:Nat)(c:bU),h[b]? =some c->0<c.aV->dS h b<=c.aV
 LD:Sn h
structure Gm(h:List bU)(f:be):Prop where
 df:∀(k:Nat)(w o:Int),f.ax[k]? =some w->f.bg[k]? =some o->(gZ w\/1000<=w)/\(0<=o/\o<=999999)/\(0<o->ib h w)
structure JG(d:cr)(h:List bU)(prev:Option be)(f:be):Prop where
 dW:0<=f.dW/\f.dW<d.cy.length
 pc:0<=f.pc/\f.pc<(dm d f.dW).bt.length
 lr:(f.ax.length:Int)=(dm d f.dW).ax
 lo:(f.bg.length:Int)=(dm d f.dW).ax
 lh:(f.bB.length:Int)=(dm d f.dW).ax
 ax:Gm h f
 first:prev=none->f.dst=0
 next:∀p,prev=some p->0<=f.dst/\f.dst<p.bg.length/\aQ p.bg f.dst=0
def mP(a:List be):Nat->Option be
 |0=>none
 |k+1=>a[k]?
structure Nq(h:List bU)(fs:List be):Prop where
 dC:∀f∈fs,∀w∈f.bB,w=0\/(1000<=w/\ix w<h.length)
 kH:∀(i:Nat)(c:bU),h[i]? =some c->c.aV<0->holds fs i=1
 mD:∀(i:Nat)(c:bU),h[i]? =some c->0<=c.aV->holds fs i=0
structure Ww(B:Int)(d:cr)(s:St):Prop where
 eT:qQ B d
 cY:0<=s.cY/\s.cY<=3
 done:s.cY=0<->s.ak=[]
 value:gZ s.value
 tf:s.value≠0->s.cY=0
 eH:0<=s.eH/\s.eH<=40
 bO:0<=s.bO/\s.bO<=s.eH
 depth:(s.ak.length:Int)<=s.bO+1
 bC:∀n∈s.bC,gZ n
 heap:Gi s.heap
 ak:∀(k:Nat)(f:be),s.ak[k]? =some f->JG d s.heap (mP s.ak k) f
 bB:Nq s.heap s.ak
 P9:∀(b:Nat)(c:bU),s.heap[b]? =some c->0<c.aV->c.aV=dS s.heap b+fj s.ak b
abbrev QP:=Ww 2000
def Pg:∀{c:List be}{b:Nat},0<fj c b->∃f∈c,0<cV f.ax f.bg b
 |[],b,h=>by simp[fj]at h
 |f::c,b,h=>by
  simp only[fj]at h;by_cases d:0<cV f.ax f.bg b
  .exact⟨f,aJ,d⟩
  .let⟨g,e,i⟩:=Pg (c:=c) (b:=b) V;exact⟨g,by simp[e],i⟩
def MR:∀{ax bg:List Int}{b:Nat},0<cV ax bg b->∃(k:Nat)(o:Int),ax[k]? =some (1000+(b:Int))/\bg[k]? =some o/\0<o
 |[],bg,b,h=>by simp[cV]at h
 |_::_,[],b,h=>by simp[cV]at h
 |r::i,o::g,b,h=>by
  simp only[cV]at h;by_cases a:r=1000+(b:Int)/\0<o
  .exact⟨0,o,by simp[a.1],rfl,a.2⟩
  .have:0<cV i g b:=by
    split at h
    .rename_i e;have:¬0<o:=λc=>a ⟨e,c⟩;omega
    .omega
   let⟨k,f,c,d,e⟩:=MR this;exact⟨k+1,f,by simpa using c,by simpa using d,e⟩
def Ve{a:List be}{f:be}(c:f∈a)(d:∀g∈a,0<=cV g.ax g.bg b):cV f.ax f.bg b<=fj a b:=by
 induction a with
 |nil=>simp at c
 |cons g a i=>
  have m:0<=fj a b:=by
   clear i c;induction a with
   |nil=>simp[fj]
   |cons q a j=>
    have k:=d q aJ;have l:=j (λx e=>d x (by simp at e⊢;rcases e with h|h;exact Or.inl h;exact Or.inr (Or.inr h)));simp only[fj];omega
  simp only[fj];rcases List.mem_cons.1 c with rfl|c
  .omega
  .have:=i c λx e=>d x (by simp[e]);have:=d g aJ;omega
def TX{a:List be}(c:∀g∈a,0<=cV g.ax g.bg b):0<=fj a b:=by
 induction a with
 |nil=>simp[fj]
 |cons q a e=>
  have f:=c q aJ;have g:=e λx d=>c x (by simp[d]);simp only[fj];omega
def O9{a:List be}{f:be}(c:f∈a):eK f.bB b<=holds a b:=by
 induction a with
 |nil=>simp at c
 |cons g a d=>
  simp only[holds];rcases List.mem_cons.1 c with rfl|c
  .have:=uV a b;omega
  .have:=d c;have:=iz g.bB b;omega
def Kh{a:List be}(h:∀f∈a,∀w∈f.bB,w≠1000+(b:Int)):holds a b=0:=by
 induction a with
 |nil=>rfl
 |cons g a e=>
  simp only[holds];rw[e λf c=>h f (by simp[c]),ng λd=>h g aJ _ d rfl];rfl
def vd{a:List be}{f:be}(h:f∈a):∃k:Nat,a[k]? =some f:=List.mem_iff_getElem?.1 h
def Lh(h:Ww B d s):fG B d s:=by
 have r:∀f∈s.ak,∃p,JG d s.heap p f:=λf c=>let⟨k,g⟩:=vd c;⟨_,h.ak k f g⟩;have z:∀b,∀j∈s.ak,0<=cV j.ax j.bg b:=λb j t=>by
  let⟨p,a⟩:=r j t;refine sG (λo l=>?_) b;let⟨k,g⟩:=List.mem_iff_getElem?.1 l;have u:=az g;have e:=a.lr;have q:=a.lo;let⟨w,i⟩:=cq j.ax k;exact(a.ax.df k w o i g).2.1.1
 refine⟨h.eT,h.cY,h.done,h.value,h.tf,h.eH,h.bO,h.depth,h.bC,⟨h.heap.cells,h.heap.LD,h.P9,λb=>TX (z b),λb y=>?_⟩,h.heap.jc,λf c=>?_,λf c=>(h.ak 0 f c).first rfl,λk f j c t=>(h.ak (k+1) j t).next f c,λb⟨m,n,v⟩=>h.bB.kH b m n v,λb g=>?_⟩
 .let⟨f,c,a⟩:=Pg y;let⟨k,o,e,q,x⟩:=MR a;let⟨p,a⟩:=r f c;have:=((a.ax.df k _ o e q).2.2 x).2;rwa[kP]at this
 .let⟨p,a⟩:=r f c;refine⟨a.dW,a.pc,a.lr,a.lo,a.lh,λw i=>?_,λk o w l i=>?_,λw i=>?_⟩
  .let⟨k,g⟩:=List.mem_iff_getElem?.1 i;have u:=az g;have e:=a.lr;have q:=a.lo;let⟨o,l⟩:=cq f.bg k;exact(a.ax.df k w o g l).1
  .have:=a.ax.df k w o i l;exact⟨this.2.1.1,λx=>(this.2.2 x).1⟩
  .rcases h.bB.dC f c w i with e|e
   .exact Or.inl e
   .exact Or.inr e.1
 .rcases aX b s.heap.length with u|A
  .let⟨m,n⟩:=dJ u;refine h.bB.mD b m n (Int.not_lt.1 λv=>g ⟨m,n,v⟩)
  .refine Kh λf c w i x=>?_;rcases h.bB.dC f c w i with e|e
   .omega
   .have:=e.2;rw[x,kP]at this;omega
def JU(h:fG B d s):Ww B d s:=by
 have G:∀b,∀p∈s.ak,0<=cV p.ax p.bg b:=λb p E=>sG (h.ak p E).Pf b;have y:∀f∈s.ak,∀(k:Nat)(w o:Int),f.ax[k]? =some w->f.bg[k]? =some o->0<o->ib s.heap w/\o<=999999:=λf g k w o i n q=>by
  have m:=((h.ak f g).bg k o w n i).2 q;have A:=iN m;have C:=Kw (h.ak f g).Pf i n (c:=ix w) A.symm;have D:=Ve g (G (ix w));have x:=h.heap.lv (ix w) V;let⟨j,e,c⟩:=x;have J:=h.heap.ex _ j e c;have K:=qu s.heap (ix w);have L:=(h.heap.cell j (av e)).hi;exact⟨⟨m,j,e,c⟩,V⟩
 refine⟨h.eT,h.cY,h.done,h.value,h.tf,h.eH,h.bO,h.depth,h.bC,⟨h.jc,h.heap.cell,λb j e c=>?_,h.heap.LD⟩,λk f g=>?_,⟨λf g w i=>?_,λu j e z=>h.kH u ⟨j,e,z⟩,λu j e z=>h.mD u λ⟨I,r,M⟩=>?_⟩,h.heap.ex⟩
 .have:=h.heap.ex b j e c;have:=h.heap.nn b;omega
 .have t:=av g;have F:=h.ak f t;refine⟨F.dW,F.pc,F.lr,F.lo,F.lh,⟨λv w o i n=>⟨F.RW w (av i),⟨(F.bg v o w n i).1,?_⟩,λc=>(y f t v w o i n c).1⟩⟩,λc=>?_,λH c=>?_⟩
  .rcases tg 0 o with q|q
   .exact(y f t v w o i n q).2
   .omega
  .cases k with
   |zero=>exact h.first f g
   |succ k=>
    simp only[mP]at c;have:=az g;rw[List.getElem?_eq_none_iff]at c;omega
  .cases k with
   |zero=>simp[mP]at c
   |succ k=>exact h.chain k H f c g
 .rcases(h.ak f g).bB w i with m|m
  .exact Or.inl m
  .refine Or.inr ⟨m,Nat.lt_of_not_le λt=>?_⟩;have C:=h.mD (ix w) λ⟨j,e,_⟩=>by have:=az e;omega
   have D:=O9 g (b:=ix w);have x:=tV (l:=f.bB) (f:=ix w) (by rw[iN m];exact i);omega
 .rw[e]at r;simp at r;subst r;omega
end
section
variable{M d:E}{b e a:Nat}{f:Nat->Int}{h:List bU}{w:Int}{c:bU}
def uN(w:Int):Prop:=-9223372036854775808<=w/\w<=9223372036854775807
def No(h:List bU):Prop:=∀c∈h,∀w∈c.aN,uN w
def sY(B:cB M b aA ((rX e f).map Ce.i))(h:a<e):af M b a=some (vi (f a)):=by
 rw[B.cK a,bT,uh h];rfl
def HP(B:cB M b aA ((rX e f).map Ce.i))(a:Nat)(v:Int):cB (aj M b a [.i v]) b aA ((rX e (λx=>if x=a then v else f x)).map Ce.i):=by
 have:=B.aj (m:=M) (o:=a) (r:=[.i v]);rw[ze,Rq]at this;exact this
def Nd(B:cB M b aA ((rX e f).map Ce.i))(h:a<e):fq M b a 1:=B.fq (by simp[nB];omega)
def Oh(B:cB M b aA ((rX e f).map Ce.i))(h:e<=9223372036854775807):au M (.mk b 0 e e) (rX e f):=
 ⟨by simp[nB],ad _,h,λk x a=>⟨[.i x],rfl,λi c d=>by
  have g:k<e:=by have:=az a;rwa[nB]at this
  rw[uh g]at a;simp at a;cases i with
  |zero=>simp at d;subst d;have:=sY B g;rw[a]at this;simpa[Ce.v]using this
  |succ i=>simp at d⟩⟩
def Ll(M:E)(e:Nat):cB (M.push (.cells (bE (mf [.i (0:Int)] e)) aA)) M.size aA ((rX e (λ_=>0)).map Ce.i):=by
 rw[Lr,R1];exact cB.push M _ _
def qR(f:Nat)(b:List Value)(d:E)(l:List Int):Prop:=aP cv f b d λv a=>∃s,v=O.v s/\au a s l/\J d a
def KY{f:O}(i:cX d f h)(k:uN w):dA cv 137 [O.v f,vi w] d (pQ h w):=by
 apply Fv;refine(ba _ _ _ _).then λb m e c=>⟨b,rfl,λa=>jt (Or.inl (e.1 a)) c,λa=>?_⟩;refine(gQ (cX.ext c i) k).then λb2 n g l=>⟨b2,rfl,fV ?_ (c.trans l)⟩;rw[g];exact⟨λh=>Or.inr h,λh=>h.resolve_left λj=>fb e a j⟩
def FO{C f:O}(F:cX d C h)(x:au d f c.aN)(G:∀w∈c.aN,uN w):dA cv 88 [O.v C,.agg #[vi c.aV,vi c.mJ,O.v f]] d (nD h c):=by
 apply An;simp -zeta only[aG,aF];intro o;have e:J d o:=(J.aH d).aR _;have P:o.size=d.size+1:=by simp[o]
 clear_value o;have B:=x.len;refine⟨λt=>cw (λa=>by have:=a.fl;simp at t;omega) e,λt=>?_⟩;have y:c.aN.length<=3:=by simp at t;omega
 have q:∀b∈[d.size],b<o.size:=bS;refine(ba _ _ _ _).aK (J.aH _) q λb N A i _=>⟨b,rfl,λu=>cw (λa=>nb A u ⟨a.lo,a.hi⟩) (e.trans i),λu=>?_⟩;have m:=yb A u;refine⟨λv=>?_,λv=>?_⟩
 .have k:c.aV<1:=by simpa using v
  refine⟨λl=>?_,λl=>cw (λa=>by simp at l;exact l (a.vT k).1) (e.trans i)⟩;have s:c.mJ=0:=by simpa using l
  refine(lJ (x.ext (e.trans i))).aK i q λb3 H z j _=>⟨b3,rfl,λg=>?_,λg=>cw (λa=>fb z g (a.vT k).2.1) ((e.trans i).trans j)⟩;have D:=z.1 g;refine⟨λr=>jt ⟨y,m.1,m.2,λ_=>⟨s,D,λp=>by simp at r;omega⟩,λp=>V⟩ ((e.trans i).trans j),λr=>fV ?_ ((e.trans i).trans j)⟩;have E:c.aV=0:=by simp at r;omega
  constructor
  .intro p;have:c.aN=[]:=by simp at p;exact List.length_eq_zero_iff.1 V
   exact⟨y,m.1,m.2,λ_=>⟨s,D,λ_=>this⟩,λp=>V⟩
  .intro a;have:=(a.vT k).2.2 E;rw[this]at B;simp[B]
 .have k:0<c.aV:=by simp at v;omega
  refine eu (n:=c.aN.length) V (λz p=>J o p/\∀w∈c.aN.take z,pQ h w) ⟨i,aJ⟩ ?_;rintro z H L μ M ⟨j,D⟩ I
  refine dit (λl=>?_) λl=>?_
  .let⟨w,r⟩:=cq c.aN z;refine⟨V,V,w,by simpa using(x.ext (e.trans j)).aQ r,(KY (cX.ext (e.trans j) F) (G w (av r))).aK j q λb4 E p K s=>⟨b4,rfl,λg=>cw (λa=>nb p g ((a.pF k).1 w (av r))) (e.trans s),λg=>I V E ⟨s,bN r D (yb p g)⟩⟩⟩
  .refine(ba _ _ _ _).aK j q λb4 E p K s=>⟨b4,rfl,fV ?_ (e.trans s)⟩;rw[p];exact⟨λr=>⟨y,m.1,m.2,λg=>V,λ_=>⟨cU V D,r⟩⟩,λa=>(a.pF k).2⟩
def MZ{i:Nat}(b:h[i]? =some c)(a:Nat):dS (h.take (i+1)) a=dS (h.take i) a+eK c.aN a:=by
 rw[bF b,tX];simp[dS]
def qC{l:List Int}{k:Nat}(b:l[k]? =some w)(a:Nat):eK (l.take (k+1)) a=eK (l.take k) a+(if w=1000+(a:Int)then 1 else 0):=by
 rw[bF b,nO];simp[eK]
def AQ:∀(h:List bU)(a:Nat),(∀c∈h,c.aN.length<=3)->dS h a<=3*h.length
 |[],a,_=>by simp[dS]
 |c::h,a,b=>by
  have e:=AQ h a λd hd=>b d (by simp[hd]);have f:=kv c.aN a;have g:=b c aJ;simp only[dS,aY];omega
def HZ(b:∀c∈h,nD h c)(d:c∈h)(e:w∈c.aN):ib h w\/w<1000:=by
 by_cases f:0<c.aV
 .rcases((b c d).pF f).1 w e with a|a
  .have:=a.2;exact Or.inr V
  .exact Or.inl a
 .have:=((b c d).vT V).2.1 w e;exact Or.inr V
def Af{B:O}(z:cX d B h)(u:∀c∈h,nD h c)(R:No h)(af:h.length<=1000000000):qR 89 [O.v B] d (rX h.length (dS h)):=by
 apply FC;have hl:=z.len;have en:Int.toNat (B.len:Int)=h.length:=V;rw[en];refine⟨V,V,V,V,?_⟩;intro C;have Y:J d C:=(J.aH d).aR _;have K:cB C d.size aA ((rX h.length (λ_=>0)).map Ce.i):=Ll d _;clear_value C;have Q:∀i,∀c∈h.take i,c.aN.length<=3:=λi c S=>(u c (dq S)).fl;refine eu (n:=h.length) V (λi e=>J d e/\cB e d.size aA ((rX h.length (λa=>dS (h.take i) a)).map Ce.i)) ⟨Y,by simpa[dS]using K⟩ ?_;rintro i m2 Z μ hi ⟨I,p⟩ X
 refine dit (λN=>?_) λN=>?_
 .let⟨c,v⟩:=cq h i;have x:=av v;have ab:=(u c x).fl;refine eu (n:=c.aN.length) V (λk e=>J d e/\cB e d.size aA ((rX h.length (λa=>dS (h.take i) a+eK (c.aN.take k) a)).map Ce.i)) ⟨I,by simpa[eK]using p⟩ ?_;rintro k U aa ν hk ⟨m,o⟩ H;obtain⟨f,y,_,_,s⟩:=(cX.ext m z).aQ v;have ac:=y.len;refine⟨V,V,f,by simpa using s,dit (λP=>?_) λP=>?_⟩
  .let⟨w,l⟩:=cq c.aN k;have G:=av l;have F:=R c x w G;refine⟨V,V,f,by simpa using s,V,V,w,by simpa using y.aQ l,(gQ (cX.ext m z) F).then λb W j e=>⟨b,rfl,λt=>?_,λt=>?_⟩⟩
   .have A:=j.1 t;have E:=az (cz A).1;have L:cQ (w -1000)=(ix w:Nat):=by have:=A.1;have:=F.2;unfold ix;rw[aS V V];omega
    have M:Int.toNat ((ix w:Nat):Int)=ix w:=V;have q:=o.ext e;have q1:=AQ (h.take i) (ix w) (Q i);have q2:=kv (c.aN.take k) (ix w);have q3:=qu (h.take i) (ix w);have q4:=iz (c.aN.take k) (ix w);have q5:(h.take i).length<=h.length:=bS;have q6:(c.aN.take k).length<=3:=bS;refine⟨V,V,f,by simpa using e.af s,V,V,w,by simpa using(y.ext e).aQ l,?_⟩;rw[L,M];simp only[O.dU,O.fO,O.jg,bG,cT];refine⟨V,V,_,sY q E,V,V,Nd q E,?_⟩;rw[show cQ (dS (h.take i) (ix w)+eK (c.aN.take k) (ix w)+1)=dS (h.take i) (ix w)+eK (c.aN.take k) (ix w)+1 from aS V V];refine H V _ ⟨(m.trans e).aj (ad _) _ _,?_⟩;have D:=HP q (ix w) (dS (h.take i) (ix w)+eK (c.aN.take k) (ix w)+1);rw[eZ (g:=λa=>dS (h.take i) a+eK (c.aN.take (k+1)) a)]at D
    .exact D
    .intro b j;rw[qC l];by_cases r:b=ix w
     .subst r;rw[ao rfl,ao (iN A.1).symm];omega
     .rw[ae r,ae (λT=>r (by rw[T,kP]))];omega
   .refine H V W ⟨m.trans e,?_⟩;have q:w<1000:=(HZ u x G).resolve_left (fb j t);rw[eZ (g:=λa=>dS (h.take i) a+eK (c.aN.take k) a)]
    .exact o.ext e
    .intro b j;rw[qC l,ae V];omega
  .refine X V U ⟨m,?_⟩
   have e:c.aN.take k=c.aN:=cG V;rw[e]at o;rw[eZ (g:=λa=>dS (h.take i) a+eK c.aN a)]
   .exact o
   .intro b j;exact MZ v b
 .rw[cG V]at p;exact⟨_,rfl,Oh p V,I⟩
end
section
variable{a b c:Nat}{h:List bU}{M g:E}{e:Nat->Bool}
def lT(mk:Nat->Bool):Nat->Nat
 |0=>0
 |c+1=>lT mk c+(if mk c=true then 1 else 0)
def Er(mk:Nat->Bool):∀c,lT mk c<=c
 |0=>ad _
 |c+1=>by have:=Er mk c;simp only[lT];split<;>omega
def JW{mk:Nat->Bool}:∀{c:Nat},(lT mk c=c<->∀i,i<c->mk i=true)
 |0=>by simp[lT]
 |c+1=>by
  have g:=Er mk c;have a:=JW (mk:=mk) (c:=c);simp only[lT];constructor
  .intro h i f;have b:mk c=true:=by by_cases e:mk c=true;exact e;rw[ae e]at h;omega
   rw[ao b]at h;rcases aX i c with d|d
   .exact a.1 V i d
   .have:i=c:=V;rw[this];exact b
  .intro h;rw[ao (h c V),a.2 λi f=>h i V]
def JX{mk a:Nat->Bool}:∀{c:Nat},(∀i,i<c->mk i=a i)->lT mk c=lT a c
 |0,_=>rfl
 |c+1,h=>by simp only[lT];rw[JX λi b=>h i V,h c V]
def j7(mk:Nat->Bool)(a:Nat):Nat->Bool:=λx=>if x=a then true else mk x
def sa(mk:Nat->Bool)(a:Nat):j7 mk a a=true:=ao rfl
def lz{mk:Nat->Bool}(h:b≠a):j7 mk a b=mk b:=ae h
def vj{mk:Nat->Bool}(h:mk b=true):j7 mk a b=true:=by unfold j7;split;rfl;exact h
def yJ{mk:Nat->Bool}{a:Nat}(h:mk a=false):∀{c:Nat},a<c->lT (j7 mk a) c=lT mk c+1
 |0,d=>absurd d (fW _)
 |c+1,d=>by
  simp only[lT];rcases aX a c with b|b
  .rw[yJ h b,lz V];omega
  .have e:a=c:=V;subst e;rw[sa,ao rfl,h,ae aJ,JX (a:=mk) λi f=>lz V]
def Mu(h:List bU)(mk:Nat->Bool):Prop:=
 ∃t:Nat->Nat,(∀j,mk j=true->t j<=lT mk h.length)/\∀(i:Nat)(c:bU),h[i]? =some c->mk i=true->∀w∈c.aN,1000<=w->mk (ix w)=true/\t (ix w)<t i
def OA(mk:Nat->Bool)(a:List Int):Prop:=∀w∈a,1000<=w->mk (ix w)=true
def Mu.set{mk:Nat->Bool}(u:Mu h mk){j:bU}(l:h[a]? =some j)(e:mk a=false)(s:OA mk j.aN):Mu h (j7 mk a):=by
 let⟨z,k,r⟩:=u;have t:=az l;have q:=yJ e t;refine⟨λx=>if x=a then lT mk h.length+1 else z x,λv n=>?_,λi d hd m w p o=>?_⟩
 .simp only[q];split
  .omega
  .rename_i b;rw[lz b]at n;have:=k v n;omega
 .by_cases f:i=a
  .subst f;rw[l]at hd;simp at hd;subst hd;have b:=s w p o;have g:ix w≠i:=λc=>by rw[c,e]at b;cases b
   simp only[ao,ae g];exact⟨vj b,oh (k _ b)⟩
  .rw[lz f]at m;let⟨b,y⟩:=r i d hd m w p o;have g:ix w≠a:=λc=>by rw[c,e]at b;cases b
   simp only[ae f,ae g];exact⟨vj b,y⟩
def RL{mk:Nat->Bool}(n:Mu h mk)(m:∀a∈h,∀w∈a.aN,1000<=w->ix w<h.length)(k:∀(i:Nat)(a:bU),h[i]? =some a->mk i=true\/¬OA mk a.aN):
 lT mk h.length=h.length<->Sn h:=by
 rw[JW]
 constructor
 .intro g
  obtain⟨t,_,f⟩:=n
  exact⟨t,λi a b w e d=>(f i a b (g i (az b)) w e d).2⟩
 .rintro⟨j,o⟩
  have q:∀(c i:Nat),j i<c->i<h.length->mk i=true:=by
   intro c;induction c with
   |zero=>intro i g;omega
   |succ c p=>
    intro i g l;let⟨a,b⟩:=dJ l;rcases k i a b with f|f
    .exact f
    .refine absurd (λw e d=>?_) f;exact p (ix w) (oh (o i a b w e d)) (m a (av b) w e d)
  exactλi g=>q (j i+1) i V g
def km(c:Nat)(e:Nat->Bool):List Ce:=(List.range c).map λa=>Ce.t (e a)
def mX(c:Nat)(e:Nat->Bool):(km c e).length=c:=by simp[km]
def tO(B:cB M b fL (km c e))(h:a<c):af M b a=some (vb (e a)):=by
 rw[B.cK a];unfold km;rw[bT,xC h];rfl
def NC(B:cB M b fL (km c e))(a:Nat):cB (aj M b a [.t true]) b fL (km c (j7 e a)):=by
 have j:=B.aj (m:=M) (o:=a) (r:=[.t true]);have d:iO (km c e) a [.t true]=km c (j7 e a):=by
  apply eM;intro i;simp only[iO];by_cases k:i<c
  .have f:∀g:Nat->Bool,(km c g)[i]? =some (.t (g i)):=λg=>by unfold km;rw[bT,xC k];rfl
   rw[f];by_cases d:a=i
   .subst d;rw[dQ (by rw[mX];exact k),sa]
   .rw[dT d,f,lz (λh=>d h.symm)]
  .rw[bV (by rw[iF,mX];omega),bV (by rw[mX];omega)]
 rw[d]at j;exact j
def Jv(M:E)(c:Nat):cB (M.push (.cells (bE (mf [.t false] c)) fL)) M.size fL (km c (λ_=>false)):=by
 have e:mf [.t false] c=km c (λ_=>false):=by
  unfold mf km;rw[List.map_const'];simp
 rw[e];exact cB.push M _ _
def Fa{mk:Nat->Bool}{e:O}{d:List Int}(B:cB g b fL (km c mk))(k:au g e d)(p:∀w∈d,uN w)(E:∀w∈d,1000<=w->ix w<c):
 dA cv 138 [O.v (.mk b 0 c c),O.v e] g (OA mk d):=by
 apply zi
 have H:=k.len
 have K:=k.fA
 refine eu (n:=d.length) V (λr a=>J g a/\OA mk (d.take r)) ⟨J.aH _,λw p=>by simp at p⟩ ?_
 rintro r L I μ G ⟨f,l⟩ x
 refine dit (λA=>?_) λA=>?_
 .let⟨w,h⟩:=cq d r
  have q:=av h
  have C:=p w q
  refine⟨V,V,w,by simpa using(k.ext f).aQ h,(dK _ _).then λF u t i=>⟨F,rfl,λo=>?_,λo=>?_⟩⟩
  .have s:=t.1 o
   have D:=E w q s
   have y:cQ (w -1000)=(ix w:Nat):=by have:=C.2;unfold ix;rw[aS V V];omega
   have z:Int.toNat ((ix w:Nat):Int)=ix w:=V
   refine⟨V,V,w,by simpa using(k.ext (f.trans i)).aQ h,?_⟩
   rw[y,z]
   simp only[O.dU,O.fO,O.jg,bG,cT]
   refine⟨V,V,mk (ix w),tO (B.ext (f.trans i)) D,λj=>cw (λa=>by rw[a w q s]at j;cases j) (f.trans i),λj=>x V u ⟨f.trans i,?_⟩⟩
   rw[OA,bF h]
   intro v a m
   rcases List.mem_append.1 a with a|a
   .exact l v a m
   .simp at a;subst a;simpa using j
  .refine x V u ⟨f.trans i,?_⟩
   rw[OA,bF h]
   intro v a m
   rcases List.mem_append.1 a with a|a
   .exact l v a m
   .simp at a;subst a;exact absurd m (fb t o)
 .rw[cG V]at l
  exact jt l f
def Fq{y:O}(L:cX g y h)(hc:∀d∈h,nD h d)(aa:No h)(ae:h.length<=1000000000):dA cv 90 [O.v y] g (Sn h):=by
 apply zO;have hl:=L.len;have en:Int.toNat (y.len:Int)=h.length:=V;rw[en];have N:∀d∈h,∀G∈d.aN,1000<=G->ix G<h.length:=λd hm G hw y=>by
  rcases HZ hc hm hw with o|o
  .exact az (cz o).1
  .omega
 refine⟨V,V,V,V,?_⟩;intro F;have x1:J g F:=(J.aH g).aR _;have W:cB F g.size fL (km h.length (λ_=>false)):=Jv g _;clear_value F;have X:lT (λ_=>false) h.length=0:=by
  generalize h.length=c;induction c with
  |zero=>rfl
  |succ c a=>simp[lT,a]
 refine Rv (γ:=(Nat->Bool)×Bool) (λf R fX u=>fX=f.2/\R=(lT f.1 h.length:Nat)/\J g u/\cB u g.size fL (km h.length f.1)/\Mu h f.1/\(fX=false->∀(i:Nat)(d:bU),h[i]? =some d->f.1 i=true\/¬OA f.1 d.aN))
  (λf=>if f.2=true then h.length -lT f.1 h.length+1 else 0) (λ_=>false,true) ⟨rfl,by rw[X];rfl,x1,W,⟨λ_=>0,aJ,aJ⟩,aJ⟩ ?_
 rintro⟨mk,fX⟩ R af m2 ab μ ⟨rfl,rfl,U,H,B,I⟩ T
 simp only at H B I T⊢
 refine⟨λo=>?_,λo=>?_⟩
 .refine⟨λS z i u=>∃(k:Nat)(a:Nat->Bool),i=k/\k<=h.length/\S=(lT a h.length:Nat)/\J g u/\cB u g.size fL (km h.length a)/\Mu h a/\lT mk h.length<=lT a h.length/\(z=true->lT mk h.length<lT a h.length)/\
   (z=false->∀(i:Nat)(d:bU),i<k->h[i]? =some d->a i=true\/¬OA a d.aN),λ_ _ i _=>((h.length:Int) -i).toNat,⟨0,mk,rfl,dy _,rfl,U,H,B,ad _,aJ,λ_ i d j=>absurd j (fW _)⟩,?_⟩
  rintro S z i m3 ⟨k,a,rfl,hk,rfl,v,n,w,Q,E,E3⟩;have ac:=Er a h.length;have oB:∀{P:Prop},k<h.length->(cQ ((k:Int)+1)=((k+1:Nat):Int)->((h.length:Int) -((k+1:Nat):Int)).toNat<((h.length:Int) -(k:Int)).toNat->P)->P:=λM hP=>hP (kd M V) (Cv M);refine dit (λh2=>?_) λh2=>?_
  .have p:k<h.length:=V;let⟨d,s⟩:=dJ p;have Y:Int.toNat (k:Int)=k:=V;simp only[O.dU,O.fO,O.jg,bG,cT,Y];refine⟨V,V,a k,tO n p,λC=>?_,λC=>?_⟩
   .have x:a k=false:=by simpa using C
    obtain⟨e,hf,_,_,Z⟩:=(cX.ext v L).aQ s;refine⟨V,V,e,Z,(Fa n hf (aa d (av s)) (N d (av s))).then λb m4 K A=>⟨b,rfl,λD=>?_,λD=>?_⟩⟩
    .have j:=n.ext A;have m:=yJ x p;refine⟨V,V,j.fq (by rw[mX];omega),?_⟩;refine oB p λr t=>?_;rw[r,show cQ ((lT a h.length:Nat)+1:Int)=((lT (j7 a k) h.length:Nat):Int)by rw[m,aS V V];omega];exact⟨⟨k+1,j7 a k,rfl,V,rfl,(v.trans A).aj (ad _) _ _,NC j k,w.set s x (K.1 D),V,λ_=>V,λl=>by cases l⟩,t⟩
    .refine oB p λr t=>?_;rw[r];refine⟨⟨k+1,a,rfl,V,rfl,v.trans A,n.ext A,w,Q,E,λl j q hj hd=>?_⟩,t⟩;rcases aX j k with m|m
     .exact E3 l j q m hd
     .have:j=k:=V;subst this;rw[s]at hd;simp at hd;subst hd;exact Or.inr (fb K D)
   .have x:a k=true:=by simpa using C
    refine oB p λr t=>?_;rw[r];refine⟨⟨k+1,a,rfl,V,rfl,v,n,w,Q,E,λl j q hj hd=>?_⟩,t⟩;rcases aX j k with m|m
    .exact E3 l j q m hd
    .have:j=k:=V;subst this;exact Or.inl x
  .refine T (a,z) _ _ m3 ⟨rfl,rfl,v,n,w,λl j q hd=>E3 l j q (oh (az hd)) hd⟩ ?_
   simp only[o,Ly];split
   .rename_i m;have:=E m;omega
   .omega
 .refine fV ?_ U;rw[<-RL B N (I o)];simp;omega
def FR{r:O}(m:cX g r h)(C:No h)(K:h.length<=1000000000):dA cv 46 [O.v r] g (Gi h):=by
 apply Ap;have Z:=m.len;refine⟨λs=>s=g/\ns h,⟨λq=>?_,λq=>⟨rfl,λc d=>?_⟩⟩,?_⟩
 .simp at q;rw[aS V V];let⟨c,d⟩:=cq h (h.length -1);obtain⟨e,B,g1,_,_⟩:=m.aQ d;have i:Int.toNat ((r.len:Int) -1)=h.length -1:=V;rw[i];refine⟨V,V,c.aV,g1,λj=>cw (λl=>l.jc c d (by simpa using j)) (J.aH _),λj=>⟨rfl,λo hd=>?_⟩⟩;rw[d]at hd;simp at hd;subst hd;simpa using j
 .have:=az d;simp at q;omega
 rintro S ⟨rfl,R⟩;refine eu (n:=h.length) V (λi s=>J S s/\∀c∈h.take i,nD h c) ⟨J.aH _,aJ⟩ ?_;rintro i m2 W μ l ⟨p,G⟩ T
 refine dit (λq=>?_) λq=>?_
 .let⟨c,d⟩:=cq h i;let⟨e,B,g1,g2,E⟩:=(cX.ext p m).aQ d;refine⟨V,V,c.aV,by simpa using g1,c.mJ,by simpa using g2,e,by simpa using E,(FO (cX.ext p m) B (C c (av d))).then λb D u w=>⟨b,rfl,λj=>cw (λl=>nb u j (l.cells c (av d))) (p.trans w),λj=>T V D ⟨p.trans w,bN d G (yb u j)⟩⟩⟩
 have A:=cU V G;refine(Af (cX.ext p m) A C K).mono ?_;rintro _ D ⟨U,rfl,I,w⟩;have Q:=I.len;rw[nB]at Q;refine⟨U,rfl,eu (n:=h.length) V (λi s=>J D s/\∀(a:Nat)(c:bU),a<i->h[a]? =some c->0<c.aV->dS h a<=c.aV) ⟨J.aH _,λa c t=>absurd t (fW _)⟩ ?_⟩;rintro i L X ν Y ⟨x,H⟩ M;have v:=(p.trans w).trans x;refine dit (λj=>?_) λj=>?_
 .let⟨c,d⟩:=cq h i;let⟨e,B,g1,g2,E⟩:=(cX.ext v m).aQ d;have fX:(0<c.aV->dS h i<=c.aV)->∀(a:Nat)(o:bU),a<i+1->h[a]? =some o->0<o.aV->dS h a<=o.aV:=λP a o t hd=>by
   rcases aX a i with F|F
   .exact H a o F hd
   .have:a=i:=V;subst this;rw[d]at hd;simp at hd;subst hd;exact P
  refine⟨V,V,c.aV,by simpa using g1,λy=>?_,λy=>M V L ⟨x,fX λz=>by simp at y;omega⟩⟩;have N:=(I.ext x).aQ (k:=i) (uh (f:=dS h) (show i<h.length by omega));refine⟨V,V,c.aV,by simpa using g1,V,V,dS h i,by simpa using N,λz=>cw (λl=>?_) v,λz=>M V L ⟨x,fX λ_=>by simp at z;omega⟩⟩;have:=l.dS i c d (by simpa using y);simp at z;omega
 .refine(Fq (cX.ext v m) A C K).then λb y u o=>⟨b,rfl,fV ?_ (v.trans o)⟩;rw[u];exact⟨λt=>⟨R,A,λa c d r=>H a c (oh (az d)) d r,t⟩,λl=>l.LD⟩
end
section
variable{m:E}{f:be}
structure fQ(m:E)(bC hp fr:O)(s:St):Prop where
 bC:au m bC s.bC
 heap:cX m hp s.heap
 ak:lW m fr s.ak
def fQ.ext{m d:E}{bC c b:O}{s:St}(h:fQ m bC c b s)(a:J m d):fQ d bC c b s:=⟨h.bC.ext a,cX.ext a h.heap,lW.ext a h.ak⟩
def Ry(f:be):Prop:=(∀w∈f.ax,uN w)/\(∀w∈f.bg,uN w)/\(∀w∈f.bB,uN w)
structure vO(s:St):Prop where
 bO:uN s.bO
 heap:No s.heap
 ak:∀f∈s.ak,Ry f
 lh:s.heap.length<=10000000
 lf:s.ak.length<=10000000
 lr:∀f∈s.ak,f.ax.length<=10000000/\f.bg.length<=10000000/\f.bB.length<=10000000
def Ox(s:St)(bC b a:O):Value:=.agg #[vi s.cY,vi s.value,vi s.bO,vi s.eH,O.v bC,O.v b,O.v a]
def Di{f:O}{l:List Int}(c:au m f l):dA cv 45 [O.v f] m (∀a∈l,gZ a):=by
 apply xL;have s:=c.len;have t:=c.fA;refine eu (n:=l.length) V (λk b=>J m b/\∀a∈l.take k,gZ a) ⟨J.aH _,aJ⟩ ?_;rintro k u I μ r ⟨a,g⟩ q
 refine dit (λj=>?_) λj=>?_
 .let⟨w,d⟩:=cq l k;exact⟨V,V,w,by simpa using(c.ext a).aQ d,(ba _ _ _ _).then λi p e h=>⟨i,rfl,λb=>cw (λo=>nb e b (o w (av d))) (a.trans h),λb=>q V p ⟨a.trans h,bN d g (yb e b)⟩⟩⟩
 .exact jt (cU V g) a
def QO(h:List bU)(w o:Int):Prop:=(gZ w\/1000<=w)/\(0<=o/\o<=999999)/\(0<o->ib h w)
def FU{x z o aa:O}{h:List bU}(hh:cX m x h)(C:au m z f.ax)(R:au m o f.bg)(ad:f.bg.length=f.ax.length)(ab:Ry f)(Y A Z:Int):
 dA cv 91 [O.v x,.agg #[vi Y,vi A,vi Z,O.v z,O.v o,O.v aa]] m (Gm h f):=by
 apply Aw
 simp -zeta only[aG,aF]
 intro b
 have p:J m b:=(J.aH m).aR _
 have s1:b.size=m.size+1:=by simp[b]
 clear_value b
 have v:∀A∈[m.size],A<b.size:=bS
 have ah:=C.len
 have ag:=R.len
 have ae:=C.fA
 refine eu (n:=f.ax.length) V (λk m'=>J b m'/\∀(j:Nat)(w o:Int),j<k->f.ax[j]? =some w->f.bg[j]? =some o->QO h w o) ⟨J.aH _,λj w o P=>absurd P (fW _)⟩ ?_
 rintro k U K μ Q ⟨I,S⟩ W
 refine dit (λh1=>?_) λh1=>?_
 .let⟨w,i⟩:=cq f.ax k
  let⟨r,B⟩:=cq f.bg k
  have gw:∀{M:E},J b M->af M z.aC (z.off+Int.toNat (k:Int)*1)=some (vi w):=λD=>by simpa using(C.ext (p.trans D)).aQ i
  have L:∀{M:E},J b M->af M o.aC (o.off+Int.toNat (k:Int)*1)=some (vi r):=λD=>by simpa using(R.ext (p.trans D)).aQ B
  have fX:QO h w r->∀(j:Nat)(w o:Int),j<k+1->f.ax[j]? =some w->f.bg[j]? =some o->QO h w o:=λa j w' G P y q=>by
   rcases aX j k with N|N
   .exact S j w' G N y q
   .have:j=k:=V;subst this;rw[i]at y;rw[B]at q;simp at y q;subst y;subst q;exact a
  have F:¬QO h w r->¬Gm h f:=λa Q=>a (Q.df k w r i B)
  have jZ:∀{M:E},J b M->(gZ w\/1000<=w)->(0:Int)<=(k:Int)/\(k:Int)<(o.len:Int)/\∃X:Int,af M o.aC (o.off+Int.toNat (k:Int)*1)=some (vi X)/\
   aP cv 44 [vi X,vi (0:Int),vi (999999:Int)] M λac l=>eF [m.size] M l/\∃H:Bool,ac=vb H/\
   ((!H)=true->∃c:Bool,vb false=.bool c/\(c=true<->Gm h f)/\J m l)/\
   ((!H)=false->(0:Int)<=(k:Int)/\(k:Int)<(o.len:Int)/\∃g:Int,af l o.aC (o.off+Int.toNat (k:Int)*1)=some (vi g)/\
   ((decide (g>(0:Int)))=true->aP cv 51 [O.v x,vi w] l λs d=>eF [m.size] l d/\∃e:Bool,s=vb e/\
    ((!e)=true->∃c:Bool,vb false=.bool c/\(c=true<->Gm h f)/\J m d)/\((!e)=false->K (cQ ((k:Int)+(1:Int))) d/\μ (cQ ((k:Int)+(1:Int))) d<μ k U))/\
   ((decide (g>(0:Int)))=false->K (cQ ((k:Int)+(1:Int))) l/\μ (cQ ((k:Int)+(1:Int))) l<μ k U)):=λ{M} xM hi=>by
   refine⟨V,V,r,L xM,(ba _ _ _ _).aK xM v λb3 m3 s x3 c=>⟨b3,rfl,λd=>cw (F λa=>nb s d a.2.1) (p.trans c),λd=>?_⟩⟩
   have T:=yb s d
   refine⟨V,V,r,L c,λe=>?_,λe=>W V _ ⟨c,fX ⟨hi,T,λx=>by simp at e;omega⟩⟩⟩
   refine(gQ (cX.ext (p.trans c) hh) (ab.1 w (av i))).aK c v λb4 m4 t x4 u=>⟨b4,rfl,λg=>cw (F λa=>nb t g (a.2.2 (by simpa using e))) (p.trans u),λg=>W V _ ⟨u,fX ⟨hi,T,λ_=>yb t g⟩⟩⟩
  refine⟨V,V,w,gw I,(ba _ _ _ _).aK I v λb3 m3 s x3 c=>⟨b3,rfl,λd=>?_,λd=>jZ c (Or.inl (yb s d))⟩⟩
  refine(dK _ _).aK c v λb4 m4 t x4 u=>⟨b4,rfl,λe=>cw (F λa=>?_) (p.trans u),λe=>jZ u (Or.inr (yb t e))⟩
  rcases a.1 with g|g
  .exact nb s d g
  .exact nb t e g
 .exact jt ⟨λj w G i q=>S j w G (oh (az i)) i q⟩ (p.trans I)
def DR{Q p bC c R:O}{l:cr}{s:St}(I:eY m Q p l)(i:fQ m bC c R s)(ah:vO s){k:Nat}(H:s.ak[k]? =some f):
 dA cv 47 [.agg #[O.v Q,O.v p],Ox s bC c R,vi k] m (JG l s.heap (mP s.ak k) f):=by
 apply ym
 simp -zeta only[aG,aF]
 intro t b
 have x2:J m b:=((J.aH m).aR _).aR _
 have s1:t.size=m.size+1:=by simp[t]
 have s2:b.size=m.size+2:=by simp[b,s1]
 clear_value b
 have ar:=i.ak.len
 have au:=i.ak.fA
 have ax:=az H
 have aI:=I.cy.len
 have aK:=I.cy.fA
 let⟨an,am,af,hr,Z,he,g0,g1,g2,g3,g4,g5⟩:=(i.ext x2).ak.aQ H
 have ek:Int.toNat (k:Int)=k:=V
 rw[ek]
 refine⟨V,V,_,g0,_,g1,_,g2,an,g3,am,g4,af,g5,?_⟩
 intro m3 n
 have x4:J b n:=((J.aH b).aR _).aj (ad _) _ _
 have s4:n.size=b.size+1:=by simp[n,m3,aD]
 clear_value n
 have hl:∀z∈[b.size,t.size,m.size],z<n.size:=bS
 have M:=x2.trans x4
 rw[aS V V]
 refine(ba _ _ _ _).aK (J.aH _) hl λb5 u T x _=>⟨b5,rfl,λA=>cw (λa=>nb T A ⟨a.dW.1,oh a.dW.2⟩) (M.trans x),λA=>?_⟩
 have aj:=yb T A
 have N:=M.trans x
 let⟨v,hq⟩:=cq l.cy f.dW.toNat
 have d:dm l f.dW=v:=by unfold dm;rw[hq];rfl
 let⟨pa,pl,pc,aC,aJ,aa,k0,k1,k2,k3,k4⟩:=(I.ext N).cy.aQ hq
 have aE:=aa.len
 have aH:=aa.fA
 refine⟨V,V,pa,k0,pl,k1,_,k2,_,k3,pc,k4,?_⟩
 intro m6 o
 have x7:J u o:=((J.aH u).aR _).aj (ad _) _ _
 have s7:o.size=u.size+1:=by simp[o,m6,aD]
 have z5:=x.size
 clear_value o
 have K:∀z∈[u.size,b.size,t.size,m.size],z<o.size:=bS
 have P:=N.trans x7
 rw[aS V V]
 refine(ba _ _ _ _).aK (J.aH _) K λb8 m8 U y _=>⟨b8,rfl,λB=>cw (λa=>nb U B ⟨a.pc.1,by have:=a.pc.2;rw[d]at this;omega⟩) (P.trans y),λB=>?_⟩
 have ak:=yb U B
 have e:=P.trans y
 have aM:=hr.len
 have ay:=Z.len
 have aq:=he.len
 refine⟨λC=>cw (λa=>by have:=a.lr;rw[d]at this;simp at C;omega) e,λC=>?_⟩
 have q1:(f.ax.length:Int)=v.ax:=by simp at C;omega
 refine⟨λD=>cw (λa=>by have:=a.lo;rw[d]at this;simp at D;omega) e,λD=>?_⟩
 have q2:(f.bg.length:Int)=v.ax:=by simp at D;omega
 refine⟨λE=>cw (λa=>by have:=a.lh;rw[d]at this;simp at E;omega) e,λE=>?_⟩
 have q3:(f.bB.length:Int)=v.ax:=by simp at E;omega
 have ai:=ah.ak f (av H)
 have ac:=((x4.trans x).trans x7).trans y
 refine(FU (i.ext e).heap (hr.ext ac) (Z.ext ac) V ai _ _ _).aK y K λb9 m9 W x9 ao=>⟨b9,rfl,λF=>cw (λa=>nb W F a.ax) (e.trans x9),λF=>?_⟩
 have al:=yb W F
 have q:=e.trans x9
 have mk:(mP s.ak k=none->f.dst=0)->(∀p,mP s.ak k=some p->0<=f.dst/\f.dst<p.bg.length/\aQ p.bg f.dst=0)->JG l s.heap (mP s.ak k) f:=λha hb=>
  ⟨⟨aj.1,V⟩,⟨ak.1,by rw[d];omega⟩,by rw[d];exact q1,by rw[d];exact q2,by rw[d];exact q3,al,ha,hb⟩
 refine⟨λG=>fV ?_ q,λG=>?_⟩
 .have g:k=0:=by simp at G;omega
  subst g
  refine⟨λh=>mk (λ_=>by simpa using h) (λp c=>by simp[mP]at c),λa=>by simpa using a.first rfl⟩
 .have aw:k≠0:=by simp at G;omega
  obtain⟨j,rfl⟩:∃j,k=j+1:=⟨k -1,V⟩
  have ej:cQ (((j+1:Nat):Int) -1)=(j:Int):=by rw[aS V V];omega
  have ag:Int.toNat (j:Int)=j:=V
  rw[ej,ag]
  let⟨g,X⟩:=cq s.ak j
  have r:mP s.ak (j+1)=some g:=X
  obtain⟨r',o',e',aL,L,ap,_,_,_,_,y4,_⟩:=(i.ext q).ak.aQ X
  have aA:=L.len
  have aB:=L.fA
  refine⟨V,V,o',y4,?_⟩
  rw[aS V V]
  refine(ba _ _ _ _).aK ao K λae aN S w _=>⟨ae,rfl,λh=>?_,λh=>cw (λa=>?_) (q.trans w)⟩
  .have hd:=S.1 h
   let⟨ab,hv⟩:=cq g.bg f.dst.toNat
   have ev:aQ g.bg f.dst=ab:=NA hv
   refine⟨V,V,o',w.af y4,V,V,ab,(L.ext w).aQ hv,fV ?_ (q.trans w)⟩
   refine⟨λh9=>mk (λY=>by rw[r]at Y;cases Y) (λp c=>by rw[r]at c;simp at c;subst c;exact⟨hd.1,V,by rw[ev];simpa using h9⟩),λa=>?_⟩
   have:=(a.next g r).2.2
   rw[ev]at this;simpa using this
  .have:=a.next g r
   exact fb S h ⟨this.1,V⟩
end
section
variable{i:Nat}{f:be}
def Kg{b:List be}(c:b[i]? =some f)(a:Nat):holds (b.take (i+1)) a=holds (b.take i) a+eK f.bB a:=by
 rw[bF c,ez,iC]
def MT{b:List be}(c:b[i]? =some f)(a:Nat):fj (b.take (i+1)) a=fj (b.take i) a+cV f.ax f.bg a:=by
 rw[bF c,fF,jY]
def sH:∀{ax bg:List Int}{a:Nat}{w o:Int},ax[a]? =some w->bg[a]? =some o->∀b,cV (ax.take (a+1)) (bg.take (a+1)) b=cV (ax.take a) (bg.take a) b+(if w=1000+(b:Int)then o else 0)
 |[],_,_,_,_,h,_,_=>by simp at h
 |_::_,[],_,_,_,_,h,_=>by simp at h
 |r::f,p::e,0,w,o,c,d,b=>by simp at c d;subst c;subst d;simp[cV]
 |r::f,p::e,a+1,w,o,c,d,b=>by
  have:=sH (ax:=f) (bg:=e) (a:=a) (by simpa using c) (by simpa using d) b;simp only[Mr,cV]at this⊢;omega
def Kf:∀{a:List be}{n:Nat},(∀f∈a,f.bB.length<=n)->∀b,holds a b<=a.length*n
 |[],n,_,b=>by simp[holds]
 |f::a,n,h,b=>by
  have c:=Kf (a:=a) λg d=>h g (by simp[d]);have e:=c b;have i:=kv f.bB b;have j:=h f aJ;simp only[holds,aY];have:((a.length+1:Nat):Int)*n=a.length*n+n:=by push_cast;rw[Y7];omega
  omega
def ER:∀{ax bg:List Int}{n:Int},0<=n->(∀o∈bg,0<=o/\o<=n)->∀a,0<=cV ax bg a/\cV ax bg a<=bg.length*n
 |[],bg,n,b,h,a=>by simp[cV];exact Int.mul_nonneg V b
 |_::_,[],n,b,h,a=>by simp[cV]
 |r::e,o::c,n,b,h,a=>by
  have f:=ER (ax:=e) (bg:=c) b (λx d=>h x (by simp[d])) a;have d:=h o aJ;have:((c.length+1:Nat):Int)*n=c.length*n+n:=by push_cast;rw[Y7];omega
  simp only[cV,aY];split<;>omega
def JC:∀{a:List be}{n:Nat}{k:Int},0<=k->(∀f∈a,f.bg.length<=n/\∀o∈f.bg,0<=o/\o<=k)->∀b,0<=fj a b/\fj a b<=a.length*(n*k)
 |[],n,k,_,_,b=>by simp[fj]
 |f::a,n,k,c,h,b=>by
  have e:=JC (a:=a) c (λg d=>h g (by simp[d])) b;let⟨j,d⟩:=h f aJ;have g:=ER (ax:=f.ax) c d b;have i:(f.bg.length:Int)*k<=n*k:=Int.mul_le_mul_of_nonneg_right V c;have:((a.length+1:Nat):Int)*(n*k)=a.length*(n*k)+n*k:=by push_cast;rw[Y7];omega
  simp only[fj,aY];omega
section
variable{m:E}{d p bC a b:O}{c:cr}{s:St}
def Hl(H:fQ m bC a b s)(Q:vO s)(hd:s.ak.length<=41):dA cv 48 [Ox s bC a b] m (Nq s.heap s.ak):=by
 apply BG;simp -zeta only[aG,aF];intro j;have y:J m j:=(J.aH m).aR _;have s1:j.size=m.size+1:=by simp[j]
 clear_value j;have hl:=H.heap.len;have au:=Q.lh;have aq:=H.ak.len;have en:Int.toNat (a.len:Int)=s.heap.length:=V;rw[en];refine⟨V,V,V,V,?_⟩;intro W;have x2:J j W:=(J.aH j).aR _;have B2:cB W j.size aA ((rX s.heap.length (λ_=>0)).map Ce.i):=Ll j _;clear_value W;have r:∀{N M':E},J j N->J N M'->eF [m.size] N M':=λP u=>u.de λz r=>P.lt (by simp at r;omega);have ac:=λf A=>(Q.lr f A).2.2;refine eu (n:=s.ak.length) V (λi x=>J j x/\cB x j.size aA ((rX s.heap.length (λc=>holds (s.ak.take i) c)).map Ce.i)/\∀f∈s.ak.take i,∀w∈f.bB,w=0\/(1000<=w/\ix w<s.heap.length)) ⟨x2,by simpa[holds]using B2,aJ⟩ ?_;rintro i m3 am μ hi ⟨D,K,T⟩ al
 refine dit (λP=>?_) λP=>?_
 .let⟨f,A⟩:=cq s.ak i;have R:=av A;have ar:=ac f R;have ag:(∃w∈f.bB,¬(w=0\/(1000<=w/\ix w<s.heap.length)))->¬Nq s.heap s.ak:=λ⟨w,h,e⟩ v=>e (v.dC f R w h);refine eu (n:=f.bB.length) V (λk x=>J j x/\cB x j.size aA ((rX s.heap.length (λc=>holds (s.ak.take i) c+eK (f.bB.take k) c)).map Ce.i)/\∀w∈f.bB.take k,w=0\/(1000<=w/\ix w<s.heap.length)) ⟨D,by simpa[eK]using K,aJ⟩ ?_;rintro k o M ν v ⟨F,G,t⟩ C;obtain⟨ay,ax,q,_,_,he,_,_,_,_,_,g5⟩:=(H.ext (y.trans F)).ak.aQ A;have ap:=he.len;refine⟨V,V,q,by simpa using g5,dit (λu=>?_) λu=>?_⟩
  .let⟨w,h⟩:=cq f.bB k;have U:=av h;have ak:=(Q.ak f R).2.2 w U;refine⟨V,V,q,by simpa using g5,V,V,w,by simpa using he.aQ h,λp=>?_,λp=>?_⟩
   .have I:w≠0:=by simpa using p
    refine(dK _ _).mono ?_;rintro _ m5 ⟨b5,rfl,aa,Y⟩;have X:=F.trans Y;refine⟨r F Y,b5,rfl,λl=>cw (ag ⟨w,U,λe=>?_⟩) (y.trans X),λl=>?_⟩
    .rcases e with e|e
     .exact I e
     .exact nb aa l e.1
    have ah:=yb aa l;have an:=ak.2;have e1:cQ (w -1000)=(ix w:Nat):=by unfold ix;rw[aS V V];omega
    have e2:Int.toNat ((ix w:Nat):Int)=ix w:=V;rw[e1,e2,show cQ ((a.len:Int) -1)=(a.len:Int) -1 from aS V V];refine(ba _ _ _ _).mono ?_;rintro _ m6 ⟨b6,rfl,ab,Z⟩;have ai:=X.trans Z;refine⟨r X Z,b6,rfl,λB=>cw (ag ⟨w,U,λe=>?_⟩) (y.trans ai),λB=>?_⟩
    .rcases e with e|e
     .exact I e
     .exact nb ab B ⟨V,V⟩
    have aw:=yb ab B;have S:ix w<s.heap.length:=V;have L:=G.ext (Y.trans Z);simp only[O.dU,O.fO,O.jg,bG,cT];have q1:=Kf (a:=s.ak.take i) (n:=10000000) (λaj hg=>ac aj (dq hg)) (ix w);have q2:=kv (f.bB.take k) (ix w);have q3:=uV (s.ak.take i) (ix w);have q4:=iz (f.bB.take k) (ix w);have q5:(s.ak.take i).length<=41:=bS;have q6:(f.bB.take k).length<=10000000:=bS;refine⟨V,V,_,sY L S,V,V,Nd L S,?_⟩;rw[show cQ (holds (s.ak.take i) (ix w)+eK (f.bB.take k) (ix w)+1)=holds (s.ak.take i) (ix w)+eK (f.bB.take k) (ix w)+1 from aS V V];have B7:=HP L (ix w) (holds (s.ak.take i) (ix w)+eK (f.bB.take k) (ix w)+1);rw[eZ (g:=λc=>holds (s.ak.take i) c+eK (f.bB.take (k+1)) c)]at B7
    .refine⟨λz r=>bh _ _ _ _ (by simp at r;omega),C V _ ⟨ai.aj (ad _) _ _,B7,bN h t (Or.inr ⟨ah,S⟩)⟩⟩
    .intro z r;rw[qC h];by_cases q:z=ix w
     .subst q;rw[ao rfl,ao (iN ah).symm];omega
     .rw[ae q,ae (λaj=>q (by rw[aj,kP]))];omega
   .have I:w=0:=by simpa using p
    refine C V o ⟨F,?_,bN h t (Or.inl I)⟩;rw[eZ (g:=λc=>holds (s.ak.take i) c+eK (f.bB.take k) c)]
    .exact G
    .intro z r;rw[qC h,ae V];omega
  .have I:f.bB.take k=f.bB:=cG V;rw[I]at G t;refine al V o ⟨F,?_,bN A T t⟩
   rw[eZ (g:=λc=>holds (s.ak.take i) c+eK f.bB c)]
   .exact G
   .intro z r;exact Kg A z
 .have I:s.ak.take i=s.ak:=cG V;rw[I]at K T;simp only[O.dU,O.fO,O.jg,bG,cT];refine eu (n:=s.heap.length) V (λk x=>x=m3/\∀(c:Nat)(h:bU),c<k->s.heap[c]? =some h->(h.aV<0->holds s.ak c=1)/\(0<=h.aV->holds s.ak c=0)) ⟨rfl,λc h S=>absurd S (fW _)⟩ ?_;rintro k o M ν v ⟨rfl,t⟩ C;refine⟨λu=>?_,λu=>?_⟩
  .have U:k<s.heap.length:=by first|omega|(simp at u;omega)
   let⟨h,q⟩:=dJ U;obtain⟨f,_,g1,_,_⟩:=(H.ext (y.trans D)).heap.aQ q;have X:Int.toNat (k:Int)=k:=V;rw[X];have L:=sY K U;have fX:(h.aV<0->holds s.ak k=1)/\(0<=h.aV->holds s.ak k=0)->∀(c:Nat)(h:bU),c<k+1->s.heap[c]? =some h->(h.aV<0->holds s.ak c=1)/\(0<=h.aV->holds s.ak c=0):=λe c d S hd=>by
    rcases aX c k with R|R
    .exact t c d R hd
    .have:c=k:=V;subst this;rw[q]at hd;simp at hd;subst hd;exact e
   have yU:(h.aV<0->holds s.ak k=1)->(0:Int)<=(k:Int)/\(k:Int)<(a.len:Int)/\∃w:Int,af o a.aC (a.off+k*3)=some (vi w)/\
    ((decide (w>=(0:Int)))=true->(0:Int)<=(k:Int)/\(k:Int)<(s.heap.length:Int)/\∃F:Int,af o j.size k=some (vi F)/\
    ((F !=(0:Int))=true->∃G:Bool,vb false=.bool G/\(G=true<->Nq s.heap s.ak)/\J m o)/\((F !=(0:Int))=false->M (cQ ((k:Int)+1)) o/\ν (cQ ((k:Int)+1)) o<ν k o))/\
    ((decide (w>=(0:Int)))=false->M (cQ ((k:Int)+1)) o/\ν (cQ ((k:Int)+1)) o<ν k o):=λe=>by
    refine⟨V,V,_,g1,λp=>⟨V,V,_,L,λl=>cw (λv=>?_) (y.trans D),λl=>C V _ ⟨rfl,fX ⟨e,λ_=>by simpa using l⟩⟩⟩,λp=>C V _ ⟨rfl,fX ⟨e,λB=>by simp at p;omega⟩⟩⟩
    have:=v.mD k h q (by simpa using p)
    simp at l;exact l this
   refine⟨V,V,_,g1,λp=>⟨V,V,_,L,λl=>cw (λv=>?_) (y.trans D),λl=>yU λ_=>by simpa using l⟩,λp=>yU λB=>by simp at p;omega⟩;have:=v.kH k h q (by simpa using p);simp at l;exact l this
  .have l:s.heap.length<=k:=by first|omega|(simp at u;omega)
   exact jt ⟨T,λc h q e=>(t c h (oh (az q)) q).1 e,λc h q e=>(t c h (oh (az q)) q).2 e⟩ (y.trans D)
end
end
section
def OO(a:Int):(a==(0:Int))=decide (a=0):=by by_cases h:a=0<;>simp[h]
def Em(a b:Int):(!((a==(0:Int))==(b==(0:Int))))=false<->(a=0<->b=0):=by
 rw[OO,OO];by_cases c:a=0<;>by_cases d:b=0<;>simp[c,d]
section
variable{m:E}{d p bC c b:O}{a:cr}{s:St}
structure Sq(h:List bU)(fs:List be):Prop where
 len:∀f∈fs,f.bg.length=f.ax.length
 ax:∀f∈fs,Gm h f
def Sq.bg{h:List bU}{a:List be}(H:Sq h a){f:be}(b:f∈a):∀o∈f.bg,0<=o/\o<=999999:=λo d=>by
 let⟨k,c⟩:=List.mem_iff_getElem?.1 d;let⟨w,e⟩:=cq f.ax k (PO (az c) (H.len f b));exact((H.ax f b).df k w o e c).2.1
def HB(y:fQ m bC c b s)(C:vO s)(hd:s.ak.length<=41)(H:Sq s.heap s.ak):qR 93 [Ox s bC c b] m (rX s.heap.length (fj s.ak)):=by
 apply BV;simp -zeta only[aG,aF];intro d;have o:J m d:=(J.aH m).aR _;have s1:d.size=m.size+1:=by simp[d]
 clear_value d;have hl:=y.heap.len;have ay:=C.lh;have ar:=y.ak.len;have en:Int.toNat (c.len:Int)=s.heap.length:=V;rw[en];refine⟨V,V,V,V,?_⟩;intro A;have x2:J d A:=(J.aH d).aR _;have B2:cB A d.size aA ((rX s.heap.length (λ_=>0)).map Ce.i):=Ll d _;have s2:A.size=d.size+1:=by simp[A]
 clear_value A;refine eu (n:=s.ak.length) V (λi j=>J d j/\d.size<j.size/\cB j d.size aA ((rX s.heap.length (λe=>fj (s.ak.take i) e)).map Ce.i)) ⟨x2,V,by simpa[fj]using B2⟩ ?_;rintro i S an μ hi ⟨B,z3,I⟩ al
 refine dit (λh1=>?_) λh1=>?_
 .let⟨f,v⟩:=cq s.ak i;have x:=av v;have aB:=C.lr f x;let⟨ag,G,u,hr,P,he,g0,g1,g2,Y,Z,g5⟩:=(y.ext (o.trans B)).ak.aQ v;have aI:=hr.len;have aE:=P.len;have aw:=H.len f x;have ei:Int.toNat (i:Int)=i:=V;rw[ei];refine⟨V,V,_,g0,_,g1,_,g2,ag,Y,G,Z,u,g5,?_⟩;intro m4 l;have x5:J S l:=((J.aH S).aR _).aj (ad _) _ _;have s5:l.size=S.size+1:=by simp[l,m4,aD]
  clear_value l;have am:=B.trans x5;refine eu (n:=f.bg.length) V (λa j=>J d j/\l.size<=j.size/\(∀h,h<l.size->h≠d.size->j[h]? =l[h]?)/\cB j d.size aA ((rX s.heap.length (λe=>fj (s.ak.take i) e+cV (f.ax.take a) (f.bg.take a) e)).map Ce.i)) ⟨am,ad _,λ_ _ _=>rfl,by simpa[cV]using(I.ext x5)⟩ ?_;rintro a F ap ν hk ⟨t,z6,X,p⟩ ac;refine dit (λh2=>?_) λh2=>?_
  .let⟨w,z⟩:=cq f.ax a;let⟨q,E⟩:=cq f.bg a;have R:=(H.ax f x).df a w q z E;obtain⟨r',o',e',aH,aC,aq,_,_,_,_,y4,_⟩:=(y.ext (o.trans t)).ak.aQ v;have lb:∀{sl:O}{ab:List Int},au m sl ab->ab≠[]->sl.aC<m.size:=λah D=>oG ah D;obtain⟨U,T,e0,aj,ai,_,_,_,_,w3,w4,_⟩:=y.ak.aQ v;have er:U=ag:=by have:=(o.trans B).af w3;rw[Y]at this;exact(O.Ix.1 (lG this)).symm
   have eo:T=G:=by have:=(o.trans B).af w4;rw[Z]at this;exact(O.Ix.1 (lG this)).symm
   subst er;subst eo;have gq:af F T.aC (T.off+Int.toNat (a:Int)*1)=some (vi q):=by simpa using(ai.ext (o.trans t)).aQ E
   have gw:af F U.aC (U.off+Int.toNat (a:Int)*1)=some (vi w):=by simpa using(aj.ext (o.trans t)).aQ z
   refine⟨V,V,q,gq,λM=>?_,λM=>?_⟩
   .have Q:0<q:=by simpa using M
    have N:=R.2.2 Q;have aa:=az (cz N).1;have K:cQ (w -1000)=(ix w:Nat):=by have:=N.1;have:=((C.ak f x).1 w (av z)).2;unfold ix;rw[aS V V];omega
    have L:Int.toNat ((ix w:Nat):Int)=ix w:=V;refine⟨V,V,w,gw,V,V,w,gw,?_⟩;rw[K,L];simp only[O.dU,O.fO,O.jg,bG,cT];have q1:=JC (a:=s.ak.take i) (n:=10000000) (k:=999999) V (λW r=>⟨(C.lr W (dq r)).2.1,H.bg (dq r)⟩) (ix w);have q2:=ER (ax:=f.ax.take a) (bg:=f.bg.take a) (n:=999999) V (λG P=>H.bg x G (dq P)) (ix w);have q5:(s.ak.take i).length<=41:=bS;have q6:(f.bg.take a).length<=10000000:=bS;have q7:=R.2.1;refine⟨V,V,_,sY p aa,V,V,q,by simpa using gq,V,V,Nd p aa,?_⟩;rw[show cQ (fj (s.ak.take i) (ix w)+cV (f.ax.take a) (f.bg.take a) (ix w)+q)=fj (s.ak.take i) (ix w)+cV (f.ax.take a) (f.bg.take a) (ix w)+q from aS V V];have W:=HP p (ix w) (fj (s.ak.take i) (ix w)+cV (f.ax.take a) (f.bg.take a) (ix w)+q);rw[eZ (g:=λe=>fj (s.ak.take i) e+cV (f.ax.take (a+1)) (f.bg.take (a+1)) e)]at W
    .refine⟨λh r=>bh _ _ _ _ (by simp at r;omega),ac V _ ⟨t.aj (ad _) _ _,by rw[aD];exact z6,λh r D=>by rw[bh _ _ _ _ D];exact X h r D,W⟩⟩
    .intro h r;rw[sH z E];by_cases u:h=ix w
     .subst u;rw[ao rfl,ao (iN N.1).symm];omega
     .rw[ae u,ae (λak=>u (by rw[ak,kP]))];omega
   .have Q:q=0:=by have:=R.2.1.1;simp at M;omega
    refine ac V F ⟨t,z6,X,?_⟩;rw[eZ (g:=λe=>fj (s.ak.take i) e+cV (f.ax.take a) (f.bg.take a) e)]
    .exact p
    .intro h r;rw[sH z E,Q];split<;>omega
  .have K:f.ax.take a=f.ax:=cG V;have L:f.bg.take a=f.bg:=cG V;rw[K,L]at p;refine al V F ⟨t,V,?_⟩
   rw[eZ (g:=λe=>fj (s.ak.take i) e+cV f.ax f.bg e)]
   .exact p
   .intro h r;exact MT v h
 .have a:s.ak.take i=s.ak:=cG V;rw[a]at I;exact⟨_,rfl,Oh I V,o.trans B⟩
def Bz(j:fQ m bC c b s)(i:vO s)(hd:s.ak.length<=41)(H:Sq s.heap s.ak)(h:∀a∈s.heap,nD s.heap a):
 dA cv 49 [Ox s bC c b] m (∀(e:Nat)(a:bU),s.heap[e]? =some a->0<a.aV->a.aV=dS s.heap e+fj s.ak e):=by
 apply wB
 simp -zeta only[aG,aF]
 intro l
 have v:J m l:=(J.aH m).aR _
 have Z:l.size=m.size+1:=by simp[l]
 clear_value l
 have R:=j.heap.len
 have S:=i.lh
 refine(Af (j.ext v).heap h i.heap V).mono ?_
 rintro _ T ⟨O,rfl,C,o⟩
 have z2:=o.size
 refine⟨o.de bS,O,rfl,(HB (j.ext (v.trans o)) i hd H).mono ?_⟩
 rintro _ M ⟨N,rfl,A,w⟩
 have K:=C.len
 have I:=A.len
 rw[nB]at K I
 have p:=(v.trans o).trans w
 refine⟨w.de bS,N,rfl,?_⟩
 refine eu (n:=s.heap.length) V (λf L=>L=M/\∀(e:Nat)(a:bU),e<f->s.heap[e]? =some a->0<a.aV->a.aV=dS s.heap e+fj s.ak e) ⟨rfl,λe a y=>absurd y (fW _)⟩ ?_
 rintro f U P μ z ⟨rfl,B⟩ D
 refine dit (λF=>?_) λF=>?_
 .have t:f<s.heap.length:=V
  let⟨a,r⟩:=dJ t
  obtain⟨Q,_,g1,_,_⟩:=(j.ext p).heap.aQ r
  have E:Int.toNat (f:Int)=f:=V
  rw[E]
  have fX:(0<a.aV->a.aV=dS s.heap f+fj s.ak f)->∀(e:Nat)(a:bU),e<f+1->s.heap[e]? =some a->0<a.aV->a.aV=dS s.heap e+fj s.ak e:=λu e d y hd=>by
   rcases aX e f with x|x
   .exact B e d x hd
   .have:e=f:=V;subst this;rw[r]at hd;simp at hd;subst hd;exact u
  have W:=AQ s.heap f λa G=>(h a G).fl
  have X:=qu s.heap f
  have Y:=JC (a:=s.ak) (n:=10000000) (k:=999999) V (λq g=>⟨(i.lr q g).2.1,H.bg g⟩) f
  refine⟨V,V,_,g1,λq=>?_,λq=>D V _ ⟨rfl,fX λg=>by simp at q;omega⟩⟩
  refine⟨V,V,_,g1,V,V,_,(C.ext w).aQ (uh t),V,V,_,A.aQ (uh t),?_⟩
  rw[show cQ (dS s.heap f+fj s.ak f)=dS s.heap f+fj s.ak f from aS V V]
  refine⟨λg=>cw (λz=>?_) p,λg=>D V _ ⟨rfl,fX λ_=>by simpa using g⟩⟩
  have:=z f a r (by simpa using q)
  simp at g;exact g this
 .exact jt (λe a h u=>B e a (oh (az h)) h u) p
def DV(ae:eY m d p a)(x:fQ m bC c b s)(G:vO s):dA cv 24 [.agg #[O.v d,O.v p],Ox s bC c b] m (iT a s):=by
 apply yu;simp -zeta only[aG,aF];intro H l;have o:J m l:=((J.aH m).aR _).aR _;have s1:H.size=m.size+1:=by simp[H]
 have s2:l.size=m.size+2:=by simp[l,s1]
 clear_value l;have k:∀af∈[H.size,m.size],af<l.size:=bS;have ak:=x.ak.len;have h:∀{M:E},J l M->¬QP a s->∃q:Bool,vb false=.bool q/\(q=true<->iT a s)/\J m M:=λU hn=>cw (λe=>hn (JU e)) (o.trans U);refine(sV (ae.ext o)).aK (J.aH _) k λb3 m3 Z x3 _=>⟨b3,rfl,λL=>h x3 λe=>nb Z L e.eT,λL=>?_⟩;have hi:=yb Z L;refine(ba _ _ _ _).aK x3 k λb4 m4 aa ax X=>⟨b4,rfl,λN=>h X λe=>nb aa N e.cY,λN=>?_⟩;have an:=yb aa N;have ac:(s.ak=[])<->((b.len:Int)=0):=by rw[ak];simp
 refine⟨λP=>h X λe=>?_,λP=>?_⟩
 .have:=e.done;rw[ac,<-Em]at this;rw[this]at P;cases P
 have aj:s.cY=0<->s.ak=[]:=by rw[ac];exact(Em _ _).1 P
 refine⟨λM=>J l M/\gZ s.value/\(s.value≠0->s.cY=0)/\(0<=s.eH/\s.eH<=40)/\(0<=s.bO/\s.bO<=s.eH),?_,?_⟩
 .refine(ba _ _ _ _).aK X k λb5 W u y w=>⟨b5,rfl,λr=>h w λe=>nb u r e.value,λr=>?_⟩;have tail:(s.value≠0->s.cY=0)->aP cv 44 [vi s.eH,vi (0:Int),vi (40:Int)] W λv f=>eF [H.size,m.size] W f/\∃i:Bool,v=vb i/\
   ((!i)=true->∃q:Bool,vb false=.bool q/\(q=true<->iT a s)/\J m f)/\((!i)=false->aP cv 44 [vi s.bO,vi (0:Int),vi s.eH] f λt g=>
   eF [H.size,m.size] f g/\∃j:Bool,t=vb j/\((!j)=true->∃q:Bool,vb false=.bool q/\(q=true<->iT a s)/\J m g)/\
   ((!j)=false->J l g/\gZ s.value/\(s.value≠0->s.cY=0)/\(0<=s.eH/\s.eH<=40)/\(0<=s.bO/\s.bO<=s.eH))):=λT=>
   (ba _ _ _ _).aK w k λb6 m6 C aq z=>⟨b6,rfl,λg=>h z λe=>nb C g e.eH,λg=>
    (ba _ _ _ _).aK z k λR m7 D ar I=>⟨R,rfl,λB=>h I λe=>nb D B e.bO,λB=>⟨I,(yb u r),T,yb C g,yb D B⟩⟩⟩
  refine⟨λt=>⟨λg=>h w λe=>?_,λg=>tail λ_=>by simpa using g⟩,λt=>tail λg=>absurd (by simpa using t) g⟩;have:=e.tf (by simpa using t);simp at g;exact g this
 .rintro W ⟨w,hv,T,al,ah⟩;rw[aS V V];refine⟨λr=>h w λe=>by have:=e.depth;simp at r;omega,λr=>?_⟩;have ai:(s.ak.length:Int)<=s.bO+1:=by simp at r;omega
  have ab:s.ak.length<=41:=V;refine(Di (x.ext (o.trans w)).bC).aK w k λb6 m6 C aq z=>⟨b6,rfl,λt=>h z λe=>nb C t e.bC,λt=>?_⟩;have am:=yb C t;refine(FR (x.ext (o.trans z)).heap G.heap (oh G.lh)).aK z k λR m7 D ar I=>⟨R,rfl,λg=>h I λe=>nb D g e.heap,λg=>?_⟩;have ad:=yb D g;refine eu (n:=s.ak.length) V (λy m'=>J l m'/\∀(j:Nat)(f:be),j<y->s.ak[j]? =some f->JG a s.heap (mP s.ak j) f) ⟨I,λj f v=>absurd v (fW _)⟩ ?_;rintro y m8 av μ e ⟨K,hq⟩ ao
  refine dit (λB=>?_) λB=>?_
  .let⟨f,i⟩:=cq s.ak y;refine(DR (ae.ext (o.trans K)) (x.ext (o.trans K)) G i).aK K k λS m9 F au A=>⟨S,rfl,λu=>h A λe=>nb F u (e.ak y f i),λu=>ao V _ ⟨A,λj ag v Q=>?_⟩⟩;rcases aX j y with Y|Y
   .exact hq j ag Y Q
   .have:j=y:=V;subst this;rw[i]at Q;simp at Q;subst Q;exact yb F u
  .have Q:∀(j:Nat)(f:be),s.ak[j]? =some f->JG a s.heap (mP s.ak j) f:=λj f i=>hq j f (oh (az i)) i;have Y:Sq s.heap s.ak:=⟨λf i=>by
    let⟨j,v⟩:=vd i;have L:=(Q j f v).lr;have N:=(Q j f v).lo;omega,λf i=>let⟨j,v⟩:=vd i;(Q j f v).ax⟩
   refine(Hl (x.ext (o.trans K)) G ab).aK K k λS m9 F au A=>⟨S,rfl,λu=>?_,λu=>h A λe=>fb F u e.bB⟩;refine(Bz (x.ext (o.trans A)) G ab Y ad.cells).aK A k λv aw ag ay ap=>⟨v,rfl,fV ?_ (o.trans ap)⟩;rw[ag];exact⟨λU=>Lh ⟨hi,an,aj,hv,T,al,ah,ai,am,ad,Q,F.1 u,U⟩,λe=>(JU e).P9⟩
end
end
section
variable{m:E}{b:List bU}{w:Int}{d:bU}{a:Nat}{W:List Nat}
def qe(n:Int)(m:E):dA cv 57 [vi n] m (gZ n):=by
 apply Gz;refine⟨λb=>fV ?_ (J.aH _),λb=>cw (λa=>?_) (J.aH _)⟩
 .simp at b;simp[gZ,b]
 .simp at b;have:=a.1;omega
def EK{f:O}(d:cX m f b)(j:uN w):dA cv 146 [O.v f,vi w] m (pQ b w):=by
 apply yT;refine(mo d j.2).mono ?_;rintro _ k ⟨a,h,rfl,e,_,g⟩;refine⟨a,h,rfl,λc=>jt (Or.inr (e.1 c)) g,λc=>?_⟩;refine(qe w k).then λb2 n i l=>⟨b2,rfl,fV ?_ (g.trans l)⟩;rw[i];exact⟨Or.inl,λd=>d.resolve_right (fb e c)⟩
structure HW(b:List bU)(d:bU):Prop where
 lo: -1<=d.aV
 mJ:0<=d.mJ/\d.mJ<=99
 fl:d.aN.length<=3
 vT:d.aV<1->d.mJ=0
 jS:d.aV=0->d.aN=[]
 dC:∀w∈d.aN,pQ b w/\(d.aV<0->w=0)
def HW.ok(a:HW b d)(e:d.aV<=999999):nD b d:=
 ⟨a.fl,a.lo,e,λhd=>⟨a.vT hd,λw c=>by
  by_cases f:d.aV<0
  .exact(a.dC w c).2 f
  .rw[a.jS V]at c;simp at c,a.jS⟩,λ_=>⟨λw c=>(a.dC w c).1,a.mJ⟩⟩
def nD.v(a:nD b d):HW b d:=by
 refine⟨a.lo,?_,a.fl,λhd=>(a.vT hd).1,λf=>(a.vT V).2.2 f,λw e=>⟨?_,λg=>(a.vT V).2.1 w e⟩⟩
 .by_cases c:0<d.aV
  .exact(a.pF c).2
  .have:=(a.vT V).1;omega
 .by_cases c:0<d.aV
  .exact(a.pF c).1 w e
  .have:=(a.vT V).2.1 w e;exact Or.inl (by subst this;exact⟨bo,bo⟩)
def HW.cases(c:HW b d)(e:w∈d.aN):ib b w\/w<1000:=by
 rcases(c.dC w e).1 with a|a
 .have:=a.2;exact Or.inr V
 .exact Or.inl a
def ED{z j:O}(E:cX m z b)(x:au m j d.aN)(G:∀w∈d.aN,uN w):dA cv 103 [O.v z,.agg #[vi d.aV,vi d.mJ,O.v j]] m (HW b d):=by
 apply yP;simp -zeta only[aG,aF];intro e;have f:J m e:=(J.aH m).aR _;have N:e.size=m.size+1:=by simp[e]
 clear_value e;have y:=x.len;have F:∀C∈[m.size],C<e.size:=bS;refine⟨λk=>cw (λc=>by have:=c.lo;simp at k;omega) f,λk=>⟨λl=>cw (λc=>by have:=c.mJ;simp at l;omega) f,λl=>⟨λo=>cw (λc=>by have:=c.mJ;simp at o;omega) f,λo=>⟨λr=>cw (λc=>by have:=c.fl;simp at r;omega) f,λr=>?_⟩⟩⟩⟩;simp at k l o r;refine⟨λM=>M=e/\(d.aV<1->d.mJ=0)/\(d.aV=0->d.aN=[]),?_,?_⟩
 .have zero:(d.aV<1->d.mJ=0)->((d.aV==(0:Int))=true->((decide ((j.len:Int)>(0:Int)))=true->∃a:Bool,vb false=.bool a/\(a=true<->HW b d)/\J m e)/\
   ((decide ((j.len:Int)>(0:Int)))=false->e=e/\(d.aV<1->d.mJ=0)/\(d.aV=0->d.aN=[])))/\((d.aV==(0:Int))=false->e=e/\(d.aV<1->d.mJ=0)/\(d.aV=0->d.aN=[])):=λh=>
   ⟨λg=>⟨λa=>cw (λc=>by have:=c.jS (by simpa using g);rw[this]at y;simp at a y;omega) f,λa=>⟨rfl,h,λ_=>List.length_eq_zero_iff.1 (by simp at a;omega)⟩⟩,λg=>⟨rfl,h,λa=>by simp at g;exact absurd a g⟩⟩
  refine⟨λg=>⟨λa=>cw (λc=>by have:=c.vT (by simpa using g);simp at a;exact a this) f,λa=>zero λ_=>by simpa using a⟩,λg=>zero λa=>by simp at g;omega⟩
 .rintro H ⟨rfl,hd,D⟩;refine eu (n:=d.aN.length) V (λv h=>J H h/\∀w∈d.aN.take v,pQ b w/\(d.aV<0->w=0)) ⟨J.aH _,aJ⟩ ?_;rintro v L I μ K ⟨q,u⟩ B
  refine dit (λg=>?_) λg=>?_
  .let⟨w,h⟩:=cq d.aN v;refine⟨V,V,w,by simpa using(x.ext (f.trans q)).aQ h,(EK (cX.ext (f.trans q) E) (G w (av h))).aK q F λb4 A t P p=>⟨b4,rfl,λa=>cw (λc=>nb t a (c.dC w (av h)).1) (f.trans p),λa=>⟨λs=>⟨λi=>cw (λc=>?_) (f.trans p),λi=>B V A ⟨p,bN h u ⟨yb t a,λ_=>by simpa using i⟩⟩⟩,λs=>B V A ⟨p,bN h u ⟨yb t a,λi=>by simp at s;omega⟩⟩⟩⟩⟩;have:=(c.dC w (av h)).2 (by simpa using s);simp at i;exact i this
  .exact jt ⟨k,⟨l,o⟩,V,hd,D,cU V u⟩ (f.trans q)
def gH(mk:Nat->Bool):Nat->List bU->Nat->Int
 |_,[],_=>0
 |i,d::b,a=>(if mk i=true then 0 else eK d.aN a)+gH mk (i+1) b a
def Dd:∀(i:Nat)(b:List bU)(a:Nat),gH (λ_=>false) i b a=dS b a
 |_,[],_=>rfl
 |i,d::b,a=>by simp[gH,dS,Dd (i+1) b a]
def ET(mk:Nat->Bool):∀(i:Nat)(b:List bU)(a:Nat),0<=gH mk i b a
 |_,[],_=>dh 0
 |i,d::b,a=>by have:=ET mk (i+1) b a;have:=iz d.aN a;simp only[gH];split<;>omega
def Pl(mk:Nat->Bool):∀(i:Nat)(b:List bU)(a:Nat),gH mk i b a<=dS b a
 |_,[],_=>dh 0
 |i,d::b,a=>by have:=Pl mk (i+1) b a;have:=iz d.aN a;simp only[gH,dS];split<;>omega
def It{mk e:Nat->Bool}:∀{i:Nat}{b:List bU}{a:Nat},(∀j,i<=j->mk j=e j)->gH mk i b a=gH e i b a
 |_,[],_,_=>rfl
 |i,d::b,a,c=>by simp only[gH];rw[c i (ad _),It λj f=>c j V]
def MX{mk:Nat->Bool}:∀{e:Nat}{b:List bU}{f:Nat}{d:bU},b[f]? =some d->mk (e+f)=false->∀a,gH (j7 mk (e+f)) e b a=gH mk e b a -eK d.aN a
 |_,[],_,_,b,_,_=>by simp at b
 |e,m::b,0,d,j,l,a=>by
  simp at j;subst j;have g:=It (mk:=j7 mk e) (e:=mk) (i:=e+1) (b:=b) (a:=a) λo n=>lz V;rw[jo]at l⊢;simp only[gH,sa,l,g];simp;omega
 |e,m::b,f+1,d,j,l,a=>by
  have g:e+(f+1)=e+1+f:=V;have:=MX (mk:=mk) (e:=e+1) (b:=b) (f:=f) (d:=d) (by simpa using j) (by rw[<-g];exact l) a;simp only[gH];rw[g,this,lz V];omega
def Pk{mk:Nat->Bool}:∀{e:Nat}{b:List bU}{j:Nat}{d:bU},b[j]? =some d->mk (e+j)=false->∀a,eK d.aN a<=gH mk e b a
 |_,[],_,_,b,_,_=>by simp at b
 |e,l::b,0,d,f,g,a=>by
  simp at f;subst f;have:=ET mk (e+1) b a;simp only[jo]at g;simp only[gH,g];simp;omega
 |e,l::b,j+1,d,f,g,a=>by
  have:=Pk (mk:=mk) (e:=e+1) (b:=b) (j:=j) (d:=d) (by simpa using f) (by rw[<-g];congr 1;omega) a;have:=iz l.aN a;simp only[gH];split<;>omega
def MW{mk:Nat->Bool}:∀{i:Nat}{b:List bU}{a:Nat},0<gH mk i b a->∃(k:Nat)(d:bU),b[k]? =some d/\mk (i+k)=false/\(1000+(a:Int))∈d.aN
 |_,[],_,b=>by simp[gH]at b
 |i,c::b,a,g=>by
  simp only[gH]at g;by_cases f:mk i=false/\0<eK c.aN a
  .exact⟨0,c,rfl,f.1,NU f.2⟩
  .have:0<gH mk (i+1) b a:=by
    have:=iz c.aN a;split at g
    .omega
    .rename_i h;have:¬0<eK c.aN a:=λe=>f ⟨by simpa using h,e⟩;omega
   let⟨k,d,h,e,j⟩:=MW this;exact⟨k+1,d,by simpa using h,by rw[<-e];congr 1;omega,j⟩
def Sy(b:List bU)(mk:Nat->Bool):Prop:=
 ∃t:Nat->Nat,(∀j,mk j=true->t j<=lT mk b.length)/\∀(i:Nat)(d:bU),b[i]? =some d->∀w∈d.aN,1000<=w->mk (ix w)=true->mk i=true/\t i<t (ix w)
def Sy.set{mk:Nat->Bool}(u:Sy b mk)(t:a<b.length)(k:mk a=false)(B:gH mk 0 b a=0):Sy b (j7 mk a):=by
 let⟨A,n,s⟩:=u;have r:=yJ k t;have v:∀(c:Nat)(d:bU),b[c]? =some d->(1000+(a:Int))∈d.aN->mk c=true:=λc d f g=>by
  cases e:mk c
  .have g1:=Pk (mk:=mk) (e:=0) f (by rw[bG];exact e) a;have g2:=tV g;omega
  .rfl
 refine⟨λx=>if x=a then lT mk b.length+1 else A x,λy o=>?_,λc d f w g q p=>?_⟩
 .simp only[r];split
  .omega
  .rename_i h;rw[lz h]at o;have:=n y o;omega
 .by_cases h:ix w=a
  .have e:=v c d f (by rw[<-h,iN q];exact g);have l:c≠a:=λj=>by rw[j,k]at e;cases e
   simp only[ao h,ae l];exact⟨vj e,oh (n c e)⟩
  .rw[lz h]at p;let⟨m,z⟩:=s c d f w g q p;have l:c≠a:=λj=>by rw[j,k]at m;cases m
   simp only[ae h,ae l];exact⟨vj m,z⟩
def OQ(f:Nat->Nat):∀n,∃B,∀i,i<n->f i<=B
 |0=>⟨0,λi a=>absurd a (fW _)⟩
 |n+1=>by
  let⟨B,c⟩:=OQ f n;refine⟨B+f n,λi a=>?_⟩;rcases aX i n with b|b
  .have:=c i b;omega
  .have:i=n:=V;subst this;omega
def Vd{mk:Nat->Bool}(r:Sy b mk)(q:∀d∈b,∀w∈d.aN,1000<=w->ix w<b.length)(o:∀a,a<b.length->gH mk 0 b a=0->mk a=true):
 lT mk b.length=b.length<->Sn b:=by
 rw[JW]
 constructor
 .intro g
  let⟨t,e,c⟩:=r
  refine⟨λx=>b.length -t x,λi d h w j f=>?_⟩
  have k:=q d (av h) w j f
  have:=(c i d h w j f (g _ k)).2
  have:=e _ (g _ k)
  have:=Er mk b.length
  show b.length -t (ix w)<b.length -t i
  omega
 .rintro⟨h,s⟩
  let⟨B,m⟩:=OQ h b.length
  have u:∀(n i:Nat),B -h i<n->i<b.length->mk i=true:=by
   intro n;induction n with
   |zero=>intro i g;omega
   |succ n t=>
    intro i g p;refine o i p (Int.le_antisymm (Int.not_lt.1 λf=>?_) (ET _ _ _ _));let⟨k,d,e,c,l⟩:=MW f;rw[bG]at c;have:=s k d e _ l V;rw[kP]at this;have j:=az e;have:=m k j;rw[t k V j]at c;cases c
  exactλi g=>u (B -h i+1) i V g
structure Gj(b:List bU)(mk:Nat->Bool)(W:List Nat)(lf:Nat->Int):Prop where
 Kr:W.Nodup
 un:∀a∈W,a<b.length/\mk a=false
 zero:∀a,a<b.length->(lf a=0<->(mk a=true\/a∈W))
def EN:∀(n:Nat)(W:List Nat),W.Nodup->(∀a∈W,a<n)->W.length<=n
 |0,[],_,_=>ad _
 |0,a::_,_,b=>absurd (b a aJ) (fW _)
 |n+1,W,hd,b=>by
  by_cases d:n∈W
  .have e:=EN n (W.erase n) (hd.erase n) λa c=>by
    have:=hd.mem_erase_iff.1 c;have:=b a this.2;omega
   rw[List.length_erase_of_mem d]at e;omega
  .have:=EN n W hd λa c=>by
    have:=b a c;have:a≠n:=λe=>d (e▸c);omega
   omega
def Gj.len{mk:Nat->Bool}{d:Nat->Int}(K:Gj b mk W d):W.length<=b.length:=EN _ _ K.Kr λa c=>(K.un a c).1
def Gj.Vg{mk:Nat->Bool}{f:Nat->Int}(K:Gj b mk (W++[a]) f):Gj b (j7 mk a) W f:=by
 let⟨g,i,h⟩:=List.nodup_append.1 K.Kr;refine⟨g,λx c=>?_,λx c=>?_⟩
 .have d:=K.un x (bz _ c);refine⟨d.1,?_⟩;rw[lz λe=>h x c a aJ e];exact d.2
 .rw[K.zero x c];by_cases e:x=a
  .subst e;simp[sa]
  .rw[lz e];simp[e]
def Gj.oB{mk:Nat->Bool}{g lf':Nat->Int}(K:Gj b mk W g)(i:a<b.length)(j:∀x,lf' x=if x=a then g x -1 else g x)(l:0<g a):
 (lf' a=0->Gj b mk (W++[a]) lf')/\(lf' a≠0->Gj b mk W lf'):=by
 have f:mk a≠true/\a∉W:=by
  have:=(K.zero a i).2;constructor
  .intro d;have:=this (Or.inl d);omega
  .intro d;have:=this (Or.inr d);omega
 refine⟨λh=>⟨?_,λx c=>?_,λx c=>?_⟩,λh=>⟨K.Kr,K.un,λx c=>?_⟩⟩
 .rw[List.nodup_append]
  refine⟨K.Kr,aJ,λx c y k e=>?_⟩
  simp at k;subst k;subst e;exact f.2 c
 .rcases List.mem_append.1 c with c|c
  .exact K.un x c
  .simp at c;subst c;exact⟨i,by simpa using f.1⟩
 .by_cases e:x=a
  .subst e;simp[h]
  .rw[j x,ae e,K.zero x c];simp[e]
 .by_cases e:x=a
  .subst e
   constructor
   .intro d;exact absurd d h
   .rintro(d|d)
    .exact absurd d f.1
    .exact absurd d f.2
  .rw[j x,ae e,K.zero x c]
end
section
variable{b:Nat->Nat}{m:E}{k c a:Nat}{s:O}{d:Nat->Int}
def UT(W:List Nat):List Int:=W.map λ(a:Nat)=>(a:Int)
def Jw(W:List Nat):(UT W).length=W.length:=by simp[UT]
def JZ(W:List Nat)(a:Nat):UT (W++[a])=UT W++[(a:Int)]:=by simp[UT]
def V2(h:iG b m aA 1 k s ((rX c d).map Ce.i))(g:c<=9223372036854775807)(e:a<c):af m s.aC (s.off+Int.toNat (a:Int)*1)=some (vi (d a)):=by
 have:=(h.pw (by rw[nB];exact g)).aQ (uh (f:=d) e);simpa using this
def Ub(h:iG b m aA 1 k s ((rX c d).map Ce.i)):s.len=c:=by have:=h.len;simp[nB]at this;omega
def Xb{g:Nat->Int}(h:iG b m aA 1 k s ((rX c d).map Ce.i))(q:a<c){v:Int}(o:∀e,e<c->g e=if e=a then v else d e)(p:∀e,m.size<=e->b e=0):
 fq m s.aC (s.off+Int.toNat (a:Int)*1) 1/\iG b (aj m s.aC (s.off+Int.toNat (a:Int)*1) [.i v]) aA 1 k s ((rX c g).map Ce.i)/\dN (λj=>j=k) b m b (aj m s.aC (s.off+Int.toNat (a:Int)*1) [.i v]):=by
 have f:(0:Int)<=(a:Int):=V
 have i:(a:Int)<((rX c d).length:Nat):=by rw[nB];omega
 have j:=h.iD f i v
 have l:iD (rX c d) (a:Int) v=rX c g:=by
  unfold iD;rw[show Int.toNat (a:Int)=a by omega,Rq];exact eZ λe n=>(o e n).symm
 rw[l]at j
 have r:=Ub h
 have t:=h.le
 exact⟨h.Sj f i,j,dN.aj p (h.aC V).2 _ _⟩
def XB(m:E)(h:List bU)(v:Value)(c:E):Prop:=∃(s:O)(b:Bool),v=.tuple #[O.v s,vb b]/\(b=true<->Gi h)/\
 (b=true->∃a,s=.mk a 0 h.length h.length/\m.size<=a/\cB c a aA ((rX h.length (dS h)).map Ce.i))/\J m c
def rq{N:O}{h:List bU}(y:cX m N h)(aR:No h)(bl:h.length<=1000000000):aP cv 58 [O.v N] m (XB m h):=by
 apply wc;simp -zeta only[aG,aF];have hl:=y.len;have en:Int.toNat (N.len:Int)=h.length:=V;rw[en];refine⟨V,V,V,V,?_⟩;intro m1;have x1:J m m1:=(J.aH m).aR _;have B1:cB m1 m.size aA ((rX h.length (λ_=>0)).map Ce.i):=Ll m _;clear_value m1;have no:∀{M:E},J m M->¬Gi h->XB m h (.tuple #[O.v O.nil,vb false]) M:=λT G=>⟨.nil,false,rfl,by simp[G],aJ,T⟩;have am:∀c:Nat,Int.toNat (c:Int)=c:=λc=>V;simp -zeta only[O.dU,O.fO,O.jg,bG];refine eu (n:=h.length) V (λt l=>J m l/\cB l m.size aA ((rX h.length (λa=>dS (h.take t) a)).map Ce.i)/\∀e∈h.take t,HW h e) ⟨x1,by simpa[dS]using B1,aJ⟩ ?_;rintro t m2 bt μ hi ⟨Z,B2,ai⟩ X
 have bB:=B2.lt;have h3:∀e∈h.take t,e.aN.length<=3:=λe hm=>(ai e hm).fl;refine dit (λh1=>?_) λh1=>?_
 .let⟨e,r⟩:=cq h t;have ab:=av r;let⟨d,hf,g0,g1,g2⟩:=(cX.ext Z y).aQ r;rw[am];refine⟨V,V,e.aV,g0,e.mJ,g1,d,g2,?_⟩;intro L I;have o:J m2 I:=((J.aH m2).aR _).aj (ad _) _ _;have s4:I.size=m2.size+1:=by simp[I,L,aD]
  clear_value I;refine(ED (cX.ext (Z.trans o) y) (hf.ext o) (aR e ab)).aK (J.aH _) bS λj U S s _=>⟨j,rfl,λh2=>no ((Z.trans o).trans s) λz=>nb S h2 (z.cells e ab).v,λh2=>?_⟩;have A:=yb S h2;have bd:=A.fl;have z5:=s.size;have ah:=hf.len;refine eu (n:=e.aN.length) V (λk l=>J m l/\m2.size<l.size/\au l d e.aN/\cB l m.size aA ((rX h.length (λa=>dS (h.take t) a+eK (e.aN.take k) a)).map Ce.i)) ⟨((Z.trans o).trans s),V,(hf.ext (o.trans s)),by simpa[eK]using(B2.ext (o.trans s))⟩ ?_;rintro k p aa ν z ⟨K,z6,D,l⟩ Q;refine dit (λh4=>?_) λh4=>?_
  .let⟨w,H⟩:=cq e.aN k;have ap:=av H;refine⟨V,V,w,by simpa using D.aQ H,(mo (cX.ext K y) (aR e ab w ap).2).mono ?_⟩;rintro _ q ⟨a,R,rfl,P,W,F⟩;have z7:=F.size;refine⟨F.de bS,a,R,rfl,λC=>?_,λC=>?_⟩
   .have ag:=P.1 C;have ac:=az (cz ag).1;have e1:=W C;subst e1;have x:=l.ext F;have q1:=AQ (h.take t) (ix w) h3;have q2:=kv (e.aN.take k) (ix w);have q3:=qu (h.take t) (ix w);have q4:=iz (e.aN.take k) (ix w);have q5:(h.take t).length<=h.length:=bS;have q6:(e.aN.take k).length<=3:=bS;rw[am,cT];refine⟨V,V,_,sY x ac,V,V,Nd x ac,?_⟩;rw[show cQ (dS (h.take t) (ix w)+eK (e.aN.take k) (ix w)+1)=dS (h.take t) (ix w)+eK (e.aN.take k) (ix w)+1 from aS V V];have B:=HP x (ix w) (dS (h.take t) (ix w)+eK (e.aN.take k) (ix w)+1);rw[eZ (g:=λa=>dS (h.take t) a+eK (e.aN.take (k+1)) a)]at B
    .refine⟨λj S=>bh _ _ _ _ (by simp at S;omega),Q V _ ⟨(K.trans F).aj (ad _) _ _,by rw[aD];omega,?_,B⟩⟩;obtain⟨f0,aQ,_,_,w2⟩:=y.aQ r;have er:f0=d:=by have:=Z.af w2;rw[g2]at this;exact(O.Ix.1 (lG this)).symm
     subst er;exact aQ.ext ((K.trans F).aj (ad _) _ _)
    .intro j S;rw[qC H];by_cases u:j=ix w
     .subst u;rw[ao rfl,ao (iN ag.1).symm];omega
     .rw[ae u,ae (λY=>u (by rw[Y,kP]))];omega
   .refine Q V q ⟨K.trans F,V,D.ext F,?_⟩;have bi:w<1000:=(A.cases ap).resolve_left (fb P C);rw[eZ (g:=λa=>dS (h.take t) a+eK (e.aN.take k) a)]
    .exact l.ext F
    .intro j S;rw[qC H,ae V];omega
  .have x:e.aN.take k=e.aN:=cG V;rw[x]at l;refine X V p ⟨K,?_,bN r ai A⟩
   rw[eZ (g:=λa=>dS (h.take t) a+eK e.aN a)]
   .exact l
   .intro j S;exact MZ r j
 have ei:h.take t=h:=cG V;rw[ei]at B2 ai h3;clear X
 have a1:∀e∈h,∀w∈e.aN,ib h w\/w<1000:=λe s w H=>(ai e s).cases H;have ag:∀e∈h,∀w∈e.aN,1000<=w->ix w<h.length:=λe hm w H N=>by
  rcases a1 e hm w H with h1|h1
  .exact az (cz h1).1
  .omega
 refine⟨λM=>m2=M/\ns h,⟨λh2=>?_,λh2=>⟨rfl,λe s=>?_⟩⟩,?_⟩
 .simp at h2;rw[aS V V];let⟨e,s⟩:=cq h (h.length -1);obtain⟨d,hf,g1,_,_⟩:=(cX.ext Z y).aQ s;have u:Int.toNat ((N.len:Int) -1)=h.length -1:=V;rw[u];refine⟨V,V,e.aV,g1,λh3=>no Z λz=>z.jc e s (by simpa using h3),λh3=>⟨rfl,λak hd=>?_⟩⟩;rw[s]at hd;simp at hd;subst hd;simpa using h3
 .have:=az s;simp at h2;omega
 rintro _ ⟨rfl,bm⟩;refine(rB (Oh B2 V) (by rw[nB];exact bl)).mono ?_;rintro _ L ⟨A,rfl,or,x3⟩;have z3:=x3.size;have B3:=B2.ext x3;have bI:=Z.size;obtain⟨B,aE⟩:∃B:Nat->Nat,B=λj=>if A.EM=false/\j=A.aC then 2 else if j=m.size then 1 else 0:=⟨_,rfl⟩
 have aC:A.EM=false->m2.size<=A.aC/\A.aC<L.size:=λG=>by
  have ah:A≠.nil:=λu=>by rw[u]at G;simp at G
  exact⟨or.aC.resolve_left ah,or.lt.resolve_left ah⟩
 have aV:∀j,j≠m.size->(A.EM=false->j≠A.aC)->B j=0:=λj h4 C=>by
  rw[aE];exact(ae λy=>C y.1 y.2).trans (ae h4)
 have bs:B m.size=1:=by
  rw[aE];exact(ae λy=>oh (aC y.1)).trans (ao rfl)
 have bp:∀j,L.size<=j->B j=0:=λj S=>aV j V λG=>by have:=aC G;omega
 have a_:∀j,j<m.size->B j=0:=λj S=>aV j V λG=>by have:=aC G;omega
 have A3:iG B L aA 1 2 A ((rX h.length (dS h)).map Ce.i):=iG.gG or λah=>by
  rw[aE];refine ao ⟨?_,rfl⟩;cases A with
  |nil=>exact absurd rfl ah
  |_=>rfl
 have bz:=Ub A3;clear aC aV aE;have aI:∀{b a6:Nat->Nat}{M M':E},dN (λk=>k=2\/k=6) b M a6 M'->To b M a6 M':=λs=>s.mono λk z=>V;have aL:∀{b:Nat->Nat}{M:E},dN (λk=>k=2\/k=6) B L b M->J m M:=λs=>((aI s).cL (Z.trans x3) a_).1;have a5:∀{b:Nat->Nat}{M:E},dN (λk=>k=2\/k=6) B L b M->cB M m.size aA ((rX h.length (dS h)).map Ce.i):=λs=>B3.congr (s.fU _ B3.lt (by rw[bs];decide));have bq:iG B L aA 1 6 .nil (([]:List Int).map Ce.i):=⟨aJ,aJ,Or.inl rfl⟩;refine⟨A,rfl,dE (σ:=O) (n:=h.length) V (λk P M=>∃b W,dN (λk=>k=2\/k=6) B L b M/\iG b M aA 1 2 A ((rX h.length (dS h)).map Ce.i)/\iG b M aA 1 6 P ((UT W).map Ce.i)/\W.Nodup/\(∀a∈W,a<k)/\(∀a,a<k->(dS h a=0<->a∈W))/\
  ∀(a:Nat)(e:bU),a<k->h[a]? =some e->0<e.aV->dS h a<=e.aV/\e.aV<=999999) ⟨B,[],dN.aH _ bp,A3,bq,aJ,aJ,aJ,aJ⟩ ?_⟩
 rintro k P I I2 μ2 z ⟨Y,W,C4,A4,W4,an,aj,aH,aB⟩ X
 have X4:=aL C4;refine dit (λh4=>?_) λh4=>?_
 .have al:k<h.length:=V;let⟨e,aa⟩:=dJ al;let⟨d,hf,g0,g1,g2⟩:=(cX.ext X4 y).aQ aa;rw[am];refine⟨V,V,e.aV,g0,e.mJ,g1,d,g2,?_⟩;intro U p;have K:J I p:=((J.aH I).aR _).aj (ad _) _ _;have s6:p.size=I.size+1:=by simp[p,U,aD]
  clear_value p;have ar:dN (λk=>k=2\/k=6) Y I Y p:=dN.fK _ K C4.new;have C6:=C4.trans ar;have F6:dN (λ_=>False) Y I Y p:=dN.fK _ K C4.new;have A6:=A4.fI F6 id;have W6:=W4.fI F6 id;have g6:=sY (a5 C6) al;have fX:(0<e.aV->dS h k<=e.aV/\e.aV<=999999)->∀(a:Nat)(e:bU),a<k+1->h[a]? =some e->0<e.aV->dS h a<=e.aV/\e.aV<=999999:=λG a ak o hd=>by
   rcases aX a k with Q|Q
   .exact aB a ak Q hd
   .have:a=k:=V;subst this;rw[aa]at hd;simp at hd;subst hd;exact G
  have jZ:(0<e.aV->dS h k<=e.aV/\e.aV<=999999)->((0:Int)<=k/\(k:Int)<(h.length:Int)/\∃r:Int,af p m.size (k*1)=some (vi r)/\
   ((r==(0:Int))=true->let x:E:=p.push (.cells (bE [.i (k:Int)]) 3)
    jb x 3 [.i (0:Int)] 8 P (O.mk p.size 0 1 1) λD l=>eF [I.size] x l/\I2 D (cQ ((k:Int)+(1:Int))) l/\μ2 D (cQ ((k:Int)+(1:Int))) l<μ2 P k I)/\
   ((r==(0:Int))=false->I2 P (cQ ((k:Int)+(1:Int))) p/\μ2 P (cQ ((k:Int)+(1:Int))) p<μ2 P k I)):=λG=>by
   refine⟨V,V,_,by rw[cT];exact g6,λD=>?_,λD=>?_⟩
   .intro q
    have F:J p q:=(J.aH p).aR _
    have k7:cB q p.size 3 [.i (k:Int)]:=cB.push p _ _
    have s7:q.size=p.size+1:=by simp[q]
    have F7:dN (λ_=>False) Y p Y q:=dN.fK _ F C6.new
    have C7:dN (λk=>k=2\/k=6) B L Y q:=C6.trans (dN.fK _ F C6.new)
    have aw:=W6.len
    simp[Jw]at aw
    have ax:W.length<=h.length:=EN _ _ an λa o=>by have:=aj a o;omega
    refine iG.append (zs:=[.i 0]) (c:=[.i (k:Int)]) (W6.fI F7 id) C7.new aJ k7.jD (by simp only[O.dU];omega) λr a4 m8 a8 c8=>⟨(aI (c8.mono λl hj=>Or.inr hj)).de (by simp;exact⟨V,C4.new _ (ad _)⟩),?_⟩
    refine X V _ _ ⟨r,W++[k],C7.trans (c8.mono λl hj=>Or.inr hj),(A6.fI F7 id).fI c8 bo,by rw[JZ];simpa using a8,?_,λa o=>?_,λa o=>?_,fX G⟩
    .rw[List.nodup_append]
     refine⟨an,aJ,λx T ay R u=>?_⟩
     simp at R;subst R;subst u;have:=aj _ T;omega
    .rcases List.mem_append.1 o with o|o
     .have:=aj a o;omega
     .simp at o;omega
    .rcases aX a k with R|R
     .rw[aH a R];simp;omega
     .have:a=k:=V
      subst this
      simp at D;simp[D]
   .refine X V _ _ ⟨Y,W,C6,A6,W6,an,λa o=>oh (aj a o),λa o=>?_,fX G⟩
    rcases aX a k with R|R
    .exact aH a R
    .have:a=k:=V
     subst this
     simp at D
     simp only[D,false_iff]
     intro hm;have:=aj _ hm;omega
  refine⟨λC=>⟨V,V,_,by rw[cT];exact g6,λQ=>no (X4.trans K) λz=>?_,λQ=>⟨λD=>no (X4.trans K) λz=>?_,λD=>jZ λ_=>by simp at Q D;omega⟩⟩,λC=>jZ λQ=>by simp at C;omega⟩
  .have:=z.dS k e aa (by simpa using C);simp at Q;omega
  .have:=(z.cells e (av aa)).hi;simp at D;omega
 have be:k=h.length:=V;subst be;clear X h4
 have bc:∀e∈h,nD h e:=λe s=>by
  let⟨a,o⟩:=List.mem_iff_getElem?.1 s;refine(ai e s).ok ?_;rcases tg 0 e.aV with N|N
  .exact(aB a e (az o) o N).2
  .omega
 have bk:∀(a:Nat)(e:bU),h[a]? =some e->0<e.aV->dS h a<=e.aV:=λa e o N=>(aB a e (az o) o N).1;have bg:∀mk a,gH mk 0 h a<=3*h.length:=λmk a=>by
  have:=Pl mk 0 h a;have:=AQ h a λe hm=>(ai e hm).fl;omega
 have K0:Gj h (λ_=>false) W (gH (λ_=>false) 0 h):=⟨an,λa o=>⟨aj a o,rfl⟩,λa o=>by rw[Dd,aH a o];simp⟩;have c0:lT (λ_=>false) h.length=0:=by
  generalize h.length=c;induction c with
  |zero=>rfl
  |succ c K=>simp[lT,K]
 refine Rv (γ:=(Nat->Bool)×List Nat) (λK P a3 M=>∃b,a3=(lT K.1 h.length:Nat)/\dN (λk=>k=2\/k=6) B L b M/\iG b M aA 1 2 A ((rX h.length (gH K.1 0 h)).map Ce.i)/\iG b M aA 1 6 P ((UT K.2).map Ce.i)/\Gj h K.1 K.2 (gH K.1 0 h)/\Sy h K.1)
  (λK=>h.length -lT K.1 h.length) (λ_=>false,W) ⟨Y,by rw[c0];rfl,C4,by rw[eZ (g:=dS h) λj _=>Dd 0 h j];exact A4,W4,K0,λ_=>0,aJ,aJ⟩ ?_
 clear C4 A4 W4 K0 c0 X4 an aj aH aB;rintro⟨mk,W⟩ P a3 U I3 μ3 ⟨aa,rfl,C5,A5,W5,K5,O5⟩ X
 simp only at A5 W5 K5 O5 X
 have X5:=aL C5;have aw:=W5.len;simp[Jw]at aw;have bu:=K5.len;refine⟨λC=>?_,λC=>?_⟩
 .simp only[iX,aq]at C;have ah:W≠[]:=λu=>by subst u;simp at aw;omega
  obtain⟨W',a,rfl⟩:∃W' a,W=W'++[a]:=⟨W.dropLast,W.getLast ah,(iE ah).symm⟩;rw[JZ]at W5;let⟨p1,p2,p3⟩:=W5.Vg;rw[Jw]at p1 p2 p3;have e1:cQ ((P.len:Int) -1)=(W'.length:Int):=by rw[aS V V];omega
  let⟨ax,aN⟩:=K5.un a aJ;let⟨e,ay⟩:=dJ ax;have ab:=av ay;have bd:=(ai e ab).fl;let⟨d,hf,g0,g1,g2⟩:=(cX.ext X5 y).aQ ay;rw[e1,am];have bA:=W5.le;refine⟨V,V,a,p2,V,V,?_⟩;rw[am];refine⟨e.aV,g0,e.mJ,g1,d,g2,?_⟩;intro p q;have F:J U q:=((J.aH U).aR _).aj (ad _) _ _;have s7:q.size=U.size+1:=by simp[q,p,aD]
  clear_value q;have F7:dN (λ_=>False) aa U aa q:=dN.fK _ F C5.new;have C7:dN (λk=>k=2\/k=6) B L aa q:=C5.trans (dN.fK _ F C5.new);have bw:=hf.len;have hz:gH mk 0 h a=0:=(K5.zero a ax).2 (Or.inr aJ);have O7:=O5.set ax aN hz;have aT:=λx=>MX (mk:=mk) (e:=0) ay (by rw[bG];exact aN) x;simp only[bG]at aT;have es:=yJ aN ax;have bv:=Er (j7 mk a) h.length;have K7:Gj h (j7 mk a) W' (λx=>gH (j7 mk a) 0 h x+eK (e.aN.drop 0) x):=by
   have:=K5.Vg;refine⟨this.Kr,this.un,λx T=>?_⟩;rw[<-this.zero x T,aT,List.drop_zero];constructor<;>intro h<;>omega
  refine⟨V,V,V,dE (σ:=O) (n:=e.aN.length) V (λl wk M=>∃b W2,dN (λk=>k=2\/k=6) aa q b M/\iG b M aA 1 2 A ((rX h.length (λx=>gH (j7 mk a) 0 h x+eK (e.aN.drop l) x)).map Ce.i)/\iG b M aA 1 6 wk ((UT W2).map Ce.i)/\Gj h (j7 mk a) W2 (λx=>gH (j7 mk a) 0 h x+eK (e.aN.drop l) x))
   ⟨aa,W',dN.aH _ C7.new,?_,?_,K7⟩ ?_⟩
  .have:=A5.fI F7 id;rw[eZ (g:=gH mk 0 h) λj _=>by simp only[aT,List.drop_zero];omega];exact this
  .exact p3.fI F7 id
  rintro l wk m8 I4 μ4 hj ⟨r,W2,C8,A8,W8,K8⟩ aU;have X8:=aL (C7.trans C8);have T8:=aI C8;have r7:U.size<m8.size/\r U.size=0:=⟨by have:=C8.size;omega,by rw[C8.jy _ V];exact C5.new _ (ad _)⟩;refine dit (λQ=>?_) λQ=>?_
  .let⟨w,H⟩:=cq e.aN l;have ap:=av H;have ba:=aR e ab w ap;have a2:e.aN.drop l=w::e.aN.drop (l+1):=by
    rw[lC (az H)];congr 1;exact(List.getElem?_eq_some_iff.1 H).2
   obtain⟨f0,aQ,_,_,w2⟩:=y.aQ ay;have er:f0=d:=by have:=X5.af w2;rw[g2]at this;exact(O.Ix.1 (lG this)).symm
   subst er;refine⟨V,V,w,by simpa using(aQ.ext X8).aQ H,(mo (cX.ext X8 y) ba.2).mono ?_⟩;rintro _ m9 ⟨a4,b9,rfl,a0,bj,x9⟩;have z9:=x9.size;have F9:dN (λ_=>False) r m8 r m9:=dN.fK _ x9 C8.new;have C9:dN (λk=>k=2\/k=6) aa q r m9:=C8.trans (dN.fK _ x9 C8.new);have A9:=A8.fI F9 id;have W9:=W8.fI F9 id;refine⟨x9.de bS,a4,b9,rfl,λD=>?_,λD=>?_⟩
   .have ag:=a0.1 D;have ac:=az (cz ag).1;have e9:=bj D;subst e9;have ak:∀x,eK (e.aN.drop l) x=(if x=ix w then 1 else 0)+eK (e.aN.drop (l+1)) x:=λx=>by rw[a2,iy ag.1]
    have bb:=ak (ix w);rw[ao rfl]at bb;have n1:=ET (j7 mk a) 0 h (ix w);have n2:=bg (j7 mk a) (ix w);have n3:=iz (e.aN.drop (l+1)) (ix w);have n4:=kv (e.aN.drop (l+1)) (ix w);have n5:(e.aN.drop (l+1)).length<=3:=bS;let⟨u1,u2,u3⟩:=Xb (d:=λx=>gH (j7 mk a) 0 h x+eK (e.aN.drop l) x) (g:=λx=>gH (j7 mk a) 0 h x+eK (e.aN.drop (l+1)) x) A9 ac (v:=gH (j7 mk a) 0 h (ix w)+eK (e.aN.drop (l+1)) (ix w)) (λj _=>by
     rw[ak];by_cases u:j=ix w
     .subst u;rw[ao rfl]
     .rw[ae u,ae u];omega) C9.new
    refine⟨V,V,_,V2 A9 V ac,V,V,u1,?_⟩;rw[show cQ (gH (j7 mk a) 0 h (ix w)+eK (e.aN.drop l) (ix w) -1)=gH (j7 mk a) 0 h (ix w)+eK (e.aN.drop (l+1)) (ix w)by rw[aS V V];omega];intro K;have ar:dN (λk=>k=2\/k=6) aa q r K:=C9.trans (u3.mono λk z=>Or.inl z);have bF:K.size=m9.size:=aD _ _ _ _;have aK:iG r K aA 1 6 wk ((UT W2).map Ce.i):=W9.fI u3 bo;let⟨v1,v2⟩:=K8.oB (lf':=λx=>gH (j7 mk a) 0 h x+eK (e.aN.drop (l+1)) x) ac (λx=>by
     rw[ak];split<;>omega) (show 0<gH (j7 mk a) 0 h (ix w)+eK (e.aN.drop l) (ix w)by omega)
    have a8:To r m9 r K:=u3.mono λk z=>V;have aW:iG r K aA 1 2 A ((rX h.length (λx=>gH (j7 mk a) 0 h x+eK (e.aN.drop (l+1)) x)).map Ce.i):=u2;clear_value K;clear u2;refine⟨a8.de (by simp;exact⟨V,r7.2⟩),V,V,_,V2 aW V ac,λR=>?_,λR=>aU V _ _ ⟨r,W2,ar,aW,aK,v2 (by simpa using R)⟩⟩;intro al;have a7:J K al:=(J.aH K).aR _;have bn:cB al K.size 3 [.i (ix w:Int)]:=cB.push K _ _;have bH:al.size=K.size+1:=by simp[al]
    have aZ:dN (λ_=>False) r K r al:=dN.fK _ a7 ar.new;have aY:dN (λk=>k=2\/k=6) aa q r al:=ar.trans (dN.fK _ a7 ar.new);have bf:=aK.len;simp[Jw]at bf;have bx:=K8.len;exact iG.append (zs:=[.i 0]) (c:=[.i (ix w:Int)]) (aK.fI aZ id) aY.new aJ bn.jD (by simp only[O.dU];omega) λbr q2 bC a9 aM=>⟨(aI (aM.mono λl hj=>Or.inr hj)).de (by simp;exact⟨V,r7.2⟩),aU V _ _ ⟨br,W2++[ix w],aY.trans (aM.mono λl hj=>Or.inr hj),(aW.fI aZ id).fI aM bo,by rw[JZ];simpa using a9,v1 (by simpa using R)⟩⟩
   .have bi:w<1000:=(a1 e ab w ap).resolve_left (fb a0 D);have ak:∀x,eK (e.aN.drop (l+1)) x=eK (e.aN.drop l) x:=λx=>by
     rw[a2];simp only[eK];rw[ae V];omega
    refine aU V _ _ ⟨r,W2,C9,?_,W9,⟨K8.Kr,K8.un,λx T=>by rw[ak];exact K8.zero x T⟩⟩;rw[eZ (g:=λx=>gH (j7 mk a) 0 h x+eK (e.aN.drop l) x) λj _=>by rw[ak]];exact A9
  .have K:e.aN.drop l=[]:=th V;have D:∀x,gH (j7 mk a) 0 h x+eK (e.aN.drop l) x=gH (j7 mk a) 0 h x:=λx=>by rw[K];simp[eK]
   rw[show cQ ((lT mk h.length:Nat)+1:Int)=((lT (j7 mk a) h.length:Nat):Int)by rw[es,aS V V];omega];refine X (j7 mk a,W2) _ _ m8 ⟨r,rfl,C7.trans C8,?_,W8,⟨K8.Kr,K8.un,λx T=>by have:=K8.zero x T;rw[D]at this;exact this⟩,O7⟩ (by simp only[];omega)
   rw[eZ (g:=λx=>gH (j7 mk a) 0 h x+eK (e.aN.drop l) x) λj _=>(D j).symm];exact A8
 .simp only[iX,bD]at C;have p:W=[]:=List.length_eq_zero_iff.1 V;subst p;have q:=Vd O5 ag λa o l=>((K5.zero a o).1 l).resolve_right aJ;refine⟨_,_,rfl,?_,λ_=>⟨m.size,rfl,ad _,a5 C5⟩,X5⟩;rw[aO,show((lT mk h.length:Nat):Int)=(N.len:Int)<->lT mk h.length=h.length by omega,q];exact⟨λo=>⟨bm,bc,bk,o⟩,λz=>z.LD⟩
end
section
variable{j:cr}{f:be}{m d i:E}{r o e:O}{a b:Nat}
structure Rz(j:cr)(f:be):Prop where
 dW:0<=f.dW/\f.dW<j.cy.length
 pc:0<=f.pc/\f.pc<(dm j f.dW).bt.length
 lr:(f.ax.length:Int)=(dm j f.dW).ax
 lo:(f.bg.length:Int)=(dm j f.dW).ax
 lh:(f.bB.length:Int)=(dm j f.dW).ax
 df:∀(k:Nat)(w o:Int),f.ax[k]? =some w->f.bg[k]? =some o->(gZ w\/1000<=w)/\(0<=o/\o<=999999)
def Rz.bg(h:Rz j f):∀o∈f.bg,0<=o/\o<=999999:=λo b=>by
 let⟨k,a⟩:=List.mem_iff_getElem?.1 b;have:=az a;have d:=h.lr;have e:=h.lo;let⟨w,c⟩:=cq f.ax k;exact(h.df k w o c a).2
def CZ{P Y:O}(R:eY m P Y j)(K:au m r f.ax)(z:au m o f.bg)(he:au m e f.bB):
 dA cv 61 [.agg #[O.v P,O.v Y],.agg #[vi f.dW,vi f.pc,vi f.dst,O.v r,O.v o,O.v e]] m (Rz j f):=by
 apply xI
 simp -zeta only[aG,aF]
 intro L d
 have C:J m d:=((J.aH m).aR _).aR _
 have s1:L.size=m.size+1:=by simp[L]
 have s2:d.size=m.size+2:=by simp[d,s1]
 clear_value d
 have aj:=R.cy.len
 have al:=K.len
 have ag:=z.len
 have ae:=he.len
 have am:=K.fA
 refine⟨λy=>cw (λa=>by have:=a.dW;simp at y;omega) C,λy=>⟨λD=>cw (λa=>by have:=a.dW;simp at D;omega) C,λD=>?_⟩⟩
 simp at y D
 let⟨ac,U⟩:=cq j.cy f.dW.toNat
 have h:dm j f.dW=ac:=by simp[dm,U]
 let⟨pa,pl,pc,ah,ak,aa,k0,k1,k2,k3,k4⟩:=(R.ext C).cy.aQ U
 have ai:=aa.len
 refine⟨y,V,pa,k0,pl,k1,_,k2,_,k3,pc,k4,?_⟩
 intro m3 s
 have x4:J d s:=((J.aH d).aR _).aj (ad _) _ _
 have s4:s.size=d.size+1:=by simp[s,m3,aD]
 clear_value s
 have c:=C.trans x4
 have hl:∀b∈[d.size,L.size,m.size],b<s.size:=bS
 refine⟨λE=>cw (λa=>by have:=a.pc;simp at E;omega) c,λE=>⟨λF=>cw (λa=>by have:=a.pc;rw[h]at this;simp at F;omega) c,λF=>⟨λG=>cw (λa=>by have:=a.lr;rw[h]at this;simp at G;omega) c,λG=>⟨λH=>cw (λa=>by have:=a.lo;rw[h]at this;simp at H;omega) c,λH=>⟨λI=>cw (λa=>by have:=a.lh;rw[h]at this;simp at I;omega) c,λI=>?_⟩⟩⟩⟩⟩
 simp at E F G H I
 refine eu (n:=f.ax.length) V (λk m'=>J s m'/\∀(g:Nat)(w o:Int),g<k->f.ax[g]? =some w->f.bg[g]? =some o->(gZ w\/1000<=w)/\(0<=o/\o<=999999)) ⟨J.aH _,λg w o S=>absurd S (fW _)⟩ ?_
 rintro k X Z μ a ⟨N,W⟩ ab
 refine dit (λh8=>?_) λh8=>?_
 .let⟨w,i⟩:=cq f.ax k
  let⟨t,v⟩:=cq f.bg k
  refine⟨V,V,w,by simpa using(K.ext (c.trans N)).aQ i,(qe w X).aK N hl λb6 q Q an x=>⟨b6,rfl,?_⟩⟩
  have T:af q o.aC (o.off+Int.toNat (k:Int)*1)=some (vi t):=by simpa using(z.ext (c.trans x)).aQ v
  have jZ:(gZ w\/1000<=w)->(0:Int)<=k/\(k:Int)<(o.len:Int)/\∃M:Int,af q o.aC (o.off+Int.toNat (k:Int)*1)=some (vi M)/\((decide (M<(0:Int)))=true->∃l:Bool,vb false=.bool l/\(l=true<->Rz j f)/\J m q)/\
   ((decide (M<(0:Int)))=false->(0:Int)<=k/\(k:Int)<(o.len:Int)/\∃p:Int,af q o.aC (o.off+Int.toNat (k:Int)*1)=some (vi p)/\((decide (p>(999999:Int)))=true->∃l:Bool,vb false=.bool l/\(l=true<->Rz j f)/\J m q)/\
   ((decide (p>(999999:Int)))=false->Z (cQ ((k:Int)+(1:Int))) q/\μ (cQ ((k:Int)+(1:Int))) q<μ k X)):=λhi=>
   ⟨V,V,t,T,λp=>cw (λa=>by have:=(a.df k w t i v).2;simp at p;omega) (c.trans x),λp=>⟨V,V,t,T,λl=>cw (λa=>by have:=(a.df k w t i v).2;simp at l;omega) (c.trans x),λl=>ab V _ ⟨x,λg w' o' S B A=>by
    rcases aX g k with u|u
    .exact W g w' o' u B A
    .have:g=k:=V;subst this;rw[i]at B;rw[v]at A;simp at B A;subst B;subst A;simp at p l;exact⟨hi,V⟩⟩⟩⟩
  refine⟨λp=>⟨λl=>cw (λa=>?_) (c.trans x),λl=>jZ (Or.inr (by simp at l;omega))⟩,λp=>jZ (Or.inl (yb Q p))⟩
  rcases(a.df k w t i v).1 with u|u
  .exact nb Q p u
  .simp at l;omega
 .refine jt ⟨V,by rw[h];omega,by rw[h];omega,by rw[h];omega,by rw[h];omega,λg w o i z=>W g w o (oh (az i)) i z⟩ (c.trans N)
structure Iz(a b:Nat)(m m':E):Prop where
 size:m.size<=m'.size
 same:∀c,c<m.size->c≠a->c≠b->m'[c]? =m[c]?
def Iz.aH(a b:Nat)(m:E):Iz a b m m:=⟨ad _,λ_ _ _ _=>rfl⟩
def Iz.ext{g:E}(h:Iz a b m g)(f:J g d):Iz a b m d:=⟨bJ h.size f.size,λc e i j=>by rw[f.same c (aL e h.size)];exact h.same c e i j⟩
def Iz.trans{j:E}(h:Iz a b m j)(i:Iz a b j d):Iz a b m d:=⟨bJ h.size i.size,λc g e f=>by rw[i.same c (aL g h.size) e f];exact h.same c g e f⟩
def Iz.aj{d:E}(h:Iz a b m d){c:Nat}(i:c=a\/c=b)(o:Nat)(l:List Ce):Iz a b m (aj d c o l):=
 ⟨by rw[aD];exact h.size,λx j f g=>by rw[bh l d c o (by rcases i with e|e<;>rw[e]<;>assumption)];exact h.same x j f g⟩
def Iz.FY{f:E}(h:Iz a b m f)(c:J i m)(g:i.size<=a)(j:i.size<=b):J i f:=
 ⟨bJ c.size h.size,λd e=>by rw[h.same d (c.lt e) V V];exact c.same d e⟩
structure WG(h:List bU)(f:be):Prop where
 bg:∀(k:Nat)(w o:Int),f.ax[k]? =some w->f.bg[k]? =some o->0<o->ib h w
 bB:∀w∈f.bB,w≠0->1000<=w/\∃c,h[ix w]? =some c/\c.aV<0
def Vq{w:Int}{n:Nat}(b:uN w)(f:n<=1000000000):(0<=cQ (w -1000)/\cQ (w -1000)<n)<->(1000<=w/\ix w<n):=by
 let⟨c,d⟩:=b;rcases tg w (-9223372036854774808)with a|a
 .have e:cQ (w -1000)=w -1000+18446744073709551616:=by
   unfold cQ;rw[IntKind.wrap_i64];omega
  unfold ix;rw[e];constructor<;>intro h<;>omega
 .unfold ix;rw[aS V V];omega
structure Nv(m:E)(ob hb n:Nat)(fo fh:Nat->Int):Prop where
 bg:cB m ob aA ((rX n fo).map Ce.i)
 bB:cB m hb aA ((rX n fh).map Ce.i)
 ne:ob≠hb
def LQ{hp:O}{h:List bU}{p c:Nat}{l fh:Nat->Int}(x0:J i m)(hh:cX i hp h)(hr:au i r f.ax)(B:au i o f.bg)(he:au i e f.bB)(ai:i.size<=p)(ah:i.size<=c)(T:Nv m p c h.length l fh)
 (ag:Ry f)(ar:h.length<=1000000000)(ap:f.ax.length=f.bg.length/\f.bB.length=f.bg.length/\f.bg.length<=10000000)(aj:∀o∈f.bg,0<=o/\o<=999999)(an:∀a,0<=l a/\l a<=1000000000000000)(am:∀a,0<=fh a/\fh a<=1000000000):
 aP cv 62 [.agg #[vi f.dW,vi f.pc,vi f.dst,O.v r,O.v o,O.v e],O.v hp,O.v (.mk p 0 h.length h.length),O.v (.mk c 0 h.length h.length)] m λv D=>
  ∃b:Bool,v=vb b/\(b=true<->WG h f)/\(b=true->Nv D p c h.length (λa=>l a+cV f.ax f.bg a) (λa=>fh a+eK f.bB a))/\Iz p c m D:=by
 apply vY
 simp -zeta only[aG,aF]
 intro I
 have x1:J m I:=(J.aH m).aR _
 have s1:I.size=m.size+1:=by simp[I]
 clear_value I
 have aK:=hr.len
 have aH:=B.len
 have aC:=he.len
 have aE:=hh.len
 let⟨ay,aA,aB⟩:=ap
 have aM:=T.bg.lt
 have aL:=T.bB.lt
 simp -zeta only[O.dU,O.fO,O.jg,bG]
 have S:∀ac:Nat,Int.toNat (ac:Int)=ac:=λac=>V
 refine eu (n:=f.bg.length) V (λk D=>Iz p c m D/\m.size<D.size/\Nv D p c h.length (λa=>l a+cV (f.ax.take k) (f.bg.take k) a) (λa=>fh a+eK (f.bB.take k) a)/\(∀(j:Nat)(w o:Int),j<k->f.ax[j]? =some w->f.bg[j]? =some o->0<o->ib h w)/\
  (∀w∈f.bB.take k,w≠0->1000<=w/\∃s,h[ix w]? =some s/\s.aV<0)) ⟨(Iz.aH _ _ _).ext x1,V,by simpa[cV,eK]using(⟨T.bg.ext x1,T.bB.ext x1,T.ne⟩:Nv I p c h.length l fh),λj w o hj=>absurd hj (fW _),aJ⟩ ?_
 rintro k d aw μ hk ⟨t2,z2,q,q2,p2⟩ al
 have Q:=t2.FY x0 ai ah
 rw[S,cT]
 refine dit (λh1=>?_) λh1=>?_
 .let⟨w,u⟩:=cq f.ax k
  let⟨t,C⟩:=cq f.bg k
  let⟨v,y⟩:=cq f.bB k
  have gw:∀{M:E},J i M->af M r.aC (r.off+k)=some (vi w):=λH=>by simpa using(hr.ext H).aQ u
  have gq:∀{M:E},J i M->af M o.aC (o.off+k)=some (vi t):=λH=>by simpa using(B.ext H).aQ C
  have gv:∀{M:E},J i M->af M e.aC (e.off+k)=some (vi v):=λH=>by simpa using(he.ext H).aQ y
  have ak:=ag.2.2 v (av y)
  have aI:=aj t (av C)
  refine⟨V,V,t,gq Q,λM=>Iz p c d M/\m.size<M.size/\Nv M p c h.length (λa=>l a+cV (f.ax.take (k+1)) (f.bg.take (k+1)) a) (λa=>fh a+eK (f.bB.take k) a)/\(0<t->ib h w),⟨λW=>?_,λW=>?_⟩,?_⟩
  .have F:0<t:=by simpa using W
   refine⟨V,V,w,gw Q,(mo (cX.ext Q hh) (ag.1 w (av u)).2).mono ?_⟩
   rintro _ m3 ⟨a,b3,rfl,N,U,z⟩
   have z3:=z.size
   refine⟨z.de bS,a,b3,rfl,λx=>⟨false,rfl,?_,aJ,t2.ext z⟩,λx=>?_⟩
   .simp only[ft,false_iff]
    exactλht=>nb N x (ht.bg k w t u C F)
   have L:=yb N x
   have P:=az (cz L).1
   have K:=U (by simpa using x)
   subst K
   have A:=q.bg.ext z
   have R:=q.bB.ext z
   have q1:=ER (ax:=f.ax.take k) (bg:=f.bg.take k) (n:=999999) V (λo B=>aj o (dq B)) (ix w)
   have X:(f.bg.take k).length<=10000000:=bS
   have Y:=an (ix w)
   rw[S,cT]
   refine⟨V,V,_,sY A P,V,V,Nd A P,?_⟩
   rw[show cQ (l (ix w)+cV (f.ax.take k) (f.bg.take k) (ix w)+t)=l (ix w)+cV (f.ax.take k) (f.bg.take k) (ix w)+t from aS V V]
   have G:=HP A (ix w) (l (ix w)+cV (f.ax.take k) (f.bg.take k) (ix w)+t)
   rw[eZ (g:=λa=>l a+cV (f.ax.take (k+1)) (f.bg.take (k+1)) a)]at G
   .exact⟨λb Z=>bh _ _ _ _ (by simp at Z;omega),((Iz.aH _ _ _).ext z).aj (Or.inl rfl) _ _,by rw[aD];omega,⟨G,R.congr (bh _ _ _ _ λe=>q.ne e.symm),q.ne⟩,λ_=>L⟩
   .intro b c
    rw[sH u C]
    by_cases e:b=ix w
    .subst e;rw[ao rfl,ao (iN L.1).symm];omega
    .rw[ae e,ae (λab=>e (by rw[ab,kP]))];omega
  .have F:t=0:=by simp at W;omega
   refine⟨Iz.aH _ _ _,z2,⟨?_,q.bB,q.ne⟩,λhp=>V⟩
   rw[eZ (g:=λa=>l a+cV (f.ax.take k) (f.bg.take k) a)]
   .exact q.bg
   .intro b c;rw[sH u C,F];split<;>omega
  rintro m3 ⟨t3,z3,z,aq⟩
  have F:=t2.trans t3
  have R:=F.FY x0 ai ah
  have fX:∀(j:Nat)(w o:Int),j<k+1->f.ax[j]? =some w->f.bg[j]? =some o->0<o->ib h w:=λj w' o' hj P N=>by
   rcases aX j k with A|A
   .exact q2 j w' o' A P N
   .have:j=k:=V;subst this;rw[u]at P;rw[C]at N;simp at P N;subst P;subst N;exact aq
  have aa:=Vq (n:=h.length) ak ar
  refine⟨V,V,v,gv R,λx=>⟨V,V,v,gv R,?_⟩,λx=>?_⟩
  .have X:v≠0:=by simpa using x
   have ad:∀{M:E},Iz p c m M->¬(1000<=v/\∃s,h[ix v]? =some s/\s.aV<0)->∃b:Bool,vb false=vb b/\(b=true<->WG h f)/\(b=true->Nv M p c h.length (λa=>l a+cV f.ax f.bg a) (λa=>fh a+eK f.bB a))/\Iz p c m M:=λht hn=>
    ⟨false,rfl,by simp only[ft,false_iff];exactλhk=>hn (hk.bB v (av y) X),aJ,ht⟩
   refine⟨λL=>ad F λ⟨g1,s,g2,_⟩=>?_,λL=>⟨λY=>ad F λ⟨g1,s,g2,_⟩=>?_,λY=>?_⟩⟩
   .have:=(aa.2 ⟨g1,az g2⟩).1;simp at L;omega
   .have:=(aa.2 ⟨g1,az g2⟩).2;simp at Y;omega
   simp at L Y
   let⟨g1,g2⟩:=aa.1 ⟨L,V⟩
   have ew:cQ (v -1000)=(ix v:Nat):=by have:=ak.2;unfold ix;rw[aS V V];omega
   rw[ew,S]
   let⟨s,hc⟩:=dJ g2
   obtain⟨cf,_,c0,_,_⟩:=(cX.ext R hh).aQ hc
   refine⟨V,V,s.aV,c0,λA=>ad F λ⟨_,c',U,g4⟩=>?_,λA=>?_⟩
   .rw[hc]at U;simp at U;subst U;simp at A;omega
   have q1:=am (ix v)
   have q2:=kv (f.bB.take k) (ix v)
   have q3:=iz (f.bB.take k) (ix v)
   have q4:(f.bB.take k).length<=10000000:=bS
   rw[cT]
   refine⟨V,V,_,sY z.bB g2,V,V,Nd z.bB g2,?_⟩
   rw[show cQ (fh (ix v)+eK (f.bB.take k) (ix v)+1)=fh (ix v)+eK (f.bB.take k) (ix v)+1 from aS V V]
   have G:=HP z.bB (ix v) (fh (ix v)+eK (f.bB.take k) (ix v)+1)
   rw[eZ (g:=λa=>fh a+eK (f.bB.take (k+1)) a)]at G
   .refine⟨λb Z=>bh _ _ _ _ (by simp at Z;omega),al V _ ⟨F.aj (Or.inr rfl) _ _,by rw[aD];exact z3,⟨z.bg.congr (bh _ _ _ _ q.ne),G,q.ne⟩,fX,bN y p2 λ_=>⟨g1,s,hc,by simp at A;omega⟩⟩⟩
   .intro b c
    rw[qC y]
    by_cases e:b=ix v
    .subst e;rw[ao rfl,ao (iN g1).symm];omega
    .rw[ae e,ae (λab=>e (by rw[ab,kP]))];omega
  .have X:v=0:=by simpa using x
   refine al V _ ⟨F,z3,⟨z.bg,?_,q.ne⟩,fX,bN y p2 λG=>absurd X G⟩
   rw[eZ (g:=λa=>fh a+eK (f.bB.take k) a)]
   .exact z.bB
   .intro b c;rw[qC y,ae V];omega
 .have t:f.ax.take k=f.ax:=cG V
  have x:f.bg.take k=f.bg:=cG V
  have K:f.bB.take k=f.bB:=cG V
  rw[t,x,K]at q
  rw[K]at p2
  exact⟨true,rfl,by simp only[true_iff];exact⟨λj w o u B=>q2 j w o (oh (az u)) u B,p2⟩,λ_=>q,t2⟩
end
section
def Wy(a:List be)(k:Nat)(f:be):Prop:=(mP a k=none->f.dst=0)/\∀p,mP a k=some p->0<=f.dst/\f.dst<p.bg.length/\aQ p.bg f.dst=0
structure Sr(im:cr)(s:St)(k:Nat)(f:be):Prop where
 v:Rz im f
 dst:Wy s.ak k f
 Zm:WG s.heap f
def Sr.ok{c:cr}{s:St}{k:Nat}{f:be}(h:Sr c s k f):JG c s.heap (mP s.ak k) f:=
 ⟨h.v.dW,h.v.pc,h.v.lr,h.v.lo,h.v.lh,⟨λj w o b a=>⟨(h.v.df j w o b a).1,(h.v.df j w o b a).2,h.Zm.bg j w o b a⟩⟩,h.dst.1,h.dst.2⟩
def QP.w{m:cr}{s:St}(h:QP m s){k:Nat}{f:be}(d:s.ak[k]? =some f):Sr m s k f:=by
 have F:=h.ak k f d;refine⟨⟨F.dW,F.pc,F.lr,F.lo,F.lh,λj w o b c=>⟨(F.ax.df j w o b c).1,(F.ax.df j w o b c).2.1⟩⟩,⟨F.first,F.next⟩,λj w o b c=>(F.ax.df j w o b c).2.2,λw b q=>?_⟩;let⟨g,n⟩:=(h.bB.dC f (av d) w b).resolve_left q;let⟨e,i⟩:=dJ n;refine⟨g,e,i,Int.not_le.1 λp=>?_⟩;have r:=h.bB.mD _ e i p;have t:=O9 (av d) (b:=ix w);have u:=tV (l:=f.bB) (f:=ix w) (by rw[iN g];exact b);omega
section
variable{m:E}{d p bC c b:O}{a:cr}{s:St}
def C1(aR:eY m d p a)(aW:Ej a)(Q:fQ m bC c b s)(ab:vO s):dA cv 28 [.agg #[O.v d,O.v p],Ox s bC c b] m (iT a s):=by
 apply xJ;simp -zeta only[aG,aF];intro m1 L;have x2:J m L:=((J.aH m).aR _).aR _;have s1:m1.size=m.size+1:=by simp[m1]
 have s2:L.size=m.size+2:=by simp[L,s1]
 clear_value L;have hl:∀x∈[m1.size,m.size],x<L.size:=bS;have aO:=Q.ak.len;have a7:=Q.heap.len;have a8:=ab.lh;have t:∀{M:E},J L M->¬QP a s->∃A:Bool,vb false=.bool A/\(A=true<->iT a s)/\J m M:=λhx I=>cw (λh=>I (JU h)) (x2.trans hx);have aq:(s.ak=[])<->((b.len:Int)=0):=by rw[aO];simp
 refine⟨λM=>J L M/\(0<=s.cY/\s.cY<=3)/\(s.cY=0<->s.ak=[])/\gZ s.value/\(s.value≠0->s.cY=0),?_,?_⟩
 .refine⟨λy=>t (J.aH _) λi=>by have:=i.cY;simp at y;omega,λy=>⟨λv=>t (J.aH _) λi=>by have:=i.cY;simp at v;omega,λv=>⟨λF=>t (J.aH _) λi=>?_,λF=>?_⟩⟩⟩
  .have:=i.done;rw[aq,<-Em]at this;rw[this]at F;cases F
  have ah:0<=s.cY/\s.cY<=3:=by simp at y v;omega
  have ag:s.cY=0<->s.ak=[]:=by rw[aq];exact(Em _ _).1 F
  refine(qe _ _).aK (J.aH _) hl λb3 m3 e C _=>⟨b3,rfl,λz=>t C λi=>nb e z i.value,λz=>⟨λf=>⟨λh=>t C λi=>?_,λh=>⟨C,ah,ag,yb e z,λ_=>by simpa using h⟩⟩,λf=>⟨C,ah,ag,yb e z,λh=>by simp at f;exact absurd f h⟩⟩⟩;have:=i.tf (by simpa using f);simp at h;exact h this
 rintro m3 ⟨C,ah,ag,hv,a0⟩;refine⟨λy=>t C λi=>by have:=i.eH;simp at y;omega,λy=>⟨λv=>t C λi=>by have:=i.eH;simp at v;omega,λv=>⟨λF=>t C λi=>by have:=i.bO;simp at F;omega,λF=>⟨λz=>t C λi=>by have:=i.bO;simp at z;omega,λz=>?_⟩⟩⟩⟩;have aU:0<=s.eH/\s.eH<=40:=by simp at y v;omega
 have aL:0<=s.bO/\s.bO<=s.eH:=by simp at F z;omega
 rw[aS V V];refine⟨λf=>t C λi=>by have:=i.depth;simp at f;omega,λf=>?_⟩;have aM:(s.ak.length:Int)<=s.bO+1:=by simp at f;omega
 clear y v F z f;have X3:=x2.trans C;refine(rq (Q.ext X3).heap ab.heap V).mono ?_;rintro _ m4 ⟨ct,b4,rfl,ao,aZ,aB⟩;have x4:=C.trans aB;have z4:=x4.size;have z3:=C.size;refine⟨aB.de λx H=>C.lt (hl x H),ct,b4,rfl,λy=>t x4 λi=>nb ao y i.heap,λy=>?_⟩;have au:=yb ao y;obtain⟨ob,rfl,a9,B4⟩:=aZ (by simpa using y);have bc:=B4.lt;refine(mw (Q.ext (x2.trans x4)).bC 60 #[] #[] bo (λai=>¬gZ ai) (λai _ m' hx=>?_)).aK x4 hl ?_
 .apply va;refine(qe _ _).then λx G H x5=>⟨x,rfl,fV ?_ x5⟩;rw[<-H];simp
 intro b5 G ap aC x5;have z5:=x5.size;have bf:=aC.size;refine⟨b5,rfl,λv=>t x5 λi=>?_,λv=>?_⟩
 .let⟨ai,hx,I⟩:=ap.1 v;exact I (i.bC ai hx)
 have aY:∀Z∈s.bC,gZ Z:=λZ I=>eU λB=>by have:=ap.2 ⟨Z,I,B⟩;rw[v]at this;cases this
 have en:Int.toNat (c.len:Int)=s.heap.length:=V;rw[en];refine⟨V,V,V,V,?_⟩;intro R;have aE:J G R:=(J.aH G).aR _;have s6:R.size=G.size+1:=by simp[R]
 have H6:cB R G.size aA ((rX s.heap.length (λ_=>0)).map Ce.i):=Ll G _;clear_value R;have x6:=x5.trans aE;have X6:=x2.trans x6;have T6:Nv R ob G.size s.heap.length (dS s.heap) (λ_=>0):=⟨B4.ext (aC.trans aE),H6,V⟩;have aV:m.size<=ob:=by have:=X3.size;omega
 have ak:∀Z:Nat,Int.toNat (Z:Int)=Z:=λZ=>V;have a6:s.ak.length<=41:=V;have rb:∀e,0<=dS s.heap e/\dS s.heap e<=3*s.heap.length:=λe=>⟨qu _ _,AQ _ _ λo B=>(au.cells o B).fl⟩;refine eu (n:=s.ak.length) V (λj M=>Iz ob G.size R M/\Nv M ob G.size s.heap.length (λe=>dS s.heap e+fj (s.ak.take j) e) (λe=>holds (s.ak.take j) e)/\∀(q:Nat)(l:be),q<j->s.ak[q]? =some l->Sr a s q l)
  ⟨Iz.aH _ _ _,by simpa[fj,holds]using T6,λq l K=>absurd K (fW _)⟩ ?_
 rintro j W a5 μ i ⟨t7,N,al⟩ a1
 have x7:J L W:=t7.FY x6 V V;have P:=x2.trans x7;have ba:∀x∈[m1.size,m.size],x<W.size:=λx H=>x7.lt (hl x H);have z7:=x7.size;have bb:=N.bg.lt;have a_:=N.bB.lt;rw[ak];refine dit (λF=>?_) λF=>?_
 .let⟨l,r⟩:=cq s.ak j;have ar:=av r;let⟨a3,a2,ac,hr,ho,U,g0,g1,g2,g3,g4,g5⟩:=Q.ak.aQ r;refine⟨V,V,_,P.af g0,_,P.af g1,_,P.af g2,a3,P.af g3,a2,P.af g4,ac,P.af g5,?_⟩;intro X Y;have T:J W Y:=((J.aH W).aR _).aj (ad _) _ _;have s9:Y.size=W.size+1:=by simp[Y,X,aD]
  clear_value Y;have X9:=P.trans T;have l9:∀x∈[W.size,m1.size,m.size],x<Y.size:=bS;refine(CZ (aR.ext X9) (hr.ext X9) (ho.ext X9) (U.ext X9)).aK (J.aH _) l9 λaI w am D _=>⟨aI,rfl,λz=>t ((x7.trans T).trans D) λi=>nb am z (i.w r).v,λz=>?_⟩;have hV:=yb am z;have S:=(x7.trans T).trans D;have ae:=x2.trans S;refine⟨λM=>w=M/\Wy s.ak j l,?_,?_⟩
  .have aw:(cQ ((j:Int) -1)=((j -1:Nat):Int))\/j=0:=by
    rcases iS j with f|f
    .exact Or.inr f
    .exact Or.inl (by rw[aS V V];omega)
   have jZ:0<j->((decide (l.dst<(0:Int)))=true->∃A:Bool,vb false=.bool A/\(A=true<->iT a s)/\J m w)/\((decide (l.dst<(0:Int)))=false->
    (0:Int)<=(cQ ((j:Int) -(1:Int)))/\(cQ ((j:Int) -(1:Int)))<(b.len:Int)/\
    ∃aa:O,af w b.aC (b.off+Int.toNat (cQ ((j:Int) -(1:Int)))*6+4)=some (O.v aa)/\
    ((decide (l.dst>=(aa.len:Int)))=true->∃A:Bool,vb false=.bool A/\(A=true<->iT a s)/\J m w)/\
    ((decide (l.dst>=(aa.len:Int)))=false->(0:Int)<=(cQ ((j:Int) -(1:Int)))/\(cQ ((j:Int) -(1:Int)))<(b.len:Int)/\
    ∃u:O,af w b.aC (b.off+Int.toNat (cQ ((j:Int) -(1:Int)))*6+4)=some (O.v u)/\
    (0:Int)<=l.dst/\l.dst<(u.len:Int)/\∃aj:Int,af w u.aC (u.off+Int.toNat l.dst*1)=some (vi aj)/\
    ((aj !=(0:Int))=true->∃A:Bool,vb false=.bool A/\(A=true<->iT a s)/\J m w)/\((aj !=(0:Int))=false->w=w/\Wy s.ak j l))):=λaK=>by
    have e1:=aw.resolve_right V
    rw[e1,ak]
    obtain⟨q,rfl⟩:∃q,j=q+1:=⟨j -1,V⟩
    have ej:q+1 -1=q:=V
    rw[ej]
    let⟨pf,aj⟩:=cq s.ak q
    let⟨pr,po,pe,aN,an,aH,y0,y1,y2,y3,y4,y5⟩:=Q.ak.aQ aj
    have aJ:=an.len
    have aa:mP s.ak (q+1)=some pf:=aj
    refine⟨λf=>t S λi=>?_,λf=>⟨V,V,po,ae.af y4,λh=>t S λi=>?_,λh=>⟨V,V,po,ae.af y4,by simpa using f,by simp at h;omega,aQ pf.bg l.dst,?_,λu=>t S λi=>?_,λu=>⟨rfl,⟨λI=>(by rw[aa]at I;cases I),λay hq=>?_⟩⟩⟩⟩⟩
    .have:=((i.w r).dst.2 pf aa).1;simp at f;omega
    .have:=((i.w r).dst.2 pf aa).2.1;simp at h;omega
    .simp at f h
     exact(an.ext ae).Gs f V
    .have:=((i.w r).dst.2 pf aa).2.2;simp at u;exact u this
    .rw[aa]at hq;simp at hq;subst hq
     simp at f h u;exact⟨f,V,u⟩
   refine⟨λf=>⟨λh=>t S λax=>?_,λh=>⟨λu=>by simp at f u;omega,λu=>⟨rfl,⟨λ_=>by simpa using h,λay hq=>?_⟩⟩⟩⟩,λf=>⟨λh=>jZ (by simp at h;omega),λh=>by simp at f h;omega⟩⟩
   .simp at f;subst f;have:=(ax.w r).dst.1 rfl;simp at h;exact h this
   .simp at f;subst f;simp[mP]at hq
  .rintro _ ⟨rfl,hD⟩;have aT:=ab.lr l ar;have v1:=hV.lr;have v2:=hV.lo;have v3:=hV.lh;have bd:=D.size;have aH:Nv w ob G.size s.heap.length (λe=>dS s.heap e+fj (s.ak.take j) e) (λe=>holds (s.ak.take j) e):=⟨N.bg.ext (T.trans D),N.bB.ext (T.trans D),N.ne⟩;have aP:∀e,0<=dS s.heap e+fj (s.ak.take j) e/\dS s.heap e+fj (s.ak.take j) e<=1000000000000000:=λe=>by
    have q1:=rb e;have q2:=JC (a:=s.ak.take j) (n:=10000000) (k:=999999) V (λaa u=>⟨(ab.lr aa (dq u)).2.1,by
     let⟨q,K⟩:=List.mem_iff_getElem?.1 u;have aj:q<j:=by have:=az K;simp at this;omega
     rw[dz aj]at K;exact(al q aa aj K).v.bg⟩) e
    have q3:(s.ak.take j).length<=41:=bS;omega
   have aN:∀e,0<=holds (s.ak.take j) e/\holds (s.ak.take j) e<=1000000000:=λe=>by
    have q2:=Kf (a:=s.ak.take j) (n:=10000000) (λaa u=>(ab.lr aa (dq u)).2.2) e;have q3:(s.ak.take j).length<=41:=bS;have q4:=uV (s.ak.take j) e;omega
   refine(LQ (i:=m) ae Q.heap hr ho U aV V aH (ab.ak l ar) V ⟨V,V,aT.2.1⟩ hV.bg aP aN).mono ?_;rintro _ aw ⟨aJ,rfl,an,aK,ax⟩;have ay:Iz ob G.size R aw:=(t7.ext (T.trans D)).trans ax;have a4:J L aw:=ay.FY x6 V V;refine⟨λx H=>ax.same x (D.lt (l9 x H)) (by simp at H;omega) (by simp at H;omega),aJ,rfl,λf=>t a4 λi=>nb an f (i.w r).Zm,λf=>a1 V _ ⟨ay,?_,λq aa K u=>?_⟩⟩
   .have aj:=aK (by simpa using f);refine⟨?_,?_,aj.ne⟩
    .rw[eZ (g:=λe=>dS s.heap e+fj (s.ak.take j) e+cV l.ax l.bg e)]
     .exact aj.bg
     .intro x H;rw[MT r];omega
    .rw[eZ (g:=λe=>holds (s.ak.take j) e+eK l.bB e)]
     .exact aj.bB
     .intro x H;rw[Kg r]
   .rcases aX q j with h|h
    .exact al q aa h u
    .have:q=j:=V;subst this;rw[r]at u;simp at u;subst u;exact⟨hV,hD,yb an f⟩
 rw[cG V]at N;have hW:∀(q:Nat)(l:be),s.ak[q]? =some l->Sr a s q l:=λq l r=>al q l (oh (az r)) r;refine eu (n:=s.heap.length) V (λj M=>J W M/\∀(e:Nat)(o:bU),e<j->s.heap[e]? =some o->(0<o.aV->o.aV=dS s.heap e+fj s.ak e)/\(o.aV<0->holds s.ak e=1)) ⟨J.aH _,λe o ha=>absurd ha (fW _)⟩ ?_;rintro u X I2 μ2 ar ⟨x8,aj⟩ an;have X8:=P.trans x8;rw[ak];refine dit (λz=>?_) λz=>?_
 .have ae:u<s.heap.length:=V;let⟨o,aa⟩:=dJ ae;obtain⟨l,_,g0,g1,g2⟩:=Q.heap.aQ aa;refine⟨λM=>J X M/\(0<o.aV->o.aV=dS s.heap u+fj s.ak u)/\(o.aV<0->holds s.ak u=1),?_,?_⟩
  .refine⟨V,V,_,X8.af g0,_,X8.af g1,l,X8.af g2,?_⟩;intro Y w;have D:J X w:=((J.aH X).aR _).aj (ad _) _ _;clear_value w;have S:=(x7.trans x8).trans D;have go:=sY (N.bg.ext (x8.trans D)) ae;have gh:=sY (N.bB.ext (x8.trans D)) ae;simp -zeta only[O.dU,O.fO,O.jg,bG,cT];have bB:(0<o.aV->o.aV=dS s.heap u+fj s.ak u)->((decide (o.aV<(0:Int)))=true->(0:Int)<=u/\(u:Int)<(s.heap.length:Int)/\∃am:Int,af w G.size u=some (vi am)/\
    ((am !=(1:Int))=true->∃A:Bool,vb false=.bool A/\(A=true<->iT a s)/\J m w)/\((am !=(1:Int))=false->J X w/\(0<o.aV->o.aV=dS s.heap u+fj s.ak u)/\(o.aV<0->holds s.ak u=1)))/\
    ((decide (o.aV<(0:Int)))=false->J X w/\(0<o.aV->o.aV=dS s.heap u+fj s.ak u)/\(o.aV<0->holds s.ak u=1)):=λB=>
    ⟨λf=>⟨V,V,_,gh,λh=>t S λi=>by have:=i.bB.kH u o aa (by simpa using f);simp at h;exact h this,λh=>⟨D,B,λ_=>by simpa using h⟩⟩,λf=>⟨D,B,λh=>by simp at f;omega⟩⟩
   refine⟨λf=>⟨V,V,_,go,λh=>t S λi=>?_,λh=>bB λ_=>by simpa using h⟩,λf=>bB λh=>by simp at f;omega⟩;have:=i.P9 u o aa (by simpa using f);simp at h;exact h this
  .rintro Y ⟨T,w,D⟩;refine an V _ ⟨x8.trans T,λe ac ha U=>?_⟩;rcases aX e u with h|h
   .exact aj e ac h U
   .have:e=u:=V;subst this;rw[aa]at U;simp at U;subst U;exact⟨w,D⟩
 .refine jt (Lh ⟨aW,ah,ag,hv,a0,aU,aL,aM,aY,au,λq l r=>(hW q l r).ok,⟨λl r w h=>?_,λS o B I=>(aj S o (oh (az B)) B).2 I,λS o B I=>?_⟩,λe o B c=>(aj e o (oh (az B)) B).1 c⟩) X8
  .let⟨q,K⟩:=vd r;by_cases D:w=0
   .exact Or.inl D
   .obtain⟨y,o,v,_⟩:=(hW q l K).Zm.bB w h D;exact Or.inr ⟨y,az v⟩
  .refine Kh λl r w h ac=>?_;let⟨q,K⟩:=vd r;let⟨y,D,v,F⟩:=(hW q l K).Zm.bB w h V;rw[ac,kP,B]at v;simp at v;subst v;omega
def nJ(k:eY m d p a)(r:fQ m bC c b s)(q:vO s):dA cv 9 [.agg #[O.v d,O.v p],Ox s bC c b] m (iT a s):=by
 apply xG;simp -zeta only[aG,aF];intro i e;have f:J m e:=((J.aH m).aR _).aR _;have t:i.size=m.size+1:=by simp[i]
 have x:e.size=m.size+2:=by simp[e,t]
 clear_value e;have l:∀n∈[i.size,m.size],n<e.size:=bS;refine(CW (k.ext f)).aK (J.aH _) l λb3 v j g _=>⟨b3,rfl,λh=>?_,λh=>cw (λo=>fb j h o.eT) (f.trans g)⟩;refine(C1 (k.ext (f.trans g)) (j.1 h) (r.ext (f.trans g)) q).aK g l λb4 w o y u=>⟨b4,rfl,fV o (f.trans u)⟩
end
end
end Go.Proofs.YtdalfjkmdekijaaGreat
section
namespace Go.Vc
def gN.kj{m:E}{b o:Nat}{l r:List Ce}(h:gN m b o l)(k:gN m b (o+l.length) r):gN m b o (l++r):=λi d a=>by
 rcases aX i l.length with c|c
 .rw[ay c]at a;exact h i d a
 .rw[aI c]at a;have:=k _ d a;rwa[show o+l.length+(i -l.length)=o+i by omega]at this
end Go.Vc
namespace Go.Proofs.YtdalfjkmdekijaaGreat
open Go.Vc
variable{m:E}{d:Nat->Nat}
def gS.Rm{a:E}{s:O}{l:List Ce}{e n:Nat}(f:gS m a e n s l)(j:J m a)(i:∀b,m.size<=b->d b=0)(k:Nat):∃c,dN (λ_=>False) d m c a/\iG c a e n k s l/\∀b,c b=d b\/c b=k:=by
 rcases f.aQ with h|⟨b,g,tail,h,h2,h3,h4,h5⟩
 .exact⟨d,dN.fK _ j i,iG.gG f λo=>absurd h o,λb=>Or.inl rfl⟩
 .refine⟨vM d b k,dN.vM j i h2 h3.lt k,iG.gG f λ_=>by rw[h];exact ji _ _ _,λg=>?_⟩;by_cases e:g=b
  .rw[e];exact Or.inr (ji _ _ _)
  .exact Or.inl (fH e)
def Hh{N:Nat}{z:O}{h:List bU}(L:∀b,m.size<=b->d b=0)(H:∀b,b<m.size->d b≠3)(y:cX m z h)(hN:N<=m.size)(K:∀c∈h,c.aN.length<=3)(ac:h.length<=1000000000):
 aP cv 125 [O.v z] m λY l=>∃e s,Y=O.v s/\eS N e l s h/\dN (λk=>k=3) d m e l/\J m l:=by
 apply Br
 intro A
 have Z:J m A:=(J.aH m).aR _
 clear_value A
 have hl:=y.len
 have X:∀{e:Nat->Nat}{M:E},dN (λk=>k=3) d m e M->J m M:=λc=>⟨c.size,λb a=>c.fU b a (H b a)⟩
 refine dE (σ:=O) (n:=h.length) V (λk s M=>∃e,eS N e M s (h.take k)/\dN (λk=>k=3) d m e M) ⟨d,⟨[],⟨aJ,aJ,Or.inl rfl⟩,by simpa using gU.nil _ _,Xj.nil⟩,dN.fK _ Z L⟩ ?_
 rintro k s T aa μ hk ⟨i,f,a⟩ U
 have v:=X a
 have en:Int.toNat (k:Int)=k:=V
 rw[en]
 refine dit (λG=>?_) λG=>?_
 .let⟨c,j⟩:=cq h k
  let⟨F,I,w,g1,g2⟩:=(cX.ext v y).aQ j
  have ab:=K c (av j)
  refine⟨V,V,c.aV,w,V,V,c.mJ,g1,V,V,F,g2,(fE I V).mono ?_⟩
  rintro _ g ⟨q,rfl,o,r⟩
  refine⟨q,rfl,r.dB g1,r.dB w,?_⟩
  intro b
  have t:J g b:=(J.aH g).aR _
  have S:cB b g.size rZ [.i c.aV,.i c.mJ,.s q]:=cB.push g _ _
  clear_value b
  have p:=r.trans t
  have C:dN (λ_=>False) i T i b:=dN.fK _ p a.new
  have u:dN (λk=>k=3) d m i b:=a.trans (dN.fK _ p a.new)
  have R:au b q c.aN:=(au.gG o V).ext t
  have Q:c.aN≠[]->i q.aC=0:=λP=>a.new _ ((FB.gG o P).1)
  have hz:=a.size
  refine eS.push (f.fI C id id) u.new (x:=.mk g.size 0 1 1) rfl S.jD R (UA.of f (λB=>p.same _ (f.aC B).2) (λ_=>o.ext t) Q V) bS λW ad m5 D B=>?_
  exact U V _ _ ⟨W,by rw[bF j];exact D,u.trans B⟩
 .rw[cG V]at f
  exact⟨i,s,rfl,f,a,v⟩
structure aak(N:Nat)(d:Nat->Nat)(m:E)(r:O)(h:List bU)(css0 css:List (List Ce))(k:Nat):Prop where
 sk:iG d m rZ 3 3 r css.flatten
 len:css.length=h.length
 size:∀cs∈css,cs.length=3
 done:∀(j:Nat)(cs:List Ce)(c:bU),j<k->css[j]? =some cs->h[j]? =some c->HV N d m cs c
 jZ:∀j,k<=j->css[j]? =css0[j]?
 sep:∀(i j:Nat)(ci cj:List Ce)(a b:O),i<k->j<k->css[i]? =some ci->css[j]? =some cj->ci[2]? =some (.s a)->cj[2]? =some (.s b)->i≠j->a.len≠0->b.len≠0->a.aC≠b.aC
end Go.Proofs.YtdalfjkmdekijaaGreat
end
namespace Go.Proofs.YtdalfjkmdekijaaGreat
open Go.Vc
section
variable{a e:Nat->Nat}{m g d:E}{p:Nat->Prop}
structure Bs(d:E)(a:Nat->Nat)(m:E):Prop where
 cL:J d m
 kM:∀b,b<d.size->a b=0
 new:∀b,m.size<=b->a b=0
structure se(d:E)(a:Nat->Nat)(m:E)(bC hp fr:O)(s:St):Prop where
 bs:Bs d a m
 bC:iG a m aA 1 2 bC (s.bC.map Ce.i)
 heap:eS d.size a m hp s.heap
 ak:oF a m fr s.ak
structure Gn(s:St):Prop where
 bC:s.bC.length<=900000000
 fl:∀c∈s.heap,c.aN.length<=3
 heap:s.heap.length<=900000000
 depth:s.ak.length<=1000
 ak:∀f∈s.ak,f.ax.length<=1000000/\f.bg.length<=1000000/\f.bB.length<=1000000
def XK(d:E)(a:Nat->Nat)(m:E)(s:St)(v:Value)(g:E):Prop:=∃e bC c b,v=Ox s bC c b/\se d e g bC c b s/\dN (λ_=>False) a m e g
abbrev XA:=dN (λk=>2<=k)
def XA.none(h:XA a m e g)(d:∀b,b<m.size->a b<=1):dN (λ_=>False) a m e g:=⟨h.size,h.jy,h.new,λb c _=>h.fU b c (oh (d b c))⟩
def dN.FY(h:dN (λ_=>False) a m e g):J m g:=⟨h.size,λb c=>h.fU b c id⟩
def Bs.fI(B:Bs d a m)(h:dN (λ_=>False) a m e g):Bs d e g:=⟨B.cL.trans h.FY,λb c=>by rw[h.jy b (B.cL.lt c)];exact B.kM b c,h.new⟩
def dN.aac(h:dN p a m e g){l:List Nat}(d:∀b∈l,b<m.size/\¬p (a b)):eF l m g:=λb c=>h.fU b (d b c).1 (d b c).2
structure Wx(d:E)(a:Nat->Nat)(m:E)(e:Nat->Nat)(M:E)(q r:O)(s:St):Prop where
 fI:XA a m e M
 bC:iG e M aA 1 2 q (s.bC.map Ce.i)
 heap:eS d.size e M r s.heap
def Wx.oB{i j:Nat->Nat}{f g:E}{q r:O}{s:St}(h:Wx d a m i f q r s)(e:dN p i f j g)(c:∀k,p k->4<=k):Wx d a m j g q r s:=
 ⟨h.fI.trans (e.mono λk b=>oh (c k b)),h.bC.fI e λb=>oh (c _ b),h.heap.fI e (λb=>oh (c _ b)) λb=>oh (c _ b)⟩
structure aaj(a:Nat->Nat)(m:E)(r:O)(fs:List be)(css0 css:List (List Ce))(k:Nat):Prop where
 sk:iG a m eE 6 4 r css.flatten
 len:css.length=fs.length
 size:∀cs∈css,cs.length=6
 done:∀(j:Nat)(cs:List Ce)(f:be),j<k->css[j]? =some cs->fs[j]? =some f->Ur a m j cs f
 jZ:∀j,k<=j->css[j]? =css0[j]?
end
section
variable{d:Nat->Nat}{e:E}
abbrev z7:List Ce:=[.i 0,.i 0,.i 0,.i 0,.s .nil,.s .nil,.s .nil]
structure Mw(m0:E)(ro:Nat->Nat)(m m2:E)(s:St)(ro':Nat->Nat)(M:E)(q r:Option O)(ob:Option Nat):Prop where
 fI:XA ro m ro' M
 ext:J m2 M
 Zj:r=none->∀b,ro' b≠3
 box:∀b,m.size<=b->b<m2.size->ro' b=8
 bC:∀x,q=some x->iG ro' M aA 1 2 x (s.bC.map Ce.i)
 heap:∀x,r=some x->eS m0.size ro' M x s.heap
 ob:∀x,ob=some x->m2.size<=x/\ro' x=8/\cB M x kD z7
section
variable{h:E}{i:Nat->Nat}{m g:E}{s:St}{f:Nat->Nat}{M:E}{q r:Option O}{j:Option Nat}
def Mw.fX(k:Mw h i m g s f M q r j)(n:dN (λa=>a=3) f M d e)(p:J M e)(C:∀b,m.size<=b->b<g.size->d b=8){u o:Option O}{t:Option Nat}(z:r=none\/dN (λ_=>False) f M d e)(B:o=none->∀b,d b≠3)
 (w:∀x,u=some x->q=some x\/iG d e aA 1 2 x (s.bC.map Ce.i))(y:∀x,o=some x->r=some x\/eS h.size d e x s.heap)(A:∀x,t=some x->j=some x\/(g.size<=x/\d x=8/\cB e x kD z7)):Mw h i m g s d e u o t:=
 ⟨k.fI.trans (n.mono λa c=>V),k.ext.trans p,B,C,λx c=>(w x c).elim (λa=>(k.bC x a).fI n bo) id,
  λx c=>(y x c).elim (λa=>z.elim (λl=>by rw[l]at a;cases a) λl=>(k.heap x a).fI l id id) id,
  λx c=>(A x c).elim (λa=>by
   let⟨v,b,l⟩:=k.ob x a;exact⟨v,by rw[n.jy _ l.lt];exact b,l.ext p⟩) id⟩
def Mw.Ra(a:Mw h i m g s f M q r j){p:Nat->Prop}(l:dN p f M d e):∀b,m.size<=b->b<g.size->d b=8:=λb k c=>by rw[l.jy b (a.ext.lt c)];exact a.box b k c
def Mw.c(b:Mw h i m g s f M none r j){x:O}(n:gS M e aA 1 x (s.bC.map Ce.i))(k:J M e):∃d,Mw h i m g s d e (some x) r j:=by
 let⟨d,C,A,l⟩:=gS.Rm n k b.fI.new 2;exact⟨d,b.fX (C.mono λ_=>False.elim) k (b.Ra C) (Or.inr C) (λa c=>PO (l c) (b.Zj a c)) (λy a=>Or.inr (by simp at a;subst a;exact A)) (λy a=>Or.inl a) λy a=>Or.inl a⟩
def Mw.a(b:Mw h i m g s f M q r j)(c:J M e):Mw h i m g s f e q r j:=
 have C:dN (λ_=>False) f M f e:=dN.fK _ c b.fI.new
 b.fX (C.mono λ_=>False.elim) c (b.Ra C) (Or.inr C) b.Zj (λy a=>Or.inl a) (λy a=>Or.inl a) λy a=>Or.inl a
def Mw.b(b:Mw h i m g s f M q r none){e:E}(a:e=M.push (.cells (bE z7) kD)):∃d,Mw h i m g s d e q r (some M.size):=by
 have l:J M e:=by rw[a];exact J.push _ _
 have C:dN (λ_=>False) f M (vM f M.size 8) e:=dN.vM l b.fI.new (ad _) (by rw[a];simp) 8;refine⟨_,b.fX (C.mono λ_=>False.elim) l (b.Ra C) (Or.inr C) (λn c=>?_) (λy a=>Or.inl a) (λy a=>Or.inl a) λy j=>Or.inr ?_⟩
 .by_cases k:c=M.size
  .rw[k,ji];decide
  .rw[fH k];exact b.Zj n c
 .simp at j;subst j;exact⟨b.ext.size,ji _ _ _,by rw[a];exact cB.push _ _ _⟩
end
def Fh{w:E}{u:Nat->Nat}{a:E}{bC hp fr:O}{s:St}(ai:Bs w u a)(ar:∀c,u c<=1)(hs:fQ a bC hp fr s)(ag:Gn s):aP cv 78 [Ox s bC hp fr] a (XK w u a s):=by
 apply zy;simp -zeta only[aG,aF];intro v i;have s1:v.size=a.size+1:=by simp[v]
 have s2:i.size=a.size+2:=by simp[i,s1]
 have x2:J a i:=((J.aH a).aR _).aR _;obtain⟨d,an⟩:∃d,d=vM (vM u a.size 8) v.size 8:=⟨_,rfl⟩;have C2:dN (λ_=>False) u a d i:=by
  rw[an];exact(dN.vM (m':=v) (k:=8) ((J.aH a).aR _) ai.new (ad _) V).trans (dN.vM (m':=i) (k:=8) ((J.aH v).aR _) (λc K=>by rw[fH V];exact ai.new c V) (ad _) V)
 have r0:d a.size=8/\d v.size=8:=by rw[an];exact⟨by rw[fH V,ji],ji _ _ _⟩
 have I:Mw w u a i s d i none none none:=by
  refine⟨C2.mono λ_=>False.elim,J.aH _,λ_ c=>?_,λc h1 h2=>?_,aJ,aJ,aJ⟩
  .rw[an];unfold vM;split
   .decide
   .split
    .decide
    .have:=ar c;omega
  .rcases aX c v.size with h|h
   .have:c=a.size:=V;subst this;exact r0.1
   .have:c=v.size:=V;subst this;exact r0.2
 clear_value i;clear an;have hN:=ai.cL.size;have a8:=ag.bC;have a7:=ag.heap;have a4:=ag.depth;have cC:∀{b:Nat->Nat}{M:E}{j:Option O}{l:Option Nat}{Z:Value->E->Prop},Mw w u a i s b M none j l->(∀A g F,Mw w u a i s F g (some A) j l->J M g->M.size<=g.size->Z (O.v A) g)->aP cv 50 [O.v bC] M Z:=λh hK=>
  (fE (hs.bC.ext (x2.trans h.ext)) V).mono λ_ g⟨A,p,z,y⟩=>by
   let⟨F,h'⟩:=h.c z y;rw[p];exact hK A g F h' y y.size
 have cH:∀{b:Nat->Nat}{M:E}{q:Option O}{l:Option Nat}{Z:Value->E->Prop},Mw w u a i s b M q none l->(∀A g F,Mw w u a i s F g q (some A) l->J M g->M.size<=g.size->Z (O.v A) g)->aP cv 125 [O.v hp] M Z:=λ{b M q l Z} h hK=>
  (Hh (N:=w.size) h.fI.new (λc _=>h.Zj rfl c) (hs.ext (x2.trans h.ext)).heap (oh h.ext.size) ag.fl V).mono λ_ g⟨F,A,p,aO,ak,y⟩=>by
   rw[p];exact hK A g F (h.fX ak y (h.Ra ak) (Or.inl rfl) (λp=>by cases p) (λe p=>Or.inl p) (λe p=>Or.inr (by simp at p;subst p;exact aO)) λe p=>Or.inl p) y y.size
 have kp:∀{M g:E},J M g->i.size<=M.size->∀L,af g a.size L=af M a.size L:=λy az L=>aM (y.same _ V) L;refine⟨λz M=>z.2=0/\∃b q j fb,Wx w u a b M q j s/\i.size<=z.1/\i.size<=M.size/\b z.1=8/\b a.size=8/\b v.size=8/\cB M z.1 kD [.i s.cY,.i s.value,.i s.bO,.i s.eH,.s q,.s j,.s (.mk fb 0 0 0)],?_,?_⟩
 .have hO:∀{b:Nat->Nat}{M:E}{q j:O}{l fb:Nat},Mw w u a i s b M (some q) (some j) (some l)->(λ(z:Nat×Nat) M=>z.2=0/\∃b q j fb,Wx w u a b M q j s/\i.size<=z.1/\i.size<=M.size/\b z.1=8/\b a.size=8/\b v.size=8/\cB M z.1 kD [.i s.cY,.i s.value,.i s.bO,.i s.eH,.s q,.s j,.s (.mk fb 0 0 0)]) (l,0) (aj M l 0 [.i s.cY,.i s.value,.i s.bO,.i s.eH,.s q,.s j,.s (.mk fb 0 0 0)]):=λ{b M q j l fb} h=>by
   let⟨G,c,aq⟩:=h.ob l rfl;have ak:dN (λe=>e=8) b M b (aj M l 0 [.i s.cY,.i s.value,.i s.bO,.i s.eH,.s q,.s j,.s (.mk fb 0 0 0)]):=dN.aj h.fI.new c _ _;exact⟨rfl,b,q,j,fb,(⟨h.fI,h.bC q rfl,h.heap j rfl⟩:Wx w u a b M q j s).oB ak λe hk=>V,G,by rw[aD];exact h.ext.size,c,h.box _ V V,h.box _ V V,cB.aj (m:=M) (o:=0) aq⟩
  have t:i.size<=i.size:=ad _;repeat' first
   |exact hO I
   |(refine cC I ?_;intro A g F I B C;have D:=t;have t:=bJ t C)
   |(refine cH I ?_;intro A g F I B C;have D:=t;have t:=bJ t C)
   |(intro C;have B:J _ C:=(J.aH _).aR _;have H:Array.size C=_+1:=Array.size_push _;have D:=t;have t:=bJ t B.size;first|(obtain⟨F,I⟩:=I.b (e:=C) rfl;clear_value C)|(have I:=I.a B;clear_value C))
   |(refine And.intro (kp B D _) ?_)
   |(refine And.intro (J.de B λc K=>by simp at K;omega) ?_)
   |(refine⟨_,rfl,?_⟩)
   |(refine And.intro ?_ ?_)
 .rintro⟨l,oo⟩ m3 ⟨rfl,a2,q,j,fb,K3,aS,z3,r3,aZ,a0,aB⟩;simp only[]at aS r3 aB;have aQ:∀{b:Nat->Nat}{M:E},XA u a b M->J a M:=λaq=>(aq.none λc _=>ar c).FY;have a6:=hs.ak.len;simp -zeta only[bG];refine eu (n:=s.ak.length) V (λe M=>∃b fc,Wx w u a b M q j s/\oF b M fc (s.ak.take e)/\i.size<=M.size/\b l=8/\b a.size=8/\b v.size=8/\cB M l kD [.i s.cY,.i s.value,.i s.bO,.i s.eH,.s q,.s j,.s fc])
   ⟨a2,_,K3,⟨[],⟨aJ,aJ,Or.inl rfl⟩,aJ,aJ,aJ⟩,z3,r3,aZ,a0,aB⟩ ?_
  rintro e D a3 μ hk ⟨W,fc,K9,F9,z9,r9,a1,aE,C⟩ aU
  have en:Int.toNat (e:Int)=e:=V;rw[en];have H:=aQ K9.fI;have a9:=C.lt;refine dit (λh1=>?_) λh1=>?_
  .have aR:e<s.ak.length:=V;let⟨ae,hf⟩:=dJ aR;have a5:=ag.ak ae (av hf);let⟨ra,oa,ha,ir,io,ih,g0,g1,g2,g3,g4,g5⟩:=hs.ak.aQ hf;refine⟨V,V,_,H.af g0,_,H.af g1,_,H.af g2,ra,H.af g3,oa,H.af g4,ha,H.af g5,?_⟩;intro au aa;have ah:J D aa:=((J.aH D).aR _).aj (ad _) _ _;have bd:aa.size=D.size+1:=by simp[aa,au,aD]
   clear_value aa;have ax:dN (λ_=>False) W D (vM W D.size 8) aa:=dN.vM ah K9.fI.new (ad _) V 8;have t:∀{M g:E}{c:Nat},J M g->c<M.size->∀L,af g c L=af M c L:=λy az L=>aM (y.same _ az) L;have bl:∀{M:E},aa.size<=M.size->∀c∈[D.size,v.size,a.size],c<M.size:=λh c K=>by simp at K;omega
   refine⟨fc,(C.ext ah).cK 6,(fE (ir.ext (H.trans ah)) V).mono ?_⟩;rintro _ a_ ⟨qr,rfl,aV,B⟩;obtain⟨bb,ap,aI,_⟩:=gS.Rm aV B ax.new (10+3*e);have bg:=B.size;refine⟨B.de (bl (ad _)),qr,rfl,t B V _,t B V _,t B V _,t B V _,t B V _,t B V _,(fE (io.ext (H.trans (ah.trans B))) V).mono ?_⟩;rintro _ ba ⟨qo,rfl,aW,P⟩;obtain⟨bc,al,aK,_⟩:=gS.Rm aW P ap.new (11+3*e);have bi:=P.size;refine⟨P.de (bl V),qo,rfl,t P V _,t P V _,t P V _,t P V _,t P V _,(fE (ih.ext (H.trans (ah.trans (B.trans P)))) V).mono ?_⟩;rintro _ S ⟨qh,rfl,aY,X⟩;obtain⟨U,ab,aL,_⟩:=gS.Rm aY X al.new (12+3*e);have bj:=X.size;refine⟨X.de (bl V),qh,rfl,t X V _,t X V _,t X V _,t X V _,?_⟩;intro T;have aH:J S T:=(J.aH S).aR _;have be:T.size=S.size+1:=by simp[T]
   have aT:cB T S.size eE [.i ae.dW,.i ae.pc,.i ae.dst,.s qr,.s qo,.s qh]:=cB.push S _ _;clear_value T;have ac:dN (λ_=>False) U S U T:=dN.fK _ aH ab.new;have Y:dN (λ_=>False) W D U T:=(((ax.trans ap).trans al).trans ab).trans ac;have Q:U D.size=8/\U a.size=8/\U v.size=8/\U l=8:=⟨by rw[ab.jy _ V,al.jy _ V,ap.jy _ V];exact ji _ _ _,by rw[Y.jy _ V];exact a1,by rw[Y.jy _ V];exact aE,by rw[Y.jy _ V];exact r9⟩;have tk:(s.ak.take e).length=e:=bS;refine⟨t aH V _,oF.push (a:=ae) (F9.fI Y λ_ _=>id) ac.new (x:=.mk S.size 0 1 1) rfl aT.jD (by rw[tk];exact(((aI.fI al id).fI ab id).fI ac id)) (by rw[tk];exact(aK.fI ab id).fI ac id) (by rw[tk];exact aL.fI ac id) V λR ay ao aN G=>?_⟩;have bk:=G.size;have am:R D.size=8/\R a.size=8/\R v.size=8/\R l=8:=⟨by rw[G.jy _ V];exact Q.1,by rw[G.jy _ V];exact Q.2.1,by rw[G.jy _ V];exact Q.2.2.1,by rw[G.jy _ V];exact Q.2.2.2⟩;have aA:cB ao l kD [.i s.cY,.i s.value,.i s.bO,.i s.eH,.s q,.s j,.s fc]:=(C.ext Y.FY).congr (G.fU _ V (by rw[Q.2.2.2];decide));refine⟨G.aac λc K=>by simp at K;rcases K with p|p|p<;>rw[p]<;>refine⟨V,?_⟩<;>simp[Q.1,Q.2.1,Q.2.2.1],aA.fq aJ,?_⟩;intro aC;have aw:dN (λe=>e=8) R ao R aC:=dN.aj G.new (show(λe=>e=8) (R l)from am.2.2.2) _ _;have bf:aC.size=ao.size:=aD _ _ _ _;refine⟨λc K=>bh _ _ _ _ (by simp at K;omega),aU V _ ⟨R,ay,((K9.oB Y λ_=>False.elim).oB G λe hk=>V).oB aw λe hk=>V,?_,V,am.2.2.2,am.2.1,am.2.2.1,cB.aj (m:=ao) (o:=6) (r:=[.s ay]) aA⟩⟩;rw[bF hf];exact aN.fI aw λe hk=>V
  .rw[cG V]at F9;refine⟨_,C.cK 0,_,C.cK 1,_,C.cK 2,_,C.cK 3,_,C.cK 4,_,C.cK 5,_,C.cK 6,?_⟩;intro au;have B:dN (λe=>e=8) W D W au:=dN.aj K9.fI.new (show(λe=>e=8) (W v.size)from aE) _ _;have t:=K9.oB B λe hk=>V;have G:=t.fI.none λc _=>ar c;exact⟨W,q,j,fc,rfl,⟨ai.fI G,t.bC,t.heap,F9.fI B λe hk=>V⟩,G⟩
end
section
variable{n e:Nat}{a M b:E}
def QJ:St:=⟨0,0,0,0,[],[],[]⟩
structure Run where
 s:St
 ok:Bool
def fG.jh{B:Int}{j:cr}{s:St}(h:fG B j s)(b:Sm n s)(o:n<=900000000):Gn s:=by
 refine⟨by have:=b.bC;omega,λc e=>(h.heap.cell c e).fl,oh b.heap,?_,λf g=>?_⟩
 .have:=h.depth;have:=h.bO;have:=h.eH;omega
 .have a:=h.ak f g;obtain⟨p,_,i,d,_⟩:=a.Kk h.eT;have k:=a.lr;have l:=a.lo;have m:=a.lh;rw[i]at k l m;have:=d.ax;have:=h.eT.fA;omega
def vO.sm{s:St}(h:vO s)(a:s.heap.length<=n)(b:s.bC.length<=n):Sm n s:=⟨a,b,λg c w d=>((h.ak g c).1 w d).2⟩
section
variable{c:E}{d:Nat->Nat}{m:E}{bC g f:O}{s:St}
def se.IK(h:se c d m bC g f s)(a:Gn s):fQ m bC g f s:=
 ⟨h.bC.pw (oh a.bC),h.heap.cells (oh a.heap),h.ak.IK (oh a.depth) a.ak⟩
def se.eR(h:se c d m bC g f s){b:E}(k:J m b){a:Nat}{i:List Ce}(j:m.size<=a)(kb:cB b a e i):Cm c (vM d a 1) b a e i bC g f s.bC s.heap s.ak:=by
 have C:dN (λ_=>False) d m (vM d a 1) b:=dN.vM k h.bs.new j kb.lt 1;have B:=h.bs.fI C;exact⟨B.cL,B.kM,B.new,kb,ji _ _ _,h.bC.fI C id,h.heap.fI C id id,h.ak.fI C λ_ _=>id⟩
def se.nil{c m:E}(a:J c m):se c (λ_=>0) m .nil .nil .nil QJ:=
 ⟨⟨a,λ_ _=>rfl,λ_ _=>rfl⟩,⟨by simp[QJ],aJ,Or.inl rfl⟩,⟨[],⟨aJ,aJ,Or.inl rfl⟩,by simpa[QJ]using gU.nil _ _,Xj.nil⟩,oF.none⟩
def Cm.IK{h e:Nat}{a:List Ce}(L:Cm c d m h e a bC g f s.bC s.heap s.ak)(b:Gn s):fQ m bC g f s:=
 se.IK (d:=d) ⟨⟨L.cL,L.kM,L.new⟩,L.bC,L.heap,L.ak⟩ b
end
def iG.up{c:Nat->Nat}{m f:E}{g k:Nat}{s:O}{l:List Ce}(h:iG c m e g k s l)(n:k≠0)(i:∀b,b<a.size->c b=0)(j:∀b,a.size<=b->b<m.size->f[b]? =m[b]?):iG c f e g k s l:=
 h.fU (λd=>j _ (Gf λo=>n (by rw[<-(h.aC d).2];exact i _ o)) (h.aC d).1) λ_=>rfl
def se.Qx{m:E}{r:Nat->Nat}{bC q o:O}{s:St}(h:se a r M bC q o s)(z:m.size<=a.size)(A:M.size<=b.size)(d:∀c,a.size<=c->c<M.size->b[c]? =M[c]?)(x:J m b):se m r b bC q o s:=by
 have f:=h.bs.kM;refine⟨⟨x,λc g=>f c V,λc g=>h.bs.new c V⟩,h.bC.up bo f d,?_,?_⟩
 .let⟨i,t,a2,a3⟩:=h.heap;refine⟨i,t.up bo f d,a2.mono λk y⟨j,v,l,n⟩=>⟨j,v,nF l λg=>d _ (n g).2.1 (oG l g),λg=>?_⟩,a3⟩;let⟨g1,g2,u,tail,w,p⟩:=n g;exact⟨g1,V,u,tail,w,p.congr (d _ g2 p.lt)⟩
 .let⟨i,g⟩:=h.ak;exact⟨i,g.sk.up bo f d,g.len,g.size,λt k j l n=>by
   let⟨v,u,p,e,b1,b2,b3⟩:=g.df t k j l n;exact⟨v,u,p,e,b1.up V f d,b2.up V f d,b3.up V f d⟩⟩
def se.box{m:E}{e:Nat->Nat}{bC c b:O}{s:St}(h:se a e M bC c b s)(d:J m a){nb:Nat}(f:m.size<=nb)(i:nb<a.size)(o:Nat)(l:List Ce):se m e (aj M nb o l) bC c b s:=
 h.Qx d.size (pB (aD _ _ _ _).symm) (λg j _=>bh _ _ _ _ V) ((d.trans h.bs.cL).aj f _ _)
def se.ext{e:E}{f:Nat->Nat}{bC d c:O}{s:St}(h:se e f M bC d c s)(a:J M b):se e f b bC d c s:=h.Qx (ad _) a.size (λg _ i=>a.same g i) (h.bs.cL.trans a)
def Bs.EW(m:E):Bs m (λ_=>0) m:=⟨J.aH _,λ_ _=>rfl,λ_ _=>rfl⟩
section
variable{m:E}{d p bC j g:O}{k:cr}{s:St}
variable(c:eY m d p k)(f:fQ m bC j g s)(h:vO s)(i:s.bC.length<=10000000)
include c f h i
omit c f in
end
end
section
variable{M:E}
def NX{k b:Nat}(a:b<k)(h:k<=M.size):(M.extract 0 k)[b]? =M[b]? :=((J.NW h).same b (by rw[jF h];exact a)).symm
def se.old{a M':E}{g:Nat->Nat}{bC d c:O}{s:St}(h:se a g M bC d c s)(f:M.size<=M'.size)(i:∀b,a.size<=b->b<M.size->M'[b]? =M[b]?):se (M'.extract 0 a.size) g M' bC d c s:=
 have e:=bJ h.bs.cL.size f
 h.Qx (by rw[jF e];exact ad _) f i (J.NW e)
def Cm.old{a M M':E}{i:Nat->Nat}{c e:Nat}{d:List Ce}{bC h f:O}{s:St}(L:Cm a i M c e d bC h f s.bC s.heap s.ak)(j:a.size<=c)(k:M.size<=M'.size)(g:∀b,a.size<=b->b<M.size->M'[b]? =M[b]?):Cm (M'.extract 0 a.size) i M' c e d bC h f s.bC s.heap s.ak:=
 have N:=se.old (s:=s) ⟨⟨L.cL,L.kM,L.new⟩,L.bC,L.heap,L.ak⟩ k g
 ⟨N.bs.cL,N.bs.kM,N.bs.new,L.box.congr (g _ j L.box.lt),L.Rl,N.bC,N.heap,N.ak⟩
def W0{Y:List Nat}{m:E}(f:Fz Y m M):Le (bI Y m) (M.extract 0 m.size):=λc o v e=>by
 let⟨d,a⟩:=eA.1 e;have b:=lH a;rw[aM ((NX b f.size).trans (f.same c b d))];exact a
def GSt(B:Int)(f:cr)(d:Nat)(e:O)(m:E)(P:Nat)(v:Value)(a:E):Prop:=∃n g bC c b s,v=Ox s bC c b/\se (a.extract 0 n) g a bC c b s/\m.size<=n/\n<=a.size/\fG B f s/\Sm 100000 s/\Rd d e P a/\Fz [d] m a
section
variable{f:List Nat}{a:E}{b P:Nat}{B:Int}{e d p:O}{c:cr}
def vx(I:Rd b e P a)(hP:P+100<=10^16)(hd:bZ (bI [b] a) d c.bu)(hp:gT (bI [b] a) p c.cy)(N:qQ B c):aP cv 39 [vp b 0,.agg #[O.v d,O.v p]] a (GSt B c b e a (P+6)):=by
 apply zK (b,0);simp -zeta only[aG,aF];have hr:=I.lt;intro l t;let⟨x2,r⟩:=dk (a:=l) (c:=t) rfl rfl;have s1:l.size=a.size+1:=by simp[l]
 have B2:cB t a.size uF [.s d,.s p]:=(cB.push a _ _).ext (J.push l _);clear_value t;have r2:Rs b e a P t:=⟨x2.fz _,I.ext x2⟩;intro Q;have x3:J t Q:=J.push _ _;have G3:∀o,af Q a.size o=af t a.size o:=λo=>aM (x3.same _ B2.lt) o;refine⟨G3 _,G3 _,G3 _,G3 _,?_⟩;refine(yY r2 V [40,40,12,3,0,20] rfl rfl aJ).mono λ_ j⟨eH,h,az,r4,w⟩=>?_;have z3:=x3.size;have z2:=x2.size;have w:Fz [b] Q j:=w;have z4:=w.size;have aX:=r l.size aJ;have hm:0<=eH/\eH<=40:=by simp at az;omega
 have A:∀o,af j a.size o=af Q a.size o:=λo=>aM (w.same _ V bS) o;refine⟨w.de λf g=>by have:=r f g;simp at g⊢;omega,eH,h,A _,A _,A _,A _,?_⟩;have aC:∀{M:E},Fz [b] a M->eY M d p c:=λH=>have aq:=(H.cR (S:=[b]) aJ).trans (bA _ _);⟨hd.le aq,gT.le aq hp⟩;refine(DO (aC r4.f) N eH).mono ?_;rintro _ u ⟨bC,aB,fr,rfl,x,b1,b2,b3,b4,aY,q1,q2,q3,q4,q5,au,q6,k4⟩;have z5:=x.size;have G5:∀o,af u a.size o=af j a.size o:=λo=>aM (x.same _ V) o;refine⟨x.de λf g=>oh (r f g),_,_,_,_,_,_,_,rfl,G5 _,G5 _,?_⟩;intro n;have x6:J u n:=J.push _ _;have kb:cB n u.size bQ (SB d p (lp c eH) bC aB fr):=cB.push u _ _;have L6:=T9 (m:=j) (NW:=[.s d,.s p]) ⟨q1,q2,q3,q4,q5⟩ au q6 k4 x6 (ad _) kb;have s6:n.size=u.size+1:=by simp[n]
 clear_value n;have r6:=(r4.ext x).ext x6;have L:∀{M:E},n.size<=M.size->Lw b [u.size,l.size,a.size] M:=λaW=>lw hr bS;refine(bX r6.r V 60).mono λ_ m7⟨C,h,aN,aO,d7,W⟩=>⟨(L (ad _)).de W,C,h,?_⟩;have z7:=W.size;refine(bX d7 V 200).mono λ_ m8⟨D,h,aQ,aR,d8,X⟩=>⟨(L z7).de X,D,h,?_⟩;have z8:=X.size;refine(bX d8 V 20).mono λ_ m9⟨F,h,aS,aT,d9,Y⟩=>⟨(L V).de Y,F,h,?_⟩;have z9:=Y.size;refine(bX d9 V 100).mono λ_ aa⟨G,h,aU,aV,aw,R⟩=>⟨(L V).de R,G,h,?_⟩;have a1:=R.size;have ai:=((W.trans X).trans Y).trans R;have ae:=J.push aa (.cells (bE [.i C,.i D,.i F,.i 100000,.i 0,.i G]) aA);have a2:=ae.size;refine(yY (r6.to ai aw) V [C,D,F,100000,0,G] rfl rfl aJ).mono λ_ y⟨ab,h,aj,am,v⟩=>?_;have v:Fz [b] (aa.push (.cells (bE [.i C,.i D,.i F,.i 100000,.i 0,.i G]) aA)) y:=v;refine⟨(L (bJ (by omega:n.size<=aa.size) ae.size)).de v,ab,h,?_⟩;have a3:=v.size;obtain⟨q,rfl⟩:∃q:Nat,ab=q:=⟨ab.toNat,by simp at aj;omega⟩;have hn:q<=100000:=by simp at aj;omega
 have U:=(ai.trans (ae.fz _)).trans v;have ah:=L6.old (s:=lp c eH) (M':=y) V U.size λf h1 h2=>U.same f h2 bS;have e0:(y.extract 0 j.size).size=j.size:=jF V;have w4:Le (bI [b] a) (y.extract 0 j.size):=(r4.f.cR aJ).trans (W0 (((x.trans x6).fz [b]).trans U));refine(Pv (s:=lp c eH) ah ⟨hd.le w4,gT.le w4 hp⟩ (Lg N hm) (Px c eH) q hn V).mono ?_;rintro _ z ⟨⟨nn,rfl⟩,a0,aH,ay,ax,i,ap⟩;have ak:=Li q (Lg N hm);have K:=Lj q (Lg N hm) (Px c eH) V;have al:=ak.jh K V;generalize aE c q (lp c eH)=st at*;have a4:=ap.size;have ao:∀f,f<j.size->z[f]? =y[f]? :=λf g=>(i.cL.same f V).trans (NX g V);have aI:Rs b e a (P+6) z:=by
  have H:Fz [b] a z:=⟨V,λf g hn=>(ao f V).trans (am.f.same f g hn)⟩;exact⟨H,(I.LR am.r H (ao b V)).mono V⟩
 refine⟨ap.gW λf g=>⟨by have:=r f g;omega,ah.kM f (oh (r f g))⟩,nn,rfl,_,i.box.cK 2,_,i.box.cK 3,_,i.box.cK 4,_,i.box.cK 5,aH,i.box.cK 6,ay,i.box.cK 7,ax,i.box.cK 8,(Fh (Bs.EW z) (λ_=>dy _) (i.IK al) al).mono ?_⟩;rintro _ aZ ⟨aK,ac,Z,T,rfl,av,ar⟩;have ag:=ar.FY;have aL:=ag.size;refine⟨ag.de λf g=>oh (r f g),_,_,_,_,ac,Z,T,rfl,?_⟩;have an:=(aI.ext ag).put I (k:=l.size) V 0 [.i st.cY,.i st.value,.i st.bO,.i st.eH,.s ac,.s Z,.s T];exact⟨z.size,aK,ac,Z,T,st,rfl,av.old (pB (aD _ _ _ _).symm) λf g _=>bh _ _ _ _ V,V,by rw[aD];exact aL,ak,⟨by have:=K.heap;omega,oh K.bC,K.yN⟩,an.r,an.f⟩
end
end
section
variable{q:O}
def fG.Yk{B:Int}{q:cr}{s:St}{n:Nat}(h:fG B q s)(c:Sm n s)(x:n<=10000000):vO s:=by
 have l:=h.jh c V;have i:=h.bO;have v:=h.eH;have u:=c.heap;have C:=JU h;have t:=l.depth;refine⟨⟨V,V⟩,λd i w a=>?_,λf b=>?_,V,V,λf b=>oh (l.ak f b)⟩
 .have k:=h.heap.cell d i;rcases tg d.aV 1 with e|e
  .have:=(k.vT e).2.1 w a;exact⟨V,V⟩
  .rcases(k.pF V).1 w a with e|⟨e,j,g,_⟩
   .exact⟨by have:=e.1;omega,oh e.2⟩
   .have:=az g;have:=iN e;exact⟨V,V⟩
 .let⟨k,o⟩:=List.mem_iff_getElem?.1 b;have F:=C.ak k f o;refine⟨λw a=>⟨?_,c.yN f b w a⟩,λr p=>?_,λw a=>?_⟩
  .rcases(h.ak f b).RW w a with e|e
   .have:=e.1;omega
   .omega
  .let⟨m,j⟩:=List.mem_iff_getElem?.1 p;have:=F.lr;have:=F.lo;have:=az j;let⟨w,a⟩:=cq f.ax m;have:=(F.ax.df m w r a j).2.1;exact⟨V,V⟩
  .rcases C.bB.dC f b w a with e|⟨e,g⟩
   .exact⟨V,V⟩
   .have:=iN e;exact⟨V,V⟩
structure Mv(n:Nat)(ro:Nat->Nat)(M:E)(ro':Nat->Nat)(M':E):Prop where
 size:M.size<=M'.size
 fU:∀b,b<M.size->n<=b->M'[b]? =M[b]?
 jy:∀b,b<M.size->ro' b=ro b
 new:∀b,M'.size<=b->ro' b=0
 kM:∀b,b<n->ro b=0
section
variable{n:Nat}{a d:Nat->Nat}{M b:E}
def iG.mv{e f k:Nat}{s:O}{l:List Ce}(h:iG a M e f k s l)(v:Mv n a M d b)(g:k≠0):iG d b e f k s l:=
 h.fU (λc=>v.fU _ (h.aC c).1 (Gf λe=>g (by rw[<-(h.aC c).2];exact v.kM _ e))) λc=>v.jy _ (h.aC c).1
def eS.mv{i:O}{h:List bU}(q:eS n a M i h)(v:Mv n a M d b):eS n d b i h:=by
 let⟨l,j,a2,a3⟩:=q;refine⟨l,j.mv v bo,a2.mono λs r⟨o,m,f,g⟩=>⟨o,m,nF f λc=>v.fU _ (oG f c) (g c).2.1,λc=>?_⟩,a3⟩;let⟨g1,g2,k,tail,p,e⟩:=g c;exact⟨(v.jy _ e.lt).trans g1,g2,k,tail,p,e.congr (v.fU _ e.lt g2)⟩
def Ur.mv{i:Nat}{c:List Ce}{f:be}(v:Mv n a M d b):Ur a M i c f->Ur d b i c f:=λ⟨r,o,k,j,e,g,h⟩=>⟨r,o,k,j,e.mv v V,g.mv v V,h.mv v V⟩
def sj.mv{e:O}{g:List be}{f:be}{r o h:O}{c:List (List Ce)}(T:sj a M e g f r o h c)(v:Mv n a M d b):sj d b e g f r o h c:=
 ⟨T.sk.mv v bo,T.len,T.size,λm i j k l=>(T.df m i j k l).mv v,T.ax.mv v V,T.bg.mv v V,T.bB.mv v V⟩
def oF.mv{c:O}{e:List be}(l:oF a M c e)(v:Mv n a M d b):oF d b c e:=by
 let⟨g,h⟩:=l;exact⟨g,h.sk.mv v bo,h.len,h.size,λm f i j k=>(h.df m f i j k).mv v⟩
def sj.put{d:O}{b:List be}{f g:be}{s o p n m j:O}{h:List (List Ce)}(T:sj a M d b f s o p h)(v:∀e,M.size<=e->a e=0){i:Nat}(w:i<6){c:Ce}
 (u:iO [.i f.dW,.i f.pc,.i f.dst,.s s,.s o,.s p] i [c]=[.i g.dW,.i g.pc,.i g.dst,.s n,.s m,.s j])(t:iG a M aA 1 (10+3*b.length) n (g.ax.map Ce.i))(q:iG a M aA 1 (11+3*b.length) m (g.bg.map Ce.i))(r:iG a M aA 1 (12+3*b.length) j (g.bB.map Ce.i)):
 fq M d.aC (d.off+b.length*6+i) 1/\sj a (aj M d.aC (d.off+b.length*6+i) [c]) d b g n m j h/\dN (λk=>4<=k/\k≠9) a M a (aj M d.aC (d.off+b.length*6+i) [c]):=by
 have e:dN (λk=>k=4) a M a (aj M d.aC (d.off+b.length*6+i) [c]):=dN.aj v T.aC.1 _ _
 have l:h.flatten.length=b.length*6:=by rw[dp T.size,T.len]
 refine⟨by rw[dR];exact T.sk.wr (by simp only[aU,l,aY,cE];omega),⟨?_,T.len,T.size,T.xe e λk q r=>V,t.fI e V,q.fI e V,r.fI e V⟩,e.mono λk x=>V⟩
 have:=T.sk.set (o:=b.length*6+i) (new:=[c]) (by simp[l];omega)
 rw[mu _ _ _ _ V,l,Ge,u]at this
 rw[dR];exact this
end
structure SO(n:Nat)(ro:Nat->Nat)(M:E)(bC hp fr:O)(s:St):Prop where
 le:n<=M.size
 kM:∀b,b<n->ro b=0
 new:∀b,M.size<=b->ro b=0
 bC:iG ro M aA 1 2 bC (s.bC.map Ce.i)
 heap:eS n ro M hp s.heap
 ak:oF ro M fr s.ak
structure FS(s:St):Prop where
 yN:vO s
 jh:Gn s
 lo:s.bC.length<=1000000/\s.heap.length<=1000000
section
variable{n:Nat}{a e:Nat->Nat}{M b:E}{bC d c:O}{s:St}
def SO.of(N:se (M.extract 0 n) a M bC d c s)(h:n<=M.size):SO n a M bC d c s:=⟨h,λb e=>N.bs.kM b (by rw[jF h];exact e),N.bs.new,N.bC,by have:=N.heap;rwa[jF h]at this,N.ak⟩
def SO.mv(w:SO n a M bC d c s)(v:Mv n a M e b):SO n e b bC d c s:=⟨bJ w.le v.size,λf g=>(v.jy f (aL g w.le)).trans (w.kM f g),v.new,w.bC.mv v bo,w.heap.mv v,w.ak.mv v⟩
def SO.Z8(w:SO n a M bC d c s){h:Nat}(f:Fz [h] M b)(j:h<n):Mv n a M a b:=⟨f.size,λe g i=>f.same e g bS,λ_ _=>rfl,λe g=>w.new e (bJ f.size g),w.kM⟩
def SO.fI{p:Nat->Prop}(w:SO n a M bC d c s)(C:dN p a M e b):n<=b.size/\(∀f,f<n->e f=0)/\∀f,b.size<=f->e f=0:=⟨bJ w.le C.size,λf g=>(C.jy f (aL g w.le)).trans (w.kM f g),C.new⟩
def SO.box(w:SO n a M bC d c s){b:Nat}(g:a b=1)(o:Nat)(l:List Ce):SO n a (aj M b o l) bC d c s:=by
 have C:dN (λk=>k=1) a M a (aj M b o l):=dN.aj w.new g _ _;let⟨e,b,f⟩:=w.fI C;exact⟨e,b,f,w.bC.fI C bo,w.heap.fI C bo bo,w.ak.fI C λk h=>V⟩
def SO.KJ(w:SO n a M bC d c s)(C:dN (λk=>k=2) a M e b){l:List Int}(A:iG e b aA 1 2 q (l.map Ce.i)):SO n e b q d c {s with bC:=l}:=
 let⟨f,g,h⟩:=w.fI C
 ⟨f,g,h,A,w.heap.fI C bo bo,w.ak.fI C λk i=>V⟩
def SO.jJ(w:SO n a M bC d c s)(C:dN (λk=>k=3) a M e b){h:List bU}(A:eS n e b q h):SO n e b bC q c {s with heap:=h}:=
 let⟨f,g,i⟩:=w.fI C
 ⟨f,g,i,w.bC.fI C bo,A,w.ak.fI C λk j=>V⟩
def SO.lQ(w:SO n a M bC d c s)(C:dN (λk=>4<=k/\k≠9) a M e b){l:List be}(A:oF e b q l):SO n e b bC d q {s with ak:=l}:=
 let⟨f,g,h⟩:=w.fI C
 ⟨f,g,h,w.bC.fI C bo,w.heap.fI C bo bo,A⟩
def SO.IK(w:SO n a M bC d c s)(h:Gn s):fQ M bC d c s:=⟨w.bC.pw (oh h.bC),w.heap.cells (oh h.heap),w.ak.IK (oh h.depth) h.ak⟩
end
end
section
variable{K:Int->E->Prop}{p:Nat->Prop}
def SP(n h:Nat)(f:O)(g:E)(P:Nat)(v:Value)(a:E):Prop:=∃bC e d s,v=Ox s bC e d/\(∀c,a.size<=c.size->(∀b,b<a.size->n<=b->c[b]? =a[b]?)->fQ c bC e d s)/\vO s/\(s.bC.length<=1000000/\s.heap.length<=1000000)/\Rs h f g P a
structure SQ(n rb:Nat)(bs:O)(ma:E)(k1 k2 Q:Nat)(ro:Nat->Nat)(M:E)(bC hp fr:O)(s:St):Prop where
 w:SO n ro M bC hp fr s
 r:Rs rb bs ma Q M
 k1:ro k1=1/\k1<M.size/\n<=k1
 k2:ro k2=1/\k2<M.size/\n<=k2
 fs:FS s
section
variable{n b m q Q w P t:Nat}{j bC h f:O}{e M d:E}{r u:Nat->Nat}{s v:St}{L:List Nat}
def SQ.fz(a:SQ n b j e m q Q r M bC h f s)(g:b<n)(c:Fz [b] M d)(i:Rs b j e w d):SQ n b j e m q w r d bC h f s:=
 ⟨a.w.mv (a.w.Z8 c g),i,⟨a.k1.1,aL a.k1.2.1 c.size,a.k1.2.2⟩,⟨a.k2.1,aL a.k2.2.1 c.size,a.k2.2.2⟩,a.fs⟩
def SQ.ext(a:SQ n b j e m q Q r M bC h f s)(c:b<n)(x:J M d):SQ n b j e m q Q r d bC h f s:=a.fz c (x.fz _) (a.r.ext x)
def SQ.fS(c:SQ n b j e m q Q r M bC h f s)(o:b<n)(k:∀a∈L,a=m\/a=q)(i:Fz [b] M d):eF L M d:=i.de λa l=>by
 have:=c.k1;have:=c.k2;rcases k a l with g|g<;>simp only[fP]<;>omega
def SQ.gk(a:SQ n b j e m q Q r M bC h f s)(g:b<n)(c:Fz [b] M d)(o:Nat):af d q o=af M q o:=aM (c.same _ a.k2.2.1 (by have:=a.k2;simp only[fP];omega)) o
def SQ.done(a:SQ n b j e m q Q r M bC h f s)(v:Rd b j t e)(C:e.size<=n)(x:Q<=P){o c g p:Int}(A:uN g)(l:List Ce):SP n b j e P (.agg #[vi o,vi c,vi g,vi p,O.v bC,O.v h,O.v f]) (aj M m 0 l):=by
 have w:=a.w.box a.k1.1 0 l;have u:=a.r.put v (k:=m) (oh a.k1) 0 l;exact⟨bC,h,f,⟨o,c,g,p,s.bC,s.heap,s.ak⟩,rfl,λd z B=>have i:=(w.mv ⟨z,B,λ_ _=>rfl,λc y=>w.new c (bJ z y),w.kM⟩).IK a.fs.jh;⟨i.bC,i.heap,i.ak⟩,⟨A,a.fs.yN.heap,a.fs.yN.ak,a.fs.yN.lh,a.fs.yN.lf,a.fs.yN.lr⟩,a.fs.lo,u.f,u.r.mono x⟩
def SQ.box(a:SQ n b j e m q Q r M bC h f s)(c:Rd b j t e)(d:e.size<=n)(o:Nat)(l:List Ce):SQ n b j e m q Q r (aj M q o l) bC h f s:=
 ⟨a.w.box a.k2.1 o l,a.r.put c (oh a.k2) o l,by rw[aD];exact a.k1,by rw[aD];exact a.k2,a.fs⟩
def SQ.lj(l:SQ n b j e m q Q r M bC h f s)(g:b<n)(u:Q<=10^16)(p:∀a∈L,a=m\/a=q)(a:List Int){c:List Ce}{i:Nat}(w:c=a.map Ce.i)(v:i=a.length)(z:0<a.length/\a.length<=100)
 (y:∀t d,t∈a->SQ n b j e m q (Q+1) r d bC h f s->Fz [b] (M.push (.cells (bE c) aA)) d->K t d):aP cv 74 [vp b 0,O.v (.mk M.size 0 i i)] (M.push (.cells (bE c) aA)) λC d=>eF L (M.push (.cells (bE c) aA)) d/\∃t:Int,C=vi t/\K t d:=
 have x:=J.push M (.cells (bE c) aA)
 (yY l.r u a w v z).mono λ_ d⟨t,o,A,B,k⟩=>⟨(l.ext g x).fS g p k,t,o,y t d A ((l.ext g x).fz g k B) k⟩
def SQ.pick(c:SQ n b j e m q Q r M bC h f s)(i:b<n)(o:Q<=10^16)(l:∀a∈L,a=m\/a=q)(g:Int)
 (p:∀t d,0<=t->(t<g\/t=0)->SQ n b j e m q (Q+1) r d bC h f s->Fz [b] M d->K t d):aP cv 20 [vp b 0,vi g] M λw d=>eF L M d/\∃t:Int,w=vi t/\K t d:=
 (bX c.r.r o g).mono λ_ d⟨t,k,v,t1,u,a⟩=>⟨c.fS i l a,t,k,p t d v t1 (c.fz i a (c.r.to a u)) a⟩
def SQ.fI(a:SQ n b j e m q Q r M bC h f s)(l:Rd b j t e)(E:e.size<=n)(C:dN p r M u d)(h:∀k,p k->2<=k){x o k:O}(B:SO n u d x o k v)(z:FS v):SQ n b j e m q Q u d x o k v:=
 have D:=l.lt
 have w:∀c,c<n->d[c]? =M[c]? :=λc g=>C.fU c (aL g a.w.le) λy=>by have:=h _ y;have:=a.w.kM c g;omega
 have i:Fz [b] e d:=⟨bJ a.r.f.size C.size,λc g A=>(w c V).trans (a.r.f.same c g A)⟩
 ⟨B,⟨i,l.LR a.r.r i (w b V)⟩,⟨(C.jy _ a.k1.2.1).trans a.k1.1,aL a.k1.2.1 C.size,a.k1.2.2⟩,⟨(C.jy _ a.k2.2.1).trans a.k2.1,aL a.k2.2.1 C.size,a.k2.2.2⟩,z⟩
def SQ.de(g:SQ n b j e m q Q r M bC h f s)(i:∀a∈L,a=m\/a=q)(C:dN p r M u d)(h:∀k,p k->2<=k):eF L M d:=λa k=>by
 have l:=g.k1;have a2:=g.k2;rcases i a k with c|c<;>subst c<;>exact C.fU _ V λc=>by have:=h _ c;omega
def SQ.iP(t:SQ n b j e m q Q r M bC h f s)(u:cQ ((f.len:Int) -1)>=0):∃a g l o k d,s.ak=a++[g]/\sj r M f a g l o k d/\cQ ((f.len:Int) -1)=(a.length:Int)/\f.len=a.length+1:=by
 have F:=t.w.ak;have p:=t.fs.jh.depth;rcases Jt s.ak with c|⟨a,g,c⟩
 .rw[c]at F;let⟨d,i⟩:=F;have:=i.sk.len;rw[dp i.size,i.len]at this;simp only[cE]at this;rw[aS V V]at u;omega
 .rw[Js]at c;rw[c]at F p;let⟨l,o,k,d,T⟩:=F.iP;have:=T.EA;simp at p;exact⟨a,g,l,o,k,d,c,T,by rw[aS V V];omega,this⟩
def FS.iP(h:FS s){d:List be}{j g:be}(i:s.ak=d++[j])(k:Ry g)(l:g.ax.length<=1000000/\g.bg.length<=1000000/\g.bB.length<=1000000):FS {s with ak:=d++[g]}:=by
 have b:=h.yN;have c:=h.jh;have e:∀x∈d,x∈s.ak:=λx a=>by rw[i];simp[a]
 have f:=c.depth;rw[i]at f;simp at f;refine⟨⟨b.bO,b.heap,λx a=>?_,b.lh,bS,λx a=>?_⟩,⟨c.bC,c.fl,c.heap,bS,λx a=>?_⟩,h.lo⟩<;>rcases List.mem_append.1 a with a|a
 .exact b.ak x (e x a)
 .simp at a;rw[a];exact k
 .exact b.lr x (e x a)
 .simp at a;rw[a];omega
 .exact c.ak x (e x a)
 .simp at a;rw[a];exact l
def SQ.tn(c:SQ n b j e m q Q r M bC h f s)(o:Rd b j t e)(p:e.size<=n){l:List be}{z g:be}(y:s.ak=l++[z]){J H I:O}{w:List (List Ce)}(T:sj r d f l g J H I w)(C:dN (λk=>4<=k/\k≠9) r M r d)(E:Ry g)(G:g.ax.length<=1000000/\g.bg.length<=1000000/\g.bB.length<=1000000)
 (A:∀a∈L,a=m\/a=q)(B:Q<=P){v a i x:Int}(D:uN i)(u:List Ce):eF L M d/\SP n b j e P (.agg #[vi v,vi a,vi i,vi x,O.v bC,O.v h,O.v f]) (aj d m 0 u):=
 ⟨c.de A C λk F=>V,(c.fI o p C (λk F=>V) (c.w.lQ C T.tn) (c.fs.iP y E G)).done o p B D u⟩
def FI{im:cr}(I:Rd b j t e)(Q:e.size<=n)(aa:SO n r M bC h f s)(ae:Rs b j e P M)(hP:P+100<=10^16)(ok:iT im s)(hS:Sm 100000 s):aP cv 42 [vp b 0,Ox s bC h f] M (SP n b j e (P+6)):=by
 apply yi (b,0);simp(config:={maxSteps:=1000000}) -zeta only[aG,aF];have k:b<n:=by have:=I.lt;omega
 have le:=aa.le;intro S m2;have s1:S.size=M.size+1:=by simp[S]
 have s2:m2.size=M.size+2:=by simp[m2,s1]
 have x2:J M m2:=(J.push M _).trans (J.push S _);clear_value m2;clear_value S;have q2:SQ n b j e S.size M.size P (vM (vM r M.size 1) S.size 1) m2 bC h f s:=⟨aa.mv ⟨x2.size,λW hb _=>x2.same W hb,λW hb=>by rw[fH V,fH V],λW hb=>by rw[fH V,fH V];exact aa.new W V,aa.kM⟩,ae.ext x2,⟨ji _ _ _,V,V⟩,⟨by rw[fH V];exact ji _ _ _,V,V⟩,⟨ok.Yk hS V,ok.jh hS V,oh hS.bC,oh hS.heap⟩⟩;generalize vM (vM r M.size 1) S.size 1=ro2 at q2;have D:∀W∈[S.size,M.size],W=S.size\/W=M.size:=aJ;have hc:=q2.fs.yN.bO;have ay:=ok.eH;refine q2.pick k V D 30 λaz y _ _ m f3=>?_;have ah:SP n b j e (P+6) (.agg #[vi s.cY,vi s.value,vi s.bO,vi s.eH,O.v bC,O.v h,O.v f]) (aj y S.size 0 [.i s.cY,.i s.value,.i s.bO,.i s.eH,.s bC,.s h,.s f]):=m.done I Q V hc _;have LV:∀p∈s.ak,(1<=p.ax.length/\p.ax.length<=2000)/\p.bg.length<=2000/\1<=p.bB.length:=λp hf=>by
  have hG:=ok.ak p hf;obtain⟨pg,_,ap,ao,_⟩:=hG.Kk ok.eT;have R:=hG.lr;have W:=hG.lo;have X:=hG.lh;rw[ap]at R W X;have:=ao.ax;omega
 have Jr:∀(R:O)(fb H:Nat)(ls:List Int){C:List Ce}{X:Nat},ro2 fb=4->fb<y.size->C=ls.map Ce.i->X=ls.length->0<ls.length/\ls.length<=100->∀{ak:Int->Int->E->Prop},(∀F x d,0<=F->(F<(R.len:Int)\/F=0)->x∈ls->SQ n b j e S.size M.size (P+3) ro2 d bC h f s->Mv n ro2 y ro2 d->ak F x d)->
  (aP cv 20 [vp b 0,vi (R.len:Int)] y λK v=>eF [S.size,M.size] y v/\∃F:Int,K=vi F/\af v fb H=af y fb H/\af v M.size 6=af y M.size 6/\(af (v.push (.cells (bE C) aA)) fb H=af v fb H/\af (v.push (.cells (bE C) aA)) M.size 6=af v M.size 6/\af (v.push (.cells (bE C) aA)) fb H=af v fb H/\af (v.push (.cells (bE C) aA)) M.size 6=af v M.size 6/\
   aP cv 74 [vp b 0,O.v (.mk v.size 0 X X)] (v.push (.cells (bE C) aA)) λK G=>eF [S.size,M.size] (v.push (.cells (bE C) aA)) G/\∃x:Int,K=vi x/\af G fb H=af (v.push (.cells (bE C) aA)) fb H/\af G M.size 6=af (v.push (.cells (bE C) aA)) M.size 6/\ak F x G))/\
  (af (y.push (.cells (bE C) aA)) fb H=af y fb H/\af (y.push (.cells (bE C) aA)) M.size 6=af y M.size 6/\af (y.push (.cells (bE C) aA)) fb H=af y fb H/\af (y.push (.cells (bE C) aA)) M.size 6=af y M.size 6/\
   aP cv 20 [vp b 0,vi (R.len:Int)] (y.push (.cells (bE C) aA)) λK v=>eF [S.size,M.size] (y.push (.cells (bE C) aA)) v/\∃F:Int,K=vi F/\af v fb H=af (y.push (.cells (bE C) aA)) fb H/\af v M.size 6=af (y.push (.cells (bE C) aA)) M.size 6/\
    aP cv 74 [vp b 0,O.v (.mk y.size 0 X X)] v λK G=>eF [S.size,M.size] v G/\∃x:Int,K=vi x/\af G fb H=af v fb H/\af G M.size 6=af v M.size 6/\ak F x G):=λR fb H ls C X h4 aw h1 h2 h3{ak} hX=>by
  have nb:fb∉[b]:=λw=>by simp at w;have:=q2.w.kM b k;rw[w]at h4;omega
  have ge:∀{M1 M2:E},y.size<=M1.size->Fz [b] M1 M2->af M2 fb H=af M1 fb H:=λar p=>aM (p.same fb V nb) H
  refine⟨?_,?_⟩
  .refine m.pick k V D (R.len:Int) λF v k0 ab A Z=>?_
   have T:=J.push v (.cells (bE C) aA)
   have z4:=Z.size
   refine⟨ge (ad _) Z,m.gk k Z _,ge z4 (T.fz _),A.gk k (T.fz _) _,ge z4 (T.fz _),A.gk k (T.fz _) _,A.lj k V D ls h1 h2 h3 λx G z q N=>⟨ge (bJ z4 T.size) N,(A.ext k T).gk k N _,hX F x G k0 ab z q (m.w.Z8 ((Z.trans (T.fz _)).trans N) k)⟩⟩
  .have U:=J.push y (.cells (bE C) aA)
   have A:=m.ext k U
   have z4:=U.size
   have L:au (bI [b] (y.push (.cells (bE C) aA))) (.mk y.size 0 X X) ls:=au.lit aA ls (by simp;exact m.r.r.lt) h1 h2 V
   refine⟨ge (ad _) (U.fz _),m.gk k (U.fz _) _,ge (ad _) (U.fz _),m.gk k (U.fz _) _,A.pick k V D (R.len:Int) λF m5 k0 ab B f5=>⟨ge z4 f5,A.gk k f5 _,?_⟩⟩
   refine(jR B.r.r V (au.le (f5.cR aJ) L) h3.1).mono λ_ G⟨x,w,z,Y,N⟩=>⟨B.fS k D N,x,w,ge (bJ z4 f5.size) N,B.gk k N _,hX F x G k0 ab z (B.fz k N (B.r.to N Y)) (m.w.Z8 (((U.fz _).trans f5).trans N) k)⟩
 refine⟨λ_=>m.lj k V D [0,1,2,3,4,-1] rfl rfl aJ λx v _ A _=>(A.box I Q _ _).done I Q V hc _,λ_=>⟨λ_=>?_,λ_=>⟨λ_=>m.lj k V D [5,1000,0] rfl rfl aJ λx v _ A _=>(A.box I Q _ _).done I Q V hc _,λ_=>⟨λ_=>?_,λ_=>⟨λ_=>?_,λ_=>⟨λ_=>⟨λz=>?_,λ_=>ah⟩,λ_=>⟨λ_=>⟨λz=>?_,λ_=>ah⟩,λ_=>⟨λ_=>⟨λz=>?_,λ_=>ah⟩,λ_=>⟨λ_=>⟨λz=>?_,λ_=>ah⟩,λ_=>⟨λ_=>⟨λz=>?_,λ_=>ah⟩,λ_=>ah⟩⟩⟩⟩⟩⟩⟩⟩⟩⟩
 .refine m.lj k V D [0,41,-1,cQ (s.eH+1)] rfl rfl aJ λx v z A _=>(A.box I Q _ _).done I Q V ?_ _;rw[aS V V]at z;simp at z;exact⟨V,V⟩
 .have U:=J.push y (.cells (bE [.i 5,.i 1000]) aA);refine⟨m.gk k (U.fz _) _,m.lj k V D [5,1000] rfl rfl aJ λx m5 _ B f5=>⟨(m.ext k U).gk k f5 _,?_⟩⟩;intro G;have Y:J m5 G:=J.push _ _;have jD:gN G m5.size 0 [.i x]:=(cB.push m5 [.i x] aA).jD;clear_value G;have q:=B.ext k Y;have ol:=q.w.bC.len;have os:=hS.bC;simp at ol;refine⟨B.gk k (Y.fz _) _,q.w.bC.append (zs:=[.i 0]) q.w.new rfl jD bS λu ag m7 ac L=>⟨q.de D L λF hk=>V,?_⟩⟩;have q7:=q.fI I Q L (λF hk=>V) (q.w.KJ (l:=s.bC++[x]) L (by rw[eX];exact ac)) ⟨⟨q.fs.yN.bO,q.fs.yN.heap,q.fs.yN.ak,q.fs.yN.lh,q.fs.yN.lf,q.fs.yN.lr⟩,⟨bS,q.fs.jh.fl,q.fs.jh.heap,q.fs.jh.depth,q.fs.jh.ak⟩,bS,q.fs.lo.2⟩;exact(q7.box I Q _ _).done I Q V hc _
 .have ax:=m.w.heap.len;refine⟨λh1=>?_,λ_=>ah⟩;simp only[iX,aq]at h1;refine m.pick k V D (h.len:Int) λR v a0 a1 A Z=>?_;let⟨X,al⟩:=cq s.heap R.toNat;obtain⟨_,g0,-⟩:=A.w.heap.cK al;have hb:=A.w.heap.aC (a:=R.toNat) V;have nb:h.aC≠b:=λw=>by have:=A.w.kM b k;rw[w]at hb;omega
  have T:=J.push v (.cells (bE [.i 1,.i (-1)]) aA);have e5:=λac=>aM (T.same _ hb.2) ac;refine⟨a0,V,_,g0,e5 _,A.gk k (T.fz _) _,A.gk k (T.fz _) _,A.lj k V D [1,-1] rfl rfl aJ λx G _ q N=>?_⟩;have e6:=λac=>aM (N.same h.aC (aL hb.2 T.size) (by simpa using nb)) ac;have B:=A.ext k T;refine⟨e6 _,B.gk k N _,B.gk k N _,a0,V,q.w.heap.wr (o:=0) V V,?_⟩;let⟨an,L⟩:=q.w.heap.EX q.w.new al (cQ (X.aV+x));have Y:=q.fs.yN;have ai:=q.fs.jh;refine⟨q.de D L λF hk=>V,SQ.done (q.fI I Q L (λF hk=>V) (q.w.jJ L an) ⟨⟨Y.bO,λam hx=>?_,Y.ak,by simpa using Y.lh,Y.lf,Y.lr⟩,⟨ai.bC,λam hx=>?_,by simpa using ai.heap,ai.depth,ai.ak⟩,by simpa using q.fs.lo⟩) I Q V hc _⟩
  .rcases cO hx with w|w
   .exact Y.heap am w
   .rw[w];exact Y.heap X (av al)
  .rcases cO hx with w|w
   .exact ai.fl am w
   .rw[w];exact ai.fl X (av al)
 .simp only[uI,aq]at z;have U:=J.push y (.cells (bE [.i 0,.i 1,.i 99,.i (-1)]) aA);refine⟨m.gk k (U.fz _) _,m.lj k V D [0,1,99,-1] rfl rfl aJ λx m5 _ B f5=>⟨(m.ext k U).gk k f5 _,?_⟩⟩;let⟨fs,p,ae,ac,ag,ai,w,T,ew,el⟩:=B.iP z;have N:p∈s.ak:=by rw[w];simp
  have Y:=B.fs.yN.ak p N;have fl:=B.fs.jh.ak p N;rw[ew];let⟨wr,T',L⟩:=T.put (i:=1) (g:={p with pc:=x}) (c:=.i x) B.w.new bo rfl T.ax T.bg T.bB;exact⟨V,V,wr,B.tn I Q w T' L Y fl D V hc _⟩
 .simp only[uI,aq]at z;let⟨fs,p,ae,ac,ag,ai,w,T,ew,el⟩:=m.iP z;have N:p∈s.ak:=by rw[w];simp
  have Y:=m.fs.yN.ak p N;have fl:=m.fs.jh.ak p N;rw[ew];obtain⟨_,_,_,_,g4,_⟩:=T.jD;have hl:=LV p N;refine⟨V,V,ac,g4,(pX m.r.r V (T.bg.pw V) V).mono λ_ v⟨R,l',e',am,an,hm,r4,Z⟩=>⟨m.fS k D Z,R,e',m.gk k Z _,V,V,?_⟩⟩;have ax:=am.bn;have K:Mv n ro2 y (vM ro2 R.aC (11+3*fs.length)) v:=⟨Z.size,λW hb al=>Z.same W hb bS,λW hb=>fH V,λW hb=>by rw[fH V];exact m.w.new W (bJ Z.size hb),m.w.kM⟩;have z4:=Z.size;have ab:=m.k1;have al:=m.k2;have A:SQ n b j e S.size M.size (P+4) (vM ro2 R.aC (11+3*fs.length)) v bC h f s:=⟨m.w.mv K,m.r.to Z r4,⟨(K.jy _ ab.2.1).trans ab.1,V,ab.2.2⟩,⟨(K.jy _ al.2.1).trans al.1,V,al.2.2⟩,m.fs⟩;have T4:=T.mv K;let⟨wr,T',L⟩:=T4.put (i:=4) (g:={p with bg:=l'}) (c:=.s R) A.w.new bo rfl T4.ax (iG.gG (GI.bC am) λ_=>ji _ _ _) T4.bB;exact⟨wr,A.tn I Q w T' L ⟨Y.1,λaa hw=>(hm aa hw).elim (Y.2.1 aa) λw=>⟨V,V⟩,Y.2.2⟩ ⟨fl.1,by show l'.length<=_;omega,fl.2.2⟩ D V hc _⟩
 .simp only[uI,aq]at z;let⟨fs,p,ae,ac,ag,ai,w,T,ew,el⟩:=m.iP z;have N:p∈s.ak:=by rw[w];simp
  have Y:=m.fs.yN.ak p N;have fl:=m.fs.jh.ak p N;have hl:=LV p N;rw[ew];obtain⟨_,_,_,g3,_⟩:=T.jD;have Z:=T.ax.len;simp at Z;refine⟨V,V,ae,g3,V,V,ae,g3,Jr ae f.aC _ [0,5,1000,1003,-1000] T.aC.1 T.aC.2 rfl rfl aJ λF x G k0 ab z q K=>?_⟩;let⟨T',L⟩:=(T.mv K).G8 q.w.new k0 V x;exact⟨k0,V,(T.mv K).ax.Sj k0 V,q.tn I Q w T' L ⟨λaa hw=>(cO hw).elim (Y.1 aa) λw=>by simp at z;exact⟨V,V⟩,Y.2⟩ ⟨by show(p.ax.set _ _).length<=_;simp;omega,fl.2⟩ D V hc _⟩
 .simp only[uI,aq]at z;let⟨fs,p,ae,ac,ag,ai,w,T,ew,el⟩:=m.iP z;have N:p∈s.ak:=by rw[w];simp
  have Y:=m.fs.yN.ak p N;have fl:=m.fs.jh.ak p N;have hl:=LV p N;rw[ew];obtain⟨_,_,_,_,_,g5⟩:=T.jD;have Z:=T.bB.len;simp at Z;refine⟨V,V,ag,g5,V,V,ag,g5,Jr ag f.aC _ [1000,1,1001] T.aC.1 T.aC.2 rfl rfl aJ λF x G k0 ab z q K=>?_⟩;let⟨T',L⟩:=(T.mv K).EY q.w.new k0 V x;exact⟨k0,V,(T.mv K).bB.Sj k0 V,q.tn I Q w T' L ⟨Y.1,Y.2.1,λaa hw=>(cO hw).elim (Y.2.2 aa) λw=>by simp at z;exact⟨V,V⟩⟩ ⟨fl.1,fl.2.1,by show(p.bB.set _ _).length<=_;simp;omega⟩ D V hc _⟩
 .simp only[uI,aq]at z;have U:=J.push y (.cells (bE [.i 0,.i 1,.i 99,.i (-1)]) aA);refine⟨m.gk k (U.fz _) _,m.lj k V D [0,1,99,-1] rfl rfl aJ λx m5 _ B f5=>⟨(m.ext k U).gk k f5 _,?_⟩⟩;let⟨fs,p,ae,ac,ag,ai,w,T,ew,el⟩:=B.iP z;have N:p∈s.ak:=by rw[w];simp
  have Y:=B.fs.yN.ak p N;have fl:=B.fs.jh.ak p N;rw[ew];let⟨wr,T',L⟩:=T.put (i:=2) (g:={p with dst:=x}) (c:=.i x) B.w.new bo rfl T.ax T.bg T.bB;exact⟨V,V,wr,B.tn I Q w T' L Y fl D V hc _⟩
end
end
section
def O8(S:List Nat)(m:E):(Vc.bI S m).size=m.size:=by simp[Vc.bI]
def O6{S:List Nat}{m:E}{b:Nat}(h:b∉S):(Vc.bI S m)[b]? =m[b]? :=by
 unfold Vc.bI;rw[Xt];cases m[b]? <;>simp[h]
def AR(S:List Nat)(v:Value)(c:E):Prop:=∃d p e bC b a s,v=.tuple #[.agg #[O.v d,O.v p],Ox s bC b a]/\eY (bI S c) d p e/\fQ (bI S c) bC b a s/\vO s/\s.bC.length<=1000000/\s.heap.length<=1000000
section
variable{a:List Nat}{m:E}{b P:Nat}{c:O}
def Fb(D:∀d∈a,d<m.size)(q:b∈a)(k:Rd b c P m)(hP:P+3000+4*(300+40*Cg 18)<=10^16):aP cv 22 [vp b 0] m λO I=>AR a O I/\Fz [b] m I/\Rd b c (P+3000+4*(300+40*Cg 18)) I:=by
 apply xO (b,0);simp -zeta only[aG,aF];have v:=k.lt;intro e W;have b2:BS [e.size,m.size] b c m P W:=BS.Zl (BS.lj (S:=a) k _).1 _;have s1:e.size=m.size+1:=by simp[e]
 clear_value W;refine b2.call (S:=a) v (λ_ d=>d) (IM (b2.hS D) (by simp[q]) b2.s.r V) λt w x h _ t3 b3 f3=>?_;intro m4 X;obtain⟨b5,l5,-⟩:=b3.box (S:=a) (m1:=m4) (m2:=X) rfl rfl rfl;clear_value X;have N:=IT.mn _ _ _ _ _ l5 t3;refine(sV (b:=⟨x.1,x.2⟩) ⟨N.1.le (bA _ _),gT.le (bA _ _) N.2⟩).mono λ_ f⟨O,l,hv,A⟩=>⟨(b5.lw v λ_ d=>d).de (A.fz _),O,l,λp=>?_,λhy=>?_⟩;all_goals
  have b6:=b5.to (A.fz _) (b5.s.r.ext A)
  have z:=IT.mn _ _ _ _ _ (BS.le (B:=[h.size,e.size,m.size]) q (A.fz [b])) N
  have g:=b6.fS
 .intro j K L;have u:J f j:=J.push _ _;have G:cB j f.size eE [.i 0,.i 0,.i 0,.s .nil,.s .nil,.s .nil]:=cB.push _ _ _;have R:=b6.to (u.fz _) (b6.s.r.ext u);have Z:=IT.mn _ _ _ _ _ (BS.le (B:=[h.size,e.size,m.size]) q (u.fz [b])) z;clear_value j;let⟨T,Y⟩:=R.put (S:=a) k (by simp:m.size∈_) [.s t,.s w];let⟨s,H⟩:=T.put (S:=a) k (by simp:e.size∈_) [.i 3,.i 0,.i 0,.i 0,.s .nil,.s .nil,.s (.mk f.size 0 1 1)];have C:=IT.mn _ _ _ _ _ ((Y.trans H).trans (gL _ λ_=>dw _)) Z;have ha:=g m.size aJ;have i:=g e.size aJ;have M:cB L f.size eE [.i 0,.i 0,.i 0,.s .nil,.s .nil,.s .nil]:=(G.congr (bh _ _ _ _ V)).congr (bh _ _ _ _ V);have U:f.size∉a:=λF=>by have:=D _ F;omega
  have o:∀{Q:E},au Q .nil []:=⟨rfl,dy _,aJ,aJ⟩;refine⟨⟨t,w,⟨x.1,x.2⟩,.nil,.nil,.mk f.size 0 1 1,⟨3,0,0,0,[],[],[⟨0,0,0,[],[],[]⟩]⟩,rfl,⟨C.1,C.2⟩,⟨o,⟨rfl,dy _,aJ,aJ⟩,⟨rfl,ad _,aJ,λy aa r=>?_⟩⟩,⟨⟨aJ,aJ⟩,by simp[No],by simp[Ry],aJ,aJ,aJ⟩,aJ⟩,s.s.f,s.s.r.mono V⟩;cases y with
  |zero=>
   simp at r;subst r;exact⟨_,⟨.nil,.nil,.nil,rfl,o,o,o⟩,Jy U M.jD⟩
  |succ y=>simp at r
 .have ok:Ej ⟨x.1,x.2⟩:=hv.1 (by simpa using hy);have U:Le (bI ([h.size,e.size,m.size]++a) f) (bI [b] f):=gL _ (by simp[q]);refine(vx b6.s.r V (z.1.le U) (gT.le U z.2) ok).mono λ_ j⟨ak,ro,bC,hp,fr,ao,l,aa,p,ae,al,ab,r7,u⟩=>?_;have R:∀o,af j h.size o=af f h.size o:=λo=>kg u v (g _ aJ) o;refine⟨(b6.lw v λ_ d=>d).de u,_,_,_,_,bC,hp,fr,l,R _,R _,?_⟩;have an:b<f.size:=b6.s.r.lt;refine(FI (n:=ak) b6.s.r p (SO.of aa ae) ⟨u,r7⟩ V al ab).mono λ_ K⟨M,G,C,r,l,ah,ac,ag,y⟩=>?_;have Y:∀d,d<f.size->d≠b->K[d]? =j[d]? :=λd i p=>(y.f.same d i (by simpa using p)).trans (u.same d i (by simpa using p)).symm;have T:∀o,af K h.size o=af j h.size o:=λo=>aM (Y _ (g _ aJ).2 (oh (g h.size aJ))) o;refine⟨λd i=>Y d (g d i).2 (oh (g d i)),_,_,_,_,M,G,C,l,T _,T _,?_⟩;intro L aj;have t8:=IT.mn _ _ _ _ _ (BS.le (B:=[h.size,e.size,m.size]) q y.f) z;let⟨s,H⟩:=(b6.to y.f y.r).put (S:=a) k (by simp:m.size∈_) [.s t,.s w];let⟨Q,ai⟩:=s.put (S:=a) k (by simp:e.size∈_) [.i r.cY,.i r.value,.i r.bO,.i r.eH,.s M,.s G,.s C];have Z:=IT.mn _ _ _ _ _ ((H.trans ai).trans (gL _ λ_=>dw _)) t8;have ha:=g m.size aJ;have i:=g e.size aJ;refine⟨⟨t,w,⟨x.1,x.2⟩,M,G,C,r,rfl,⟨Z.1,Z.2⟩,ah _ (by rw[O8];simp[aj,L,aD]) λd _ am=>?_,ac,ag⟩,Q.s.f,Q.s.r.mono V⟩;rw[O6 λF=>PO (D d F) b6.s.f.size];exact(bh _ _ _ _ V).trans (bh _ _ _ _ V)
end
end
section
def QS(f:Nat->Nat):∀n,∃B,∀i,i<n->f i<=B
 |0=>⟨0,aJ⟩
 |n+1=>let⟨B,h⟩:=QS f n;⟨B+f n,λi a=>by
  rcases aX i n with e|e
  .have:=h i e;omega
  .have:i=n:=V;subst this;omega⟩
def fG.Et{w:cr}{s:St}(e:iT w s)(m:s.cY=0):s.heap=[]:=by
 have g:=e.done.1 m;let⟨l,t⟩:=e.heap.LD;let⟨B,n⟩:=QS l s.heap.length;apply eU;intro q;have y:0<s.heap.length:=List.length_pos_iff.2 q;have ib:∀k,∃(b:Nat)(c:bU),s.heap[b]? =some c/\0<c.aV/\k<=l b:=λk=>by
  induction k with
  |zero=>
   let⟨c,d⟩:=cq s.heap (s.heap.length -1);refine⟨_,c,d,?_,dy _⟩;have i:=e.jc c d;rcases tg c.aV 0 with f|f
   .have:=e.kH _ ⟨c,d,f⟩;rw[g]at this;simp[holds]at this
   .omega
  |succ k v=>
   let⟨b,c,d,r,p⟩:=v;have:=e.heap.ex b c d r;rw[g]at this;simp only[fj]at this;let⟨f,o,i⟩:=KC (h:=s.heap) (f:=b) V;let⟨j,hd⟩:=List.mem_iff_getElem?.1 o;have u:=t j f hd _ i V;rw[kP]at u;refine⟨j,f,hd,?_,V⟩;apply eU;intro x;have:=((e.heap.cell f (av hd)).vT V).2.1 _ i;omega
 obtain⟨b,c,d,_,p⟩:=ib (B+1);have:=n b (az d);omega
def fG.fX{a:cr}{s:St}(h:iT a s):iT a {s with eH:=40}:=⟨h.eT,h.cY,h.done,h.value,h.tf,aJ,⟨h.bO.1,by have:=h.bO;have:=h.eH;show s.bO<=40;omega⟩,h.depth,h.bC,h.heap,h.jc,h.ak,h.first,h.chain,h.kH,h.mD⟩
def fQ.le{m f:E}{bC d c:O}{s:St}(b:fQ m bC d c s)(a:Le m f):fQ f bC d c s:=⟨b.bC.le a,eO.le b.heap a λk j⟨n,e,h⟩=>⟨n,e,h.le a⟩,eO.le b.ak a λk j⟨r,o,h,e,g,i,l⟩=>⟨r,o,h,e,g.le a,i.le a,l.le a⟩⟩
def LwR(m:E)(v:Value)(a:E):Prop:=v=vb true/\J m a
section
variable{m:E}{d p bC b a:O}{c:cr}{s:St}
end
end
section
variable{b a:Nat}
def me(f:Nat->Bool):Nat->List Int
 |0=>[]
 |a+1=>me f a++(if f a=true then[(a:Int)]else[])
section
variable{f:Nat->Bool}
def qD:∀{a:Nat}{x:Int},x∈me f a<->∃k:Nat,k<a/\x=(k:Int)/\f k=true
 |0,x=>by simp[me]
 |a+1,x=>by
  rw[me,lE,qD];constructor
  .rintro(⟨k,d,b,c⟩|h)
   .exact⟨k,V,b,c⟩
   .split at h
    .simp at h;exact⟨a,V,h,by assumption⟩
    .simp at h
  .rintro⟨k,d,b,c⟩;by_cases e:k=a
   .subst e;right;rw[ao c];simp[b]
   .exact Or.inl ⟨k,V,b,c⟩
def ms:∀a:Nat,(me f a).length<=a
 |0=>by simp[me]
 |a+1=>by have:=ms a;rw[me,aU];split<;>simp<;>omega
def y8:∀a:Nat,(me f a).Pairwise (·<·)
 |0=>by simp[me]
 |a+1=>by
  rw[me,List.pairwise_append];refine⟨y8 a,by split<;>simp,λe d b c=>?_⟩;obtain⟨k,h,g,_⟩:=qD.1 d;split at c<;>simp at c
  omega
end
section
variable{m:E}{d p bC e c:O}{g:cr}{s:St}
def uY{c:Nat->Bool}(B:cB m b fL (km a c))(o:a<1000000000):nE 31 [O.v (.mk b 0 a a)] m (me c a):=by
 apply yR;refine dE (n:=a) V (λk q M=>J m M/\gS m M aA 1 q ((me c k).map Ce.i)) ⟨J.aH _,by simpa[me]using gS.nil _ _ _ _⟩ ?_;rintro k q p I μ l ⟨d,o6⟩ h
 have t:=ms (f:=c) k;refine dit (λe=>?_) λe=>?_
 .simp only[O.dU]at e;refine⟨V,by simp only[O.dU];omega,c k,by simpa using tO (B.ext d) (show k<a by omega),λg=>?_,λg=>?_⟩
  .intro r;refine oW o6 d V λu s i j=>h V _ _ ⟨j,?_⟩
   rw[me,ao g];exact i
  .refine h V _ _ ⟨d,?_⟩
   rw[me,ae (by simp[g]),eL];exact o6
 .simp only[O.dU]at e;have g:k=a:=V;subst g;exact⟨q,rfl,o6,d⟩
def EG{c:Nat->Bool}(B:cB m b fL (km a c))(d:a<1000000000):qR 31 [O.v (.mk b 0 a a)] m (me c a):=
 (uY B d).mono λ_ _⟨q,e,o,x⟩=>⟨q,e,au.gG o (by have:=ms (f:=c) a;omega),x⟩
end
end
section
variable{a:Nat}
def mr(x:Instr)(k:Nat):List Int:=
 if x.op=22 then[x.bM]else if x.op=20 then[(k:Int)+1,x.bM]else if x.op=21 then x.di else if x.op=23\/x.op=24 then[]else[(k:Int)+1]
inductive Cn(bt:List Instr)(r:Int):Nat->Prop
 |use {k:Nat} {x:Instr}:bt[k]? =some x->r∈x.args->¬(x.op=14\/x.op=15)->Cn bt r k
 |Xr {k:Nat} {x:Instr} {n:Int}:bt[k]? =some x->n∈mr x k->Cn bt r n.toNat->¬(jE x.op/\x.dst=r)->Cn bt r k
def Qq{bt:List Instr}{r:Int}{k:Nat}{x:Instr}(d:bt[k]? =some x):Cn bt r k<->(r∈x.args/\¬(x.op=14\/x.op=15))\/((∃n∈mr x k,Cn bt r n.toNat)/\¬(jE x.op/\x.dst=r)):=by
 constructor
 .intro h;cases h with
  |use a b c=>rw[d]at a;cases a;exact Or.inl ⟨b,c⟩
  |Xr a b c e=>rw[d]at a;cases a;exact Or.inr ⟨⟨_,b,c⟩,e⟩
 .rintro(⟨a,b⟩|⟨⟨n,a,b⟩,c⟩)
  .exact .use d a b
  .exact .Xr d a b c
inductive Iy(h:List bU)(ws:List Int):Nat->Prop
 |Xe {w:Int}:w∈ws->ib h w->Iy h ws (ix w)
 |field {a:Nat} {c:bU} {w:Int}:Iy h ws a->h[a]? =some c->w∈c.aN->ib h w->Iy h ws (ix w)
def Iy.lv{h:List bU}{b:List Int}(r:Iy h b a):js h a:=by
 cases r with
 |Xe _ h=>exact h.2
 |field _ _ _ h=>exact h.2
open Classical in
noncomputable def jT (a:cr) (f:be):List Int:=me (λr=>decide (Cn (dm a f.dW).bt r f.pc.toNat)) f.ax.length
noncomputable def AB (b:cr) (a:List be) (k:Nat):List Int:=
 match a[k]? with
 |none=>[]
 |some f=>match a[k+1]? with
  |none=>(jT b f).map (aQ f.ax)
  |some g=>((jT b f).filter λr=>!decide (r=g.dst)).map (aQ f.ax)
noncomputable def Qs (b:cr) (a:List be):Nat->List Int
 |0=>[]
 |k+1=>Qs b a k++AB b a k
noncomputable def ry (b:cr) (a:List be):List Int:=Qs b a a.length
open Classical in
noncomputable def needL (b:cr) (s:St):List Int:=if iT b s then me (λa=>decide (Iy s.heap (ry b s.ak) a)) s.heap.length else[]
open Classical in
noncomputable def Qf (b:cr) (s:St):List Int:=if iT b s then me (λa=>decide (js s.heap a/\¬Iy s.heap (ry b s.ak) a)) s.heap.length else[]
section
variable{b:cr}{s:St}
def TP(d:iT b s):(a:Int)∈needL b s<->Iy s.heap (ry b s.ak) a:=by
 rw[needL,ao d,qD];constructor
 .rintro⟨k,_,e,h⟩;have:a=k:=V;subst this;simpa using h
 .exactλh=>⟨a,by obtain⟨e,c,_⟩:=h.lv;exact az c,rfl,by simpa using h⟩
def Ts(d:iT b s):(a:Int)∈Qf b s<->js s.heap a/\¬Iy s.heap (ry b s.ak) a:=by
 rw[Qf,ao d,qD];constructor
 .rintro⟨k,_,e,h⟩;have:a=k:=V;subst this;simpa using h
 .exactλh=>⟨a,by obtain⟨e,c,_⟩:=h.1;exact az c,rfl,by simpa using h⟩
end
end
def Nz:∀{l d:List Int},l.Pairwise (·<·)->d.Pairwise (·<·)->(∀x,x∈l<->x∈d)->l=d
 |[],[],_,_,_=>rfl
 |[],y::t,_,_,h=>absurd ((h y).2 aZ) aJ
 |x::s,[],_,_,h=>absurd ((h x).1 aZ) aJ
 |x::s,y::t,b,c,h=>by
  rw[List.pairwise_cons]at b c;have e:x=y:=by
   rcases List.mem_cons.1 ((h x).1 aZ)with e|e
   .exact e
   .rcases List.mem_cons.1 ((h y).2 aZ)with a|a
    .exact a.symm
    .have:=b.1 y a;have:=c.1 x e;omega
  subst e;rw[Nz b.2 c.2 λz=>⟨λa=>?_,λa=>?_⟩]
  .rcases List.mem_cons.1 ((h z).1 (ah _ a))with e|e
   .have:=b.1 z a;omega
   .exact e
  .rcases List.mem_cons.1 ((h z).2 (ah _ a))with e|e
   .have:=c.1 z a;omega
   .exact e
def Vh{f:Nat->Bool}{n:Nat}{l:List Int}(d:l.Pairwise (·<·))(e:∀x∈l,0<=x/\x<(n:Int))(a:∀k:Nat,k<n->((k:Int)∈l<->f k=true)):l=me f n:=
 Nz d (y8 n) λx=>by
  rw[qD];constructor
  .intro h;have:=e x h;obtain⟨k,rfl⟩:∃k:Nat,x=k:=⟨x.toNat,V⟩;exact⟨k,V,rfl,(a k V).1 h⟩
  .rintro⟨k,b,rfl,c⟩;exact(a k b).2 c
def Q8:∀{l:List Int}{n:Int},l.Pairwise (·<·)->(GG l n).Pairwise (·<·)
 |[],n,_=>by simp[GG]
 |y::l,n,h=>by
  unfold GG;have a:=List.pairwise_cons.1 h;split
  .split
   .refine List.pairwise_cons.2 ⟨λz b=>?_,h⟩;rcases List.mem_cons.1 b with e|e
    .omega
    .have:=a.1 z e;omega
   .exact h
  .refine List.pairwise_cons.2 ⟨λz b=>?_,Q8 a.2⟩;rcases EL.1 b with e|e
   .omega
   .exact a.1 z e
def Om:∀{c a:List Int},a.Pairwise (·<·)->(Mp a c).Pairwise (·<·)
 |[],_,h=>h
 |y::c,a,h=>Om (c:=c) (Q8 (n:=y) h)
section
def Rf(f:Nat->Bool):List bU->Nat->Nat
 |[],_=>0
 |c::h,i=>(if f i=true then 0 else c.aN.length)+Rf f h (i+1)
def TA{f:Nat->Bool}{a:Nat}:∀(h:List bU)(i:Nat),a<i->Rf (j7 f a) h i=Rf f h i
 |[],_,_=>rfl
 |c::h,i,b=>by simp only[Rf];rw[lz V,TA h (i+1) V]
def NO{f:Nat->Bool}{a:Nat}(d:f a=false):∀(h:List bU)(i:Nat)(c:bU),i<=a->h[a -i]? =some c->Rf (j7 f a) h i+c.aN.length=Rf f h i
 |[],_,_,_,b=>by simp at b
 |g::h,i,c,j,b=>by
  simp only[Rf];by_cases e:i=a
  .subst e;simp at b;subst b;rw[sa,TA h _ V,ao rfl,d];simp;omega
  .have:=NO d h (i+1) c V (by rw[show a -i=(a -(i+1))+1 by omega]at b;simpa using b);rw[lz e];omega
def Qp(f:Nat->Bool):∀(h:List bU)(i:Nat),(∀c∈h,c.aN.length<=3)->Rf f h i<=3*h.length
 |[],_,_=>by simp[Rf]
 |c::h,i,a=>by
  have:=Qp f h (i+1) λd hd=>a d (ah _ hd);have:=a c aZ;simp only[Rf,aY];split<;>omega
structure RI(h:List bU)(ws:List Int)(f:Nat->Bool)(l:List Int):Prop where
 T5:∀a,f a=true->Iy h ws a
 rY:∀w∈l,ib h w->Iy h ws (ix w)
 cL:∀w∈ws,ib h w->f (ix w)=true\/w∈l
 oB:∀a c,f a=true->h[a]? =some c->∀w∈c.aN,ib h w->f (ix w)=true\/w∈l
section
variable{h:List bU}{a l:List Int}{f:Nat->Bool}{w:Int}{c:bU}
def RI.nil(h:List bU)(a:List Int):RI h a (λ_=>false) a:=⟨λ_ h=>by simp at h,λ_ b c=>.Xe b c,λ_ h _=>Or.inr h,λ_ _ h=>by simp at h⟩
def RI.skip(R:RI h a f (l++[w]))(n:ib h w->f (ix w)=true):RI h a f l:=by
 have k:∀v,ib h v->f (ix v)=true\/v∈l++[w]->f (ix v)=true\/v∈l:=λv g e=>e.elim Or.inl λe=>(List.mem_append.1 e).elim Or.inr λe=>by
  simp at e;subst e;exact Or.inl (n g)
 exact⟨R.T5,λv g=>R.rY v (bz _ g),λv d b=>k v b (R.cL v d b),λj c d b v m i=>k v i (R.oB j c d b v m i)⟩
def RI.Wt(R:RI h a f (l++[w]))(r:ib h w)(m:h[ix w]? =some c):RI h a (j7 f (ix w)) (l++c.aN):=by
 have p:=R.rY w aJ r;have o:∀v,ib h v->f (ix v)=true\/v∈l++[w]->j7 f (ix w) (ix v)=true\/v∈l++c.aN:=λv n e=>e.elim (λe=>Or.inl (vj e)) λe=>(List.mem_append.1 e).elim (λe=>Or.inr (bz _ e)) λe=>by
  simp at e;subst e;exact Or.inl (sa _ _)
 refine⟨λd k=>?_,λv n b=>?_,λv g b=>o v b (R.cL v g b),λd q g b v i j=>?_⟩
 .by_cases e:d=ix w
  .rw[e];exact p
  .rw[lz e]at k;exact R.T5 d k
 .rcases List.mem_append.1 n with e|e
  .exact R.rY v (bz _ e) b
  .exact .field p m e b
 .by_cases e:d=ix w
  .subst e;rw[m]at b;cases b;exact Or.inr (dw _ i)
  .rw[lz e]at g;exact o v j (R.oB d q g b v i j)
open Classical in
def RI.done(R:RI h a f []):f=λb=>decide (Iy h a b):=funext λb=>by
 rw[lD,aai];refine⟨R.T5 b,λr=>?_⟩;induction r with
 |Xe c d=>exact(R.cL _ c d).resolve_right aJ
 |field _ c d e g=>exact(R.oB _ _ g c _ d e).resolve_right aJ
end
end
section
variable{a:E}{l:List Int}
def _root_.Go.Vc.gS.Vg{m:E}{s:O}{w:Int}(h:gS a m aA 1 s ((l++[w]).map Ce.i)):s.len=l.length+1/\s.len<=s.cap/\af m s.aC (s.off+l.length*1)=some (vi w)/\gS a m aA 1 (s.cut 0 l.length 1) (l.map Ce.i)/\a.size<=(s.cut 0 l.length 1).aC:=by
 have b:s.len=l.length+1:=by have:=h.len;simp at this;omega
 have f:=h.jD l.length (.i w) aJ;rcases h.aQ with e|⟨c,d,tail,e,h1,h2,h3,h4⟩
 .rw[e]at b;simp at b
 .refine⟨b,by rw[e];exact h4,by rw[cT];exact f,?_⟩;rw[e,b];refine⟨⟨by simp[O.cut],Or.inr ⟨c,d,.i w::tail,?_,h1,?_,?_,by simp[O.cut];omega⟩⟩,h1⟩
  .simp[O.cut]
  .simpa using h2
  .simpa using h3
def EP{X:List Nat}{m:E}{s x:O}{f:List Int}{K:O->E->Prop}(i:gS a m aA 1 s (l.map Ce.i))(g:Fz X a m)(j:au m x f)(y:l.length+f.length<=10^12)
 (t:∀r c,gS a c aA 1 r ((l++f).map Ce.i)->Fz X a c->m.size<=c.size->(∀b,b<a.size->c[b]? =m[b]?)->(∀b,b<m.size->(s≠.nil->b≠s.aC)->c[b]? =m[b]?)->(r=.nil\/r.aC=s.aC\/m.size<=r.aC)->K r c):jb m aA [.i (0:Int)] 8 s x K:=by
 have e:=g.size
 have z:s.len=l.length:=by have:=i.len;simp at this;omega
 have v:=j.len
 refine gS.append (g:=m.extract 0 a.size) (zs:=[.i 0]) (d:=f.map Ce.i) (i.cL (by rw[jF e];exact ad _)) (J.NW e) (by simp[v]) j.sK V λr c k n w o p q=>?_
 have d:∀b,b<a.size->c[b]? =m[b]? :=λb d=>(n.same b (by rw[jF e];exact d)).trans (NX d e)
 exact t r c (by rw[eX];exact k.cL (by rw[jF e];exact ad _)) ⟨V,λb h u=>(d b h).trans (g.same b h u)⟩ o d p (q.elim (λh=>Or.inl h.2) λh=>h.elim (λh=>Or.inr (Or.inl h.2.1)) λh=>Or.inr (Or.inr (pB h.symm)))
def au.iI{m a:E}{s:O}(h:au m s l)(f:a[s.aC]? =m[s.aC]?):au a s l:=
 ⟨h.len,h.cap,h.fA,λk x i=>let⟨b,d,e⟩:=h.jD k x i;⟨b,d,λj c g=>(aM f _).trans (e j c g)⟩⟩
section
variable{m:E}{c s:O}{h:List bU}{b:List Int}
open Classical in
def Jj(E:cX m c h)(ab:No h)(am:h.length<=10000000)(ac:∀o∈h,o.aN.length<=3)(hs:au m s b)(hw:∀w∈b,uN w)(an:b.length<=100000000):qR 25 [O.v c,O.v s] m (me (λq=>decide (Iy h b q)) h.length):=by
 apply DK;have ai:=E.len;have en:Int.toNat (c.len:Int)=h.length:=V;rw[en];refine⟨V,V,V,V,?_⟩;intro d;have W:cB d m.size fL (km h.length λ_=>false):=Jv m _;have U:J m d:=J.push m _;have z1:d.size=m.size+1:=by simp[d]
 clear_value d;refine(fE (hs.ext U) V).then V λs0 m2 o2 i2 L=>⟨s0,rfl,?_⟩;have i:=Qp (λ_=>false) h 0 ac;refine wW (γ:=(Nat->Bool)×List Int) (λg rY M=>J m M/\Fz [m.size] d M/\cB M m.size fL (km h.length g.1)/\gS d M aA 1 rY (g.2.map Ce.i)/\RI h b g.1 g.2/\(∀w∈g.2,uN w)/\g.2.length+Rf g.1 h 0<=200000000) (λg=>g.2.length+Rf g.1 h 0) (λ_=>false,b)
  ⟨U.trans L,L.fz _,W.ext L,o2,.nil h b,hw,by simp only;omega⟩ ?_
 rintro⟨k,l⟩ rY j Y μ ⟨A,D,B,o3,R,F,N⟩ p
 simp only at B o3 R F N;have Q:rY.len=l.length:=by have:=o3.len;simp at this;omega
 refine⟨λu=>?_,λu=>?_⟩
 .simp only[iX,aq]at u;rcases Jt l with e|⟨r,w,e⟩
  .subst e;simp at Q;omega
  rw[Js]at e;subst e;let⟨p1,p4,p2,p3,p5⟩:=o3.Vg;simp only[aU,aY,cE]at Q N;have Z:cQ ((rY.len:Int) -1)=(r.length:Int):=by rw[aS V V];omega
  rw[Z];have e2:Int.toNat (0:Int)=0:=rfl;have e3:Int.toNat (r.length:Int)=r.length:=V;rw[e2,e3];have S:=F w aJ;have H:∀v∈r,uN v:=λv I=>F v (bz _ I);refine⟨V,V,w,p2,V,V,V,(gQ (cX.ext A E) S).then λt y i a=>⟨t,rfl,λhy=>?_,λhn=>p (k,r) _ _ ⟨A.trans a,D.trans (a.fz _),B.ext a,p3.ext a,R.skip λo=>absurd o (fb i hn),H,by simp only;omega⟩ (by simp only[aU,aY,cE];omega)⟩⟩;have G:=i.1 hy;let⟨x,aj⟩:=cz G;have af:=az x;have e4:cQ (w -1000)=(ix w:Nat):=by have:=G.1;have:=S.2;unfold ix;rw[aS V V];omega
  have e5:Int.toNat ((ix w:Nat):Int)=ix w:=V;rw[e4,e5];simp -zeta only[O.dU,O.fO,O.jg,bG,cT];have C:=B.ext a;refine⟨V,V,k (ix w),tO C af,λg=>?_,λg=>p (k,r) _ _ ⟨A.trans a,D.trans (a.fz _),C,p3.ext a,R.skip λ_=>by simpa using g,H,by simp only;omega⟩ (by simp only[aU,aY,cE];omega)⟩;have aa:k (ix w)=false:=by simpa using g
  refine⟨V,V,C.fq (by rw[mX];omega),?_⟩;intro o;have X:cB o m.size fL (km h.length (j7 k (ix w))):=NC C (ix w);have f5:Fz [m.size] y o:=⟨by simp[o,aD],λt _ i=>bh _ _ _ _ (by simpa using i)⟩;have K:J m o:=(A.trans a).aj (ad _) _ _;have ag:(rY.cut 0 r.length 1).aC≠m.size:=V;have o5:gS d o aA 1 (rY.cut 0 r.length 1) (r.map Ce.i):=(p3.ext a).congr (bh _ _ _ _ ag);clear_value o;obtain⟨z,P,g0,g1,g2⟩:=cX.aQ (cX.ext K E) x;have ak:=P.len;have al:=NO aa h 0 _ (dy _) (by simpa using x);have ah:(rY.cut 0 r.length 1).len=r.length:=by have:=o5.len;simp at this;omega
  refine⟨V,V,z,by simpa using g2,EP o5 ((D.trans (a.fz _)).trans f5) P V λap m6 o6 f6 z6 T _ _=>p (j7 k (ix w),r++(bd h w).aN) _ _ ⟨⟨by have:=K.size;omega,λt i=>(T t V).trans (K.same t i)⟩,f6,X.congr (T _ V),o6,R.Wt G x,λv I=>?_,by simp only[aU];omega⟩ (by simp only[aU,aY,cE];omega)⟩;rcases List.mem_append.1 I with e|e
  .exact H v e
  .exact ab _ (av x) v e
 .simp only[iX,bD]at u;have e:l=[]:=List.length_eq_zero_iff.1 V;subst e;obtain rfl:=R.done;intro y;have t:gS j y aA 1 (.mk j.size 0 0 0) []:=gS.new (J.aH j) aA 1 [] 0 aJ;have a:J j y:=J.push j _;clear_value y;refine dE (n:=h.length) V (λo z M=>J j M/\gS j M aA 1 z ((me (λq=>decide (Iy h b q)) o).map Ce.i)) ⟨a,by simpa[me]using t⟩ ?_;rintro o z m6 Y μ w ⟨r,o6⟩ p
  have G:=ms (f:=λq=>decide (Iy h b q)) o;refine dit (λu=>?_) λu=>?_
  .refine⟨V,by simp only[O.dU];omega,decide (Iy h b o),by simpa using tO (B.ext r) (show o<h.length by omega),λg=>?_,λg=>?_⟩
   .intro x;refine oW o6 r V λH C q v=>p V _ _ ⟨v,?_⟩
    rw[me,ao g];exact q
   .refine p V _ _ ⟨r,?_⟩
    rw[me,ae (by simp[g]),eL];exact o6
  .have e:o=h.length:=V;subst e;exact⟨z,rfl,au.gG o6 V,A.trans r⟩
def Gw(f:cX m c h)(d:No h)(g:h.length<=1000000000):dA cv 32 [O.v c] m (Gi h):=by
 apply yO;exact(rq f d g).mono λ_ i⟨s,b,e,a,_,x⟩=>⟨s,b,e,b,rfl,a,x⟩
open Classical in
def IH(B:cX m c h)(L:No h)(ak:h.length<=10000000)(W:Gi h)(hs:au m s b)(hw:∀w∈b,uN w)(al:b.length<=100000000):qR 16 [O.v c,O.v s] m (me (λy=>decide (Iy h b y)) h.length):=by
 apply CV;refine(Gw B L V).mono λ_ a⟨j,e,f,I⟩=>⟨j,e,λp=>absurd W (nb f p),λ_=>?_⟩;have ab:∀o∈h,o.aN.length<=3:=λo k=>(W.cells o k).fl;have ah:=B.len;have en:Int.toNat (c.len:Int)=h.length:=V;rw[en];refine⟨V,V,V,V,?_⟩;intro i;have Y:cB i a.size fL (km h.length λ_=>false):=Jv a _;have X:J a i:=J.push a _;have z1:i.size=a.size+1:=by simp[i]
 clear_value i;refine(rB (hs.ext (I.trans X)) V).then V λs0 m2 o2 i2 K=>⟨s0,rfl,?_⟩;have f:=Qp (λ_=>false) h 0 ab;have N:=cX.ext I B;refine wW (γ:=(Nat->Bool)×List Int) (λg rY M=>J a M/\Fz [a.size] i M/\cB M a.size fL (km h.length g.1)/\gS i M aA 1 rY (g.2.map Ce.i)/\RI h b g.1 g.2/\(∀w∈g.2,uN w)/\g.2.length+Rf g.1 h 0<=200000000) (λg=>g.2.length+Rf g.1 h 0) (λ_=>false,b)
  ⟨X.trans K,K.fz _,Y.ext K,o2,.nil h b,hw,by simp only;omega⟩ ?_
 rintro⟨g,l⟩ rY m3 ag μ ⟨q,z,t,o3,R,C,M⟩ H
 simp only at t o3 R C M;have S:rY.len=l.length:=by have:=o3.len;simp at this;omega
 refine⟨λp=>?_,λp=>?_⟩
 .simp only[iX,aq]at p;rcases Jt l with e|⟨r,w,e⟩
  .subst e;simp at S;omega
  rw[Js]at e;subst e;let⟨p1,p4,p2,p3,p5⟩:=o3.Vg;simp only[aU,aY,cE]at S M;have e1:cQ ((rY.len:Int) -1)=(r.length:Int):=by rw[aS V V];omega
  rw[e1];have e2:Int.toNat (0:Int)=0:=rfl;have e3:Int.toNat (r.length:Int)=r.length:=V;rw[e2,e3];have af:=C w aJ;have E:∀v∈r,uN v:=λv F=>C v (bz _ F);refine⟨V,V,w,p2,(mo (cX.ext q N) af.2).mono λ_ m4⟨y,j,e,f,ha,d⟩=>⟨y,j,e,V,V,V,λT=>?_,λQ=>H (g,r) _ _ ⟨q.trans d,z.trans (d.fz _),t.ext d,p3.ext d,R.skip λo=>by rw[f.2 o]at Q;exact absurd Q bo,E,by simp only;omega⟩ (by simp only[aU,aY,cE];omega)⟩⟩;have P:=f.1 T;let⟨k,ai⟩:=cz P;have ac:=az k;have e5:Int.toNat ((ix w:Nat):Int)=ix w:=V;rw[ha T,e5];simp -zeta only[O.dU,O.fO,O.jg,bG,cT];have u:=t.ext d;refine⟨V,V,g (ix w),tO u ac,λA=>?_,λA=>H (g,r) _ _ ⟨q.trans d,z.trans (d.fz _),u,p3.ext d,R.skip λ_=>by simpa using A,E,by simp only;omega⟩ (by simp only[aU,aY,cE];omega)⟩;have aa:g (ix w)=false:=by simpa using A
  refine⟨V,V,u.fq (by rw[mX];omega),?_⟩;intro n;have Z:cB n a.size fL (km h.length (j7 g (ix w))):=NC u (ix w);have f5:Fz [a.size] m4 n:=⟨by simp[n,aD],λj _ f=>bh _ _ _ _ (by simpa using f)⟩;have G:J a n:=(q.trans d).aj (ad _) _ _;have ae:(rY.cut 0 r.length 1).aC≠a.size:=V;have o5:gS i n aA 1 (rY.cut 0 r.length 1) (r.map Ce.i):=(p3.ext d).congr (bh _ _ _ _ ae);clear_value n;obtain⟨x,D,g0,g1,g2⟩:=cX.aQ (cX.ext G N) k;have aj:=NO aa h 0 _ (dy _) (by simpa using k);refine⟨V,V,x,by simpa using g2,EP o5 ((z.trans (d.fz _)).trans f5) D V λam m6 o6 f6 z6 U _ _=>H (j7 g (ix w),r++(bd h w).aN) _ _ ⟨⟨by have:=G.size;omega,λj f=>(U j V).trans (G.same j f)⟩,f6,Z.congr (U _ V),o6,R.Wt P k,λv F=>?_,by simp only[aU];omega⟩ (by simp only[aU,aY,cE];omega)⟩;rcases List.mem_append.1 F with e|e
  .exact E v e
  .exact L _ (av k) v e
 .simp only[iX,bD]at p;have e:l=[]:=List.length_eq_zero_iff.1 V;subst e;obtain rfl:=R.done;exact(EG t V).mono λ_ n⟨x,e,D,d⟩=>⟨x,e,x,rfl,D,(I.trans q).trans d⟩
end
end
end Go.Proofs.YtdalfjkmdekijaaGreat
