/- Part of a proof. -/
import Derived.Test.YtdalfjkmdekijaaGreatUG02
import Derived.Test.YtdalfjkmdekijaaGreatUG03
set_option linter.all false
set_option maxHeartbeats 8000000
set_option maxRecDepth 100000
namespace Go.Proofs.YtdalfjkmdekijaaGreat
open Go.Vc
section
variable{a:Nat}{c:bS}{l:List Int}{x:O}{K:O->E->Prop}{i:Int}
def Md(l r:List Ce)(o:Nat)(c:Ce)(h:l.length<=o):(l++r).set o c=l++r.set (o -l.length) c:=by
 rw[Xy _ _ h]
def mw:∀(a l r:List Ce)(o:Nat),l.length<=o->iO (l++r) o a=l++iO r (o -l.length) a
 |[],l,r,o,_=>rfl
 |c::a,l,r,o,h=>by
  simp only[iO];rw[Md _ _ _ _ h,mw a l _ (o+1) V];congr 2;omega
def Cw:∀(a l r:List Ce)(o:Nat),o+a.length<=l.length->iO (l++r) o a=iO l o a++r
 |[],l,r,o,_=>rfl
 |c::a,l,r,o,h=>by
  simp only[aW]at h;simp only[iO];rw[Zc _ _ V,Cw a _ _ (o+1) bN]
def Nh{f:Nat}:∀(b:List (List Ce))(a:Nat)(e:List Ce)(o:Nat)(d:List Ce),(∀c∈b,c.length=f)->b[a]? =some e->o+d.length<=f->iO b.flatten (a*f+o) d=(b.set a (iO e o d)).flatten
 |[],a,e,o,d,_,h,_=>by simp at h
 |x::b,0,e,o,d,g,h,j=>by
  simp at h;subst h;have i:=g x aX;rw[ji,PW,bE,Cw _ _ _ _ V,iR,ji]
 |x::b,a+1,e,o,d,g,h,j=>by
  have i:=g x aX;rw[ji,mw _ _ _ _ (by rw[i,fY];omega),iQ,ji];have k:(a+1)*f+o -x.length=a*f+o:=by rw[i,fY];omega
  rw[k,Nh b a e o d (λc l=>g c (ah _ l)) (by simpa using h) j]
def _root_.Go.Vc.gT.set{α:Type}{e:Nat}{R:List Ce->α->Prop}{f:List (List Ce)}{l:List α}(h:gT e R f l)(a:Nat){cs:List Ce}{x:α}(m:cs.length=e)(n:R cs x):gT e R (f.set a cs) (l.set a x):=by
 refine⟨by simp[h.len],λc b=>?_,λk c y b d=>?_⟩
 .rcases cL b with b|b
  .exact h.size c b
  .rw[b];exact m
 .by_cases j:k=a
  .subst j;have g:=ax b;have i:=ax d;simp at g i;rw[dQ g]at b;rw[dQ i]at d;simp at b d;subst b;subst d;exact n
  .rw[dT (λg=>j g.symm)]at b d;exact h.de k c y b d
def _root_.Go.Vc.gT.take{α:Type}{e:Nat}{R:List Ce->α->Prop}{b:List (List Ce)}{l:List α}(h:gT e R b l)(n:Nat):gT e R (b.take n) (l.take n):=by
 refine⟨by simp[h.len],λc a=>h.size c (cX a),λj c y a d=>?_⟩;have f:=ax a;simp at f;rw[dy V]at a d;exact h.de j c y a d
def EC{b:Nat}:∀(a:List (List Ce))(n:Nat),(∀c∈a,c.length=b)->a.flatten.take (n*b)=(a.take n).flatten
 |[],n,_=>aH
 |x::a,0,_=>aH
 |x::a,n+1,h=>by
  have d:=h x aX;rw[ji,List.take_append,dk (by rw[d,fY];omega),Mx,ji];have e:(n+1)*b -x.length=n*b:=by rw[d,fY];omega
  rw[e,EC a n λc f=>h c (ah _ f)]
section
variable{N:Nat}{d:Nat->Nat}{m:E}{b:O}{h:List bS}
def eR.len(e:eR N d m b h):b.len=h.length:=by
 obtain⟨f,c,a,_⟩:=e;have:=c.len;rw[dp a.size,a.len]at this;omega
def eR.cJ(q:eR N d m b h)(e:h[a]? =some c):∃f,af m b.az (b.off+a*3)=some (vi c.aS)/\af m b.az (b.off+a*3+1)=some (vi c.mK)/\af m b.az (b.off+a*3+2)=some (O.v f)/\ap m f c.aL/\FN N d m f c.aL:=by
 obtain⟨l,o,g,_⟩:=q;let⟨k,j⟩:=cg l a (by rw[g.len];exact ax e);obtain⟨f,rfl,p,n⟩:=g.de a k c j e;have r:=λi c e=>o.jC (a*3+i) c (iJ g.size j e);exact⟨f,r 0 (.i c.aS) rfl,r 1 (.i c.mK) rfl,r 2 (.s f) rfl,p,n⟩
def eR.cells(g:eR N d m b h)(t:h.length<=9223372036854775807):cT m b h:=by
 have r:=g.len;obtain⟨n,e,a,_⟩:=g;refine⟨r,e.le,V,λk x j=>?_⟩;let⟨l,f⟩:=cg n k (by rw[a.len];exact ax j);obtain⟨o,rfl,q,s⟩:=a.de k l x f j;refine⟨_,⟨o,rfl,q⟩,λi c p=>?_⟩;have:=e.jC (k*3+i) c (iJ a.size f p);rwa[<-dR]at this
def eR.wr(g:eR N d m b h){a o n:Nat}(f:a<h.length)(j:o+n<=3):fg m b.az (b.off+a*3+o) n:=by
 obtain⟨i,e,c,_⟩:=g;rw[dR];exact e.wr (by rw[dp c.size,c.len];have:(a+1)*3<=h.length*3:=dq _ f;omega)
def eR.az(e:eR N d m b h){a:Nat}(i:a<h.length):d b.az=3/\b.az<m.size:=by
 have j:=e.len;obtain⟨f,c,g,_⟩:=e;have:=c.le;have:=c.az V;exact⟨this.2,this.1⟩
def UC(N:Nat)(d:Nat->Nat)(m:E)(b:O)(h:List bS)(f:O)(l:List Int):Prop:=
 l≠[]->(d f.az=0/\N<=f.az/\FB m f l)/\∀(i:Nat)(g:O),i<h.length->af m b.az (b.off+i*3+2)=some (O.v g)->g.len≠0->g.az≠f.az
def FB.fP{b:E}{f:O}(h:fZ b m ay 1 f (l.map Ce.i))(d:l≠[]):b.size<=f.az/\FB m f l:=by
 rcases h.aO with e|⟨g,c,tail,e,h2,h3,_,_⟩
 .have a:=h.len;rw[e,dO,O.NS,PW]at a;exact absurd (List.length_eq_zero_iff.1 a) d
 .rw[e];exact⟨h2,c,tail,rfl,h3⟩
def UC.of{a:E}{w:Nat->Nat}{f:O}(q:eR N w a b h)(s:0<h.length->m[b.az]? =a[b.az]?)(u:l≠[]->fZ a m ay 1 f (l.map Ce.i))(k:l≠[]->d f.az=0)(A:N<=a.size):UC N d m b h f l:=λe=>by
 let⟨z,n⟩:=FB.fP (u e) e;refine⟨⟨k e,V,n⟩,λi x r g p=>?_⟩;let⟨c,o⟩:=dI r;obtain⟨y,_,_,v,kf,_⟩:=q.cJ o;rw[aK (s V),v]at g;have:=O.IE.1 (lG g);subst this;have t:c.aL≠[]:=λj=>by have:=kf.len;rw[j]at this;simp at this;exact p this
 have:=oI kf t;omega
def eR.put(L:eR N d m b h)(Z:∀g,m.size<=g->d g=0){o:Nat}{p:bS}(I:h[a]? =some c){new:List Ce}(ho:o+new.length<=3)
 (W:∀r,ap m r c.aL->FN N d m r c.aL->∃f,iO [.i c.aS,.i c.mK,.s r] o new=[.i p.aS,.i p.mK,.s f]/\ap m f p.aL/\FN N d m f p.aL/\(f=r\/UC N d m b h f p.aL)):
 eR N d (ai m b.az (b.off+a*3+o) new) b (h.set a p)/\dL (λk=>k=3) d m d (ai m b.az (b.off+a*3+o) new):=by
 have B:=ax I
 have V:=L.az B
 have J:dL (λk=>k=3) d m d (ai m b.az (b.off+a*3+o) new):=dL.ai Z V.1 _ _
 let⟨v,E,n,F⟩:=L
 let⟨S,w⟩:=cg v a (by rw[n.len];exact B)
 obtain⟨r,rfl,X,T⟩:=n.de a S c w I
 let⟨f,D,K,U,hd⟩:=W r X T
 have Q:∀(j:Nat)(q:List Ce)(g:O),v[j]? =some q->q[2]? =some (.s g)->j≠a->f.len≠0->g.len≠0->f.az≠g.az:=λj q g e H Y s t=>by
  rcases hd with rfl|hd
  .exact F a j _ q f g w e rfl H (λl=>Y l.symm) s t
  .have u:p.aL≠[]:=λl=>by have:=K.len;rw[l]at this;simp at this;exact s this
   refine kG ((hd u).2 j g (by rw[<-n.len];exact ax e) ?_ t);have:=E.jC (j*3+2) _ (iJ n.size e H);rwa[<-dR]at this
 refine⟨⟨v.set a (iO [.i c.aS,.i c.mK,.s r] o new),?_,?_,?_⟩,J⟩
 .rw[<-Nh v a _ o new n.size w ho,dR]
  exact E.set (by rw[dp n.size,n.len];have:(a+1)*3<=h.length*3:=dq _ B;omega)
 .rw[D]
  exact(n.set a rfl ⟨f,rfl,K,U⟩).mono (Ib.fI J bh)
 .rw[D]
  have G:=ax w
  intro i j C q x R u e z A y s t
  by_cases M:i=a
  .subst M
   rw[dQ G]at u
   rw[dT y]at e
   simp at u;subst u
   simp at z;subst z
   exact Q j q R e A (λl=>y l.symm) s t
  .rw[dT (λl=>M l.symm)]at u
   by_cases P:j=a
   .subst P
    rw[dQ G]at e
    simp at e;subst e
    simp at A;subst A
    exact kG (Q i C x u z y t s)
   .rw[dT (λl=>P l.symm)]at e
    exact F i j C q x R u e z A y s t
def eR.Ff(j:eR N d m b h)(k:∀e,m.size<=e->d e=0)(g:h[a]? =some c)(n:Int):
 eR N d (ai m b.az (b.off+a*3) [.i n]) b (h.set a {c with aS:=n})/\dL (λe=>e=3) d m d (ai m b.az (b.off+a*3) [.i n]):=
 j.put k g (o:=0) (new:=[.i n]) aH λf i e=>⟨f,rfl,i,e,Or.inl rfl⟩
def eR.setCell(k:eR N d m b h)(q:∀e,m.size<=e->d e=0)(g:a<h.length)(n t:Int){f:O}(j:ap m f l)(e:UC N d m b h f l):
 eR N d (ai m b.az (b.off+a*3) [.i n,.i t,.s f]) b (h.set a ⟨n,t,l⟩)/\dL (λi=>i=3) d m d (ai m b.az (b.off+a*3) [.i n,.i t,.s f]):=by
 let⟨c,i⟩:=dI g
 exact k.put q i (o:=0) (new:=[.i n,.i t,.s f]) aH λr u s=>⟨f,rfl,j,λp=>(e p).1,Or.inr e⟩
def eR.cut(j:eR N d m b h){n:Nat}(v:n<=h.length):eR N d m (b.cut 0 n 3) (h.take n):=by
 have u:=j.len;let⟨f,q,g,r⟩:=j;refine⟨f.take n,by rw[<-EC f n g.size];exact q.cut V,g.take n,λi k o p a l c e=>?_⟩;have s:i<n:=by have:=ax c;simp at this;omega
 have t:k<n:=by have:=ax e;simp at this;omega
 rw[dy s]at c;rw[dy t]at e;exact r i k o p a l c e
def eR.push(F:eR N d m b h)(Q:∀c,m.size<=c->d c=0)(S:x.len=1){p t:Int}{f:O}(R:gP m x.az x.off [.i p,.i t,.s f])(E:ap m f l)(C:UC N d m b h f l)(W:h.length<=2000000000)
 (M:∀z y w,eR N z w y (h++[⟨p,t,l⟩])->dL (λk=>k=3) d m z w->K y w):jb m se [.i (0:Int),.i (0:Int),.s O.nil] 40 b x K:=by
 have U:=F.len
 let⟨k,D,A,J⟩:=F
 refine iI.append (zs:=[.i 0,.i 0,.s .nil]) (c:=[.i p,.i t,.s f]) D Q (by simp[S]) R V λz y w T H=>M z y w ⟨k++[[.i p,.i t,.s f]],by simpa using T,(A.y9 (cs:=[.i p,.i t,.s f]) (x:=⟨p,t,l⟩) rfl ⟨f,rfl,E,λe=>(C e).1⟩).mono (Ib.fI H bh),?_⟩ H
 have G:∀(o:Nat)(q:List Ce)(c:O),k[o]? =some q->q[2]? =some (.s c)->f.len≠0->c.len≠0->f.az≠c.az:=λo q c v s e n=>by
  have P:l≠[]:=λI=>by have:=E.len;rw[I]at this;simp at this;exact e this
  refine kG ((C P).2 o c (by rw[<-A.len];exact ax v) ?_ n);have:=D.jC (o*3+2) _ (iJ A.size v s);rwa[<-dR]at this
 have yP:∀{i:Nat}{j:List Ce}{a:O},(k++[[.i p,.i t,.s f]])[i]? =some j->j[2]? =some (.s a)->k[i]? =some j\/(i=k.length/\a=f):=λ{i j a} g r=>by
  rcases aU i k.length with e|e
  .rw[aw e]at g;exact Or.inl g
  .rw[aG e]at g;have n:i -k.length=0:=by have:=ax g;simp at this;omega
   rw[n]at g;simp at g;subst g;simp at r;exact Or.inr ⟨V,r.symm⟩
 intro i o j q a c g v r s L e n
 rcases yP g r with B|⟨B,rfl⟩
 .rcases yP v s with u|⟨u,rfl⟩
  .exact J i o j q a c B u r s L e n
  .exact kG (G i j a B r n e)
 .rcases yP v s with u|⟨u,rfl⟩
  .exact G o q c u s e n
  .omega
end
structure sk(ro:Nat->Nat)(m:E)(fr:O)(fs:List be)(f:be)(r o h:O)(css:List (List Ce)):Prop where
 sq:iI ro m eF 6 4 fr (css.flatten++[.i f.dV,.i f.pc,.i f.dst,.s r,.s o,.s h])
 len:css.length=fs.length
 size:∀cs∈css,cs.length=6
 de:∀(i:Nat)(cs:List Ce)(g:be),css[i]? =some cs->fs[i]? =some g->Ut ro m i cs g
 av:iI ro m ay 1 (10+3*fs.length) r (f.av.map Ce.i)
 ba:iI ro m ay 1 (11+3*fs.length) o (f.ba.map Ce.i)
 bA:iI ro m ay 1 (12+3*fs.length) h (f.bA.map Ce.i)
section
variable{d n:Nat->Nat}{m k:E}{b:O}{a:List be}{f:be}{r e h:O}{j:List (List Ce)}
def oH.iP(n:oH d m b (a++[f])):∃r e h j,sk d m b a f r e h j:=by
 let⟨j,u,l,v,p⟩:=n;have o:j≠[]:=λc=>by rw[c]at l;simp at l
 have c:j=j.dropLast++[j.getLast o]:=(iG o).symm;generalize j.dropLast=c0 at c;generalize j.getLast o=cl at c;subst c;have t:c0.length=a.length:=by simpa using l
 obtain⟨r,e,h,rfl,y,x,n⟩:=p a.length cl f (by rw[aG V];simp[t]) aH;refine⟨r,e,h,c0,by simpa using u,t,λk w=>v k (by simp[w]),λi k g q s=>p i k g ?_ ?_,y,x,n⟩
 .rw[aw (ax q)];exact q
 .rw[aw (ax s)];exact s
def sk.tj(T:sk d m b a f r e h j):oH d m b (a++[f]):=by
 refine⟨j++[[.i f.dV,.i f.pc,.i f.dst,.s r,.s e,.s h]],by simpa using T.sq,by simp[T.len],λl c=>?_,λi l o g k=>?_⟩
 .rcases List.mem_append.1 c with c|c
  .exact T.size l c
  .simp at c;subst c;rfl
 .rcases aU i a.length with n|n
  .rw[aw (by rw[T.len];exact n)]at g;rw[aw n]at k;exact T.de i l o g k
  .have p:i=a.length:=by have:=ax k;simp at this;omega
   subst p;rw[aG (by rw[T.len];omega)]at g;simp[T.len]at g k;subst g;subst k;exact⟨r,e,h,rfl,T.av,T.ba,T.bA⟩
def sk.ED(T:sk d m b a f r e h j):b.len=a.length+1:=by
 have:=T.sq.len;simp only[aT,dp T.size,T.len,aW,cD]at this;omega
def sk.jC(T:sk d m b a f r e h j):af m b.az (b.off+a.length*6)=some (vi f.dV)/\af m b.az (b.off+a.length*6+1)=some (vi f.pc)/\af m b.az (b.off+a.length*6+2)=some (vi f.dst)/\
 af m b.az (b.off+a.length*6+3)=some (O.v r)/\af m b.az (b.off+a.length*6+4)=some (O.v e)/\af m b.az (b.off+a.length*6+5)=some (O.v h):=by
 have l:j.flatten.length=a.length*6:=by rw[dp T.size,T.len]
 have g:=λ(i:Nat)(c:Ce)(k:[Ce.i f.dV,Ce.i f.pc,Ce.i f.dst,Ce.s r,Ce.s e,Ce.s h][i]? =some c)=>T.sq.jC (a.length*6+i) c (by rw[aG V,l,Gl];exact k)
 exact⟨g 0 (.i f.dV) rfl,g 1 (.i f.pc) rfl,g 2 (.i f.dst) rfl,g 3 (.s r) rfl,g 4 (.s e) rfl,g 5 (.s h) rfl⟩
def sk.fI{p:Nat->Prop}(T:sk d m b a f r e h j)(c:dL p d m n k)(g:∀l,(l=4\/10<=l)->¬p l):sk n k b a f r e h j:=
 ⟨T.sq.fI c (g _ V),T.len,T.size,λi o q s t=>(T.de i o q s t).fI c λl u _=>g l V,T.av.fI c (g _ V),T.ba.fI c (g _ V),T.bA.fI c (g _ V)⟩
def sk.ext(T:sk d m b a f r e h j)(g:∀c,m.size<=c->d c=0)(c:J m k):sk d k b a f r e h j:=T.fI (dL.fK (λ_=>False) c g) λ_ _=>id
def sk.wU{p:Nat->Prop}(T:sk d m b a f r e h j)(s:dL p d m n k)(t:∀c,10<=c->c<10+3*a.length->¬p c):∀(i:Nat)(g:List Ce)(l:be),j[i]? =some g->a[i]? =some l->Ut n k i g l:=λi g l q o=>
 (T.de i g l q o).fI s λc u _=>t c V (oh (ax o))
def sk.Hg(T:sk d m b a f r e h j)(p:∀c,m.size<=c->d c=0)(n:0<=i)(g:i<f.av.length)(v:Int):
 sk d (ai m r.az (r.off+i.toNat*1) [.i v]) b a {f with av:=iF f.av i v} r e h j/\dL (λk=>4<=k/\k≠9) d m d (ai m r.az (r.off+i.toNat*1) [.i v]):=by
 have o:r.cap≠0:=λl=>by have:=(T.av.Ew l).1;simp at this;rw[this]at g;simp at g;omega
 have c:dL (λk=>k=10+3*a.length) d m d (ai m r.az (r.off+i.toNat*1) [.i v]):=dL.ai p (T.av.az o).2 _ _
 exact⟨⟨T.sq.fI c V,T.len,T.size,T.wU c λk _ q=>V,T.av.iF n g v,T.ba.fI c V,T.bA.fI c V⟩,c.mono λk q=>V⟩
def sk.y8(T:sk d m b a f r e h j)(p:∀c,m.size<=c->d c=0)(n:0<=i)(g:i<f.ba.length)(v:Int):
 sk d (ai m e.az (e.off+i.toNat*1) [.i v]) b a {f with ba:=iF f.ba i v} r e h j/\dL (λk=>4<=k/\k≠9) d m d (ai m e.az (e.off+i.toNat*1) [.i v]):=by
 have o:e.cap≠0:=λl=>by have:=(T.ba.Ew l).1;simp at this;rw[this]at g;simp at g;omega
 have c:dL (λk=>k=11+3*a.length) d m d (ai m e.az (e.off+i.toNat*1) [.i v]):=dL.ai p (T.ba.az o).2 _ _
 exact⟨⟨T.sq.fI c V,T.len,T.size,T.wU c λk _ q=>V,T.av.fI c V,T.ba.iF n g v,T.bA.fI c V⟩,c.mono λk q=>V⟩
def sk.Fg(T:sk d m b a f r e h j)(p:∀c,m.size<=c->d c=0)(n:0<=i)(g:i<f.bA.length)(v:Int):
 sk d (ai m h.az (h.off+i.toNat*1) [.i v]) b a {f with bA:=iF f.bA i v} r e h j/\dL (λk=>4<=k/\k≠9) d m d (ai m h.az (h.off+i.toNat*1) [.i v]):=by
 have o:h.cap≠0:=λl=>by have:=(T.bA.Ew l).1;simp at this;rw[this]at g;simp at g;omega
 have c:dL (λk=>k=12+3*a.length) d m d (ai m h.az (h.off+i.toNat*1) [.i v]):=dL.ai p (T.bA.az o).2 _ _
 exact⟨⟨T.sq.fI c V,T.len,T.size,T.wU c λk _ q=>V,T.av.fI c V,T.ba.fI c V,T.bA.iF n g v⟩,c.mono λk q=>V⟩
def sk.az(T:sk d m b a f r e h j):d b.az=4/\b.az<m.size:=by
 have:=T.ED;have:=T.sq.le;have:=T.sq.az V;exact⟨this.2,this.1⟩
def sk.Ru(T:sk d m b a f r e h j)(i:∀c,m.size<=c->d c=0)(v:Int):
 sk d (ai m b.az (b.off+a.length*6+1) [.i v]) b a {f with pc:=v} r e h j/\dL (λk=>4<=k/\k≠9) d m d (ai m b.az (b.off+a.length*6+1) [.i v]):=by
 have c:dL (λk=>k=4) d m d (ai m b.az (b.off+a.length*6+1) [.i v]):=dL.ai i T.az.1 _ _
 refine⟨⟨?_,T.len,T.size,T.wU c λk l n=>V,T.av.fI c V,T.ba.fI c V,T.bA.fI c V⟩,c.mono λk p=>V⟩
 have g:j.flatten.length=a.length*6:=by rw[dp T.size,T.len]
 have:=T.sq.set (o:=a.length*6+1) (new:=[.i v]) (by simp[g])
 rw[mw _ _ _ _ V,g,Gl]at this
 rw[dR];exact this
def sk.Y8(T:sk d m b a f r e h j):fg m b.az (b.off+a.length*6+1) 1:=by
 rw[dR];exact T.sq.wr (by simp only[aT,dp T.size,T.len,aW,cD];omega)
end
def oH.Vj{d:Nat->Nat}{m:E}{c:O}{a:List be}{f:be}(e:oH d m c (a++[f])):oH d m (c.cut 0 a.length 6) a:=by
 let⟨r,o,h,b,T⟩:=e.iP;have g:b.flatten.length=a.length*6:=by rw[dp T.size,T.len]
 have:=T.sq.cut (n:=a.length) (by rw[T.ED];omega);rw[mO V,dk V]at this;exact⟨b,this,T.len,T.size,T.de⟩
def oH.push{d:Nat->Nat}{m:E}{l:O}{b:List be}(D:oH d m l b)(F:∀a,m.size<=a->d a=0)(H:x.len=1){a:be}{c j g:O}(G:gP m x.az x.off [.i a.dV,.i a.pc,.i a.dst,.s c,.s j,.s g])
 (y:iI d m ay 1 (10+3*b.length) c (a.av.map Ce.i))(z:iI d m ay 1 (11+3*b.length) j (a.ba.map Ce.i))(A:iI d m ay 1 (12+3*b.length) g (a.bA.map Ce.i))(N:b.length<=1000000)
 (n:∀k c e,oH k e c (b++[a])->dL (λp=>p=4) d m k e->K c e):jb m eF [.i (0:Int),.i (0:Int),.i (0:Int),.s O.nil,.s O.nil,.s O.nil] 96 l x K:=by
 let⟨v,q,s,t,J⟩:=D
 have M:l.len=b.length:=by have:=q.len;rw[dp t,s]at this;omega
 refine iI.append (zs:=[.i 0,.i 0,.i 0,.s .nil,.s .nil,.s .nil]) (c:=[.i a.dV,.i a.pc,.i a.dst,.s c,.s j,.s g]) q F (by simp[H]) G V λk L e I p2=>n k L e ?_ p2
 exact sk.tj (f:=a) (a:=b) (j:=v) (r:=c) (e:=j) (h:=g) ⟨by simpa using I,s,t,λi u w B C=>(J i u w B C).fI p2 λp n _=>V,y.fI p2 V,z.fI p2 V,A.fI p2 V⟩
end
section
variable{m:E}{d:List bS}{g:Nat->Nat}{b k N j:Nat}{q r:List Int}{c:bS}{i:Int}{e:Nat->Int}
def Ih:∀(d:List bS)(k:Nat),k<=d.length->(∀c∈d.take k,c.aS≠0)->k<=fp d
 |[],k,a,_=>by simp at a;simp[a]
 |c::d,0,_,_=>dE _
 |c::d,k+1,a,b=>by
  have f:=b c aH;have:=Ih d k (by simpa using a) (λe hd=>b e (by simp[hd]));simp only[fp];rw[ae f];omega
def MP:∀(d:List bS)(k:Nat)(c:bS),(∀b∈d.take k,b.aS≠0)->d[k]? =some c->c.aS=0->fp d=k
 |[],k,c,_,a,_=>by simp at a
 |b::d,0,c,_,a,e=>by simp at a;subst a;simp[fp,e]
 |b::d,k+1,c,f,a,e=>by
  have g:=f b aH;have:=MP d k c (λx h=>f x (by simp[h])) (by simpa using a) e;simp only[fp];rw[ae g,this]
def Fu{i:O}(g:cT m i d):LI cq 245 [O.v i] m (vi (fp d)):=by
 apply zB;have p:=g.len;refine dZ (n:=d.length) (p▸g.fu) (λk a=>J m a/\∀c∈d.take k,c.aS≠0) ⟨J.aF _,aH⟩ ?_;rintro k t I μ o ⟨a,h⟩ q
 refine dit (λl=>?_) λl=>?_
 .let⟨c,f⟩:=cg d k;obtain⟨r,s,j,_⟩:=(cT.ext a g).aO f;refine⟨V,V,c.aS,by simpa using j,λb=>⟨?_,a⟩,λb=>q V _ ⟨a,bM f h (by simpa using b)⟩⟩;rw[MP d k c h f (by simpa using b)]
 .refine⟨?_,a⟩;have:=Ih d k o h;have:=uQ d;have e:(i.len:Int)=(fp d:Int):=V;rw[e]
def vI(g:Nat->Nat)(b k:Nat):Nat->Nat:=λc=>if c=b then k else g c
def jh(g:Nat->Nat)(b k:Nat):vI g b k b=k:=ak rfl
def fH{c:Nat}(d:c≠b):vI g b k c=g c:=ae d
def dL.vI{p:Nat->Prop}{m':E}(d:J m m')(e:∀b,m.size<=b->g b=0)(f:m.size<=b)(h:b<m'.size)(k:Nat):dL p g m (vI g b k) m':=
 ⟨d.size,λc a=>fH V,λc a=>by rw[fH V];exact e c (bH d.size a),λc a _=>d.same c a⟩
def Mo{s:O}(f:eR N g m s d)(p:∀b,m.size<=b->g b=0){c:Nat}(ha:c<=d.length)(w:Int){G:O}(T:ap m G q)(W:d.length<=2000000000)(L:q.length<=1000000000)(I:N<=m.size):
 aN cq 246 [O.v s,vi c,vi w,O.v G] m λZ S=>∃v M,Z=O.v M/\eR N v S M (lX d c ⟨1,w,q⟩)/\HC g m v S:=by
 apply HN
 simp -zeta only[aE,aD]
 refine(fE T L).then L λE u o1 Q H=>⟨E,rfl,?_⟩
 intro X a
 have n:J u a:=((J.aF u).aP _).ai (ad _) _ _
 have s3:a.size=u.size+1:=by simp[a,X,aA]
 have t:=H.trans n
 clear_value a
 have y:HC g m g a:=dL.fK _ t p
 have C:=y.new
 have A:eR N g a s d:=f.fI (dL.fK (λ_=>False) t p) id id
 have aa:=f.len
 have R:=Q.ext n
 have P:q≠[]->g E.az=0:=λU=>by
  rcases o1.az with e|e
  .subst e;have:=Q.len;simp at this;exact absurd (List.length_eq_zero_iff.1 this.symm) U
  .exact p _ e
 have K:g u.size=0:=p _ H.size
 refine⟨λe=>?_,λe=>?_⟩
 .simp at e
  intro h
  have i:J a h:=(J.aF a).aP _
  have k8:gP h a.size 0 [.i 1,.i w,.s E]:=(cz.push a _ _).jC
  have F:HC g m g h:=y.trans (dL.fK _ i C)
  have s4:h.size=a.size+1:=by simp[h]
  clear_value h
  refine eR.push (A.fI (dL.fK (λ_=>False) i C) id id) F.new (x:=.mk a.size 0 1 1) rfl k8 (R.ext i) (UC.of f (λz=>(t.trans i).same _ (f.az z).2) (λ_=>o1.ext (n.trans i)) P I) W λv r Y D l=>⟨λb j=>?_,v,r,rfl,?_,F.trans (l.mono λk B=>Or.inl B)⟩
  .simp at j;subst j
   exact l.fS _ V (by rw[K];decide)
  .rw[lX,ak V];exact D
 .simp at e
  have h:c<d.length:=V
  have i:Int.toNat (c:Int)=c:=V
  rw[i]
  refine⟨V,V,A.wr (o:=0) h bh,?_⟩
  intro Y
  let⟨D,l⟩:=A.setCell C h 1 w R (UC.of f (λz=>t.same _ (f.az z).2) (λ_=>o1.ext n) P I)
  refine⟨λb j=>?_,g,s,rfl,?_,y.trans (l.mono λk B=>Or.inl B)⟩
  .simp at j;subst j
   exact l.fS _ V (by rw[K];decide)
  .rw[lX,ae V];exact D
def QN(b:d[j]? =some c)(a:c.aS≠0):kH d (j+1)=j+1:=by
 simp only[kH,b];rw[ae a]
def Ue(b:d[j]? =some c)(a:c.aS=0):kH d (j+1)=kH d j:=by
 simp only[kH,b];rw[ak a]
def wI{a:O}(b:cT m a d):aN cq 248 [O.v a] m λv n=>v=O.v (a.cut 0 (kH d d.length) 3)/\J m n:=by
 apply Jv;have w:=b.len;have t:=b.cap;have x:=b.fu;refine⟨λi n=>J m n/\∃j:Nat,i=j/\j<=d.length/\kH d j=kH d d.length,λi _=>i.toNat,⟨J.aF _,d.length,V,ad _,rfl⟩,?_⟩;rintro i r ⟨l,j,rfl,y,o⟩;have hO:kH d j=j->Value.slice=Value.slice->(0:Int)<=(0:Int)/\(0:Int)<=(j:Int)/\(j:Int)<=(a.cap:Int)/\(O.v (O.cut a (Int.toNat (0:Int)) (Int.toNat (j:Int)) 3)=O.v (a.cut 0 (kH d d.length) 3)/\J m r):=λe _=>by
  refine⟨V,V,V,?_,l⟩;rw[<-o,e];rfl
 refine⟨λf=>?_,λf=>?_⟩
 .simp only[gJ,an]at f;obtain⟨k,rfl⟩:∃k,j=k+1:=⟨j -1,V⟩;have p:cQ (((k+1:Nat):Int) -1)=(k:Int):=by rw[aQ V V];omega
  rw[p];let⟨c,h⟩:=cg d k;obtain⟨s,u,q,_⟩:=(cT.ext l b).aO h;refine⟨V,V,c.aS,by simpa using q,λg=>⟨⟨l,k,rfl,V,?_⟩,by show(k:Int).toNat<((k+1:Nat):Int).toNat;omega⟩,λg=>hO (QN h (by simpa using g)) rfl⟩;rw[<-o,Ue h (by simpa using g)]
 .simp only[gJ,br]at f;have:j=0:=V;subst this;exact hO rfl rfl
def iI.Vj{s:O}(d:iI g m ay 1 k s ((q++[i]).map Ce.i)):s.len=q.length+1/\af m s.az (s.off+q.length*1)=some (vi i)/\iI g m ay 1 k (s.cut 0 q.length 1) (q.map Ce.i):=by
 have a:s.len=q.length+1:=by have:=d.len;simp at this;omega
 refine⟨a,?_,?_⟩
 .have:=d.jC q.length (.i i) aH;rw[cO];exact this
 .have:=d.cut (n:=q.length) V;rw[cO,eW,mO aH,dk aH]at this;exact this
def fQ.U0(h:fQ d (λb=>e b+eK (i::r) b))(c:∀b,0<=e b)(a:gZ d i)(f:(aZ d i).aS=1):fQ (d.set (ix i) jT) (λb=>e b+eK ((aZ d i).aL.reverse++r) b):=by
 let⟨g,j⟩:=cw a;refine fQ.Qr h g f ?_ bh bh rfl (by simp[jT]) (by simp[jT]) (λ_=>rfl) λb=>?_
 .simp only[iz a.1,ak];have:=c (ix i);have:=iA r (ix i);omega
 .simp only[iz a.1,nP,yT];omega
def fQ.Ti(c:fQ d (λb=>e b+eK (i::r) b))(g:∀b,0<=e b)(f:gZ d i)(j:(aZ d i).aS≠1):fQ (gE d i) (λb=>e b+eK r b):=by
 let⟨a,h⟩:=cw f;have k:=(c.cell _ (aq a)).hi;refine fQ.JI c a h V V (λb=>?_) ?_
 .simp only[iz f.1];split<;>omega
 .have:=g (ix i);have:=iA r (ix i);omega
def fQ.UZ(a:fQ d (λb=>e b+eK (i::r) b))(c:i<1000):fQ d (λb=>e b+eK r b):=
 a.congr λb=>by simp only[eK];rw[ae V];omega
def fQ.Th(f:fQ d (λb=>e b+eK (i::r) b))(c:∀b,0<=e b)(a:1000<=i):gZ d i:=
 ⟨a,f.lv _ (by simp only[iz a,ak];have:=c (ix i);have:=iA r (ix i);omega)⟩
def IJ:List bS->Nat
 |[]=>0
 |c::d=>c.aL.length+IJ d
def Kc:∀{d:List bS}{e:Nat}{c:bS}(b:bS),d[e]? =some c->IJ (d.set e b)+c.aL.length=IJ d+b.aL.length
 |[],e,c,b,d=>by simp at d
 |g::d,0,c,b,f=>by simp at f;subst f;simp only[iR,IJ];omega
 |g::d,e+1,c,b,f=>by
  have:=Kc (d:=d) (e:=e) b (by simpa using f);simp only[iQ,IJ];omega
def Rc:∀{d:List bS},(∀c∈d,c.aL.length<=3)->IJ d<=3*d.length
 |[],_=>by simp[IJ]
 |c::d,a=>by
  have:=Rc (λb hd=>a b (ah _ hd));have:=a c aX;simp only[IJ,aW];omega
def Fs{D:O}(hh:eR N g m D d)(hn:∀b,m.size<=b->g b=0){ws:O}(hw:ap m ws [i])(hI:fQ d (λb=>e b+eK [i] b))(W:∀b,0<=e b)(aK:d.length<=2000000000):
 aN cq 222 [O.v D,O.v ws] m λaC v=>∃y aj,aC=O.v aj/\eR N y v aj (ru (je d [i]))/\HC g m y v:=by
 apply zy
 refine(fE hw aH).then aH λs L o1 i1 h1=>⟨s,rfl,?_⟩
 have am:s≠.nil:=λe=>by subst e;have:=i1.len;simp at this
 have F:m.size<=s.az/\s.az<L.size:=by
  rcases o1.az with e|e
  .exact absurd e am
  .rcases o1.lt with z|z
   .exact absurd z am
   .exact⟨e,z⟩
 have c1:HC g m (vI g s.az 6) L:=dL.vI h1 hn F.1 F.2 6
 have a1:iI (vI g s.az 6) L ay 1 6 s ([i].map Ce.i):=iI.fP o1 λ_=>jh _ _ _
 have aw:eR N (vI g s.az 6) L D d:=hh.fI (dL.vI (p:=λ_=>False) h1 hn F.1 F.2 6) id id
 have aG:=Rc λc a=>(hI.cell c a).fl
 have aI:=hh.len
 refine AW (γ:=List bS×List Int) (λh sa v=>∃y,eR N y v D h.1/\iI y v ay 1 6 sa (h.2.reverse.map Ce.i)/\HC g m y v/\fQ h.1 (λb=>e b+eK h.2 b)/\je h.1 h.2=je d [i]/\h.1.length=d.length/\h.2.length+IJ h.1<=1+IJ d) (λh=>IG h.1+h.2.length) (d,[i])
  ⟨_,aw,a1,c1,hI,rfl,rfl,aH⟩ ?_
 rintro⟨a,st⟩ sa m2 aD μ ⟨q,A,a2,h,t,u,I,ad⟩ aa
 simp only[]at A a2 t u I ad
 have ar:sa.len=st.length:=by have:=a2.len;simp at this;omega
 refine⟨λR=>?_,λR=>?_⟩
 .simp only[gJ,an]at R
  cases st with
  |nil=>simp at ar;omega
  |cons x r=>
   simp only[List.reverse_cons]at a2
   let⟨p1,p2,p3⟩:=a2.Vj
   simp only[aW,Mw]at ar p1 p2 p3 ad
   have e1:cQ ((sa.len:Int) -1)=(r.length:Int):=by rw[aQ V V];omega
   have aE:=a2.le
   rw[e1]
   have z:Int.toNat (0:Int)=0:=rfl
   have e3:Int.toNat (r.length:Int)=r.length:=V
   rw[z,e3]
   refine⟨V,V,x,p2,V,V,V,(dJ _ _).then λb M hb n=>⟨b,rfl,λav=>?_,λau=>?_⟩⟩
   .have hx:=hb.1 av
    have C:=t.Th W hx
    let⟨j,al⟩:=cw C
    have ag:=ax j
    have aA:ix x=(x -1000).toNat:=rfl
    have aJ:=(t.cell _ (aq j)).hi
    have e4:cQ (x -1000)=x -1000:=aQ V V
    rw[e4,<-aA]
    have G:HC q m2 q M:=dL.fK _ n h.new
    have Y:eR N q M D a:=A.fI (dL.fK (λ_=>False) n h.new) id id
    have a3:=p3.fI (dL.fK (λ_=>False) n h.new) id
    obtain⟨f0,g0,_,_,_,_⟩:=Y.cJ j
    refine⟨V,V,_,g0,V,V,Y.wr (o:=0) ag bh,?_⟩
    have e5:cQ ((aZ a x).aS -1)=(aZ a x).aS -1:=aQ V V
    rw[e5]
    intro m4
    let⟨Z,c4⟩:=Y.Ff G.new j ((aZ a x).aS -1)
    have a4:=a3.fI c4 bh
    have Q:HC g m q m4:=(h.trans G).trans (c4.mono λk B=>Or.inl B)
    have U:=mh (d:=jT) j
    simp only[ak al,jT]at U
    simp at U
    have aB:(a.set (ix x) {aZ a x with aS:=(aZ a x).aS -1})[ix x]? =some {aZ a x with aS:=(aZ a x).aS -1}:=eU j
    obtain⟨f1,k0,_,k2,kf,kr⟩:=Z.cJ aB
    refine⟨V,V,_,k0,λS=>?_,λS=>?_⟩
    .simp only[aM]at S
     have ai:(aZ a x).aS=1:=V
     have aF:=(t.cell _ (aq j)).fl
     have X:=kf.len
     simp only[]at X kf kr
     have H:=Kc jT j
     simp only[jT,cD]at H
     refine⟨V,V,f1,k2,iI.append (zs:=[.i 0]) (c:=(aZ a x).aL.map Ce.i) a4 Q.new (by simp[X]) kf.sJ ?_ λab aL P q1 q2=>?_⟩
     .have:(sa.cut 0 r.length 1).len=r.length:=by have:=a4.len;simp at this;omega
      rw[this,X];omega
     have az:=Z.fI q2 bh bh
     have E:HC g m ab P:=Q.trans (q2.mono λk B=>Or.inr (Or.inr B))
     intro m6
     have T:J P m6:=(J.aF P).aP _
     have ae:=az.fI (dL.fK (λ_=>False) T E.new) id id
     have a6:=q1.fI (dL.fK (λ_=>False) T E.new) id
     have ac:HC g m ab m6:=E.trans (dL.fK _ T E.new)
     clear_value m6
     have ah:ix x<(a.set (ix x) {aZ a x with aS:=(aZ a x).aS -1}).length:=by simpa using ag
     refine⟨V,V,ae.wr (o:=0) ah bh,?_⟩
     intro m7
     let⟨af,c7⟩:=ae.setCell ac.new ah 0 0 (f:=.mk P.size 0 0 0) (l:=[]) ⟨rfl,aH,aH,aH⟩ (λK=>absurd rfl K)
     rw[List.set_set]at af
     refine aa (a.set (ix x) jT,(aZ a x).aL.reverse++r) _ _ ⟨ab,af,?_,ac.trans (c7.mono λk B=>Or.inl B),t.U0 W C ai,?_,by simpa using I,?_⟩ ?_
     .have:=a6.fI c7 bh
      simpa using this
     .rw[<-AH C ai];exact u
     .simp only[aT,Mw]
      have B:IJ (a.set (ix x) jT)+(aZ a x).aL.length=IJ a:=by simpa[jT]using H
      omega
     .simp only[aT,Mw,aW]
      have B:IG (a.set (ix x) jT)+((aZ a x).aS.toNat+(aZ a x).aL.length)=IG a:=by simpa[jT]using U
      omega
    .simp only[ao]at S
     have K:(aZ a x).aS≠1:=V
     have B:=mh (d:={aZ a x with aS:=(aZ a x).aS -1}) j
     simp only[ak al]at B
     rw[ak V]at B
     have H:=Kc {aZ a x with aS:=(aZ a x).aS -1} j
     refine aa (gE a x,r) _ _ ⟨q,Z,a4,Q,t.Ti W C K,?_,by simpa[gE]using I,?_⟩ ?_
     .rw[<-vP C K];exact u
     .simp only[gE];simp only[]at H;omega
     .simp only[gE,aW];omega
   .have hx:=fb hb au
    have G:HC q m2 q M:=dL.fK _ n h.new
    refine aa (a,r) _ _ ⟨q,A.fI (dL.fK (λ_=>False) n h.new) id id,p3.fI (dL.fK (λ_=>False) n h.new) id,h.trans G,t.UZ V,?_,I,by simp only[];omega⟩ aH
    rw[<-vQ (w:=x) (λj=>hx j.1)];exact u
 .simp only[gJ,br]at R
  have j:st=[]:=List.length_eq_zero_iff.1 V
  subst j
  rw[AG]at u
  subst u
  refine(wI (A.cells V)).mono ?_
  rintro _ M ⟨rfl,n⟩
  refine⟨_,rfl,q,_,rfl,?_,h.trans (dL.fK _ n h.new)⟩
  exact(A.fI (dL.fK (λ_=>False) n h.new) id id).cut (tc _ _)
end
section
variable{i:Int}
structure ST(m0:E)(ro:Nat->Nat)(m:E)(mb e:Nat)(bx:List Ce)(bB hp fr:O)(lo:List Int)(lh:List bS)(fs:List be)(f:be)(r o h:O)(css:List (List Ce)):Prop where
 eQ:Cl m0 ro m mb e bx bB hp fr lo lh (fs++[f])
 iP:sk ro m fr fs f r o h css
section
variable{g:E}{a t:Nat->Nat}{m s:E}{d e:Nat}{j:List Ce}{bB l b:O}{q:List Int}{n:List bS}{c:List be}{f:be}{r o h:O}{k:List (List Ce)}
def ST.ext(S:ST g a m d e j bB l b q n c f r o h k)(i:J m s):ST g a s d e j bB l b q n c f r o h k/\To a m a s:=
 ⟨⟨(S.eQ.ext i).1,S.iP.ext S.eQ.new i⟩,(S.eQ.ext i).2⟩
def ST.Hg(S:ST g a m d e j bB l b q n c f r o h k){i:Int}(s:0<=i)(t:i<f.av.length)(v:Int):ST g a (ai m r.az (r.off+i.toNat*1) [.i v]) d e j bB l b q n c {f with av:=iF f.av i v} r o h k/\To a m a (ai m r.az (r.off+i.toNat*1) [.i v]):=by
 let⟨p,u⟩:=S.iP.Hg S.eQ.new s t v;let⟨w,x⟩:=S.eQ.lQ u p.tj;exact⟨⟨w,p⟩,x⟩
def ST.y8(S:ST g a m d e j bB l b q n c f r o h k){i:Int}(s:0<=i)(t:i<f.ba.length)(v:Int):ST g a (ai m o.az (o.off+i.toNat*1) [.i v]) d e j bB l b q n c {f with ba:=iF f.ba i v} r o h k/\To a m a (ai m o.az (o.off+i.toNat*1) [.i v]):=by
 let⟨p,u⟩:=S.iP.y8 S.eQ.new s t v;let⟨w,x⟩:=S.eQ.lQ u p.tj;exact⟨⟨w,p⟩,x⟩
def ST.Fg(S:ST g a m d e j bB l b q n c f r o h k){i:Int}(s:0<=i)(t:i<f.bA.length)(v:Int):ST g a (ai m h.az (h.off+i.toNat*1) [.i v]) d e j bB l b q n c {f with bA:=iF f.bA i v} r o h k/\To a m a (ai m h.az (h.off+i.toNat*1) [.i v]):=by
 let⟨p,u⟩:=S.iP.Fg S.eQ.new s t v;let⟨w,x⟩:=S.eQ.lQ u p.tj;exact⟨⟨w,p⟩,x⟩
def ST.Ru(S:ST g a m d e j bB l b q n c f r o h k)(v:Int):ST g a (ai m b.az (b.off+c.length*6+1) [.i v]) d e j bB l b q n c {f with pc:=v} r o h k/\To a m a (ai m b.az (b.off+c.length*6+1) [.i v]):=by
 let⟨i,p⟩:=S.iP.Ru S.eQ.new v;let⟨s,t⟩:=S.eQ.lQ p i.tj;exact⟨⟨s,i⟩,t⟩
def ST.pb(S:ST g a m d e j bB l b q n c f r o h k)(i:Nat)(s:List Ce):ST g a (ai m d i s) d e (iO j i s) bB l b q n c f r o h k/\To a m a (ai m d i s):=by
 let⟨u,v⟩:=S.eQ.pb i s;exact⟨⟨u,S.iP.fI (dL.ai (p:=λt=>t=1) S.eQ.new S.eQ.Rr i s) λt w=>V⟩,v⟩
def ST.jJ(S:ST g a m d e j bB l b q n c f r o h k)(i:HC a m t s){p:O}{u:List bS}(x:eR g.size t s p u):ST g t s d e j bB p b q u c f r o h k/\To a m t s:=by
 let⟨v,w⟩:=S.eQ.jJ i x;exact⟨⟨v,S.iP.fI i λz y=>V⟩,w⟩
def ST.KP(S:ST g a m d e j bB l b q n c f r o h k)(i:dL (λp=>p=2) a m t s){v:O}{u:List Int}(y:iI t s ay 1 2 v (u.map Ce.i)):ST g t s d e j v l b u n c f r o h k/\To a m t s:=by
 let⟨w,x⟩:=S.eQ.KP i y;exact⟨⟨w,S.iP.fI i λp z=>V⟩,x⟩
end
def dL.QF{c f:Nat->Nat}{m a:E}(h:To c m f a){b:Nat}(e:b<m.size)(d:c b=0):eG [b] m a:=h.da (by simpa using⟨e,d⟩)
abbrev SB(d p:O)(s:St)(bB b a:O):List Ce:=[.s d,.s p,.i s.cW,.i s.value,.i s.bL,.i s.eD,.s bB,.s b,.s a]
def xy(f:E)(h:Nat->Nat)(m:E)(g:Nat)(e p:O)(s:St)(c:E):Prop:=
 ∃d bB b a,Cl f d c g bP (SB e p s bB b a) bB b a s.bB s.heap s.aj/\To h m d c
def xy.from{b:E}{f g:Nat->Nat}{m c a:E}{e:Nat}{d p:O}{s:St}(i:xy b g c e d p s a)(n:To f m g c):xy b f m e d p s a:=
 let⟨o,bB,l,h,j,k⟩:=i
 ⟨o,bB,l,h,j,n.trans k⟩
section
variable{k:E}{e:Nat->Nat}{m:E}{g:Nat}{d p bB b c:O}{a:St}{j:List be}{f:be}{r l h:O}{q:List (List Ce)}
def jK(S:ST k e m g bP (SB d p a bB b c) bB b c a.bB a.heap j f r l h q)(u:j.length<=100000)(v:Int):
 aN cq 221 [vp g 0,vi v] m λw n=>ST k e n g bP (SB d p a bB b c) bB b c a.bB a.heap j {f with pc:=v} r l h q/\To e m e n:=by
 apply om (g,0)
 have i:af m g 8=some (O.v c):=S.eQ.box.cJ 8
 have t:=S.iP.ED
 have o:cQ ((c.len:Int) -1)=(j.length:Int):=by rw[aQ V V];omega
 have s:Int.toNat (j.length:Int)=j.length:=V
 refine⟨c,i,c,i,?_⟩
 rw[o,s]
 exact⟨V,V,S.iP.Y8,S.Ru v⟩
def Ad(S:ST k e m g bP (SB d p a bB b c) bB b c a.bB a.heap j f r l h q)(P:j.length<=100000)(n:0<=i)(x:i<f.av.length)(y:i<f.ba.length)(w:Int)(W:0<=f.pc/\f.pc<=1000000):
 aN cq 214 [vp g 0,vi i,vi w] m λ_ A=>ST k e A g bP (SB d p a bB b c) bB b c a.bB a.heap j (be.put {f with pc:=f.pc+1} i w 0) r l h q/\To e m e A:=by
 apply tC (g,0)
 simp -zeta only[aE,aD]
 have z:af m g 8=some (O.v c):=S.eQ.box.cJ 8
 have T:=S.iP.ED
 have G:cQ ((c.len:Int) -1)=(j.length:Int):=by rw[aQ V V];omega
 have H:Int.toNat (j.length:Int)=j.length:=V
 let⟨K,g1,g2,L,M,N⟩:=S.iP.jC
 have X:r.len=f.av.length:=by have:=S.iP.av.len;simp at this;omega
 have U:l.len=f.ba.length:=by have:=S.iP.ba.len;simp at this;omega
 refine⟨c,z,c,z,?_⟩
 rw[G,H]
 refine⟨V,V,_,K,_,g1,_,g2,r,L,l,M,h,N,?_⟩
 intro R o
 have Q:J m o:=((J.aF m).aP _).ai (ad _) _ _
 have Z:o.size=m.size+1:=by simp[o,R,aA]
 have s:e m.size=0:=S.eQ.new _ (ad _)
 let⟨u,t2⟩:=S.ext Q
 clear_value o
 refine⟨n,V,u.iP.av.Ss n x,?_⟩
 intro t
 let⟨v,t3⟩:=u.Hg n x w
 have s3:t.size=o.size:=aA _ _ _ _
 refine⟨t3.QF (show m.size<o.size by omega) s,n,V,v.iP.ba.Ss n y,?_⟩
 intro B
 let⟨E,C⟩:=v.y8 n (by simpa using y) 0
 have s4:B.size=t.size:=aA _ _ _ _
 have I:cQ (f.pc+1)=f.pc+1:=aQ V V
 rw[I]
 refine⟨C.QF (show m.size<t.size by omega) s,(jK E P (f.pc+1)).mono ?_⟩
 rintro _ Y ⟨F,D⟩
 exact⟨D.QF (show m.size<B.size by omega) s,F,((t2.trans t3).trans C).trans D⟩
def sT(S:ST k e m g bP (SB d p a bB b c) bB b c a.bB a.heap j f r l h q)(ab:j.length<=100000)(n:0<=i)(D:i<f.av.length)(s:i<f.ba.length)(w:Int):
 aN cq 224 [vp g 0,vi i,vi w] m λ_ H=>ST k e H g bP (SB d p a bB b c) bB b c a.bB a.heap j (f.put i w (jw w)) r l h q/\To e m e H:=by
 apply tA (g,0)
 simp -zeta only[aE,aD]
 have G:af m g 8=some (O.v c):=S.eQ.box.cJ 8
 have aa:=S.iP.ED
 have N:cQ ((c.len:Int) -1)=(j.length:Int):=by rw[aQ V V];omega
 have P:Int.toNat (j.length:Int)=j.length:=V
 let⟨R,g1,g2,T,U,W⟩:=S.iP.jC
 have ag:r.len=f.av.length:=by have:=S.iP.av.len;simp at this;omega
 have ac:l.len=f.ba.length:=by have:=S.iP.ba.len;simp at this;omega
 refine⟨c,G,c,G,?_⟩
 rw[N,P]
 refine⟨V,V,_,R,_,g1,_,g2,r,T,l,U,h,W,?_⟩
 intro m1 o
 have Z:J m o:=((J.aF m).aP _).ai (ad _) _ _
 have s2:o.size=m.size+1:=by simp[o,m1,aA]
 have t:e m.size=0:=S.eQ.new _ (ad _)
 let⟨A,t2⟩:=S.ext Z
 clear_value o
 refine⟨n,V,A.iP.av.Ss n D,?_⟩
 intro x
 let⟨B,t3⟩:=A.Hg n D w
 have s3:x.size=o.size:=aA _ _ _ _
 refine⟨t3.QF (show m.size<o.size by omega) t,n,V,B.iP.ba.Ss n s,?_⟩
 intro I
 let⟨L,y⟩:=B.y8 n (by simpa using s) 0
 have s4:I.size=x.size:=aA _ _ _ _
 refine⟨y.QF (show m.size<x.size by omega) t,(dJ _ _).mono ?_⟩
 rintro _ m5 ⟨M,rfl,F,E⟩
 let⟨u,z⟩:=L.ext E
 have s5:=E.size
 refine⟨z.QF (show m.size<I.size by omega) t,M,rfl,λY=>?_,λX=>?_⟩
 .refine⟨n,V,u.iP.ba.Ss n (by simpa[kd]using s),?_⟩
  intro m6
  let⟨C,K⟩:=u.y8 n (by simpa[kd]using s) 1
  refine⟨K.QF (show m.size<m5.size by omega) t,?_,(((t2.trans t3).trans y).trans z).trans K⟩
  have Q:iF (iF f.ba i 0) i 1=iF f.ba i 1:=by simp[iF,List.set_set]
  have v:jw w=1:=by rw[jw,ak (F.1 Y)]
  simp only[Q]at C
  rw[v];exact C
 .refine⟨?_,((t2.trans t3).trans y).trans z⟩
  have v:jw w=0:=by rw[jw,ae (fb F X)]
  rw[v];exact u
def AM:∀(a:List Int)(g:List bS),(kU g a).length=g.length
 |[],g=>rfl
 |w::a,g=>by rw[kU,AM a];simp[oO]
def KI:∀(a:List Int)(g:List bS)(w:Int),kU g (a++[w])=oO (kU g a) w
 |[],g,w=>rfl
 |v::a,g,w=>by rw[db,kU,KI a,kU]
def Iz:∀(a:List Int)(g:List bS)(n:Int),(∀c∈g,-10<=c.aS/\c.aS<=n)->∀c∈kU g a,-10<=c.aS/\c.aS<=n+a.length
 |[],g,n,h,c,b=>by have:=h c b;simp;omega
 |w::a,g,n,h,c,b=>by
  have:=Iz a (oO g w) (n+1) (λd hd=>by
   rcases qv hd with rfl|⟨i,_,f⟩
   .simp only[aZ];cases e:g[ix w]? with
    |none=>
     unfold oO at hd;rw[Ef (List.getElem?_eq_none_iff.1 e)]at hd;have:=h _ hd;simp only[aZ,e]at this⊢;omega
    |some x=>have:=h x (aq e);simp only[pE];omega
   .have:=h d (aq f);omega) c b
  simp only[aW];omega
def Cx(L:Cl k e m g bP (SB d p a bB b c) bB b c a.bB a.heap j){u:O}{l:List Int}(v:ap m u l)(P:l≠[]->e u.az=0)(K:∀w∈l,1000<=w/\ix w<a.heap.length)(H:∀h∈a.heap,-10<=h.aS/\h.aS<=999999)(Z:l.length<=1000000)(W:a.heap.length<=2000000000):
 aN cq 220 [vp g 0,O.v u] m λ_ s=>eR k.size e s b (kU a.heap l)/\dL (λf=>f=3) e m e s:=by
 apply uB (g,0)
 have aa:=v.len
 have I:af m g 7=some (O.v b):=L.box.cJ 7
 refine dZ (n:=l.length) V (λf s=>eR k.size e s b (kU a.heap (l.take f))/\dL (λf=>f=3) e m e s) ⟨L.heap,dL.aF _ L.new⟩ ?_
 rintro f A S μ X ⟨i,q⟩ R
 refine dit (λF=>?_) λF=>?_
 .let⟨x,r⟩:=cg l f
  let⟨ab,z⟩:=K x (aq r)
  have y:l≠[]:=λB=>by rw[B]at r;simp at r
  have Q:ap A u l:=nG v λ_=>q.fS _ (oI v y) (by rw[P y];decide)
  have w:af A g 7=some (O.v b):=by rw[aK (q.fS _ L.box.lt (by rw[L.Rr];decide))];exact I
  have N:=i.len
  rw[AM]at N
  let⟨h,t⟩:=cg (kU a.heap (l.take f)) (ix x) (by rw[AM];exact z)
  obtain⟨T,E,_⟩:=i.cJ t
  have M:ix x=(x -1000).toNat:=rfl
  have C:cQ (x -1000)=x -1000:=aQ V V
  have U:=Iz (l.take f) a.heap 999999 H h (aq t)
  have Y:((l.take f).length:Int)<=1000000:=bN
  have D:cQ (h.aS+1)=h.aS+1:=aQ V V
  refine⟨V,V,x,by simpa using Q.aO r,b,w,b,w,?_⟩
  rw[C,<-M]
  refine⟨V,V,h.aS,E,V,V,i.wr (o:=0) (by rw[AM];exact z) bh,?_⟩
  rw[D]
  let⟨J,G⟩:=i.Ff q.new t (h.aS+1)
  refine R V _ ⟨?_,q.trans G⟩
  rw[bC r,KI]
  have:aZ (kU a.heap (l.take f)) x=h:=by simp[aZ,t]
  unfold oO
  rw[this];exact J
 .rw[cy V]at i
  exact⟨i,q⟩
def Ah(L:Cl k e m g bP (SB d p a bB b c) bB b c a.bB a.heap j){w:Int}(z:gZ a.heap w){i:Nat->Int}(q:fQ a.heap i)(M:a.heap.length<=2000000000):
 aN cq 247 [vp g 0,vi w] m λD t=>∃h:Bool,D=vb h/\(h=true<->(aZ a.heap w).aS=1)/\dL (λx=>x=3) e m e t/\(h=true->eR k.size e t b a.heap)/\(h=false->eR k.size e t b (kU (gE a.heap w) (rc (aZ a.heap w).aL))):=by
 apply tD (g,0)
 let⟨f,ad⟩:=cw z
 have P:=ax f
 have ab:=L.heap.len
 have N:ix w=(w -1000).toNat:=rfl
 have aa:=z.1
 have G:cQ (w -1000)=w -1000:=aQ V V
 have r:af m g 7=some (O.v b):=L.box.cJ 7
 have ac:=(q.cell _ (aq f)).hi
 have H:cQ ((aZ a.heap w).aS -1)=(aZ a.heap w).aS -1:=aQ V V
 let⟨U,v,g1,g2,W,X⟩:=L.heap.cJ f
 rw[G,<-N]
 refine⟨b,r,V,V,_,v,λn=>⟨true,rfl,by simpa using n,dL.aF _ L.new,λ_=>L.heap,sx⟩,λn=>?_⟩
 simp only[ao]at n
 refine⟨b,r,b,r,V,V,_,v,V,V,L.heap.wr (o:=0) P bh,?_⟩
 rw[H]
 intro m1
 let⟨y,l⟩:=L.heap.Ff L.new f ((aZ a.heap w).aS -1)
 let⟨I,k0,k1,T,kf,kr⟩:=y.cJ (eU f)
 let⟨u,t1⟩:=L.jJ (l.mono λx A=>Or.inl A) y
 have Z:=(q.cell _ (aq f)).fl
 refine⟨b,u.box.cJ 7,V,V,I,T,?_⟩
 refine(nT kf (by simp only[];omega)).then (by have:=sI (aZ a.heap w).aL;simp only[];omega) λC m2 o2 B x=>⟨C,rfl,?_⟩
 let⟨E,t2⟩:=u.ext x
 have R:rc (aZ a.heap w).aL≠[]->e C.az=0:=λQ=>by
  rcases o2.az with i|i
  .subst i;have:=B.len;simp at this;exact absurd (List.length_eq_zero_iff.1 this.symm) Q
  .exact l.new _ i
 have:=sI (aZ a.heap w).aL
 refine(Cx (a:={a with heap:=gE a.heap w}) (j:=j) E B R (λD S=>?_) (λF J=>?_) (by simp only[];omega) (by simpa[gE]using M)).mono ?_
 .let⟨K,A⟩:=nk.1 S
  exact⟨A,by simpa[gE]using ax (cw (q.field (aq f) K A)).1⟩
 .rcases qv J with rfl|⟨h,_,A⟩
  .simp only[];omega
  .have:=q.cell F (aq A);have K:=this.lo;have Y:=this.hi;omega
 .rintro _ Y ⟨K,A⟩
  exact⟨false,rfl,by simpa using n,(l.trans (dL.fK _ x l.new)).trans A,sx,λ_=>K⟩
end
end
section
variable{q:Nat->Nat}{c:E}{e:Nat}{g:List Ce}{x:Instr}{a j:O}{b:Int}
def Nr(c:Nat->Nat)(m:E)(a:List Nat):Prop:=∀b∈a,b<m.size/\c b=0
def Nr.to{p:Nat->Prop}{e:Nat->Nat}{m:E}{d:List Nat}(h:Nr e m d)(t:dL p e m q c):Nr q c d:=λb a=>⟨aJ (h b a).1 t.size,by rw[t.jx b (h b a).1];exact(h b a).2⟩
def dL.gV{b:Nat->Nat}{m:E}(t:To b m q c){a:List Nat}(h:Nr b m a):eG a m c:=t.da h
def Nr.Jw{f:Nat->Nat}{m d e:E}(c:∀b,m.size<=b->f b=0)(g:d.size=m.size+1)(h:e.size=m.size+2):Nr f e [d.size,m.size]:=λb a=>by
 simp at a;rcases a with rfl|rfl
 .exact⟨V,c _ V⟩
 .exact⟨V,c _ V⟩
noncomputable def vO (s:St) (a:List be) (f:be) (x:Instr) (t:Int):St:=
 open Classical in
 if x.bW≠0/\aO f.bA (x.bW -1)≠0 then
  {s with heap:=s.heap.set (ix (aO f.bA (x.bW -1))) ⟨1,t,dB f x.args⟩,aj:=a++[be.put {f with pc:=f.pc+1,bA:=iF f.bA (x.bW -1) 0} x.dst (aO f.bA (x.bW -1)) 1]}
 else{s with heap:=lX s.heap (fp s.heap) ⟨1,t,dB f x.args⟩,aj:=a++[be.put {f with pc:=f.pc+1} x.dst (1000+fp s.heap) 1]}
section
variable{F:E}{A:Nat->Nat}{v:E}{D:Nat}{d p bB y B:O}{u:St}{C:List be}{t:be}{r z h:O}{G:List (List Ce)}
def ST.KJ{b:List Int}{a:List bS}(S:ST F A v D e g bB y B b a C t r z h G)(c:t.av.length<=1000000):ap v r t.av:=S.iP.av.pA V
def ST.TY{b:List Int}{a:List bS}(S:ST F A v D e g bB y B b a C t r z h G)(c:t.ba.length<=1000000):ap v z t.ba:=S.iP.ba.pA V
def ST.TA{b:List Int}{a:List bS}(S:ST F A v D e g bB y B b a C t r z h G)(c:t.bA.length<=1000000):ap v h t.bA:=S.iP.bA.pA V
def tW(S:ST F A v D bP (SB d p u bB y B) bB y B u.bB u.heap C t r z h G)(ha:ap F a x.args)(ah:∀b∈x.args,0<=b/\b<t.av.length)(av:x.args.length<=4)(g:Int)
 (az:t.av.length=t.ba.length/\t.bA.length=t.ba.length/\t.ba.length<=1000000)(ai:0<=x.dst/\x.dst<t.ba.length)(ay:0<=x.bW/\x.bW<=t.bA.length)(aA:0<=t.pc/\t.pc<=1000000)(ab:C.length<=100000)(aw:u.heap.length<=1000000000)
 (am:∀w∈t.bA,w≠0->1000<=w/\ix w<u.heap.length):
 aN cq 216 [vp D 0,fv t r z h,xv x a j,vi g] v λ_ c=>xy F A v D d p (vO u C t x g) c:=by
 apply rm (D,0)
 simp -zeta only[aE,aD]
 intro w E
 have aq:J v E:=((J.aF v).aP _).aP _
 have s1:w.size=v.size+1:=by simp[w]
 have s2:E.size=v.size+2:=by simp[E,s1]
 have T:=Nr.Jw S.eQ.new s1 s2
 let⟨I,t2⟩:=S.ext aq
 clear_value E
 have ax:h.len=t.bA.length:=by have:=S.iP.bA.len;simp at this;omega
 have q:∀{A v t},ST F A v D bP (SB d p u bB y B) bB y B u.bB u.heap C t r z h G->af v D 7=some (O.v y):=λS=>S.eQ.box.cJ 7
 refine⟨y,q I,(Fu (I.eQ.heap.cells V)).mono ?_⟩
 rintro _ L ⟨rfl,ac⟩
 let⟨o,t3⟩:=I.ext ac
 have H:=T.to t3
 refine⟨t3.gV T,_,rfl,λaa c=>∃(b:Nat)(e:be),aa=b/\ST F A c D bP (SB d p u bB y B) bB y B u.bB u.heap C e r z h G/\To A v A c/\Nr A c [w.size,v.size]/\b<=u.heap.length/\
  e.av=t.av/\e.ba=t.ba/\e.pc=t.pc/\vO u C t x g={u with heap:=lX u.heap b ⟨1,g,dB t x.args⟩,aj:=C++[be.put {e with pc:=t.pc+1} x.dst (1000+b) 1]},?_,?_⟩
 .have none:¬(x.bW≠0/\aO t.bA (x.bW -1)≠0)->∃(b:Nat)(e:be),((fp u.heap:Nat):Int)=b/\ST F A L D bP (SB d p u bB y B) bB y B u.bB u.heap C e r z h G/\To A v A L/\Nr A L [w.size,v.size]/\b<=u.heap.length/\
   e.av=t.av/\e.ba=t.ba/\e.pc=t.pc/\vO u C t x g={u with heap:=lX u.heap b ⟨1,g,dB t x.args⟩,aj:=C++[be.put {e with pc:=t.pc+1} x.dst (1000+b) 1]}:=λU=>
   ⟨_,t,rfl,o,t2.trans t3,H,uQ _,rfl,rfl,rfl,by rw[vO,ae U]⟩
  refine⟨λK=>?_,λK=>none λP=>by simp at K;omega⟩
  simp at K
  have Q:cQ (x.bW -1)=x.bW -1:=aQ V V
  rw[Q]
  have k:0<=x.bW -1/\x.bW -1<t.bA.length:=V
  have N:=(o.TA V).Gz k.1 k.2
  refine⟨V,V,_,N,λm=>?_,λm=>none λP=>by simp at m;exact P.2 m⟩
  simp at m
  let⟨W,Y⟩:=am _ (iL k.1 k.2) m
  refine⟨V,V,_,N,V,V,o.iP.bA.Ss k.1 k.2,?_⟩
  intro M
  let⟨l,n⟩:=o.Fg k.1 k.2 0
  have X:ix (aO t.bA (x.bW -1))=(aO t.bA (x.bW -1) -1000).toNat:=rfl
  have R:cQ (aO t.bA (x.bW -1) -1000)=((ix (aO t.bA (x.bW -1)):Nat):Int):=by rw[aQ V V];omega
  refine⟨n.gV H,ix (aO t.bA (x.bW -1)),_,R,l,(t2.trans t3).trans n,H.to n,V,rfl,rfl,rfl,?_⟩
  rw[vO,ak ⟨V,m⟩,lX,ae V,iC W]
 .rintro aa M ⟨b,e,rfl,l,n,U,ag,m,eo,ep,ec⟩
  have ar:J F M:=l.eQ.cG
  have an:ap M r t.av:=m▸l.KJ (by rw[m];omega)
  refine⟨y,q l,(nC (f:=t) an (ha.ext ar) ah V).mono ?_⟩
  rintro _ m5 ⟨ws,rfl,ow,ad⟩
  let⟨k,N⟩:=l.ext ad
  have W:=U.to N
  have ao:(dB t x.args).length<=1000000000:=by simp[dB];omega
  have iw:ap m5 ws (dB t x.args):=ap.fP ow V
  refine⟨N.gV U,ws,rfl,by rw[q k,q l],(Mo k.eQ.heap k.eQ.new ag g iw V ao k.eQ.cG.size).mono ?_⟩
  rintro _ m6 ⟨au,K,rfl,al,c6⟩
  let⟨Z,P⟩:=k.jJ c6 al
  have X:=W.to P
  refine⟨P.gV W,K,rfl,Z.eQ.xl (i:=7) aH,?_⟩
  intro m7
  let⟨S7,Q⟩:=Z.pb 7 [.s K]
  have Y:=X.to Q
  have e3:cQ (1000+(b:Int))=1000+(b:Int):=aQ V V
  have e4:cQ (t.pc+1)=t.pc+1:=aQ V V
  rw[e3,e4]
  refine⟨Q.gV X,(sT (a:={u with heap:=lX u.heap b ⟨1,g,dB t x.args⟩}) S7 ab ai.1 (by rw[m];omega) (by rw[eo];omega) (1000+b)).mono ?_⟩
  rintro _ m8 ⟨S8,R⟩
  refine⟨R.gV Y,(jK (a:={u with heap:=lX u.heap b ⟨1,g,dB t x.args⟩}) S8 ab (t.pc+1)).mono ?_⟩
  rintro _ m9 ⟨S9,t9⟩
  refine⟨t9.gV (Y.to R),au,bB,K,B,?_,((((n.trans N).trans P).trans Q).trans R).trans t9⟩
  rw[ec]
  have e5:jw (1000+(b:Int))=1:=by rw[jw,ak V]
  have:=S9.eQ
  rw[e5]at this
  exact this
def Es:∀(a ba:List Int)(r:Int),ft ba (a++[r])=iF (ft ba a) r (aO (ft ba a) r+1)
 |[],ba,r=>rfl
 |q::a,ba,r=>by rw[db,ft,Es a,ft]
def OS{l:List Int}{i:Int}(h:∀z∈l,0<=z/\z<=b)(d:0<=b):0<=aO l i/\aO l i<=b:=by
 rcases aU i.toNat l.length with a|a
 .let⟨y,c⟩:=dI a;rw[NF c];exact h y (aq c)
 .rw[aO,jk,bT a];simp;omega
def Cp:∀(c ba:List Int)(b:Int),0<=b->(∀z∈ba,0<=z/\z<=b)->∀z∈ft ba c,0<=z/\z<=b+c.length
 |[],ba,b,e,h,z,d=>by have:=h z d;simp;omega
 |r::c,ba,b,e,h,z,d=>by
  have:=Cp c (iF ba r (aO ba r+1)) (b+1) V (λq a=>by
   have:=OS (i:=r) h e;rcases sF a with a|a
   .omega
   .have:=h q a;omega) z d
  simp only[aW];omega
noncomputable def KA (u:St) (C:List be) (t:be) (x:Instr):St:=
 open Classical in
 if(aZ u.heap (aO t.av (aO x.args 0))).aS=1/\x.op=17 then
  {u with heap:=u.heap.set (ix (aO t.av (aO x.args 0))) ⟨-1,0,gB (aZ u.heap (aO t.av (aO x.args 0))).aL.length⟩,aj:=C++[{t with ba:=ft t.ba (x.args.drop 1),pc:=t.pc+1,bA:=iF t.bA (aO x.args 0) (aO t.av (aO x.args 0))}]}
 else{u with heap:=apart u.heap (aO t.av (aO x.args 0)),aj:=C++[{t with ba:=ft t.ba (x.args.drop 1),pc:=t.pc+1}]}
def LA(b:Nat):me [.i (0:Int)] b=(gB b).map Ce.i:=by
 induction b with
 |zero=>rfl
 |succ b a=>
  have:me [.i (0:Int)] (b+1)=.i 0::me [.i (0:Int)] b:=by simp[me,qj]
  rw[this,a];simp[gB,qj]
def qC{v:E}(a:0<=b)(e:b<=1000000):aN cq 166 [vi b] v λd c=>d=O.v (.mk v.size 0 b.toNat b.toNat)/\c=v.push (.cells (bD ((gB b.toNat).map Ce.i)) ay):=by
 apply HW;refine⟨a,dh _,V,V,?_⟩;rw[LA];exact⟨rfl,rfl⟩
def Sn{v:E}(b:Nat):fZ v (v.push (.cells (bD ((gB b).map Ce.i)) ay)) ay 1 (.mk v.size 0 b b) ((gB b).map Ce.i):=fZ.new (J.aF v) ay 1 _ b (by simp[lR])
def HJ(S:ST F A v D bP (SB d p u bB y B) bB y B u.bB u.heap C t r z h G)(ha:ap F a x.args)(ao:∀g∈x.args,0<=g/\g<t.av.length)(aJ:1<=x.args.length/\x.args.length<=4)(aX:x.op=16\/x.op=17)
 (aU:t.av.length=t.ba.length/\t.bA.length=t.ba.length/\t.ba.length<=1000000)(aY:0<=t.pc/\t.pc<=1000000)(am:C.length<=100000)(aM:u.heap.length<=1000000000)(aG:∀Q∈t.ba,0<=Q/\Q<=999999)
 (ah:gZ u.heap (aO t.av (aO x.args 0))){e:Nat->Int}(hI:fQ u.heap e):
 aN cq 223 [vp D 0,fv t r z h,xv x a j] v λ_ c=>xy F A v D d p (KA u C t x) c:=by
 apply rV (D,0)
 simp -zeta only[aE,aD]
 intro m1 m2
 have aI:J v m2:=((J.aF v).aP _).aP _
 have s1:m1.size=v.size+1:=by simp[m1]
 have s2:m2.size=v.size+2:=by simp[m2,s1]
 have B2:=Nr.Jw S.eQ.new s1 s2
 let⟨S2,t2⟩:=S.ext aI
 clear_value m2
 have a1:r.len=t.av.length:=by have:=S.iP.av.len;simp at this;omega
 have aW:z.len=t.ba.length:=by have:=S.iP.ba.len;simp at this;omega
 have aP:h.len=t.bA.length:=by have:=S.iP.bA.len;simp at this;omega
 have aK:=ha.len
 have H:0<=aO x.args 0/\aO x.args 0<t.av.length:=ao _ (iL V V)
 have ga:∀{c},J F c->∀{b:Nat}{g},x.args[b]? =some g->af c a.az (a.off+Int.toNat (b:Int)*1)=some (vi g):=λhx b g W=>by simpa using(ha.ext hx).aO W
 refine⟨V,V,aO x.args 0,(ha.ext S2.eQ.cG).Gz V V,H.1,V,aO t.av (aO x.args 0),(S2.KJ V).Gz H.1 H.2,?_⟩
 refine⟨λaj c=>∃b:Nat,aj=b/\1<=b/\b<=x.args.length/\ST F A c D bP (SB d p u bB y B) bB y B u.bB u.heap C {t with ba:=ft t.ba ((x.args.take b).drop 1)} r z h G/\To A v A c/\Nr A c [m1.size,v.size],λaj _=>((x.args.length:Int) -aj).toNat,⟨1,rfl,V,V,?_,t2,B2⟩,?_⟩
 .have e1:(x.args.take 1).drop 1=[]:=aH
  rw[e1];exact S2
 rintro aj m3 ⟨b,rfl,aR,aS,I,t3,Y⟩
 have aF:∀Q∈ft t.ba ((x.args.take b).drop 1),0<=Q/\Q<=1000010:=λQ hq=>by
  have:=Cp _ t.ba 999999 V aG Q hq;have h3:((x.args.take b).drop 1).length<=4:=bN;omega
 refine dit (λh1=>?_) λh1=>?_
 .let⟨g,W⟩:=cg x.args b
  have K:=ao g (aq W)
  have M:g<(ft t.ba ((x.args.take b).drop 1)).length:=by rw[tL];omega
  have hb:=OS (i:=g) aF V
  refine⟨V,V,g,ga I.eQ.cG W,V,V,g,ga I.eQ.cG W,K.1,V,_,(I.TY (by simp only[tL];omega)).Gz K.1 M,K.1,V,I.iP.ba.Ss K.1 M,?_⟩
  intro q
  have N:cQ (aO (ft t.ba ((x.args.take b).drop 1)) g+1)=aO (ft t.ba ((x.args.take b).drop 1)) g+1:=aQ V V
  let⟨E,L⟩:=I.y8 K.1 M (aO (ft t.ba ((x.args.take b).drop 1)) g+1)
  have P:q=ai m3 z.az (z.off+g.toNat*1) [.i (aO (ft t.ba ((x.args.take b).drop 1)) g+1)]:=by simp only[q,N]
  clear_value q
  subst P
  refine⟨L.gV Y,?_,?_⟩
  .rw[km (k:=b) (n:=x.args.length) V V]
   refine⟨b+1,rfl,V,V,?_,t3.trans L,Y.to L⟩
   have e4:(x.args.take (b+1)).drop 1=(x.args.take b).drop 1++[g]:=by
    rw[bC W,List.drop_append_of_le_length bN]
   rw[e4,Es]
   exact E
  .rw[km (k:=b) (n:=x.args.length) V V]
   show((x.args.length:Int) -((b+1:Nat):Int)).toNat<((x.args.length:Int) -(b:Int)).toNat
   omega
 .have e1:(x.args.take b).drop 1=x.args.drop 1:=by rw[cy V]
  rw[e1]at I
  have a2:=iC ah.1
  let⟨al,a0⟩:=cw ah
  have ag:=ax al
  have aV:=I.eQ.heap.len
  have e4:cQ (t.pc+1)=t.pc+1:=aQ V V
  have aT:=ah.1
  have aC:ix (aO t.av (aO x.args 0))=(aO t.av (aO x.args 0) -1000).toNat:=rfl
  have e5:cQ (aO t.av (aO x.args 0) -1000)=aO t.av (aO x.args 0) -1000:=aQ V V
  rw[e4,e5,<-aC]
  generalize hw:aO t.av (aO x.args 0)=w at*
  have gw:∀{A v lh own' held'},ST F A v D bP (SB d p u bB y B) bB y B u.bB lh C {t with ba:=own',bA:=held'} r z h G->af v r.az (r.off+Int.toNat (aO x.args 0)*1)=some (vi w):=λS=>by rw[<-hw];exact(S.KJ (by simp only[];omega)).Gz H.1 H.2
  refine⟨H.1,V,w,gw I,(Ah I.eQ ah hI V).mono ?_⟩
  rintro _ q ⟨aw,rfl,hb,c4,aB,aA⟩
  refine⟨(c4.mono λb N=>by omega:To A m3 A q).gV Y,aw,rfl,λau=>?_,λar=>?_⟩
  .have ac:=hb.1 au
   let⟨E,L⟩:=I.jJ (c4.mono λb N=>Or.inl N) (aB au)
   have B4:=Y.to L
   have g7:af q D 7=some (O.v y):=E.eQ.box.cJ 7
   refine⟨λaa=>?_,λaa=>?_⟩
   .simp at aa
    let⟨f0,k0,k1,k2,kf,kr⟩:=E.eQ.heap.cJ al
    have az:=(hI.cell _ (aq al)).fl
    have aL:=kf.len
    refine⟨y,g7,y,g7,V,V,f0,k2,(qC V V).mono ?_⟩
    rintro _ m5 ⟨rfl,rfl⟩
    have e6:Int.toNat (f0.len:Int)=(aZ u.heap w).aL.length:=V
    rw[e6]
    have ab:J q (q.push (.cells (bD ((gB (aZ u.heap w).aL.length).map Ce.i)) ay)):=J.push _ _
    have oz:=Sn (v:=q) (aZ u.heap w).aL.length
    let⟨K,M⟩:=E.ext ab
    have Z:=B4.to M
    have av:A q.size=0:=E.eQ.new _ (ad _)
    generalize q.push (.cells (bD ((gB (aZ u.heap w).aL.length).map Ce.i)) ay)=m5 at*
    let⟨an,c6⟩:=K.eQ.heap.setCell K.eQ.new ag (-1) 0 (f:=.mk q.size 0 _ _) (ap.fP oz (by rw[lR];omega)) (UC.of E.eQ.heap (λH=>ab.same _ (E.eQ.heap.az H).2) (λ_=>oz) (λ_=>av) E.eQ.cG.size)
    refine⟨M.gV B4,_,rfl,ab.dA g7,V,V,K.eQ.heap.wr (o:=0) ag bh,?_⟩
    intro m6
    let⟨P,R⟩:=K.jJ (c6.mono λb N=>Or.inl N) an
    have B6:=Z.to R
    refine⟨R.gV Z,H.1,V,w,gw P,H.1,V,P.iP.bA.Ss H.1 (by simp only[];omega),?_⟩
    intro m7
    let⟨U,T⟩:=P.Fg H.1 (by simp only[];omega) w
    refine⟨T.gV B6,(jK (a:={u with heap:=u.heap.set (ix w) ⟨-1,0,gB (aZ u.heap w).aL.length⟩}) U am (t.pc+1)).mono ?_⟩
    rintro _ m8 ⟨S8,X⟩
    refine⟨X.gV (B6.to T),A,bB,y,B,?_,(((((t3.trans L).trans M).trans R).trans T).trans X)⟩
    rw[KA,hw,ak ⟨ac,aa⟩]
    exact S8.eQ
   .simp at aa
    refine⟨y,g7,?_⟩
    intro m5
    have ab:J q m5:=(J.aF q).aP _
    let⟨K,M⟩:=E.ext ab
    have Z:=B4.to M
    clear_value m5
    refine⟨V,V,K.eQ.heap.wr (o:=0) ag bh,?_⟩
    intro m6
    let⟨an,c6⟩:=K.eQ.heap.setCell K.eQ.new ag 0 0 (f:=.mk q.size 0 0 0) (l:=[]) ⟨rfl,aH,aH,aH⟩ (λav=>absurd rfl av)
    let⟨P,R⟩:=K.jJ (c6.mono λb N=>Or.inl N) an
    have B6:=Z.to R
    refine⟨R.gV Z,y,P.eQ.box.cJ 7,(wI (P.eQ.heap.cells bN)).mono ?_⟩
    rintro _ m7 ⟨rfl,az⟩
    let⟨U,T⟩:=P.ext az
    have B7:=B6.to T
    refine⟨T.gV B6,_,rfl,U.eQ.xl (i:=7) aH,?_⟩
    intro m8
    obtain⟨av,aL⟩:=U.jJ (dL.aF _ U.eQ.new) (U.eQ.heap.cut (tc _ _))
    obtain⟨S8,X⟩:=av.pb 7 [.s (y.cut 0 (kH (u.heap.set (ix w) jT) (u.heap.set (ix w) jT).length) 3)]
    refine⟨X.gV B7,(jK (a:={u with heap:=ru (u.heap.set (ix w) jT)}) S8 am (t.pc+1)).mono ?_⟩
    rintro _ m9 ⟨S9,t9⟩
    refine⟨t9.gV (B7.to X),A,bB,y.cut 0 (kH (u.heap.set (ix w) jT) (u.heap.set (ix w) jT).length) 3,B,?_,((((((t3.trans L).trans M).trans R).trans T).trans X).trans t9)⟩
    rw[KA,hw,ae (λhh=>aa hh.2),Go.Proofs.YtdalfjkmdekijaaGreat.apart,ak ac]
    exact S9.eQ
  .have ac:(aZ u.heap w).aS≠1:=λe=>by have:=hb.2 e;rw[ar]at this;simp at this
   let⟨E,L⟩:=I.jJ (c4.mono λb N=>Or.inl N) (aA ar)
   refine(jK (a:={u with heap:=kU (gE u.heap w) (rc (aZ u.heap w).aL)}) E am (t.pc+1)).mono ?_
   rintro _ m5 ⟨K,M⟩
   refine⟨M.gV (Y.to L),A,bB,y,B,?_,(t3.trans L).trans M⟩
   rw[KA,hw,ae (λhh=>ac hh.1),Go.Proofs.YtdalfjkmdekijaaGreat.apart,ae ac]
   exact K.eQ
end
end
section
variable{e:cp}{c:Instr}{j:O}{l:List Int}{g b1 b2 b3 k:Nat}{b:E}
def ic(e:cp)(c:Instr):Nat->List Int->List Int
 |_,[]=>[]
 |k,w::j=>(if(c.op=9\/c.op=24)/\nN e c k=true then 0 else jw w)::ic e c (k+1) j
def Cv(e:cp)(c:Instr):∀(l r:List Int)(k:Nat),ic e c k (l++r)=ic e c k l++ic e c (k+l.length) r
 |[],r,k=>by simp[ic]
 |b::l,r,k=>by
  have:=Cv e c l r (k+1);simp only[db,ic,this,aW];have a:k+(l.length+1)=k+1+l.length:=V;rw[a]
def Da(e:cp)(c:Instr):∀(l:List Int)(k:Nat),(ic e c k l).length=l.length
 |[],k=>rfl
 |a::l,k=>by simp only[ic,aW,Da e c l]
def It{e:cp}{c:Instr}(a:c.op=9\/c.op=24):∀(l:List Int)(k:Nat),ic e c k l=iB (dm e c.bK).df k l
 |[],k=>rfl
 |d::l,k=>by
  simp only[ic,iB,It a l];congr 1;unfold nN;by_cases h:((dm e c.bK).df.any λy=>y==(k:Int))=true
  .rw[ak ⟨a,h⟩,ak h]
  .rw[ae (λb=>h b.2),ae h]
def EV{e:cp}{c:Instr}(a:¬(c.op=9\/c.op=24)):∀(l:List Int)(k:Nat),ic e c k l=iB [] k l
 |[],k=>rfl
 |d::l,k=>by
  simp only[ic,iB,EV a l,PT,fq,mH];rw[ae (λb=>a b.1)]
def DI{m:E}{p:Nat}{r A:O}(aa:eX m r A e)(T:af m p 0=some (O.v r))(g1:af m p 1=some (O.v A))(Z:CL e c)(D P:O)(K:ap m j l)(ac:l.length<=1000000):
 mQ 249 [vp p 0,xv c D P,O.v j] m (ic e c 0 l):=by
 apply qQ (p,0)
 simp -zeta only[aE,aD]
 intro a y
 have w:J m a:=(J.aF m).aP _
 have W:J a y:=(J.aF a).aP _
 have ho:fZ a y ay 1 (.mk a.size 0 0 0) []:=fZ.new (J.aF a) ay 1 [] 0 aH
 have f:∀q∈[m.size],q<a.size:=by simp[a]
 have ad:=K.len
 clear_value y
 clear_value a
 refine dx (n:=l.length) V (λk B b=>J a b/\fZ a b ay 1 B ((ic e c 0 (l.take k)).map Ce.i)) ⟨W,by simpa[ic]using ho⟩ ?_
 rintro k B m3 ab μ hk ⟨L,g⟩ z
 have M:=w.trans L
 refine dit (λU=>?_) λU=>?_
 .let⟨C,N⟩:=cg l k
  have I:(l.take k).length=k:=bN
  have v:ic e c 0 (l.take (k+1))=ic e c 0 (l.take k)++[if(c.op=9\/c.op=24)/\nN e c k=true then 0 else jw C]:=by
   rw[bC N,Cv,I];simp[ic]
  have u:(ic e c 0 (l.take k)).length<1000000000:=by rw[Da,I];omega
  refine⟨V,V,C,by simpa using M.af (K.aO N),(dJ _ _).aI L f λq m4 G s i=>⟨q,rfl,λY=>?_,λX=>?_⟩⟩
  .have x:=w.trans i
   refine⟨r,x.af T,A,x.af g1,(rj (aa.ext x) Z D P k).aI i f λb2 m5 H F o=>⟨b2,rfl,λt=>?_,λt=>?_⟩⟩
   .intro Q
    refine ms ((g.ext s).ext F) o u λS R h d=>⟨J.Bc (o.aP _) d f,z V _ _ ⟨d,?_⟩⟩
    rw[v,ae (nb H t),jw,ak (G.1 Y)];exact h
   .intro Q
    refine ms ((g.ext s).ext F) o u λS R h d=>⟨J.Bc (o.aP _) d f,z V _ _ ⟨d,?_⟩⟩
    rw[v,ak (yb H t)];exact h
  .intro Q
   refine ms (g.ext s) i u λS R h d=>⟨J.Bc (i.aP _) d f,z V _ _ ⟨d,?_⟩⟩
   rw[v]
   have o:(if(c.op=9\/c.op=24)/\nN e c k=true then 0 else jw C)=0:=by
    rw[jw,ae (fb G X)];split<;>rfl
   rw[o];exact h
 .rw[cy V]at g
  exact⟨B,rfl,g.cG w.size,M⟩
structure tn(m b:E)(b1 b2 b3 g:Nat)(av ba bA:List Int):Prop where
 ext:J m b
 lo:m.size<=b1/\m.size<=b2/\m.size<=b3/\b1≠b2/\b1≠b3/\b2≠b3/\b1<b.size/\b2<b.size/\b3<b.size
 kr:cz b b1 ay (av.map Ce.i)
 ko:cz b b2 ay (ba.map Ce.i)
 kh:cz b b3 ay (bA.map Ce.i)
 len:av.length=g/\ba.length=g/\bA.length=g
def Kb{a:E}{b:Nat}(d:cz a b ay ((gB g).map Ce.i))(f:l.length<=g):cz (ai a b 0 (l.map Ce.i)) b ay ((l++gB (g -l.length)).map Ce.i):=by
 have:=cz.ai (m:=a) (o:=0) (r:=l.map Ce.i) d;have e:iO ((gB g).map Ce.i) 0 (l.map Ce.i)=(l++gB (g -l.length)).map Ce.i:=by
  have c:=AQ [] (l.map Ce.i) ((gB g).map Ce.i) (by simp[lR];omega);simp only[dW,cD]at c;rw[c];simp[gB,List.drop_replicate]
 rw[e]at this;exact this
def xc{m:E}{H R:O}(K:eX m H R e){r:Int}(S:0<=r){q:cZ}(M:e.cv[r.toNat]? =some q)(C:0<=q.av/\q.av<=1000000)(I:Int){G:O}{d h:List Int}(N:ap m j d)(L:ap m G h)(ag:(d.length:Int)<=q.av)(ae:h.length=d.length):
 aN cq 123 [.agg #[O.v H,O.v R],vi r,vi I,O.v j,O.v G] m λab b=>∃b1 b2 b3,ab=.agg #[vi r,vi 0,vi I,O.v (.mk b1 0 q.av.toNat q.av.toNat),O.v (.mk b2 0 q.av.toNat q.av.toNat),O.v (.mk b3 0 q.av.toNat q.av.toNat)]/\
  tn m b b1 b2 b3 q.av.toNat (d++gB (q.av.toNat -d.length)) (h++gB (q.av.toNat -h.length)) (gB q.av.toNat):=by
 apply Dx
 simp -zeta only[aE,aD]
 intro x a
 have w:J m a:=((J.aF m).aP _).aP _
 have s1:x.size=m.size+1:=by simp[x]
 have s2:a.size=m.size+2:=by simp[a,s1]
 have k:∀g∈[x.size,m.size],g<a.size:=bN
 have af:=K.cv.len
 have ac:=ax M
 have X:=N.len
 have W:=L.len
 clear_value a
 obtain⟨a',l',c',_,_,_,_,_,_,k3,_⟩:=(K.ext w).cv.aO M
 refine⟨S,V,q.av,k3,(qC C.1 V).mono ?_⟩
 rintro _ c ⟨rfl,n⟩
 have z:J a c:=by rw[n];exact J.push _ _
 have s3:c.size=a.size+1:=by rw[n];simp
 have P:cz c a.size ay ((gB q.av.toNat).map Ce.i):=by rw[n];exact cz.push _ _ _
 clear n
 refine⟨z.da k,_,rfl,(qC C.1 V).mono ?_⟩
 rintro _ y ⟨rfl,o⟩
 have u:J c y:=by rw[o];exact J.push _ _
 have s4:y.size=c.size+1:=by rw[o];simp
 have Z:cz y c.size ay ((gB q.av.toNat).map Ce.i):=by rw[o];exact cz.push _ _ _
 clear o
 have A:=z.trans u
 have T:min j.len q.av.toNat=d.length:=by rw[X];exact jt V
 have U:min G.len q.av.toNat=h.length:=by rw[W];exact jt V
 refine⟨u.da (λg B=>z.lt (k g B)),_,rfl,d.map Ce.i,by simp only[O.dS];rw[T];simp,(N.ext (w.trans A)).sJ,(P.ext u).fg (by simp[lR];omega),?_⟩
 intro i
 have k5:cz i a.size ay ((d++gB (q.av.toNat -d.length)).map Ce.i):=Kb (P.ext u) V
 have Q:cz i c.size ay ((gB q.av.toNat).map Ce.i):=Z.congr (bd _ _ _ _ (show c.size≠a.size by omega))
 have s:J a i:=A.ai (ad _) _ _
 have s5:i.size=y.size:=aA _ _ _ _
 clear_value i
 refine⟨J.Bc A s k,h.map Ce.i,by simp only[O.dS];rw[U];simp,(L.ext (w.trans s)).sJ,Q.fg (by simp[lR];omega),?_⟩
 intro f
 have k6:cz f c.size ay ((h++gB (q.av.toNat -h.length)).map Ce.i):=Kb Q V
 have aa:cz f a.size ay ((d++gB (q.av.toNat -d.length)).map Ce.i):=k5.congr (bd _ _ _ _ (show a.size≠c.size by omega))
 have t:J a f:=s.ai (show a.size<=c.size by omega) _ _
 have s6:f.size=i.size:=aA _ _ _ _
 clear_value f
 refine⟨J.Bc s t k,(qC C.1 V).mono ?_⟩
 rintro _ l ⟨rfl,p⟩
 have v:J f l:=by rw[p];exact J.push _ _
 have s7:l.size=f.size+1:=by rw[p];simp
 have k7:cz l f.size ay ((gB q.av.toNat).map Ce.i):=by rw[p];exact cz.push _ _ _
 clear p
 refine⟨J.Bc t (t.trans v) k,_,rfl,?_⟩
 intro D
 have Y:J m D:=(w.trans (t.trans v)).ai V _ _
 have s8:D.size=l.size:=aA _ _ _ _
 have F:∀g,g≠x.size->D[g]? =l[g]? :=λg B=>bd _ _ _ _ B
 refine⟨a.size,c.size,f.size,rfl,Y,V,(aa.ext v).congr (F _ V),(k6.ext v).congr (F _ V),k7.congr (F _ V),by simp[lR];omega⟩
def rf(a:Nat->Nat)(b1 b2 b3 g:Nat):Nat->Nat:=vI (vI (vI a b1 (10+3*g)) b2 (11+3*g)) b3 (12+3*g)
def tn.fI{p:Nat->Prop}{d:Nat->Nat}{m:E}{av ba bA:List Int}(N:tn m b b1 b2 b3 k av ba bA)(e:∀a,m.size<=a->d a=0):dL p d m (rf d b1 b2 b3 g) b:=by
 have f:=N.lo;refine⟨N.ext.size,λa c=>?_,λa c=>?_,λa c _=>N.ext.same a c⟩
 .unfold rf;rw[fH V,fH V,fH V]
 .unfold rf;rw[fH V,fH V,fH V];exact e a (oh N.ext.size)
def tn.sq{a:Nat->Nat}{m:E}{av ba bA:List Int}(N:tn m b b1 b2 b3 k av ba bA):
 iI (rf a b1 b2 b3 g) b ay 1 (10+3*g) (.mk b1 0 k k) (av.map Ce.i)/\iI (rf a b1 b2 b3 g) b ay 1 (11+3*g) (.mk b2 0 k k) (ba.map Ce.i)/\iI (rf a b1 b2 b3 g) b ay 1 (12+3*g) (.mk b3 0 k k) (bA.map Ce.i):=by
 have f:=N.lo
 let⟨c,d,e⟩:=N.len
 refine⟨⟨by simp[c],aH,Or.inr ⟨b1,k,[],rfl,?_,by rw[dD];exact N.kr,by simp[c]⟩⟩,⟨by simp[d],aH,Or.inr ⟨b2,k,[],rfl,?_,by rw[dD];exact N.ko,by simp[d]⟩⟩,⟨by simp[e],aH,Or.inr ⟨b3,k,[],rfl,?_,by rw[dD];exact N.kh,by simp[e]⟩⟩⟩
 .unfold rf;rw[fH V,fH V,jh]
 .unfold rf;rw[fH V,jh]
 .unfold rf;rw[jh]
def tn.box{m:E}{av ba bA:List Int}(N:tn m b b1 b2 b3 k av ba bA){m1:E}(a:J m1 m){nb:Nat}(d:m1.size<=nb)(e:nb<m.size)(i:Nat)(c:List Ce):tn m1 (ai b nb i c) b1 b2 b3 k av ba bA:=by
 have f:=N.lo;have g:=a.size;exact⟨(a.trans N.ext).ai d _ _,by rw[aA];omega,N.kr.congr (bd _ _ _ _ V),N.ko.congr (bd _ _ _ _ V),N.kh.congr (bd _ _ _ _ V),N.len⟩
def tn.WO{m c:E}{av ba bA:List Int}(N:tn m b b1 b2 b3 k av ba bA)(a:J b c):tn m c b1 b2 b3 k av ba bA:=by
 have d:=N.lo;have:=a.size;exact⟨N.ext.trans a,V,N.kr.ext a,N.ko.ext a,N.kh.ext a,N.len⟩
section
variable{B:E}{v:Nat->Nat}{m:E}{w:Nat}{d p bB z t:O}{s:St}{q:List be}{u:be}{D C A:O}{y:List (List Ce)}
def sk.replace{c:Nat->Nat}(T:sk v m t q u D C A y)(s:dL (λ_=>False) v m c b){a:be}{g e d:O}(w:iI c b ay 1 (10+3*q.length) g (a.av.map Ce.i))(n:iI c b ay 1 (11+3*q.length) e (a.ba.map Ce.i))(p:iI c b ay 1 (12+3*q.length) d (a.bA.map Ce.i)):
 fg b t.az (t.off+q.length*6) 6/\oH c (ai b t.az (t.off+q.length*6) [.i a.dV,.i a.pc,.i a.dst,.s g,.s e,.s d]) t (q++[a])/\dL (λk=>k=4) c b c (ai b t.az (t.off+q.length*6) [.i a.dV,.i a.pc,.i a.dst,.s g,.s e,.s d]):=by
 have j:sk c b t q u D C A y:=T.fI s λ_ _=>id
 have l:y.flatten.length=q.length*6:=by rw[dp T.size,T.len]
 have i:dL (λk=>k=4) c b c (ai b t.az (t.off+q.length*6) [.i a.dV,.i a.pc,.i a.dst,.s g,.s e,.s d]):=dL.ai s.new j.az.1 _ _
 refine⟨j.sq.wr (by simp[l]),sk.tj (f:=a) (a:=q) (j:=y) (r:=g) (e:=e) (h:=d) ⟨?_,T.len,T.size,j.wU i λk n p=>V,w.fI i V,n.fI i V,p.fI i V⟩,i⟩
 have:=j.sq.set (o:=q.length*6) (new:=[.i a.dV,.i a.pc,.i a.dst,.s g,.s e,.s d]) (by simp[l])
 rw[mw _ _ _ _ V,l,Nat.sub_self]at this
 exact this
def Mz(w nb:Nat)(d:List Nat)(k pc f:Int)(g g1 g2:Int)(l j h:O)(e:E)(R:Value->E->Prop):Prop:=
 ((k==(24:Int))=true->
 let b:E:=ai e nb 2 [.i f]
 ∃a:O,af b w 8=some (O.v a)/\
 ∃c:O,af b w 8=some (O.v c)/\
 (0:Int)<=(cQ ((c.len:Int) -(1:Int)))/\(cQ ((c.len:Int) -(1:Int)))<(a.len:Int)/\
 fg b a.az (a.off+Int.toNat (cQ ((c.len:Int) -(1:Int)))*6) 6/\
 let i:E:=ai b a.az (a.off+Int.toNat (cQ ((c.len:Int) -(1:Int)))*6) [.i g,.i g1,.i f,.s l,.s j,.s h]
 eG (nb::d) b i/\
 R (.tuple #[]) i)/\
 ((k==(24:Int))=false->
 aN cq 221 [vp w 0,vi (cQ (pc+(1:Int)))] e λ_ a=>
 eG (nb::d) e a/\
 ∃m:O,af a w 8=some (O.v m)/\
 let c:E:=a.push (.cells (bD [.i g,.i g1,.i g2,.s l,.s j,.s h]) eF)
 af c w 8=af a w 8/\
 jb c eF [.i (0:Int),.i (0:Int),.i (0:Int),.s O.nil,.s O.nil,.s O.nil] 96 m (O.mk a.size 0 1 1) λn b=>
 eG (nb::d) c b/\
 fg b w 8 1/\
 let i:E:=ai b w 8 [.s n]
 eG (nb::d) b i/\
 R (.tuple #[]) i)
def NL(S:ST B v m w bP (SB d p s bB z t) bB z t s.bB s.heap q u D C A y){W:List Nat}(G:Nr v m W){nb:Nat}{h:E}{g:be}(N:tn m h b1 b2 b3 k g.av g.ba g.bA)(ah:m.size<=nb/\nb<h.size)(r:nb≠b1/\nb≠b2/\nb≠b3)
 (az:q.length<=100000)(aD:0<=u.pc/\u.pc<=1000000){R:Value->E->Prop}
 (ar:c.op=24->∀b,xy B v m w d p {s with aj:=q++[{g with dst:=u.dst}]} b->R (.tuple #[]) b)
 (au:c.op≠24->∀b,xy B v m w d p {s with aj:=q++[{u with pc:=u.pc+1},g]} b->R (.tuple #[]) b):
 Mz w nb W c.op u.pc u.dst g.dV g.pc g.dst (.mk b1 0 k k) (.mk b2 0 k k) (.mk b3 0 k k) h R:=by
 have aB:=N.lo
 have ax:=S.iP.ED
 have F:cQ ((t.len:Int) -1)=(q.length:Int):=by rw[aQ V V];omega
 have e2:Int.toNat (q.length:Int)=q.length:=V
 have e4:cQ (u.pc+1)=u.pc+1:=aQ V V
 have ai:v nb=0:=S.eQ.new _ ah.1
 have aC:=N.ext.size
 refine⟨λM=>?_,λM=>?_⟩
 .intro H
  have P:tn m H b1 b2 b3 k g.av g.ba g.bA:=⟨N.ext.ai ah.1 _ _,by simp only[H,aA];omega,N.kr.congr (bd _ _ _ _ (λF=>r.1 F.symm)),N.ko.congr (bd _ _ _ _ (λF=>r.2.1 F.symm)),N.kh.congr (bd _ _ _ _ (λF=>r.2.2 F.symm)),N.len⟩
  have ab:H.size=h.size:=aA _ _ _ _
  clear_value H
  have o:dL (λ_=>False) v m (rf v b1 b2 b3 q.length) H:=P.fI S.eQ.new
  let⟨U,a2,a3⟩:=P.sq (a:=v) (g:=q.length)
  let⟨Z,w2,I⟩:=S.iP.replace o (a:={g with dst:=u.dst}) U a2 a3
  let⟨L,X⟩:=S.eQ.jJ (o.mono λ_=>False.elim) (S.eQ.heap.fI o id id)
  have K:af H w 8=some (O.v t):=L.box.cJ 8
  refine⟨t,K,t,K,?_⟩
  rw[F,e2]
  refine⟨V,V,Z,?_⟩
  intro aa
  let⟨T,Y⟩:=L.lQ (I.mono λk Q=>V) w2
  refine⟨?_,ar (by simpa using M) _ ⟨_,bB,z,t,T,X.trans Y⟩⟩
  intro j e
  rcases List.mem_cons.1 e with rfl|e
  .refine I.fS _ V ?_
   unfold rf;rw[fH r.2.2,fH r.2.1,fH r.1,ai];decide
  .refine I.fS _ (oh ((G j e).1)) ?_
   rw[o.jx j (G j e).1,(G j e).2];decide
 .simp only[ao]at M
  rw[e4]
  have o:dL (λ_=>False) v m (rf v b1 b2 b3 (q.length+1)) h:=N.fI S.eQ.new
  let⟨U,a2,a3⟩:=N.sq (a:=v) (g:=q.length+1)
  let⟨ap,aw⟩:=S.eQ.jJ (o.mono λ_=>False.elim) (S.eQ.heap.fI o id id)
  have I:ST B (rf v b1 b2 b3 (q.length+1)) h w bP (SB d p s bB z t) bB z t s.bB s.heap q u D C A y:=⟨ap,S.iP.fI o λ_ _=>id⟩
  have ag:Nr (rf v b1 b2 b3 (q.length+1)) h (nb::W):=λj e=>by
   rcases List.mem_cons.1 e with rfl|e
   .refine⟨V,?_⟩;unfold rf;rw[fH r.2.2,fH r.2.1,fH r.1,ai]
   .exact⟨by have:=(G j e).1;omega,by rw[o.jx j (G j e).1];exact(G j e).2⟩
  apply om (w,0)
  have K:af h w 8=some (O.v t):=I.eQ.box.cJ 8
  refine⟨t,K,t,K,?_⟩
  rw[F,e2]
  refine⟨V,V,I.iP.Y8,?_⟩
  intro H
  let⟨L,aa⟩:=I.Ru (u.pc+1)
  have aq:dL (λk=>k=4) (rf v b1 b2 b3 (q.length+1)) h (rf v b1 b2 b3 (q.length+1)) H:=dL.ai I.eQ.new I.iP.az.1 _ _
  refine⟨aa.gV ag,t,L.eQ.box.cJ 8,?_⟩
  intro Z
  have Y:J H Z:=(J.aF H).aP _
  let⟨T,am⟩:=L.ext Y
  have ac:=(ag.to aa).to am
  have k8:gP Z H.size 0 [.i g.dV,.i g.pc,.i g.dst,.s (.mk b1 0 k k),.s (.mk b2 0 k k),.s (.mk b3 0 k k)]:=(cz.push H _ _).jC
  have P:(q++[{u with pc:=u.pc+1}]).length=q.length+1:=aH
  have X:=λ{k:Nat}{s:O}{l:List Ce}(a:iI (rf v b1 b2 b3 (q.length+1)) h ay 1 k s l)(Q:k≠4)=>(a.fI aq Q).fI (dL.fK (λ_=>False) Y L.eQ.new) id
  refine⟨Y.dA (L.eQ.box.cJ 8),oH.push T.eQ.aj T.eQ.new (x:=.mk H.size 0 1 1) rfl (a:=g) k8 (by rw[P];exact X U V) (by rw[P];exact X a2 V) (by rw[P];exact X a3 V) (by rw[P];omega) λal ak av q1 q2=>?_⟩
  have ab:To _ Z al av:=q2.mono λk Q=>V
  let⟨ad,aF⟩:=T.eQ.lQ (q2.mono λk Q=>V) q1
  refine⟨ab.gV ac,ad.xl (i:=8) aH,?_⟩
  intro aE
  let⟨ae,an⟩:=ad.pb 8 [.s ak]
  refine⟨an.gV (ac.to ab),au M _ ⟨al,bB,z,ak,?_,(((aw.trans aa).trans am).trans ab).trans an⟩⟩
  have e9:q++[{u with pc:=u.pc+1}]++[g]=q++[{u with pc:=u.pc+1},g]:=aH
  rw[e9]at ae
  exact ae
end
end
section
variable{a:cp}
variable{B:Int}
noncomputable def qt (a:cp) (s:St) (b:List be) (f:be) (x:Instr):St:=
 if x.op=9 then{s with bL:=s.bL+1,aj:=b++[{f with pc:=f.pc+1},cK a x.bK x.dst (dB f x.args)]}
 else if x.op=24 then{s with bL:=s.bL+1,aj:=b++[cK a x.bK f.dst (dB f x.args)]}
 else{s with bL:=s.bL+1,heap:=apart s.heap (aO f.av (aO x.args 0)),aj:=b++[{f with pc:=f.pc+1},cK a ((aZ s.heap (aO f.av (aO x.args 0))).mK -gA a) x.dst ((aZ s.heap (aO f.av (aO x.args 0))).aL++[aO f.av (aO x.args 1)])]}
section
variable{u:E}{n:Nat->Nat}{m:E}{q:Nat}{d p bB t j:O}{b:St}{e:List be}{c:be}{r v h:O}{y:List (List Ce)}
def ST.rv(S:ST u n m q bP (SB d p b bB t j) bB t j b.bB b.heap e c r v h y)(g:eX u d p a)(k:b.bB.length<=2000000000)(i:b.heap.length<=2000000000)(f:lW m j (e++[c])):
 RV m q 2 d p bB t j a {b with aj:=e++[c]}:=
 ⟨g.ext S.eQ.cG,S.eQ.box.cJ 0,S.eQ.box.cJ 1,S.eQ.box.cJ 2,S.eQ.box.cJ 3,S.eQ.box.cJ 4,S.eQ.box.cJ 5,S.eQ.box.cJ 6,S.eQ.box.cJ 7,S.eQ.box.cJ 8,S.eQ.bB.pA V,S.eQ.heap.cells V,f⟩
def oH.IQ{e:List be}(b:oH n m j e)(A:e.length<=2000000000)(q:∀c∈e,c.av.length<=1000000/\c.ba.length<=1000000/\c.bA.length<=1000000):lW m j e:=by
 let⟨y,a,f,g,p⟩:=b;have t:j.len=e.length:=by have:=a.len;rw[dp g,f]at this;omega
 refine⟨t,a.le,V,λk x d=>?_⟩;let⟨o,i⟩:=cg y k (by rw[f];exact ax d);obtain⟨r,v,h,rfl,w,u,b⟩:=p k o x i d;let⟨B,C,D⟩:=q x (aq d);refine⟨_,⟨r,v,h,rfl,w.pA V,u.pA V,b.pA V⟩,λz l s=>?_⟩;have:=a.jC (k*6+z) l (iJ g i s);rwa[<-dR]at this
def Mi(ao:ST u n m q bP (SB d p b bB t j) bB t j b.bB b.heap e c r v h y)(aP:eX u d p a)(aw:qV B a){z:Instr}{ab ai:O}(ha:ap u ab z.args)(bn:∀F∈z.args,0<=F/\F<c.av.length)(bM:z.args.length<=4)
 (bZ:z.op=9\/z.op=24\/z.op=11)(a4:(z.op=9\/z.op=24)->uK a z.bK z.args.length)(bm:z.op=11->z.args.length=2/\Em a b.heap (aO c.av (aO z.args 0)))
 (bX:c.av.length=c.ba.length/\c.bA.length=c.ba.length/\c.ba.length<=1000000)(bl:∀L∈e,L.av.length<=1000000/\L.ba.length<=1000000/\L.bA.length<=1000000)(bA:0<=c.pc/\c.pc<=1000000)(bU:e.length<=10000)(bV:b.heap.length<=1000000000)(b0:b.bB.length<=1000000000)(bO:0<=b.bL/\b.bL<=100000)
 {D:Nat->Int}(hI:fQ b.heap D):
 aN cq 218 [vp q 0,fv c r v h,xv z ab ai] m λ_ N=>xy u n m q d p (qt a b e c z) N:=by
 apply uz (q,0)
 simp -zeta only[aE,aD]
 intro H m2
 have bE:J m m2:=((J.aF m).aP _).aP _
 have s1:H.size=m.size+1:=by simp[H]
 have s2:m2.size=m.size+2:=by simp[m2,s1]
 have B2:=Nr.Jw ao.eQ.new s1 s2
 have kB:cz m2 H.size dN [.i z.op,.i z.dst,.i z.bK,.i z.bW,.s ab,.s ai]:=cz.push H _ _
 let⟨S2,t2⟩:=ao.ext bE
 clear_value m2
 have br:CL a z:=λD=>let⟨A,Z,G,_⟩:=a4 D;⟨Z,A,G⟩
 have bK:(eI a.bt).length<=12:=by
  have:=sD aw.pB.types a.bt.length;rw[nJ _ _ (ad _)]at this;exact this
 have bu:∀{n m t lh bx},ST u n m q bP bx bB t j b.bB lh e c r v h y->lW m j (e++[c]):=λao=>ao.eQ.aj.IQ bN (λL C=>by
  rcases List.mem_append.1 C with C|C
  .exact bl L C
  .simp at C;subst C;omega)
 refine(nC (f:=c) (S2.KJ V) (ha.ext S2.eQ.cG) bn V).mono ?_
 rintro _ m3 ⟨U,rfl,ow,aF⟩
 let⟨S3,t3⟩:=S2.ext aF
 have B3:=B2.to t3
 have bD:(dB c z.args).length=z.args.length:=by simp[dB]
 have au:ap m3 U (dB c z.args):=ap.fP ow V
 have bI:∀{N:E}{U:O}{az:List Ce},fZ N m3 ay 1 U az->m.size<=N.size->U≠.nil->n U.az=0:=λho hs aa=>by
  rcases ho.az with D|D
  .exact absurd D aa
  .exact ao.eQ.new _ V
 refine⟨t3.gV B2,U,rfl,λL wv N=>∃(aJ:Nat->Nat)(a8:O)(an:List bS)(C:List Int)(A:cZ),ST u aJ N q bP (SB d p b bB a8 j) bB a8 j b.bB an e c r v h y/\To n m aJ N/\Nr aJ N [H.size,m.size]/\cz N H.size dN [.i z.op,.i z.dst,.i z.bK,.i z.bW,.s ab,.s ai]/\ap N wv C/\(C≠[]->aJ wv.az=0)/\
  0<=L/\a.cv[L.toNat]? =some A/\C.length=A.params.length/\ic a z 0 C=iB A.df 0 C/\
  (z.op=24->qt a b e c z={b with bL:=b.bL+1,heap:=an,aj:=e++[cK a L c.dst C]})/\(z.op≠24->qt a b e c z={b with bL:=b.bL+1,heap:=an,aj:=e++[{c with pc:=c.pc+1},cK a L z.dst C]}),?_,?_⟩
 .refine⟨λal=>?_,λal=>?_⟩
  .simp at al
   let⟨G,W,a9,b4,bz,a6,bR⟩:=bm al
   let⟨av,bC⟩:=cw W
   have a0:=hI.cell _ (aq av)
   have b5:=(a0.pG bC).2
   have a7:=ax av
   have bo:z.args=[aO z.args 0,aO z.args 1]:=by
    cases M:z.args with
    |nil=>rw[M]at G;simp at G
    |cons F az=>cases az with
     |nil=>rw[M]at G;simp at G
     |cons I az=>cases az with
      |nil=>rfl
      |cons _ _=>rw[M]at G;simp at G
   have a_:dB c z.args=[aO c.av (aO z.args 0),aO c.av (aO z.args 1)]:=by rw[bo];rfl
   have b7:=au.len
   have b6:=au.cap
   have gw:af m3 U.az (U.off+Int.toNat (0:Int)*1)=some (vi (aO c.av (aO z.args 0))):=au.aO (k:=0) (by rw[a_];rfl)
   have ar:=S3.rv aP V V (bu S3)
   generalize hw:aO c.av (aO z.args 0)=w at*
   generalize hv:aO c.av (aO z.args 1)=ah at*
   let⟨A,hq⟩:=cg a.cv (((aZ b.heap w).mK -gA a).toNat)
   have am:dm a ((aZ b.heap w).mK -gA a)=A:=by simp[dm,hq]
   rw[am]at bz a6
   refine⟨V,V,w,gw,d,ar.bt,(fC ar W.1 av).mono ?_⟩
   rintro _ m4 ⟨f4,rfl,bQ,X⟩
   let⟨S4,t4⟩:=S3.ext X
   have B4:=B3.to t4
   have a1:=ar.ext X
   refine⟨t4.gV B3,_,_,_,rfl,X.dA ar.bt,(pY a1.eS.bt aw.pB.types).mono ?_⟩
   rintro _ I ⟨rfl,aK⟩
   let⟨Q,t5⟩:=S4.ext aK
   have B5:=B4.to t5
   have bk:=a1.ext aK
   refine⟨t5.gV B4,_,rfl,V,V,V,(fC bk W.1 av).mono ?_⟩
   rintro _ m6 ⟨f6,rfl,bt,aX⟩
   let⟨S6,t6⟩:=Q.ext aX
   have B6:=B5.to t6
   have aI:=(X.trans aK).trans aX
   have e1:(Int.toNat (1:Int))=1:=rfl
   have e2:(Int.toNat (U.len:Int))=U.len:=V
   rw[e1,e2]
   have bF:ap m6 (O.cut U 1 U.len 1) [ah]:=by
    have:=Ya (au.ext aI) (by rw[bD];omega);rw[a_]at this;exact this
   have bT:=a0.fl
   refine⟨t6.gV B5,_,_,_,rfl,(KZ bt bF bN).mono ?_⟩
   rintro _ m7 ⟨P,rfl,oe,aY⟩
   let⟨S7,t7⟩:=S6.ext aY
   have B7:=B6.to t7
   have ie:ap m7 P ((aZ b.heap w).aL++[ah]):=ap.fP oe bN
   have aB:n P.az=0:=by
    rcases oe.az with D|D
    .subst D;have:=ie.len;simp at this
    .exact ao.eQ.new _ (Pk aI.size aF.size)
   have bs:P.az<m7.size:=oI ie aH
   refine⟨t7.gV B6,P,rfl,(Ah S7.eQ W hI V).mono ?_⟩
   rintro _ F ⟨ac,rfl,hb,K,bq,bp⟩
   have t8:To n m7 n F:=K.mono λS R=>V
   have B8:=B7.to t8
   have ba:ap F P ((aZ b.heap w).aL++[ah]):=nG ie λ_=>K.fS _ bs (by rw[aB];decide)
   have bc:To n m n F:=(((((t2.trans t3).trans t4).trans t5).trans t6).trans t7).trans t8
   have bb:cz F H.size dN [.i z.op,.i z.dst,.i z.bK,.i z.bW,.s ab,.s ai]:=(kB.ext (aF.trans (aI.trans aY))).congr (K.fS _ (B7 H.size aH).1 (by rw[(B7 H.size aH).2];decide))
   have e3:cQ ((aZ b.heap w).mK -((eI a.bt).length:Int))=(aZ b.heap w).mK -gA a:=aQ V V
   rw[e3]
   have aG:ic a z 0 ((aZ b.heap w).aL++[ah])=iB A.df 0 ((aZ b.heap w).aL++[ah]):=by
    rw[EV V,List.length_eq_zero_iff.1 a6]
   have a5:∀an,an=apart b.heap w->qt a b e c z={b with bL:=b.bL+1,heap:=an,aj:=e++[{c with pc:=c.pc+1},cK a ((aZ b.heap w).mK -gA a) z.dst ((aZ b.heap w).aL++[ah])]}:=λan D=>by
    rw[qt,ae V,ae V,hw,hv,D]
   refine⟨t8.gV B7,ac,rfl,λa3=>?_,λa2=>?_⟩
   .have aL:=hb.1 a3
    let⟨T,bJ⟩:=S7.jJ (K.mono λS R=>Or.inl R) (bq a3)
    have bY:=T.eQ.heap.len
    refine⟨t,T.eQ.box.cJ 7,?_⟩
    intro m9
    have bj:J F m9:=(J.aF F).aP _
    let⟨S9,Y⟩:=T.ext bj
    have B9:=B8.to Y
    clear_value m9
    have bW:=W.1
    have bw:ix w=(w -1000).toNat:=rfl
    have e5:cQ (w -1000)=w -1000:=aQ V V
    rw[e5,<-bw]
    refine⟨V,V,S9.eQ.heap.wr (o:=0) a7 bh,?_⟩
    intro b8
    let⟨bv,bg⟩:=S9.eQ.heap.setCell S9.eQ.new a7 0 0 (f:=.mk F.size 0 0 0) (l:=[]) ⟨rfl,aH,aH,aH⟩ (λaa=>absurd rfl aa)
    let⟨aC,aR⟩:=S9.jJ (bg.mono λS R=>Or.inl R) bv
    have aV:=B9.to aR
    refine⟨aR.gV B9,t,aC.eQ.box.cJ 7,(wI (aC.eQ.heap.cells bN)).mono ?_⟩
    rintro _ b9 ⟨rfl,bi⟩
    let⟨ag,aS⟩:=aC.ext bi
    have aW:=aV.to aS
    refine⟨aS.gV aV,_,rfl,ag.eQ.xl (i:=7) aH,?_⟩
    intro aM
    obtain⟨be,b_⟩:=ag.jJ (dL.aF _ ag.eQ.new) (ag.eQ.heap.cut (tc _ _))
    obtain⟨bf,aT⟩:=be.pb 7 [.s (t.cut 0 (kH (b.heap.set (ix w) jT) (b.heap.set (ix w) jT).length) 3)]
    have bd:=aW.to aT
    have aU:To n F n aM:=((Y.trans aR).trans aS).trans aT
    have bG:ap aM P ((aZ b.heap w).aL++[ah]):=nG ba λ_=>aU.fS _ (oh K.size) (by rw[aB];simp)
    have bH:cz aM H.size dN [.i z.op,.i z.dst,.i z.bK,.i z.bW,.s ab,.s ai]:=bb.congr (aU.fS _ (B8 H.size aH).1 (by rw[(B8 H.size aH).2];simp))
    refine⟨aT.gV aW,n,_,_,_,A,bf,bc.trans aU,bd,bH,bG,λ_=>aB,a9,hq,bN,aG,λD=>V,λ_=>a5 _ ?_⟩
    rw[apart,ak aL];rfl
   .have aL:(aZ b.heap w).aS≠1:=λD=>by have:=hb.2 D;rw[a2]at this;simp at this
    let⟨T,bJ⟩:=S7.jJ (K.mono λS R=>Or.inl R) (bp a2)
    refine⟨n,t,_,_,A,T,bc,B8,bb,ba,λ_=>aB,a9,hq,bN,aG,λD=>V,λ_=>a5 _ ?_⟩
    rw[apart,ae aL]
  .simp at al
   have F:z.op=9\/z.op=24:=V
   let⟨A,P,K,R⟩:=a4 F
   have am:dm a z.bK=A:=by simp[dm,K]
   refine⟨n,t,b.heap,dB c z.args,A,S3,t2.trans t3,B3,kB.ext aF,au,λaa=>bI ow V (λD=>by subst D;have:=au.len;simp at this;exact aa (List.length_eq_zero_iff.1 this.symm)),P,K,V,by rw[It F,am],λD=>?_,λD=>?_⟩
   .rw[qt,ae V,ak D]
   .rw[qt,ak V]
 .rintro L wv m4 ⟨av,aW,aS,C,A,S4,t4,B4,bd,aX,bc,a7,hq,bi,aG,a5,a6⟩
  have am:dm a L=A:=by simp[dm,hq]
  have bg:=(aw.de A (aq hq)).av
  have bf:=aw.fu
  have h3:=(aw.pB.de A (aq hq)).1
  refine⟨b.bL,S4.eQ.box.cJ 4,S4.eQ.xl (i:=4) aH,?_⟩
  have e3:cQ (b.bL+1)=b.bL+1:=aQ V V
  rw[e3]
  intro I
  let⟨Q,t5⟩:=S4.pb 4 [.i (b.bL+1)]
  have B5:Nr av I [H.size,m.size]:=B4.to t5
  replace t5:To av m4 av I:=t5
  have c5:dL (λS=>S=1) av m4 av I:=dL.ai S4.eQ.new S4.eQ.Rr _ _
  have aY:ap I wv C:=nG aX λaa=>c5.fS _ (oI aX aa) (by rw[bc aa];decide)
  have be:cz I H.size dN [.i z.op,.i z.dst,.i z.bK,.i z.bW,.s ab,.s ai]:=bd.congr (c5.fS _ (B4 H.size aH).1 (by rw[(B4 H.size aH).2];decide))
  replace Q:ST u av I q bP (SB d p {b with bL:=b.bL+1,heap:=aS} bB aW j) bB aW j b.bB aS e c r v h y:=Q
  refine⟨t5.gV B4,d,Q.eQ.box.cJ 0,p,Q.eQ.box.cJ 1,?_⟩
  clear_value I
  have a2:=t4.trans t5
  have kg:∀{K a1:E},J K a1->∀{ac ag:Nat}{ah:Value},af K ac ag=some ah->af a1 ac ag=af K ac ag:=λM=>M.dA
  have bb:(ic a z 0 C).length=C.length:=Da _ _ _ _
  have ba:(cK a L z.dst C).av=C++gB (A.av.toNat -C.length):=by simp[cK,am]
  have a_:(cK a L z.dst C).ba=ic a z 0 C++gB (A.av.toNat -(ic a z 0 C).length):=by simp[cK,am,aG,mI]
  have a9:(cK a L z.dst C).bA=gB A.av.toNat:=by simp[cK,am]
  have hO:∀(W aC:E)(nb b1 b2 b3:Nat),J I W->tn W aC b1 b2 b3 A.av.toNat (C++gB (A.av.toNat -C.length)) (ic a z 0 C++gB (A.av.toNat -(ic a z 0 C).length)) (gB A.av.toNat)->W.size<=nb/\nb<aC.size->nb≠b1/\nb≠b2/\nb≠b3->
   Mz q nb [H.size,m.size] z.op c.pc c.dst L 0 z.dst (.mk b1 0 A.av.toNat A.av.toNat) (.mk b2 0 A.av.toNat A.av.toNat) (.mk b3 0 A.av.toNat A.av.toNat) aC (λ_ N=>xy u n m q d p (qt a b e c z) N):=λW aC nb b1 b2 b3 M P aR aa=>by
   let⟨SM,tM⟩:=Q.ext M
   refine NL (s:={b with bL:=b.bL+1,heap:=aS}) (g:=cK a L z.dst C) (c:=z) SM (B5.to tM) (by rw[ba,a_,a9];exact P) aR aa V bA (λD N hF=>?_) (λD N hF=>?_)
   .rw[a5 D];exact xy.from hF (a2.trans tM)
   .rw[a6 D];exact xy.from hF (a2.trans tM)
  have aK:∀{W:E}{os:O},J I W->ap W os (ic a z 0 C)->aN cq 123 [.agg #[O.v d,O.v p],vi L,vi z.dst,O.v wv,O.v os] W _:=λM ho=>xc (aP.ext (Q.eQ.cG.trans M)) a7 hq V z.dst (aY.ext M) ho V bb
  have aB:∀{K T:E},J I K->J K T->∀ag,ag<6->af T H.size ag=af K H.size ag:=λZ G ag hi=>by
   have S:=be.ext Z;match ag,hi with
   |0,_=>exact G.dA (S.cJ 0)
   |1,_=>exact G.dA (S.cJ 1)
   |2,_=>exact G.dA (S.cJ 2)
   |3,_=>exact G.dA (S.cJ 3)
   |4,_=>exact G.dA (S.cJ 4)
   |5,_=>exact G.dA (S.cJ 5)
  have Jw:∀{K T:E},J I K->J K T->af T q 0=af K q 0/\af T q 1=af K q 1:=λZ G=>⟨G.dA (Z.af (Q.eQ.box.cJ 0)),G.dA (Z.af (Q.eQ.box.cJ 1))⟩
  have mM:∀{W:E},J I W->mQ 249 [vp q 0,xv z ab ai,O.v wv] W (ic a z 0 C):=λM=>DI (aP.ext (Q.eQ.cG.trans M)) (M.af (Q.eQ.box.cJ 0)) (M.af (Q.eQ.box.cJ 1)) br ab ai (aY.ext M) V
  have sm:∀{K T:E},J I K->J K T->eG [H.size,m.size] K T:=λZ G=>G.da λac hb=>Z.lt (B5 ac hb).1
  have aT:∀{K T:E}{nb:Nat},J I K->J K T->nb<K.size->eG [nb,H.size,m.size] K T:=λZ G aR=>G.da λac hb=>by
   rcases List.mem_cons.1 hb with rfl|hb
   .exact aR
   .exact Z.lt (B5 ac hb).1
  refine⟨(mM (J.aF _)).mono ?_,?_⟩
  .rintro _ al ⟨os,rfl,oo,R⟩
   have io:ap al os (ic a z 0 C):=ap.fP oo V
   refine⟨sm (J.aF _) R,os,rfl,aB (J.aF _) R 1 V,(Jw (J.aF _) R).1,(Jw (J.aF _) R).2,?_,?_⟩
   .refine(aK R io).mono ?_
    rintro _ ar ⟨b1,b2,b3,rfl,P⟩
    have aL:=P.ext
    have aU:=R.trans aL
    refine⟨sm R aL,_,_,_,_,_,_,rfl,?_⟩
    intro a0
    have aM:J ar a0:=(J.aF ar).aP _
    have F:=aB aU aM
    have Y:=Jw aU aM
    refine⟨F 0 V,F 1 V,F 2 V,F 3 V,F 4 V,F 5 V,F 1 V,Y.1,Y.2,?_⟩
    intro aI
    have a3:J ar aI:=aM.ai (ad _) _ _
    have bj:aI.size=ar.size+1:=by simp[aI,a0,aA]
    have aV:=P.lo
    exact hO al aI ar.size b1 b2 b3 R (P.WO a3) ⟨by have:=aL.size;omega,V⟩ ⟨V,V,V⟩
   .intro aI
    have ar:J al aI:=(J.aF al).aP _
    have a3:aI.size=al.size+1:=by simp[aI]
    have F:=aB R ar
    have Y:=Jw R ar
    refine⟨F 0 V,F 1 V,F 2 V,F 3 V,F 4 V,F 5 V,F 1 V,Y.1,Y.2,?_⟩
    clear_value aI
    refine(aK (R.trans ar) (io.ext ar)).mono ?_
    rintro _ a0 ⟨b1,b2,b3,rfl,P⟩
    have aL:=P.ext
    refine⟨aT (R.trans ar) aL V,_,_,_,_,_,_,rfl,?_⟩
    intro aM
    have aV:=P.lo
    have aU:=P.box ar (nb:=al.size) (ad _) V 0 [.i L,.i 0,.i z.dst,.s (.mk b1 0 A.av.toNat A.av.toNat),.s (.mk b2 0 A.av.toNat A.av.toNat),.s (.mk b3 0 A.av.toNat A.av.toNat)]
    exact hO al aM al.size b1 b2 b3 R aU ⟨ad _,by simp only[aM,aA];have:=aL.size;omega⟩ ⟨V,V,V⟩
  .intro al
   have R:J I al:=(J.aF I).aP _
   have a3:al.size=I.size+1:=by simp[al]
   have F:=aB (J.aF _) R
   have Y:=Jw (J.aF _) R
   refine⟨F 0 V,F 1 V,F 2 V,F 3 V,F 4 V,F 5 V,F 1 V,Y.1,Y.2,?_⟩
   clear_value al
   refine(mM R).mono ?_
   rintro _ aU ⟨os,rfl,oo,X⟩
   have io:ap aU os (ic a z 0 C):=ap.fP oo V
   have ar:=R.trans X
   have bj:=X.size
   refine⟨aT R X V,os,rfl,aB R X 1 V,(Jw R X).1,(Jw R X).2,?_⟩
   refine(aK ar io).mono ?_
   rintro _ a0 ⟨b1,b2,b3,rfl,P⟩
   have aI:=P.ext
   refine⟨aT ar aI V,_,_,_,_,_,_,rfl,?_⟩
   intro aL
   have aV:=P.lo
   have aM:=P.box ar (nb:=I.size) (ad _) V 0 [.i L,.i 0,.i z.dst,.s (.mk b1 0 A.av.toNat A.av.toNat),.s (.mk b2 0 A.av.toNat A.av.toNat),.s (.mk b3 0 A.av.toNat A.av.toNat)]
   exact hO I aL I.size b1 b2 b3 (J.aF _) aM ⟨ad _,by simp only[aL,aA];have:=aI.size;omega⟩ ⟨V,V,V⟩
def Mm(S:ST u n m q bP (SB d p b bB t j) bB t j b.bB b.heap e c r v h y)(ae:e.length<=100000)(w:Int)(U:∀g,e.getLast?=some g->0<=c.dst/\c.dst<g.av.length/\c.dst<g.ba.length):
 aN cq 219 [vp q 0,fv c r v h,vi w] m λ_ Z=>xy u n m q d p (match e.getLast? with|none=>{b with cW:=0,value:=w,aj:=[]}|some g=>{b with aj:=e.dropLast++[g.put c.dst w (jw w)]}) Z:=by
 apply uA (q,0)
 simp -zeta only[aE,aD]
 intro f
 have Y:J m f:=(J.aF m).aP _
 have s1:f.size=m.size+1:=by simp[f]
 let⟨k,t1⟩:=S.ext Y
 have M:n m.size=0:=S.eQ.new _ (ad _)
 have C:Nr n f [m.size]:=λE G=>by simp at G;subst G;exact⟨V,M⟩
 clear_value f
 have H:=k.iP.ED
 have ab:=k.iP.sq.le
 have z:cQ ((j.len:Int) -1)=(e.length:Int):=by rw[aQ V V];omega
 have L:Int.toNat (e.length:Int)=e.length:=V
 have F:af f q 8=some (O.v j):=k.eQ.box.cJ 8
 refine⟨j,F,j,F,?_⟩
 rw[z,L]
 refine⟨V,V,V,k.eQ.xl (i:=8) aH,?_⟩
 intro m2
 let⟨x,t2⟩:=k.eQ.pb 8 [.s (j.cut 0 e.length 6)]
 obtain⟨a,_⟩:=x.lQ (dL.aF _ x.new) (x.aj.Vj)
 have o:=C.to t2
 have ac:(j.cut 0 e.length 6).len=e.length:=by
  cases j with
  |nil=>simp at H
  |CT E I l=>simp at H
  |mk E I A l=>simp[O.cut]
 have e3:Int.toNat (0:Int)=0:=rfl
 refine⟨t2.gV C,j.cut 0 e.length 6,a.box.cJ 8,λA=>?_,λA=>?_⟩
 .simp at A
  have N:e=[]:=List.length_eq_zero_iff.1 V
  subst N
  refine⟨a.xl (i:=2) (by simp[lp]),?_⟩
  intro m3
  let⟨l,t3⟩:=a.pb 2 [.i 0]
  have D:=o.to t3
  refine⟨t3.gV o,l.xl (i:=3) (by simp[lp]),?_⟩
  intro P
  let⟨K,B⟩:=l.pb 3 [.i w]
  exact⟨B.gV D,n,bB,t,_,K,(((t1.trans t2).trans t3).trans B)⟩
 .simp at A
  have X:e.length≠0:=V
  have B:e≠[]:=λz=>X (by rw[z];rfl)
  obtain⟨g,l⟩:∃g,e.getLast?=some g:=⟨_,mN B⟩
  let⟨N,P,Q⟩:=U g l
  rw[l]
  simp only[]
  have W:e=e.dropLast++[g]:=by
   rw[mN B]at l;simp at l;rw[<-l];exact(iG B).symm
  have D:Cl u n m2 q bP (SB d p b bB t (j.cut 0 e.length 6)) bB t (j.cut 0 e.length 6) b.bB b.heap (e.dropLast++[g]):=
   ⟨a.cG,a.kO,a.new,a.box,a.Rr,a.bB,a.heap,by rw[<-W];exact a.aj⟩
  let⟨r',I,h',aa,T⟩:=D.aj.iP
  have R:e.dropLast.length<=100000:=bN
  refine(sT (a:=b) ⟨D,T⟩ R N P Q w).mono ?_
  rintro _ m3 ⟨K,t3⟩
  exact⟨t3.gV o,n,bB,t,_,K.eQ,(t1.trans t2).trans t3⟩
end
end
section
variable{b:cp}{a:Instr}
variable{B:Int}
def CM.HE{s:St}{d:List be}{f:be}(C:CM B b s d f a){ba:List Int}(j:ba=dK f.av f.ba (dF b a))(i:∀o∈ba,0<=o):
 fQ s.heap (λc=>eA d c+cN f.av ba c+eK ((dF b a).map (aO f.av)) c)/\∀c,0<=eA d c+cN f.av ba c:=by
 have e:=wO (av:=f.av) (dF b a) f.ba C.Ry C.Ma.1
 rw[<-j]at e
 refine⟨C.ok.heap.congr λc=>?_,λc=>?_⟩
 .rw[C.fr,fF,j7,e];omega
 .have:=EY (c:=d) (λg h=>C.ok.aj g (by rw[C.fr];exact bu _ h)) c
  have:=qI (av:=f.av) i c
  omega
def P7{a:List bo}{t mK:Int}(h:mK∈bY a t):1<=t/\t<=a.length/\(wQ (bY a t) mK:Int)=mK -fc a (t.toNat -1)/\(fc a (t.toNat -1):Int)<=mK:=by
 unfold bY at h⊢;by_cases b:1<=t/\t<=a.length
 .rw[ak b]at h⊢;let⟨d,hd⟩:=cg a (t.toNat -1);rw[hd]at h⊢;simp only[lF,pE]at h⊢;let⟨i,c,e⟩:=List.mem_map.1 h;rw[List.mem_range]at c;have f:wQ ((List.range d.cons.length).map λi=>((fc a (t.toNat -1)+i:Nat):Int)) mK=i:=by
   unfold wQ;rw[List.findIdx_eq (by simpa using c)];refine⟨by simp[<-e],λj g=>?_⟩;simp;omega
  rw[f];exact⟨b.1,b.2,V,V⟩
 .rw[ae b]at h;simp at h
def Of{k d e:Int}(l:gY d)(o:gY e)(m:E):LI cq 215 [vi k,vi d,vi e] m (vi (T0 k d e)):=by
 have i:∀n:Int,-2000000<=n/\n<=2000000->LI cq 244 [vi (cQ n)] m (vi (JZ n)):=λn q=>by
  apply Hl;rw[aQ V V];refine⟨?_,J.aF _⟩;unfold JZ;congr 1;repeat' split
  all_goals omega
 unfold gY at l o;have p: -2000000<=d*e/\d*e<=2000000:=by
  have a:(d*e).natAbs<=999*999:=by rw[Int.natAbs_mul];exact Ur V V
  omega
 apply Jn;unfold T0;refine⟨λa=>?_,λa=>⟨λb=>?_,λb=>⟨λc=>?_,λc=>⟨λf=>⟨λh=>?_,λh=>?_⟩,λf=>?_⟩⟩⟩⟩
 .simp at a;rw[ak a];exact(i _ V).then λj g=>⟨_,rfl,rfl,g⟩
 .simp at a b;rw[ae a,ak b];exact(i _ V).then λj g=>⟨_,rfl,rfl,g⟩
 .simp at a b c;rw[ae a,ae b,ak c];exact(i _ p).then λj g=>⟨_,rfl,rfl,g⟩
 .simp at a b c f h;rw[ae a,ae b,ae c,ak ⟨f,h⟩];exact⟨rfl,J.aF _⟩
 .simp at a b c f h;rw[ae a,ae b,ae c,ae V];exact⟨rfl,J.aF _⟩
 .simp at a b c f;rw[ae a,ae b,ae c,ae V];exact⟨rfl,J.aF _⟩
section
variable{q:E}{j:Nat->Nat}{m:E}{t:Nat}{d p bB n k:O}{c:St}{g:List be}{f:be}{r o h:O}{u:List (List Ce)}
def Jm(C:CM B b c g f a){ba:List Int}(aA:ba=dK f.av f.ba (dF b a))(hM:uh b c f a ba)
 (ab:ST q j m t bP (SB d p c bB n k) bB n k c.bB c.heap g {f with ba:=ba} r o h u)(aU:eX q d p b){av a1:O}(ha:ap q av a.args)(hj:ap q a1 a.di)(bp:c.heap.length<=900000000)(bC:c.bB.length<=900000000):
 aN cq 171 [vp t 0,fv f r o h,xv a av a1] m λ_ S=>xy q j m t d p (jI b c g f a ba) S:=by
 apply sS (t,0)
 simp -zeta only[aE,aD]
 intro m1 A
 have bk:J m A:=((J.aF m).aP _).aP _
 have s1:m1.size=m.size+1:=by simp[m1]
 have s2:A.size=m.size+2:=by simp[A,s1]
 have F:=Nr.Jw ab.eQ.new s1 s2
 have W:cz A m1.size dN [.i a.op,.i a.dst,.i a.bK,.i a.bW,.s av,.s a1]:=cz.push m1 _ _
 have kF:cz A m.size eF [.i f.dV,.i f.pc,.i f.dst,.s r,.s o,.s h]:=(cz.push m _ _).ext (J.push m1 _)
 let⟨y,t2⟩:=ab.ext bk
 clear_value A
 have bA:ba.length=f.ba.length:=by rw[aA];exact qR _ _ _
 have bq:=C.Ma
 have G:=C.QX
 have hd:=C.dst
 have bh:=C.F.pc
 obtain⟨pq,_,bi,hP,bn,hI⟩:=C.I
 rw[bi]at bh
 have bD:=hP.len
 have br:=C.ok.eS.fu
 have ar:0<=f.pc/\f.pc<=1000000:=V
 have a5:=C.ok.depth
 have bm:=C.ok.bL
 have bt:=C.ok.eD
 rw[C.fr]at a5
 have bo:g.length<=1000:=by simp at a5;omega
 have aV:f.av.length=ba.length/\f.bA.length=ba.length/\ba.length<=1000000:=V
 have bF:r.len=f.av.length:=by have:=ab.iP.av.len;simp at this;omega
 have bw:o.len=ba.length:=by have:=ab.iP.ba.len;simp at this;omega
 have bl:=ha.len
 have e4:cQ (f.pc+1)=f.pc+1:=aQ V V
 have aa:1<=a.args.length->0<=aO a.args 0/\aO a.args 0<f.av.length:=λL=>C.arg _ (iL V V)
 have N:∀{S},J q S->1<=a.args.length->af S av.az (av.off+Int.toNat (0:Int)*1)=some (vi (aO a.args 0)):=λhx L=>(ha.ext hx).Gz V V
 have U:∀{j m bx bB n k lo lh o h u own'},ST q j m t bP bx bB n k lo lh g {f with ba:=own'} r o h u->∀{aC:Int},0<=aC->aC<f.av.length->af m r.az (r.off+Int.toNat aC*1)=some (vi (aO f.av aC)):=λab aC h0 L=>(ab.KJ (by simp only[];omega)).Gz h0 L
 have a4:=C.HE aA hM.nn
 have bf:∀{j m n lh bx},ST q j m t bP bx bB n k c.bB lh g {f with ba:=ba} r o h u->lW m k (g++[{f with ba:=ba}]):=λab=>ab.eQ.aj.IQ bN (λah H=>by
  rcases List.mem_append.1 H with H|H
  .have Z:=C.ok.aj ah (by rw[C.fr];exact bu _ H);obtain⟨pg,_,aG,aw,_⟩:=Z.Ko C.ok.eS;have L:=Z.lr;have P:=Z.lo;have h3:=Z.lh;rw[aG]at L P h3;have:=aw.av;have:=C.ok.eS.fu;omega
  .simp at H;subst H;simp only[];omega)
 have a7:∀r',r'∈a.args->aO f.av r'<1000->gY (aO f.av r'):=λr' bj bs=>by
  have az:=C.arg r' bj;rcases C.F.Sc _ (iL az.1 az.2)with Q|Q
  .exact Q
  .omega
 have a2:∀{ac:E}(hx:J A ac)(Y:Int)(s':St),s'={c with aj:=g++[be.put {f with ba:=ba,pc:=f.pc+1} a.dst Y 0]}->
  aN cq 214 [vp t 0,vi a.dst,vi Y] ac λ_ S=>eG [m1.size,m.size] ac S/\xy q j m t d p s' S:=λhx Y s' v=>by
  let⟨SM,tM⟩:=y.ext hx
  refine(Ad SM V hd.1 (by simp only[];omega) (by simp only[];omega) Y ar).mono ?_
  rintro _ S ⟨S',t'⟩
  exact⟨t'.gV (F.to tM),j,bB,n,k,by rw[v];exact S'.eQ,(t2.trans tM).trans t'⟩
 have aT:∀{ac:E}(hx:J A ac)(aX:Int)(s':St),s'={c with aj:=g++[{f with ba:=ba,pc:=aX}]}->
  aN cq 221 [vp t 0,vi aX] ac λ_ S=>eG [m1.size,m.size] ac S/\xy q j m t d p s' S:=λhx aX s' v=>by
  let⟨SM,tM⟩:=y.ext hx
  refine(jK SM V aX).mono ?_
  rintro _ S ⟨S',t'⟩
  exact⟨t'.gV (F.to tM),j,bB,n,k,by rw[v];exact S'.eQ,(t2.trans tM).trans t'⟩
 refine⟨λv=>?_,λe0=>?_⟩
 .simp at v
  exact a2 (J.aF _) _ _ (by unfold jI;simp only[];rw[ak v])
 simp only[ao]at e0
 refine⟨λv=>?_,λe1=>?_⟩
 .simp only[cB,aM]at v
  have P:=G.2.2.1 V
  have w:=aa V
  have I:0<=aO a.args 1/\aO a.args 1<f.av.length:=C.arg _ (iL V V)
  have K:=hM.pA V
  refine⟨V,V,_,N y.eQ.cG V,w.1,V,_,U y w.1 w.2,V,V,_,(ha.ext y.eQ.cG).Gz (i:=1) V V,I.1,V,_,U y I.1 I.2,?_⟩
  refine(Of (a7 _ (iL V V) (K _ (iL V V))) (a7 _ (iL V V) (K _ (iL V V))) A).mono ?_
  rintro _ D ⟨rfl,z⟩
  refine⟨z.da (λT hb=>(F T hb).1),_,rfl,z.dA (W.cJ 1),a2 z _ _ ?_⟩
  unfold jI;simp only[];rw[ae e0,ak v]
 simp only[bU,ao]at e1
 have an:¬(a.op=1\/a.op=2\/a.op=3\/a.op=4):=V
 refine⟨λv=>?_,λe5=>?_⟩
 .simp only[aM]at v
  have P:=G.2.1 V
  have w:=aa V
  have ag:(O.len bB)=c.bB.length:=by have:=y.eQ.bB.len;simp at this;omega
  refine⟨bB,y.eQ.box.cJ 6,V,V,_,N y.eQ.cG V,w.1,V,_,U y w.1 w.2,?_⟩
  intro D
  have z:J A D:=(J.aF A).aP _
  have k8:gP D A.size 0 [.i (aO f.av (aO a.args 0))]:=(cz.push A _ _).jC
  let⟨K,t3⟩:=y.ext z
  have B3:=F.to t3
  clear_value D
  refine⟨z.dA (y.eQ.box.cJ 6),iI.append (zs:=[.i 0]) (x:=.mk A.size 0 1 1) (c:=[.i (aO f.av (aO a.args 0))]) K.eQ.bB K.eQ.new rfl k8 (by simp only[O.dS];omega) λau aF m4 q1 q2=>?_⟩
  have R:iI au m4 ay 1 2 aF ((c.bB++[aO f.av (aO a.args 0)]).map Ce.i):=by simpa using q1
  let⟨M,I⟩:=K.KP q2 R
  have B4:=B3.to I
  refine⟨I.gV B3,M.eQ.xl (i:=6) aH,?_⟩
  intro m5
  let⟨S5,X⟩:=M.pb 6 [.s aF]
  refine⟨X.gV B4,V,V,_,N S5.eQ.cG V,w.1,V,_,U S5 w.1 w.2,?_⟩
  refine(Ad (a:={c with bB:=c.bB++[aO f.av (aO a.args 0)]}) S5 V hd.1 (by simp only[];omega) (by simp only[];omega) _ ar).mono ?_
  rintro _ m6 ⟨S6,t6⟩
  refine⟨t6.gV (B4.to X),au,aF,n,k,?_,(((t2.trans t3).trans I).trans X).trans t6⟩
  unfold jI;simp only[];rw[ae e0,ae an,ak v];exact S6.eQ
 simp only[ao]at e5
 have a8:∀Y∈f.bA,Y≠0->1000<=Y/\ix Y<c.heap.length:=λY hw aW=>by
  obtain⟨L,dd,bd,_⟩:=C.Qu Y hw aW;exact⟨L,ax bd⟩
 refine⟨λv=>?_,λe6=>?_⟩
 .simp only[aM]at v
  have h6:=G.2.2.2.2.1 v
  refine(tW y ha C.arg G.1 a.bK aV (by simp only[];omega) ⟨h6.1,h6.2.1⟩ ar V V a8).mono ?_
  rintro _ D ⟨am,al,ai,ag,L3,t3⟩
  refine⟨t3.gV F,am,al,ai,ag,?_,t2.trans t3⟩
  have:jI b c g f a ba=vO c g {f with ba:=ba} a a.bK:=by
   unfold jI vO;simp only[];rw[ae e0,ae an,ae e5,ak v];rfl
  rw[this];exact L3
 simp only[ao]at e6
 refine⟨λv=>?_,λaS=>?_⟩
 .simp only[aM]at v
  have aK:=G.2.2.2.2.2.1 v
  have az:a.bW=0:=by rcases hI.bW with Q|Q;exact Q;omega
  have aL:(eI b.bt).length<=12:=by
   have:=sD C.ok.eS.pB.types b.bt.length;rw[nJ _ _ (ad _)]at this;exact this
  refine⟨d,y.eQ.box.cJ 0,(pY (aU.ext y.eQ.cG).bt C.ok.eS.pB.types).mono ?_⟩
  rintro _ D ⟨rfl,z⟩
  let⟨K,t3⟩:=y.ext z
  have e3:cQ (((eI b.bt).length:Int)+a.bK)=gA b+a.bK:=aQ V V
  refine⟨t3.gV F,_,rfl,z.dA (W.cJ 2),z.dA (W.cJ 0),z.dA (W.cJ 1),z.dA (W.cJ 2),z.dA (W.cJ 3),z.dA (W.cJ 4),z.dA (W.cJ 5),z.dA (kF.cJ 0),z.dA (kF.cJ 1),z.dA (kF.cJ 2),z.dA (kF.cJ 3),z.dA (kF.cJ 4),z.dA (kF.cJ 5),?_⟩
  rw[e3]
  refine(tW K ha C.arg G.1 (gA b+a.bK) aV (by simp only[];omega) (by rw[az];omega) ar V V a8).mono ?_
  rintro _ m4 ⟨au,aJ,aB,aI,R,I⟩
  refine⟨I.gV (F.to t3),au,aJ,aB,aI,?_,(t2.trans t3).trans I⟩
  have:jI b c g f a ba=vO c g {f with ba:=ba} a (gA b+a.bK):=by
   unfold jI vO;simp only[];rw[ae e0,ae an,ae e5,ae e6,ak v,ae (λhh=>hh.1 az)];rfl
  rw[this];exact R
 simp only[ao]at aS
 refine⟨λv=>?_,λe9=>?_⟩
 .simp only[cB,aM]at v
  have R:=hI.op
  unfold kM at R
  refine(Mi y aU C.ok.eS ha C.arg G.1 V (λe'=>?_) (λe'=>⟨G.2.2.1 V,hM.apply e'⟩) aV (λah H=>?_) ar V V V V C.ok.heap).mono ?_
  .rw[ae V,ae V,ae V,ae V,ak e']at R;exact R
  .have Z:=C.ok.aj ah (by rw[C.fr];exact bu _ H)
   obtain⟨pg,_,aG,aw,_⟩:=Z.Ko C.ok.eS
   have L:=Z.lr
   have P:=Z.lo
   have h3:=Z.lh
   rw[aG]at L P h3
   have:=aw.av
   have:=C.ok.eS.fu
   omega
  rintro _ D ⟨am,al,ai,ag,L3,t3⟩
  refine⟨t3.gV F,am,al,ai,ag,?_,t2.trans t3⟩
  have:jI b c g f a ba=qt b c g {f with ba:=ba} a:=by
   unfold jI qt;simp only[];rw[ae e0,ae an,ae e5,ae e6,ae aS,ae V,ae V,ae V,ae V,ae V,ae V,ae V,ae V];by_cases e9:a.op=9
   .rw[ak e9,ak e9];rfl
   .rw[ae e9,ae e9];by_cases Z:a.op=24
    .rw[ak Z,ak Z];rfl
    .rw[ae Z,ae Z,ak V]
  rw[this];exact L3
 simp only[bU,ao]at e9
 refine⟨λv=>?_,λa_=>?_⟩
 .simp only[aM]at v
  have P:=G.2.1 V
  have w:=aa V
  refine⟨V,V,_,N y.eQ.cG V,w.1,V,_,U y w.1 w.2,(Mm y V (aO f.av (aO a.args 0)) (λah H=>?_)).mono ?_⟩
  .have aW:g≠[]:=λv=>by rw[v]at H;simp at H
   have Z:g=g.dropLast++[ah]:=by
    rw[mN aW]at H;simp at H;rw[<-H];exact(iG aW).symm
   have aG:g.length=g.dropLast.length+1:=by
    have:=th List.length Z;simpa using this
   let⟨q1,q2,q3⟩:=C.ok.chain g.dropLast.length ah f (by rw[C.fr,Z];simp) (by rw[C.fr,<-aG];simp)
   have aw:=C.ok.aj ah (by rw[C.fr,Z];simp)
   have:=aw.lr
   have:=aw.lo
   exact⟨q1,by show f.dst<_;omega,by show f.dst<_;omega⟩
  rintro _ D ⟨am,al,ai,ag,L3,t3⟩
  refine⟨t3.gV F,am,al,ai,ag,?_,t2.trans t3⟩
  unfold jI
  simp only[]
  rw[ae e0,ae an,ae e5,ae e6,ae aS,ae V,ae V,ae V,ae V,ae V,ae V,ae V,ae V,ae V,ae V,ae V]
  exact L3
 simp only[ao]at a_
 have bg:∀(ah:St),(if a.op=0 then ah else ah)=ah:=λah=>by split<;>rfl
 have N4:jI b c g f a ba=(
  if a.op=14 then{c with heap:=oO c.heap (aO f.av (aO a.args 0)),aj:=g++[{f with ba:=iF ba (aO a.args 0) (aO ba (aO a.args 0)+1),pc:=f.pc+1}]}
  else if a.op=15 then{c with heap:=ru (je c.heap [aO f.av (aO a.args 0)]),aj:=g++[{f with ba:=ba,pc:=f.pc+1}]}
  else if a.op=16\/a.op=17 then KA c g {f with ba:=ba} a
  else if a.op=18 then{c with aj:=g++[be.put {f with ba:=ba,pc:=f.pc+1} a.dst (aO f.av (aO a.args 0)) (jw (aO f.av (aO a.args 0)))]}
  else if a.op=19 then{c with aj:=g++[be.put {f with ba:=ba,pc:=f.pc+1} a.dst (aO (aZ c.heap (aO f.av (aO a.args 0))).aL a.bK) 0]}
  else if a.op=20 then{c with aj:=g++[{f with ba:=ba,pc:=if aO f.av (aO a.args 0)=0 then a.bK else f.pc+1}]}
  else if a.op=21 then{c with aj:=g++[{f with ba:=ba,pc:=aO a.di (wQ (bY b.bt a.bK) (aZ c.heap (aO f.av (aO a.args 0))).mK)}]}
  else{c with aj:=g++[{f with ba:=ba,pc:=a.bK}]}):=by
  unfold jI
  simp only[]
  rw[ae e0,ae an,ae e5,ae e6,ae aS]
  by_cases aG:a.op=14
  .rw[ak aG,ak aG]
  rw[ae aG,ae aG]
  by_cases aI:a.op=15
  .rw[ak aI,ak aI]
  rw[ae aI,ae aI]
  by_cases aJ:a.op=16\/a.op=17
  .rw[ak aJ,ak aJ];rfl
  rw[ae aJ,ae aJ]
  by_cases aK:a.op=18
  .rw[ak aK,ak aK]
  rw[ae aK,ae aK]
  by_cases aL:a.op=19
  .rw[ak aL,ak aL]
  rw[ae aL,ae aL]
  by_cases aP:a.op=20
  .rw[ak aP,ak aP]
  rw[ae aP,ae aP]
  by_cases aR:a.op=21
  .rw[ak aR,ak aR]
  rw[ae aR,ae aR]
  have:=C.opc
  rw[ak V]
 rw[N4]
 clear N4 bg
 refine⟨λv=>?_,λa3=>?_⟩
 .simp only[aM]at v
  rw[ak v]
  have P:=G.2.1 V
  have w:=aa V
  let⟨Z,bv⟩:=hM.Zj v
  let⟨bc,bE⟩:=cw Z
  refine⟨V,V,_,N y.eQ.cG V,w.1,V,_,U y w.1 w.2,?_⟩
  intro D
  have z:J A D:=(J.aF A).aP _
  have ow:fZ A D ay 1 (.mk A.size 0 1 1) ([aO f.av (aO a.args 0)].map Ce.i):=fZ.new (J.aF A) ay 1 _ 1 aH
  let⟨K,t3⟩:=y.ext z
  have B3:=F.to t3
  have hz:j A.size=0:=y.eQ.new _ (ad _)
  clear_value D
  refine(Cx K.eQ (ap.fP ow aH) (λ_=>hz) (λY hw=>?_) (λa9 hc=>?_) aH V).mono ?_
  .simp at hw;subst hw;exact⟨Z.1,ax bc⟩
  .have:=C.ok.heap.cell a9 hc;have Q:=this.lo;have h6:=this.hi;omega
  rintro _ m4 ⟨aY,c4⟩
  let⟨M,I⟩:=K.jJ (c4.mono λah hk=>Or.inl hk) aY
  have B4:=B3.to I
  have aw:aO a.args 0<ba.length:=V
  have bz:0<=aO ba (aO a.args 0)/\aO ba (aO a.args 0)<=999999:=by
   refine⟨hM.nn _ (iL (l:=ba) w.1 aw),?_⟩;have H:=pJ (l:=ba) w.1 aw;rw[aA]at H;let⟨qq,a0,a6⟩:=sY _ _ _ _ H;have:=(C.W3 qq (aq a0)).2;rw[<-aA]at a6;omega
  have bb:cQ (aO ba (aO a.args 0)+1)=aO ba (aO a.args 0)+1:=aQ V V
  refine⟨I.gV B3,V,V,_,N M.eQ.cG V,V,V,_,N M.eQ.cG V,w.1,V,aO ba (aO a.args 0),(M.TY (by simp only[];omega)).Gz w.1 aw,w.1,V,M.iP.ba.Ss w.1 aw,?_⟩
  rw[bb,e4]
  intro m5
  let⟨S5,X⟩:=M.y8 w.1 aw (aO ba (aO a.args 0)+1)
  refine⟨X.gV B4,(jK (a:={c with heap:=kU c.heap [aO f.av (aO a.args 0)]}) S5 V (f.pc+1)).mono ?_⟩
  rintro _ m6 ⟨S6,t6⟩
  exact⟨t6.gV (B4.to X),j,bB,n,k,S6.eQ,(((t2.trans t3).trans I).trans X).trans t6⟩
 simp only[ao]at a3
 rw[ae a3]
 have a9:a.args.length=1->a.args=[aO a.args 0]:=λL=>by
  cases hx:a.args with
  |nil=>rw[hx]at L;simp at L
  |cons aw H=>cases H with
   |nil=>rfl
   |cons bb H=>rw[hx]at L;simp at L
 refine⟨λv=>?_,λaw=>?_⟩
 .simp only[aM]at v
  rw[ak v]
  have P:=G.2.1 V
  have w:=aa V
  have ht:dF b a=[aO a.args 0]:=by unfold dF;rw[ak V];exact a9 V
  have H:=a4.1
  rw[ht]at H
  refine⟨n,y.eQ.box.cJ 7,V,V,_,N y.eQ.cG V,w.1,V,_,U y w.1 w.2,?_⟩
  intro D
  have z:J A D:=(J.aF A).aP _
  have ow:fZ A D ay 1 (.mk A.size 0 1 1) ([aO f.av (aO a.args 0)].map Ce.i):=fZ.new (J.aF A) ay 1 _ 1 aH
  let⟨K,t3⟩:=y.ext z
  have B3:=F.to t3
  clear_value D
  refine⟨z.dA (y.eQ.box.cJ 7),(Fs K.eQ.heap K.eQ.new (ap.fP ow aH) (e:=λT=>eA g T+cN f.av ba T) (H.congr λT=>rfl) a4.2 V).mono ?_⟩
  rintro _ m4 ⟨au,aB,rfl,aY,c4⟩
  let⟨M,I⟩:=K.jJ c4 aY
  have B4:=B3.to I
  refine⟨I.gV B3,aB,rfl,M.eQ.xl (i:=7) aH,?_⟩
  intro m5
  let⟨S5,X⟩:=M.pb 7 [.s aB]
  rw[e4]
  refine⟨X.gV B4,(jK (a:={c with heap:=ru (je c.heap [aO f.av (aO a.args 0)])}) S5 V (f.pc+1)).mono ?_⟩
  rintro _ m6 ⟨S6,t6⟩
  exact⟨t6.gV (B4.to X),au,bB,aB,k,S6.eQ,(((t2.trans t3).trans I).trans X).trans t6⟩
 simp only[ao]at aw
 rw[ae aw]
 refine⟨λv=>?_,λau=>?_⟩
 .simp only[cB,aM]at v
  rw[ak v]
  refine(HJ y ha C.arg ⟨G.2.2.2.1 v,G.1⟩ v aV ar V V (λaF H=>?_) (hM.TV v).1 C.ok.heap).mono ?_
  .refine⟨hM.nn aF H,?_⟩
   let⟨ah,hk⟩:=List.mem_iff_getElem?.1 H
   simp only[]at hk
   rw[aA]at hk
   let⟨qq,a0,a6⟩:=sY _ _ _ _ hk
   have:=(C.W3 qq (aq a0)).2
   omega
  rintro _ D ⟨am,al,ai,ag,L3,t3⟩
  exact⟨t3.gV F,am,al,ai,ag,L3,t2.trans t3⟩
 simp only[bU,ao]at au
 rw[ae V]
 refine⟨λv=>?_,λX=>?_⟩
 .simp only[aM]at v
  rw[ak v]
  have P:=G.2.1 V
  have w:=aa V
  refine⟨V,V,_,N y.eQ.cG V,w.1,V,_,U y w.1 w.2,(sT y V hd.1 (by simp only[];omega) (by simp only[];omega) _).mono ?_⟩
  rintro _ D ⟨K,t3⟩
  rw[e4]
  refine⟨t3.gV F,(jK K V (f.pc+1)).mono ?_⟩
  rintro _ m4 ⟨M,I⟩
  exact⟨I.gV (F.to t3),j,bB,n,k,M.eQ,(t2.trans t3).trans I⟩
 simp only[ao]at X
 rw[ae X]
 have ai:=y.rv aU V V (bf y)
 refine⟨λv=>?_,λK=>?_⟩
 .simp only[aM]at v
  rw[ak v]
  have P:=G.2.1 V
  have w:=aa V
  let⟨Z,H⟩:=hM.load v
  have R:=hI.op
  unfold kM at R
  rw[ae V,ae V,ae V,ae V,ae V,ae V,ae V,ak v]at R
  refine⟨V,V,_,N y.eQ.cG V,w.1,V,_,U y w.1 w.2,(fC ai Z.1 (cw Z).1).mono ?_⟩
  rintro _ D ⟨fl,rfl,I,z⟩
  have M:=I.len
  refine⟨z.da (λT hb=>(F T hb).1),_,_,_,rfl,z.dA (W.cJ 2),z.dA (W.cJ 1),R.2.1,V,_,I.Gz R.2.1 H,a2 z _ _ rfl⟩
 simp only[ao]at K
 rw[ae K]
 refine⟨λv=>?_,λM=>?_⟩
 .simp only[aM]at v
  rw[ak v]
  have P:=G.2.1 V
  have w:=aa V
  refine⟨V,V,_,N y.eQ.cG V,w.1,V,_,U y w.1 w.2,λQ=>?_,λQ=>?_⟩
  .simp at Q;exact aT (J.aF _) _ _ (by rw[ak Q])
  .simp at Q;rw[e4];exact aT (J.aF _) _ _ (by rw[ae Q])
 simp only[ao]at M
 rw[ae M]
 refine⟨λv=>?_,λag=>?_⟩
 .simp only[aM]at v
  rw[ak v]
  have P:=G.2.1 V
  have w:=aa V
  let⟨Z,al⟩:=hM.Ok v
  let⟨bc,bv,aY,aF⟩:=P7 al
  have R:=hI.op
  unfold kM at R
  rw[ae V,ae V,ae V,ae V,ae V,ae V,ae V,ae V,ae V,ae V,ak v]at R
  have a0:wQ (bY b.bt a.bK) (aZ c.heap (aO f.av (aO a.args 0))).mK<(bY b.bt a.bK).length:=PU ⟨_,al,aH⟩
  have bb:=hj.len
  have a6:=R.2.2.1
  have aB:=(C.ok.heap.cell _ (aq (cw Z).1)).pG (cw Z).2
  have bz:=C.ok.eS.pB.types.len
  refine⟨V,V,_,N y.eQ.cG V,w.1,V,_,U y w.1 w.2,(fC ai Z.1 (cw Z).1).mono ?_⟩
  rintro _ D ⟨fl,rfl,I,z⟩
  have e7:cQ (a.bK -1)=((a.bK.toNat -1:Nat):Int):=by rw[aQ V V];omega
  rw[e7]
  have am:=y.eQ.cG.trans z
  refine⟨z.da (λT hb=>(F T hb).1),_,_,_,rfl,d,z.af (y.eQ.box.cJ 0),(jN (aU.ext am).bt C.ok.eS.pB.types V).mono ?_⟩
  rintro _ m4 ⟨rfl,H⟩
  have e8:cQ ((aZ c.heap (aO f.av (aO a.args 0))).mK -((fc b.bt (a.bK.toNat -1):Nat):Int))=((wQ (bY b.bt a.bK) (aZ c.heap (aO f.av (aO a.args 0))).mK:Nat):Int):=by
   rw[aQ V V];omega
  refine⟨H.da (λT hb=>z.lt (F T hb).1),_,rfl,H.dA ((W.ext z).cJ 5),?_⟩
  rw[e8]
  refine⟨V,V,_,(hj.ext (am.trans H)).Gz V V,aT (z.trans H) _ _ rfl⟩
 simp only[ao]at ag
 rw[ae ag]
 refine⟨λv=>aT (J.aF _) _ _ rfl,λw=>?_⟩
 simp only[ao]at w
 have:=C.opc
 omega
end
end
section
variable{B:Int}
def T5(l a:List Int)(h:a.length=l.length):iO (l.map Ce.i) 0 (a.map Ce.i)=a.map Ce.i:=by
 have:=AQ [] (a.map Ce.i) (l.map Ce.i) bN;simp only[dW,cD]at this;rw[this,tf bN,dD]
section
variable{p:E}{b:Nat->Nat}{m:E}{q e:Nat}{i:List Ce}{bB j g:O}{l:List Int}{k:List bS}{c:List be}{f:be}{r a h:O}{d:List (List Ce)}
def ST.UU(S:ST p b m q e i bB j g l k c f r a h d){ba:List Int}(t:ba.length=f.ba.length)(w:0<ba.length):fg m a.az a.off (ba.map Ce.i).length/\ST p b (ai m a.az a.off (ba.map Ce.i)) q e i bB j g l k c {f with ba:=ba} r a h d/\To b m b (ai m a.az a.off (ba.map Ce.i)):=by
 have T:=S.iP;have B:a.cap≠0:=λe=>by have:=(T.ba.Ew e).1;simp at this;rw[this]at t;simp at t;rw[t]at w;simp at w
 have A:=T.ba.az B;have s:dL (λu=>u=11+3*c.length) b m b (ai m a.az a.off (ba.map Ce.i)):=dL.ai S.eQ.new A.2 _ _;have x:=T.ba.set (o:=0) (new:=ba.map Ce.i) bN;rw[T5 _ _ t,jm]at x;have v:sk b (ai m a.az a.off (ba.map Ce.i)) g c {f with ba:=ba} r a h d:=⟨T.sq.fI s V,T.len,T.size,T.wU s λu _ y=>V,T.av.fI s V,x,T.bA.fI s V⟩;let⟨y,z⟩:=S.eQ.lQ (s.mono λu C=>V) v.tj;refine⟨?_,⟨y,v⟩,z⟩;have:=T.ba.wr (o:=0) (n:=(ba.map Ce.i).length) bN;rw[jm]at this;exact this
end
section
variable{h:E}{e:Nat->Nat}{b:E}{g:Nat}{d p bB c a:O}{s:St}
def Og{k:cp}(N:Cl h e b g bP (SB d p s bB c a) bB c a s.bB s.heap s.aj)(K:eX h d p k)(y:fB B k s)(aO:∀Q∈s.aj,∀A∈Q.av,A<=9223372036854775807)(aR:s.heap.length<=900000000)(aW:s.bB.length<=900000000):
 aN cq 124 [vp g 0] b λ_ m'=>xy h e b g d p (oD k s) m':=by
 apply vy (g,0)
 simp -zeta only[aE,aD]
 refine⟨s.cW,N.box.cJ 2,λU=>?_,λU=>?_⟩
 .simp at U
  rw[wN U]
  exact⟨e,bB,c,a,N,dL.aF _ N.new⟩
 have ac:s.cW=3:=by simpa using U
 let⟨n,j,u⟩:=y.split ac
 have aT:s.aj.getLast?=some j:=by rw[u];simp
 have aL:s.aj.dropLast=n:=by rw[u];simp
 have C:CM B k s n j (fJ k j):=⟨y,ac,u,rfl,aO⟩
 have a1:oD k s=(open Classical in if vX (fJ k j).op/\s.bL=s.eD then{s with cW:=1}else if uh k s j (fJ k j) (dK j.av j.ba (dF k (fJ k j)))then jI k s n j (fJ k j) (dK j.av j.ba (dF k (fJ k j)))else{s with cW:=2}):=by
  unfold oD;rw[ae (by simpa using ac),aT,aL]
 rw[a1]
 generalize fJ k j=x at*
 have L':Cl h e b g bP (SB d p s bB c a) bB c a s.bB s.heap (n++[j]):=by rw[<-u];exact N
 let⟨W,M,T,aB,aa⟩:=L'.aj.iP
 have S:ST h e b g bP (SB d p s bB c a) bB c a s.bB s.heap n j W M T aB:=⟨L',aa⟩
 have a9:=aa.ED
 have aq:=y.depth
 have a8:=y.bL
 have ba:=y.eD
 rw[u]at aq
 have a_:n.length<=1000:=by simp at aq;omega
 have e1:cQ ((a.len:Int) -1)=(n.length:Int):=by rw[aQ V V];omega
 have e2:Int.toNat (n.length:Int)=n.length:=V
 have R:af b g 8=some (O.v a):=S.eQ.box.cJ 8
 let⟨g0,g1,g2,g3,g4,g5⟩:=aa.jC
 refine⟨a,R,a,R,?_⟩
 rw[e1,e2]
 refine⟨V,V,_,g0,_,g1,_,g2,W,g3,M,g4,T,g5,?_⟩
 intro m1
 have v:J b m1:=(J.aF b).aP _
 refine⟨v.dA g0,v.dA g1,v.dA g2,v.dA g3,v.dA g4,v.dA g5,v.dA R,v.dA R,?_⟩
 intro t
 have a2:J b t:=v.ai (ad _) _ _
 have s2:t.size=b.size+1:=by simp[t,m1,aA]
 have kF:cz t b.size eF [.i j.dV,.i j.pc,.i j.dst,.s W,.s M,.s T]:=cz.ai (m:=m1) (o:=0) (r:=[.i j.dV,.i j.pc,.i j.dst,.s W,.s M,.s T]) (cz.push b _ _)
 let⟨P,t2⟩:=S.ext a2
 clear_value t
 let⟨bh,hq,aZ,hP,aK,hI⟩:=C.I
 let⟨pa,pl,pc,bb,bd,au,k0,k1,k2,k3,k4⟩:=K.cv.aO hq
 let⟨az,a3,ha,hj,i0,i1,i2,i3,i4,i5⟩:=au.aO aK
 have be:=K.cv.len
 have bc:=au.len
 have hF:=C.F
 have aY:=hF.dV
 have ar:=hF.pc
 rw[aZ]at ar
 have l:=P.eQ.cG
 refine⟨p,P.eQ.box.cJ 1,aY.1,V,pc,l.af k4,ar.1,V,_,l.af i0,_,l.af i1,_,l.af i2,_,l.af i3,az,l.af i4,a3,l.af i5,?_⟩
 intro m3
 have q:J t m3:=(J.aF t).aP _
 refine⟨q.dA (l.af i0),q.dA (l.af i1),q.dA (l.af i2),q.dA (l.af i3),q.dA (l.af i4),q.dA (l.af i5),q.dA (kF.cJ 1),q.dA (l.af k4),q.dA (kF.cJ 0),q.dA (P.eQ.box.cJ 1),?_⟩
 intro L
 have ah:J t L:=q.ai (ad _) _ _
 have s4:L.size=t.size+1:=by simp[L,m3,aA]
 let⟨S4,t4⟩:=P.ext ah
 have a4:=kF.ext ah
 have B4:Nr e L [t.size,b.size]:=λag I=>by
  simp at I;rcases I with rfl|rfl
  .exact⟨V,S.eQ.new _ V⟩
  .exact⟨V,S.eQ.new _ (ad _)⟩
 clear_value L
 have a7:=t2.trans t4
 refine(Lb _ _).mono ?_
 rintro _ m5 ⟨ag,rfl,I,ai⟩
 let⟨w,t5⟩:=S4.ext ai
 have X:=B4.to t5
 have D:=a4.ext ai
 have av:=a7.trans t5
 have aS:=C.Ma
 have h4:=C.QX
 have ab:(dK j.av j.ba (dF k x)).length=j.ba.length:=qR _ _ _
 refine⟨t5.gV B4,ag,rfl,λaI=>⟨s.bL,w.eQ.box.cJ 4,s.eD,w.eQ.box.cJ 5,λH=>?_,λH=>?_⟩,λaG=>?_⟩
 .simp at H
  refine⟨w.eQ.xl (i:=2) aH,?_⟩
  intro m6
  let⟨G,E⟩:=w.pb 2 [.i 1]
  refine⟨E.gV X,e,bB,c,a,?_,av.trans E⟩
  rw[ak ⟨I.1 aI,H⟩]
  have:=G.eQ
  rw[<-u]at this
  exact this
 all_goals
  have aJ:¬(vX x.op/\s.bL=s.eD):=by
   first
   |exactλz=>by simp at H;exact H z.2
   |exactλz=>fb I aG z.1
  rw[ae aJ]
  have ao:=w.eQ.cG
  refine⟨d,w.eQ.box.cJ 0,p,w.eQ.box.cJ 1,(Ju (K.ext ao) C.call (ha.ext ao) V h4.2.2.2.1).mono ?_⟩
  rintro _ m6 ⟨ts,rfl,ot,z⟩
  let⟨G,E⟩:=w.ext z
  have B6:=X.to E
  have bf:=Si k x
  have it:ap m6 ts (dF k x):=ap.fP ot V
  refine⟨E.gV X,ts,rfl,z.dA (D.cJ 0),z.dA (D.cJ 1),z.dA (D.cJ 2),z.dA (D.cJ 3),z.dA (D.cJ 4),z.dA (D.cJ 5),?_⟩
  refine(HK (b:=j) (G.KJ V) (G.TY V) it C.Ry aS.1 V V (λA F=>oh (C.W3 A F))).mono ?_
  rintro _ m7 ⟨os,rfl,oo,aF⟩
  let⟨A,t7⟩:=G.ext aF
  have B7:=B6.to t7
  have io:ap m7 os (dK j.av j.ba (dF k x)):=ap.fP oo V
  have aP:lW m7 a (n++[j]):=A.eQ.aj.IQ bN (λQ Z=>by
   have F:=y.aj Q (by rw[u];exact Z);obtain⟨pg,_,al,Y,_⟩:=F.Ko y.eS;have q1:=F.lr;have q2:=F.lo;have q3:=F.lh;rw[al]at q1 q2 q3;have:=Y.av;have:=y.eS.fu;omega)
  have am:=A.rv K V V aP
  have a0:({s with aj:=n++[j]}:St)=s:=by rw[<-u]
  rw[a0]at am
  refine⟨t7.gV B6,os,rfl,(Lf am C (A.KJ V) (A.TA V) (ha.ext A.eQ.cG) io ab).mono ?_⟩
  rintro _ m8 ⟨b2,rfl,an,al⟩
  let⟨Q,t8⟩:=A.ext al
  have Y:=B7.to t8
  have aw:=((av.trans E).trans t7).trans t8
  refine⟨t8.gV B7,b2,rfl,λh9=>?_,λh9=>?_⟩
  .rw[ae (nb an h9)]
   refine⟨Q.eQ.xl (i:=2) aH,?_⟩
   intro m9
   let⟨Z,F⟩:=Q.pb 2 [.i 2]
   refine⟨F.gV Y,e,bB,c,a,?_,aw.trans F⟩
   have:=Z.eQ
   rw[<-u]at this
   exact this
  .have hM:=yb an h9
   rw[ak hM]
   have aV:=io.len
   have aU:M.len=j.ba.length:=by have:=Q.iP.ba.len;simp at this;omega
   let⟨w1,Z,F⟩:=Q.UU ab V
   refine⟨(dK j.av j.ba (dF k x)).map Ce.i,by rw[aV,aU,ab];simp[Nat.min_def];omega,(io.ext al).sJ,w1,?_⟩
   intro m9
   have B9:=Y.to F
   refine⟨F.gV Y,(Jm C rfl hM Z K ha hj aR aW).mono ?_⟩
   rintro _ bg aM
   let⟨a6,a5,aX,aC,ay,ax⟩:=aM
   exact⟨ax.gV B9,a6,a5,aX,aC,ay,(aw.trans F).trans ax⟩
end
end
section
variable{a:cp}{s:St}{n:Nat}
variable{B:Int}
structure Sm(n:Nat)(s:St):Prop where
 heap:s.heap.length<=n
 bB:s.bB.length<=n
 yI:∀g∈s.aj,∀w∈g.av,w<=9223372036854775807
def AF:∀(n:Nat)(h:List bS)(g:List Int),IG h+g.length<=n->(je h g).length=h.length
 |n,h,[],_=>by rw[AG]
 |0,h,w::r,b=>by simp at b
 |n+1,h,w::r,b=>by
  simp only[aW]at b;rcases gW (gZ h w)with a|a
  .let⟨e,f⟩:=cw a;by_cases c:(aZ h w).aS=1
   .have d:=mh (d:=jT) e;simp only[ak f,jT]at d;simp at d;rw[AH a c,AF n _ _ (by simp[jT];omega)];simp
   .have d:=mh (d:={aZ h w with aS:=(aZ h w).aS -1}) e;simp only[ak f]at d;rw[ak V]at d;rw[vP a c,AF n _ _ (by simp only[gE];omega)];simp[gE]
  .rw[vQ a,AF n _ _ V]
def PH(h:List bS):(ru h).length<=h.length:=by unfold ru;simp;omega
def KH:∀(a:List Int)(g:List bS),(kU g a).length=g.length
 |[],g=>rfl
 |w::a,g=>by rw[kU,KH a];simp[oO]
def MF(h:List bS)(w:Int):(apart h w).length<=h.length:=by
 unfold apart;split
 .exact bH (PH _) aH
 .rw[KH];simp[gE]
def Na(h:List bS)(a:Nat)(c:bS):(lX h a c).length<=h.length+1:=by
 unfold lX;split<;>simp
def QC{k:List be}{f:be}{x:Instr}(C:CM B a s k f x)(D:Sm n s)(hn:n<=900000000)(ba:List Int)(hM:uh a s f x ba):Sm (n+1) (jI a s k f x ba):=by
 have hh:=D.heap;have ho:=D.bB;have v:=D.yI;rw[C.fr]at v;have hF:=C.F;have Z:=C.QX;have hd:=C.dst;have af:=C.Ma;have t:∀r,aO f.av r<=9223372036854775807:=λr=>by
  rcases aU r.toNat f.av.length with m|m
  .let⟨y,b⟩:=dI m;rw[NF b];exact v f aH y (aq b)
  .rw[aO,jk,bT m];simp
 have wU:∀g∈k,∀w∈g.av,w<=9223372036854775807:=λg p=>v g (by simp[p]);have c:∀{g:be},(∀w∈g.av,w<=9223372036854775807)->∀q∈k++[g],∀w∈q.av,w<=9223372036854775807:=λp q d=>by
  rcases List.mem_append.1 d with d|d
  .exact wU q d
  .simp at d;subst d;exact p
 have e:∀w∈f.av,w<=9223372036854775807:=v f aH;have j:∀(I:Int),I<=9223372036854775807->∀w∈iF f.av x.dst I,w<=9223372036854775807:=λI hv w b=>by
  rcases sF b with rfl|b
  .exact hv
  .exact e w b
 have ab:∀{w},gY w\/gZ s.heap w->w<=9223372036854775807:=λh=>by
  rcases h with h|h
  .have:=h.2;omega
  .have m:=ax (cw h).1;unfold ix at m;omega
 have H:∀(g L:Int)(J:List Int),(∀w∈J,w<=9223372036854775807)->∀w∈(cK a g L J).av,w<=9223372036854775807:=λg L J b w h=>by
  simp only[cK]at h;rcases List.mem_append.1 h with h|h
  .exact b w h
  .rw[pU h];omega
 have Jw:∀{g q:be},(∀w∈g.av,w<=9223372036854775807)->(∀w∈q.av,w<=9223372036854775807)->∀K∈k++[g,q],∀w∈K.av,w<=9223372036854775807:=λp d K o=>by
  rcases List.mem_append.1 o with o|o
  .exact wU K o
  .simp at o;rcases o with rfl|rfl
   .exact p
   .exact d
 have aa:∀w∈dB f x.args,w<=9223372036854775807:=λw b=>by
  obtain⟨r,_,rfl⟩:=List.mem_map.1 b;exact t r
 have ac:=uQ s.heap;unfold jI;simp only[];by_cases y:x.op=0
 .rw[ak y];exact⟨by simp only[];omega,by simp only[];omega,c (j _ (oh (Z.2.2.2.2.2.2 y)))⟩
 rw[ae y];by_cases M:x.op=1\/x.op=2\/x.op=3\/x.op=4
 .rw[ak M];exact⟨by simp only[];omega,by simp only[];omega,c (j _ (oh ((Pq x.op (aO f.av (aO x.args 0)) (aO f.av (aO x.args 1))).2)))⟩
 rw[ae M];by_cases X:x.op=5
 .rw[ak X];exact⟨by simp only[];omega,bN,c (j _ (t _))⟩
 rw[ae X];by_cases A:x.op=6
 .rw[ak A];split
  .refine⟨bN,by simp only[];omega,c (j _ ?_)⟩;rename_i u;have F:=Z.2.2.2.2.1 A;obtain⟨G,E,z,_⟩:=C.Qu _ (iL (l:=f.bA) (i:=x.bW -1) V V) u.2;have:=ax z;unfold ix at this;omega
  .refine⟨?_,by simp only[];omega,c (j _ V)⟩;have:=Na s.heap (fp s.heap) ⟨1,x.bK,dB f x.args⟩;simp only[];omega
 rw[ae A];by_cases N:x.op=10
 .rw[ak N];refine⟨?_,by simp only[];omega,c (j _ V)⟩;have:=Na s.heap (fp s.heap) ⟨1,gA a+x.bK,dB f x.args⟩;simp only[];omega
 rw[ae N];by_cases O:x.op=14
 .rw[ak O];exact⟨by simp[oO];omega,by simp only[];omega,c e⟩
 rw[ae O];by_cases P:x.op=15
 .rw[ak P];refine⟨?_,by simp only[];omega,c e⟩;have m:=PH (je s.heap [aO f.av (aO x.args 0)]);rw[AF _ _ _ (ad _)]at m;simp only[];omega
 rw[ae P];by_cases Q:x.op=16\/x.op=17
 .rw[ak Q];split
  .exact⟨bN,by simp only[];omega,c e⟩
  .refine⟨?_,by simp only[];omega,c e⟩;have:=MF s.heap (aO f.av (aO x.args 0));simp only[];omega
 rw[ae Q];by_cases R:x.op=18
 .rw[ak R];exact⟨by simp only[];omega,by simp only[];omega,c (j _ (t _))⟩
 rw[ae R];by_cases u:x.op=19
 .rw[ak u];refine⟨by simp only[];omega,by simp only[];omega,c (j _ ?_)⟩;let⟨F,T⟩:=hM.load u;obtain⟨U,_,_,_,_,S⟩:=C.I;have z:=S.op;unfold kM at z;rw[ae V,ae V,ae V,ae V,ae V,ae V,ae V,ak u]at z;let⟨E,G⟩:=cw F;exact ab (((C.ok.heap.cell _ (aq E)).pG G).1 _ (iL z.2.1 T))
 rw[ae u];by_cases S:x.op=20
 .rw[ak S];exact⟨by simp only[];omega,by simp only[];omega,c e⟩
 rw[ae S];by_cases T:x.op=21
 .rw[ak T];exact⟨by simp only[];omega,by simp only[];omega,c e⟩
 rw[ae T];by_cases U:x.op=22
 .rw[ak U];exact⟨by simp only[];omega,by simp only[];omega,c e⟩
 rw[ae U];by_cases Y:x.op=9
 .rw[ak Y];exact⟨by simp only[];omega,by simp only[];omega,Jw e (H _ _ _ aa)⟩
 rw[ae Y];by_cases W:x.op=24
 .rw[ak W];exact⟨by simp only[];omega,by simp only[];omega,c (H _ _ _ aa)⟩
 rw[ae W];by_cases z:x.op=11
 .rw[ak z];refine⟨?_,by simp only[];omega,Jw e (H _ _ _ λw b=>?_)⟩
  .have:=MF s.heap (aO f.av (aO x.args 0));simp only[];omega
  .rcases List.mem_append.1 b with b|b
   .obtain⟨F,_⟩:=hM.apply z;let⟨E,G⟩:=cw F;exact ab (((C.ok.heap.cell _ (aq E)).pG G).1 _ b)
   .simp at b;subst b;exact t _
 rw[ae z];split
 .exact⟨by simp only[];omega,by simp only[];omega,aH⟩
 .rename_i pf E;refine⟨by simp only[];omega,by simp only[];omega,λq d=>?_⟩;have F:pf∈k:=List.mem_of_getLast? E;rcases List.mem_append.1 d with d|d
  .exact wU q ((List.dropLast_sublist k).subset d)
  .simp at d;subst d;intro w b;rcases sF b with rfl|b
   .exact t _
   .exact wU pf F w b
def Vn(h:fB B a s)(c:Sm n s)(l:n<=900000000):Sm (n+1) (oD a s):=by
 have b:Sm (n+1) s:=⟨by have:=c.heap;omega,oh c.bB,c.yI⟩;by_cases d:s.cW=3
 .let⟨g,f,e⟩:=h.split d;have k:s.aj.getLast?=some f:=by rw[e];simp
  have j:s.aj.dropLast=g:=by rw[e];simp
  have C:CM B a s g f (fJ a f):=⟨h,d,e,rfl,c.yI⟩;unfold oD;rw[ae (by simpa using d),k,j];simp only[];split
  .exact⟨b.heap,b.bB,b.yI⟩
  split
  .rename_i i;exact QC C c l _ i
  .exact⟨b.heap,b.bB,b.yI⟩
 .rw[wN d];exact b
def Lq{a:cp}:∀(k:Nat){s:St}{n:Nat},fB B a s->Sm n s->n+k<=900000000->Sm (n+k) (aC a k s)
 |0,s,n,_,b,_=>b
 |k+1,s,n,h,b,c=>by
  have:=Lq k (Rw h) (Vn h b V) V;rw[aC];have e:n+(k+1)=n+1+k:=V;rw[e];exact this
def PE(a:cp)(eD:Int):Sm 0 (lx a eD):=⟨by simp[lx],by simp[lx],λg b w c=>by
 simp[lx]at b;subst b;simp only[cK,dW]at c;rw[pU c];omega⟩
end
section
variable{a:cp}
variable{B:Int}
section
variable{c:E}{e:Nat->Nat}{m:E}{b:Nat}{d p bB g f:O}{s:St}
def PC(L:Cl c e m b bP (SB d p s bB g f) bB g f s.bB s.heap s.aj)(G:eX c d p a)(w:fB B a s){y:Nat}(F:Sm y s)(h:Nat)(M:h<=100000)(N:y<=500000000):
 aN cq 77 [vp b 0,vi h] m λJ u=>(∃i:Int,J=vi i)/\xy c e m b d p (aC a h s) u:=by
 apply wC (b,0)
 refine⟨λo u=>∃k:Nat,o=k/\k<=h/\xy c e m b d p (aC a k s) u,λo _=>((h:Int) -o).toNat,⟨0,rfl,dE _,e,bB,g,f,L,dL.aF _ L.new⟩,?_⟩
 rintro o O ⟨k,rfl,K,A,z,x,v,l,t1⟩
 have H:=Lp k w
 have t:=Lq k w F V
 refine dit (λD=>?_) λD=>?_
 .refine⟨_,l.box.cJ 2,λr=>?_,λr=>?_⟩
  .refine(Og l G H t.yI (oh t.heap) (oh t.bB)).mono ?_
   rintro _ j i
   have q:cQ ((k:Int)+1)=((k+1:Nat):Int):=km (n:=h) V V
   rw[q]
   refine⟨⟨k+1,rfl,V,by rw[Lr];exact i.from t1⟩,?_⟩
   show((h:Int) -((k+1:Nat):Int)).toNat<((h:Int) -(k:Int)).toNat
   omega
  .simp at r
   have q:aC a h s=aC a k s:=by
    have E:h=k+(h -k):=V;have C:∀(i j:Nat)(s:St),aC a (i+j) s=aC a j (aC a i s):=by
     intro i;induction i with
     |zero=>intro j s;simp[aC]
     |succ i I=>intro j s;rw[Nat.succ_add];simp only[aC];exact I j _
    rw[E,C,CC _ r]
   rw[q]
   exact⟨⟨_,rfl⟩,A,z,x,v,l,t1⟩
 .have:k=h:=V
  subst this
  exact⟨⟨_,rfl⟩,A,z,x,v,l,t1⟩
end
def DP{m:E}{u D:O}(K:eX m u D a)(l:qV B a)(eD:Int):
 aN cq 76 [.agg #[O.v u,O.v D],vi eD] m λT f=>∃bB n v,T=.agg #[vi 3,vi 0,vi 0,vi eD,O.v bB,O.v n,O.v v]/\J m f/\∃b1 b2 b3 b4 k,bB.cap=0/\bB.len=0/\n.cap=0/\n.len=0/\v=.mk b4 0 1 1/\
  tn m f b1 b2 b3 k (cK a 0 0 []).av (cK a 0 0 []).ba (cK a 0 0 []).bA/\(b4≠b1/\b4≠b2/\b4≠b3/\m.size<=b4/\b4<f.size)/\cz f b4 eF [.i 0,.i 0,.i 0,.s (.mk b1 0 k k),.s (.mk b2 0 k k),.s (.mk b3 0 k k)]:=by
 apply ye
 simp -zeta only[aE,aD]
 intro g z A r s e
 have w:J m e:=((((((J.aF m).aP _).aP _).aP _).aP _).aP _).aP _
 have M:g.size=m.size+1:=by simp[g]
 have P:z.size=m.size+2:=by simp[z,M]
 have Q:A.size=m.size+3:=by simp[A,P]
 have R:r.size=m.size+4:=by simp[r,Q]
 have S:s.size=m.size+5:=by simp[s,R]
 have s6:e.size=m.size+6:=by simp[e,S]
 clear_value e
 have U:=l.pB.len
 let⟨q,o⟩:=cg a.cv 0
 have Y:=(l.de q (aq o)).av
 have W:=l.fu
 have p:dm a 0=q:=by simp[dm,o]
 have C:∀b,ap e (.mk b 0 0 0) []:=λb=>⟨rfl,aH,aH,aH⟩
 refine(xc (K.ext w) (dh 0) o V 0 (C r.size) (C s.size) bN rfl).mono ?_
 rintro _ c ⟨b1,b2,b3,rfl,N⟩
 have j:=N.ext
 have X:=N.lo
 refine⟨j.da bN,_,_,_,_,_,_,rfl,?_⟩
 intro d t
 have x:J c d:=(J.aF c).aP _
 have s8:d.size=c.size+1:=by simp[d]
 have s9:t.size=d.size:=aA _ _ _ _
 have Z:=j.size
 have L:cz d c.size eF [.i 0,.i 0,.i 0,.s (.mk b1 0 q.av.toNat q.av.toNat),.s (.mk b2 0 q.av.toNat q.av.toNat),.s (.mk b3 0 q.av.toNat q.av.toNat)]:=cz.push c _ _
 have i:=N.WO x
 have y:J m t:=(w.trans (j.trans x)).ai (show m.size<=g.size by omega) _ _
 have h:∀b,b≠g.size->t[b]? =d[b]? :=λb I=>bd _ _ _ _ I
 have H:(cK a 0 0 []).av=[]++gB (q.av.toNat -([]:List Int).length):=by simp[cK,p]
 have G:(cK a 0 0 []).ba=[]++gB (q.av.toNat -([]:List Int).length):=by simp[cK,p,iB]
 have F:(cK a 0 0 []).bA=gB q.av.toNat:=by simp[cK,p]
 refine⟨_,_,_,rfl,y,b1,b2,b3,c.size,q.av.toNat,rfl,rfl,rfl,rfl,rfl,?_,V,L.congr (h _ V)⟩
 rw[H,G,F]
 exact⟨y,V,i.kr.congr (h _ V),i.ko.congr (h _ V),i.kh.congr (h _ V),N.len⟩
def Ub{m j g:E}{u:Nat}{N4:List Ce}{bB i l:O}{eD:Int}{b1 b2 b3 b4 k e:Nat}(c:bB.cap=0/\bB.len=0/\i.cap=0/\i.len=0/\l=.mk b4 0 1 1)
 (N:tn m j b1 b2 b3 k (cK a 0 0 []).av (cK a 0 0 []).ba (cK a 0 0 []).bA)(C:b4≠b1/\b4≠b2/\b4≠b3/\m.size<=b4/\b4<j.size)(B:cz j b4 eF [.i 0,.i 0,.i 0,.s (.mk b1 0 k k),.s (.mk b2 0 k k),.s (.mk b3 0 k k)])
 (d:J j g)(F:j.size<=e)(kb:cz g e u (N4++[.i 3,.i 0,.i 0,.i eD,.s bB,.s i,.s l])):
 Cl m (vI (vI (rf (λ_=>0) b1 b2 b3 0) b4 4) e 1) g e u (N4++[.i 3,.i 0,.i 0,.i eD,.s bB,.s i,.s l]) bB i l [] [] [cK a 0 0 []]:=by
 have D:=N.lo
 have A:J m g:=N.ext.trans d
 have G:=kb.lt
 have H:=N.ext.size
 have t:∀b,b≠e->b≠b4->(vI (vI (rf (λ_=>0) b1 b2 b3 0) b4 4) e 1) b=rf (λ_=>0) b1 b2 b3 0 b:=λb p q=>by rw[fH p,fH q]
 let⟨y,a2,a3⟩:=(N.WO d).sq (a:=λ_=>0) (g:=0)
 have conv:∀{v:Nat}{s:O}{w:List Ce},iI (rf (λ_=>0) b1 b2 b3 0) g ay 1 v s w->s.az≠e->s.az≠b4->iI (vI (vI (rf (λ_=>0) b1 b2 b3 0) b4 4) e 1) g ay 1 v s w:=λx p q=>x.fS (λ_=>rfl) (λ_=>t _ p q)
 refine⟨A,λb z=>?_,λb z=>?_,kb,jh _ _ _,⟨by simp[c.2.1],by rw[c.1,c.2.1];exact ad _,Or.inl c.1⟩,⟨[],⟨by simp[c.2.2.2.1],by rw[c.2.2.1,c.2.2.2.1];exact ad _,Or.inl c.2.2.1⟩,gT.nil _ _,Xm.nil⟩,?_⟩
 .rw[t b V V];unfold rf;rw[fH V,fH V,fH V]
 .rw[t b (oh d.size) (oh d.size)];unfold rf;rw[fH (oh d.size),fH (oh d.size),fH (oh d.size)]
 .refine sk.tj (a:=[]) (f:=cK a 0 0 []) (r:=.mk b1 0 k k) (e:=.mk b2 0 k k) (h:=.mk b3 0 k k) (j:=[]) ⟨?_,rfl,aH,aH,conv y (by simp only[O.fG];omega) (by simp only[O.fG];omega),conv a2 (by simp only[O.fG];omega) (by simp only[O.fG];omega),conv a3 (by simp only[O.fG];omega) (by simp only[O.fG];omega)⟩
  rw[c.2.2.2.2]
  refine⟨rfl,ad _,Or.inr ⟨b4,1,[],rfl,?_,?_,rfl⟩⟩
  .rw[fH V,jh]
  .rw[dD];exact B.ext d
end
structure Exe where
 cW:Int
 value:Int
 bL:Int
 bB:List Int
 ok:Bool
section
variable{m:E}{s:O}{l:List Int}
def rE(c:ap m s l)(n:l.length<=1000000000):mQ 33 [O.v s] m l:=by
 apply sL;have b:=c.len;refine⟨λh=>?_,λh=>?_⟩
 .cases s with
  |nil=>simp at b;have:l=[]:=List.length_eq_zero_iff.1 b.symm;subst this;exact⟨.nil,rfl,fZ.nil _ _ _ _,J.aF _⟩
  |mk a o e d=>simp at h
  |CT a o d=>simp at h
 .intro d;have a:J m d:=(J.aF m).aP _;have f:fZ m d ay 1 (.mk m.size 0 0 0) []:=fZ.new (J.aF m) ay 1 [] 0 aH;refine fZ.append (zs:=[.i 0]) (d:=l.map Ce.i) f a (by simp[b]) (c.ext a).sJ bN λr o a e g i j k=>⟨r,rfl,by simpa using a,e⟩
def Be(g:ap m s l)(b:Int):aN cq 63 [O.v s,vi b] m λv h=>∃r:Int,v=vi r/\J m h/\((r= -1/\b∉l)\/(b∈l/\r=wQ l b)):=by
 apply sM;have j:=g.len;refine dZ (n:=l.length) (j▸g.fu) (λk h=>J m h/\b∉l.take k) ⟨J.aF _,aH⟩ ?_;rintro k u I μ t ⟨f,e⟩ p
 refine dit (λi=>?_) λi=>?_
 .let⟨x,d⟩:=cg l k;refine⟨V,V,x,by simpa using f.af (g.aO d),λc=>?_,λc=>p V _ ⟨f,?_⟩⟩
  .simp at c;subst c;refine⟨_,rfl,f,Or.inr ⟨aq d,?_⟩⟩;have:wQ l b=k:=by
    unfold wQ;rw[List.findIdx_eq (ax d)];refine⟨by have:=(List.getElem?_eq_some_iff.1 d).2;simp[this],λo q=>?_⟩;simp;intro a;apply e;rw[<-a];exact List.mem_take_iff_getElem.2 ⟨o,V,rfl⟩
   rw[this]
  .rw[bC d];simp at c;intro a;rcases List.mem_append.1 a with a|a
   .exact e a
   .simp at a;exact c a
 .rw[cy V]at e;exact⟨_,rfl,f,Or.inl ⟨rfl,e⟩⟩
def wc(c:ap m s l)(n:Int):dz cq 29 [O.v s,vi n] m (n∈l):=by
 apply qL;refine(Be c n).mono ?_;rintro _ f ⟨r,rfl,d,h⟩;refine⟨_,rfl,fU ?_ d⟩;simp only[uG,an];rcases h with⟨rfl,h⟩|⟨b,e⟩
 .exact⟨λa=>V,λa=>absurd a h⟩
 .exact⟨λ_=>b,λ_=>V⟩
def mo{a:O}{h:List bS}(i:cT m a h){w:Int}(u:w<=9223372036854775807):
 aN cq 34 [O.v a,vi w] m λv p=>∃(j:Int)(e:Bool),v=.tuple #[vi j,vb e]/\(e=true<->gZ h w)/\(e=true->j=ix w)/\J m p:=by
 apply EM
 have k:=i.len
 have t:=i.fu
 refine⟨λc=>?_,λc=>?_⟩
 .simp at c
  have l:cQ (w -1000)=w -1000:=aQ V V
  have o:(ix w:Int)=w -1000:=by unfold ix;omega
  rw[l]
  refine⟨λg=>?_,λg=>?_⟩
  .simp at g
   let⟨f,b⟩:=cg h ((w -1000).toNat)
   obtain⟨r,s,n,_⟩:=i.aO b
   refine⟨V,V,f.aS,n,_,_,rfl,?_,λ_=>o.symm,J.aF _⟩
   simp only[gJ,an]
   refine⟨λa=>⟨c,f,b,a⟩,λ⟨_,q,d,a⟩=>?_⟩
   unfold ix at d
   rw[b]at d;simp at d;subst d;exact a
  .simp at g
   refine⟨_,_,rfl,⟨sx,λ⟨_,f,b,_⟩=>?_⟩,sx,J.aF _⟩
   have:=ax b
   omega
 .simp at c
  exact⟨_,_,rfl,⟨sx,λk=>oh k.1⟩,sx,J.aF _⟩
end
section
variable{B:Int}
structure FP(m:E)(fb fo:Nat)(f:be)(r o h:O):Prop where
 g3:af m fb (fo+3)=some (O.v r)
 g4:af m fb (fo+4)=some (O.v o)
 g5:af m fb (fo+5)=some (O.v h)
 av:ap m r f.av
 ba:ap m o f.ba
 bA:ap m h f.bA
def FP.ext{m c:E}{fb b:Nat}{f:be}{r o h:O}(F:FP m fb b f r o h)(a:J m c):FP c fb b f r o h:=⟨a.af F.g3,a.af F.g4,a.af F.g5,F.av.ext a,F.ba.ext a,F.bA.ext a⟩
end
section
variable{B:Int}
end

section
section
variable{l:E}{p q:Nat->Nat}{m k:E}{n e:Nat}{a:List Ce}{bB g c:O}{j:List Int}{i:List bS}{d:List be}{f:be}{r o h:O}{b:List (List Ce)}
end
section
variable{i:E}{k:Nat->Nat}{m:E}{j:Nat}{d p bB g b:O}{c:Int}{s:St}{e:List be}{f:be}{r o h:O}{a:List (List Ce)}
end
end
section
section
variable{i:E}{k:Nat->Nat}{m:E}{j:Nat}{d p bB g b:O}{c:Int}{s:St}{e:List be}{f:be}{r o h:O}{a:List (List Ce)}
end
end
section
variable{a:E}{b1 b2 b3 n i:Nat}
section
variable{l:E}{b:Nat->Nat}{m:E}{q:Nat}{d p bB k g:O}{c:Int}{s:St}{j:List be}{f:be}{r o h:O}{e:List (List Ce)}
def oH.none{b:Nat->Nat}{m:E}:oH b m .nil []:=⟨[],iI.fP (fZ.nil m m _ _) (λa=>absurd rfl a),rfl,aH,aH⟩
end
def tn.Hg{c:E}{av ba bA:List Int}(N:tn c a b1 b2 b3 n av ba bA)(d:i<n)(v:Int):fg a b1 i 1/\tn c (ai a b1 i [.i v]) b1 b2 b3 n (av.set i v) ba bA:=by
 have b:=N.lo;refine⟨N.kr.fg (by simp[N.len.1];omega),N.ext.ai b.1 _ _,by rw[aA];exact b,?_,N.ko.congr (bd _ _ _ _ V),N.kh.congr (bd _ _ _ _ V),by simp[N.len]⟩;have:=cz.ai (m:=a) (o:=i) (r:=[.i v]) N.kr;rw[yZ]at this;exact this
def tn.y8{c:E}{av ba bA:List Int}(N:tn c a b1 b2 b3 n av ba bA)(d:i<n)(v:Int):fg a b2 i 1/\tn c (ai a b2 i [.i v]) b1 b2 b3 n av (ba.set i v) bA:=by
 have b:=N.lo;refine⟨N.ko.fg (by simp[N.len.2.1];omega),N.ext.ai b.2.1 _ _,by rw[aA];exact b,N.kr.congr (bd _ _ _ _ V),?_,N.kh.congr (bd _ _ _ _ V),by simp[N.len]⟩;have:=cz.ai (m:=a) (o:=i) (r:=[.i v]) N.ko;rw[yZ]at this;exact this
section
variable{k:E}{q:Nat->Nat}{m:E}{l:Nat}{d p bB j e:O}{c:Int}{s:St}{g:List be}{f:be}{r o h:O}{b:List (List Ce)}
end
end
section
variable{B:Int}
section
variable{g:E}{j:Nat->Nat}{m:E}{i:Nat}{d p bB e b:O}{s:St}{c:List be}{f:be}{r o h:O}{a:List (List Ce)}
end
end
section
variable{B:Int}
section
variable{c:E}{f:Nat->Nat}{m:E}{e:Nat}{d p bB b a:O}{s:St}
end
end
end Go.Proofs.YtdalfjkmdekijaaGreat
section
namespace Go.Vc
def uS{m:E}{b o:Nat}{v:Value}(h:(af m b o).isSome=true):af (qJ m b o v) b o=some v:=by
 unfold af at h⊢;simp only[qJ,kX,LG];cases d:m[b]? with
 |none=>rw[d]at h;simp at h
 |some f=>
  rw[d]at h;cases f with
  |cells c g i=>
   simp only[]at h;have e:o<c.size:=by
    rcases aU o c.size with a|a
    .exact a
    .rw[Ia a]at h;simp at h
   simp[e]
  |_=>simp at h
def Kd{m:E}{c o a b:Nat}{v:Value}(h:a≠c\/b≠o):af (qJ m c o v) a b=af m a b:=by
 by_cases d:a=c
 .subst d;have e:b≠o:=by rcases h with h|h;exact absurd rfl h;exact h
  unfold af;simp only[qJ,kX,LG];cases d:m[a]? with
  |none=>rfl
  |some f=>
   cases f with
   |cells g i j=>simp[kG e]
   |_=>rfl
 .exact aK (KO _ _ _ _ d) _
def Qj(m:E)(c o:Nat)(v:Value)(a d:Nat):uR (qJ m c o v) a d=uR m a d:=by
 by_cases b:a=c
 .subst b;unfold uR;simp only[qJ,kX,LG];cases b:m[a]? with
  |none=>rfl
  |some e=>
   cases e with
   |cells f g h=>rfl
   |_=>rfl
 .unfold uR;rw[KO _ _ _ _ b]
structure Uv(m:E)(k:Int)(pos:List (Nat×Nat))(m':E):Prop where
 size:m.size<=m'.size
 az:∀b,b<m.size->(∀p∈pos,p.1≠b)->m'[b]? =m[b]?
 cell:∀b o,b<m.size->(b,o)∉pos->af m' b o=af m b o
 uR:∀b o,b<m.size->Vc.uR m' b o=Vc.uR m b o
 int:∀p∈pos,∃n,af m' p.1 p.2=some (vi n)
 val:pos.Nodup->∀(j:Nat)(p:Nat×Nat),pos[j]? =some p->af m' p.1 p.2=some (vi (k+j))
def Uv.nil{m c:E}(h:J m c)(k:Int):Uv m k [] c:=
 ⟨h.size,λb a _=>h.same b a,λb o a _=>aK (h.same b a) o,λb o a=>by unfold Vc.uR;rw[h.same b a],aH,aH⟩
def Uv.ln{m:E}{b o:Nat}(h:(af m b o).isSome=true)(k:Int):Uv m k [(b,o)] (ai m b o [.i k]):=by
 refine⟨pC (aA _ _ _ _).symm,λc f d=>bd _ _ _ _ λe=>d (b,o) aH e.symm,λc q f d=>?_,λc q f=>Qj _ _ _ _ _ _,λp a=>?_,λ_ j p a=>?_⟩
 .refine Kd ?_;by_cases e:c=b
  .right;intro g;subst e;subst g;simp at d
  .exact Or.inl e
 .simp at a;subst a;exact⟨k,uS h⟩
 .cases j with
  |zero=>
   simp at a;subst a;have e:k+((0:Nat):Int)=k:=V;rw[e];exact uS h
  |succ j=>simp at a
def Uv.trans{m l n:E}{k:Int}{e p2:List (Nat×Nat)}(h:Uv m k e l)(g:Uv l (k+e.length) p2 n):Uv m k (e++p2) n:=by
 have v:=h.size;refine⟨bH h.size g.size,λc f b=>?_,λc o f b=>?_,λc o f=>?_,λp a=>?_,λhd j p a=>?_⟩
 .rw[g.az c V λp a=>b p (dv _ a),h.az c f λp a=>b p (bu _ a)]
 .rw[g.cell c o V λa=>b (dv _ a),h.cell c o f λa=>b (bu _ a)]
 .rw[g.uR c o V,h.uR c o f]
 .by_cases i:p∈p2
  .exact g.int p i
  .have d:p∈e:=by rcases List.mem_append.1 a with d|d;exact d;exact absurd d i
   let⟨q,b⟩:=h.int p d;exact⟨q,by rw[g.cell p.1 p.2 (lH b) i];exact b⟩
 .let⟨i,r,s⟩:=List.nodup_append.1 hd;by_cases u:j<e.length
  .rw[aw u]at a;have d:p∈e:=iV a;let⟨q,b⟩:=h.int p d;rw[g.cell p.1 p.2 (lH b) λt=>s p d p t rfl];exact h.val i j p a
  .rw[aG V]at a;have:=g.val r _ p a;have d:k+(e.length:Int)+((j -e.length:Nat):Int)=k+j:=V;rw[d]at this;exact this
inductive Uw where
 |nil
 |int (r:Uw)
 |sl (e r:Uw)
def Uw.size:Uw->Nat
 | .nil=>0
 | .int r=>r.size+1
 | .sl _ r=>r.size+1
inductive SE where
 |jC (r:Uw)
 |sJ (e:Uw) (n:Nat)
inductive uN(m:E):SE->Nat->Nat->List (Nat×Nat)->Prop where
 |nil (b o:Nat):uN m (.jC .nil) b o []
 |int {b o:Nat} {r:Uw} {p:List (Nat×Nat)} {n:Int} (h:af m b o=some (vi n)) (hf:Vc.uR m b o=false) (hr:uN m (.jC r) b (o+1) p):uN m (.jC (.int r)) b o ((b,o)::p)
 |sl {b o:Nat} {e r:Uw} {p1 p2:List (Nat×Nat)} {s:O} (h:af m b o=some (O.v s)) (hl:s.len<=9223372036854775807) (he:uN m (.sJ e s.len) s.az s.off p1) (hr:uN m (.jC r) b (o+1) p2):uN m (.jC (.sl e r)) b o (p1++p2)
 |zero (e:Uw) (b o:Nat):uN m (.sJ e 0) b o []
 |succ {b o n:Nat} {e:Uw} {p1 p2:List (Nat×Nat)} (he:uN m (.jC e) b o p1) (hr:uN m (.sJ e n) b (o+e.size) p2):uN m (.sJ e (n+1)) b o (p1++p2)
def uN.pA{m:E}{K:SE}{f o:Nat}{e:List (Nat×Nat)}(h:uN m K f o e):∀p∈e,∃n,af m p.1 p.2=some (vi n):=by
 induction h with
 |nil=>simp
 |int h c d b=>
  intro p a;rcases List.mem_cons.1 a with rfl|a
  .exact⟨_,h⟩
  .exact b p a
 |sl h i g d b c=>
  intro p a;rcases List.mem_append.1 a with a|a
  .exact b p a
  .exact c p a
 |zero=>simp
 |succ g d b c=>
  intro p a;rcases List.mem_append.1 a with a|a
  .exact b p a
  .exact c p a
def uN.lt{m:E}{K:SE}{b o:Nat}{a:List (Nat×Nat)}(h:uN m K b o a):∀p∈a,p.1<m.size:=λp d=>let⟨_,c⟩:=h.pA p d;lH c
def Ul(n:Int)(s:O):vi n≠O.v s:=by cases s<;>simp[vi,O.v]
def uN.aaa{m j:E}{u:Int}{q:List (Nat×Nat)}(g:Uv m u q j)(t:∀p∈q,∃n,af m p.1 p.2=some (vi n)){K:SE}{b o:Nat}{k:List (Nat×Nat)}(h:uN m K b o k):uN j K b o k:=by
 induction h with
 |nil=>exact .nil _ _
 | @int b o v p n h d i e=>
  have a:=lH h;by_cases c:(b,o)∈q
  .let⟨l,f⟩:=g.int _ c;exact .int f (by rw[g.uR b o a];exact d) e
  .exact .int (by rw[g.cell b o a c];exact h) (by rw[g.uR b o a];exact d) e
 | @sl b o w v x p2 l h r p i d e=>
  have a:=lH h;refine .sl (s:=l) ?_ r d e;rw[g.cell b o a λc=>?_]
  .exact h
  .let⟨n,f⟩:=t _ c;rw[h]at f;exact Ul n l (lG f).symm
 |zero=>exact .zero _ _ _
 |succ p i d e=>exact .succ d e
def uN.ext{m a:E}(d:J m a){K:SE}{b o:Nat}{c:List (Nat×Nat)}(h:uN m K b o c):uN a K b o c:=h.aaa (Uv.nil d 0) aH
end Go.Vc
namespace Go.Proofs.YtdalfjkmdekijaaGreat
open Go.Vc
end Go.Proofs.YtdalfjkmdekijaaGreat
end
namespace Go.Proofs.YtdalfjkmdekijaaGreat
open Go.Vc
section
section
variable{m:E}{s t:O}{l r:List Int}
def oV(f:ap m s l)(i:ap m t r):dz cq 7 [O.v s,O.v t] m (l=r):=by
 apply yQ;have o:=f.len;have v:=i.len;refine⟨λh=>cr (λe=>?_) (J.aF _),λh=>?_⟩
 .subst e;simp at h;omega
 .have u:l.length=r.length:=by simp at h;omega
  refine dZ (n:=l.length) (o▸f.fu) (λk a=>J m a/\l.take k=r.take k) ⟨J.aF _,aH⟩ ?_;rintro k w I μ q ⟨b,d⟩ p
  refine dit (λj=>?_) λj=>?_
  .let⟨y,g⟩:=cg l k;let⟨z,c⟩:=cg r k;refine⟨V,V,y,by simpa using b.af (f.aO g),V,V,z,by simpa using b.af (i.aO c),λa=>cr (λe=>?_) b,λa=>p V _ ⟨b,?_⟩⟩
   .subst e;rw[g]at c;simp at c a;exact a c
   .simp at a;rw[bC g,bC c,d,a]
  .rw[cy V,cy V]at d;exact jr d b
end
section
variable{m:E}{b P:Nat}{a:O}{S:List Nat}
def Ei.ext{a:E}{bn:O}(h:Ei m bn)(x:J m a):Ei a bn:=⟨h.1,λk d=>let⟨v,b,c,g⟩:=h.2 k d;⟨v,b,c,x.af g⟩⟩
end
end
section
variable{n b:Nat}{f:Nat->Int}{B:Int}{d:cp}{s:St}
def rZ(n:Nat)(f:Nat->Int):List Int:=(List.range n).map f
def nD(n:Nat)(f:Nat->Int):(rZ n f).length=n:=by simp[rZ]
def ue(h:b<n):(rZ n f)[b]? =some (f b):=by
 unfold rZ;rw[bR,xu h];rfl
def eY{g:Nat->Int}(h:∀b,b<n->f b=g b):rZ n f=rZ n g:=by
 unfold rZ;exact Zt λb a=>h b (List.mem_range.1 a)
def Rx(v:Int):(rZ n f).set b v=rZ n (λa=>if a=b then v else f a):=by
 apply eL;intro i;by_cases a:i<n
 .rw[ue a];by_cases e:b=i
  .subst e;rw[dQ (by rw[nD];exact a),ak rfl]
  .rw[dT e,ue a,ae (λh=>e h.symm)]
 .rw[bT (by rw[iH,nD];omega),bT (by rw[nD];omega)]
def Sg(n:Nat):rZ n (λ_=>0)=gB n:=by
 unfold rZ gB;rw[List.map_const'];simp
structure Gq(h:List bS):Prop where
 jc:nv h
 cells:∀c∈h,nF h c
 dP:∀(b:Nat)(c:bS),h[b]? =some c->0<c.aS->dP h b<=c.aS
 JS:Sv h
structure Gv(h:List bS)(f:be):Prop where
 de:∀(k:Nat)(w o:Int),f.av[k]? =some w->f.ba[k]? =some o->(gY w\/1000<=w)/\(0<=o/\o<=999999)/\(0<o->gZ h w)
structure JK(d:cp)(h:List bS)(prev:Option be)(f:be):Prop where
 dV:0<=f.dV/\f.dV<d.cv.length
 pc:0<=f.pc/\f.pc<(dm d f.dV).bn.length
 lr:(f.av.length:Int)=(dm d f.dV).av
 lo:(f.ba.length:Int)=(dm d f.dV).av
 lh:(f.bA.length:Int)=(dm d f.dV).av
 av:Gv h f
 first:prev=none->f.dst=0
 next:∀p,prev=some p->0<=f.dst/\f.dst<p.ba.length/\aO p.ba f.dst=0
def mR(a:List be):Nat->Option be
 |0=>none
 |k+1=>a[k]?
structure Nv(h:List bS)(fs:List be):Prop where
 dB:∀f∈fs,∀w∈f.bA,w=0\/(1000<=w/\ix w<h.length)
 kJ:∀(i:Nat)(c:bS),h[i]? =some c->c.aS<0->holds fs i=1
 mE:∀(i:Nat)(c:bS),h[i]? =some c->0<=c.aS->holds fs i=0
structure WA(B:Int)(d:cp)(s:St):Prop where
 eS:qV B d
 cW:0<=s.cW/\s.cW<=3
 done:s.cW=0<->s.aj=[]
 value:gY s.value
 td:s.value≠0->s.cW=0
 eD:0<=s.eD/\s.eD<=40
 bL:0<=s.bL/\s.bL<=s.eD
 depth:(s.aj.length:Int)<=s.bL+1
 bB:∀n∈s.bB,gY n
 heap:Gq s.heap
 aj:∀(k:Nat)(f:be),s.aj[k]? =some f->JK d s.heap (mR s.aj k) f
 bA:Nv s.heap s.aj
 Qf:∀(b:Nat)(c:bS),s.heap[b]? =some c->0<c.aS->c.aS=dP s.heap b+eA s.aj b
abbrev QV:=WA 2000
def Po:∀{c:List be}{b:Nat},0<eA c b->∃f∈c,0<cN f.av f.ba b
 |[],b,h=>by simp[eA]at h
 |f::c,b,h=>by
  simp only[eA]at h;by_cases d:0<cN f.av f.ba b
  .exact⟨f,aH,d⟩
  .let⟨g,e,i⟩:=Po (c:=c) (b:=b) V;exact⟨g,by simp[e],i⟩
def MX:∀{av ba:List Int}{b:Nat},0<cN av ba b->∃(k:Nat)(o:Int),av[k]? =some (1000+(b:Int))/\ba[k]? =some o/\0<o
 |[],ba,b,h=>by simp[cN]at h
 |_::_,[],b,h=>by simp[cN]at h
 |r::i,o::g,b,h=>by
  simp only[cN]at h;by_cases a:r=1000+(b:Int)/\0<o
  .exact⟨0,o,by simp[a.1],rfl,a.2⟩
  .have:0<cN i g b:=by
    split at h
    .rename_i e;have:¬0<o:=λc=>a ⟨e,c⟩;omega
    .omega
   let⟨k,f,c,d,e⟩:=MX this;exact⟨k+1,f,by simpa using c,by simpa using d,e⟩
def Vh{a:List be}{f:be}(c:f∈a)(d:∀g∈a,0<=cN g.av g.ba b):cN f.av f.ba b<=eA a b:=by
 induction a with
 |nil=>simp at c
 |cons g a i=>
  have m:0<=eA a b:=by
   clear i c;induction a with
   |nil=>simp[eA]
   |cons q a j=>
    have k:=d q aH;have l:=j (λx e=>d x (by simp at e⊢;rcases e with h|h;exact Or.inl h;exact Or.inr (Or.inr h)));simp only[eA];omega
  simp only[eA];rcases List.mem_cons.1 c with rfl|c
  .omega
  .have:=i c λx e=>d x (by simp[e]);have:=d g aH;omega
def TZ{a:List be}(c:∀g∈a,0<=cN g.av g.ba b):0<=eA a b:=by
 induction a with
 |nil=>simp[eA]
 |cons q a e=>
  have f:=c q aH;have g:=e λx d=>c x (by simp[d]);simp only[eA];omega
def Pf{a:List be}{f:be}(c:f∈a):eK f.bA b<=holds a b:=by
 induction a with
 |nil=>simp at c
 |cons g a d=>
  simp only[holds];rcases List.mem_cons.1 c with rfl|c
  .have:=uT a b;omega
  .have:=d c;have:=iA g.bA b;omega
def Kl{a:List be}(h:∀f∈a,∀w∈f.bA,w≠1000+(b:Int)):holds a b=0:=by
 induction a with
 |nil=>rfl
 |cons g a e=>
  simp only[holds];rw[e λf c=>h f (by simp[c]),nj λd=>h g aH _ d rfl];rfl
def pT{a:List be}{f:be}(h:f∈a):∃k:Nat,a[k]? =some f:=List.mem_iff_getElem?.1 h
def Ln(h:WA B d s):fB B d s:=by
 have r:∀f∈s.aj,∃p,JK d s.heap p f:=λf c=>let⟨k,g⟩:=pT c;⟨_,h.aj k f g⟩;have z:∀b,∀j∈s.aj,0<=cN j.av j.ba b:=λb j t=>by
  let⟨p,a⟩:=r j t;refine qI (λo l=>?_) b;let⟨k,g⟩:=List.mem_iff_getElem?.1 l;have u:=ax g;have e:=a.lr;have q:=a.lo;let⟨w,i⟩:=cg j.av k;exact(a.av.de k w o i g).2.1.1
 refine⟨h.eS,h.cW,h.done,h.value,h.td,h.eD,h.bL,h.depth,h.bB,⟨h.heap.cells,h.heap.JS,h.Qf,λb=>TZ (z b),λb y=>?_⟩,h.heap.jc,λf c=>?_,λf c=>(h.aj 0 f c).first rfl,λk f j c t=>(h.aj (k+1) j t).next f c,λb⟨m,n,v⟩=>h.bA.kJ b m n v,λb g=>?_⟩
 .let⟨f,c,a⟩:=Po y;let⟨k,o,e,q,x⟩:=MX a;let⟨p,a⟩:=r f c;have:=((a.av.de k _ o e q).2.2 x).2;rwa[jv]at this
 .let⟨p,a⟩:=r f c;refine⟨a.dV,a.pc,a.lr,a.lo,a.lh,λw i=>?_,λk o w l i=>?_,λw i=>?_⟩
  .let⟨k,g⟩:=List.mem_iff_getElem?.1 i;have u:=ax g;have e:=a.lr;have q:=a.lo;let⟨o,l⟩:=cg f.ba k;exact(a.av.de k w o g l).1
  .have:=a.av.de k w o i l;exact⟨this.2.1.1,λx=>(this.2.2 x).1⟩
  .rcases h.bA.dB f c w i with e|e
   .exact Or.inl e
   .exact Or.inr e.1
 .rcases aU b s.heap.length with u|A
  .let⟨m,n⟩:=dI u;refine h.bA.mE b m n (Int.not_lt.1 λv=>g ⟨m,n,v⟩)
  .refine Kl λf c w i x=>?_;rcases h.bA.dB f c w i with e|e
   .omega
   .have:=e.2;rw[x,jv]at this;omega
def CQ(h:fB B d s):WA B d s:=by
 have G:∀b,∀p∈s.aj,0<=cN p.av p.ba b:=λb p E=>qI (h.aj p E).Pm b;have y:∀f∈s.aj,∀(k:Nat)(w o:Int),f.av[k]? =some w->f.ba[k]? =some o->0<o->gZ s.heap w/\o<=999999:=λf g k w o i n q=>by
  have m:=((h.aj f g).ba k o w n i).2 q;have A:=iC m;have C:=KB (h.aj f g).Pm i n (c:=ix w) A.symm;have D:=Vh g (G (ix w));have x:=h.heap.lv (ix w) V;let⟨j,e,c⟩:=x;have J:=h.heap.ex _ j e c;have K:=qA s.heap (ix w);have L:=(h.heap.cell j (aq e)).hi;exact⟨⟨m,j,e,c⟩,V⟩
 refine⟨h.eS,h.cW,h.done,h.value,h.td,h.eD,h.bL,h.depth,h.bB,⟨h.jc,h.heap.cell,λb j e c=>?_,h.heap.JS⟩,λk f g=>?_,⟨λf g w i=>?_,λu j e z=>h.kJ u ⟨j,e,z⟩,λu j e z=>h.mE u λ⟨I,r,M⟩=>?_⟩,h.heap.ex⟩
 .have:=h.heap.ex b j e c;have:=h.heap.nn b;omega
 .have t:=aq g;have F:=h.aj f t;refine⟨F.dV,F.pc,F.lr,F.lo,F.lh,⟨λv w o i n=>⟨F.Sc w (aq i),⟨(F.ba v o w n i).1,?_⟩,λc=>(y f t v w o i n c).1⟩⟩,λc=>?_,λH c=>?_⟩
  .rcases mU 0 o with q|q
   .exact(y f t v w o i n q).2
   .omega
  .cases k with
   |zero=>exact h.first f g
   |succ k=>
    simp only[mR]at c;have:=ax g;rw[List.getElem?_eq_none_iff]at c;omega
  .cases k with
   |zero=>simp[mR]at c
   |succ k=>exact h.chain k H f c g
 .rcases(h.aj f g).bA w i with m|m
  .exact Or.inl m
  .refine Or.inr ⟨m,Nat.lt_of_not_le λt=>?_⟩;have C:=h.mE (ix w) λ⟨j,e,_⟩=>by have:=ax e;omega
   have D:=Pf g (b:=ix w);have x:=tS (l:=f.bA) (f:=ix w) (by rw[iC m];exact i);omega
 .rw[e]at r;simp at r;subst r;omega
end
section
variable{M d:E}{b e a:Nat}{f:Nat->Int}{h:List bS}{w:Int}{c:bS}
def ug(w:Int):Prop:=-9223372036854775808<=w/\w<=9223372036854775807
def Nt(h:List bS):Prop:=∀c∈h,∀w∈c.aL,ug w
def sX(B:cz M b ay ((rZ e f).map Ce.i))(h:a<e):af M b a=some (vi (f a)):=by
 rw[B.cJ a,bR,ue h];rfl
def HZ(B:cz M b ay ((rZ e f).map Ce.i))(a:Nat)(v:Int):cz (ai M b a [.i v]) b ay ((rZ e (λx=>if x=a then v else f x)).map Ce.i):=by
 have:=B.ai (m:=M) (o:=a) (r:=[.i v]);rw[yZ,Rx]at this;exact this
def Nj(B:cz M b ay ((rZ e f).map Ce.i))(h:a<e):fg M b a 1:=B.fg (by simp[nD];omega)
def Om(B:cz M b ay ((rZ e f).map Ce.i))(h:e<=9223372036854775807):ap M (.mk b 0 e e) (rZ e f):=
 ⟨by simp[nD],ad _,h,λk x a=>⟨[.i x],rfl,λi c d=>by
  have g:k<e:=by have:=ax a;rwa[nD]at this
  rw[ue g]at a;simp at a;cases i with
  |zero=>simp at d;subst d;have:=sX B g;rw[a]at this;simpa[Ce.v]using this
  |succ i=>simp at d⟩⟩
def Lt(M:E)(e:Nat):cz (M.push (.cells (bD (me [.i (0:Int)] e)) ay)) M.size ay ((rZ e (λ_=>0)).map Ce.i):=by
 rw[LA,Sg];exact cz.push M _ _
def qW(f:Nat)(b:List Value)(d:E)(l:List Int):Prop:=aN cq f b d λv a=>∃s,v=O.v s/\ap a s l/\J d a
def Lc{f:O}(i:cT d f h)(k:ug w):dz cq 137 [O.v f,vi w] d (pS h w):=by
 apply FE;refine(aY _ _ _ _).then λb m e c=>⟨b,rfl,λa=>jr (Or.inl (e.1 a)) c,λa=>?_⟩;refine(gR (cT.ext c i) k).then λb2 n g l=>⟨b2,rfl,fU ?_ (c.trans l)⟩;rw[g];exact⟨λh=>Or.inr h,λh=>h.resolve_left λj=>fb e a j⟩
def FX{C f:O}(F:cT d C h)(x:ap d f c.aL)(G:∀w∈c.aL,ug w):dz cq 88 [O.v C,.agg #[vi c.aS,vi c.mK,O.v f]] d (nF h c):=by
 apply Ai;simp -zeta only[aE,aD];intro o;have e:J d o:=(J.aF d).aP _;have P:o.size=d.size+1:=by simp[o]
 clear_value o;have B:=x.len;refine⟨λt=>cr (λa=>by have:=a.fl;simp at t;omega) e,λt=>?_⟩;have y:c.aL.length<=3:=by simp at t;omega
 have q:∀b∈[d.size],b<o.size:=bN;refine(aY _ _ _ _).aI (J.aF _) q λb N A i _=>⟨b,rfl,λu=>cr (λa=>nb A u ⟨a.lo,a.hi⟩) (e.trans i),λu=>?_⟩;have m:=yb A u;refine⟨λv=>?_,λv=>?_⟩
 .have k:c.aS<1:=by simpa using v
  refine⟨λl=>?_,λl=>cr (λa=>by simp at l;exact l (a.uP k).1) (e.trans i)⟩;have s:c.mK=0:=by simpa using l
  refine(lJ (x.ext (e.trans i))).aI i q λb3 H z j _=>⟨b3,rfl,λg=>?_,λg=>cr (λa=>fb z g (a.uP k).2.1) ((e.trans i).trans j)⟩;have D:=z.1 g;refine⟨λr=>jr ⟨y,m.1,m.2,λ_=>⟨s,D,λp=>by simp at r;omega⟩,λp=>V⟩ ((e.trans i).trans j),λr=>fU ?_ ((e.trans i).trans j)⟩;have E:c.aS=0:=by simp at r;omega
  constructor
  .intro p;have:c.aL=[]:=by simp at p;exact List.length_eq_zero_iff.1 V
   exact⟨y,m.1,m.2,λ_=>⟨s,D,λ_=>this⟩,λp=>V⟩
  .intro a;have:=(a.uP k).2.2 E;rw[this]at B;simp[B]
 .have k:0<c.aS:=by simp at v;omega
  refine dZ (n:=c.aL.length) V (λz p=>J o p/\∀w∈c.aL.take z,pS h w) ⟨i,aH⟩ ?_;rintro z H L μ M ⟨j,D⟩ I
  refine dit (λl=>?_) λl=>?_
  .let⟨w,r⟩:=cg c.aL z;refine⟨V,V,w,by simpa using(x.ext (e.trans j)).aO r,(Lc (cT.ext (e.trans j) F) (G w (aq r))).aI j q λb4 E p K s=>⟨b4,rfl,λg=>cr (λa=>nb p g ((a.pG k).1 w (aq r))) (e.trans s),λg=>I V E ⟨s,bM r D (yb p g)⟩⟩⟩
  .refine(aY _ _ _ _).aI j q λb4 E p K s=>⟨b4,rfl,fU ?_ (e.trans s)⟩;rw[p];exact⟨λr=>⟨y,m.1,m.2,λg=>V,λ_=>⟨cU V D,r⟩⟩,λa=>(a.pG k).2⟩
def Nf{i:Nat}(b:h[i]? =some c)(a:Nat):dP (h.take (i+1)) a=dP (h.take i) a+eK c.aL a:=by
 rw[bC b,tU];simp[dP]
def qH{l:List Int}{k:Nat}(b:l[k]? =some w)(a:Nat):eK (l.take (k+1)) a=eK (l.take k) a+(if w=1000+(a:Int)then 1 else 0):=by
 rw[bC b,nP];simp[eK]
def AN:∀(h:List bS)(a:Nat),(∀c∈h,c.aL.length<=3)->dP h a<=3*h.length
 |[],a,_=>by simp[dP]
 |c::h,a,b=>by
  have e:=AN h a λd hd=>b d (by simp[hd]);have f:=kA c.aL a;have g:=b c aH;simp only[dP,aW];omega
def If(b:∀c∈h,nF h c)(d:c∈h)(e:w∈c.aL):gZ h w\/w<1000:=by
 by_cases f:0<c.aS
 .rcases((b c d).pG f).1 w e with a|a
  .have:=a.2;exact Or.inr V
  .exact Or.inl a
 .have:=((b c d).uP V).2.1 w e;exact Or.inr V
def Aa{B:O}(z:cT d B h)(u:∀c∈h,nF h c)(R:Nt h)(af:h.length<=1000000000):qW 89 [O.v B] d (rZ h.length (dP h)):=by
 apply FJ;have hl:=z.len;have en:Int.toNat (B.len:Int)=h.length:=V;rw[en];refine⟨V,V,V,V,?_⟩;intro C;have Y:J d C:=(J.aF d).aP _;have K:cz C d.size ay ((rZ h.length (λ_=>0)).map Ce.i):=Lt d _;clear_value C;have Q:∀i,∀c∈h.take i,c.aL.length<=3:=λi c S=>(u c (cX S)).fl;refine dZ (n:=h.length) V (λi e=>J d e/\cz e d.size ay ((rZ h.length (λa=>dP (h.take i) a)).map Ce.i)) ⟨Y,by simpa[dP]using K⟩ ?_;rintro i m2 Z μ hi ⟨I,p⟩ X
 refine dit (λN=>?_) λN=>?_
 .let⟨c,v⟩:=cg h i;have x:=aq v;have ab:=(u c x).fl;refine dZ (n:=c.aL.length) V (λk e=>J d e/\cz e d.size ay ((rZ h.length (λa=>dP (h.take i) a+eK (c.aL.take k) a)).map Ce.i)) ⟨I,by simpa[eK]using p⟩ ?_;rintro k U aa ν hk ⟨m,o⟩ H;obtain⟨f,y,_,_,s⟩:=(cT.ext m z).aO v;have ac:=y.len;refine⟨V,V,f,by simpa using s,dit (λP=>?_) λP=>?_⟩
  .let⟨w,l⟩:=cg c.aL k;have G:=aq l;have F:=R c x w G;refine⟨V,V,f,by simpa using s,V,V,w,by simpa using y.aO l,(gR (cT.ext m z) F).then λb W j e=>⟨b,rfl,λt=>?_,λt=>?_⟩⟩
   .have A:=j.1 t;have E:=ax (cw A).1;have L:cQ (w -1000)=(ix w:Nat):=by have:=A.1;have:=F.2;unfold ix;rw[aQ V V];omega
    have M:Int.toNat ((ix w:Nat):Int)=ix w:=V;have q:=o.ext e;have q1:=AN (h.take i) (ix w) (Q i);have q2:=kA (c.aL.take k) (ix w);have q3:=qA (h.take i) (ix w);have q4:=iA (c.aL.take k) (ix w);have q5:(h.take i).length<=h.length:=bN;have q6:(c.aL.take k).length<=3:=bN;refine⟨V,V,f,by simpa using e.af s,V,V,w,by simpa using(y.ext e).aO l,?_⟩;rw[L,M];simp only[O.dS,O.fG,O.iY,bE,cO];refine⟨V,V,_,sX q E,V,V,Nj q E,?_⟩;rw[show cQ (dP (h.take i) (ix w)+eK (c.aL.take k) (ix w)+1)=dP (h.take i) (ix w)+eK (c.aL.take k) (ix w)+1 from aQ V V];refine H V _ ⟨(m.trans e).ai (ad _) _ _,?_⟩;have D:=HZ q (ix w) (dP (h.take i) (ix w)+eK (c.aL.take k) (ix w)+1);rw[eY (g:=λa=>dP (h.take i) a+eK (c.aL.take (k+1)) a)]at D
    .exact D
    .intro b j;rw[qH l];by_cases r:b=ix w
     .subst r;rw[ak rfl,ak (iC A.1).symm];omega
     .rw[ae r,ae (λT=>r (by rw[T,jv]))];omega
   .refine H V W ⟨m.trans e,?_⟩;have q:w<1000:=(If u x G).resolve_left (fb j t);rw[eY (g:=λa=>dP (h.take i) a+eK (c.aL.take k) a)]
    .exact o.ext e
    .intro b j;rw[qH l,ae V];omega
  .refine X V U ⟨m,?_⟩
   have e:c.aL.take k=c.aL:=cy V;rw[e]at o;rw[eY (g:=λa=>dP (h.take i) a+eK c.aL a)]
   .exact o
   .intro b j;exact Nf v b
 .rw[cy V]at p;exact⟨_,rfl,Om p V,I⟩
end
section
variable{a b c:Nat}{h:List bS}{M g:E}{e:Nat->Bool}
def lT(mk:Nat->Bool):Nat->Nat
 |0=>0
 |c+1=>lT mk c+(if mk c=true then 1 else 0)
def Eu(mk:Nat->Bool):∀c,lT mk c<=c
 |0=>ad _
 |c+1=>by have:=Eu mk c;simp only[lT];split<;>omega
def J0{mk:Nat->Bool}:∀{c:Nat},(lT mk c=c<->∀i,i<c->mk i=true)
 |0=>by simp[lT]
 |c+1=>by
  have g:=Eu mk c;have a:=J0 (mk:=mk) (c:=c);simp only[lT];constructor
  .intro h i f;have b:mk c=true:=by by_cases e:mk c=true;exact e;rw[ae e]at h;omega
   rw[ak b]at h;rcases aU i c with d|d
   .exact a.1 V i d
   .have:i=c:=V;rw[this];exact b
  .intro h;rw[ak (h c V),a.2 λi f=>h i V]
def J1{mk a:Nat->Bool}:∀{c:Nat},(∀i,i<c->mk i=a i)->lT mk c=lT a c
 |0,_=>rfl
 |c+1,h=>by simp only[lT];rw[J1 λi b=>h i V,h c V]
def jV(mk:Nat->Bool)(a:Nat):Nat->Bool:=λx=>if x=a then true else mk x
def pW(mk:Nat->Bool)(a:Nat):jV mk a a=true:=ak rfl
def kL{mk:Nat->Bool}(h:b≠a):jV mk a b=mk b:=ae h
def ve{mk:Nat->Bool}(h:mk b=true):jV mk a b=true:=by unfold jV;split;rfl;exact h
def yE{mk:Nat->Bool}{a:Nat}(h:mk a=false):∀{c:Nat},a<c->lT (jV mk a) c=lT mk c+1
 |0,d=>absurd d (fV _)
 |c+1,d=>by
  simp only[lT];rcases aU a c with b|b
  .rw[yE h b,kL V];omega
  .have e:a=c:=V;subst e;rw[pW,ak rfl,h,ae aH,J1 (a:=mk) λi f=>kL V]
def MA(h:List bS)(mk:Nat->Bool):Prop:=
 ∃t:Nat->Nat,(∀j,mk j=true->t j<=lT mk h.length)/\∀(i:Nat)(c:bS),h[i]? =some c->mk i=true->∀w∈c.aL,1000<=w->mk (ix w)=true/\t (ix w)<t i
def OF(mk:Nat->Bool)(a:List Int):Prop:=∀w∈a,1000<=w->mk (ix w)=true
def MA.set{mk:Nat->Bool}(u:MA h mk){j:bS}(l:h[a]? =some j)(e:mk a=false)(s:OF mk j.aL):MA h (jV mk a):=by
 let⟨z,k,r⟩:=u;have t:=ax l;have q:=yE e t;refine⟨λx=>if x=a then lT mk h.length+1 else z x,λv n=>?_,λi d hd m w p o=>?_⟩
 .simp only[q];split
  .omega
  .rename_i b;rw[kL b]at n;have:=k v n;omega
 .by_cases f:i=a
  .subst f;rw[l]at hd;simp at hd;subst hd;have b:=s w p o;have g:ix w≠i:=λc=>by rw[c,e]at b;cases b
   simp only[ak,ae g];exact⟨ve b,oh (k _ b)⟩
  .rw[kL f]at m;let⟨b,y⟩:=r i d hd m w p o;have g:ix w≠a:=λc=>by rw[c,e]at b;cases b
   simp only[ae f,ae g];exact⟨ve b,y⟩
def RU{mk:Nat->Bool}(n:MA h mk)(m:∀a∈h,∀w∈a.aL,1000<=w->ix w<h.length)(k:∀(i:Nat)(a:bS),h[i]? =some a->mk i=true\/¬OF mk a.aL):
 lT mk h.length=h.length<->Sv h:=by
 rw[J0]
 constructor
 .intro g
  obtain⟨t,_,f⟩:=n
  exact⟨t,λi a b w e d=>(f i a b (g i (ax b)) w e d).2⟩
 .rintro⟨j,o⟩
  have q:∀(c i:Nat),j i<c->i<h.length->mk i=true:=by
   intro c;induction c with
   |zero=>intro i g;omega
   |succ c p=>
    intro i g l;let⟨a,b⟩:=dI l;rcases k i a b with f|f
    .exact f
    .refine absurd (λw e d=>?_) f;exact p (ix w) (oh (o i a b w e d)) (m a (aq b) w e d)
  exactλi g=>q (j i+1) i V g
def jS(c:Nat)(e:Nat->Bool):List Ce:=(List.range c).map λa=>Ce.t (e a)
def mg(c:Nat)(e:Nat->Bool):(jS c e).length=c:=by simp[jS]
def tK(B:cz M b fj (jS c e))(h:a<c):af M b a=some (vb (e a)):=by
 rw[B.cJ a];unfold jS;rw[bR,xu h];rfl
def JA(B:cz M b fj (jS c e))(a:Nat):cz (ai M b a [.t true]) b fj (jS c (jV e a)):=by
 have j:=B.ai (m:=M) (o:=a) (r:=[.t true]);have d:iO (jS c e) a [.t true]=jS c (jV e a):=by
  apply eL;intro i;simp only[iO];by_cases k:i<c
  .have f:∀g:Nat->Bool,(jS c g)[i]? =some (.t (g i)):=λg=>by unfold jS;rw[bR,xu k];rfl
   rw[f];by_cases d:a=i
   .subst d;rw[dQ (by rw[mg];exact k),pW]
   .rw[dT d,f,kL (λh=>d h.symm)]
  .rw[bT (by rw[iH,mg];omega),bT (by rw[mg];omega)]
 rw[d]at j;exact j
def Ep(M:E)(c:Nat):cz (M.push (.cells (bD (me [.t false] c)) fj)) M.size fj (jS c (λ_=>false)):=by
 have e:me [.t false] c=jS c (λ_=>false):=by
  unfold me jS;rw[List.map_const'];simp
 rw[e];exact cz.push M _ _
def Fi{mk:Nat->Bool}{e:O}{d:List Int}(B:cz g b fj (jS c mk))(k:ap g e d)(p:∀w∈d,ug w)(E:∀w∈d,1000<=w->ix w<c):
 dz cq 138 [O.v (.mk b 0 c c),O.v e] g (OF mk d):=by
 apply zd
 have H:=k.len
 have K:=k.fu
 refine dZ (n:=d.length) V (λr a=>J g a/\OF mk (d.take r)) ⟨J.aF _,λw p=>by simp at p⟩ ?_
 rintro r L I μ G ⟨f,l⟩ x
 refine dit (λA=>?_) λA=>?_
 .let⟨w,h⟩:=cg d r
  have q:=aq h
  have C:=p w q
  refine⟨V,V,w,by simpa using(k.ext f).aO h,(dJ _ _).then λF u t i=>⟨F,rfl,λo=>?_,λo=>?_⟩⟩
  .have s:=t.1 o
   have D:=E w q s
   have y:cQ (w -1000)=(ix w:Nat):=by have:=C.2;unfold ix;rw[aQ V V];omega
   have z:Int.toNat ((ix w:Nat):Int)=ix w:=V
   refine⟨V,V,w,by simpa using(k.ext (f.trans i)).aO h,?_⟩
   rw[y,z]
   simp only[O.dS,O.fG,O.iY,bE,cO]
   refine⟨V,V,mk (ix w),tK (B.ext (f.trans i)) D,λj=>cr (λa=>by rw[a w q s]at j;cases j) (f.trans i),λj=>x V u ⟨f.trans i,?_⟩⟩
   rw[OF,bC h]
   intro v a m
   rcases List.mem_append.1 a with a|a
   .exact l v a m
   .simp at a;subst a;simpa using j
  .refine x V u ⟨f.trans i,?_⟩
   rw[OF,bC h]
   intro v a m
   rcases List.mem_append.1 a with a|a
   .exact l v a m
   .simp at a;subst a;exact absurd m (fb t o)
 .rw[cy V]at l
  exact jr l f
def Fy{y:O}(L:cT g y h)(hc:∀d∈h,nF h d)(aa:Nt h)(ae:h.length<=1000000000):dz cq 90 [O.v y] g (Sv h):=by
 apply zI;have hl:=L.len;have en:Int.toNat (y.len:Int)=h.length:=V;rw[en];have N:∀d∈h,∀G∈d.aL,1000<=G->ix G<h.length:=λd hm G hw y=>by
  rcases If hc hm hw with o|o
  .exact ax (cw o).1
  .omega
 refine⟨V,V,V,V,?_⟩;intro F;have x1:J g F:=(J.aF g).aP _;have W:cz F g.size fj (jS h.length (λ_=>false)):=Ep g _;clear_value F;have X:lT (λ_=>false) h.length=0:=by
  generalize h.length=c;induction c with
  |zero=>rfl
  |succ c a=>simp[lT,a]
 refine RC (γ:=(Nat->Bool)×Bool) (λf R fW u=>fW=f.2/\R=(lT f.1 h.length:Nat)/\J g u/\cz u g.size fj (jS h.length f.1)/\MA h f.1/\(fW=false->∀(i:Nat)(d:bS),h[i]? =some d->f.1 i=true\/¬OF f.1 d.aL))
  (λf=>if f.2=true then h.length -lT f.1 h.length+1 else 0) (λ_=>false,true) ⟨rfl,by rw[X];rfl,x1,W,⟨λ_=>0,aH,aH⟩,aH⟩ ?_
 rintro⟨mk,fW⟩ R af m2 ab μ ⟨rfl,rfl,U,H,B,I⟩ T
 simp only at H B I T⊢
 refine⟨λo=>?_,λo=>?_⟩
 .refine⟨λS z i u=>∃(k:Nat)(a:Nat->Bool),i=k/\k<=h.length/\S=(lT a h.length:Nat)/\J g u/\cz u g.size fj (jS h.length a)/\MA h a/\lT mk h.length<=lT a h.length/\(z=true->lT mk h.length<lT a h.length)/\
   (z=false->∀(i:Nat)(d:bS),i<k->h[i]? =some d->a i=true\/¬OF a d.aL),λ_ _ i _=>((h.length:Int) -i).toNat,⟨0,mk,rfl,dE _,rfl,U,H,B,ad _,aH,λ_ i d j=>absurd j (fV _)⟩,?_⟩
  rintro S z i m3 ⟨k,a,rfl,hk,rfl,v,n,w,Q,E,E3⟩;have ac:=Eu a h.length;have oD:∀{P:Prop},k<h.length->(cQ ((k:Int)+1)=((k+1:Nat):Int)->((h.length:Int) -((k+1:Nat):Int)).toNat<((h.length:Int) -(k:Int)).toNat->P)->P:=λM hP=>hP (km M V) (Cu M);refine dit (λh2=>?_) λh2=>?_
  .have p:k<h.length:=V;let⟨d,s⟩:=dI p;have Y:Int.toNat (k:Int)=k:=V;simp only[O.dS,O.fG,O.iY,bE,cO,Y];refine⟨V,V,a k,tK n p,λC=>?_,λC=>?_⟩
   .have x:a k=false:=by simpa using C
    obtain⟨e,hf,_,_,Z⟩:=(cT.ext v L).aO s;refine⟨V,V,e,Z,(Fi n hf (aa d (aq s)) (N d (aq s))).then λb m4 K A=>⟨b,rfl,λD=>?_,λD=>?_⟩⟩
    .have j:=n.ext A;have m:=yE x p;refine⟨V,V,j.fg (by rw[mg];omega),?_⟩;refine oD p λr t=>?_;rw[r,show cQ ((lT a h.length:Nat)+1:Int)=((lT (jV a k) h.length:Nat):Int)by rw[m,aQ V V];omega];exact⟨⟨k+1,jV a k,rfl,V,rfl,(v.trans A).ai (ad _) _ _,JA j k,w.set s x (K.1 D),V,λ_=>V,λl=>by cases l⟩,t⟩
    .refine oD p λr t=>?_;rw[r];refine⟨⟨k+1,a,rfl,V,rfl,v.trans A,n.ext A,w,Q,E,λl j q hj hd=>?_⟩,t⟩;rcases aU j k with m|m
     .exact E3 l j q m hd
     .have:j=k:=V;subst this;rw[s]at hd;simp at hd;subst hd;exact Or.inr (fb K D)
   .have x:a k=true:=by simpa using C
    refine oD p λr t=>?_;rw[r];refine⟨⟨k+1,a,rfl,V,rfl,v,n,w,Q,E,λl j q hj hd=>?_⟩,t⟩;rcases aU j k with m|m
    .exact E3 l j q m hd
    .have:j=k:=V;subst this;exact Or.inl x
  .refine T (a,z) _ _ m3 ⟨rfl,rfl,v,n,w,λl j q hd=>E3 l j q (oh (ax hd)) hd⟩ ?_
   simp only[o,LG];split
   .rename_i m;have:=E m;omega
   .omega
 .refine fU ?_ U;rw[<-RU B N (I o)];simp;omega
def FZ{r:O}(m:cT g r h)(C:Nt h)(K:h.length<=1000000000):dz cq 46 [O.v r] g (Gq h):=by
 apply Ak;have Z:=m.len;refine⟨λs=>s=g/\nv h,⟨λq=>?_,λq=>⟨rfl,λc d=>?_⟩⟩,?_⟩
 .simp at q;rw[aQ V V];let⟨c,d⟩:=cg h (h.length -1);obtain⟨e,B,g1,_,_⟩:=m.aO d;have i:Int.toNat ((r.len:Int) -1)=h.length -1:=V;rw[i];refine⟨V,V,c.aS,g1,λj=>cr (λl=>l.jc c d (by simpa using j)) (J.aF _),λj=>⟨rfl,λo hd=>?_⟩⟩;rw[d]at hd;simp at hd;subst hd;simpa using j
 .have:=ax d;simp at q;omega
 rintro S ⟨rfl,R⟩;refine dZ (n:=h.length) V (λi s=>J S s/\∀c∈h.take i,nF h c) ⟨J.aF _,aH⟩ ?_;rintro i m2 W μ l ⟨p,G⟩ T
 refine dit (λq=>?_) λq=>?_
 .let⟨c,d⟩:=cg h i;let⟨e,B,g1,g2,E⟩:=(cT.ext p m).aO d;refine⟨V,V,c.aS,by simpa using g1,c.mK,by simpa using g2,e,by simpa using E,(FX (cT.ext p m) B (C c (aq d))).then λb D u w=>⟨b,rfl,λj=>cr (λl=>nb u j (l.cells c (aq d))) (p.trans w),λj=>T V D ⟨p.trans w,bM d G (yb u j)⟩⟩⟩
 have A:=cU V G;refine(Aa (cT.ext p m) A C K).mono ?_;rintro _ D ⟨U,rfl,I,w⟩;have Q:=I.len;rw[nD]at Q;refine⟨U,rfl,dZ (n:=h.length) V (λi s=>J D s/\∀(a:Nat)(c:bS),a<i->h[a]? =some c->0<c.aS->dP h a<=c.aS) ⟨J.aF _,λa c t=>absurd t (fV _)⟩ ?_⟩;rintro i L X ν Y ⟨x,H⟩ M;have v:=(p.trans w).trans x;refine dit (λj=>?_) λj=>?_
 .let⟨c,d⟩:=cg h i;let⟨e,B,g1,g2,E⟩:=(cT.ext v m).aO d;have fW:(0<c.aS->dP h i<=c.aS)->∀(a:Nat)(o:bS),a<i+1->h[a]? =some o->0<o.aS->dP h a<=o.aS:=λP a o t hd=>by
   rcases aU a i with F|F
   .exact H a o F hd
   .have:a=i:=V;subst this;rw[d]at hd;simp at hd;subst hd;exact P
  refine⟨V,V,c.aS,by simpa using g1,λy=>?_,λy=>M V L ⟨x,fW λz=>by simp at y;omega⟩⟩;have N:=(I.ext x).aO (k:=i) (ue (f:=dP h) (show i<h.length by omega));refine⟨V,V,c.aS,by simpa using g1,V,V,dP h i,by simpa using N,λz=>cr (λl=>?_) v,λz=>M V L ⟨x,fW λ_=>by simp at z;omega⟩⟩;have:=l.dP i c d (by simpa using y);simp at z;omega
 .refine(Fy (cT.ext v m) A C K).then λb y u o=>⟨b,rfl,fU ?_ (v.trans o)⟩;rw[u];exact⟨λt=>⟨R,A,λa c d r=>H a c (oh (ax d)) d r,t⟩,λl=>l.JS⟩
end
section
variable{m:E}{f:be}
structure fO(m:E)(bB hp fr:O)(s:St):Prop where
 bB:ap m bB s.bB
 heap:cT m hp s.heap
 aj:lW m fr s.aj
def fO.ext{m d:E}{bB c b:O}{s:St}(h:fO m bB c b s)(a:J m d):fO d bB c b s:=⟨h.bB.ext a,cT.ext a h.heap,lW.ext a h.aj⟩
def RF(f:be):Prop:=(∀w∈f.av,ug w)/\(∀w∈f.ba,ug w)/\(∀w∈f.bA,ug w)
structure vJ(s:St):Prop where
 bL:ug s.bL
 heap:Nt s.heap
 aj:∀f∈s.aj,RF f
 lh:s.heap.length<=10000000
 lf:s.aj.length<=10000000
 lr:∀f∈s.aj,f.av.length<=10000000/\f.ba.length<=10000000/\f.bA.length<=10000000
def OC(s:St)(bB b a:O):Value:=.agg #[vi s.cW,vi s.value,vi s.bL,vi s.eD,O.v bB,O.v b,O.v a]
def Dj{f:O}{l:List Int}(c:ap m f l):dz cq 45 [O.v f] m (∀a∈l,gY a):=by
 apply xG;have s:=c.len;have t:=c.fu;refine dZ (n:=l.length) V (λk b=>J m b/\∀a∈l.take k,gY a) ⟨J.aF _,aH⟩ ?_;rintro k u I μ r ⟨a,g⟩ q
 refine dit (λj=>?_) λj=>?_
 .let⟨w,d⟩:=cg l k;exact⟨V,V,w,by simpa using(c.ext a).aO d,(aY _ _ _ _).then λi p e h=>⟨i,rfl,λb=>cr (λo=>nb e b (o w (aq d))) (a.trans h),λb=>q V p ⟨a.trans h,bM d g (yb e b)⟩⟩⟩
 .exact jr (cU V g) a
def QU(h:List bS)(w o:Int):Prop:=(gY w\/1000<=w)/\(0<=o/\o<=999999)/\(0<o->gZ h w)
def Gb{x z o aa:O}{h:List bS}(hh:cT m x h)(C:ap m z f.av)(R:ap m o f.ba)(ad:f.ba.length=f.av.length)(ab:RF f)(Y A Z:Int):
 dz cq 91 [O.v x,.agg #[vi Y,vi A,vi Z,O.v z,O.v o,O.v aa]] m (Gv h f):=by
 apply Ao
 simp -zeta only[aE,aD]
 intro b
 have p:J m b:=(J.aF m).aP _
 have s1:b.size=m.size+1:=by simp[b]
 clear_value b
 have v:∀A∈[m.size],A<b.size:=bN
 have ah:=C.len
 have ag:=R.len
 have ae:=C.fu
 refine dZ (n:=f.av.length) V (λk m'=>J b m'/\∀(j:Nat)(w o:Int),j<k->f.av[j]? =some w->f.ba[j]? =some o->QU h w o) ⟨J.aF _,λj w o P=>absurd P (fV _)⟩ ?_
 rintro k U K μ Q ⟨I,S⟩ W
 refine dit (λh1=>?_) λh1=>?_
 .let⟨w,i⟩:=cg f.av k
  let⟨r,B⟩:=cg f.ba k
  have gw:∀{M:E},J b M->af M z.az (z.off+Int.toNat (k:Int)*1)=some (vi w):=λD=>by simpa using(C.ext (p.trans D)).aO i
  have L:∀{M:E},J b M->af M o.az (o.off+Int.toNat (k:Int)*1)=some (vi r):=λD=>by simpa using(R.ext (p.trans D)).aO B
  have fW:QU h w r->∀(j:Nat)(w o:Int),j<k+1->f.av[j]? =some w->f.ba[j]? =some o->QU h w o:=λa j w' G P y q=>by
   rcases aU j k with N|N
   .exact S j w' G N y q
   .have:j=k:=V;subst this;rw[i]at y;rw[B]at q;simp at y q;subst y;subst q;exact a
  have F:¬QU h w r->¬Gv h f:=λa Q=>a (Q.de k w r i B)
  have ka:∀{M:E},J b M->(gY w\/1000<=w)->(0:Int)<=(k:Int)/\(k:Int)<(o.len:Int)/\∃X:Int,af M o.az (o.off+Int.toNat (k:Int)*1)=some (vi X)/\
   aN cq 44 [vi X,vi (0:Int),vi (999999:Int)] M λac l=>eG [m.size] M l/\∃H:Bool,ac=vb H/\
   ((!H)=true->∃c:Bool,vb false=.bool c/\(c=true<->Gv h f)/\J m l)/\
   ((!H)=false->(0:Int)<=(k:Int)/\(k:Int)<(o.len:Int)/\∃g:Int,af l o.az (o.off+Int.toNat (k:Int)*1)=some (vi g)/\
   ((decide (g>(0:Int)))=true->aN cq 51 [O.v x,vi w] l λs d=>eG [m.size] l d/\∃e:Bool,s=vb e/\
    ((!e)=true->∃c:Bool,vb false=.bool c/\(c=true<->Gv h f)/\J m d)/\((!e)=false->K (cQ ((k:Int)+(1:Int))) d/\μ (cQ ((k:Int)+(1:Int))) d<μ k U))/\
   ((decide (g>(0:Int)))=false->K (cQ ((k:Int)+(1:Int))) l/\μ (cQ ((k:Int)+(1:Int))) l<μ k U)):=λ{M} xM hi=>by
   refine⟨V,V,r,L xM,(aY _ _ _ _).aI xM v λb3 m3 s x3 c=>⟨b3,rfl,λd=>cr (F λa=>nb s d a.2.1) (p.trans c),λd=>?_⟩⟩
   have T:=yb s d
   refine⟨V,V,r,L c,λe=>?_,λe=>W V _ ⟨c,fW ⟨hi,T,λx=>by simp at e;omega⟩⟩⟩
   refine(gR (cT.ext (p.trans c) hh) (ab.1 w (aq i))).aI c v λb4 m4 t x4 u=>⟨b4,rfl,λg=>cr (F λa=>nb t g (a.2.2 (by simpa using e))) (p.trans u),λg=>W V _ ⟨u,fW ⟨hi,T,λ_=>yb t g⟩⟩⟩
  refine⟨V,V,w,gw I,(aY _ _ _ _).aI I v λb3 m3 s x3 c=>⟨b3,rfl,λd=>?_,λd=>ka c (Or.inl (yb s d))⟩⟩
  refine(dJ _ _).aI c v λb4 m4 t x4 u=>⟨b4,rfl,λe=>cr (F λa=>?_) (p.trans u),λe=>ka u (Or.inr (yb t e))⟩
  rcases a.1 with g|g
  .exact nb s d g
  .exact nb t e g
 .exact jr ⟨λj w G i q=>S j w G (oh (ax i)) i q⟩ (p.trans I)
def DS{Q p bB c R:O}{l:cp}{s:St}(I:eX m Q p l)(i:fO m bB c R s)(ah:vJ s){k:Nat}(H:s.aj[k]? =some f):
 dz cq 47 [.agg #[O.v Q,O.v p],OC s bB c R,vi k] m (JK l s.heap (mR s.aj k) f):=by
 apply yf
 simp -zeta only[aE,aD]
 intro t b
 have x2:J m b:=((J.aF m).aP _).aP _
 have s1:t.size=m.size+1:=by simp[t]
 have s2:b.size=m.size+2:=by simp[b,s1]
 clear_value b
 have au:=i.aj.len
 have av:=i.aj.fu
 have ay:=ax H
 have aI:=I.cv.len
 have aK:=I.cv.fu
 let⟨an,am,af,hr,Z,he,g0,g1,g2,g3,g4,g5⟩:=(i.ext x2).aj.aO H
 have ek:Int.toNat (k:Int)=k:=V
 rw[ek]
 refine⟨V,V,_,g0,_,g1,_,g2,an,g3,am,g4,af,g5,?_⟩
 intro m3 n
 have x4:J b n:=((J.aF b).aP _).ai (ad _) _ _
 have s4:n.size=b.size+1:=by simp[n,m3,aA]
 clear_value n
 have hl:∀z∈[b.size,t.size,m.size],z<n.size:=bN
 have M:=x2.trans x4
 rw[aQ V V]
 refine(aY _ _ _ _).aI (J.aF _) hl λb5 u T x _=>⟨b5,rfl,λA=>cr (λa=>nb T A ⟨a.dV.1,oh a.dV.2⟩) (M.trans x),λA=>?_⟩
 have aj:=yb T A
 have N:=M.trans x
 let⟨v,hq⟩:=cg l.cv f.dV.toNat
 have d:dm l f.dV=v:=by unfold dm;rw[hq];rfl
 let⟨pa,pl,pc,aF,aJ,aa,k0,k1,k2,k3,k4⟩:=(I.ext N).cv.aO hq
 have aG:=aa.len
 have aH:=aa.fu
 refine⟨V,V,pa,k0,pl,k1,_,k2,_,k3,pc,k4,?_⟩
 intro m6 o
 have x7:J u o:=((J.aF u).aP _).ai (ad _) _ _
 have s7:o.size=u.size+1:=by simp[o,m6,aA]
 have z5:=x.size
 clear_value o
 have K:∀z∈[u.size,b.size,t.size,m.size],z<o.size:=bN
 have P:=N.trans x7
 rw[aQ V V]
 refine(aY _ _ _ _).aI (J.aF _) K λb8 m8 U y _=>⟨b8,rfl,λB=>cr (λa=>nb U B ⟨a.pc.1,by have:=a.pc.2;rw[d]at this;omega⟩) (P.trans y),λB=>?_⟩
 have ak:=yb U B
 have e:=P.trans y
 have aM:=hr.len
 have az:=Z.len
 have ar:=he.len
 refine⟨λC=>cr (λa=>by have:=a.lr;rw[d]at this;simp at C;omega) e,λC=>?_⟩
 have q1:(f.av.length:Int)=v.av:=by simp at C;omega
 refine⟨λD=>cr (λa=>by have:=a.lo;rw[d]at this;simp at D;omega) e,λD=>?_⟩
 have q2:(f.ba.length:Int)=v.av:=by simp at D;omega
 refine⟨λE=>cr (λa=>by have:=a.lh;rw[d]at this;simp at E;omega) e,λE=>?_⟩
 have q3:(f.bA.length:Int)=v.av:=by simp at E;omega
 have ai:=ah.aj f (aq H)
 have ac:=((x4.trans x).trans x7).trans y
 refine(Gb (i.ext e).heap (hr.ext ac) (Z.ext ac) V ai _ _ _).aI y K λb9 m9 W x9 ao=>⟨b9,rfl,λF=>cr (λa=>nb W F a.av) (e.trans x9),λF=>?_⟩
 have al:=yb W F
 have q:=e.trans x9
 have mk:(mR s.aj k=none->f.dst=0)->(∀p,mR s.aj k=some p->0<=f.dst/\f.dst<p.ba.length/\aO p.ba f.dst=0)->JK l s.heap (mR s.aj k) f:=λha hb=>
  ⟨⟨aj.1,V⟩,⟨ak.1,by rw[d];omega⟩,by rw[d];exact q1,by rw[d];exact q2,by rw[d];exact q3,al,ha,hb⟩
 refine⟨λG=>fU ?_ q,λG=>?_⟩
 .have g:k=0:=by simp at G;omega
  subst g
  refine⟨λh=>mk (λ_=>by simpa using h) (λp c=>by simp[mR]at c),λa=>by simpa using a.first rfl⟩
 .have aw:k≠0:=by simp at G;omega
  obtain⟨j,rfl⟩:∃j,k=j+1:=⟨k -1,V⟩
  have ej:cQ (((j+1:Nat):Int) -1)=(j:Int):=by rw[aQ V V];omega
  have ag:Int.toNat (j:Int)=j:=V
  rw[ej,ag]
  let⟨g,X⟩:=cg s.aj j
  have r:mR s.aj (j+1)=some g:=X
  obtain⟨r',o',e',aL,L,ap,_,_,_,_,y4,_⟩:=(i.ext q).aj.aO X
  have aB:=L.len
  have aC:=L.fu
  refine⟨V,V,o',y4,?_⟩
  rw[aQ V V]
  refine(aY _ _ _ _).aI ao K λae aN S w _=>⟨ae,rfl,λh=>?_,λh=>cr (λa=>?_) (q.trans w)⟩
  .have hd:=S.1 h
   let⟨ab,hv⟩:=cg g.ba f.dst.toNat
   have ev:aO g.ba f.dst=ab:=NF hv
   refine⟨V,V,o',w.af y4,V,V,ab,(L.ext w).aO hv,fU ?_ (q.trans w)⟩
   refine⟨λh9=>mk (λY=>by rw[r]at Y;cases Y) (λp c=>by rw[r]at c;simp at c;subst c;exact⟨hd.1,V,by rw[ev];simpa using h9⟩),λa=>?_⟩
   have:=(a.next g r).2.2
   rw[ev]at this;simpa using this
  .have:=a.next g r
   exact fb S h ⟨this.1,V⟩
end
section
variable{i:Nat}{f:be}
def Kk{b:List be}(c:b[i]? =some f)(a:Nat):holds (b.take (i+1)) a=holds (b.take i) a+eK f.bA a:=by
 rw[bC c,ez,iE]
def Ha{b:List be}(c:b[i]? =some f)(a:Nat):eA (b.take (i+1)) a=eA (b.take i) a+cN f.av f.ba a:=by
 rw[bC c,fF,j7]
def nQ:∀{av ba:List Int}{a:Nat}{w o:Int},av[a]? =some w->ba[a]? =some o->∀b,cN (av.take (a+1)) (ba.take (a+1)) b=cN (av.take a) (ba.take a) b+(if w=1000+(b:Int)then o else 0)
 |[],_,_,_,_,h,_,_=>by simp at h
 |_::_,[],_,_,_,_,h,_=>by simp at h
 |r::f,p::e,0,w,o,c,d,b=>by simp at c d;subst c;subst d;simp[cN]
 |r::f,p::e,a+1,w,o,c,d,b=>by
  have:=nQ (av:=f) (ba:=e) (a:=a) (by simpa using c) (by simpa using d) b;simp only[Mx,cN]at this⊢;omega
def Kj:∀{a:List be}{n:Nat},(∀f∈a,f.bA.length<=n)->∀b,holds a b<=a.length*n
 |[],n,_,b=>by simp[holds]
 |f::a,n,h,b=>by
  have c:=Kj (a:=a) λg d=>h g (by simp[d]);have e:=c b;have i:=kA f.bA b;have j:=h f aH;simp only[holds,aW];have:((a.length+1:Nat):Int)*n=a.length*n+n:=by push_cast;rw[Za];omega
  omega
def EX:∀{av ba:List Int}{n:Int},0<=n->(∀o∈ba,0<=o/\o<=n)->∀a,0<=cN av ba a/\cN av ba a<=ba.length*n
 |[],ba,n,b,h,a=>by simp[cN];exact Int.mul_nonneg V b
 |_::_,[],n,b,h,a=>by simp[cN]
 |r::e,o::c,n,b,h,a=>by
  have f:=EX (av:=e) (ba:=c) b (λx d=>h x (by simp[d])) a;have d:=h o aH;have:((c.length+1:Nat):Int)*n=c.length*n+n:=by push_cast;rw[Za];omega
  simp only[cN,aW];split<;>omega
def JH:∀{a:List be}{n:Nat}{k:Int},0<=k->(∀f∈a,f.ba.length<=n/\∀o∈f.ba,0<=o/\o<=k)->∀b,0<=eA a b/\eA a b<=a.length*(n*k)
 |[],n,k,_,_,b=>by simp[eA]
 |f::a,n,k,c,h,b=>by
  have e:=JH (a:=a) c (λg d=>h g (by simp[d])) b;let⟨j,d⟩:=h f aH;have g:=EX (av:=f.av) c d b;have i:(f.ba.length:Int)*k<=n*k:=Int.mul_le_mul_of_nonneg_right V c;have:((a.length+1:Nat):Int)*(n*k)=a.length*(n*k)+n*k:=by push_cast;rw[Za];omega
  simp only[eA,aW];omega
section
variable{m:E}{d p bB a b:O}{c:cp}{s:St}
def Hu(H:fO m bB a b s)(Q:vJ s)(hd:s.aj.length<=41):dz cq 48 [OC s bB a b] m (Nv s.heap s.aj):=by
 apply BE;simp -zeta only[aE,aD];intro j;have y:J m j:=(J.aF m).aP _;have s1:j.size=m.size+1:=by simp[j]
 clear_value j;have hl:=H.heap.len;have av:=Q.lh;have ar:=H.aj.len;have en:Int.toNat (a.len:Int)=s.heap.length:=V;rw[en];refine⟨V,V,V,V,?_⟩;intro W;have x2:J j W:=(J.aF j).aP _;have B2:cz W j.size ay ((rZ s.heap.length (λ_=>0)).map Ce.i):=Lt j _;clear_value W;have r:∀{N M':E},J j N->J N M'->eG [m.size] N M':=λP u=>u.da λz r=>P.lt (by simp at r;omega);have ac:=λf A=>(Q.lr f A).2.2;refine dZ (n:=s.aj.length) V (λi x=>J j x/\cz x j.size ay ((rZ s.heap.length (λc=>holds (s.aj.take i) c)).map Ce.i)/\∀f∈s.aj.take i,∀w∈f.bA,w=0\/(1000<=w/\ix w<s.heap.length)) ⟨x2,by simpa[holds]using B2,aH⟩ ?_;rintro i m3 an μ hi ⟨D,K,T⟩ am
 refine dit (λP=>?_) λP=>?_
 .let⟨f,A⟩:=cg s.aj i;have R:=aq A;have au:=ac f R;have ag:(∃w∈f.bA,¬(w=0\/(1000<=w/\ix w<s.heap.length)))->¬Nv s.heap s.aj:=λ⟨w,h,e⟩ v=>e (v.dB f R w h);refine dZ (n:=f.bA.length) V (λk x=>J j x/\cz x j.size ay ((rZ s.heap.length (λc=>holds (s.aj.take i) c+eK (f.bA.take k) c)).map Ce.i)/\∀w∈f.bA.take k,w=0\/(1000<=w/\ix w<s.heap.length)) ⟨D,by simpa[eK]using K,aH⟩ ?_;rintro k o M ν v ⟨F,G,t⟩ C;obtain⟨aA,az,q,_,_,he,_,_,_,_,_,g5⟩:=(H.ext (y.trans F)).aj.aO A;have ap:=he.len;refine⟨V,V,q,by simpa using g5,dit (λu=>?_) λu=>?_⟩
  .let⟨w,h⟩:=cg f.bA k;have U:=aq h;have al:=(Q.aj f R).2.2 w U;refine⟨V,V,q,by simpa using g5,V,V,w,by simpa using he.aO h,λp=>?_,λp=>?_⟩
   .have I:w≠0:=by simpa using p
    refine(dJ _ _).mono ?_;rintro _ m5 ⟨b5,rfl,aa,Y⟩;have X:=F.trans Y;refine⟨r F Y,b5,rfl,λl=>cr (ag ⟨w,U,λe=>?_⟩) (y.trans X),λl=>?_⟩
    .rcases e with e|e
     .exact I e
     .exact nb aa l e.1
    have ah:=yb aa l;have ao:=al.2;have e1:cQ (w -1000)=(ix w:Nat):=by unfold ix;rw[aQ V V];omega
    have e2:Int.toNat ((ix w:Nat):Int)=ix w:=V;rw[e1,e2,show cQ ((a.len:Int) -1)=(a.len:Int) -1 from aQ V V];refine(aY _ _ _ _).mono ?_;rintro _ m6 ⟨b6,rfl,ab,Z⟩;have ai:=X.trans Z;refine⟨r X Z,b6,rfl,λB=>cr (ag ⟨w,U,λe=>?_⟩) (y.trans ai),λB=>?_⟩
    .rcases e with e|e
     .exact I e
     .exact nb ab B ⟨V,V⟩
    have aw:=yb ab B;have S:ix w<s.heap.length:=V;have L:=G.ext (Y.trans Z);simp only[O.dS,O.fG,O.iY,bE,cO];have q1:=Kj (a:=s.aj.take i) (n:=10000000) (λaj hg=>ac aj (cX hg)) (ix w);have q2:=kA (f.bA.take k) (ix w);have q3:=uT (s.aj.take i) (ix w);have q4:=iA (f.bA.take k) (ix w);have q5:(s.aj.take i).length<=41:=bN;have q6:(f.bA.take k).length<=10000000:=bN;refine⟨V,V,_,sX L S,V,V,Nj L S,?_⟩;rw[show cQ (holds (s.aj.take i) (ix w)+eK (f.bA.take k) (ix w)+1)=holds (s.aj.take i) (ix w)+eK (f.bA.take k) (ix w)+1 from aQ V V];have B7:=HZ L (ix w) (holds (s.aj.take i) (ix w)+eK (f.bA.take k) (ix w)+1);rw[eY (g:=λc=>holds (s.aj.take i) c+eK (f.bA.take (k+1)) c)]at B7
    .refine⟨λz r=>bd _ _ _ _ (by simp at r;omega),C V _ ⟨ai.ai (ad _) _ _,B7,bM h t (Or.inr ⟨ah,S⟩)⟩⟩
    .intro z r;rw[qH h];by_cases q:z=ix w
     .subst q;rw[ak rfl,ak (iC ah).symm];omega
     .rw[ae q,ae (λaj=>q (by rw[aj,jv]))];omega
   .have I:w=0:=by simpa using p
    refine C V o ⟨F,?_,bM h t (Or.inl I)⟩;rw[eY (g:=λc=>holds (s.aj.take i) c+eK (f.bA.take k) c)]
    .exact G
    .intro z r;rw[qH h,ae V];omega
  .have I:f.bA.take k=f.bA:=cy V;rw[I]at G t;refine am V o ⟨F,?_,bM A T t⟩
   rw[eY (g:=λc=>holds (s.aj.take i) c+eK f.bA c)]
   .exact G
   .intro z r;exact Kk A z
 .have I:s.aj.take i=s.aj:=cy V;rw[I]at K T;simp only[O.dS,O.fG,O.iY,bE,cO];refine dZ (n:=s.heap.length) V (λk x=>x=m3/\∀(c:Nat)(h:bS),c<k->s.heap[c]? =some h->(h.aS<0->holds s.aj c=1)/\(0<=h.aS->holds s.aj c=0)) ⟨rfl,λc h S=>absurd S (fV _)⟩ ?_;rintro k o M ν v ⟨rfl,t⟩ C;refine⟨λu=>?_,λu=>?_⟩
  .have U:k<s.heap.length:=by first|omega|(simp at u;omega)
   let⟨h,q⟩:=dI U;obtain⟨f,_,g1,_,_⟩:=(H.ext (y.trans D)).heap.aO q;have X:Int.toNat (k:Int)=k:=V;rw[X];have L:=sX K U;have fW:(h.aS<0->holds s.aj k=1)/\(0<=h.aS->holds s.aj k=0)->∀(c:Nat)(h:bS),c<k+1->s.heap[c]? =some h->(h.aS<0->holds s.aj c=1)/\(0<=h.aS->holds s.aj c=0):=λe c d S hd=>by
    rcases aU c k with R|R
    .exact t c d R hd
    .have:c=k:=V;subst this;rw[q]at hd;simp at hd;subst hd;exact e
   have yP:(h.aS<0->holds s.aj k=1)->(0:Int)<=(k:Int)/\(k:Int)<(a.len:Int)/\∃w:Int,af o a.az (a.off+k*3)=some (vi w)/\
    ((decide (w>=(0:Int)))=true->(0:Int)<=(k:Int)/\(k:Int)<(s.heap.length:Int)/\∃F:Int,af o j.size k=some (vi F)/\
    ((F !=(0:Int))=true->∃G:Bool,vb false=.bool G/\(G=true<->Nv s.heap s.aj)/\J m o)/\((F !=(0:Int))=false->M (cQ ((k:Int)+1)) o/\ν (cQ ((k:Int)+1)) o<ν k o))/\
    ((decide (w>=(0:Int)))=false->M (cQ ((k:Int)+1)) o/\ν (cQ ((k:Int)+1)) o<ν k o):=λe=>by
    refine⟨V,V,_,g1,λp=>⟨V,V,_,L,λl=>cr (λv=>?_) (y.trans D),λl=>C V _ ⟨rfl,fW ⟨e,λ_=>by simpa using l⟩⟩⟩,λp=>C V _ ⟨rfl,fW ⟨e,λB=>by simp at p;omega⟩⟩⟩
    have:=v.mE k h q (by simpa using p)
    simp at l;exact l this
   refine⟨V,V,_,g1,λp=>⟨V,V,_,L,λl=>cr (λv=>?_) (y.trans D),λl=>yP λ_=>by simpa using l⟩,λp=>yP λB=>by simp at p;omega⟩;have:=v.kJ k h q (by simpa using p);simp at l;exact l this
  .have l:s.heap.length<=k:=by first|omega|(simp at u;omega)
   exact jr ⟨T,λc h q e=>(t c h (oh (ax q)) q).1 e,λc h q e=>(t c h (oh (ax q)) q).2 e⟩ (y.trans D)
end
end
section
def OT(a:Int):(a==(0:Int))=decide (a=0):=by by_cases h:a=0<;>simp[h]
def Eo(a b:Int):(!((a==(0:Int))==(b==(0:Int))))=false<->(a=0<->b=0):=by
 rw[OT,OT];by_cases c:a=0<;>by_cases d:b=0<;>simp[c,d]
section
variable{m:E}{d p bB c b:O}{a:cp}{s:St}
structure RG(h:List bS)(fs:List be):Prop where
 len:∀f∈fs,f.ba.length=f.av.length
 av:∀f∈fs,Gv h f
def RG.ba{h:List bS}{a:List be}(H:RG h a){f:be}(b:f∈a):∀o∈f.ba,0<=o/\o<=999999:=λo d=>by
 let⟨k,c⟩:=List.mem_iff_getElem?.1 d;let⟨w,e⟩:=cg f.av k (Pk (ax c) (H.len f b));exact((H.av f b).de k w o e c).2.1
def HM(y:fO m bB c b s)(C:vJ s)(hd:s.aj.length<=41)(H:RG s.heap s.aj):qW 93 [OC s bB c b] m (rZ s.heap.length (eA s.aj)):=by
 apply BU;simp -zeta only[aE,aD];intro d;have o:J m d:=(J.aF m).aP _;have s1:d.size=m.size+1:=by simp[d]
 clear_value d;have hl:=y.heap.len;have aB:=C.lh;have aw:=y.aj.len;have en:Int.toNat (c.len:Int)=s.heap.length:=V;rw[en];refine⟨V,V,V,V,?_⟩;intro A;have x2:J d A:=(J.aF d).aP _;have B2:cz A d.size ay ((rZ s.heap.length (λ_=>0)).map Ce.i):=Lt d _;have s2:A.size=d.size+1:=by simp[A]
 clear_value A;refine dZ (n:=s.aj.length) V (λi j=>J d j/\d.size<j.size/\cz j d.size ay ((rZ s.heap.length (λe=>eA (s.aj.take i) e)).map Ce.i)) ⟨x2,V,by simpa[eA]using B2⟩ ?_;rintro i S ao μ hi ⟨B,z3,I⟩ am
 refine dit (λh1=>?_) λh1=>?_
 .let⟨f,v⟩:=cg s.aj i;have x:=aq v;have aC:=C.lr f x;let⟨ag,G,u,hr,P,he,g0,g1,g2,Y,Z,g5⟩:=(y.ext (o.trans B)).aj.aO v;have aI:=hr.len;have aG:=P.len;have az:=H.len f x;have ei:Int.toNat (i:Int)=i:=V;rw[ei];refine⟨V,V,_,g0,_,g1,_,g2,ag,Y,G,Z,u,g5,?_⟩;intro m4 l;have x5:J S l:=((J.aF S).aP _).ai (ad _) _ _;have s5:l.size=S.size+1:=by simp[l,m4,aA]
  clear_value l;have an:=B.trans x5;refine dZ (n:=f.ba.length) V (λa j=>J d j/\l.size<=j.size/\(∀h,h<l.size->h≠d.size->j[h]? =l[h]?)/\cz j d.size ay ((rZ s.heap.length (λe=>eA (s.aj.take i) e+cN (f.av.take a) (f.ba.take a) e)).map Ce.i)) ⟨an,ad _,λ_ _ _=>rfl,by simpa[cN]using(I.ext x5)⟩ ?_;rintro a F ar ν hk ⟨t,z6,X,p⟩ ac;refine dit (λh2=>?_) λh2=>?_
  .let⟨w,z⟩:=cg f.av a;let⟨q,E⟩:=cg f.ba a;have R:=(H.av f x).de a w q z E;obtain⟨r',o',e',aH,aF,au,_,_,_,_,y4,_⟩:=(y.ext (o.trans t)).aj.aO v;have lb:∀{sl:O}{ab:List Int},ap m sl ab->ab≠[]->sl.az<m.size:=λah D=>oI ah D;obtain⟨U,T,e0,aj,ai,_,_,_,_,w3,w4,_⟩:=y.aj.aO v;have er:U=ag:=by have:=(o.trans B).af w3;rw[Y]at this;exact(O.IE.1 (lG this)).symm
   have eo:T=G:=by have:=(o.trans B).af w4;rw[Z]at this;exact(O.IE.1 (lG this)).symm
   subst er;subst eo;have gq:af F T.az (T.off+Int.toNat (a:Int)*1)=some (vi q):=by simpa using(ai.ext (o.trans t)).aO E
   have gw:af F U.az (U.off+Int.toNat (a:Int)*1)=some (vi w):=by simpa using(aj.ext (o.trans t)).aO z
   refine⟨V,V,q,gq,λM=>?_,λM=>?_⟩
   .have Q:0<q:=by simpa using M
    have N:=R.2.2 Q;have aa:=ax (cw N).1;have K:cQ (w -1000)=(ix w:Nat):=by have:=N.1;have:=((C.aj f x).1 w (aq z)).2;unfold ix;rw[aQ V V];omega
    have L:Int.toNat ((ix w:Nat):Int)=ix w:=V;refine⟨V,V,w,gw,V,V,w,gw,?_⟩;rw[K,L];simp only[O.dS,O.fG,O.iY,bE,cO];have q1:=JH (a:=s.aj.take i) (n:=10000000) (k:=999999) V (λW r=>⟨(C.lr W (cX r)).2.1,H.ba (cX r)⟩) (ix w);have q2:=EX (av:=f.av.take a) (ba:=f.ba.take a) (n:=999999) V (λG P=>H.ba x G (cX P)) (ix w);have q5:(s.aj.take i).length<=41:=bN;have q6:(f.ba.take a).length<=10000000:=bN;have q7:=R.2.1;refine⟨V,V,_,sX p aa,V,V,q,by simpa using gq,V,V,Nj p aa,?_⟩;rw[show cQ (eA (s.aj.take i) (ix w)+cN (f.av.take a) (f.ba.take a) (ix w)+q)=eA (s.aj.take i) (ix w)+cN (f.av.take a) (f.ba.take a) (ix w)+q from aQ V V];have W:=HZ p (ix w) (eA (s.aj.take i) (ix w)+cN (f.av.take a) (f.ba.take a) (ix w)+q);rw[eY (g:=λe=>eA (s.aj.take i) e+cN (f.av.take (a+1)) (f.ba.take (a+1)) e)]at W
    .refine⟨λh r=>bd _ _ _ _ (by simp at r;omega),ac V _ ⟨t.ai (ad _) _ _,by rw[aA];exact z6,λh r D=>by rw[bd _ _ _ _ D];exact X h r D,W⟩⟩
    .intro h r;rw[nQ z E];by_cases u:h=ix w
     .subst u;rw[ak rfl,ak (iC N.1).symm];omega
     .rw[ae u,ae (λal=>u (by rw[al,jv]))];omega
   .have Q:q=0:=by have:=R.2.1.1;simp at M;omega
    refine ac V F ⟨t,z6,X,?_⟩;rw[eY (g:=λe=>eA (s.aj.take i) e+cN (f.av.take a) (f.ba.take a) e)]
    .exact p
    .intro h r;rw[nQ z E,Q];split<;>omega
  .have K:f.av.take a=f.av:=cy V;have L:f.ba.take a=f.ba:=cy V;rw[K,L]at p;refine am V F ⟨t,V,?_⟩
   rw[eY (g:=λe=>eA (s.aj.take i) e+cN f.av f.ba e)]
   .exact p
   .intro h r;exact Ha v h
 .have a:s.aj.take i=s.aj:=cy V;rw[a]at I;exact⟨_,rfl,Om I V,o.trans B⟩
def By(j:fO m bB c b s)(i:vJ s)(hd:s.aj.length<=41)(H:RG s.heap s.aj)(h:∀a∈s.heap,nF s.heap a):
 dz cq 49 [OC s bB c b] m (∀(e:Nat)(a:bS),s.heap[e]? =some a->0<a.aS->a.aS=dP s.heap e+eA s.aj e):=by
 apply wq
 simp -zeta only[aE,aD]
 intro l
 have v:J m l:=(J.aF m).aP _
 have Z:l.size=m.size+1:=by simp[l]
 clear_value l
 have R:=j.heap.len
 have S:=i.lh
 refine(Aa (j.ext v).heap h i.heap V).mono ?_
 rintro _ T ⟨O,rfl,C,o⟩
 have z2:=o.size
 refine⟨o.da bN,O,rfl,(HM (j.ext (v.trans o)) i hd H).mono ?_⟩
 rintro _ M ⟨N,rfl,A,w⟩
 have K:=C.len
 have I:=A.len
 rw[nD]at K I
 have p:=(v.trans o).trans w
 refine⟨w.da bN,N,rfl,?_⟩
 refine dZ (n:=s.heap.length) V (λf L=>L=M/\∀(e:Nat)(a:bS),e<f->s.heap[e]? =some a->0<a.aS->a.aS=dP s.heap e+eA s.aj e) ⟨rfl,λe a y=>absurd y (fV _)⟩ ?_
 rintro f U P μ z ⟨rfl,B⟩ D
 refine dit (λF=>?_) λF=>?_
 .have t:f<s.heap.length:=V
  let⟨a,r⟩:=dI t
  obtain⟨Q,_,g1,_,_⟩:=(j.ext p).heap.aO r
  have E:Int.toNat (f:Int)=f:=V
  rw[E]
  have fW:(0<a.aS->a.aS=dP s.heap f+eA s.aj f)->∀(e:Nat)(a:bS),e<f+1->s.heap[e]? =some a->0<a.aS->a.aS=dP s.heap e+eA s.aj e:=λu e d y hd=>by
   rcases aU e f with x|x
   .exact B e d x hd
   .have:e=f:=V;subst this;rw[r]at hd;simp at hd;subst hd;exact u
  have W:=AN s.heap f λa G=>(h a G).fl
  have X:=qA s.heap f
  have Y:=JH (a:=s.aj) (n:=10000000) (k:=999999) V (λq g=>⟨(i.lr q g).2.1,H.ba g⟩) f
  refine⟨V,V,_,g1,λq=>?_,λq=>D V _ ⟨rfl,fW λg=>by simp at q;omega⟩⟩
  refine⟨V,V,_,g1,V,V,_,(C.ext w).aO (ue t),V,V,_,A.aO (ue t),?_⟩
  rw[show cQ (dP s.heap f+eA s.aj f)=dP s.heap f+eA s.aj f from aQ V V]
  refine⟨λg=>cr (λz=>?_) p,λg=>D V _ ⟨rfl,fW λ_=>by simpa using g⟩⟩
  have:=z f a r (by simpa using q)
  simp at g;exact g this
 .exact jr (λe a h u=>B e a (oh (ax h)) h u) p
def DW(ae:eX m d p a)(x:fO m bB c b s)(G:vJ s):dz cq 24 [.agg #[O.v d,O.v p],OC s bB c b] m (iT a s):=by
 apply yl;simp -zeta only[aE,aD];intro H l;have o:J m l:=((J.aF m).aP _).aP _;have s1:H.size=m.size+1:=by simp[H]
 have s2:l.size=m.size+2:=by simp[l,s1]
 clear_value l;have k:∀af∈[H.size,m.size],af<l.size:=bN;have ak:=x.aj.len;have h:∀{M:E},J l M->¬QV a s->∃q:Bool,vb false=.bool q/\(q=true<->iT a s)/\J m M:=λU hn=>cr (λe=>hn (CQ e)) (o.trans U);refine(sU (ae.ext o)).aI (J.aF _) k λb3 m3 Z x3 _=>⟨b3,rfl,λL=>h x3 λe=>nb Z L e.eS,λL=>?_⟩;have hi:=yb Z L;refine(aY _ _ _ _).aI x3 k λb4 m4 aa ay X=>⟨b4,rfl,λN=>h X λe=>nb aa N e.cW,λN=>?_⟩;have an:=yb aa N;have ac:(s.aj=[])<->((b.len:Int)=0):=by rw[ak];simp
 refine⟨λP=>h X λe=>?_,λP=>?_⟩
 .have:=e.done;rw[ac,<-Eo]at this;rw[this]at P;cases P
 have aj:s.cW=0<->s.aj=[]:=by rw[ac];exact(Eo _ _).1 P
 refine⟨λM=>J l M/\gY s.value/\(s.value≠0->s.cW=0)/\(0<=s.eD/\s.eD<=40)/\(0<=s.bL/\s.bL<=s.eD),?_,?_⟩
 .refine(aY _ _ _ _).aI X k λb5 W u y w=>⟨b5,rfl,λr=>h w λe=>nb u r e.value,λr=>?_⟩;have tail:(s.value≠0->s.cW=0)->aN cq 44 [vi s.eD,vi (0:Int),vi (40:Int)] W λv f=>eG [H.size,m.size] W f/\∃i:Bool,v=vb i/\
   ((!i)=true->∃q:Bool,vb false=.bool q/\(q=true<->iT a s)/\J m f)/\((!i)=false->aN cq 44 [vi s.bL,vi (0:Int),vi s.eD] f λt g=>
   eG [H.size,m.size] f g/\∃j:Bool,t=vb j/\((!j)=true->∃q:Bool,vb false=.bool q/\(q=true<->iT a s)/\J m g)/\
   ((!j)=false->J l g/\gY s.value/\(s.value≠0->s.cW=0)/\(0<=s.eD/\s.eD<=40)/\(0<=s.bL/\s.bL<=s.eD))):=λT=>
   (aY _ _ _ _).aI w k λb6 m6 C aq z=>⟨b6,rfl,λg=>h z λe=>nb C g e.eD,λg=>
    (aY _ _ _ _).aI z k λR m7 D ar I=>⟨R,rfl,λB=>h I λe=>nb D B e.bL,λB=>⟨I,(yb u r),T,yb C g,yb D B⟩⟩⟩
  refine⟨λt=>⟨λg=>h w λe=>?_,λg=>tail λ_=>by simpa using g⟩,λt=>tail λg=>absurd (by simpa using t) g⟩;have:=e.td (by simpa using t);simp at g;exact g this
 .rintro W ⟨w,hv,T,al,ah⟩;rw[aQ V V];refine⟨λr=>h w λe=>by have:=e.depth;simp at r;omega,λr=>?_⟩;have ai:(s.aj.length:Int)<=s.bL+1:=by simp at r;omega
  have ab:s.aj.length<=41:=V;refine(Dj (x.ext (o.trans w)).bB).aI w k λb6 m6 C aq z=>⟨b6,rfl,λt=>h z λe=>nb C t e.bB,λt=>?_⟩;have am:=yb C t;refine(FZ (x.ext (o.trans z)).heap G.heap (oh G.lh)).aI z k λR m7 D ar I=>⟨R,rfl,λg=>h I λe=>nb D g e.heap,λg=>?_⟩;have ad:=yb D g;refine dZ (n:=s.aj.length) V (λy m'=>J l m'/\∀(j:Nat)(f:be),j<y->s.aj[j]? =some f->JK a s.heap (mR s.aj j) f) ⟨I,λj f v=>absurd v (fV _)⟩ ?_;rintro y m8 av μ e ⟨K,hq⟩ ao
  refine dit (λB=>?_) λB=>?_
  .let⟨f,i⟩:=cg s.aj y;refine(DS (ae.ext (o.trans K)) (x.ext (o.trans K)) G i).aI K k λS m9 F au A=>⟨S,rfl,λu=>h A λe=>nb F u (e.aj y f i),λu=>ao V _ ⟨A,λj ag v Q=>?_⟩⟩;rcases aU j y with Y|Y
   .exact hq j ag Y Q
   .have:j=y:=V;subst this;rw[i]at Q;simp at Q;subst Q;exact yb F u
  .have Q:∀(j:Nat)(f:be),s.aj[j]? =some f->JK a s.heap (mR s.aj j) f:=λj f i=>hq j f (oh (ax i)) i;have Y:RG s.heap s.aj:=⟨λf i=>by
    let⟨j,v⟩:=pT i;have L:=(Q j f v).lr;have N:=(Q j f v).lo;omega,λf i=>let⟨j,v⟩:=pT i;(Q j f v).av⟩
   refine(Hu (x.ext (o.trans K)) G ab).aI K k λS m9 F au A=>⟨S,rfl,λu=>?_,λu=>h A λe=>fb F u e.bA⟩;refine(By (x.ext (o.trans A)) G ab Y ad.cells).aI A k λv aw ag az ap=>⟨v,rfl,fU ?_ (o.trans ap)⟩;rw[ag];exact⟨λU=>Ln ⟨hi,an,aj,hv,T,al,ah,ai,am,ad,Q,F.1 u,U⟩,λe=>(CQ e).Qf⟩
end
end
section
variable{m:E}{b:List bS}{w:Int}{d:bS}{a:Nat}{W:List Nat}
def qu(n:Int)(m:E):dz cq 57 [vi n] m (gY n):=by
 apply GM;refine⟨λb=>fU ?_ (J.aF _),λb=>cr (λa=>?_) (J.aF _)⟩
 .simp at b;simp[gY,b]
 .simp at b;have:=a.1;omega
def EO{f:O}(d:cT m f b)(j:ug w):dz cq 146 [O.v f,vi w] m (pS b w):=by
 apply yO;refine(mo d j.2).mono ?_;rintro _ k ⟨a,h,rfl,e,_,g⟩;refine⟨a,h,rfl,λc=>jr (Or.inr (e.1 c)) g,λc=>?_⟩;refine(qu w k).then λb2 n i l=>⟨b2,rfl,fU ?_ (g.trans l)⟩;rw[i];exact⟨Or.inl,λd=>d.resolve_right (fb e c)⟩
structure Ic(b:List bS)(d:bS):Prop where
 lo: -1<=d.aS
 mK:0<=d.mK/\d.mK<=99
 fl:d.aL.length<=3
 uP:d.aS<1->d.mK=0
 jT:d.aS=0->d.aL=[]
 dB:∀w∈d.aL,pS b w/\(d.aS<0->w=0)
def Ic.ok(a:Ic b d)(e:d.aS<=999999):nF b d:=
 ⟨a.fl,a.lo,e,λhd=>⟨a.uP hd,λw c=>by
  by_cases f:d.aS<0
  .exact(a.dB w c).2 f
  .rw[a.jT V]at c;simp at c,a.jT⟩,λ_=>⟨λw c=>(a.dB w c).1,a.mK⟩⟩
def nF.v(a:nF b d):Ic b d:=by
 refine⟨a.lo,?_,a.fl,λhd=>(a.uP hd).1,λf=>(a.uP V).2.2 f,λw e=>⟨?_,λg=>(a.uP V).2.1 w e⟩⟩
 .by_cases c:0<d.aS
  .exact(a.pG c).2
  .have:=(a.uP V).1;omega
 .by_cases c:0<d.aS
  .exact(a.pG c).1 w e
  .have:=(a.uP V).2.1 w e;exact Or.inl (by subst this;exact⟨bh,bh⟩)
def Ic.cases(c:Ic b d)(e:w∈d.aL):gZ b w\/w<1000:=by
 rcases(c.dB w e).1 with a|a
 .have:=a.2;exact Or.inr V
 .exact Or.inl a
def EH{z j:O}(E:cT m z b)(x:ap m j d.aL)(G:∀w∈d.aL,ug w):dz cq 103 [O.v z,.agg #[vi d.aS,vi d.mK,O.v j]] m (Ic b d):=by
 apply yK;simp -zeta only[aE,aD];intro e;have f:J m e:=(J.aF m).aP _;have N:e.size=m.size+1:=by simp[e]
 clear_value e;have y:=x.len;have F:∀C∈[m.size],C<e.size:=bN;refine⟨λk=>cr (λc=>by have:=c.lo;simp at k;omega) f,λk=>⟨λl=>cr (λc=>by have:=c.mK;simp at l;omega) f,λl=>⟨λo=>cr (λc=>by have:=c.mK;simp at o;omega) f,λo=>⟨λr=>cr (λc=>by have:=c.fl;simp at r;omega) f,λr=>?_⟩⟩⟩⟩;simp at k l o r;refine⟨λM=>M=e/\(d.aS<1->d.mK=0)/\(d.aS=0->d.aL=[]),?_,?_⟩
 .have zero:(d.aS<1->d.mK=0)->((d.aS==(0:Int))=true->((decide ((j.len:Int)>(0:Int)))=true->∃a:Bool,vb false=.bool a/\(a=true<->Ic b d)/\J m e)/\
   ((decide ((j.len:Int)>(0:Int)))=false->e=e/\(d.aS<1->d.mK=0)/\(d.aS=0->d.aL=[])))/\((d.aS==(0:Int))=false->e=e/\(d.aS<1->d.mK=0)/\(d.aS=0->d.aL=[])):=λh=>
   ⟨λg=>⟨λa=>cr (λc=>by have:=c.jT (by simpa using g);rw[this]at y;simp at a y;omega) f,λa=>⟨rfl,h,λ_=>List.length_eq_zero_iff.1 (by simp at a;omega)⟩⟩,λg=>⟨rfl,h,λa=>by simp at g;exact absurd a g⟩⟩
  refine⟨λg=>⟨λa=>cr (λc=>by have:=c.uP (by simpa using g);simp at a;exact a this) f,λa=>zero λ_=>by simpa using a⟩,λg=>zero λa=>by simp at g;omega⟩
 .rintro H ⟨rfl,hd,D⟩;refine dZ (n:=d.aL.length) V (λv h=>J H h/\∀w∈d.aL.take v,pS b w/\(d.aS<0->w=0)) ⟨J.aF _,aH⟩ ?_;rintro v L I μ K ⟨q,u⟩ B
  refine dit (λg=>?_) λg=>?_
  .let⟨w,h⟩:=cg d.aL v;refine⟨V,V,w,by simpa using(x.ext (f.trans q)).aO h,(EO (cT.ext (f.trans q) E) (G w (aq h))).aI q F λb4 A t P p=>⟨b4,rfl,λa=>cr (λc=>nb t a (c.dB w (aq h)).1) (f.trans p),λa=>⟨λs=>⟨λi=>cr (λc=>?_) (f.trans p),λi=>B V A ⟨p,bM h u ⟨yb t a,λ_=>by simpa using i⟩⟩⟩,λs=>B V A ⟨p,bM h u ⟨yb t a,λi=>by simp at s;omega⟩⟩⟩⟩⟩;have:=(c.dB w (aq h)).2 (by simpa using s);simp at i;exact i this
  .exact jr ⟨k,⟨l,o⟩,V,hd,D,cU V u⟩ (f.trans q)
def gG(mk:Nat->Bool):Nat->List bS->Nat->Int
 |_,[],_=>0
 |i,d::b,a=>(if mk i=true then 0 else eK d.aL a)+gG mk (i+1) b a
def Dd:∀(i:Nat)(b:List bS)(a:Nat),gG (λ_=>false) i b a=dP b a
 |_,[],_=>rfl
 |i,d::b,a=>by simp[gG,dP,Dd (i+1) b a]
def EZ(mk:Nat->Bool):∀(i:Nat)(b:List bS)(a:Nat),0<=gG mk i b a
 |_,[],_=>dh 0
 |i,d::b,a=>by have:=EZ mk (i+1) b a;have:=iA d.aL a;simp only[gG];split<;>omega
def Ps(mk:Nat->Bool):∀(i:Nat)(b:List bS)(a:Nat),gG mk i b a<=dP b a
 |_,[],_=>dh 0
 |i,d::b,a=>by have:=Ps mk (i+1) b a;have:=iA d.aL a;simp only[gG,dP];split<;>omega
def IA{mk e:Nat->Bool}:∀{i:Nat}{b:List bS}{a:Nat},(∀j,i<=j->mk j=e j)->gG mk i b a=gG e i b a
 |_,[],_,_=>rfl
 |i,d::b,a,c=>by simp only[gG];rw[c i (ad _),IA λj f=>c j V]
def Nc{mk:Nat->Bool}:∀{e:Nat}{b:List bS}{f:Nat}{d:bS},b[f]? =some d->mk (e+f)=false->∀a,gG (jV mk (e+f)) e b a=gG mk e b a -eK d.aL a
 |_,[],_,_,b,_,_=>by simp at b
 |e,m::b,0,d,j,l,a=>by
  simp at j;subst j;have g:=IA (mk:=jV mk e) (e:=mk) (i:=e+1) (b:=b) (a:=a) λo n=>kL V;rw[jm]at l⊢;simp only[gG,pW,l,g];simp;omega
 |e,m::b,f+1,d,j,l,a=>by
  have g:e+(f+1)=e+1+f:=V;have:=Nc (mk:=mk) (e:=e+1) (b:=b) (f:=f) (d:=d) (by simpa using j) (by rw[<-g];exact l) a;simp only[gG];rw[g,this,kL V];omega
def Pr{mk:Nat->Bool}:∀{e:Nat}{b:List bS}{j:Nat}{d:bS},b[j]? =some d->mk (e+j)=false->∀a,eK d.aL a<=gG mk e b a
 |_,[],_,_,b,_,_=>by simp at b
 |e,l::b,0,d,f,g,a=>by
  simp at f;subst f;have:=EZ mk (e+1) b a;simp only[jm]at g;simp only[gG,g];simp;omega
 |e,l::b,j+1,d,f,g,a=>by
  have:=Pr (mk:=mk) (e:=e+1) (b:=b) (j:=j) (d:=d) (by simpa using f) (by rw[<-g];congr 1;omega) a;have:=iA l.aL a;simp only[gG];split<;>omega
def Nb{mk:Nat->Bool}:∀{i:Nat}{b:List bS}{a:Nat},0<gG mk i b a->∃(k:Nat)(d:bS),b[k]? =some d/\mk (i+k)=false/\(1000+(a:Int))∈d.aL
 |_,[],_,b=>by simp[gG]at b
 |i,c::b,a,g=>by
  simp only[gG]at g;by_cases f:mk i=false/\0<eK c.aL a
  .exact⟨0,c,rfl,f.1,NZ f.2⟩
  .have:0<gG mk (i+1) b a:=by
    have:=iA c.aL a;split at g
    .omega
    .rename_i h;have:¬0<eK c.aL a:=λe=>f ⟨by simpa using h,e⟩;omega
   let⟨k,d,h,e,j⟩:=Nb this;exact⟨k+1,d,by simpa using h,by rw[<-e];congr 1;omega,j⟩
def SF(b:List bS)(mk:Nat->Bool):Prop:=
 ∃t:Nat->Nat,(∀j,mk j=true->t j<=lT mk b.length)/\∀(i:Nat)(d:bS),b[i]? =some d->∀w∈d.aL,1000<=w->mk (ix w)=true->mk i=true/\t i<t (ix w)
def SF.set{mk:Nat->Bool}(u:SF b mk)(t:a<b.length)(k:mk a=false)(B:gG mk 0 b a=0):SF b (jV mk a):=by
 let⟨A,n,s⟩:=u;have r:=yE k t;have v:∀(c:Nat)(d:bS),b[c]? =some d->(1000+(a:Int))∈d.aL->mk c=true:=λc d f g=>by
  cases e:mk c
  .have g1:=Pr (mk:=mk) (e:=0) f (by rw[bE];exact e) a;have g2:=tS g;omega
  .rfl
 refine⟨λx=>if x=a then lT mk b.length+1 else A x,λy o=>?_,λc d f w g q p=>?_⟩
 .simp only[r];split
  .omega
  .rename_i h;rw[kL h]at o;have:=n y o;omega
 .by_cases h:ix w=a
  .have e:=v c d f (by rw[<-h,iC q];exact g);have l:c≠a:=λj=>by rw[j,k]at e;cases e
   simp only[ak h,ae l];exact⟨ve e,oh (n c e)⟩
  .rw[kL h]at p;let⟨m,z⟩:=s c d f w g q p;have l:c≠a:=λj=>by rw[j,k]at m;cases m
   simp only[ae h,ae l];exact⟨ve m,z⟩
def OV(f:Nat->Nat):∀n,∃B,∀i,i<n->f i<=B
 |0=>⟨0,λi a=>absurd a (fV _)⟩
 |n+1=>by
  let⟨B,c⟩:=OV f n;refine⟨B+f n,λi a=>?_⟩;rcases aU i n with b|b
  .have:=c i b;omega
  .have:i=n:=V;subst this;omega
def Vf{mk:Nat->Bool}(r:SF b mk)(q:∀d∈b,∀w∈d.aL,1000<=w->ix w<b.length)(o:∀a,a<b.length->gG mk 0 b a=0->mk a=true):
 lT mk b.length=b.length<->Sv b:=by
 rw[J0]
 constructor
 .intro g
  let⟨t,e,c⟩:=r
  refine⟨λx=>b.length -t x,λi d h w j f=>?_⟩
  have k:=q d (aq h) w j f
  have:=(c i d h w j f (g _ k)).2
  have:=e _ (g _ k)
  have:=Eu mk b.length
  show b.length -t (ix w)<b.length -t i
  omega
 .rintro⟨h,s⟩
  let⟨B,m⟩:=OV h b.length
  have u:∀(n i:Nat),B -h i<n->i<b.length->mk i=true:=by
   intro n;induction n with
   |zero=>intro i g;omega
   |succ n t=>
    intro i g p;refine o i p (Int.le_antisymm (Int.not_lt.1 λf=>?_) (EZ _ _ _ _));let⟨k,d,e,c,l⟩:=Nb f;rw[bE]at c;have:=s k d e _ l V;rw[jv]at this;have j:=ax e;have:=m k j;rw[t k V j]at c;cases c
  exactλi g=>u (B -h i+1) i V g
structure Gs(b:List bS)(mk:Nat->Bool)(W:List Nat)(lf:Nat->Int):Prop where
 Ky:W.Nodup
 un:∀a∈W,a<b.length/\mk a=false
 zero:∀a,a<b.length->(lf a=0<->(mk a=true\/a∈W))
def EU:∀(n:Nat)(W:List Nat),W.Nodup->(∀a∈W,a<n)->W.length<=n
 |0,[],_,_=>ad _
 |0,a::_,_,b=>absurd (b a aH) (fV _)
 |n+1,W,hd,b=>by
  by_cases d:n∈W
  .have e:=EU n (W.erase n) (hd.erase n) λa c=>by
    have:=hd.mem_erase_iff.1 c;have:=b a this.2;omega
   rw[List.length_erase_of_mem d]at e;omega
  .have:=EU n W hd λa c=>by
    have:=b a c;have:a≠n:=λe=>d (e▸c);omega
   omega
def Gs.len{mk:Nat->Bool}{d:Nat->Int}(K:Gs b mk W d):W.length<=b.length:=EU _ _ K.Ky λa c=>(K.un a c).1
def Gs.Vj{mk:Nat->Bool}{f:Nat->Int}(K:Gs b mk (W++[a]) f):Gs b (jV mk a) W f:=by
 let⟨g,i,h⟩:=List.nodup_append.1 K.Ky;refine⟨g,λx c=>?_,λx c=>?_⟩
 .have d:=K.un x (bu _ c);refine⟨d.1,?_⟩;rw[kL λe=>h x c a aH e];exact d.2
 .rw[K.zero x c];by_cases e:x=a
  .subst e;simp[pW]
  .rw[kL e];simp[e]
def Gs.oD{mk:Nat->Bool}{g lf':Nat->Int}(K:Gs b mk W g)(i:a<b.length)(j:∀x,lf' x=if x=a then g x -1 else g x)(l:0<g a):
 (lf' a=0->Gs b mk (W++[a]) lf')/\(lf' a≠0->Gs b mk W lf'):=by
 have f:mk a≠true/\a∉W:=by
  have:=(K.zero a i).2;constructor
  .intro d;have:=this (Or.inl d);omega
  .intro d;have:=this (Or.inr d);omega
 refine⟨λh=>⟨?_,λx c=>?_,λx c=>?_⟩,λh=>⟨K.Ky,K.un,λx c=>?_⟩⟩
 .rw[List.nodup_append]
  refine⟨K.Ky,aH,λx c y k e=>?_⟩
  simp at k;subst k;subst e;exact f.2 c
 .rcases List.mem_append.1 c with c|c
  .exact K.un x c
  .simp at c;subst c;exact⟨i,by simpa using f.1⟩
 .by_cases e:x=a
  .subst e;simp[h]
  .rw[j x,ae e,K.zero x c];simp[e]
 .by_cases e:x=a
  .subst e
   constructor
   .intro d;exact absurd d h
   .rintro(d|d)
    .exact absurd d f.1
    .exact absurd d f.2
  .rw[j x,ae e,K.zero x c]
end
section
variable{b:Nat->Nat}{m:E}{k c a:Nat}{s:O}{d:Nat->Int}
def UW(W:List Nat):List Int:=W.map λ(a:Nat)=>(a:Int)
def JB(W:List Nat):(UW W).length=W.length:=by simp[UW]
def J3(W:List Nat)(a:Nat):UW (W++[a])=UW W++[(a:Int)]:=by simp[UW]
def V7(h:iI b m ay 1 k s ((rZ c d).map Ce.i))(g:c<=9223372036854775807)(e:a<c):af m s.az (s.off+Int.toNat (a:Int)*1)=some (vi (d a)):=by
 have:=(h.pA (by rw[nD];exact g)).aO (ue (f:=d) e);simpa using this
def Ud(h:iI b m ay 1 k s ((rZ c d).map Ce.i)):s.len=c:=by have:=h.len;simp[nD]at this;omega
def Xf{g:Nat->Int}(h:iI b m ay 1 k s ((rZ c d).map Ce.i))(q:a<c){v:Int}(o:∀e,e<c->g e=if e=a then v else d e)(p:∀e,m.size<=e->b e=0):
 fg m s.az (s.off+Int.toNat (a:Int)*1) 1/\iI b (ai m s.az (s.off+Int.toNat (a:Int)*1) [.i v]) ay 1 k s ((rZ c g).map Ce.i)/\dL (λj=>j=k) b m b (ai m s.az (s.off+Int.toNat (a:Int)*1) [.i v]):=by
 have f:(0:Int)<=(a:Int):=V
 have i:(a:Int)<((rZ c d).length:Nat):=by rw[nD];omega
 have j:=h.iF f i v
 have l:iF (rZ c d) (a:Int) v=rZ c g:=by
  unfold iF;rw[show Int.toNat (a:Int)=a by omega,Rx];exact eY λe n=>(o e n).symm
 rw[l]at j
 have r:=Ud h
 have t:=h.le
 exact⟨h.Ss f i,j,dL.ai p (h.az V).2 _ _⟩
def XE(m:E)(h:List bS)(v:Value)(c:E):Prop:=∃(s:O)(b:Bool),v=.tuple #[O.v s,vb b]/\(b=true<->Gq h)/\
 (b=true->∃a,s=.mk a 0 h.length h.length/\m.size<=a/\cz c a ay ((rZ h.length (dP h)).map Ce.i))/\J m c
def rD{N:O}{h:List bS}(y:cT m N h)(aS:Nt h)(bm:h.length<=1000000000):aN cq 58 [O.v N] m (XE m h):=by
 apply vV;simp -zeta only[aE,aD];have hl:=y.len;have en:Int.toNat (N.len:Int)=h.length:=V;rw[en];refine⟨V,V,V,V,?_⟩;intro m1;have x1:J m m1:=(J.aF m).aP _;have B1:cz m1 m.size ay ((rZ h.length (λ_=>0)).map Ce.i):=Lt m _;clear_value m1;have no:∀{M:E},J m M->¬Gq h->XE m h (.tuple #[O.v O.nil,vb false]) M:=λT G=>⟨.nil,false,rfl,by simp[G],aH,T⟩;have ao:∀c:Nat,Int.toNat (c:Int)=c:=λc=>V;simp -zeta only[O.dS,O.fG,O.iY,bE];refine dZ (n:=h.length) V (λt l=>J m l/\cz l m.size ay ((rZ h.length (λa=>dP (h.take t) a)).map Ce.i)/\∀e∈h.take t,Ic h e) ⟨x1,by simpa[dP]using B1,aH⟩ ?_;rintro t m2 bu μ hi ⟨Z,B2,ai⟩ X
 have bC:=B2.lt;have h3:∀e∈h.take t,e.aL.length<=3:=λe hm=>(ai e hm).fl;refine dit (λh1=>?_) λh1=>?_
 .let⟨e,r⟩:=cg h t;have ab:=aq r;let⟨d,hf,g0,g1,g2⟩:=(cT.ext Z y).aO r;rw[ao];refine⟨V,V,e.aS,g0,e.mK,g1,d,g2,?_⟩;intro L I;have o:J m2 I:=((J.aF m2).aP _).ai (ad _) _ _;have s4:I.size=m2.size+1:=by simp[I,L,aA]
  clear_value I;refine(EH (cT.ext (Z.trans o) y) (hf.ext o) (aS e ab)).aI (J.aF _) bN λj U S s _=>⟨j,rfl,λh2=>no ((Z.trans o).trans s) λz=>nb S h2 (z.cells e ab).v,λh2=>?_⟩;have A:=yb S h2;have be:=A.fl;have z5:=s.size;have ah:=hf.len;refine dZ (n:=e.aL.length) V (λk l=>J m l/\m2.size<l.size/\ap l d e.aL/\cz l m.size ay ((rZ h.length (λa=>dP (h.take t) a+eK (e.aL.take k) a)).map Ce.i)) ⟨((Z.trans o).trans s),V,(hf.ext (o.trans s)),by simpa[eK]using(B2.ext (o.trans s))⟩ ?_;rintro k p aa ν z ⟨K,z6,D,l⟩ Q;refine dit (λh4=>?_) λh4=>?_
  .let⟨w,H⟩:=cg e.aL k;have au:=aq H;refine⟨V,V,w,by simpa using D.aO H,(mo (cT.ext K y) (aS e ab w au).2).mono ?_⟩;rintro _ q ⟨a,R,rfl,P,W,F⟩;have z7:=F.size;refine⟨F.da bN,a,R,rfl,λC=>?_,λC=>?_⟩
   .have ag:=P.1 C;have ac:=ax (cw ag).1;have e1:=W C;subst e1;have x:=l.ext F;have q1:=AN (h.take t) (ix w) h3;have q2:=kA (e.aL.take k) (ix w);have q3:=qA (h.take t) (ix w);have q4:=iA (e.aL.take k) (ix w);have q5:(h.take t).length<=h.length:=bN;have q6:(e.aL.take k).length<=3:=bN;rw[ao,cO];refine⟨V,V,_,sX x ac,V,V,Nj x ac,?_⟩;rw[show cQ (dP (h.take t) (ix w)+eK (e.aL.take k) (ix w)+1)=dP (h.take t) (ix w)+eK (e.aL.take k) (ix w)+1 from aQ V V];have B:=HZ x (ix w) (dP (h.take t) (ix w)+eK (e.aL.take k) (ix w)+1);rw[eY (g:=λa=>dP (h.take t) a+eK (e.aL.take (k+1)) a)]at B
    .refine⟨λj S=>bd _ _ _ _ (by simp at S;omega),Q V _ ⟨(K.trans F).ai (ad _) _ _,by rw[aA];omega,?_,B⟩⟩;obtain⟨f0,aR,_,_,w2⟩:=y.aO r;have er:f0=d:=by have:=Z.af w2;rw[g2]at this;exact(O.IE.1 (lG this)).symm
     subst er;exact aR.ext ((K.trans F).ai (ad _) _ _)
    .intro j S;rw[qH H];by_cases u:j=ix w
     .subst u;rw[ak rfl,ak (iC ag.1).symm];omega
     .rw[ae u,ae (λY=>u (by rw[Y,jv]))];omega
   .refine Q V q ⟨K.trans F,V,D.ext F,?_⟩;have bj:w<1000:=(A.cases au).resolve_left (fb P C);rw[eY (g:=λa=>dP (h.take t) a+eK (e.aL.take k) a)]
    .exact l.ext F
    .intro j S;rw[qH H,ae V];omega
  .have x:e.aL.take k=e.aL:=cy V;rw[x]at l;refine X V p ⟨K,?_,bM r ai A⟩
   rw[eY (g:=λa=>dP (h.take t) a+eK e.aL a)]
   .exact l
   .intro j S;exact Nf r j
 have ei:h.take t=h:=cy V;rw[ei]at B2 ai h3;clear X
 have a1:∀e∈h,∀w∈e.aL,gZ h w\/w<1000:=λe s w H=>(ai e s).cases H;have ag:∀e∈h,∀w∈e.aL,1000<=w->ix w<h.length:=λe hm w H N=>by
  rcases a1 e hm w H with h1|h1
  .exact ax (cw h1).1
  .omega
 refine⟨λM=>m2=M/\nv h,⟨λh2=>?_,λh2=>⟨rfl,λe s=>?_⟩⟩,?_⟩
 .simp at h2;rw[aQ V V];let⟨e,s⟩:=cg h (h.length -1);obtain⟨d,hf,g1,_,_⟩:=(cT.ext Z y).aO s;have u:Int.toNat ((N.len:Int) -1)=h.length -1:=V;rw[u];refine⟨V,V,e.aS,g1,λh3=>no Z λz=>z.jc e s (by simpa using h3),λh3=>⟨rfl,λal hd=>?_⟩⟩;rw[s]at hd;simp at hd;subst hd;simpa using h3
 .have:=ax s;simp at h2;omega
 rintro _ ⟨rfl,bn⟩;refine(rE (Om B2 V) (by rw[nD];exact bm)).mono ?_;rintro _ L ⟨A,rfl,or,x3⟩;have z3:=x3.size;have B3:=B2.ext x3;have bI:=Z.size;obtain⟨B,aG⟩:∃B:Nat->Nat,B=λj=>if A.EQ=false/\j=A.az then 2 else if j=m.size then 1 else 0:=⟨_,rfl⟩
 have aF:A.EQ=false->m2.size<=A.az/\A.az<L.size:=λG=>by
  have ah:A≠.nil:=λu=>by rw[u]at G;simp at G
  exact⟨or.az.resolve_left ah,or.lt.resolve_left ah⟩
 have aW:∀j,j≠m.size->(A.EQ=false->j≠A.az)->B j=0:=λj h4 C=>by
  rw[aG];exact(ae λy=>C y.1 y.2).trans (ae h4)
 have bt:B m.size=1:=by
  rw[aG];exact(ae λy=>oh (aF y.1)).trans (ak rfl)
 have bp:∀j,L.size<=j->B j=0:=λj S=>aW j V λG=>by have:=aF G;omega
 have a_:∀j,j<m.size->B j=0:=λj S=>aW j V λG=>by have:=aF G;omega
 have A3:iI B L ay 1 2 A ((rZ h.length (dP h)).map Ce.i):=iI.fP or λah=>by
  rw[aG];refine ak ⟨?_,rfl⟩;cases A with
  |nil=>exact absurd rfl ah
  |_=>rfl
 have bA:=Ud A3;clear aF aW aG;have aJ:∀{b a6:Nat->Nat}{M M':E},dL (λk=>k=2\/k=6) b M a6 M'->To b M a6 M':=λs=>s.mono λk z=>V;have aL:∀{b:Nat->Nat}{M:E},dL (λk=>k=2\/k=6) B L b M->J m M:=λs=>((aJ s).cG (Z.trans x3) a_).1;have a5:∀{b:Nat->Nat}{M:E},dL (λk=>k=2\/k=6) B L b M->cz M m.size ay ((rZ h.length (dP h)).map Ce.i):=λs=>B3.congr (s.fS _ B3.lt (by rw[bt];decide));have bq:iI B L ay 1 6 .nil (([]:List Int).map Ce.i):=⟨aH,aH,Or.inl rfl⟩;refine⟨A,rfl,dx (σ:=O) (n:=h.length) V (λk P M=>∃b W,dL (λk=>k=2\/k=6) B L b M/\iI b M ay 1 2 A ((rZ h.length (dP h)).map Ce.i)/\iI b M ay 1 6 P ((UW W).map Ce.i)/\W.Nodup/\(∀a∈W,a<k)/\(∀a,a<k->(dP h a=0<->a∈W))/\
  ∀(a:Nat)(e:bS),a<k->h[a]? =some e->0<e.aS->dP h a<=e.aS/\e.aS<=999999) ⟨B,[],dL.aF _ bp,A3,bq,aH,aH,aH,aH⟩ ?_⟩
 rintro k P I I2 μ2 z ⟨Y,W,C4,A4,W4,ar,aj,aI,aC⟩ X
 have X4:=aL C4;refine dit (λh4=>?_) λh4=>?_
 .have am:k<h.length:=V;let⟨e,aa⟩:=dI am;let⟨d,hf,g0,g1,g2⟩:=(cT.ext X4 y).aO aa;rw[ao];refine⟨V,V,e.aS,g0,e.mK,g1,d,g2,?_⟩;intro U p;have K:J I p:=((J.aF I).aP _).ai (ad _) _ _;have s6:p.size=I.size+1:=by simp[p,U,aA]
  clear_value p;have av:dL (λk=>k=2\/k=6) Y I Y p:=dL.fK _ K C4.new;have C6:=C4.trans av;have F6:dL (λ_=>False) Y I Y p:=dL.fK _ K C4.new;have A6:=A4.fI F6 id;have W6:=W4.fI F6 id;have g6:=sX (a5 C6) am;have fW:(0<e.aS->dP h k<=e.aS/\e.aS<=999999)->∀(a:Nat)(e:bS),a<k+1->h[a]? =some e->0<e.aS->dP h a<=e.aS/\e.aS<=999999:=λG a al o hd=>by
   rcases aU a k with Q|Q
   .exact aC a al Q hd
   .have:a=k:=V;subst this;rw[aa]at hd;simp at hd;subst hd;exact G
  have ka:(0<e.aS->dP h k<=e.aS/\e.aS<=999999)->((0:Int)<=k/\(k:Int)<(h.length:Int)/\∃r:Int,af p m.size (k*1)=some (vi r)/\
   ((r==(0:Int))=true->let x:E:=p.push (.cells (bD [.i (k:Int)]) 3)
    jb x 3 [.i (0:Int)] 8 P (O.mk p.size 0 1 1) λD l=>eG [I.size] x l/\I2 D (cQ ((k:Int)+(1:Int))) l/\μ2 D (cQ ((k:Int)+(1:Int))) l<μ2 P k I)/\
   ((r==(0:Int))=false->I2 P (cQ ((k:Int)+(1:Int))) p/\μ2 P (cQ ((k:Int)+(1:Int))) p<μ2 P k I)):=λG=>by
   refine⟨V,V,_,by rw[cO];exact g6,λD=>?_,λD=>?_⟩
   .intro q
    have F:J p q:=(J.aF p).aP _
    have k7:cz q p.size 3 [.i (k:Int)]:=cz.push p _ _
    have s7:q.size=p.size+1:=by simp[q]
    have F7:dL (λ_=>False) Y p Y q:=dL.fK _ F C6.new
    have C7:dL (λk=>k=2\/k=6) B L Y q:=C6.trans (dL.fK _ F C6.new)
    have aw:=W6.len
    simp[JB]at aw
    have az:W.length<=h.length:=EU _ _ ar λa o=>by have:=aj a o;omega
    refine iI.append (zs:=[.i 0]) (c:=[.i (k:Int)]) (W6.fI F7 id) C7.new aH k7.jC (by simp only[O.dS];omega) λr a4 m8 a8 c8=>⟨(aJ (c8.mono λl hj=>Or.inr hj)).da (by simp;exact⟨V,C4.new _ (ad _)⟩),?_⟩
    refine X V _ _ ⟨r,W++[k],C7.trans (c8.mono λl hj=>Or.inr hj),(A6.fI F7 id).fI c8 bh,by rw[J3];simpa using a8,?_,λa o=>?_,λa o=>?_,fW G⟩
    .rw[List.nodup_append]
     refine⟨ar,aH,λx T aB R u=>?_⟩
     simp at R;subst R;subst u;have:=aj _ T;omega
    .rcases List.mem_append.1 o with o|o
     .have:=aj a o;omega
     .simp at o;omega
    .rcases aU a k with R|R
     .rw[aI a R];simp;omega
     .have:a=k:=V
      subst this
      simp at D;simp[D]
   .refine X V _ _ ⟨Y,W,C6,A6,W6,ar,λa o=>oh (aj a o),λa o=>?_,fW G⟩
    rcases aU a k with R|R
    .exact aI a R
    .have:a=k:=V
     subst this
     simp at D
     simp only[D,false_iff]
     intro hm;have:=aj _ hm;omega
  refine⟨λC=>⟨V,V,_,by rw[cO];exact g6,λQ=>no (X4.trans K) λz=>?_,λQ=>⟨λD=>no (X4.trans K) λz=>?_,λD=>ka λ_=>by simp at Q D;omega⟩⟩,λC=>ka λQ=>by simp at C;omega⟩
  .have:=z.dP k e aa (by simpa using C);simp at Q;omega
  .have:=(z.cells e (aq aa)).hi;simp at D;omega
 have bf:k=h.length:=V;subst bf;clear X h4
 have bc:∀e∈h,nF h e:=λe s=>by
  let⟨a,o⟩:=List.mem_iff_getElem?.1 s;refine(ai e s).ok ?_;rcases mU 0 e.aS with N|N
  .exact(aC a e (ax o) o N).2
  .omega
 have bl:∀(a:Nat)(e:bS),h[a]? =some e->0<e.aS->dP h a<=e.aS:=λa e o N=>(aC a e (ax o) o N).1;have bi:∀mk a,gG mk 0 h a<=3*h.length:=λmk a=>by
  have:=Ps mk 0 h a;have:=AN h a λe hm=>(ai e hm).fl;omega
 have K0:Gs h (λ_=>false) W (gG (λ_=>false) 0 h):=⟨ar,λa o=>⟨aj a o,rfl⟩,λa o=>by rw[Dd,aI a o];simp⟩;have c0:lT (λ_=>false) h.length=0:=by
  generalize h.length=c;induction c with
  |zero=>rfl
  |succ c K=>simp[lT,K]
 refine RC (γ:=(Nat->Bool)×List Nat) (λK P a3 M=>∃b,a3=(lT K.1 h.length:Nat)/\dL (λk=>k=2\/k=6) B L b M/\iI b M ay 1 2 A ((rZ h.length (gG K.1 0 h)).map Ce.i)/\iI b M ay 1 6 P ((UW K.2).map Ce.i)/\Gs h K.1 K.2 (gG K.1 0 h)/\SF h K.1)
  (λK=>h.length -lT K.1 h.length) (λ_=>false,W) ⟨Y,by rw[c0];rfl,C4,by rw[eY (g:=dP h) λj _=>Dd 0 h j];exact A4,W4,K0,λ_=>0,aH,aH⟩ ?_
 clear C4 A4 W4 K0 c0 X4 ar aj aI aC;rintro⟨mk,W⟩ P a3 U I3 μ3 ⟨aa,rfl,C5,A5,W5,K5,O5⟩ X
 simp only at A5 W5 K5 O5 X
 have X5:=aL C5;have aw:=W5.len;simp[JB]at aw;have bv:=K5.len;refine⟨λC=>?_,λC=>?_⟩
 .simp only[gJ,an]at C;have ah:W≠[]:=λu=>by subst u;simp at aw;omega
  obtain⟨W',a,rfl⟩:∃W' a,W=W'++[a]:=⟨W.dropLast,W.getLast ah,(iG ah).symm⟩;rw[J3]at W5;let⟨p1,p2,p3⟩:=W5.Vj;rw[JB]at p1 p2 p3;have e1:cQ ((P.len:Int) -1)=(W'.length:Int):=by rw[aQ V V];omega
  let⟨az,aP⟩:=K5.un a aH;let⟨e,aB⟩:=dI az;have ab:=aq aB;have be:=(ai e ab).fl;let⟨d,hf,g0,g1,g2⟩:=(cT.ext X5 y).aO aB;rw[e1,ao];have bB:=W5.le;refine⟨V,V,a,p2,V,V,?_⟩;rw[ao];refine⟨e.aS,g0,e.mK,g1,d,g2,?_⟩;intro p q;have F:J U q:=((J.aF U).aP _).ai (ad _) _ _;have s7:q.size=U.size+1:=by simp[q,p,aA]
  clear_value q;have F7:dL (λ_=>False) aa U aa q:=dL.fK _ F C5.new;have C7:dL (λk=>k=2\/k=6) B L aa q:=C5.trans (dL.fK _ F C5.new);have bx:=hf.len;have hz:gG mk 0 h a=0:=(K5.zero a az).2 (Or.inr aH);have O7:=O5.set az aP hz;have aT:=λx=>Nc (mk:=mk) (e:=0) aB (by rw[bE];exact aP) x;simp only[bE]at aT;have es:=yE aP az;have bw:=Eu (jV mk a) h.length;have K7:Gs h (jV mk a) W' (λx=>gG (jV mk a) 0 h x+eK (e.aL.drop 0) x):=by
   have:=K5.Vj;refine⟨this.Ky,this.un,λx T=>?_⟩;rw[<-this.zero x T,aT,List.drop_zero];constructor<;>intro h<;>omega
  refine⟨V,V,V,dx (σ:=O) (n:=e.aL.length) V (λl wk M=>∃b W2,dL (λk=>k=2\/k=6) aa q b M/\iI b M ay 1 2 A ((rZ h.length (λx=>gG (jV mk a) 0 h x+eK (e.aL.drop l) x)).map Ce.i)/\iI b M ay 1 6 wk ((UW W2).map Ce.i)/\Gs h (jV mk a) W2 (λx=>gG (jV mk a) 0 h x+eK (e.aL.drop l) x))
   ⟨aa,W',dL.aF _ C7.new,?_,?_,K7⟩ ?_⟩
  .have:=A5.fI F7 id;rw[eY (g:=gG mk 0 h) λj _=>by simp only[aT,List.drop_zero];omega];exact this
  .exact p3.fI F7 id
  rintro l wk m8 I4 μ4 hj ⟨r,W2,C8,A8,W8,K8⟩ aV;have X8:=aL (C7.trans C8);have T8:=aJ C8;have r7:U.size<m8.size/\r U.size=0:=⟨by have:=C8.size;omega,by rw[C8.jx _ V];exact C5.new _ (ad _)⟩;refine dit (λQ=>?_) λQ=>?_
  .let⟨w,H⟩:=cg e.aL l;have au:=aq H;have ba:=aS e ab w au;have a2:e.aL.drop l=w::e.aL.drop (l+1):=by
    rw[lC (ax H)];congr 1;exact(List.getElem?_eq_some_iff.1 H).2
   obtain⟨f0,aR,_,_,w2⟩:=y.aO aB;have er:f0=d:=by have:=X5.af w2;rw[g2]at this;exact(O.IE.1 (lG this)).symm
   subst er;refine⟨V,V,w,by simpa using(aR.ext X8).aO H,(mo (cT.ext X8 y) ba.2).mono ?_⟩;rintro _ m9 ⟨a4,b9,rfl,a0,bk,x9⟩;have z9:=x9.size;have F9:dL (λ_=>False) r m8 r m9:=dL.fK _ x9 C8.new;have C9:dL (λk=>k=2\/k=6) aa q r m9:=C8.trans (dL.fK _ x9 C8.new);have A9:=A8.fI F9 id;have W9:=W8.fI F9 id;refine⟨x9.da bN,a4,b9,rfl,λD=>?_,λD=>?_⟩
   .have ag:=a0.1 D;have ac:=ax (cw ag).1;have e9:=bk D;subst e9;have al:∀x,eK (e.aL.drop l) x=(if x=ix w then 1 else 0)+eK (e.aL.drop (l+1)) x:=λx=>by rw[a2,iz ag.1]
    have bb:=al (ix w);rw[ak rfl]at bb;have n1:=EZ (jV mk a) 0 h (ix w);have n2:=bi (jV mk a) (ix w);have n3:=iA (e.aL.drop (l+1)) (ix w);have n4:=kA (e.aL.drop (l+1)) (ix w);have n5:(e.aL.drop (l+1)).length<=3:=bN;let⟨u1,u2,u3⟩:=Xf (d:=λx=>gG (jV mk a) 0 h x+eK (e.aL.drop l) x) (g:=λx=>gG (jV mk a) 0 h x+eK (e.aL.drop (l+1)) x) A9 ac (v:=gG (jV mk a) 0 h (ix w)+eK (e.aL.drop (l+1)) (ix w)) (λj _=>by
     rw[al];by_cases u:j=ix w
     .subst u;rw[ak rfl]
     .rw[ae u,ae u];omega) C9.new
    refine⟨V,V,_,V7 A9 V ac,V,V,u1,?_⟩;rw[show cQ (gG (jV mk a) 0 h (ix w)+eK (e.aL.drop l) (ix w) -1)=gG (jV mk a) 0 h (ix w)+eK (e.aL.drop (l+1)) (ix w)by rw[aQ V V];omega];intro K;have av:dL (λk=>k=2\/k=6) aa q r K:=C9.trans (u3.mono λk z=>Or.inl z);have bG:K.size=m9.size:=aA _ _ _ _;have aK:iI r K ay 1 6 wk ((UW W2).map Ce.i):=W9.fI u3 bh;let⟨v1,v2⟩:=K8.oD (lf':=λx=>gG (jV mk a) 0 h x+eK (e.aL.drop (l+1)) x) ac (λx=>by
     rw[al];split<;>omega) (show 0<gG (jV mk a) 0 h (ix w)+eK (e.aL.drop l) (ix w)by omega)
    have a8:To r m9 r K:=u3.mono λk z=>V;have aX:iI r K ay 1 2 A ((rZ h.length (λx=>gG (jV mk a) 0 h x+eK (e.aL.drop (l+1)) x)).map Ce.i):=u2;clear_value K;clear u2;refine⟨a8.da (by simp;exact⟨V,r7.2⟩),V,V,_,V7 aX V ac,λR=>?_,λR=>aV V _ _ ⟨r,W2,av,aX,aK,v2 (by simpa using R)⟩⟩;intro am;have a7:J K am:=(J.aF K).aP _;have bo:cz am K.size 3 [.i (ix w:Int)]:=cz.push K _ _;have bH:am.size=K.size+1:=by simp[am]
    have aZ:dL (λ_=>False) r K r am:=dL.fK _ a7 av.new;have aY:dL (λk=>k=2\/k=6) aa q r am:=av.trans (dL.fK _ a7 av.new);have bg:=aK.len;simp[JB]at bg;have bz:=K8.len;exact iI.append (zs:=[.i 0]) (c:=[.i (ix w:Int)]) (aK.fI aZ id) aY.new aH bo.jC (by simp only[O.dS];omega) λbs q2 bF a9 aO=>⟨(aJ (aO.mono λl hj=>Or.inr hj)).da (by simp;exact⟨V,r7.2⟩),aV V _ _ ⟨bs,W2++[ix w],aY.trans (aO.mono λl hj=>Or.inr hj),(aX.fI aZ id).fI aO bh,by rw[J3];simpa using a9,v1 (by simpa using R)⟩⟩
   .have bj:w<1000:=(a1 e ab w au).resolve_left (fb a0 D);have al:∀x,eK (e.aL.drop (l+1)) x=eK (e.aL.drop l) x:=λx=>by
     rw[a2];simp only[eK];rw[ae V];omega
    refine aV V _ _ ⟨r,W2,C9,?_,W9,⟨K8.Ky,K8.un,λx T=>by rw[al];exact K8.zero x T⟩⟩;rw[eY (g:=λx=>gG (jV mk a) 0 h x+eK (e.aL.drop l) x) λj _=>by rw[al]];exact A9
  .have K:e.aL.drop l=[]:=tf V;have D:∀x,gG (jV mk a) 0 h x+eK (e.aL.drop l) x=gG (jV mk a) 0 h x:=λx=>by rw[K];simp[eK]
   rw[show cQ ((lT mk h.length:Nat)+1:Int)=((lT (jV mk a) h.length:Nat):Int)by rw[es,aQ V V];omega];refine X (jV mk a,W2) _ _ m8 ⟨r,rfl,C7.trans C8,?_,W8,⟨K8.Ky,K8.un,λx T=>by have:=K8.zero x T;rw[D]at this;exact this⟩,O7⟩ (by simp only[];omega)
   rw[eY (g:=λx=>gG (jV mk a) 0 h x+eK (e.aL.drop l) x) λj _=>(D j).symm];exact A8
 .simp only[gJ,br]at C;have p:W=[]:=List.length_eq_zero_iff.1 V;subst p;have q:=Vf O5 ag λa o l=>((K5.zero a o).1 l).resolve_right aH;refine⟨_,_,rfl,?_,λ_=>⟨m.size,rfl,ad _,a5 C5⟩,X5⟩;rw[aM,show((lT mk h.length:Nat):Int)=(N.len:Int)<->lT mk h.length=h.length by omega,q];exact⟨λo=>⟨bn,bc,bl,o⟩,λz=>z.JS⟩
end
section
variable{j:cp}{f:be}{m d i:E}{r o e:O}{a b:Nat}
structure RH(j:cp)(f:be):Prop where
 dV:0<=f.dV/\f.dV<j.cv.length
 pc:0<=f.pc/\f.pc<(dm j f.dV).bn.length
 lr:(f.av.length:Int)=(dm j f.dV).av
 lo:(f.ba.length:Int)=(dm j f.dV).av
 lh:(f.bA.length:Int)=(dm j f.dV).av
 de:∀(k:Nat)(w o:Int),f.av[k]? =some w->f.ba[k]? =some o->(gY w\/1000<=w)/\(0<=o/\o<=999999)
def RH.ba(h:RH j f):∀o∈f.ba,0<=o/\o<=999999:=λo b=>by
 let⟨k,a⟩:=List.mem_iff_getElem?.1 b;have:=ax a;have d:=h.lr;have e:=h.lo;let⟨w,c⟩:=cg f.av k;exact(h.de k w o c a).2
def C0{P Y:O}(R:eX m P Y j)(K:ap m r f.av)(z:ap m o f.ba)(he:ap m e f.bA):
 dz cq 61 [.agg #[O.v P,O.v Y],.agg #[vi f.dV,vi f.pc,vi f.dst,O.v r,O.v o,O.v e]] m (RH j f):=by
 apply xD
 simp -zeta only[aE,aD]
 intro L d
 have C:J m d:=((J.aF m).aP _).aP _
 have s1:L.size=m.size+1:=by simp[L]
 have s2:d.size=m.size+2:=by simp[d,s1]
 clear_value d
 have aj:=R.cv.len
 have al:=K.len
 have ag:=z.len
 have ae:=he.len
 have am:=K.fu
 refine⟨λy=>cr (λa=>by have:=a.dV;simp at y;omega) C,λy=>⟨λD=>cr (λa=>by have:=a.dV;simp at D;omega) C,λD=>?_⟩⟩
 simp at y D
 let⟨ac,U⟩:=cg j.cv f.dV.toNat
 have h:dm j f.dV=ac:=by simp[dm,U]
 let⟨pa,pl,pc,ah,ak,aa,k0,k1,k2,k3,k4⟩:=(R.ext C).cv.aO U
 have ai:=aa.len
 refine⟨y,V,pa,k0,pl,k1,_,k2,_,k3,pc,k4,?_⟩
 intro m3 s
 have x4:J d s:=((J.aF d).aP _).ai (ad _) _ _
 have s4:s.size=d.size+1:=by simp[s,m3,aA]
 clear_value s
 have c:=C.trans x4
 have hl:∀b∈[d.size,L.size,m.size],b<s.size:=bN
 refine⟨λE=>cr (λa=>by have:=a.pc;simp at E;omega) c,λE=>⟨λF=>cr (λa=>by have:=a.pc;rw[h]at this;simp at F;omega) c,λF=>⟨λG=>cr (λa=>by have:=a.lr;rw[h]at this;simp at G;omega) c,λG=>⟨λH=>cr (λa=>by have:=a.lo;rw[h]at this;simp at H;omega) c,λH=>⟨λI=>cr (λa=>by have:=a.lh;rw[h]at this;simp at I;omega) c,λI=>?_⟩⟩⟩⟩⟩
 simp at E F G H I
 refine dZ (n:=f.av.length) V (λk m'=>J s m'/\∀(g:Nat)(w o:Int),g<k->f.av[g]? =some w->f.ba[g]? =some o->(gY w\/1000<=w)/\(0<=o/\o<=999999)) ⟨J.aF _,λg w o S=>absurd S (fV _)⟩ ?_
 rintro k X Z μ a ⟨N,W⟩ ab
 refine dit (λh8=>?_) λh8=>?_
 .let⟨w,i⟩:=cg f.av k
  let⟨t,v⟩:=cg f.ba k
  refine⟨V,V,w,by simpa using(K.ext (c.trans N)).aO i,(qu w X).aI N hl λb6 q Q an x=>⟨b6,rfl,?_⟩⟩
  have T:af q o.az (o.off+Int.toNat (k:Int)*1)=some (vi t):=by simpa using(z.ext (c.trans x)).aO v
  have ka:(gY w\/1000<=w)->(0:Int)<=k/\(k:Int)<(o.len:Int)/\∃M:Int,af q o.az (o.off+Int.toNat (k:Int)*1)=some (vi M)/\((decide (M<(0:Int)))=true->∃l:Bool,vb false=.bool l/\(l=true<->RH j f)/\J m q)/\
   ((decide (M<(0:Int)))=false->(0:Int)<=k/\(k:Int)<(o.len:Int)/\∃p:Int,af q o.az (o.off+Int.toNat (k:Int)*1)=some (vi p)/\((decide (p>(999999:Int)))=true->∃l:Bool,vb false=.bool l/\(l=true<->RH j f)/\J m q)/\
   ((decide (p>(999999:Int)))=false->Z (cQ ((k:Int)+(1:Int))) q/\μ (cQ ((k:Int)+(1:Int))) q<μ k X)):=λhi=>
   ⟨V,V,t,T,λp=>cr (λa=>by have:=(a.de k w t i v).2;simp at p;omega) (c.trans x),λp=>⟨V,V,t,T,λl=>cr (λa=>by have:=(a.de k w t i v).2;simp at l;omega) (c.trans x),λl=>ab V _ ⟨x,λg w' o' S B A=>by
    rcases aU g k with u|u
    .exact W g w' o' u B A
    .have:g=k:=V;subst this;rw[i]at B;rw[v]at A;simp at B A;subst B;subst A;simp at p l;exact⟨hi,V⟩⟩⟩⟩
  refine⟨λp=>⟨λl=>cr (λa=>?_) (c.trans x),λl=>ka (Or.inr (by simp at l;omega))⟩,λp=>ka (Or.inl (yb Q p))⟩
  rcases(a.de k w t i v).1 with u|u
  .exact nb Q p u
  .simp at l;omega
 .refine jr ⟨V,by rw[h];omega,by rw[h];omega,by rw[h];omega,by rw[h];omega,λg w o i z=>W g w o (oh (ax i)) i z⟩ (c.trans N)
structure IF(a b:Nat)(m m':E):Prop where
 size:m.size<=m'.size
 same:∀c,c<m.size->c≠a->c≠b->m'[c]? =m[c]?
def IF.aF(a b:Nat)(m:E):IF a b m m:=⟨ad _,λ_ _ _ _=>rfl⟩
def IF.ext{g:E}(h:IF a b m g)(f:J g d):IF a b m d:=⟨bH h.size f.size,λc e i j=>by rw[f.same c (aJ e h.size)];exact h.same c e i j⟩
def IF.trans{j:E}(h:IF a b m j)(i:IF a b j d):IF a b m d:=⟨bH h.size i.size,λc g e f=>by rw[i.same c (aJ g h.size) e f];exact h.same c g e f⟩
def IF.ai{d:E}(h:IF a b m d){c:Nat}(i:c=a\/c=b)(o:Nat)(l:List Ce):IF a b m (ai d c o l):=
 ⟨by rw[aA];exact h.size,λx j f g=>by rw[bd l d c o (by rcases i with e|e<;>rw[e]<;>assumption)];exact h.same x j f g⟩
def IF.Gf{f:E}(h:IF a b m f)(c:J i m)(g:i.size<=a)(j:i.size<=b):J i f:=
 ⟨bH c.size h.size,λd e=>by rw[h.same d (c.lt e) V V];exact c.same d e⟩
structure WK(h:List bS)(f:be):Prop where
 ba:∀(k:Nat)(w o:Int),f.av[k]? =some w->f.ba[k]? =some o->0<o->gZ h w
 bA:∀w∈f.bA,w≠0->1000<=w/\∃c,h[ix w]? =some c/\c.aS<0
def Vt{w:Int}{n:Nat}(b:ug w)(f:n<=1000000000):(0<=cQ (w -1000)/\cQ (w -1000)<n)<->(1000<=w/\ix w<n):=by
 let⟨c,d⟩:=b;rcases mU w (-9223372036854774808)with a|a
 .have e:cQ (w -1000)=w -1000+18446744073709551616:=by
   unfold cQ;rw[IntKind.wrap_i64];omega
  unfold ix;rw[e];constructor<;>intro h<;>omega
 .unfold ix;rw[aQ V V];omega
structure NA(m:E)(ob hb n:Nat)(fo fh:Nat->Int):Prop where
 ba:cz m ob ay ((rZ n fo).map Ce.i)
 bA:cz m hb ay ((rZ n fh).map Ce.i)
 ne:ob≠hb
def LY{hp:O}{h:List bS}{p c:Nat}{l fh:Nat->Int}(x0:J i m)(hh:cT i hp h)(hr:ap i r f.av)(B:ap i o f.ba)(he:ap i e f.bA)(ai:i.size<=p)(ah:i.size<=c)(T:NA m p c h.length l fh)
 (ag:RF f)(aw:h.length<=1000000000)(ar:f.av.length=f.ba.length/\f.bA.length=f.ba.length/\f.ba.length<=10000000)(aj:∀o∈f.ba,0<=o/\o<=999999)(ao:∀a,0<=l a/\l a<=1000000000000000)(an:∀a,0<=fh a/\fh a<=1000000000):
 aN cq 62 [.agg #[vi f.dV,vi f.pc,vi f.dst,O.v r,O.v o,O.v e],O.v hp,O.v (.mk p 0 h.length h.length),O.v (.mk c 0 h.length h.length)] m λv D=>
  ∃b:Bool,v=vb b/\(b=true<->WK h f)/\(b=true->NA D p c h.length (λa=>l a+cN f.av f.ba a) (λa=>fh a+eK f.bA a))/\IF p c m D:=by
 apply vT
 simp -zeta only[aE,aD]
 intro I
 have x1:J m I:=(J.aF m).aP _
 have s1:I.size=m.size+1:=by simp[I]
 clear_value I
 have aK:=hr.len
 have aI:=B.len
 have aF:=he.len
 have aG:=hh.len
 let⟨az,aB,aC⟩:=ar
 have aM:=T.ba.lt
 have aL:=T.bA.lt
 simp -zeta only[O.dS,O.fG,O.iY,bE]
 have S:∀ac:Nat,Int.toNat (ac:Int)=ac:=λac=>V
 refine dZ (n:=f.ba.length) V (λk D=>IF p c m D/\m.size<D.size/\NA D p c h.length (λa=>l a+cN (f.av.take k) (f.ba.take k) a) (λa=>fh a+eK (f.bA.take k) a)/\(∀(j:Nat)(w o:Int),j<k->f.av[j]? =some w->f.ba[j]? =some o->0<o->gZ h w)/\
  (∀w∈f.bA.take k,w≠0->1000<=w/\∃s,h[ix w]? =some s/\s.aS<0)) ⟨(IF.aF _ _ _).ext x1,V,by simpa[cN,eK]using(⟨T.ba.ext x1,T.bA.ext x1,T.ne⟩:NA I p c h.length l fh),λj w o hj=>absurd hj (fV _),aH⟩ ?_
 rintro k d ay μ hk ⟨t2,z2,q,q2,p2⟩ am
 have Q:=t2.Gf x0 ai ah
 rw[S,cO]
 refine dit (λh1=>?_) λh1=>?_
 .let⟨w,u⟩:=cg f.av k
  let⟨t,C⟩:=cg f.ba k
  let⟨v,y⟩:=cg f.bA k
  have gw:∀{M:E},J i M->af M r.az (r.off+k)=some (vi w):=λH=>by simpa using(hr.ext H).aO u
  have gq:∀{M:E},J i M->af M o.az (o.off+k)=some (vi t):=λH=>by simpa using(B.ext H).aO C
  have gv:∀{M:E},J i M->af M e.az (e.off+k)=some (vi v):=λH=>by simpa using(he.ext H).aO y
  have al:=ag.2.2 v (aq y)
  have aJ:=aj t (aq C)
  refine⟨V,V,t,gq Q,λM=>IF p c d M/\m.size<M.size/\NA M p c h.length (λa=>l a+cN (f.av.take (k+1)) (f.ba.take (k+1)) a) (λa=>fh a+eK (f.bA.take k) a)/\(0<t->gZ h w),⟨λW=>?_,λW=>?_⟩,?_⟩
  .have F:0<t:=by simpa using W
   refine⟨V,V,w,gw Q,(mo (cT.ext Q hh) (ag.1 w (aq u)).2).mono ?_⟩
   rintro _ m3 ⟨a,b3,rfl,N,U,z⟩
   have z3:=z.size
   refine⟨z.da bN,a,b3,rfl,λx=>⟨false,rfl,?_,aH,t2.ext z⟩,λx=>?_⟩
   .simp only[fq,false_iff]
    exactλht=>nb N x (ht.ba k w t u C F)
   have L:=yb N x
   have P:=ax (cw L).1
   have K:=U (by simpa using x)
   subst K
   have A:=q.ba.ext z
   have R:=q.bA.ext z
   have q1:=EX (av:=f.av.take k) (ba:=f.ba.take k) (n:=999999) V (λo B=>aj o (cX B)) (ix w)
   have X:(f.ba.take k).length<=10000000:=bN
   have Y:=ao (ix w)
   rw[S,cO]
   refine⟨V,V,_,sX A P,V,V,Nj A P,?_⟩
   rw[show cQ (l (ix w)+cN (f.av.take k) (f.ba.take k) (ix w)+t)=l (ix w)+cN (f.av.take k) (f.ba.take k) (ix w)+t from aQ V V]
   have G:=HZ A (ix w) (l (ix w)+cN (f.av.take k) (f.ba.take k) (ix w)+t)
   rw[eY (g:=λa=>l a+cN (f.av.take (k+1)) (f.ba.take (k+1)) a)]at G
   .exact⟨λb Z=>bd _ _ _ _ (by simp at Z;omega),((IF.aF _ _ _).ext z).ai (Or.inl rfl) _ _,by rw[aA];omega,⟨G,R.congr (bd _ _ _ _ λe=>q.ne e.symm),q.ne⟩,λ_=>L⟩
   .intro b c
    rw[nQ u C]
    by_cases e:b=ix w
    .subst e;rw[ak rfl,ak (iC L.1).symm];omega
    .rw[ae e,ae (λab=>e (by rw[ab,jv]))];omega
  .have F:t=0:=by simp at W;omega
   refine⟨IF.aF _ _ _,z2,⟨?_,q.bA,q.ne⟩,λhp=>V⟩
   rw[eY (g:=λa=>l a+cN (f.av.take k) (f.ba.take k) a)]
   .exact q.ba
   .intro b c;rw[nQ u C,F];split<;>omega
  rintro m3 ⟨t3,z3,z,au⟩
  have F:=t2.trans t3
  have R:=F.Gf x0 ai ah
  have fW:∀(j:Nat)(w o:Int),j<k+1->f.av[j]? =some w->f.ba[j]? =some o->0<o->gZ h w:=λj w' o' hj P N=>by
   rcases aU j k with A|A
   .exact q2 j w' o' A P N
   .have:j=k:=V;subst this;rw[u]at P;rw[C]at N;simp at P N;subst P;subst N;exact au
  have aa:=Vt (n:=h.length) al aw
  refine⟨V,V,v,gv R,λx=>⟨V,V,v,gv R,?_⟩,λx=>?_⟩
  .have X:v≠0:=by simpa using x
   have ad:∀{M:E},IF p c m M->¬(1000<=v/\∃s,h[ix v]? =some s/\s.aS<0)->∃b:Bool,vb false=vb b/\(b=true<->WK h f)/\(b=true->NA M p c h.length (λa=>l a+cN f.av f.ba a) (λa=>fh a+eK f.bA a))/\IF p c m M:=λht hn=>
    ⟨false,rfl,by simp only[fq,false_iff];exactλhk=>hn (hk.bA v (aq y) X),aH,ht⟩
   refine⟨λL=>ad F λ⟨g1,s,g2,_⟩=>?_,λL=>⟨λY=>ad F λ⟨g1,s,g2,_⟩=>?_,λY=>?_⟩⟩
   .have:=(aa.2 ⟨g1,ax g2⟩).1;simp at L;omega
   .have:=(aa.2 ⟨g1,ax g2⟩).2;simp at Y;omega
   simp at L Y
   let⟨g1,g2⟩:=aa.1 ⟨L,V⟩
   have ew:cQ (v -1000)=(ix v:Nat):=by have:=al.2;unfold ix;rw[aQ V V];omega
   rw[ew,S]
   let⟨s,hc⟩:=dI g2
   obtain⟨cf,_,c0,_,_⟩:=(cT.ext R hh).aO hc
   refine⟨V,V,s.aS,c0,λA=>ad F λ⟨_,c',U,g4⟩=>?_,λA=>?_⟩
   .rw[hc]at U;simp at U;subst U;simp at A;omega
   have q1:=an (ix v)
   have q2:=kA (f.bA.take k) (ix v)
   have q3:=iA (f.bA.take k) (ix v)
   have q4:(f.bA.take k).length<=10000000:=bN
   rw[cO]
   refine⟨V,V,_,sX z.bA g2,V,V,Nj z.bA g2,?_⟩
   rw[show cQ (fh (ix v)+eK (f.bA.take k) (ix v)+1)=fh (ix v)+eK (f.bA.take k) (ix v)+1 from aQ V V]
   have G:=HZ z.bA (ix v) (fh (ix v)+eK (f.bA.take k) (ix v)+1)
   rw[eY (g:=λa=>fh a+eK (f.bA.take (k+1)) a)]at G
   .refine⟨λb Z=>bd _ _ _ _ (by simp at Z;omega),am V _ ⟨F.ai (Or.inr rfl) _ _,by rw[aA];exact z3,⟨z.ba.congr (bd _ _ _ _ q.ne),G,q.ne⟩,fW,bM y p2 λ_=>⟨g1,s,hc,by simp at A;omega⟩⟩⟩
   .intro b c
    rw[qH y]
    by_cases e:b=ix v
    .subst e;rw[ak rfl,ak (iC g1).symm];omega
    .rw[ae e,ae (λab=>e (by rw[ab,jv]))];omega
  .have X:v=0:=by simpa using x
   refine am V _ ⟨F,z3,⟨z.ba,?_,q.ne⟩,fW,bM y p2 λG=>absurd X G⟩
   rw[eY (g:=λa=>fh a+eK (f.bA.take k) a)]
   .exact z.bA
   .intro b c;rw[qH y,ae V];omega
 .have t:f.av.take k=f.av:=cy V
  have x:f.ba.take k=f.ba:=cy V
  have K:f.bA.take k=f.bA:=cy V
  rw[t,x,K]at q
  rw[K]at p2
  exact⟨true,rfl,by simp only[true_iff];exact⟨λj w o u B=>q2 j w o (oh (ax u)) u B,p2⟩,λ_=>q,t2⟩
end
section
def WD(a:List be)(k:Nat)(f:be):Prop:=(mR a k=none->f.dst=0)/\∀p,mR a k=some p->0<=f.dst/\f.dst<p.ba.length/\aO p.ba f.dst=0
structure Sy(im:cp)(s:St)(k:Nat)(f:be):Prop where
 v:RH im f
 dst:WD s.aj k f
 Zp:WK s.heap f
def Sy.ok{c:cp}{s:St}{k:Nat}{f:be}(h:Sy c s k f):JK c s.heap (mR s.aj k) f:=
 ⟨h.v.dV,h.v.pc,h.v.lr,h.v.lo,h.v.lh,⟨λj w o b a=>⟨(h.v.de j w o b a).1,(h.v.de j w o b a).2,h.Zp.ba j w o b a⟩⟩,h.dst.1,h.dst.2⟩
def QV.w{m:cp}{s:St}(h:QV m s){k:Nat}{f:be}(d:s.aj[k]? =some f):Sy m s k f:=by
 have F:=h.aj k f d;refine⟨⟨F.dV,F.pc,F.lr,F.lo,F.lh,λj w o b c=>⟨(F.av.de j w o b c).1,(F.av.de j w o b c).2.1⟩⟩,⟨F.first,F.next⟩,λj w o b c=>(F.av.de j w o b c).2.2,λw b q=>?_⟩;let⟨g,n⟩:=(h.bA.dB f (aq d) w b).resolve_left q;let⟨e,i⟩:=dI n;refine⟨g,e,i,Int.not_le.1 λp=>?_⟩;have r:=h.bA.mE _ e i p;have t:=Pf (aq d) (b:=ix w);have u:=tS (l:=f.bA) (f:=ix w) (by rw[iC g];exact b);omega
section
variable{m:E}{d p bB c b:O}{a:cp}{s:St}
def C3(aS:eX m d p a)(aX:El a)(Q:fO m bB c b s)(ab:vJ s):dz cq 28 [.agg #[O.v d,O.v p],OC s bB c b] m (iT a s):=by
 apply xE;simp -zeta only[aE,aD];intro m1 L;have x2:J m L:=((J.aF m).aP _).aP _;have s1:m1.size=m.size+1:=by simp[m1]
 have s2:L.size=m.size+2:=by simp[L,s1]
 clear_value L;have hl:∀x∈[m1.size,m.size],x<L.size:=bN;have aP:=Q.aj.len;have a7:=Q.heap.len;have a8:=ab.lh;have t:∀{M:E},J L M->¬QV a s->∃A:Bool,vb false=.bool A/\(A=true<->iT a s)/\J m M:=λhx I=>cr (λh=>I (CQ h)) (x2.trans hx);have ar:(s.aj=[])<->((b.len:Int)=0):=by rw[aP];simp
 refine⟨λM=>J L M/\(0<=s.cW/\s.cW<=3)/\(s.cW=0<->s.aj=[])/\gY s.value/\(s.value≠0->s.cW=0),?_,?_⟩
 .refine⟨λy=>t (J.aF _) λi=>by have:=i.cW;simp at y;omega,λy=>⟨λv=>t (J.aF _) λi=>by have:=i.cW;simp at v;omega,λv=>⟨λF=>t (J.aF _) λi=>?_,λF=>?_⟩⟩⟩
  .have:=i.done;rw[ar,<-Eo]at this;rw[this]at F;cases F
  have ah:0<=s.cW/\s.cW<=3:=by simp at y v;omega
  have ag:s.cW=0<->s.aj=[]:=by rw[ar];exact(Eo _ _).1 F
  refine(qu _ _).aI (J.aF _) hl λb3 m3 e C _=>⟨b3,rfl,λz=>t C λi=>nb e z i.value,λz=>⟨λf=>⟨λh=>t C λi=>?_,λh=>⟨C,ah,ag,yb e z,λ_=>by simpa using h⟩⟩,λf=>⟨C,ah,ag,yb e z,λh=>by simp at f;exact absurd f h⟩⟩⟩;have:=i.td (by simpa using f);simp at h;exact h this
 rintro m3 ⟨C,ah,ag,hv,a0⟩;refine⟨λy=>t C λi=>by have:=i.eD;simp at y;omega,λy=>⟨λv=>t C λi=>by have:=i.eD;simp at v;omega,λv=>⟨λF=>t C λi=>by have:=i.bL;simp at F;omega,λF=>⟨λz=>t C λi=>by have:=i.bL;simp at z;omega,λz=>?_⟩⟩⟩⟩;have aV:0<=s.eD/\s.eD<=40:=by simp at y v;omega
 have aL:0<=s.bL/\s.bL<=s.eD:=by simp at F z;omega
 rw[aQ V V];refine⟨λf=>t C λi=>by have:=i.depth;simp at f;omega,λf=>?_⟩;have aM:(s.aj.length:Int)<=s.bL+1:=by simp at f;omega
 clear y v F z f;have X3:=x2.trans C;refine(rD (Q.ext X3).heap ab.heap V).mono ?_;rintro _ m4 ⟨ct,b4,rfl,ao,aZ,aC⟩;have x4:=C.trans aC;have z4:=x4.size;have z3:=C.size;refine⟨aC.da λx H=>C.lt (hl x H),ct,b4,rfl,λy=>t x4 λi=>nb ao y i.heap,λy=>?_⟩;have av:=yb ao y;obtain⟨ob,rfl,a9,B4⟩:=aZ (by simpa using y);have bc:=B4.lt;refine(my (Q.ext (x2.trans x4)).bB 60 #[] #[] bh (λai=>¬gY ai) (λai _ m' hx=>?_)).aI x4 hl ?_
 .apply uX;refine(qu _ _).then λx G H x5=>⟨x,rfl,fU ?_ x5⟩;rw[<-H];simp
 intro b5 G ap aF x5;have z5:=x5.size;have bf:=aF.size;refine⟨b5,rfl,λv=>t x5 λi=>?_,λv=>?_⟩
 .let⟨ai,hx,I⟩:=ap.1 v;exact I (i.bB ai hx)
 have aY:∀Z∈s.bB,gY Z:=λZ I=>eT λB=>by have:=ap.2 ⟨Z,I,B⟩;rw[v]at this;cases this
 have en:Int.toNat (c.len:Int)=s.heap.length:=V;rw[en];refine⟨V,V,V,V,?_⟩;intro R;have aG:J G R:=(J.aF G).aP _;have s6:R.size=G.size+1:=by simp[R]
 have H6:cz R G.size ay ((rZ s.heap.length (λ_=>0)).map Ce.i):=Lt G _;clear_value R;have x6:=x5.trans aG;have X6:=x2.trans x6;have T6:NA R ob G.size s.heap.length (dP s.heap) (λ_=>0):=⟨B4.ext (aF.trans aG),H6,V⟩;have aW:m.size<=ob:=by have:=X3.size;omega
 have ak:∀Z:Nat,Int.toNat (Z:Int)=Z:=λZ=>V;have a6:s.aj.length<=41:=V;have rb:∀e,0<=dP s.heap e/\dP s.heap e<=3*s.heap.length:=λe=>⟨qA _ _,AN _ _ λo B=>(av.cells o B).fl⟩;refine dZ (n:=s.aj.length) V (λj M=>IF ob G.size R M/\NA M ob G.size s.heap.length (λe=>dP s.heap e+eA (s.aj.take j) e) (λe=>holds (s.aj.take j) e)/\∀(q:Nat)(l:be),q<j->s.aj[q]? =some l->Sy a s q l)
  ⟨IF.aF _ _ _,by simpa[eA,holds]using T6,λq l K=>absurd K (fV _)⟩ ?_
 rintro j W a5 μ i ⟨t7,N,al⟩ a1
 have x7:J L W:=t7.Gf x6 V V;have P:=x2.trans x7;have ba:∀x∈[m1.size,m.size],x<W.size:=λx H=>x7.lt (hl x H);have z7:=x7.size;have bb:=N.ba.lt;have a_:=N.bA.lt;rw[ak];refine dit (λF=>?_) λF=>?_
 .let⟨l,r⟩:=cg s.aj j;have au:=aq r;let⟨a3,a2,ac,hr,ho,U,g0,g1,g2,g3,g4,g5⟩:=Q.aj.aO r;refine⟨V,V,_,P.af g0,_,P.af g1,_,P.af g2,a3,P.af g3,a2,P.af g4,ac,P.af g5,?_⟩;intro X Y;have T:J W Y:=((J.aF W).aP _).ai (ad _) _ _;have s9:Y.size=W.size+1:=by simp[Y,X,aA]
  clear_value Y;have X9:=P.trans T;have l9:∀x∈[W.size,m1.size,m.size],x<Y.size:=bN;refine(C0 (aS.ext X9) (hr.ext X9) (ho.ext X9) (U.ext X9)).aI (J.aF _) l9 λaI w am D _=>⟨aI,rfl,λz=>t ((x7.trans T).trans D) λi=>nb am z (i.w r).v,λz=>?_⟩;have hV:=yb am z;have S:=(x7.trans T).trans D;have ae:=x2.trans S;refine⟨λM=>w=M/\WD s.aj j l,?_,?_⟩
  .have aw:(cQ ((j:Int) -1)=((j -1:Nat):Int))\/j=0:=by
    rcases iS j with f|f
    .exact Or.inr f
    .exact Or.inl (by rw[aQ V V];omega)
   have ka:0<j->((decide (l.dst<(0:Int)))=true->∃A:Bool,vb false=.bool A/\(A=true<->iT a s)/\J m w)/\((decide (l.dst<(0:Int)))=false->
    (0:Int)<=(cQ ((j:Int) -(1:Int)))/\(cQ ((j:Int) -(1:Int)))<(b.len:Int)/\
    ∃aa:O,af w b.az (b.off+Int.toNat (cQ ((j:Int) -(1:Int)))*6+4)=some (O.v aa)/\
    ((decide (l.dst>=(aa.len:Int)))=true->∃A:Bool,vb false=.bool A/\(A=true<->iT a s)/\J m w)/\
    ((decide (l.dst>=(aa.len:Int)))=false->(0:Int)<=(cQ ((j:Int) -(1:Int)))/\(cQ ((j:Int) -(1:Int)))<(b.len:Int)/\
    ∃u:O,af w b.az (b.off+Int.toNat (cQ ((j:Int) -(1:Int)))*6+4)=some (O.v u)/\
    (0:Int)<=l.dst/\l.dst<(u.len:Int)/\∃aj:Int,af w u.az (u.off+Int.toNat l.dst*1)=some (vi aj)/\
    ((aj !=(0:Int))=true->∃A:Bool,vb false=.bool A/\(A=true<->iT a s)/\J m w)/\((aj !=(0:Int))=false->w=w/\WD s.aj j l))):=λaK=>by
    have e1:=aw.resolve_right V
    rw[e1,ak]
    obtain⟨q,rfl⟩:∃q,j=q+1:=⟨j -1,V⟩
    have ej:q+1 -1=q:=V
    rw[ej]
    let⟨pf,aj⟩:=cg s.aj q
    let⟨pr,po,pe,aN,an,aH,y0,y1,y2,y3,y4,y5⟩:=Q.aj.aO aj
    have aJ:=an.len
    have aa:mR s.aj (q+1)=some pf:=aj
    refine⟨λf=>t S λi=>?_,λf=>⟨V,V,po,ae.af y4,λh=>t S λi=>?_,λh=>⟨V,V,po,ae.af y4,by simpa using f,by simp at h;omega,aO pf.ba l.dst,?_,λu=>t S λi=>?_,λu=>⟨rfl,⟨λI=>(by rw[aa]at I;cases I),λaB hq=>?_⟩⟩⟩⟩⟩
    .have:=((i.w r).dst.2 pf aa).1;simp at f;omega
    .have:=((i.w r).dst.2 pf aa).2.1;simp at h;omega
    .simp at f h
     exact(an.ext ae).Gz f V
    .have:=((i.w r).dst.2 pf aa).2.2;simp at u;exact u this
    .rw[aa]at hq;simp at hq;subst hq
     simp at f h u;exact⟨f,V,u⟩
   refine⟨λf=>⟨λh=>t S λaz=>?_,λh=>⟨λu=>by simp at f u;omega,λu=>⟨rfl,⟨λ_=>by simpa using h,λaB hq=>?_⟩⟩⟩⟩,λf=>⟨λh=>ka (by simp at h;omega),λh=>by simp at f h;omega⟩⟩
   .simp at f;subst f;have:=(az.w r).dst.1 rfl;simp at h;exact h this
   .simp at f;subst f;simp[mR]at hq
  .rintro _ ⟨rfl,hD⟩;have aT:=ab.lr l au;have v1:=hV.lr;have v2:=hV.lo;have v3:=hV.lh;have bd:=D.size;have aH:NA w ob G.size s.heap.length (λe=>dP s.heap e+eA (s.aj.take j) e) (λe=>holds (s.aj.take j) e):=⟨N.ba.ext (T.trans D),N.bA.ext (T.trans D),N.ne⟩;have aR:∀e,0<=dP s.heap e+eA (s.aj.take j) e/\dP s.heap e+eA (s.aj.take j) e<=1000000000000000:=λe=>by
    have q1:=rb e;have q2:=JH (a:=s.aj.take j) (n:=10000000) (k:=999999) V (λaa u=>⟨(ab.lr aa (cX u)).2.1,by
     let⟨q,K⟩:=List.mem_iff_getElem?.1 u;have aj:q<j:=by have:=ax K;simp at this;omega
     rw[dy aj]at K;exact(al q aa aj K).v.ba⟩) e
    have q3:(s.aj.take j).length<=41:=bN;omega
   have aN:∀e,0<=holds (s.aj.take j) e/\holds (s.aj.take j) e<=1000000000:=λe=>by
    have q2:=Kj (a:=s.aj.take j) (n:=10000000) (λaa u=>(ab.lr aa (cX u)).2.2) e;have q3:(s.aj.take j).length<=41:=bN;have q4:=uT (s.aj.take j) e;omega
   refine(LY (i:=m) ae Q.heap hr ho U aW V aH (ab.aj l au) V ⟨V,V,aT.2.1⟩ hV.ba aR aN).mono ?_;rintro _ aw ⟨aJ,rfl,an,aK,az⟩;have aB:IF ob G.size R aw:=(t7.ext (T.trans D)).trans az;have a4:J L aw:=aB.Gf x6 V V;refine⟨λx H=>az.same x (D.lt (l9 x H)) (by simp at H;omega) (by simp at H;omega),aJ,rfl,λf=>t a4 λi=>nb an f (i.w r).Zp,λf=>a1 V _ ⟨aB,?_,λq aa K u=>?_⟩⟩
   .have aj:=aK (by simpa using f);refine⟨?_,?_,aj.ne⟩
    .rw[eY (g:=λe=>dP s.heap e+eA (s.aj.take j) e+cN l.av l.ba e)]
     .exact aj.ba
     .intro x H;rw[Ha r];omega
    .rw[eY (g:=λe=>holds (s.aj.take j) e+eK l.bA e)]
     .exact aj.bA
     .intro x H;rw[Kk r]
   .rcases aU q j with h|h
    .exact al q aa h u
    .have:q=j:=V;subst this;rw[r]at u;simp at u;subst u;exact⟨hV,hD,yb an f⟩
 rw[cy V]at N;have hW:∀(q:Nat)(l:be),s.aj[q]? =some l->Sy a s q l:=λq l r=>al q l (oh (ax r)) r;refine dZ (n:=s.heap.length) V (λj M=>J W M/\∀(e:Nat)(o:bS),e<j->s.heap[e]? =some o->(0<o.aS->o.aS=dP s.heap e+eA s.aj e)/\(o.aS<0->holds s.aj e=1)) ⟨J.aF _,λe o ha=>absurd ha (fV _)⟩ ?_;rintro u X I2 μ2 au ⟨x8,aj⟩ an;have X8:=P.trans x8;rw[ak];refine dit (λz=>?_) λz=>?_
 .have ae:u<s.heap.length:=V;let⟨o,aa⟩:=dI ae;obtain⟨l,_,g0,g1,g2⟩:=Q.heap.aO aa;refine⟨λM=>J X M/\(0<o.aS->o.aS=dP s.heap u+eA s.aj u)/\(o.aS<0->holds s.aj u=1),?_,?_⟩
  .refine⟨V,V,_,X8.af g0,_,X8.af g1,l,X8.af g2,?_⟩;intro Y w;have D:J X w:=((J.aF X).aP _).ai (ad _) _ _;clear_value w;have S:=(x7.trans x8).trans D;have go:=sX (N.ba.ext (x8.trans D)) ae;have gh:=sX (N.bA.ext (x8.trans D)) ae;simp -zeta only[O.dS,O.fG,O.iY,bE,cO];have bA:(0<o.aS->o.aS=dP s.heap u+eA s.aj u)->((decide (o.aS<(0:Int)))=true->(0:Int)<=u/\(u:Int)<(s.heap.length:Int)/\∃am:Int,af w G.size u=some (vi am)/\
    ((am !=(1:Int))=true->∃A:Bool,vb false=.bool A/\(A=true<->iT a s)/\J m w)/\((am !=(1:Int))=false->J X w/\(0<o.aS->o.aS=dP s.heap u+eA s.aj u)/\(o.aS<0->holds s.aj u=1)))/\
    ((decide (o.aS<(0:Int)))=false->J X w/\(0<o.aS->o.aS=dP s.heap u+eA s.aj u)/\(o.aS<0->holds s.aj u=1)):=λB=>
    ⟨λf=>⟨V,V,_,gh,λh=>t S λi=>by have:=i.bA.kJ u o aa (by simpa using f);simp at h;exact h this,λh=>⟨D,B,λ_=>by simpa using h⟩⟩,λf=>⟨D,B,λh=>by simp at f;omega⟩⟩
   refine⟨λf=>⟨V,V,_,go,λh=>t S λi=>?_,λh=>bA λ_=>by simpa using h⟩,λf=>bA λh=>by simp at f;omega⟩;have:=i.Qf u o aa (by simpa using f);simp at h;exact h this
  .rintro Y ⟨T,w,D⟩;refine an V _ ⟨x8.trans T,λe ac ha U=>?_⟩;rcases aU e u with h|h
   .exact aj e ac h U
   .have:e=u:=V;subst this;rw[aa]at U;simp at U;subst U;exact⟨w,D⟩
 .refine jr (Ln ⟨aX,ah,ag,hv,a0,aV,aL,aM,aY,av,λq l r=>(hW q l r).ok,⟨λl r w h=>?_,λS o B I=>(aj S o (oh (ax B)) B).2 I,λS o B I=>?_⟩,λe o B c=>(aj e o (oh (ax B)) B).1 c⟩) X8
  .let⟨q,K⟩:=pT r;by_cases D:w=0
   .exact Or.inl D
   .obtain⟨y,o,v,_⟩:=(hW q l K).Zp.bA w h D;exact Or.inr ⟨y,ax v⟩
  .refine Kl λl r w h ac=>?_;let⟨q,K⟩:=pT r;let⟨y,D,v,F⟩:=(hW q l K).Zp.bA w h V;rw[ac,jv,B]at v;simp at v;subst v;omega
def nK(k:eX m d p a)(r:fO m bB c b s)(q:vJ s):dz cq 9 [.agg #[O.v d,O.v p],OC s bB c b] m (iT a s):=by
 apply xB;simp -zeta only[aE,aD];intro i e;have f:J m e:=((J.aF m).aP _).aP _;have t:i.size=m.size+1:=by simp[i]
 have x:e.size=m.size+2:=by simp[e,t]
 clear_value e;have l:∀n∈[i.size,m.size],n<e.size:=bN;refine(CY (k.ext f)).aI (J.aF _) l λb3 v j g _=>⟨b3,rfl,λh=>?_,λh=>cr (λo=>fb j h o.eS) (f.trans g)⟩;refine(C3 (k.ext (f.trans g)) (j.1 h) (r.ext (f.trans g)) q).aI g l λb4 w o y u=>⟨b4,rfl,fU o (f.trans u)⟩
end
end
end Go.Proofs.YtdalfjkmdekijaaGreat
section
namespace Go.Vc
def gP.ku{m:E}{b o:Nat}{l r:List Ce}(h:gP m b o l)(k:gP m b (o+l.length) r):gP m b o (l++r):=λi d a=>by
 rcases aU i l.length with c|c
 .rw[aw c]at a;exact h i d a
 .rw[aG c]at a;have:=k _ d a;rwa[show o+l.length+(i -l.length)=o+i by omega]at this
end Go.Vc
namespace Go.Proofs.YtdalfjkmdekijaaGreat
open Go.Vc
variable{m:E}{d:Nat->Nat}
def fZ.Rt{a:E}{s:O}{l:List Ce}{e n:Nat}(f:fZ m a e n s l)(j:J m a)(i:∀b,m.size<=b->d b=0)(k:Nat):∃c,dL (λ_=>False) d m c a/\iI c a e n k s l/\∀b,c b=d b\/c b=k:=by
 rcases f.aO with h|⟨b,g,tail,h,h2,h3,h4,h5⟩
 .exact⟨d,dL.fK _ j i,iI.fP f λo=>absurd h o,λb=>Or.inl rfl⟩
 .refine⟨vI d b k,dL.vI j i h2 h3.lt k,iI.fP f λ_=>by rw[h];exact jh _ _ _,λg=>?_⟩;by_cases e:g=b
  .rw[e];exact Or.inr (jh _ _ _)
  .exact Or.inl (fH e)
def Hq{N:Nat}{z:O}{h:List bS}(L:∀b,m.size<=b->d b=0)(H:∀b,b<m.size->d b≠3)(y:cT m z h)(hN:N<=m.size)(K:∀c∈h,c.aL.length<=3)(ac:h.length<=1000000000):
 aN cq 125 [O.v z] m λY l=>∃e s,Y=O.v s/\eR N e l s h/\dL (λk=>k=3) d m e l/\J m l:=by
 apply Bq
 intro A
 have Z:J m A:=(J.aF m).aP _
 clear_value A
 have hl:=y.len
 have X:∀{e:Nat->Nat}{M:E},dL (λk=>k=3) d m e M->J m M:=λc=>⟨c.size,λb a=>c.fS b a (H b a)⟩
 refine dx (σ:=O) (n:=h.length) V (λk s M=>∃e,eR N e M s (h.take k)/\dL (λk=>k=3) d m e M) ⟨d,⟨[],⟨aH,aH,Or.inl rfl⟩,by simpa using gT.nil _ _,Xm.nil⟩,dL.fK _ Z L⟩ ?_
 rintro k s T aa μ hk ⟨i,f,a⟩ U
 have v:=X a
 have en:Int.toNat (k:Int)=k:=V
 rw[en]
 refine dit (λG=>?_) λG=>?_
 .let⟨c,j⟩:=cg h k
  let⟨F,I,w,g1,g2⟩:=(cT.ext v y).aO j
  have ab:=K c (aq j)
  refine⟨V,V,c.aS,w,V,V,c.mK,g1,V,V,F,g2,(fE I V).mono ?_⟩
  rintro _ g ⟨q,rfl,o,r⟩
  refine⟨q,rfl,r.dA g1,r.dA w,?_⟩
  intro b
  have t:J g b:=(J.aF g).aP _
  have S:cz b g.size se [.i c.aS,.i c.mK,.s q]:=cz.push g _ _
  clear_value b
  have p:=r.trans t
  have C:dL (λ_=>False) i T i b:=dL.fK _ p a.new
  have u:dL (λk=>k=3) d m i b:=a.trans (dL.fK _ p a.new)
  have R:ap b q c.aL:=(ap.fP o V).ext t
  have Q:c.aL≠[]->i q.az=0:=λP=>a.new _ ((FB.fP o P).1)
  have hz:=a.size
  refine eR.push (f.fI C id id) u.new (x:=.mk g.size 0 1 1) rfl S.jC R (UC.of f (λB=>p.same _ (f.az B).2) (λ_=>o.ext t) Q V) bN λW ad m5 D B=>?_
  exact U V _ _ ⟨W,by rw[bC j];exact D,u.trans B⟩
 .rw[cy V]at f
  exact⟨i,s,rfl,f,a,v⟩
structure aal(N:Nat)(d:Nat->Nat)(m:E)(r:O)(h:List bS)(css0 css:List (List Ce))(k:Nat):Prop where
 sq:iI d m se 3 3 r css.flatten
 len:css.length=h.length
 size:∀cs∈css,cs.length=3
 done:∀(j:Nat)(cs:List Ce)(c:bS),j<k->css[j]? =some cs->h[j]? =some c->Ib N d m cs c
 ka:∀j,k<=j->css[j]? =css0[j]?
 sep:∀(i j:Nat)(ci cj:List Ce)(a b:O),i<k->j<k->css[i]? =some ci->css[j]? =some cj->ci[2]? =some (.s a)->cj[2]? =some (.s b)->i≠j->a.len≠0->b.len≠0->a.az≠b.az
end Go.Proofs.YtdalfjkmdekijaaGreat
end
namespace Go.Proofs.YtdalfjkmdekijaaGreat
open Go.Vc
section
variable{a e:Nat->Nat}{m g d:E}{p:Nat->Prop}
structure Bs(d:E)(a:Nat->Nat)(m:E):Prop where
 cG:J d m
 kO:∀b,b<d.size->a b=0
 new:∀b,m.size<=b->a b=0
structure sj(d:E)(a:Nat->Nat)(m:E)(bB hp fr:O)(s:St):Prop where
 bs:Bs d a m
 bB:iI a m ay 1 2 bB (s.bB.map Ce.i)
 heap:eR d.size a m hp s.heap
 aj:oH a m fr s.aj
structure Gw(s:St):Prop where
 bB:s.bB.length<=900000000
 fl:∀c∈s.heap,c.aL.length<=3
 heap:s.heap.length<=900000000
 depth:s.aj.length<=1000
 aj:∀f∈s.aj,f.av.length<=1000000/\f.ba.length<=1000000/\f.bA.length<=1000000
def XQ(d:E)(a:Nat->Nat)(m:E)(s:St)(v:Value)(g:E):Prop:=∃e bB c b,v=OC s bB c b/\sj d e g bB c b s/\dL (λ_=>False) a m e g
abbrev XD:=dL (λk=>2<=k)
def XD.none(h:XD a m e g)(d:∀b,b<m.size->a b<=1):dL (λ_=>False) a m e g:=⟨h.size,h.jx,h.new,λb c _=>h.fS b c (oh (d b c))⟩
def dL.Gf(h:dL (λ_=>False) a m e g):J m g:=⟨h.size,λb c=>h.fS b c id⟩
def Bs.fI(B:Bs d a m)(h:dL (λ_=>False) a m e g):Bs d e g:=⟨B.cG.trans h.Gf,λb c=>by rw[h.jx b (B.cG.lt c)];exact B.kO b c,h.new⟩
def dL.aae(h:dL p a m e g){l:List Nat}(d:∀b∈l,b<m.size/\¬p (a b)):eG l m g:=λb c=>h.fS b (d b c).1 (d b c).2
structure WC(d:E)(a:Nat->Nat)(m:E)(e:Nat->Nat)(M:E)(q r:O)(s:St):Prop where
 fI:XD a m e M
 bB:iI e M ay 1 2 q (s.bB.map Ce.i)
 heap:eR d.size e M r s.heap
def WC.oD{i j:Nat->Nat}{f g:E}{q r:O}{s:St}(h:WC d a m i f q r s)(e:dL p i f j g)(c:∀k,p k->4<=k):WC d a m j g q r s:=
 ⟨h.fI.trans (e.mono λk b=>oh (c k b)),h.bB.fI e λb=>oh (c _ b),h.heap.fI e (λb=>oh (c _ b)) λb=>oh (c _ b)⟩
structure aak(a:Nat->Nat)(m:E)(r:O)(fs:List be)(css0 css:List (List Ce))(k:Nat):Prop where
 sq:iI a m eF 6 4 r css.flatten
 len:css.length=fs.length
 size:∀cs∈css,cs.length=6
 done:∀(j:Nat)(cs:List Ce)(f:be),j<k->css[j]? =some cs->fs[j]? =some f->Ut a m j cs f
 ka:∀j,k<=j->css[j]? =css0[j]?
end
section
variable{d:Nat->Nat}{e:E}
abbrev z7:List Ce:=[.i 0,.i 0,.i 0,.i 0,.s .nil,.s .nil,.s .nil]
structure MB(m0:E)(ro:Nat->Nat)(m m2:E)(s:St)(ro':Nat->Nat)(M:E)(q r:Option O)(ob:Option Nat):Prop where
 fI:XD ro m ro' M
 ext:J m2 M
 Zm:r=none->∀b,ro' b≠3
 box:∀b,m.size<=b->b<m2.size->ro' b=8
 bB:∀x,q=some x->iI ro' M ay 1 2 x (s.bB.map Ce.i)
 heap:∀x,r=some x->eR m0.size ro' M x s.heap
 ob:∀x,ob=some x->m2.size<=x/\ro' x=8/\cz M x kE z7
section
variable{h:E}{i:Nat->Nat}{m g:E}{s:St}{f:Nat->Nat}{M:E}{q r:Option O}{j:Option Nat}
def MB.fW(k:MB h i m g s f M q r j)(n:dL (λa=>a=3) f M d e)(p:J M e)(C:∀b,m.size<=b->b<g.size->d b=8){u o:Option O}{t:Option Nat}(z:r=none\/dL (λ_=>False) f M d e)(B:o=none->∀b,d b≠3)
 (w:∀x,u=some x->q=some x\/iI d e ay 1 2 x (s.bB.map Ce.i))(y:∀x,o=some x->r=some x\/eR h.size d e x s.heap)(A:∀x,t=some x->j=some x\/(g.size<=x/\d x=8/\cz e x kE z7)):MB h i m g s d e u o t:=
 ⟨k.fI.trans (n.mono λa c=>V),k.ext.trans p,B,C,λx c=>(w x c).elim (λa=>(k.bB x a).fI n bh) id,
  λx c=>(y x c).elim (λa=>z.elim (λl=>by rw[l]at a;cases a) λl=>(k.heap x a).fI l id id) id,
  λx c=>(A x c).elim (λa=>by
   let⟨v,b,l⟩:=k.ob x a;exact⟨v,by rw[n.jx _ l.lt];exact b,l.ext p⟩) id⟩
def MB.Rh(a:MB h i m g s f M q r j){p:Nat->Prop}(l:dL p f M d e):∀b,m.size<=b->b<g.size->d b=8:=λb k c=>by rw[l.jx b (a.ext.lt c)];exact a.box b k c
def MB.c(b:MB h i m g s f M none r j){x:O}(n:fZ M e ay 1 x (s.bB.map Ce.i))(k:J M e):∃d,MB h i m g s d e (some x) r j:=by
 let⟨d,C,A,l⟩:=fZ.Rt n k b.fI.new 2;exact⟨d,b.fW (C.mono λ_=>False.elim) k (b.Rh C) (Or.inr C) (λa c=>Pk (l c) (b.Zm a c)) (λy a=>Or.inr (by simp at a;subst a;exact A)) (λy a=>Or.inl a) λy a=>Or.inl a⟩
def MB.a(b:MB h i m g s f M q r j)(c:J M e):MB h i m g s f e q r j:=
 have C:dL (λ_=>False) f M f e:=dL.fK _ c b.fI.new
 b.fW (C.mono λ_=>False.elim) c (b.Rh C) (Or.inr C) b.Zm (λy a=>Or.inl a) (λy a=>Or.inl a) λy a=>Or.inl a
def MB.b(b:MB h i m g s f M q r none){e:E}(a:e=M.push (.cells (bD z7) kE)):∃d,MB h i m g s d e q r (some M.size):=by
 have l:J M e:=by rw[a];exact J.push _ _
 have C:dL (λ_=>False) f M (vI f M.size 8) e:=dL.vI l b.fI.new (ad _) (by rw[a];simp) 8;refine⟨_,b.fW (C.mono λ_=>False.elim) l (b.Rh C) (Or.inr C) (λn c=>?_) (λy a=>Or.inl a) (λy a=>Or.inl a) λy j=>Or.inr ?_⟩
 .by_cases k:c=M.size
  .rw[k,jh];decide
  .rw[fH k];exact b.Zm n c
 .simp at j;subst j;exact⟨b.ext.size,jh _ _ _,by rw[a];exact cz.push _ _ _⟩
end
def Fp{w:E}{u:Nat->Nat}{a:E}{bB hp fr:O}{s:St}(aj:Bs w u a)(au:∀c,u c<=1)(hs:fO a bB hp fr s)(ag:Gw s):aN cq 78 [OC s bB hp fr] a (XQ w u a s):=by
 apply zn;simp -zeta only[aE,aD];intro v i;have s1:v.size=a.size+1:=by simp[v]
 have s2:i.size=a.size+2:=by simp[i,s1]
 have x2:J a i:=((J.aF a).aP _).aP _;obtain⟨d,an⟩:∃d,d=vI (vI u a.size 8) v.size 8:=⟨_,rfl⟩;have C2:dL (λ_=>False) u a d i:=by
  rw[an];exact(dL.vI (m':=v) (k:=8) ((J.aF a).aP _) aj.new (ad _) V).trans (dL.vI (m':=i) (k:=8) ((J.aF v).aP _) (λc K=>by rw[fH V];exact aj.new c V) (ad _) V)
 have r0:d a.size=8/\d v.size=8:=by rw[an];exact⟨by rw[fH V,jh],jh _ _ _⟩
 have I:MB w u a i s d i none none none:=by
  refine⟨C2.mono λ_=>False.elim,J.aF _,λ_ c=>?_,λc h1 h2=>?_,aH,aH,aH⟩
  .rw[an];unfold vI;split
   .decide
   .split
    .decide
    .have:=au c;omega
  .rcases aU c v.size with h|h
   .have:c=a.size:=V;subst this;exact r0.1
   .have:c=v.size:=V;subst this;exact r0.2
 clear_value i;clear an;have hN:=aj.cG.size;have a8:=ag.bB;have a7:=ag.heap;have a4:=ag.depth;have cC:∀{b:Nat->Nat}{M:E}{j:Option O}{l:Option Nat}{Z:Value->E->Prop},MB w u a i s b M none j l->(∀A g F,MB w u a i s F g (some A) j l->J M g->M.size<=g.size->Z (O.v A) g)->aN cq 50 [O.v bB] M Z:=λh hK=>
  (fE (hs.bB.ext (x2.trans h.ext)) V).mono λ_ g⟨A,p,z,y⟩=>by
   let⟨F,h'⟩:=h.c z y;rw[p];exact hK A g F h' y y.size
 have cH:∀{b:Nat->Nat}{M:E}{q:Option O}{l:Option Nat}{Z:Value->E->Prop},MB w u a i s b M q none l->(∀A g F,MB w u a i s F g q (some A) l->J M g->M.size<=g.size->Z (O.v A) g)->aN cq 125 [O.v hp] M Z:=λ{b M q l Z} h hK=>
  (Hq (N:=w.size) h.fI.new (λc _=>h.Zm rfl c) (hs.ext (x2.trans h.ext)).heap (oh h.ext.size) ag.fl V).mono λ_ g⟨F,A,p,aP,ak,y⟩=>by
   rw[p];exact hK A g F (h.fW ak y (h.Rh ak) (Or.inl rfl) (λp=>by cases p) (λe p=>Or.inl p) (λe p=>Or.inr (by simp at p;subst p;exact aP)) λe p=>Or.inl p) y y.size
 have kp:∀{M g:E},J M g->i.size<=M.size->∀L,af g a.size L=af M a.size L:=λy az L=>aK (y.same _ V) L;refine⟨λz M=>z.2=0/\∃b q j fb,WC w u a b M q j s/\i.size<=z.1/\i.size<=M.size/\b z.1=8/\b a.size=8/\b v.size=8/\cz M z.1 kE [.i s.cW,.i s.value,.i s.bL,.i s.eD,.s q,.s j,.s (.mk fb 0 0 0)],?_,?_⟩
 .have hO:∀{b:Nat->Nat}{M:E}{q j:O}{l fb:Nat},MB w u a i s b M (some q) (some j) (some l)->(λ(z:Nat×Nat) M=>z.2=0/\∃b q j fb,WC w u a b M q j s/\i.size<=z.1/\i.size<=M.size/\b z.1=8/\b a.size=8/\b v.size=8/\cz M z.1 kE [.i s.cW,.i s.value,.i s.bL,.i s.eD,.s q,.s j,.s (.mk fb 0 0 0)]) (l,0) (ai M l 0 [.i s.cW,.i s.value,.i s.bL,.i s.eD,.s q,.s j,.s (.mk fb 0 0 0)]):=λ{b M q j l fb} h=>by
   let⟨G,c,ar⟩:=h.ob l rfl;have ak:dL (λe=>e=8) b M b (ai M l 0 [.i s.cW,.i s.value,.i s.bL,.i s.eD,.s q,.s j,.s (.mk fb 0 0 0)]):=dL.ai h.fI.new c _ _;exact⟨rfl,b,q,j,fb,(⟨h.fI,h.bB q rfl,h.heap j rfl⟩:WC w u a b M q j s).oD ak λe hk=>V,G,by rw[aA];exact h.ext.size,c,h.box _ V V,h.box _ V V,cz.ai (m:=M) (o:=0) ar⟩
  have t:i.size<=i.size:=ad _;repeat' first
   |exact hO I
   |(refine cC I ?_;intro A g F I B C;have D:=t;have t:=bH t C)
   |(refine cH I ?_;intro A g F I B C;have D:=t;have t:=bH t C)
   |(intro C;have B:J _ C:=(J.aF _).aP _;have H:Array.size C=_+1:=Array.size_push _;have D:=t;have t:=bH t B.size;first|(obtain⟨F,I⟩:=I.b (e:=C) rfl;clear_value C)|(have I:=I.a B;clear_value C))
   |(refine And.intro (kp B D _) ?_)
   |(refine And.intro (J.da B λc K=>by simp at K;omega) ?_)
   |(refine⟨_,rfl,?_⟩)
   |(refine And.intro ?_ ?_)
 .rintro⟨l,oo⟩ m3 ⟨rfl,a2,q,j,fb,K3,aS,z3,r3,aZ,a0,aC⟩;simp only[]at aS r3 aC;have aQ:∀{b:Nat->Nat}{M:E},XD u a b M->J a M:=λar=>(ar.none λc _=>au c).Gf;have a6:=hs.aj.len;simp -zeta only[bE];refine dZ (n:=s.aj.length) V (λe M=>∃b fc,WC w u a b M q j s/\oH b M fc (s.aj.take e)/\i.size<=M.size/\b l=8/\b a.size=8/\b v.size=8/\cz M l kE [.i s.cW,.i s.value,.i s.bL,.i s.eD,.s q,.s j,.s fc])
   ⟨a2,_,K3,⟨[],⟨aH,aH,Or.inl rfl⟩,aH,aH,aH⟩,z3,r3,aZ,a0,aC⟩ ?_
  rintro e D a3 μ hk ⟨W,fc,K9,F9,z9,r9,a1,aG,C⟩ aV
  have en:Int.toNat (e:Int)=e:=V;rw[en];have H:=aQ K9.fI;have a9:=C.lt;refine dit (λh1=>?_) λh1=>?_
  .have aR:e<s.aj.length:=V;let⟨ae,hf⟩:=dI aR;have a5:=ag.aj ae (aq hf);let⟨ra,oa,ha,ir,io,ih,g0,g1,g2,g3,g4,g5⟩:=hs.aj.aO hf;refine⟨V,V,_,H.af g0,_,H.af g1,_,H.af g2,ra,H.af g3,oa,H.af g4,ha,H.af g5,?_⟩;intro av aa;have ah:J D aa:=((J.aF D).aP _).ai (ad _) _ _;have be:aa.size=D.size+1:=by simp[aa,av,aA]
   clear_value aa;have ax:dL (λ_=>False) W D (vI W D.size 8) aa:=dL.vI ah K9.fI.new (ad _) V 8;have t:∀{M g:E}{c:Nat},J M g->c<M.size->∀L,af g c L=af M c L:=λy az L=>aK (y.same _ az) L;have bl:∀{M:E},aa.size<=M.size->∀c∈[D.size,v.size,a.size],c<M.size:=λh c K=>by simp at K;omega
   refine⟨fc,(C.ext ah).cJ 6,(fE (ir.ext (H.trans ah)) V).mono ?_⟩;rintro _ a_ ⟨qr,rfl,aW,B⟩;obtain⟨bb,ap,aJ,_⟩:=fZ.Rt aW B ax.new (10+3*e);have bh:=B.size;refine⟨B.da (bl (ad _)),qr,rfl,t B V _,t B V _,t B V _,t B V _,t B V _,t B V _,(fE (io.ext (H.trans (ah.trans B))) V).mono ?_⟩;rintro _ ba ⟨qo,rfl,aX,P⟩;obtain⟨bc,al,aL,_⟩:=fZ.Rt aX P ap.new (11+3*e);have bi:=P.size;refine⟨P.da (bl V),qo,rfl,t P V _,t P V _,t P V _,t P V _,t P V _,(fE (ih.ext (H.trans (ah.trans (B.trans P)))) V).mono ?_⟩;rintro _ S ⟨qh,rfl,aY,X⟩;obtain⟨U,ab,aM,_⟩:=fZ.Rt aY X al.new (12+3*e);have bj:=X.size;refine⟨X.da (bl V),qh,rfl,t X V _,t X V _,t X V _,t X V _,?_⟩;intro T;have aI:J S T:=(J.aF S).aP _;have bf:T.size=S.size+1:=by simp[T]
   have aT:cz T S.size eF [.i ae.dV,.i ae.pc,.i ae.dst,.s qr,.s qo,.s qh]:=cz.push S _ _;clear_value T;have ac:dL (λ_=>False) U S U T:=dL.fK _ aI ab.new;have Y:dL (λ_=>False) W D U T:=(((ax.trans ap).trans al).trans ab).trans ac;have Q:U D.size=8/\U a.size=8/\U v.size=8/\U l=8:=⟨by rw[ab.jx _ V,al.jx _ V,ap.jx _ V];exact jh _ _ _,by rw[Y.jx _ V];exact a1,by rw[Y.jx _ V];exact aG,by rw[Y.jx _ V];exact r9⟩;have tk:(s.aj.take e).length=e:=bN;refine⟨t aI V _,oH.push (a:=ae) (F9.fI Y λ_ _=>id) ac.new (x:=.mk S.size 0 1 1) rfl aT.jC (by rw[tk];exact(((aJ.fI al id).fI ab id).fI ac id)) (by rw[tk];exact(aL.fI ab id).fI ac id) (by rw[tk];exact aM.fI ac id) V λR ay ao aO G=>?_⟩;have bk:=G.size;have am:R D.size=8/\R a.size=8/\R v.size=8/\R l=8:=⟨by rw[G.jx _ V];exact Q.1,by rw[G.jx _ V];exact Q.2.1,by rw[G.jx _ V];exact Q.2.2.1,by rw[G.jx _ V];exact Q.2.2.2⟩;have aB:cz ao l kE [.i s.cW,.i s.value,.i s.bL,.i s.eD,.s q,.s j,.s fc]:=(C.ext Y.Gf).congr (G.fS _ V (by rw[Q.2.2.2];decide));refine⟨G.aae λc K=>by simp at K;rcases K with p|p|p<;>rw[p]<;>refine⟨V,?_⟩<;>simp[Q.1,Q.2.1,Q.2.2.1],aB.fg aH,?_⟩;intro aF;have aw:dL (λe=>e=8) R ao R aF:=dL.ai G.new (show(λe=>e=8) (R l)from am.2.2.2) _ _;have bg:aF.size=ao.size:=aA _ _ _ _;refine⟨λc K=>bd _ _ _ _ (by simp at K;omega),aV V _ ⟨R,ay,((K9.oD Y λ_=>False.elim).oD G λe hk=>V).oD aw λe hk=>V,?_,V,am.2.2.2,am.2.1,am.2.2.1,cz.ai (m:=ao) (o:=6) (r:=[.s ay]) aB⟩⟩;rw[bC hf];exact aO.fI aw λe hk=>V
  .rw[cy V]at F9;refine⟨_,C.cJ 0,_,C.cJ 1,_,C.cJ 2,_,C.cJ 3,_,C.cJ 4,_,C.cJ 5,_,C.cJ 6,?_⟩;intro av;have B:dL (λe=>e=8) W D W av:=dL.ai K9.fI.new (show(λe=>e=8) (W v.size)from aG) _ _;have t:=K9.oD B λe hk=>V;have G:=t.fI.none λc _=>au c;exact⟨W,q,j,fc,rfl,⟨aj.fI G,t.bB,t.heap,F9.fI B λe hk=>V⟩,G⟩
end
section
variable{n e:Nat}{a M b:E}
def QP:St:=⟨0,0,0,0,[],[],[]⟩
structure Run where
 s:St
 ok:Bool
def fB.jg{B:Int}{j:cp}{s:St}(h:fB B j s)(b:Sm n s)(o:n<=900000000):Gw s:=by
 refine⟨by have:=b.bB;omega,λc e=>(h.heap.cell c e).fl,oh b.heap,?_,λf g=>?_⟩
 .have:=h.depth;have:=h.bL;have:=h.eD;omega
 .have a:=h.aj f g;obtain⟨p,_,i,d,_⟩:=a.Ko h.eS;have k:=a.lr;have l:=a.lo;have m:=a.lh;rw[i]at k l m;have:=d.av;have:=h.eS.fu;omega
def vJ.sm{s:St}(h:vJ s)(a:s.heap.length<=n)(b:s.bB.length<=n):Sm n s:=⟨a,b,λg c w d=>((h.aj g c).1 w d).2⟩
section
variable{c:E}{d:Nat->Nat}{m:E}{bB g f:O}{s:St}
def sj.IQ(h:sj c d m bB g f s)(a:Gw s):fO m bB g f s:=
 ⟨h.bB.pA (oh a.bB),h.heap.cells (oh a.heap),h.aj.IQ (oh a.depth) a.aj⟩
def sj.eQ(h:sj c d m bB g f s){b:E}(k:J m b){a:Nat}{i:List Ce}(j:m.size<=a)(kb:cz b a e i):Cl c (vI d a 1) b a e i bB g f s.bB s.heap s.aj:=by
 have C:dL (λ_=>False) d m (vI d a 1) b:=dL.vI k h.bs.new j kb.lt 1;have B:=h.bs.fI C;exact⟨B.cG,B.kO,B.new,kb,jh _ _ _,h.bB.fI C id,h.heap.fI C id id,h.aj.fI C λ_ _=>id⟩
def sj.nil{c m:E}(a:J c m):sj c (λ_=>0) m .nil .nil .nil QP:=
 ⟨⟨a,λ_ _=>rfl,λ_ _=>rfl⟩,⟨by simp[QP],aH,Or.inl rfl⟩,⟨[],⟨aH,aH,Or.inl rfl⟩,by simpa[QP]using gT.nil _ _,Xm.nil⟩,oH.none⟩
def Cl.IQ{h e:Nat}{a:List Ce}(L:Cl c d m h e a bB g f s.bB s.heap s.aj)(b:Gw s):fO m bB g f s:=
 sj.IQ (d:=d) ⟨⟨L.cG,L.kO,L.new⟩,L.bB,L.heap,L.aj⟩ b
end
def iI.up{c:Nat->Nat}{m f:E}{g k:Nat}{s:O}{l:List Ce}(h:iI c m e g k s l)(n:k≠0)(i:∀b,b<a.size->c b=0)(j:∀b,a.size<=b->b<m.size->f[b]? =m[b]?):iI c f e g k s l:=
 h.fS (λd=>j _ (Gm λo=>n (by rw[<-(h.az d).2];exact i _ o)) (h.az d).1) λ_=>rfl
def sj.QD{m:E}{r:Nat->Nat}{bB q o:O}{s:St}(h:sj a r M bB q o s)(z:m.size<=a.size)(A:M.size<=b.size)(d:∀c,a.size<=c->c<M.size->b[c]? =M[c]?)(x:J m b):sj m r b bB q o s:=by
 have f:=h.bs.kO;refine⟨⟨x,λc g=>f c V,λc g=>h.bs.new c V⟩,h.bB.up bh f d,?_,?_⟩
 .let⟨i,t,a2,a3⟩:=h.heap;refine⟨i,t.up bh f d,a2.mono λk y⟨j,v,l,n⟩=>⟨j,v,nG l λg=>d _ (n g).2.1 (oI l g),λg=>?_⟩,a3⟩;let⟨g1,g2,u,tail,w,p⟩:=n g;exact⟨g1,V,u,tail,w,p.congr (d _ g2 p.lt)⟩
 .let⟨i,g⟩:=h.aj;exact⟨i,g.sq.up bh f d,g.len,g.size,λt k j l n=>by
   let⟨v,u,p,e,b1,b2,b3⟩:=g.de t k j l n;exact⟨v,u,p,e,b1.up V f d,b2.up V f d,b3.up V f d⟩⟩
def sj.box{m:E}{e:Nat->Nat}{bB c b:O}{s:St}(h:sj a e M bB c b s)(d:J m a){nb:Nat}(f:m.size<=nb)(i:nb<a.size)(o:Nat)(l:List Ce):sj m e (ai M nb o l) bB c b s:=
 h.QD d.size (pC (aA _ _ _ _).symm) (λg j _=>bd _ _ _ _ V) ((d.trans h.bs.cG).ai f _ _)
def sj.ext{e:E}{f:Nat->Nat}{bB d c:O}{s:St}(h:sj e f M bB d c s)(a:J M b):sj e f b bB d c s:=h.QD (ad _) a.size (λg _ i=>a.same g i) (h.bs.cG.trans a)
def Bs.Fe(m:E):Bs m (λ_=>0) m:=⟨J.aF _,λ_ _=>rfl,λ_ _=>rfl⟩
section
variable{m:E}{d p bB j g:O}{k:cp}{s:St}
variable(c:eX m d p k)(f:fO m bB j g s)(h:vJ s)(i:s.bB.length<=10000000)
include c f h i
omit c f in
end
end
section
variable{M:E}
def N6{k b:Nat}(a:b<k)(h:k<=M.size):(M.extract 0 k)[b]? =M[b]? :=((J.N4 h).same b (by rw[jF h];exact a)).symm
def sj.old{a M':E}{g:Nat->Nat}{bB d c:O}{s:St}(h:sj a g M bB d c s)(f:M.size<=M'.size)(i:∀b,a.size<=b->b<M.size->M'[b]? =M[b]?):sj (M'.extract 0 a.size) g M' bB d c s:=
 have e:=bH h.bs.cG.size f
 h.QD (by rw[jF e];exact ad _) f i (J.N4 e)
def Cl.old{a M M':E}{i:Nat->Nat}{c e:Nat}{d:List Ce}{bB h f:O}{s:St}(L:Cl a i M c e d bB h f s.bB s.heap s.aj)(j:a.size<=c)(k:M.size<=M'.size)(g:∀b,a.size<=b->b<M.size->M'[b]? =M[b]?):Cl (M'.extract 0 a.size) i M' c e d bB h f s.bB s.heap s.aj:=
 have N:=sj.old (s:=s) ⟨⟨L.cG,L.kO,L.new⟩,L.bB,L.heap,L.aj⟩ k g
 ⟨N.bs.cG,N.bs.kO,N.bs.new,L.box.congr (g _ j L.box.lt),L.Rr,N.bB,N.heap,N.aj⟩
def Xb{Y:List Nat}{m:E}(f:Fz Y m M):Le (bG Y m) (M.extract 0 m.size):=λc o v e=>by
 let⟨d,a⟩:=dY.1 e;have b:=lH a;rw[aK ((N6 b f.size).trans (f.same c b d))];exact a
def GSt(B:Int)(f:cp)(d:Nat)(e:O)(m:E)(P:Nat)(v:Value)(a:E):Prop:=∃n g bB c b s,v=OC s bB c b/\sj (a.extract 0 n) g a bB c b s/\m.size<=n/\n<=a.size/\fB B f s/\Sm 100000 s/\Rd d e P a/\Fz [d] m a
section
variable{f:List Nat}{a:E}{b P:Nat}{B:Int}{e d p:O}{c:cp}
def vt(I:Rd b e P a)(hP:P+100<=10^16)(hd:bX (bG [b] a) d c.bt)(hp:gK (bG [b] a) p c.cv)(N:qV B c):aN cq 39 [vp b 0,.agg #[O.v d,O.v p]] a (GSt B c b e a (P+6)):=by
 apply zE (b,0);simp -zeta only[aE,aD];have hr:=I.lt;intro l t;let⟨x2,r⟩:=dj (a:=l) (c:=t) rfl rfl;have s1:l.size=a.size+1:=by simp[l]
 have B2:cz t a.size uD [.s d,.s p]:=(cz.push a _ _).ext (J.push l _);clear_value t;have r2:Rs b e a P t:=⟨x2.fz _,I.ext x2⟩;intro Q;have x3:J t Q:=J.push _ _;have G3:∀o,af Q a.size o=af t a.size o:=λo=>aK (x3.same _ B2.lt) o;refine⟨G3 _,G3 _,G3 _,G3 _,?_⟩;refine(yU r2 V [40,40,12,3,0,20] rfl rfl aH).mono λ_ j⟨eD,h,aB,r4,w⟩=>?_;have z3:=x3.size;have z2:=x2.size;have w:Fz [b] Q j:=w;have z4:=w.size;have aX:=r l.size aH;have hm:0<=eD/\eD<=40:=by simp at aB;omega
 have A:∀o,af j a.size o=af Q a.size o:=λo=>aK (w.same _ V bN) o;refine⟨w.da λf g=>by have:=r f g;simp at g⊢;omega,eD,h,A _,A _,A _,A _,?_⟩;have aG:∀{M:E},Fz [b] a M->eX M d p c:=λH=>have aq:=(H.cR (S:=[b]) aH).trans (bz _ _);⟨hd.le aq,gK.le aq hp⟩;refine(DP (aG r4.f) N eD).mono ?_;rintro _ u ⟨bB,aF,fr,rfl,x,b1,b2,b3,b4,aY,q1,q2,q3,q4,q5,au,q6,k4⟩;have z5:=x.size;have G5:∀o,af u a.size o=af j a.size o:=λo=>aK (x.same _ V) o;refine⟨x.da λf g=>oh (r f g),_,_,_,_,_,_,_,rfl,G5 _,G5 _,?_⟩;intro n;have x6:J u n:=J.push _ _;have kb:cz n u.size bP (SB d p (lx c eD) bB aF fr):=cz.push u _ _;have L6:=Ub (m:=j) (N4:=[.s d,.s p]) ⟨q1,q2,q3,q4,q5⟩ au q6 k4 x6 (ad _) kb;have s6:n.size=u.size+1:=by simp[n]
 clear_value n;have r6:=(r4.ext x).ext x6;have L:∀{M:E},n.size<=M.size->Lw b [u.size,l.size,a.size] M:=λaW=>lw hr bN;refine(bV r6.r V 60).mono λ_ m7⟨C,h,aO,aP,d7,W⟩=>⟨(L (ad _)).da W,C,h,?_⟩;have z7:=W.size;refine(bV d7 V 200).mono λ_ m8⟨D,h,aQ,aR,d8,X⟩=>⟨(L z7).da X,D,h,?_⟩;have z8:=X.size;refine(bV d8 V 20).mono λ_ m9⟨F,h,aS,aT,d9,Y⟩=>⟨(L V).da Y,F,h,?_⟩;have z9:=Y.size;refine(bV d9 V 100).mono λ_ aa⟨G,h,aU,aV,aw,R⟩=>⟨(L V).da R,G,h,?_⟩;have a1:=R.size;have ai:=((W.trans X).trans Y).trans R;have ae:=J.push aa (.cells (bD [.i C,.i D,.i F,.i 100000,.i 0,.i G]) ay);have a2:=ae.size;refine(yU (r6.to ai aw) V [C,D,F,100000,0,G] rfl rfl aH).mono λ_ y⟨ab,h,aj,am,v⟩=>?_;have v:Fz [b] (aa.push (.cells (bD [.i C,.i D,.i F,.i 100000,.i 0,.i G]) ay)) y:=v;refine⟨(L (bH (by omega:n.size<=aa.size) ae.size)).da v,ab,h,?_⟩;have a3:=v.size;obtain⟨q,rfl⟩:∃q:Nat,ab=q:=⟨ab.toNat,by simp at aj;omega⟩;have hn:q<=100000:=by simp at aj;omega
 have U:=(ai.trans (ae.fz _)).trans v;have ah:=L6.old (s:=lx c eD) (M':=y) V U.size λf h1 h2=>U.same f h2 bN;have e0:(y.extract 0 j.size).size=j.size:=jF V;have w4:Le (bG [b] a) (y.extract 0 j.size):=(r4.f.cR aH).trans (Xb (((x.trans x6).fz [b]).trans U));refine(PC (s:=lx c eD) ah ⟨hd.le w4,gK.le w4 hp⟩ (Lm N hm) (PE c eD) q hn V).mono ?_;rintro _ z ⟨⟨nn,rfl⟩,a0,aI,az,ax,i,ap⟩;have ak:=Lp q (Lm N hm);have K:=Lq q (Lm N hm) (PE c eD) V;have al:=ak.jg K V;generalize aC c q (lx c eD)=st at*;have a4:=ap.size;have ao:∀f,f<j.size->z[f]? =y[f]? :=λf g=>(i.cG.same f V).trans (N6 g V);have aJ:Rs b e a (P+6) z:=by
  have H:Fz [b] a z:=⟨V,λf g hn=>(ao f V).trans (am.f.same f g hn)⟩;exact⟨H,(I.LZ am.r H (ao b V)).mono V⟩
 refine⟨ap.gV λf g=>⟨by have:=r f g;omega,ah.kO f (oh (r f g))⟩,nn,rfl,_,i.box.cJ 2,_,i.box.cJ 3,_,i.box.cJ 4,_,i.box.cJ 5,aI,i.box.cJ 6,az,i.box.cJ 7,ax,i.box.cJ 8,(Fp (Bs.Fe z) (λ_=>dE _) (i.IQ al) al).mono ?_⟩;rintro _ aZ ⟨aL,ac,Z,T,rfl,av,ar⟩;have ag:=ar.Gf;have aM:=ag.size;refine⟨ag.da λf g=>oh (r f g),_,_,_,_,ac,Z,T,rfl,?_⟩;have an:=(aJ.ext ag).put I (k:=l.size) V 0 [.i st.cW,.i st.value,.i st.bL,.i st.eD,.s ac,.s Z,.s T];exact⟨z.size,aL,ac,Z,T,st,rfl,av.old (pC (aA _ _ _ _).symm) λf g _=>bd _ _ _ _ V,V,by rw[aA];exact aM,ak,⟨by have:=K.heap;omega,oh K.bB,K.yI⟩,an.r,an.f⟩
end
end
section
variable{q:O}
def fB.Yn{B:Int}{q:cp}{s:St}{n:Nat}(h:fB B q s)(c:Sm n s)(x:n<=10000000):vJ s:=by
 have l:=h.jg c V;have i:=h.bL;have v:=h.eD;have u:=c.heap;have C:=CQ h;have t:=l.depth;refine⟨⟨V,V⟩,λd i w a=>?_,λf b=>?_,V,V,λf b=>oh (l.aj f b)⟩
 .have k:=h.heap.cell d i;rcases mU d.aS 1 with e|e
  .have:=(k.uP e).2.1 w a;exact⟨V,V⟩
  .rcases(k.pG V).1 w a with e|⟨e,j,g,_⟩
   .exact⟨by have:=e.1;omega,oh e.2⟩
   .have:=ax g;have:=iC e;exact⟨V,V⟩
 .let⟨k,o⟩:=List.mem_iff_getElem?.1 b;have F:=C.aj k f o;refine⟨λw a=>⟨?_,c.yI f b w a⟩,λr p=>?_,λw a=>?_⟩
  .rcases(h.aj f b).Sc w a with e|e
   .have:=e.1;omega
   .omega
  .let⟨m,j⟩:=List.mem_iff_getElem?.1 p;have:=F.lr;have:=F.lo;have:=ax j;let⟨w,a⟩:=cg f.av m;have:=(F.av.de m w r a j).2.1;exact⟨V,V⟩
  .rcases C.bA.dB f b w a with e|⟨e,g⟩
   .exact⟨V,V⟩
   .have:=iC e;exact⟨V,V⟩
structure Mv(n:Nat)(ro:Nat->Nat)(M:E)(ro':Nat->Nat)(M':E):Prop where
 size:M.size<=M'.size
 fS:∀b,b<M.size->n<=b->M'[b]? =M[b]?
 jx:∀b,b<M.size->ro' b=ro b
 new:∀b,M'.size<=b->ro' b=0
 kO:∀b,b<n->ro b=0
section
variable{n:Nat}{a d:Nat->Nat}{M b:E}
def iI.mv{e f k:Nat}{s:O}{l:List Ce}(h:iI a M e f k s l)(v:Mv n a M d b)(g:k≠0):iI d b e f k s l:=
 h.fS (λc=>v.fS _ (h.az c).1 (Gm λe=>g (by rw[<-(h.az c).2];exact v.kO _ e))) λc=>v.jx _ (h.az c).1
def eR.mv{i:O}{h:List bS}(q:eR n a M i h)(v:Mv n a M d b):eR n d b i h:=by
 let⟨l,j,a2,a3⟩:=q;refine⟨l,j.mv v bh,a2.mono λs r⟨o,m,f,g⟩=>⟨o,m,nG f λc=>v.fS _ (oI f c) (g c).2.1,λc=>?_⟩,a3⟩;let⟨g1,g2,k,tail,p,e⟩:=g c;exact⟨(v.jx _ e.lt).trans g1,g2,k,tail,p,e.congr (v.fS _ e.lt g2)⟩
def Ut.mv{i:Nat}{c:List Ce}{f:be}(v:Mv n a M d b):Ut a M i c f->Ut d b i c f:=λ⟨r,o,k,j,e,g,h⟩=>⟨r,o,k,j,e.mv v V,g.mv v V,h.mv v V⟩
def sk.mv{e:O}{g:List be}{f:be}{r o h:O}{c:List (List Ce)}(T:sk a M e g f r o h c)(v:Mv n a M d b):sk d b e g f r o h c:=
 ⟨T.sq.mv v bh,T.len,T.size,λm i j k l=>(T.de m i j k l).mv v,T.av.mv v V,T.ba.mv v V,T.bA.mv v V⟩
def oH.mv{c:O}{e:List be}(l:oH a M c e)(v:Mv n a M d b):oH d b c e:=by
 let⟨g,h⟩:=l;exact⟨g,h.sq.mv v bh,h.len,h.size,λm f i j k=>(h.de m f i j k).mv v⟩
def sk.put{d:O}{b:List be}{f g:be}{s o p n m j:O}{h:List (List Ce)}(T:sk a M d b f s o p h)(v:∀e,M.size<=e->a e=0){i:Nat}(w:i<6){c:Ce}
 (u:iO [.i f.dV,.i f.pc,.i f.dst,.s s,.s o,.s p] i [c]=[.i g.dV,.i g.pc,.i g.dst,.s n,.s m,.s j])(t:iI a M ay 1 (10+3*b.length) n (g.av.map Ce.i))(q:iI a M ay 1 (11+3*b.length) m (g.ba.map Ce.i))(r:iI a M ay 1 (12+3*b.length) j (g.bA.map Ce.i)):
 fg M d.az (d.off+b.length*6+i) 1/\sk a (ai M d.az (d.off+b.length*6+i) [c]) d b g n m j h/\dL (λk=>4<=k/\k≠9) a M a (ai M d.az (d.off+b.length*6+i) [c]):=by
 have e:dL (λk=>k=4) a M a (ai M d.az (d.off+b.length*6+i) [c]):=dL.ai v T.az.1 _ _
 have l:h.flatten.length=b.length*6:=by rw[dp T.size,T.len]
 refine⟨by rw[dR];exact T.sq.wr (by simp only[aT,l,aW,cD];omega),⟨?_,T.len,T.size,T.wU e λk q r=>V,t.fI e V,q.fI e V,r.fI e V⟩,e.mono λk x=>V⟩
 have:=T.sq.set (o:=b.length*6+i) (new:=[c]) (by simp[l];omega)
 rw[mw _ _ _ _ V,l,Gl,u]at this
 rw[dR];exact this
end
structure SO(n:Nat)(ro:Nat->Nat)(M:E)(bB hp fr:O)(s:St):Prop where
 le:n<=M.size
 kO:∀b,b<n->ro b=0
 new:∀b,M.size<=b->ro b=0
 bB:iI ro M ay 1 2 bB (s.bB.map Ce.i)
 heap:eR n ro M hp s.heap
 aj:oH ro M fr s.aj
structure FS(s:St):Prop where
 yI:vJ s
 jg:Gw s
 lo:s.bB.length<=1000000/\s.heap.length<=1000000
section
variable{n:Nat}{a e:Nat->Nat}{M b:E}{bB d c:O}{s:St}
def SO.of(N:sj (M.extract 0 n) a M bB d c s)(h:n<=M.size):SO n a M bB d c s:=⟨h,λb e=>N.bs.kO b (by rw[jF h];exact e),N.bs.new,N.bB,by have:=N.heap;rwa[jF h]at this,N.aj⟩
def SO.mv(w:SO n a M bB d c s)(v:Mv n a M e b):SO n e b bB d c s:=⟨bH w.le v.size,λf g=>(v.jx f (aJ g w.le)).trans (w.kO f g),v.new,w.bB.mv v bh,w.heap.mv v,w.aj.mv v⟩
def SO.mvF(w:SO n a M bB d c s){h:Nat}(f:Fz [h] M b)(j:h<n):Mv n a M a b:=⟨f.size,λe g i=>f.same e g bN,λ_ _=>rfl,λe g=>w.new e (bH f.size g),w.kO⟩
def SO.fI{p:Nat->Prop}(w:SO n a M bB d c s)(C:dL p a M e b):n<=b.size/\(∀f,f<n->e f=0)/\∀f,b.size<=f->e f=0:=⟨bH w.le C.size,λf g=>(C.jx f (aJ g w.le)).trans (w.kO f g),C.new⟩
def SO.box(w:SO n a M bB d c s){b:Nat}(g:a b=1)(o:Nat)(l:List Ce):SO n a (ai M b o l) bB d c s:=by
 have C:dL (λk=>k=1) a M a (ai M b o l):=dL.ai w.new g _ _;let⟨e,b,f⟩:=w.fI C;exact⟨e,b,f,w.bB.fI C bh,w.heap.fI C bh bh,w.aj.fI C λk h=>V⟩
def SO.KP(w:SO n a M bB d c s)(C:dL (λk=>k=2) a M e b){l:List Int}(A:iI e b ay 1 2 q (l.map Ce.i)):SO n e b q d c {s with bB:=l}:=
 let⟨f,g,h⟩:=w.fI C
 ⟨f,g,h,A,w.heap.fI C bh bh,w.aj.fI C λk i=>V⟩
def SO.jJ(w:SO n a M bB d c s)(C:dL (λk=>k=3) a M e b){h:List bS}(A:eR n e b q h):SO n e b bB q c {s with heap:=h}:=
 let⟨f,g,i⟩:=w.fI C
 ⟨f,g,i,w.bB.fI C bh,A,w.aj.fI C λk j=>V⟩
def SO.lQ(w:SO n a M bB d c s)(C:dL (λk=>4<=k/\k≠9) a M e b){l:List be}(A:oH e b q l):SO n e b bB d q {s with aj:=l}:=
 let⟨f,g,h⟩:=w.fI C
 ⟨f,g,h,w.bB.fI C bh,w.heap.fI C bh bh,A⟩
def SO.IQ(w:SO n a M bB d c s)(h:Gw s):fO M bB d c s:=⟨w.bB.pA (oh h.bB),w.heap.cells (oh h.heap),w.aj.IQ (oh h.depth) h.aj⟩
end
end
section
variable{K:Int->E->Prop}{p:Nat->Prop}
def SP(n h:Nat)(f:O)(g:E)(P:Nat)(v:Value)(a:E):Prop:=∃bB e d s,v=OC s bB e d/\(∀c,a.size<=c.size->(∀b,b<a.size->n<=b->c[b]? =a[b]?)->fO c bB e d s)/\vJ s/\(s.bB.length<=1000000/\s.heap.length<=1000000)/\Rs h f g P a
structure SQ(n rb:Nat)(bs:O)(ma:E)(k1 k2 Q:Nat)(ro:Nat->Nat)(M:E)(bB hp fr:O)(s:St):Prop where
 w:SO n ro M bB hp fr s
 r:Rs rb bs ma Q M
 k1:ro k1=1/\k1<M.size/\n<=k1
 k2:ro k2=1/\k2<M.size/\n<=k2
 fs:FS s
section
variable{n b m q Q w P t:Nat}{j bB h f:O}{e M d:E}{r u:Nat->Nat}{s v:St}{L:List Nat}
def SQ.fz(a:SQ n b j e m q Q r M bB h f s)(g:b<n)(c:Fz [b] M d)(i:Rs b j e w d):SQ n b j e m q w r d bB h f s:=
 ⟨a.w.mv (a.w.mvF c g),i,⟨a.k1.1,aJ a.k1.2.1 c.size,a.k1.2.2⟩,⟨a.k2.1,aJ a.k2.2.1 c.size,a.k2.2.2⟩,a.fs⟩
def SQ.ext(a:SQ n b j e m q Q r M bB h f s)(c:b<n)(x:J M d):SQ n b j e m q Q r d bB h f s:=a.fz c (x.fz _) (a.r.ext x)
def SQ.fR(c:SQ n b j e m q Q r M bB h f s)(o:b<n)(k:∀a∈L,a=m\/a=q)(i:Fz [b] M d):eG L M d:=i.da λa l=>by
 have:=c.k1;have:=c.k2;rcases k a l with g|g<;>simp only[fN]<;>omega
def SQ.gk(a:SQ n b j e m q Q r M bB h f s)(g:b<n)(c:Fz [b] M d)(o:Nat):af d q o=af M q o:=aK (c.same _ a.k2.2.1 (by have:=a.k2;simp only[fN];omega)) o
def SQ.done(a:SQ n b j e m q Q r M bB h f s)(v:Rd b j t e)(C:e.size<=n)(x:Q<=P){o c g p:Int}(A:ug g)(l:List Ce):SP n b j e P (.agg #[vi o,vi c,vi g,vi p,O.v bB,O.v h,O.v f]) (ai M m 0 l):=by
 have w:=a.w.box a.k1.1 0 l;have u:=a.r.put v (k:=m) (oh a.k1) 0 l;exact⟨bB,h,f,⟨o,c,g,p,s.bB,s.heap,s.aj⟩,rfl,λd z B=>have i:=(w.mv ⟨z,B,λ_ _=>rfl,λc y=>w.new c (bH z y),w.kO⟩).IQ a.fs.jg;⟨i.bB,i.heap,i.aj⟩,⟨A,a.fs.yI.heap,a.fs.yI.aj,a.fs.yI.lh,a.fs.yI.lf,a.fs.yI.lr⟩,a.fs.lo,u.f,u.r.mono x⟩
def SQ.box(a:SQ n b j e m q Q r M bB h f s)(c:Rd b j t e)(d:e.size<=n)(o:Nat)(l:List Ce):SQ n b j e m q Q r (ai M q o l) bB h f s:=
 ⟨a.w.box a.k2.1 o l,a.r.put c (oh a.k2) o l,by rw[aA];exact a.k1,by rw[aA];exact a.k2,a.fs⟩
def SQ.ln(l:SQ n b j e m q Q r M bB h f s)(g:b<n)(u:Q<=10^16)(p:∀a∈L,a=m\/a=q)(a:List Int){c:List Ce}{i:Nat}(w:c=a.map Ce.i)(v:i=a.length)(z:0<a.length/\a.length<=100)
 (y:∀t d,t∈a->SQ n b j e m q (Q+1) r d bB h f s->Fz [b] (M.push (.cells (bD c) ay)) d->K t d):aN cq 74 [vp b 0,O.v (.mk M.size 0 i i)] (M.push (.cells (bD c) ay)) λC d=>eG L (M.push (.cells (bD c) ay)) d/\∃t:Int,C=vi t/\K t d:=
 have x:=J.push M (.cells (bD c) ay)
 (yU l.r u a w v z).mono λ_ d⟨t,o,A,B,k⟩=>⟨(l.ext g x).fR g p k,t,o,y t d A ((l.ext g x).fz g k B) k⟩
def SQ.pick(c:SQ n b j e m q Q r M bB h f s)(i:b<n)(o:Q<=10^16)(l:∀a∈L,a=m\/a=q)(g:Int)
 (p:∀t d,0<=t->(t<g\/t=0)->SQ n b j e m q (Q+1) r d bB h f s->Fz [b] M d->K t d):aN cq 20 [vp b 0,vi g] M λw d=>eG L M d/\∃t:Int,w=vi t/\K t d:=
 (bV c.r.r o g).mono λ_ d⟨t,k,v,t1,u,a⟩=>⟨c.fR i l a,t,k,p t d v t1 (c.fz i a (c.r.to a u)) a⟩
def SQ.fI(a:SQ n b j e m q Q r M bB h f s)(l:Rd b j t e)(E:e.size<=n)(C:dL p r M u d)(h:∀k,p k->2<=k){x o k:O}(B:SO n u d x o k v)(z:FS v):SQ n b j e m q Q u d x o k v:=
 have D:=l.lt
 have w:∀c,c<n->d[c]? =M[c]? :=λc g=>C.fS c (aJ g a.w.le) λy=>by have:=h _ y;have:=a.w.kO c g;omega
 have i:Fz [b] e d:=⟨bH a.r.f.size C.size,λc g A=>(w c V).trans (a.r.f.same c g A)⟩
 ⟨B,⟨i,l.LZ a.r.r i (w b V)⟩,⟨(C.jx _ a.k1.2.1).trans a.k1.1,aJ a.k1.2.1 C.size,a.k1.2.2⟩,⟨(C.jx _ a.k2.2.1).trans a.k2.1,aJ a.k2.2.1 C.size,a.k2.2.2⟩,z⟩
def SQ.da(g:SQ n b j e m q Q r M bB h f s)(i:∀a∈L,a=m\/a=q)(C:dL p r M u d)(h:∀k,p k->2<=k):eG L M d:=λa k=>by
 have l:=g.k1;have a2:=g.k2;rcases i a k with c|c<;>subst c<;>exact C.fS _ V λc=>by have:=h _ c;omega
def SQ.iP(t:SQ n b j e m q Q r M bB h f s)(u:cQ ((f.len:Int) -1)>=0):∃a g l o k d,s.aj=a++[g]/\sk r M f a g l o k d/\cQ ((f.len:Int) -1)=(a.length:Int)/\f.len=a.length+1:=by
 have F:=t.w.aj;have p:=t.fs.jg.depth;rcases Jy s.aj with c|⟨a,g,c⟩
 .rw[c]at F;let⟨d,i⟩:=F;have:=i.sq.len;rw[dp i.size,i.len]at this;simp only[cD]at this;rw[aQ V V]at u;omega
 .rw[Jx]at c;rw[c]at F p;let⟨l,o,k,d,T⟩:=F.iP;have:=T.ED;simp at p;exact⟨a,g,l,o,k,d,c,T,by rw[aQ V V];omega,this⟩
def FS.iP(h:FS s){d:List be}{j g:be}(i:s.aj=d++[j])(k:RF g)(l:g.av.length<=1000000/\g.ba.length<=1000000/\g.bA.length<=1000000):FS {s with aj:=d++[g]}:=by
 have b:=h.yI;have c:=h.jg;have e:∀x∈d,x∈s.aj:=λx a=>by rw[i];simp[a]
 have f:=c.depth;rw[i]at f;simp at f;refine⟨⟨b.bL,b.heap,λx a=>?_,b.lh,bN,λx a=>?_⟩,⟨c.bB,c.fl,c.heap,bN,λx a=>?_⟩,h.lo⟩<;>rcases List.mem_append.1 a with a|a
 .exact b.aj x (e x a)
 .simp at a;rw[a];exact k
 .exact b.lr x (e x a)
 .simp at a;rw[a];omega
 .exact c.aj x (e x a)
 .simp at a;rw[a];exact l
def SQ.tj(c:SQ n b j e m q Q r M bB h f s)(o:Rd b j t e)(p:e.size<=n){l:List be}{z g:be}(y:s.aj=l++[z]){J H I:O}{w:List (List Ce)}(T:sk r d f l g J H I w)(C:dL (λk=>4<=k/\k≠9) r M r d)(E:RF g)(G:g.av.length<=1000000/\g.ba.length<=1000000/\g.bA.length<=1000000)
 (A:∀a∈L,a=m\/a=q)(B:Q<=P){v a i x:Int}(D:ug i)(u:List Ce):eG L M d/\SP n b j e P (.agg #[vi v,vi a,vi i,vi x,O.v bB,O.v h,O.v f]) (ai d m 0 u):=
 ⟨c.da A C λk F=>V,(c.fI o p C (λk F=>V) (c.w.lQ C T.tj) (c.fs.iP y E G)).done o p B D u⟩
def FT{im:cp}(I:Rd b j t e)(Q:e.size<=n)(aa:SO n r M bB h f s)(ae:Rs b j e P M)(hP:P+100<=10^16)(ok:iT im s)(hS:Sm 100000 s):aN cq 42 [vp b 0,OC s bB h f] M (SP n b j e (P+6)):=by
 apply yd (b,0);simp(config:={maxSteps:=1000000}) -zeta only[aE,aD];have k:b<n:=by have:=I.lt;omega
 have le:=aa.le;intro S m2;have s1:S.size=M.size+1:=by simp[S]
 have s2:m2.size=M.size+2:=by simp[m2,s1]
 have x2:J M m2:=(J.push M _).trans (J.push S _);clear_value m2;clear_value S;have q2:SQ n b j e S.size M.size P (vI (vI r M.size 1) S.size 1) m2 bB h f s:=⟨aa.mv ⟨x2.size,λW hb _=>x2.same W hb,λW hb=>by rw[fH V,fH V],λW hb=>by rw[fH V,fH V];exact aa.new W V,aa.kO⟩,ae.ext x2,⟨jh _ _ _,V,V⟩,⟨by rw[fH V];exact jh _ _ _,V,V⟩,⟨ok.Yn hS V,ok.jg hS V,oh hS.bB,oh hS.heap⟩⟩;generalize vI (vI r M.size 1) S.size 1=ro2 at q2;have D:∀W∈[S.size,M.size],W=S.size\/W=M.size:=aH;have hc:=q2.fs.yI.bL;have az:=ok.eD;refine q2.pick k V D 30 λaA y _ _ m f3=>?_;have ah:SP n b j e (P+6) (.agg #[vi s.cW,vi s.value,vi s.bL,vi s.eD,O.v bB,O.v h,O.v f]) (ai y S.size 0 [.i s.cW,.i s.value,.i s.bL,.i s.eD,.s bB,.s h,.s f]):=m.done I Q V hc _;have Ma:∀p∈s.aj,(1<=p.av.length/\p.av.length<=2000)/\p.ba.length<=2000/\1<=p.bA.length:=λp hf=>by
  have hG:=ok.aj p hf;obtain⟨pg,_,au,ar,_⟩:=hG.Ko ok.eS;have R:=hG.lr;have W:=hG.lo;have X:=hG.lh;rw[au]at R W X;have:=ar.av;omega
 have Jw:∀(R:O)(fb H:Nat)(ls:List Int){C:List Ce}{X:Nat},ro2 fb=4->fb<y.size->C=ls.map Ce.i->X=ls.length->0<ls.length/\ls.length<=100->∀{ak:Int->Int->E->Prop},(∀F x d,0<=F->(F<(R.len:Int)\/F=0)->x∈ls->SQ n b j e S.size M.size (P+3) ro2 d bB h f s->Mv n ro2 y ro2 d->ak F x d)->
  (aN cq 20 [vp b 0,vi (R.len:Int)] y λK v=>eG [S.size,M.size] y v/\∃F:Int,K=vi F/\af v fb H=af y fb H/\af v M.size 6=af y M.size 6/\(af (v.push (.cells (bD C) ay)) fb H=af v fb H/\af (v.push (.cells (bD C) ay)) M.size 6=af v M.size 6/\af (v.push (.cells (bD C) ay)) fb H=af v fb H/\af (v.push (.cells (bD C) ay)) M.size 6=af v M.size 6/\
   aN cq 74 [vp b 0,O.v (.mk v.size 0 X X)] (v.push (.cells (bD C) ay)) λK G=>eG [S.size,M.size] (v.push (.cells (bD C) ay)) G/\∃x:Int,K=vi x/\af G fb H=af (v.push (.cells (bD C) ay)) fb H/\af G M.size 6=af (v.push (.cells (bD C) ay)) M.size 6/\ak F x G))/\
  (af (y.push (.cells (bD C) ay)) fb H=af y fb H/\af (y.push (.cells (bD C) ay)) M.size 6=af y M.size 6/\af (y.push (.cells (bD C) ay)) fb H=af y fb H/\af (y.push (.cells (bD C) ay)) M.size 6=af y M.size 6/\
   aN cq 20 [vp b 0,vi (R.len:Int)] (y.push (.cells (bD C) ay)) λK v=>eG [S.size,M.size] (y.push (.cells (bD C) ay)) v/\∃F:Int,K=vi F/\af v fb H=af (y.push (.cells (bD C) ay)) fb H/\af v M.size 6=af (y.push (.cells (bD C) ay)) M.size 6/\
    aN cq 74 [vp b 0,O.v (.mk y.size 0 X X)] v λK G=>eG [S.size,M.size] v G/\∃x:Int,K=vi x/\af G fb H=af v fb H/\af G M.size 6=af v M.size 6/\ak F x G):=λR fb H ls C X h4 aw h1 h2 h3{ak} hX=>by
  have nb:fb∉[b]:=λw=>by simp at w;have:=q2.w.kO b k;rw[w]at h4;omega
  have ge:∀{M1 M2:E},y.size<=M1.size->Fz [b] M1 M2->af M2 fb H=af M1 fb H:=λav p=>aK (p.same fb V nb) H
  refine⟨?_,?_⟩
  .refine m.pick k V D (R.len:Int) λF v k0 ab A Z=>?_
   have T:=J.push v (.cells (bD C) ay)
   have z4:=Z.size
   refine⟨ge (ad _) Z,m.gk k Z _,ge z4 (T.fz _),A.gk k (T.fz _) _,ge z4 (T.fz _),A.gk k (T.fz _) _,A.ln k V D ls h1 h2 h3 λx G z q N=>⟨ge (bH z4 T.size) N,(A.ext k T).gk k N _,hX F x G k0 ab z q (m.w.mvF ((Z.trans (T.fz _)).trans N) k)⟩⟩
  .have U:=J.push y (.cells (bD C) ay)
   have A:=m.ext k U
   have z4:=U.size
   have L:ap (bG [b] (y.push (.cells (bD C) ay))) (.mk y.size 0 X X) ls:=ap.lit ay ls (by simp;exact m.r.r.lt) h1 h2 V
   refine⟨ge (ad _) (U.fz _),m.gk k (U.fz _) _,ge (ad _) (U.fz _),m.gk k (U.fz _) _,A.pick k V D (R.len:Int) λF m5 k0 ab B f5=>⟨ge z4 f5,A.gk k f5 _,?_⟩⟩
   refine(jR B.r.r V (ap.le (f5.cR aH) L) h3.1).mono λ_ G⟨x,w,z,Y,N⟩=>⟨B.fR k D N,x,w,ge (bH z4 f5.size) N,B.gk k N _,hX F x G k0 ab z (B.fz k N (B.r.to N Y)) (m.w.mvF (((U.fz _).trans f5).trans N) k)⟩
 refine⟨λ_=>m.ln k V D [0,1,2,3,4,-1] rfl rfl aH λx v _ A _=>(A.box I Q _ _).done I Q V hc _,λ_=>⟨λ_=>?_,λ_=>⟨λ_=>m.ln k V D [5,1000,0] rfl rfl aH λx v _ A _=>(A.box I Q _ _).done I Q V hc _,λ_=>⟨λ_=>?_,λ_=>⟨λ_=>?_,λ_=>⟨λ_=>⟨λz=>?_,λ_=>ah⟩,λ_=>⟨λ_=>⟨λz=>?_,λ_=>ah⟩,λ_=>⟨λ_=>⟨λz=>?_,λ_=>ah⟩,λ_=>⟨λ_=>⟨λz=>?_,λ_=>ah⟩,λ_=>⟨λ_=>⟨λz=>?_,λ_=>ah⟩,λ_=>ah⟩⟩⟩⟩⟩⟩⟩⟩⟩⟩
 .refine m.ln k V D [0,41,-1,cQ (s.eD+1)] rfl rfl aH λx v z A _=>(A.box I Q _ _).done I Q V ?_ _;rw[aQ V V]at z;simp at z;exact⟨V,V⟩
 .have U:=J.push y (.cells (bD [.i 5,.i 1000]) ay);refine⟨m.gk k (U.fz _) _,m.ln k V D [5,1000] rfl rfl aH λx m5 _ B f5=>⟨(m.ext k U).gk k f5 _,?_⟩⟩;intro G;have Y:J m5 G:=J.push _ _;have jC:gP G m5.size 0 [.i x]:=(cz.push m5 [.i x] ay).jC;clear_value G;have q:=B.ext k Y;have ol:=q.w.bB.len;have os:=hS.bB;simp at ol;refine⟨B.gk k (Y.fz _) _,q.w.bB.append (zs:=[.i 0]) q.w.new rfl jC bN λu ag m7 ac L=>⟨q.da D L λF hk=>V,?_⟩⟩;have q7:=q.fI I Q L (λF hk=>V) (q.w.KP (l:=s.bB++[x]) L (by rw[eW];exact ac)) ⟨⟨q.fs.yI.bL,q.fs.yI.heap,q.fs.yI.aj,q.fs.yI.lh,q.fs.yI.lf,q.fs.yI.lr⟩,⟨bN,q.fs.jg.fl,q.fs.jg.heap,q.fs.jg.depth,q.fs.jg.aj⟩,bN,q.fs.lo.2⟩;exact(q7.box I Q _ _).done I Q V hc _
 .have ax:=m.w.heap.len;refine⟨λh1=>?_,λ_=>ah⟩;simp only[gJ,an]at h1;refine m.pick k V D (h.len:Int) λR v a0 a1 A Z=>?_;let⟨X,al⟩:=cg s.heap R.toNat;obtain⟨_,g0,-⟩:=A.w.heap.cJ al;have hb:=A.w.heap.az (a:=R.toNat) V;have nb:h.az≠b:=λw=>by have:=A.w.kO b k;rw[w]at hb;omega
  have T:=J.push v (.cells (bD [.i 1,.i (-1)]) ay);have e5:=λac=>aK (T.same _ hb.2) ac;refine⟨a0,V,_,g0,e5 _,A.gk k (T.fz _) _,A.gk k (T.fz _) _,A.ln k V D [1,-1] rfl rfl aH λx G _ q N=>?_⟩;have e6:=λac=>aK (N.same h.az (aJ hb.2 T.size) (by simpa using nb)) ac;have B:=A.ext k T;refine⟨e6 _,B.gk k N _,B.gk k N _,a0,V,q.w.heap.wr (o:=0) V V,?_⟩;let⟨ao,L⟩:=q.w.heap.Ff q.w.new al (cQ (X.aS+x));have Y:=q.fs.yI;have aj:=q.fs.jg;refine⟨q.da D L λF hk=>V,SQ.done (q.fI I Q L (λF hk=>V) (q.w.jJ L ao) ⟨⟨Y.bL,λam hx=>?_,Y.aj,by simpa using Y.lh,Y.lf,Y.lr⟩,⟨aj.bB,λam hx=>?_,by simpa using aj.heap,aj.depth,aj.aj⟩,by simpa using q.fs.lo⟩) I Q V hc _⟩
  .rcases cL hx with w|w
   .exact Y.heap am w
   .rw[w];exact Y.heap X (aq al)
  .rcases cL hx with w|w
   .exact aj.fl am w
   .rw[w];exact aj.fl X (aq al)
 .simp only[uG,an]at z;have U:=J.push y (.cells (bD [.i 0,.i 1,.i 99,.i (-1)]) ay);refine⟨m.gk k (U.fz _) _,m.ln k V D [0,1,99,-1] rfl rfl aH λx m5 _ B f5=>⟨(m.ext k U).gk k f5 _,?_⟩⟩;let⟨fs,p,ae,ac,ag,aj,w,T,ew,el⟩:=B.iP z;have N:p∈s.aj:=by rw[w];simp
  have Y:=B.fs.yI.aj p N;have fl:=B.fs.jg.aj p N;rw[ew];let⟨wr,T',L⟩:=T.put (i:=1) (g:={p with pc:=x}) (c:=.i x) B.w.new bh rfl T.av T.ba T.bA;exact⟨V,V,wr,B.tj I Q w T' L Y fl D V hc _⟩
 .simp only[uG,an]at z;let⟨fs,p,ae,ac,ag,aj,w,T,ew,el⟩:=m.iP z;have N:p∈s.aj:=by rw[w];simp
  have Y:=m.fs.yI.aj p N;have fl:=m.fs.jg.aj p N;rw[ew];obtain⟨_,_,_,_,g4,_⟩:=T.jC;have hl:=Ma p N;refine⟨V,V,ac,g4,(qb m.r.r V (T.ba.pA V) V).mono λ_ v⟨R,l',e',am,ao,hm,r4,Z⟩=>⟨m.fR k D Z,R,e',m.gk k Z _,V,V,?_⟩⟩;have ax:=am.bg;have K:Mv n ro2 y (vI ro2 R.az (11+3*fs.length)) v:=⟨Z.size,λW hb al=>Z.same W hb bN,λW hb=>fH V,λW hb=>by rw[fH V];exact m.w.new W (bH Z.size hb),m.w.kO⟩;have z4:=Z.size;have ab:=m.k1;have al:=m.k2;have A:SQ n b j e S.size M.size (P+4) (vI ro2 R.az (11+3*fs.length)) v bB h f s:=⟨m.w.mv K,m.r.to Z r4,⟨(K.jx _ ab.2.1).trans ab.1,V,ab.2.2⟩,⟨(K.jx _ al.2.1).trans al.1,V,al.2.2⟩,m.fs⟩;have T4:=T.mv K;let⟨wr,T',L⟩:=T4.put (i:=4) (g:={p with ba:=l'}) (c:=.s R) A.w.new bh rfl T4.av (iI.fP (GI.bB am) λ_=>jh _ _ _) T4.bA;exact⟨wr,A.tj I Q w T' L ⟨Y.1,λaa hw=>(hm aa hw).elim (Y.2.1 aa) λw=>⟨V,V⟩,Y.2.2⟩ ⟨fl.1,by show l'.length<=_;omega,fl.2.2⟩ D V hc _⟩
 .simp only[uG,an]at z;let⟨fs,p,ae,ac,ag,aj,w,T,ew,el⟩:=m.iP z;have N:p∈s.aj:=by rw[w];simp
  have Y:=m.fs.yI.aj p N;have fl:=m.fs.jg.aj p N;have hl:=Ma p N;rw[ew];obtain⟨_,_,_,g3,_⟩:=T.jC;have Z:=T.av.len;simp at Z;refine⟨V,V,ae,g3,V,V,ae,g3,Jw ae f.az _ [0,5,1000,1003,-1000] T.az.1 T.az.2 rfl rfl aH λF x G k0 ab z q K=>?_⟩;let⟨T',L⟩:=(T.mv K).Hg q.w.new k0 V x;exact⟨k0,V,(T.mv K).av.Ss k0 V,q.tj I Q w T' L ⟨λaa hw=>(cL hw).elim (Y.1 aa) λw=>by simp at z;exact⟨V,V⟩,Y.2⟩ ⟨by show(p.av.set _ _).length<=_;simp;omega,fl.2⟩ D V hc _⟩
 .simp only[uG,an]at z;let⟨fs,p,ae,ac,ag,aj,w,T,ew,el⟩:=m.iP z;have N:p∈s.aj:=by rw[w];simp
  have Y:=m.fs.yI.aj p N;have fl:=m.fs.jg.aj p N;have hl:=Ma p N;rw[ew];obtain⟨_,_,_,_,_,g5⟩:=T.jC;have Z:=T.bA.len;simp at Z;refine⟨V,V,ag,g5,V,V,ag,g5,Jw ag f.az _ [1000,1,1001] T.az.1 T.az.2 rfl rfl aH λF x G k0 ab z q K=>?_⟩;let⟨T',L⟩:=(T.mv K).Fg q.w.new k0 V x;exact⟨k0,V,(T.mv K).bA.Ss k0 V,q.tj I Q w T' L ⟨Y.1,Y.2.1,λaa hw=>(cL hw).elim (Y.2.2 aa) λw=>by simp at z;exact⟨V,V⟩⟩ ⟨fl.1,fl.2.1,by show(p.bA.set _ _).length<=_;simp;omega⟩ D V hc _⟩
 .simp only[uG,an]at z;have U:=J.push y (.cells (bD [.i 0,.i 1,.i 99,.i (-1)]) ay);refine⟨m.gk k (U.fz _) _,m.ln k V D [0,1,99,-1] rfl rfl aH λx m5 _ B f5=>⟨(m.ext k U).gk k f5 _,?_⟩⟩;let⟨fs,p,ae,ac,ag,aj,w,T,ew,el⟩:=B.iP z;have N:p∈s.aj:=by rw[w];simp
  have Y:=B.fs.yI.aj p N;have fl:=B.fs.jg.aj p N;rw[ew];let⟨wr,T',L⟩:=T.put (i:=2) (g:={p with dst:=x}) (c:=.i x) B.w.new bh rfl T.av T.ba T.bA;exact⟨V,V,wr,B.tj I Q w T' L Y fl D V hc _⟩
end
end
section
def Pe(S:List Nat)(m:E):(Vc.bG S m).size=m.size:=by simp[Vc.bG]
def Pc{S:List Nat}{m:E}{b:Nat}(h:b∉S):(Vc.bG S m)[b]? =m[b]? :=by
 unfold Vc.bG;rw[Xw];cases m[b]? <;>simp[h]
def AR(S:List Nat)(v:Value)(c:E):Prop:=∃d p e bB b a s,v=.tuple #[.agg #[O.v d,O.v p],OC s bB b a]/\eX (bG S c) d p e/\fO (bG S c) bB b a s/\vJ s/\s.bB.length<=1000000/\s.heap.length<=1000000
section
variable{a:List Nat}{m:E}{b P:Nat}{c:O}
def Fj(D:∀d∈a,d<m.size)(q:b∈a)(k:Rd b c P m)(hP:P+3000+4*(300+40*Cg 18)<=10^16):aN cq 22 [vp b 0] m λO I=>AR a O I/\Fz [b] m I/\Rd b c (P+3000+4*(300+40*Cg 18)) I:=by
 apply xI (b,0);simp -zeta only[aE,aD];have v:=k.lt;intro e W;have b2:BS [e.size,m.size] b c m P W:=BS.Zo (BS.ln (S:=a) k _).1 _;have s1:e.size=m.size+1:=by simp[e]
 clear_value W;refine b2.call (S:=a) v (λ_ d=>d) (IU (b2.hS D) (by simp[q]) b2.s.r V) λt w x h _ t3 b3 f3=>?_;intro m4 X;obtain⟨b5,l5,-⟩:=b3.box (S:=a) (m1:=m4) (m2:=X) rfl rfl rfl;clear_value X;have N:=IT.mn _ _ _ _ _ l5 t3;refine(sU (b:=⟨x.1,x.2⟩) ⟨N.1.le (bz _ _),gK.le (bz _ _) N.2⟩).mono λ_ f⟨O,l,hv,A⟩=>⟨(b5.lw v λ_ d=>d).da (A.fz _),O,l,λp=>?_,λhy=>?_⟩;all_goals
  have b6:=b5.to (A.fz _) (b5.s.r.ext A)
  have z:=IT.mn _ _ _ _ _ (BS.le (B:=[h.size,e.size,m.size]) q (A.fz [b])) N
  have g:=b6.fR
 .intro j K L;have u:J f j:=J.push _ _;have G:cz j f.size eF [.i 0,.i 0,.i 0,.s .nil,.s .nil,.s .nil]:=cz.push _ _ _;have R:=b6.to (u.fz _) (b6.s.r.ext u);have Z:=IT.mn _ _ _ _ _ (BS.le (B:=[h.size,e.size,m.size]) q (u.fz [b])) z;clear_value j;let⟨T,Y⟩:=R.put (S:=a) k (by simp:m.size∈_) [.s t,.s w];let⟨s,H⟩:=T.put (S:=a) k (by simp:e.size∈_) [.i 3,.i 0,.i 0,.i 0,.s .nil,.s .nil,.s (.mk f.size 0 1 1)];have C:=IT.mn _ _ _ _ _ ((Y.trans H).trans (gN _ λ_=>dv _)) Z;have ha:=g m.size aH;have i:=g e.size aH;have M:cz L f.size eF [.i 0,.i 0,.i 0,.s .nil,.s .nil,.s .nil]:=(G.congr (bd _ _ _ _ V)).congr (bd _ _ _ _ V);have U:f.size∉a:=λF=>by have:=D _ F;omega
  have o:∀{Q:E},ap Q .nil []:=⟨rfl,dE _,aH,aH⟩;refine⟨⟨t,w,⟨x.1,x.2⟩,.nil,.nil,.mk f.size 0 1 1,⟨3,0,0,0,[],[],[⟨0,0,0,[],[],[]⟩]⟩,rfl,⟨C.1,C.2⟩,⟨o,⟨rfl,dE _,aH,aH⟩,⟨rfl,ad _,aH,λy aa r=>?_⟩⟩,⟨⟨aH,aH⟩,by simp[Nt],by simp[RF],aH,aH,aH⟩,aH⟩,s.s.f,s.s.r.mono V⟩;cases y with
  |zero=>
   simp at r;subst r;exact⟨_,⟨.nil,.nil,.nil,rfl,o,o,o⟩,JD U M.jC⟩
  |succ y=>simp at r
 .have ok:El ⟨x.1,x.2⟩:=hv.1 (by simpa using hy);have U:Le (bG ([h.size,e.size,m.size]++a) f) (bG [b] f):=gN _ (by simp[q]);refine(vt b6.s.r V (z.1.le U) (gK.le U z.2) ok).mono λ_ j⟨ak,ro,bB,hp,fr,ao,l,aa,p,ae,al,ab,r7,u⟩=>?_;have R:∀o,af j h.size o=af f h.size o:=λo=>kg u v (g _ aH) o;refine⟨(b6.lw v λ_ d=>d).da u,_,_,_,_,bB,hp,fr,l,R _,R _,?_⟩;have an:b<f.size:=b6.s.r.lt;refine(FT (n:=ak) b6.s.r p (SO.of aa ae) ⟨u,r7⟩ V al ab).mono λ_ K⟨M,G,C,r,l,ah,ac,ag,y⟩=>?_;have Y:∀d,d<f.size->d≠b->K[d]? =j[d]? :=λd i p=>(y.f.same d i (by simpa using p)).trans (u.same d i (by simpa using p)).symm;have T:∀o,af K h.size o=af j h.size o:=λo=>aK (Y _ (g _ aH).2 (oh (g h.size aH))) o;refine⟨λd i=>Y d (g d i).2 (oh (g d i)),_,_,_,_,M,G,C,l,T _,T _,?_⟩;intro L aj;have t8:=IT.mn _ _ _ _ _ (BS.le (B:=[h.size,e.size,m.size]) q y.f) z;let⟨s,H⟩:=(b6.to y.f y.r).put (S:=a) k (by simp:m.size∈_) [.s t,.s w];let⟨Q,ai⟩:=s.put (S:=a) k (by simp:e.size∈_) [.i r.cW,.i r.value,.i r.bL,.i r.eD,.s M,.s G,.s C];have Z:=IT.mn _ _ _ _ _ ((H.trans ai).trans (gN _ λ_=>dv _)) t8;have ha:=g m.size aH;have i:=g e.size aH;refine⟨⟨t,w,⟨x.1,x.2⟩,M,G,C,r,rfl,⟨Z.1,Z.2⟩,ah _ (by rw[Pe];simp[aj,L,aA]) λd _ am=>?_,ac,ag⟩,Q.s.f,Q.s.r.mono V⟩;rw[Pc λF=>Pk (D d F) b6.s.f.size];exact(bd _ _ _ _ V).trans (bd _ _ _ _ V)
end
end
section
def QY(f:Nat->Nat):∀n,∃B,∀i,i<n->f i<=B
 |0=>⟨0,aH⟩
 |n+1=>let⟨B,h⟩:=QY f n;⟨B+f n,λi a=>by
  rcases aU i n with e|e
  .have:=h i e;omega
  .have:i=n:=V;subst this;omega⟩
def fB.Ew{w:cp}{s:St}(e:iT w s)(m:s.cW=0):s.heap=[]:=by
 have g:=e.done.1 m;let⟨l,t⟩:=e.heap.JS;let⟨B,n⟩:=QY l s.heap.length;apply eT;intro q;have y:0<s.heap.length:=List.length_pos_iff.2 q;have gZ:∀k,∃(b:Nat)(c:bS),s.heap[b]? =some c/\0<c.aS/\k<=l b:=λk=>by
  induction k with
  |zero=>
   let⟨c,d⟩:=cg s.heap (s.heap.length -1);refine⟨_,c,d,?_,dE _⟩;have i:=e.jc c d;rcases mU c.aS 0 with f|f
   .have:=e.kJ _ ⟨c,d,f⟩;rw[g]at this;simp[holds]at this
   .omega
  |succ k v=>
   let⟨b,c,d,r,p⟩:=v;have:=e.heap.ex b c d r;rw[g]at this;simp only[eA]at this;let⟨f,o,i⟩:=Fa (h:=s.heap) (f:=b) V;let⟨j,hd⟩:=List.mem_iff_getElem?.1 o;have u:=t j f hd _ i V;rw[jv]at u;refine⟨j,f,hd,?_,V⟩;apply eT;intro x;have:=((e.heap.cell f (aq hd)).uP V).2.1 _ i;omega
 obtain⟨b,c,d,_,p⟩:=gZ (B+1);have:=n b (ax d);omega
def fB.fW{a:cp}{s:St}(h:iT a s):iT a {s with eD:=40}:=⟨h.eS,h.cW,h.done,h.value,h.td,aH,⟨h.bL.1,by have:=h.bL;have:=h.eD;show s.bL<=40;omega⟩,h.depth,h.bB,h.heap,h.jc,h.aj,h.first,h.chain,h.kJ,h.mE⟩
def fO.le{m f:E}{bB d c:O}{s:St}(b:fO m bB d c s)(a:Le m f):fO f bB d c s:=⟨b.bB.le a,eN.le b.heap a λk j⟨n,e,h⟩=>⟨n,e,h.le a⟩,eN.le b.aj a λk j⟨r,o,h,e,g,i,l⟩=>⟨r,o,h,e,g.le a,i.le a,l.le a⟩⟩
def LwR(m:E)(v:Value)(a:E):Prop:=v=vb true/\J m a
section
variable{m:E}{d p bB b a:O}{c:cp}{s:St}
end
end
section
variable{b a:Nat}
def jE(f:Nat->Bool):Nat->List Int
 |0=>[]
 |a+1=>jE f a++(if f a=true then[(a:Int)]else[])
section
variable{f:Nat->Bool}
def mu:∀{a:Nat}{x:Int},x∈jE f a<->∃k:Nat,k<a/\x=(k:Int)/\f k=true
 |0,x=>by simp[jE]
 |a+1,x=>by
  rw[jE,lE,mu];constructor
  .rintro(⟨k,d,b,c⟩|h)
   .exact⟨k,V,b,c⟩
   .split at h
    .simp at h;exact⟨a,V,h,by assumption⟩
    .simp at h
  .rintro⟨k,d,b,c⟩;by_cases e:k=a
   .subst e;right;rw[ak c];simp[b]
   .exact Or.inl ⟨k,V,b,c⟩
def j8:∀a:Nat,(jE f a).length<=a
 |0=>by simp[jE]
 |a+1=>by have:=j8 a;rw[jE,aT];split<;>simp<;>omega
def KD:∀a:Nat,(jE f a).Pairwise (·<·)
 |0=>by simp[jE]
 |a+1=>by
  rw[jE,List.pairwise_append];refine⟨KD a,by split<;>simp,λe d b c=>?_⟩;obtain⟨k,h,g,_⟩:=mu.1 d;split at c<;>simp at c
  omega
end
open Classical in
noncomputable def Pl (b:cp) (s:St):List Int:=if iT b s then jE (λa=>decide (0<eA s.aj a)) s.heap.length else[]
def fB.ZS{c:cp}{s:St}(h:iT c s):RG s.heap s.aj:=by
 have C:=CQ h;refine⟨λf b=>?_,λf b=>let⟨j,a⟩:=pT b;(C.aj j f a).av⟩;let⟨j,a⟩:=pT b;have d:=(C.aj j f a).lr;have e:=(C.aj j f a).lo;omega
section
variable{m:E}{d p bB e g:O}{c:cp}{s:St}
def pQ{c:Nat->Bool}(B:cz m b fj (jS a c))(o:a<1000000000):mQ 31 [O.v (.mk b 0 a a)] m (jE c a):=by
 apply yM;refine dx (n:=a) V (λk q M=>J m M/\fZ m M ay 1 q ((jE c k).map Ce.i)) ⟨J.aF _,by simpa[jE]using fZ.nil _ _ _ _⟩ ?_;rintro k q p I μ l ⟨d,o6⟩ h
 have t:=j8 (f:=c) k;refine dit (λe=>?_) λe=>?_
 .simp only[O.dS]at e;refine⟨V,by simp only[O.dS];omega,c k,by simpa using tK (B.ext d) (show k<a by omega),λg=>?_,λg=>?_⟩
  .intro r;refine ms o6 d V λu s i j=>h V _ _ ⟨j,?_⟩
   rw[jE,ak g];exact i
  .refine h V _ _ ⟨d,?_⟩
   rw[jE,ae (by simp[g]),dD];exact o6
 .simp only[O.dS]at e;have g:k=a:=V;subst g;exact⟨q,rfl,o6,d⟩
def EK{c:Nat->Bool}(B:cz m b fj (jS a c))(d:a<1000000000):qW 31 [O.v (.mk b 0 a a)] m (jE c a):=
 (pQ B d).mono λ_ _⟨q,e,o,x⟩=>⟨q,e,ap.fP o (by have:=j8 (f:=c) a;omega),x⟩
def EG(ac:eX m d p c)(D:fO m bB e g s)(B:vJ s):mQ 15 [.agg #[O.v d,O.v p],OC s bB e g] m (Pl c s):=by
 apply xz;simp -zeta only[aE,aD];intro Z aa;let⟨F,W⟩:=dj (a:=Z) (c:=aa) rfl rfl;clear_value aa;refine(nK (ac.ext F) (D.ext F) B).aI (J.aF _) W λb h j Q _=>⟨b,rfl,λK=>⟨.nil,rfl,?_,F.trans Q⟩,λK=>?_⟩
 .rw[Pl,ae (nb j K)];exact fZ.nil _ _ _ _
 have r:=yb j K;have z:=F.trans Q;have hd:s.aj.length<=41:=by have:=r.depth;have:=r.bL;have:=r.eD;omega
 have am:=D.heap.len;have al:=D.aj.len;have fu:=B.lh;have I:=r.ZS;have en:Int.toNat (e.len:Int)=s.heap.length:=V;rw[en];refine⟨V,V,V,V,?_⟩;intro y;have Y:∀b∈[Z.size,m.size],b<h.size:=λb j=>Q.lt (W b j);have B4:cz y h.size fj (jS s.heap.length λ_=>false):=Ep h _;have x4:J h y:=J.push h _;have z4:y.size=h.size+1:=by simp[y]
 clear_value y;rw[Pl,ak r];have nn:∀k a,0<=eA (s.aj.take k) a:=λk a=>EY (λf i=>r.aj f (cX i)) a;refine dZ (n:=s.aj.length) V (λk M=>J h M/\h.size<M.size/\cz M h.size fj (jS s.heap.length λa=>decide (0<eA (s.aj.take k) a))) ⟨x4,V,by simpa[eA]using B4⟩ ?_;rintro i m5 ai μ hi ⟨t,z5,H⟩ ag
 refine dit (λh1=>?_) λh1=>?_
 .let⟨f,L⟩:=cg s.aj i;have v:=aq L;have ap:=B.lr f v;have ao:=I.len f v;have q:=z.trans t;let⟨ah,N,o,X,C,he,g0,g1,g2,g3,g4,g5⟩:=D.aj.aO L;have av:=X.len;have au:=C.len;have ei:Int.toNat (i:Int)=i:=V;rw[ei];refine⟨V,V,_,q.af g0,_,q.af g1,_,q.af g2,ah,q.af g3,N,q.af g4,o,q.af g5,?_⟩;intro m6 m7;have R:J m5 m7:=(J.push m5 _).ai (ad _) _ _;clear_value m7;refine dZ (n:=f.ba.length) V (λk M=>J h M/\h.size<M.size/\cz M h.size fj (jS s.heap.length λa=>decide (0<eA (s.aj.take i) a+cN (f.av.take k) (f.ba.take k) a))) ⟨t.trans R,R.lt z5,by simpa[cN]using H.ext R⟩ ?_;rintro k m8 aj ν hk ⟨G,S,u⟩ ab;have U:=z.trans G;have ek:Int.toNat (k:Int)=k:=V;rw[ek];refine dit (λh2=>?_) λh2=>?_
  .let⟨w,x⟩:=cg f.av k;let⟨P,E⟩:=cg f.ba k;have T:=(I.av f v).de k w P x E;have no:∀a,0<=cN (f.av.take k) (f.ba.take k) a:=λa=>qI (λN C=>(I.ba v N (cX C)).1) a;refine⟨V,V,P,by simpa using(C.ext U).aO E,λA=>?_,λA=>?_⟩
   .simp only[an]at A;have M:=T.2.2 A;have ar:=ax (cw M).1;have e1:cQ (w -1000)=(ix w:Nat):=by have:=M.1;have:=((B.aj f v).1 w (aq x)).2;unfold ix;rw[aQ V V];omega
    have e2:Int.toNat ((ix w:Nat):Int)=ix w:=V;refine⟨V,V,w,by simpa using(X.ext U).aO x,?_⟩;rw[e1,e2];simp -zeta only[O.dS,O.fG,O.iY,bE,cO];refine⟨V,V,u.fg (by rw[mg];omega),?_⟩;intro m9;refine⟨λb j=>bd _ _ _ _ (by simp at j;have:=Y;simp at this;have:=t.size;omega),ab V _ ⟨G.ai (ad _) _ _,by simp only[m9];rw[aA];exact S,?_⟩⟩;rw[show(λa=>decide (0<eA (s.aj.take i) a+cN (f.av.take (k+1)) (f.ba.take (k+1)) a))=jV (λa=>decide (0<eA (s.aj.take i) a+cN (f.av.take k) (f.ba.take k) a)) (ix w)from funext λa=>?_]
    .exact(JA u (ix w))
    .rw[nQ x E];have:=no a;have:=nn i a;by_cases o:a=ix w
     .subst o;rw[pW,ak (iC M.1).symm];simp;omega
     .rw[kL o,ae (λaf=>o (by rw[af,jv])),Int.add_zero]
   .have M:P=0:=by have:=T.2.1.1;simp at A;omega
    refine ab V m8 ⟨G,S,?_⟩;rw[show(λa=>decide (0<eA (s.aj.take i) a+cN (f.av.take (k+1)) (f.ba.take (k+1)) a))=(λa=>decide (0<eA (s.aj.take i) a+cN (f.av.take k) (f.ba.take k) a))from funext λa=>by rw[nQ x E,M];simp];exact u
  .rw[cy (l:=f.av) V,cy (l:=f.ba) V]at u;refine ag V m8 ⟨G,S,?_⟩
   rw[show(λa=>decide (0<eA (s.aj.take (i+1)) a))=(λa=>decide (0<eA (s.aj.take i) a+cN f.av f.ba a))from funext λa=>by rw[Ha L]];exact u
 .rw[cy (l:=s.aj) V]at H;exact(pQ H V).mono λ_ m6⟨q,o,u,f⟩=>⟨f.da λb j=>Pk (Y b j) t.size,q,o,q,rfl,u.cG (z.trans t).size,(z.trans t).trans f⟩
def Vg(c:cp)(s:St):(Pl c s).length<=s.heap.length:=by
 unfold Pl;split
 .exact j8 _
 .simp
end
end
section
variable{a:Nat}
def mr(x:Instr)(k:Nat):List Int:=
 if x.op=22 then[x.bK]else if x.op=20 then[(k:Int)+1,x.bK]else if x.op=21 then x.di else if x.op=23\/x.op=24 then[]else[(k:Int)+1]
inductive Cm(bn:List Instr)(r:Int):Nat->Prop
 |use {k:Nat} {x:Instr}:bn[k]? =some x->r∈x.args->¬(x.op=14\/x.op=15)->Cm bn r k
 |Xu {k:Nat} {x:Instr} {n:Int}:bn[k]? =some x->n∈mr x k->Cm bn r n.toNat->¬(jD x.op/\x.dst=r)->Cm bn r k
def Qw{bn:List Instr}{r:Int}{k:Nat}{x:Instr}(d:bn[k]? =some x):Cm bn r k<->(r∈x.args/\¬(x.op=14\/x.op=15))\/((∃n∈mr x k,Cm bn r n.toNat)/\¬(jD x.op/\x.dst=r)):=by
 constructor
 .intro h;cases h with
  |use a b c=>rw[d]at a;cases a;exact Or.inl ⟨b,c⟩
  |Xu a b c e=>rw[d]at a;cases a;exact Or.inr ⟨⟨_,b,c⟩,e⟩
 .rintro(⟨a,b⟩|⟨⟨n,a,b⟩,c⟩)
  .exact .use d a b
  .exact .Xu d a b c
inductive CP(h:List bS)(ws:List Int):Nat->Prop
 |Vw {w:Int}:w∈ws->gZ h w->CP h ws (ix w)
 |field {a:Nat} {c:bS} {w:Int}:CP h ws a->h[a]? =some c->w∈c.aL->gZ h w->CP h ws (ix w)
def CP.lv{h:List bS}{b:List Int}(r:CP h b a):ib h a:=by
 cases r with
 |Vw _ h=>exact h.2
 |field _ _ _ h=>exact h.2
def KF(a:Nat->Nat):∀n:Nat,∃M,∀i,i<n->a i<=M
 |0=>⟨0,λi h=>V⟩
 |n+1=>let⟨M,h⟩:=KF a n;⟨M+a n,λi b=>by
  rcases aU i n with e|e
  .have:=h i e;omega
  .have:i=n:=V;subst this;omega⟩
open Classical in
def Pn{c:cp}{s:St}(e:iT c s)(q:ib s.heap a):CP s.heap ((Pl c s).map (1000+·)) a:=by
 obtain⟨o,u⟩:=e.heap.JS;obtain⟨M,p⟩:=KF o s.heap.length;have w:∀(n a:Nat),M -o a<=n->ib s.heap a->CP s.heap ((Pl c s).map (1000+·)) a:=λn=>by
  induction n with
  |zero=>?_
  |succ n v=>?_
  all_goals
   rintro a z ⟨h,f,l⟩
   have m:gZ s.heap (1000+(a:Int)):=⟨V,by rw[jv];exact⟨h,f,l⟩⟩
   have x:=e.heap.ex a h f l
   rcases mU 0 (eA s.aj a)with k|k
   .have:CP s.heap ((Pl c s).map (1000+·)) (ix (1000+(a:Int))):=.Vw (List.mem_map.2 ⟨a,by rw[Pl,ak e];exact mu.2 ⟨a,ax f,rfl,by simpa using k⟩,rfl⟩) m
    rwa[jv]at this
   obtain⟨d,hd,g⟩:=Fa (show 0<dP s.heap a by omega)
   obtain⟨i,b⟩:=List.mem_iff_getElem?.1 hd
   have t:=u i d b _ g V
   rw[jv]at t
   have y:=p i (ax b)
   have r:0<d.aS:=by
    rcases mU 0 d.aS with j|j
    .exact j
    .have:=((e.heap.cell d hd).uP V).2.1 _ g;omega
  .omega
  .have:=CP.field (v i V ⟨d,b,r⟩) b g m;rwa[jv]at this
 exact w _ a (ad _) q
open Classical in
noncomputable def jU (a:cp) (f:be):List Int:=jE (λr=>decide (Cm (dm a f.dV).bn r f.pc.toNat)) f.av.length
noncomputable def Aw (b:cp) (a:List be) (k:Nat):List Int:=
 match a[k]? with
 |none=>[]
 |some f=>match a[k+1]? with
  |none=>(jU b f).map (aO f.av)
  |some g=>((jU b f).filter λr=>!decide (r=g.dst)).map (aO f.av)
noncomputable def Qy (b:cp) (a:List be):Nat->List Int
 |0=>[]
 |k+1=>Qy b a k++Aw b a k
noncomputable def qG (b:cp) (a:List be):List Int:=Qy b a a.length
open Classical in
noncomputable def Ql (b:cp) (s:St):List Int:=if iT b s then jE (λa=>decide (ib s.heap a/\¬CP s.heap (qG b s.aj) a)) s.heap.length else[]
section
variable{b:cp}{s:St}
end
end
def NE:∀{l d:List Int},l.Pairwise (·<·)->d.Pairwise (·<·)->(∀x,x∈l<->x∈d)->l=d
 |[],[],_,_,_=>rfl
 |[],y::t,_,_,h=>absurd ((h y).2 aX) aH
 |x::s,[],_,_,h=>absurd ((h x).1 aX) aH
 |x::s,y::t,b,c,h=>by
  rw[List.pairwise_cons]at b c;have e:x=y:=by
   rcases List.mem_cons.1 ((h x).1 aX)with e|e
   .exact e
   .rcases List.mem_cons.1 ((h y).2 aX)with a|a
    .exact a.symm
    .have:=b.1 y a;have:=c.1 x e;omega
  subst e;rw[NE b.2 c.2 λz=>⟨λa=>?_,λa=>?_⟩]
  .rcases List.mem_cons.1 ((h z).1 (ah _ a))with e|e
   .have:=b.1 z a;omega
   .exact e
  .rcases List.mem_cons.1 ((h z).2 (ah _ a))with e|e
   .have:=c.1 z a;omega
   .exact e
def Vk{f:Nat->Bool}{n:Nat}{l:List Int}(d:l.Pairwise (·<·))(e:∀x∈l,0<=x/\x<(n:Int))(a:∀k:Nat,k<n->((k:Int)∈l<->f k=true)):l=jE f n:=
 NE d (KD n) λx=>by
  rw[mu];constructor
  .intro h;have:=e x h;obtain⟨k,rfl⟩:∃k:Nat,x=k:=⟨x.toNat,V⟩;exact⟨k,V,rfl,(a k V).1 h⟩
  .rintro⟨k,b,rfl,c⟩;exact(a k b).2 c
def Rf:∀{l:List Int}{n:Int},l.Pairwise (·<·)->(GQ l n).Pairwise (·<·)
 |[],n,_=>by simp[GQ]
 |y::l,n,h=>by
  unfold GQ;have a:=List.pairwise_cons.1 h;split
  .split
   .refine List.pairwise_cons.2 ⟨λz b=>?_,h⟩;rcases List.mem_cons.1 b with e|e
    .omega
    .have:=a.1 z e;omega
   .exact h
  .refine List.pairwise_cons.2 ⟨λz b=>?_,Rf a.2⟩;rcases EP.1 b with e|e
   .omega
   .exact a.1 z e
def Ou:∀{c a:List Int},a.Pairwise (·<·)->(Mu a c).Pairwise (·<·)
 |[],_,h=>h
 |y::c,a,h=>Ou (c:=c) (Rf (n:=y) h)
section
def Rl(f:Nat->Bool):List bS->Nat->Nat
 |[],_=>0
 |c::h,i=>(if f i=true then 0 else c.aL.length)+Rl f h (i+1)
def TE{f:Nat->Bool}{a:Nat}:∀(h:List bS)(i:Nat),a<i->Rl (jV f a) h i=Rl f h i
 |[],_,_=>rfl
 |c::h,i,b=>by simp only[Rl];rw[kL V,TE h (i+1) V]
def NU{f:Nat->Bool}{a:Nat}(d:f a=false):∀(h:List bS)(i:Nat)(c:bS),i<=a->h[a -i]? =some c->Rl (jV f a) h i+c.aL.length=Rl f h i
 |[],_,_,_,b=>by simp at b
 |g::h,i,c,j,b=>by
  simp only[Rl];by_cases e:i=a
  .subst e;simp at b;subst b;rw[pW,TE h _ V,ak rfl,d];simp;omega
  .have:=NU d h (i+1) c V (by rw[show a -i=(a -(i+1))+1 by omega]at b;simpa using b);rw[kL e];omega
def Qv(f:Nat->Bool):∀(h:List bS)(i:Nat),(∀c∈h,c.aL.length<=3)->Rl f h i<=3*h.length
 |[],_,_=>by simp[Rl]
 |c::h,i,a=>by
  have:=Qv f h (i+1) λd hd=>a d (ah _ hd);have:=a c aX;simp only[Rl,aW];split<;>omega
structure RI(h:List bS)(ws:List Int)(f:Nat->Bool)(l:List Int):Prop where
 Ua:∀a,f a=true->CP h ws a
 sa:∀w∈l,gZ h w->CP h ws (ix w)
 cG:∀w∈ws,gZ h w->f (ix w)=true\/w∈l
 oD:∀a c,f a=true->h[a]? =some c->∀w∈c.aL,gZ h w->f (ix w)=true\/w∈l
section
variable{h:List bS}{a l:List Int}{f:Nat->Bool}{w:Int}{c:bS}
def RI.nil(h:List bS)(a:List Int):RI h a (λ_=>false) a:=⟨λ_ h=>by simp at h,λ_ b c=>.Vw b c,λ_ h _=>Or.inr h,λ_ _ h=>by simp at h⟩
def RI.skip(R:RI h a f (l++[w]))(n:gZ h w->f (ix w)=true):RI h a f l:=by
 have k:∀v,gZ h v->f (ix v)=true\/v∈l++[w]->f (ix v)=true\/v∈l:=λv g e=>e.elim Or.inl λe=>(List.mem_append.1 e).elim Or.inr λe=>by
  simp at e;subst e;exact Or.inl (n g)
 exact⟨R.Ua,λv g=>R.sa v (bu _ g),λv d b=>k v b (R.cG v d b),λj c d b v m i=>k v i (R.oD j c d b v m i)⟩
def RI.Wx(R:RI h a f (l++[w]))(r:gZ h w)(m:h[ix w]? =some c):RI h a (jV f (ix w)) (l++c.aL):=by
 have p:=R.sa w aH r;have o:∀v,gZ h v->f (ix v)=true\/v∈l++[w]->jV f (ix w) (ix v)=true\/v∈l++c.aL:=λv n e=>e.elim (λe=>Or.inl (ve e)) λe=>(List.mem_append.1 e).elim (λe=>Or.inr (bu _ e)) λe=>by
  simp at e;subst e;exact Or.inl (pW _ _)
 refine⟨λd k=>?_,λv n b=>?_,λv g b=>o v b (R.cG v g b),λd q g b v i j=>?_⟩
 .by_cases e:d=ix w
  .rw[e];exact p
  .rw[kL e]at k;exact R.Ua d k
 .rcases List.mem_append.1 n with e|e
  .exact R.sa v (bu _ e) b
  .exact .field p m e b
 .by_cases e:d=ix w
  .subst e;rw[m]at b;cases b;exact Or.inr (dv _ i)
  .rw[kL e]at g;exact o v j (R.oD d q g b v i j)
open Classical in
def RI.done(R:RI h a f []):f=λb=>decide (CP h a b):=funext λb=>by
 rw[lD,Az];refine⟨R.Ua b,λr=>?_⟩;induction r with
 |Vw c d=>exact(R.cG _ c d).resolve_right aH
 |field _ c d e g=>exact(R.oD _ _ g c _ d e).resolve_right aH
end
end
end Go.Proofs.YtdalfjkmdekijaaGreat
