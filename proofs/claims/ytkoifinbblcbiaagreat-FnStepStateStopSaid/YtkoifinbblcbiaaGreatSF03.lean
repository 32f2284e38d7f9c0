/- Part of a proof. -/
import Derived.Test.YtkoifinbblcbiaaGreatSF02
set_option linter.all false
set_option maxHeartbeats 8000000
set_option maxRecDepth 100000
namespace Go.Proofs.YtkoifinbblcbiaaGreat
open Go.Vc
section
variable{p:Nat->Prop}{o n:Nat}{i:Int}{f:O}
structure dp(p:Nat->Prop)(ro:Nat->Nat)(m:E)(ro':Nat->Nat)(m':E):Prop where
 size:m.size<=m'.size
 gU:∀b,b<m.size->ro' b=ro b
 new:∀b,m'.size<=b->ro' b=0
 eB:∀b,b<m.size->¬p (ro b)->m'[b]? =m[b]?
def dp.az(p:Nat->Prop){a:Nat->Nat}{m:E}(h:∀b,m.size<=b->a b=0):dp p a m a m:=⟨ad _,λ_ _=>rfl,h,λ_ _ _=>rfl⟩
def dp.trans{g i j:Nat->Nat}{d e f:E}(h:dp p g d i e)(k:dp p i e j f):dp p g d j f:=
 ⟨bH h.size k.size,λb a=>by rw[k.gU b (aO a h.size),h.gU b a],k.new,λb a c=>by
  rw[k.eB b (aO a h.size) (by rw[h.gU b a];exact c),h.eB b a c]⟩
def dp.mono{q:Nat->Prop}{b c:Nat->Nat}{m a:E}(h:dp p b m c a)(g:∀k,p k->q k):dp q b m c a:=⟨h.size,h.gU,h.new,λd e i=>h.eB d e λf=>i (g _ f)⟩
def dp.eH(p:Nat->Prop){c:Nat->Nat}{m d:E}(h:J m d)(e:∀b,m.size<=b->c b=0):dp p c m c d:=⟨h.size,λ_ _=>rfl,λb a=>e b (bH h.size a),λb a _=>h.same b a⟩
def dp.ah{a:Nat->Nat}{m:E}(g:∀b,m.size<=b->a b=0){b:Nat}(f:p (a b))(o:Nat)(l:List Ce):dp p a m a (ah m b o l):=
 ⟨tV (aw _ _ _ _).symm,λ_ _=>rfl,λc d=>g c (by rw[aw]at d;exact d),λc _ h=>bd _ _ _ _ λe=>h (e▸f)⟩
abbrev HC:=dp (λk=>k=3\/k=5\/k=6)
abbrev To:=dp (λk=>k≠0/\k≠9)
def dp.cy{g i:Nat->Nat}{c m f:E}(h:To g m i f)(e:J c m)(d:∀b,b<c.size->g b=0):J c f/\∀b,b<c.size->i b=0:=by
 have j:=e.size;exact⟨⟨bH j h.size,λb a=>by rw[h.eB b V (by simp[d b a]),e.same b a]⟩,λb a=>by rw[h.gU b V,d b a]⟩
def dp.dv{e f:Nat->Nat}{m d:E}(h:To e m f d){l:List Nat}(c:∀b∈l,b<m.size/\e b=0):eG l m d:=λb a=>h.eB b (c b a).1 (by simp[(c b a).2])
structure iG(ro:Nat->Nat)(m:E)(e sz k:Nat)(s:O)(l:List Ce):Prop where
 len:l.length=s.len*sz
 le:s.len<=s.cap
 aF:s.cap=0\/∃b c tail,s=.mk b 0 s.len c/\ro b=k/\cE m b e (l++tail)/\(l++tail).length=c*sz
section
variable{c g:Nat->Nat}{b d:E}{e a k:Nat}{s:O}{l:List Ce}
def iG.Dj(h:iG c b e a k s l)(f:s.cap=0):l=[]/\s.len=0:=by
 have:=h.le;have d:s.len=0:=V;exact⟨List.length_eq_zero_iff.1 (by rw[h.len,d];simp),d⟩
def iG.iB(h:iG c b e a k s l):fQ b s.D s.off l:=by
 rcases h.aF with f|⟨j,d,tail,h1,h2,h3,h4⟩
 .rw[(h.Dj f).1];intro i d g;simp at g
 .rw[h1];exact h3.iB.MK
def iG.wr(h:iG c b e a k s l)(d:o+n<=l.length):fK b s.D (s.off+o) n:=by
 rcases h.aF with f|⟨g,i,tail,h1,h2,h3,h4⟩
 .rw[(h.Dj f).1]at d;intro m j;simp at d;omega
 .rw[h1];simp only[O.jB,O.mV,bU];exact h3.fK bE
def iG.eB(h:iG c b e a k s l)(p:s.cap≠0->d[s.D]? =b[s.D]?)(q:s.cap≠0->g s.D=c s.D):iG g d e a k s l:=by
 refine⟨h.len,h.le,?_⟩;rcases h.aF with o|⟨m,n,tail,h1,h2,h3,h4⟩
 .exact Or.inl o
 .by_cases f:s.cap=0
  .exact Or.inl f
  .have i:=p f;have j:=q f;rw[h1]at i j;exact Or.inr ⟨m,n,tail,h1,j.trans h2,h3.congr i,h4⟩
def iG.D(h:iG c b e a k s l)(f:s.cap≠0):s.D<b.size/\c s.D=k:=by
 rcases h.aF with d|⟨g,i,tail,h1,h2,h3,h4⟩
 .exact absurd d f
 .rw[h1];exact⟨h3.lt,h2⟩
def iG.eI(h:iG c b e a k s l)(i:dp p c b g d)(j:¬p k):iG g d e a k s l:=
 h.eB (λf=>i.eB _ (h.D f).1 (by rw[(h.D f).2];exact j)) (λf=>i.gU _ (h.D f).1)
def iG.set(h:iG c b e a k s l){new:List Ce}(w:o+new.length<=l.length):iG c (ah b s.D (s.off+o) new) e a k s (jb l o new):=by
 refine⟨by rw[kT];exact h.len,h.le,?_⟩;rcases h.aF with u|⟨j,n,tail,h1,h2,h3,h4⟩
 .exact Or.inl u
 .refine Or.inr ⟨j,n,tail,h1,h2,?_,by simp only[be,kT]at h4⊢;exact h4⟩;have p:s.D=j:=by rw[h1];rfl
  have q:s.off=0:=by rw[h1];rfl
  rw[p,q,bU];have:=cE.ah (m:=b) (o:=o) (r:=new) h3;have t:jb (l++tail) o new=jb l o new++tail:=by
   have f:(jb l o new).length=l.length:=kT _ _ _;apply gV;intro i;rcases aW i l.length with d|d
   .have g:(jb l o new++tail)[i]? =(jb l o new)[i]? :=ax (by rw[f];exact d);rw[g,vY,vY];simp only[be];by_cases v:o<=i/\i<o+new.length
    .rw[an V,an V]
    .rw[ae V,ae V,ax d]
   .have g:(jb l o new++tail)[i]? =tail[i -l.length]? :=by rw[aI (by rw[f];exact d),f]
    rw[g,vY,ae V,aI d]
  rw[t]at this;exact this
def iG.cut(h:iG c b e a k s l){n:Nat}(m:n<=s.len):iG c b e a k (s.cut 0 n a) (l.take (n*a)):=by
 have j:=h.le;have q:=h.len;rcases h.aF with i|⟨f,g,tail,h1,h2,h3,h4⟩
 .have d:n=0:=V;cases s with
  |nil=>exact⟨by simp[d,O.cut],by simp[O.cut],Or.inl rfl⟩
  |zC f o p=>exact⟨by simp[d,O.cut],by simp[O.cut],Or.inl rfl⟩
  |mk f o r p=>simp at i;subst i;exact⟨by simp[d,O.cut],by simp[d,O.cut],Or.inl (by simp[O.cut])⟩
 .rw[h1];have d:s.len<=g:=by rw[h1]at j;exact j
  refine⟨?_,by simp[O.cut];omega,Or.inr ⟨f,g,l.drop (n*a)++tail,?_,h2,?_,?_⟩⟩
  .simp only[O.cut,O.gF,gJ,Xi];have:n*a<=s.len*a:=dh _ m;omega
  .simp[O.cut]
  .rw[<-fC,dm];exact h3
  .rw[<-fC,dm];exact h4
end
def iG.append{g:Nat->Nat}{f:E}{j l:Nat}{zs:List Ce}{u:Nat}{s x:O}{n c:List Ce}{K:O->E->Prop}(h:iG g f j zs.length l s n)(t:∀a,f.size<=a->g a=0)
 (k:c.length=x.len*zs.length)(B:fQ f x.D x.off c)(i:(s.len+x.len)*u<=140737488355328)
 (q:∀v p d,iG v d j zs.length l p (n++c)->dp (λy=>y=l) g f v d->K p d):jL f j zs u s x K:=by
 have G:=h.le
 refine⟨c,k,B,λD=>?_,λF=>⟨i,n,h.len,h.iB,λd v=>?_⟩⟩
 .rcases h.aF with C|⟨a,d,tail,h1,h2,h3,h4⟩
  .have w:x.len=0:=V
   have A:c=[]:=List.length_eq_zero_iff.1 (by rw[k,w];simp)
   subst A
   refine⟨λy z=>by simp at z,?_⟩
   have p:=q g s _ (by rw[dY];exact h) (dp.az _ t)
   cases s with
   |nil=>exact p
   |zC a o H=>exact p
   |mk a o H d=>simp only[w,jF];exact p
  .have w:=h.len
   have A:s.cap=d:=by rw[h1];rfl
   rw[h1]
   simp only[O.jB,O.mV,O.gF,bU]
   simp only[be]at h4
   have z:c.length<=tail.length:=by
    have y:(s.len+x.len)*zs.length<=d*zs.length:=dh _ V;rw[gN]at y;omega
   refine⟨h3.fK (by simp only[be];omega),?_⟩
   have p:=cE.ah (m:=f) (b:=a) (e:=j) (r:=c) (o:=s.len*zs.length) h3
   rw[<-w,BV n c tail z]at p
   refine q g _ _ ⟨?_,?_,Or.inr ⟨a,d,tail.drop c.length,rfl,h2,?_,?_⟩⟩ (dp.ah t h2 _ _)
   .simp only[be,O.gF,gN];omega
   .simp only[O.gF,O.Oi];omega
   .rw[<-w];exact p
   .simp only[be,List.length_drop];omega
 .refine q (λa=>if a=f.size then l else g a) _ _ ⟨?_,?_,Or.inr ⟨f.size,d,mH zs (d -(s.len+x.len)),rfl,aL,cE.push _ _ _,?_⟩⟩ ⟨aL,λa i=>ae V,λa i=>?_,λa i _=>by rw[mM,ae V]⟩
  .simp only[be,O.gF,gN,h.len,k]
  .simpa using v
  .simp only[be,rG,h.len,k]
   rw[Nat.sub_mul,<-gN]
   have:(s.len+x.len)*zs.length<=d*zs.length:=dh _ v
   omega
  .simp at i;rw[ae V];exact t a V
def iG.gA{d:Nat->Nat}{i m:E}{e f k:Nat}{s:O}{l:List Ce}(h:gW i m e f s l)(g:s≠.nil->d s.D=k):iG d m e f k s l:=by
 refine⟨h.len,?_,?_⟩
 .rcases h.aF with a|⟨b,c,tail,a,h2,h3,h4,h5⟩
  .rw[a];exact ad _
  .rw[a];exact h5
 .rcases h.aF with a|⟨b,c,tail,a,h2,h3,h4,h5⟩
  .rw[a];exact Or.inl rfl
  .refine Or.inr ⟨b,c,tail,a,?_,h3,h4⟩;have:=g (by rw[a];simp);rw[a]at this;exact this
def iG.nJ{e:Nat->Nat}{m:E}{k:Nat}{s:O}{l:List Int}(h:iG e m aA 1 k s (l.map Ce.i))(g:l.length<=9223372036854775807):ap m s l:=by
 have d:s.len=l.length:=by have:=h.len;simp at this;omega
 refine⟨d,h.le,V,λj x c=>⟨[.i x],rfl,λi f a=>?_⟩⟩;have b:i=0:=by have:=av a;simp at this;omega
 subst b;simp at a;subst a;have:=h.iB j (.i x) (by simp[c]);simpa using this
def Af(l:List Int)(i:Nat)(v:Int):jb (l.map Ce.i) i [.i v]=(l.set i v).map Ce.i:=by simp[jb,tU]
def iG.gR{a:Nat->Nat}{m:E}{k:Nat}{s:O}{l:List Int}(h:iG a m aA 1 k s (l.map Ce.i))(b:0<=i)(c:i<l.length)(v:Int):iG a (ah m s.D (s.off+i.toNat*1) [.i v]) aA 1 k s ((Go.Proofs.YtkoifinbblcbiaaGreat.gR l i v).map Ce.i):=by
 have:=h.set (o:=i.toNat) (new:=[.i v]) bE;rw[Af]at this;rw[eR];exact this
def iG.NQ{a:Nat->Nat}{m:E}{k:Nat}{s:O}{l:List Int}(h:iG a m aA 1 k s (l.map Ce.i))(b:0<=i)(c:i<l.length):fK m s.D (s.off+i.toNat*1) 1:=by
 rw[eR];exact h.wr bE
def FB(m:E)(f:O)(l:List Int):Prop:=∃c tail,f=.mk f.D 0 f.len c/\cE m f.D aA (l.map Ce.i++tail)
def FN(N:Nat)(a:Nat->Nat)(m:E)(f:O)(l:List Int):Prop:=l≠[]->a f.D=0/\N<=f.D/\FB m f l
def xN(N:Nat)(b:Nat->Nat)(m:E)(a:List Ce)(c:bM):Prop:=∃f,a=[.i c.aP,.i c.j9,.s f]/\ap m f c.aE/\FN N b m f c.aE
def Xk(e:List (List Ce)):Prop:=∀(i j:Nat)(c d:List Ce)(a b:O),e[i]? =some c->e[j]? =some d->c[2]? =some (.s a)->d[2]? =some (.s b)->i≠j->a.len≠0->b.len≠0->a.D≠b.D
def Xk.nil:Xk []:=λi j c d a b h=>by simp at h
def dK(N:Nat)(b:Nat->Nat)(m:E)(c:O)(h:List bM):Prop:=∃a,iG b m lY 3 3 c a.flatten/\gQ 3 (xN N b m) a h/\Xk a
def SI(a:Nat->Nat)(m:E)(i:Nat)(b:List Ce)(f:aX):Prop:=
 ∃r o h,b=[.i f.fE,.i f.pc,.i f.dst,.s r,.s o,.s h]/\iG a m aA 1 (10+3*i) r (f.ak.map Ce.i)/\iG a m aA 1 (11+3*i) o (f.aR.map Ce.i)/\iG a m aA 1 (12+3*i) h (f.ba.map Ce.i)
structure Zp(ro:Nat->Nat)(m:E)(fr:O)(fs:List aX)(css:List (List Ce)):Prop where
 p7:iG ro m dP 6 4 fr css.flatten
 len:css.length=fs.length
 size:∀cs∈css,cs.length=6
 dz:∀(i:Nat)(cs:List Ce)(f:aX),css[i]? =some cs->fs[i]? =some f->SI ro m i cs f
def nG(d:Nat->Nat)(m:E)(b:O)(c:List aX):Prop:=∃a,Zp d m b c a
def iQ{m b:E}{l:List Int}(h:ap m f l)(j:l≠[]->b[f.D]? =m[f.D]?):ap b f l:=by
 by_cases a:l=[]
 .subst a;exact⟨h.len,h.cap,h.gT,aL⟩
 .exact⟨h.len,h.cap,h.gT,λo x n=>let⟨d,e,g⟩:=h.iB o x n;⟨d,e,λi c k=>by rw[aJ (j a)];exact g i c k⟩⟩
def iF{m:E}{l:List Int}(h:ap m f l)(a:l≠[]):f.D<m.size:=by
 cases l with
 |nil=>exact absurd rfl a
 |cons b l=>exact mf (h.aF (k:=0) (x:=b) rfl)
def xN.eI{N:Nat}{k l:Nat->Nat}{m j:E}(c:dp p k m l j)(h:¬p 0)(e:List Ce)(d:bM):xN N k m e d->xN N l j e d:=λ⟨f,q,b,i⟩=>
 ⟨f,q,iQ b λa=>c.eB _ (iF b a) (by rw[(i a).1];exact h),λa=>by
  let⟨g1,g2,n,tail,o,g⟩:=i a;exact⟨by rw[c.gU _ (iF b a)];exact g1,g2,n,tail,o,g.congr (c.eB _ g.lt (by rw[g1];exact h))⟩⟩
def dK.eI{N:Nat}{p:Nat->Prop}{d e:Nat->Nat}{m c:E}{b:O}{h:List bM}(n:dK N d m b h)(a:dp p d m e c)(g:¬p 0)(k:¬p 3):dK N e c b h:=by
 let⟨f,i,j,l⟩:=n;exact⟨f,i.eI a k,j.mono (xN.eI a g),l⟩
def SI.eI{p:Nat->Prop}{e g:Nat->Nat}{m d:E}(a:dp p e m g d){i:Nat}(b:∀k,10+3*i<=k->k<=12+3*i->¬p k){c:List Ce}{f:aX}:SI e m i c f->SI g d i c f:=λ⟨r,o,h,j,k,l,n⟩=>
 ⟨r,o,h,j,k.eI a (b _ V V),l.eI a (b _ V V),n.eI a (b _ V V)⟩
def nG.eI{p:Nat->Prop}{g j:Nat->Nat}{m e:E}{a:O}{b:List aX}(r:nG g m a b)(c:dp p g m j e)(d:∀k,(k=4\/10<=k)->¬p k):nG j e a b:=by
 let⟨n,h⟩:=r;exact⟨n,h.p7.eI c (d 4 V),h.len,h.size,λi l f o q=>(h.dz i l f o q).eI c λk s _=>d k V⟩
structure vy(m0:E)(ro:Nat->Nat)(m:E)(mb e:Nat)(bx:List Ce)(aT hp fr:O)(lo:List Int)(lh:List bM)(lf:List aX):Prop where
 cy:J m0 m
 jR:∀b,b<m0.size->ro b=0
 new:∀b,m.size<=b->ro b=0
 box:cE m mb e bx
 Qn:ro mb=1
 aT:iG ro m aA 1 2 aT (lo.map Ce.i)
 heap:dK m0.size ro m hp lh
 ao:nG ro m fr lf
section
variable{j:E}{b g:Nat->Nat}{a c:E}{d e:Nat}{h:List Ce}{aT l k:O}{r:List Int}{q:List bM}{o:List aX}
def vy.ext(L:vy j b a d e h aT l k r q o)(g:J a c):vy j b c d e h aT l k r q o/\To b a b c:=by
 have f:∀p,dp p b a b c:=λp=>dp.eH p g L.new;exact⟨⟨L.cy.trans g,L.jR,(f (λ_=>False)).new,L.box.ext g,L.Qn,L.aT.eI (f (λ_=>False)) id,L.heap.eI (f (λ_=>False)) id id,L.ao.eI (f (λ_=>False)) λ_ _=>id⟩,f _⟩
def vy.jw(L:vy j b a d e h aT l k r q o)(i:Nat)(c:List Ce):vy j b (ah a d i c) d e (jb h i c) aT l k r q o/\To b a b (ah a d i c):=by
 have f:dp (λg=>g=1) b a b (ah a d i c):=dp.ah L.new L.Qn _ _;have n:To b a b (ah a d i c):=f.mono λg p=>V;let⟨b1,b2⟩:=n.cy L.cy L.jR;exact⟨⟨b1,b2,f.new,cE.ah (m:=a) L.box,L.Qn,L.aT.eI f bh,L.heap.eI f bh bh,L.ao.eI f λg p=>V⟩,n⟩
def vy.mw(L:vy j b a d e h aT l k r q o){i:Nat}(c:i+n<=h.length):fK a d i n:=L.box.fK c
def vy.gB(L:vy j b a d e h aT l k r q o)(f:dp (λi=>i=3\/i=5\/i=6) b a g c){m:O}{p:List bM}(s:dK j.size g c m p):vy j g c d e h aT m k r p o/\To b a g c:=by
 have n:To b a g c:=f.mono λi t=>V;let⟨b1,b2⟩:=n.cy L.cy L.jR;exact⟨⟨b1,b2,f.new,L.box.congr (f.eB _ L.box.lt (by rw[L.Qn];decide)),by rw[f.gU _ L.box.lt];exact L.Qn,L.aT.eI f bh,s,L.ao.eI f λi t=>V⟩,n⟩
def vy.Ib(L:vy j b a d e h aT l k r q o)(f:dp (λi=>i=2) b a g c){p:O}{n:List Int}(s:iG g c aA 1 2 p (n.map Ce.i)):vy j g c d e h p l k n q o/\To b a g c:=by
 have m:To b a g c:=f.mono λi t=>V;let⟨b1,b2⟩:=m.cy L.cy L.jR;exact⟨⟨b1,b2,f.new,L.box.congr (f.eB _ L.box.lt (by rw[L.Qn];decide)),by rw[f.gU _ L.box.lt];exact L.Qn,s,L.heap.eI f bh bh,L.ao.eI f λi t=>V⟩,m⟩
def vy.jJ(L:vy j b a d e h aT l k r q o)(f:dp (λi=>4<=i/\i≠9) b a g c){m:O}{p:List aX}(s:nG g c m p):vy j g c d e h aT l m r q p/\To b a g c:=by
 have n:To b a g c:=f.mono λi t=>V;let⟨b1,b2⟩:=n.cy L.cy L.jR;exact⟨⟨b1,b2,f.new,L.box.congr (f.eB _ L.box.lt (by rw[L.Qn];decide)),by rw[f.gU _ L.box.lt];exact L.Qn,L.aT.eI f bh,L.heap.eI f bh bh,s⟩,n⟩
end
end
section
variable{α:Type}{k:Nat}
def up{α:Type}(f:Nat->α)(k:Nat)(x:α):Nat->α:=λj=>if j=k then x else f j
@[simp] theorem Hg (f:Nat->α) (k:Nat) (x:α):up f k x k=x:=an rfl
def Qc(f:Nat->α)(k:Nat)(x:α){j:Nat}(h:j≠k):up f k x j=f j:=ae h
def PZ(a:Nat->O):List Ce:=[.s (a 0),.s (a 1),.s (a 2),.s (a 3),.s (a 4),.s (a 5),.s (a 6)]
def Su(a:Nat->O)(b:k<7):(PZ a)[k]? =some (.s (a k)):=by
 rcases k with _|_|_|_|_|_|_|k<;>first|rfl|omega
def NN(a:Nat->O)(b:k<7)(r:O):jb (PZ a) k [.s r]=PZ (up a k r):=by
 rcases k with _|_|_|_|_|_|_|k<;>first|rfl|omega
structure jt(ro:Nat->Nat)(m:E)(lb:Nat)(sl:Nat->O)(L:Nat->List Int):Prop where
 new:∀b,m.size<=b->ro b=0
 gU:ro lb=8
 box:cE m lb Bz (PZ sl)
 p7:∀k,k<7->iG ro m aA 1 (k+1) (sl k) ((L k).map Ce.i)
section
variable{f j:Nat->Nat}{a h:E}{d:Nat}{b:Nat->O}{L:Nat->List Int}
def jt.cg(h:jt f a d b L){k:Nat}(c:k<7):af a d k=some (O.v (b k)):=by
 rw[h.box.cg,Su b c];rfl
def jt.nJ(h:jt f a d b L){k:Nat}(c:k<7)(e:(L k).length<=10^12):ap a (b k) (L k):=(h.p7 k c).nJ V
def jt.len(h:jt f a d b L){k:Nat}(c:k<7):(b k).len=(L k).length:=by have:=(h.p7 k c).len;simp at this;omega
def jt.to(h:jt f a d b L):To f a f a:=dp.az _ h.new
def jt.ext(c:jt f a d b L)(e:J a h):jt f h d b L:=
 ⟨λi l=>c.new i (bH e.size l),c.gU,c.box.congr (e.same d c.box.lt),λk g=>(c.p7 k g).eB (λj=>e.same _ ((c.p7 k g).D j).1) λ_=>rfl⟩
def jt.kK(p:jt f a d b L)(s:k<7)(C:(L k).length<=10^12)(i:Int){K:O->E->Prop}
 (B:∀j r h,To f a j (ah h d k [.s r])->jt j (ah h d k [.s r]) d (up b k r) (up L k (L k++[i]))->K r h):
 jL (a.push (.cells (bt [.i i]) aA)) aA [.i 0] 8 (b k) (.mk a.size 0 1 1) λr h=>fK h d k 1/\K r h:=by
 have z:=J.push a (.cells (bt [.i i]) aA)
 have c:=p.ext z
 have D:=p.len s
 refine iG.append (zs:=[.i 0]) (c:=[.i i]) (c.p7 k s) c.new aL ((cE.push a (e:=aA) (l:=[.i i])).iB) (by simp only[O.gF];omega) λj r h v n=>?_
 have x:cE h d Bz (PZ b):=c.box.congr (n.eB d c.box.lt (by simp only[c.gU];omega))
 have o:j d=8:=by rw[n.gU d c.box.lt,c.gU]
 have A:To f a j h:=(dp.eH _ z p.new).trans (n.mono λt y=>V)
 have u:To f a j (ah h d k [.s r]):=A.trans (dp.ah n.new (by simp only[o];omega) _ _)
 refine⟨x.fK (by show k+1<=7;omega),B j r h u ⟨u.new,o,NN b s r▸cE.ah (m:=h) x,λt y=>?_⟩⟩
 by_cases g:t=k
 .subst g
  rw[Hg,Hg,ft]
  refine v.eB (λq=>bd _ _ _ _ λg=>?_) λ_=>rfl
  have:=(v.D q).2
  rw[g,o]at this;omega
 .rw[Qc _ _ _ g,Qc _ _ _ g]
  have w:=(c.p7 t y).eI n V
  refine w.eB (λq=>bd _ _ _ _ λg=>?_) λ_=>rfl
  have:=(w.D q).2
  rw[g,o]at this;omega
def jt.put(h:jt f a d b L){i:Nat}(r:k<7)(n:i<(L k).length)(x:Int):
 fK a (b k).D ((b k).off+i*1) 1/\jt f (ah a (b k).D ((b k).off+i*1) [.i x]) d b (up L k ((L k).set i x))/\To f a f (ah a (b k).D ((b k).off+i*1) [.i x]):=by
 have g:=h.p7 k r
 have s:(L k).map Ce.i≠[]:=λe=>by simp at e;rw[e]at n;simp at n
 have j:(b k).cap≠0:=λj=>s (g.Dj j).1
 let⟨t,l⟩:=g.D j
 have c:To f a f (ah a (b k).D ((b k).off+i*1) [.i x]):=dp.ah h.new (by simp only[l];omega) _ _
 refine⟨g.wr bE,⟨c.new,h.gU,h.box.congr (bd _ _ _ _ λe=>by have:=h.gU;rw[e,l]at this;omega),λp q=>?_⟩,c⟩
 by_cases e:p=k
 .subst e
  rw[Hg]
  have:=g.set (o:=i*1) (new:=[.i x]) bE
  rw[Af,eR]at this
  rw[eR];exact this
 .rw[Qc _ _ _ e]
  have m:=h.p7 p q
  refine m.eB (λj=>bd _ _ _ _ λe=>?_) λ_=>rfl
  have:=(m.D j).2
  rw[e,l]at this;omega
def jt.W3(h:jt f a d b L)(j:k<7){r:O}{l:List Int}(o:iG f a aA 1 (k+1) r (l.map Ce.i)):
 fK a d k 1/\jt f (ah a d k [.s r]) d (up b k r) (up L k l)/\To f a f (ah a d k [.s r]):=by
 have c:To f a f (ah a d k [.s r]):=dp.ah h.new (by simp only[h.gU];omega) _ _
 refine⟨h.box.fK (by show k+1<=7;omega),⟨c.new,h.gU,NN b j r▸cE.ah (m:=a) h.box,λn g=>?_⟩,c⟩
 have K:∀{i s l},iG f a aA 1 (i+1) s l->i<7->iG f (ah a d k [.s r]) aA 1 (i+1) s l:=λ{i s l} g' hk'=>by
  refine g'.eB (λp=>bd _ _ _ _ λe=>?_) λ_=>rfl;have:=(g'.D p).2;rw[e,h.gU]at this;omega
 by_cases e:n=k
 .subst e
  rw[Hg,Hg];exact K o j
 .rw[Qc _ _ _ e,Qc _ _ _ e];exact K (h.p7 n g) g
def jt.cut(h:jt f a d b L){k n:Nat}(c:k<7)(l:n<=(L k).length):
 n<=(b k).cap/\fK a d k 1/\jt f (ah a d k [.s ((b k).cut 0 n 1)]) d (up b k ((b k).cut 0 n 1)) (up L k ((L k).take n))/\To f a f (ah a d k [.s ((b k).cut 0 n 1)]):=by
 have g:=h.p7 k c
 have i:=h.len c
 have j:=g.le
 have e:=g.cut (n:=n) V
 rw[eR,<-NW]at e
 exact⟨V,h.W3 c e⟩
end
structure pZ(ds:List bz)(n b:Nat)(L:Nat->List Int):Prop where
 len:∀k,k<6->(L k).length=n
 WZ:∀(v:Nat)(p:Int),(L 2)[v]? =some p->p<v
 O6:∀(v:Nat)(c f:Int),(L 3)[v]? =some c->(L 4)[v]? =some f->0<=c->0<=f/\f+((cD ds c).length:Int)<=b
 cR:(L 6).length<=10^12
abbrev sA(a:List bz)(n:Nat)(L:Nat->List Int):Prop:=pZ a n n L
def KQ(L:Nat->List Int)(t o p:Int):Nat->List Int:=up (up (up (up (up (up L 0 (L 0++[t])) 1 (L 1++[o])) 2 (L 2++[p])) 3 (L 3++[-1])) 4 (L 4++[-1])) 5 (L 5++[-1])
def AI{j:Nat->Nat}{m:E}{b:Nat}{x:Nat->O}{L:Nat->List Int}(h:jt j m b x L)(a:∀k,k<6->(L k).length<=10^12)(t o p:Int):
 aN cp 264 [vp b 0,vi t,vi o,vi p] m λ_ i=>∃l y,To j m l i/\jt l i b y (KQ L t o p):=by
 apply xl (b,0)
 simp -zeta only[bU]
 refine⟨_,h.cg (k:=0) bh,?_⟩
 intro z
 refine h.kK (k:=0) bh (a 0 bh) t λN U G n c=>⟨_,c.cg (k:=1) bh,?_⟩
 intro A
 refine c.kK (k:=1) bh (a 1 bh) o λP V H q d=>⟨_,d.cg (k:=2) bh,?_⟩
 intro B
 refine d.kK (k:=2) bh (a 2 bh) p λQ W I r e=>⟨_,e.cg (k:=3) bh,?_⟩
 intro C
 refine e.kK (k:=3) bh (a 3 bh) (-1) λR X J s f=>⟨_,f.cg (k:=4) bh,?_⟩
 intro D
 refine f.kK (k:=4) bh (a 4 bh) (-1) λS Y K u g=>⟨_,g.cg (k:=5) bh,?_⟩
 intro F
 exact g.kK (k:=5) bh (a 5 bh) (-1) λT Z M v w=>⟨_,_,((((n.trans q).trans r).trans s).trans u).trans v,w⟩
end
section
variable{l:List Int}{d:Nat->Nat}{a:E}{P:(Nat->List Int)->Prop}{b:Nat}{v:Int}
def GI.aT{S:List Nat}{n m:E}{s:O}(h:GI S n m s l):gW n m aA 1 s (l.map Ce.i):=by
 have u:=h.len bh;let⟨r,d,o,a⟩:=h;have t:d.flatten.length=l.length:=by rw[cw a.size,a.len];omega
 have q:d.flatten=l.map Ce.i:=by
  apply gV;intro e;rcases aW e l.length with b|b
  .let⟨x,k⟩:=dB b;let⟨f,j⟩:=cG d e (by rw[a.len];exact b);have p:f=[.i x]:=a.dz e f x j k;have g:=fW (g:=1) a.size j (i:=0) (c:=.i x) (by rw[p];rfl);simp only[eR,jF]at g;rw[g];simp[k]
  .rw[cN V,cN (by simpa using b)]
 rw[<-q];exact o
def Ca(f:Nat->Nat)(m:E)(e:Nat)(P:(Nat->List Int)->Prop)(v:Value)(a:E):Prop:=∃(b:Bool)(d:Nat->Nat),v=vb b/\To f m d a/\(b=true->∃g c,jt d a e g c/\P c)
def Ca.no{b:Nat->Nat}{m:E}{c:Nat}(h:To b m d a):Ca b m c P (vb false) a:=⟨false,d,rfl,h,aL⟩
def Ca.O9{c:Nat->Nat}{m:E}{b:Nat}{e:Nat->O}{L:Nat->List Int}(h:To c m d a)(f:jt d a b e L)(g:P L):Ca c m b P (vb true) a:=⟨true,d,rfl,h,λ_=>⟨e,L,f,g⟩⟩
def Ca.mono{e:Nat->Nat}{m:E}{c:Nat}{Q:(Nat->List Int)->Prop}{v:Value}(h:Ca e m c P v a)(n:∀L,P L->Q L):Ca e m c Q v a:=let⟨b,d,f,g,i⟩:=h;⟨b,d,f,g,λl=>let⟨o,L,j,k⟩:=i l;⟨o,L,j,n L k⟩⟩
def pZ.aR{a:List bz}{n:Nat}{L:Nat->List Int}(h:pZ a n b L)(g:l.length=n):pZ a n b (up L 1 l):=
 ⟨λk d=>by by_cases e:k=1<;>simp_all [up,h.len k],λv p=>by simpa[up]using h.WZ v p,λv c f=>by simpa[up]using h.O6 v c f,by simpa[up]using h.cR⟩
def pZ.Z9{a:List bz}{n:Nat}{L:Nat->List Int}(h:pZ a n b L)(g:l.length=n):pZ a n b (up L 5 l):=
 ⟨λk d=>by by_cases e:k=5<;>simp_all [up,h.len k],λv p=>by simpa[up]using h.WZ v p,λv c f=>by simpa[up]using h.O6 v c f,by simpa[up]using h.cR⟩
def KO{b x:Int}{v:Nat}(h:(l++[b])[v]? =some x):l[v]? =some x\/v=l.length/\x=b:=by
 rcases aW v l.length with a|a
 .rw[ax a]at h;exact Or.inl h
 .rw[aI a]at h;have:=av h;simp at this;have e:v=l.length:=V;subst e;simp at h;exact Or.inr ⟨rfl,h.symm⟩
def pZ.DB{c:List bz}{n a:Nat}{L:Nat->List Int}(h:pZ c n b L)(j:b<=a):pZ c n a L:=
 ⟨h.len,h.WZ,λv d f g i e=>oh (h.O6 v d f g i e),h.cR⟩
def pZ.Ox{f:List bz}{n:Nat}{L:Nat->List Int}(h:pZ f n b L)(u t:Int){p:Int}(r:p<n):pZ f (n+1) b (KQ L u t p):=by
 have a:=h.len;refine⟨λk w=>?_,λv q s=>?_,λv e g j m i=>?_,by simpa[KQ,up]using h.cR⟩
 .rcases k with _|_|_|_|_|_|k<;>first|omega|(simp[KQ,up,a])
 .have d:(L 2++[p])[v]? =some q:=by simpa[KQ,up]using s
  rcases KO d with c|⟨rfl,rfl⟩
  .exact h.WZ v q c
  .rw[a 2 bh];exact r
 .have l:(L 3++[-1])[v]? =some e:=by simpa[KQ,up]using j
  have o:(L 4++[-1])[v]? =some g:=by simpa[KQ,up]using m
  rcases KO l with c|⟨rfl,rfl⟩
  .rcases KO o with d|⟨d,rfl⟩
   .have:=h.O6 v e g c d i;omega
   .have:=av c;rw[a 4 bh]at d;rw[a 3 bh]at this;omega
  .omega
section
variable{f:Nat->Nat}{m:E}{e:Nat}{g:Nat->O}{L:Nat->List Int}{h:List bz}{c:Nat}
def jt.aF(h:jt f m e g L){k:Nat}(b:k<7)(c:(L k).length<=10^12){i:Nat}{x:Int}(a:(L k)[i]? =some x):af m (g k).D ((g k).off+i*1)=some (vi x):=(h.nJ b c).aF a
def uI(a:jt f m e g L)(q:sA h c L)(u:c<=10^12)(b:0<=v)(s:v<c):aN cp 265 [vp e 0,vi v] m (Ca f m e λd=>∃l:List Int,l.length=c/\d=up L 1 l):=by
 apply xt (e,0);simp -zeta only[bU];have o:=q.len 1 bh;have t:=a.len (k:=1) bh;let⟨x,r⟩:=cG (L 1) v.toNat;have j:=a.aF bh V r;have d:=a.cg (k:=1) bh;let⟨w,p,n⟩:=a.put (k:=1) (i:=v.toNat) bh V (cT (x -1));exact⟨_,d,b,V,x,j,λ_=>.no a.to,λ_=>⟨_,d,_,d,b,V,x,j,b,V,w,.O9 n p ⟨_,by simp[o],rfl⟩⟩⟩
def sJ(q:jt f m e g L)(j:sA h c L)(t:c<=10^12)(i:0<=v)(o:v<c):oN 225 [vp e 0,vi v] m:=by
 apply wo (e,0);refine⟨λv a=>0<=v/\v<(c:Int)/\J m a,λv _=>v.toNat,⟨i,o,J.az _⟩,?_⟩;rintro v A ⟨i,o,d⟩;have H:=q.ext d;have w:=H.len (k:=1) bh;have z:=H.len (k:=2) bh;have C:=j.len 1 bh;have D:=j.len 2 bh;let⟨x,s⟩:=cG (L 1) v.toNat;let⟨y,p⟩:=cG (L 2) v.toNat;have u:=j.WZ _ _ p;refine⟨_,H.cg (k:=1) bh,i,V,x,H.aF bh V s,λ_=>⟨_,H.cg (k:=6) bh,?_⟩,λ_=>rA d⟩;refine(dw (H.nJ (k:=6) bh j.cR) v).then λb B _ l=>⟨_,rfl,λ_=>?_,λ_=>rA (d.trans l)⟩;have n:=H.ext l;refine⟨_,n.cg (k:=2) bh,i,V,y,n.aF bh V p,λ_=>rA (d.trans l),λr=>?_⟩;simp only[bL]at r;exact⟨⟨V,V,d.trans l⟩,by show y.toNat<v.toNat;omega⟩
def LD(i:jt f m e g L)(u:sA h c L)(R:c<=10^12){b:Nat}(H:b<=c):aN cp 338 [vp e 0,vi b] m (Ca f m e λd=>(∀j,j<6->(d j).length=b)/\(d 6).length<=10^12):=by
 apply yO (e,0);simp -zeta only[bU];refine⟨λv a=>(b:Int)<=v/\v<=c/\a=m,λv _=>((c:Int) -v).toNat,⟨V,V,rfl⟩,?_⟩;rintro v W ⟨P,p,rfl⟩;have o:=λj(G:j<6)=>i.len (k:=j) V;have d:=u.len;have S:=o 0 bh;have T:=o 1 bh;have U:=o 5 bh;have n0:=d 0 bh;have n1:=d 1 bh;have n5:=d 5 bh;refine⟨_,i.cg (k:=0) bh,λw=>?_,λw=>?_⟩
 .simp only[ar]at w;let⟨x,q⟩:=cG (L 1) v.toNat;let⟨y,r⟩:=cG (L 5) v.toNat;refine⟨_,i.cg (k:=1) bh,V,V,x,i.aF bh V q,λ_=>.no i.to,λ_=>⟨_,i.cg (k:=5) bh,V,V,y,i.aF bh V r,λ_=>.no i.to,λ_=>?_⟩⟩;rw[aQ V V];exact⟨⟨V,V,rfl⟩,by show((c:Int) -(v+1)).toNat<((c:Int) -v).toNat;omega⟩
 .have tk:∀{l:List Int},l.length=c->(l.take b).length=b:=λQ=>bE;have D:Int.toNat (0:Int)=0:=rfl;have E:Int.toNat (b:Int)=b:=V;rw[D,E];let⟨p1,I,p,x⟩:=i.cut (k:=0) (n:=b) bh (by rw[d 0 bh];exact H);refine⟨_,i.cg (k:=0) bh,V,V,V,I,?_⟩;intro X;let⟨p2,J,q,y⟩:=p.cut (k:=1) (n:=b) bh (by simp[up,d];omega);refine⟨_,p.cg (k:=1) bh,V,V,V,J,?_⟩;intro Y;let⟨p3,K,r,z⟩:=q.cut (k:=2) (n:=b) bh (by simp[up,d];omega);refine⟨_,q.cg (k:=2) bh,V,V,V,K,?_⟩;intro Z;let⟨p4,M,s,A⟩:=r.cut (k:=3) (n:=b) bh (by simp[up,d];omega);refine⟨_,r.cg (k:=3) bh,V,V,V,M,?_⟩;intro m5;let⟨p5,N,t,B⟩:=s.cut (k:=4) (n:=b) bh (by simp[up,d];omega);refine⟨_,s.cg (k:=4) bh,V,V,V,N,?_⟩;intro m6;let⟨p6,O,F,C⟩:=t.cut (k:=5) (n:=b) bh (by simp[up,d];omega);refine⟨_,t.cg (k:=5) bh,V,V,V,O,?_⟩;intro m7;refine Ca.O9 (((((x.trans y).trans z).trans A).trans B).trans C) F ⟨λj G=>?_,?_⟩
  .rcases j with _|_|_|_|_|_|j<;>first|omega|(simp[up,d];omega)
  .simpa[up]using u.cR
end
end
section
variable{a:Nat->Nat}{m d c:E}{X:List Nat}
def XH(m:E)(P:(Nat->List Int)->Prop)(v:Value)(c:E):Prop:=∃d,v=vp d 0/\J m c/\∃a e L,(∀b,b<m.size->a b=0)/\jt a c d e L/\P L
def MP{t:Nat}{sl:Nat->O}{L:Nat->List Int}(h:jt a m t sl L)(S:∀b,b<7->(L b).length<=10^12):
 aN cp 325 [vp t 0] m (XH m λc=>∀b,b<7->c b=L b):=by
 apply vg (t,0)
 simp -zeta only[bU]
 refine⟨_,h.cg (k:=0) bh,_,h.cg (k:=1) bh,_,h.cg (k:=2) bh,_,h.cg (k:=3) bh,_,h.cg (k:=4) bh,_,h.cg (k:=5) bh,_,h.cg (k:=6) bh,?_⟩
 have C:∀{M:E}(b:Nat),b<7->J m M->kZ 66 [O.v (sl b)] M [] (L b=·):=λb z y=>bN [] ((h.ext y).nJ z (S b z)) (S b z)
 have c:∀{M H:E},J m M->J M H->∀B,af H t B=af M t B:=λy x' B=>aJ (x'.same t (y.lt h.box.lt)) B
 have i:=J.az m
 refine(C 0 bh i).then λU _ m1 I e d=>⟨_,rfl,c i d _,c i d _,c i d _,c i d _,c i d _,c i d _,?_⟩
 subst e
 refine(C 1 bh d).then λW _ m2 g1 e j=>⟨_,rfl,c d j _,c d j _,c d j _,c d j _,c d j _,?_⟩
 subst e
 have u:=d.trans j
 refine(C 2 bh u).then λX _ m3 g2 e l=>⟨_,rfl,c u l _,c u l _,c u l _,c u l _,?_⟩
 subst e
 have x:=u.trans l
 refine(C 3 bh x).then λY _ m4 K e n=>⟨_,rfl,c x n _,c x n _,c x n _,?_⟩
 subst e
 have D:=x.trans n
 refine(C 4 bh D).then λZ _ m5 N e o=>⟨_,rfl,c D o _,c D o _,?_⟩
 subst e
 have G:=D.trans o
 refine(C 5 bh G).then λs5 _ m6 P e p=>⟨_,rfl,c G p _,?_⟩
 subst e
 have u6:=G.trans p
 refine(C 6 bh u6).then λs6 _ v Q e q=>⟨_,rfl,?_⟩
 subst e
 intro w
 have r:J v w:=J.push _ _
 have z0:=i.size;have z1:=d.size;have z2:=j.size;have z3:=l.size;have z4:=n.size;have z5:=o.size;have z6:=p.size;have z7:=q.size
 have s8:w.size=v.size+1:=by simp[w]
 have y0:=I.bn;have y1:=g1.bn;have y2:=g2.bn;have y3:=K.bn;have y4:=N.bn;have y5:=P.bn;have y6:=Q.bn
 let f:Nat->Nat:=λg=>if g<m.size then 0 else if g<m1.size then 1 else if g<m2.size then 2 else if g<m3.size then 3 else if g<m4.size then 4 else if g<m5.size then 5 else if g<m6.size then 6 else if g<v.size then 7 else if g=v.size then 8 else 0
 let ab:Nat->O:=λb=>if b=0 then U else if b=1 then W else if b=2 then X else if b=3 then Y else if b=4 then Z else if b=5 then s5 else s6
 have A:∀{m0 M:E}{F:O}{T:List Int}{b:Nat},GI [] m0 M F T->J M w->f F.D=b->iG f w aA 1 b F (T.map Ce.i):=λaa y hr=>iG.gA (aa.aT.ext y) λ_=>hr
 refine⟨v.size,rfl,u6.trans (q.trans r),f,ab,L,λg R=>an R,⟨λg R=>?_,?_,cE.push _ _ _,λb z=>?_⟩,λ_ _=>rfl⟩
 .simp only[f]
  repeat rw[ae V]
 .simp only[f]
  repeat rw[ae V]
  simp
 .rcases b with _|_|_|_|_|_|_|b
  .exact A (F:=U) (b:=1) I (j.trans (l.trans (n.trans (o.trans (p.trans (q.trans r)))))) (by simp only[f];rw[ae V,an V])
  .exact A (F:=W) (b:=2) g1 (l.trans (n.trans (o.trans (p.trans (q.trans r))))) (by simp only[f];rw[ae V,ae V,an V])
  .exact A (F:=X) (b:=3) g2 (n.trans (o.trans (p.trans (q.trans r)))) (by simp only[f];rw[ae V,ae V,ae V,an V])
  .exact A (F:=Y) (b:=4) K (o.trans (p.trans (q.trans r))) (by simp only[f];rw[ae V,ae V,ae V,ae V,an V])
  .exact A (F:=Z) (b:=5) N (p.trans (q.trans r)) (by simp only[f];rw[ae V,ae V,ae V,ae V,ae V,an V])
  .exact A (F:=s5) (b:=6) P (q.trans r) (by simp only[f];rw[ae V,ae V,ae V,ae V,ae V,ae V,an V])
  .exact A (F:=s6) (b:=7) Q r (by simp only[f];rw[ae V,ae V,ae V,ae V,ae V,ae V,ae V,an V])
  .omega
structure Hr(d:E)(X:List Nat)(a:Nat->Nat)(m:E):Prop where
 ext:J d m
 gG:∀b,b<d.size->a b=0
 box:∀b∈X,b<m.size/\a b=0
def Hr.to{g:Nat->Nat}(h:Hr d X a m)(e:To a m g c):Hr d X g c:=by
 let⟨i,j⟩:=e.cy h.ext h.gG;exact⟨i,j,λb f=>⟨aO (h.box b f).1 e.size,by rw[e.gU b (h.box b f).1];exact(h.box b f).2⟩⟩
def Hr.dv{d m c:E}{X:List Nat}{a e:Nat->Nat}(h:Hr d X a m)(b:To a m e c):eG X m c:=b.dv h.box
def Hr.gY(h:Hr d X a m)(x:J m c):Hr d X a c:=⟨h.ext.trans x,h.gG,λb e=>⟨x.lt (h.box b e).1,(h.box b e).2⟩⟩
def Iz{p I aa:O}{q:gP}(s:ap m p q.params)(F:ap m I q.cR)(ad:q.params.length<=3)(ac:q.cR.length<=3)(w:List bz):
 aN cp 243 [.agg #[O.v p,O.v I,vi q.aS,O.v aa,vi q.body.aS]] m (XH m (sA w q.params.length)):=by
 apply AT
 simp -zeta only[aC,aB]
 intro e
 have v:J m e:=J.push _ _
 have s1:e.size=m.size+1:=by simp[e]
 have W:∀b∈[m.size],b<e.size:=by simp[e]
 clear_value e
 refine(bN [] (F.ext v) V).aH (J.az e) W λs6 _ f D o K _=>⟨_,rfl,?_⟩
 subst o
 intro t
 have P:J f t:=J.push _ _
 have s3:t.size=f.size+1:=by simp[t]
 have z2:=K.size
 have y6:=D.bn
 let h:Nat->Nat:=λb=>if b<e.size then 0 else if b<f.size then 7 else if b=f.size then 8 else 0
 let d:Nat->List Int:=λk=>if k<6 then[]else q.cR
 let r:Nat->O:=λk=>if k<6 then .nil else s6
 have R:jt h t f.size r d:=by
  refine⟨λb l=>?_,?_,cE.push _ _ _,λk B=>?_⟩
  .simp only[h];repeat rw[ae V]
  .simp only[h];repeat rw[ae V]
   simp
  .by_cases g:k<6
   .simp only[r,d,an g];exact⟨aL,aL,Or.inl rfl⟩
   .have o:k=6:=V;subst o;simp only[r,d,ae g];refine iG.gA (D.aT.ext P) λ_=>?_;simp only[h];rw[ae V,an V]
 have T:sA w 0 d:=by
  refine⟨λk B=>by simp only[d,an B];rfl,λg p s=>by simp[d]at s,λg j i z=>by simp[d]at z,by simp[d];omega⟩
 have gG:∀b,b<e.size->h b=0:=λb l=>an l
 clear_value h d r
 have ag:=s.len
 refine dU (n:=q.params.length) V (λk M=>∃a C L,Hr e [m.size] a M/\jt a M f.size C L/\sA w k L) ⟨h,r,d,⟨K.trans P,gG,λb l=>by simp at l;subst l;exact⟨V,gG _ V⟩⟩,R,T⟩ ?_
 rintro k M S μ B ⟨a,C,L,i,H,A⟩ Z
 refine dit (λU=>?_) λU=>?_
 .let⟨y,X⟩:=cG q.params k
  have N:∀(u:Int){g:E},J M g->aN cp 264 [vp f.size 0,vi y,vi u,vi (-1:Int)] g λ_ c=>eG [m.size] g c/\S (cT ((k:Int)+1)) c/\μ (cT ((k:Int)+1)) c<μ k M:=λu g x=>
   (AI (H.ext x) (λY Q=>by rw[A.len Y Q];omega) y u (-1)).mono λ_ c⟨Y,ab,j,Q⟩=>⟨(i.gY x).dv j,Z V _ ⟨Y,ab,_,(i.gY x).to j,Q,(A.Ox y u V).DB V⟩⟩
  have G:∀{g:E},J M g->af g p.D (p.off+Int.toNat (k:Int)*1)=some (vi y):=λx=>(s.ext (v.trans (i.ext.trans x))).aF X
  refine⟨V,V,y,G (J.az _),λ_=>?_,λ_=>⟨V,V,y,G (J.az _),N 0 (J.az _)⟩⟩
  refine(dw (F.ext (v.trans i.ext)) (k:Int)).then λb M2 _ x=>⟨λj z=>x.same j (i.box j z).1,_,rfl,λ_=>⟨V,V,y,G x,N 1 x⟩,λ_=>⟨V,V,y,G x,N 0 x⟩⟩
 .have o:k=q.params.length:=V
  subst o
  exact⟨f.size,rfl,v.trans i.ext,a,C,L,λb l=>i.gG b V,H,A⟩
end
section
def jt.Vl{b:Nat->Nat}{m f:E}{q:Nat}{a:Nat->O}{L:Nat->List Int}(h:jt b m q a L)(gG:∀c,c<f.size->b c=0){k p:Nat}(l:k<7)(c:p<(L k).length):f.size<=(a k).D/\(a k).D<m.size/\b (a k).D=k+1:=by
 have g:=h.p7 k l;have o:(L k).map Ce.i≠[]:=λe=>by simp at e;rw[e]at c;simp at c
 let⟨j,d⟩:=g.D λi=>o (g.Dj i).1;refine⟨Hk λn=>?_,j,d⟩;rw[gG _ n]at d;omega
def Hr.Te{c m a g:E}{d:Nat->Nat}{o1 o2:Obj}(j:J c m)(gG:∀b,b<c.size->d b=0)(k:∀b,m.size<=b->d b=0)(e:a=m.push o1)(h:g=a.push o2):Hr c [a.size,m.size] d g:=by
 let⟨l,i⟩:=dD e h;subst e;exact⟨j.trans l,gG,λb f=>⟨i b f,k b (by simp at f;omega)⟩⟩
section
variable{e:Nat->Nat}{m b:E}{g:Nat}{p:Nat->O}{L:Nat->List Int}{f:List bz}{l:List gP}{h:Nat}{d r a o:O}{x:cU}{c:Prop}{q:Nat}
def P3(hx:J b m)(gG:∀u,u<b.size->e u=0)(K:jt e m g p L)(N:sA f h L)(hn:h<=10^12)(hN:eL b d r f l)(ha:ap b a x.args)(hf:Ur f q c h x)(an:14<=x.op):
 aN cp 266 [vp g 0,.agg #[O.v d,O.v r],oZ x a o] m (Ca e m g (sA f h)):=by
 apply xp (g,0)
 simp -zeta only[aC,aB,bU]
 intro P Q
 have st:=Hr.Te (a:=P) (g:=Q) hx gG K.new rfl rfl
 have x2:J m Q:=(dD (a:=P) (c:=Q) rfl rfl).1
 have W:To e m e Q:=dp.eH _ x2 K.new
 clear_value Q
 clear_value P
 have D:=K.ext x2
 have aA:=ha.len
 have az:=hf.lK (Or.inl an)
 let⟨A,hy⟩:=cG x.args 0
 let⟨G,y1⟩:=hf.args A (aq hy)
 have U:=N.len
 have n1:=U 1 bh;have n3:=U 3 bh;have n4:=U 4 bh;have n5:=U 5 bh
 have l3:=D.len (k:=3) bh;have l5:=D.len (k:=5) bh
 let⟨B,ae⟩:=cG (L 3) A.toNat
 let⟨v,ag⟩:=cG (L 4) A.toNat
 let⟨tk,au⟩:=cG (L 5) A.toNat
 refine⟨bh,V,A,(ha.ext st.ext).aF hy,?_⟩
 refine⟨λM=>0<=B/\∃R af s,s.length=h/\To e m R M/\Hr b [P.size,m.size] R M/\jt R M g af (up L 1 s),?_,?_⟩
 .refine⟨_,D.cg (k:=3) bh,G,V,B,D.aF bh V ae,λ_=>.no W,λw=>?_⟩
  simp only[bL]at w
  refine⟨λ_=>⟨_,D.cg (k:=5) bh,G,V,tk,D.aF bh V au,λ_=>.no W,λ_=>?_⟩,λ_=>?_⟩<;>
  .refine(uI D N hn G y1).mono λax m3⟨u,R,ac,H,y⟩=>⟨st.dv H,u,ac,λC=>.no (W.trans H),λC=>?_⟩
   obtain⟨af,z,t,s,hl,rfl⟩:=y (by simpa using C)
   exact⟨V,R,af,s,hl,W.trans H,st.to H,t⟩
 .rintro m3 ⟨al,aa,F,s,hl,H,S,y⟩
  have e3:(up L 1 s) 3=L 3:=rfl
  have e4:(up L 1 s) 4=L 4:=rfl
  have e5:(up L 1 s) 5=L 5:=rfl
  have e1:(up L 1 s) 1=s:=rfl
  have av:=y.len (k:=3) bh
  rw[e3]at av
  let⟨f0,f1⟩:=N.O6 A.toNat B v ae ag al
  refine⟨_,y.cg (k:=3) bh,G,V,B,y.aF bh (by rw[e3];omega) ae,?_⟩
  have A1:=y.Vl (f:=b) S.gG (k:=1) (p:=A.toNat) bh (by rw[e1];omega)
  have A5:=y.Vl (f:=b) S.gG (k:=5) (p:=A.toNat) bh (by rw[e5];omega)
  have hS:∀u∈[(F 1).D,(F 5).D],u<m3.size:=λu C=>by simp at C;omega
  have ak:∀{M:E},J b M->Le b (bG [(F 1).D,(F 5).D] M):=λxx=>(zV b).trans (xx.bG λu C=>Or.inr (by simp at C;omega))
  refine(dJ hS (hN.bo.le (ak S.ext)) hN.types B).mono λax m4⟨aj,fl,ac,hs,am,x4⟩=>⟨λu C=>x4.same u (S.box u C).1,aj,ac,?_⟩
  subst am
  have c4:To e m aa m4:=H.trans (dp.eH _ x4 y.new)
  have aE:=hs.len
  have f3:=FC hN.types B
  refine dU (n:=(cD f B).length) V (λz M=>∃s,s.length=h/\To e m aa M/\Hr b [P.size,m.size] aa M/\jt aa M g F (up L 1 s)/\Fz [(F 1).D,(F 5).D] m4 M) ⟨s,hl,c4,(S.gY x4),(y.ext x4),Fz.az _ _⟩ ?_
  rintro z M ay μ aD ⟨w,Z,X,ab,t,ad⟩ ai
  have ao:=hs.le (ad.df λ_ K=>K)
  refine⟨λah=>?_,λah=>?_⟩
  .simp only[ar]at ah
   let⟨aw,hz⟩:=cG (cD f B) z
   refine⟨V,V,aw,(ao.le (bA _ _)).aF hz,λ_=>?_,λ_=>ai V _ ⟨w,Z,X,ab,t,ad⟩⟩
   have E3:(up L 1 w) 4=L 4:=rfl
   have E1:(up L 1 w) 1=w:=rfl
   have G1:=t.cg (k:=1) bh
   have G4:=t.cg (k:=4) bh
   have l4:=t.len (k:=4) bh
   have l1:=t.len (k:=1) bh
   rw[E3]at l4;rw[E1]at l1
   have V4:=t.aF (k:=4) bh (by rw[E3];omega) ag
   have ew:cT (v+(z:Int))=v+z:=aQ V V
   let⟨T,hw⟩:=cG w ((v+(z:Int)).toNat)
   let⟨wr,Y,I⟩:=t.put (k:=1) (i:=(v+(z:Int)).toNat) bh (by rw[E1];omega) (cT (T+1))
   refine⟨_,G1,_,G4,G,V,v,V4,_,G1,_,G4,G,V,v,V4,?_⟩
   rw[ew]
   refine⟨V,V,T,t.aF (k:=1) bh (by rw[E1];omega) hw,V,V,wr,ab.dv I,ai V _ ⟨w.set (v+(z:Int)).toNat (cT (T+1)),by simp[Z],X.trans I,ab.to I,?_,ad.ah (Or.inl aL) _ _⟩⟩
   have:up (up L 1 w) 1 ((up L 1 w) 1|>.set (v+(z:Int)).toNat (cT (T+1)))=up L 1 (w.set (v+(z:Int)).toNat (cT (T+1))):=by funext j;simp only[up];split<;>rfl
   rw[this]at Y;exact Y
  .refine⟨λ_=>?_,λ_=>.O9 X t (N.aR Z)⟩
   have T:(up L 1 w) 5=L 5:=rfl
   have aw:=t.len (k:=5) bh
   rw[T]at aw
   let⟨wr,Y,I⟩:=t.put (k:=5) (i:=A.toNat) bh (by rw[T];omega) (aj.len:Int)
   exact⟨_,t.cg (k:=5) bh,G,V,wr,ab.dv I,.O9 (X.trans I) Y ((N.aR Z).Z9 (by rw[T];simp[n5]))⟩
def JO(hx:J b m)(gG:∀j,j<b.size->e j=0)(Q:jt e m g p L)(hi:sA f h L)(hn:h<=10^12)(hN:eL b d r f l)(B:ap b a x.args)(D:Ur f l.length c h x):
 aN cp 268 [vp g 0,.agg #[O.v d,O.v r],oZ x a o] m (Ca e m g (sA f h)):=by
 apply tC (g,0)
 simp -zeta only[aC,aB,bU]
 intro K H
 have st:=Hr.Te (a:=K) (g:=H) hx gG Q.new rfl rfl
 have x2:J m H:=(dD (a:=K) (c:=H) rfl rfl).1
 have c2:To e m e H:=dp.eH _ x2 Q.new
 clear_value H
 clear_value K
 have aa:=B.len
 have Z:∀{M:E},J b M->At M d r a o f l x:=λxx=>⟨hN.le xx.le,B.ext xx,D.call⟩
 refine dU (n:=x.args.length) (aa▸B.gT) (λ_ M=>∃t T N,sA f h N/\To e m t M/\Hr b [K.size,m.size] t M/\jt t M g T N) ⟨e,p,L,hi,c2,st,(Q.ext x2)⟩ ?_
 rintro ab M ag μ ah ⟨S,af,Y,v,P,C,s⟩ ad
 refine⟨λF=>?_,λF=>?_⟩
 .simp only[ar]at F
  let⟨I,G⟩:=cG x.args ab
  let⟨W,X⟩:=D.args I (aq G)
  have N0:=v.len 0 bh
  refine⟨_,s.cg (k:=0) bh,?_⟩
  refine(mJ (Z C.ext) (s.nJ (k:=0) bh V) (by rw[N0];exact D.args) (h:=ab) V).mono λU m4⟨j,z,q⟩=>⟨λj u=>q.same j (C.box j u).1,j,z,λ_=>⟨V,V,I,(B.ext (C.ext.trans q)).aF G,?_⟩,λ_=>ad V _ ⟨S,af,Y,v,P.trans (dp.eH _ q s.new),C.gY q,s.ext q⟩⟩
  have w:=C.gY q
  have y:To e m S m4:=P.trans (dp.eH _ q s.new)
  refine(uI (s.ext q) v hn W X).mono λU m5⟨j,t,z,A,h5⟩=>⟨w.dv A,j,z,λu=>.no (y.trans A),λu=>?_⟩
  obtain⟨T,N,R,ac,hl,rfl⟩:=h5 (by simpa using u)
  exact ad V _ ⟨t,T,_,v.aR hl,y.trans A,w.to A,R⟩
 .refine dU (n:=x.args.length) (aa▸B.gT) (λ_ t=>J M t) (J.az _) ?_
  rintro T M4 I4 μ4 ai q ac
  have w:=C.gY q
  have y:To e m S M4:=P.trans (dp.eH _ q s.new)
  have t:=s.ext q
  refine⟨λF=>?_,λF=>⟨λae=>?_,λ_=>.O9 y t v⟩⟩
  .simp only[ar]at F
   let⟨I,G⟩:=cG x.args T
   let⟨W,X⟩:=D.args I (aq G)
   refine(nQ (Z w.ext) (T:Int)).mono λU m5⟨j,z,A⟩=>⟨λj u=>A.same j (w.box j u).1,j,z,λ_=>⟨V,V,I,(B.ext (w.ext.trans A)).aF G,?_⟩,λ_=>ac V _ (q.trans A)⟩
   refine(sJ (t.ext A) v hn W X).mono λU m6⟨j,z,N⟩=>⟨λj u=>N.same j (A.lt (w.box j u).1),j,z,λ_=>.no (y.trans (dp.eH _ (A.trans N) t.new)),λ_=>ac V _ ((q.trans A).trans N)⟩
  .simp only[ar]at ae
   have I:=D.bZ
   have u:=v.len 5 bh
   have N:=t.len (k:=5) bh
   have z:cT (x.bZ -1)=x.bZ -1:=aQ V V
   let⟨G,A⟩:=cG (Y 5) ((x.bZ -1).toNat)
   let⟨wr,R,j⟩:=t.put (k:=5) (i:=(x.bZ -1).toNat) bh V (-1)
   rw[z]
   exact⟨_,t.cg (k:=5) bh,V,V,G,t.aF (k:=5) bh V A,λ_=>.no y,λ_=>⟨_,t.cg (k:=5) bh,V,V,wr,w.dv j,.O9 (y.trans j) R (v.Z9 (by simp[u]))⟩⟩
end
end
section
variable{M:E}
def NK(a:Nat->Nat)(m:E):List Nat:=(List.range m.size).filter λb=>a b≠0
def PU(c:Nat->Nat)(m:E):∀b∈NK c m,b<m.size:=λb a=>by simp[NK]at a;exact a.1
def Ss{d:Nat->Nat}{m a:E}(gG:∀b,b<a.size->d b=0)(e:J a M):Le a (bG (NK d m) M):=
 (zV a).trans (e.bG λb c=>Or.inr (by
  simp[NK]at c;exact Hk λh=>c.2 (gG b h)))
def dp.ZK{a l:Nat->Nat}{m f:E}(h:To a f l M)(k:∀b,m.size<=b->a b=0):Le (bG (NK a m) f) M:=λb o v j=>by
 let⟨d,e⟩:=eQ.1 j;have i:=mf e;have g:a b=0:=by
  rcases aW b m.size with c|c
  .simp[NK]at d;exact d c
  .exact k b c
 rw[aJ (h.eB b i (by simp[g]))];exact e
def Rf(c:List bz)(h:List gP)(i:Prop)(b:Bk):Prop:=∀(e:Nat->Nat)(m a:E)(d:Nat)(l:Nat->O)(L:Nat->List Int)(n k:Nat)(g r t:O),J a m->(∀b,b<a.size->e b=0)->jt e m d l L->sA c n L->WB c h.length i n b->n+4*b.w<=10^12->k<=n->eL a g r c h->eP a t b.aD->
 aN cp 326 [vp d 0,.agg #[O.v g,O.v r],.agg #[O.v t,vi b.aS],vi k] m (Ca e m d λf=>(∀j,j<6->(f j).length=k)/\(f 6).length<=10^12)
def WC(m:E)(n:Nat)(v:Value)(c:E):Prop:=∃(a:Nat)(d:Bool),v=.tuple #[vp a 0,vb d]/\J m c/\(d=true->∃e f L,(∀b,b<m.size->e b=0)/\jt e c a f L/\∀j,j<6->(L j).length=n)
def pZ.same{c:List bz}{n b:Nat}{L a:Nat->List Int}(h:pZ c n b L)(e:∀k,k<7->a k=L k):pZ c n b a:=
 ⟨λk d=>by rw[e k V];exact h.len k d,by rw[e 2 bh];exact h.WZ,by rw[e 3 bh,e 4 bh];exact h.O6,by rw[e 6 bh];exact h.cR⟩
section
variable{o:Nat->Nat}{m g:E}{j:Nat}{f:Nat->O}{L:Nat->List Int}{e:List bz}{h:List gP}{b:Nat}{d r a l:O}{x:cU}{c:Prop}
def Q7(hx:J g m)(aE:jt o m j f L)(hi:sA e b L)(P:eL g d r e h)(ha:ap g a x.args)(hk:nF g l x.bD)(hw:WS e h.length c b x)(t:b+4*x.w<=10^12){ab:Nat}{p:Bk}(aa:x.bD[ab]? =some p)(ih:Rf e h c p):
 aN cp 307 [vp j 0,.agg #[O.v d,O.v r],oZ x a l,vi ab] m (WC m b):=by
 apply yP (j,0)
 simp -zeta only[aC,aB,bU]
 intro I D
 let⟨x2,hl⟩:=dD (a:=I) (c:=D) rfl rfl
 clear_value D
 clear_value I
 have h2:=aE.ext x2
 have ao:=hi.len
 have l0:=h2.len (k:=0) bh
 have n0:=ao 0 bh
 have aY:=av aa
 have aZ:=hk.len
 have aX:=wK aa
 have a2:=cU.mu x
 have Y:=hw.bD ab p aa
 have w:=hx.trans x2
 let⟨ae,ht,f0,f1⟩:=hk.aF aa
 refine⟨_,h2.cg (k:=0) bh,?_⟩
 refine(MP h2 (λu hj=>by
  by_cases A:u<6
  .rw[ao u A];omega
  .have:u=6:=V;subst this;exact hi.cR)).mono λv m3⟨C,z,H,K,aR,s,q,h3,y⟩=>⟨H.U0 hl (J.az _)|>λ_=>λp t=>H.same p (hl p t),(C,0),z,?_⟩
 have R:sA e b s:=hi.same y
 have ai:Hr D [I.size,m.size] K m3:=⟨H,q,λp t=>⟨H.lt (hl p t),q p (hl p t)⟩⟩
 have iI:∀(M:E)(ac:Nat->Nat)(ah:Nat->O)(X:Nat->List Int)(F:Nat),Hr D [I.size,m.size] ac M->jt ac M C ah X->sA e F X->WB e h.length c F p->F<=b+3->b<=F->
  aN cp 326 [vp C 0,.agg #[O.v d,O.v r],.agg #[O.v ae,vi p.aS],vi ((f 0).len:Int)] M λv m'=>eG [I.size,m.size] M m'/\∃S:Bool,v=vb S/\WC m b (.tuple #[vp C 0,vb S]) m':=λM ac ah X F U aA an aF a1 aH=>by
  have e0:(f 0).len=b:=V
  rw[e0]
  refine(ih ac M D C ah X F b d r ae U.ext U.gG aA an aF V aH (P.le w.le) (ht.le w.le)).mono λv m'⟨S,G,z,c5,N⟩=>⟨U.dv c5,S,z,C,S,rfl,x2.trans (U.to c5).ext,λaJ=>?_⟩
  obtain⟨T,W,A,h7,_⟩:=N aJ
  exact⟨G,T,W,λp t=>(U.to c5).gG p (x2.lt t),A,h7⟩
 refine⟨λB=>?_,λB=>?_⟩
 .simp only[aG]at B
  have ax:=P.bo.le w.le
  obtain⟨aW,_⟩:=hw.fe.all B
  refine(iu (PU K m3) (ax.le H.le) P.types x.bP).mono λv m4⟨s4,l4,z,aK,e4,x4⟩=>⟨λp t=>x4.same p (ai.box p t).1,s4,z,?_⟩
  subst e4
  let⟨q,aw⟩:=cG (cz e x.bP) ab
  have ay:=aK.le (bA _ _)
  have l4:=ay.len
  refine⟨V,V,q,ay.aF aw,?_⟩
  have ad:=ai.gY x4
  have h4:=h3.ext x4
  refine(dJ (PU K m4) (ax.le (Ss ad.gG ad.ext)) P.types q).mono λv m5⟨s5,l5,z,az,e5,x5⟩=>⟨λp t=>x5.same p (ad.box p t).1,s5,z,?_⟩
  subst e5
  have ak:=ad.gY x5
  have N:=h4.ext x5
  have aU:=hw.fe.lK (Or.inr (Or.inr B))
  let⟨y,hy⟩:=cG x.args 0
  let⟨y0,y1⟩:=hw.fe.args y (aq hy)
  have aV:=ha.len
  have N5:=R.len
  have a3:=N.len (k:=3) bh
  have F:=N5 3 bh;have n4:=N5 4 bh
  have ag:∀{M:E},J D M->af M a.D (a.off+Int.toNat (0:Int)*1)=some (vi y):=λxx=>(ha.ext (w.trans xx)).aF hy
  let⟨w6,A,c6⟩:=N.put (k:=3) (i:=y.toNat) bh V q
  refine⟨_,N.cg (k:=3) bh,V,V,y,ag ak.ext,y0,V,w6,?_⟩
  intro m6
  have al:=ak.to c6
  let⟨w7,h7,c7⟩:=A.put (k:=4) (i:=y.toNat) bh (by show _<(s 4).length;omega) ((f 0).len:Int)
  have aL:=A.len (k:=4) bh
  have aD:up s 3 ((s 3).set y.toNat q) 4=s 4:=rfl
  rw[aD]at aL
  refine⟨ak.dv c6,_,A.cg (k:=4) bh,V,V,y,ag al.ext,y0,V,w7,?_⟩
  intro m7
  have aT:=al.to c7
  have F3:=FC P.types q
  have e0:((f 0).len:Int)=b:=V
  have i7:pZ e b (b+(cD e q).length) (up (up s 3 ((s 3).set y.toNat q)) 4 ((s 4).set y.toNat ((f 0).len:Int))):=by
   refine⟨λu hj=>?_,λv aO hp=>R.WZ v aO (by simpa[up]using hp),λv c ar hc hf h1=>?_,by simpa[up]using R.cR⟩
   .rcases u with _|_|_|_|_|_|u<;>first|omega|(simp[up,N5])
   .have Q:((s 3).set y.toNat q)[v]? =some c:=by simpa[up]using hc
    have Z:((s 4).set y.toNat ((f 0).len:Int))[v]? =some ar:=by simpa[up]using hf
    by_cases ev:y.toNat=v
    .subst ev;rw[dx V]at Q Z;simp at Q Z;subst Q;omega
    .rw[cv ev]at Q Z;have:=R.O6 v c ar Q Z h1;omega
  have a0:=az.len
  refine⟨al.dv c7,?_⟩
  refine dU (n:=(cD e q).length) V (λu M=>∃G T W,pZ e (b+u) (b+(cD e q).length) W/\To K m5 G M/\Hr D [I.size,m.size] G M/\jt G M C T W) ⟨K,_,_,i7,c6.trans c7,aT,h7⟩ ?_
  rintro u M an μ hj ⟨aQ,aS,L8,Z,c8,C,au⟩ aM
  refine dit (λaI=>?_) λaI=>?_
  .let⟨am,hz⟩:=cG (cD e q) u
   refine⟨V,V,am,(az.le (c8.ZK h4.new)).aF hz,V,V,y,ag C.ext,?_⟩
   exact(AI au (λaP Q=>by rw[Z.len aP Q];omega) am 0 y).mono λv M'⟨G,T,Q,h9⟩=>⟨C.dv Q,aM V _ ⟨G,T,_,by rw[<-dj];exact Z.Ox am 0 V,c8.trans Q,C.to Q,h9⟩⟩
  .have Q:u=(cD e q).length:=V
   subst Q
   rw[Kw B aw]at Y
   exact⟨V,V,ae,(w.trans C.ext).af f0,p.aS,(w.trans C.ext).af f1,iI M aQ aS L8 _ C au Z Y V V⟩
 .simp only[aj]at B
  rw[Kx B]at Y
  exact⟨V,V,ae,(w.trans H).af f0,p.aS,(w.trans H).af f1,iI m3 K aR s b ai h3 R Y V V⟩
end
end
section
def _root_.Go.Vc.VE{n b:Nat}(g:b<=n)(o:n<=9223372036854775807){m:E}{e:(Int->E->Prop)->(Int->E->Nat)->Int->E->Prop}(Q:Nat->E->Prop)(f:Q b m)
 (h:∀(k:Nat)(a:E)(I:Int->E->Prop)(μ:Int->E->Nat),b<=k->k<=n->Q k a->
  (k<n->∀c,Q (k+1) c->I (cT ((k:Int)+1)) c/\μ (cT ((k:Int)+1)) c<μ k a)->e I μ k a):
 ∃(I:Int->E->Prop)(μ:Int->E->Nat),I b m/\∀i a,I i a->e I μ i a:=by
 refine⟨λi c=>∃k:Nat,i=k/\b<=k/\k<=n/\Q k c,λi _=>(n -i).toNat,⟨b,rfl,ad _,g,f⟩,?_⟩
 rintro i a ⟨k,rfl,j,l,p⟩
 refine h k a _ _ j l p λd c q=>?_
 rw[kC d o]
 exact⟨⟨k+1,rfl,V,d,q⟩,Dr d⟩
section
variable{b:Nat->Nat}{m f:E}{e:Nat}{o:Nat->O}{L:Nat->List Int}{g:List bz}{l:List gP}{h:Nat}{d r i j:O}{x:cU}{c:Prop}
def MN(hx:J f m)(gG:∀p,p<f.size->b p=0)(t:jt b m e o L)(hi:sA g h L)(hN:eL f d r g l)(ha:ap f i x.args)(hk:nF f j x.bD)(P:WS g l.length c h x)(q:h+4*x.w<=10^12)(au:x.op=7\/x.op=8)(ih:∀p∈x.bD,Rf g l c p):
 aN cp 267 [vp e 0,.agg #[O.v d,O.v r],oZ x i j] m (Ca b m e (sA g h)):=by
 apply vf (e,0)
 simp -zeta only[aC,aB,bU]
 intro X I
 have st:=Hr.Te (a:=X) (g:=I) hx gG t.new rfl rfl
 let⟨Q,D⟩:=dD (a:=X) (c:=I) rfl rfl
 clear_value I
 clear_value X
 have al:=hk.len
 have aG:=ha.len
 have aE:=P.fe.lK V
 have am:0<x.bD.length:=by
  rcases au with U|h8
  .have:=P.fe.Kc U;omega
  .exact(P.fe.all h8).2
 have N:∀{M:E},J I M->To b m b M:=λz=>dp.eH _ (Q.trans z) t.new
 have ag:∀(M:E)(H:Nat)(p:Bk),J I M->x.bD[H]? =some p->aN cp 307 [vp e 0,.agg #[O.v d,O.v r],oZ x i j,vi H] M (WC M h):=λM H p z ah=>
  Q7 (hx.trans (Q.trans z)) (t.ext (Q.trans z)) hi hN ha hk P q ah (ih p (aq ah))
 refine⟨λM=>J I M,⟨λ_=>?_,λ_=>J.az _⟩,?_⟩
 .let⟨y,u⟩:=cG x.args 0
  let⟨w,A⟩:=P.fe.args y (aq u)
  refine⟨bh,V,y,(ha.ext st.ext).aF u,?_⟩
  exact(sJ (t.ext Q) hi V w A).mono λZ Y⟨p,s,v⟩=>⟨λp q=>v.same p (D p q),p,s,λ_=>.no (N v),λ_=>v⟩
 .intro Y v
  let⟨b0,ak⟩:=dB am
  refine(ag Y 0 b0 v ak).mono λZ m4⟨ac,ay,s,R,h1⟩=>⟨λp q=>R.same p (v.lt (D p q)),(ac,0),ay,s,λ_=>.no (N (v.trans R)),λab=>?_⟩
  let⟨az,ad,L1,ai,h1,n1⟩:=h1 (by simpa using ab)
  have av:=n1 1 bh;have aw:=n1 5 bh
  refine VE (n:=x.bD.length) (b:=1) V (al▸hk.gT) (λ_ M=>J m4 M) (J.az _) ?_
  rintro H M aD μ aF aH S ax
  have y:=(v.trans R).trans S
  have A:=h1.ext S
  refine⟨λW=>?_,λW=>?_⟩
  .simp only[ar]at W
   let⟨p,q⟩:=cG x.bD H
   refine(ag M H p y q).mono λZ m6⟨aa,aj,s,u,C⟩=>⟨λp q=>u.same p (y.lt (D p q)),(aa,0),aj,s,λ_=>.no (N (y.trans u)),λab=>?_⟩
   let⟨aL,aM,L2,aK,C,n2⟩:=C (by simpa using ab)
   have ao:=n2 1 bh;have aI:=n2 5 bh
   have B:=A.ext u
   refine⟨_,B.cg (k:=1) bh,_,C.cg (k:=1) bh,?_⟩
   refine(qG (B.nJ (k:=1) bh V) (C.nJ (k:=1) bh V)).mono λZ m7⟨F,s,_,w⟩=>⟨λp q=>w.same p (u.lt (y.lt (D p q))),F,s,λ_=>.no (N (y.trans (u.trans w))),λ_=>?_⟩
   have T:=B.ext w
   have U:=C.ext w
   refine⟨_,T.cg (k:=5) bh,_,U.cg (k:=5) bh,?_⟩
   refine(qG (T.nJ (k:=5) bh V) (U.nJ (k:=5) bh V)).mono λZ m8⟨F,s,_,K⟩=>⟨λp q=>K.same p (w.lt (u.lt (y.lt (D p q)))),F,s,λ_=>.no (N (y.trans (u.trans (w.trans K)))),λ_=>?_⟩
   exact ax V _ (S.trans (u.trans (w.trans K)))
  .let w:Nat->Nat:=λp=>if p<Y.size then b p else az p
   have uu:=Q.trans v
   have z:=uu.trans (R.trans S)
   have z4:=R.size;have zM:=S.size;have T:=uu.size
   have K:∀p,p<Y.size->w p=b p:=λp q=>an q
   have H0:jt w M e o L:=by
    refine⟨λp q=>?_,by rw[K _ (aO t.box.lt T)];exact t.gU,(t.ext z).box,λu F=>(t.p7 u F).eB (λB=>z.same _ ((t.p7 u F).D B).1) λB=>K _ (aO ((t.p7 u F).D B).1 T)⟩;simp only[w];rw[ae V];exact A.new p q
   have aa:∀u,u<7->iG w M aA 1 (u+1) (ad u) ((L1 u).map Ce.i):=λu F=>(A.p7 u F).eB (λ_=>rfl) λB=>by
    have C:=((A.p7 u F).D B).2;simp only[w];rw[ae λW=>by rw[ai _ W]at C;omega]
   have c3:To b m w M:=⟨z.size,λp q=>K p (aO q T),H0.new,λp q _=>z.same p q⟩
   have aj:Hr f [X.size,m.size] w M:=⟨st.ext.trans y,λp q=>by rw[K p (aO (aO q hx.size) T)];exact gG p q,λp q=>⟨y.lt (D p q),by rw[K p (v.lt (D p q))];exact(st.box p q).2⟩⟩
   clear_value w
   refine⟨_,A.cg (k:=1) bh,?_⟩
   let⟨w5,h5,c5⟩:=H0.W3 (k:=1) bh (aa 1 bh)
   refine⟨w5,?_⟩
   intro m9
   have ao:ac≠e:=λs=>by
    have h8:=A.gU;rw[s,ai _ (aO t.box.lt T)]at h8;omega
   have G:af m9 ac 5=some (O.v (ad 5)):=(aJ (bd _ _ _ _ ao) _).trans (A.cg (k:=5) bh)
   have A5:iG w m9 aA 1 (5+1) (ad 5) ((L1 5).map Ce.i):=by
    refine(aa 5 bh).eB (λB=>bd _ _ _ _ λs=>?_) λ_=>rfl;have:=((aa 5 bh).D B).2;rw[s,H0.gU]at this;omega
   let⟨w6,h6,c6⟩:=h5.W3 (k:=5) bh A5
   exact⟨aj.dv c5,_,G,w6,(aj.to c5).dv c6,.O9 ((c3.trans c5).trans c6) h6 ((hi.aR av).Z9 aw)⟩
end
end
section
section
variable{b:Nat->Nat}{m g:E}{f:Nat}{l:Nat->O}{L:Nat->List Int}{e:List bz}{h:List gP}{n:Nat}{d r a j:O}{x:cU}{c:Prop}
def GH(hx:J g m)(gG:∀o,o<g.size->b o=0)(aa:jt b m f l L)(w:sA e n L)(U:eL g d r e h)(D:ap g a x.args)(hk:nF g j x.bD)(F:WS e h.length c n x)(u:n+4*x.w<=10^12)(ih:∀o∈x.bD,Rf e h c o):
 aN cp 244 [vp f 0,.agg #[O.v d,O.v r],oZ x a j] m (Ca b m f (sA e (n+dn x))):=by
 apply xr (f,0)
 simp -zeta only[aC,aB,bU]
 intro R X
 have S:=Hr.Te (a:=R) (g:=X) hx gG aa.new rfl rfl
 have x2:J m X:=(dD (a:=R) (c:=X) rfl rfl).1
 clear_value X
 clear_value R
 have h2:=aa.ext x2
 have ao:=D.len
 have ar:=cU.mu x
 have N0:=w.len 0 bh
 refine⟨_,h2.cg (k:=0) bh,?_⟩
 refine(nX (U.le S.ext.le) (h2.nJ (k:=0) bh V) (D.ext S.ext) (hk.le S.ext.le) V (λo _=>nm o)).mono λA m3⟨G,t,_,x3⟩=>⟨λo u=>x3.same o (S.box o u).1,G,t,?_⟩
 have s:=S.gY x3
 have C:=h2.ext x3
 have P:To b m b m3:=dp.eH _ (x2.trans x3) aa.new
 have lK:14<=x.op\/x.op=7\/x.op=8->∃y:Int,x.args[0]? =some y/\0<=y/\y<(n:Int):=λho=>by
  have:=F.fe.lK ho;let⟨y,K⟩:=cG x.args 0;exact⟨y,K,F.fe.args y (aq K)⟩
 refine⟨λok M=>∃v,To b m v M/\Hr g [R.size,m.size] v M/\(ok=true->∃Z N,jt v M f Z N/\sA e n N),⟨λai=>?_,λau=>⟨λaj=>?_,λav=>⟨λak=>?_,λaw=>⟨λh7=>?_,λn7=>?_⟩⟩⟩⟩,?_⟩
 .simp only[aG]at ai
  let⟨y,K,B,W⟩:=lK V
  have ac:=F.fe.lK V
  have Y:∀{M:E},J g M->af M a.D (a.off+Int.toNat (0:Int)*1)=some (vi y):=λT=>(D.ext T).aF K
  refine⟨bh,V,y,Y s.ext,?_⟩
  refine(sJ C w V B W).mono λA H⟨o,t,q⟩=>⟨λo u=>q.same o (s.box o u).1,o,t,?_⟩
  have p:=C.ext q
  have z:=s.gY q
  have N1:=w.len 1 bh
  have l1:=p.len (k:=1) bh
  let⟨ab,ad⟩:=cG (L 1) y.toNat
  let⟨wr,Q,I⟩:=p.put (k:=1) (i:=y.toNat) bh V (cT (ab+1))
  exact⟨_,p.cg (k:=1) bh,bh,V,y,Y z.ext,_,p.cg (k:=1) bh,bh,V,y,Y z.ext,B,V,ab,p.aF bh V ad,B,V,wr,z.dv I,b,(P.trans (dp.eH _ q C.new)).trans I,z.to I,λ_=>⟨l,_,Q,w.aR (by simp[N1])⟩⟩
 .simp only[aG]at aj
  let⟨y,K,B,W⟩:=lK V
  have ac:=F.fe.lK V
  refine⟨bh,V,y,(D.ext s.ext).aF K,?_⟩
  refine(uI C w V B W).mono λA H⟨o,v,t,q,p⟩=>⟨s.dv q,o,t,v,P.trans q,s.to q,λu=>?_⟩
  obtain⟨Z,N,Q,ab,Y,rfl⟩:=p u
  exact⟨Z,_,Q,w.aR Y⟩
 .simp only[bQ,aG]at ak
  refine(P3 s.ext s.gG C w V U D F.fe V).mono λA H⟨o,v,t,q,p⟩=>⟨s.dv q,o,t,v,P.trans q,s.to q,p⟩
 .simp only[bQ,aG]at h7
  refine(MN s.ext s.gG C w U D hk F u h7 ih).mono λA H⟨o,v,t,q,p⟩=>⟨s.dv q,o,t,v,P.trans q,s.to q,p⟩
 .refine(JO s.ext s.gG C w V U D F.fe).mono λA H⟨o,v,t,q,p⟩=>⟨s.dv q,o,t,v,P.trans q,s.to q,p⟩
 .rintro ok M ⟨ax,q,z,p⟩
  refine⟨λ_=>.no q,λam=>?_⟩
  let⟨ay,L4,p,i4⟩:=p (by simpa using am)
  have gr:∀{M':E}(G Y:Int),J M M'->dn x=1->aN cp 264 [vp f 0,vi G,vi Y,vi (-1:Int)] M' λ_ m'=>eG [R.size,m.size] M' m'/\Ca b m f (sA e (n+dn x)) (vb true) m':=λG Y T hd=>
   (AI (p.ext T) (λH B=>by rw[i4.len H B];omega) G Y (-1)).mono λ_ m'⟨v,Z,I,Q⟩=>⟨(z.gY T).dv I,.O9 ((q.trans (dp.eH _ T p.new)).trans I) Q (by rw[hd];exact(i4.Ox G Y V).DB V)⟩
  refine(jO x.op M).mono λA m5⟨o,t,ab,B⟩=>⟨λo u=>B.same o (z.box o u).1,o,t,λag=>⟨λ_=>gr G 1 B (by have:=tc x o ab;rw[an ag]at this;exact this),λ_=>?_⟩,λal=>?_⟩
  .refine(jO x.op m5).mono λA m6⟨N,t,W,H⟩=>⟨λo u=>H.same o (B.lt (z.box o u).1),N,t,λad=>gr 0 0 (B.trans H) (by have:=tc x N W;rw[an ad]at this;exact this),λac=>?_⟩
   have:=W.2 (ab.1 ag);rw[this]at ac;simp at ac
  .have ah:=tc x o ab
   rw[ae (by simp[al])]at ah
   exact(jO x.op m5).mono λA m6⟨N,t,W,H⟩=>⟨λo u=>H.same o (B.lt (z.box o u).1),N,t,λad=>gr 0 0 (B.trans H) (by have:=tc x N W;rw[an ad]at this;exact this),λac=>.O9 (q.trans (dp.eH _ (B.trans H) p.new)) (p.ext (B.trans H)) (by rw[ah];exact i4)⟩
end
def MT{B:List bz}{rs:List gP}{H:Prop}:∀b:Bk,Rf B rs H b:=by
 refine Bk.ind ?_;intro aD ac ih r p mb E sl L aa D af am ap Y gG t Q W o hk O x;simp only[Bk.jT,Bk.jv,Bk.qI]at*;apply wq (E,0);simp -zeta only[aC,aB,bU];intro q m;have st:=Hr.Te (a:=q) (g:=m) Y gG t.new rfl rfl;have F:J p m:=(dD (a:=q) (c:=m) rfl rfl).1;have I:To r p r m:=dp.eH _ F t.new;clear_value m;clear_value q;let⟨C,y,r1⟩:=W.aT;simp only[Bk.jT,Bk.jv]at C y r1;have U:=x.len;have T:=By aD;refine dU (n:=aD.length) (U▸x.gT) (λi M=>∃g s h,sA B (aa+dc (aD.take i)) h/\To r p g M/\Hr mb [q.size,p.size] g M/\jt g M E s h) ⟨r,sl,L,by simpa using Q,I,st,t.ext F⟩ ?_;rintro i M ad μ ah ⟨an,ao,G,f,j,c,d⟩ ab
 have ag:=sZ (aD.take i);have ai:=qK i aD;have aj:=fZ (aD.take i);refine dit (λS=>?_) λS=>?_
 .let⟨w,l⟩:=cG aD i;let⟨ae,kk,P,R,z,g1,g2,K,N⟩:=x.aF l;have al:=pU l;have ak:=T (i+1);have X:=c.ext;refine⟨V,V,_,X.af z,_,X.af g1,_,X.af g2,_,X.af K,_,X.af N,?_⟩;refine(GH X c.gG d f O P R (C i w l) V (ih w (aq l))).mono λA m4⟨b,g,e,a,u⟩=>⟨c.dv a,b,e,λ_=>.no (j.trans a),λo=>?_⟩;let⟨s,h,v,Z⟩:=u (by simpa using o);exact ab V _ ⟨g,s,h,by rw[(qN l),<-dj];exact Z,j.trans a,c.to a,v⟩
 .have K:i=aD.length:=V;rw[K,fu]at f;have ae:=sZ aD;have ak:=fZ aD;have Z:=f.len 0 bh;have l0:=d.len (k:=0) bh;let⟨X,P⟩:=cG (G 0) ac.toNat;refine⟨_,d.cg (k:=0) bh,y,V,X,d.aF bh V P,λ_=>?_,λ_=>?_⟩
  .refine(uI d f V y V).mono λA m4⟨b,g,e,a,u⟩=>⟨c.dv a,b,e,λ_=>.no (j.trans a),λo=>?_⟩;obtain⟨s,h,v,al,N,rfl⟩:=u (by simpa using o);refine(LD v (f.aR N) V (b:=D) V).mono λA R⟨b,z,e,l,w⟩=>⟨(c.to a).dv l,b,e,b,z,rfl,(j.trans a).trans l,w⟩
  .refine(LD d f V (b:=D) V).mono λA R⟨b,z,e,l,w⟩=>⟨c.dv l,b,e,b,z,rfl,j.trans l,w⟩
def Xy(m:E)(f:List bz)(q:gP)(j:Int)(v:Value)(c:E):Prop:=∃(a:Nat)(d:Bool),v=.tuple #[vp a 0,vb d]/\J m c/\(d=true->0<=j/\j<=q.body.aD.length/\∃e g L,(∀b,b<m.size->e b=0)/\jt e c a g L/\sA f (q.params.length+dc (q.body.aD.take j.toNat)) L)
def ED{m:E}{I T:O}{f:List bz}{z:List gP}{ab:Prop}{W:Nat}(h:eL m I T f z)(P:yi f z ab W)(hW:W<=200000000000){K:Nat}{a:gP}(w:z[K]? =some a){j:Int}(hj: -9000000000000000000<=j/\j<=9000000000000000000):
 aN cp 224 [.agg #[O.v I,O.v T],vi K,vi j] m (Xy m f a j):=by
 apply xk
 simp -zeta only[aC,aB]
 intro k
 have D:J m k:=J.push _ _
 have g:∀b∈[m.size],b<k.size:=by simp[k]
 clear_value k
 have aH:=h.iU.len;have aG:=h.oD
 have aE:=av w
 let⟨ah,af,ak,hw⟩:=P.dz a (aq w)
 let⟨aM,aO,b,c1,c2,H,e0,e1,e2,v,e4⟩:=h.iU.aF w
 have x:∀{M:E}{an:Obj},J m M->Xy m f a j (.tuple #[vp M.size 0,vb false]) (M.push an):=λxx=>⟨_,false,rfl,xx.aK _,aL⟩
 refine(EV (h.le D.le) (λd c=>oh (P.dz d c))).aH (J.az k) g λv1 m2 F _=>⟨_,rfl,λ_=>x (D.trans F),λ_=>?_⟩
 have Y:=D.trans F
 refine(aY _ _ _ _).aH F g λv2 m3 _ Z v3=>⟨_,rfl,λ_=>x (Y.trans Z),λ_=>?_⟩
 have B:=Y.trans Z
 have az:=H.len
 refine⟨V,V,_,B.af v,?_⟩
 refine(aY _ _ _ _).aH v3 g λv4 R ac x4 C=>⟨_,rfl,λ_=>x (B.trans x4),λaj=>?_⟩
 have c:=B.trans x4
 have hr:=ac.1 (by simpa using aj)
 refine⟨V,V,_,c.af e0,_,c.af e1,_,c.af e2,_,c.af v,_,c.af e4,?_⟩
 refine(Iz (q:=a) (c1.ext c) (c2.ext c) ah af f).mono λau S⟨t,u,G,y,sl,aa,gG,L,i5⟩=>⟨λb d=>G.same b (C.lt (g b d)),(t,0),u,?_⟩
 obtain⟨al,_,_⟩:=ak.aT
 have aA:=Bk.mu a.body
 have ai:=By a.body.aD
 have ar:Hr R [m.size] y S:=⟨G,gG,λb d=>⟨G.lt (C.lt (g b d)),gG b (C.lt (g b d))⟩⟩
 have e6:j=((j.toNat:Nat):Int):=V
 obtain⟨s,ad⟩:∃s:Nat,j=s:=⟨j.toNat,e6⟩
 subst ad
 simp only[tS]
 refine dU (n:=s) V (λi M=>∃l A o,sA f (a.params.length+dc (a.body.aD.take i)) o/\To y S l M/\Hr R [m.size] l M/\jt l M t A o) ⟨y,sl,aa,by simpa using i5,L.to,ar,L⟩ ?_
 rintro i M ax μ aF ⟨ao,ap,L6,Q,c6,e,N⟩ am
 have U:J m M:=c.trans e.ext
 refine dit (λag=>?_) λag=>?_
 .let⟨aw,r⟩:=cG a.body.aD i
  let⟨ay,kk,ha,ae,g0,g1,g2,g3,g4⟩:=(H.le c.le).aF r
  have X:=e.ext
  have aK:=pU r
  have aJ:=ai (i+1)
  have aD:=sZ (a.body.aD.take i)
  have aI:=fZ (a.body.aD.take i)
  refine⟨V,V,_,U.af v,V,V,_,X.af g0,_,X.af g1,_,X.af g2,_,X.af g3,_,X.af g4,?_⟩
  refine(GH X e.gG N Q (h.le c.le) ha ae (al i aw r) V (λb _=>MT b)).mono λau m7⟨b,l,u,p,h7⟩=>⟨e.dv p,b,u,λ_=>⟨t,false,rfl,c.trans (e.to p).ext,aL⟩,λd=>?_⟩
  let⟨A,o,h8,i8⟩:=h7 (by simpa using d)
  exact am V _ ⟨l,A,o,by rw[qN r,<-dj];exact i8,c6.trans p,e.to p,h8⟩
 .have l:i=s:=V
  subst l
  exact⟨t,true,rfl,U,λ_=>⟨V,V,ao,ap,L6,λb d=>e.gG b (c.lt d),N,by simpa using Q⟩⟩
end
section
variable{f d:Int}{c P:Nat}{m:E}
def RP(a:0<=f)(b:0<d):0<=f.tmod d/\f.tmod d<d:=⟨Int.tmod_nonneg _ a,Int.tmod_lt_of_pos _ b⟩
def NP(a:0<=f)(b:0<d):0<=f.tdiv d/\f.tdiv d<=f:=by
 rw[pX a];exact⟨Int.ediv_nonneg a V,Int.ediv_le_self _ a⟩
def Vb{b:Int}(e:0<=f/\f<4611686018427387904)(g:0<=b/\b<4611686018427387904):0<=Va f b:=by
 unfold Va;have a:(f%18446744073709551616).toNat<2^62:=V;have c:(b%18446744073709551616).toNat<2^62:=V;have d:=Nat.xor_lt_two_pow a c;rw[aQ V V];omega
def Rd(c:Nat)(a:O)(P:Nat)(m:E):Prop:=(∃p:Int,cE m c pW [.s a,.i p]/\0<=p/\p<=P)/\a.len<=a.cap/\∀k:Nat,k<a.len->∃v:Int,0<=v/\v<=255/\af (bG [c] m) a.D (a.off+k*1)=some (.int .u8 v)
def Rd.mono{Q:Nat}{a:O}(h:Rd c a P m)(g:P<=Q):Rd c a Q m:=let⟨⟨p,b,d,f⟩,e⟩:=h;⟨⟨p,b,d,V⟩,e⟩
def Rd.lt{c P:Nat}{a:O}{m:E}(h:Rd c a P m):c<m.size:=let⟨⟨_,b,_⟩,_⟩:=h;b.lt
def Rd.MF{f:Nat}{b:O}{e M a:E}(d:Rd c b f e)(h:Rd c b P M)(l:Fz [c] e a)(k:a[c]? =M[c]?):Rd c b P a:=by
 obtain⟨⟨p,g,i,j⟩,_⟩:=h;exact⟨⟨p,g.congr k,i,j⟩,d.2.1,λo m=>let⟨v,q,r,n⟩:=d.2.2 o m;⟨v,q,r,l.df (λ_ h=>h) _ _ _ n⟩⟩
def Rd.ext{a:O}{d:E}(h:Rd c a P m)(b:J m d):Rd c a P d:=h.MF h (b.fz _) (b.same _ h.lt)
def Rd.ah{c g P:Nat}{a:O}{d M:E}(f:Rd c a g d)(h:Rd c a P M)(j:Fz [c] d M){b:Nat}(i:d.size<=b)(o:Nat)(l:List Ce):Rd c a P (ah M b o l):=
 f.MF h (j.ah (Or.inr i) o l) (bd _ _ _ _ λe=>oh f.lt)
def XI(c:Nat)(b:O)(P:Nat)(m:E)(d:Int)(v:Value)(a:E):Prop:=∃k:Int,v=vi k/\0<=k/\(k<d\/k=0)/\Rd c b (P+1) a/\Fz [c] m a
def cq{e:O}(s:Rd c e P m)(hP:P<=10^16)(d:Int):aN cp 40 [vp c 0,vi d] m (XI c e P m d):=by
 let⟨⟨p,t,q,p1⟩,X,E⟩:=s;apply xy (c,0);simp -zeta only[bU];have g1:af m c 1=some (vi p):=t.cg 1;refine⟨p,g1,t.fK aL,?_⟩;intro g;have U:cT (p+1)=p+1:=aQ V V;have T:cT (p+1 -1)=p:=by rw[show p+1 -1=p by omega];exact aQ V V
 have w:cE g c pW [.s e,.i (p+1)]:=by rw[<-U];exact cE.ah (m:=m) (r:=[.i (cT (p+1))]) (o:=1) t
 have A:Fz [c] m g:=(Fz.az [c] m).ah (Or.inl aL) _ _;have F:Le (bG [c] m) (bG [c] g):=A.df λ_ s=>s;clear_value g;have R:∀k:Int,0<=k->(k<d\/k=0)->XI c e P m d (vi k) g:=λk C D=>⟨k,rfl,C,D,⟨⟨p+1,w,V,V⟩,X,λj f=>let⟨v,i,l,h⟩:=E j f;⟨v,i,l,F _ _ _ h⟩⟩,A⟩;have f:af g c 0=some (O.v e):=w.cg 0;have g1:af g c 1=some (vi (p+1)):=w.cg 1;have B:∀j:Int,0<=j->j<(e.len:Int)->∃v:Int,0<=v/\v<=255/\af g e.D (e.off+j.toNat*1)=some (.int .u8 v):=λj C D=>by
  let⟨v,i,l,h⟩:=E j.toNat V;exact⟨v,i,l,(eQ.1 (F _ _ _ h)).2⟩
 refine⟨λ_=>R 0 (dg _) (Or.inr rfl),λZ=>⟨_,f,λ_=>R 0 (dg _) (Or.inr rfl),λY=>?_⟩⟩;simp only[bL]at Z;simp only[aj]at Y;have G:0<d:=V;refine⟨_,g1,_,f,?_⟩;rw[T];refine⟨λz=>?_,λ_=>?_⟩
 .simp only[ar]at z;let⟨v,i,l,h⟩:=B p q z;refine⟨_,f,q,z,v,h,V,?_⟩;rw[aQ V V];have:=RP i G;exact R _ this.1 (Or.inl this.2)
 .have y:(0:Int)<(e.len:Int):=V;let⟨I,J⟩:=RP q y;let⟨v,i,l,h⟩:=B _ I J;have S:cT (cT (p*7)+3)=p*7+3:=by rw[aQ (b:=p*7) V V,aQ V V]
  let⟨K,L⟩:=RP (f:=p*7+3) V y;let⟨u,u0,u1,hu⟩:=B _ K L;let⟨d0,d1⟩:=NP q y;rw[S];refine⟨_,f,_,f,V,I,J,v,h,_,f,_,f,V,K,L,u,hu,_,f,V,bh,V,?_⟩;have M:cT (cT v*131)=v*131:=by rw[aQ (b:=v) V V,aQ V V]
  have N:cT (cT u*1117)=u*1117:=by rw[aQ (b:=u) V V,aQ V V]
  have E3:cT (p*29)=p*29:=aQ V V;have Q:cT (cT (p.tdiv e.len)*53)=p.tdiv e.len*53:=by rw[aQ (b:=p.tdiv e.len) V V,aQ V V]
  rw[M,N,E3,Q,aQ (b:=v*131+u*1117) V V,aQ (b:=v*131+u*1117+p*29) V V,aQ (b:=v*131+u*1117+p*29+p.tdiv e.len*53) V V];have H:0<=v*131+u*1117+p*29+p.tdiv e.len*53:=V;let⟨q0,q1⟩:=NP (d:=64) H bh;rw[aQ (b:=Int.tdiv _ 64) V V];have W:=Vb (f:=v*131+u*1117+p*29+p.tdiv e.len*53) (b:=(v*131+u*1117+p*29+p.tdiv e.len*53).tdiv 64) ⟨H,V⟩ ⟨q0,V⟩;let⟨z0,z1⟩:=RP W G;exact R _ z0 (Or.inl z1)
def kA{a:O}(h:Rd c a P m)(j:P<=10^16){s:O}{l:List Int}(d:ap (bG [c] m) s l)(o:0<l.length):
 aN cp 39 [vp c 0,O.v s] m λv f=>∃k:Int,v=vi k/\k∈l/\Rd c a (P+1) f/\Fz [c] m f:=by
 apply yS (c,0)
 have p:=d.len
 refine(cq h j (s.len:Int)).mono λv r⟨k,g,n,q,i,b⟩=>⟨k,g,n,V,?_⟩
 let⟨x,e⟩:=cG l k.toNat
 exact⟨x,(eQ.1 ((b.df (λ_ h=>h)) _ _ _ (d.aF e))).2,x,rfl,aq e,i,b⟩
end
section
variable{d:List Nat}{c:E}
def _root_.Go.Vc.Gr.set{α:Type}{d X:List Nat}{t c:E}{z f:Nat}{R:E->List Ce->α->Prop}{s:O}{y:List α}(w:oA f R)(h:Gr d t c z f R s y)(hf:Fz X t c){k:Nat}(I:k<y.length){cs:List Ce}{a:α}(F:R (bG (s.D::d) c) cs a):
 fK c s.D (s.off+k*f) f/\Gr d t (ah c s.D (s.off+k*f) cs) z f R s (y.set k a)/\Fz X t (ah c s.D (s.off+k*f) cs)/\(∀g,g≠s.D->(ah c s.D (s.off+k*f) cs)[g]? =c[g]?):=by
 have hy:=h.bn
 let⟨C,e,D,j⟩:=h
 have ab:∀g,g≠s.D->(ah c s.D (s.off+k*f) cs)[g]? =c[g]? :=λg Z=>bd _ _ _ _ Z
 let⟨g,i,tail,u,Q,A,S,T⟩:=D.aF.resolve_left C
 have H:=w.len F
 let⟨l,x⟩:=cG e k (by rw[j.len];exact I)
 have af:=j.size l (aq x)
 have M:s.off+k*f=k*f:=by rw[u];simp
 have G:s.D=g:=by rw[u];rfl
 have J:=av x
 have N:e=e.take k++l::e.drop (k+1):=by
  have v:=List.getElem?_eq_some_iff.1 x;let⟨W,Y⟩:=v;rw[<-Y,<-qb W,dm]
 have ad:(e.take k).flatten.length=k*f:=by rw[cw λi n=>j.size i (dA n),gJ,jc V]
 have ac:e.set k cs=e.take k++cs::e.drop (k+1):=by
  rw[Pa,an J]
 have aa:jb (e.flatten++tail) (k*f) cs=(e.set k cs).flatten++tail:=by
  have U:e.flatten++tail=(e.take k).flatten++(l++((e.drop (k+1)).flatten++tail)):=by
   conv=>lhs;rw[N]
   simp
  rw[U,<-ad,BV _ _ _ bE,ac];rw[show cs.length=l.length by omega,List.drop_left];simp
 have L:(e.set k cs).flatten.length=e.flatten.length:=by
  rw[cw (b:=f) λi n=>?_,cw j.size,eg];rcases cB n with h|h
  .exact j.size i h
  .rw[h];exact H
 have K:Le (bG (s.D::d) c) (bG (s.D::d) (ah c s.D (s.off+k*f) cs)):=cA aL λ_ h=>h
 refine⟨?_,⟨C,e.set k cs,⟨by rw[L];exact D.len,Or.inr ⟨g,i,tail,u,Q,?_,?_,T⟩⟩,⟨by simp[j.len],λi n=>?_,λP i ae p q=>?_⟩⟩,hf.ah (Or.inr hy.1) _ _,ab⟩
 .rw[M,G]
  refine A.fK ?_
  have:(e.take k).flatten.length+l.length<=e.flatten.length:=by
   conv=>rhs;rw[N]
   simp
  simp only[be];omega
 .have v:=cE.ah (m:=c) (b:=g) (r:=cs) (o:=k*f) A
  rw[M,G,<-aa];exact v
 .rw[<-S,be,be,L]
 .rcases cB n with h|h
  .exact j.size i h
  .rw[h];exact H
 .by_cases B:k=P
  .subst B
   rw[dx J]at p
   rw[dx I]at q
   simp at p q;subst p q
   exact w.le K F
  .rw[cv B]at p q
   exact w.le K (j.dz P i ae p q)
def Bb(hS:∀a∈d,a<c.size){g C L:O}{S:Int}{aD:List cU}{q:cU}{f:Nat}(s:eP (bG d c) g aD)(ha:ap (bG d c) C q.args)(hk:nF (bG d c) L q.bD)(hj:f<=aD.length)(hb:aD.length<=900000000000):
 aN cp 226 [.agg #[O.v g,vi S],vi f,oZ q C L] c λah N=>∃W,ah=.agg #[O.v W,vi S]/\eP (bG d N) W (aD.take f++[q]++aD.drop f)/\J c N:=by
 apply EK
 simp -zeta only[aC,aB]
 intro P h e k
 let⟨r,m,s1,s2,s3⟩:=qd (a:=P) (b:=h) (c:=e) rfl rfl rfl
 have z:J e k:=J.push _ _
 have s4:k.size=e.size+1:=by simp[k]
 have g0:GS (h.size::d) e k (.mk e.size 0 0 0) []:=GS.new _ _
 clear_value k
 clear_value e
 have u4:=r.trans z
 have K:=s.len
 have ak:=s.cap
 have I:∀a∈[h.size,P.size,c.size],a<k.size:=λa b=>z.lt (m a b)
 have H:∀{M:E}{D:Nat},J c M->c.size<=D->Le (bG d c) (bG (D::h.size::d) M):=λxx aj=>xx.bG λa b=>by
  simp only[aV]at b;rcases b with l|l|l
  .exact Or.inr V
  .exact Or.inr V
  .exact Or.inl l
 have X:Int.toNat (0:Int)=0:=rfl
 have Y:Int.toNat (f:Int)=f:=V
 have Z:Int.toNat (g.len:Int)=g.len:=V
 rw[X,Y,Z]
 refine⟨V,V,V,?_⟩
 have ac:eP (bG (e.size::h.size::d) k) (g.cut 0 f 5) (aD.take f):=by simpa using(s.le (H (D:=e.size) u4 V)).KF (i:=0) (dN _) hj
 refine GS.all g0 (z.fz []) ac bE λT y g1 F z1 q1=>⟨λa b=>q1 a (I a b) (by have:=m a b;simp;omega),V,V,V,?_⟩
 intro Q
 have t:J y Q:=J.push _ _
 have y1:=g1.bn
 have n:J e y:=F.ext
 have A:∀o,af Q c.size o=af y c.size o:=λo=>aJ (t.same _ (oh (I c.size aL))) o
 refine⟨A 1,A 0,?_⟩
 refine GS.kK (x:=q) g1 F (ha.le (H (D:=T.D) (r.trans n) V)) (hk.le (H (D:=T.D) (r.trans n) V)) bE λU R g2 v z2 q2=>⟨J.oH (n.trans t) v.ext (λa b=>oh (m a b)),?_⟩
 have p:J e R:=v.ext
 have y2:=g2.bn
 have u:∀{M B:E},J e M->J e B->∀o,af B c.size o=af M c.size o:=λaa h' o=>aJ (by rw[h'.same _ (m _ aL),aa.same _ (m _ aL)]) o
 refine⟨u (n.trans t) p 1,u (n.trans t) p 0,?_⟩
 have ae:eP (bG (U.D::h.size::d) R) (g.cut f g.len 5) (aD.drop f):=by
  have:=(s.le (H (D:=U.D) (r.trans p) V)).KF (i:=f) (j:=g.len) V V;rwa[K,bY (ad _),<-K]at this
 refine GS.all g2 v ae bE λr3 m8 G w z3 q3=>⟨J.oH p w.ext m,u p w.ext 1,?_⟩
 intro m9
 have y3:=G.bn
 have ab:∀a∈h.size::d,a<e.size:=λa b=>by
  rcases List.mem_cons.1 b with l|l
  .omega
  .have:=hS a l;omega
 refine⟨r3,rfl,?_,(r.trans w.ext).ah V _ _⟩
 have hD:=G.done gE.mono ab bh bE
 have ag:Le (bG (h.size::d) m8) (bG d m9):=cA aL λa b=>ai _ b
 exact eP.le ag (by simpa[fC]using hD)
def EY(C:∀b∈d,b<c.size){u L p:O}{A:List bz}{w:List gP}{q:gP}{n:Nat}{l:Bk}(i:eL (bG d c) u L A w)(D:w[n]? =some q)(h3:q.params.length<=3/\q.cR.length<=3)(ag:eP (bG d c) p l.aD):
 uR 228 [.agg #[O.v u,O.v L],vi n,.agg #[O.v p,vi l.aS]] c d A λah=>ah=w.set n ⟨q.params,q.cR,q.aS,l⟩:=by
 apply xI
 simp -zeta only[aC,aB]
 intro F h g j
 let⟨r,o,s1,s2,s3⟩:=qd (a:=F) (b:=h) (c:=g) rfl rfl rfl
 have y:J g j:=J.push _ _
 have s4:j.size=g.size+1:=by simp[j]
 have g0:GR (h.size::d) g j (.mk g.size 0 0 0) []:=Gr.new _ (ad _) _ _ _
 clear_value j
 clear_value g
 have u4:=r.trans y
 have an:=i.iU.len;have am:=i.oD
 have ak:=av D
 have ac:∀b∈[h.size,F.size,c.size],b<j.size:=λb e=>y.lt (o b e)
 have H:∀{M:E}{z:Nat},J c M->c.size<=z->Le (bG d c) (bG (z::h.size::d) M):=λxx aj=>xx.bG λb e=>by
  simp only[aV]at e;rcases e with f|f|f
  .exact Or.inr V
  .exact Or.inr V
  .exact Or.inl f
 refine Gr.all (g:=[.s .nil,.s .nil,.i 0,.s .nil,.i 0]) iR.mono bh g0 (y.fz []) (i.iU.le (H (z:=g.size) u4 V)) bE λm v g1 B z1 q1=>⟨λb e=>q1 b (ac b e) (by have:=o b e;simp;omega),V,V,?_⟩
 simp only[eF]at g1
 have x:J g v:=B.ext
 have y1:=g1.bn
 let⟨ao,ap,t,R,T,c3,U,W,X,Y,Z⟩:=(i.iU.le (H (z:=m.D) (r.trans x) V)).aF D
 have gG:∀{P:Value}{t I:Nat},af (bG (m.D::h.size::d) v) t I=some P->af v t I=some P:=λaa=>(eQ.1 aa).2
 refine⟨_,gG U,_,gG W,_,gG X,_,gG Y,_,gG Z,?_⟩
 have z5:=x.size
 refine(ye (b:=m.D::h.size::d) (λb e=>?_) (R.le (bA _ _)) (T.le (bA _ _)) V).mono λrv m6⟨K,N,f,h1,h2,s⟩=>?_
 .simp only[aV]at e
  rcases e with f|f|f
  .omega
  .omega
  .have:=C b f;omega
 subst f
 have g2:=g1.ext iR.mono s
 have al:=g2.len bh
 let⟨wr,g3,f3,q3⟩:=Gr.set (k:=n) (cs:=[.s K,.s N,.i q.aS,.s p,.i l.aS]) (a:=⟨q.params,q.cR,q.aS,l⟩) iR.mono g2 (B.then s) V ⟨K,N,p,rfl,h1,h2,ag.le (H (z:=m.D) ((r.trans x).trans s) V)⟩
 refine⟨λb e=>s.same b (oh (o b e)),_,_,_,_,_,rfl,V,V,wr,?_⟩
 intro m7
 refine⟨λb e=>q3 b (oh (o b e)),?_⟩
 intro G
 have ab:∀b∈h.size::d,b<g.size:=λb e=>by
  rcases List.mem_cons.1 e with f|f
  .omega
  .have:=C b f;omega
 have ae:Le (bG (h.size::d) m7) (bG d G):=cA aL λb e=>ai _ e
 have Q:J c G:=(r.trans f3.ext).ah V _ _
 exact⟨u,m,_,rfl,⟨i.bo.le (Q.df _),zm.le ae (g3.done iR.mono ab bh bE),i.types,bE⟩,rfl,Q⟩
end
def Ud{c:List bz}{f b:Nat}{l:List cU}(h:WL c f True b l){j:Nat}{a v:Int}(e:14<=a/\a<=17)(m:0<=v/\v<((b+dc (l.take j):Nat):Int)):
 WL c f True b (l.take j++[eZ a v]++l.drop j)/\dc (l.take j++[eZ a v]++l.drop j)=dc l/\sw (l.take j++[eZ a v]++l.drop j)=sw l+2:=by
 have d:dc [eZ a v]=0:=jU e.1 [v]
 have g:sw [eZ a v]=2:=oC a [v]
 have i:=cV (l.take j) (l.drop j)
 have k:=dC (l.take j) (l.drop j)
 rw[dm]at i k
 refine⟨((h.take j).yD (DL e m)).append ?_,?_,?_⟩
 .rw[cV,d];exact h.drop j
 .rw[cV,cV,d];omega
 .rw[dC,dC,g];omega
def SL(h:Nat)(e:List Value)(m:E)(S:List Nat)(b:Nat)(f:O)(P:Nat)(g:List bz)(Q:List gP->Prop):Prop:=
 aN cp h e m λv a=>∃d r c,v=.agg #[O.v d,O.v r]/\eL (bG S a) d r g c/\Q c/\Rd b f P a/\Fz [b] m a
def P1{h:List Nat}{m:E}(hS:∀l∈h,l<m.size){d P:Nat}{Q:O}(ax:d∈h)(h0:Rd d Q P m)(hP:P+4<=10^16){y t:O}{B:List bz}{L:List gP}(hn:eL (bG h m) y t B L){aa:Nat}(R:yi B L True aa)(hW:aa<=200000000000):
 SL 208 [vp d 0,.agg #[O.v y,O.v t]] m h d Q (P+4) B λW=>yi B W True (aa+4):=by
 apply JP (d,0)
 simp -zeta only[aC,aB,bU]
 intro f ag
 let⟨x2,hl⟩:=dD (a:=f) (c:=ag) rfl rfl
 have s1:f.size=m.size+1:=by simp[f]
 have s2:ag.size=m.size+2:=by simp[ag,s1]
 clear_value ag
 have bZ:=hn.iU.len;have bY:=hn.oD
 have b0:=h0.lt
 have nb:∀a∈[f.size,m.size],a<ag.size/\a∉[d]:=λa c=>⟨hl a c,by have:=hl a c;simp at c⊢;omega⟩
 have yB:yi B L True (aa+4):=⟨R.iW,λq F=>let⟨g,a,l,e⟩:=R.dz q F;⟨g,a,l,V⟩⟩
 refine(cq (h0.ext x2) V (t.len:Int)).mono λo g⟨ab,e,f0,f1,h3,z3⟩=>⟨z3.dv nb,ab,e,?_⟩
 have u3:Fz [d] m g:=(x2.fz _).trans z3
 have bQ:ab<(L.length:Int):=by have:=R.iW;omega
 let⟨q,F⟩:=cG L ab.toNat
 let⟨aH,aG,bl,hw⟩:=R.dz q (aq F)
 have Hn:∀{M:E},Fz [d] m M->eL (bG h M) y t B L:=λp=>hn.le (p.df λa c=>by simp at c;subst c;exact ax)
 have HS:∀{M:E}(bb:Nat),m.size<=bb->Fz [d] m M->Le (bG h m) (bG (bb::f.size::h) M):=λbb bL gg=>gg.bG (λa c=>by simp at c;subst c;exact ax) λl s=>by
  simp only[aV]at s;rcases s with e|e|e
  .exact Or.inr V
  .exact Or.inr V
  .exact Or.inl e
 have ch:=z3.size
 let⟨ca,cc,a,c1,c2,c3,e0,e1,e2,e3,e4⟩:=(hn.le (HS g.size V u3)).iU.aF F
 have gG:∀{M:E}{h:List Nat}{o:Value}{a I:Nat},af (bG h M) a I=some o->af M a I=some o:=λD=>(eQ.1 D).2
 refine⟨f0,V,a,gG e3,q.body.aS,gG e4,?_⟩
 intro m4 m5
 have x5:J g m5:=(J.push g _).ah (ad _) _ _
 have s5:m5.size=g.size+1:=by simp[m5,m4,aw]
 clear_value m5
 have bM:=c3.len
 have bW:=c3.gT
 have bN:=Bk.mu q.body
 have b1:=fZ q.body.aD
 have av:∀a∈[g.size,f.size,m.size],a<m5.size/\a∉[d]:=λa c=>by simp at c⊢;omega
 rw[aQ V V]
 refine(cq (h3.ext x5) V _).mono λo m6⟨G,e,j0,j1,h6,z6⟩=>⟨z6.dv av,G,e,?_⟩
 have u6:Fz [d] m m6:=(u3.then x5).trans z6
 have bD:=z6.size
 have ba:=(Hn u6).le (bA _ _)
 obtain⟨fn,a3⟩:∃fn:Nat,ab=fn:=⟨ab.toNat,V⟩
 subst a3
 simp only[tS]at F
 have al:∀a∈[g.size,f.size,m.size],a<m6.size/\a∉[d]:=λa c=>⟨aO (av a c).1 bD,(av a c).2⟩
 have aN:∀{M:E},Rd d Q (P+4) M->Fz [d] m M->∃d' U W,Value.agg #[O.v y,O.v t]=.agg #[O.v d',O.v U]/\eL (bG h (ah M f.size 0 [.s y,.s t])) d' U B W/\yi B W True (aa+4)/\Rd d Q (P+4) (ah M f.size 0 [.s y,.s t])/\Fz [d] m (ah M f.size 0 [.s y,.s t]):=λhr p=>
  have g':=p.ah (b:=f.size) (Or.inr V) 0 [.s y,.s t]
  ⟨y,t,L,rfl,Hn g',yB,h0.ah hr p V _ _,g'⟩
 refine(ED ba R hW F V).mono λo C⟨lb,ok,e,A,hA⟩=>⟨A.dv λa c=>(al a c).1,(lb,0),ok,e,λ_=>?_,λbd=>?_⟩
 .intro m8
  exact aN ((h6.ext A).mono V) (u6.then A)
 obtain⟨_,jl,ro,sl,au,b6,h7,i7⟩:=hA (by simpa using bd)
 intro m8
 have x8:J C m8:=J.push _ _
 have g8:GI h C m8 (.mk C.size 0 0 0) []:=GI.nil h C
 clear_value m8
 have z7:=A.size
 have bO:=sZ q.body.aD
 have a2:=Tj q.body.aD G.toNat
 have N0:=i7.len 0 bh
 have u7:Fz [d] m C:=u6.then A
 have aE:∀l∈h,l<C.size:=λl s=>aO (hS l s) u7.size
 refine eA (n:=(au 0).length) V (λan X M=>J C M/\∃H,GI h C M X H/\H.length<=an/\∀z∈H,0<=z/\z<(((au 0).length:Nat):Int)) ⟨x8,[],g8,ad _,aL⟩ ?_
 rintro an X m9 bI μ bT ⟨u,H,p,bX,ai⟩ aA
 have h9:=h7.ext u
 have l0:=h9.len (k:=0) bh
 have am:∀a∈[g.size,f.size,m.size],a<m9.size/\a∉[d]:=λa c=>⟨u.lt (A.lt (al a c).1),(al a c).2⟩
 refine⟨_,h9.cg (k:=0) bh,λa9=>?_,λbR=>?_⟩
 .simp only[ar]at a9
  let⟨z,i⟩:=cG (au 0) an
  refine⟨_,h9.cg (k:=0) bh,V,V,z,h9.aF bh V i,λ_=>?_,λ_=>aA V _ _ ⟨u,H,p,V,ai⟩⟩
  refine(sJ h9 i7 V (v:=(an:Int)) V V).mono λo az⟨bb,e,w⟩=>⟨w.dv λa c=>(am a c).1,bb,e,λ_=>?_,λ_=>aA V _ _ ⟨u.trans w,H,p.ext w,V,ai⟩⟩
  intro T
  have gy:=p.bn
  refine GI.kK (p.ext w) ((u.trans w).fz []) aE V λU bn N K _ Y=>⟨J.oH ((u.trans w).aK _) K.ext (λa c=>A.lt (al a c).1),aA V _ _ ⟨K.ext,_,N,bE,λz i=>?_⟩⟩
  rcases List.mem_append.1 i with i|i
  .exact ai z i
  .simp at i;omega
 .have bS:=p.len bh
  have u9:Fz [d] m m9:=u7.then u
  have r9:Rd d Q (P+2) m9:=(h6.ext (A.trans u)).mono V
  refine⟨λ_=>?_,λbc=>?_⟩
  .intro az
   exact aN (r9.mono V) u9
  simp only[aj]at bc
  have gy:=p.bn
  have gb:X.D∉[d]:=by simp;have:=u7.size;omega
  refine(cq r9 V (X.len:Int)).mono λo az⟨ay,e,i0,i1,aX,vw⟩=>⟨vw.dv am,ay,e,i0,V,?_⟩
  let⟨w,aM⟩:=cG H ay.toNat
  let⟨w0,w1⟩:=ai w (aq aM)
  have a4:af m9 X.D (X.off+ay.toNat*1)=some (vi w):=((p.done aE V).le (bA _ _)).aF aM
  refine⟨w,(aJ (vw.same _ gy.2 gb) _).trans a4,?_⟩
  have br:=u9.trans vw
  have ci:=u.size;have bF:=vw.size
  have aF:∀a∈[g.size,f.size,m.size],a<az.size/\a∉[d]:=λa c=>⟨aO (am a c).1 bF,(am a c).2⟩
  have ew:cT (cT ((a.len:Int) -G)+1)=(a.len:Int) -G+1:=by rw[aQ (b:=(a.len:Int) -G) V V,aQ V V]
  rw[ew]
  refine(cq aX V _).mono λo T⟨i2,e,b2,b3,aY,ap⟩=>⟨ap.dv aF,i2,e,?_⟩
  have aP:=br.trans ap
  have bH:=ap.size
  have ak:∀a∈[g.size,f.size,m.size],a<T.size:=λa c=>aO (aF a c).1 bH
  have ac:∀{M:E},T.size<=M.size->∀l∈g.size::f.size::h,l<M.size:=λhz l s=>by
   simp only[aV]at s;have h1:=ak g.size aL;have h2:=ak f.size aL;rcases s with e|e|e
   .omega
   .omega
   .have:=hS l e;have:=aP.size;omega
  have bt:Fz [d] g T:=(((((x5.fz _).trans z6).then A).then u).trans vw).trans ap
  have a1:=c3.le (bt.df λl s=>by simp at s;subst s;simp[ax])
  obtain⟨i,a5⟩:∃i:Nat,G=i:=⟨G.toNat,V⟩
  obtain⟨kn,a8⟩:∃kn:Nat,i2=kn:=⟨i2.toNat,V⟩
  subst a5 a8
  have bk:i+kn<=q.body.aD.length:=V
  have aW:cT ((i:Int)+(kn:Int))=((i+kn:Nat):Int):=by rw[aQ V V];omega
  simp only[tS]at N0 a2
  let⟨bm,r0,r1⟩:=bl.aT
  have bP:dc (q.body.aD.take i)<=dc (q.body.aD.take (i+kn)):=by
   have:=Tj (q.body.aD.take (i+kn)) i;rwa[Ml,jc V]at this
  let⟨bw,bu,bB⟩:=Ud (j:=i+kn) (a:=15) (v:=w) bm bh ⟨w0,V⟩
  have bj:(q.body.aD.take (i+kn)++[eZ 15 w]++q.body.aD.drop (i+kn)).take i=q.body.aD.take i:=by
   rw[fC,nt bE,Ml,jc V]
  let⟨bx,bv,bC⟩:=Ud (j:=i) (a:=14) (v:=w) bw bh ⟨w0,by rw[bj];omega⟩
  generalize aK:q.body.aD.take (i+kn)++[eZ 15 w]++q.body.aD.drop (i+kn)=st1 at*
  have bV:st1.length=q.body.aD.length+1:=by rw[<-aK];simp;omega
  have K:∀{M Z:E},J M Z->T.size<=M.size->∀a∈[g.size,f.size,m.size],∀I,af Z a I=af M a I:=λxx hz a c I=>aJ (xx.same a (aO (ak a c) hz)) I
  have kS:∀{M Z:E},J M Z->T.size<=M.size->eG [g.size,f.size,m.size] M Z:=λxx hz a c=>xx.same a (aO (ak a c) hz)
  rw[aW]
  refine(jg (c:=g.size::f.size::h) (ac (ad _)) 15 w).mono λo bn⟨bJ,b4,e,aZ,a6,N⟩=>⟨kS N (ad _),_,_,_,_,_,e,K N (ad _) _ aL _,K N (ad _) _ aL _,?_⟩
  have aU:=N.size
  refine(Bb (d:=g.size::f.size::h) (S:=q.body.aS) (q:=eZ 15 w) (ac aU) (a1.le (N.df _)) aZ a6 bk V).mono λo bo⟨bq,e,aI,ao⟩=>⟨kS ao aU,_,_,e,?_⟩
  rw[aK]at aI
  intro ae
  have cd:=ao.size
  have ce:ae.size=bo.size:=aw _ _ _ _
  have aR:=(aP.then N).then ao
  have bs:Fz [d] m ae:=aR.ah (Or.inr V) _ _
  have bp:Rd d Q (P+2+1+1) ae:=h0.ah ((aY.ext N).ext ao) aR V _ _
  have bg:eP (bG (g.size::f.size::h) ae) bq st1:=aI.le (cA aL λ_ D=>D)
  clear_value ae
  refine(jg (c:=g.size::f.size::h) (ac V) 14 w).mono λo b7⟨bK,b5,e,a0,a7,z⟩=>⟨kS z V,_,_,_,_,_,e,K z V _ aL _,K z V _ aL _,K z V _ aL _,K z V _ aL _,?_⟩
  have cf:=z.size
  refine(Bb (d:=g.size::f.size::h) (S:=q.body.aS) (q:=eZ 14 w) (ac V) (bg.le (z.df _)) a0 a7 (f:=i) V V).mono λo b8⟨cb,e,bi,Y⟩=>⟨kS Y V,_,_,e,K Y V _ aL _,K Y V _ aL _,?_⟩
  have cg:=Y.size
  have aS:=(bs.then z).then Y
  refine(EY (d:=g.size::f.size::h) (ac V) (l:=.mk (st1.take i++[eZ 14 w]++st1.drop i) q.body.aS) (hn.le (HS g.size V aS)) F ⟨aH,aG⟩ bi).mono λo b9⟨d',U,W,e,a_,bf,aD⟩=>⟨kS aD V,d',U,e,?_⟩
  intro b_
  have aT:=aS.then aD
  refine⟨d',U,W,rfl,a_.le (cA aL λl s=>by simp[s]),?_,h0.ah (((bp.ext z).ext Y).ext aD) aT V _ _,aT.ah (Or.inr V) _ _⟩
  subst bf
  refine⟨by simp;exact R.iW,λq' be=>?_⟩
  rw[eg]
  rcases cB be with D|D
  .exact yB.dz q' D
  .subst D
   refine⟨aH,aG,.of bx ⟨r0,by rw[bv,bu];exact r1⟩,?_⟩
   show Bk.w (.mk _ _)<=_
   rw[Bk.qI,bC,bB];omega
section
variable{f:E}{t:O}{d:Bk}{j e:Int}{g:List Nat}{l h c:Nat}
def pS(l:eP f t d.aD):sV 275 [.agg #[O.v t,vi d.aS]] f λc=>0<=c/\c<=d.aD.length/\∀(i:Nat)(e:cU),d.aD[i]? =some e->(i:Int)<c->14<=e.op/\e.op<=17:=by
 apply yN;simp -zeta only[aC,aB];intro a;have B:J f a:=J.push _ _;have w:∀q∈[f.size],q<a.size:=by simp[a]
 clear_value a;have x:=l.len;refine dU (n:=d.aD.length) (x▸l.gT) (λc M=>J a M/\∀(i:Nat)(e:cU),d.aD[i]? =some e->i<c->14<=e.op/\e.op<=17) ⟨J.az _,λi e _ b=>V⟩ ?_;rintro c M I μ L ⟨p,o⟩ z
 have u:=B.trans p;have R:∀{m:E},J f m->∃k:Int,vi (c:Int)=vi k/\(0<=k/\k<=d.aD.length/\∀(i:Nat)(e:cU),d.aD[i]? =some e->(i:Int)<k->14<=e.op/\e.op<=17)/\J f m:=λD=>⟨c,rfl,⟨V,V,λi e g b=>o i e g V⟩,D⟩;refine⟨λb=>?_,λb=>R u⟩;simp only[ar]at b;let⟨e,g⟩:=cG d.aD c;obtain⟨h,P,H,N,s,_⟩:=l.aF g;refine⟨V,V,_,u.af s,?_⟩;refine(tB e.op M).aH p w λG Q v C A=>⟨_,rfl,λy=>z V _ ⟨A,λi F j K=>?_⟩,λ_=>R (u.trans C)⟩;by_cases r:i=c
 .subst r;rw[g]at j;simp at j;subst j;exact v.1 y
 .exact o i F j V
def Dw(b:eP f t d.aD){w:Int}(K:0<=j/\j<=d.aD.length)(z:∀(r:Nat)(s:cU),d.aD[r]? =some s->(r:Int)<j->0<s.args.length):
 sV 276 [.agg #[O.v t,vi d.aS],vi j,vi w,vi e] f λc=>-1<=c/\(0<=c->c<j/\∃s:cU,d.aD[c.toNat]? =some s/\s.op=w/\s.args[0]? =some e):=by
 apply GW
 simp -zeta only[aC,aB]
 intro i
 have B:J f i:=J.push _ _
 clear_value i
 have L:=b.len
 have H:=b.gT
 obtain⟨k,A⟩:∃k:Nat,j=k:=⟨j.toNat,V⟩
 subst A
 refine dU (n:=k) V (λc M=>J i M) (J.az _) ?_
 rintro c M I μ F l v
 have u:=B.trans l
 refine⟨λa=>?_,λa=>⟨-1,rfl,⟨V,λa=>V⟩,u⟩⟩
 simp only[ar]at a
 let⟨s,g⟩:=cG d.aD c
 let⟨h,N,m,G,x,g1,g2,y,D⟩:=b.aF g
 have E:=m.len
 have:=z c s g V
 let⟨C,q⟩:=cG s.args 0
 refine⟨V,V,_,u.af x,λo=>⟨V,V,_,u.af y,bh,V,C,(m.ext u).aF q,λp=>?_,λ_=>v V _ l⟩,λ_=>v V _ l⟩
 simp only[aG]at o p
 refine⟨c,rfl,⟨V,λ_=>⟨V,s,?_,o,by rw[<-p];exact q⟩⟩,u⟩
 simpa using g
def OO(g:eP f t d.aD){b:Int}(A:0<=b/\b<=d.aD.length):sV 309 [.agg #[O.v t,vi d.aS],vi b,vi j] f λc=>-1<=c/\c<d.aD.length:=by
 apply Ii;simp -zeta only[aC,aB];intro i;have v:J f i:=J.push _ _;clear_value i;have q:=g.len;obtain⟨e,p⟩:∃e:Nat,b=e:=⟨b.toNat,V⟩;subst p;refine VE (n:=d.aD.length) (b:=e) V (q▸g.gT) (λc M=>J i M) (J.az _) ?_;rintro c M I μ _ y l s
 have u:=v.trans l;refine⟨λk=>?_,λk=>⟨-1,rfl,⟨V,V⟩,u⟩⟩;simp only[ar]at k;let⟨C,r⟩:=cG d.aD c;let⟨h,B,x,z,m,g1,g2,o,w⟩:=g.aF r;have N:=s V _ l
 exact⟨V,V,_,u.af m,λ_=>⟨V,V,_,u.af g2,λ_=>⟨V,V,_,u.af o,λ_=>⟨c,rfl,⟨V,V⟩,u⟩,λ_=>N⟩,λ_=>N⟩,λ_=>N⟩
def Ik(d:Bk)(Z:∀l∈g,l<f.size)(C:eP f t d.aD)(hw:d.w<=10^12):aN cp 287 [.agg #[O.v t,vi d.aS]] f λai E=>∃s,ai=.agg #[O.v s,vi d.aS]/\GS g f E s d.aD/\J f E:=by
 let⟨aD,q⟩:=d;rw[Bk.qI]at hw;simp only[Bk.jT,Bk.jv]at*;apply rB;simp -zeta only[aC,aB];intro j b h F p;let⟨K,A⟩:=dD (a:=j) (c:=b) rfl rfl;have s0:j.size=f.size+1:=by simp[j]
 have s1:b.size=f.size+2:=by simp[b,s0]
 have s2:h.size=b.size+1:=by simp[h]
 have s3:F.size=h.size+1:=by simp[F]
 have L:J h p:=(J.push h _).ah (ad _) _ _;have aj:J b p:=(J.push b _).trans L;have x:GS (h.size::j.size::g) b p (.mk b.size 0 0 0) []:=(GS.new _ b).ext gE.mono L;have N:cE p h.size di [.s (.mk b.size 0 0 0),.i q]:=cE.ah (m:=F) (o:=0) (r:=[.s (.mk b.size 0 0 0),.i q]) (cE.push h _ _);clear_value p;have aa:∀l∈j.size::g,l<b.size:=bO Z K.size (A _ aL);have ag:=C.len;have al:=fZ aD;refine dU (n:=aD.length) (ag▸C.gT) (λc M=>J b M/\∃s,GS (h.size::j.size::g) b M s (aD.take c)/\cE M h.size di [.s s,.i q]) ⟨aj,_,x,N⟩ ?_;rintro c G ak μ hk ⟨w,s,v,B⟩ ah
 have k:=K.trans w;have af:∀d∈[j.size,f.size],d<G.size:=λd y=>w.lt (A d y);have hy:=v.bn;have z5:=w.size;have I:=B.lt;refine dit (λY=>?_) λY=>?_
 .let⟨e,D⟩:=cG aD c;let⟨pa,pk,ha,ae,x,g1,g2,W,X⟩:=C.aF D;have am:=OT D;refine⟨s,B.cg 0,V,V,_,k.af x,_,k.af g1,_,k.af g2,_,k.af W,_,k.af X,?_⟩;refine(xY (e:=s.D::h.size::j.size::g) (bO (bO aa z5 I) (ad _) hy.2) (ha.ext k) (ae.le k.le) V (λd _=>we d)).aH (J.az G) af λP Q x' H ab ac R u _=>⟨_,_,_,_,_,rfl,aJ (u.same _ I) _,?_⟩;subst R;intro m7;refine Gr.box (g:=[.i 0,.i 0,.i 0,.s .nil,.s .nil]) (j:=0) (i:=[.s s,.i q]) (w:=e) gE.mono bh (v.ext gE.mono u) ((w.trans u).fz []) ⟨P,Q,rfl,ab,ac⟩ bE (B.ext u) aL bh ⟨V,aL⟩ (λl z=>by have M:=A l z;have T:=u.size;omega) λr' E U M T z' q'=>ah V _ ⟨T.ext,r',?_,M⟩
  rw[aU D];exact U
 .rw[bY V]at v;refine⟨s,B.cg 0,q,B.cg 1,?_⟩;intro H;have u:Fz [j.size] G H:=(Fz.az _ _).ah (Or.inl aL) _ _;have D:GS g b H s aD:=v.re gE.mono u aL bE λl z=>Or.inl (by simp[z]);exact⟨s,rfl,Gr.cy gE.mono D (λd y=>Or.inl y) V,k.ah V _ _⟩
def Ue{f:List bz}{d:Prop}{a:List cU}(j:WL f l d h a){e b:cU}(g:a[c]? =some e)(p:WS f l d (h+dc (a.take c)) b)(hd:dn b=dn e):
 WL f l d h (a.set c b)/\dc (a.set c b)=dc a/\sw (a.set c b)+e.w=sw a+b.w:=by
 have o:=av g
 have k:a.set c b=a.take c++([b]++a.drop (c+1)):=by rw[Pa,an o];rfl
 have i:a=a.take c++([e]++a.drop (c+1)):=by
  let⟨m,n⟩:=List.getElem?_eq_some_iff.1 g;rw[<-n];show a=a.take c++(a[c]::a.drop (c+1));rw[<-qb m,dm]
 have q:dc a=dc (a.take c)+(dn e+dc (a.drop (c+1))):=by
  conv=>lhs;rw[i]
  rw[cV,cV,kM,ta];omega
 have r:sw a=sw (a.take c)+(e.w+sw (a.drop (c+1))):=by
  conv=>lhs;rw[i]
  rw[dC,dC,mK,vm];omega
 rw[k]
 refine⟨(j.take c).append ((WL.lK p).append ?_),?_,?_⟩
 .have:=j.drop (c+1)
  rw[qN g]at this
  rw[kM,ta,hd,jF,dj];exact this
 .rw[cV,cV,kM,ta];omega
 .rw[dC,dC,mK,vm];omega
def _root_.Go.Vc.Gr.cells{α:Type}{r:E}{m d:Nat}{R:E->List Ce->α->Prop}{s:O}{l:List α}(n:Gr g r f m d R s l){e:α}(i:l[c]? =some e):∃a,R (bG (s.D::g) f) a e/\fQ f s.D (s.off+c*d) a:=by
 let⟨t,k,o,b⟩:=n;let⟨a,h⟩:=cG k c (by rw[b.len];exact av i);refine⟨a,b.dz c a e h i,λq j p=>?_⟩;have:=o.iB (c*d+q) j (fW b.size h p);rwa[<-dj]at this
def J5(hS:∀c∈g,c<f.size)(w:eP f t d.aD){Q:List bz}(ao:WB Q l True h d)(hw:d.w<=10^12)(hx:0<=e/\e<(h:Int))(a6:h<=10^12)(j:Int):
 aN cp 274 [.agg #[O.v t,vi d.aS],vi e,vi j] f λaa Z=>∃s o,aa=.agg #[O.v s,vi o.aS]/\eP Z s o.aD/\(eP (bG g f) t d.aD->eP (bG g Z) s o.aD)/\(WB Q l True h o/\o.w<=d.w)/\J f Z:=by
 apply CV
 simp -zeta only[aC,aB]
 intro m u
 let⟨C,q⟩:=dD (a:=m) (c:=u) rfl rfl
 have s1:m.size=f.size+1:=by simp[m]
 have s2:u.size=f.size+2:=by simp[u,s1]
 clear_value u
 let⟨X,aU⟩:=ao.aT
 have D:∀{ac M':E},J u ac->J u M'->∀I,af M' f.size I=af ac f.size I:=λp h' I=>aJ (by rw[h'.same _ (q _ aL),p.same _ (q _ aL)]) I
 refine(pS (w.le C.le)).aH (J.az u) q λn1 m3 U P _=>⟨_,rfl,D (J.az _) P _,D (J.az _) P _,?_⟩
 refine(Dw (w.le (C.trans P).le) (w:=16) (e:=e) ⟨U.1,U.2.1⟩ λaq s hi aO=>?_).aH P q λn2 m4 aP x4 L=>⟨_,rfl,?_⟩
 .have:=U.2.2 aq s hi aO
  have:=(X aq s hi).fe.lK V
  omega
 refine(pS (w.le (C.trans L).le)).aH L q λn3 m5 an x5 M=>⟨_,rfl,D L M _,D L M _,?_⟩
 refine(OO (w.le (C.trans M).le) (j:=j) ⟨an.1,an.2.1⟩).aH M q λn4 z bb x6 v6=>⟨_,rfl,?_⟩
 have u6:=C.trans v6
 have ay:∃s o,Value.agg #[O.v t,vi d.aS]=.agg #[O.v s,vi o.aS]/\eP (ah z m.size 0 [.s t,.i d.aS]) s o.aD/\(eP (bG g f) t d.aD->eP (bG g (ah z m.size 0 [.s t,.i d.aS])) s o.aD)/\(WB Q l True h o/\o.w<=d.w)/\J f (ah z m.size 0 [.s t,.i d.aS]):=
  have R:=u6.ah (b:=m.size) V 0 [.s t,.i d.aS]
  ⟨t,d,rfl,w.le R.le,λp=>p.le (R.df _),⟨ao,ad _⟩,R⟩
 refine⟨λ_=>ay,λh2=>⟨λ_=>ay,λh4=>?_⟩⟩
 simp only[bL]at h2 h4
 have z6:=v6.size
 have ak:∀c∈m.size::g,c<z.size:=λc i=>by
  rcases List.mem_cons.1 i with n|n
  .omega
  .have:=hS c n;omega
 refine(Ik d ak (w.le u6.le) hw).mono λaa H⟨K,n,g7,x7⟩=>⟨λc i=>x7.same c (oh (q c i)),_,_,n,?_⟩
 intro m8 A
 have x9:J H A:=(J.push H _).ah (ad _) _ _
 have s9:A.size=H.size+1:=by simp[A,m8,aw]
 clear_value A
 have y7:=g7.bn
 have z7:=x7.size
 have g9:=g7.ext gE.mono x9
 have am:∀c∈[H.size,m.size,f.size],c<A.size/\c≠K.D:=λc i=>by simp at i;omega
 refine(jg (c:=K.D::m.size::g) (λc i=>?_) 17 e).mono λaa au⟨ag,ar,n,aK,aM,B⟩=>⟨λc i=>B.same c (am c i).1,_,_,_,_,_,n,aJ (B.same _ V) _,?_⟩
 .rcases List.mem_cons.1 i with n|n
  .omega
  .have:=ak c n;omega
 have aj:=g9.ext gE.mono B
 have bg:=aj.len bh
 let⟨ba,so,W,bc,a7⟩:=aP.2 V
 have aA:J z au:=(x7.trans x9).trans B
 have aR:=av W
 let⟨a0,T,aF,aY⟩:=Gr.set (k:=n2.toNat) (cs:=[.i 17,.i 0,.i 0,.s ag,.s ar]) (a:=eZ 17 e) gE.mono aj (aA.fz []) aR ⟨ag,ar,rfl,aK,aM⟩
 refine⟨V,V,a0,?_⟩
 intro F
 have vw:=B.size
 have bi:F.size=au.size:=aw _ _ _ _
 refine⟨λc i=>aY c (am c i).2,V,V,?_⟩
 have aV:=X _ so W
 have w1:=aV.fe.lK (Or.inl V)
 have d1:dn (eZ 17 e)=dn so:=by
  unfold dn;rw[ae (λp:pd _=>by have:=p.2;simp only[eZ]at this;omega),ae (λp:pd _=>oh p.2)]
 let⟨az,a2,bk⟩:=Ue X W (DL (c:=17) (v:=e) bh ⟨hx.1,V⟩) d1
 have be:=cU.mu so
 have a9:(eZ 17 e).w=2:=rfl
 let⟨y,Y⟩:=cG (d.aD.set n2.toNat (eZ 17 e)) n4.toNat bE
 have a_:=T.len bh
 obtain⟨a5,⟨pa,pk,rfl,aS,aT⟩,ju⟩:=T.cells Y
 have e0:=ju 0 _ rfl;have e1:=ju 1 _ rfl;have e2:=ju 2 _ rfl;have e3:=ju 3 _ rfl;have e4:=ju 4 _ rfl
 refine⟨_,e0,_,e1,_,e2,_,e3,_,e4,?_⟩
 intro aW G
 have N:J F G:=(J.push F _).ah (ad _) _ _
 have bj:G.size=F.size+1:=by simp[G,aW,aw]
 clear_value G
 have aH:=T.ext gE.mono N
 have aE:cT (1+e)=1+e:=aQ V V
 rw[aE]
 have aD:=(aF.then N)
 let⟨a1,aI,aG,aZ⟩:=Gr.set (k:=n4.toNat) (cs:=[.i y.op,.i y.bP,.i (1+e),.s pa,.s pk]) (a:=⟨y.op,y.bP,1+e,y.args,y.bD⟩) gE.mono aH aD bE ⟨pa,pk,rfl,ap.le (N.df _) aS,nF.le (N.df _) aT⟩
 refine⟨V,V,a1,?_⟩
 intro ax
 have r:=az _ y Y
 let⟨a4,a3,bl⟩:=Ue (b:=⟨y.op,y.bP,1+e,y.args,y.bD⟩) az Y ⟨⟨r.fe.op,r.fe.args,r.fe.lK,⟨by show 0<=1+e;omega,by show 1+e<=_;omega⟩,r.fe.Kc,r.fe.all,r.fe.call⟩,r.bD⟩ rfl
 refine⟨λc i=>aZ c (by simp at i;omega),?_⟩
 intro aX
 have bf:(⟨y.op,y.bP,1+e,y.args,y.bD⟩:cU).w=y.w:=rfl
 have a8:=Bk.mu d
 have bd:=fZ d.aD
 have ab:eP (bG (m.size::g) ax) K _:=aI.nH gE.mono (S:=m.size::g) (λi=>by
  rcases List.mem_cons.1 i with n|n
  .omega
  .have:=hS _ n;omega) bh bE
 have al:Le (bG (m.size::g) ax) (bG g aX):=cA aL λc i=>ai _ i
 refine⟨K,.mk _ d.aS,rfl,(ab.le al).le (bA _ _),λ_=>ab.le al,⟨.of a4 (by rw[a3,a2];exact aU),?_⟩,(u6.trans aG.ext).ah V _ _⟩
 rw[Bk.qI];omega
end
def SW(c:List bz)(d:List gP)(N:Nat):Prop:=∀(b:Bk),b.w<=N->∀(S:List Nat)(m:E),(∀a∈S,a<m.size)->∀(f r t k8:O)(l:List Int)(a:Nat),eL m f r c d->eP m t b.aD->ap m k8 l->WB c d.length True a b->a+4*b.w<=10^12->l.length+4*b.w<=10^12->
 nu 232 [.agg #[O.v f,O.v r],.agg #[O.v t,vi b.aS],O.v k8] m S λe=>WB c d.length True a e/\e.w<=b.w
def J6{D:List Nat}{m:E}(hS:∀c∈D,c<m.size){R ac pa pk k8:O}{j:List bz}{A:List gP}{a:cU}{y:List Int}{F:Nat}(q:eL m R ac j A)(ha:ap m pa a.args)(hk:nF m pk a.bD)(I:ap m k8 y)(Y:WS j A.length True F a)(hb:F+4*a.w<=10^12)(a2:y.length+4*a.w<=10^12){l:Nat}{i:Bk}(U:a.bD[l]? =some i)(ih:SW j A i.w):
 nu 248 [.agg #[O.v R,O.v ac],oZ a pa pk,vi l,O.v k8] m D λk=>WB j A.length True (F+BH j a.op a.bP l) k/\k.w<=i.w:=by
 apply CW
 simp -zeta only[aC,aB]
 intro aa s b
 let⟨f,hl,s1,h,s3⟩:=qd (a:=aa) (b:=s) (c:=b) rfl rfl rfl
 clear_value b
 let⟨aj,ht,f0,f1⟩:=hk.aF U
 have a0:=av U
 have a1:=hk.len
 have aW:=ha.len
 have a5:=cU.mu a
 have aY:=wK U
 have ae:=Y.bD l i U
 have aZ:=i.Hh
 have aF:∀{M:E},J b M->∀c∈s.size::D,c<M.size:=λxx c d=>by
  have:=xx.size;rcases List.mem_cons.1 d with e|e
  .omega
  .have:=hS c e;omega
 have iI:∀(M:E)(Z u:O)(l':List Int)(k:Bk)(Lx:List Nat),J m M->J b M->(∀c∈Lx,c<M.size)->eP M u k.aD->ap M Z l'->l'.length<=y.length+1->WB j A.length True (F+BH j a.op a.bP l) k->k.w<=i.w->
  aN cp 232 [.agg #[O.v R,O.v ac],.agg #[O.v u,vi k.aS],O.v Z] M λv r=>eG Lx M r/\∃(h:O)(b2:Bk),v=.agg #[O.v h,vi b2.aS]/\∀g,g=ah r s.size 0 [.s h,.i b2.aS]->∃s3 b3,(Value.agg #[O.v h,vi b2.aS])=.agg #[O.v s3,vi b3.aS]/\eP (bG D g) s3 b3.aD/\(WB j A.length True (F+BH j a.op a.bP l) b3/\b3.w<=i.w)/\J m g:=λM Z u l' k Lx xm aU aE hs aK a3 aR aQ=>by
  have h3:=Qw q.types a.op a.bP l
  refine(ih k aQ (s.size::D) M (aF aU) R ac u Z l' _ (q.le xm.le) hs aK aR V V).mono λv r⟨h,b2,e,aO,aG,x'⟩=>⟨x'.dv aE,h,b2,e,λg am=>⟨h,b2,rfl,?_,⟨aG.1,V⟩,?_⟩⟩
  .rw[am];exact aO.le (cA aL λc d=>ai _ d)
  .rw[am];exact(xm.trans x').ah V _ _
 refine⟨λG=>?_,λG=>?_⟩
 .refine⟨V,V,_,f.af f0,_,f.af f1,?_⟩
  refine(iI b k8 aj y i _ f (J.az _) hl (ht.le f.le) (I.ext f) V ae (ad _)).mono λv r⟨o,h,b2,e,p⟩=>⟨o,_,_,e,?_⟩
  intro g
  exact p g rfl
 .have G:a.op=8:=by simpa using G
  obtain⟨aX,_⟩:=Y.fe.all G
  have aV:=Y.fe.lK (Or.inr (Or.inr G))
  let⟨B,hy⟩:=cG a.args 0
  let⟨y0,y1⟩:=Y.fe.args B (aq hy)
  refine⟨bh,V,B,(ha.ext f).aF hy,V,V,_,f.af f0,_,f.af f1,?_⟩
  intro m4 t
  have x5:J b t:=(J.push b _).ah (ad _) _ _
  have s5:t.size=b.size+1:=by simp[t,m4,aw]
  clear_value t
  have L:=f.trans x5
  have w:∀{M:E},J t M->∀c∈[b.size,s.size,aa.size,m.size],c<M.size:=λxx c d=>by have:=xx.size;simp at d;omega
  refine(dw (I.ext L) B).any.aH (J.az t) (w (J.az _)) λbb m6 n _=>⟨_,rfl,λ_=>?_,λ_=>?_⟩
  .have N:=L.trans n
   let⟨cn,aH⟩:=cG (cz j a.bP) l
   have C:∀{M M':E},J t M->J M M'->∀c∈[b.size,s.size,aa.size,m.size],∀ab,af M' c ab=af M c ab:=λT h' c d ab=>aJ (h'.same c (w T c d)) ab
   refine(iu (e:=[]) aL (q.bo.le N.le) q.types a.bP).aH n (w (J.az _)) λs7 l7 m7 X e x7 v7=>⟨_,rfl,C n x7 _ aL _,C n x7 _ aL _,C n x7 _ aL _,?_⟩
   subst e
   have X:=X.le (bA _ _)
   have l7:=X.len
   refine⟨V,V,cn,X.aF aH,?_⟩
   refine(dJ (e:=[]) aL (q.bo.le ((L.trans v7).le.trans (zV _))) q.types cn).aH v7 (w (J.az _)) λs8 l8 m8 a4 e x8 v8=>⟨_,rfl,C v7 x8 _ aL _,C v7 x8 _ aL _,?_⟩
   subst e
   have z8:=v8.size
   have h3:=Qw q.types a.op a.bP l
   have an:eP (bG [b.size] m8) aj i.aD:=ht.le ((zV m).trans ((L.trans v8).bG λc d=>Or.inr (by simp at d;omega)))
   refine(J5 (g:=[b.size]) bE (an.le (bA _ _)) ae V (e:=B) ⟨y0,V⟩ V (s8.len:Int)).mono λv m9⟨s9,b9,e,_,aP,H,x9⟩=>⟨λc d=>x9.same c (w v8 c d),_,_,e,?_⟩
   intro z
   have v9:=v8.trans x9
   have al:J b z:=(x5.trans v9).ah V _ _
   have W:eP z s9 b9.aD:=((aP an).le (cA (a:=[b.size]) aL λ_ T=>T)).le (bA _ _)
   have a9:z.size=m9.size:=aw _ _ _ _
   have z9:=v9.size
   have K:∀{M:E},z.size<=M.size->∀c∈[b.size,s.size,aa.size,m.size],c<M.size:=λT c d=>by simp at d;omega
   clear_value z
   refine(pS W).aH (J.az z) (K (ad _)) λa7 a6 ag aA _=>⟨_,rfl,?_⟩
   obtain⟨aS,_⟩:=H.1.aT
   refine(Dw (W.le aA.le) (w:=17) (e:=B) ⟨ag.1,ag.2.1⟩ λao u hj aM=>?_).aH aA (K (ad _)) λa8 aT _ a_ P=>⟨_,rfl,λ_=>?_,λ_=>?_⟩
   .have:=ag.2.2 ao u hj aM
    have:=(aS ao u hj).fe.lK V
    omega
   .have Q:=al.trans P
    refine(mC (S:=[]) aL ((I.ext (f.trans Q)).le (zV _)) B V).aH P (K (ad _)) λay ar au aD ax ba ak=>⟨_,rfl,?_⟩
    have az:=al.trans ak
    have aI:ap au ay ar:=(aD.done aL (oh ax.2)).le (bA _ _)
    refine(iI au ay s9 ar b9 _ (f.trans az) az (K ak.size) (W.le ak.le) aI ax.2 H.1 H.2).mono λv r⟨o,h,b2,e,p⟩=>⟨o,_,_,e,?_⟩
    intro g
    exact p g rfl
   .have Q:=al.trans P
    refine(iI aT k8 s9 y b9 _ (f.trans Q) Q (K P.size) (W.le P.le) (I.ext (f.trans Q)) V H.1 H.2).mono λv r⟨o,h,b2,e,p⟩=>⟨o,_,_,e,?_⟩
    intro g
    exact p g rfl
  .have N:=L.trans n
   refine(iI m6 k8 aj y i _ N (x5.trans n) (w n) (ht.le N.le) (I.ext N) V ae (ad _)).mono λv r⟨o,h,b2,e,p⟩=>⟨o,_,_,e,?_⟩
   intro g
   exact p g rfl
section
variable{c:List gP}
def SW.fj{b:List bz}{N a:Nat}(h:SW b c N)(e:a<=N):SW b c a:=λd f=>h d (bH f e)
def GM{K:List bz}:∀N:Nat,SW K c N:=by
 intro N;induction N with
 |zero=>intro v hb;have:=v.Hh;omega
 |succ N t=>
 intro v hb p Q hS aG a5 a6 k8 a3 ae hn hs ao ay aK aR;let⟨aD,A⟩:=v;have ah:=ay.aT;rw[Bk.qI]at*;simp only[Bk.jT,Bk.jv]at*;apply yT;simp -zeta only[aC,aB];intro R j h f m5 G;let⟨x3,hl,s1,s2,s3⟩:=qd (a:=R) (b:=j) (c:=h) rfl rfl rfl;have s4:f.size=h.size+1:=by simp[f]
 have aj:J f G:=(J.push f _).ah (ad _) _ _;have aE:J h G:=(J.push h _).trans aj;have g0:GS (f.size::j.size::p) h G (.mk h.size 0 0 0) []:=(GS.new _ h).ext gE.mono aj;have B0:cE G f.size di [.s (.mk h.size 0 0 0),.i A]:=cE.ah (m:=m5) (o:=0) (r:=[.s (.mk h.size 0 0 0),.i A]) (cE.push f _ _);have al:∀d∈j.size::p,d<h.size:=bO hS x3.size (hl _ aL);clear_value G;clear_value h;have ap:=hs.len;have ar:=By aD;have aX:=fZ aD;refine dU (n:=aD.length) (ap▸hs.gT) (λl M=>J h M/\∃s u,GS (f.size::j.size::p) h M s u/\cE M f.size di [.s s,.i A]/\u.length=l/\WL K c.length True ae u/\dc u=dc (aD.take l)/\sw u<=sw (aD.take l)) ⟨aE,_,[],g0,B0,rfl,WL.nil _ _ _ _,aL,aL⟩ ?_;rintro l M aF μ hk ⟨xM,s,u,O,B,aT,wl,P,au⟩ aA
 have y:=x3.trans xM;have aQ:∀{q:E},h.size<=q.size->∀d∈[j.size,R.size,Q.size],d<q.size:=λz d e=>aO (hl d e) z;have hy:=O.bn;have zM:=xM.size;have aH:=B.lt;refine dit (λz=>?_) λz=>?_
 .let⟨x,D⟩:=cG aD l;let⟨pa,pk,ha,Y,e0,e1,e2,e3,e4⟩:=hs.aF D;have a0:=OT D;have a2:=cU.mu x;have aM:=qe x.bD;have a1:=pU D;have aZ:=qN D;have ab:=ah.1 l x D;have aP:=sZ (aD.take l);have aU:=fZ (aD.take l);have aY:=ar (l+1);refine⟨V,V,_,y.af e0,_,y.af e1,_,y.af e2,_,y.af e3,_,y.af e4,?_⟩;intro m7 k m9;have x8:J M k:=(J.push M _).ah (ad _) _ _;have s8:k.size=M.size+1:=by simp[k,m7,aw]
  have x9:J k m9:=J.push _ _;have ak:GB (s.D::f.size::j.size::p) k m9 (.mk k.size 0 0 0) []:=GB.new _ k;clear_value m9;clear_value k;have X:∀d∈s.D::f.size::j.size::p,d<k.size:=λd e=>by
   simp only[aV]at e;rcases e with g|g|g|g
   .omega
   .omega
   .omega
   .have:=hS d g;omega
  have Z:=Y.len;refine eA (n:=x.bD.length) (Z▸Y.gT) (λF ks q=>J k q/\∃lk,GB (s.D::f.size::j.size::p) k q ks lk/\lk.length=F/\(∀(w:Nat)(v:Bk),lk[w]? =some v->WB K c.length True (ae+dc (aD.take l)+BH K x.op x.bP w) v)/\bw lk<=bw (x.bD.take F)) ⟨x9,[],ak,rfl,aL,aL⟩ ?_;rintro F ks I I2 μ2 hj ⟨H,lk,W,aS,ag,an⟩ az;have C:J Q I:=y.trans (x8.trans H);have yk:=W.bn;have z2:=H.size;have aa:∀{q:E},k.size<=q.size->∀d∈[M.size,j.size,R.size,Q.size],d<q.size:=λz d e=>by simp at e;omega
  refine dit (λh2=>?_) λh2=>?_
  .let⟨v,T⟩:=cG x.bD F;have aN:=wK T;have am:=ur T;refine(J6 (D:=ks.D::s.D::f.size::j.size::p) (λd e=>?_) (hn.le C.le) (ha.ext C) (Y.le C.le) (ao.ext C) ab V V T (t.fj V)).aH (J.az I) (aa z2) λss b' a4 aq af ac _=>⟨_,_,rfl,?_⟩
   .rcases List.mem_cons.1 e with g|g
    .omega
    .have:=X d g;omega
   refine GB.kK (c:=b') (W.ext rJ.mono ac) ((H.trans ac).fz []) aq V λr' q g2 f2 a7 q2=>⟨J.oH ((H.trans ac).aK _) f2.ext (aa (ad _)),az V _ _ ⟨f2.ext,_,g2,bE,λw b2 t=>?_,?_⟩⟩
   .rcases aW w lk.length with U|U
    .rw[ax U]at t;exact ag w b2 t
    .rw[aI U]at t;have:w -lk.length=0:=by have:=av t;simp at this;omega
     rw[this]at t;simp at t;subst t;have:w=F:=V;subst this;exact af.1
   .rw[oQ,uq,zw,am];have:=af.2;omega
  .have ac:lk.length=x.bD.length:=V;rw[bY V]at an;have U:J M I:=x8.trans H;have T:=B.ext U;have G2:=O.ext gE.mono U;refine⟨s,T.cg 0,?_⟩;refine(bN (s.D::f.size::j.size::p) (ha.ext C) V).aH (J.az I) (aa z2) λs' l' af ga g t _=>⟨_,rfl,aJ (t.same _ V) _,aJ (t.same _ V) _,aJ (t.same _ V) _,aJ (t.same _ T.lt) _,?_⟩;subst g;intro am;refine Gr.box (g:=[.i 0,.i 0,.i 0,.s .nil,.s .nil]) (L:=[M.size,j.size,R.size,Q.size]) (j:=0) (y:=72) (i:=[.s s,.i A]) (w:=⟨x.op,x.bP,x.bZ,x.args,lk⟩) gE.mono bh (G2.ext gE.mono t) (((xM.trans U).trans t).fz []) ⟨s',ks,rfl,(ga.done (λd e=>oh (X d e)) V),nF.le (t.df _) (W.done rJ.mono X bh (by show lk.length<=_;omega))⟩ V (T.ext t) aL bh ⟨V,aL⟩ (λd e=>by have h1:=t.size;simp at e;omega) λr' m' g' B' f' z' q'=>aA V _ ⟨f'.ext,r',_,g',B',bE,wl.yD (ab.PH id ab.fe.bZ ac ag|>λz=>by rw[P];exact z),?_,?_⟩
   .rw[cV,kM,ta,P];have g:dn (⟨x.op,x.bP,x.bZ,x.args,lk⟩:cU)=dn x:=rfl;omega
   .rw[dC,mK,vm];have h5:(⟨x.op,x.bP,x.bZ,x.args,lk⟩:cU).w=1+x.args.length+bw lk:=cU.mu _;omega
 .have Z:l=aD.length:=V;subst Z;rw[fu]at P au;refine⟨s,B.cg 0,A,B.cg 1,?_⟩;intro m7;have k:Le (bG (f.size::j.size::p) M) (bG p m7):=cA aL λd e=>ai _ (ai _ e);have t:=O.ne B bh;refine⟨s,.mk u A,rfl,eP.le k (O.nH gE.mono (λe=>?_) bh (by show u.length<=_;omega)),⟨.of wl (by rw[P];exact ah.2),by rw[Bk.qI];omega⟩,y.ah V _ _⟩;rcases List.mem_cons.1 e with g|g
  .exact t g
  .have:=al _ g;omega
def MX{f:List Nat}{e:E}(U:∀a∈f,a<e.size){u v:O}{p:List bz}(s:eL e u v p c){W:Nat}(hW:W<=200000000000)(hk:yi p c True W):uR 211 [.agg #[O.v u,O.v v]] e f p λH=>yi p H True W:=by
 apply GN;simp -zeta only[aC,aB];intro g a2;let⟨I,D⟩:=dD (a:=g) (c:=a2) rfl rfl;have s1:g.size=e.size+1:=by simp[g]
 clear_value a2;have an:=s.iU.len;have az:=s.oD;refine(fV (b:=g.size::f) (bO U I.size (D _ aL)) (s.le I.le).bo s.types).mono λ_ Z⟨ah,r,ai,K⟩=>?_;subst r;refine⟨K.dv D,_,rfl,?_⟩;intro aa av ag;have u2:=I.trans K;let⟨x5,B0,g0,s3,s5⟩:=kX (b:=aa.size::g.size::f) iR.mono (d:=Z) (a:=aa) (c:=av) (h:=ag) rfl rfl rfl;clear_value ag;have F:∀a∈[g.size,e.size],a<Z.size:=λa j=>K.lt (D a j);have X:∀a∈g.size::f,a<Z.size:=λa j=>K.lt (bO U I.size (D _ aL) a j);refine kU (R:=λb d M=>∃u v H,Value.agg #[O.v b,O.v d]=.agg #[O.v u,O.v v]/\eL (bG f M) u v p H/\yi p H True W/\J e M) (r:=c.length) (f:=e) (b:=f) iR.mono bh bh U ⟨V,F _ aL⟩ u2 s3 ai an V x5 B0 g0 (λ_ q=>q.params.length<=3/\q.cR.length<=3/\WB p c.length True q.params.length q.body/\q.body.w<=W) (λb k Y o h1 h2 d h i=>⟨b,k,Y,rfl,⟨h1,h2,s.types,V⟩,HP hk.iW d h,i⟩) λau M st Y ax μ aj ay L ab N aw=>?_
 let⟨q,hq⟩:=cG c au aj;let⟨am,al,ar,hw⟩:=hk.dz q (aq hq);have B:=u2.trans L;let⟨aA,aD,b,c1,c2,c3,P,Q,T,y,z⟩:=s.iU.aF hq;have G:∀{w:Value}{b o:Nat},af e b o=some w->af M b o=some w:=λh=>B.af h;refine⟨st,N.cg 1,V,V,_,G P,_,G Q,_,G T,_,G y,_,G z,V,V,_,G y,_,G z,?_⟩;intro i;have hy:=ab.bn;have ac:=N.lt;have zM:=L.size;have d:J M i:=J.push _ _;have s7:i.size=M.size+1:=by simp[i]
 have ak:ap i (.mk M.size 0 0 0) []:=mF _ _ _ _ _ _;clear_value i;have k:∀{w:Value}{b o:Nat},af e b o=some w->af i b o=af M b o:=λh=>by rw[d.af (G h),G h]
 have C:∀{b o:Nat},b<M.size->af i b o=af M b o:=λh=>aJ (d.same _ h) _;have A:e.size<M.size:=L.lt (F _ aL);refine⟨k y,k z,C A,C A,C A,k P,k Q,k T,k y,k z,C A,C ac,?_⟩;refine(GM q.body.w q.body (ad _) (st.D::aa.size::g.size::f) i (λa j=>?_) u v b (.mk M.size 0 0 0) [] q.params.length (s.le (B.trans d).le) (c3.le (B.trans d).le) ak ar V bE).aH (L.trans d) F λss b' M1 ao ae t u1=>⟨_,_,rfl,?_⟩
 .simp only[aV]at j;rcases j with r|r|r|r
  .omega
  .omega
  .have:=X a (by simp[r]);omega
  .have:=X a (by simp[r]);omega
 have x:∀{w:Value}{b o:Nat},af e b o=some w->af M1 b o=af i b o:=λh=>by rw[t.af (d.af (G h)),d.af (G h)]
 refine⟨x P,x Q,x T,x y,x z,aJ (t.same _ (d.lt A)) _,aJ (t.same _ (d.lt ac)) _,?_⟩;exact vU (b:=g.size::f) (v:=ah) (x:=Y) X (λa j=>by have h1:=F a j;have h2:=u1.size;omega) u1 (ab.ext iR.mono (d.trans t)) (N.ext (d.trans t)) V (c1.ext (B.trans (d.trans t))) (c2.ext (B.trans (d.trans t))) ao ⟨V,V⟩ V λs' M' g' B' x'=>aw s' M' _ g' B' x' ⟨am,al,ae.1,bH ae.2 hw⟩
end
section
variable{m:E}{t:O}{b:Bk}{a:List Nat}
def Rk(a:Int)(l:List cU):Nat:=l.countP λs=>s.op=a
def XQ:∀l:List cU,Rk 14 l+Rk 15 l<=l.length
 |[]=>by simp[Rk]
 |s::l=>by
  have:=XQ l;simp only[Rk,List.countP_cons,aZ]at this⊢;by_cases h:s.op=14
  .simp[h];omega
  .by_cases a:s.op=15
   .simp[a];omega
   .simp[h,a];omega
def Th(a:Int)(l:List cU)(s:cU):Rk a (l++[s])=Rk a l+(if s.op=a then 1 else 0):=by
 simp[Rk,List.countP_append,List.countP_cons]
def IL(g:eP m t b.aD):sV 271 [.agg #[O.v t,vi b.aS]] m λk=>0<=k/\k<=b.aD.length/\∀(i:Nat)(a:cU),b.aD[i]? =some a->(i:Int)<k->a.op=14\/a.op=15:=by
 apply Be;simp -zeta only[aC,aB];intro c;have G:J m c:=J.push _ _;have z:∀q∈[m.size],q<c.size:=by simp[c]
 clear_value c;have A:=g.len;refine dU (n:=b.aD.length) (A▸g.gT) (λk M=>J c M/\∀(i:Nat)(a:cU),b.aD[i]? =some a->i<k->a.op=14\/a.op=15) ⟨J.az _,λi a _ h=>V⟩ ?_;rintro k M L μ S ⟨o,l⟩ D
 have u:=G.trans o;have R:∀{j:E},J m j->∃f:Int,vi (k:Int)=vi f/\(0<=f/\f<=b.aD.length/\∀(i:Nat)(a:cU),b.aD[i]? =some a->(i:Int)<f->a.op=14\/a.op=15)/\J m j:=λI=>⟨k,rfl,⟨V,V,λi a d h=>l i a d V⟩,I⟩;refine⟨λh=>?_,λh=>R u⟩;simp only[ar]at h;let⟨a,d⟩:=cG b.aD k;let⟨p,C,P,T,s,g1,g2,v,w⟩:=g.aF d;refine⟨V,V,_,u.af s,_,u.af g1,_,u.af g2,_,u.af v,_,u.af w,?_⟩;refine(AL (x:=a) p C M).aH o z λN U y H F=>⟨_,rfl,λB=>D V _ ⟨F,λi K e Q=>?_⟩,λ_=>R (u.trans H)⟩;by_cases r:i=k
 .subst r;rw[d]at e;simp at e;subst e;exact y.1 B
 .exact l i K e V
def xV(L:∀g∈a,g<m.size)(C:eP m t b.aD){d:Nat}(hm:d<=b.aD.length)(e:Int)(K:∀(i:Nat)(s:cU),b.aD[i]? =some s->i<d->0<s.args.length)(hb:b.aD.length<=10^12):
 kZ 272 [.agg #[O.v t,vi b.aS],vi d,vi e] m a λl=>(∀y∈l,∃(i:Nat)(s:cU),i<d/\b.aD[i]? =some s/\y∈s.args)/\l.length<=Rk e (b.aD.take d):=by
 apply Cp
 simp -zeta only[aC,aB]
 intro c w
 have z:J m c:=J.push _ _
 have N:∀g∈[m.size],g<c.size:=by simp[c]
 have Q:J c w:=J.push _ _
 have I:GI a c w (.mk c.size 0 0 0) []:=GI.nil a c
 clear_value w
 clear_value c
 have ac:=C.len
 refine eA (n:=d) V (λk s M=>J c M/\∃l,GI a c M s l/\(∀y∈l,∃(i:Nat)(s:cU),i<d/\b.aD[i]? =some s/\y∈s.args)/\l.length<=Rk e (b.aD.take k)) ⟨Q,[],I,aL,aL⟩ ?_
 rintro k s M S μ hk ⟨p,l,q,v,P⟩ E
 have u:=z.trans p
 refine dit (λr=>?_) λr=>?_
 .let⟨x,o⟩:=cG b.aD k
  let⟨U,kk,B,ab,F,W,X,G,Y⟩:=C.aF o
  have Z:=B.len
  have:=K k x o V
  let⟨y,D⟩:=cG x.args 0
  have j:Rk e (b.aD.take (k+1))=Rk e (b.aD.take k)+(if x.op=e then 1 else 0):=by rw[aU o,Th]
  have aa:Rk e (b.aD.take k)<=(b.aD.take k).length:=List.countP_le_length
  have ad:=qK k b.aD
  refine⟨V,V,_,u.af F,λh=>⟨V,V,_,u.af G,bh,V,y,(B.ext u).aF D,?_⟩,λh=>E V _ _ ⟨p,l,q,v,?_⟩⟩
  .intro m3
   simp only[aG]at h
   rw[an h]at j
   refine GI.kK q (p.fz []) (λg j=>z.lt (L g j)) V λaf T H A _ _=>⟨J.oH (p.aK _) A.ext N,E V _ _ ⟨A.ext,_,H,λR f=>?_,bE⟩⟩
   rcases List.mem_append.1 f with f|f
   .exact v R f
   .simp at f;subst f;exact⟨k,x,V,o,aq D⟩
  .simp only[aj]at h
   rw[ae h]at j;omega
 .have f:k=d:=V
  subst f
  exact⟨s,l,rfl,q.cy (λ_ r=>r) z.size,⟨v,P⟩,u⟩
def Rl:∀{l:List cU},(∀x∈l,dn x=0)->dc l=0
 |[],_=>rfl
 |x::l,h=>by rw[kM,h x bg,Rl λy a=>h y (ai _ a)]
def TX:∀{l:List cU},(∀x∈l,2<=x.w)->2*l.length<=sw l
 |[],_=>aL
 |x::l,h=>by
  have b:=h x bg;have c:=TX λy a=>h y (ai _ a);rw[mK,aZ];omega
def LU(hS:∀c∈a,c<m.size){X:O}{q:List Int}{ds:List bz}{nr g:Nat}(o:eP (bG a m) t b.aD)(hf:ap m X q)(bn:q.length<=3)(am:WB ds nr True (g+q.length) b)(hw:b.w<=100000000000)(ha:g<=10^12){h:Int}(hx:0<=h/\h<(g:Int)):
 nu 247 [.agg #[O.v t,vi b.aS],vi h,O.v X,vi g] m a λb'=>WB ds nr True (g+q.length) b'/\b'.w<=b.w+8:=by
 apply EH
 simp -zeta only[aC,aB]
 intro p T
 let⟨B,C⟩:=dD (a:=p) (c:=T) rfl rfl
 have s1:p.size=m.size+1:=by simp[p]
 have s2:T.size=m.size+2:=by simp[T,s1]
 clear_value T
 let⟨an,aM⟩:=am.aT
 have al:=o.le (bA _ _)
 have bk:=Bk.mu b
 have bu:=fZ b.aD
 have aO:=o.len
 have bm:=o.cap
 have bo:=hf.len
 refine(IL (al.le B.le)).aH (J.az T) C λmn m3 a6 x3 _=>⟨_,rfl,?_⟩
 obtain⟨kn,a4⟩:∃kn:Nat,mn=kn:=⟨mn.toNat,V⟩
 subst a4
 have aK:∀(d:Nat)(s:cU),b.aD[d]? =some s->d<kn->s.op=14\/s.op=15:=λd s w aG=>a6.2.2 d s w V
 have ak:∀(d:Nat)(s:cU),b.aD[d]? =some s->d<kn->0<s.args.length:=λd s w aG=>by
  have:=aK d s w aG;have:=(an d s w).fe.lK V;omega
 refine(xV (a:=[]) aL (al.le (B.trans x3).le) (d:=kn) V 14 ak V).aH x3 C λsd G m4 gd hd x4 v4=>⟨_,rfl,?_⟩
 refine(xV (a:=[]) aL (al.le (B.trans v4).le) (d:=kn) V 15 ak V).aH v4 C λsr Q m5 gr hr x5 v5=>⟨_,rfl,?_⟩
 have bl:=XQ (b.aD.take kn)
 have bw:(b.aD.take kn).length=kn:=bE
 have aN:ap m5 sr Q:=(gr.done aL V).le (bA _ _)
 refine(dw aN h).aH v5 C λbi m6 bj x6 A=>⟨_,rfl,λ_=>⟨t,b,rfl,o.le (((B.trans A).ah V _ _).df _),⟨am,V⟩,(B.trans A).ah V _ _⟩,λbp=>⟨λ_=>⟨t,b,rfl,o.le (((B.trans A).ah V _ _).df _),⟨am,V⟩,(B.trans A).ah V _ _⟩,λa7=>?_⟩⟩
 have bq:0<q.length:=by simp only[aj]at a7;omega
 have aH:∀s∈b.aD.take kn,∃d:Nat,d<kn/\b.aD[d]? =some s:=λs o=>by
  let⟨d,w⟩:=List.mem_iff_getElem?.1 o;have:=av w;rw[dH V]at w;exact⟨d,V,w⟩
 have aE:dc (b.aD.take kn)=0:=Rl λs o=>by
  let⟨d,Z,L⟩:=aH s o;have:=aK d s L Z;exact ae λY:pd s.op=>by have:=Y.2;omega
 have bs:2*kn<=sw (b.aD.take kn):=by
  have:=TX (l:=b.aD.take kn) λs o=>by
   let⟨d,Z,L⟩:=aH s o;have:=ak d s L Z;have:=cU.mu s;omega
  omega
 have bv:sw b.aD=sw (b.aD.take kn)+sw (b.aD.drop kn):=by rw[<-dC,dm]
 have a1:dc b.aD=dc (b.aD.take kn)+dc (b.aD.drop kn):=by rw[<-cV,dm]
 have Xs:∀y:Int,(∃(d:Nat)(s:cU),d<kn/\b.aD[d]? =some s/\y∈s.args)->0<=y/\y<((g+q.length:Nat):Int):=λy⟨d,s,Z,L,h3⟩=>by
  have h4:=(an d s L).fe.args y h3;have h5:=Tj (b.aD.take kn) d;rw[Ml,jc V]at h5;omega
 refine(sj (S:=[]) aL ((aN.ext x6).le (zV _)) h V).aH A C λbd a_ m8 aD aI x8 v8=>⟨_,rfl,?_⟩
 have y2:=aD.bn
 have bV:=x8.size
 have a8:ap (bG [bd.D] m8) sd G:=((gd.done aL V).le (bA _ _)).le (((x5.trans x6).le.trans (zV m6)).trans (x8.bG λc e=>Or.inr (by simp at e;omega)))
 refine wO (n:=q.length) V (λk sd sr M=>J m6 M/\∃G Q,ap (bG [sr.D] M) sd G/\GI [] m6 M sr Q/\(∀y∈G,0<=y/\y<((g+q.length:Nat):Int))/\G.length<=Rk 14 (b.aD.take kn)/\(∀y∈Q,0<=y/\y<((g+q.length:Nat):Int))/\Q.length<=Rk 15 (b.aD.take kn)+k) ⟨x8,G,a_,a8,aD,λy P=>Xs y (hd.1 y P),hd.2,λy P=>Xs y (hr.1 y (aI.1 y P)),O8 aI.2 hr.2⟩ ?_
 rintro k H D u aw μ hk ⟨I,ac,R,N,K,aa,aF,ab,br⟩ ao
 have U:=(B.trans A).trans I
 have y3:=K.bn
 have r:∀c∈[p.size,m.size],c<u.size:=λc e=>I.lt (A.lt (C c e))
 refine⟨λY=>?_,λY=>?_⟩
 .simp only[ar]at Y
  let⟨y,P⟩:=cG q k
  have ew:cT ((g:Int)+(k:Int))=(g:Int)+k:=aQ V V
  rw[ew]
  have ah:∀{M:E},J u M->af M X.D (X.off+Int.toNat (k:Int)*1)=some (vi y):=λv=>(hf.ext (U.trans v)).aF P
  have ay:∀{M:E},J u M->aw H D (cT ((k:Int)+1)) M/\μ H D (cT ((k:Int)+1)) M<μ H D k u:=λv=>ao V _ _ _ ⟨I.trans v,ac,R,N.le (v.df _),K.ext v,aa,aF,ab,V⟩
  have Ox:∀{M:E},J u M->jL (M.push (.cells (bt [.i ((g:Int)+k)]) aA)) aA [.i 0] 8 D (.mk M.size 0 1 1) λau W=>eG [p.size,m.size] (M.push (.cells (bt [.i ((g:Int)+k)]) aA)) W/\aw H au (cT ((k:Int)+1)) W/\μ H au (cT ((k:Int)+1)) W<μ H D k u:=λ{M} v=>by
   refine GI.kK (K.ext v) ((I.trans v).fz []) aL V λau W g' f' z' q'=>⟨J.oH ((I.trans v).aK _) f'.ext (λc e=>A.lt (C c e)),ao V _ _ _ ⟨f'.ext,ac,_,(N.le (v.df _)).le (pD λc e hn=>?_),g',aa,aF,λag z=>?_,bE⟩⟩
   .simp at hn;refine⟨?_,q' c e hn⟩;simp;rcases z'.2 with f|f<;>omega
   .rcases List.mem_append.1 z with z|z
    .exact ab ag z
    .simp at z;omega
  refine⟨V,V,y,ah (J.az _),λ_=>?_,λ_=>⟨V,V,y,ah (J.az _),λ_=>?_,λ_=>ay (J.az _)⟩⟩
  .refine(dw (N.le (bA _ _)) _).aH (J.az u) r λbb aS _ F _=>⟨_,rfl,λ_=>?_,λ_=>⟨V,V,y,ah F,λ_=>?_,λ_=>ay F⟩⟩
   .refine(sj (S:=[D.D]) (by have:=F.size;simp;omega) (N.le (F.df _)) _ V).aH F r λaT aR ax aP aq aU az=>⟨_,rfl,ao V _ _ _ ⟨I.trans az,aR,R,aP.done (by have:=F.size;simp;omega) (oh aq.2),K.ext az,λag z=>aa ag (aq.1 ag z),oh aq.2,ab,V⟩⟩
   .intro ax
    exact Ox F
  .intro ax
   exact Ox (J.az _)
 .have a9:ap u D R:=(K.done aL V).le (bA _ _)
  have F:∀{M:E},u.size<=M.size->∀c∈p.size::a,c<M.size:=λz c e=>by
   rcases List.mem_cons.1 e with f|f
   .have:=r p.size aL;omega
   .have:=hS c f;have:=U.size;omega
  refine(eY (c:=p.size::a) (F (ad _)) 14 (N.le (bA _ _)) V).aH (J.az u) r λba bB bD ax aW ah _=>⟨_,rfl,?_⟩
  subst aW
  have bR:=ax.bn
  have bf:=ah.size
  refine(jg (c:=ba.D::p.size::a) (λc e=>?_) 16 h).mono λbQ bF⟨bg,bx,f,a0,a3,aq⟩=>⟨λc e=>aq.same c (ah.lt (r c e)),_,_,_,_,_,f,?_⟩
  .rcases List.mem_cons.1 e with f|f
   .omega
   .exact F bf c f
  intro bH
  have au:=ah.trans aq
  refine GS.kK (x:=eZ 16 h) (ax.ext gE.mono aq) (au.fz []) a0 a3 bE λbb bI ay P bW bM=>⟨J.oH (au.aK _) P.ext r,?_⟩
  have bS:=ay.bn
  have bU:=au.size
  have aT:=P.size
  refine(eY (c:=bb.D::p.size::a) (λc e=>?_) 15 (a9.ext P.ext) V).aH P.ext r λbP bC bJ aY aX be aS=>⟨_,rfl,?_⟩
  .rcases List.mem_cons.1 e with f|f
   .omega
   .exact F aT c f
  subst aX
  refine GS.all (ay.ext gE.mono be) (aS.fz []) (aY.done gE.mono (λc e=>?_) bh bE) bE λaR aP az v bX bN=>⟨J.oH aS v.ext r,V,V,V,?_⟩
  .rcases List.mem_cons.1 e with f|f
   .omega
   .exact F aT c f
  have bT:=az.bn
  have z9:=U.size
  have a5:Le (bG a m) (bG (aR.D::p.size::a) aP):=(U.trans v.ext).bG λc e=>by
   simp only[aV]at e;rcases e with f|f|f
   .exact Or.inr V
   .exact Or.inr V
   .exact Or.inl f
  have ek:Int.toNat (kn:Int)=kn:=V
  have el:Int.toNat (t.len:Int)=t.len:=V
  rw[ek,el]
  have a2:eP (bG (aR.D::p.size::a) aP) (t.cut kn t.len 5) (b.aD.drop kn):=by
   have:=(o.le a5).KF (i:=kn) (j:=t.len) V V;rwa[aO,bY (ad _),<-aO]at this
  refine GS.all az v a2 bE λbc bK aZ ag bZ bO=>⟨J.oH v.ext ag.ext r,aJ (by rw[ag.ext.same _ (r _ aL),v.ext.same _ (r _ aL)]) _,?_⟩
  intro bL
  have aU:=aZ.done gE.mono (F (ad _)) bh bE
  have W:dc [eZ 16 h]=0:=jU bh [h]
  have e2:sw [eZ 16 h]=2:=oC 16 [h]
  have W1:WL ds nr True (g+q.length) (ac.map (eZ 14)++[eZ 16 h]++R.map (eZ 15)++b.aD.drop kn):=by
   refine WL.append (WL.append ((rP bh aa).yD ?_) ?_) ?_
   .rw[jU bh];exact DL bh ⟨hx.1,V⟩
   .rw[cV,jU bh,W];exact rP bh ab
   .rw[cV,cV,jU bh,jU bh,W];have:=an.drop kn;rwa[aE]at this
  refine⟨bc,.mk (ac.map (eZ 14)++[eZ 16 h]++R.map (eZ 15)++b.aD.drop kn) b.aS,rfl,eP.le (cA aL λc e=>ai _ e) aU,⟨.of W1 ?_,?_⟩,(U.trans ag.ext).ah V _ _⟩
  .rw[cV,cV,cV,jU bh,jU bh,W]
   rw[a1,aE]at aM
   simpa using aM
  .rw[Bk.qI,dC,dC,dC,oC,oC,e2];omega
end
def Zw(c:List bz)(d:List gP)(b:Bk):Prop:=∀(S:List Nat)(m:E),(∀a∈S,a<m.size)->∀(f r t:O)(a:Nat),eL m f r c d->eP m t b.aD->WB c d.length True a b->a+4*b.w<=10^12->9*b.w<=100000000000->
 nu 231 [.agg #[O.v f,O.v r],.agg #[O.v t,vi b.aS],vi a] m S λe=>WB c d.length True a e/\e.w+8<=9*b.w
def Da{z:List bz}{rs:List gP}:∀B:Bk,Zw z rs B:=by
 refine Bk.ind ?_;intro aD X ih p ac hS aS a6 bW q I hs bk bx bB;have a1:=bk.aT;rw[Bk.qI]at*;simp only[Bk.jT,Bk.jv]at*;apply wC;simp -zeta only[aC,aB];intro ag j t g m5 m6;let⟨x3,hl,s1,s2,s3⟩:=qd (a:=ag) (b:=j) (c:=t) rfl rfl rfl;have s4:g.size=t.size+1:=by simp[g]
 have a8:J g m6:=(J.push g _).ah (ad _) _ _;have bp:J t m6:=(J.push t _).trans a8;have g0:GS (g.size::j.size::p) t m6 (.mk t.size 0 0 0) []:=(GS.new _ t).ext gE.mono a8;have B0:cE m6 g.size di [.s (.mk t.size 0 0 0),.i X]:=cE.ah (m:=m5) (o:=0) (r:=[.s (.mk t.size 0 0 0),.i X]) (cE.push g _ _);have a_:∀d∈j.size::p,d<t.size:=bO hS x3.size (hl _ aL);clear_value m6;clear_value t;have be:=hs.len;have bg:=By aD;have bM:=fZ aD;refine eA (n:=aD.length) (be▸hs.gT) (λk(v:Int) M=>v=((q+dc (aD.take k):Nat):Int)/\J t M/\∃s w,GS (g.size::j.size::p) t M s w/\cE M g.size di [.s s,.i X]/\w.length=k/\WL z rs.length True q w/\dc w=dc (aD.take k)/\sw w<=9*sw (aD.take k)) ⟨aL,bp,_,[],g0,B0,rfl,WL.nil _ _ _ _,aL,aL⟩ ?_;rintro k v0 M aR μ hk ⟨bj,xM,s,w,am,Z,bI,wl,au,bi⟩ a5
 subst bj;have v:=x3.trans xM;have hy:=am.bn;have zM:=xM.size;have bs:=Z.lt;refine dit (λao=>?_) λao=>?_
 .let⟨c,N⟩:=cG aD k;let⟨pa,pk,ha,aK,e0,e1,e2,e3,e4⟩:=hs.aF N;have bR:=OT N;have bT:=cU.mu c;have bC:=qe c.bD;have bS:=pU N;have bQ:=qN N;have U:=a1.1 k c N;have bF:=sZ (aD.take k);have bL:=fZ (aD.take k);have bP:=bg (k+1);refine⟨V,V,_,v.af e0,_,v.af e1,_,v.af e2,_,v.af e3,_,v.af e4,?_⟩;intro m7 l Q;have x8:J M l:=(J.push M _).ah (ad _) _ _;have s8:l.size=M.size+1:=by simp[l,m7,aw]
  have x9:J l Q:=J.push _ _;have s9:Q.size=l.size+1:=by simp[Q]
  have a9:GB (s.D::g.size::j.size::p) l Q (.mk l.size 0 0 0) []:=GB.new _ l;clear_value Q;clear_value l;have aF:∀d∈s.D::g.size::j.size::p,d<l.size:=λd h=>by
   simp only[aV]at h;rcases h with e|e|e|e
   .omega
   .omega
   .omega
   .have:=hS d e;omega
  have aM:=aK.len;have D:∀{f:E},l.size<=f.size->∀d∈[M.size,j.size,ag.size,ac.size],d<f.size:=λao d h=>by simp at h;omega
  have z9:Q.size=l.size+1:=s9;refine(iu (e:=[l.size]) bE (I.bo.le (v.trans (x8.trans x9)).le) I.types c.bP).aH (J.az Q) (D x9.size) λsc lc bU aY e a7 _=>⟨_,rfl,?_⟩;subst e;have bJ:=aY.len;refine eA (n:=c.bD.length) (aM▸aK.gT) (λu ks f=>J l f/\ap (bG [ks.D] f) sc (cz z c.bP)/\∃lk,GB (s.D::g.size::j.size::p) l f ks lk/\lk.length=u/\(∀(P:Nat)(B:Bk),lk[P]? =some B->WB z rs.length True (q+dc (aD.take k)+BH z c.op c.bP P) B)/\bw lk<=9*bw (c.bD.take u)) ⟨x9.trans a7,aY,[],a9.ext rJ.mono a7,rfl,aL,aL⟩ ?_;rintro u ks A I2 μ2 hj ⟨ak,aZ,lk,gk,bH,aU,bd⟩ bn;have F:J ac A:=v.trans (x8.trans ak);have yk:=gk.bn;have R:=ak.size;refine dit (λh2=>?_) λh2=>?_
  .let⟨B,T⟩:=cG c.bD u;let⟨tb,a0,f0,f1⟩:=aK.aF T;have bD:=wK T;have bb:=ur T;have ar:=U.bD u B T;have h3:=Qw I.types c.op c.bP u;have aE:∀{f:E},J A f->∀d∈ks.D::s.D::g.size::j.size::p,d<f.size:=λxx d h=>by
    have:=xx.size;rcases List.mem_cons.1 h with e|e
    .omega
    .have:=aF d e;omega
   have al:∀{f:E}{Y:O}{C:Bk},J A f->eP (bG (ks.D::s.D::g.size::j.size::p) f) Y C.aD->WB z rs.length True (q+dc (aD.take k)+BH z c.op c.bP u) C->C.w<=9*B.w->
    jL (f.push (.cells (bt [.s Y,.i C.aS]) di)) di [.s .nil,.i 0] 32 ks (.mk f.size 0 1 1) λW M3=>eG [M.size,j.size,ag.size,ac.size] (f.push (.cells (bt [.s Y,.i C.aS]) di)) M3/\I2 W (cT ((u:Int)+1)) M3/\μ2 W (cT ((u:Int)+1)) M3<μ2 ks u A:=λ{f Y C} x11 ab hwb' hw'=>by
    refine GB.kK (c:=C) (gk.ext rJ.mono x11) ((ak.trans x11).fz []) ab V λW M3 g2 f2 bq q2=>⟨J.oH ((ak.trans x11).aK _) f2.ext (D (ad _)),bn V _ _ ⟨f2.ext,(aZ.le (x11.df _)).le (pD λd h aX=>?_),_,g2,bE,λP b2 H=>?_,?_⟩⟩
    .simp at aX
     refine⟨?_,q2 d h aX⟩
     simp
     rcases bq.2 with e|e<;>omega
    .rcases aW P lk.length with y|y
     .rw[ax y]at H;exact aU P b2 H
     .rw[aI y]at H
      have:P -lk.length=0:=by have:=av H;simp at this;omega
      rw[this]at H;simp at H;subst H
      have:P=u:=V
      subst this;exact hwb'
    .rw[oQ,uq,zw,bb]
     omega
   refine⟨λG=>?_,λG=>?_⟩
   .simp only[aG]at G;obtain⟨bv,_⟩:=U.fe.all G;have br:=U.fe.lK (Or.inr (Or.inr G));let⟨aP,a2⟩:=cG c.args 0;let⟨y0,y1⟩:=U.fe.args aP (aq a2);have bu:=ha.len;let⟨cn,aT⟩:=cG (cz z c.bP) u;refine⟨V,V,cn,(aZ.le (bA _ _)).aF aT,?_⟩;refine(dJ (e:=[]) aL (I.bo.le (F.le.trans (zV _))) I.types cn).aH (J.az A) (D R) λsf lf a3 ay e az _=>⟨_,rfl,?_⟩;subst e;have ay:=ay.le (bA _ _);have bK:=ay.len;have aa:=F.trans az;rw[Kw G aT]at ar h3 al;have aA:af a3 pa.D (pa.off+Int.toNat (0:Int)*1)=some (vi aP):=(ha.ext aa).aF a2;refine⟨V,V,_,aa.af f0,_,aa.af f1,bh,V,aP,aA,?_⟩;have ew:cT (((q+dc (aD.take k):Nat):Int)+(sf.len:Int))=((q+dc (aD.take k)+(cD z cn).length:Nat):Int):=by rw[aQ V V];omega
    rw[ew];refine(ih c (aq N) B (aq T) (ks.D::s.D::g.size::j.size::p) a3 (aE az) aS a6 tb _ (I.le aa.le) (a0.le aa.le) ar V V).aH az (D R) λY C bl ab aH ah aO=>⟨_,_,rfl,?_⟩;refine⟨by rw[ah.af aA,aA],aJ (ah.same _ (az.lt (D R _ aL))) _,?_⟩;refine(LU (a:=ks.D::s.D::g.size::j.size::p) (aE aO) ab (ay.ext ah) V aH.1 V V ⟨y0,y1⟩).aH aO (D R) λbV b2 a4 bf ba y bo=>⟨_,_,rfl,?_⟩;intro bm;exact al bo bf ba.1 V
   .simp only[aj]at G;rw[Kx G]at ar al;refine⟨V,V,_,F.af f0,_,F.af f1,?_⟩;refine(ih c (aq N) B (aq T) (ks.D::s.D::g.size::j.size::p) A (aE (J.az _)) aS a6 tb _ (I.le F.le) (a0.le F.le) ar V V).aH (J.az A) (D R) λY C bl ab aH ah aO=>⟨_,_,rfl,?_⟩;intro a4;exact al ah ab aH.1 V
  .have ar:lk.length=c.bD.length:=V;rw[bY V]at bd;have T:J M A:=x8.trans ak;have H:=Z.ext T;have G2:=am.ext gE.mono T;refine⟨s,H.cg 0,?_⟩;refine(bN (s.D::g.size::j.size::p) (ha.ext F) V).aH (J.az A) (D R) λs' l' a4 ga e y _=>⟨_,rfl,aJ (y.same _ V) _,aJ (y.same _ V) _,aJ (y.same _ V) _,aJ (y.same _ H.lt) _,?_⟩;subst e;intro bm;refine Gr.box (g:=[.i 0,.i 0,.i 0,.s .nil,.s .nil]) (K:=λf=>aN cp 179 [vi c.op] f λv G=>eG [M.size,j.size,ag.size,ac.size] f G/\∃C:Bool,v=vb C/\
    (C=true->aR (cT (((q+dc (aD.take k):Nat):Int)+1)) (cT ((k:Int)+1)) G/\μ (cT (((q+dc (aD.take k):Nat):Int)+1)) (cT ((k:Int)+1)) G<μ ((q+dc (aD.take k):Nat):Int) (k:Int) M)/\
    (C=false->aR ((q+dc (aD.take k):Nat):Int) (cT ((k:Int)+1)) G/\μ ((q+dc (aD.take k):Nat):Int) (cT ((k:Int)+1)) G<μ ((q+dc (aD.take k):Nat):Int) (k:Int) M)) (L:=[M.size,j.size,ag.size,ac.size]) (j:=0) (y:=72) (i:=[.s s,.i X]) (w:=⟨c.op,c.bP,c.bZ,c.args,lk⟩) gE.mono bh (G2.ext gE.mono y) (((xM.trans T).trans y).fz []) ⟨s',ks,rfl,(ga.done (λd h=>oh (aF d h)) V),nF.le (y.df _) (gk.done rJ.mono aF bh (by show lk.length<=_;omega))⟩ V (H.ext y) aL bh ⟨V,aL⟩ (λd h=>by have C:=y.size;simp at h;omega) λW m' g' Y f' z' q'=>?_
   have W':WL z rs.length True q (w++[⟨c.op,c.bP,c.bZ,c.args,lk⟩]):=wl.yD (U.PH id U.fe.bZ ar aU|>λao=>by rw[au];exact ao);have ay:=y.size;refine(jO c.op m').mono λv G⟨bb,e,al,C⟩=>⟨λd h=>C.same d (oh (D R d h)),bb,e,?_⟩;have ab:=tc c bb al;have aa:dc (w++[⟨c.op,c.bP,c.bZ,c.args,lk⟩])=dc (aD.take (k+1)):=by
    rw[cV,kM,ta,au];have e:dn (⟨c.op,c.bP,c.bZ,c.args,lk⟩:cU)=dn c:=rfl;omega
   have ah:sw (w++[⟨c.op,c.bP,c.bZ,c.args,lk⟩])<=9*sw (aD.take (k+1)):=by
    rw[dC,mK,vm];have h5:(⟨c.op,c.bP,c.bZ,c.args,lk⟩:cU).w=1+c.args.length+bw lk:=cU.mu _;omega
   refine⟨λht=>?_,λhf=>?_⟩
   .rw[an ht]at ab;rw[aQ (b:=((q+dc (aD.take k):Nat):Int)+1) V V];exact a5 V _ _ ⟨V,f'.ext.trans C,W,_,g'.ext gE.mono C,Y.ext C,bE,W',aa,ah⟩
   .rw[ae (by simp[hf])]at ab;exact a5 V _ _ ⟨V,f'.ext.trans C,W,_,g'.ext gE.mono C,Y.ext C,bE,W',aa,ah⟩
 .have aM:k=aD.length:=V;subst aM;rw[fu]at au bi;refine⟨s,Z.cg 0,X,Z.cg 1,?_⟩;intro m7;have c:Le (bG (g.size::j.size::p) M) (bG p m7):=cA aL λd h=>ai _ (ai _ h);have f:=am.ne Z bh;refine⟨s,.mk w X,rfl,eP.le c (am.nH gE.mono (λh=>?_) bh (by show w.length<=_;omega)),⟨.of wl (by rw[au];exact a1.2),by rw[Bk.qI];omega⟩,v.ah V _ _⟩;rcases List.mem_cons.1 h with e|e
  .exact f e
  .have:=a_ _ e;omega
def EN{d:List Nat}{f:E}(A:∀c∈d,c<f.size){j r:O}{h:List bz}{k:List gP}(i:eL f j r h k){W:Nat}(hW:9*W<=100000000000)(X:yi h k True W):uR 210 [.agg #[O.v j,O.v r]] f d h λu=>yi h u True (9*W):=by
 apply xE;simp -zeta only[aC,aB];intro b a2;let⟨y,t⟩:=dD (a:=b) (c:=a2) rfl rfl;have s1:b.size=f.size+1:=by simp[b]
 clear_value a2;have al:=i.iU.len;have aA:=i.oD;refine(fV (b:=b.size::d) (bO A y.size (t _ aL)) (i.le y.le).bo i.types).mono λ_ I⟨ac,e,ah,z⟩=>?_;subst e;refine⟨z.dv t,_,rfl,?_⟩;intro K ap aa;have u2:=y.trans z;let⟨x5,B0,g0,s3,s5⟩:=kX (b:=K.size::b.size::d) iR.mono (d:=I) (a:=K) (c:=ap) (h:=aa) rfl rfl rfl;clear_value aa;have F:∀c∈[b.size,f.size],c<I.size:=λc a=>z.lt (t c a);have D:∀c∈b.size::d,c<I.size:=λc a=>z.lt (bO A y.size (t _ aL) c a);refine kU (R:=λg o M=>∃j r u,Value.agg #[O.v g,O.v o]=.agg #[O.v j,O.v r]/\eL (bG d M) j r h u/\yi h u True (9*W)/\J f M) (r:=k.length) (f:=f) (b:=d) iR.mono bh bh A ⟨V,F _ aL⟩ u2 s3 ah al V x5 B0 g0 (λ_ q=>q.params.length<=3/\q.cR.length<=3/\WB h k.length True q.params.length q.body/\q.body.w<=9*W) (λg w H x T s o p v=>⟨g,w,H,rfl,⟨T,s,i.types,V⟩,HP X.iW o p,v⟩) λao M st H av μ ai ay N Q B ar=>?_
 let⟨q,Z⟩:=cG k ao ai;let⟨ak,aj,an,hw⟩:=X.dz q (aq Z);have v:=u2.trans N;let⟨au,aD,p,P,c2,c3,e0,e1,e2,e3,e4⟩:=i.iU.aF Z;have G:∀{ab:Value}{p o:Nat},af f p o=some ab->af M p o=some ab:=λag=>v.af ag;refine⟨V,V,_,G e0,_,G e1,_,G e2,_,G e3,_,G e4,?_⟩;intro m7 g;have hy:=Q.bn;have ax:=B.lt;have zM:=N.size;have L:J M g:=(J.push M _).ah (ad _) _ _;have s8:g.size=M.size+1:=by simp[g,m7,aw]
 clear_value g;have Y:∀c∈[M.size,b.size,f.size],c<g.size:=λc a=>by
  rcases List.mem_cons.1 a with e|e
  .omega
  .have:=F c e;omega
 have w8:=v.trans L;have az:=P.len;have ae:(au.len:Int)=(q.params.length:Nat):=V;refine⟨st,(B.ext L).cg 1,?_⟩;rw[ae];refine(Da q.body (st.D::K.size::b.size::d) g (λc a=>?_) j r p q.params.length (i.le w8.le) (c3.le w8.le) an V V).aH (J.az g) Y λss b' M1 am U w _=>⟨_,_,rfl,?_⟩
 .simp only[aV]at a;rcases a with e|e|e|e
  .omega
  .omega
  .have:=D c (by simp[e]);omega
  .have:=D c (by simp[e]);omega
 have C:∀o,af M1 M.size o=af g M.size o:=λo=>aJ (w.same _ V) o;refine⟨C 0,C 1,C 2,C 3,C 4,aJ (w.same _ V) _,?_⟩;have x:=L.trans w;have z1:=w.size;exact vU (b:=b.size::d) (v:=ac) (x:=H) D (λc a=>by have T:=Y c a;have s:=F c;simp only[aV]at a s;rcases a with e|e|e|e<;>first|omega|(have:=s (by simp[e]);omega)|simp at e) (N.trans x) (Q.ext iR.mono x) (B.ext x) V (P.ext (v.trans x)) (c2.ext (v.trans x)) am ⟨V,V⟩ V λs' T g' s x'=>ar s' T _ g' s x' ⟨ak,aj,U.1,by have:=U.2;show b'.w<=_;omega⟩
section
variable{S:List Nat}{m:E}{c:O}{l:List Instr}
def dS.le{m b:E}(h:Le m b){a:List Ce}{x:Instr}:dS m a x->dS b a x:=λ⟨c,j,d,e,f⟩=>⟨c,j,d,e.le h,f.le h⟩
def dS.mono:oA 6 dS:=⟨λh=>dS.le h,λh=>by obtain⟨_,_,rfl,_⟩:=h;rfl⟩
def fg.le{m b:E}(a:Le m b){s:O}{l:List Instr}(h:fg m s l):fg b s l:=eT.le h a λ_ _=>dS.le a
def lp.le{m b:E}(h:Le m b){a:List Ce}{x:dy}:lp m a x->lp b a x:=λ⟨d,l,c,e,f,g,i⟩=>⟨d,l,c,e,f.le h,g.le h,fg.le h i⟩
def lp.mono:oA 5 lp:=⟨λh=>lp.le h,λh=>by obtain⟨_,_,_,rfl,_⟩:=h;rfl⟩
def iH.le{m b:E}(a:Le m b){s:O}{l:List dy}(h:iH m s l):iH b s l:=eT.le h a λ_ _=>lp.le a
def VG(x:Instr)(a j:O):Value:=.agg #[vi x.op,vi x.dst,vi x.bP,vi x.bZ,O.v a,O.v j]
def wi(A:∀c∈S,c<m.size){r u:O}{x:Instr}(B:ap m r x.args)(C:ap m u x.eM)(h:x.args.length<=10^12/\x.eM.length<=10^12):
 aN cp 213 [VG x r u] m λH p=>∃g j,H=VG x g j/\ap (bG S p) g x.args/\ap (bG S p) j x.eM/\J m p:=by
 apply rC
 simp -zeta only[aC,aB]
 intro d e
 let⟨k,i⟩:=dD (a:=d) (c:=e) rfl rfl
 have K:d.size=m.size+1:=by simp[d]
 clear_value e
 have s:∀c∈d.size::S,c<e.size:=bO A k.size (i _ aL)
 have b:∀{M q:E},J e M->J M q->∀o,af q m.size o=af M m.size o:=λy z o=>aJ (z.same _ (y.lt (i _ aL))) o
 refine(bN (d.size::S) (B.ext k) h.1).aH (J.az e) i λg _ I v l a _=>⟨_,rfl,b (J.az _) a _,b (J.az _) a _,b (J.az _) a _,b (J.az _) a _,b (J.az _) a _,?_⟩
 subst l
 refine(bN (d.size::S) (C.ext (k.trans a)) h.2).aH a i λj _ D w l f G=>⟨_,rfl,b a f _,b a f _,b a f _,b a f _,?_⟩
 subst l
 intro F
 have t:Le (bG (d.size::S) D) (bG S F):=cA aL λc n=>ai _ n
 exact⟨g,j,rfl,((v.done s h.1).le (f.df _)).le t,(w.done (λc n=>a.lt (s c n)) h.2).le t,(k.trans G).ah V _ _⟩
def MW(d:fg m c l)(s:Int):Fj 206 [O.v c,vi s] m:=by
 apply GK;have k:=d.len;refine eA (n:=l.length) (k▸d.gT) (λ_ _ M=>J m M) (J.az _) ?_;rintro q K M I μ F e u
 refine⟨λh=>?_,λ_=>rN e⟩;simp only[ar]at h;let⟨x,o⟩:=cG l q;let⟨z,H,b,E,A,g,B,C,f,D⟩:=(fg.ext e d).aF o;have j:=b.len;refine⟨V,V,_,g,?_⟩;refine eA (n:=x.args.length) (j▸b.gT) (λ_ _ a=>J M a) (J.az _) ?_;rintro r L w v μ2 G a t;refine⟨V,V,_,a.af f,λi=>?_,λ_=>u V _ _ (e.trans a)⟩;simp only[ar]at i;let⟨y,p⟩:=cG x.args r;exact⟨V,V,_,a.af f,V,V,y,(b.ext a).aF p,t V _ _ a⟩
structure Pf(k:Nat)(x:Instr):Prop where
 MG:x.op=22->(k:Int)<x.bP
 arg:x.op=18\/x.op=23\/x.op=16\/x.op=17->0<x.args.length
def RT(l:List Instr):Prop:=∀(k:Nat)(x:Instr),l[k]? =some x->Pf k x
def IK(f:fg m c l)(E:RT l){n:Int}(C:0<=n)(RK:Int):oN 233 [O.v c,vi n,vi RK] m:=by
 apply Bd;simp -zeta only[aC,aB];have I:=f.len;have L:=f.gT;refine⟨λv _ M=>0<=v/\J m M,λv _ _=>((l.length:Int) -v).toNat,⟨C,J.az _⟩,?_⟩;rintro v G M ⟨F,k⟩;refine⟨λh=>?_,λ_=>rA k⟩;simp only[ar]at h;let⟨a,o⟩:=cG l v.toNat;let⟨d,N,e,K,s,t,w,z,A,B⟩:=(fg.ext k f).aF o;have H:=e.len;have g:=E _ a o;refine⟨F,V,_,s,_,t,_,w,_,z,_,A,_,B,?_⟩;intro P b;have j:J M b:=(J.push M _).ah (ad _) _ _;clear_value b;have u:=k.trans j;have MG:(a.op==22)=true->(0<=a.bP/\J m b)/\((l.length:Int) -a.bP).toNat<((l.length:Int) -v).toNat:=λh=>by
  simp only[aG]at h;have:=g.MG h;exact⟨⟨V,u⟩,V⟩
 have p:(a.op==23)=true->(0:Int)<=0/\(0:Int)<(d.len:Int)/\∃q:Int,af b d.D (d.off+Int.toNat (0:Int)*1)=some (vi q)/\∃r:Bool,vb (q==G)=.bool r/\J m b:=λh=>by
  simp only[aG]at h;have:=g.arg V;let⟨y,i⟩:=cG a.args 0;exact⟨bh,V,y,(e.ext j).aF i,rA u⟩
 refine⟨λD=>?_,λ_=>⟨MG,λ_=>⟨p,λ_=>rA u⟩⟩⟩;simp only[aG]at D;have:=g.arg V;let⟨y,i⟩:=cG a.args 0;refine⟨bh,V,y,(e.ext j).aF i,λ_=>?_,λ_=>⟨MG,λ_=>⟨p,λ_=>rA u⟩⟩⟩;rw[aQ (b:=v+1) V V];exact⟨⟨V,u⟩,by show((l.length:Int) -(v+1)).toNat<((l.length:Int) -v).toNat;omega⟩
def Ku(l b:List Instr):Prop:=b.length=l.length/\∀(k:Nat)(a:Instr),b[k]? =some a->∃x,l[k]? =some x/\(a=x\/a=⟨24,0,x.bP,0,x.args,x.eM⟩)
def Qq(l:List Instr):Prop:=∀x∈l,x.args.length<=10^12/\x.eM.length<=10^12
abbrev Vh(S:List Nat)(a m:E)(s:O)(l:List Instr):Prop:=Gr S a m dX 6 dS s l
def J9(hS:∀c∈S,c<m.size)(f:fg m c l)(ae:RT l)(af:Qq l)(hb:l.length<=10^12):
 aN cp 212 [O.v c] m λN L=>∃s e,N=O.v s/\Vh S m L s e/\Ku l e/\J m L:=by
 apply Dc
 simp -zeta only[aC,aB]
 intro H
 have x1:J m H:=J.push _ _
 have g0:Vh S m H (.mk m.size 0 0 0) []:=Gr.new S (ad _) _ _ _
 clear_value H
 have ac:=f.len
 refine eA (n:=l.length) (ac▸f.gT) (λk s M=>J m M/\∃e,Vh S m M s e/\Ku (l.take k) e) ⟨x1,[],g0,by simp[Ku]⟩ ?_
 rintro k s M Q μ hk ⟨q,e,A,D,F⟩ ai
 refine dit (λaa=>?_) λaa=>?_
 .let⟨d,G⟩:=cG l k
  let⟨al,an,ha,hj,R,T,U,W,X,Y⟩:=(fg.ext q f).aF G
  have ag:=af d (aq G)
  have hy:=A.bn
  have zM:=q.size
  have am:e.length=k:=by rw[D];simp;omega
  have ab:∀c∈s.D::S,c<M.size:=λc f=>by
   rcases List.mem_cons.1 f with u|u
   .omega
   .have:=hS c u;omega
  refine⟨V,V,_,R,_,T,_,U,_,W,_,X,_,Y,?_⟩
  refine(wi ab ha hj ag).mono λN y⟨t,w,u,B,C,P⟩=>⟨_,_,_,_,_,_,u,?_⟩
  intro m3 j
  have i:J y j:=(J.push y _).ah (ad _) _ _
  have s4:j.size=y.size+1:=by simp[j,m3,aw]
  clear_value j
  have p:=P.trans i
  have z:∀{g:E}{b:Instr},J j g->ap (bG (s.D::S) g) t b.args->ap (bG (s.D::S) g) w b.eM->(b=d\/b=⟨24,0,d.bP,0,d.args,d.eM⟩)->
   jL (g.push (.cells (bt [.i b.op,.i b.dst,.i b.bP,.i b.bZ,.s t,.s w]) dX)) dX [.i 0,.i 0,.i 0,.i 0,.s .nil,.s .nil] 80 s (.mk g.size 0 1 1) λI r=>eG [y.size] (g.push (.cells (bt [.i b.op,.i b.dst,.i b.bP,.i b.bZ,.s t,.s w]) dX)) r/\Q I (cT ((k:Int)+1)) r/\μ I (cT ((k:Int)+1)) r<μ s k M:=λ{g b} xx h1 h2 h3=>by
   have z4:=p.size
   have zx:=xx.size
   refine Gr.kK (g:=[.i 0,.i 0,.i 0,.i 0,.s .nil,.s .nil]) (k:=b) dS.mono bh (A.ext dS.mono (p.trans xx)) ((q.trans (p.trans xx)).fz []) ⟨t,w,rfl,h1,h2⟩ V λI r g3 Z z3 q3=>⟨λc f=>?_,ai V _ _ ⟨Z.ext,_,g3,bE,λv aj h=>?_⟩⟩
   .have o:=P.size
    simp at f;subst f
    rw[q3 _ V V,(J.push g _).same _ V]
   .rcases aW v e.length with o|o
    .rw[ax o]at h
     let⟨ak,K,ah⟩:=F v aj h
     rw[dH V]at K⊢
     exact⟨ak,K,ah⟩
    .rw[aI o]at h
     have:v -e.length=0:=by have:=av h;simp at this;omega
     rw[this]at h;simp at h;subst h
     have:v=k:=V
     subst this
     exact⟨d,by rw[dH V];exact G,h3⟩
  have z4:=p.size
  refine⟨λh9=>?_,λ_=>?_⟩
  .rw[aQ (b:=(k:Int)+1) V V]
   refine(IK (fg.ext (q.trans p) f) ae V d.dst).aH (J.az j) bE λah K o _=>⟨_,rfl,λ_=>?_,λ_=>?_⟩
   .intro m6
    have:=z (b:=⟨24,0,d.bP,0,d.args,d.eM⟩) o ((B.le (i.df _)).le (o.df _)) ((C.le (i.df _)).le (o.df _)) (Or.inr rfl)
    rw[aQ (b:=(k:Int)+1) V V]at this
    exact this
   .intro m6
    have:=z (b:=d) o ((B.le (i.df _)).le (o.df _)) ((C.le (i.df _)).le (o.df _)) (Or.inl rfl)
    rw[aQ (b:=(k:Int)+1) V V]at this
    exact this
  .intro K
   exact z (b:=d) (J.az _) (B.le (i.df _)) (C.le (i.df _)) (Or.inl rfl)
 .rw[bY V]at D F
  exact⟨s,e,rfl,A,⟨D,F⟩,q⟩
end
section
variable{b:List dy}
structure SU(p:dy):Prop where
 params:p.params.length<=3
 cR:p.cR.length<=3
 iW:0<p.dq.length
 oD:p.dq.length<=10^12
 dq:RT p.dq
 jf:Qq p.dq
structure DK(b:List dy):Prop where
 iW:0<b.length
 oD:b.length<=4
 dz:∀p∈b,SU p
def Qp(f:Nat)(c:List Value)(m:E)(S:List Nat)(e:List bz)(Q:List dy->Prop):Prop:=aN cp f c m λv a=>∃d p b,v=.agg #[O.v d,O.v p]/\cx (bG S a) d e/\iH (bG S a) p b/\Q b/\J m a
def Ku.ok{l d:List Instr}(h:Ku l d)(g:RT l)(f:Qq l):RT d/\Qq d:=by
 let⟨j,e⟩:=h;refine⟨λk a c=>?_,λa c=>?_⟩
 .obtain⟨x,b,rfl|rfl⟩:=e k a c
  .exact g k a b
  .exact⟨sx,sx⟩
 .let⟨k,i⟩:=List.mem_iff_getElem?.1 c;obtain⟨x,b,rfl|rfl⟩:=e k a i
  .exact f a (aq b)
  .exact f x (aq b)
def UY{a:List dy}(h:DK b)(f:a.length=b.length)(c:∀(i:Nat)(q:dy),a[i]? =some q->SU q):DK a:=
 ⟨by have:=h.iW;omega,oh h.oD,λq e=>by obtain⟨i,d⟩:=List.mem_iff_getElem?.1 e;exact c i q d⟩
def IN{d:List Nat}{l:E}(T:∀c∈d,c<l.size){y z:O}{A:List bz}(hd:cx l y A)(ht:dT A)(hp:iH l z b)(W:DK b):Qp 164 [.agg #[O.v y,O.v z]] l d A DK:=by
 apply Bi;simp -zeta only[aC,aB];intro f a2;let⟨K,F⟩:=dD (a:=f) (c:=a2) rfl rfl;have s1:f.size=l.size+1:=by simp[f]
 clear_value a2;have ao:=hp.len;have aG:=W.oD;refine(fV (b:=f.size::d) (bO T K.size (F _ aL)) (hd.le K.le) ht).mono λ_ Z⟨dd,e,am,L⟩=>?_;subst e;refine⟨L.dv F,_,rfl,?_⟩;intro o au ai;have u2:=K.trans L;let⟨x5,B0,g0,s3,s5⟩:=kX (b:=o.size::f.size::d) lp.mono (d:=Z) (a:=o) (c:=au) (h:=ai) rfl rfl rfl;clear_value ai;have U:∀c∈[f.size,l.size],c<Z.size:=λc g=>L.lt (F c g);have ae:∀c∈f.size::d,c<Z.size:=λc g=>L.lt (bO T K.size (F _ aL) c g);refine kU (R:=λj k M=>∃y z h,Value.agg #[O.v j,O.v k]=.agg #[O.v y,O.v z]/\cx (bG d M) y A/\iH (bG d M) z h/\DK h/\J l M) (r:=b.length) (f:=l) (b:=d) lp.mono bh bh T ⟨V,U _ aL⟩ u2 s3 am ao V x5 B0 g0 (λ_ r=>SU r) (λh r' ah m' h1 C j k p=>⟨h,r',ah,rfl,h1,C,UY W j k,p⟩) λar M s ah az μ an aE xM ac N av=>?_
 let⟨r,hq⟩:=cG b ar an;have t:=W.dz r (aq hq);have q3:=t.params;have q4:=t.cR;have qf:=t.oD;have qs:=t.iW;have v6:=u2.trans xM;let⟨aA,p,c,c1,c2,c3,e0,e1,e2,e3,e4⟩:=hp.aF hq;have G:∀{aa:Value}{p v:Nat},af l p v=some aa->af M p v=some aa:=λB=>v6.af B;refine⟨V,V,_,G e0,_,G e1,_,G e2,_,G e3,_,G e4,?_⟩;intro m7 k;have hy:=ac.bn;have aD:=N.lt;have zM:=xM.size;have x8:J M k:=(J.push M _).ah (ad _) _ _;have s8:k.size=M.size+1:=by simp[k,m7,aw]
 clear_value k;have H:∀c∈[M.size,f.size,l.size],c<k.size:=λc g=>by
  rcases List.mem_cons.1 g with e|e
  .omega
  .have:=U c e;omega
 have w8:=v6.trans x8;have D:∀{M':E},k.size<=M'.size->∀c∈s.D::o.size::f.size::d,c<M'.size:=λB c g=>by
  simp only[aV]at g;rcases g with e|e|e|e
  .omega
  .omega
  .have:=ae c (by simp[e]);omega
  .have:=ae c (by simp[e]);omega
 have h:∀{P M2:E},J k P->J P M2->∀p,p<k.size->∀v,af M2 p v=af P p v:=λB h' p hb v=>aJ (h'.same p (B.lt hb)) v;have q:M.size<k.size:=V;have X:o.size<k.size:=V;refine⟨s,(N.ext x8).cg 1,?_⟩;refine(bN (s.D::o.size::f.size::d) (c1.ext w8) V).aH (J.az k) H λa' _ m9 ga e j _=>⟨_,rfl,h (J.az _) j _ q _,h (J.az _) j _ q _,h (J.az _) j _ q _,h (J.az _) j _ q _,h (J.az _) j _ X _,?_⟩;subst e;refine(bN (s.D::o.size::f.size::d) (c2.ext (w8.trans j)) V).aH j H λb' _ aH gb e x w=>⟨_,rfl,h j x _ q _,h j x _ q _,h j x _ q _,h j x _ X _,?_⟩;subst e;have z9:=j.size;have vw:=x.size;refine(J9 (S:=s.D::o.size::f.size::d) (D V) (fg.ext (w8.trans w) c3) t.dq t.jf qf).mono λaa Y⟨Q,I,e,gc,ag,u⟩=>⟨λc g=>u.same c (w.lt (H c g)),Q,e,h w u _ q _,h w u _ q _,h w u _ X _,?_⟩;intro aI;have ab:=x8.trans (w.trans u);have aK:=u.size;let⟨ax,ay⟩:=ag.ok t.dq t.jf;have aF:=ag.1;have aj:ap (bG (s.D::o.size::f.size::d) Y) a' r.params:=(ga.done (D V) V).le ((x.trans u).df _);have ak:ap (bG (s.D::o.size::f.size::d) Y) b' r.cR:=(gb.done (D V) V).le (u.df _);have al:fg (bG (s.D::o.size::f.size::d) Y) Q I:=gc.done dS.mono (D V) bh V;exact Gr.box (g:=[.s .nil,.s .nil,.i 0,.i 0,.s .nil]) (j:=1) (y:=88) (i:=[.s dd,.s s]) (w:=⟨r.params,r.cR,r.aS,r.ak,I⟩) lp.mono bh (ac.ext lp.mono ab) ((xM.trans ab).fz []) ⟨a',b',Q,rfl,aj,ak,al⟩ V (N.ext ab) aL bh ⟨V,aL⟩ (λc g=>by have h1:=H c g;have C:=U c;simp only[aV]at g C;rcases g with e|e|e|e<;>first|omega|(have:=C (by simp[e]);omega)|simp at e) λr' m' g' C f' z' q'=>av r' m' _ g' C f'.ext ⟨q3,q4,by show 0<I.length;omega,by show I.length<=_;omega,ax,ay⟩
end
section
variable{S:List Nat}{d c:E}{b:Nat}{s:O}{l:List Instr}{x:Instr}
structure Ff(S:List Nat)(d c:E)(b:Nat)(s:O)(l:List Instr):Prop where
 box:cE c b nZ [.s s]
 gr:Vh (b::S) d c s l
 up:d.size<=b
def Ff.ext{S:List Nat}{d c a:E}{b:Nat}{s:O}{l:List Instr}(h:Ff S d c b s l)(x:J c a):Ff S d a b s l:=⟨h.box.ext x,h.gr.ext dS.mono x,h.up⟩
def Ff.ne{S:List Nat}{d c:E}{b:Nat}{s:O}{l:List Instr}(h:Ff S d c b s l):s.D≠b:=h.gr.ne h.box bh
def Pd(S:List Nat)(d c:E)(b:Nat)(s:O)(P:List Instr->Prop)(f:E):Prop:=∃a e,Ff S d f b a e/\P e/\Fz [b,s.D] c f/\(a.D=s.D\/c.size<=a.D)
def qF{v z:O}(p:Ff S d c b s l)(E:d.size<=c.size)(H:ap (bG (s.D::b::S) c) v x.args)(I:ap (bG (s.D::b::S) c) z x.eM)(q:l.length<=10^12):
 aN cp 205 [vp b 0,VG x v z] c λP M=>P=vi (l.length:Nat)/\Pd S d c b s (l++[x]=·) M:=by
 apply xf (b,0)
 simp -zeta only[aC,aB]
 intro g
 have n:J c g:=J.push _ _
 have s1:g.size=c.size+1:=by simp[g]
 clear_value g
 have h:=p.ext n
 have W:=h.gr.bn
 have D:=h.box.lt
 have T:=p.box.lt
 have X:=p.gr.bn
 refine⟨s,h.box.cg 0,?_⟩
 intro N
 have F:J g N:=J.push _ _
 refine⟨aJ (F.same _ D) _,?_⟩
 have U:(c.extract 0 d.size).size=d.size:=mg E
 have g1:Vh (b::S) (c.extract 0 d.size) g s l:=Gr.cy dS.mono h.gr (λG q=>Or.inl q) V
 refine Gr.kK (g:=[.i 0,.i 0,.i 0,.i 0,.s .nil,.s .nil]) (k:=x) dS.mono bh g1 ((((J.MK E).trans n).fz [])) ⟨v,z,rfl,H.le (n.df _),I.le (n.df _)⟩ V λi k A R Q u=>?_
 have Z:∀e,e<g.size->e≠s.D->k[e]? =g[e]? :=u
 have y:cE k b nZ [.s s]:=h.box.congr (u b D (kE h.ne))
 have L:=A.ne y bh
 refine⟨λe f=>?_,y.fK aL,?_⟩
 .simp at f;subst f
  rw[u c.size V V,F.same _ V]
 intro t
 have C:cE t b nZ [.s i]:=cE.ah (m:=k) (o:=0) (r:=[.s i]) y
 have w:∀e,e≠b->t[e]? =k[e]? :=λe f=>bd _ _ _ _ f
 have s4:t.size=k.size:=aw _ _ _ _
 refine⟨λe f=>w e (by simp at f;omega),i,C.cg 0,?_⟩
 have B:Vh (b::S) d t i (l++[x]):=by
  refine Gr.cy dS.mono (A.re dS.mono (Y:=[b]) ⟨V,λe f j=>w e (by simpa using j)⟩ aL (by simp;exact L) λe f=>Or.inl f) (λG q=>Or.inl q) V
 have G:=B.len bh
 have K:i.len=l.length+1:=by rw[G];simp
 refine⟨?_,i,_,⟨C,B,p.up⟩,rfl,⟨V,λe f j=>?_⟩,oh Q.2⟩
 .rw[K,aQ V V];congr 1;omega
 .simp only[aV,jX,BE,vv]at j
  rw[w e j.1,u e V j.2,n.same e f]
def Q6{j:Nat}(h:Ff S d c b s l)(o:d.size<=c.size)(r:l[j]? =some x):
 aN cp 234 [vp b 0,vi j] c λ_ K=>Pd S d c b s (l.set j ⟨x.op,0,l.length,0,x.args,x.eM⟩=·) K:=by
 apply xe (b,0)
 simp -zeta only[aC,aB]
 have G:=av r
 have I:=h.gr.len bh
 obtain⟨M,⟨q,t,rfl,E,F⟩,ju⟩:=h.gr.cells r
 have w:=ju 0 _ rfl;have y:=ju 1 _ rfl;have z:=ju 2 _ rfl;have A:=ju 3 _ rfl;have B:=ju 4 _ rfl;have C:=ju 5 _ rfl
 refine⟨s,h.box.cg 0,V,V,_,w,_,y,_,z,_,A,_,B,_,C,?_⟩
 intro L e
 have g:J c e:=(J.push c _).ah (ad _) _ _
 have Q:e.size=c.size+1:=by simp[e,L,aw]
 clear_value e
 have i:=h.ext g
 have H:=i.ne
 have O:=h.gr.bn
 have P:=g.size
 refine⟨s,i.box.cg 0,s,i.box.cg 0,V,V,?_⟩
 have g1:Vh (b::S) (c.extract 0 d.size) e s l:=Gr.cy dS.mono i.gr (λv m=>Or.inl m) (by rw[mg o];exact ad _)
 rw[I]
 let⟨wr,D,N,p⟩:=Gr.set (k:=j) (cs:=[.i x.op,.i 0,.i l.length,.i 0,.s q,.s t]) (a:=⟨x.op,0,l.length,0,x.args,x.eM⟩) dS.mono g1 (((J.MK o).trans g).fz []) G ⟨q,t,rfl,E.le (g.df _),F.le (g.df _)⟩
 refine⟨wr,?_⟩
 intro u
 have R:u.size=e.size:=aw _ _ _ _
 refine⟨λf n=>p f (by simp at n;omega),s,_,⟨i.box.congr (p b (kE H)),Gr.cy dS.mono D (λv m=>Or.inl m) (by rw[mg o];exact ad _),h.up⟩,rfl,⟨V,λf n m=>?_⟩,Or.inl rfl⟩
 simp only[aV,jX,BE,vv]at m
 have v:u[f]? =e[f]? :=p f m.2
 rw[v,g.same f n]
end
section
variable{n a:Nat}
def mP(l b:List Instr)(n:Nat):Prop:=∃a,b=l++a/\(∀(i:Nat)(x:Instr),a[i]? =some x->Pf (l.length+i) x)/\Qq a/\a.length<=n
def mP.az(l:List Instr):mP l l 0:=⟨[],aL,aL,λ_ h=>by simp at h,ad _⟩
def mP.fj{l b:List Instr}(h:mP l b n)(i:n<=a):mP l b a:=let⟨f,c,d,e,g⟩:=h;⟨f,c,d,e,V⟩
def mP.len{l a:List Instr}(h:mP l a n):a.length<=l.length+n:=by obtain⟨b,rfl,_,_,d⟩:=h;simp;omega
def mP.trans{l e f:List Instr}(h:mP l e n)(p:mP e f a):mP l f (n+a):=by
 obtain⟨c,rfl,g,k,s⟩:=h;obtain⟨r,rfl,j,m,t⟩:=p;refine⟨c++r,aL,λi x b=>?_,λx q=>?_,bE⟩
 .rcases aW i c.length with d|d
  .rw[ax d]at b;exact g i x b
  .rw[aI d]at b;have:=j _ x b;have o:(l++c).length+(i -c.length)=l.length+i:=bE;rw[o]at this;exact this
 .rcases List.mem_append.1 q with h|h
  .exact k x h
  .exact m x h
def mP.lK{l:List Instr}{x:Instr}(h:Pf l.length x)(c:x.args.length<=10^12/\x.eM.length<=10^12):mP l (l++[x]) 1:=
 ⟨[x],rfl,λi y a=>by
  have:i=0:=by have:=av a;simp at this;omega
  subst this;simp at a;subst a;exact h,λy b=>by simp at b;subst b;exact c,aL⟩
section
variable{S:List Nat}{d m c:E}{b:Nat}{s e:O}{l f:List Instr}
def Ff.gG(h:Ff S d m b s l)(f:J d m)(e:Fz [b,s.D] m c):J d c:=by
 have j:=h.gr.bn;have i:=h.up;exact Fz.ext (((f.fz [b,s.D]).trans e).DB λg a=>Or.inr (by simp at a;omega))
def QB(h:Fz [b,s.D] m c)(f:e.D=s.D\/m.size<=e.D):Le (bG [s.D,b] m) (bG [e.D,b] c):=pD λa g i=>by
 simp at i;refine⟨by simp;rcases f with d|d<;>omega,h.same a g bE⟩
def Pd.dv{L:List Nat}(f:Fz [b,s.D] m c)(d:∀a∈L,a<m.size/\a≠b/\a≠s.D):eG L m c:=λa e=>f.same a (d a e).1 (by have:=d a e;simp;omega)
end
structure RU(S:List Nat)(mb m:E)(eb:Nat)(s:O)(l:List Instr)(cons first:O)(cl fl:List Int):Prop where
 em:Ff S mb m eb s l
 x:J mb m
 gG:∀c∈S,c<m.size
 cons:ap (bG [s.D,eb] m) cons cl
 first:ap (bG [s.D,eb] m) first fl
 same:fl.length=cl.length
 jf:∀y∈fl,0<=y/\y<=900000000000
def RU.ext{S:List Nat}{e m d:E}{b:Nat}{s:O}{l:List Instr}{cons first:O}{a c:List Int}(h:RU S e m b s l cons first a c)(x:J m d):RU S e d b s l cons first a c:=
 ⟨h.em.ext x,h.x.trans x,λf g=>x.lt (h.gG f g),h.cons.le (x.df _),h.first.le (x.df _),h.same,h.jf⟩
def RU.next{S:List Nat}{e m d:E}{a:Nat}{s c:O}{o j:List Instr}{cons first:O}{f g:List Int}(h:RU S e m a s o cons first f g)(l:Ff S e d a c j)(b:Fz [a,s.D] m d)(i:c.D=s.D\/m.size<=c.D):RU S e d a c j cons first f g:=
 ⟨l,h.em.gG h.x b,λk n=>aO (h.gG k n) b.size,h.cons.le (QB b i),h.first.le (QB b i),h.same,h.jf⟩
def XD(f:List bz)(g:List gP)(x:cU):Prop:=∀(S:List Nat)(a m:E)(c:Nat)(s:O)(l:List Instr)(cons first:O)(b h:List Int)(e r d k:O),RU S a m c s l cons first b h->WS f g.length True b.length x->b.length+4*x.w<=900000000000->l.length+6*x.w<=10^12->eL a e r f g->ap a d x.args->nF a k x.bD->
 aN cp 219 [vp c 0,.agg #[O.v e,O.v r],oZ x d k,O.v cons,O.v first] m λ_ j=>Pd S a m c s (λi=>mP l i (6*x.w)) j
def Wz(f:List bz)(g:List gP)(b:Bk):Prop:=∀(S:List Nat)(a m:E)(d:Nat)(s:O)(l:List Instr)(cons first:O)(c h:List Int)(e r t:O),RU S a m d s l cons first c h->WB f g.length True c.length b->c.length+4*b.w<=900000000000->l.length+6*b.w<=10^12->eL a e r f g->eP a t b.aD->
 aN cp 204 [vp d 0,.agg #[O.v e,O.v r],.agg #[O.v t,vi b.aS],O.v cons,O.v first] m λ_ j=>Pd S a m d s (λi=>mP l i (6*(b.w -1))) j
end
def tm(m:E):ap m .nil []:=⟨rfl,ad _,aL,aL⟩
def LF{ds:List bz}{rs:List gP}{aD:List cU}{a8:Int}(b:∀a∈aD,a.op=7\/a.op=8->XD ds rs a):Wz ds rs (.mk aD a8):=by
 intro z mb D f ab ah cons first cl fl aN a7 bw E0 a1 be bf hn hs
 have a2:=a1.aT;rw[Bk.qI]at*;simp only[Bk.jT,Bk.jv]at*;apply ve (f,0);simp -zeta only[aC,aB];intro Q F;let⟨x2,hl⟩:=dD (a:=Q) (c:=F) rfl rfl;have s1:Q.size=D.size+1:=by simp[Q]
 have s2:F.size=D.size+2:=by simp[F,s1]
 clear_value F;have a0:=hs.len;have az:=By aD;have bm:=fZ aD;have bi:=E0.em.box.lt;have bt:=E0.em.gr.bn;have bk:=E0.x.size;refine wO (n:=aD.length) (a0▸hs.gT) (λo cons first M=>∃m P A L,RU z mb M f m P cons first A L/\A.length=cl.length+dc (aD.take o)/\mP ah P (6*sw (aD.take o))/\Fz [f,ab.D] D M/\(m.D=ab.D\/F.size<=m.D)/\F.size<=M.size) ⟨ab,ah,cl,fl,E0.ext x2,aL,(mP.az ah).fj (dN _),x2.fz _,Or.inl rfl,ad _⟩ ?_;rintro o cons first M a9 μ hk ⟨m,P,A,L,R,aW,ag,fz,aZ,hM⟩ aI
 have bj:=ag.len;have bo:=az o;have s:=R.em.gr.bn;refine dit (λk=>?_) λk=>?_
 .let⟨a,Z⟩:=cG aD o;let⟨pa,pk,O,aX,e0,e1,e2,e3,e4⟩:=hs.aF Z;have bq:=pU Z;have bp:=qN Z;have bs:=cU.mu a;have bn:=az (o+1);have bg:=sZ (aD.take o);have bl:=fZ (aD.take o);have Y:=a2.1 o a Z;rw[<-aW]at Y;have X:=R.x;refine⟨V,V,_,X.af e0,_,X.af e1,_,X.af e2,_,X.af e3,_,X.af e4,?_⟩;intro m3 p;have x4:J M p:=(J.push M _).ah (ad _) _ _;have s4:p.size=M.size+1:=by simp[p,m3,aw]
  clear_value p;have j:=R.ext x4;have N:∀{T:E},p.size<=T.size->∀h∈[M.size,Q.size,D.size],h<T.size/\h≠f/\h≠m.D:=λhz h r=>by simp at r;omega
  have kS:∀{y U:E},p.size<=y.size->J y U->eG [M.size,Q.size,D.size] y U:=λhz xx h r=>xx.same h (N hz h r).1;have C:∀{y U:E},p.size<=y.size->J y U->∀ai,af U M.size ai=af y M.size ai:=λhz xx ai=>aJ (xx.same _ V) ai;have ao:∀{T:E},p.size<=T.size->∀c∈m.D::f::z,c<T.size:=λhz c b=>by
   simp only[aV]at b;rcases b with e|e|e
   .omega
   .omega
   .have:=R.gG c e;have:=X.size;omega
  refine⟨λI=>∃g u,RU z mb I f g u cons first A L/\mP P u (6*a.w)/\Fz [f,m.D] p I/\(g.D=m.D\/p.size<=g.D),⟨λh7=>?_,λn7=>⟨λaR=>?_,λa5=>⟨λaS=>?_,λa6=>?_⟩⟩⟩,?_⟩
  .simp only[bQ,aG]at h7;refine(b a (aq Z) h7 z mb p f m P cons first A L aN a7 pa pk j Y V V hn O aX).mono λv m5⟨g,u,ac,p5,K,b5⟩=>⟨Pd.dv K (N (ad _)),g,u,j.next ac K b5,p5,K,b5⟩
  .simp only[bQ,aG]at aR;refine(bN (m.D::f::z) (O.ext j.x) V).mono λv m5⟨a',la,e,ga,ea,d⟩=>⟨kS (ad _) d,a',e,C (ad _) d _,?_⟩;subst ea;have l:=j.ext d;have t:=d.size;refine(qF (x:=⟨a.op,0,0,0,a.args,[]⟩) l.em l.x.size (GI.done ga (ao (ad _)) (by show a.args.length<=_;omega)) (tm _) V).mono λv G⟨ev,s6,l6,ak,p6,B,b6⟩=>⟨Pd.dv B (N t),_,ev,s6,l6,l.next ak B b6,?_,(d.fz _).trans B,V⟩;subst p6;exact(mP.lK ⟨λk=>by simp only at k;omega,λk=>by simp only at k;omega⟩ ⟨by show a.args.length<=_;omega,aL⟩).fj V
  .simp only[bQ,aG]at aS;have bb:=Y.fe.lK V;let⟨H,ar⟩:=cG a.args 0;let⟨y0,y1⟩:=Y.fe.args H (aq ar);have bd:=O.len;have c4:=(j.cons.le (bA _ _));have f4:=(j.first.le (bA _ _));have a3:=c4.len;have a4:=f4.len;have aY:=j.same;let⟨cn,aP⟩:=cG A H.toNat;let⟨fn,am⟩:=cG L H.toNat;let⟨a_,ba⟩:=j.jf fn (aq am);have F4:=f4.aF am;refine⟨bh,V,H,(O.ext j.x).aF ar,y0,V,cn,c4.aF aP,y0,V,fn,F4,?_⟩;refine(dJ (e:=[]) aL (hn.bo.le (j.x.le.trans (zV _))) hn.types cn).mono λv m5⟨aT,bu,e,aK,ax,d⟩=>⟨kS (ad _) d,aT,e,by rw[d.af F4,F4],C (ad _) d _,C (ad _) d _,?_⟩;subst ax;have t:=d.size;have F3:=FC hn.types cn;obtain⟨fk,aQ⟩:∃fk:Nat,fn=fk:=⟨fn.toNat,V⟩;subst aQ;refine(rS (S:=[]) aL aK fk V).mono λv G⟨aU,bv,e,aE,al,i⟩=>⟨kS t i,aU,e,C t i _,C t i _,?_⟩;have z6:=i.size;refine(eO (S:=[]) aL ((O.ext (j.x.trans (d.trans i))).le (zV _)) (aE.done tW.mono aL bh (oh al.2)) (oh al.2)).mono λv m7⟨av,aa,e,aF,au,q⟩=>⟨kS V q,av,e,C V q _,?_⟩;have W:=(d.trans i).trans q;have w:=j.ext W;have z7:=q.size;have aH:GI (m.D::f::z) G m7 av aa:=GI.any aF;have bc:aa.length<=a.args.length+3:=by rw[<-au];simp;have:=al.2;omega
   have aM:0<aa.length:=by rw[<-au];simp;omega
   refine(qF (x:=⟨a.op,0,0,0,aa,[]⟩) w.em w.x.size (aH.done (ao V) V) (tm _) V).mono λv m8⟨ev,s8,l8,ay,p8,f8,b8⟩=>⟨Pd.dv f8 (N V),_,ev,s8,l8,w.next ay f8 b8,?_,(W.fz _).trans f8,V⟩;subst p8;exact(mP.lK ⟨λk=>by simp only at k;omega,λ_=>aM⟩ ⟨by show aa.length<=_;omega,aL⟩).fj V
  .refine(bN (m.D::f::z) (O.ext j.x) V).mono λv m5⟨a',la,e,ga,ea,d⟩=>⟨kS (ad _) d,a',e,C (ad _) d _,C (ad _) d _,C (ad _) d _,?_⟩;subst ea;simp only[br,aj]at a5 a6;have l:=j.ext d;have t:=d.size;have aa:a.op<=11:=by
    rcases Y.fe.op with k|k
    .exact k.2
    .omega
   refine(qF (x:=⟨a.op,(cons.len:Int),a.bP,a.bZ,a.args,[]⟩) l.em l.x.size (GI.done ga (ao (ad _)) (by show a.args.length<=_;omega)) (tm _) V).mono λv G⟨ev,s6,l6,ak,p6,B,b6⟩=>⟨Pd.dv B (N t),_,ev,s6,l6,l.next ak B b6,?_,(d.fz _).trans B,V⟩;subst p6;exact(mP.lK ⟨λk=>by simp only at k;omega,λk=>by simp only at k;omega⟩ ⟨by show a.args.length<=_;omega,aL⟩).fj V
  .rintro I ⟨g,u,l,p5,K,b5⟩;have t:=K.size;have ac:mP ah u (6*sw (aD.take (o+1))):=(ag.trans p5).fj V;have av:Fz [f,ab.D] D I:=(fz.then x4).rX K λH s=>by
    simp only[aV,jX,BE]at s⊢;rcases s with e|e
    .exact Or.inl (Or.inl e)
    .rcases aZ with d|d
     .exact Or.inl (Or.inr V)
     .exact Or.inr V
   have ax:g.D=ab.D\/F.size<=g.D:=V;have bb:=l.em.gr.bn;have al:∀h∈[M.size,Q.size,D.size],h<I.size:=λh r=>aO (N (ad _) h r).1 t;have ay:=λh r=>tc a h r;refine(jO a.op I).mono λv G⟨h,e,r,i⟩=>⟨λc b=>i.same c (al c b),h,e,λht=>?_,λhf=>?_⟩
   .have hd:=ay h r;rw[an ht]at hd;intro m7;have q:J G m7:=J.push _ _;have ba:=l.em.box.lt;have z6:=i.size;have aa:∀c∈[g.D,f],c<G.size:=λc b=>by simp at b;omega
    have a3:ap (bG [g.D,f] m7) (.mk G.size 0 1 1) [0]:=ap.lit aA [0] aa rfl rfl aL;have W:=i.trans q;have w:=l.ext W;have a_:=w.cons.len;refine(eO (S:=[g.D,f]) (λc b=>q.lt (aa c b)) w.cons a3 bE).mono λv m8⟨aK,aE,e,aP,ar,x8⟩=>⟨λc b=>x8.same c (q.lt (i.lt (al c b))),aK,e,?_⟩;intro m9;have d:J m8 m9:=J.push _ _;have z7:=q.size;have z8:=x8.size;have am:∀c∈[g.D,f],c<m8.size:=λc b=>by have:=aa c b;omega
    have a4:ap (bG [g.D,f] m9) (.mk m8.size 0 1 1) [0]:=ap.lit aA [0] am rfl rfl aL;have E9:=w.ext (x8.trans d);have aY:=E9.same;refine(eO (S:=[g.D,f]) (λc b=>d.lt (am c b)) E9.first a4 bE).mono λv aH⟨aM,aF,e,aQ,au,B⟩=>⟨λc b=>B.same c (d.lt (x8.lt (q.lt (i.lt (al c b))))),aM,e,?_⟩;have ak:=E9.ext B;have aT:ap (bG [g.D,f] aH) aK aE:=(GI.done aP (λc b=>q.lt (aa c b)) (by rw[<-ar];simp;omega)).le ((d.trans B).df _);have aU:ap (bG [g.D,f] aH) aM aF:=GI.done aQ (λc b=>d.lt (am c b)) (by rw[<-au];simp;omega);refine aI V _ _ _ ⟨g,u,aE,aF,⟨ak.em,ak.x,ak.gG,aT,aU,by rw[<-ar,<-au];simp;omega,λH s=>?_⟩,by rw[<-ar];simp;omega,ac,av.then (((W.trans x8).trans d).trans B),ax,?_⟩
    .rw[<-au]at s;rcases List.mem_append.1 s with s|s
     .exact l.jf H s
     .simp at s;omega
    .have:=d.size;have:=B.size;omega
   .have hd:=ay h r;rw[ae (by simp[hf])]at hd;exact aI V _ _ _ ⟨g,u,A,L,l.ext i,V,ac,av.then i,ax,oh i.size⟩
 .have a:o=aD.length:=V;subst a;rw[fu]at ag;exact⟨m,P,R.em,ag.fj V,fz,V⟩
section
variable{m:E}
def I8(m:E)(s:O):Prop:=s.len<=s.cap/\∀k:Nat,k<s.len->∃v:Int,0<=v/\v<=255/\af m s.D (s.off+k*1)=some (.int .u8 v)
def IA{dq:O}(h:I8 m dq):aN cp 30 [O.v dq] m λv i=>∃a,v=vp m.size 0/\Rd m.size a 0 i/\J m i:=by
 let⟨g,f⟩:=h;apply AU;have R:∀a:O,I8 m a->∃l,vp m.size 0=vp m.size 0/\Rd m.size l 0 (m.push (.cells (bt [.s a,.i 0]) pW))/\J m (m.push (.cells (bt [.s a,.i 0]) pW)):=λa⟨n,o⟩=>by
  refine⟨a,rfl,⟨⟨0,cE.push _ _ _,dg _,aL⟩,n,λk c=>?_⟩,J.push _ _⟩;let⟨v,d,e,b⟩:=o k c;have s:=mf b;exact⟨v,d,e,eQ.2 ⟨bE,(J.push m _).af b⟩⟩
 refine⟨λh=>?_,λ_=>R dq ⟨g,f⟩⟩;simp only[ar]at h;refine⟨bh,bh,V,?_⟩;refine R _ ?_;cases dq with
 |nil=>simp at h
 |zC j p q=>simp at h
 |mk j p t q=>
  simp only[O.gF,O.Oi]at h g;refine⟨by simp[O.cut];omega,λk c=>?_⟩;have r:k<2000:=by simpa[O.cut]using c
  let⟨v,d,e,b⟩:=f k bE;exact⟨v,d,e,by simpa[O.cut]using b⟩
def Kn(f:Nat)(b:List Value)(m:E)(S:List Nat)(Q:Ex->Prop):Prop:=aN cp f b m λv a=>∃s e,v=.agg #[vi e.op,vi e.bP,O.v s]/\fG (bG S a) s e.bD/\Q e/\J m a
def AJ(S:List Nat)(n:Int)(m:E):Kn 280 [vi n] m S (.mk 0 n []=·):=by
 apply EA;simp -zeta only[aC,aB];intro a b d;have c:J m b:=(J.push m _).trans (J.push a _);exact⟨_,.mk 0 n [],rfl,mF _ _ _ _ _ _,rfl,c.ah (ad _) _ _⟩
def ms(S:List Nat)(n:Int)(m:E):Kn 315 [vi n] m S (.mk 12 n []=·):=by
 apply Dd;simp -zeta only[aC,aB];intro a b d;have c:J m b:=(J.push m _).trans (J.push a _);exact⟨_,.mk 12 n [],rfl,mF _ _ _ _ _ _,rfl,c.ah (ad _) _ _⟩
def Ju{S:List Nat}{s:O}{bD:List Ex}(h:fG (bG S m) s bD)(a bP:Int):Kn 313 [vi a,vi bP,O.v s] m S (.mk a bP bD=·):=by
 apply J0;simp -zeta only[aC,aB];intro d c;have b:J m c:=(J.push m _).ah (ad _) _ _;exact⟨s,.mk a bP bD,rfl,h.le (b.df _),rfl,b⟩
def Bg{a P:Nat}{b:O}(r:Rd a b P m)(x:P+4<=10^16):aN cp 332 [vp a 0] m λv h=>∃k:Int,v=vi k/\Rd a b (P+4) h/\Fz [a] m h:=by
 apply EM (a,0);refine(cq r V 6).mono λv y⟨d,e,_,_,s,n⟩=>⟨d,e,?_⟩;refine(cq s V 6).mono λv z⟨f,e,_,_,t,o⟩=>⟨f,e,?_⟩;refine(cq t V 40).mono λv i⟨g,e,_,_,c,p⟩=>⟨g,e,?_⟩;intro j;have l:J i j:=J.push _ _;have w:ap (bG [a] j) (.mk i.size 0 10 10) [d,f,0,1,2,-1,3,g,999,-998]:=ap.lit aA _ (by have:=c.lt;simpa using this) rfl rfl aL;refine(kA (c.ext l) V w aL).mono λv A⟨k,e,_,u,q⟩=>⟨k,e,k,rfl,u,((n.trans o).trans p).then l|>.trans q⟩
end
section
variable{m:E}
def Zu(e:Ex):Prop:=∀(m:E)(t:O),fG m t e.bD->∀left:Int,left<=600->sV 317 [.agg #[vi e.op,vi e.bP,O.v t],vi left] m λk=>k= -1\/0<=k/\k+e.n=left
def IC:∀e:Ex,Zu e:=by
 refine Ex.ind ?_;intro L bP bD s m N c left F;simp only[Ex.VL,Ex.TO,Ex.RC,Ex.Sk]at*;apply AW;simp -zeta only[aC,aB];intro a;have f:J m a:=J.push _ _;have p:∀h∈[m.size],h<a.size:=by simp[a]
 clear_value a;have d:∀{M:E},J m M->∃k:Int,vi (-1:Int)=vi k/\(k= -1\/0<=k/\k+((1+en bD:Nat):Int)=left)/\J m M:=λB=>⟨-1,rfl,Or.inl rfl,B⟩;refine⟨λ_=>d f,λl=>?_⟩;simp only[bL]at l;have r:=c.len;rw[aQ (b:=left -1) V V];refine eA (n:=bD.length) (r▸c.gT) (λk(v:Int) M=>J a M/\0<=v/\v+1+en (bD.take k)=left) ⟨J.az _,V,aL⟩ ?_;rintro k v M I μ D ⟨g,z,A⟩ t
 have u:=f.trans g;refine dit (λj=>?_) λj=>?_
 .let⟨e,b⟩:=cG bD k;let⟨w,q,i,g1,g2⟩:=c.aF b;refine⟨V,V,_,u.af i,_,u.af g1,_,u.af g2,?_⟩;refine(s e (aq b) M w (fG.le u.le q) v V).aH g p λK H G C y=>⟨_,rfl,λ_=>d (u.trans C),λo=>?_⟩;simp only[bL]at o;refine t V _ _ ⟨y,V,?_⟩
  rw[Ke b];omega
 .rw[bY V]at A;exact⟨v,rfl,Or.inr ⟨z,V⟩,u⟩
def AX{t:O}{e:Ex}(h:fG m t e.bD):sV 286 [.agg #[vi e.op,vi e.bP,O.v t]] m λk=>k= -1\/k=e.n/\e.n<=30:=by
 apply EG;simp -zeta only[aC,aB];intro a;have b:J m a:=J.push _ _;have g:∀d∈[m.size],d<a.size:=by simp[a]
 clear_value a;refine(IC e a t (fG.le b.le h) 30 bh).aH (J.az a) g λn j i c l=>⟨_,rfl,λ_=>⟨-1,rfl,Or.inl rfl,b.trans c⟩,λf=>?_⟩;simp only[bL]at f;rw[aQ (b:=30 -n) V V];exact⟨_,rfl,Or.inr ⟨V,V⟩,b.trans c⟩
def LV{s:O}{l:List Int}(h:ap m s l)(e:Int):sV 279 [O.v s,vi e] m λk=>-1<=k/\k<l.length:=by
 apply EJ;have c:=h.len;refine dU (n:=l.length) (c▸h.gT) (λ_ M=>J m M) (J.az _) ?_;rintro k M I μ g a f
 refine⟨λb=>?_,λ_=>⟨-1,rfl,⟨V,V⟩,a⟩⟩;simp only[ar]at b;let⟨x,d⟩:=cG l k;exact⟨V,V,x,(h.ext a).aF d,λ_=>⟨k,rfl,⟨V,V⟩,a⟩,λ_=>f V _ a⟩
def LA(f:O)(m:E):aN cp 215 [O.v f] m λv a=>v=.agg #[O.v f]/\J m a:=by
 apply Lz;simp -zeta only[aC,aB];intro b c;exact⟨trivial,(J.push m _).ah (ad _) _ _⟩
def Q8(p:O)(r:Int)(m:E):aN cp 250 [O.v p,vi r] m λv a=>v=.agg #[O.v p,vi r,vi 0,vi 0,O.v .nil]/\J m a:=by
 apply LX;simp -zeta only[aC,aB];intro b c;exact⟨trivial,(J.push m _).ah (ad _) _ _⟩
end
section
variable{a:List Nat}{m:E}{b d p:O}
def Hb(q:∀c∈a,c<m.size){l:List Int}(h:ap m b l)(w:l.length<=10^12)(u:Int):kZ 333 [O.v b,vi u] m a λc=>(∀y∈c,0<=y/\y<(l.length:Int))/\c.length<=l.length:=by
 apply ze;intro B;have r:=h.len;refine eA (n:=l.length) (r▸h.gT) (λk s M=>J m M/\∃c,GI a m M s c/\(∀y∈c,0<=y/\y<(l.length:Int))/\c.length<=k) ⟨J.push m _,[],GI.nil a m,aL,ad _⟩ ?_;rintro k s M I μ z ⟨e,c,g,f,A⟩ j
 refine⟨λi=>?_,λi=>⟨s,c,rfl,g,⟨f,V⟩,e⟩⟩;simp only[ar]at i;let⟨x,t⟩:=cG l k;refine⟨V,V,x,(h.ext e).aF t,λ_=>?_,λ_=>j V _ _ ⟨e,c,g,f,V⟩⟩;intro C;exact GI.kK g (e.fz []) q V λD v p o _ _=>j V _ _ ⟨o.ext,_,p,λy d=>by
  rcases List.mem_append.1 d with d|d
  .exact f y d
  .simp at d;omega,bE⟩
def SY(m:E)(b:List Ce)(p:dy):Prop:=∃a x y z,b=[.s a,.i p.aS,.i x,.i y,.s z]/\ap m a p.params
abbrev pv(m:E)(s:O)(l:List dy):Prop:=eT m 5 (SY m) s l
def SY.le{m b:E}(h:Le m b){a:List Ce}{p:dy}:SY m a p->SY b a p:=λ⟨c,x,y,z,d,e⟩=>⟨c,x,y,z,d,e.le h⟩
def pv.le{m b:E}(a:Le m b){s:O}{l:List dy}(h:pv m s l):pv b s l:=eT.le h a λ_ _=>SY.le a
def pv.aF{s:O}{l:List dy}(h:pv m s l){k:Nat}{p:dy}(d:l[k]? =some p):∃a,ap m a p.params/\af m s.D (s.off+k*5)=some (O.v a)/\af m s.D (s.off+k*5+1)=some (vi p.aS):=by
 obtain⟨e,⟨a,x,y,z,rfl,c⟩,b⟩:=h.iB k p d;exact⟨a,c,b 0 _ rfl,b 1 _ rfl⟩
def ClQ(a:List bz)(b:List dy)(t y:Int):Prop:=∃(f:Nat)(q:dy),y=f/\b[f]? =some q/\0<q.params.length/\(0<t->∃d∈a,d.cons.length=0/\q.params.getLast?=some d.sU/\q.aS=d.to)
def xW(X:∀g∈a,g<m.size){h:List bz}{e:List dy}(hd:cx m d h)(ht:dT h)(o:pv m p e)(hf:e.length<=1000)(v:Int):kZ 339 [.agg #[O.v d,O.v p],vi v] m a λb=>(∀y∈b,ClQ h e v y)/\b.length<=e.length:=by
 apply Cs;simp -zeta only[aC,aB];intro c q;have z:J m c:=J.push _ _;have G:∀g∈[m.size],g<c.size:=by simp[c]
 have R:GI a c q (.mk c.size 0 0 0) []:=GI.nil a c;have x2:J c q:=J.push _ _;clear_value q;clear_value c;have aa:=o.len;refine eA (n:=e.length) (aa▸o.gT) (λk t M=>J c M/\∃b,GI a c M t b/\(∀y∈b,ClQ h e v y)/\b.length<=k) ⟨x2,[],R,aL,ad _⟩ ?_;rintro k t M ac μ hk ⟨A,b,i,j,af⟩ r
 have u:=z.trans A;refine⟨λF=>?_,λF=>⟨t,b,rfl,i.cy (λ_ E=>E) z.size,⟨j,V⟩,u⟩⟩;simp only[ar]at F;let⟨s,I⟩:=cG e k;let⟨B,l,C,P⟩:=o.aF I;have ae:=l.len;have ag:=l.gT;refine⟨V,V,_,u.af C,λS=>?_,λ_=>r V _ _ ⟨A,b,i,j,V⟩⟩;simp only[ar]at S;rw[aQ (b:=(B.len:Int) -1) V V];let⟨y,K⟩:=cG s.params (((B.len:Int) -1).toNat);refine⟨V,V,_,u.af C,V,V,y,(l.ext u).aF K,V,V,_,u.af P,?_⟩;refine(Am (hd.le u.le) ht y s.aS).aH A G λai m3 H L w=>⟨_,rfl,λZ=>?_,λ_=>r V _ _ ⟨w,b,i.ext L,j,V⟩⟩;intro m4;refine GI.kK (i.ext L) (w.fz []) (λg f=>z.lt (X g f)) V λaj M' Q D _ _=>⟨J.oH (w.aK _) D.ext G,r V _ _ ⟨D.ext,_,Q,λab f=>?_,bE⟩⟩;rcases List.mem_append.1 f with f|f
 .exact j ab f
 .simp at f Z;refine⟨k,s,f,I,V,λE=>?_⟩;rcases H with H|⟨ah,N,_,Y,T,U,W⟩
  .omega
  .refine⟨N,aq Y,T,?_,W.symm⟩;rw[List.getLast?_eq_getElem?,U,<-K];congr 1;omega
def pQ{i:List bz}{j:List dy}{v:List Int}(hd:cx m d i)(k:dT i)(q:pv m p j)(o:j.length<=1000)(r:ap m b v)(t:Int):oN 334 [.agg #[O.v d,O.v p],O.v b,vi t] m:=by
 apply En;simp -zeta only[aC,aB];intro a;have f:J m a:=J.push _ _;have e:∀n∈[m.size],n<a.size:=by simp[a]
 clear_value a;refine(mX (hd.le f.le) k t).any.aH (J.az a) e λl x g _=>⟨_,rfl,λ_=>rA (f.trans g),λ_=>?_⟩;have c:=f.trans g;refine(xW (a:=[]) aL (hd.le c.le) k (pv.le c.le q) o t).aH g e λA w y _ _ h s=>⟨_,rfl,λ_=>rA (c.trans h),λ_=>?_⟩;exact(dw (r.ext (c.trans h)) t).any.aH s e λl z u _=>⟨_,rfl,rA ((c.trans h).trans u)⟩
end
def Lv{a P:Nat}{p:O}{m:E}(h:Rd a p P m)(Q:P+1<=10^16){q v x:O}{i:List bz}{r:List dy}{L:List Int}(hd:cx (bG [a] m) q i)(H:dT i)(G:pv (bG [a] m) v r)(B:r.length<=1000)(I:ap (bG [a] m) x L):
 aN cp 327 [vp a 0,.agg #[O.v q,O.v v],O.v x] m λw u=>∃k:Int,w=vi k/\(k=1\/0<=k/\k<=4/\k<=i.length)/\Rd a p (P+1) u/\Fz [a] m u:=by
 apply El (a,0)
 simp -zeta only[aC,aB]
 intro b d
 have U:b.size=m.size+1:=by simp[b]
 have M:J m b:=J.push _ _
 have y:J b d:=J.push _ _
 have z:J m d:=M.trans y
 have S:=h.lt
 have t:∀c∈[m.size],c<d.size/\c∉[a]:=λc n=>by have:=y.size;simp at n⊢;omega
 have K:ap (bG [a] d) (.mk b.size 0 7 7) [1,1,3,0,2,4,3]:=ap.lit aA _ bE rfl rfl aL
 clear_value d
 have R:=hd.len
 refine(kA (h.ext z) V K aL).mono λw f⟨k,A,C,l,j⟩=>⟨j.dv t,k,A,?_⟩
 have e:Fz [a] m f:=(z.fz _).trans j
 have s:0<=k/\k<=4:=by simp at C;omega
 refine⟨λ_=>⟨1,rfl,Or.inl rfl,l,e⟩,λF=>?_⟩
 simp only[bL]at F
 have o:Le (bG [a] m) f:=(e.df λ_ h=>h).trans (bA _ _)
 have D:∀c∈[m.size],c<f.size:=λc n=>aO (t c n).1 j.size
 refine(pQ (hd.le o) H (pv.le o G) B (I.le o) k).aH (J.az f) D λN T g _=>⟨_,rfl,λ_=>⟨1,rfl,Or.inl rfl,l.ext g,e.then g⟩,λ_=>⟨k,rfl,Or.inr ⟨s.1,s.2,V⟩,l.ext g,e.then g⟩⟩

section
variable{t:Int}{x:Ex}
def Kv:List bz:=[⟨0,0,[[],[0,1]]⟩,⟨0,0,[]⟩,⟨0,0,[[],[3,0,3]]⟩]
def RD:List bz:=[⟨0,0,[[1,3]]⟩,⟨1,0,[]⟩,⟨0,0,[[1,1,0],[0],[3]]⟩,⟨0,1,[]⟩]
def rK:List (List bz):=Kv::RD.map λd=>Kv++[d]
def Pl:List (List Int×Int):=[([],0),([1],0),([1,1],1),([1],1),([1,0],1),([2,1],1),([1,1],0),([3],0),([0],1),([0,1],1),([3,0],3),([3],1),([1,3,0],0),([0],0),([0,0],0),([1,0],0)]
structure GP(ds:List bz)(fs:List dy):Prop where
 ds:ds∈rK
 iW:0<fs.length
 oD:fs.length<=4
 dz:∀q∈fs,(q.params,q.aS)∈Pl
def Lo(t:Int):Prop:=t=0\/t=1\/t=3
instance(t:Int):Decidable (Lo t):=inferInstanceAs (Decidable (_\/_))
def Ty(a:List bz)(t:Int):Prop:=0<=t/\t<=(a.length:Int)
instance(a:List bz)(t:Int):Decidable (Ty a t):=inferInstanceAs (Decidable (_/\_))
section
variable{a:List bz}{b:List dy}
def px:∀a∈rK,3<=a.length/\a.length<=4:=bh
def Qt:∀a∈rK,∀t∈[(0:Int),1,2,3,4],∀c∈(cz a t).take 2,((cz a t).head?=some c\/t∉cD a c)->(cD a c).length<=3/\(∀f∈cD a c,Lo f)/\(Lo t->(cD a c).length=0):=bh
def Rh:∀a∈rK,0<(cz a 1).length/\0<(cz a 3).length/\(cz a 0).length=0:=bh
def Qr:∀a∈rK,∀d∈a,d.cons.length=0->∀s∈Pl,s.1.getLast?=some d.sU->s.2=d.to->∀f∈s.1.dropLast,Lo f:=bh
def Nk:∀a∈rK,cz a 1=[0,1]/\cz a 3=[2,3]/\cD a 0=[]/\cD a 1=[0,1]/\cD a 2=[]/\cD a 3=[3,0,3]:=bh
def zo:∀a∈rK,(∀t∈[(0:Int),1,2,3,4],∀c∈cz a t,(cD a c).length<=3/\∀f∈cD a c,Ty a f)/\(∀t∈[(0:Int),1,2,3,4],(cz a t).length<=3)/\(∀d∈a,Ty a d.sU):=bh
def Qs:∀a∈rK,∀t∈[(1:Int),3,4],(t:Int)<=a.length->(∀d∈a[t.toNat -1]?,d.cons.length≠0)->0<(cz a t).length:=bh
def wH:∀s∈Pl,s.1.length<=3/\(∀t∈s.1,0<=t/\t<=3)/\0<=s.2/\s.2<=3:=bh
def UL(a:0<=t)(b:t<=4):t∈[(0:Int),1,2,3,4]:=bE
def Ty.Yf(hd:a∈rK)(h:Ty a t):t∈[(0:Int),1,2,3,4]:=UL h.1 (O8 (px a hd) h.2)
def GP.ty(h:GP a b)(c:0<=t)(d:t<=3):Ty a t:=⟨c,oh (px a h.ds)⟩
def Lo.ty(hd:a∈rK)(h:Lo t):Ty a t:=by have:=px a hd;unfold Lo at h;constructor<;>omega
end
def Ta:∀a∈rK,∀d∈a,0<d.cons.length->d.cons.length<=3/\d.sU=0/\d.to=0/\∀f∈d.cons,f.length<=3/\∀t∈f,0<=t/\t<=(a.length:Int):=bh
def Tb:∀a∈rK,∀k∈List.range a.length,∀d∈a[k]?,d.cons.length=0->(∀e∈a.take k,¬(e.cons.length=0/\e.sU=d.sU/\e.to=d.to))/\Ty a d.sU/\Ty a d.to:=bh
def sX{a:List bz}(h:a∈rK):dT a:=
 ⟨(px a h).2,λk d b=>⟨Ta a h d (aq b),Tb a h k (List.mem_range.2 (av b)) d b⟩⟩
structure XF(ds:List bz)(nf a:Nat)(op bP:Int)(n:Nat):Prop where
 o:0<=op/\op<=13
 T9:op=12->0<=bP/\bP<(a:Int)
 Kc:op=13->n=2
 YX:op=7->n=3
 all:op=8->n=1+(cz ds bP).length/\0<(cz ds bP).length
 call:op=9->0<=bP/\bP<(nf:Int)
def xb(b:List bz)(a bP:Int):Nat->Nat
 |0=>0
 |i+1=>if a=13 then 1 else BH b a bP i
inductive WX(ds:List bz)(nf:Nat):Nat->Ex->Prop
 |mk {a:Nat} {op bP:Int} {bD:List Ex} (fe:XF ds nf a op bP bD.length) (hk:∀(i:Nat)(e:Ex),bD[i]? =some e->WX ds nf (a+xb ds op bP i) e):WX ds nf a (.mk op bP bD)
section
variable{b:List bz}{c a:Nat}{d bP:Int}{bD:List Ex}
def WX.aT{e:Ex}(h:WX b c a e):XF b c a e.op e.bP e.bD.length/\∀(i:Nat)(x:Ex),e.bD[i]? =some x->WX b c (a+xb b e.op e.bP i) x:=by
 cases h with
 |mk fe d=>exact⟨fe,d⟩
def Y0(a:d≠13)(c:d≠8)(i:Nat):xb b d bP i=0:=by
 cases i with
 |zero=>rfl
 |succ i=>show(if d=13 then 1 else BH b d bP i)=0;rw[ae a,Kx c]
def WX.fe(k:0<=d/\d<=11)(g:d=7->bD.length=3)(f:d≠8)(i:d=9->0<=bP/\bP<(c:Int))(j:∀e∈bD,WX b c a e):WX b c a (.mk d bP bD):=
 .mk ⟨⟨V,V⟩,λh=>V,λh=>V,g,λh=>absurd h f,i⟩ λl e h=>by rw[Y0 V f];exact j e (aq h)
def WX.int(n:Int):WX b c a (.mk 0 n []):=.fe bh (λh=>V) bh (λh=>V) aL
def WX.T9(h:0<=bP/\bP<(a:Int)):WX b c a (.mk 12 bP []):=.mk ⟨bh,λ_=>h,λh=>V,λh=>V,λh=>V,λh=>V⟩ aL
def WX.lt{y:Ex}(e:WX b c a x)(f:WX b c (a+1) y):WX b c a (.mk 13 0 [x,y]):=
 .mk ⟨bh,λh=>V,λ_=>rfl,λh=>V,λh=>V,λh=>V⟩ λi g d=>by
  rcases i with _|_|i
  .simp at d;subst d;exact e
  .simp at d;subst d;exact f
  .simp at d
def WX.mt{l:List Ex}(k:WX b c a x)(n:l.length=(cz b bP).length)(m:0<l.length)(j:∀(i:Nat)(e:Ex)(f:Int),l[i]? =some e->(cz b bP)[i]? =some f->WX b c (a+(cD b f).length) e):WX b c a (.mk 8 bP (x::l)):=
 .mk ⟨bh,λh=>V,λh=>V,λh=>V,λ_=>⟨bE,V⟩,λh=>V⟩ λi e d=>by
  rcases i with _|i
  .simp at d;subst d;exact k
  .simp at d;let⟨f,g⟩:=cG (cz b bP) i (oh (av d));have:=j i e f d g;show WX b c (a+BH b 8 bP i) e;rw[Kw rfl g];exact this
end
end
section
variable{X:List Nat}{b k c:Nat}{s:O}
structure GC(rb:Nat)(bs:O)(P:Nat)(d p:O)(ds:List bz)(fs:List dy)(m:E):Prop where
 rd:Rd rb bs P m
 hd:cx (bG [rb] m) d ds
 hp:pv (bG [rb] m) p fs
 gp:GP ds fs
def Lw(a:Nat)(L:List Nat)(m:E):Prop:=∀b∈L,b<m.size/\b≠a
def XP(S:List Nat)(b:Nat)(c:O)(m:E)(P:Nat)(Q:Ex->Prop)(v:Value)(a:E):Prop:=∃s e,v=.agg #[vi e.op,vi e.bP,O.v s]/\fG (bG S a) s e.bD/\Q e/\Rd b c P a/\Fz [b] m a
abbrev IR(a:Nat)(m:E)(s:O)(l:List Int):Prop:=ap (bG [a] m) s l
section
variable{e P i:Nat}{h d p:O}{l:List bz}{n:List dy}{m M g:E}{S L:List Nat}{f:Nat}{j:List Value}{Q Q':Ex->Prop}
def fh(f:Fz [e] m M):Le (bG [e] m) (bG [e] M):=f.df λ_ h=>h
def GC.to(a:GC e h P d p l n m)(f:Fz [e] m M)(r:Rd e h i M):GC e h i d p l n M:=⟨r,a.hd.le (fh f),pv.le (fh f) a.hp,a.gp⟩
def GC.ext(a:GC e h P d p l n m)(x:J m M):GC e h P d p l n M:=a.to (x.fz _) (a.rd.ext x)
def GC.types(a:GC e h P d p l n m):dT l:=sX a.gp.ds
def Lw.fz(h:Lw e L m)(f:Fz X m M):Lw e L M:=λb a=>⟨aO (h b a).1 f.size,(h b a).2⟩
def Lw.lt(h:Lw e L m)(f:Fz X m M):∀b∈L,b<M.size:=λb a=>(h.fz f b a).1
def Lw.dv(h:Lw e L m)(f:Fz [e] m M):eG L m M:=f.dv λb a=>⟨(h b a).1,by have:=(h b a).2;simpa using this⟩
def Lw.cg(h:Lw e L m)(f:Fz [e] m M)(c:Fz [e] M g)(a:b∈L)(o:Nat):af g b o=af M b o:=aJ (c.same b (h.fz f b a).1 (by have:=(h b a).2;simpa using this)) o
def XP.mono{P i:Nat}(k:∀a,Q a->Q' a)(j:P<=i){v:Value}:XP S e h m P Q v M->XP S e h m i Q' v M:=λ⟨s,a,b,c,d,f,g⟩=>⟨s,a,b,c,k a d,f.mono j,g⟩
def XP.then{K:Value->E->Prop}(c:aN cp f j M (XP S e h M P Q))(m:Lw e L M)(n:∀s a g,fG (bG S g) s a.bD->Q a->Rd e h P g->Fz [e] M g->K (.agg #[vi a.op,vi a.bP,O.v s]) g):aN cp f j M λv g=>eG L M g/\K v g:=
 c.mono λv g⟨s,a,d,i,k,l,b⟩=>⟨m.dv b,d▸n s a g i k l b⟩
def Lw.tw(h:Lw e L m)(f:Fz [e] m M)(a:Fz [e] m g):eG L M g:=λb c=>by
 have:=h b c;rw[f.same b this.1 (by simpa using this.2),a.same b this.1 (by simpa using this.2)]
def XP.ret{p:Nat}(q:aN cp f j M (XP (b::S) e h M P Q))(t:Lw e L M)(o:Fz [e] m M)(r:Rd e h p m)(n:m.size<=b)(v:∀a,Q a->Q' a)(u:P<=i):
 aN cp f j M λA g=>eG L M g/\∃c d:Int,∃k:O,A=.agg #[vi c,vi d,O.v k]/\XP S e h m i Q' (.agg #[vi c,vi d,O.v k]) (ah g b 0 [.i c,.i d,.s k]):=
 XP.then q t λs a g z y w l=>⟨_,_,_,rfl,s,a,rfl,fG.le (cA aL λB x=>ai _ x) z,v a y,r.ah (w.mono u) (o.trans l) n 0 _,(o.trans l).ah (Or.inr n) _ _⟩
abbrev GE(S:List Nat)(a m:E)(s:O)(l:List Ex):Prop:=Gr S a m bF 3 BG s l
def XP.kK{B:Nat}{i:E}{s:O}{n:List Ex}{K:O->E->Prop}(D:aN cp f j M (XP (s.D::S) e h M P Q))(t:GE S i M s n)(z:Fz [e] i M)(w:Lw e L i)(u:Rd e h B i)(H:e∈S)(l:n.length<=1000)
 (F:∀c r g,Q c->GE S i g r (n++[c])->Rd e h P g->Fz [e] i g->Fz [e,s.D] M g->(r.D=s.D\/M.size<=r.D)->K r g):
 aN cp f j M λN k=>eG L M k/\∃o p:Int,∃q:O,N=.agg #[vi o,vi p,O.v q]/\
  jL (k.push (.cells (bt [.i o,.i p,.s q]) bF)) bF [.i 0,.i 0,.s .nil] 40 s (O.mk k.size 0 1 1) λr g=>eG L (k.push (.cells (bt [.i o,.i p,.s q]) bF)) g/\K r g:=
 XP.then D (w.fz z) λU c k J G x d=>⟨_,_,_,rfl,by
  have T:=t.bn;have I:=u.lt;have v:=z.trans d;refine Gr.kK (g:=[.i 0,.i 0,.s .nil]) (k:=c) BG.mono bh (t.eB BG.mono d (by simp;exact⟨H,I⟩)) v (by cases c;exact BG.of J) V λr g C m R A=>⟨w.tw (v.push _) m,F c r g G C (u.MF x m (A e x.lt V)) m ⟨bH d.size R.1,λb y l=>?_⟩ (oh d.size)⟩;simp only[aV,jX,BE,vv]at l;rw[A b (aO y d.size) l.2,d.same b y (by simpa using l.1)]⟩
def Yh{b:E}(h:Fz [e,k] b M)(d:s.D=k\/b.size<=s.D)(a:Fz [e,s.D] M g):Fz [e,k] b g:=
 h.rX a λy c=>by simp at c⊢;omega
end
def mZ{S:List Nat}{d P:Nat}{b:O}{m:E}{bD:List Ex}(j:Rd d b P m)(h:fG (bG S m) s bD)(a bP:Int):aN cp 313 [vi a,vi bP,O.v s] m (XP S d b m P (.mk a bP bD=·)):=
 (Ju h a bP).mono λv l⟨k,e,f,g,i,c⟩=>⟨k,e,f,g,i,j.ext c,c.fz _⟩
def Xl(b:List bz)(d:List dy)(c:Nat)(e:Ex):Prop:=(∀a,WX b d.length a e)/\e.n<=c
def WH(c k:Nat)(e:List bz)(f:List dy)(t:Int):Prop:=∀(S:List Nat)(a P:Nat)(b d p:O)(m:E),(∀g∈S,g<m.size)->a∈S->GC a b P d p e f m->P+k<=10^16->
 aN cp 335 [vp a 0,.agg #[O.v d,O.v p],vi t] m (XP S a b m (P+k) (Xl e f c))
def RL{a:List bz}{b:List dy}{l:List Ex}{f i:Int}(m:f=6\/f=10)(h:∀e∈l,Xl a b 1 e)(k:l.length+1<=c):Xl a b c (.mk f i l):=
 ⟨λg=>.fe V (λh=>V) V (λh=>V) λe d=>(h e d).1 g,by
  rw[Ex.Sk];have:∀l:List Ex,(∀e∈l,Xl a b 1 e)->en l<=l.length:=λl=>by
   induction l with
   |nil=>simp
   |cons x l j=>intro h;rw[On,aZ];have:=(h x aL).2;have:=j λe d=>h e (by simp[d]);omega
  have:=this l h;omega⟩
def Jt{d:List bz}{fs:List dy}{t:Int}(ht:Ty d t)(D:(Lo t/\c=1/\k=5)\/((∀a,Lo a->WH 1 5 d fs a)/\c=4/\k=20)):WH c k d fs t:=by
 intro r f B H ao ax al hS aa a hP;apply C0 (f,0);simp -zeta only[aC,aB];intro m ab;let⟨x2,hl⟩:=dD (a:=m) (c:=ab) rfl rfl;have s1:m.size=al.size+1:=by simp[m]
 clear_value ab;have hr:=a.rd.lt;have L2:Lw f [m.size,al.size] ab:=λb K=>⟨hl b K,by simp at K;omega⟩;have Y:=a.types;have h5:=Ty.Yf a.gp.ds ht;have ag:∀e∈m.size::r,e<ab.size:=bO hS x2.size (hl _ aL);have c2:=a.ext x2;refine(iu (e:=[f]) (by simp;exact c2.rd.lt) (c2.hd.le (bA _ _)) Y t).mono λA m3⟨cs,l,e,hc,q,G⟩=>⟨L2.dv (G.fz _),cs,e,?_⟩;subst q;have u:=c2.ext G;have N:=L2.fz (G.fz []);have u3:=x2.trans G;have aN:=hc.len;refine dit (λh0=>?_) λh0=>?_
 .let⟨X,ak⟩:=cG (cz d t) 0;have hh:(cz d t).head?=some X:=by rw[List.head?_eq_getElem?];exact ak
  have L:X∈(cz d t).take 2:=List.mem_take_iff_getElem.2 ⟨0,V,by have:=List.getElem?_eq_some_iff.1 ak;exact this.2⟩;have A0:∀{M:E},Fz [f] m3 M->af M cs.D (cs.off+Int.toNat 0*1)=some (vi X):=λR=>(eQ.1 ((hc.le (fh R)).aF ak)).2;refine⟨bh,V,X,A0 (Fz.az _ _),λa M=>a∈(cz d t).take 2/\Rd f H (B+1) M/\Fz [f] m3 M,⟨λI=>?_,λI=>⟨L,u.rd.mono V,Fz.az _ _⟩⟩,?_⟩
  .simp only[ar]at I;let⟨o,i⟩:=cG (cz d t) 1;have t1:o∈(cz d t).take 2:=List.mem_take_iff_getElem.2 ⟨1,V,by have:=List.getElem?_eq_some_iff.1 i;exact this.2⟩;refine(cq u.rd V 4).mono λA m4⟨F,e,_,_,j,g⟩=>⟨N.dv g,F,e,λh=>⟨bh,V,o,(eQ.1 ((hc.le (fh g)).aF i)).2,t1,j,g⟩,λh=>⟨L,j,g⟩⟩
  rintro c' v ⟨aA,w,i⟩;have O:=N.fz i;refine⟨λa M=>a∈(cz d t).take 2/\((cz d t).head?=some a\/t∉cD d a)/\Rd f H (B+1) M/\Fz [f] m3 M,?_,?_⟩
  .refine(dJ (e:=[]) aL ((u.to i w).hd.le ((bA _ _).trans (zV _))) Y c').mono λA m6⟨R,l,e,hf,q,x⟩=>⟨O.dv (x.fz _),R,e,?_⟩;subst q;refine(dw (hf.le (bA _ _)) t).mono λA o⟨b,e,K,g⟩=>⟨(O.fz (x.fz [])).dv (g.fz _),b,e,λau=>?_,λah=>⟨aA,Or.inr λj=>by rw[K.2 j]at ah;exact absurd ah bh,(w.ext x).ext g,(i.then x).then g⟩⟩;have j:=(i.then x).then g;exact⟨bh,V,X,A0 j,L,Or.inl hh,(w.ext x).ext g,j⟩
  rintro Q p ⟨I,h2,r8,Z⟩;let⟨z3,aE,zz⟩:=Qt d a.gp.ds t h5 Q I h2;have c8:=u.to Z r8;have L8:=N.fz Z;have F8:Fz [f] al p:=(u3.fz _).trans Z;have z8:=Z.size;have aG:=G.size;have z2:=x2.size;intro U;have x9:J p U:=J.push _ _;have g9:GE (m.size::r) p U (.mk p.size 0 0 0) []:=Gr.new _ (ad _) _ _ _;have s9:U.size=p.size+1:=by simp[U]
  clear_value U;refine(dJ (e:=[f,p.size]) bE (c8.hd.le (x9.bG aL)) Y Q).mono λA aw⟨R,l,e,hf,q,ac⟩=>⟨(L8.fz (x9.fz [])).dv (ac.fz _),R,e,?_⟩;subst q;have aD:=hf.len;refine eA (n:=(cD d Q).length) V (λj s M=>∃l,GE (m.size::r) p M s l/\l.length=j/\(∀e∈l,Xl d fs 1 e)/\Rd f H (B+1+5*j) M/\Fz [f] p M/\Fz [f,p.size] aw M/\(s.D=p.size\/aw.size<=s.D)) ⟨[],g9.ext BG.mono ac,rfl,aL,(r8.ext x9).ext ac,((x9.trans ac).fz _),Fz.az _ _,Or.inl rfl⟩ ?_;rintro j s M ay μ hj ⟨l,C,aF,T,W,o,ae,hs⟩ am
  have LM:=L8.fz o;refine dit (λh=>?_) λh=>?_
  .rcases D with⟨aj,_,_⟩|⟨ih,e1,e2⟩
   .have:=zz aj;omega
   let⟨y,z⟩:=cG (cD d Q) j;refine⟨V,V,y,(eQ.1 ((hf.le (ae.df λ_ h=>h)).aF z)).2,?_⟩;exact XP.kK (ih y (aE y (aq z)) (s.D::m.size::r) f (B+1+5*j) H ao ax M (bO (λe g=>by have:=ag e g;have:=o.size;have:=G.size;omega) (ad _) C.bn.2) (by simp[aa]) (c8.to o W) V) C o L8 r8 (by simp[aa]) V λe aM M' g g' r' f' ap aI=>
    am V _ _ ⟨_,g',bE,λe' ai=>by rcases List.mem_append.1 ai with h|h;exact T e' h;simp at h;subst h;exact g,r'.mono V,f',Yh ae hs ap,oh ae.size⟩
  .have az:∀e∈m.size::r,e<p.size:=λe g=>by have:=ag e g;omega
   exact XP.ret (mZ W (C.done BG.mono az bh V) 6 Q) LM (F8.trans o) a.rd V (λe g=>g▸RL (Or.inl rfl) T (by rcases D with⟨h,e,_⟩|⟨_,e,_⟩;have:=zz h;omega;omega)) (by rcases D with⟨h,_,e⟩|⟨_,_,e⟩;have:=zz h;omega;omega)
 .refine(xW (a:=[f]) (by simp;exact u.rd.lt) (u.hd.le (bA _ _)) Y (pv.le (bA _ _) u.hp) (oh a.gp.oD) t).mono λA m4⟨R,l,e,gl,T,p⟩=>⟨N.dv (p.fz _),R,e,?_⟩;have ae:IR f m4 R l:=GI.done gl (by simp;exact u.rd.lt) (O8 T.2 a.gp.oD);have aP:=ae.len;have X:=u.ext p;have Q:=N.fz (p.fz []);have u4:=u3.trans p;have z4:=p.size;have z3:=G.size;refine⟨λb M=>(b=true->0<t/\0<R.len)/\M=m4,⟨λh=>⟨λU=>by simp only[ar]at h U;omega,rfl⟩,λh=>⟨aL,rfl⟩⟩,?_⟩;rintro b _ ⟨K,rfl⟩;refine⟨λau=>?_,λah=>?_⟩
  .let⟨L,aO⟩:=K au;refine(cq X.rd V R.len).mono λA v⟨F,e,k0,k2,w,i⟩=>⟨Q.dv i,F,e,k0,V,?_⟩;let⟨y,z⟩:=cG l F.toNat;obtain⟨fi,q,rfl,U,aT,aH⟩:=T.1 y (aq z);let⟨dd,aA,az,aE,aJ⟩:=aH L;have aj:=Qr d a.gp.ds dd aA az _ (a.gp.dz q (aq U)) aE aJ;have aU:q.params.length<=3:=(wH _ (a.gp.dz q (aq U))).1;have Z:=X.to i w;have O:=Q.fz i;let⟨ps,ak,e0,e1⟩:=Z.hp.aF U;have aR:=ak.len;have aD:=av U;have aS:=Z.hp.len;refine⟨_,(eQ.1 ((ae.le (fh i)).aF z)).2,V,V,ps,(eQ.1 e0).2,?_⟩;intro m6;have x:J v m6:=J.push _ _;have g6:GE (m.size::r) v m6 (.mk v.size 0 0 0) []:=Gr.new _ (ad _) _ _ _;clear_value m6;have z5:=i.size;have ac:∀e∈m.size::r,e<v.size:=λe g=>by have:=ag e g;omega
   have aV:¬Lo t\/(Lo t/\0<t):=by by_cases h:Lo t;exact Or.inr ⟨h,L⟩;exact Or.inl h
   have hd:=Rh d a.gp.ds;rcases D with⟨aG,_,_⟩|⟨ih,e2,e3⟩
   .exfalso;rcases aG with h|h|h
    .omega
    .subst h;omega
    .subst h;omega
   refine eA (n:=q.params.length -1) V (λj s M=>∃l,GE (m.size::r) v M s l/\l.length=j/\(∀e∈l,Xl d fs 1 e)/\Rd f H (B+1+5*j) M/\Fz [f] v M) ⟨[],g6,rfl,aL,w.ext x,x.fz _⟩ ?_;rintro j s M ay μ hj ⟨l',C,aF,aw,W,o⟩ am
   have ew:cT ((j:Int)+1)=j+1:=aQ V V;refine⟨λh=>?_,λh=>?_⟩
   .simp only[ew,ar]at h;let⟨y,z⟩:=cG q.params j;have aK:y∈q.params.dropLast:=List.mem_iff_getElem?.2 ⟨j,by rw[List.getElem?_dropLast,an V];exact z⟩;refine⟨V,V,y,(eQ.1 ((ak.le (fh o)).aF z)).2,?_⟩;exact XP.kK (ih y (aj y aK) (s.D::m.size::r) f (B+1+5*j) H ao ax M (bO (λe g=>O8 (ac e g) o.size) (ad _) C.bn.2) (by simp[aa]) (Z.to o W) V) C o O w (by simp[aa]) V λe aM M' g g' r' f' ap aI=>
     am V _ _ ⟨_,g',bE,λe' ai=>by rcases List.mem_append.1 ai with h|h;exact aw e' h;simp at h;subst h;exact g,r'.mono V,f'⟩
   .simp only[ew,bL]at h;exact XP.ret (mZ W (C.done BG.mono ac bh V) 10 _) (O.fz o) (((u4.fz _).trans i).trans o) a.rd V (λe g=>g▸RL (Or.inr rfl) aw V) V
  .refine(Bg X.rd (by rcases D with⟨_,_,e⟩|⟨_,_,e⟩<;>omega)).mono λA v⟨F,e,w,i⟩=>⟨Q.dv i,F,e,?_⟩;exact XP.ret (P:=B+4) ((AJ (m.size::r) F v).mono λA x⟨o,e,I,h2,j,h⟩=>⟨o,e,I,h2,j,w.ext h,h.fz _⟩) (Q.fz i) ((u4.fz _).trans i) a.rd V (λe g=>g▸⟨λh=>.int _,by rw[Ex.Sk];rcases D with⟨_,e,_⟩|⟨_,e,_⟩<;>simp[e]⟩) (by rcases D with⟨_,_,e⟩|⟨_,_,e⟩<;>omega)
end
section
variable{a:Nat}{t:Int}
def _root_.Go.Vc.QG{σ:Type}(o:a<=9223372036854775807)(e:1<=a){m:E}{h:σ}{g:(σ->Int->E->Prop)->(σ->Int->E->Nat)->σ->Int->E->Prop}(Q:Nat->σ->E->Prop)(l:Q 1 h m)
 (j:∀(k:Nat)(s:σ)(b:E)(I:σ->Int->E->Prop)(μ:σ->Int->E->Nat),1<=k->k<=a->Q k s b->
  (k<a->∀d c,Q (k+1) d c->I d (cT ((k:Int)+1)) c/\μ d (cT ((k:Int)+1)) c<μ s k b)->g I μ s k b):
 ∃(I:σ->Int->E->Prop)(μ:σ->Int->E->Nat),I h 1 m/\∀s i b,I s i b->g I μ s i b:=by
 refine⟨λs i c=>∃k:Nat,i=k/\1<=k/\k<=a/\Q k s c,λ_ i _=>(a -i).toNat,⟨1,rfl,ad _,e,l⟩,?_⟩
 rintro s i b ⟨k,rfl,e,n,p⟩
 refine j k s b _ _ e n p λf d c q=>?_
 rw[kC f o]
 exact⟨⟨k+1,rfl,V,f,q⟩,Dr f⟩
def _root_.Go.Vc.Yg(l:a<=9223372036854775807)(d:1<=a){m:E}{f:(Int->E->Prop)->(Int->E->Nat)->Int->E->Prop}(Q:Nat->E->Prop)(g:Q 1 m)
 (h:∀(k:Nat)(b:E)(I:Int->E->Prop)(μ:Int->E->Nat),1<=k->k<=a->Q k b->
  (k<a->∀c,Q (k+1) c->I (cT ((k:Int)+1)) c/\μ (cT ((k:Int)+1)) c<μ k b)->f I μ k b):
 ∃(I:Int->E->Prop)(μ:Int->E->Nat),I 1 m/\∀i b,I i b->f I μ i b:=by
 refine⟨λi c=>∃k:Nat,i=k/\1<=k/\k<=a/\Q k c,λi _=>(a -i).toNat,⟨1,rfl,ad _,d,g⟩,?_⟩
 rintro i b ⟨k,rfl,d,j,n⟩
 refine h k b _ _ d j n λe c o=>?_
 rw[kC e l]
 exact⟨⟨k+1,rfl,V,e,o⟩,Dr e⟩
def J8{a:List bz}{b:List dy}(hd:a∈rK)(c:Ty a t):WH 4 20 a b t:=Jt c (Or.inr ⟨λ_ h=>Jt (h.ty hd) (Or.inl ⟨h,rfl,rfl⟩),rfl,rfl⟩)
def Kn.x{f:Nat}{a:List Value}{S:List Nat}{d P:Nat}{b:O}{m:E}{Q:Ex->Prop}(h:Kn f a m S Q)(k:Rd d b P m):aN cp f a m (XP S d b m P Q):=
 h.mono λv n⟨l,e,g,i,j,c⟩=>⟨l,e,g,i,j,k.ext c,c.fz _⟩
section
variable{f:List Nat}{c P:Nat}{h d p j:O}{g:List bz}{e:List dy}{b:E}{i:List Int}
def rD(hS:∀o∈f,o<b.size)(ag:c∈f)(o:GC c h P d p g e b)(hP:P+22<=10^16)(hv:IR c b j i)(ak:i.length<=1000)(ht:Ty g t):
 aN cp 316 [vp c 0,.agg #[O.v d,O.v p],O.v j,vi t] b (XP f c h b (P+22) λa=>WX g e.length i.length a/\a.n<=4):=by
 apply JW (c,0)
 simp -zeta only[aC,aB]
 intro k y
 let⟨A,hl⟩:=dD (a:=k) (c:=y) rfl rfl
 have s1:k.size=b.size+1:=by simp[k]
 clear_value y
 have hr:=o.rd.lt
 have Y:Lw c [k.size,b.size] y:=λN hb=>⟨hl N hb,by simp at hb;omega⟩
 have ae:∀a∈k.size::f,a<y.size:=bO hS A.size (hl _ aL)
 have z2:=A.size
 refine(Hb (a:=[c]) (m:=y) bE ((hv.le (bA _ _)).ext A) V t).mono λ_ U⟨r,ac,a,gl,ai,B⟩=>⟨Y.dv (B.fz _),r,a,?_⟩
 have aa:IR c U r ac:=GI.done gl bE V
 have F:=(o.ext A).ext B
 have D:=Y.fz (B.fz [])
 have C:Fz [c] b U:=(A.trans B).fz _
 have al:=aa.len
 have z3:=B.size
 have jf:∀{Q:Nat}{M:E},GC c h Q d p g e M->Fz [c] b M->y.size<=M.size->Lw c [k.size,b.size] M->Q<=P+2->aN cp 335 [vp c 0,.agg #[O.v d,O.v p],vi t] M λW n=>eG [k.size,b.size] M n/\∃s u:Int,∃w:O,W=.agg #[vi s,vi u,O.v w]/\XP f c h b (P+22) (λa=>WX g e.length i.length a/\a.n<=4) (.agg #[vi s,vi u,O.v w]) (ah n k.size 0 [.i s,.i u,.s w]):=λR T h1 I hq=>
  XP.ret (J8 o.gp.ds ht (k.size::f) c _ h d p _ (λa l=>oh (ae a l)) (by simp[ag]) R V) I T o.rd V (λa l=>⟨l.1 _,l.2⟩) V
 have T9:∀{Q:Nat}{M:E},GC c h Q d p g e M->Fz [c] b M->Fz [c] U M->Lw c [k.size,b.size] M->Q<=P+2->0<r.len->aN cp 40 [vp c 0,vi (r.len:Int)] M λaj n=>eG [k.size,b.size] M n/\∃K:Int,aj=vi K/\(0:Int)<=K/\K<(r.len:Int)/\∃ad:Int,af n r.D (r.off+Int.toNat K*1)=some (vi ad)/\
  aN cp 315 [vi ad] n λW Z=>eG [k.size,b.size] n Z/\∃s u:Int,∃w:O,W=.agg #[vi s,vi u,O.v w]/\XP f c h b (P+22) (λa=>WX g e.length i.length a/\a.n<=4) (.agg #[vi s,vi u,O.v w]) (ah Z k.size 0 [.i s,.i u,.s w]):=λR T f3 I hq h0=>
  (cq R.rd V r.len).mono λ_ n⟨ab,a,k0,k1,r',H⟩=>by
   let⟨X,hy⟩:=cG ac ab.toNat;exact⟨I.dv H,ab,a,k0,V,X,(eQ.1 ((aa.le (fh (f3.trans H))).aF hy)).2,XP.ret ((ms (k.size::f) X n).x r') (I.fz H) (T.trans H) o.rd V (λa l=>l▸⟨.T9 (ai.1 X (aq hy)),by rw[Ex.Sk];simp⟩) V⟩
 refine⟨λx=>?_,λx=>jf F C z3 D V⟩
 simp only[ar]at x
 refine(cq F.rd V 6).mono λ_ m4⟨k1,a,_,_,r4,l⟩=>⟨D.dv l,k1,a,λx=>T9 (F.to l r4) (C.trans l) l (D.fz l) V V,λx=>?_⟩
 intro m5
 have z:J m4 m5:=J.push _ _
 have G:=(F.to l r4).ext z
 have L:=(D.fz l).fz (z.fz [])
 exact(pQ (v:=[]) (G.hd.le (bA _ _)) o.types (pv.le (bA _ _) G.hp) (oh o.gp.oD) (mF _ _ _ _ _ _) t).mono λ_ m6⟨N,a,q⟩=>⟨L.dv (q.fz _),N,a,λx=>T9 (G.ext q) ((C.trans l).then (z.trans q)) (l.then (z.trans q)) (L.fz (q.fz [])) V V,λx=>jf (G.ext q) ((C.trans l).then (z.trans q)) (by have:=l.size;have:=z.size;have:=q.size;omega) (L.fz (q.fz [])) V⟩
def JI(Y:∀m∈f,m<b.size)(hd:cx b d g)(ht:dT g)(C:pv b p e)(hf:e.length<=1000)(X:1<=e.length)(t:Int):kZ 330 [.agg #[O.v d,O.v p],vi t] b f λh=>(∀y∈h,∃(o:Nat)(q:dy),y=o/\e[o]? =some q)/\h.length<=e.length:=by
 apply Cr;simp -zeta only[aC,aB];intro a E;have L:J b a:=J.push _ _;have A:∀m∈[b.size],m<a.size:=by simp[a]
 have W:GI f a E (.mk a.size 0 0 0) []:=GI.nil f a;have x2:J a E:=J.push _ _;clear_value E;clear_value a;have ah:=C.len;refine QG (a:=e.length) V X (λu I M=>J a M/\∃h,GI f a M I h/\(∀y∈h,∃(o:Nat)(q:dy),y=o/\e[o]? =some q)/\h.length<=u) ⟨x2,[],W,aL,aL⟩ ?_;rintro u I M ac μ ae hk ⟨l,h,x,D,ag⟩ T
 have K:=L.trans l;refine⟨λQ=>?_,λQ=>⟨I,h,rfl,x.cy (λ_ i=>i) L.size,⟨D,V⟩,K⟩⟩;simp only[ar]at Q;let⟨q,R⟩:=cG e u;let⟨ad,z,w,U⟩:=C.aF R;have Z:=z.len;refine⟨V,V,_,K.af U,?_⟩;refine eA (n:=q.params.length) (Z▸z.gT) (λ_ _ N=>J M N) (J.az _) ?_;rintro aa ok r I2 μ2 hj c S;have k:=K.trans c;refine⟨V,V,_,k.af w,λi=>⟨λ_=>?_,λ_=>S (by simp only[ar]at i;omega) _ _ c⟩,λi=>⟨λ_=>?_,λ_=>T V _ _ ⟨l.trans c,h,x.ext c,D,V⟩⟩⟩
 .simp only[ar]at i;let⟨y,hy⟩:=cG q.params aa;have P:=(z.ext k).aF hy;refine⟨V,V,_,k.af w,V,V,y,P,?_⟩;intro F;have j:J r F:=J.push _ _;have G:∀{s H:Nat}{ab:Value},af r s H=some ab->af F s H=af r s H:=λi=>by rw[j.af i,i]
  have B:b.size<r.size:=aO (A _ aL) (l.trans c).size;refine⟨G P,G (k.af w),aJ (j.same _ B) _,aJ (j.same _ B) _,aJ (j.same _ B) _,?_⟩;exact(pQ (v:=[]) (hd.le (k.trans j).le) ht (pv.le (k.trans j).le C) hf (mF _ _ _ _ _ _) y).aH ((l.trans c).trans j) A λs m5 x5 _=>⟨_,rfl,S V _ _ ((c.trans j).trans x5)⟩
 .intro F;refine GI.kK (x.ext c) ((l.trans c).fz []) (λm j=>L.lt (Y m j)) V λP N B s _ _=>⟨J.oH ((l.trans c).aK _) s.ext A,T V _ _ ⟨s.ext,_,B,λH j=>?_,bE⟩⟩;rcases List.mem_append.1 j with j|j
  .exact D H j
  .simp at j;exact⟨u,q,j,R⟩
end
end
section
variable{f c:Int}{g:O}{e:List Int}
def Cg(c:Int):Nat:=30*4^c.toNat
def ui(h:f<=c):Cg f<=Cg c:=Nat.mul_le_mul_left _ (Nat.pow_le_pow_right bh V)
def Qo(c:Int):30<=Cg c:=Nat.le_mul_of_pos_right _ (Nat.pow_pos bh)
def Rb(a:0<=f)(h:f+1<=c):4*Cg f<=Cg c:=by
 refine bH (tV ?_) (ui h);unfold Cg;rw[show(f+1).toNat=f.toNat+1 by omega,Nat.pow_succ];omega
def Km(b:List bz)(g:List dy)(c:Int):Prop:=∀(S:List Nat)(a P:Nat)(d e p h:O)(m:E)(v:List Int)(t:Int),(∀f∈S,f<m.size)->a∈S->GC a d P e p b g m->P+Cg c<=10^16->IR a m h v->v.length+3*c.toNat<=1000->Ty b t->
 aN cp 312 [vp a 0,.agg #[O.v e,O.v p],O.v h,vi t,vi c] m (XP S a d m (P+Cg c) λf=>WX b g.length v.length f/\(c<=2->f.n<=4))
def XL(S:List Nat)(b:Nat)(c:O)(m:E)(P:Nat)(Q:List Ex->Prop)(v:Value)(a:E):Prop:=∃s l,v=O.v s/\fG (bG S a) s l/\Q l/\Rd b c P a/\Fz [b] m a
def KL{S:List Nat}{M:E}(i:∀c∈S,c<M.size)(p:Nat):∀(l:List (Ex×O))(_:l.length<=1000)(_:∀x∈l,fG (bG S M) x.2 x.1.bD){a:List Ce}{n:Nat},a=l.flatMap (λx=>[.i x.1.op,.i x.1.bP,.s x.2])->n=l.length->
 GE S M (M.push (.cells (bt a) bF)) (.mk M.size 0 n n) (l.map (·.1)):=by
 intro l q h a n j k
 refine Gr.lit (f:=l.map λx=>[.i x.1.op,.i x.1.bP,.s x.2]) BG.mono (ad _) i (by rw[j,List.flatMap_def]) (by simp[k]) ⟨aL,λc d=>?_,λr c o f e=>?_⟩
 .simp at d;obtain⟨_,_,_,rfl⟩:=d;rfl
 .simp only[cJ,jG]at f e
  obtain⟨x,g,rfl⟩:=f
  obtain⟨y,b,rfl⟩:=e
  rw[g]at b;simp at b;subst b
  have:=h x (aq g)
  cases m:x.1 with
  |mk t n s=>rw[m]at this;exact BG.of this
section
variable{j L:List Nat}{h P:Nat}{k d p o:O}{i:List bz}{l:List dy}{m:E}{v:List Int}
def MR(z:0<=c)(ih:∀a,0<=a->a<=c->Km i l a)(G:∀s∈j,s<m.size)(I:h∈j)(s:GC h k P d p i l m)(hP:P+3*Cg c<=10^16)(hv:IR h m o v)(ah:v.length+3*c.toNat<=1000)(ae:c<=1000)(K:IR h m g e)(h3:e.length<=3)(aa:∀u∈e,Ty i u):
 aN cp 328 [vp h 0,.agg #[O.v d,O.v p],O.v o,O.v g,vi c] m (XL j h k m (P+3*Cg c) λb=>b.length=e.length/\∀f∈b,WX i l.length v.length f):=by
 apply Gu (h,0)
 simp -zeta only[aC,aB]
 intro a B
 have C:J m a:=J.push _ _
 have hr:=s.rd.lt
 have R:Lw h [m.size] a:=by intro c z;simp[a]at z⊢;omega
 have X:GE j a B (.mk a.size 0 0 0) []:=Gr.new _ (ad _) _ _ _
 have Q:J a B:=J.push _ _
 clear_value B
 clear_value a
 have D:=s.ext C
 have ag:=K.len
 refine eA (n:=e.length) V (λr w M=>∃b,GE j a M w b/\b.length=r/\(∀f∈b,WX i l.length v.length f)/\Rd h k (P+r*Cg c) M/\Fz [h] a M) ⟨[],X,rfl,aL,by simpa using D.rd.ext Q,Q.fz _⟩ ?_
 rintro r w M ac μ hk ⟨b,y,af,H,N,F⟩ ab
 have t:=(C.fz [h]).trans F
 refine dit (λq=>?_) λq=>?_
 .let⟨u,L⟩:=cG e r
  let⟨S,E⟩:=NP (d:=(g.len:Int)) z V
  rw[aQ (b:=Int.tdiv c _) V V]
  have hm:=ui E
  have Z:r*Cg c+Cg c<=3*Cg c:=by rw[<-pY];exact dh _ V
  refine⟨V,V,u,(eQ.1 ((K.le (fh t)).aF L)).2,V,?_⟩
  exact XP.kK (ih _ S E (w.D::j) h _ k d p o M v u (bO G t.size y.bn.2) (by simp[I]) (s.to t N) V (hv.le (fh t)) V (aa u (aq L))) y F R D.rd I V λf ai M' A W r' U _ _=>
   ab V _ _ ⟨_,W,bE,λT Y=>by rcases List.mem_append.1 Y with q|q;exact H T q;simp at q;subst q;exact A.1,r'.mono (by rw[pY];omega),U⟩
 .have Z:r*Cg c<=3*Cg c:=dh _ V
  exact⟨w,b,rfl,y.done BG.mono (λf A=>C.lt (G f A)) bh V,⟨V,H⟩,N.mono V,t⟩
def zp{n F B:Nat}{q:E}{Q:Ex->Prop}{u bP:Int}(T:0<=c)(ih:∀a,0<=a->a<=c->Km i l a)(R:∀r∈n::j,r<m.size)(Y:h∈j)(r:GC h k P d p i l m)(K:P+3*Cg c<=10^16)(hv:IR h m o v)(ab:v.length+3*c.toNat<=1000)(U:c<=1000)(Z:IR h m g e)(I:e.length<=3)(aa:∀t∈e,Ty i t)
 (D:Lw h L m)(W:Fz [h] q m)(G:Rd h k F q)(X:q.size<=n)(N:∀a,a.length=e.length->(∀f∈a,WX i l.length v.length f)->Q (.mk u bP a))(M:P+3*Cg c<=B):
 aN cp 328 [vp h 0,.agg #[O.v d,O.v p],O.v o,O.v g,vi c] m λw b=>eG L m b/\∃s:O,w=O.v s/\
  aN cp 313 [vi u,vi bP,O.v s] b λw A=>eG L b A/\∃x y:Int,∃z:O,w=.agg #[vi x,vi y,O.v z]/\XP j h k q B Q (.agg #[vi x,vi y,O.v z]) (ah A n 0 [.i x,.i y,.s z]):=
 (MR (j:=n::j) T ih R (by simp[Y]) r K hv ab U Z I aa).mono λ_ b⟨s,a,f,H,C,J,t⟩=>⟨D.dv t,s,f,XP.ret (mZ J H u bP) (D.fz t) (W.trans t) G X (λf V=>V▸N a C.1 C.2) M⟩
def JM(I:3<=c/\c<=100)(ih:∀e,0<=e->e<=c -1->Km i l e)(hS:∀r∈j,r<m.size)(ag:h∈j)(r:GC h k P d p i l m)(hP:P+23+3*Cg (c -1)<=10^16)(hv:IR h m o v)(aU:v.length+3*c.toNat<=1000){al:Int}(ht:Ty i al):
 aN cp 329 [vp h 0,.agg #[O.v d,O.v p],O.v o,vi al,vi c] m (XP j h k m (P+23+3*Cg (c -1)) (WX i l.length v.length)):=by
 apply CE (h,0)
 simp -zeta only[aC,aB]
 intro q E m3
 let⟨T,hl⟩:=dD (a:=q) (c:=E) rfl rfl
 have s1:q.size=m.size+1:=by simp[q]
 have U:J E m3:=J.push _ _
 have hr:=r.rd.lt
 have z2:=T.size
 have aE:ap (bG [h] m3) (.mk E.size 0 4 4) [1,1,3,4]:=ap.lit aA _ bE rfl rfl aL
 clear_value m3
 clear_value E
 have L2:Lw h [q.size,m.size] E:=λc I=>⟨hl c I,by simp at I;omega⟩
 have ay:∀e∈q.size::j,e<E.size:=bO hS T.size (hl _ aL)
 have c3:=(r.ext T).ext U
 have L3:=L2.fz (U.fz [])
 have W:=r.types
 refine(kA c3.rd V aE aL).mono λ_ m4⟨R,e,hk,r4,G⟩=>⟨L3.dv G,R,e,?_⟩
 have X:=c3.to G r4
 have L4:=L3.fz G
 have aM:=X.hd.len
 have dl:=px i r.gp.ds
 have af:R∈[(1:Int),3,4]:=by simp at hk⊢;omega
 have lK:0<(cz i 1).length:=(Rh i r.gp.ds).1
 refine⟨λg M=>g∈[(1:Int),3,4]/\g<=i.length/\0<(cz i g).length/\J m4 M,⟨λ_=>⟨bh,V,lK,J.az _⟩,λab=>?_⟩,?_⟩
 .simp only[bL]at ab
  refine(mX (X.hd.le (bA _ _)) W R).mono λ_ m5⟨c,e,I,u⟩=>⟨L4.dv (u.fz _),c,e,λ_=>⟨bh,V,lK,u⟩,λf=>⟨af,V,Qs i r.gp.ds R af V λai N s=>?_,u⟩⟩
  rw[I.2 ⟨ai,by simp at af;omega,N,s⟩]at f;exact absurd f bh
 rintro g m5 ⟨an,az,aH,u⟩
 have Y:=X.ext u
 have L5:=L4.fz (u.fz [])
 have F5:Fz [h] m m5:=(((T.trans U).fz _).trans G).then u
 have k5:g∈[(0:Int),1,2,3,4]:=by simp at an⊢;omega
 have hf:=zo i r.gp.ds
 have aJ:=hf.2.1 g k5
 refine(iu (e:=[h]) (by simp;exact Y.rd.lt) (Y.hd.le (bA _ _)) W g).mono λ_ m6⟨Z,t,e,hc,ai,L⟩=>⟨L5.dv (L.fz _),Z,e,?_⟩
 subst ai
 have c6:=Y.ext L
 have L6:=L5.fz (L.fz [])
 have F6:=F5.then L
 have aK:=hc.len
 have z3:=U.size;have z4:=G.size;have z5:=u.size;have z6:=L.size
 have am:∀e∈q.size::j,e<m6.size:=λe s=>by have:=ay e s;omega
 refine XP.then (rD (f:=q.size::j) am (by simp[ag]) c6 V (hv.le (fh F6)) V ⟨by simp at an;omega,az⟩) L6 λs0 e0 F h7 q7 r7 H=>⟨_,_,_,rfl,?_⟩
 intro m8
 have x8:J F m8:=J.push _ _
 have z7:=H.size
 have ac:∀e∈q.size::j,e<F.size:=λe s=>by have:=am e s;omega
 have g8:GE (q.size::j) F m8 (.mk F.size 0 1 1) [e0]:=KL ac 0 [(e0,s0)] aL (by simpa using h7) rfl rfl
 clear_value m8
 have L7:=L6.fz H
 have F7:=F6.trans H
 refine eA (n:=(cz i g).length) V (λA aj M=>∃t,GE (q.size::j) F M aj (e0::t)/\t.length=A/\(∀(z:Nat)(e:Ex)(C:Int),t[z]? =some e->(cz i g)[z]? =some C->WX i l.length (v.length+(cD i C).length) e)/\Rd h k (P+23+A*Cg (c -1)) M/\Fz [h] F M) ⟨[],g8,rfl,aL,by simpa using(r7.ext x8).mono V,x8.fz _⟩ ?_
 rintro A aj M aG μ hj ⟨t,aa,aT,N,K,D⟩ aF
 have w:=L7.fz D
 have aR:A*Cg (c -1)<=3*Cg (c -1):=dh _ V
 refine dit (λab=>?_) λab=>?_
 .let⟨C,hy⟩:=cG (cz i g) A
  let⟨aO,aP⟩:=hf.1 g k5 C (aq hy)
  have aV:=aa.bn
  have cM:=(c6.to H r7).to D K
  refine⟨V,V,C,(eQ.1 ((hc.le (fh (H.trans D))).aF hy)).2,V,?_⟩
  refine(dJ (e:=[h]) (by simp;exact K.lt) cM.hd W C).mono λ_ m9⟨f9,l9,e,h9,q9,f⟩=>⟨w.dv (f.fz _),f9,e,w.cg (Fz.az _ _) (f.fz _) aL _,w.cg (Fz.az _ _) (f.fz _) aL _,?_⟩
  subst q9
  refine(eO (S:=[h]) (by simp;exact(K.ext f).lt) (hv.le (fh ((F7.trans D).then f))) h9 V).mono λ_ ao⟨ak,ah,e,au,ar,B⟩=>⟨(w.fz (f.fz [])).dv (B.fz _),ak,e,w.cg (f.fz _) (B.fz _) aL _,w.cg (f.fz _) (B.fz _) aL _,?_⟩
  have aw:IR h ao ak ah:=GI.done au (by simp;exact(K.ext f).lt) (by rw[<-ar];simp;omega)
  let⟨d0,d1⟩:=NP (f:=c -2) (d:=(Z.len:Int)) V V
  rw[aQ (b:=c -2) V V,aQ (b:=Int.tdiv _ _) V V]
  have hm:=ui (f:=Int.tdiv (c -2) Z.len) (c:=c -1) V
  have aS:A*Cg (c -1)+Cg (c -1)<=3*Cg (c -1):=by rw[<-pY];exact dh _ V
  have fT:=(D.then f).then B
  have aD:ah.length=v.length+(cD i C).length:=by rw[<-ar];simp
  refine XP.kK (ih _ d0 V (aj.D::q.size::j) h _ k d p ak ao ah al (bO (λe s=>O8 (ac e s) fT.size) (ad _) (O8 f.size B.size)) (by simp[ag]) ((cM.ext f).ext B) V aw V ht) ((aa.ext BG.mono f).ext BG.mono B) fT L7 r7 (by simp[ag]) bE λe aX M' s g' r' f' _ _=>
   aF V _ _ ⟨t++[e],g',bE,λz e' y' y Q=>?_,r'.mono (by rw[pY];omega),f'⟩
  rcases aW z t.length with ae|ae
  .rw[ax ae]at y;exact N z e' y' y Q
  .rw[aI ae]at y
   have:z -t.length=0:=by have:=av y;simp at this;omega
   rw[this]at y;simp at y;subst y
   have:z=A:=V
   subst this
   rw[hy]at Q;simp at Q;subst Q
   rw[<-aD];exact s.1
 .exact XP.ret (mZ K (aa.done BG.mono ac bh bE) 8 g) w (F7.trans D) r.rd V (λe s=>s▸.mt q7.1 V V N) V
end
end
section
section
variable{e L:List Nat}{c P:Nat}{g d p i:O}{f:List bz}{h:List dy}{m:E}{v:List Int}
def JN{o:Int}(hb:3<=o/\o<=100)(ih:∀j,0<=j->j<=o -1->Km f h j)(hS:∀q∈e,q<m.size)(R:c∈e)(q:GC c g P d p f h m)(hP:P+24+3*Cg (o -1)<=10^16)(T:IR c m i v)(aF:v.length+3*o.toNat<=1000){ab:Int}(ht:Ty f ab):
 aN cp 331 [vp c 0,.agg #[O.v d,O.v p],O.v i,vi ab,vi o] m (XP e c g m (P+24+3*Cg (o -1)) (WX f h.length v.length)):=by
 apply CF (c,0)
 simp -zeta only[aC,aB]
 intro x aa
 let⟨W,N⟩:=dD (a:=x) (c:=aa) rfl rfl
 have s1:x.size=m.size+1:=by simp[x]
 clear_value aa
 have hr:=q.rd.lt
 have z2:=W.size
 have L2:Lw c [x.size,m.size] aa:=λo hb=>⟨N o hb,by simp at hb;omega⟩
 have ao:∀j∈x.size::e,j<aa.size:=bO hS W.size (N _ aL)
 have c2:=q.ext W
 have ac:=q.types
 have aE:=q.hd.len
 have dl:=px f q.gp.ds
 have av:cT (o -2)=o -2:=aQ V V
 have ak:cT (o -1)=o -1:=aQ V V
 have oD:=q.gp.oD
 have ax:v.length+3*(o -2).toNat<=1000:=V
 have hm:=ui (f:=o -2) (c:=o -1) V
 have az:P+24+Cg (o -2)<=10^16:=V
 refine⟨λM=>Rd c g (P+1) M/\Fz [c] aa M,?_,?_⟩
 .refine(cq c2.rd V 4).mono λ_ m3⟨y,j,_,_,r3,X⟩=>⟨L2.dv X,y,j,λ_=>?_,λ_=>⟨r3,X⟩⟩
  refine Yg (a:=f.length+1) V V (λ_ M=>Rd c g (P+1) M/\Fz [c] aa M) ⟨r3,X⟩ ?_
  rintro Y M au μ aw ha ⟨Q,H⟩ ae
  have L:=c2.to H Q
  have LM:=L2.fz H
  refine⟨λs=>?_,λs=>⟨Q,H⟩⟩
  simp only[ar]at s
  have ea:cT ((Y:Int) -1)=Y -1:=aQ V V
  rw[ea]
  refine(mX (L.hd.le (bA _ _)) ac Y).mono λ_ I⟨b4,j,an,K⟩=>⟨LM.dv (K.fz _),b4,j,λh1=>?_,λ_=>ae V _ ⟨Q.ext K,H.then K⟩⟩
  obtain⟨aj,_,hq,ay⟩:=an.1 h1
  have U:f[((Y:Int) -1).toNat]? =some aj:=by rw[<-hq];congr 1;omega
  obtain⟨_,_,g0,g1,_⟩:=L.hd.aF U
  have D:=L.ext K
  have u:=LM.fz (K.fz [])
  have l:=H.then K
  refine⟨V,V,_,K.af (eQ.1 g1).2,λ_=>?_,λ_=>ae V _ ⟨Q.ext K,l⟩⟩
  refine(pQ (D.hd.le (bA _ _)) ac (pv.le (bA _ _) D.hp) V ((T.le (fh ((W.fz _).trans l))).le (bA _ _)) Y).mono λ_ t⟨b5,j,k⟩=>⟨u.dv (k.fz _),b5,j,λ_=>?_,λ_=>ae V _ ⟨(Q.ext K).ext k,l.then k⟩⟩
  have F:=D.ext k
  have w:=u.fz (k.fz [])
  have f5:=l.then k
  have z5:=f5.size
  have ag:∀j∈x.size::e,j<t.size:=λj G=>by have:=ao j G;omega
  obtain⟨_,_,af,_,_⟩:=F.hd.aF U
  refine⟨V,V,_,(eQ.1 af).2,?_⟩
  refine XP.then (rD (f:=x.size::e) ag (by simp[R]) F V (T.le (fh ((W.fz _).trans f5))) V ⟨V,V⟩) w λs6 e6 B h6 q6 r6 z=>⟨_,_,_,rfl,?_⟩
  have c6:=F.to z r6
  have A:=w.fz z
  obtain⟨_,_,am,_,_⟩:=c6.hd.aF U
  refine⟨by rw[(eQ.1 am).2,(eQ.1 af).2],w.cg (Fz.az _ _) z aL _,w.cg (Fz.az _ _) z aL _,w.cg (Fz.az _ _) z aL _,?_⟩
  rw[av]
  have F6:=(W.fz [c]).trans (f5.trans z)
  have ai:∀j∈x.size::e,j<B.size:=λj G=>by have:=ag j G;have:=z.size;omega
  refine XP.then (ih (o -2) V V (x.size::e) c (P+1+22) g d p i B v _ ai (by simp[R]) c6 V (T.le (fh F6)) ax ((zo f q.gp.ds).2.2 aj (aq U))) A λs7 e7 C h7 q7 r7 r=>⟨_,_,_,rfl,?_⟩
  intro Z
  have x8:J C Z:=J.push _ _
  have al:∀j∈x.size::e,j<C.size:=λj G=>by have:=ai j G;have:=r.size;omega
  have g8:GE (x.size::e) C Z (.mk C.size 0 2 2) [e6,e7]:=KL al 0 [(e6,s6),(e7,s7)] aL (by simp;exact⟨fG.le (r.df (by simp[R])) h6,h7⟩) rfl rfl
  clear_value Z
  exact XP.ret (mZ (r7.ext x8) (g8.done BG.mono al bh aL) 11 0) ((A.fz r).fz (x8.fz [])) ((F6.trans r).then x8) q.rd V (λj G=>G▸.fe bh (λs=>V) bh (λs=>V) (by simp;exact⟨q6.1,q7.1⟩)) V
 rintro M ⟨Q,H⟩
 have L:=c2.to H Q
 have LM:=L2.fz H
 have zM:=H.size
 have FM:=(W.fz [c]).trans H
 refine(iu (e:=[c]) (by simp;exact Q.lt) (L.hd.le (bA _ _)) ac ab).mono λ_ m3⟨cs,al,j,hc,aj,x3⟩=>⟨LM.dv (x3.fz _),cs,j,?_⟩
 subst aj
 have Z:=L.ext x3
 have X:=LM.fz (x3.fz [])
 have K:=FM.then x3
 have z3:=x3.size
 have aD:=hc.len
 have af:∀{M:E},m3.size<=M.size->∀j∈x.size::e,j<M.size:=λs j G=>by have:=ao j G;omega
 refine⟨λs=>?_,λs=>⟨λs=>XP.ret (rD (f:=x.size::e) (af (ad _)) (by simp[R]) Z V (T.le (fh K)) V ht) X K q.rd V (λj G=>G.1) V,λs=>?_⟩⟩
 .simp only[ar]at s
  refine(cq Z.rd V cs.len).mono λ_ I⟨y,j,k0,k1,U,l⟩=>⟨X.dv l,y,j,k0,V,?_⟩
  let⟨ae,hy⟩:=cG (cz f ab) y.toNat
  have ag:=(zo f q.gp.ds).1 ab (Ty.Yf q.gp.ds ht) ae (aq hy)
  have D:=Z.to l U
  have u:=X.fz l
  refine⟨ae,(eQ.1 ((hc.le (fh l)).aF hy)).2,?_⟩
  refine(dJ (e:=[c]) (by simp;exact U.lt) D.hd ac ae).mono λ_ t⟨f5,l5,j,h5,q5,k⟩=>⟨u.dv (k.fz _),f5,j,u.cg (Fz.az _ _) (k.fz _) aL _,u.cg (Fz.az _ _) (k.fz _) aL _,?_⟩
  subst q5
  rw[ak]
  exact zp V ih (af (O8 l.size k.size)) R (D.ext k) V (T.le (fh ((K.trans l).then k))) V V h5 ag.1 ag.2 (u.fz (k.fz [])) ((K.trans l).then k) q.rd V (λal _ N=>.fe bh (λs=>V) bh (λs=>V) N) V
 .refine(cq Z.rd V 3).mono λ_ I⟨y,j,k0,k1,U,l⟩=>⟨X.dv l,y,j,λ_=>?_,λ_=>?_⟩
  .have D:=Z.to l U
   have u:=X.fz l
   have z4:=l.size;have aw:=U.lt
   intro t
   have k:J I t:=J.push _ _
   have ae:ap (bG [c] t) (.mk I.size 0 1 1) [0]:=ap.lit aA _ bE rfl rfl aL
   clear_value t
   have z5:=k.size
   rw[ak]
   exact zp V ih (af V) R (D.ext k) V (T.le (fh ((K.trans l).then k))) V V ae aL (by simp[q.gp.ty]) (u.fz (k.fz [])) ((K.trans l).then k) q.rd V (λal _ N=>.fe bh (λs=>V) bh (λs=>V) N) V
  .have D:=Z.to l U
   have u:=X.fz l
   have F4:=K.trans l
   have z4:=l.size;have aw:=U.lt
   have iI:∀{ay M:E}{Y t0:Nat},GC c g (P+3) d p f h M->Fz [c] I M->ap (bG [c] M) (.mk t0 0 2 2) [0,0]->∀op:Int,op∈[(1:Int),2,3,4]->aN cp 328 [vp c 0,.agg #[O.v d,O.v p],O.v i,O.v (.mk t0 0 2 2),vi (o -1)] M λan M1=>eG [x.size,m.size] M M1/\∃au:O,an=O.v au/\
    aN cp 313 [vi op,vi 0,O.v au] M1 λan M2=>eG [x.size,m.size] M1 M2/\∃r0 r1:Int,∃r2:O,an=.agg #[vi r0,vi r1,O.v r2]/\XP e c g m (P+24+3*Cg (o -1)) (WX f h.length v.length) (.agg #[vi r0,vi r1,O.v r2]) (ah M2 x.size 0 [.i r0,.i r1,.s r2]):=λL ae s op ag=>
    zp V ih (af (oh ae.size)) R L V (T.le (fh (F4.trans ae))) V V s aL (by simp[q.gp.ty]) (u.fz ae) (F4.trans ae) q.rd V (λal _ N=>.fe (by simp at ag;omega) (λs=>by simp at ag;omega) (by simp at ag;omega) (λs=>by simp at ag;omega) N) V
   rw[ak]
   refine⟨?_,?_⟩
   .intro t
    have k:J I t:=J.push _ _
    have ai:ap (bG [c] t) (.mk I.size 0 4 4) [1,2,3,4]:=ap.lit aA _ bE rfl rfl aL
    clear_value t
    have F:=D.ext k
    have w:=u.fz (k.fz [])
    have z5:=k.size
    refine⟨u.cg (Fz.az _ _) (k.fz _) aL _,u.cg (Fz.az _ _) (k.fz _) aL _,?_,?_⟩
    .refine(kA F.rd V ai aL).mono λ_ B⟨y,j,hk,r6,z⟩=>⟨w.dv z,y,j,w.cg (Fz.az _ _) z aL _,w.cg (Fz.az _ _) z aL _,?_⟩
     intro C
     have x7:J B C:=J.push _ _
     have am:ap (bG [c] C) (.mk B.size 0 2 2) [0,0]:=ap.lit aA _ (by simp;exact r6.lt) rfl rfl aL
     clear_value C
     have A:=w.fz z
     exact⟨A.cg (Fz.az _ _) (x7.fz _) aL _,A.cg (Fz.az _ _) (x7.fz _) aL _,iI (ay:=C) (Y:=0) ((F.to z r6).ext x7) (((k.fz _).trans z).then x7) am y hk⟩
    .intro B
     have z:J t B:=J.push _ _
     have am:ap (bG [c] B) (.mk t.size 0 2 2) [0,0]:=ap.lit aA _ bE rfl rfl aL
     clear_value B
     have A:=w.fz (z.fz [])
     refine⟨w.cg (Fz.az _ _) (z.fz _) aL _,w.cg (Fz.az _ _) (z.fz _) aL _,?_⟩
     refine(kA (F.ext z).rd V (ai.le (fh (z.fz _))) aL).mono λ_ C⟨y,j,hk,r7,r⟩=>⟨A.dv r,y,j,A.cg (Fz.az _ _) r aL _,A.cg (Fz.az _ _) r aL _,iI (ay:=C) (Y:=0) ((F.ext z).to r r7) (((k.trans z).fz _).trans r) (am.le (fh r)) y hk⟩
   .intro t
    have k:J I t:=J.push _ _
    have ai:ap (bG [c] t) (.mk I.size 0 2 2) [0,0]:=ap.lit aA _ bE rfl rfl aL
    clear_value t
    have F:=D.ext k
    have w:=u.fz (k.fz [])
    have z5:=k.size
    refine⟨u.cg (Fz.az _ _) (k.fz _) aL _,u.cg (Fz.az _ _) (k.fz _) aL _,?_⟩
    intro B
    have z:J t B:=J.push _ _
    have am:ap (bG [c] B) (.mk t.size 0 4 4) [1,2,3,4]:=ap.lit aA _ bE rfl rfl aL
    clear_value B
    have A:=w.fz (z.fz [])
    refine⟨w.cg (Fz.az _ _) (z.fz _) aL _,w.cg (Fz.az _ _) (z.fz _) aL _,?_⟩
    refine(kA (F.ext z).rd V am aL).mono λ_ C⟨y,j,hk,r7,r⟩=>⟨A.dv r,y,j,A.cg (Fz.az _ _) r aL _,A.cg (Fz.az _ _) r aL _,iI (ay:=C) (Y:=0) ((F.ext z).to r r7) (((k.trans z).fz _).trans r) ((ai.le (fh (z.fz _))).le (fh r)) y hk⟩
end
end
section
variable{c:Int}
def WT{l:List bz}{q:List dy}(hb:0<=c/\c<=100)(ih:∀d,0<=d->d<=c -1->Km l q d):Km l q c:=by
 intro r e P G R U ae v w A hS z j hP K aI I;apply LN (e,0);simp -zeta only[aC,aB];intro h aa;let⟨x2,hl⟩:=dD (a:=h) (c:=aa) rfl rfl;have s1:h.size=v.size+1:=by simp[h]
 clear_value aa;have hr:=j.rd.lt;have z2:=x2.size;have L2:Lw e [h.size,v.size] aa:=λc hb=>⟨hl c hb,by simp at hb;omega⟩;have H:∀{d:E},aa.size<=d.size->∀f∈h.size::r,f<d.size:=λy f he=>by have:=bO hS x2.size (hl h.size aL) f he;omega
 have c2:=j.ext x2;have am:=j.types;have oD:=j.gp.oD;have iW:=j.gp.iW;have aF:=Qo c;have au:∀{al:Nat}{d:E},GC e G al R U l q d->Fz [e] aa d->al+22<=P+Cg c->aN cp 316 [vp e 0,.agg #[O.v R,O.v U],O.v ae,vi A] d λad M2=>eG [h.size,v.size] d M2/\∃W X:Int,∃Y:O,ad=.agg #[vi W,vi X,O.v Y]/\XP r e G v (P+Cg c) (λf=>WX l q.length w.length f/\(c<=2->f.n<=4)) (.agg #[vi W,vi X,O.v Y]) (ah M2 h.size 0 [.i W,.i X,.s Y]):=λcM g hq=>
  XP.ret (rD (f:=h.size::r) (H g.size) (by simp[z]) cM V (K.le (fh ((x2.fz _).trans g))) V I) (L2.fz g) ((x2.fz _).trans g) j.rd V (λf he=>⟨he.1,λ_=>he.2⟩) hq
 refine⟨λ_=>au c2 (Fz.az _ _) V,λh3=>?_⟩;simp only[bL]at h3;have aG:=Rb (f:=c -1) (c:=c) V V;have aH:=Rb (f:=c -2) (c:=c -1) V V;have aE:=Qo (c -2);have an:cT (c -1)=c -1:=aQ V V;have hQ:∀f,WX l q.length w.length f->WX l q.length w.length f/\(c<=2->f.n<=4):=λf y=>⟨y,λy=>V⟩;refine(cq c2.rd V 12).mono λ_ m3⟨ab,f,k0,k1,r3,f3⟩=>⟨L2.dv f3,ab,f,?_⟩;have u:=c2.to f3 r3;have N:=L2.fz f3;have t:=(x2.fz [e]).trans f3;have z3:=f3.size;have ay:=H z3;have aw:∀{d:E},J m3 d->aN cp 331 [vp e 0,.agg #[O.v R,O.v U],O.v ae,vi A,vi c] d λad M2=>eG [h.size,v.size] d M2/\∃W X:Int,∃Y:O,ad=.agg #[vi W,vi X,O.v Y]/\XP r e G v (P+Cg c) (λf=>WX l q.length w.length f/\(c<=2->f.n<=4)) (.agg #[vi W,vi X,O.v Y]) (ah M2 h.size 0 [.i W,.i X,.s Y]):=λC=>
  XP.ret (JN (e:=h.size::r) ⟨V,V⟩ ih (H (oh C.size)) (by simp[z]) (u.ext C) V (K.le (fh (t.then C))) V I) (N.fz (C.fz [])) (t.then C) j.rd V hQ V
 refine⟨λ_=>au u f3 V,λ_=>⟨λ_=>?_,λ_=>⟨λ_=>?_,λ_=>⟨λ_=>XP.ret (JM (j:=h.size::r) ⟨V,V⟩ ih ay (by simp[z]) u V (K.le (fh t)) V I) N t j.rd V hQ V,λ_=>⟨λ_=>?_,λ_=>aw (J.az _)⟩⟩⟩⟩⟩
 .refine(Lv r3 V u.hd am u.hp V (K.le (fh t))).mono λ_ k⟨B,f,hu,r4,f4⟩=>⟨N.dv f4,B,f,bh,bh,?_⟩;have Q:=u.to f4 r4;have p:=N.fz f4;have F4:=t.trans f4;have z4:=f4.size;have az:Ty l B:=by have:=px l j.gp.ds;unfold Ty;omega
  let⟨d0,d1⟩:=NP (f:=c) (d:=2) V V;have d2:Int.tdiv c 2<=c -1:=by rw[pX V];omega
  have d3:Int.tdiv c 2+Int.tdiv c 2<=c:=by rw[pX V];omega
  rw[aQ (b:=Int.tdiv c 2) V V];generalize Int.tdiv c 2=h2 at*;have hm:=ui d2;have D:∀{d M':E},Fz [e] k d->Fz [e] d M'->af M' v.size 0=af d v.size 0:=λg f'=>p.cg g f' aL _;have F:∀{d M':E},Fz [e] k d->Fz [e] d M'->af M' v.size 1=af d v.size 1:=λg f'=>p.cg g f' aL _;have ag:=λ(d:E)(cM:GC e G (P+2) R U l q d)(g:Fz [e] k d)=>ih h2 d0 d2 (h.size::r) e (P+2) G R U ae d w B (H (oh g.size)) (by simp[z]) cM V (K.le (fh (F4.trans g))) V az;have ai:=λ(d:E)(ac:O)(cM:GC e G (P+2+Cg h2) R U l q d)(g:Fz [e] k d)(hw:IR e d ac (w++[B]))=>ih h2 d0 d2 (h.size::r) e (P+2+Cg h2) G R U ac d (w++[B]) A (H (oh g.size)) (by simp[z]) cM V hw bE I;have aj:=λ(d:E)(ac:O)(g:Fz [e] k d)(hR:e<d.size)(y:IR e d ac [B])=>eO (S:=[e]) (by simp;exact hR) (K.le (fh (F4.trans g))) y bE;have ak:=λ(M0 d:E)(Z e2:Ex)(t1 t2:O)(g:Fz [e] k d)(hR:Rd e G (P+2+Cg h2+Cg h2) d)(h1:fG (bG (h.size::r) d) t1 Z.bD)(ax:fG (bG (h.size::r) d) t2 e2.bD)(w1:WX l q.length w.length Z)(w2:WX l q.length (w++[B]).length e2)=>
   have C:=J.push d (.cells (bt [.i Z.op,.i Z.bP,.s t1,.i e2.op,.i e2.bP,.s t2]) bF)
   have ao:=H (d:=d) (oh g.size)
   XP.ret (S:=r) (Q':=λf=>WX l q.length w.length f/\(c<=2->f.n<=4)) (mZ (hR.ext C) ((KL ao 0 [(Z,t1),(e2,t2)] aL (by simp;exact⟨h1,ax⟩) rfl rfl).done BG.mono ao bh aL) 13 0) ((p.fz g).fz (C.fz [])) ((F4.trans g).then C) j.rd V (λf he=>he▸hQ _ (.lt w1 (by simpa using w2))) (i:=P+Cg c) V
  refine⟨?_,?_⟩
  .refine XP.then (ag k Q (Fz.az _ _)) p λs5 T L h5 q5 r5 m=>⟨_,_,_,rfl,D (Fz.az _ _) m,F (Fz.az _ _) m,?_⟩;intro m6;have s:J L m6:=J.push _ _;have aD:ap (bG [e] m6) (.mk L.size 0 1 1) [B]:=ap.lit aA _ (by simp;exact r5.lt) rfl rfl aL;clear_value m6;have o:=m.then s;refine⟨D m (s.fz _),F m (s.fz _),D m (s.fz _),F m (s.fz _),?_⟩;refine(aj m6 _ o (r5.ext s).lt aD).mono λ_ m7⟨s7,l7,f,g7,q7,i⟩=>⟨(p.fz o).dv (i.fz _),s7,f,D o (i.fz _),F o (i.fz _),?_⟩;subst q7;refine XP.then (ai m7 s7 (((Q.to m r5).ext s).ext i) (o.then i) (GI.done g7 (by simp;exact(r5.ext s).lt) bE)) ((p.fz o).fz (i.fz [])) λs8 e8 m8 h8 q8 r8 f8=>⟨_,_,_,rfl,?_⟩;exact ak m8 m8 T e8 s5 s8 ((o.then i).trans f8) r8 (fG.le (((s.trans i).fz [e]).trans f8|>.df (by simp[z])) h5) h8 q5.1 q8.1
  .intro L;have s:J k L:=J.push _ _;have aD:ap (bG [e] L) (.mk k.size 0 1 1) [B]:=ap.lit aA _ (by simp;exact r4.lt) rfl rfl aL;clear_value L;refine⟨D (Fz.az _ _) (s.fz _),F (Fz.az _ _) (s.fz _),D (Fz.az _ _) (s.fz _),F (Fz.az _ _) (s.fz _),?_⟩;refine XP.then (ag L (Q.ext s) (s.fz _)) (p.fz (s.fz [])) λs6 e6 m6 h6 q6 r6 o=>⟨_,_,_,rfl,D (s.fz _) o,F (s.fz _) o,?_⟩;have T:=(s.fz [e]).trans o;refine(aj m6 _ T r6.lt (aD.le (fh o))).mono λ_ m7⟨s7,l7,f,g7,q7,i⟩=>⟨(p.fz T).dv (i.fz _),s7,f,D T (i.fz _),F T (i.fz _),?_⟩;subst q7;refine XP.then (ai m7 s7 (((Q.ext s).to o r6).ext i) (T.then i) (GI.done g7 (by simp;exact r6.lt) bE)) ((p.fz T).fz (i.fz [])) λs8 e8 m8 h8 q8 r8 f8=>⟨_,_,_,rfl,?_⟩;exact ak m8 m8 e6 e8 s6 s8 ((T.then i).trans f8) r8 (fG.le ((i.fz [e]).trans f8|>.df (by simp[z])) h6) h8 q6.1 q8.1
 .intro k;have i:J m3 k:=J.push _ _;have s:ap (bG [e] k) (.mk m3.size 0 3 3) [0,A,A]:=ap.lit aA _ (by simp;exact r3.lt) rfl rfl aL;clear_value k;rw[an];exact zp V ih (H (oh i.size)) z (u.ext i) V (K.le (fh (t.then i))) V V s aL (by simp;exact⟨j.gp.ty bh bh,I⟩) (N.fz (i.fz [])) (t.then i) j.rd V (λo hl hw=>hQ _ (.fe bh (λ_=>by simpa using hl) bh (λy=>V) hw)) V
 .refine(JI (f:=[e]) (by simp;exact r3.lt) (u.hd.le (bA _ _)) am (pv.le (bA _ _) u.hp) V iW A).mono λ_ k⟨B,o,f,gl,hq,i⟩=>⟨N.dv (i.fz _),B,f,λy=>?_,λ_=>aw i⟩;simp only[ar]at y;have ac:IR e k B o:=GI.done gl (by simp;exact r3.lt) V;have ao:=ac.len;have Q:=u.ext i;have p:=N.fz (i.fz []);refine(cq Q.rd V B.len).mono λ_ L⟨ab,f,k0,k1,r5,m⟩=>⟨p.dv m,ab,f,k0,V,?_⟩;let⟨aj,hy⟩:=cG o ab.toNat;obtain⟨fi,ai,rfl,F⟩:=hq.1 aj (aq hy);have s:=Q.to m r5;let⟨ps,ag,e0,Z⟩:=s.hp.aF F;have ak:=av F;have ax:=s.hp.len;have T:=wH _ (j.gp.dz ai (aq F));have D:=(i.fz [e]).trans m;refine⟨_,(eQ.1 ((ac.le (fh m)).aF hy)).2,V,V,ps,(eQ.1 e0).2,?_⟩;rw[an];exact zp V ih (H (oh D.size)) z s V (K.le (fh (t.trans D))) V V ag T.1 (λA I=>j.gp.ty (T.2.1 A I).1 (T.2.1 A I).2) (p.fz m) (t.trans D) j.rd V (λo _ hw=>hQ _ (.fe bh (λy=>V) bh (λ_=>⟨V,V⟩) hw)) V
def QJ{b:List bz}{d:List dy}:∀(n:Nat)(c:Int),c.toNat=n->0<=c/\c<=100->Km b d c:=λn=>by
 induction n using Nat.strongRecOn with
 |ind n f=>exactλc i h=>WT h λa e g=>f a.toNat V a rfl ⟨e,V⟩
section
variable{S:List Nat}{e P:Nat}{h d p j:O}{g:List bz}{i:List dy}{f:E}{v:List Int}
def XE(g:List bz)(b a:Nat)(e:Ex):Prop:=WX g b a e/\e.n<=30
def LI(hS:∀y∈S,y<f.size)(ab:e∈S)(y:GC e h P d p g i f)(hP:P+20*Cg 18<=10^16)(hv:IR e f j v)(ak:v.length<=100){T:Int}(ht:Ty g T)(s:0<=c/\c<=18):
 aN cp 285 [vp e 0,.agg #[O.v d,O.v p],O.v j,vi T,vi c] f (XP S e h f (P+20*Cg 18) (XE g i.length v.length)):=by
 apply Eu (e,0)
 simp -zeta only[aC,aB]
 intro t B
 let⟨w,hl⟩:=dD (a:=t) (c:=B) rfl rfl
 have s1:t.size=f.size+1:=by simp[t]
 clear_value B
 have hr:=y.rd.lt
 have z2:=w.size
 have N:Lw e [t.size,f.size] B:=λc s=>⟨hl c s,by simp at s;omega⟩
 have aa:∀{M:E},B.size<=M.size->∀k∈t.size::S,k<M.size:=λR k Z=>by have:=bO hS w.size (hl t.size aL) k Z;omega
 have W:=y.ext w
 have hm:=ui s.2
 refine XP.then (QJ _ c rfl ⟨s.1,V⟩ (t.size::S) e P h d p j B v T (aa (ad _)) (by simp[ab]) W V (hv.le (fh (w.fz _))) V ht) N λs3 F l h3 q3 r3 f3=>⟨_,_,_,rfl,?_⟩
 intro m4 C
 have U:J l C:=(J.push l _).ah (ad _) _ _
 have B5:cE C l.size bF [.i F.op,.i F.bP,.s s3]:=cE.ah (m:=m4) (o:=0) (r:=[.i F.op,.i F.bP,.s s3]) (cE.push l _ _)
 have s5:C.size=l.size+1:=by simp[C,m4,aw]
 clear_value C
 have z3:=f3.size
 have ae:∀k∈l.size::t.size::S,k<C.size:=bO (aa z3) U.size V
 refine⟨λq M=>∃(I:O)(k:Ex)(u:Nat),0<=q/\q<=18/\q.toNat<=u/\u<=18/\cE M l.size bF [.i k.op,.i k.bP,.s I]/\fG (bG (l.size::t.size::S) M) I k.bD/\WX g i.length v.length k/\(q<=2->k.n<=4)/\Rd e h (P+(19 -u)*Cg 18) M/\Fz [e] B M/\C.size<=M.size,λq _=>q.toNat,⟨s3,F,18,s.1,s.2,V,ad _,B5,fG.le (U.bG λc s=>(List.mem_cons.1 s).elim (λR=>Or.inr V) Or.inl) h3,q3.1,q3.2,(r3.ext U).mono V,(f3.then U),ad _⟩,?_⟩
 rintro q M ⟨I,k,u,b0,b1,bk,al,K,hs,hw,hn,rM,X,zM⟩
 have FM:=(w.fz [e]).trans X
 refine⟨_,K.cg 0,_,K.cg 1,_,K.cg 2,?_⟩
 refine(AX (fG.le (bA _ _) hs)).mono λ_ H⟨n6,e6,q6,D⟩=>⟨(N.fz X).dv (D.fz _),n6,e6,?_⟩
 have L:=K.ext D
 have r6:=rM.ext D
 have z:=X.then D
 have z6:=D.size
 have kc:(19 -u)*Cg 18+Cg 18<=20*Cg 18:=by rw[<-pY];exact dh _ V
 have aT:k.n<=30->∃v0:Int,af H l.size 0=some (vi v0)/\∃v1:Int,af H l.size 1=some (vi v1)/\∃v2:O,af H l.size 2=some (O.v v2)/\XP S e h f (P+20*Cg 18) (XE g i.length v.length) (.agg #[vi v0,vi v1,O.v v2]) (ah H t.size 0 [.i v0,.i v1,.s v2]):=λac=>
  ⟨_,L.cg 0,_,L.cg 1,_,L.cg 2,I,k,rfl,fG.le (cA aL λy Y=>ai _ (ai _ Y)) (fG.le (D.df _) hs),⟨hw,ac⟩,y.rd.ah (r6.mono V) ((w.fz _).trans z) V 0 _,((w.fz _).trans z).ah (Or.inr V) _ _⟩
 refine⟨λR=>⟨λA=>?_,λA=>aT (by simp only[bL]at A;have:=hn V;omega)⟩,λR=>aT (by simp only[bL]at R;omega)⟩
 simp only[ar]at A
 let⟨d0,d1⟩:=NP (f:=q) (d:=2) b0 V
 have d2:Int.tdiv q 2<=q -1:=by rw[pX b0];omega
 rw[aQ (b:=Int.tdiv q 2) V V]
 generalize Int.tdiv q 2=A at*
 have ag:=ui (f:=A) (c:=18) V
 refine⟨bh,?_⟩
 refine XP.then (QJ _ A rfl ⟨d0,V⟩ (l.size::t.size::S) e _ h d p j H v T (λk Z=>oh (ae k Z)) (by simp[ab]) (W.to z r6) V (hv.le (fh ((w.fz _).trans z))) V ht) (N.fz z) λs7 G m7 h7 q7 r7 Q=>⟨_,_,_,rfl,?_⟩
 have aj:e≠l.size:=V
 have B7:cE m7 l.size bF [.i k.op,.i k.bP,.s I]:=L.congr (Q.same _ V bE)
 refine⟨B7.fK aL,?_⟩
 intro m8
 have B8:cE m8 l.size bF [.i G.op,.i G.bP,.s s7]:=cE.ah (m:=m7) (o:=0) (r:=[.i G.op,.i G.bP,.s s7]) B7
 have f8:Fz [e] B m8:=(z.trans Q).ah (Or.inr V) _ _
 have s8:m8.size=m7.size:=aw _ _ _ _
 have z7:=Q.size
 refine⟨λc s=>bd _ _ _ _ (oh ((N c s).1)),⟨s7,G,u -1,d0,V,V,V,B8,fG.le (cA aL λy Y=>Y) h7,q7.1,q7.2,?_,f8,V⟩,by show A.toNat<q.toNat;omega⟩
 refine W.rd.ah (r7.mono ?_) (z.trans Q) V 0 _
 rw[show 19 -(u -1)=19 -u+1 by omega,pY];omega
end
end
section
structure HX(S:List Nat)(ds:List bz)(nf a:Nat)(M:E)(s:O)(e:Ex):Prop where
 sl:fG (bG S M) s e.bD
 wx:WX ds nf a e
structure Rs(rb:Nat)(bs:O)(m:E)(Q:Nat)(M:E):Prop where
 f:Fz [rb] m M
 r:Rd rb bs Q M
section
variable{S L:List Nat}{f Q q u k a i:Nat}{j d p s w:O}{h:List bz}{t:List dy}{n M c:E}{g:Ex}{v:List Int}{K:Int->Int->O->E->Prop}
def HX.fz(b:HX S h i a M s g)(e:f∈S)(d:Fz [f] M c):HX S h i a c s g:=⟨fG.le (d.df (by simp[e])) b.sl,b.wx⟩
def HX.ext(b:HX S h i a M s g)(x:J M c):HX S h i a c s g:=⟨fG.le (x.df _) b.sl,b.wx⟩
def HX.gY(b:HX S h i a M s g)(x:J M c)(f:M.size<=k):HX (k::S) h i a c s g:=⟨fG.le (x.bG λe d=>(List.mem_cons.1 d).elim (λb=>Or.inr V) Or.inl) b.sl,b.wx⟩
def HX.fj(b:HX (k::S) h i a M s g):HX S h i a M s g:=⟨fG.le (iS M λ_=>ai _) b.sl,b.wx⟩
def HX.put(b:HX S h i a M s g)(c:k∈S)(o:Nat)(l:List Ce):HX S h i a (ah M k o l) s g:=⟨fG.le (cA c λ_ b=>b) b.sl,b.wx⟩
def Rs.ext(h:Rs f j n Q M)(x:J M c):Rs f j n Q c:=⟨h.f.then x,h.r.ext x⟩
def Rs.to(h:Rs f j n Q M)(a:Fz [f] M c)(r:Rd f j q c):Rs f j n q c:=⟨h.f.trans a,r⟩
def Rs.put(h:Rs f j n Q M)(b:Rd f j u n)(a:n.size<=k)(o:Nat)(l:List Ce):Rs f j n Q (ah M k o l):=⟨h.f.ah (Or.inr a) _ _,b.ah h.r h.f a o l⟩
def lw(h:f<n.size)(a:∀b∈L,n.size<=b/\b<M.size):Lw f L M:=λb c=>⟨(a b c).2,oh ((a b c).1)⟩
def kg(a:Fz [f] M c)(h:f<n.size)(b:n.size<=k/\k<M.size)(o:Nat):af c k o=af M k o:=aJ (a.same k b.2 bE) o
def kH{d c:E}{z a:List Ce}{t:Nat}(f:d=M.push (.cells (bt z) t))(g:c=ah d M.size 0 a)(i:a.length=z.length):J M c/\cE c M.size t a/\c.size=M.size+1:=by
 subst f g;refine⟨(J.push M _).ah (ad _) _ _,?_,by rw[aw];simp⟩;have h:=cE.ah (m:=M.push (.cells (bt z) t)) (b:=M.size) (e:=t) (l:=z) (o:=0) (r:=a) (cE.push _ _ _);rwa[show jb z 0 a=a from by
  have h:=BV [] a z V;rw[I7 V]at h;simpa using h]at h
def XP.kk{e:Nat}{b:List Value}{T:Ex->Prop}(n:aN cp e b M (XP S f j M Q T))(o:Lw f L M)(p:∀s g c,fG (bG S c) s g.bD->T g->Rd f j Q c->Fz [f] M c->K g.op g.bP s c):aN cp e b M λv c=>eG L M c/\∃h i:Int,∃k:O,v=.agg #[vi h,vi i,O.v k]/\K h i k c:=
 XP.then n o λs g c a l m d=>⟨_,_,_,rfl,p s g c a l m d⟩
def wF(S:List Nat)(h:List bz)(i:Nat)(m:Lw f L M){n:Int}(p:0<=n/\n<(a:Int))(o:∀s c,HX S h i a c s (.mk 12 n [])->J M c->K 12 n s c):aN cp 315 [vi n] M λv c=>eG L M c/\∃b d:Int,∃e:O,v=.agg #[vi b,vi d,O.v e]/\K b d e c:=
 (ms S n M).mono λv c⟨s,g,j,k,l,x⟩=>⟨m.dv (x.fz _),by subst l;exact⟨_,_,_,j,o s c ⟨k,.T9 p⟩ x⟩⟩
def Jh(S:List Nat)(h:List bz)(i a:Nat)(m:Lw f L M)(n:Int)(o:∀s c,HX S h i a c s (.mk 0 n [])->J M c->K 0 n s c):aN cp 280 [vi n] M λv c=>eG L M c/\∃b d:Int,∃e:O,v=.agg #[vi b,vi d,O.v e]/\K b d e c:=
 (AJ S n M).mono λv c⟨s,g,j,k,l,x⟩=>⟨m.dv (x.fz _),by subst l;exact⟨_,_,_,j,o s c ⟨k,.int n⟩ x⟩⟩
def oR(l:List (Ex×O))(d:l.length<=1000)(b:∀c∈S,c<M.size)(h:∀x∈l,fG (bG S M) x.2 x.1.bD){a:List Ce}{n:Nat}(c:a=l.flatMap λx=>[.i x.1.op,.i x.1.bP,.s x.2])(e:n=l.length):fG (bG S (M.push (.cells (bt a) bF))) (.mk M.size 0 n n) (l.map (·.1)):=
 (KL b 0 l d h c e).done BG.mono b bh bE
def jC{bD:List Ex}(k:fG (bG S M) s bD){b bP:Int}(q:WX h i a (.mk b bP bD))(o:Lw f L M)(p:∀s c,HX S h i a c s (.mk b bP bD)->J M c->K b bP s c):
 aN cp 313 [vi b,vi bP,O.v s] M λv c=>eG L M c/\∃d e:Int,∃j:O,v=.agg #[vi d,vi e,O.v j]/\K d e j c:=
 (Ju k b bP).mono λv c⟨s,g,l,m,n,x⟩=>⟨o.dv (x.fz _),by subst n;exact⟨_,_,_,l,p s c ⟨m,q⟩ x⟩⟩
def FE(x:∀a∈S,a<M.size)(z:f∈S)(a:GC f j Q d p h t M)(C:Q+Cg 18<=10^16)(B:IR f M w v)(E:v.length<=100){e b:Int}(A:Ty h e)(i:0<=b/\b<=18)(u:Lw f L M)(y:∀g s c,HX S h t.length v.length c s g->Rd f j (Q+Cg 18) c->Fz [f] M c->K g.op g.bP s c):
 aN cp 312 [vp f 0,.agg #[O.v d,O.v p],O.v w,vi e,vi b] M λv c=>eG L M c/\∃k l:Int,∃m:O,v=.agg #[vi k,vi l,O.v m]/\K k l m c:=
 have D:=ui i.2
 XP.kk (QJ _ b rfl ⟨i.1,V⟩ S f Q j d p w M v e x z a V B V A) u λs g c n o q r=>y g s c ⟨n,o.1⟩ (q.mono V) r
end
end
section
def WX.O6{b:List bz}{c a:Nat}{n:Int}{bD:List Ex}(h:∀e∈bD,WX b c a e):WX b c a (.mk 6 n bD):=.fe bh (λh=>V) bh (λh=>V) h
section
variable{c:List Nat}{e P:Nat}{g d p:O}{f:List bz}{h:List dy}{b:E}
def LQ(f:List bz)(z:Nat)(hS:∀Z∈c,Z<b.size)(aa:e∈c)(U:Rd e g P b)(hP:P+100<=10^16)(aF:Int):aN cp 314 [vp e 0,vi aF] b (XP c e g b (P+100) (WX f z 0)):=by
 apply EF (e,0);simp -zeta only[aC,aB];intro aA ac;have x2:J b ac:=(J.push b _).trans (J.push aA _);have s2:ac.size=b.size+2:=by simp[ac,aA]
 clear_value ac;have L:=U.lt;have ap:∀{h:E},ac.size<=h.size->∀Z∈b.size::c,Z<h.size:=λv=>bO hS V V;have X:Rs e g b P ac:=⟨x2.fz _,U.ext x2⟩;refine jC (S:=b.size::c) (a:=0) (h:=f) (i:=z) (f:=e) (bD:=[]) (mF _ _ _ _ _ _) (.O6 aL) (lw L bE) λs3 m3 h3 x3=>?_;intro m4 D;let⟨x5,B5,z5⟩:=kH (M:=m3) (d:=m4) (c:=D) rfl rfl rfl;clear_value D;have z3:=x3.size;have r5:=(X.ext x3).ext x5;refine⟨λ_=>?_,λ_=>?_⟩
 .intro m6;have x6:J D m6:=J.push _ _;clear_value m6;have z6:=x6.size;refine jC (S:=b.size::c) (a:=0) (h:=f) (i:=z) (f:=e) (bD:=[]) (mF _ _ _ _ _ _) (.O6 aL) (lw L bE) λQ F h7 x7=>?_;intro m8 y;let⟨x9,B9,z9⟩:=kH (M:=F) (d:=m8) (c:=y) rfl rfl rfl;clear_value y;have z7:=x7.size;have r9:=((r5.ext x6).ext x7).ext x9;have h9:=h7.ext x9;have G:∀{h C:E},y.size<=h.size->Fz [e] h C->∀i,af C F.size i=af h F.size i:=λv ai i=>kg ai L ⟨V,V⟩ i;have LW:∀{h:E},y.size<=h.size->Lw e [F.size,m3.size,b.size] h:=λv=>lw L bE;have LK:∀{h:E}{s:Nat},y.size<=s->s<h.size->Lw e [s,F.size,m3.size,b.size] h:=λv T=>lw L bE;have hw:∀n:Int,WX f z 0 (.mk 6 3 [.mk 6 2 [],.mk 0 n [],.mk 6 2 []]):=λn=>.O6 (by simp;exact⟨.O6 aL,.int n,.O6 aL⟩);refine⟨λlK h=>∃H l,lK.2=0/\b.size<=lK.1/\cE h lK.1 bF [.i l.op,.i l.bP,.s H]/\HX (b.size::c) f z 0 h H l/\HX (b.size::c) f z 0 h Q (.mk 6 2 [])/\Rs e g b (P+1) h/\y.size<=h.size,?_,?_⟩
  .have iI:∀{s t0:Nat}{h:E}{n:Int},cE h s bF [.i 0,.i 0,.s .nil]->y.size<=s->fG (bG (s::b.size::c) h) (.mk t0 0 3 3) [.mk 6 2 [],.mk 0 n [],.mk 6 2 []]->Rs e g b (P+1) h->HX (s::b.size::c) f z 0 h Q (.mk 6 2 [])->
    aN cp 313 [vi 6,vi 3,O.v (.mk t0 0 3 3)] h λaG C=>eG [s,F.size,m3.size,b.size] h C/\∃r0 r1:Int,∃X:O,aG=.agg #[vi r0,vi r1,O.v X]/\∃H l,((s,0):Nat×Nat).2=0/\b.size<=((s,0):Nat×Nat).1/\cE (ah C s 0 [.i r0,.i r1,.s X]) ((s,0):Nat×Nat).1 bF [.i l.op,.i l.bP,.s H]/\HX (b.size::c) f z 0 (ah C s 0 [.i r0,.i r1,.s X]) H l/\HX (b.size::c) f z 0 (ah C s 0 [.i r0,.i r1,.s X]) Q (.mk 6 2 [])/\Rs e g b (P+1) (ah C s 0 [.i r0,.i r1,.s X])/\y.size<=(ah C s 0 [.i r0,.i r1,.s X]).size:=λB hk W N v=>
    jC W (hw _) (LK hk B.lt) λs' C T au=>⟨s',.mk 6 3 [.mk 6 2 [],.mk 0 _ [],.mk 6 2 []],rfl,by show b.size<=_;omega,cE.ah (m:=C) (o:=0) (r:=[.i 6,.i 3,.s s']) (B.ext au),(T.put aL _ _).fj,((v.ext au).put aL _ _).fj,(N.ext au).put U V _ _,by rw[aw];have:=B.lt;have:=au.size;omega⟩
   have zb:∀h:E,J h (h.push (.cells (bt [.i 0,.i 0,.s .nil]) bF))/\cE (h.push (.cells (bt [.i 0,.i 0,.s .nil]) bF)) h.size bF [.i 0,.i 0,.s .nil]:=λh=>⟨J.push _ _,cE.push _ _ _⟩;have aq:∀{ag:List Nat}{h:E}{n:Int}{si:O},(∀Z∈ag,Z<h.size)->HX ag f z 0 h Q (.mk 6 2 [])->HX ag f z 0 h si (.mk 0 n [])->fG (bG ag (h.push (.cells (bt [.i 6,.i 2,.s Q,.i 0,.i n,.s si,.i 6,.i 2,.s Q]) bF))) (.mk h.size 0 3 3) [.mk 6 2 [],.mk 0 n [],.mk 6 2 []]:=λhS v T=>
    oR [(.mk 6 2 [],Q),(.mk 0 _ [],_),(.mk 6 2 [],Q)] aL hS (by simp;exact⟨v.sl,T.sl,v.sl⟩) rfl rfl
   have ay:∀{h:E}{s:Nat},y.size<=s->s<h.size->∀Z∈s::b.size::c,Z<h.size:=λv T=>bO (ap (h:=y) V) V T;refine⟨(cq r9.r V 9).mono λ_ w⟨n,l,_,_,an,u⟩=>⟨(LW (ad _)).dv u,n,l,G (ad _) u _,G (ad _) u _,G (ad _) u _,G (ad _) u _,G (ad _) u _,G (ad _) u _,?_,?_⟩,?_⟩
   .have I:=r9.to u an;have vw:=u.size;have K:=h9.fz (by simp[aa]) u;refine Jh (b.size::c) f z 0 (LW vw) n λaD p aj q=>?_;have av:=q.size;have d:=λi=>G vw (q.fz _) i;refine⟨d _,d _,d _,d _,d _,d _,?_,?_⟩
    .intro k;have j:J p k:=J.push _ _;have W:fG (bG (b.size::c) k) (.mk p.size 0 3 3) [.mk 6 2 [],.mk 0 n [],.mk 6 2 []]:=aq (ag:=b.size::c) (ap V) (K.ext q) aj;have aH:=j.size;refine⟨?_,?_⟩
     .refine jC (M:=k) (f:=e) W (hw n) (LW V) λaz A ao t=>?_;intro R;have ak:J A R:=J.push _ _;have al:=t.size;have d:=λi=>G (h:=A) (C:=R) V (ak.fz _) i;refine⟨d _,d _,d _,d _,d _,d _,?_⟩;intro ae;let⟨Y,ab,am⟩:=kH (M:=A) (d:=R) (c:=ae) rfl rfl rfl;exact⟨az,.mk 6 3 [.mk 6 2 [],.mk 0 n [],.mk 6 2 []],rfl,by show b.size<=A.size;omega,ab,ao.ext Y,(((K.ext q).ext j).ext t).ext Y,(((I.ext q).ext j).ext t).ext Y,V⟩
     .intro A;obtain⟨t,R⟩:J k A/\cE A k.size bF [.i 0,.i 0,.s .nil]:=zb k;have d:=λi=>G (h:=k) (C:=A) V (t.fz _) i;exact⟨d _,d _,d _,d _,d _,d _,iI R V (fG.le (t.bG λam hb=>(List.mem_cons.1 hb).elim (λv=>Or.inr V) Or.inl) W) (((I.ext q).ext j).ext t) (((K.ext q).ext j).gY t (ad _))⟩
    .intro k;obtain⟨j,ae⟩:J p k/\cE k p.size bF [.i 0,.i 0,.s .nil]:=zb p;have d:=λi=>G (h:=p) (C:=k) V (j.fz _) i;refine⟨d _,d _,d _,d _,d _,d _,?_⟩;intro A;have t:J k A:=J.push _ _;have R:=(K.ext q).gY j (ad _);exact iI (ae.ext t) V (aq (ay V ae.lt) R (aj.gY j (ad _))) (((I.ext q).ext j).ext t) (R.ext t)
   .have I:=r9.to u an;have vw:=u.size;have K:=h9.fz (by simp[aa]) u;intro p;obtain⟨q,Y⟩:J w p/\cE p w.size bF [.i 0,.i 0,.s .nil]:=zb w;have d:=λi=>G (h:=w) (C:=p) V (q.fz _) i;have av:=q.size;refine⟨d _,d _,d _,d _,d _,d _,?_⟩;refine Jh (w.size::b.size::c) f z 0 (LK V Y.lt) n λal k ak j=>?_;have d:=λi=>G (h:=p) (C:=k) V (j.fz _) i;refine⟨d _,d _,d _,d _,d _,d _,?_⟩;intro A;have t:J k A:=J.push _ _;have R:=(K.gY q (ad _)).ext j;exact iI ((Y.ext j).ext t) V (aq (ay V (Y.ext j).lt) R ak) (((I.ext q).ext j).ext t) (R.ext t)
   .intro w;obtain⟨I,ax⟩:J y w/\cE w y.size bF [.i 0,.i 0,.s .nil]:=zb y;have d:=λi=>G (h:=y) (C:=w) V (I.fz _) i;have vw:=I.size;refine⟨d _,d _,d _,d _,d _,d _,?_⟩;refine(cq (r9.ext I).r V 9).mono λ_ p⟨n,l,_,_,aE,ab⟩=>⟨(LK (ad _) ax.lt).dv ab,n,l,?_⟩;have d:=λi=>G (h:=w) (C:=p) V ab i;refine⟨d _,d _,d _,d _,d _,d _,?_⟩;have Y:=ax.congr (ab.same y.size ax.lt bE);have av:=ab.size;refine Jh (y.size::b.size::c) f z 0 (LK (ad _) Y.lt) n λal k ak j=>?_;have d:=λi=>G (h:=p) (C:=k) V (j.fz _) i;refine⟨d _,d _,d _,d _,d _,d _,?_⟩;intro A;have t:J k A:=J.push _ _;have R:=((h9.gY I (ad _)).fz (by simp[aa]) ab).ext j;exact iI ((Y.ext j).ext t) (ad _) (aq (ay (ad _) (Y.ext j).lt) R ak) ((((r9.ext I).to ab aE).ext j).ext t) (R.ext t)
  .rintro⟨s,i⟩ h ⟨H,l,ho,hk,B,v,T,N,Y⟩;simp only at ho hk B;subst ho;have bl:=B.lt;refine⟨_,B.cg 0,_,B.cg 1,_,B.cg 2,?_⟩;have L3:∀{C:E},h.size<=C.size->Lw e [F.size,m3.size,b.size] C:=λv=>LW V;refine(cq N.r V 9).mono λ_ w⟨n,en,_,_,an,u⟩=>⟨(L3 (ad _)).dv u,n,en,?_⟩;have vw:=u.size;have gg:∀{R ab:E},h.size<=R.size->Fz [e] R ab->∀i,af ab s i=af R s i:=λv ai i=>kg ai L ⟨hk,V⟩ i;have ga:=λi=>G (h:=h) (C:=w) Y u i;have gb:=λi=>gg (R:=h) (ab:=w) (ad _) u i;refine⟨?_,?_,?_,?_,?_,?_,?_⟩;iterate 6 first|exact ga _|exact gb _
   refine Jh (b.size::c) f z 0 (L3 vw) n λaD p aj q=>?_;have ga:=λi=>G (h:=w) (C:=p) V (q.fz _) i;have gb:=λi=>gg (R:=w) (ab:=p) vw (q.fz _) i;refine⟨?_,?_,?_,?_,?_,?_,?_⟩;iterate 6 first|exact ga _|exact gb _
   intro k;have j:J p k:=J.push _ _;have av:=q.size;have ag:=(v.fz (by simp[aa]) u).ext q;have am:=(T.fz (by simp[aa]) u).ext q;have W:fG (bG (b.size::c) k) (.mk p.size 0 3 3) [l,.mk 0 n [],.mk 6 2 []]:=oR (S:=b.size::c) (M:=p) [(l,H),(.mk 0 n [],aD),(.mk 6 2 [],Q)] aL (ap V) (by simp;exact⟨ag.sl,aj.sl,am.sl⟩) rfl rfl;refine jC (M:=k) (f:=e) W (.O6 (by simp;exact⟨ag.wx,aj.wx,am.wx⟩)) (L3 (C:=k) (oh j.size)) λaz A ao t=>?_;have aq:=(((N.to u an).ext q).ext j).ext t;exact⟨az,_,rfl,(ao.put aL _ _).fj.sl,ao.wx,((aq.put U (ad _) _ _).r).mono V,(aq.put U (ad _) _ _).f⟩
 .intro m6 F;let⟨x7,B7,z7⟩:=kH (M:=D) (d:=m6) (c:=F) rfl rfl rfl;clear_value F;have r7:=r5.ext x7;have C:∀{h:E},F.size<=h.size->Lw e [m3.size,b.size] h:=λv=>lw L bE;refine(cq r7.r V 3).mono λ_ m8⟨n,en,n0,n3,Q,u⟩=>⟨(lw L bE:Lw e [D.size,m3.size,b.size] F).dv u,n,en,?_⟩;rw[aQ (b:=1+n) V V];have z8:=u.size;have T:b.size<=D.size:=V;refine⟨λs h=>0<=s/\s<=3/\∃H l,cE h D.size bF [.i l.op,.i l.bP,.s H]/\HX (D.size::b.size::c) f z 0 h H l/\Rs e g b (P+1+4*(3 -s).toNat) h/\F.size<=h.size,λs _=>s.toNat,⟨V,V,s3,.mk 6 0 [],B7.congr (u.same _ V bE),((h3.ext x5).gY x7 (ad _)).fz (by simp[aa]) u,⟨(r7.to u Q).f,Q.mono V⟩,z8⟩,?_⟩;rintro s h ⟨i0,i3,H,l,B,v,N,Y⟩;refine⟨λhi=>?_,λ_=>⟨_,B.cg 0,_,B.cg 1,_,B.cg 2,H,l,rfl,(v.fj.put aL _ _).fj.sl,v.wx,(N.put U (ad _) _ _).r.mono V,(N.put U (ad _) _ _).f⟩⟩;simp only[ar]at hi;refine⟨_,B.cg 0,_,B.cg 1,_,B.cg 2,?_⟩;have d:∀{R ab:E},F.size<=R.size->Fz [e] R ab->∀i,af ab D.size i=af R D.size i:=λv ai i=>kg ai L ⟨T,V⟩ i;refine(Bg N.r V).mono λ_ y⟨A,en,d9,t⟩=>⟨(C Y).dv t,A,en,d Y t _,d Y t _,d Y t _,?_⟩;have z9:=t.size;refine Jh (D.size::b.size::c) f z 0 (C V) A λan w K I=>⟨d V (I.fz _) _,d V (I.fz _) _,d V (I.fz _) _,?_⟩;intro p;have q:J w p:=J.push _ _;have vw:=I.size;have av:=q.size;have ag:=(v.fz (by simp[aa]) t).ext I;have W:fG (bG (D.size::b.size::c) p) (.mk w.size 0 2 2) [.mk 0 A [],l]:=oR (S:=D.size::b.size::c) (M:=w) [(.mk 0 A [],an),(l,H)] aL (bO (ap (h:=w) V) (ad _) V) (by simp;exact⟨K.sl,ag.sl⟩) rfl rfl;refine jC (M:=p) (f:=e) W (.O6 (by simp;exact⟨K.wx,ag.wx⟩)) (C (h:=p) V) λal k ak j=>?_;have ae:cE k D.size bF [.i l.op,.i l.bP,.s H]:=(((B.congr (t.same _ B.lt bE)).ext I).ext q).ext j;have aH:=j.size;rw[aQ (b:=s -1) V V];refine⟨ae.fK aL,λam hb=>bd _ _ _ _ (by simp at hb;omega),⟨V,V,al,.mk 6 1 [.mk 0 A [],l],cE.ah (m:=k) (o:=0) (r:=[.i 6,.i 1,.s al]) ae,ak.put aL _ _,?_,by rw[aw];omega⟩,by show(s -1).toNat<s.toNat;omega⟩;have aj:=((((N.to t d9).ext I).ext q).ext j).put U T 0 [.i 6,.i 1,.s al];exact⟨aj.f,aj.r.mono V⟩
end
end
section
structure BX(S:List Nat)(ds:List bz)(nf a k:Nat)(M:E)(s:O)(e:Ex):Prop where
 b:cE M k bF [.i e.op,.i e.bP,.s s]
 h:HX (k::S) ds nf a M s e
section
variable{S:List Nat}{d Q i j k a c:Nat}{h s:O}{b:List bz}{g M f:E}{e:Ex}
def BX.new{f d:E}(h:HX S b c a M s e)(g:f=M.push (.cells (bt [.i 0,.i 0,.s .nil]) bF))(i:d=ah f M.size 0 [.i e.op,.i e.bP,.s s]):J M d/\BX S b c a M.size d s e/\d.size=M.size+1:=
 let⟨x,B,z⟩:=kH g i rfl;⟨x,⟨B,h.gY x (ad _)⟩,z⟩
def BX.fz(h:BX S b c a k M s e)(j:d∈S)(i:k≠d)(g:Fz [d] M f):BX S b c a k f s e:=⟨h.b.congr (g.same k h.b.lt (by simpa using i)),h.h.fz (by simp[j]) g⟩
def BX.ext(h:BX S b c a k M s e)(x:J M f):BX S b c a k f s e:=⟨h.b.ext x,h.h.ext x⟩
def BX.set(h:BX S b c a k M s e){f:O}{d:Ex}(g:HX (k::S) b c a M f d):BX S b c a k (ah M k 0 [.i d.op,.i d.bP,.s f]) f d:=⟨cE.ah (m:=M) (o:=0) (r:=[.i d.op,.i d.bP,.s f]) h.b,g.put aL _ _⟩
def HX.iI(f:HX (k::S) b c a M s e)(r:Rs d h g Q M)(l:Rd d h j g)(m:g.size<=k)(n:Q<=i):XP S d h g i (WX b c a) (.agg #[vi e.op,vi e.bP,O.v s]) (ah M k 0 [.i e.op,.i e.bP,.s s]):=
 ⟨s,e,rfl,(f.put aL _ _).fj.sl,f.wx,(r.put l m _ _).r.mono n,(r.put l m _ _).f⟩
end
section
variable{b:List Nat}{c P:Nat}{g d p:O}{f:List bz}{e:List dy}{m:E}
def JY(hS:∀l∈b,l<m.size)(z:c∈b)(l:GC c g P d p f e m)(hP:P+200+Cg 18<=10^16):aN cp 281 [vp c 0,.agg #[O.v d,O.v p]] m (XP b c g m (P+200+Cg 18) (WX f e.length 0)):=by
 apply CO (c,0);simp -zeta only[aC,aB];intro h q A;let⟨x2,hl⟩:=dD (a:=h) (c:=q) rfl rfl;have s1:h.size=m.size+1:=by simp[h]
 have s2:q.size=m.size+2:=by simp[q,s1]
 have X:J q A:=J.push _ _;have y:=l.rd.lt;have ac:ap (bG [c] A) (.mk q.size 0 3 3) [1,1,3]:=ap.lit aA _ bE rfl rfl aL;clear_value A;clear_value q;have G:∀{i:E},q.size<=i.size->∀l∈h.size::b,l<i.size:=λF=>bO hS V V;have r3:Rs c g m P A:=⟨(x2.trans X).fz _,(l.rd.ext x2).ext X⟩;have z3:=X.size;refine(kA r3.r V ac aL).mono λ_ m4⟨W,u,ht,d4,H⟩=>⟨(lw y bE:Lw c [h.size,m.size] A).dv H,W,u,?_⟩;have r4:=r3.to H d4;have z4:=H.size;intro Q;have x5:J m4 Q:=J.push _ _;have ae:ap (bG [c] Q) (.mk m4.size 0 1 1) [W]:=ap.lit aA _ (by simp;exact d4.lt) rfl rfl aL;clear_value Q;have R:=r4.ext x5;have z5:=x5.size;refine FE (S:=h.size::b) (G V) (by simp[z]) (l.to R.f R.r) V ae aL (l.gp.ty (t:=0) bh bh) bh (lw y bE) λD s6 v h6 d6 f6=>?_;intro m7 B;let⟨x8,b8,z8⟩:=BX.new (f:=m7) (d:=B) h6 rfl rfl;clear_value B;have z6:=f6.size;have T:=(R.to f6 d6).ext x8;have L:v.size≠c:=V;have Z:∀{i:E},B.size<=i.size->Lw c [v.size,h.size,m.size] i:=λF=>lw y bE;refine⟨λi=>∃U u,BX (h.size::b) f e.length 1 v.size i U u/\Rs c g m (P+2+Cg 18) i/\B.size<=i.size,?_,?_⟩
 .refine(cq T.r V 3).mono λ_ n⟨Y,en,_,_,x,j⟩=>⟨(Z (ad _)).dv j,Y,en,λ_=>?_,λ_=>⟨s6,D,b8.fz (by simp[z]) L j,⟨(T.to j x).f,x.mono V⟩,j.size⟩⟩;have s:=b8.fz (by simp[z]) L j;have z9:=j.size;intro o;have w:J n o:=J.push _ _;have N:fG (bG (v.size::h.size::b) o) (.mk n.size 0 1 1) [D]:=oR (S:=v.size::h.size::b) (M:=n) [(D,s6)] aL (bO (G (i:=n) V) (ad _) s.b.lt) (by simp;exact s.h.sl) rfl rfl;have vw:=w.size;refine jC (M:=o) N (.fe (a:=1) (b:=f) (c:=e.length) bh (λF=>V) bh (λF=>V) (by simp;exact s.h.wx)) (Z V) λab af K C=>?_;have r:=((T.to j x).ext w).ext C;have I:=((s.ext w).ext C).set K;exact⟨ab,.mk 5 0 [D],I,⟨(r.put l.rd V _ _).f,((r.put l.rd V _ _).r).mono V⟩,by rw[aw];have:=C.size;omega⟩
 rintro i ⟨U,u,r,aa,ah⟩;refine⟨_,r.b.cg 0,_,r.b.cg 1,_,r.b.cg 2,?_⟩;have Y:∀{i:E},B.size<=i.size->Lw c [h.size,m.size] i:=λF=>lw y bE;refine XP.kk (LQ (c:=h.size::b) f e.length (G V) (by simp[z]) aa.r V W) (Y ah) λs9 e9 n h9 w9 x j=>?_;have I:=λag=>kg j y (k:=v.size) ⟨V,r.b.lt⟩ ag;refine⟨I _,I _,I _,?_⟩;have z9:=j.size;intro o;have w:J n o:=J.push _ _;have s:=r.fz (by simp[z]) L j;have N:fG (bG (h.size::b) o) (.mk n.size 0 2 2) [e9,u]:=oR (S:=h.size::b) (M:=n) [(e9,s9),(u,U)] aL (G V) (by simp;exact⟨h9,s.h.fj.sl⟩) rfl rfl;refine jC (M:=o) N (.lt w9 r.h.wx) (Y (oh w.size)) λab af K C=>?_;exact K.iI (((aa.to j x).ext w).ext C) l.rd V V
def JL(hS:∀j∈b,j<m.size)(y:c∈b)(j:GC c g P d p f e m)(hP:P+200+2*Cg 18<=10^16){I:Nat}{q:dy}(hq:e[I]? =some q)(h1:1<=q.params.length):
 aN cp 284 [vp c 0,.agg #[O.v d,O.v p],vi I] m (XP b c g m (P+200+2*Cg 18) (WX f e.length q.params.length)):=by
 apply CA (c,0)
 simp -zeta only[aC,aB]
 intro i C
 let⟨x2,hl⟩:=dD (a:=i) (c:=C) rfl rfl
 have s1:i.size=m.size+1:=by simp[i]
 have s2:C.size=m.size+2:=by simp[C,s1]
 have x:=j.rd.lt
 clear_value C
 have v:∀{h:E},C.size<=h.size->∀j∈i.size::b,j<h.size:=λl=>bO hS V V
 have r2:Rs c g m P C:=⟨x2.fz _,j.rd.ext x2⟩
 have s:∀{h:E},C.size<=h.size->Lw c [i.size,m.size] h:=λl=>lw x bE
 let⟨ps,ap,e0,e1⟩:=j.hp.aF hq
 have aV:=av hq
 have aY:=j.hp.len
 have X:=wH _ (j.gp.dz q (aq hq))
 have h3:q.params.length<=3:=X.1
 have W:∀{h:E},Fz [c] m h->IR c h ps q.params:=λac=>ap.le (fh ac)
 have E1:∀{h:E},Fz [c] m h->af h p.D (p.off+I*5+1)=some (vi q.aS):=λac=>(eQ.1 (fh ac _ _ _ e1)).2
 refine⟨V,V,ps,(eQ.1 (fh r2.f _ _ _ e0)).2,?_⟩
 refine wF (i.size::b) f e.length (a:=q.params.length) (s (ad _)) V λs3 m3 ao x3=>?_
 have z3:=x3.size
 refine Jh (i.size::b) f e.length q.params.length (s z3) 1 λs4 m4 h4 x4=>?_
 have z4:=x4.size
 intro m5
 have x5:J m4 m5:=J.push _ _
 have aI:fG (bG (i.size::b) m5) (.mk m4.size 0 2 2) [.mk 12 0 [],.mk 0 1 []]:=oR (S:=i.size::b) (M:=m4) [(.mk 12 0 [],s3),(.mk 0 1 [],s4)] aL (v V) (by simp;exact⟨(ao.ext x4).sl,h4.sl⟩) rfl rfl
 have z5:=x5.size
 refine jC (M:=m5) aI (.fe (a:=q.params.length) (b:=f) (c:=e.length) bh (λl=>V) bh (λl=>V) (by simp;exact⟨ao.wx,h4.wx⟩)) (s V) λs6 K h6 x6=>?_
 have z6:=x6.size
 have r6:=(((r2.ext x3).ext x4).ext x5).ext x6
 intro m7
 have x7:J K m7:=J.push _ _
 have g7:GE (i.size::b) K m7 (.mk K.size 0 1 1) [.mk 2 0 [.mk 12 0 [],.mk 0 1 []]]:=KL (v V) 0 [(.mk 2 0 [.mk 12 0 [],.mk 0 1 []],s6)] aL (by simpa using h6.sl) rfl rfl
 clear_value m7
 have aZ:=ap.len
 refine QG (a:=q.params.length) V h1 (λY F h=>∃z,GE (i.size::b) K h F z/\z.length=Y/\(∀w∈z,WX f e.length q.params.length w)/\Rd c g (P+22*Y) h/\Fz [c] K h) ⟨_,g7,rfl,by simpa using h6.wx,(r6.r.ext x7).mono V,x7.fz _⟩ ?_
 rintro Y F h aU μ aW hj ⟨z,r,aX,hw,rM,fM⟩ aM
 have U:=r6.f.trans fM
 have zM:=fM.size
 refine⟨λl=>?_,λ_=>?_⟩
 .simp only[ar]at l
  let⟨A,o⟩:=cG q.params Y
  have u:=X.2.1 A (aq o)
  refine⟨V,V,A,(eQ.1 ((W U).aF o)).2,?_⟩
  exact XP.kK (rD (f:=F.D::i.size::b) (bO (v (h:=h) V) (ad _) r.bn.2) (by simp[y]) (j.to U rM) V (W U) V (j.gp.ty u.1 u.2)) r fM (s V) r6.r (by simp[y]) V λw ax N G g' L D _ _=>
   aM V _ _ ⟨_,g',bE,λB H=>by rcases List.mem_append.1 H with l|l;exact hw B l;simp at l;subst l;exact G.1,L.mono V,D⟩
 refine jC (r.done BG.mono (v (h:=K) V) bh V) (.fe (a:=q.params.length) (b:=f) (c:=e.length) bh (λl=>V) bh (λ_=>⟨V,V⟩) hw) (s V) λs8 o h8 x8=>?_
 intro m9 A
 let⟨ay,ab,vw⟩:=BX.new (f:=m9) (d:=A) h8 rfl rfl
 clear_value A
 have z8:=x8.size
 have D:Rs c g m (P+66) A:=⟨(U.then x8).then ay,((rM.ext x8).ext ay).mono V⟩
 have hk:o.size≠c:=V
 refine⟨λh=>∃F w,BX (i.size::b) f e.length q.params.length o.size h F w/\Rs c g m (P+66+Cg 18) h/\A.size<=h.size,⟨V,V,_,E1 D.f,λ_=>?_,λ_=>⟨s8,_,ab,⟨D.f,D.r.mono V⟩,ad _⟩⟩,?_⟩
 .have T:∀{h:E},A.size<=h.size->Lw c [o.size,i.size,m.size] h:=λl=>lw x bE
  have ag:∀{h:E},A.size<=h.size->∀j∈o.size::i.size::b,j<h.size:=λl=>bO (v (h:=A) V) l V
  refine FE (S:=o.size::i.size::b) (ag (ad _)) (by simp[y]) (j.to D.f D.r) V (W D.f) V (j.gp.ty (t:=0) bh bh) bh (T (ad _)) λH ah Z N aj u=>?_
  have r:=λR=>kg u x (k:=o.size) ⟨V,ab.b.lt⟩ R
  refine⟨r _,r _,r _,?_⟩
  have aE:=u.size
  intro B
  have G:J Z B:=J.push _ _
  have ae:=ab.fz (by simp[y]) hk u
  have Q:fG (bG (o.size::i.size::b) B) (.mk Z.size 0 2 2) [H,.mk 9 I z]:=oR (S:=o.size::i.size::b) (M:=Z) [(H,ah),(.mk 9 I z,s8)] aL (ag aE) (by simp;exact⟨N.sl,ae.h.sl⟩) rfl rfl
  have aT:=G.size
  refine jC (M:=B) Q (.O6 (by simp;exact⟨N.wx,h8.wx⟩)) (T V) λai aa ak L=>?_
  have al:=(((D.to u aj).ext G).ext L).put j.rd (k:=o.size) V 0 [.i 6,.i 1,.s ai]
  have hb:=((ae.ext G).ext L).set ak
  exact⟨ai,.mk 6 1 [H,.mk 9 I z],hb,al,by rw[aw];have:=L.size;omega⟩
 rintro M3 ⟨F,w,u,ax,a2⟩
 refine Jh (i.size::b) f e.length q.params.length (s V) 0 λah Z N az=>?_
 have aE:=az.size
 refine wF (i.size::b) f e.length (a:=q.params.length) (s V) V λaO B al G=>?_
 have aT:=G.size
 intro aa
 have L:J B aa:=J.push _ _
 have Q:fG (bG (i.size::b) aa) (.mk B.size 0 2 2) [.mk 0 0 [],.mk 12 0 []]:=oR (S:=i.size::b) (M:=B) [(.mk 0 0 [],ah),(.mk 12 0 [],aO)] aL (v V) (by simp;exact⟨(N.ext G).sl,al.sl⟩) rfl rfl
 have a3:=L.size
 refine jC (M:=aa) Q (.fe (a:=q.params.length) (b:=f) (c:=e.length) bh (λl=>V) bh (λl=>V) (by simp;exact⟨N.wx,al.wx⟩)) (s V) λaP aJ am aA=>?_
 intro aK au
 let⟨aR,aj,a5⟩:=BX.new (f:=aK) (d:=au) am rfl rfl
 clear_value au
 have a4:=aA.size
 have ai:=(((az.trans G).trans L).trans aA).trans aR
 have T:=ax.ext ai
 have u:=u.ext ai
 refine⟨_,u.b.cg 0,_,u.b.cg 1,_,u.b.cg 2,V,V,_,E1 T.f,?_⟩
 refine FE (S:=i.size::b) (v V) (by simp[y]) (j.to T.f T.r) V (W T.f) V (j.gp.ty X.2.2.1 X.2.2.2) bh (lw x bE) λak aQ ae an aG H=>?_
 have r:=λR=>kg H x (k:=o.size) ⟨V,u.b.lt⟩ R
 have g':=λR=>kg H x (k:=aJ.size) ⟨V,aj.b.lt⟩ R
 refine⟨?_,?_,?_,?_,?_,?_,?_⟩
 iterate 6 first|exact r _|exact g' _
 have a6:=H.size
 intro ag
 have aD:J ae ag:=J.push _ _
 have aF:=u.fz (by simp[y]) hk H
 have Q:fG (bG (i.size::b) ag) (.mk ae.size 0 3 3) [.mk 4 0 [.mk 0 0 [],.mk 12 0 []],w,ak]:=oR (S:=i.size::b) (M:=ae) [(.mk 4 0 [.mk 0 0 [],.mk 12 0 []],aP),(w,F),(ak,aQ)] aL (v V) (by simp;exact⟨(aj.h.fj.fz (by simp[y]) H).sl,aF.h.fj.sl,an.sl⟩) rfl rfl
 refine jC (M:=ag) Q (.fe (a:=q.params.length) (b:=f) (c:=e.length) bh (λ_=>rfl) bh (λl=>V) (by simp;exact⟨am.wx,u.h.wx,an.wx⟩)) (lw x (by have:=aD.size;simp;omega)) λa1 a0 aH aS=>?_
 exact aH.iI (((T.to H aG).ext aD).ext aS) j.rd V V
end
end
section
section
variable{c:List Nat}{b P:Nat}{h d p:O}{f:List bz}{g:List dy}{m:E}
def WX.m1{d c:Nat}{x y z:Ex}(hd:f∈rK)(j:WX f d c x)(k:WX f d c y)(l:WX f d (c+2) z):WX f d c (.mk 8 1 [x,y,z]):=by
 obtain⟨e,-,g,h,-⟩:=Nk f hd;refine .mt j (by rw[e];rfl) aL λi n m b a=>?_;rw[e]at a;rcases i with _|_|i
 .simp at b a;subst b a;rw[g];exact k
 .simp at b a;subst b a;rw[h];exact l
 .simp at b
def J1(hS:∀r∈c,r<m.size)(H:b∈c)(r:GC b h P d p f g m)(hP:P+200+2*Cg 18<=10^16){F:Nat}{q:dy}(hq:g[F]? =some q){ai:Int}(ha:0<=ai/\ai<(q.params.length:Int)):
 aN cp 282 [vp b 0,.agg #[O.v d,O.v p],vi F,vi ai] m (XP c b h m (P+200+2*Cg 18) (WX f g.length q.params.length)):=by
 apply CQ (b,0)
 simp -zeta only[aC,aB]
 intro j Z
 let⟨x2,hl⟩:=dD (a:=j) (c:=Z) rfl rfl
 have s1:j.size=m.size+1:=by simp[j]
 have s2:Z.size=m.size+2:=by simp[Z,s1]
 have hr:=r.rd.lt
 clear_value Z
 have an:∀{i:E},Z.size<=i.size->∀r∈j.size::c,r<i.size:=λl=>bO hS V V
 have r2:Rs b h m P Z:=⟨x2.fz _,r.rd.ext x2⟩
 have L1:∀{i:E},Z.size<=i.size->Lw b [j.size,m.size] i:=λl=>lw hr bE
 let⟨ps,aY,e0,e1⟩:=r.hp.aF hq
 have ba:=av hq
 have bf:=r.hp.len
 have aM:=wH _ (r.gp.dz q (aq hq))
 have h3:q.params.length<=3:=aM.1
 have PS:∀{i:E},Fz [b] m i->IR b i ps q.params:=λK=>aY.le (fh K)
 have E1:∀{i:E},Fz [b] m i->af i p.D (p.off+F*5+1)=some (vi q.aS):=λK=>(eQ.1 (fh K _ _ _ e1)).2
 have bg:=aY.len
 have a0:=r.gp.ty (t:=0) bh bh
 have be:=Qo 18
 refine⟨V,V,ps,(eQ.1 (fh r2.f _ _ _ e0)).2,?_⟩
 intro m3
 have x3:J Z m3:=J.push _ _
 have aO:ap (bG [b] m3) (.mk Z.size 0 2 2) [0,1]:=ap.lit aA _ bE rfl rfl aL
 clear_value m3
 have r3:=r2.ext x3
 have z3:=x3.size
 refine(eO (S:=[b]) bE (PS r3.f) aO bE).mono λ_ m4⟨aS,wl,u,gw,qw,x4⟩=>⟨(L1 z3).dv (x4.fz _),aS,u,?_⟩
 subst qw
 have a6:IR b m4 aS (q.params++[0,1]):=GI.done gw bE bE
 have r4:=r3.ext x4
 have z4:=x4.size
 intro m5
 have x5:J m4 m5:=J.push _ _
 have g5:GE (j.size::c) m4 m5 (.mk m4.size 0 0 0) []:=Gr.new _ (ad _) _ _ _
 clear_value m5
 refine eA (n:=q.params.length) V (λN w i=>∃I,GE (j.size::c) m4 i w I/\I.length=N/\(∀u∈I,WX f g.length (q.params.length+2) u)/\Rd b h (P+N) i/\Fz [b] m4 i) ⟨[],g5,rfl,aL,(r4.r.ext x5).mono V,x5.fz _⟩ ?_
 rintro N w i a4 μ hj ⟨I,aK,bc,hw,rM,fM⟩ a8
 have FM:=r4.f.trans fM
 have zM:=fM.size
 refine⟨λl=>?_,λ_=>?_⟩
 .simp only[ar]at l
  let⟨aU,L⟩:=cG q.params N
  have iI:∀{K:Nat}{T:List Value}{y:E}{R:Nat},aN cp K T y (XP (w.D::j.size::c) b h y R (WX f g.length (q.params.length+2)))->R<=P+(N+1)->Rd b h (P+(N+1)) y->Fz [b] i y->aN cp K T y λab A=>eG [j.size,m.size] y A/\∃G C:Int,∃r2:O,ab=.agg #[vi G,vi C,O.v r2]/\
   jL (A.push (.cells (bt [.i G,.i C,.s r2]) bF)) bF [.i 0,.i 0,.s .nil] 40 w (O.mk A.size 0 1 1) λW z=>eG [j.size,m.size] (A.push (.cells (bt [.i G,.i C,.s r2]) bF)) z/\a4 W (cT ((N:Int)+1)) z/\μ W (cT ((N:Int)+1)) z<μ w N i:=λhc hQ C Y=>
   XP.kK hc (aK.eB BG.mono Y (by simp;exact⟨Or.inr H,V⟩)) (fM.trans Y) (L1 V) r4.r (by simp[H]) V λu W z s g' r' f' _ _=>
    a8 V _ _ ⟨_,g',bE,λo B=>by rcases List.mem_append.1 B with l|l;exact hw o l;simp at l;subst l;exact s,r'.mono hQ,f'⟩
  refine⟨λ_=>?_,λ_=>⟨V,V,aU,(eQ.1 ((PS FM).aF L)).2,λ_=>?_,λ_=>iI (((ms _ _ _).x rM).mono λ_ _ l=>l.mono (λu s=>s▸.T9 ⟨V,V⟩) (ad _)) V (rM.mono V) (Fz.az _ _)⟩⟩
  .rw[aQ (b:=(ps.len:Int)+1) V V]
   exact iI (((ms _ _ _).x rM).mono λ_ _ l=>l.mono (λu s=>s▸.T9 ⟨V,V⟩) (ad _)) V (rM.mono V) (Fz.az _ _)
  .refine(cq rM V 2).mono λ_ m6⟨ae,en,_,_,D,B⟩=>⟨(L1 V).dv B,ae,en,λ_=>?_,λ_=>iI (((ms _ _ _).x D).mono λ_ _ l=>l.mono (λu s=>s▸.T9 ⟨V,V⟩) (ad _)) V D B⟩
   have z6:=B.size
   have aa:∀{y:E},m6.size<=y.size->∀r∈w.D::j.size::c,r<y.size:=λl=>bO (an (i:=m6) V) l (oh aK.bn.2)
   refine wF (w.D::j.size::c) f g.length (a:=q.params.length+2) (L1 V) V λs7 m7 h7 Q=>?_
   have z7:=Q.size
   refine wF (w.D::j.size::c) f g.length (a:=q.params.length+2) (L1 V) V λs8 o h8 x8=>?_
   have z8:=x8.size
   intro m9
   have x9:J o m9:=J.push _ _
   have X:fG (bG (w.D::j.size::c) m9) (.mk o.size 0 2 2) [.mk 12 N [],.mk 12 ps.len []]:=oR (S:=w.D::j.size::c) (M:=o) [(.mk 12 N [],s7),(.mk 12 ps.len [],s8)] aL (aa V) (by simp;exact⟨(h7.ext x8).sl,h8.sl⟩) rfl rfl
   have U:=((D.ext Q).ext x8).ext x9
   exact iI ((mZ U X 1 0).mono λ_ _ l=>l.mono (λu s=>s▸.fe bh (λl=>V) bh (λl=>V) (by simp;exact⟨h7.wx,h8.wx⟩)) (ad _)) V U (((B.then Q).then x8).then x9)
 refine jC (aK.done BG.mono (an (i:=m4) V) bh V) (.fe (a:=q.params.length+2) (b:=f) (c:=g.length) bh (λl=>V) bh (λ_=>⟨V,V⟩) hw) (L1 V) λs6 m6 h6 x6=>?_
 have z6:=x6.size
 intro m7 o
 let⟨x8,B8,z8⟩:=kH (M:=m6) (d:=m7) (c:=o) rfl rfl rfl
 clear_value o
 intro m9 C
 let⟨aT,ax,vw⟩:=BX.new (f:=m9) (d:=C) (h6.ext x8) rfl rfl
 clear_value C
 have aa:Rs b h m (P+3) C:=⟨((FM.then x6).then x8).then aT,(((rM.ext x6).ext x8).ext aT).mono V⟩
 have hk:o.size≠b:=V
 have L2:∀{i:E},C.size<=i.size->Lw b [o.size,m6.size,j.size,m.size] i:=λl=>lw hr bE
 have ao:∀{i:E},C.size<=i.size->∀r∈o.size::j.size::c,r<i.size:=λl=>bO (an (i:=C) V) l V
 have aV:∀{i:E},Fz [b] m4 i->IR b i aS (q.params++[0,1]):=λK=>a6.le (fh K)
 have aX:Fz [b] m4 C:=((fM.then x6).then x8).then aT
 have wl:(q.params++[0,1]).length=q.params.length+2:=aL
 refine⟨λi=>∃w u,BX (j.size::c) f g.length (q.params.length+2) o.size i w u/\Rs b h m (P+10+Cg 18) i/\C.size<=i.size,⟨V,V,_,E1 aa.f,λaZ=>?_,λ_=>⟨V,V,_,E1 aa.f,λ_=>?_,λ_=>⟨s6,_,ax,⟨aa.f,aa.r.mono V⟩,ad _⟩⟩⟩,?_⟩
 .simp only[aG]at aZ
  refine(cq aa.r V 5).mono λ_ ac⟨ae,en,_,_,aJ,z⟩=>⟨(L2 (ad _)).dv z,ae,en,λ_=>?_,λ_=>⟨V,V,_,E1 (aa.f.trans z),λl=>by rw[aZ]at l;exact absurd l bh,λ_=>⟨s6,_,ax.fz (by simp[H]) hk z,⟨(aa.to z aJ).f,aJ.mono V⟩,z.size⟩⟩⟩
  have Q:=aa.to z aJ
  have T:=z.size
  have aW:=ax.fz (by simp[H]) hk z
  refine FE (v:=q.params++[0,1]) (S:=o.size::j.size::c) (ao T) (by simp[H]) (r.to Q.f Q.r) V (aV (aX.trans z)) bE a0 bh (L2 T) λal aD A am ak s=>?_
  rw[wl]at am
  intro Y U
  let⟨ab,aI,a_⟩:=BX.new (f:=Y) (d:=U) am rfl rfl
  clear_value U
  have a2:=s.size
  have az:=(Q.to s ak).ext ab
  have aj:=(aW.fz (by simp[H]) hk s).ext ab
  have bb:A.size≠b:=V
  have aH:HX (A.size::o.size::j.size::c) f g.length (q.params.length+2) U s6 (.mk 9 F I):=(aW.h.fz (by simp[H]) s).gY ab (ad _)
  have L3:∀{i:E},U.size<=i.size->Lw b [A.size,o.size,m6.size,j.size,m.size] i:=λl=>lw hr bE
  refine⟨λi=>∃w u,BX (o.size::j.size::c) f g.length (q.params.length+2) A.size i w u/\HX (o.size::j.size::c) f g.length (q.params.length+2) i s6 (.mk 9 F I)/\Rs b h m (P+4+Cg 18) i/\U.size<=i.size/\cE i o.size bF [.i 9,.i F,.s s6],⟨λ_=>?_,λ_=>⟨aD,al,aI,aH.fj,az,ad _,aj.b⟩⟩,?_⟩
  .let⟨aU,L⟩:=cG q.params 0
   refine⟨bh,V,aU,(eQ.1 ((PS az.f).aF L)).2,λ_=>?_,λ_=>⟨aD,al,aI,aH.fj,az,ad _,aj.b⟩⟩
   refine wF (A.size::o.size::j.size::c) f g.length (a:=q.params.length+2) (L3 (ad _)) V λaE au ay R=>?_
   have a3:=R.size
   refine wF (A.size::o.size::j.size::c) f g.length (a:=q.params.length+2) (L3 a3) V λaF G ag B=>?_
   have bi:=B.size
   intro aP
   have a1:J G aP:=J.push _ _
   have X:fG (bG (A.size::o.size::j.size::c) aP) (.mk G.size 0 2 2) [.mk 12 0 [],.mk 12 ps.len []]:=oR (S:=A.size::o.size::j.size::c) (M:=G) [(.mk 12 0 [],aE),(.mk 12 ps.len [],aF)] aL (bO (ao (i:=G) V) (ad _) V) (by simp;exact⟨(ay.ext B).sl,ag.sl⟩) rfl rfl
   have bj:=a1.size
   refine jC (M:=aP) X (.fe (a:=q.params.length+2) (b:=f) (c:=g.length) bh (λl=>V) bh (λl=>V) (by simp;exact⟨ay.wx,ag.wx⟩)) (L3 V) λaR a7 a5 a9=>?_
   have D:=((R.trans B).trans a1).trans a9
   have hb:=(aI.ext D).set a5
   have ha:=(aH.ext D).put (k:=A.size) aL 0 [.i 11,.i 0,.s aR]
   have hB:cE (ah a7 A.size 0 [.i 11,.i 0,.s aR]) o.size bF [.i 9,.i F,.s s6]:=(aj.b.ext D).congr (bd _ _ _ _ V)
   exact⟨aR,.mk 11 0 [.mk 12 0 [],.mk 12 ps.len []],hb,ha.fj,(az.ext D).put r.rd V _ _,by rw[aw];have:=D.size;omega,hB⟩
  rintro M3 ⟨w,u,L,D,W,aR,aU⟩
  refine⟨_,L.b.cg 0,_,L.b.cg 1,_,L.b.cg 2,?_⟩
  intro au
  have R:J M3 au:=J.push _ _
  have X:fG (bG (o.size::j.size::c) au) (.mk M3.size 0 2 2) [u,.mk 9 F I]:=oR (S:=o.size::j.size::c) (M:=M3) [(u,w),(.mk 9 F I,s6)] aL (ao V) (by simp;exact⟨L.h.fj.sl,D.sl⟩) rfl rfl
  have a3:=R.size
  refine jC (M:=au) X (.O6 (by simp;exact⟨L.h.wx,D.wx⟩)) (L2 V) λaF G ag B=>?_
  have hb:=(BX.mk (e:=.mk 9 F I) ((aU.ext R).ext B) ((D.ext R).ext B)).set ag
  have aP:=((W.ext R).ext B).put r.rd (k:=o.size) V 0 [.i 6,.i 1,.s aF]
  exact⟨aF,.mk 6 1 [u,.mk 9 F I],hb,⟨aP.f,aP.r.mono V⟩,by rw[aw];have:=B.size;omega⟩
 .intro ac
  have D:J C ac:=J.push _ _
  have aO:ap (bG [b] ac) (.mk C.size 0 2 2) [1,2]:=ap.lit aA _ bE rfl rfl aL
  clear_value ac
  have T:=D.size
  have G:∀{y M2:E}{B:Nat},C.size<=y.size->Fz [b] y M2->m.size<=B->B<C.size->∀z,af M2 B z=af y B z:=λl K h1 h2 z=>kg K hr ⟨h1,V⟩ z
  refine⟨G (ad _) (D.fz _) V V _,G (ad _) (D.fz _) V V _,G (ad _) (D.fz _) V V _,G (ad _) (D.fz _) V V _,G (ad _) (D.fz _) V V _,?_⟩
  have Q:=aa.ext D
  refine(kA Q.r V aO aL).mono λ_ A⟨ae,en,hn,ak,s⟩=>⟨(L2 T).dv s,ae,en,G T s V V _,G T s V V _,G T s V V _,G T s V V _,G T s V V _,?_⟩
  have aI:=Q.to s ak
  have a2:=s.size
  refine FE (v:=q.params++[0,1]) (S:=o.size::j.size::c) (ao V) (by simp[H]) (r.to aI.f aI.r) V (aV ((aX.then D).trans s)) bE a0 bh (L2 V) λaF aU Y aH aP ag=>?_
  rw[wl]at aH
  have aW:=ag.size
  refine⟨G V ag V V _,G V ag V V _,G V ag V V _,?_⟩
  intro U
  have ab:J Y U:=J.push _ _
  have az:=((ax.ext D).fz (by simp[H]) hk s).fz (by simp[H]) hk ag
  have X:fG (bG (o.size::j.size::c) U) (.mk Y.size 0 2 2) [aF,.mk 9 F I]:=oR (S:=o.size::j.size::c) (M:=Y) [(aF,aU),(.mk 9 F I,s6)] aL (ao V) (by simp;exact⟨aH.sl,az.h.sl⟩) rfl rfl
  have a_:=ab.size
  simp at hn
  refine jC (M:=U) X (.fe (a:=q.params.length+2) (b:=f) (c:=g.length) V (λl=>V) V (λl=>V) (by simp;exact⟨aH.wx,az.h.wx⟩)) (L2 V) λaE au ay R=>?_
  have hb:=((az.ext ab).ext R).set ay
  have aJ:=(((aI.to ag aP).ext ab).ext R).put r.rd (k:=o.size) V 0 [.i ae,.i 0,.s aE]
  exact⟨aE,.mk ae 0 [aF,.mk 9 F I],hb,⟨aJ.f,aJ.r.mono V⟩,by rw[aw];have:=R.size;omega⟩
 rintro M3 ⟨w,u,L,W,aR⟩
 have L3:∀{i:E},C.size<=i.size->Lw b [m6.size,j.size,m.size] i:=λl=>lw hr bE
 have R:∀{y M2:E}{B:Nat},M3.size<=y.size->Fz [b] y M2->m.size<=B->B<C.size->∀z,af M2 B z=af y B z:=λl K h1 h2 z=>kg K hr ⟨h1,V⟩ z
 refine⟨V,V,_,E1 W.f,_,L.b.cg 0,_,L.b.cg 1,_,L.b.cg 2,?_⟩
 refine wF (j.size::c) f g.length (a:=q.params.length) (L3 aR) ha λay ac ae D=>?_
 have T:=D.size
 have gx:∀B z,m.size<=B->B<C.size->af ac B z=af M3 B z:=λB z h1 h2=>R (ad _) (D.fz _) h1 h2 z
 refine⟨gx _ _ V V,gx _ _ V V,gx _ _ V V,(E1 (W.f.then D)).trans (E1 W.f).symm,gx _ _ V V,gx _ _ V V,gx _ _ V V,?_⟩
 have Q:=W.ext D
 refine FE (S:=j.size::c) (an V) (by simp[H]) (r.to Q.f Q.r) V (PS Q.f) V (r.gp.ty aM.2.2.1 aM.2.2.2) bh (L3 V) λal aD A am ak s=>?_
 have G:∀z,af A o.size z=af ac o.size z:=R T s V V
 refine⟨G _,G _,G _,?_⟩
 have a2:=s.size
 intro Y
 have ag:J A Y:=J.push _ _
 have aj:=(L.ext D).fz (by simp[H]) hk s
 have X:fG (bG (j.size::c) Y) (.mk A.size 0 3 3) [.mk 12 ai [],al,u]:=oR (S:=j.size::c) (M:=A) [(.mk 12 ai [],ay),(al,aD),(u,w)] aL (an V) (by simp;exact⟨(ae.fz (by simp[H]) s).sl,am.sl,aj.h.fj.sl⟩) rfl rfl
 refine jC (M:=Y) X (.m1 r.gp.ds ae.wx am.wx L.h.wx) (L3 (oh ag.size)) λaz U au ab=>?_
 exact au.iI (((Q.to s ak).ext ag).ext ab) r.rd V V
end
end
section
variable{g:E}{s:O}{l:List Int}{c f:Ex}
abbrev G3(M a:E)(k:Nat)(X:Prop):Prop:=af a k 0=af M k 0/\af a k 1=af M k 1/\af a k 2=af M k 2/\X
abbrev E3(v:Value)(X:Int->Int->O->Prop):Prop:=∃a b:Int,∃c:O,v=.agg #[vi a,vi b,O.v c]/\X a b c
abbrev N1(L:List Nat)(e:Nat)(M:E)(K:Int->Int->O->E->Prop):Prop:=aN cp 313 [vi 1,vi 0,O.v (.mk e 0 2 2)] M λv a=>eG L M a/\E3 v λb c d=>K b c d a
section
variable(L:List Nat)(k:Nat)(b:Int)(h i d p w l:O)(j a e:Nat)(F:Int->Int->O->E->Prop)
abbrev TR5(g:Nat)(M:E):Prop:=N1 L g M λd e f c=>G3 M c a (N1 L c.size (c.push (.cells (bt [.i 9,.i b,.s h,.i d,.i e,.s f]) bF)) F)
abbrev TR4(c d:Int)(e:O)(M:E):Prop:=G3 M (M.push (.cells (bt [.i c,.i d,.s e,.i 9,.i b,.s i]) bF)) a (TR5 L b h a F M.size (M.push (.cells (bt [.i c,.i d,.s e,.i 9,.i b,.s i]) bF)))
abbrev TR3(M:E):Prop:=aN cp 312 [vp k 0,.agg #[O.v d,O.v p],O.v w,vi 0,vi 4] M λv c=>eG L M c/\E3 v λe f g=>G3 M c j (G3 M c a (TR4 L b h i a F e f g c))
abbrev TR2(f:Nat)(M:E):Prop:=aN cp 187 [O.v l,O.v (.mk f 0 3 3)] M λv c=>eG L M c/\∃s:O,v=O.v s/\G3 M c j (af c e 0=af M e 0/\af c e 1=af M e 1/\G3 M c a (TR3 L k b h i d p s j a F c))
end
def _root_.Go.Vc.UM{σ τ:Type}{n:Nat}(q:n<=9223372036854775807)(e:1<=n){m:E}{h:σ}{j:τ}{g:(σ->τ->Int->E->Prop)->(σ->τ->Int->E->Nat)->σ->τ->Int->E->Prop}(Q:Nat->σ->τ->E->Prop)(o:Q 1 h j m)
 (l:∀(k:Nat)(s:σ)(t:τ)(a:E)(I:σ->τ->Int->E->Prop)(μ:σ->τ->Int->E->Nat),1<=k->k<=n->Q k s t a->
  (k<n->∀c d b,Q (k+1) c d b->I c d (cT ((k:Int)+1)) b/\μ c d (cT ((k:Int)+1)) b<μ s t k a)->g I μ s t k a):
 ∃(I:σ->τ->Int->E->Prop)(μ:σ->τ->Int->E->Nat),I h j 1 m/\∀s t i a,I s t i a->g I μ s t i a:=by
 refine⟨λs t i b=>∃k:Nat,i=k/\1<=k/\k<=n/\Q k s t b,λ_ _ i _=>(n -i).toNat,⟨1,rfl,ad _,e,o⟩,?_⟩
 rintro s t i a ⟨k,rfl,e,p,r⟩
 refine l k s t a _ _ e p r λf c d b u=>?_
 rw[kC f q]
 exact⟨⟨k+1,rfl,V,f,u⟩,Dr f⟩
def Ph(_:E)(a:List Ce)(n:Int):Prop:=∃s:O,a=[.i 12,.i n,.s s]/\s.len=0
def Ph.mono:oA 3 Ph:=⟨λ_ h=>h,λ⟨_,h,_⟩=>by rw[h];rfl⟩
abbrev GV(g m:E)(s:O)(l:List Int):Prop:=Gr [] g m bF 3 Ph s l
def GV.eB{m a:E}(h:GV g m s l)(q:a[s.D]? =m[s.D]?):GV g a s l:=by
 let⟨c,b,d,e⟩:=h;exact⟨c,b,d.congr q,e.mono λ_ _ h=>h⟩
def GV.ex{a:List Nat}{m:E}(h:GV g m s l)(j:s.D∉a)(t:l.length<=1000):fG (bG a m) s (l.map λn=>.mk 12 n []):=by
 let⟨e,d,f,i⟩:=h;have H:=Gr.nH (S:=a) Ph.mono ⟨e,d,f,i.mono λ_ _ h=>h⟩ j bh V;refine⟨by rw[H.len];simp,H.cap,H.gT,λq c b=>?_⟩;simp only[cJ,jG]at b;obtain⟨n,k,rfl⟩:=b;obtain⟨r,⟨u,rfl,p⟩,o⟩:=H.iB q n k;exact⟨_,BG.of ⟨p,V,V,aL⟩,o⟩
structure AS(S:List Nat)(ds:List bz)(nf a n0 k Q rb:Nat)(bs:O)(m M:E)(sl:O)(el:Ex)(sr:O)(er:Ex):Prop where
 b:cE M k bF [.i 0,.i 0,.s .nil]
 hk:n0<=k
 l:HX (k::S) ds nf a M sl el
 r:HX (k::S) ds nf a M sr er
 s:Rs rb bs m Q M
section
variable{S:List Nat}{e:List bz}{h a n k Q r b:Nat}{d o p:O}{m M q:E}{i j:Ex}
def AS.ext(f:AS S e h a n k Q b d m M o i p j)(c:J M q):AS S e h a n k Q b d m q o i p j:=⟨f.b.ext c,f.hk,f.l.ext c,f.r.ext c,f.s.ext c⟩
def AS.fz(c:AS S e h a n k Q b d m M o i p j)(g:b∈S)(l:k≠b)(f:Fz [b] M q)(s:Rd b d r q):AS S e h a n k r b d m q o i p j:=⟨c.b.congr (f.same k c.b.lt (by simpa using l)),c.hk,c.l.fz (by simp[g]) f,c.r.fz (by simp[g]) f,c.s.to f s⟩
def AS.new(f:n<=M.size)(l:HX S e h a M o i)(r:HX S e h a M p j)(s:Rs b d m Q M):J M (M.push (.cells (bt [.i 0,.i 0,.s .nil]) bF))/\AS S e h a n M.size Q b d m (M.push (.cells (bt [.i 0,.i 0,.s .nil]) bF)) o i p j:=
 have c:=J.push M (.cells (bt [.i 0,.i 0,.s .nil]) bF)
 ⟨c,cE.push _ _ _,f,l.gY c (ad _),r.gY c (ad _),s.ext c⟩
end
section
variable{h:List Nat}{b P:Nat}{o d p:O}{i:List bz}{j:List dy}{m:E}
def WX.m3{e d:Nat}{z:Ex}(hd:i∈rK)(l:WX i e d c)(m:WX i e d f)(n:WX i e (d+3) z):WX i e d (.mk 8 3 [c,f,z]):=by
 obtain⟨-,g,-,-,j,k⟩:=Nk i hd;refine .mt l (by rw[g];rfl) aL λh p o b a=>?_;rw[g]at a;rcases h with _|_|h
 .simp at b a;subst b a;rw[j];exact m
 .simp at b a;subst b a;rw[k];exact n
 .simp at b
def WX.add{b a:Nat}(d:WX i b a c)(e:WX i b a f):WX i b a (.mk 1 0 [c,f]):=.fe bh (λh=>V) bh (λh=>V) (by simp;exact⟨d,e⟩)
def J2(hS:∀F∈h,F<m.size)(aU:b∈h)(F:GC b o P d p i j m)(hP:P+200+3*Cg 18<=10^16){C:Nat}{w:dy}(hq:j[C]? =some w)(bI:1<=w.params.length):
 aN cp 283 [vp b 0,.agg #[O.v d,O.v p],vi C] m (XP h b o m (P+200+3*Cg 18) (WX i j.length w.params.length)):=by
 apply CR (b,0)
 simp -zeta only[aC,aB]
 intro A au
 let⟨x2,hl⟩:=dD (a:=A) (c:=au) rfl rfl
 have s1:A.size=m.size+1:=by simp[A]
 have s2:au.size=m.size+2:=by simp[au,s1]
 have hr:=F.rd.lt
 clear_value au
 have ay:∀{g:E},au.size<=g.size->∀F∈A.size::h,F<g.size:=λz=>bO hS V V
 have r2:Rs b o m P au:=⟨x2.fz _,F.rd.ext x2⟩
 have L1:∀{g:E},au.size<=g.size->Lw b [A.size,m.size] g:=λz=>lw hr bE
 let⟨ps,bl,e0,e1⟩:=F.hp.aF hq
 have bY:=av hq
 have b2:=F.hp.len
 have bc:=wH _ (F.gp.dz w (aq hq))
 have h3:w.params.length<=3:=bc.1
 have PS:∀{g:E},Fz [b] m g->IR b g ps w.params:=λD=>bl.le (fh D)
 have E1:∀{g:E},Fz [b] m g->af g p.D (p.off+C*5+1)=some (vi w.aS):=λD=>(eQ.1 (fh D _ _ _ e1)).2
 have b3:=bl.len
 have bs:=F.gp.ty (t:=0) bh bh
 have aD:b∈A.size::h:=by simp[aU]
 refine⟨V,V,ps,(eQ.1 (fh r2.f _ _ _ e0)).2,?_⟩
 refine wF (A.size::h) i j.length (a:=w.params.length+3) (L1 (ad _)) V λs3 Z bC x3=>?_
 have z3:=x3.size
 intro m4
 have x4:J Z m4:=J.push _ _
 have g4:GV Z m4 (.mk Z.size 0 1 1) [(ps.len:Int)]:=Gr.lit (f:=[[.i 12,.i ps.len,.s s3]]) Ph.mono (ad _) aL rfl rfl ⟨rfl,aL,λaE F B hj q=>by
  have:aE=0:=by have:=av hj;simp at this;omega
  subst this;simp at hj q;subst hj q;exact⟨s3,rfl,bC.sl.len⟩⟩
 have s4:m4.size=Z.size+1:=by simp[m4]
 clear_value m4
 rw[aQ (b:=(ps.len:Int)+2) V V]
 refine wF (A.size::h) i j.length (a:=w.params.length+3) (L1 V) V λs5 m5 h5 x5=>?_
 have z5:=x5.size
 intro m6
 have x6:J m5 m6:=J.push _ _
 have g6:GV m5 m6 (.mk m5.size 0 1 1) [(ps.len:Int)+2]:=Gr.lit (f:=[[.i 12,.i (ps.len+2),.s s5]]) Ph.mono (ad _) aL rfl rfl ⟨rfl,aL,λaE F B hj q=>by
  have:aE=0:=by have:=av hj;simp at this;omega
  subst this;simp at hj q;subst hj q;exact⟨s5,rfl,h5.sl.len⟩⟩
 clear_value m6
 have r3:=r2.ext x3
 have vq:∀{g u:E}{L:Int}{s:O}{l:List Int}{aX:O->E->Prop}{aT:O},GV Z g s l->J Z g->l.length<=10->aT.len=0->(∀R u,GV Z u R (l++[L])->J Z u->g.size<=u.size->(R.D=s.D\/g.size<=R.D)->(∀H,H<g.size->H≠s.D->u[H]? =g[H]?)->aX R u)->
  jL (g.push (.cells (bt [.i 12,.i L,.s aT]) bF)) bF [.i 0,.i 0,.s .nil] 40 s (.mk g.size 0 1 1) aX:=λaP c hl ht hk=>
  Gr.kK (g:=[.i 0,.i 0,.s .nil]) (X:=[]) Ph.mono bh aP (c.fz []) ⟨_,rfl,ht⟩ V λR u g' f' aJ w=>hk R u g' f'.ext aJ.1 aJ.2 w
 refine UM (n:=w.params.length) V bI (λaE s aT g=>∃l l',GV Z g s l/\GV Z g aT l'/\l.length=aE/\l'.length=aE/\(∀L∈l,0<=L/\L<((w.params.length+3:Nat):Int))/\(∀L∈l',0<=L/\L<((w.params.length+3:Nat):Int))/\J Z g/\s.D≠aT.D) ⟨_,_,(g4.eB ((x5.trans x6).same _ (by show Z.size<_;omega))),Gr.cy Ph.mono g6 (λ_ z=>Or.inl z) V,rfl,rfl,bE,bE,(x4.trans x5).trans x6,by show Z.size≠m5.size;omega⟩ ?_
 rintro aE s aT g bW μ bZ hj ⟨l,l',aP,g',b0,b1,hw,bo,xM,bH⟩ bL
 have zM:=xM.size
 have RM:=r3.ext xM
 refine⟨λz=>?_,λ_=>?_⟩
 .simp only[ar]at z
  refine wF (A.size::h) i j.length (a:=w.params.length+3) (L1 V) V λs7 W h7 x7=>?_
  have gy:=aP.bn;have aZ:=g'.bn
  have z7:=x7.size
  intro m8
  refine vq (u:=W) (aP.eB (x7.same _ gy.2)) (xM.trans x7) V h7.sl.len λr9 m9 r x9 z9 Y T=>?_
  refine⟨(L1 (g:=Z) z3).tw ((((xM.trans x7).trans (J.push W _)).fz [b])) (x9.fz _),?_⟩
  refine wF (A.size::h) i j.length (a:=w.params.length+3) (L1 V) V λaa ag a8 ai=>?_
  intro bp
  have N:=((g'.eB (x7.same _ aZ.2)).eB (T _ V (kE bH))).eB (ai.same _ V)
  have vw:=ai.size
  refine vq (u:=W) N (x9.trans ai) V a8.sl.len λbe K I aH bS U Q=>?_
  refine⟨(L1 (g:=Z) z3).tw (((x9.trans ai).trans (J.push ag _)).fz [b]) (aH.fz _),bL V _ _ _ ⟨_,_,(r.eB (ai.same _ r.bn.2)).eB (Q _ (oh r.bn.2) V),I,bE,bE,λL q=>?_,λL q=>?_,aH,oh r.bn.2⟩⟩
  .rcases List.mem_append.1 q with z|z
   .exact hw L z
   .simp at z;omega
  .rcases List.mem_append.1 q with z|z
   .exact bo L z
   .simp at z;omega
 have gy:=aP.bn;have aZ:=g'.bn
 have nS:∀H,Z.size<=H->H∉A.size::h:=λH hb z=>by have:=ay (g:=au) (ad _) H z;omega
 have bf:∀l:List Int,(∀L∈l,0<=L/\L<((w.params.length+3:Nat):Int))->WX i j.length (w.params.length+3) (.mk 9 C (l.map λL=>.mk 12 L [])):=λl hl=>.fe bh (λz=>V) bh (λ_=>⟨V,V⟩) (by simp;exactλL q=>.T9 (hl L q))
 refine jC (aP.ex (nS _ gy.1) V) (bf l hw) (L1 V) λsl W h7 x7=>?_
 intro m8 m9
 obtain⟨x9,-,z9⟩:=kH (M:=W) (d:=m8) (c:=m9) rfl rfl rfl
 clear_value m9
 have z7:=x7.size
 refine jC ((g'.eB ((x7.trans x9).same _ aZ.2)).ex (nS _ aZ.1) V) (bf l' bo) (lw hr bE) λsr ag a8 ai=>?_
 intro bp K
 obtain⟨aH,-,bS⟩:=kH (M:=ag) (d:=bp) (c:=K) rfl rfl rfl
 clear_value K
 have vw:=ai.size
 have a9:=((h7.ext x9).ext ai).ext aH
 have ba:=a8.ext aH
 generalize bi:Ex.mk 9 C (l.map λL=>.mk 12 L [])=el at a9
 generalize bj:Ex.mk 9 C (l'.map λL=>.mk 12 L [])=er at ba
 have be:=(((RM.ext x7).ext x9).ext ai).ext aH
 have bX:=((x7.trans x9).trans ai).trans aH
 have bk:∀{r:Nat},K.size<=r->r≠b:=λz=>V
 have G:∀{g u:E}{r aS:Nat},K.size<=g.size->Fz [b] g u->m.size<=r->r<K.size->af u r aS=af g r aS:=λz D h1 h2=>kg D hr ⟨h1,V⟩ _
 have L4:∀{g:E},K.size<=g.size->Lw b [ag.size,W.size,A.size,m.size] g:=λz=>lw hr bE
 have L5:∀{g:E}{r:Nat},K.size<=r->r<g.size->Lw b [r,ag.size,W.size,A.size,m.size] g:=λz h'=>lw hr bE
 have a1:∀{g:E}{r:Nat},K.size<=r->r<g.size->∀F∈r::A.size::h,F<g.size:=λz h'=>bO (ay (g:=K) V) V h'
 have a5:=λ(c f:Ex)=>WX.add (i:=i) (b:=j.length) (a:=w.params.length+3) (c:=c) (f:=f)
 let aX:=λ(r:Nat)(g:E)=>∃s B,BX (A.size::h) i j.length (w.params.length+3) r g s B/\HX (r::A.size::h) i j.length (w.params.length+3) g sl el/\Rs b o m (P+Cg 18) g
 have bz:∃k9,el=.mk 9 C k9:=⟨_,bi.symm⟩
 have bA:∃k9,er=.mk 9 C k9:=⟨_,bj.symm⟩
 clear bi bj
 obtain⟨kl,rfl⟩:=bz
 obtain⟨kr,rfl⟩:=bA
 let ax:=λ(r aY:Nat)(g:E)=>AS (A.size::h) i j.length (w.params.length+3) K.size r (P+aY) b o m g sl (.mk 9 C kl) sr (.mk 9 C kr)
 let aO:=λr=>[r,ag.size,W.size,A.size,m.size]
 let K0:=λ(jN:Nat×Nat)(g:E)=>jN.2=0/\K.size<=jN.1/\aX jN.1 g
 let aM:=λ(r:Nat)(q H:Int)(F:O)(u:E)=>K0 (r,0) (ah u r 0 [.i q,.i H,.s F])
 have H3:∀{g u:E}{Q:Prop},K.size<=g.size->Fz [b] g u->Q->G3 g u W.size Q:=λI D c=>⟨G I D V V,G I D V V,G I D V V,c⟩
 have H6:∀{g u:E}{Q:Prop},K.size<=g.size->Fz [b] g u->Q->G3 g u ag.size (G3 g u W.size Q):=λI D c=>⟨G I D V V,G I D V V,G I D V V,H3 I D c⟩
 have H5:∀{g u:E}{Q:Prop},K.size<=g.size->Fz [b] g u->Q->af u m.size 0=af g m.size 0/\af u m.size 1=af g m.size 1/\G3 g u W.size Q:=λI D c=>⟨G I D V V,G I D V V,H3 I D c⟩
 have H8:∀{g u:E}{Q:Prop},K.size<=g.size->Fz [b] g u->Q->G3 g u ag.size (af u m.size 0=af g m.size 0/\af u m.size 1=af g m.size 1/\G3 g u W.size Q):=λI D c=>⟨G I D V V,G I D V V,G I D V V,H5 I D c⟩
 have R7:∀{r t0:Nat}{g:E}{B:Ex},ax r (Cg 18) g->fG (bG (r::A.size::h) g) (.mk t0 0 2 2) [.mk 9 C kl,B]->WX i j.length (w.params.length+3) B->N1 (aO r) t0 g (aM r):=λq hs hw=>
  jC hs (a5 _ _ q.l.wx hw) (L5 q.hk q.b.lt) λs' u h' c=>by
   have hb:=(BX.mk (e:=.mk 0 0 []) (s:=.nil) (q.b.ext c) ⟨⟨rfl,ad _,aL,aL⟩,.int 0⟩).set h';exact⟨rfl,q.hk,s',_,hb,(q.l.ext c).put aL _ _,(q.s.ext c).put F.rd (oh q.hk) _ _⟩
 have R6:∀{r:Nat}{g:E}{s:O}{q H:Int}{kk:List Ex},ax r (Cg 18) g->HX (r::A.size::h) i j.length (w.params.length+3) g s (.mk q H kk)->N1 (aO r) g.size (g.push (.cells (bt [.i 9,.i C,.s sl,.i q,.i H,.s s]) bF)) (aM r):=λq z=>
  R7 (q.ext (J.push _ _)) (oR [(.mk 9 C kl,sl),(.mk _ _ _,_)] aL (a1 q.hk q.b.lt) (by simp;exact⟨q.l.sl,z.sl⟩) rfl rfl) z.wx
 have R5:∀{r t0:Nat}{g:E}{B:Ex},ax r (Cg 18) g->fG (bG (r::A.size::h) g) (.mk t0 0 2 2) [B,.mk 9 C kr]->WX i j.length (w.params.length+3) B->TR5 (aO r) C sl W.size (aM r) t0 g:=λq hs hw=>
  jC hs (a5 _ _ hw q.r.wx) (L5 q.hk q.b.lt) λs' u h' c=>
   have I:=Qk (nE q.hk q.b.lt)
   H3 I (c.fz _) (R6 (q.ext c) h')
 have R4:∀{r:Nat}{g:E}{s:O}{B:Ex},ax r (Cg 18) g->HX (r::A.size::h) i j.length (w.params.length+3) g s B->TR4 (aO r) C sl sr W.size (aM r) B.op B.bP s g:=λ{r g s B} q z=>
  have c:=J.push g (.cells (bt [.i B.op,.i B.bP,.s s,.i 9,.i C,.s sr]) bF)
  have I:=Qk (nE q.hk q.b.lt)
  H3 I (c.fz _) (R5 (q.ext c) (oR [(B,s),(.mk 9 C kr,sr)] aL (a1 q.hk q.b.lt) (by simp;exact⟨z.sl,q.r.sl⟩) rfl rfl) z.wx)
 have bg:∀{a6 L':List Nat}{g:E}{ab:O}{K':Int->Int->O->E->Prop},(∀F∈a6,F<g.size)->b∈a6->Rs b o m P g->IR b g ab (w.params++[3,0,3])->Lw b L' g->(∀B s u,HX a6 i j.length (w.params.length+3) u s B->Rd b o (P+Cg 18) u->Fz [b] g u->K' B.op B.bP s u)->aN cp 312 [vp b 0,.agg #[O.v d,O.v p],O.v ab,vi 0,vi 4] g λbP u=>eG L' g u/\∃r0 r1:Int,∃r2:O,bP=.agg #[vi r0,vi r1,O.v r2]/\K' r0 r1 r2 u:=λbD bJ R hw hL hk=>
  FE (v:=w.params++[3,0,3]) bD bJ (F.to R.f R.r) V hw bE bs bh hL λB s u z d D=>hk B s u (by simpa using z) d D
 have R3:∀{r:Nat}{g:E}{ab:O},ax r 0 g->IR b g ab (w.params++[3,0,3])->TR3 (aO r) b C sl sr d p ab ag.size W.size (aM r) g:=λq hw=>
  bg (a1 q.hk q.b.lt) (by simp[aU]) q.s hw (L5 q.hk q.b.lt) λB s u z d' D=>
   have I:=Qk (nE q.hk q.b.lt)
   H6 I D (R4 (q.fz aD (bk q.hk) D d') z)
 have R2:∀{r t0:Nat}{g:E},ax r 0 g->ap (bG [b] g) (.mk t0 0 3 3) [3,0,3]->TR2 (aO r) b C sl sr d p ps ag.size W.size m.size (aM r) t0 g:=λq hw=>
  (eO (S:=[b]) (by simp;exact q.s.r.lt) (PS q.s.f) hw bE).mono λ_ u⟨ab,wl,B,gw,qw,c⟩=>by
   subst qw;have I:=Qk (nE q.hk q.b.lt);exact⟨(L5 q.hk q.b.lt).dv (c.fz _),ab,B,H8 I (c.fz _) (R3 (q.ext c) (GI.done gw (by simp;exact q.s.r.lt) bE))⟩
 have aG:∀{g:E}{aY:Nat},K.size<=g.size->HX (A.size::h) i j.length (w.params.length+3) g sl (.mk 9 C kl)->HX (A.size::h) i j.length (w.params.length+3) g sr (.mk 9 C kr)->Rs b o m (P+aY) g->J g (g.push (.cells (bt [.i 0,.i 0,.s .nil]) bF))/\ax g.size aY (g.push (.cells (bt [.i 0,.i 0,.s .nil]) bF)):=λh1 h2 h3 h4=>AS.new h1 h2 h3 h4
 have r0:Rs b o m (P+0) K:=be
 have wl:∀g:E,b<g.size->ap (bG [b] (g.push (.cells (bt [.i 3,.i 0,.i 3]) aA))) (.mk g.size 0 3 3) [3,0,3]:=λg z=>ap.lit aA _ (by simp;exact z) rfl rfl aL
 refine⟨K0,⟨?_,?_⟩,?_⟩
 .intro ac
  have N:J K ac:=J.push _ _
  have a3:ap (bG [b] ac) (.mk K.size 0 3 3) [3,0,3]:=wl K be.r.lt
  clear_value ac
  have aK:=N.size
  have a_:=a9.ext N;have bb:=ba.ext N;have Y:=r0.ext N
  refine H8 (ad _) (N.fz _) ⟨?_,?_⟩
  .refine(eO (S:=[b]) (by simp;exact Y.r.lt) (PS Y.f) a3 bE).mono λ_ al⟨ab,bQ,B,gw,qw,T⟩=>⟨(L4 aK).dv (T.fz _),ab,B,H8 aK (T.fz _) ⟨?_,?_⟩⟩
   all_goals have a4:IR b al ab (w.params++[3,0,3]):=qw▸GI.done gw (by simp;exact Y.r.lt) (by rw[<-qw];simp;omega)
   all_goals have bw:=T.size
   .refine bg (a6:=A.size::h) (ay V) aD (Y.ext T) a4 (L4 V) λaj a2 am ak a7 ae=>H6 V ae ⟨?_,?_⟩
    all_goals have az:=(a_.ext T).fz aD ae
    all_goals have aR:=(bb.ext T).fz aD ae
    all_goals have aW:=(Y.ext T).to ae a7
    all_goals have bT:=ae.size
    .intro ao
     have aa:J am ao:=J.push _ _
     have bm:fG (bG (A.size::h) ao) (.mk am.size 0 2 2) [aj,.mk 9 C kr]:=oR [(aj,a2),(.mk 9 C kr,sr)] aL (ay V) (by simp;exact⟨ak.sl,aR.sl⟩) rfl rfl
     have bU:=aa.size
     refine H3 V (aa.fz _) ⟨?_,?_⟩
     .refine jC (M:=ao) bm (a5 _ _ ak.wx aR.wx) (L4 V) λbM aF a0 aI=>H3 V (aI.fz _) ⟨?_,?_⟩
      all_goals have Q:=aa.trans aI
      all_goals have bV:=aI.size
      .intro aV
       have an:J aF aV:=J.push _ _
       have bn:fG (bG (A.size::h) aV) (.mk aF.size 0 2 2) [.mk 9 C kl,.mk 1 0 [aj,.mk 9 C kr]]:=oR [(.mk 9 C kl,sl),(.mk 1 0 [aj,.mk 9 C kr],bM)] aL (ay V) (by simp;exact⟨(az.ext Q).sl,a0.sl⟩) rfl rfl
       have b4:=an.size
       refine⟨?_,?_⟩
       .refine jC (M:=aV) bn (a5 _ _ az.wx a0.wx) (L4 V) λbN bq bB bu=>?_
        have b5:=bu.size
        intro br
        have bR:J bq br:=J.push _ _
        refine H8 V (bR.fz _) ?_
        intro bK
        let⟨bv,bx,b6⟩:=BX.new (f:=br) (d:=bK) bB rfl rfl
        have U:=Q.trans (an.trans bu)
        exact⟨rfl,by show K.size<=bq.size;omega,bN,_,bx,(az.ext U).gY bv (ad _),(aW.ext U).ext bv⟩
       .let⟨U,q⟩:=aG (g:=aV) V ((az.ext Q).ext an) ((aR.ext Q).ext an) ((aW.ext Q).ext an)
        exact H8 V (U.fz _) (R7 q (fG.le (U.bG λH hb=>(List.mem_cons.1 hb).elim (λz=>Or.inr V) Or.inl) bn) a0.wx)
      .let⟨U,q⟩:=aG (g:=aF) V (az.ext Q) (aR.ext Q) (aW.ext Q)
       exact H8 V (U.fz _) (R6 q (a0.gY U (ad _)))
     .let⟨U,q⟩:=aG (g:=ao) V (az.ext aa) (aR.ext aa) (aW.ext aa)
      exact H8 V (U.fz _) (R5 q (fG.le (U.bG λH hb=>(List.mem_cons.1 hb).elim (λz=>Or.inr V) Or.inl) bm) ak.wx)
    .let⟨U,q⟩:=aG (g:=am) V az aR aW
     exact H8 V (U.fz _) (R4 q (ak.gY U (ad _)))
   .let⟨U,q⟩:=aG (g:=al) V (a_.ext T) (bb.ext T) (Y.ext T)
    exact H8 V (U.fz _) (R3 q (a4.le (fh (U.fz _))))
  .let⟨U,q⟩:=aG (g:=ac) aK a_ bb Y
   exact H8 aK (U.fz _) (R2 q (a3.le (fh (U.fz _))))
 .let⟨U,q⟩:=aG (g:=K) (ad _) a9 ba r0
  have za:=U.size
  intro ac
  refine H8 (ad _) (U.fz _) ?_
  intro al
  have T:J ac al:=J.push _ _
  exact H8 za (T.fz _) (R2 (q.ext T) (wl ac q.s.r.lt))
 rintro⟨r,aS⟩ g ⟨ho,hk,s,B,H,hl,R⟩
 simp only at ho hk H hl
 subst ho
 have bv:=H.b.lt
 have a_:=bk hk
 have U:∀{u:E},g.size<=u.size->Lw b [ag.size,W.size,A.size,m.size] u:=λz=>L4 V
 have I:K.size<=g.size:=V
 have a0:∀{u:E},g.size<=u.size->∀F∈r::A.size::h,F<u.size:=λz=>a1 hk V
 refine⟨λu=>∃s B,BX (A.size::h) i j.length (w.params.length+3) r u s B/\Rs b o m (P+2*Cg 18) u/\g.size<=u.size,⟨V,V,_,E1 R.f,λ_=>?_,λ_=>⟨s,B,H,⟨R.f,R.r.mono V⟩,ad _⟩⟩,?_⟩
 .intro ac
  have N:J g ac:=J.push _ _
  have a3:ap (bG [b] ac) (.mk g.size 0 3 3) [3,0,3]:=wl g R.r.lt
  clear_value ac
  have aK:=N.size
  have Y:=R.ext N
  refine H5 I (N.fz _) ?_
  refine(eO (S:=[b]) (by simp;exact Y.r.lt) (PS Y.f) a3 bE).mono λ_ al⟨ab,bQ,e',gw,qw,T⟩=>⟨(U aK).dv (T.fz _),ab,e',H5 V (T.fz _) ?_⟩
  have a4:IR b al ab (w.params++[3,0,3]):=qw▸GI.done gw (by simp;exact Y.r.lt) (by rw[<-qw];simp;omega)
  have bw:=T.size
  have aR:=Y.ext T
  refine FE (v:=w.params++[3,0,3]) (S:=r::A.size::h) (a0 V) (by simp[aU]) (F.to aR.f aR.r) V a4 bE bs bh (U V) λaj a2 am ak a7 ae=>H3 V ae ?_
  have ak:HX (r::A.size::h) i j.length (w.params.length+3) am a2 aj:=by simpa using ak
  have bT:=ae.size
  refine wF (r::A.size::h) i j.length (a:=w.params.length+3) (U V) V λbn ao az aa=>H3 V (aa.fz _) ?_
  intro aF
  have aI:J ao aF:=J.push _ _
  have bU:=aa.size
  have bb:=(((hl.ext N).ext T).fz (by simp[aU]) ae).ext aa
  have hs:fG (bG (r::A.size::h) aF) (.mk ao.size 0 3 3) [.mk 9 C kl,aj,.mk 12 (ps.len+2) []]:=oR [(.mk 9 C kl,sl),(aj,a2),(.mk 12 (ps.len+2) [],bn)] aL (a0 V) (by simp;exact⟨bb.sl,(ak.ext aa).sl,az.sl⟩) rfl rfl
  have bV:=aI.size
  refine jC (M:=aF) hs (.O6 (by simp;exact⟨bb.wx,ak.wx,az.wx⟩)) (U V) λbq aV br an=>?_
  have aW:=((((H.ext N).ext T).fz (by simp[aU]) a_ ae).ext (aa.trans aI)).ext an
  have hb:=aW.set br
  have bm:=(((aR.to ae a7).ext (aa.trans aI)).ext an).put F.rd (k:=r) V 0 [.i 6,.i 3,.s bq]
  exact⟨aW.b.fK aL,λb' bu=>bd _ _ _ _ (by simp at bu;omega),bq,.mk 6 3 [.mk 9 C kl,aj,.mk 12 (ps.len+2) []],hb,⟨bm.f,bm.r.mono V⟩,by rw[aw];have:=an.size;omega⟩
 rintro M3 ⟨s,B,H,R,aJ⟩
 refine⟨V,V,_,E1 R.f,_,H.b.cg 0,_,H.b.cg 1,_,H.b.cg 2,?_⟩
 refine wF (A.size::h) i j.length (a:=w.params.length) (U aJ) V λaV ac ak N=>?_
 have aK:=N.size
 have ae:∀{M1 M2:E}{aS:Nat},g.size<=M1.size->Fz [b] M1 M2->af M2 r aS=af M1 r aS:=λz D=>kg D hr ⟨V,V⟩ _
 refine⟨ae aJ (N.fz _),ae aJ (N.fz _),ae aJ (N.fz _),(E1 (R.f.then N)).trans (E1 R.f).symm,G V (N.fz _) V V,G V (N.fz _) V V,G V (N.fz _) V V,?_⟩
 have Y:=R.ext N
 refine FE (S:=A.size::h) (ay V) aD (F.to Y.f Y.r) V (PS Y.f) V (F.gp.ty bc.2.2.1 bc.2.2.2) bh (U V) λaj aW al an aR T=>⟨ae V T,ae V T,ae V T,?_⟩
 have bw:=T.size
 intro am
 have aF:J al am:=J.push _ _
 have aI:=(H.ext N).fz aD a_ T
 have hs:fG (bG (A.size::h) am) (.mk al.size 0 3 3) [.mk 12 0 [],aj,B]:=oR [(.mk 12 0 [],aV),(aj,aW),(B,s)] aL (ay V) (by simp;exact⟨(ak.fz aD T).sl,an.sl,aI.h.fj.sl⟩) rfl rfl
 refine jC (M:=am) hs (.m3 F.gp.ds ak.wx an.wx H.h.wx) (U (oh aF.size)) λbn ao az aa=>?_
 exact az.iI (((Y.to T aR).ext aF).ext aa) F.rd V V
end
end
end Go.Proofs.YtkoifinbblcbiaaGreat
