/- Part of a proof. -/
import Derived.Test.YtkoifinbblcbiaaGreatSI02
set_option linter.all false
set_option maxHeartbeats 8000000
set_option maxRecDepth 100000
namespace Go.Proofs.YtkoifinbblcbiaaGreat
open Go.Vc
section
variable{p:Nat->Prop}{o n:Nat}{i:Int}{f:O}
structure dp(p:Nat->Prop)(ro:Nat->Nat)(m:E)(ro':Nat->Nat)(m':E):Prop where
 size:m.size<=m'.size
 gX:∀b,b<m.size->ro' b=ro b
 new:∀b,m'.size<=b->ro' b=0
 eB:∀b,b<m.size->¬p (ro b)->m'[b]? =m[b]?
def dp.az(p:Nat->Prop){a:Nat->Nat}{m:E}(h:∀b,m.size<=b->a b=0):dp p a m a m:=⟨ad _,λ_ _=>rfl,h,λ_ _ _=>rfl⟩
def dp.trans{g i j:Nat->Nat}{d e f:E}(h:dp p g d i e)(k:dp p i e j f):dp p g d j f:=
 ⟨bI h.size k.size,λb a=>by rw[k.gX b (aO a h.size),h.gX b a],k.new,λb a c=>by
  rw[k.eB b (aO a h.size) (by rw[h.gX b a];exact c),h.eB b a c]⟩
def dp.mono{q:Nat->Prop}{b c:Nat->Nat}{m a:E}(h:dp p b m c a)(g:∀k,p k->q k):dp q b m c a:=⟨h.size,h.gX,h.new,λd e i=>h.eB d e λf=>i (g _ f)⟩
def dp.eJ(p:Nat->Prop){c:Nat->Nat}{m d:E}(h:J m d)(e:∀b,m.size<=b->c b=0):dp p c m c d:=⟨h.size,λ_ _=>rfl,λb a=>e b (bI h.size a),λb a _=>h.same b a⟩
def dp.ah{a:Nat->Nat}{m:E}(g:∀b,m.size<=b->a b=0){b:Nat}(f:p (a b))(o:Nat)(l:List Ce):dp p a m a (ah m b o l):=
 ⟨ua (ax _ _ _ _).symm,λ_ _=>rfl,λc d=>g c (by rw[ax]at d;exact d),λc _ h=>be _ _ _ _ λe=>h (e▸f)⟩
abbrev HC:=dp (λk=>k=3\/k=5\/k=6)
abbrev To:=dp (λk=>k≠0/\k≠9)
def dp.cz{g i:Nat->Nat}{c m f:E}(h:To g m i f)(e:J c m)(d:∀b,b<c.size->g b=0):J c f/\∀b,b<c.size->i b=0:=by
 have j:=e.size;exact⟨⟨bI j h.size,λb a=>by rw[h.eB b V (by simp[d b a]),e.same b a]⟩,λb a=>by rw[h.gX b V,d b a]⟩
def dp.dv{e f:Nat->Nat}{m d:E}(h:To e m f d){l:List Nat}(c:∀b∈l,b<m.size/\e b=0):eI l m d:=λb a=>h.eB b (c b a).1 (by simp[(c b a).2])
structure iI(ro:Nat->Nat)(m:E)(e sz k:Nat)(s:O)(l:List Ce):Prop where
 len:l.length=s.len*sz
 le:s.len<=s.cap
 aF:s.cap=0\/∃b c tail,s=.mk b 0 s.len c/\ro b=k/\cF m b e (l++tail)/\(l++tail).length=c*sz
section
variable{c g:Nat->Nat}{b d:E}{e a k:Nat}{s:O}{l:List Ce}
def iI.DC(h:iI c b e a k s l)(f:s.cap=0):l=[]/\s.len=0:=by
 have:=h.le;have d:s.len=0:=V;exact⟨List.length_eq_zero_iff.1 (by rw[h.len,d];simp),d⟩
def iI.iD(h:iI c b e a k s l):fQ b s.D s.off l:=by
 rcases h.aF with f|⟨j,d,tail,h1,h2,h3,h4⟩
 .rw[(h.DC f).1];intro i d g;simp at g
 .rw[h1];exact h3.iD.Np
def iI.wr(h:iI c b e a k s l)(d:o+n<=l.length):fL b s.D (s.off+o) n:=by
 rcases h.aF with f|⟨g,i,tail,h1,h2,h3,h4⟩
 .rw[(h.DC f).1]at d;intro m j;simp at d;omega
 .rw[h1];simp only[O.jC,O.mZ,bT];exact h3.fL bF
def iI.eB(h:iI c b e a k s l)(p:s.cap≠0->d[s.D]? =b[s.D]?)(q:s.cap≠0->g s.D=c s.D):iI g d e a k s l:=by
 refine⟨h.len,h.le,?_⟩;rcases h.aF with o|⟨m,n,tail,h1,h2,h3,h4⟩
 .exact Or.inl o
 .by_cases f:s.cap=0
  .exact Or.inl f
  .have i:=p f;have j:=q f;rw[h1]at i j;exact Or.inr ⟨m,n,tail,h1,j.trans h2,h3.congr i,h4⟩
def iI.D(h:iI c b e a k s l)(f:s.cap≠0):s.D<b.size/\c s.D=k:=by
 rcases h.aF with d|⟨g,i,tail,h1,h2,h3,h4⟩
 .exact absurd d f
 .rw[h1];exact⟨h3.lt,h2⟩
def iI.eK(h:iI c b e a k s l)(i:dp p c b g d)(j:¬p k):iI g d e a k s l:=
 h.eB (λf=>i.eB _ (h.D f).1 (by rw[(h.D f).2];exact j)) (λf=>i.gX _ (h.D f).1)
def iI.set(h:iI c b e a k s l){new:List Ce}(w:o+new.length<=l.length):iI c (ah b s.D (s.off+o) new) e a k s (je l o new):=by
 refine⟨by rw[kU];exact h.len,h.le,?_⟩;rcases h.aF with u|⟨j,n,tail,h1,h2,h3,h4⟩
 .exact Or.inl u
 .refine Or.inr ⟨j,n,tail,h1,h2,?_,by simp only[bd,kU]at h4⊢;exact h4⟩;have p:s.D=j:=by rw[h1];rfl
  have q:s.off=0:=by rw[h1];rfl
  rw[p,q,bT];have:=cF.ah (m:=b) (o:=o) (r:=new) h3;have t:je (l++tail) o new=je l o new++tail:=by
   have f:(je l o new).length=l.length:=kU _ _ _;apply gY;intro i;rcases aW i l.length with d|d
   .have g:(je l o new++tail)[i]? =(je l o new)[i]? :=av (by rw[f];exact d);rw[g,wo,wo];simp only[bd];by_cases v:o<=i/\i<o+new.length
    .rw[an V,an V]
    .rw[ae V,ae V,av d]
   .have g:(je l o new++tail)[i]? =tail[i -l.length]? :=by rw[aJ (by rw[f];exact d),f]
    rw[g,wo,ae V,aJ d]
  rw[t]at this;exact this
def iI.cut(h:iI c b e a k s l){n:Nat}(m:n<=s.len):iI c b e a k (s.cut 0 n a) (l.take (n*a)):=by
 have j:=h.le;have q:=h.len;rcases h.aF with i|⟨f,g,tail,h1,h2,h3,h4⟩
 .have d:n=0:=V;cases s with
  |nil=>exact⟨by simp[d,O.cut],by simp[O.cut],Or.inl rfl⟩
  |zU f o p=>exact⟨by simp[d,O.cut],by simp[O.cut],Or.inl rfl⟩
  |mk f o r p=>simp at i;subst i;exact⟨by simp[d,O.cut],by simp[d,O.cut],Or.inl (by simp[O.cut])⟩
 .rw[h1];have d:s.len<=g:=by rw[h1]at j;exact j
  refine⟨?_,by simp[O.cut];omega,Or.inr ⟨f,g,l.drop (n*a)++tail,?_,h2,?_,?_⟩⟩
  .simp only[O.cut,O.gG,gK,XS];have:n*a<=s.len*a:=dh _ m;omega
  .simp[O.cut]
  .rw[<-fE,dm];exact h3
  .rw[<-fE,dm];exact h4
end
def iI.append{g:Nat->Nat}{f:E}{j l:Nat}{zs:List Ce}{u:Nat}{s x:O}{n c:List Ce}{K:O->E->Prop}(h:iI g f j zs.length l s n)(t:∀a,f.size<=a->g a=0)
 (k:c.length=x.len*zs.length)(B:fQ f x.D x.off c)(i:(s.len+x.len)*u<=140737488355328)
 (q:∀v p d,iI v d j zs.length l p (n++c)->dp (λy=>y=l) g f v d->K p d):jN f j zs u s x K:=by
 have G:=h.le
 refine⟨c,k,B,λD=>?_,λF=>⟨i,n,h.len,h.iD,λd v=>?_⟩⟩
 .rcases h.aF with C|⟨a,d,tail,h1,h2,h3,h4⟩
  .have w:x.len=0:=V
   have A:c=[]:=List.length_eq_zero_iff.1 (by rw[k,w];simp)
   subst A
   refine⟨λy z=>by simp at z,?_⟩
   have p:=q g s _ (by rw[dY];exact h) (dp.az _ t)
   cases s with
   |nil=>exact p
   |zU a o H=>exact p
   |mk a o H d=>simp only[w,jG];exact p
  .have w:=h.len
   have A:s.cap=d:=by rw[h1];rfl
   rw[h1]
   simp only[O.jC,O.mZ,O.gG,bT]
   simp only[bd]at h4
   have z:c.length<=tail.length:=by
    have y:(s.len+x.len)*zs.length<=d*zs.length:=dh _ V;rw[gQ]at y;omega
   refine⟨h3.fL (by simp only[bd];omega),?_⟩
   have p:=cF.ah (m:=f) (b:=a) (e:=j) (r:=c) (o:=s.len*zs.length) h3
   rw[<-w,Cq n c tail z]at p
   refine q g _ _ ⟨?_,?_,Or.inr ⟨a,d,tail.drop c.length,rfl,h2,?_,?_⟩⟩ (dp.ah t h2 _ _)
   .simp only[bd,O.gG,gQ];omega
   .simp only[O.gG,O.ON];omega
   .rw[<-w];exact p
   .simp only[bd,List.length_drop];omega
 .refine q (λa=>if a=f.size then l else g a) _ _ ⟨?_,?_,Or.inr ⟨f.size,d,mK zs (d -(s.len+x.len)),rfl,aL,cF.push _ _ _,?_⟩⟩ ⟨aL,λa i=>ae V,λa i=>?_,λa i _=>by rw[mQ,ae V]⟩
  .simp only[bd,O.gG,gQ,h.len,k]
  .simpa using v
  .simp only[bd,rJ,h.len,k]
   rw[Nat.sub_mul,<-gQ]
   have:(s.len+x.len)*zs.length<=d*zs.length:=dh _ v
   omega
  .simp at i;rw[ae V];exact t a V
def iI.gA{d:Nat->Nat}{i m:E}{e f k:Nat}{s:O}{l:List Ce}(h:gZ i m e f s l)(g:s≠.nil->d s.D=k):iI d m e f k s l:=by
 refine⟨h.len,?_,?_⟩
 .rcases h.aF with a|⟨b,c,tail,a,h2,h3,h4,h5⟩
  .rw[a];exact ad _
  .rw[a];exact h5
 .rcases h.aF with a|⟨b,c,tail,a,h2,h3,h4,h5⟩
  .rw[a];exact Or.inl rfl
  .refine Or.inr ⟨b,c,tail,a,?_,h3,h4⟩;have:=g (by rw[a];simp);rw[a]at this;exact this
def iI.nM{e:Nat->Nat}{m:E}{k:Nat}{s:O}{l:List Int}(h:iI e m aA 1 k s (l.map Ce.i))(g:l.length<=9223372036854775807):ap m s l:=by
 have d:s.len=l.length:=by have:=h.len;simp at this;omega
 refine⟨d,h.le,V,λj x c=>⟨[.i x],rfl,λi f a=>?_⟩⟩;have b:i=0:=by have:=aw a;simp at this;omega
 subst b;simp at a;subst a;have:=h.iD j (.i x) (by simp[c]);simpa using this
def AA(l:List Int)(i:Nat)(v:Int):je (l.map Ce.i) i [.i v]=(l.set i v).map Ce.i:=by simp[je,tZ]
def iI.gT{a:Nat->Nat}{m:E}{k:Nat}{s:O}{l:List Int}(h:iI a m aA 1 k s (l.map Ce.i))(b:0<=i)(c:i<l.length)(v:Int):iI a (ah m s.D (s.off+i.toNat*1) [.i v]) aA 1 k s ((Go.Proofs.YtkoifinbblcbiaaGreat.gT l i v).map Ce.i):=by
 have:=h.set (o:=i.toNat) (new:=[.i v]) bF;rw[AA]at this;rw[eV];exact this
def iI.Ow{a:Nat->Nat}{m:E}{k:Nat}{s:O}{l:List Int}(h:iI a m aA 1 k s (l.map Ce.i))(b:0<=i)(c:i<l.length):fL m s.D (s.off+i.toNat*1) 1:=by
 rw[eV];exact h.wr bF
def FB(m:E)(f:O)(l:List Int):Prop:=∃c tail,f=.mk f.D 0 f.len c/\cF m f.D aA (l.map Ce.i++tail)
def FN(N:Nat)(a:Nat->Nat)(m:E)(f:O)(l:List Int):Prop:=l≠[]->a f.D=0/\N<=f.D/\FB m f l
def yf(N:Nat)(b:Nat->Nat)(m:E)(a:List Ce)(c:bE):Prop:=∃f,a=[.i c.aQ,.i c.j9,.s f]/\ap m f c.aE/\FN N b m f c.aE
def XU(e:List (List Ce)):Prop:=∀(i j:Nat)(c d:List Ce)(a b:O),e[i]? =some c->e[j]? =some d->c[2]? =some (.s a)->d[2]? =some (.s b)->i≠j->a.len≠0->b.len≠0->a.D≠b.D
def XU.nil:XU []:=λi j c d a b h=>by simp at h
def dK(N:Nat)(b:Nat->Nat)(m:E)(c:O)(h:List bE):Prop:=∃a,iI b m lZ 3 3 c a.flatten/\gS 3 (yf N b m) a h/\XU a
def Tx(a:Nat->Nat)(m:E)(i:Nat)(b:List Ce)(f:aX):Prop:=
 ∃r o h,b=[.i f.fG,.i f.pc,.i f.dst,.s r,.s o,.s h]/\iI a m aA 1 (10+3*i) r (f.ak.map Ce.i)/\iI a m aA 1 (11+3*i) o (f.aR.map Ce.i)/\iI a m aA 1 (12+3*i) h (f.ba.map Ce.i)
structure ZW(ro:Nat->Nat)(m:E)(fr:O)(fs:List aX)(css:List (List Ce)):Prop where
 qe:iI ro m dP 6 4 fr css.flatten
 len:css.length=fs.length
 size:∀cs∈css,cs.length=6
 dz:∀(i:Nat)(cs:List Ce)(f:aX),css[i]? =some cs->fs[i]? =some f->Tx ro m i cs f
def nJ(d:Nat->Nat)(m:E)(b:O)(c:List aX):Prop:=∃a,ZW d m b c a
def iT{m b:E}{l:List Int}(h:ap m f l)(j:l≠[]->b[f.D]? =m[f.D]?):ap b f l:=by
 by_cases a:l=[]
 .subst a;exact⟨h.len,h.cap,h.gW,aL⟩
 .exact⟨h.len,h.cap,h.gW,λo x n=>let⟨d,e,g⟩:=h.iD o x n;⟨d,e,λi c k=>by rw[aI (j a)];exact g i c k⟩⟩
def iH{m:E}{l:List Int}(h:ap m f l)(a:l≠[]):f.D<m.size:=by
 cases l with
 |nil=>exact absurd rfl a
 |cons b l=>exact mg (h.aF (k:=0) (x:=b) rfl)
def yf.eK{N:Nat}{k l:Nat->Nat}{m j:E}(c:dp p k m l j)(h:¬p 0)(e:List Ce)(d:bE):yf N k m e d->yf N l j e d:=λ⟨f,q,b,i⟩=>
 ⟨f,q,iT b λa=>c.eB _ (iH b a) (by rw[(i a).1];exact h),λa=>by
  let⟨g1,g2,n,tail,o,g⟩:=i a;exact⟨by rw[c.gX _ (iH b a)];exact g1,g2,n,tail,o,g.congr (c.eB _ g.lt (by rw[g1];exact h))⟩⟩
def dK.eK{N:Nat}{p:Nat->Prop}{d e:Nat->Nat}{m c:E}{b:O}{h:List bE}(n:dK N d m b h)(a:dp p d m e c)(g:¬p 0)(k:¬p 3):dK N e c b h:=by
 let⟨f,i,j,l⟩:=n;exact⟨f,i.eK a k,j.mono (yf.eK a g),l⟩
def Tx.eK{p:Nat->Prop}{e g:Nat->Nat}{m d:E}(a:dp p e m g d){i:Nat}(b:∀k,10+3*i<=k->k<=12+3*i->¬p k){c:List Ce}{f:aX}:Tx e m i c f->Tx g d i c f:=λ⟨r,o,h,j,k,l,n⟩=>
 ⟨r,o,h,j,k.eK a (b _ V V),l.eK a (b _ V V),n.eK a (b _ V V)⟩
def nJ.eK{p:Nat->Prop}{g j:Nat->Nat}{m e:E}{a:O}{b:List aX}(r:nJ g m a b)(c:dp p g m j e)(d:∀k,(k=4\/10<=k)->¬p k):nJ j e a b:=by
 let⟨n,h⟩:=r;exact⟨n,h.qe.eK c (d 4 V),h.len,h.size,λi l f o q=>(h.dz i l f o q).eK c λk s _=>d k V⟩
structure vJ(m0:E)(ro:Nat->Nat)(m:E)(mb e:Nat)(bx:List Ce)(aS hp fr:O)(lo:List Int)(lh:List bE)(lf:List aX):Prop where
 cz:J m0 m
 jT:∀b,b<m0.size->ro b=0
 new:∀b,m.size<=b->ro b=0
 box:cF m mb e bx
 QR:ro mb=1
 aS:iI ro m aA 1 2 aS (lo.map Ce.i)
 heap:dK m0.size ro m hp lh
 ao:nJ ro m fr lf
section
variable{j:E}{b g:Nat->Nat}{a c:E}{d e:Nat}{h:List Ce}{aS l k:O}{r:List Int}{q:List bE}{o:List aX}
def vJ.ext(L:vJ j b a d e h aS l k r q o)(g:J a c):vJ j b c d e h aS l k r q o/\To b a b c:=by
 have f:∀p,dp p b a b c:=λp=>dp.eJ p g L.new;exact⟨⟨L.cz.trans g,L.jT,(f (λ_=>False)).new,L.box.ext g,L.QR,L.aS.eK (f (λ_=>False)) id,L.heap.eK (f (λ_=>False)) id id,L.ao.eK (f (λ_=>False)) λ_ _=>id⟩,f _⟩
def vJ.jx(L:vJ j b a d e h aS l k r q o)(i:Nat)(c:List Ce):vJ j b (ah a d i c) d e (je h i c) aS l k r q o/\To b a b (ah a d i c):=by
 have f:dp (λg=>g=1) b a b (ah a d i c):=dp.ah L.new L.QR _ _;have n:To b a b (ah a d i c):=f.mono λg p=>V;let⟨b1,b2⟩:=n.cz L.cz L.jT;exact⟨⟨b1,b2,f.new,cF.ah (m:=a) L.box,L.QR,L.aS.eK f bh,L.heap.eK f bh bh,L.ao.eK f λg p=>V⟩,n⟩
def vJ.my(L:vJ j b a d e h aS l k r q o){i:Nat}(c:i+n<=h.length):fL a d i n:=L.box.fL c
def vJ.gB(L:vJ j b a d e h aS l k r q o)(f:dp (λi=>i=3\/i=5\/i=6) b a g c){m:O}{p:List bE}(s:dK j.size g c m p):vJ j g c d e h aS m k r p o/\To b a g c:=by
 have n:To b a g c:=f.mono λi t=>V;let⟨b1,b2⟩:=n.cz L.cz L.jT;exact⟨⟨b1,b2,f.new,L.box.congr (f.eB _ L.box.lt (by rw[L.QR];decide)),by rw[f.gX _ L.box.lt];exact L.QR,L.aS.eK f bh,s,L.ao.eK f λi t=>V⟩,n⟩
def vJ.IF(L:vJ j b a d e h aS l k r q o)(f:dp (λi=>i=2) b a g c){p:O}{n:List Int}(s:iI g c aA 1 2 p (n.map Ce.i)):vJ j g c d e h p l k n q o/\To b a g c:=by
 have m:To b a g c:=f.mono λi t=>V;let⟨b1,b2⟩:=m.cz L.cz L.jT;exact⟨⟨b1,b2,f.new,L.box.congr (f.eB _ L.box.lt (by rw[L.QR];decide)),by rw[f.gX _ L.box.lt];exact L.QR,s,L.heap.eK f bh bh,L.ao.eK f λi t=>V⟩,m⟩
def vJ.jL(L:vJ j b a d e h aS l k r q o)(f:dp (λi=>4<=i/\i≠9) b a g c){m:O}{p:List aX}(s:nJ g c m p):vJ j g c d e h aS l m r q p/\To b a g c:=by
 have n:To b a g c:=f.mono λi t=>V;let⟨b1,b2⟩:=n.cz L.cz L.jT;exact⟨⟨b1,b2,f.new,L.box.congr (f.eB _ L.box.lt (by rw[L.QR];decide)),by rw[f.gX _ L.box.lt];exact L.QR,L.aS.eK f bh,L.heap.eK f bh bh,s⟩,n⟩
end
end
section
variable{α:Type}{k:Nat}
def up{α:Type}(f:Nat->α)(k:Nat)(x:α):Nat->α:=λj=>if j=k then x else f j
@[simp] theorem HH (f:Nat->α) (k:Nat) (x:α):up f k x k=x:=an rfl
def QG(f:Nat->α)(k:Nat)(x:α){j:Nat}(h:j≠k):up f k x j=f j:=ae h
def Qu(a:Nat->O):List Ce:=[.s (a 0),.s (a 1),.s (a 2),.s (a 3),.s (a 4),.s (a 5),.s (a 6)]
def Ti(a:Nat->O)(b:k<7):(Qu a)[k]? =some (.s (a k)):=by
 rcases k with _|_|_|_|_|_|_|k<;>first|rfl|omega
def Ot(a:Nat->O)(b:k<7)(r:O):je (Qu a) k [.s r]=Qu (up a k r):=by
 rcases k with _|_|_|_|_|_|_|k<;>first|rfl|omega
structure ju(ro:Nat->Nat)(m:E)(lb:Nat)(sl:Nat->O)(L:Nat->List Int):Prop where
 new:∀b,m.size<=b->ro b=0
 gX:ro lb=8
 box:cF m lb BW (Qu sl)
 qe:∀k,k<7->iI ro m aA 1 (k+1) (sl k) ((L k).map Ce.i)
section
variable{f j:Nat->Nat}{a h:E}{d:Nat}{b:Nat->O}{L:Nat->List Int}
def ju.cp(h:ju f a d b L){k:Nat}(c:k<7):af a d k=some (O.v (b k)):=by
 rw[h.box.cp,Ti b c];rfl
def ju.nM(h:ju f a d b L){k:Nat}(c:k<7)(e:(L k).length<=10^12):ap a (b k) (L k):=(h.qe k c).nM V
def ju.len(h:ju f a d b L){k:Nat}(c:k<7):(b k).len=(L k).length:=by have:=(h.qe k c).len;simp at this;omega
def ju.to(h:ju f a d b L):To f a f a:=dp.az _ h.new
def ju.ext(c:ju f a d b L)(e:J a h):ju f h d b L:=
 ⟨λi l=>c.new i (bI e.size l),c.gX,c.box.congr (e.same d c.box.lt),λk g=>(c.qe k g).eB (λj=>e.same _ ((c.qe k g).D j).1) λ_=>rfl⟩
def ju.kM(p:ju f a d b L)(s:k<7)(C:(L k).length<=10^12)(i:Int){K:O->E->Prop}
 (B:∀j r h,To f a j (ah h d k [.s r])->ju j (ah h d k [.s r]) d (up b k r) (up L k (L k++[i]))->K r h):
 jN (a.push (.cells (bu [.i i]) aA)) aA [.i 0] 8 (b k) (.mk a.size 0 1 1) λr h=>fL h d k 1/\K r h:=by
 have z:=J.push a (.cells (bu [.i i]) aA)
 have c:=p.ext z
 have D:=p.len s
 refine iI.append (zs:=[.i 0]) (c:=[.i i]) (c.qe k s) c.new aL ((cF.push a (e:=aA) (l:=[.i i])).iD) (by simp only[O.gG];omega) λj r h v n=>?_
 have x:cF h d BW (Qu b):=c.box.congr (n.eB d c.box.lt (by simp only[c.gX];omega))
 have o:j d=8:=by rw[n.gX d c.box.lt,c.gX]
 have A:To f a j h:=(dp.eJ _ z p.new).trans (n.mono λt y=>V)
 have u:To f a j (ah h d k [.s r]):=A.trans (dp.ah n.new (by simp only[o];omega) _ _)
 refine⟨x.fL (by show k+1<=7;omega),B j r h u ⟨u.new,o,Ot b s r▸cF.ah (m:=h) x,λt y=>?_⟩⟩
 by_cases g:t=k
 .subst g
  rw[HH,HH,fw]
  refine v.eB (λq=>be _ _ _ _ λg=>?_) λ_=>rfl
  have:=(v.D q).2
  rw[g,o]at this;omega
 .rw[QG _ _ _ g,QG _ _ _ g]
  have w:=(c.qe t y).eK n V
  refine w.eB (λq=>be _ _ _ _ λg=>?_) λ_=>rfl
  have:=(w.D q).2
  rw[g,o]at this;omega
def ju.put(h:ju f a d b L){i:Nat}(r:k<7)(n:i<(L k).length)(x:Int):
 fL a (b k).D ((b k).off+i*1) 1/\ju f (ah a (b k).D ((b k).off+i*1) [.i x]) d b (up L k ((L k).set i x))/\To f a f (ah a (b k).D ((b k).off+i*1) [.i x]):=by
 have g:=h.qe k r
 have s:(L k).map Ce.i≠[]:=λe=>by simp at e;rw[e]at n;simp at n
 have j:(b k).cap≠0:=λj=>s (g.DC j).1
 let⟨t,l⟩:=g.D j
 have c:To f a f (ah a (b k).D ((b k).off+i*1) [.i x]):=dp.ah h.new (by simp only[l];omega) _ _
 refine⟨g.wr bF,⟨c.new,h.gX,h.box.congr (be _ _ _ _ λe=>by have:=h.gX;rw[e,l]at this;omega),λp q=>?_⟩,c⟩
 by_cases e:p=k
 .subst e
  rw[HH]
  have:=g.set (o:=i*1) (new:=[.i x]) bF
  rw[AA,eV]at this
  rw[eV];exact this
 .rw[QG _ _ _ e]
  have m:=h.qe p q
  refine m.eB (λj=>be _ _ _ _ λe=>?_) λ_=>rfl
  have:=(m.D j).2
  rw[e,l]at this;omega
def ju.XD(h:ju f a d b L)(j:k<7){r:O}{l:List Int}(o:iI f a aA 1 (k+1) r (l.map Ce.i)):
 fL a d k 1/\ju f (ah a d k [.s r]) d (up b k r) (up L k l)/\To f a f (ah a d k [.s r]):=by
 have c:To f a f (ah a d k [.s r]):=dp.ah h.new (by simp only[h.gX];omega) _ _
 refine⟨h.box.fL (by show k+1<=7;omega),⟨c.new,h.gX,Ot b j r▸cF.ah (m:=a) h.box,λn g=>?_⟩,c⟩
 have K:∀{i s l},iI f a aA 1 (i+1) s l->i<7->iI f (ah a d k [.s r]) aA 1 (i+1) s l:=λ{i s l} g' hk'=>by
  refine g'.eB (λp=>be _ _ _ _ λe=>?_) λ_=>rfl;have:=(g'.D p).2;rw[e,h.gX]at this;omega
 by_cases e:n=k
 .subst e
  rw[HH,HH];exact K o j
 .rw[QG _ _ _ e,QG _ _ _ e];exact K (h.qe n g) g
def ju.cut(h:ju f a d b L){k n:Nat}(c:k<7)(l:n<=(L k).length):
 n<=(b k).cap/\fL a d k 1/\ju f (ah a d k [.s ((b k).cut 0 n 1)]) d (up b k ((b k).cut 0 n 1)) (up L k ((L k).take n))/\To f a f (ah a d k [.s ((b k).cut 0 n 1)]):=by
 have g:=h.qe k c
 have i:=h.len c
 have j:=g.le
 have e:=g.cut (n:=n) V
 rw[eV,<-OB]at e
 exact⟨V,h.XD c e⟩
end
structure qd(ds:List bz)(n b:Nat)(L:Nat->List Int):Prop where
 len:∀k,k<6->(L k).length=n
 XB:∀(v:Nat)(p:Int),(L 2)[v]? =some p->p<v
 Pz:∀(v:Nat)(c f:Int),(L 3)[v]? =some c->(L 4)[v]? =some f->0<=c->0<=f/\f+((cE ds c).length:Int)<=b
 cW:(L 6).length<=10^12
abbrev sE(a:List bz)(n:Nat)(L:Nat->List Int):Prop:=qd a n n L
def Lu(L:Nat->List Int)(t o p:Int):Nat->List Int:=up (up (up (up (up (up L 0 (L 0++[t])) 1 (L 1++[o])) 2 (L 2++[p])) 3 (L 3++[-1])) 4 (L 4++[-1])) 5 (L 5++[-1])
def Be{j:Nat->Nat}{m:E}{b:Nat}{x:Nat->O}{L:Nat->List Int}(h:ju j m b x L)(a:∀k,k<6->(L k).length<=10^12)(t o p:Int):
 aN cg 264 [vp b 0,vi t,vi o,vi p] m λ_ i=>∃l y,To j m l i/\ju l i b y (Lu L t o p):=by
 apply xJ (b,0)
 simp -zeta only[bT]
 refine⟨_,h.cp (k:=0) bh,?_⟩
 intro z
 refine h.kM (k:=0) bh (a 0 bh) t λN U G n c=>⟨_,c.cp (k:=1) bh,?_⟩
 intro A
 refine c.kM (k:=1) bh (a 1 bh) o λP V H q d=>⟨_,d.cp (k:=2) bh,?_⟩
 intro B
 refine d.kM (k:=2) bh (a 2 bh) p λQ W I r e=>⟨_,e.cp (k:=3) bh,?_⟩
 intro C
 refine e.kM (k:=3) bh (a 3 bh) (-1) λR X J s f=>⟨_,f.cp (k:=4) bh,?_⟩
 intro D
 refine f.kM (k:=4) bh (a 4 bh) (-1) λS Y K u g=>⟨_,g.cp (k:=5) bh,?_⟩
 intro F
 exact g.kM (k:=5) bh (a 5 bh) (-1) λT Z M v w=>⟨_,_,((((n.trans q).trans r).trans s).trans u).trans v,w⟩
end
section
variable{l:List Int}{d:Nat->Nat}{a:E}{P:(Nat->List Int)->Prop}{b:Nat}{v:Int}
def GI.aS{S:List Nat}{n m:E}{s:O}(h:GI S n m s l):gZ n m aA 1 s (l.map Ce.i):=by
 have u:=h.len bh;let⟨r,d,o,a⟩:=h;have t:d.flatten.length=l.length:=by rw[cx a.size,a.len];omega
 have q:d.flatten=l.map Ce.i:=by
  apply gY;intro e;rcases aW e l.length with b|b
  .let⟨x,k⟩:=dB b;let⟨f,j⟩:=cG d e (by rw[a.len];exact b);have p:f=[.i x]:=a.dz e f x j k;have g:=fW (g:=1) a.size j (i:=0) (c:=.i x) (by rw[p];rfl);simp only[eV,jG]at g;rw[g];simp[k]
  .rw[cT V,cT (by simpa using b)]
 rw[<-q];exact o
def Cu(f:Nat->Nat)(m:E)(e:Nat)(P:(Nat->List Int)->Prop)(v:Value)(a:E):Prop:=∃(b:Bool)(d:Nat->Nat),v=vb b/\To f m d a/\(b=true->∃g c,ju d a e g c/\P c)
def Cu.no{b:Nat->Nat}{m:E}{c:Nat}(h:To b m d a):Cu b m c P (vb false) a:=⟨false,d,rfl,h,aL⟩
def Cu.PB{c:Nat->Nat}{m:E}{b:Nat}{e:Nat->O}{L:Nat->List Int}(h:To c m d a)(f:ju d a b e L)(g:P L):Cu c m b P (vb true) a:=⟨true,d,rfl,h,λ_=>⟨e,L,f,g⟩⟩
def Cu.mono{e:Nat->Nat}{m:E}{c:Nat}{Q:(Nat->List Int)->Prop}{v:Value}(h:Cu e m c P v a)(n:∀L,P L->Q L):Cu e m c Q v a:=let⟨b,d,f,g,i⟩:=h;⟨b,d,f,g,λl=>let⟨o,L,j,k⟩:=i l;⟨o,L,j,n L k⟩⟩
def qd.aR{a:List bz}{n:Nat}{L:Nat->List Int}(h:qd a n b L)(g:l.length=n):qd a n b (up L 1 l):=
 ⟨λk d=>by by_cases e:k=1<;>simp_all [up,h.len k],λv p=>by simpa[up]using h.XB v p,λv c f=>by simpa[up]using h.Pz v c f,by simpa[up]using h.cW⟩
def qd.tok{a:List bz}{n:Nat}{L:Nat->List Int}(h:qd a n b L)(g:l.length=n):qd a n b (up L 5 l):=
 ⟨λk d=>by by_cases e:k=5<;>simp_all [up,h.len k],λv p=>by simpa[up]using h.XB v p,λv c f=>by simpa[up]using h.Pz v c f,by simpa[up]using h.cW⟩
def Lr{b x:Int}{v:Nat}(h:(l++[b])[v]? =some x):l[v]? =some x\/v=l.length/\x=b:=by
 rcases aW v l.length with a|a
 .rw[av a]at h;exact Or.inl h
 .rw[aJ a]at h;have:=aw h;simp at this;have e:v=l.length:=V;subst e;simp at h;exact Or.inr ⟨rfl,h.symm⟩
def qd.DU{c:List bz}{n a:Nat}{L:Nat->List Int}(h:qd c n b L)(j:b<=a):qd c n a L:=
 ⟨h.len,h.XB,λv d f g i e=>oh (h.Pz v d f g i e),h.cW⟩
def qd.OY{f:List bz}{n:Nat}{L:Nat->List Int}(h:qd f n b L)(u t:Int){p:Int}(r:p<n):qd f (n+1) b (Lu L u t p):=by
 have a:=h.len;refine⟨λk w=>?_,λv q s=>?_,λv e g j m i=>?_,by simpa[Lu,up]using h.cW⟩
 .rcases k with _|_|_|_|_|_|k<;>first|omega|(simp[Lu,up,a])
 .have d:(L 2++[p])[v]? =some q:=by simpa[Lu,up]using s
  rcases Lr d with c|⟨rfl,rfl⟩
  .exact h.XB v q c
  .rw[a 2 bh];exact r
 .have l:(L 3++[-1])[v]? =some e:=by simpa[Lu,up]using j
  have o:(L 4++[-1])[v]? =some g:=by simpa[Lu,up]using m
  rcases Lr l with c|⟨rfl,rfl⟩
  .rcases Lr o with d|⟨d,rfl⟩
   .have:=h.Pz v e g c d i;omega
   .have:=aw c;rw[a 4 bh]at d;rw[a 3 bh]at this;omega
  .omega
section
variable{f:Nat->Nat}{m:E}{e:Nat}{g:Nat->O}{L:Nat->List Int}{h:List bz}{c:Nat}
def ju.aF(h:ju f m e g L){k:Nat}(b:k<7)(c:(L k).length<=10^12){i:Nat}{x:Int}(a:(L k)[i]? =some x):af m (g k).D ((g k).off+i*1)=some (vi x):=(h.nM b c).aF a
def uS(a:ju f m e g L)(q:sE h c L)(u:c<=10^12)(b:0<=v)(s:v<c):aN cg 265 [vp e 0,vi v] m (Cu f m e λd=>∃l:List Int,l.length=c/\d=up L 1 l):=by
 apply xN (e,0);simp -zeta only[bT];have o:=q.len 1 bh;have t:=a.len (k:=1) bh;let⟨x,r⟩:=cG (L 1) v.toNat;have j:=a.aF bh V r;have d:=a.cp (k:=1) bh;let⟨w,p,n⟩:=a.put (k:=1) (i:=v.toNat) bh V (cU (x -1));exact⟨_,d,b,V,x,j,λ_=>.no a.to,λ_=>⟨_,d,_,d,b,V,x,j,b,V,w,.PB n p ⟨_,by simp[o],rfl⟩⟩⟩
def sO(q:ju f m e g L)(j:sE h c L)(t:c<=10^12)(i:0<=v)(o:v<c):oQ 225 [vp e 0,vi v] m:=by
 apply wE (e,0);refine⟨λv a=>0<=v/\v<(c:Int)/\J m a,λv _=>v.toNat,⟨i,o,J.az _⟩,?_⟩;rintro v A ⟨i,o,d⟩;have H:=q.ext d;have w:=H.len (k:=1) bh;have z:=H.len (k:=2) bh;have C:=j.len 1 bh;have D:=j.len 2 bh;let⟨x,s⟩:=cG (L 1) v.toNat;let⟨y,p⟩:=cG (L 2) v.toNat;have u:=j.XB _ _ p;refine⟨_,H.cp (k:=1) bh,i,V,x,H.aF bh V s,λ_=>⟨_,H.cp (k:=6) bh,?_⟩,λ_=>rA d⟩;refine(dw (H.nM (k:=6) bh j.cW) v).then λb B _ l=>⟨_,rfl,λ_=>?_,λ_=>rA (d.trans l)⟩;have n:=H.ext l;refine⟨_,n.cp (k:=2) bh,i,V,y,n.aF bh V p,λ_=>rA (d.trans l),λr=>?_⟩;simp only[bM]at r;exact⟨⟨V,V,d.trans l⟩,by show y.toNat<v.toNat;omega⟩
def Mo(i:ju f m e g L)(u:sE h c L)(R:c<=10^12){b:Nat}(H:b<=c):aN cg 338 [vp e 0,vi b] m (Cu f m e λd=>(∀j,j<6->(d j).length=b)/\(d 6).length<=10^12):=by
 apply zd (e,0);simp -zeta only[bT];refine⟨λv a=>(b:Int)<=v/\v<=c/\a=m,λv _=>((c:Int) -v).toNat,⟨V,V,rfl⟩,?_⟩;rintro v W ⟨P,p,rfl⟩;have o:=λj(G:j<6)=>i.len (k:=j) V;have d:=u.len;have S:=o 0 bh;have T:=o 1 bh;have U:=o 5 bh;have n0:=d 0 bh;have n1:=d 1 bh;have n5:=d 5 bh;refine⟨_,i.cp (k:=0) bh,λw=>?_,λw=>?_⟩
 .simp only[ar]at w;let⟨x,q⟩:=cG (L 1) v.toNat;let⟨y,r⟩:=cG (L 5) v.toNat;refine⟨_,i.cp (k:=1) bh,V,V,x,i.aF bh V q,λ_=>.no i.to,λ_=>⟨_,i.cp (k:=5) bh,V,V,y,i.aF bh V r,λ_=>.no i.to,λ_=>?_⟩⟩;rw[aP V V];exact⟨⟨V,V,rfl⟩,by show((c:Int) -(v+1)).toNat<((c:Int) -v).toNat;omega⟩
 .have tk:∀{l:List Int},l.length=c->(l.take b).length=b:=λQ=>bF;have D:Int.toNat (0:Int)=0:=rfl;have E:Int.toNat (b:Int)=b:=V;rw[D,E];let⟨p1,I,p,x⟩:=i.cut (k:=0) (n:=b) bh (by rw[d 0 bh];exact H);refine⟨_,i.cp (k:=0) bh,V,V,V,I,?_⟩;intro X;let⟨p2,J,q,y⟩:=p.cut (k:=1) (n:=b) bh (by simp[up,d];omega);refine⟨_,p.cp (k:=1) bh,V,V,V,J,?_⟩;intro Y;let⟨p3,K,r,z⟩:=q.cut (k:=2) (n:=b) bh (by simp[up,d];omega);refine⟨_,q.cp (k:=2) bh,V,V,V,K,?_⟩;intro Z;let⟨p4,M,s,A⟩:=r.cut (k:=3) (n:=b) bh (by simp[up,d];omega);refine⟨_,r.cp (k:=3) bh,V,V,V,M,?_⟩;intro m5;let⟨p5,N,t,B⟩:=s.cut (k:=4) (n:=b) bh (by simp[up,d];omega);refine⟨_,s.cp (k:=4) bh,V,V,V,N,?_⟩;intro m6;let⟨p6,O,F,C⟩:=t.cut (k:=5) (n:=b) bh (by simp[up,d];omega);refine⟨_,t.cp (k:=5) bh,V,V,V,O,?_⟩;intro m7;refine Cu.PB (((((x.trans y).trans z).trans A).trans B).trans C) F ⟨λj G=>?_,?_⟩
  .rcases j with _|_|_|_|_|_|j<;>first|omega|(simp[up,d];omega)
  .simpa[up]using u.cW
end
end
section
variable{a:Nat->Nat}{m d c:E}{X:List Nat}
def Yq(m:E)(P:(Nat->List Int)->Prop)(v:Value)(c:E):Prop:=∃d,v=vp d 0/\J m c/\∃a e L,(∀b,b<m.size->a b=0)/\ju a c d e L/\P L
def Nu{t:Nat}{sl:Nat->O}{L:Nat->List Int}(h:ju a m t sl L)(S:∀b,b<7->(L b).length<=10^12):
 aN cg 325 [vp t 0] m (Yq m λc=>∀b,b<7->c b=L b):=by
 apply vv (t,0)
 simp -zeta only[bT]
 refine⟨_,h.cp (k:=0) bh,_,h.cp (k:=1) bh,_,h.cp (k:=2) bh,_,h.cp (k:=3) bh,_,h.cp (k:=4) bh,_,h.cp (k:=5) bh,_,h.cp (k:=6) bh,?_⟩
 have C:∀{M:E}(b:Nat),b<7->J m M->lg 66 [O.v (sl b)] M [] (L b=·):=λb z y=>bN [] ((h.ext y).nM z (S b z)) (S b z)
 have c:∀{M H:E},J m M->J M H->∀B,af H t B=af M t B:=λy x' B=>aI (x'.same t (y.lt h.box.lt)) B
 have i:=J.az m
 refine(C 0 bh i).then λU _ m1 I e d=>⟨_,rfl,c i d _,c i d _,c i d _,c i d _,c i d _,c i d _,?_⟩
 subst e
 refine(C 1 bh d).then λW _ m2 g1 e j=>⟨_,rfl,c d j _,c d j _,c d j _,c d j _,c d j _,?_⟩
 subst e
 have u:=d.trans j
 refine(C 2 bh u).then λX _ m3 g2 e l=>⟨_,rfl,c u l _,c u l _,c u l _,c u l _,?_⟩
 subst e
 have x:=u.trans l
 refine(C 3 bh x).then λY _ m4 K e n=>⟨_,rfl,c x n _,c x n _,c x n _,?_⟩
 subst e
 have D:=x.trans n
 refine(C 4 bh D).then λZ _ m5 N e o=>⟨_,rfl,c D o _,c D o _,?_⟩
 subst e
 have G:=D.trans o
 refine(C 5 bh G).then λs5 _ m6 P e p=>⟨_,rfl,c G p _,?_⟩
 subst e
 have u6:=G.trans p
 refine(C 6 bh u6).then λs6 _ v Q e q=>⟨_,rfl,?_⟩
 subst e
 intro w
 have r:J v w:=J.push _ _
 have z0:=i.size;have z1:=d.size;have z2:=j.size;have z3:=l.size;have z4:=n.size;have z5:=o.size;have z6:=p.size;have z7:=q.size
 have s8:w.size=v.size+1:=by simp[w]
 have y0:=I.bn;have y1:=g1.bn;have y2:=g2.bn;have y3:=K.bn;have y4:=N.bn;have y5:=P.bn;have y6:=Q.bn
 let f:Nat->Nat:=λg=>if g<m.size then 0 else if g<m1.size then 1 else if g<m2.size then 2 else if g<m3.size then 3 else if g<m4.size then 4 else if g<m5.size then 5 else if g<m6.size then 6 else if g<v.size then 7 else if g=v.size then 8 else 0
 let ab:Nat->O:=λb=>if b=0 then U else if b=1 then W else if b=2 then X else if b=3 then Y else if b=4 then Z else if b=5 then s5 else s6
 have A:∀{m0 M:E}{F:O}{T:List Int}{b:Nat},GI [] m0 M F T->J M w->f F.D=b->iI f w aA 1 b F (T.map Ce.i):=λaa y hr=>iI.gA (aa.aS.ext y) λ_=>hr
 refine⟨v.size,rfl,u6.trans (q.trans r),f,ab,L,λg R=>an R,⟨λg R=>?_,?_,cF.push _ _ _,λb z=>?_⟩,λ_ _=>rfl⟩
 .simp only[f]
  repeat rw[ae V]
 .simp only[f]
  repeat rw[ae V]
  simp
 .rcases b with _|_|_|_|_|_|_|b
  .exact A (F:=U) (b:=1) I (j.trans (l.trans (n.trans (o.trans (p.trans (q.trans r)))))) (by simp only[f];rw[ae V,an V])
  .exact A (F:=W) (b:=2) g1 (l.trans (n.trans (o.trans (p.trans (q.trans r))))) (by simp only[f];rw[ae V,ae V,an V])
  .exact A (F:=X) (b:=3) g2 (n.trans (o.trans (p.trans (q.trans r)))) (by simp only[f];rw[ae V,ae V,ae V,an V])
  .exact A (F:=Y) (b:=4) K (o.trans (p.trans (q.trans r))) (by simp only[f];rw[ae V,ae V,ae V,ae V,an V])
  .exact A (F:=Z) (b:=5) N (p.trans (q.trans r)) (by simp only[f];rw[ae V,ae V,ae V,ae V,ae V,an V])
  .exact A (F:=s5) (b:=6) P (q.trans r) (by simp only[f];rw[ae V,ae V,ae V,ae V,ae V,ae V,an V])
  .exact A (F:=s6) (b:=7) Q r (by simp only[f];rw[ae V,ae V,ae V,ae V,ae V,ae V,ae V,an V])
  .omega
structure HR(d:E)(X:List Nat)(a:Nat->Nat)(m:E):Prop where
 ext:J d m
 gH:∀b,b<d.size->a b=0
 box:∀b∈X,b<m.size/\a b=0
def HR.to{g:Nat->Nat}(h:HR d X a m)(e:To a m g c):HR d X g c:=by
 let⟨i,j⟩:=e.cz h.ext h.gH;exact⟨i,j,λb f=>⟨aO (h.box b f).1 e.size,by rw[e.gX b (h.box b f).1];exact(h.box b f).2⟩⟩
def HR.dv{d m c:E}{X:List Nat}{a e:Nat->Nat}(h:HR d X a m)(b:To a m e c):eI X m c:=b.dv h.box
def HR.ic(h:HR d X a m)(x:J m c):HR d X a c:=⟨h.ext.trans x,h.gH,λb e=>⟨x.lt (h.box b e).1,(h.box b e).2⟩⟩
def I9{p I aa:O}{q:gR}(s:ap m p q.params)(F:ap m I q.cW)(ad:q.params.length<=3)(ac:q.cW.length<=3)(w:List bz):
 aN cg 243 [.agg #[O.v p,O.v I,vi q.aU,O.v aa,vi q.body.aU]] m (Yq m (sE w q.params.length)):=by
 apply Bo
 simp -zeta only[aC,aB]
 intro e
 have v:J m e:=J.push _ _
 have s1:e.size=m.size+1:=by simp[e]
 have W:∀b∈[m.size],b<e.size:=by simp[e]
 clear_value e
 refine(bN [] (F.ext v) V).aG (J.az e) W λs6 _ f D o K _=>⟨_,rfl,?_⟩
 subst o
 intro t
 have P:J f t:=J.push _ _
 have s3:t.size=f.size+1:=by simp[t]
 have z2:=K.size
 have y6:=D.bn
 let h:Nat->Nat:=λb=>if b<e.size then 0 else if b<f.size then 7 else if b=f.size then 8 else 0
 let d:Nat->List Int:=λk=>if k<6 then[]else q.cW
 let r:Nat->O:=λk=>if k<6 then .nil else s6
 have R:ju h t f.size r d:=by
  refine⟨λb l=>?_,?_,cF.push _ _ _,λk B=>?_⟩
  .simp only[h];repeat rw[ae V]
  .simp only[h];repeat rw[ae V]
   simp
  .by_cases g:k<6
   .simp only[r,d,an g];exact⟨aL,aL,Or.inl rfl⟩
   .have o:k=6:=V;subst o;simp only[r,d,ae g];refine iI.gA (D.aS.ext P) λ_=>?_;simp only[h];rw[ae V,an V]
 have T:sE w 0 d:=by
  refine⟨λk B=>by simp only[d,an B];rfl,λg p s=>by simp[d]at s,λg j i z=>by simp[d]at z,by simp[d];omega⟩
 have gH:∀b,b<e.size->h b=0:=λb l=>an l
 clear_value h d r
 have ag:=s.len
 refine dV (n:=q.params.length) V (λk M=>∃a C L,HR e [m.size] a M/\ju a M f.size C L/\sE w k L) ⟨h,r,d,⟨K.trans P,gH,λb l=>by simp at l;subst l;exact⟨V,gH _ V⟩⟩,R,T⟩ ?_
 rintro k M S μ B ⟨a,C,L,i,H,A⟩ Z
 refine dit (λU=>?_) λU=>?_
 .let⟨y,X⟩:=cG q.params k
  have N:∀(u:Int){g:E},J M g->aN cg 264 [vp f.size 0,vi y,vi u,vi (-1:Int)] g λ_ c=>eI [m.size] g c/\S (cU ((k:Int)+1)) c/\μ (cU ((k:Int)+1)) c<μ k M:=λu g x=>
   (Be (H.ext x) (λY Q=>by rw[A.len Y Q];omega) y u (-1)).mono λ_ c⟨Y,ab,j,Q⟩=>⟨(i.ic x).dv j,Z V _ ⟨Y,ab,_,(i.ic x).to j,Q,(A.OY y u V).DU V⟩⟩
  have G:∀{g:E},J M g->af g p.D (p.off+Int.toNat (k:Int)*1)=some (vi y):=λx=>(s.ext (v.trans (i.ext.trans x))).aF X
  refine⟨V,V,y,G (J.az _),λ_=>?_,λ_=>⟨V,V,y,G (J.az _),N 0 (J.az _)⟩⟩
  refine(dw (F.ext (v.trans i.ext)) (k:Int)).then λb M2 _ x=>⟨λj z=>x.same j (i.box j z).1,_,rfl,λ_=>⟨V,V,y,G x,N 1 x⟩,λ_=>⟨V,V,y,G x,N 0 x⟩⟩
 .have o:k=q.params.length:=V
  subst o
  exact⟨f.size,rfl,v.trans i.ext,a,C,L,λb l=>i.gH b V,H,A⟩
end
section
def ju.VR{b:Nat->Nat}{m f:E}{q:Nat}{a:Nat->O}{L:Nat->List Int}(h:ju b m q a L)(gH:∀c,c<f.size->b c=0){k p:Nat}(l:k<7)(c:p<(L k).length):f.size<=(a k).D/\(a k).D<m.size/\b (a k).D=k+1:=by
 have g:=h.qe k l;have o:(L k).map Ce.i≠[]:=λe=>by simp at e;rw[e]at c;simp at c
 let⟨j,d⟩:=g.D λi=>o (g.DC i).1;refine⟨HL λn=>?_,j,d⟩;rw[gH _ n]at d;omega
def HR.TR{c m a g:E}{d:Nat->Nat}{o1 o2:Obj}(j:J c m)(gH:∀b,b<c.size->d b=0)(k:∀b,m.size<=b->d b=0)(e:a=m.push o1)(h:g=a.push o2):HR c [a.size,m.size] d g:=by
 let⟨l,i⟩:=dD e h;subst e;exact⟨j.trans l,gH,λb f=>⟨i b f,k b (by simp at f;omega)⟩⟩
section
variable{e:Nat->Nat}{m b:E}{g:Nat}{p:Nat->O}{L:Nat->List Int}{f:List bz}{l:List gR}{h:Nat}{d r a o:O}{x:cY}{c:Prop}{q:Nat}
def Qx(hx:J b m)(gH:∀u,u<b.size->e u=0)(K:ju e m g p L)(N:sE f h L)(hn:h<=10^12)(hN:eN b d r f l)(ha:ap b a x.args)(hf:U0 f q c h x)(an:14<=x.op):
 aN cg 266 [vp g 0,.agg #[O.v d,O.v r],ph x a o] m (Cu e m g (sE f h)):=by
 apply xK (g,0)
 simp -zeta only[aC,aB,bT]
 intro P Q
 have st:=HR.TR (a:=P) (g:=Q) hx gH K.new rfl rfl
 have x2:J m Q:=(dD (a:=P) (c:=Q) rfl rfl).1
 have W:To e m e Q:=dp.eJ _ x2 K.new
 clear_value Q
 clear_value P
 have D:=K.ext x2
 have aA:=ha.len
 have az:=hf.lM (Or.inl an)
 let⟨A,hy⟩:=cG x.args 0
 let⟨G,y1⟩:=hf.args A (aq hy)
 have U:=N.len
 have n1:=U 1 bh;have n3:=U 3 bh;have n4:=U 4 bh;have n5:=U 5 bh
 have l3:=D.len (k:=3) bh;have l5:=D.len (k:=5) bh
 let⟨B,ae⟩:=cG (L 3) A.toNat
 let⟨v,ag⟩:=cG (L 4) A.toNat
 let⟨tk,au⟩:=cG (L 5) A.toNat
 refine⟨bh,V,A,(ha.ext st.ext).aF hy,?_⟩
 refine⟨λM=>0<=B/\∃R af s,s.length=h/\To e m R M/\HR b [P.size,m.size] R M/\ju R M g af (up L 1 s),?_,?_⟩
 .refine⟨_,D.cp (k:=3) bh,G,V,B,D.aF bh V ae,λ_=>.no W,λw=>?_⟩
  simp only[bM]at w
  refine⟨λ_=>⟨_,D.cp (k:=5) bh,G,V,tk,D.aF bh V au,λ_=>.no W,λ_=>?_⟩,λ_=>?_⟩<;>
  .refine(uS D N hn G y1).mono λax m3⟨u,R,ac,H,y⟩=>⟨st.dv H,u,ac,λC=>.no (W.trans H),λC=>?_⟩
   obtain⟨af,z,t,s,hl,rfl⟩:=y (by simpa using C)
   exact⟨V,R,af,s,hl,W.trans H,st.to H,t⟩
 .rintro m3 ⟨al,aa,F,s,hl,H,S,y⟩
  have e3:(up L 1 s) 3=L 3:=rfl
  have e4:(up L 1 s) 4=L 4:=rfl
  have e5:(up L 1 s) 5=L 5:=rfl
  have e1:(up L 1 s) 1=s:=rfl
  have av:=y.len (k:=3) bh
  rw[e3]at av
  let⟨f0,f1⟩:=N.Pz A.toNat B v ae ag al
  refine⟨_,y.cp (k:=3) bh,G,V,B,y.aF bh (by rw[e3];omega) ae,?_⟩
  have A1:=y.VR (f:=b) S.gH (k:=1) (p:=A.toNat) bh (by rw[e1];omega)
  have A5:=y.VR (f:=b) S.gH (k:=5) (p:=A.toNat) bh (by rw[e5];omega)
  have hS:∀u∈[(F 1).D,(F 5).D],u<m3.size:=λu C=>by simp at C;omega
  have ak:∀{M:E},J b M->Le b (bH [(F 1).D,(F 5).D] M):=λxx=>(Ao b).trans (xx.bH λu C=>Or.inr (by simp at C;omega))
  refine(dJ hS (hN.bo.le (ak S.ext)) hN.types B).mono λax m4⟨aj,fl,ac,hs,am,x4⟩=>⟨λu C=>x4.same u (S.box u C).1,aj,ac,?_⟩
  subst am
  have c4:To e m aa m4:=H.trans (dp.eJ _ x4 y.new)
  have aE:=hs.len
  have f3:=Ga hN.types B
  refine dV (n:=(cE f B).length) V (λz M=>∃s,s.length=h/\To e m aa M/\HR b [P.size,m.size] aa M/\ju aa M g F (up L 1 s)/\Fz [(F 1).D,(F 5).D] m4 M) ⟨s,hl,c4,(S.ic x4),(y.ext x4),Fz.az _ _⟩ ?_
  rintro z M ay μ aD ⟨w,Z,X,ab,t,ad⟩ ai
  have ao:=hs.le (ad.dg λ_ K=>K)
  refine⟨λah=>?_,λah=>?_⟩
  .simp only[ar]at ah
   let⟨aw,hz⟩:=cG (cE f B) z
   refine⟨V,V,aw,(ao.le (bA _ _)).aF hz,λ_=>?_,λ_=>ai V _ ⟨w,Z,X,ab,t,ad⟩⟩
   have E3:(up L 1 w) 4=L 4:=rfl
   have E1:(up L 1 w) 1=w:=rfl
   have G1:=t.cp (k:=1) bh
   have G4:=t.cp (k:=4) bh
   have l4:=t.len (k:=4) bh
   have l1:=t.len (k:=1) bh
   rw[E3]at l4;rw[E1]at l1
   have V4:=t.aF (k:=4) bh (by rw[E3];omega) ag
   have ew:cU (v+(z:Int))=v+z:=aP V V
   let⟨T,hw⟩:=cG w ((v+(z:Int)).toNat)
   let⟨wr,Y,I⟩:=t.put (k:=1) (i:=(v+(z:Int)).toNat) bh (by rw[E1];omega) (cU (T+1))
   refine⟨_,G1,_,G4,G,V,v,V4,_,G1,_,G4,G,V,v,V4,?_⟩
   rw[ew]
   refine⟨V,V,T,t.aF (k:=1) bh (by rw[E1];omega) hw,V,V,wr,ab.dv I,ai V _ ⟨w.set (v+(z:Int)).toNat (cU (T+1)),by simp[Z],X.trans I,ab.to I,?_,ad.ah (Or.inl aL) _ _⟩⟩
   have:up (up L 1 w) 1 ((up L 1 w) 1|>.set (v+(z:Int)).toNat (cU (T+1)))=up L 1 (w.set (v+(z:Int)).toNat (cU (T+1))):=by funext j;simp only[up];split<;>rfl
   rw[this]at Y;exact Y
  .refine⟨λ_=>?_,λ_=>.PB X t (N.aR Z)⟩
   have T:(up L 1 w) 5=L 5:=rfl
   have aw:=t.len (k:=5) bh
   rw[T]at aw
   let⟨wr,Y,I⟩:=t.put (k:=5) (i:=A.toNat) bh (by rw[T];omega) (aj.len:Int)
   exact⟨_,t.cp (k:=5) bh,G,V,wr,ab.dv I,.PB (X.trans I) Y ((N.aR Z).tok (by rw[T];simp[n5]))⟩
def Kf(hx:J b m)(gH:∀j,j<b.size->e j=0)(Q:ju e m g p L)(hi:sE f h L)(hn:h<=10^12)(hN:eN b d r f l)(B:ap b a x.args)(D:U0 f l.length c h x):
 aN cg 268 [vp g 0,.agg #[O.v d,O.v r],ph x a o] m (Cu e m g (sE f h)):=by
 apply tH (g,0)
 simp -zeta only[aC,aB,bT]
 intro K H
 have st:=HR.TR (a:=K) (g:=H) hx gH Q.new rfl rfl
 have x2:J m H:=(dD (a:=K) (c:=H) rfl rfl).1
 have c2:To e m e H:=dp.eJ _ x2 Q.new
 clear_value H
 clear_value K
 have aa:=B.len
 have Z:∀{M:E},J b M->At M d r a o f l x:=λxx=>⟨hN.le xx.le,B.ext xx,D.call⟩
 refine dV (n:=x.args.length) (aa▸B.gW) (λ_ M=>∃t T N,sE f h N/\To e m t M/\HR b [K.size,m.size] t M/\ju t M g T N) ⟨e,p,L,hi,c2,st,(Q.ext x2)⟩ ?_
 rintro ab M ag μ ah ⟨S,af,Y,v,P,C,s⟩ ad
 refine⟨λF=>?_,λF=>?_⟩
 .simp only[ar]at F
  let⟨I,G⟩:=cG x.args ab
  let⟨W,X⟩:=D.args I (aq G)
  have N0:=v.len 0 bh
  refine⟨_,s.cp (k:=0) bh,?_⟩
  refine(mM (Z C.ext) (s.nM (k:=0) bh V) (by rw[N0];exact D.args) (h:=ab) V).mono λU m4⟨j,z,q⟩=>⟨λj u=>q.same j (C.box j u).1,j,z,λ_=>⟨V,V,I,(B.ext (C.ext.trans q)).aF G,?_⟩,λ_=>ad V _ ⟨S,af,Y,v,P.trans (dp.eJ _ q s.new),C.ic q,s.ext q⟩⟩
  have w:=C.ic q
  have y:To e m S m4:=P.trans (dp.eJ _ q s.new)
  refine(uS (s.ext q) v hn W X).mono λU m5⟨j,t,z,A,h5⟩=>⟨w.dv A,j,z,λu=>.no (y.trans A),λu=>?_⟩
  obtain⟨T,N,R,ac,hl,rfl⟩:=h5 (by simpa using u)
  exact ad V _ ⟨t,T,_,v.aR hl,y.trans A,w.to A,R⟩
 .refine dV (n:=x.args.length) (aa▸B.gW) (λ_ t=>J M t) (J.az _) ?_
  rintro T M4 I4 μ4 ai q ac
  have w:=C.ic q
  have y:To e m S M4:=P.trans (dp.eJ _ q s.new)
  have t:=s.ext q
  refine⟨λF=>?_,λF=>⟨λae=>?_,λ_=>.PB y t v⟩⟩
  .simp only[ar]at F
   let⟨I,G⟩:=cG x.args T
   let⟨W,X⟩:=D.args I (aq G)
   refine(nU (Z w.ext) (T:Int)).mono λU m5⟨j,z,A⟩=>⟨λj u=>A.same j (w.box j u).1,j,z,λ_=>⟨V,V,I,(B.ext (w.ext.trans A)).aF G,?_⟩,λ_=>ac V _ (q.trans A)⟩
   refine(sO (t.ext A) v hn W X).mono λU m6⟨j,z,N⟩=>⟨λj u=>N.same j (A.lt (w.box j u).1),j,z,λ_=>.no (y.trans (dp.eJ _ (A.trans N) t.new)),λ_=>ac V _ ((q.trans A).trans N)⟩
  .simp only[ar]at ae
   have I:=D.bY
   have u:=v.len 5 bh
   have N:=t.len (k:=5) bh
   have z:cU (x.bY -1)=x.bY -1:=aP V V
   let⟨G,A⟩:=cG (Y 5) ((x.bY -1).toNat)
   let⟨wr,R,j⟩:=t.put (k:=5) (i:=(x.bY -1).toNat) bh V (-1)
   rw[z]
   exact⟨_,t.cp (k:=5) bh,V,V,G,t.aF (k:=5) bh V A,λ_=>.no y,λ_=>⟨_,t.cp (k:=5) bh,V,V,wr,w.dv j,.PB (y.trans j) R (v.tok (by simp[u]))⟩⟩
end
end
section
variable{M:E}
def On(a:Nat->Nat)(m:E):List Nat:=(List.range m.size).filter λb=>a b≠0
def Qp(c:Nat->Nat)(m:E):∀b∈On c m,b<m.size:=λb a=>by simp[On]at a;exact a.1
def Th{d:Nat->Nat}{m a:E}(gH:∀b,b<a.size->d b=0)(e:J a M):Le a (bH (On d m) M):=
 (Ao a).trans (e.bH λb c=>Or.inr (by
  simp[On]at c;exact HL λh=>c.2 (gH b h)))
def dp.aaa{a l:Nat->Nat}{m f:E}(h:To a f l M)(k:∀b,m.size<=b->a b=0):Le (bH (On a m) f) M:=λb o v j=>by
 let⟨d,e⟩:=eT.1 j;have i:=mg e;have g:a b=0:=by
  rcases aW b m.size with c|c
  .simp[On]at d;exact d c
  .exact k b c
 rw[aI (h.eB b i (by simp[g]))];exact e
def RP(c:List bz)(h:List gR)(i:Prop)(b:Bk):Prop:=∀(e:Nat->Nat)(m a:E)(d:Nat)(l:Nat->O)(L:Nat->List Int)(n k:Nat)(g r t:O),J a m->(∀b,b<a.size->e b=0)->ju e m d l L->sE c n L->WB c h.length i n b->n+4*b.w<=10^12->k<=n->eN a g r c h->eS a t b.aD->
 aN cg 326 [vp d 0,.agg #[O.v g,O.v r],.agg #[O.v t,vi b.aU],vi k] m (Cu e m d λf=>(∀j,j<6->(f j).length=k)/\(f 6).length<=10^12)
def Xk(m:E)(n:Nat)(v:Value)(c:E):Prop:=∃(a:Nat)(d:Bool),v=.tuple #[vp a 0,vb d]/\J m c/\(d=true->∃e f L,(∀b,b<m.size->e b=0)/\ju e c a f L/\∀j,j<6->(L j).length=n)
def qd.same{c:List bz}{n b:Nat}{L a:Nat->List Int}(h:qd c n b L)(e:∀k,k<7->a k=L k):qd c n b a:=
 ⟨λk d=>by rw[e k V];exact h.len k d,by rw[e 2 bh];exact h.XB,by rw[e 3 bh,e 4 bh];exact h.Pz,by rw[e 6 bh];exact h.cW⟩
section
variable{o:Nat->Nat}{m g:E}{j:Nat}{f:Nat->O}{L:Nat->List Int}{e:List bz}{h:List gR}{b:Nat}{d r a l:O}{x:cY}{c:Prop}
def RG(hx:J g m)(aE:ju o m j f L)(hi:sE e b L)(P:eN g d r e h)(ha:ap g a x.args)(hk:nI g l x.bC)(hw:WS e h.length c b x)(t:b+4*x.w<=10^12){ab:Nat}{p:Bk}(aa:x.bC[ab]? =some p)(ih:RP e h c p):
 aN cg 307 [vp j 0,.agg #[O.v d,O.v r],ph x a l,vi ab] m (Xk m b):=by
 apply ze (j,0)
 simp -zeta only[aC,aB,bT]
 intro I D
 let⟨x2,hl⟩:=dD (a:=I) (c:=D) rfl rfl
 clear_value D
 clear_value I
 have h2:=aE.ext x2
 have ao:=hi.len
 have l0:=h2.len (k:=0) bh
 have n0:=ao 0 bh
 have aY:=aw aa
 have aZ:=hk.len
 have aX:=wX aa
 have a2:=cY.mw x
 have Y:=hw.bC ab p aa
 have w:=hx.trans x2
 let⟨ae,ht,f0,f1⟩:=hk.aF aa
 refine⟨_,h2.cp (k:=0) bh,?_⟩
 refine(Nu h2 (λu hj=>by
  by_cases A:u<6
  .rw[ao u A];omega
  .have:u=6:=V;subst this;exact hi.cW)).mono λv m3⟨C,z,H,K,aR,s,q,h3,y⟩=>⟨H.VC hl (J.az _)|>λ_=>λp t=>H.same p (hl p t),(C,0),z,?_⟩
 have R:sE e b s:=hi.same y
 have ai:HR D [I.size,m.size] K m3:=⟨H,q,λp t=>⟨H.lt (hl p t),q p (hl p t)⟩⟩
 have iK:∀(M:E)(ac:Nat->Nat)(ah:Nat->O)(X:Nat->List Int)(F:Nat),HR D [I.size,m.size] ac M->ju ac M C ah X->sE e F X->WB e h.length c F p->F<=b+3->b<=F->
  aN cg 326 [vp C 0,.agg #[O.v d,O.v r],.agg #[O.v ae,vi p.aU],vi ((f 0).len:Int)] M λv m'=>eI [I.size,m.size] M m'/\∃S:Bool,v=vb S/\Xk m b (.tuple #[vp C 0,vb S]) m':=λM ac ah X F U aA an aF a1 aG=>by
  have e0:(f 0).len=b:=V
  rw[e0]
  refine(ih ac M D C ah X F b d r ae U.ext U.gH aA an aF V aG (P.le w.le) (ht.le w.le)).mono λv m'⟨S,G,z,c5,N⟩=>⟨U.dv c5,S,z,C,S,rfl,x2.trans (U.to c5).ext,λaJ=>?_⟩
  obtain⟨T,W,A,h7,_⟩:=N aJ
  exact⟨G,T,W,λp t=>(U.to c5).gH p (x2.lt t),A,h7⟩
 refine⟨λB=>?_,λB=>?_⟩
 .simp only[aH]at B
  have ax:=P.bo.le w.le
  obtain⟨aW,_⟩:=hw.fg.all B
  refine(iy (Qp K m3) (ax.le H.le) P.types x.bP).mono λv m4⟨s4,l4,z,aK,e4,x4⟩=>⟨λp t=>x4.same p (ai.box p t).1,s4,z,?_⟩
  subst e4
  let⟨q,av⟩:=cG (cA e x.bP) ab
  have ay:=aK.le (bA _ _)
  have l4:=ay.len
  refine⟨V,V,q,ay.aF av,?_⟩
  have ad:=ai.ic x4
  have h4:=h3.ext x4
  refine(dJ (Qp K m4) (ax.le (Th ad.gH ad.ext)) P.types q).mono λv m5⟨s5,l5,z,az,e5,x5⟩=>⟨λp t=>x5.same p (ad.box p t).1,s5,z,?_⟩
  subst e5
  have ak:=ad.ic x5
  have N:=h4.ext x5
  have aU:=hw.fg.lM (Or.inr (Or.inr B))
  let⟨y,hy⟩:=cG x.args 0
  let⟨y0,y1⟩:=hw.fg.args y (aq hy)
  have aV:=ha.len
  have N5:=R.len
  have a3:=N.len (k:=3) bh
  have F:=N5 3 bh;have n4:=N5 4 bh
  have ag:∀{M:E},J D M->af M a.D (a.off+Int.toNat (0:Int)*1)=some (vi y):=λxx=>(ha.ext (w.trans xx)).aF hy
  let⟨w6,A,c6⟩:=N.put (k:=3) (i:=y.toNat) bh V q
  refine⟨_,N.cp (k:=3) bh,V,V,y,ag ak.ext,y0,V,w6,?_⟩
  intro m6
  have al:=ak.to c6
  let⟨w7,h7,c7⟩:=A.put (k:=4) (i:=y.toNat) bh (by show _<(s 4).length;omega) ((f 0).len:Int)
  have aL:=A.len (k:=4) bh
  have aD:up s 3 ((s 3).set y.toNat q) 4=s 4:=rfl
  rw[aD]at aL
  refine⟨ak.dv c6,_,A.cp (k:=4) bh,V,V,y,ag al.ext,y0,V,w7,?_⟩
  intro m7
  have aT:=al.to c7
  have F3:=Ga P.types q
  have e0:((f 0).len:Int)=b:=V
  have i7:qd e b (b+(cE e q).length) (up (up s 3 ((s 3).set y.toNat q)) 4 ((s 4).set y.toNat ((f 0).len:Int))):=by
   refine⟨λu hj=>?_,λv aO hp=>R.XB v aO (by simpa[up]using hp),λv c ar hc hf h1=>?_,by simpa[up]using R.cW⟩
   .rcases u with _|_|_|_|_|_|u<;>first|omega|(simp[up,N5])
   .have Q:((s 3).set y.toNat q)[v]? =some c:=by simpa[up]using hc
    have Z:((s 4).set y.toNat ((f 0).len:Int))[v]? =some ar:=by simpa[up]using hf
    by_cases ev:y.toNat=v
    .subst ev;rw[dx V]at Q Z;simp at Q Z;subst Q;omega
    .rw[cw ev]at Q Z;have:=R.Pz v c ar Q Z h1;omega
  have a0:=az.len
  refine⟨al.dv c7,?_⟩
  refine dV (n:=(cE e q).length) V (λu M=>∃G T W,qd e (b+u) (b+(cE e q).length) W/\To K m5 G M/\HR D [I.size,m.size] G M/\ju G M C T W) ⟨K,_,_,i7,c6.trans c7,aT,h7⟩ ?_
  rintro u M an μ hj ⟨aQ,aS,L8,Z,c8,C,au⟩ aM
  refine dit (λaI=>?_) λaI=>?_
  .let⟨am,hz⟩:=cG (cE e q) u
   refine⟨V,V,am,(az.le (c8.aaa h4.new)).aF hz,V,V,y,ag C.ext,?_⟩
   exact(Be au (λaP Q=>by rw[Z.len aP Q];omega) am 0 y).mono λv M'⟨G,T,Q,h9⟩=>⟨C.dv Q,aM V _ ⟨G,T,_,by rw[<-dj];exact Z.OY am 0 V,c8.trans Q,C.to Q,h9⟩⟩
  .have Q:u=(cE e q).length:=V
   subst Q
   rw[KY B av]at Y
   exact⟨V,V,ae,(w.trans C.ext).af f0,p.aU,(w.trans C.ext).af f1,iK M aQ aS L8 _ C au Z Y V V⟩
 .simp only[aj]at B
  rw[KZ B]at Y
  exact⟨V,V,ae,(w.trans H).af f0,p.aU,(w.trans H).af f1,iK m3 K aR s b ai h3 R Y V V⟩
end
end
section
def _root_.Go.Vc.Wc{n b:Nat}(g:b<=n)(o:n<=9223372036854775807){m:E}{e:(Int->E->Prop)->(Int->E->Nat)->Int->E->Prop}(Q:Nat->E->Prop)(f:Q b m)
 (h:∀(k:Nat)(a:E)(I:Int->E->Prop)(μ:Int->E->Nat),b<=k->k<=n->Q k a->
  (k<n->∀c,Q (k+1) c->I (cU ((k:Int)+1)) c/\μ (cU ((k:Int)+1)) c<μ k a)->e I μ k a):
 ∃(I:Int->E->Prop)(μ:Int->E->Nat),I b m/\∀i a,I i a->e I μ i a:=by
 refine⟨λi c=>∃k:Nat,i=k/\b<=k/\k<=n/\Q k c,λi _=>(n -i).toNat,⟨b,rfl,ad _,g,f⟩,?_⟩
 rintro i a ⟨k,rfl,j,l,p⟩
 refine h k a _ _ j l p λd c q=>?_
 rw[kG d o]
 exact⟨⟨k+1,rfl,V,d,q⟩,DK d⟩
section
variable{b:Nat->Nat}{m f:E}{e:Nat}{o:Nat->O}{L:Nat->List Int}{g:List bz}{l:List gR}{h:Nat}{d r i j:O}{x:cY}{c:Prop}
def Ns(hx:J f m)(gH:∀p,p<f.size->b p=0)(t:ju b m e o L)(hi:sE g h L)(hN:eN f d r g l)(ha:ap f i x.args)(hk:nI f j x.bC)(P:WS g l.length c h x)(q:h+4*x.w<=10^12)(au:x.op=7\/x.op=8)(ih:∀p∈x.bC,RP g l c p):
 aN cg 267 [vp e 0,.agg #[O.v d,O.v r],ph x i j] m (Cu b m e (sE g h)):=by
 apply vu (e,0)
 simp -zeta only[aC,aB,bT]
 intro X I
 have st:=HR.TR (a:=X) (g:=I) hx gH t.new rfl rfl
 let⟨Q,D⟩:=dD (a:=X) (c:=I) rfl rfl
 clear_value I
 clear_value X
 have al:=hk.len
 have aG:=ha.len
 have aE:=P.fg.lM V
 have am:0<x.bC.length:=by
  rcases au with U|h8
  .have:=P.fg.KF U;omega
  .exact(P.fg.all h8).2
 have N:∀{M:E},J I M->To b m b M:=λz=>dp.eJ _ (Q.trans z) t.new
 have ag:∀(M:E)(H:Nat)(p:Bk),J I M->x.bC[H]? =some p->aN cg 307 [vp e 0,.agg #[O.v d,O.v r],ph x i j,vi H] M (Xk M h):=λM H p z ah=>
  RG (hx.trans (Q.trans z)) (t.ext (Q.trans z)) hi hN ha hk P q ah (ih p (aq ah))
 refine⟨λM=>J I M,⟨λ_=>?_,λ_=>J.az _⟩,?_⟩
 .let⟨y,u⟩:=cG x.args 0
  let⟨w,A⟩:=P.fg.args y (aq u)
  refine⟨bh,V,y,(ha.ext st.ext).aF u,?_⟩
  exact(sO (t.ext Q) hi V w A).mono λZ Y⟨p,s,v⟩=>⟨λp q=>v.same p (D p q),p,s,λ_=>.no (N v),λ_=>v⟩
 .intro Y v
  let⟨b0,ak⟩:=dB am
  refine(ag Y 0 b0 v ak).mono λZ m4⟨ac,ay,s,R,h1⟩=>⟨λp q=>R.same p (v.lt (D p q)),(ac,0),ay,s,λ_=>.no (N (v.trans R)),λab=>?_⟩
  let⟨az,ad,L1,ai,h1,n1⟩:=h1 (by simpa using ab)
  have av:=n1 1 bh;have aw:=n1 5 bh
  refine Wc (n:=x.bC.length) (b:=1) V (al▸hk.gW) (λ_ M=>J m4 M) (J.az _) ?_
  rintro H M aD μ aF aH S ax
  have y:=(v.trans R).trans S
  have A:=h1.ext S
  refine⟨λW=>?_,λW=>?_⟩
  .simp only[ar]at W
   let⟨p,q⟩:=cG x.bC H
   refine(ag M H p y q).mono λZ m6⟨aa,aj,s,u,C⟩=>⟨λp q=>u.same p (y.lt (D p q)),(aa,0),aj,s,λ_=>.no (N (y.trans u)),λab=>?_⟩
   let⟨aL,aM,L2,aK,C,n2⟩:=C (by simpa using ab)
   have ao:=n2 1 bh;have aJ:=n2 5 bh
   have B:=A.ext u
   refine⟨_,B.cp (k:=1) bh,_,C.cp (k:=1) bh,?_⟩
   refine(qJ (B.nM (k:=1) bh V) (C.nM (k:=1) bh V)).mono λZ m7⟨F,s,_,w⟩=>⟨λp q=>w.same p (u.lt (y.lt (D p q))),F,s,λ_=>.no (N (y.trans (u.trans w))),λ_=>?_⟩
   have T:=B.ext w
   have U:=C.ext w
   refine⟨_,T.cp (k:=5) bh,_,U.cp (k:=5) bh,?_⟩
   refine(qJ (T.nM (k:=5) bh V) (U.nM (k:=5) bh V)).mono λZ m8⟨F,s,_,K⟩=>⟨λp q=>K.same p (w.lt (u.lt (y.lt (D p q)))),F,s,λ_=>.no (N (y.trans (u.trans (w.trans K)))),λ_=>?_⟩
   exact ax V _ (S.trans (u.trans (w.trans K)))
  .let w:Nat->Nat:=λp=>if p<Y.size then b p else az p
   have uu:=Q.trans v
   have z:=uu.trans (R.trans S)
   have z4:=R.size;have zM:=S.size;have T:=uu.size
   have K:∀p,p<Y.size->w p=b p:=λp q=>an q
   have H0:ju w M e o L:=by
    refine⟨λp q=>?_,by rw[K _ (aO t.box.lt T)];exact t.gX,(t.ext z).box,λu F=>(t.qe u F).eB (λB=>z.same _ ((t.qe u F).D B).1) λB=>K _ (aO ((t.qe u F).D B).1 T)⟩;simp only[w];rw[ae V];exact A.new p q
   have aa:∀u,u<7->iI w M aA 1 (u+1) (ad u) ((L1 u).map Ce.i):=λu F=>(A.qe u F).eB (λ_=>rfl) λB=>by
    have C:=((A.qe u F).D B).2;simp only[w];rw[ae λW=>by rw[ai _ W]at C;omega]
   have c3:To b m w M:=⟨z.size,λp q=>K p (aO q T),H0.new,λp q _=>z.same p q⟩
   have aj:HR f [X.size,m.size] w M:=⟨st.ext.trans y,λp q=>by rw[K p (aO (aO q hx.size) T)];exact gH p q,λp q=>⟨y.lt (D p q),by rw[K p (v.lt (D p q))];exact(st.box p q).2⟩⟩
   clear_value w
   refine⟨_,A.cp (k:=1) bh,?_⟩
   let⟨w5,h5,c5⟩:=H0.XD (k:=1) bh (aa 1 bh)
   refine⟨w5,?_⟩
   intro m9
   have ao:ac≠e:=λs=>by
    have h8:=A.gX;rw[s,ai _ (aO t.box.lt T)]at h8;omega
   have G:af m9 ac 5=some (O.v (ad 5)):=(aI (be _ _ _ _ ao) _).trans (A.cp (k:=5) bh)
   have A5:iI w m9 aA 1 (5+1) (ad 5) ((L1 5).map Ce.i):=by
    refine(aa 5 bh).eB (λB=>be _ _ _ _ λs=>?_) λ_=>rfl;have:=((aa 5 bh).D B).2;rw[s,H0.gX]at this;omega
   let⟨w6,h6,c6⟩:=h5.XD (k:=5) bh A5
   exact⟨aj.dv c5,_,G,w6,(aj.to c5).dv c6,.PB ((c3.trans c5).trans c6) h6 ((hi.aR av).tok aw)⟩
end
end
section
section
variable{b:Nat->Nat}{m g:E}{f:Nat}{l:Nat->O}{L:Nat->List Int}{e:List bz}{h:List gR}{n:Nat}{d r a j:O}{x:cY}{c:Prop}
def Hi(hx:J g m)(gH:∀o,o<g.size->b o=0)(aa:ju b m f l L)(w:sE e n L)(U:eN g d r e h)(D:ap g a x.args)(hk:nI g j x.bC)(F:WS e h.length c n x)(u:n+4*x.w<=10^12)(ih:∀o∈x.bC,RP e h c o):
 aN cg 244 [vp f 0,.agg #[O.v d,O.v r],ph x a j] m (Cu b m f (sE e (n+dn x))):=by
 apply xL (f,0)
 simp -zeta only[aC,aB,bT]
 intro R X
 have S:=HR.TR (a:=R) (g:=X) hx gH aa.new rfl rfl
 have x2:J m X:=(dD (a:=R) (c:=X) rfl rfl).1
 clear_value X
 clear_value R
 have h2:=aa.ext x2
 have ao:=D.len
 have ar:=cY.mw x
 have N0:=w.len 0 bh
 refine⟨_,h2.cp (k:=0) bh,?_⟩
 refine(od (U.le S.ext.le) (h2.nM (k:=0) bh V) (D.ext S.ext) (hk.le S.ext.le) V (λo _=>nu o)).mono λA m3⟨G,t,_,x3⟩=>⟨λo u=>x3.same o (S.box o u).1,G,t,?_⟩
 have s:=S.ic x3
 have C:=h2.ext x3
 have P:To b m b m3:=dp.eJ _ (x2.trans x3) aa.new
 have lM:14<=x.op\/x.op=7\/x.op=8->∃y:Int,x.args[0]? =some y/\0<=y/\y<(n:Int):=λho=>by
  have:=F.fg.lM ho;let⟨y,K⟩:=cG x.args 0;exact⟨y,K,F.fg.args y (aq K)⟩
 refine⟨λok M=>∃v,To b m v M/\HR g [R.size,m.size] v M/\(ok=true->∃Z N,ju v M f Z N/\sE e n N),⟨λai=>?_,λau=>⟨λaj=>?_,λav=>⟨λak=>?_,λaw=>⟨λh7=>?_,λn7=>?_⟩⟩⟩⟩,?_⟩
 .simp only[aH]at ai
  let⟨y,K,B,W⟩:=lM V
  have ac:=F.fg.lM V
  have Y:∀{M:E},J g M->af M a.D (a.off+Int.toNat (0:Int)*1)=some (vi y):=λT=>(D.ext T).aF K
  refine⟨bh,V,y,Y s.ext,?_⟩
  refine(sO C w V B W).mono λA H⟨o,t,q⟩=>⟨λo u=>q.same o (s.box o u).1,o,t,?_⟩
  have p:=C.ext q
  have z:=s.ic q
  have N1:=w.len 1 bh
  have l1:=p.len (k:=1) bh
  let⟨ab,ad⟩:=cG (L 1) y.toNat
  let⟨wr,Q,I⟩:=p.put (k:=1) (i:=y.toNat) bh V (cU (ab+1))
  exact⟨_,p.cp (k:=1) bh,bh,V,y,Y z.ext,_,p.cp (k:=1) bh,bh,V,y,Y z.ext,B,V,ab,p.aF bh V ad,B,V,wr,z.dv I,b,(P.trans (dp.eJ _ q C.new)).trans I,z.to I,λ_=>⟨l,_,Q,w.aR (by simp[N1])⟩⟩
 .simp only[aH]at aj
  let⟨y,K,B,W⟩:=lM V
  have ac:=F.fg.lM V
  refine⟨bh,V,y,(D.ext s.ext).aF K,?_⟩
  refine(uS C w V B W).mono λA H⟨o,v,t,q,p⟩=>⟨s.dv q,o,t,v,P.trans q,s.to q,λu=>?_⟩
  obtain⟨Z,N,Q,ab,Y,rfl⟩:=p u
  exact⟨Z,_,Q,w.aR Y⟩
 .simp only[bQ,aH]at ak
  refine(Qx s.ext s.gH C w V U D F.fg V).mono λA H⟨o,v,t,q,p⟩=>⟨s.dv q,o,t,v,P.trans q,s.to q,p⟩
 .simp only[bQ,aH]at h7
  refine(Ns s.ext s.gH C w U D hk F u h7 ih).mono λA H⟨o,v,t,q,p⟩=>⟨s.dv q,o,t,v,P.trans q,s.to q,p⟩
 .refine(Kf s.ext s.gH C w V U D F.fg).mono λA H⟨o,v,t,q,p⟩=>⟨s.dv q,o,t,v,P.trans q,s.to q,p⟩
 .rintro ok M ⟨ax,q,z,p⟩
  refine⟨λ_=>.no q,λam=>?_⟩
  let⟨ay,L4,p,i4⟩:=p (by simpa using am)
  have gr:∀{M':E}(G Y:Int),J M M'->dn x=1->aN cg 264 [vp f 0,vi G,vi Y,vi (-1:Int)] M' λ_ m'=>eI [R.size,m.size] M' m'/\Cu b m f (sE e (n+dn x)) (vb true) m':=λG Y T hd=>
   (Be (p.ext T) (λH B=>by rw[i4.len H B];omega) G Y (-1)).mono λ_ m'⟨v,Z,I,Q⟩=>⟨(z.ic T).dv I,.PB ((q.trans (dp.eJ _ T p.new)).trans I) Q (by rw[hd];exact(i4.OY G Y V).DU V)⟩
  refine(jQ x.op M).mono λA m5⟨o,t,ab,B⟩=>⟨λo u=>B.same o (z.box o u).1,o,t,λag=>⟨λ_=>gr G 1 B (by have:=tj x o ab;rw[an ag]at this;exact this),λ_=>?_⟩,λal=>?_⟩
  .refine(jQ x.op m5).mono λA m6⟨N,t,W,H⟩=>⟨λo u=>H.same o (B.lt (z.box o u).1),N,t,λad=>gr 0 0 (B.trans H) (by have:=tj x N W;rw[an ad]at this;exact this),λac=>?_⟩
   have:=W.2 (ab.1 ag);rw[this]at ac;simp at ac
  .have ah:=tj x o ab
   rw[ae (by simp[al])]at ah
   exact(jQ x.op m5).mono λA m6⟨N,t,W,H⟩=>⟨λo u=>H.same o (B.lt (z.box o u).1),N,t,λad=>gr 0 0 (B.trans H) (by have:=tj x N W;rw[an ad]at this;exact this),λac=>.PB (q.trans (dp.eJ _ (B.trans H) p.new)) (p.ext (B.trans H)) (by rw[ah];exact i4)⟩
end
def Ny{B:List bz}{rs:List gR}{H:Prop}:∀b:Bk,RP B rs H b:=by
 refine Bk.ind ?_;intro aD ac ih r p mb E sl L aa D af am ap Y gH t Q W o hk O x;simp only[Bk.jV,Bk.jw,Bk.qL]at*;apply wF (E,0);simp -zeta only[aC,aB,bT];intro q m;have st:=HR.TR (a:=q) (g:=m) Y gH t.new rfl rfl;have F:J p m:=(dD (a:=q) (c:=m) rfl rfl).1;have I:To r p r m:=dp.eJ _ F t.new;clear_value m;clear_value q;let⟨C,y,r1⟩:=W.aS;simp only[Bk.jV,Bk.jw]at C y r1;have U:=x.len;have T:=BV aD;refine dV (n:=aD.length) (U▸x.gW) (λi M=>∃g s h,sE B (aa+dc (aD.take i)) h/\To r p g M/\HR mb [q.size,p.size] g M/\ju g M E s h) ⟨r,sl,L,by simpa using Q,I,st,t.ext F⟩ ?_;rintro i M ad μ ah ⟨an,ao,G,f,j,c,d⟩ ab
 have ag:=tg (aD.take i);have ai:=qN i aD;have aj:=fZ (aD.take i);refine dit (λS=>?_) λS=>?_
 .let⟨w,l⟩:=cG aD i;let⟨ae,kk,P,R,z,g1,g2,K,N⟩:=x.aF l;have al:=pX l;have ak:=T (i+1);have X:=c.ext;refine⟨V,V,_,X.af z,_,X.af g1,_,X.af g2,_,X.af K,_,X.af N,?_⟩;refine(Hi X c.gH d f O P R (C i w l) V (ih w (aq l))).mono λA m4⟨b,g,e,a,u⟩=>⟨c.dv a,b,e,λ_=>.no (j.trans a),λo=>?_⟩;let⟨s,h,v,Z⟩:=u (by simpa using o);exact ab V _ ⟨g,s,h,by rw[(qQ l),<-dj];exact Z,j.trans a,c.to a,v⟩
 .have K:i=aD.length:=V;rw[K,fx]at f;have ae:=tg aD;have ak:=fZ aD;have Z:=f.len 0 bh;have l0:=d.len (k:=0) bh;let⟨X,P⟩:=cG (G 0) ac.toNat;refine⟨_,d.cp (k:=0) bh,y,V,X,d.aF bh V P,λ_=>?_,λ_=>?_⟩
  .refine(uS d f V y V).mono λA m4⟨b,g,e,a,u⟩=>⟨c.dv a,b,e,λ_=>.no (j.trans a),λo=>?_⟩;obtain⟨s,h,v,al,N,rfl⟩:=u (by simpa using o);refine(Mo v (f.aR N) V (b:=D) V).mono λA R⟨b,z,e,l,w⟩=>⟨(c.to a).dv l,b,e,b,z,rfl,(j.trans a).trans l,w⟩
  .refine(Mo d f V (b:=D) V).mono λA R⟨b,z,e,l,w⟩=>⟨c.dv l,b,e,b,z,rfl,j.trans l,w⟩
def Yj(m:E)(f:List bz)(q:gR)(j:Int)(v:Value)(c:E):Prop:=∃(a:Nat)(d:Bool),v=.tuple #[vp a 0,vb d]/\J m c/\(d=true->0<=j/\j<=q.body.aD.length/\∃e g L,(∀b,b<m.size->e b=0)/\ju e c a g L/\sE f (q.params.length+dc (q.body.aD.take j.toNat)) L)
def EX{m:E}{I T:O}{f:List bz}{z:List gR}{ab:Prop}{W:Nat}(h:eN m I T f z)(P:yD f z ab W)(hW:W<=200000000000){K:Nat}{a:gR}(w:z[K]? =some a){j:Int}(hj: -9000000000000000000<=j/\j<=9000000000000000000):
 aN cg 224 [.agg #[O.v I,O.v T],vi K,vi j] m (Yj m f a j):=by
 apply xI
 simp -zeta only[aC,aB]
 intro k
 have D:J m k:=J.push _ _
 have g:∀b∈[m.size],b<k.size:=by simp[k]
 clear_value k
 have aH:=h.iX.len;have aG:=h.oG
 have aE:=aw w
 let⟨ah,af,ak,hw⟩:=P.dz a (aq w)
 let⟨aM,aO,b,c1,c2,H,e0,e1,e2,v,e4⟩:=h.iX.aF w
 have x:∀{M:E}{an:Obj},J m M->Yj m f a j (.tuple #[vp M.size 0,vb false]) (M.push an):=λxx=>⟨_,false,rfl,xx.aK _,aL⟩
 refine(Fp (h.le D.le) (λd c=>oh (P.dz d c))).aG (J.az k) g λv1 m2 F _=>⟨_,rfl,λ_=>x (D.trans F),λ_=>?_⟩
 have Y:=D.trans F
 refine(aZ _ _ _ _).aG F g λv2 m3 _ Z v3=>⟨_,rfl,λ_=>x (Y.trans Z),λ_=>?_⟩
 have B:=Y.trans Z
 have az:=H.len
 refine⟨V,V,_,B.af v,?_⟩
 refine(aZ _ _ _ _).aG v3 g λv4 R ac x4 C=>⟨_,rfl,λ_=>x (B.trans x4),λaj=>?_⟩
 have c:=B.trans x4
 have hr:=ac.1 (by simpa using aj)
 refine⟨V,V,_,c.af e0,_,c.af e1,_,c.af e2,_,c.af v,_,c.af e4,?_⟩
 refine(I9 (q:=a) (c1.ext c) (c2.ext c) ah af f).mono λau S⟨t,u,G,y,sl,aa,gH,L,i5⟩=>⟨λb d=>G.same b (C.lt (g b d)),(t,0),u,?_⟩
 obtain⟨al,_,_⟩:=ak.aS
 have aA:=Bk.mw a.body
 have ai:=BV a.body.aD
 have ar:HR R [m.size] y S:=⟨G,gH,λb d=>⟨G.lt (C.lt (g b d)),gH b (C.lt (g b d))⟩⟩
 have e6:j=((j.toNat:Nat):Int):=V
 obtain⟨s,ad⟩:∃s:Nat,j=s:=⟨j.toNat,e6⟩
 subst ad
 simp only[tX]
 refine dV (n:=s) V (λi M=>∃l A o,sE f (a.params.length+dc (a.body.aD.take i)) o/\To y S l M/\HR R [m.size] l M/\ju l M t A o) ⟨y,sl,aa,by simpa using i5,L.to,ar,L⟩ ?_
 rintro i M ax μ aF ⟨ao,ap,L6,Q,c6,e,N⟩ am
 have U:J m M:=c.trans e.ext
 refine dit (λag=>?_) λag=>?_
 .let⟨av,r⟩:=cG a.body.aD i
  let⟨ay,kk,ha,ae,g0,g1,g2,g3,g4⟩:=(H.le c.le).aF r
  have X:=e.ext
  have aK:=pX r
  have aJ:=ai (i+1)
  have aD:=tg (a.body.aD.take i)
  have aI:=fZ (a.body.aD.take i)
  refine⟨V,V,_,U.af v,V,V,_,X.af g0,_,X.af g1,_,X.af g2,_,X.af g3,_,X.af g4,?_⟩
  refine(Hi X e.gH N Q (h.le c.le) ha ae (al i av r) V (λb _=>Ny b)).mono λau m7⟨b,l,u,p,h7⟩=>⟨e.dv p,b,u,λ_=>⟨t,false,rfl,c.trans (e.to p).ext,aL⟩,λd=>?_⟩
  let⟨A,o,h8,i8⟩:=h7 (by simpa using d)
  exact am V _ ⟨l,A,o,by rw[qQ r,<-dj];exact i8,c6.trans p,e.to p,h8⟩
 .have l:i=s:=V
  subst l
  exact⟨t,true,rfl,U,λ_=>⟨V,V,ao,ap,L6,λb d=>e.gH b (c.lt d),N,by simpa using Q⟩⟩
end
section
variable{f d:Int}{c P:Nat}{m:E}
def Sz(a:0<=f)(b:0<d):0<=f.tmod d/\f.tmod d<d:=⟨Int.tmod_nonneg _ a,Int.tmod_lt_of_pos _ b⟩
def Ov(a:0<=f)(b:0<d):0<=f.tdiv d/\f.tdiv d<=f:=by
 rw[p7 a];exact⟨Int.ediv_nonneg a V,Int.ediv_le_self _ a⟩
def VJ{b:Int}(e:0<=f/\f<4611686018427387904)(g:0<=b/\b<4611686018427387904):0<=VI f b:=by
 unfold VI;have a:(f%18446744073709551616).toNat<2^62:=V;have c:(b%18446744073709551616).toNat<2^62:=V;have d:=Nat.xor_lt_two_pow a c;rw[aP V V];omega
def Rd(c:Nat)(a:O)(P:Nat)(m:E):Prop:=(∃p:Int,cF m c pZ [.s a,.i p]/\0<=p/\p<=P)/\a.len<=a.cap/\∀k:Nat,k<a.len->∃v:Int,0<=v/\v<=255/\af (bH [c] m) a.D (a.off+k*1)=some (.int .u8 v)
def Rd.mono{Q:Nat}{a:O}(h:Rd c a P m)(g:P<=Q):Rd c a Q m:=let⟨⟨p,b,d,f⟩,e⟩:=h;⟨⟨p,b,d,V⟩,e⟩
def Rd.lt{c P:Nat}{a:O}{m:E}(h:Rd c a P m):c<m.size:=let⟨⟨_,b,_⟩,_⟩:=h;b.lt
def Rd.Nj{f:Nat}{b:O}{e M a:E}(d:Rd c b f e)(h:Rd c b P M)(l:Fz [c] e a)(k:a[c]? =M[c]?):Rd c b P a:=by
 obtain⟨⟨p,g,i,j⟩,_⟩:=h;exact⟨⟨p,g.congr k,i,j⟩,d.2.1,λo m=>let⟨v,q,r,n⟩:=d.2.2 o m;⟨v,q,r,l.dg (λ_ h=>h) _ _ _ n⟩⟩
def Rd.ext{a:O}{d:E}(h:Rd c a P m)(b:J m d):Rd c a P d:=h.Nj h (b.fz _) (b.same _ h.lt)
def Rd.ah{c g P:Nat}{a:O}{d M:E}(f:Rd c a g d)(h:Rd c a P M)(j:Fz [c] d M){b:Nat}(i:d.size<=b)(o:Nat)(l:List Ce):Rd c a P (ah M b o l):=
 f.Nj h (j.ah (Or.inr i) o l) (be _ _ _ _ λe=>oh f.lt)
def Yr(c:Nat)(b:O)(P:Nat)(m:E)(d:Int)(v:Value)(a:E):Prop:=∃k:Int,v=vi k/\0<=k/\(k<d\/k=0)/\Rd c b (P+1) a/\Fz [c] m a
def cq{e:O}(s:Rd c e P m)(hP:P<=10^16)(d:Int):aN cg 40 [vp c 0,vi d] m (Yr c e P m d):=by
 let⟨⟨p,t,q,p1⟩,X,E⟩:=s;apply xQ (c,0);simp -zeta only[bT];have g1:af m c 1=some (vi p):=t.cp 1;refine⟨p,g1,t.fL aL,?_⟩;intro g;have U:cU (p+1)=p+1:=aP V V;have T:cU (p+1 -1)=p:=by rw[show p+1 -1=p by omega];exact aP V V
 have w:cF g c pZ [.s e,.i (p+1)]:=by rw[<-U];exact cF.ah (m:=m) (r:=[.i (cU (p+1))]) (o:=1) t
 have A:Fz [c] m g:=(Fz.az [c] m).ah (Or.inl aL) _ _;have F:Le (bH [c] m) (bH [c] g):=A.dg λ_ s=>s;clear_value g;have R:∀k:Int,0<=k->(k<d\/k=0)->Yr c e P m d (vi k) g:=λk C D=>⟨k,rfl,C,D,⟨⟨p+1,w,V,V⟩,X,λj f=>let⟨v,i,l,h⟩:=E j f;⟨v,i,l,F _ _ _ h⟩⟩,A⟩;have f:af g c 0=some (O.v e):=w.cp 0;have g1:af g c 1=some (vi (p+1)):=w.cp 1;have B:∀j:Int,0<=j->j<(e.len:Int)->∃v:Int,0<=v/\v<=255/\af g e.D (e.off+j.toNat*1)=some (.int .u8 v):=λj C D=>by
  let⟨v,i,l,h⟩:=E j.toNat V;exact⟨v,i,l,(eT.1 (F _ _ _ h)).2⟩
 refine⟨λ_=>R 0 (bZ _) (Or.inr rfl),λZ=>⟨_,f,λ_=>R 0 (bZ _) (Or.inr rfl),λY=>?_⟩⟩;simp only[bM]at Z;simp only[aj]at Y;have G:0<d:=V;refine⟨_,g1,_,f,?_⟩;rw[T];refine⟨λz=>?_,λ_=>?_⟩
 .simp only[ar]at z;let⟨v,i,l,h⟩:=B p q z;refine⟨_,f,q,z,v,h,V,?_⟩;rw[aP V V];have:=Sz i G;exact R _ this.1 (Or.inl this.2)
 .have y:(0:Int)<(e.len:Int):=V;let⟨I,J⟩:=Sz q y;let⟨v,i,l,h⟩:=B _ I J;have S:cU (cU (p*7)+3)=p*7+3:=by rw[aP (b:=p*7) V V,aP V V]
  let⟨K,L⟩:=Sz (f:=p*7+3) V y;let⟨u,u0,u1,hu⟩:=B _ K L;let⟨d0,d1⟩:=Ov q y;rw[S];refine⟨_,f,_,f,V,I,J,v,h,_,f,_,f,V,K,L,u,hu,_,f,V,bh,V,?_⟩;have M:cU (cU v*131)=v*131:=by rw[aP (b:=v) V V,aP V V]
  have N:cU (cU u*1117)=u*1117:=by rw[aP (b:=u) V V,aP V V]
  have E3:cU (p*29)=p*29:=aP V V;have Q:cU (cU (p.tdiv e.len)*53)=p.tdiv e.len*53:=by rw[aP (b:=p.tdiv e.len) V V,aP V V]
  rw[M,N,E3,Q,aP (b:=v*131+u*1117) V V,aP (b:=v*131+u*1117+p*29) V V,aP (b:=v*131+u*1117+p*29+p.tdiv e.len*53) V V];have H:0<=v*131+u*1117+p*29+p.tdiv e.len*53:=V;let⟨q0,q1⟩:=Ov (d:=64) H bh;rw[aP (b:=Int.tdiv _ 64) V V];have W:=VJ (f:=v*131+u*1117+p*29+p.tdiv e.len*53) (b:=(v*131+u*1117+p*29+p.tdiv e.len*53).tdiv 64) ⟨H,V⟩ ⟨q0,V⟩;let⟨z0,z1⟩:=Sz W G;exact R _ z0 (Or.inl z1)
def kE{a:O}(h:Rd c a P m)(j:P<=10^16){s:O}{l:List Int}(d:ap (bH [c] m) s l)(o:0<l.length):
 aN cg 39 [vp c 0,O.v s] m λv f=>∃k:Int,v=vi k/\k∈l/\Rd c a (P+1) f/\Fz [c] m f:=by
 apply zh (c,0)
 have p:=d.len
 refine(cq h j (s.len:Int)).mono λv r⟨k,g,n,q,i,b⟩=>⟨k,g,n,V,?_⟩
 let⟨x,e⟩:=cG l k.toNat
 exact⟨x,(eT.1 ((b.dg (λ_ h=>h)) _ _ _ (d.aF e))).2,x,rfl,aq e,i,b⟩
end
section
variable{d:List Nat}{c:E}
def _root_.Go.Vc.Gr.set{α:Type}{d X:List Nat}{t c:E}{z f:Nat}{R:E->List Ce->α->Prop}{s:O}{y:List α}(w:oD f R)(h:Gr d t c z f R s y)(hf:Fz X t c){k:Nat}(I:k<y.length){cs:List Ce}{a:α}(F:R (bH (s.D::d) c) cs a):
 fL c s.D (s.off+k*f) f/\Gr d t (ah c s.D (s.off+k*f) cs) z f R s (y.set k a)/\Fz X t (ah c s.D (s.off+k*f) cs)/\(∀g,g≠s.D->(ah c s.D (s.off+k*f) cs)[g]? =c[g]?):=by
 have hy:=h.bn
 let⟨C,e,D,j⟩:=h
 have ab:∀g,g≠s.D->(ah c s.D (s.off+k*f) cs)[g]? =c[g]? :=λg Z=>be _ _ _ _ Z
 let⟨g,i,tail,u,Q,A,S,T⟩:=D.aF.resolve_left C
 have H:=w.len F
 let⟨l,x⟩:=cG e k (by rw[j.len];exact I)
 have af:=j.size l (aq x)
 have M:s.off+k*f=k*f:=by rw[u];simp
 have G:s.D=g:=by rw[u];rfl
 have J:=aw x
 have N:e=e.take k++l::e.drop (k+1):=by
  have v:=List.getElem?_eq_some_iff.1 x;let⟨W,Y⟩:=v;rw[<-Y,<-qj W,dm]
 have ad:(e.take k).flatten.length=k*f:=by rw[cx λi n=>j.size i (dA n),gK,jf V]
 have ac:e.set k cs=e.take k++cs::e.drop (k+1):=by
  rw[PC,an J]
 have aa:je (e.flatten++tail) (k*f) cs=(e.set k cs).flatten++tail:=by
  have U:e.flatten++tail=(e.take k).flatten++(l++((e.drop (k+1)).flatten++tail)):=by
   conv=>lhs;rw[N]
   simp
  rw[U,<-ad,Cq _ _ _ bF,ac];rw[show cs.length=l.length by omega,List.drop_left];simp
 have L:(e.set k cs).flatten.length=e.flatten.length:=by
  rw[cx (b:=f) λi n=>?_,cx j.size,eg];rcases cD n with h|h
  .exact j.size i h
  .rw[h];exact H
 have K:Le (bH (s.D::d) c) (bH (s.D::d) (ah c s.D (s.off+k*f) cs)):=cB aL λ_ h=>h
 refine⟨?_,⟨C,e.set k cs,⟨by rw[L];exact D.len,Or.inr ⟨g,i,tail,u,Q,?_,?_,T⟩⟩,⟨by simp[j.len],λi n=>?_,λP i ae p q=>?_⟩⟩,hf.ah (Or.inr hy.1) _ _,ab⟩
 .rw[M,G]
  refine A.fL ?_
  have:(e.take k).flatten.length+l.length<=e.flatten.length:=by
   conv=>rhs;rw[N]
   simp
  simp only[bd];omega
 .have v:=cF.ah (m:=c) (b:=g) (r:=cs) (o:=k*f) A
  rw[M,G,<-aa];exact v
 .rw[<-S,bd,bd,L]
 .rcases cD n with h|h
  .exact j.size i h
  .rw[h];exact H
 .by_cases B:k=P
  .subst B
   rw[dx J]at p
   rw[dx I]at q
   simp at p q;subst p q
   exact w.le K F
  .rw[cw B]at p q
   exact w.le K (j.dz P i ae p q)
def By(hS:∀a∈d,a<c.size){g C L:O}{S:Int}{aD:List cY}{q:cY}{f:Nat}(s:eS (bH d c) g aD)(ha:ap (bH d c) C q.args)(hk:nI (bH d c) L q.bC)(hj:f<=aD.length)(hb:aD.length<=900000000000):
 aN cg 226 [.agg #[O.v g,vi S],vi f,ph q C L] c λah N=>∃W,ah=.agg #[O.v W,vi S]/\eS (bH d N) W (aD.take f++[q]++aD.drop f)/\J c N:=by
 apply Fe
 simp -zeta only[aC,aB]
 intro P h e k
 let⟨r,m,s1,s2,s3⟩:=ql (a:=P) (b:=h) (c:=e) rfl rfl rfl
 have z:J e k:=J.push _ _
 have s4:k.size=e.size+1:=by simp[k]
 have g0:GS (h.size::d) e k (.mk e.size 0 0 0) []:=GS.new _ _
 clear_value k
 clear_value e
 have u4:=r.trans z
 have K:=s.len
 have ak:=s.cap
 have I:∀a∈[h.size,P.size,c.size],a<k.size:=λa b=>z.lt (m a b)
 have H:∀{M:E}{D:Nat},J c M->c.size<=D->Le (bH d c) (bH (D::h.size::d) M):=λxx aj=>xx.bH λa b=>by
  simp only[aV]at b;rcases b with l|l|l
  .exact Or.inr V
  .exact Or.inr V
  .exact Or.inl l
 have X:Int.toNat (0:Int)=0:=rfl
 have Y:Int.toNat (f:Int)=f:=V
 have Z:Int.toNat (g.len:Int)=g.len:=V
 rw[X,Y,Z]
 refine⟨V,V,V,?_⟩
 have ac:eS (bH (e.size::h.size::d) k) (g.cut 0 f 5) (aD.take f):=by simpa using(s.le (H (D:=e.size) u4 V)).Lh (i:=0) (dN _) hj
 refine GS.all g0 (z.fz []) ac bF λT y g1 F z1 q1=>⟨λa b=>q1 a (I a b) (by have:=m a b;simp;omega),V,V,V,?_⟩
 intro Q
 have t:J y Q:=J.push _ _
 have y1:=g1.bn
 have n:J e y:=F.ext
 have A:∀o,af Q c.size o=af y c.size o:=λo=>aI (t.same _ (oh (I c.size aL))) o
 refine⟨A 1,A 0,?_⟩
 refine GS.kM (x:=q) g1 F (ha.le (H (D:=T.D) (r.trans n) V)) (hk.le (H (D:=T.D) (r.trans n) V)) bF λU R g2 v z2 q2=>⟨J.oK (n.trans t) v.ext (λa b=>oh (m a b)),?_⟩
 have p:J e R:=v.ext
 have y2:=g2.bn
 have u:∀{M B:E},J e M->J e B->∀o,af B c.size o=af M c.size o:=λaa h' o=>aI (by rw[h'.same _ (m _ aL),aa.same _ (m _ aL)]) o
 refine⟨u (n.trans t) p 1,u (n.trans t) p 0,?_⟩
 have ae:eS (bH (U.D::h.size::d) R) (g.cut f g.len 5) (aD.drop f):=by
  have:=(s.le (H (D:=U.D) (r.trans p) V)).Lh (i:=f) (j:=g.len) V V;rwa[K,bV (ad _),<-K]at this
 refine GS.all g2 v ae bF λr3 m8 G w z3 q3=>⟨J.oK p w.ext m,u p w.ext 1,?_⟩
 intro m9
 have y3:=G.bn
 have ab:∀a∈h.size::d,a<e.size:=λa b=>by
  rcases List.mem_cons.1 b with l|l
  .omega
  .have:=hS a l;omega
 refine⟨r3,rfl,?_,(r.trans w.ext).ah V _ _⟩
 have hD:=G.done gF.mono ab bh bF
 have ag:Le (bH (h.size::d) m8) (bH d m9):=cB aL λa b=>ai _ b
 exact eS.le ag (by simpa[fE]using hD)
def Ft(C:∀b∈d,b<c.size){u L p:O}{A:List bz}{w:List gR}{q:gR}{n:Nat}{l:Bk}(i:eN (bH d c) u L A w)(D:w[n]? =some q)(h3:q.params.length<=3/\q.cW.length<=3)(ag:eS (bH d c) p l.aD):
 va 228 [.agg #[O.v u,O.v L],vi n,.agg #[O.v p,vi l.aU]] c d A λah=>ah=w.set n ⟨q.params,q.cW,q.aU,l⟩:=by
 apply xY
 simp -zeta only[aC,aB]
 intro F h g j
 let⟨r,o,s1,s2,s3⟩:=ql (a:=F) (b:=h) (c:=g) rfl rfl rfl
 have y:J g j:=J.push _ _
 have s4:j.size=g.size+1:=by simp[j]
 have g0:GR (h.size::d) g j (.mk g.size 0 0 0) []:=Gr.new _ (ad _) _ _ _
 clear_value j
 clear_value g
 have u4:=r.trans y
 have an:=i.iX.len;have am:=i.oG
 have ak:=aw D
 have ac:∀b∈[h.size,F.size,c.size],b<j.size:=λb e=>y.lt (o b e)
 have H:∀{M:E}{z:Nat},J c M->c.size<=z->Le (bH d c) (bH (z::h.size::d) M):=λxx aj=>xx.bH λb e=>by
  simp only[aV]at e;rcases e with f|f|f
  .exact Or.inr V
  .exact Or.inr V
  .exact Or.inl f
 refine Gr.all (g:=[.s .nil,.s .nil,.i 0,.s .nil,.i 0]) iU.mono bh g0 (y.fz []) (i.iX.le (H (z:=g.size) u4 V)) bF λm v g1 B z1 q1=>⟨λb e=>q1 b (ac b e) (by have:=o b e;simp;omega),V,V,?_⟩
 simp only[eH]at g1
 have x:J g v:=B.ext
 have y1:=g1.bn
 let⟨ao,ap,t,R,T,c3,U,W,X,Y,Z⟩:=(i.iX.le (H (z:=m.D) (r.trans x) V)).aF D
 have gH:∀{P:Value}{t I:Nat},af (bH (m.D::h.size::d) v) t I=some P->af v t I=some P:=λaa=>(eT.1 aa).2
 refine⟨_,gH U,_,gH W,_,gH X,_,gH Y,_,gH Z,?_⟩
 have z5:=x.size
 refine(yz (b:=m.D::h.size::d) (λb e=>?_) (R.le (bA _ _)) (T.le (bA _ _)) V).mono λrv m6⟨K,N,f,h1,h2,s⟩=>?_
 .simp only[aV]at e
  rcases e with f|f|f
  .omega
  .omega
  .have:=C b f;omega
 subst f
 have g2:=g1.ext iU.mono s
 have al:=g2.len bh
 let⟨wr,g3,f3,q3⟩:=Gr.set (k:=n) (cs:=[.s K,.s N,.i q.aU,.s p,.i l.aU]) (a:=⟨q.params,q.cW,q.aU,l⟩) iU.mono g2 (B.then s) V ⟨K,N,p,rfl,h1,h2,ag.le (H (z:=m.D) ((r.trans x).trans s) V)⟩
 refine⟨λb e=>s.same b (oh (o b e)),_,_,_,_,_,rfl,V,V,wr,?_⟩
 intro m7
 refine⟨λb e=>q3 b (oh (o b e)),?_⟩
 intro G
 have ab:∀b∈h.size::d,b<g.size:=λb e=>by
  rcases List.mem_cons.1 e with f|f
  .omega
  .have:=C b f;omega
 have ae:Le (bH (h.size::d) m7) (bH d G):=cB aL λb e=>ai _ e
 have Q:J c G:=(r.trans f3.ext).ah V _ _
 exact⟨u,m,_,rfl,⟨i.bo.le (Q.dg _),zI.le ae (g3.done iU.mono ab bh bF),i.types,bF⟩,rfl,Q⟩
end
def UK{c:List bz}{f b:Nat}{l:List cY}(h:WL c f True b l){j:Nat}{a v:Int}(e:14<=a/\a<=17)(m:0<=v/\v<((b+dc (l.take j):Nat):Int)):
 WL c f True b (l.take j++[fe a v]++l.drop j)/\dc (l.take j++[fe a v]++l.drop j)=dc l/\sw (l.take j++[fe a v]++l.drop j)=sw l+2:=by
 have d:dc [fe a v]=0:=jW e.1 [v]
 have g:sw [fe a v]=2:=oF a [v]
 have i:=cZ (l.take j) (l.drop j)
 have k:=dC (l.take j) (l.drop j)
 rw[dm]at i k
 refine⟨((h.take j).yS (Ec e m)).append ?_,?_,?_⟩
 .rw[cZ,d];exact h.drop j
 .rw[cZ,cZ,d];omega
 .rw[dC,dC,g];omega
def TB(h:Nat)(e:List Value)(m:E)(S:List Nat)(b:Nat)(f:O)(P:Nat)(g:List bz)(Q:List gR->Prop):Prop:=
 aN cg h e m λv a=>∃d r c,v=.agg #[O.v d,O.v r]/\eN (bH S a) d r g c/\Q c/\Rd b f P a/\Fz [b] m a
def Qv{h:List Nat}{m:E}(hS:∀l∈h,l<m.size){d P:Nat}{Q:O}(aw:d∈h)(h0:Rd d Q P m)(hP:P+4<=10^16){y t:O}{B:List bz}{L:List gR}(hn:eN (bH h m) y t B L){aa:Nat}(R:yD B L True aa)(hW:aa<=200000000000):
 TB 208 [vp d 0,.agg #[O.v y,O.v t]] m h d Q (P+4) B λW=>yD B W True (aa+4):=by
 apply Kg (d,0)
 simp -zeta only[aC,aB,bT]
 intro f ag
 let⟨x2,hl⟩:=dD (a:=f) (c:=ag) rfl rfl
 have s1:f.size=m.size+1:=by simp[f]
 have s2:ag.size=m.size+2:=by simp[ag,s1]
 clear_value ag
 have bZ:=hn.iX.len;have bY:=hn.oG
 have b0:=h0.lt
 have nb:∀a∈[f.size,m.size],a<ag.size/\a∉[d]:=λa c=>⟨hl a c,by have:=hl a c;simp at c⊢;omega⟩
 have yQ:yD B L True (aa+4):=⟨R.iZ,λq F=>let⟨g,a,l,e⟩:=R.dz q F;⟨g,a,l,V⟩⟩
 refine(cq (h0.ext x2) V (t.len:Int)).mono λo g⟨ab,e,f0,f1,h3,z3⟩=>⟨z3.dv nb,ab,e,?_⟩
 have u3:Fz [d] m g:=(x2.fz _).trans z3
 have bQ:ab<(L.length:Int):=by have:=R.iZ;omega
 let⟨q,F⟩:=cG L ab.toNat
 let⟨aH,aG,bl,hw⟩:=R.dz q (aq F)
 have Hn:∀{M:E},Fz [d] m M->eN (bH h M) y t B L:=λp=>hn.le (p.dg λa c=>by simp at c;subst c;exact aw)
 have HS:∀{M:E}(bb:Nat),m.size<=bb->Fz [d] m M->Le (bH h m) (bH (bb::f.size::h) M):=λbb bL gg=>gg.bH (λa c=>by simp at c;subst c;exact aw) λl s=>by
  simp only[aV]at s;rcases s with e|e|e
  .exact Or.inr V
  .exact Or.inr V
  .exact Or.inl e
 have ch:=z3.size
 let⟨ca,cc,a,c1,c2,c3,e0,e1,e2,e3,e4⟩:=(hn.le (HS g.size V u3)).iX.aF F
 have gH:∀{M:E}{h:List Nat}{o:Value}{a I:Nat},af (bH h M) a I=some o->af M a I=some o:=λD=>(eT.1 D).2
 refine⟨f0,V,a,gH e3,q.body.aU,gH e4,?_⟩
 intro m4 m5
 have x5:J g m5:=(J.push g _).ah (ad _) _ _
 have s5:m5.size=g.size+1:=by simp[m5,m4,ax]
 clear_value m5
 have bM:=c3.len
 have bW:=c3.gW
 have bN:=Bk.mw q.body
 have b1:=fZ q.body.aD
 have av:∀a∈[g.size,f.size,m.size],a<m5.size/\a∉[d]:=λa c=>by simp at c⊢;omega
 rw[aP V V]
 refine(cq (h3.ext x5) V _).mono λo m6⟨G,e,j0,j1,h6,z6⟩=>⟨z6.dv av,G,e,?_⟩
 have u6:Fz [d] m m6:=(u3.then x5).trans z6
 have bD:=z6.size
 have ba:=(Hn u6).le (bA _ _)
 obtain⟨fn,a3⟩:∃fn:Nat,ab=fn:=⟨ab.toNat,V⟩
 subst a3
 simp only[tX]at F
 have al:∀a∈[g.size,f.size,m.size],a<m6.size/\a∉[d]:=λa c=>⟨aO (av a c).1 bD,(av a c).2⟩
 have aN:∀{M:E},Rd d Q (P+4) M->Fz [d] m M->∃d' U W,Value.agg #[O.v y,O.v t]=.agg #[O.v d',O.v U]/\eN (bH h (ah M f.size 0 [.s y,.s t])) d' U B W/\yD B W True (aa+4)/\Rd d Q (P+4) (ah M f.size 0 [.s y,.s t])/\Fz [d] m (ah M f.size 0 [.s y,.s t]):=λhr p=>
  have g':=p.ah (b:=f.size) (Or.inr V) 0 [.s y,.s t]
  ⟨y,t,L,rfl,Hn g',yQ,h0.ah hr p V _ _,g'⟩
 refine(EX ba R hW F V).mono λo C⟨lb,ok,e,A,hA⟩=>⟨A.dv λa c=>(al a c).1,(lb,0),ok,e,λ_=>?_,λbd=>?_⟩
 .intro m8
  exact aN ((h6.ext A).mono V) (u6.then A)
 obtain⟨_,jl,ro,sl,au,b6,h7,i7⟩:=hA (by simpa using bd)
 intro m8
 have x8:J C m8:=J.push _ _
 have g8:GI h C m8 (.mk C.size 0 0 0) []:=GI.nil h C
 clear_value m8
 have z7:=A.size
 have bO:=tg q.body.aD
 have a2:=TV q.body.aD G.toNat
 have N0:=i7.len 0 bh
 have u7:Fz [d] m C:=u6.then A
 have aE:∀l∈h,l<C.size:=λl s=>aO (hS l s) u7.size
 refine eu (n:=(au 0).length) V (λan X M=>J C M/\∃H,GI h C M X H/\H.length<=an/\∀z∈H,0<=z/\z<(((au 0).length:Nat):Int)) ⟨x8,[],g8,ad _,aL⟩ ?_
 rintro an X m9 bI μ bU ⟨u,H,p,bX,ai⟩ aA
 have h9:=h7.ext u
 have l0:=h9.len (k:=0) bh
 have am:∀a∈[g.size,f.size,m.size],a<m9.size/\a∉[d]:=λa c=>⟨u.lt (A.lt (al a c).1),(al a c).2⟩
 refine⟨_,h9.cp (k:=0) bh,λa9=>?_,λbR=>?_⟩
 .simp only[ar]at a9
  let⟨z,i⟩:=cG (au 0) an
  refine⟨_,h9.cp (k:=0) bh,V,V,z,h9.aF bh V i,λ_=>?_,λ_=>aA V _ _ ⟨u,H,p,V,ai⟩⟩
  refine(sO h9 i7 V (v:=(an:Int)) V V).mono λo az⟨bb,e,w⟩=>⟨w.dv λa c=>(am a c).1,bb,e,λ_=>?_,λ_=>aA V _ _ ⟨u.trans w,H,p.ext w,V,ai⟩⟩
  intro T
  have gy:=p.bn
  refine GI.kM (p.ext w) ((u.trans w).fz []) aE V λU bn N K _ Y=>⟨J.oK ((u.trans w).aK _) K.ext (λa c=>A.lt (al a c).1),aA V _ _ ⟨K.ext,_,N,bF,λz i=>?_⟩⟩
  rcases List.mem_append.1 i with i|i
  .exact ai z i
  .simp at i;omega
 .have bS:=p.len bh
  have u9:Fz [d] m m9:=u7.then u
  have r9:Rd d Q (P+2) m9:=(h6.ext (A.trans u)).mono V
  refine⟨λ_=>?_,λbc=>?_⟩
  .intro az
   exact aN (r9.mono V) u9
  simp only[aj]at bc
  have gy:=p.bn
  have gb:X.D∉[d]:=by simp;have:=u7.size;omega
  refine(cq r9 V (X.len:Int)).mono λo az⟨ay,e,i0,i1,aX,vH⟩=>⟨vH.dv am,ay,e,i0,V,?_⟩
  let⟨w,aM⟩:=cG H ay.toNat
  let⟨w0,w1⟩:=ai w (aq aM)
  have a4:af m9 X.D (X.off+ay.toNat*1)=some (vi w):=((p.done aE V).le (bA _ _)).aF aM
  refine⟨w,(aI (vH.same _ gy.2 gb) _).trans a4,?_⟩
  have br:=u9.trans vH
  have ci:=u.size;have bE:=vH.size
  have aF:∀a∈[g.size,f.size,m.size],a<az.size/\a∉[d]:=λa c=>⟨aO (am a c).1 bE,(am a c).2⟩
  have ew:cU (cU ((a.len:Int) -G)+1)=(a.len:Int) -G+1:=by rw[aP (b:=(a.len:Int) -G) V V,aP V V]
  rw[ew]
  refine(cq aX V _).mono λo T⟨i2,e,b2,b3,aY,ap⟩=>⟨ap.dv aF,i2,e,?_⟩
  have aQ:=br.trans ap
  have bG:=ap.size
  have ak:∀a∈[g.size,f.size,m.size],a<T.size:=λa c=>aO (aF a c).1 bG
  have ac:∀{M:E},T.size<=M.size->∀l∈g.size::f.size::h,l<M.size:=λhz l s=>by
   simp only[aV]at s;have h1:=ak g.size aL;have h2:=ak f.size aL;rcases s with e|e|e
   .omega
   .omega
   .have:=hS l e;have:=aQ.size;omega
  have bt:Fz [d] g T:=(((((x5.fz _).trans z6).then A).then u).trans vH).trans ap
  have a1:=c3.le (bt.dg λl s=>by simp at s;subst s;simp[aw])
  obtain⟨i,a5⟩:∃i:Nat,G=i:=⟨G.toNat,V⟩
  obtain⟨kn,a8⟩:∃kn:Nat,i2=kn:=⟨i2.toNat,V⟩
  subst a5 a8
  have bk:i+kn<=q.body.aD.length:=V
  have aW:cU ((i:Int)+(kn:Int))=((i+kn:Nat):Int):=by rw[aP V V];omega
  simp only[tX]at N0 a2
  let⟨bm,r0,r1⟩:=bl.aS
  have bP:dc (q.body.aD.take i)<=dc (q.body.aD.take (i+kn)):=by
   have:=TV (q.body.aD.take (i+kn)) i;rwa[MQ,jf V]at this
  let⟨bw,bu,bB⟩:=UK (j:=i+kn) (a:=15) (v:=w) bm bh ⟨w0,V⟩
  have bj:(q.body.aD.take (i+kn)++[fe 15 w]++q.body.aD.drop (i+kn)).take i=q.body.aD.take i:=by
   rw[fE,ny bF,MQ,jf V]
  let⟨bx,bv,bC⟩:=UK (j:=i) (a:=14) (v:=w) bw bh ⟨w0,by rw[bj];omega⟩
  generalize aK:q.body.aD.take (i+kn)++[fe 15 w]++q.body.aD.drop (i+kn)=st1 at*
  have bV:st1.length=q.body.aD.length+1:=by rw[<-aK];simp;omega
  have K:∀{M Z:E},J M Z->T.size<=M.size->∀a∈[g.size,f.size,m.size],∀I,af Z a I=af M a I:=λxx hz a c I=>aI (xx.same a (aO (ak a c) hz)) I
  have kS:∀{M Z:E},J M Z->T.size<=M.size->eI [g.size,f.size,m.size] M Z:=λxx hz a c=>xx.same a (aO (ak a c) hz)
  rw[aW]
  refine(jm (c:=g.size::f.size::h) (ac (ad _)) 15 w).mono λo bn⟨bJ,b4,e,aZ,a6,N⟩=>⟨kS N (ad _),_,_,_,_,_,e,K N (ad _) _ aL _,K N (ad _) _ aL _,?_⟩
  have aU:=N.size
  refine(By (d:=g.size::f.size::h) (S:=q.body.aU) (q:=fe 15 w) (ac aU) (a1.le (N.dg _)) aZ a6 bk V).mono λo bo⟨bq,e,aJ,ao⟩=>⟨kS ao aU,_,_,e,?_⟩
  rw[aK]at aJ
  intro ae
  have cd:=ao.size
  have ce:ae.size=bo.size:=ax _ _ _ _
  have aR:=(aQ.then N).then ao
  have bs:Fz [d] m ae:=aR.ah (Or.inr V) _ _
  have bp:Rd d Q (P+2+1+1) ae:=h0.ah ((aY.ext N).ext ao) aR V _ _
  have bg:eS (bH (g.size::f.size::h) ae) bq st1:=aJ.le (cB aL λ_ D=>D)
  clear_value ae
  refine(jm (c:=g.size::f.size::h) (ac V) 14 w).mono λo b7⟨bK,b5,e,a0,a7,z⟩=>⟨kS z V,_,_,_,_,_,e,K z V _ aL _,K z V _ aL _,K z V _ aL _,K z V _ aL _,?_⟩
  have cf:=z.size
  refine(By (d:=g.size::f.size::h) (S:=q.body.aU) (q:=fe 14 w) (ac V) (bg.le (z.dg _)) a0 a7 (f:=i) V V).mono λo b8⟨cb,e,bi,Y⟩=>⟨kS Y V,_,_,e,K Y V _ aL _,K Y V _ aL _,?_⟩
  have cg:=Y.size
  have aS:=(bs.then z).then Y
  refine(Ft (d:=g.size::f.size::h) (ac V) (l:=.mk (st1.take i++[fe 14 w]++st1.drop i) q.body.aU) (hn.le (HS g.size V aS)) F ⟨aH,aG⟩ bi).mono λo b9⟨d',U,W,e,a_,bf,aD⟩=>⟨kS aD V,d',U,e,?_⟩
  intro b_
  have aT:=aS.then aD
  refine⟨d',U,W,rfl,a_.le (cB aL λl s=>by simp[s]),?_,h0.ah (((bp.ext z).ext Y).ext aD) aT V _ _,aT.ah (Or.inr V) _ _⟩
  subst bf
  refine⟨by simp;exact R.iZ,λq' be=>?_⟩
  rw[eg]
  rcases cD be with D|D
  .exact yQ.dz q' D
  .subst D
   refine⟨aH,aG,.of bx ⟨r0,by rw[bv,bu];exact r1⟩,?_⟩
   show Bk.w (.mk _ _)<=_
   rw[Bk.qL,bC,bB];omega
section
variable{f:E}{t:O}{d:Bk}{j e:Int}{g:List Nat}{l h c:Nat}
def pV(l:eS f t d.aD):ta 275 [.agg #[O.v t,vi d.aU]] f λc=>0<=c/\c<=d.aD.length/\∀(i:Nat)(e:cY),d.aD[i]? =some e->(i:Int)<c->14<=e.op/\e.op<=17:=by
 apply zc;simp -zeta only[aC,aB];intro a;have B:J f a:=J.push _ _;have w:∀q∈[f.size],q<a.size:=by simp[a]
 clear_value a;have x:=l.len;refine dV (n:=d.aD.length) (x▸l.gW) (λc M=>J a M/\∀(i:Nat)(e:cY),d.aD[i]? =some e->i<c->14<=e.op/\e.op<=17) ⟨J.az _,λi e _ b=>V⟩ ?_;rintro c M I μ L ⟨p,o⟩ z
 have u:=B.trans p;have R:∀{m:E},J f m->∃k:Int,vi (c:Int)=vi k/\(0<=k/\k<=d.aD.length/\∀(i:Nat)(e:cY),d.aD[i]? =some e->(i:Int)<k->14<=e.op/\e.op<=17)/\J f m:=λD=>⟨c,rfl,⟨V,V,λi e g b=>o i e g V⟩,D⟩;refine⟨λb=>?_,λb=>R u⟩;simp only[ar]at b;let⟨e,g⟩:=cG d.aD c;obtain⟨h,P,H,N,s,_⟩:=l.aF g;refine⟨V,V,_,u.af s,?_⟩;refine(tG e.op M).aG p w λG Q v C A=>⟨_,rfl,λy=>z V _ ⟨A,λi F j K=>?_⟩,λ_=>R (u.trans C)⟩;by_cases r:i=c
 .subst r;rw[g]at j;simp at j;subst j;exact v.1 y
 .exact o i F j V
def DP(b:eS f t d.aD){w:Int}(K:0<=j/\j<=d.aD.length)(z:∀(r:Nat)(s:cY),d.aD[r]? =some s->(r:Int)<j->0<s.args.length):
 ta 276 [.agg #[O.v t,vi d.aU],vi j,vi w,vi e] f λc=>-1<=c/\(0<=c->c<j/\∃s:cY,d.aD[c.toNat]? =some s/\s.op=w/\s.args[0]? =some e):=by
 apply Hr
 simp -zeta only[aC,aB]
 intro i
 have B:J f i:=J.push _ _
 clear_value i
 have L:=b.len
 have H:=b.gW
 obtain⟨k,A⟩:∃k:Nat,j=k:=⟨j.toNat,V⟩
 subst A
 refine dV (n:=k) V (λc M=>J i M) (J.az _) ?_
 rintro c M I μ F l v
 have u:=B.trans l
 refine⟨λa=>?_,λa=>⟨-1,rfl,⟨V,λa=>V⟩,u⟩⟩
 simp only[ar]at a
 let⟨s,g⟩:=cG d.aD c
 let⟨h,N,m,G,x,g1,g2,y,D⟩:=b.aF g
 have E:=m.len
 have:=z c s g V
 let⟨C,q⟩:=cG s.args 0
 refine⟨V,V,_,u.af x,λo=>⟨V,V,_,u.af y,bh,V,C,(m.ext u).aF q,λp=>?_,λ_=>v V _ l⟩,λ_=>v V _ l⟩
 simp only[aH]at o p
 refine⟨c,rfl,⟨V,λ_=>⟨V,s,?_,o,by rw[<-p];exact q⟩⟩,u⟩
 simpa using g
def Pk(g:eS f t d.aD){b:Int}(A:0<=b/\b<=d.aD.length):ta 309 [.agg #[O.v t,vi d.aU],vi b,vi j] f λc=>-1<=c/\c<d.aD.length:=by
 apply IL;simp -zeta only[aC,aB];intro i;have v:J f i:=J.push _ _;clear_value i;have q:=g.len;obtain⟨e,p⟩:∃e:Nat,b=e:=⟨b.toNat,V⟩;subst p;refine Wc (n:=d.aD.length) (b:=e) V (q▸g.gW) (λc M=>J i M) (J.az _) ?_;rintro c M I μ _ y l s
 have u:=v.trans l;refine⟨λk=>?_,λk=>⟨-1,rfl,⟨V,V⟩,u⟩⟩;simp only[ar]at k;let⟨C,r⟩:=cG d.aD c;let⟨h,B,x,z,m,g1,g2,o,w⟩:=g.aF r;have N:=s V _ l
 exact⟨V,V,_,u.af m,λ_=>⟨V,V,_,u.af g2,λ_=>⟨V,V,_,u.af o,λ_=>⟨c,rfl,⟨V,V⟩,u⟩,λ_=>N⟩,λ_=>N⟩,λ_=>N⟩
def IN(d:Bk)(Z:∀l∈g,l<f.size)(C:eS f t d.aD)(hw:d.w<=10^12):aN cg 287 [.agg #[O.v t,vi d.aU]] f λai E=>∃s,ai=.agg #[O.v s,vi d.aU]/\GS g f E s d.aD/\J f E:=by
 let⟨aD,q⟩:=d;rw[Bk.qL]at hw;simp only[Bk.jV,Bk.jw]at*;apply rE;simp -zeta only[aC,aB];intro j b h F p;let⟨K,A⟩:=dD (a:=j) (c:=b) rfl rfl;have s0:j.size=f.size+1:=by simp[j]
 have s1:b.size=f.size+2:=by simp[b,s0]
 have s2:h.size=b.size+1:=by simp[h]
 have s3:F.size=h.size+1:=by simp[F]
 have L:J h p:=(J.push h _).ah (ad _) _ _;have aj:J b p:=(J.push b _).trans L;have x:GS (h.size::j.size::g) b p (.mk b.size 0 0 0) []:=(GS.new _ b).ext gF.mono L;have N:cF p h.size di [.s (.mk b.size 0 0 0),.i q]:=cF.ah (m:=F) (o:=0) (r:=[.s (.mk b.size 0 0 0),.i q]) (cF.push h _ _);clear_value p;have aa:∀l∈j.size::g,l<b.size:=bO Z K.size (A _ aL);have ag:=C.len;have al:=fZ aD;refine dV (n:=aD.length) (ag▸C.gW) (λc M=>J b M/\∃s,GS (h.size::j.size::g) b M s (aD.take c)/\cF M h.size di [.s s,.i q]) ⟨aj,_,x,N⟩ ?_;rintro c G ak μ hk ⟨w,s,v,B⟩ ah
 have k:=K.trans w;have af:∀d∈[j.size,f.size],d<G.size:=λd y=>w.lt (A d y);have hy:=v.bn;have z5:=w.size;have I:=B.lt;refine dit (λY=>?_) λY=>?_
 .let⟨e,D⟩:=cG aD c;let⟨pa,pk,ha,ae,x,g1,g2,W,X⟩:=C.aF D;have am:=Pp D;refine⟨s,B.cp 0,V,V,_,k.af x,_,k.af g1,_,k.af g2,_,k.af W,_,k.af X,?_⟩;refine(yw (e:=s.D::h.size::j.size::g) (bO (bO aa z5 I) (ad _) hy.2) (ha.ext k) (ae.le k.le) V (λd _=>wy d)).aG (J.az G) af λP Q x' H ab ac R u _=>⟨_,_,_,_,_,rfl,aI (u.same _ I) _,?_⟩;subst R;intro m7;refine Gr.box (g:=[.i 0,.i 0,.i 0,.s .nil,.s .nil]) (j:=0) (i:=[.s s,.i q]) (w:=e) gF.mono bh (v.ext gF.mono u) ((w.trans u).fz []) ⟨P,Q,rfl,ab,ac⟩ bF (B.ext u) aL bh ⟨V,aL⟩ (λl z=>by have M:=A l z;have T:=u.size;omega) λr' E U M T z' q'=>ah V _ ⟨T.ext,r',?_,M⟩
  rw[aT D];exact U
 .rw[bV V]at v;refine⟨s,B.cp 0,q,B.cp 1,?_⟩;intro H;have u:Fz [j.size] G H:=(Fz.az _ _).ah (Or.inl aL) _ _;have D:GS g b H s aD:=v.re gF.mono u aL bF λl z=>Or.inl (by simp[z]);exact⟨s,rfl,Gr.cz gF.mono D (λd y=>Or.inl y) V,k.ah V _ _⟩
def UL{f:List bz}{d:Prop}{a:List cY}(j:WL f l d h a){e b:cY}(g:a[c]? =some e)(p:WS f l d (h+dc (a.take c)) b)(hd:dn b=dn e):
 WL f l d h (a.set c b)/\dc (a.set c b)=dc a/\sw (a.set c b)+e.w=sw a+b.w:=by
 have o:=aw g
 have k:a.set c b=a.take c++([b]++a.drop (c+1)):=by rw[PC,an o];rfl
 have i:a=a.take c++([e]++a.drop (c+1)):=by
  let⟨m,n⟩:=List.getElem?_eq_some_iff.1 g;rw[<-n];show a=a.take c++(a[c]::a.drop (c+1));rw[<-qj m,dm]
 have q:dc a=dc (a.take c)+(dn e+dc (a.drop (c+1))):=by
  conv=>lhs;rw[i]
  rw[cZ,cZ,kO,th];omega
 have r:sw a=sw (a.take c)+(e.w+sw (a.drop (c+1))):=by
  conv=>lhs;rw[i]
  rw[dC,dC,mN,vz];omega
 rw[k]
 refine⟨(j.take c).append ((WL.lM p).append ?_),?_,?_⟩
 .have:=j.drop (c+1)
  rw[qQ g]at this
  rw[kO,th,hd,jG,dj];exact this
 .rw[cZ,cZ,kO,th];omega
 .rw[dC,dC,mN,vz];omega
def _root_.Go.Vc.Gr.cells{α:Type}{r:E}{m d:Nat}{R:E->List Ce->α->Prop}{s:O}{l:List α}(n:Gr g r f m d R s l){e:α}(i:l[c]? =some e):∃a,R (bH (s.D::g) f) a e/\fQ f s.D (s.off+c*d) a:=by
 let⟨t,k,o,b⟩:=n;let⟨a,h⟩:=cG k c (by rw[b.len];exact aw i);refine⟨a,b.dz c a e h i,λq j p=>?_⟩;have:=o.iD (c*d+q) j (fW b.size h p);rwa[<-dj]at this
def Ky(hS:∀c∈g,c<f.size)(w:eS f t d.aD){Q:List bz}(ao:WB Q l True h d)(hw:d.w<=10^12)(hx:0<=e/\e<(h:Int))(a6:h<=10^12)(j:Int):
 aN cg 274 [.agg #[O.v t,vi d.aU],vi e,vi j] f λaa Z=>∃s o,aa=.agg #[O.v s,vi o.aU]/\eS Z s o.aD/\(eS (bH g f) t d.aD->eS (bH g Z) s o.aD)/\(WB Q l True h o/\o.w<=d.w)/\J f Z:=by
 apply Dm
 simp -zeta only[aC,aB]
 intro m u
 let⟨C,q⟩:=dD (a:=m) (c:=u) rfl rfl
 have s1:m.size=f.size+1:=by simp[m]
 have s2:u.size=f.size+2:=by simp[u,s1]
 clear_value u
 let⟨X,aU⟩:=ao.aS
 have D:∀{ac M':E},J u ac->J u M'->∀I,af M' f.size I=af ac f.size I:=λp h' I=>aI (by rw[h'.same _ (q _ aL),p.same _ (q _ aL)]) I
 refine(pV (w.le C.le)).aG (J.az u) q λn1 m3 U P _=>⟨_,rfl,D (J.az _) P _,D (J.az _) P _,?_⟩
 refine(DP (w.le (C.trans P).le) (w:=16) (e:=e) ⟨U.1,U.2.1⟩ λaq s hi aO=>?_).aG P q λn2 m4 aQ x4 L=>⟨_,rfl,?_⟩
 .have:=U.2.2 aq s hi aO
  have:=(X aq s hi).fg.lM V
  omega
 refine(pV (w.le (C.trans L).le)).aG L q λn3 m5 an x5 M=>⟨_,rfl,D L M _,D L M _,?_⟩
 refine(Pk (w.le (C.trans M).le) (j:=j) ⟨an.1,an.2.1⟩).aG M q λn4 z bb x6 v6=>⟨_,rfl,?_⟩
 have u6:=C.trans v6
 have ay:∃s o,Value.agg #[O.v t,vi d.aU]=.agg #[O.v s,vi o.aU]/\eS (ah z m.size 0 [.s t,.i d.aU]) s o.aD/\(eS (bH g f) t d.aD->eS (bH g (ah z m.size 0 [.s t,.i d.aU])) s o.aD)/\(WB Q l True h o/\o.w<=d.w)/\J f (ah z m.size 0 [.s t,.i d.aU]):=
  have R:=u6.ah (b:=m.size) V 0 [.s t,.i d.aU]
  ⟨t,d,rfl,w.le R.le,λp=>p.le (R.dg _),⟨ao,ad _⟩,R⟩
 refine⟨λ_=>ay,λh2=>⟨λ_=>ay,λh4=>?_⟩⟩
 simp only[bM]at h2 h4
 have z6:=v6.size
 have ak:∀c∈m.size::g,c<z.size:=λc i=>by
  rcases List.mem_cons.1 i with n|n
  .omega
  .have:=hS c n;omega
 refine(IN d ak (w.le u6.le) hw).mono λaa H⟨K,n,g7,x7⟩=>⟨λc i=>x7.same c (oh (q c i)),_,_,n,?_⟩
 intro m8 A
 have x9:J H A:=(J.push H _).ah (ad _) _ _
 have s9:A.size=H.size+1:=by simp[A,m8,ax]
 clear_value A
 have y7:=g7.bn
 have z7:=x7.size
 have g9:=g7.ext gF.mono x9
 have am:∀c∈[H.size,m.size,f.size],c<A.size/\c≠K.D:=λc i=>by simp at i;omega
 refine(jm (c:=K.D::m.size::g) (λc i=>?_) 17 e).mono λaa au⟨ag,ar,n,aK,aM,B⟩=>⟨λc i=>B.same c (am c i).1,_,_,_,_,_,n,aI (B.same _ V) _,?_⟩
 .rcases List.mem_cons.1 i with n|n
  .omega
  .have:=ak c n;omega
 have aj:=g9.ext gF.mono B
 have bg:=aj.len bh
 let⟨ba,so,W,bc,a7⟩:=aQ.2 V
 have aA:J z au:=(x7.trans x9).trans B
 have aR:=aw W
 let⟨a0,T,aF,aY⟩:=Gr.set (k:=n2.toNat) (cs:=[.i 17,.i 0,.i 0,.s ag,.s ar]) (a:=fe 17 e) gF.mono aj (aA.fz []) aR ⟨ag,ar,rfl,aK,aM⟩
 refine⟨V,V,a0,?_⟩
 intro F
 have vH:=B.size
 have bi:F.size=au.size:=ax _ _ _ _
 refine⟨λc i=>aY c (am c i).2,V,V,?_⟩
 have aV:=X _ so W
 have w1:=aV.fg.lM (Or.inl V)
 have d1:dn (fe 17 e)=dn so:=by
  unfold dn;rw[ae (λp:pt _=>by have:=p.2;simp only[fe]at this;omega),ae (λp:pt _=>oh p.2)]
 let⟨az,a2,bk⟩:=UL X W (Ec (c:=17) (v:=e) bh ⟨hx.1,V⟩) d1
 have be:=cY.mw so
 have a9:(fe 17 e).w=2:=rfl
 let⟨y,Y⟩:=cG (d.aD.set n2.toNat (fe 17 e)) n4.toNat bF
 have a_:=T.len bh
 obtain⟨a5,⟨pa,pk,rfl,aS,aT⟩,jv⟩:=T.cells Y
 have e0:=jv 0 _ rfl;have e1:=jv 1 _ rfl;have e2:=jv 2 _ rfl;have e3:=jv 3 _ rfl;have e4:=jv 4 _ rfl
 refine⟨_,e0,_,e1,_,e2,_,e3,_,e4,?_⟩
 intro aW G
 have N:J F G:=(J.push F _).ah (ad _) _ _
 have bj:G.size=F.size+1:=by simp[G,aW,ax]
 clear_value G
 have aH:=T.ext gF.mono N
 have aE:cU (1+e)=1+e:=aP V V
 rw[aE]
 have aD:=(aF.then N)
 let⟨a1,aJ,aG,aZ⟩:=Gr.set (k:=n4.toNat) (cs:=[.i y.op,.i y.bP,.i (1+e),.s pa,.s pk]) (a:=⟨y.op,y.bP,1+e,y.args,y.bC⟩) gF.mono aH aD bF ⟨pa,pk,rfl,ap.le (N.dg _) aS,nI.le (N.dg _) aT⟩
 refine⟨V,V,a1,?_⟩
 intro av
 have r:=az _ y Y
 let⟨a4,a3,bl⟩:=UL (b:=⟨y.op,y.bP,1+e,y.args,y.bC⟩) az Y ⟨⟨r.fg.op,r.fg.args,r.fg.lM,⟨by show 0<=1+e;omega,by show 1+e<=_;omega⟩,r.fg.KF,r.fg.all,r.fg.call⟩,r.bC⟩ rfl
 refine⟨λc i=>aZ c (by simp at i;omega),?_⟩
 intro aX
 have bf:(⟨y.op,y.bP,1+e,y.args,y.bC⟩:cY).w=y.w:=rfl
 have a8:=Bk.mw d
 have bd:=fZ d.aD
 have ab:eS (bH (m.size::g) av) K _:=aJ.nK gF.mono (S:=m.size::g) (λi=>by
  rcases List.mem_cons.1 i with n|n
  .omega
  .have:=hS _ n;omega) bh bF
 have al:Le (bH (m.size::g) av) (bH g aX):=cB aL λc i=>ai _ i
 refine⟨K,.mk _ d.aU,rfl,(ab.le al).le (bA _ _),λ_=>ab.le al,⟨.of a4 (by rw[a3,a2];exact aU),?_⟩,(u6.trans aG.ext).ah V _ _⟩
 rw[Bk.qL];omega
end
def TG(c:List bz)(d:List gR)(N:Nat):Prop:=∀(b:Bk),b.w<=N->∀(S:List Nat)(m:E),(∀a∈S,a<m.size)->∀(f r t lj:O)(l:List Int)(a:Nat),eN m f r c d->eS m t b.aD->ap m lj l->WB c d.length True a b->a+4*b.w<=10^12->l.length+4*b.w<=10^12->
 nA 232 [.agg #[O.v f,O.v r],.agg #[O.v t,vi b.aU],O.v lj] m S λe=>WB c d.length True a e/\e.w<=b.w
def Kz{D:List Nat}{m:E}(hS:∀c∈D,c<m.size){R ac pa pk lj:O}{j:List bz}{A:List gR}{a:cY}{y:List Int}{F:Nat}(q:eN m R ac j A)(ha:ap m pa a.args)(hk:nI m pk a.bC)(I:ap m lj y)(Y:WS j A.length True F a)(hb:F+4*a.w<=10^12)(a2:y.length+4*a.w<=10^12){l:Nat}{i:Bk}(U:a.bC[l]? =some i)(ih:TG j A i.w):
 nA 248 [.agg #[O.v R,O.v ac],ph a pa pk,vi l,O.v lj] m D λk=>WB j A.length True (F+Cd j a.op a.bP l) k/\k.w<=i.w:=by
 apply Dn
 simp -zeta only[aC,aB]
 intro aa s b
 let⟨f,hl,s1,h,s3⟩:=ql (a:=aa) (b:=s) (c:=b) rfl rfl rfl
 clear_value b
 let⟨aj,ht,f0,f1⟩:=hk.aF U
 have a0:=aw U
 have a1:=hk.len
 have aW:=ha.len
 have a5:=cY.mw a
 have aY:=wX U
 have ae:=Y.bC l i U
 have aZ:=i.HI
 have aF:∀{M:E},J b M->∀c∈s.size::D,c<M.size:=λxx c d=>by
  have:=xx.size;rcases List.mem_cons.1 d with e|e
  .omega
  .have:=hS c e;omega
 have iK:∀(M:E)(Z u:O)(l':List Int)(k:Bk)(Lx:List Nat),J m M->J b M->(∀c∈Lx,c<M.size)->eS M u k.aD->ap M Z l'->l'.length<=y.length+1->WB j A.length True (F+Cd j a.op a.bP l) k->k.w<=i.w->
  aN cg 232 [.agg #[O.v R,O.v ac],.agg #[O.v u,vi k.aU],O.v Z] M λv r=>eI Lx M r/\∃(h:O)(b2:Bk),v=.agg #[O.v h,vi b2.aU]/\∀g,g=ah r s.size 0 [.s h,.i b2.aU]->∃s3 b3,(Value.agg #[O.v h,vi b2.aU])=.agg #[O.v s3,vi b3.aU]/\eS (bH D g) s3 b3.aD/\(WB j A.length True (F+Cd j a.op a.bP l) b3/\b3.w<=i.w)/\J m g:=λM Z u l' k Lx xm aU aE hs aK a3 aR aQ=>by
  have h3:=Q0 q.types a.op a.bP l
  refine(ih k aQ (s.size::D) M (aF aU) R ac u Z l' _ (q.le xm.le) hs aK aR V V).mono λv r⟨h,b2,e,aO,aG,x'⟩=>⟨x'.dv aE,h,b2,e,λg am=>⟨h,b2,rfl,?_,⟨aG.1,V⟩,?_⟩⟩
  .rw[am];exact aO.le (cB aL λc d=>ai _ d)
  .rw[am];exact(xm.trans x').ah V _ _
 refine⟨λG=>?_,λG=>?_⟩
 .refine⟨V,V,_,f.af f0,_,f.af f1,?_⟩
  refine(iK b lj aj y i _ f (J.az _) hl (ht.le f.le) (I.ext f) V ae (ad _)).mono λv r⟨o,h,b2,e,p⟩=>⟨o,_,_,e,?_⟩
  intro g
  exact p g rfl
 .have G:a.op=8:=by simpa using G
  obtain⟨aX,_⟩:=Y.fg.all G
  have aV:=Y.fg.lM (Or.inr (Or.inr G))
  let⟨B,hy⟩:=cG a.args 0
  let⟨y0,y1⟩:=Y.fg.args B (aq hy)
  refine⟨bh,V,B,(ha.ext f).aF hy,V,V,_,f.af f0,_,f.af f1,?_⟩
  intro m4 t
  have x5:J b t:=(J.push b _).ah (ad _) _ _
  have s5:t.size=b.size+1:=by simp[t,m4,ax]
  clear_value t
  have L:=f.trans x5
  have w:∀{M:E},J t M->∀c∈[b.size,s.size,aa.size,m.size],c<M.size:=λxx c d=>by have:=xx.size;simp at d;omega
  refine(dw (I.ext L) B).any.aG (J.az t) (w (J.az _)) λbb m6 n _=>⟨_,rfl,λ_=>?_,λ_=>?_⟩
  .have N:=L.trans n
   let⟨cn,aH⟩:=cG (cA j a.bP) l
   have C:∀{M M':E},J t M->J M M'->∀c∈[b.size,s.size,aa.size,m.size],∀ab,af M' c ab=af M c ab:=λT h' c d ab=>aI (h'.same c (w T c d)) ab
   refine(iy (e:=[]) aL (q.bo.le N.le) q.types a.bP).aG n (w (J.az _)) λs7 l7 m7 X e x7 v7=>⟨_,rfl,C n x7 _ aL _,C n x7 _ aL _,C n x7 _ aL _,?_⟩
   subst e
   have X:=X.le (bA _ _)
   have l7:=X.len
   refine⟨V,V,cn,X.aF aH,?_⟩
   refine(dJ (e:=[]) aL (q.bo.le ((L.trans v7).le.trans (Ao _))) q.types cn).aG v7 (w (J.az _)) λs8 l8 m8 a4 e x8 v8=>⟨_,rfl,C v7 x8 _ aL _,C v7 x8 _ aL _,?_⟩
   subst e
   have z8:=v8.size
   have h3:=Q0 q.types a.op a.bP l
   have an:eS (bH [b.size] m8) aj i.aD:=ht.le ((Ao m).trans ((L.trans v8).bH λc d=>Or.inr (by simp at d;omega)))
   refine(Ky (g:=[b.size]) bF (an.le (bA _ _)) ae V (e:=B) ⟨y0,V⟩ V (s8.len:Int)).mono λv m9⟨s9,b9,e,_,aP,H,x9⟩=>⟨λc d=>x9.same c (w v8 c d),_,_,e,?_⟩
   intro z
   have v9:=v8.trans x9
   have al:J b z:=(x5.trans v9).ah V _ _
   have W:eS z s9 b9.aD:=((aP an).le (cB (a:=[b.size]) aL λ_ T=>T)).le (bA _ _)
   have a9:z.size=m9.size:=ax _ _ _ _
   have z9:=v9.size
   have K:∀{M:E},z.size<=M.size->∀c∈[b.size,s.size,aa.size,m.size],c<M.size:=λT c d=>by simp at d;omega
   clear_value z
   refine(pV W).aG (J.az z) (K (ad _)) λa7 a6 ag aA _=>⟨_,rfl,?_⟩
   obtain⟨aS,_⟩:=H.1.aS
   refine(DP (W.le aA.le) (w:=17) (e:=B) ⟨ag.1,ag.2.1⟩ λao u hj aM=>?_).aG aA (K (ad _)) λa8 aT _ a_ P=>⟨_,rfl,λ_=>?_,λ_=>?_⟩
   .have:=ag.2.2 ao u hj aM
    have:=(aS ao u hj).fg.lM V
    omega
   .have Q:=al.trans P
    refine(mF (S:=[]) aL ((I.ext (f.trans Q)).le (Ao _)) B V).aG P (K (ad _)) λay ar au aD av ba ak=>⟨_,rfl,?_⟩
    have az:=al.trans ak
    have aJ:ap au ay ar:=(aD.done aL (oh av.2)).le (bA _ _)
    refine(iK au ay s9 ar b9 _ (f.trans az) az (K ak.size) (W.le ak.le) aJ av.2 H.1 H.2).mono λv r⟨o,h,b2,e,p⟩=>⟨o,_,_,e,?_⟩
    intro g
    exact p g rfl
   .have Q:=al.trans P
    refine(iK aT lj s9 y b9 _ (f.trans Q) Q (K P.size) (W.le P.le) (I.ext (f.trans Q)) V H.1 H.2).mono λv r⟨o,h,b2,e,p⟩=>⟨o,_,_,e,?_⟩
    intro g
    exact p g rfl
  .have N:=L.trans n
   refine(iK m6 lj aj y i _ N (x5.trans n) (w n) (ht.le N.le) (I.ext N) V ae (ad _)).mono λv r⟨o,h,b2,e,p⟩=>⟨o,_,_,e,?_⟩
   intro g
   exact p g rfl
section
variable{c:List gR}
def TG.fq{b:List bz}{N a:Nat}(h:TG b c N)(e:a<=N):TG b c a:=λd f=>h d (bI f e)
def Hl{K:List bz}:∀N:Nat,TG K c N:=by
 intro N;induction N with
 |zero=>intro v hb;have:=v.HI;omega
 |succ N t=>
 intro v hb p Q hS aG a5 a6 lj a3 ae hn hs ao ay aK aR;let⟨aD,A⟩:=v;have ah:=ay.aS;rw[Bk.qL]at*;simp only[Bk.jV,Bk.jw]at*;apply zi;simp -zeta only[aC,aB];intro R j h f m5 G;let⟨x3,hl,s1,s2,s3⟩:=ql (a:=R) (b:=j) (c:=h) rfl rfl rfl;have s4:f.size=h.size+1:=by simp[f]
 have aj:J f G:=(J.push f _).ah (ad _) _ _;have aE:J h G:=(J.push h _).trans aj;have g0:GS (f.size::j.size::p) h G (.mk h.size 0 0 0) []:=(GS.new _ h).ext gF.mono aj;have B0:cF G f.size di [.s (.mk h.size 0 0 0),.i A]:=cF.ah (m:=m5) (o:=0) (r:=[.s (.mk h.size 0 0 0),.i A]) (cF.push f _ _);have al:∀d∈j.size::p,d<h.size:=bO hS x3.size (hl _ aL);clear_value G;clear_value h;have ap:=hs.len;have ar:=BV aD;have aX:=fZ aD;refine dV (n:=aD.length) (ap▸hs.gW) (λl M=>J h M/\∃s u,GS (f.size::j.size::p) h M s u/\cF M f.size di [.s s,.i A]/\u.length=l/\WL K c.length True ae u/\dc u=dc (aD.take l)/\sw u<=sw (aD.take l)) ⟨aE,_,[],g0,B0,rfl,WL.nil _ _ _ _,aL,aL⟩ ?_;rintro l M aF μ hk ⟨xM,s,u,O,B,aT,wl,P,au⟩ aA
 have y:=x3.trans xM;have aQ:∀{q:E},h.size<=q.size->∀d∈[j.size,R.size,Q.size],d<q.size:=λz d e=>aO (hl d e) z;have hy:=O.bn;have zM:=xM.size;have aH:=B.lt;refine dit (λz=>?_) λz=>?_
 .let⟨x,D⟩:=cG aD l;let⟨pa,pk,ha,Y,e0,e1,e2,e3,e4⟩:=hs.aF D;have a0:=Pp D;have a2:=cY.mw x;have aM:=qt x.bC;have a1:=pX D;have aZ:=qQ D;have ab:=ah.1 l x D;have aP:=tg (aD.take l);have aU:=fZ (aD.take l);have aY:=ar (l+1);refine⟨V,V,_,y.af e0,_,y.af e1,_,y.af e2,_,y.af e3,_,y.af e4,?_⟩;intro m7 k m9;have x8:J M k:=(J.push M _).ah (ad _) _ _;have s8:k.size=M.size+1:=by simp[k,m7,ax]
  have x9:J k m9:=J.push _ _;have ak:GB (s.D::f.size::j.size::p) k m9 (.mk k.size 0 0 0) []:=GB.new _ k;clear_value m9;clear_value k;have X:∀d∈s.D::f.size::j.size::p,d<k.size:=λd e=>by
   simp only[aV]at e;rcases e with g|g|g|g
   .omega
   .omega
   .omega
   .have:=hS d g;omega
  have Z:=Y.len;refine eu (n:=x.bC.length) (Z▸Y.gW) (λF ks q=>J k q/\∃lk,GB (s.D::f.size::j.size::p) k q ks lk/\lk.length=F/\(∀(w:Nat)(v:Bk),lk[w]? =some v->WB K c.length True (ae+dc (aD.take l)+Cd K x.op x.bP w) v)/\bw lk<=bw (x.bC.take F)) ⟨x9,[],ak,rfl,aL,aL⟩ ?_;rintro F ks I I2 μ2 hj ⟨H,lk,W,aS,ag,an⟩ az;have C:J Q I:=y.trans (x8.trans H);have yk:=W.bn;have z2:=H.size;have aa:∀{q:E},k.size<=q.size->∀d∈[M.size,j.size,R.size,Q.size],d<q.size:=λz d e=>by simp at e;omega
  refine dit (λh2=>?_) λh2=>?_
  .let⟨v,T⟩:=cG x.bC F;have aN:=wX T;have am:=uA T;refine(Kz (D:=ks.D::s.D::f.size::j.size::p) (λd e=>?_) (hn.le C.le) (ha.ext C) (Y.le C.le) (ao.ext C) ab V V T (t.fq V)).aG (J.az I) (aa z2) λss b' a4 aq af ac _=>⟨_,_,rfl,?_⟩
   .rcases List.mem_cons.1 e with g|g
    .omega
    .have:=X d g;omega
   refine GB.kM (c:=b') (W.ext rO.mono ac) ((H.trans ac).fz []) aq V λr' q g2 f2 a7 q2=>⟨J.oK ((H.trans ac).aK _) f2.ext (aa (ad _)),az V _ _ ⟨f2.ext,_,g2,bF,λw b2 t=>?_,?_⟩⟩
   .rcases aW w lk.length with U|U
    .rw[av U]at t;exact ag w b2 t
    .rw[aJ U]at t;have:w -lk.length=0:=by have:=aw t;simp at this;omega
     rw[this]at t;simp at t;subst t;have:w=F:=V;subst this;exact af.1
   .rw[oU,uz,zQ,am];have:=af.2;omega
  .have ac:lk.length=x.bC.length:=V;rw[bV V]at an;have U:J M I:=x8.trans H;have T:=B.ext U;have G2:=O.ext gF.mono U;refine⟨s,T.cp 0,?_⟩;refine(bN (s.D::f.size::j.size::p) (ha.ext C) V).aG (J.az I) (aa z2) λs' l' af ga g t _=>⟨_,rfl,aI (t.same _ V) _,aI (t.same _ V) _,aI (t.same _ V) _,aI (t.same _ T.lt) _,?_⟩;subst g;intro am;refine Gr.box (g:=[.i 0,.i 0,.i 0,.s .nil,.s .nil]) (L:=[M.size,j.size,R.size,Q.size]) (j:=0) (y:=72) (i:=[.s s,.i A]) (w:=⟨x.op,x.bP,x.bY,x.args,lk⟩) gF.mono bh (G2.ext gF.mono t) (((xM.trans U).trans t).fz []) ⟨s',ks,rfl,(ga.done (λd e=>oh (X d e)) V),nI.le (t.dg _) (W.done rO.mono X bh (by show lk.length<=_;omega))⟩ V (T.ext t) aL bh ⟨V,aL⟩ (λd e=>by have h1:=t.size;simp at e;omega) λr' m' g' B' f' z' q'=>aA V _ ⟨f'.ext,r',_,g',B',bF,wl.yS (ab.Qd id ab.fg.bY ac ag|>λz=>by rw[P];exact z),?_,?_⟩
   .rw[cZ,kO,th,P];have g:dn (⟨x.op,x.bP,x.bY,x.args,lk⟩:cY)=dn x:=rfl;omega
   .rw[dC,mN,vz];have h5:(⟨x.op,x.bP,x.bY,x.args,lk⟩:cY).w=1+x.args.length+bw lk:=cY.mw _;omega
 .have Z:l=aD.length:=V;subst Z;rw[fx]at P au;refine⟨s,B.cp 0,A,B.cp 1,?_⟩;intro m7;have k:Le (bH (f.size::j.size::p) M) (bH p m7):=cB aL λd e=>ai _ (ai _ e);have t:=O.ne B bh;refine⟨s,.mk u A,rfl,eS.le k (O.nK gF.mono (λe=>?_) bh (by show u.length<=_;omega)),⟨.of wl (by rw[P];exact ah.2),by rw[Bk.qL];omega⟩,y.ah V _ _⟩;rcases List.mem_cons.1 e with g|g
  .exact t g
  .have:=al _ g;omega
def NC{f:List Nat}{e:E}(U:∀a∈f,a<e.size){u v:O}{p:List bz}(s:eN e u v p c){W:Nat}(hW:W<=200000000000)(hk:yD p c True W):va 211 [.agg #[O.v u,O.v v]] e f p λH=>yD p H True W:=by
 apply Hm;simp -zeta only[aC,aB];intro g a2;let⟨I,D⟩:=dD (a:=g) (c:=a2) rfl rfl;have s1:g.size=e.size+1:=by simp[g]
 clear_value a2;have an:=s.iX.len;have az:=s.oG;refine(fV (b:=g.size::f) (bO U I.size (D _ aL)) (s.le I.le).bo s.types).mono λ_ Z⟨ah,r,ai,K⟩=>?_;subst r;refine⟨K.dv D,_,rfl,?_⟩;intro aa av ag;have u2:=I.trans K;let⟨x5,B0,g0,s3,s5⟩:=kZ (b:=aa.size::g.size::f) iU.mono (d:=Z) (a:=aa) (c:=av) (h:=ag) rfl rfl rfl;clear_value ag;have F:∀a∈[g.size,e.size],a<Z.size:=λa j=>K.lt (D a j);have X:∀a∈g.size::f,a<Z.size:=λa j=>K.lt (bO U I.size (D _ aL) a j);refine kV (R:=λb d M=>∃u v H,Value.agg #[O.v b,O.v d]=.agg #[O.v u,O.v v]/\eN (bH f M) u v p H/\yD p H True W/\J e M) (r:=c.length) (f:=e) (b:=f) iU.mono bh bh U ⟨V,F _ aL⟩ u2 s3 ai an V x5 B0 g0 (λ_ q=>q.params.length<=3/\q.cW.length<=3/\WB p c.length True q.params.length q.body/\q.body.w<=W) (λb k Y o h1 h2 d h i=>⟨b,k,Y,rfl,⟨h1,h2,s.types,V⟩,It hk.iZ d h,i⟩) λau M st Y ax μ aj ay L ab N aw=>?_
 let⟨q,hq⟩:=cG c au aj;let⟨am,al,ar,hw⟩:=hk.dz q (aq hq);have B:=u2.trans L;let⟨aA,aD,b,c1,c2,c3,P,Q,T,y,z⟩:=s.iX.aF hq;have G:∀{w:Value}{b o:Nat},af e b o=some w->af M b o=some w:=λh=>B.af h;refine⟨st,N.cp 1,V,V,_,G P,_,G Q,_,G T,_,G y,_,G z,V,V,_,G y,_,G z,?_⟩;intro i;have hy:=ab.bn;have ac:=N.lt;have zM:=L.size;have d:J M i:=J.push _ _;have s7:i.size=M.size+1:=by simp[i]
 have ak:ap i (.mk M.size 0 0 0) []:=mI _ _ _ _ _ _;clear_value i;have k:∀{w:Value}{b o:Nat},af e b o=some w->af i b o=af M b o:=λh=>by rw[d.af (G h),G h]
 have C:∀{b o:Nat},b<M.size->af i b o=af M b o:=λh=>aI (d.same _ h) _;have A:e.size<M.size:=L.lt (F _ aL);refine⟨k y,k z,C A,C A,C A,k P,k Q,k T,k y,k z,C A,C ac,?_⟩;refine(Hl q.body.w q.body (ad _) (st.D::aa.size::g.size::f) i (λa j=>?_) u v b (.mk M.size 0 0 0) [] q.params.length (s.le (B.trans d).le) (c3.le (B.trans d).le) ak ar V bF).aG (L.trans d) F λss b' M1 ao ae t u1=>⟨_,_,rfl,?_⟩
 .simp only[aV]at j;rcases j with r|r|r|r
  .omega
  .omega
  .have:=X a (by simp[r]);omega
  .have:=X a (by simp[r]);omega
 have x:∀{w:Value}{b o:Nat},af e b o=some w->af M1 b o=af i b o:=λh=>by rw[t.af (d.af (G h)),d.af (G h)]
 refine⟨x P,x Q,x T,x y,x z,aI (t.same _ (d.lt A)) _,aI (t.same _ (d.lt ac)) _,?_⟩;exact wh (b:=g.size::f) (v:=ah) (x:=Y) X (λa j=>by have h1:=F a j;have h2:=u1.size;omega) u1 (ab.ext iU.mono (d.trans t)) (N.ext (d.trans t)) V (c1.ext (B.trans (d.trans t))) (c2.ext (B.trans (d.trans t))) ao ⟨V,V⟩ V λs' M' g' B' x'=>aw s' M' _ g' B' x' ⟨am,al,ae.1,bI ae.2 hw⟩
end
section
variable{m:E}{t:O}{b:Bk}{a:List Nat}
def RW(a:Int)(l:List cY):Nat:=l.countP λs=>s.op=a
def Yw:∀l:List cY,RW 14 l+RW 15 l<=l.length
 |[]=>by simp[RW]
 |s::l=>by
  have:=Yw l;simp only[RW,List.countP_cons,aY]at this⊢;by_cases h:s.op=14
  .simp[h];omega
  .by_cases a:s.op=15
   .simp[a];omega
   .simp[h,a];omega
def TU(a:Int)(l:List cY)(s:cY):RW a (l++[s])=RW a l+(if s.op=a then 1 else 0):=by
 simp[RW,List.countP_append,List.countP_cons]
def Jk(g:eS m t b.aD):ta 271 [.agg #[O.v t,vi b.aU]] m λk=>0<=k/\k<=b.aD.length/\∀(i:Nat)(a:cY),b.aD[i]? =some a->(i:Int)<k->a.op=14\/a.op=15:=by
 apply BC;simp -zeta only[aC,aB];intro c;have G:J m c:=J.push _ _;have z:∀q∈[m.size],q<c.size:=by simp[c]
 clear_value c;have A:=g.len;refine dV (n:=b.aD.length) (A▸g.gW) (λk M=>J c M/\∀(i:Nat)(a:cY),b.aD[i]? =some a->i<k->a.op=14\/a.op=15) ⟨J.az _,λi a _ h=>V⟩ ?_;rintro k M L μ S ⟨o,l⟩ D
 have u:=G.trans o;have R:∀{j:E},J m j->∃f:Int,vi (k:Int)=vi f/\(0<=f/\f<=b.aD.length/\∀(i:Nat)(a:cY),b.aD[i]? =some a->(i:Int)<f->a.op=14\/a.op=15)/\J m j:=λI=>⟨k,rfl,⟨V,V,λi a d h=>l i a d V⟩,I⟩;refine⟨λh=>?_,λh=>R u⟩;simp only[ar]at h;let⟨a,d⟩:=cG b.aD k;let⟨p,C,P,T,s,g1,g2,v,w⟩:=g.aF d;refine⟨V,V,_,u.af s,_,u.af g1,_,u.af g2,_,u.af v,_,u.af w,?_⟩;refine(Bh (x:=a) p C M).aG o z λN U y H F=>⟨_,rfl,λB=>D V _ ⟨F,λi K e Q=>?_⟩,λ_=>R (u.trans H)⟩;by_cases r:i=k
 .subst r;rw[d]at e;simp at e;subst e;exact y.1 B
 .exact l i K e V
def yr(L:∀g∈a,g<m.size)(C:eS m t b.aD){d:Nat}(hm:d<=b.aD.length)(e:Int)(K:∀(i:Nat)(s:cY),b.aD[i]? =some s->i<d->0<s.args.length)(hb:b.aD.length<=10^12):
 lg 272 [.agg #[O.v t,vi b.aU],vi d,vi e] m a λl=>(∀y∈l,∃(i:Nat)(s:cY),i<d/\b.aD[i]? =some s/\y∈s.args)/\l.length<=RW e (b.aD.take d):=by
 apply CI
 simp -zeta only[aC,aB]
 intro c w
 have z:J m c:=J.push _ _
 have N:∀g∈[m.size],g<c.size:=by simp[c]
 have Q:J c w:=J.push _ _
 have I:GI a c w (.mk c.size 0 0 0) []:=GI.nil a c
 clear_value w
 clear_value c
 have ac:=C.len
 refine eu (n:=d) V (λk s M=>J c M/\∃l,GI a c M s l/\(∀y∈l,∃(i:Nat)(s:cY),i<d/\b.aD[i]? =some s/\y∈s.args)/\l.length<=RW e (b.aD.take k)) ⟨Q,[],I,aL,aL⟩ ?_
 rintro k s M S μ hk ⟨p,l,q,v,P⟩ E
 have u:=z.trans p
 refine dit (λr=>?_) λr=>?_
 .let⟨x,o⟩:=cG b.aD k
  let⟨U,kk,B,ab,F,W,X,G,Y⟩:=C.aF o
  have Z:=B.len
  have:=K k x o V
  let⟨y,D⟩:=cG x.args 0
  have j:RW e (b.aD.take (k+1))=RW e (b.aD.take k)+(if x.op=e then 1 else 0):=by rw[aT o,TU]
  have aa:RW e (b.aD.take k)<=(b.aD.take k).length:=List.countP_le_length
  have ad:=qN k b.aD
  refine⟨V,V,_,u.af F,λh=>⟨V,V,_,u.af G,bh,V,y,(B.ext u).aF D,?_⟩,λh=>E V _ _ ⟨p,l,q,v,?_⟩⟩
  .intro m3
   simp only[aH]at h
   rw[an h]at j
   refine GI.kM q (p.fz []) (λg j=>z.lt (L g j)) V λaf T H A _ _=>⟨J.oK (p.aK _) A.ext N,E V _ _ ⟨A.ext,_,H,λR f=>?_,bF⟩⟩
   rcases List.mem_append.1 f with f|f
   .exact v R f
   .simp at f;subst f;exact⟨k,x,V,o,aq D⟩
  .simp only[aj]at h
   rw[ae h]at j;omega
 .have f:k=d:=V
  subst f
  exact⟨s,l,rfl,q.cz (λ_ r=>r) z.size,⟨v,P⟩,u⟩
def RX:∀{l:List cY},(∀x∈l,dn x=0)->dc l=0
 |[],_=>rfl
 |x::l,h=>by rw[kO,h x bg,RX λy a=>h y (ai _ a)]
def UA:∀{l:List cY},(∀x∈l,2<=x.w)->2*l.length<=sw l
 |[],_=>aL
 |x::l,h=>by
  have b:=h x bg;have c:=UA λy a=>h y (ai _ a);rw[mN,aY];omega
def MA(hS:∀c∈a,c<m.size){X:O}{q:List Int}{ds:List bz}{nr g:Nat}(o:eS (bH a m) t b.aD)(hf:ap m X q)(bn:q.length<=3)(am:WB ds nr True (g+q.length) b)(hw:b.w<=100000000000)(ha:g<=10^12){h:Int}(hx:0<=h/\h<(g:Int)):
 nA 247 [.agg #[O.v t,vi b.aU],vi h,O.v X,vi g] m a λb'=>WB ds nr True (g+q.length) b'/\b'.w<=b.w+8:=by
 apply Fa
 simp -zeta only[aC,aB]
 intro p T
 let⟨B,C⟩:=dD (a:=p) (c:=T) rfl rfl
 have s1:p.size=m.size+1:=by simp[p]
 have s2:T.size=m.size+2:=by simp[T,s1]
 clear_value T
 let⟨an,aM⟩:=am.aS
 have al:=o.le (bA _ _)
 have bk:=Bk.mw b
 have bt:=fZ b.aD
 have aO:=o.len
 have bm:=o.cap
 have bo:=hf.len
 refine(Jk (al.le B.le)).aG (J.az T) C λmn m3 a6 x3 _=>⟨_,rfl,?_⟩
 obtain⟨kn,a4⟩:∃kn:Nat,mn=kn:=⟨mn.toNat,V⟩
 subst a4
 have aK:∀(d:Nat)(s:cY),b.aD[d]? =some s->d<kn->s.op=14\/s.op=15:=λd s w aG=>a6.2.2 d s w V
 have ak:∀(d:Nat)(s:cY),b.aD[d]? =some s->d<kn->0<s.args.length:=λd s w aG=>by
  have:=aK d s w aG;have:=(an d s w).fg.lM V;omega
 refine(yr (a:=[]) aL (al.le (B.trans x3).le) (d:=kn) V 14 ak V).aG x3 C λsd G m4 gd hd x4 v4=>⟨_,rfl,?_⟩
 refine(yr (a:=[]) aL (al.le (B.trans v4).le) (d:=kn) V 15 ak V).aG v4 C λsr Q m5 gr hr x5 v5=>⟨_,rfl,?_⟩
 have bl:=Yw (b.aD.take kn)
 have bw:(b.aD.take kn).length=kn:=bF
 have aN:ap m5 sr Q:=(gr.done aL V).le (bA _ _)
 refine(dw aN h).aG v5 C λbi m6 bj x6 A=>⟨_,rfl,λ_=>⟨t,b,rfl,o.le (((B.trans A).ah V _ _).dg _),⟨am,V⟩,(B.trans A).ah V _ _⟩,λbp=>⟨λ_=>⟨t,b,rfl,o.le (((B.trans A).ah V _ _).dg _),⟨am,V⟩,(B.trans A).ah V _ _⟩,λa7=>?_⟩⟩
 have bq:0<q.length:=by simp only[aj]at a7;omega
 have aH:∀s∈b.aD.take kn,∃d:Nat,d<kn/\b.aD[d]? =some s:=λs o=>by
  let⟨d,w⟩:=List.mem_iff_getElem?.1 o;have:=aw w;rw[dH V]at w;exact⟨d,V,w⟩
 have aE:dc (b.aD.take kn)=0:=RX λs o=>by
  let⟨d,Z,L⟩:=aH s o;have:=aK d s L Z;exact ae λY:pt s.op=>by have:=Y.2;omega
 have bs:2*kn<=sw (b.aD.take kn):=by
  have:=UA (l:=b.aD.take kn) λs o=>by
   let⟨d,Z,L⟩:=aH s o;have:=ak d s L Z;have:=cY.mw s;omega
  omega
 have bv:sw b.aD=sw (b.aD.take kn)+sw (b.aD.drop kn):=by rw[<-dC,dm]
 have a1:dc b.aD=dc (b.aD.take kn)+dc (b.aD.drop kn):=by rw[<-cZ,dm]
 have Yd:∀y:Int,(∃(d:Nat)(s:cY),d<kn/\b.aD[d]? =some s/\y∈s.args)->0<=y/\y<((g+q.length:Nat):Int):=λy⟨d,s,Z,L,h3⟩=>by
  have h4:=(an d s L).fg.args y h3;have h5:=TV (b.aD.take kn) d;rw[MQ,jf V]at h5;omega
 refine(sB (S:=[]) aL ((aN.ext x6).le (Ao _)) h V).aG A C λbd a_ m8 aD aJ x8 v8=>⟨_,rfl,?_⟩
 have y2:=aD.bn
 have bW:=x8.size
 have a8:ap (bH [bd.D] m8) sd G:=((gd.done aL V).le (bA _ _)).le (((x5.trans x6).le.trans (Ao m6)).trans (x8.bH λc e=>Or.inr (by simp at e;omega)))
 refine xe (n:=q.length) V (λk sd sr M=>J m6 M/\∃G Q,ap (bH [sr.D] M) sd G/\GI [] m6 M sr Q/\(∀y∈G,0<=y/\y<((g+q.length:Nat):Int))/\G.length<=RW 14 (b.aD.take kn)/\(∀y∈Q,0<=y/\y<((g+q.length:Nat):Int))/\Q.length<=RW 15 (b.aD.take kn)+k) ⟨x8,G,a_,a8,aD,λy P=>Yd y (hd.1 y P),hd.2,λy P=>Yd y (hr.1 y (aJ.1 y P)),PA aJ.2 hr.2⟩ ?_
 rintro k H D u av μ hk ⟨I,ac,R,N,K,aa,aF,ab,br⟩ ao
 have U:=(B.trans A).trans I
 have y3:=K.bn
 have r:∀c∈[p.size,m.size],c<u.size:=λc e=>I.lt (A.lt (C c e))
 refine⟨λY=>?_,λY=>?_⟩
 .simp only[ar]at Y
  let⟨y,P⟩:=cG q k
  have ew:cU ((g:Int)+(k:Int))=(g:Int)+k:=aP V V
  rw[ew]
  have ah:∀{M:E},J u M->af M X.D (X.off+Int.toNat (k:Int)*1)=some (vi y):=λv=>(hf.ext (U.trans v)).aF P
  have ay:∀{M:E},J u M->av H D (cU ((k:Int)+1)) M/\μ H D (cU ((k:Int)+1)) M<μ H D k u:=λv=>ao V _ _ _ ⟨I.trans v,ac,R,N.le (v.dg _),K.ext v,aa,aF,ab,V⟩
  have OY:∀{M:E},J u M->jN (M.push (.cells (bu [.i ((g:Int)+k)]) aA)) aA [.i 0] 8 D (.mk M.size 0 1 1) λau W=>eI [p.size,m.size] (M.push (.cells (bu [.i ((g:Int)+k)]) aA)) W/\av H au (cU ((k:Int)+1)) W/\μ H au (cU ((k:Int)+1)) W<μ H D k u:=λ{M} v=>by
   refine GI.kM (K.ext v) ((I.trans v).fz []) aL V λau W g' f' z' q'=>⟨J.oK ((I.trans v).aK _) f'.ext (λc e=>A.lt (C c e)),ao V _ _ _ ⟨f'.ext,ac,_,(N.le (v.dg _)).le (pG λc e hn=>?_),g',aa,aF,λag z=>?_,bF⟩⟩
   .simp at hn;refine⟨?_,q' c e hn⟩;simp;rcases z'.2 with f|f<;>omega
   .rcases List.mem_append.1 z with z|z
    .exact ab ag z
    .simp at z;omega
  refine⟨V,V,y,ah (J.az _),λ_=>?_,λ_=>⟨V,V,y,ah (J.az _),λ_=>?_,λ_=>ay (J.az _)⟩⟩
  .refine(dw (N.le (bA _ _)) _).aG (J.az u) r λbb aS _ F _=>⟨_,rfl,λ_=>?_,λ_=>⟨V,V,y,ah F,λ_=>?_,λ_=>ay F⟩⟩
   .refine(sB (S:=[D.D]) (by have:=F.size;simp;omega) (N.le (F.dg _)) _ V).aG F r λaT aR ax aQ aq aU az=>⟨_,rfl,ao V _ _ _ ⟨I.trans az,aR,R,aQ.done (by have:=F.size;simp;omega) (oh aq.2),K.ext az,λag z=>aa ag (aq.1 ag z),oh aq.2,ab,V⟩⟩
   .intro ax
    exact OY F
  .intro ax
   exact OY (J.az _)
 .have a9:ap u D R:=(K.done aL V).le (bA _ _)
  have F:∀{M:E},u.size<=M.size->∀c∈p.size::a,c<M.size:=λz c e=>by
   rcases List.mem_cons.1 e with f|f
   .have:=r p.size aL;omega
   .have:=hS c f;have:=U.size;omega
  refine(eZ (c:=p.size::a) (F (ad _)) 14 (N.le (bA _ _)) V).aG (J.az u) r λba bB bD ax aW ah _=>⟨_,rfl,?_⟩
  subst aW
  have bR:=ax.bn
  have bf:=ah.size
  refine(jm (c:=ba.D::p.size::a) (λc e=>?_) 16 h).mono λbQ bE⟨bg,bx,f,a0,a3,aq⟩=>⟨λc e=>aq.same c (ah.lt (r c e)),_,_,_,_,_,f,?_⟩
  .rcases List.mem_cons.1 e with f|f
   .omega
   .exact F bf c f
  intro bG
  have au:=ah.trans aq
  refine GS.kM (x:=fe 16 h) (ax.ext gF.mono aq) (au.fz []) a0 a3 bF λbb bI ay P bX bM=>⟨J.oK (au.aK _) P.ext r,?_⟩
  have bS:=ay.bn
  have bU:=au.size
  have aT:=P.size
  refine(eZ (c:=bb.D::p.size::a) (λc e=>?_) 15 (a9.ext P.ext) V).aG P.ext r λbP bC bJ aY aX be aS=>⟨_,rfl,?_⟩
  .rcases List.mem_cons.1 e with f|f
   .omega
   .exact F aT c f
  subst aX
  refine GS.all (ay.ext gF.mono be) (aS.fz []) (aY.done gF.mono (λc e=>?_) bh bF) bF λaR aQ az v bY bN=>⟨J.oK aS v.ext r,V,V,V,?_⟩
  .rcases List.mem_cons.1 e with f|f
   .omega
   .exact F aT c f
  have bT:=az.bn
  have z9:=U.size
  have a5:Le (bH a m) (bH (aR.D::p.size::a) aQ):=(U.trans v.ext).bH λc e=>by
   simp only[aV]at e;rcases e with f|f|f
   .exact Or.inr V
   .exact Or.inr V
   .exact Or.inl f
  have ek:Int.toNat (kn:Int)=kn:=V
  have el:Int.toNat (t.len:Int)=t.len:=V
  rw[ek,el]
  have a2:eS (bH (aR.D::p.size::a) aQ) (t.cut kn t.len 5) (b.aD.drop kn):=by
   have:=(o.le a5).Lh (i:=kn) (j:=t.len) V V;rwa[aO,bV (ad _),<-aO]at this
  refine GS.all az v a2 bF λbc bK aZ ag bZ bO=>⟨J.oK v.ext ag.ext r,aI (by rw[ag.ext.same _ (r _ aL),v.ext.same _ (r _ aL)]) _,?_⟩
  intro bL
  have aU:=aZ.done gF.mono (F (ad _)) bh bF
  have W:dc [fe 16 h]=0:=jW bh [h]
  have e2:sw [fe 16 h]=2:=oF 16 [h]
  have W1:WL ds nr True (g+q.length) (ac.map (fe 14)++[fe 16 h]++R.map (fe 15)++b.aD.drop kn):=by
   refine WL.append (WL.append ((rS bh aa).yS ?_) ?_) ?_
   .rw[jW bh];exact Ec bh ⟨hx.1,V⟩
   .rw[cZ,jW bh,W];exact rS bh ab
   .rw[cZ,cZ,jW bh,jW bh,W];have:=an.drop kn;rwa[aE]at this
  refine⟨bc,.mk (ac.map (fe 14)++[fe 16 h]++R.map (fe 15)++b.aD.drop kn) b.aU,rfl,eS.le (cB aL λc e=>ai _ e) aU,⟨.of W1 ?_,?_⟩,(U.trans ag.ext).ah V _ _⟩
  .rw[cZ,cZ,cZ,jW bh,jW bh,W]
   rw[a1,aE]at aM
   simpa using aM
  .rw[Bk.qL,dC,dC,dC,oF,oF,e2];omega
end
def Z3(c:List bz)(d:List gR)(b:Bk):Prop:=∀(S:List Nat)(m:E),(∀a∈S,a<m.size)->∀(f r t:O)(a:Nat),eN m f r c d->eS m t b.aD->WB c d.length True a b->a+4*b.w<=10^12->9*b.w<=100000000000->
 nA 231 [.agg #[O.v f,O.v r],.agg #[O.v t,vi b.aU],vi a] m S λe=>WB c d.length True a e/\e.w+8<=9*b.w
def Dt{z:List bz}{rs:List gR}:∀B:Bk,Z3 z rs B:=by
 refine Bk.ind ?_;intro aD X ih p ac hS aS a6 bX q I hs bk bx bB;have a1:=bk.aS;rw[Bk.qL]at*;simp only[Bk.jV,Bk.jw]at*;apply wM;simp -zeta only[aC,aB];intro ag j t g m5 m6;let⟨x3,hl,s1,s2,s3⟩:=ql (a:=ag) (b:=j) (c:=t) rfl rfl rfl;have s4:g.size=t.size+1:=by simp[g]
 have a8:J g m6:=(J.push g _).ah (ad _) _ _;have bp:J t m6:=(J.push t _).trans a8;have g0:GS (g.size::j.size::p) t m6 (.mk t.size 0 0 0) []:=(GS.new _ t).ext gF.mono a8;have B0:cF m6 g.size di [.s (.mk t.size 0 0 0),.i X]:=cF.ah (m:=m5) (o:=0) (r:=[.s (.mk t.size 0 0 0),.i X]) (cF.push g _ _);have a_:∀d∈j.size::p,d<t.size:=bO hS x3.size (hl _ aL);clear_value m6;clear_value t;have be:=hs.len;have bg:=BV aD;have bM:=fZ aD;refine eu (n:=aD.length) (be▸hs.gW) (λk(v:Int) M=>v=((q+dc (aD.take k):Nat):Int)/\J t M/\∃s w,GS (g.size::j.size::p) t M s w/\cF M g.size di [.s s,.i X]/\w.length=k/\WL z rs.length True q w/\dc w=dc (aD.take k)/\sw w<=9*sw (aD.take k)) ⟨aL,bp,_,[],g0,B0,rfl,WL.nil _ _ _ _,aL,aL⟩ ?_;rintro k v0 M aR μ hk ⟨bj,xM,s,w,am,Z,bI,wl,au,bi⟩ a5
 subst bj;have v:=x3.trans xM;have hy:=am.bn;have zM:=xM.size;have bs:=Z.lt;refine dit (λao=>?_) λao=>?_
 .let⟨c,N⟩:=cG aD k;let⟨pa,pk,ha,aK,e0,e1,e2,e3,e4⟩:=hs.aF N;have bR:=Pp N;have bT:=cY.mw c;have bC:=qt c.bC;have bS:=pX N;have bQ:=qQ N;have U:=a1.1 k c N;have bE:=tg (aD.take k);have bL:=fZ (aD.take k);have bP:=bg (k+1);refine⟨V,V,_,v.af e0,_,v.af e1,_,v.af e2,_,v.af e3,_,v.af e4,?_⟩;intro m7 l Q;have x8:J M l:=(J.push M _).ah (ad _) _ _;have s8:l.size=M.size+1:=by simp[l,m7,ax]
  have x9:J l Q:=J.push _ _;have s9:Q.size=l.size+1:=by simp[Q]
  have a9:GB (s.D::g.size::j.size::p) l Q (.mk l.size 0 0 0) []:=GB.new _ l;clear_value Q;clear_value l;have aF:∀d∈s.D::g.size::j.size::p,d<l.size:=λd h=>by
   simp only[aV]at h;rcases h with e|e|e|e
   .omega
   .omega
   .omega
   .have:=hS d e;omega
  have aM:=aK.len;have D:∀{f:E},l.size<=f.size->∀d∈[M.size,j.size,ag.size,ac.size],d<f.size:=λao d h=>by simp at h;omega
  have z9:Q.size=l.size+1:=s9;refine(iy (e:=[l.size]) bF (I.bo.le (v.trans (x8.trans x9)).le) I.types c.bP).aG (J.az Q) (D x9.size) λsc lc bU aY e a7 _=>⟨_,rfl,?_⟩;subst e;have bJ:=aY.len;refine eu (n:=c.bC.length) (aM▸aK.gW) (λu ks f=>J l f/\ap (bH [ks.D] f) sc (cA z c.bP)/\∃lk,GB (s.D::g.size::j.size::p) l f ks lk/\lk.length=u/\(∀(P:Nat)(B:Bk),lk[P]? =some B->WB z rs.length True (q+dc (aD.take k)+Cd z c.op c.bP P) B)/\bw lk<=9*bw (c.bC.take u)) ⟨x9.trans a7,aY,[],a9.ext rO.mono a7,rfl,aL,aL⟩ ?_;rintro u ks A I2 μ2 hj ⟨ak,aZ,lk,gk,bG,aU,bd⟩ bn;have F:J ac A:=v.trans (x8.trans ak);have yk:=gk.bn;have R:=ak.size;refine dit (λh2=>?_) λh2=>?_
  .let⟨B,T⟩:=cG c.bC u;let⟨tb,a0,f0,f1⟩:=aK.aF T;have bD:=wX T;have bb:=uA T;have ar:=U.bC u B T;have h3:=Q0 I.types c.op c.bP u;have aE:∀{f:E},J A f->∀d∈ks.D::s.D::g.size::j.size::p,d<f.size:=λxx d h=>by
    have:=xx.size;rcases List.mem_cons.1 h with e|e
    .omega
    .have:=aF d e;omega
   have al:∀{f:E}{Y:O}{C:Bk},J A f->eS (bH (ks.D::s.D::g.size::j.size::p) f) Y C.aD->WB z rs.length True (q+dc (aD.take k)+Cd z c.op c.bP u) C->C.w<=9*B.w->
    jN (f.push (.cells (bu [.s Y,.i C.aU]) di)) di [.s .nil,.i 0] 32 ks (.mk f.size 0 1 1) λW M3=>eI [M.size,j.size,ag.size,ac.size] (f.push (.cells (bu [.s Y,.i C.aU]) di)) M3/\I2 W (cU ((u:Int)+1)) M3/\μ2 W (cU ((u:Int)+1)) M3<μ2 ks u A:=λ{f Y C} x11 ab hwb' hw'=>by
    refine GB.kM (c:=C) (gk.ext rO.mono x11) ((ak.trans x11).fz []) ab V λW M3 g2 f2 bq q2=>⟨J.oK ((ak.trans x11).aK _) f2.ext (D (ad _)),bn V _ _ ⟨f2.ext,(aZ.le (x11.dg _)).le (pG λd h aX=>?_),_,g2,bF,λP b2 H=>?_,?_⟩⟩
    .simp at aX
     refine⟨?_,q2 d h aX⟩
     simp
     rcases bq.2 with e|e<;>omega
    .rcases aW P lk.length with y|y
     .rw[av y]at H;exact aU P b2 H
     .rw[aJ y]at H
      have:P -lk.length=0:=by have:=aw H;simp at this;omega
      rw[this]at H;simp at H;subst H
      have:P=u:=V
      subst this;exact hwb'
    .rw[oU,uz,zQ,bb]
     omega
   refine⟨λG=>?_,λG=>?_⟩
   .simp only[aH]at G;obtain⟨bv,_⟩:=U.fg.all G;have br:=U.fg.lM (Or.inr (Or.inr G));let⟨aQ,a2⟩:=cG c.args 0;let⟨y0,y1⟩:=U.fg.args aQ (aq a2);have bt:=ha.len;let⟨cn,aT⟩:=cG (cA z c.bP) u;refine⟨V,V,cn,(aZ.le (bA _ _)).aF aT,?_⟩;refine(dJ (e:=[]) aL (I.bo.le (F.le.trans (Ao _))) I.types cn).aG (J.az A) (D R) λsf lf a3 ay e az _=>⟨_,rfl,?_⟩;subst e;have ay:=ay.le (bA _ _);have bK:=ay.len;have aa:=F.trans az;rw[KY G aT]at ar h3 al;have aA:af a3 pa.D (pa.off+Int.toNat (0:Int)*1)=some (vi aQ):=(ha.ext aa).aF a2;refine⟨V,V,_,aa.af f0,_,aa.af f1,bh,V,aQ,aA,?_⟩;have ew:cU (((q+dc (aD.take k):Nat):Int)+(sf.len:Int))=((q+dc (aD.take k)+(cE z cn).length:Nat):Int):=by rw[aP V V];omega
    rw[ew];refine(ih c (aq N) B (aq T) (ks.D::s.D::g.size::j.size::p) a3 (aE az) aS a6 tb _ (I.le aa.le) (a0.le aa.le) ar V V).aG az (D R) λY C bl ab aG ah aO=>⟨_,_,rfl,?_⟩;refine⟨by rw[ah.af aA,aA],aI (ah.same _ (az.lt (D R _ aL))) _,?_⟩;refine(MA (a:=ks.D::s.D::g.size::j.size::p) (aE aO) ab (ay.ext ah) V aG.1 V V ⟨y0,y1⟩).aG aO (D R) λbW b2 a4 bf ba y bo=>⟨_,_,rfl,?_⟩;intro bm;exact al bo bf ba.1 V
   .simp only[aj]at G;rw[KZ G]at ar al;refine⟨V,V,_,F.af f0,_,F.af f1,?_⟩;refine(ih c (aq N) B (aq T) (ks.D::s.D::g.size::j.size::p) A (aE (J.az _)) aS a6 tb _ (I.le F.le) (a0.le F.le) ar V V).aG (J.az A) (D R) λY C bl ab aG ah aO=>⟨_,_,rfl,?_⟩;intro a4;exact al ah ab aG.1 V
  .have ar:lk.length=c.bC.length:=V;rw[bV V]at bd;have T:J M A:=x8.trans ak;have H:=Z.ext T;have G2:=am.ext gF.mono T;refine⟨s,H.cp 0,?_⟩;refine(bN (s.D::g.size::j.size::p) (ha.ext F) V).aG (J.az A) (D R) λs' l' a4 ga e y _=>⟨_,rfl,aI (y.same _ V) _,aI (y.same _ V) _,aI (y.same _ V) _,aI (y.same _ H.lt) _,?_⟩;subst e;intro bm;refine Gr.box (g:=[.i 0,.i 0,.i 0,.s .nil,.s .nil]) (K:=λf=>aN cg 179 [vi c.op] f λv G=>eI [M.size,j.size,ag.size,ac.size] f G/\∃C:Bool,v=vb C/\
    (C=true->aR (cU (((q+dc (aD.take k):Nat):Int)+1)) (cU ((k:Int)+1)) G/\μ (cU (((q+dc (aD.take k):Nat):Int)+1)) (cU ((k:Int)+1)) G<μ ((q+dc (aD.take k):Nat):Int) (k:Int) M)/\
    (C=false->aR ((q+dc (aD.take k):Nat):Int) (cU ((k:Int)+1)) G/\μ ((q+dc (aD.take k):Nat):Int) (cU ((k:Int)+1)) G<μ ((q+dc (aD.take k):Nat):Int) (k:Int) M)) (L:=[M.size,j.size,ag.size,ac.size]) (j:=0) (y:=72) (i:=[.s s,.i X]) (w:=⟨c.op,c.bP,c.bY,c.args,lk⟩) gF.mono bh (G2.ext gF.mono y) (((xM.trans T).trans y).fz []) ⟨s',ks,rfl,(ga.done (λd h=>oh (aF d h)) V),nI.le (y.dg _) (gk.done rO.mono aF bh (by show lk.length<=_;omega))⟩ V (H.ext y) aL bh ⟨V,aL⟩ (λd h=>by have C:=y.size;simp at h;omega) λW m' g' Y f' z' q'=>?_
   have W':WL z rs.length True q (w++[⟨c.op,c.bP,c.bY,c.args,lk⟩]):=wl.yS (U.Qd id U.fg.bY ar aU|>λao=>by rw[au];exact ao);have ay:=y.size;refine(jQ c.op m').mono λv G⟨bb,e,al,C⟩=>⟨λd h=>C.same d (oh (D R d h)),bb,e,?_⟩;have ab:=tj c bb al;have aa:dc (w++[⟨c.op,c.bP,c.bY,c.args,lk⟩])=dc (aD.take (k+1)):=by
    rw[cZ,kO,th,au];have e:dn (⟨c.op,c.bP,c.bY,c.args,lk⟩:cY)=dn c:=rfl;omega
   have ah:sw (w++[⟨c.op,c.bP,c.bY,c.args,lk⟩])<=9*sw (aD.take (k+1)):=by
    rw[dC,mN,vz];have h5:(⟨c.op,c.bP,c.bY,c.args,lk⟩:cY).w=1+c.args.length+bw lk:=cY.mw _;omega
   refine⟨λht=>?_,λhf=>?_⟩
   .rw[an ht]at ab;rw[aP (b:=((q+dc (aD.take k):Nat):Int)+1) V V];exact a5 V _ _ ⟨V,f'.ext.trans C,W,_,g'.ext gF.mono C,Y.ext C,bF,W',aa,ah⟩
   .rw[ae (by simp[hf])]at ab;exact a5 V _ _ ⟨V,f'.ext.trans C,W,_,g'.ext gF.mono C,Y.ext C,bF,W',aa,ah⟩
 .have aM:k=aD.length:=V;subst aM;rw[fx]at au bi;refine⟨s,Z.cp 0,X,Z.cp 1,?_⟩;intro m7;have c:Le (bH (g.size::j.size::p) M) (bH p m7):=cB aL λd h=>ai _ (ai _ h);have f:=am.ne Z bh;refine⟨s,.mk w X,rfl,eS.le c (am.nK gF.mono (λh=>?_) bh (by show w.length<=_;omega)),⟨.of wl (by rw[au];exact a1.2),by rw[Bk.qL];omega⟩,v.ah V _ _⟩;rcases List.mem_cons.1 h with e|e
  .exact f e
  .have:=a_ _ e;omega
def Fh{d:List Nat}{f:E}(A:∀c∈d,c<f.size){j r:O}{h:List bz}{k:List gR}(i:eN f j r h k){W:Nat}(hW:9*W<=100000000000)(X:yD h k True W):va 210 [.agg #[O.v j,O.v r]] f d h λu=>yD h u True (9*W):=by
 apply xU;simp -zeta only[aC,aB];intro b a2;let⟨y,t⟩:=dD (a:=b) (c:=a2) rfl rfl;have s1:b.size=f.size+1:=by simp[b]
 clear_value a2;have al:=i.iX.len;have aA:=i.oG;refine(fV (b:=b.size::d) (bO A y.size (t _ aL)) (i.le y.le).bo i.types).mono λ_ I⟨ac,e,ah,z⟩=>?_;subst e;refine⟨z.dv t,_,rfl,?_⟩;intro K ap aa;have u2:=y.trans z;let⟨x5,B0,g0,s3,s5⟩:=kZ (b:=K.size::b.size::d) iU.mono (d:=I) (a:=K) (c:=ap) (h:=aa) rfl rfl rfl;clear_value aa;have F:∀c∈[b.size,f.size],c<I.size:=λc a=>z.lt (t c a);have D:∀c∈b.size::d,c<I.size:=λc a=>z.lt (bO A y.size (t _ aL) c a);refine kV (R:=λg o M=>∃j r u,Value.agg #[O.v g,O.v o]=.agg #[O.v j,O.v r]/\eN (bH d M) j r h u/\yD h u True (9*W)/\J f M) (r:=k.length) (f:=f) (b:=d) iU.mono bh bh A ⟨V,F _ aL⟩ u2 s3 ah al V x5 B0 g0 (λ_ q=>q.params.length<=3/\q.cW.length<=3/\WB h k.length True q.params.length q.body/\q.body.w<=9*W) (λg w H x T s o p v=>⟨g,w,H,rfl,⟨T,s,i.types,V⟩,It X.iZ o p,v⟩) λao M st H av μ ai ay N Q B ar=>?_
 let⟨q,Z⟩:=cG k ao ai;let⟨ak,aj,an,hw⟩:=X.dz q (aq Z);have v:=u2.trans N;let⟨au,aD,p,P,c2,c3,e0,e1,e2,e3,e4⟩:=i.iX.aF Z;have G:∀{ab:Value}{p o:Nat},af f p o=some ab->af M p o=some ab:=λag=>v.af ag;refine⟨V,V,_,G e0,_,G e1,_,G e2,_,G e3,_,G e4,?_⟩;intro m7 g;have hy:=Q.bn;have aw:=B.lt;have zM:=N.size;have L:J M g:=(J.push M _).ah (ad _) _ _;have s8:g.size=M.size+1:=by simp[g,m7,ax]
 clear_value g;have Y:∀c∈[M.size,b.size,f.size],c<g.size:=λc a=>by
  rcases List.mem_cons.1 a with e|e
  .omega
  .have:=F c e;omega
 have w8:=v.trans L;have az:=P.len;have ae:(au.len:Int)=(q.params.length:Nat):=V;refine⟨st,(B.ext L).cp 1,?_⟩;rw[ae];refine(Dt q.body (st.D::K.size::b.size::d) g (λc a=>?_) j r p q.params.length (i.le w8.le) (c3.le w8.le) an V V).aG (J.az g) Y λss b' M1 am U w _=>⟨_,_,rfl,?_⟩
 .simp only[aV]at a;rcases a with e|e|e|e
  .omega
  .omega
  .have:=D c (by simp[e]);omega
  .have:=D c (by simp[e]);omega
 have C:∀o,af M1 M.size o=af g M.size o:=λo=>aI (w.same _ V) o;refine⟨C 0,C 1,C 2,C 3,C 4,aI (w.same _ V) _,?_⟩;have x:=L.trans w;have z1:=w.size;exact wh (b:=b.size::d) (v:=ac) (x:=H) D (λc a=>by have T:=Y c a;have s:=F c;simp only[aV]at a s;rcases a with e|e|e|e<;>first|omega|(have:=s (by simp[e]);omega)|simp at e) (N.trans x) (Q.ext iU.mono x) (B.ext x) V (P.ext (v.trans x)) (c2.ext (v.trans x)) am ⟨V,V⟩ V λs' T g' s x'=>ar s' T _ g' s x' ⟨ak,aj,U.1,by have:=U.2;show b'.w<=_;omega⟩
section
variable{S:List Nat}{m:E}{c:O}{l:List Instr}
def dS.le{m b:E}(h:Le m b){a:List Ce}{x:Instr}:dS m a x->dS b a x:=λ⟨c,j,d,e,f⟩=>⟨c,j,d,e.le h,f.le h⟩
def dS.mono:oD 6 dS:=⟨λh=>dS.le h,λh=>by obtain⟨_,_,rfl,_⟩:=h;rfl⟩
def fm.le{m b:E}(a:Le m b){s:O}{l:List Instr}(h:fm m s l):fm b s l:=eR.le h a λ_ _=>dS.le a
def lx.le{m b:E}(h:Le m b){a:List Ce}{x:dy}:lx m a x->lx b a x:=λ⟨d,l,c,e,f,g,i⟩=>⟨d,l,c,e,f.le h,g.le h,fm.le h i⟩
def lx.mono:oD 5 lx:=⟨λh=>lx.le h,λh=>by obtain⟨_,_,_,rfl,_⟩:=h;rfl⟩
def iJ.le{m b:E}(a:Le m b){s:O}{l:List dy}(h:iJ m s l):iJ b s l:=eR.le h a λ_ _=>lx.le a
def We(x:Instr)(a j:O):Value:=.agg #[vi x.op,vi x.dst,vi x.bP,vi x.bY,O.v a,O.v j]
def wB(A:∀c∈S,c<m.size){r u:O}{x:Instr}(B:ap m r x.args)(C:ap m u x.eO)(h:x.args.length<=10^12/\x.eO.length<=10^12):
 aN cg 213 [We x r u] m λH p=>∃g j,H=We x g j/\ap (bH S p) g x.args/\ap (bH S p) j x.eO/\J m p:=by
 apply rG
 simp -zeta only[aC,aB]
 intro d e
 let⟨k,i⟩:=dD (a:=d) (c:=e) rfl rfl
 have K:d.size=m.size+1:=by simp[d]
 clear_value e
 have s:∀c∈d.size::S,c<e.size:=bO A k.size (i _ aL)
 have b:∀{M q:E},J e M->J M q->∀o,af q m.size o=af M m.size o:=λy z o=>aI (z.same _ (y.lt (i _ aL))) o
 refine(bN (d.size::S) (B.ext k) h.1).aG (J.az e) i λg _ I v l a _=>⟨_,rfl,b (J.az _) a _,b (J.az _) a _,b (J.az _) a _,b (J.az _) a _,b (J.az _) a _,?_⟩
 subst l
 refine(bN (d.size::S) (C.ext (k.trans a)) h.2).aG a i λj _ D w l f G=>⟨_,rfl,b a f _,b a f _,b a f _,b a f _,?_⟩
 subst l
 intro F
 have t:Le (bH (d.size::S) D) (bH S F):=cB aL λc n=>ai _ n
 exact⟨g,j,rfl,((v.done s h.1).le (f.dg _)).le t,(w.done (λc n=>a.lt (s c n)) h.2).le t,(k.trans G).ah V _ _⟩
def NB(d:fm m c l)(s:Int):FG 206 [O.v c,vi s] m:=by
 apply Hk;have k:=d.len;refine eu (n:=l.length) (k▸d.gW) (λ_ _ M=>J m M) (J.az _) ?_;rintro q K M I μ F e u
 refine⟨λh=>?_,λ_=>rN e⟩;simp only[ar]at h;let⟨x,o⟩:=cG l q;let⟨z,H,b,E,A,g,B,C,f,D⟩:=(fm.ext e d).aF o;have j:=b.len;refine⟨V,V,_,g,?_⟩;refine eu (n:=x.args.length) (j▸b.gW) (λ_ _ a=>J M a) (J.az _) ?_;rintro r L w v μ2 G a t;refine⟨V,V,_,a.af f,λi=>?_,λ_=>u V _ _ (e.trans a)⟩;simp only[ar]at i;let⟨y,p⟩:=cG x.args r;exact⟨V,V,_,a.af f,V,V,y,(b.ext a).aF p,t V _ _ a⟩
structure PI(k:Nat)(x:Instr):Prop where
 Nk:x.op=22->(k:Int)<x.bP
 arg:x.op=18\/x.op=23\/x.op=16\/x.op=17->0<x.args.length
def SD(l:List Instr):Prop:=∀(k:Nat)(x:Instr),l[k]? =some x->PI k x
def Jj(f:fm m c l)(E:SD l){n:Int}(C:0<=n)(Sv:Int):oQ 233 [O.v c,vi n,vi Sv] m:=by
 apply BA;simp -zeta only[aC,aB];have I:=f.len;have L:=f.gW;refine⟨λv _ M=>0<=v/\J m M,λv _ _=>((l.length:Int) -v).toNat,⟨C,J.az _⟩,?_⟩;rintro v G M ⟨F,k⟩;refine⟨λh=>?_,λ_=>rA k⟩;simp only[ar]at h;let⟨a,o⟩:=cG l v.toNat;let⟨d,N,e,K,s,t,w,z,A,B⟩:=(fm.ext k f).aF o;have H:=e.len;have g:=E _ a o;refine⟨F,V,_,s,_,t,_,w,_,z,_,A,_,B,?_⟩;intro P b;have j:J M b:=(J.push M _).ah (ad _) _ _;clear_value b;have u:=k.trans j;have Nk:(a.op==22)=true->(0<=a.bP/\J m b)/\((l.length:Int) -a.bP).toNat<((l.length:Int) -v).toNat:=λh=>by
  simp only[aH]at h;have:=g.Nk h;exact⟨⟨V,u⟩,V⟩
 have p:(a.op==23)=true->(0:Int)<=0/\(0:Int)<(d.len:Int)/\∃q:Int,af b d.D (d.off+Int.toNat (0:Int)*1)=some (vi q)/\∃r:Bool,vb (q==G)=.bool r/\J m b:=λh=>by
  simp only[aH]at h;have:=g.arg V;let⟨y,i⟩:=cG a.args 0;exact⟨bh,V,y,(e.ext j).aF i,rA u⟩
 refine⟨λD=>?_,λ_=>⟨Nk,λ_=>⟨p,λ_=>rA u⟩⟩⟩;simp only[aH]at D;have:=g.arg V;let⟨y,i⟩:=cG a.args 0;refine⟨bh,V,y,(e.ext j).aF i,λ_=>?_,λ_=>⟨Nk,λ_=>⟨p,λ_=>rA u⟩⟩⟩;rw[aP (b:=v+1) V V];exact⟨⟨V,u⟩,by show((l.length:Int) -(v+1)).toNat<((l.length:Int) -v).toNat;omega⟩
def KW(l b:List Instr):Prop:=b.length=l.length/\∀(k:Nat)(a:Instr),b[k]? =some a->∃x,l[k]? =some x/\(a=x\/a=⟨24,0,x.bP,0,x.args,x.eO⟩)
def QU(l:List Instr):Prop:=∀x∈l,x.args.length<=10^12/\x.eO.length<=10^12
abbrev VO(S:List Nat)(a m:E)(s:O)(l:List Instr):Prop:=Gr S a m dX 6 dS s l
def KC(hS:∀c∈S,c<m.size)(f:fm m c l)(ae:SD l)(af:QU l)(hb:l.length<=10^12):
 aN cg 212 [O.v c] m λN L=>∃s e,N=O.v s/\VO S m L s e/\KW l e/\J m L:=by
 apply Dv
 simp -zeta only[aC,aB]
 intro H
 have x1:J m H:=J.push _ _
 have g0:VO S m H (.mk m.size 0 0 0) []:=Gr.new S (ad _) _ _ _
 clear_value H
 have ac:=f.len
 refine eu (n:=l.length) (ac▸f.gW) (λk s M=>J m M/\∃e,VO S m M s e/\KW (l.take k) e) ⟨x1,[],g0,by simp[KW]⟩ ?_
 rintro k s M Q μ hk ⟨q,e,A,D,F⟩ ai
 refine dit (λaa=>?_) λaa=>?_
 .let⟨d,G⟩:=cG l k
  let⟨al,an,ha,hj,R,T,U,W,X,Y⟩:=(fm.ext q f).aF G
  have ag:=af d (aq G)
  have hy:=A.bn
  have zM:=q.size
  have am:e.length=k:=by rw[D];simp;omega
  have ab:∀c∈s.D::S,c<M.size:=λc f=>by
   rcases List.mem_cons.1 f with u|u
   .omega
   .have:=hS c u;omega
  refine⟨V,V,_,R,_,T,_,U,_,W,_,X,_,Y,?_⟩
  refine(wB ab ha hj ag).mono λN y⟨t,w,u,B,C,P⟩=>⟨_,_,_,_,_,_,u,?_⟩
  intro m3 j
  have i:J y j:=(J.push y _).ah (ad _) _ _
  have s4:j.size=y.size+1:=by simp[j,m3,ax]
  clear_value j
  have p:=P.trans i
  have z:∀{g:E}{b:Instr},J j g->ap (bH (s.D::S) g) t b.args->ap (bH (s.D::S) g) w b.eO->(b=d\/b=⟨24,0,d.bP,0,d.args,d.eO⟩)->
   jN (g.push (.cells (bu [.i b.op,.i b.dst,.i b.bP,.i b.bY,.s t,.s w]) dX)) dX [.i 0,.i 0,.i 0,.i 0,.s .nil,.s .nil] 80 s (.mk g.size 0 1 1) λI r=>eI [y.size] (g.push (.cells (bu [.i b.op,.i b.dst,.i b.bP,.i b.bY,.s t,.s w]) dX)) r/\Q I (cU ((k:Int)+1)) r/\μ I (cU ((k:Int)+1)) r<μ s k M:=λ{g b} xx h1 h2 h3=>by
   have z4:=p.size
   have zx:=xx.size
   refine Gr.kM (g:=[.i 0,.i 0,.i 0,.i 0,.s .nil,.s .nil]) (k:=b) dS.mono bh (A.ext dS.mono (p.trans xx)) ((q.trans (p.trans xx)).fz []) ⟨t,w,rfl,h1,h2⟩ V λI r g3 Z z3 q3=>⟨λc f=>?_,ai V _ _ ⟨Z.ext,_,g3,bF,λv aj h=>?_⟩⟩
   .have o:=P.size
    simp at f;subst f
    rw[q3 _ V V,(J.push g _).same _ V]
   .rcases aW v e.length with o|o
    .rw[av o]at h
     let⟨ak,K,ah⟩:=F v aj h
     rw[dH V]at K⊢
     exact⟨ak,K,ah⟩
    .rw[aJ o]at h
     have:v -e.length=0:=by have:=aw h;simp at this;omega
     rw[this]at h;simp at h;subst h
     have:v=k:=V
     subst this
     exact⟨d,by rw[dH V];exact G,h3⟩
  have z4:=p.size
  refine⟨λh9=>?_,λ_=>?_⟩
  .rw[aP (b:=(k:Int)+1) V V]
   refine(Jj (fm.ext (q.trans p) f) ae V d.dst).aG (J.az j) bF λah K o _=>⟨_,rfl,λ_=>?_,λ_=>?_⟩
   .intro m6
    have:=z (b:=⟨24,0,d.bP,0,d.args,d.eO⟩) o ((B.le (i.dg _)).le (o.dg _)) ((C.le (i.dg _)).le (o.dg _)) (Or.inr rfl)
    rw[aP (b:=(k:Int)+1) V V]at this
    exact this
   .intro m6
    have:=z (b:=d) o ((B.le (i.dg _)).le (o.dg _)) ((C.le (i.dg _)).le (o.dg _)) (Or.inl rfl)
    rw[aP (b:=(k:Int)+1) V V]at this
    exact this
  .intro K
   exact z (b:=d) (J.az _) (B.le (i.dg _)) (C.le (i.dg _)) (Or.inl rfl)
 .rw[bV V]at D F
  exact⟨s,e,rfl,A,⟨D,F⟩,q⟩
end
section
variable{b:List dy}
structure TF(p:dy):Prop where
 params:p.params.length<=3
 cW:p.cW.length<=3
 iZ:0<p.dt.length
 oG:p.dt.length<=10^12
 dt:SD p.dt
 ji:QU p.dt
structure Eb(b:List dy):Prop where
 iZ:0<b.length
 oG:b.length<=4
 dz:∀p∈b,TF p
def QT(f:Nat)(c:List Value)(m:E)(S:List Nat)(e:List bz)(Q:List dy->Prop):Prop:=aN cg f c m λv a=>∃d p b,v=.agg #[O.v d,O.v p]/\cy (bH S a) d e/\iJ (bH S a) p b/\Q b/\J m a
def KW.ok{l d:List Instr}(h:KW l d)(g:SD l)(f:QU l):SD d/\QU d:=by
 let⟨j,e⟩:=h;refine⟨λk a c=>?_,λa c=>?_⟩
 .obtain⟨x,b,rfl|rfl⟩:=e k a c
  .exact g k a b
  .exact⟨sx,sx⟩
 .let⟨k,i⟩:=List.mem_iff_getElem?.1 c;obtain⟨x,b,rfl|rfl⟩:=e k a i
  .exact f a (aq b)
  .exact f x (aq b)
def VA{a:List dy}(h:Eb b)(f:a.length=b.length)(c:∀(i:Nat)(q:dy),a[i]? =some q->TF q):Eb a:=
 ⟨by have:=h.iZ;omega,oh h.oG,λq e=>by obtain⟨i,d⟩:=List.mem_iff_getElem?.1 e;exact c i q d⟩
def Jm{d:List Nat}{l:E}(T:∀c∈d,c<l.size){y z:O}{A:List bz}(hd:cy l y A)(ht:dU A)(hp:iJ l z b)(W:Eb b):QT 164 [.agg #[O.v y,O.v z]] l d A Eb:=by
 apply BH;simp -zeta only[aC,aB];intro f a2;let⟨K,F⟩:=dD (a:=f) (c:=a2) rfl rfl;have s1:f.size=l.size+1:=by simp[f]
 clear_value a2;have ao:=hp.len;have aG:=W.oG;refine(fV (b:=f.size::d) (bO T K.size (F _ aL)) (hd.le K.le) ht).mono λ_ Z⟨dd,e,am,L⟩=>?_;subst e;refine⟨L.dv F,_,rfl,?_⟩;intro o au ai;have u2:=K.trans L;let⟨x5,B0,g0,s3,s5⟩:=kZ (b:=o.size::f.size::d) lx.mono (d:=Z) (a:=o) (c:=au) (h:=ai) rfl rfl rfl;clear_value ai;have U:∀c∈[f.size,l.size],c<Z.size:=λc g=>L.lt (F c g);have ae:∀c∈f.size::d,c<Z.size:=λc g=>L.lt (bO T K.size (F _ aL) c g);refine kV (R:=λj k M=>∃y z h,Value.agg #[O.v j,O.v k]=.agg #[O.v y,O.v z]/\cy (bH d M) y A/\iJ (bH d M) z h/\Eb h/\J l M) (r:=b.length) (f:=l) (b:=d) lx.mono bh bh T ⟨V,U _ aL⟩ u2 s3 am ao V x5 B0 g0 (λ_ r=>TF r) (λh r' ah m' h1 C j k p=>⟨h,r',ah,rfl,h1,C,VA W j k,p⟩) λar M s ah az μ an aE xM ac N av=>?_
 let⟨r,hq⟩:=cG b ar an;have t:=W.dz r (aq hq);have q3:=t.params;have q4:=t.cW;have qf:=t.oG;have qs:=t.iZ;have v6:=u2.trans xM;let⟨aA,p,c,c1,c2,c3,e0,e1,e2,e3,e4⟩:=hp.aF hq;have G:∀{aa:Value}{p v:Nat},af l p v=some aa->af M p v=some aa:=λB=>v6.af B;refine⟨V,V,_,G e0,_,G e1,_,G e2,_,G e3,_,G e4,?_⟩;intro m7 k;have hy:=ac.bn;have aD:=N.lt;have zM:=xM.size;have x8:J M k:=(J.push M _).ah (ad _) _ _;have s8:k.size=M.size+1:=by simp[k,m7,ax]
 clear_value k;have H:∀c∈[M.size,f.size,l.size],c<k.size:=λc g=>by
  rcases List.mem_cons.1 g with e|e
  .omega
  .have:=U c e;omega
 have w8:=v6.trans x8;have D:∀{M':E},k.size<=M'.size->∀c∈s.D::o.size::f.size::d,c<M'.size:=λB c g=>by
  simp only[aV]at g;rcases g with e|e|e|e
  .omega
  .omega
  .have:=ae c (by simp[e]);omega
  .have:=ae c (by simp[e]);omega
 have h:∀{P M2:E},J k P->J P M2->∀p,p<k.size->∀v,af M2 p v=af P p v:=λB h' p hb v=>aI (h'.same p (B.lt hb)) v;have q:M.size<k.size:=V;have X:o.size<k.size:=V;refine⟨s,(N.ext x8).cp 1,?_⟩;refine(bN (s.D::o.size::f.size::d) (c1.ext w8) V).aG (J.az k) H λa' _ m9 ga e j _=>⟨_,rfl,h (J.az _) j _ q _,h (J.az _) j _ q _,h (J.az _) j _ q _,h (J.az _) j _ q _,h (J.az _) j _ X _,?_⟩;subst e;refine(bN (s.D::o.size::f.size::d) (c2.ext (w8.trans j)) V).aG j H λb' _ aH gb e x w=>⟨_,rfl,h j x _ q _,h j x _ q _,h j x _ q _,h j x _ X _,?_⟩;subst e;have z9:=j.size;have vH:=x.size;refine(KC (S:=s.D::o.size::f.size::d) (D V) (fm.ext (w8.trans w) c3) t.dt t.ji qf).mono λaa Y⟨Q,I,e,gc,ag,u⟩=>⟨λc g=>u.same c (w.lt (H c g)),Q,e,h w u _ q _,h w u _ q _,h w u _ X _,?_⟩;intro aJ;have ab:=x8.trans (w.trans u);have aK:=u.size;let⟨aw,ay⟩:=ag.ok t.dt t.ji;have aF:=ag.1;have aj:ap (bH (s.D::o.size::f.size::d) Y) a' r.params:=(ga.done (D V) V).le ((x.trans u).dg _);have ak:ap (bH (s.D::o.size::f.size::d) Y) b' r.cW:=(gb.done (D V) V).le (u.dg _);have al:fm (bH (s.D::o.size::f.size::d) Y) Q I:=gc.done dS.mono (D V) bh V;exact Gr.box (g:=[.s .nil,.s .nil,.i 0,.i 0,.s .nil]) (j:=1) (y:=88) (i:=[.s dd,.s s]) (w:=⟨r.params,r.cW,r.aU,r.ak,I⟩) lx.mono bh (ac.ext lx.mono ab) ((xM.trans ab).fz []) ⟨a',b',Q,rfl,aj,ak,al⟩ V (N.ext ab) aL bh ⟨V,aL⟩ (λc g=>by have h1:=H c g;have C:=U c;simp only[aV]at g C;rcases g with e|e|e|e<;>first|omega|(have:=C (by simp[e]);omega)|simp at e) λr' m' g' C f' z' q'=>av r' m' _ g' C f'.ext ⟨q3,q4,by show 0<I.length;omega,by show I.length<=_;omega,aw,ay⟩
end
section
variable{S:List Nat}{d c:E}{b:Nat}{s:O}{l:List Instr}{x:Instr}
structure FC(S:List Nat)(d c:E)(b:Nat)(s:O)(l:List Instr):Prop where
 box:cF c b ou [.s s]
 gr:VO (b::S) d c s l
 up:d.size<=b
def FC.ext{S:List Nat}{d c a:E}{b:Nat}{s:O}{l:List Instr}(h:FC S d c b s l)(x:J c a):FC S d a b s l:=⟨h.box.ext x,h.gr.ext dS.mono x,h.up⟩
def FC.ne{S:List Nat}{d c:E}{b:Nat}{s:O}{l:List Instr}(h:FC S d c b s l):s.D≠b:=h.gr.ne h.box bh
def PF(S:List Nat)(d c:E)(b:Nat)(s:O)(P:List Instr->Prop)(f:E):Prop:=∃a e,FC S d f b a e/\P e/\Fz [b,s.D] c f/\(a.D=s.D\/c.size<=a.D)
def qI{v z:O}(p:FC S d c b s l)(E:d.size<=c.size)(H:ap (bH (s.D::b::S) c) v x.args)(I:ap (bH (s.D::b::S) c) z x.eO)(q:l.length<=10^12):
 aN cg 205 [vp b 0,We x v z] c λP M=>P=vi (l.length:Nat)/\PF S d c b s (l++[x]=·) M:=by
 apply xF (b,0)
 simp -zeta only[aC,aB]
 intro g
 have n:J c g:=J.push _ _
 have s1:g.size=c.size+1:=by simp[g]
 clear_value g
 have h:=p.ext n
 have W:=h.gr.bn
 have D:=h.box.lt
 have T:=p.box.lt
 have X:=p.gr.bn
 refine⟨s,h.box.cp 0,?_⟩
 intro N
 have F:J g N:=J.push _ _
 refine⟨aI (F.same _ D) _,?_⟩
 have U:(c.extract 0 d.size).size=d.size:=mh E
 have g1:VO (b::S) (c.extract 0 d.size) g s l:=Gr.cz dS.mono h.gr (λG q=>Or.inl q) V
 refine Gr.kM (g:=[.i 0,.i 0,.i 0,.i 0,.s .nil,.s .nil]) (k:=x) dS.mono bh g1 ((((J.Np E).trans n).fz [])) ⟨v,z,rfl,H.le (n.dg _),I.le (n.dg _)⟩ V λi k A R Q u=>?_
 have Z:∀e,e<g.size->e≠s.D->k[e]? =g[e]? :=u
 have y:cF k b ou [.s s]:=h.box.congr (u b D (kH h.ne))
 have L:=A.ne y bh
 refine⟨λe f=>?_,y.fL aL,?_⟩
 .simp at f;subst f
  rw[u c.size V V,F.same _ V]
 intro t
 have C:cF t b ou [.s i]:=cF.ah (m:=k) (o:=0) (r:=[.s i]) y
 have w:∀e,e≠b->t[e]? =k[e]? :=λe f=>be _ _ _ _ f
 have s4:t.size=k.size:=ax _ _ _ _
 refine⟨λe f=>w e (by simp at f;omega),i,C.cp 0,?_⟩
 have B:VO (b::S) d t i (l++[x]):=by
  refine Gr.cz dS.mono (A.re dS.mono (Y:=[b]) ⟨V,λe f j=>w e (by simpa using j)⟩ aL (by simp;exact L) λe f=>Or.inl f) (λG q=>Or.inl q) V
 have G:=B.len bh
 have K:i.len=l.length+1:=by rw[G];simp
 refine⟨?_,i,_,⟨C,B,p.up⟩,rfl,⟨V,λe f j=>?_⟩,oh Q.2⟩
 .rw[K,aP V V];congr 1;omega
 .simp only[aV,jZ,Cb,vG]at j
  rw[w e j.1,u e V j.2,n.same e f]
def RF{j:Nat}(h:FC S d c b s l)(o:d.size<=c.size)(r:l[j]? =some x):
 aN cg 234 [vp b 0,vi j] c λ_ K=>PF S d c b s (l.set j ⟨x.op,0,l.length,0,x.args,x.eO⟩=·) K:=by
 apply xE (b,0)
 simp -zeta only[aC,aB]
 have G:=aw r
 have I:=h.gr.len bh
 obtain⟨M,⟨q,t,rfl,E,F⟩,jv⟩:=h.gr.cells r
 have w:=jv 0 _ rfl;have y:=jv 1 _ rfl;have z:=jv 2 _ rfl;have A:=jv 3 _ rfl;have B:=jv 4 _ rfl;have C:=jv 5 _ rfl
 refine⟨s,h.box.cp 0,V,V,_,w,_,y,_,z,_,A,_,B,_,C,?_⟩
 intro L e
 have g:J c e:=(J.push c _).ah (ad _) _ _
 have Q:e.size=c.size+1:=by simp[e,L,ax]
 clear_value e
 have i:=h.ext g
 have H:=i.ne
 have O:=h.gr.bn
 have P:=g.size
 refine⟨s,i.box.cp 0,s,i.box.cp 0,V,V,?_⟩
 have g1:VO (b::S) (c.extract 0 d.size) e s l:=Gr.cz dS.mono i.gr (λv m=>Or.inl m) (by rw[mh o];exact ad _)
 rw[I]
 let⟨wr,D,N,p⟩:=Gr.set (k:=j) (cs:=[.i x.op,.i 0,.i l.length,.i 0,.s q,.s t]) (a:=⟨x.op,0,l.length,0,x.args,x.eO⟩) dS.mono g1 (((J.Np o).trans g).fz []) G ⟨q,t,rfl,E.le (g.dg _),F.le (g.dg _)⟩
 refine⟨wr,?_⟩
 intro u
 have R:u.size=e.size:=ax _ _ _ _
 refine⟨λf n=>p f (by simp at n;omega),s,_,⟨i.box.congr (p b (kH H)),Gr.cz dS.mono D (λv m=>Or.inl m) (by rw[mh o];exact ad _),h.up⟩,rfl,⟨V,λf n m=>?_⟩,Or.inl rfl⟩
 simp only[aV,jZ,Cb,vG]at m
 have v:u[f]? =e[f]? :=p f m.2
 rw[v,g.same f n]
end
section
variable{n a:Nat}
def mT(l b:List Instr)(n:Nat):Prop:=∃a,b=l++a/\(∀(i:Nat)(x:Instr),a[i]? =some x->PI (l.length+i) x)/\QU a/\a.length<=n
def mT.az(l:List Instr):mT l l 0:=⟨[],aL,aL,λ_ h=>by simp at h,ad _⟩
def mT.fq{l b:List Instr}(h:mT l b n)(i:n<=a):mT l b a:=let⟨f,c,d,e,g⟩:=h;⟨f,c,d,e,V⟩
def mT.len{l a:List Instr}(h:mT l a n):a.length<=l.length+n:=by obtain⟨b,rfl,_,_,d⟩:=h;simp;omega
def mT.trans{l e f:List Instr}(h:mT l e n)(p:mT e f a):mT l f (n+a):=by
 obtain⟨c,rfl,g,k,s⟩:=h;obtain⟨r,rfl,j,m,t⟩:=p;refine⟨c++r,aL,λi x b=>?_,λx q=>?_,bF⟩
 .rcases aW i c.length with d|d
  .rw[av d]at b;exact g i x b
  .rw[aJ d]at b;have:=j _ x b;have o:(l++c).length+(i -c.length)=l.length+i:=bF;rw[o]at this;exact this
 .rcases List.mem_append.1 q with h|h
  .exact k x h
  .exact m x h
def mT.lM{l:List Instr}{x:Instr}(h:PI l.length x)(c:x.args.length<=10^12/\x.eO.length<=10^12):mT l (l++[x]) 1:=
 ⟨[x],rfl,λi y a=>by
  have:i=0:=by have:=aw a;simp at this;omega
  subst this;simp at a;subst a;exact h,λy b=>by simp at b;subst b;exact c,aL⟩
section
variable{S:List Nat}{d m c:E}{b:Nat}{s e:O}{l f:List Instr}
def FC.gH(h:FC S d m b s l)(f:J d m)(e:Fz [b,s.D] m c):J d c:=by
 have j:=h.gr.bn;have i:=h.up;exact Fz.ext (((f.fz [b,s.D]).trans e).DU λg a=>Or.inr (by simp at a;omega))
def Q5(h:Fz [b,s.D] m c)(f:e.D=s.D\/m.size<=e.D):Le (bH [s.D,b] m) (bH [e.D,b] c):=pG λa g i=>by
 simp at i;refine⟨by simp;rcases f with d|d<;>omega,h.same a g bF⟩
def PF.dv{L:List Nat}(f:Fz [b,s.D] m c)(d:∀a∈L,a<m.size/\a≠b/\a≠s.D):eI L m c:=λa e=>f.same a (d a e).1 (by have:=d a e;simp;omega)
end
structure SE(S:List Nat)(mb m:E)(eb:Nat)(s:O)(l:List Instr)(cons first:O)(cl fl:List Int):Prop where
 em:FC S mb m eb s l
 x:J mb m
 gH:∀c∈S,c<m.size
 cons:ap (bH [s.D,eb] m) cons cl
 first:ap (bH [s.D,eb] m) first fl
 same:fl.length=cl.length
 ji:∀y∈fl,0<=y/\y<=900000000000
def SE.ext{S:List Nat}{e m d:E}{b:Nat}{s:O}{l:List Instr}{cons first:O}{a c:List Int}(h:SE S e m b s l cons first a c)(x:J m d):SE S e d b s l cons first a c:=
 ⟨h.em.ext x,h.x.trans x,λf g=>x.lt (h.gH f g),h.cons.le (x.dg _),h.first.le (x.dg _),h.same,h.ji⟩
def SE.next{S:List Nat}{e m d:E}{a:Nat}{s c:O}{o j:List Instr}{cons first:O}{f g:List Int}(h:SE S e m a s o cons first f g)(l:FC S e d a c j)(b:Fz [a,s.D] m d)(i:c.D=s.D\/m.size<=c.D):SE S e d a c j cons first f g:=
 ⟨l,h.em.gH h.x b,λk n=>aO (h.gH k n) b.size,h.cons.le (Q5 b i),h.first.le (Q5 b i),h.same,h.ji⟩
def Yn(f:List bz)(g:List gR)(x:cY):Prop:=∀(S:List Nat)(a m:E)(c:Nat)(s:O)(l:List Instr)(cons first:O)(b h:List Int)(e r d k:O),SE S a m c s l cons first b h->WS f g.length True b.length x->b.length+4*x.w<=900000000000->l.length+6*x.w<=10^12->eN a e r f g->ap a d x.args->nI a k x.bC->
 aN cg 219 [vp c 0,.agg #[O.v e,O.v r],ph x d k,O.v cons,O.v first] m λ_ j=>PF S a m c s (λi=>mT l i (6*x.w)) j
def Xi(f:List bz)(g:List gR)(b:Bk):Prop:=∀(S:List Nat)(a m:E)(d:Nat)(s:O)(l:List Instr)(cons first:O)(c h:List Int)(e r t:O),SE S a m d s l cons first c h->WB f g.length True c.length b->c.length+4*b.w<=900000000000->l.length+6*b.w<=10^12->eN a e r f g->eS a t b.aD->
 aN cg 204 [vp d 0,.agg #[O.v e,O.v r],.agg #[O.v t,vi b.aU],O.v cons,O.v first] m λ_ j=>PF S a m d s (λi=>mT l i (6*(b.w -1))) j
end
def tv(m:E):ap m .nil []:=⟨rfl,ad _,aL,aL⟩
def Mp{ds:List bz}{rs:List gR}{aD:List cY}{a8:Int}(b:∀a∈aD,a.op=7\/a.op=8->Yn ds rs a):Xi ds rs (.mk aD a8):=by
 intro z mb D f ab ah cons first cl fl aN a7 bw E0 a1 be bf hn hs
 have a2:=a1.aS;rw[Bk.qL]at*;simp only[Bk.jV,Bk.jw]at*;apply vt (f,0);simp -zeta only[aC,aB];intro Q F;let⟨x2,hl⟩:=dD (a:=Q) (c:=F) rfl rfl;have s1:Q.size=D.size+1:=by simp[Q]
 have s2:F.size=D.size+2:=by simp[F,s1]
 clear_value F;have a0:=hs.len;have az:=BV aD;have bm:=fZ aD;have bi:=E0.em.box.lt;have bs:=E0.em.gr.bn;have bk:=E0.x.size;refine xe (n:=aD.length) (a0▸hs.gW) (λo cons first M=>∃m P A L,SE z mb M f m P cons first A L/\A.length=cl.length+dc (aD.take o)/\mT ah P (6*sw (aD.take o))/\Fz [f,ab.D] D M/\(m.D=ab.D\/F.size<=m.D)/\F.size<=M.size) ⟨ab,ah,cl,fl,E0.ext x2,aL,(mT.az ah).fq (dN _),x2.fz _,Or.inl rfl,ad _⟩ ?_;rintro o cons first M a9 μ hk ⟨m,P,A,L,R,aW,ag,fz,aZ,hM⟩ aJ
 have bj:=ag.len;have bo:=az o;have s:=R.em.gr.bn;refine dit (λk=>?_) λk=>?_
 .let⟨a,Z⟩:=cG aD o;let⟨pa,pk,O,aX,e0,e1,e2,e3,e4⟩:=hs.aF Z;have bq:=pX Z;have bp:=qQ Z;have br:=cY.mw a;have bn:=az (o+1);have bg:=tg (aD.take o);have bl:=fZ (aD.take o);have Y:=a2.1 o a Z;rw[<-aW]at Y;have X:=R.x;refine⟨V,V,_,X.af e0,_,X.af e1,_,X.af e2,_,X.af e3,_,X.af e4,?_⟩;intro m3 p;have x4:J M p:=(J.push M _).ah (ad _) _ _;have s4:p.size=M.size+1:=by simp[p,m3,ax]
  clear_value p;have j:=R.ext x4;have N:∀{T:E},p.size<=T.size->∀h∈[M.size,Q.size,D.size],h<T.size/\h≠f/\h≠m.D:=λhz h r=>by simp at r;omega
  have kS:∀{y U:E},p.size<=y.size->J y U->eI [M.size,Q.size,D.size] y U:=λhz xx h r=>xx.same h (N hz h r).1;have C:∀{y U:E},p.size<=y.size->J y U->∀ai,af U M.size ai=af y M.size ai:=λhz xx ai=>aI (xx.same _ V) ai;have ao:∀{T:E},p.size<=T.size->∀c∈m.D::f::z,c<T.size:=λhz c b=>by
   simp only[aV]at b;rcases b with e|e|e
   .omega
   .omega
   .have:=R.gH c e;have:=X.size;omega
  refine⟨λI=>∃g u,SE z mb I f g u cons first A L/\mT P u (6*a.w)/\Fz [f,m.D] p I/\(g.D=m.D\/p.size<=g.D),⟨λh7=>?_,λn7=>⟨λaR=>?_,λa5=>⟨λaS=>?_,λa6=>?_⟩⟩⟩,?_⟩
  .simp only[bQ,aH]at h7;refine(b a (aq Z) h7 z mb p f m P cons first A L aN a7 pa pk j Y V V hn O aX).mono λv m5⟨g,u,ac,p5,K,b5⟩=>⟨PF.dv K (N (ad _)),g,u,j.next ac K b5,p5,K,b5⟩
  .simp only[bQ,aH]at aR;refine(bN (m.D::f::z) (O.ext j.x) V).mono λv m5⟨a',la,e,ga,ea,d⟩=>⟨kS (ad _) d,a',e,C (ad _) d _,?_⟩;subst ea;have l:=j.ext d;have t:=d.size;refine(qI (x:=⟨a.op,0,0,0,a.args,[]⟩) l.em l.x.size (GI.done ga (ao (ad _)) (by show a.args.length<=_;omega)) (tv _) V).mono λv G⟨ev,s6,l6,ak,p6,B,b6⟩=>⟨PF.dv B (N t),_,ev,s6,l6,l.next ak B b6,?_,(d.fz _).trans B,V⟩;subst p6;exact(mT.lM ⟨λk=>by simp only at k;omega,λk=>by simp only at k;omega⟩ ⟨by show a.args.length<=_;omega,aL⟩).fq V
  .simp only[bQ,aH]at aS;have bb:=Y.fg.lM V;let⟨H,ar⟩:=cG a.args 0;let⟨y0,y1⟩:=Y.fg.args H (aq ar);have bd:=O.len;have c4:=(j.cons.le (bA _ _));have f4:=(j.first.le (bA _ _));have a3:=c4.len;have a4:=f4.len;have aY:=j.same;let⟨cn,aP⟩:=cG A H.toNat;let⟨fn,am⟩:=cG L H.toNat;let⟨a_,ba⟩:=j.ji fn (aq am);have F4:=f4.aF am;refine⟨bh,V,H,(O.ext j.x).aF ar,y0,V,cn,c4.aF aP,y0,V,fn,F4,?_⟩;refine(dJ (e:=[]) aL (hn.bo.le (j.x.le.trans (Ao _))) hn.types cn).mono λv m5⟨aT,bu,e,aK,aw,d⟩=>⟨kS (ad _) d,aT,e,by rw[d.af F4,F4],C (ad _) d _,C (ad _) d _,?_⟩;subst aw;have t:=d.size;have F3:=Ga hn.types cn;obtain⟨fk,aQ⟩:∃fk:Nat,fn=fk:=⟨fn.toNat,V⟩;subst aQ;refine(rV (S:=[]) aL aK fk V).mono λv G⟨aU,bv,e,aE,al,i⟩=>⟨kS t i,aU,e,C t i _,C t i _,?_⟩;have z6:=i.size;refine(eQ (S:=[]) aL ((O.ext (j.x.trans (d.trans i))).le (Ao _)) (aE.done uc.mono aL bh (oh al.2)) (oh al.2)).mono λv m7⟨av,aa,e,aF,au,q⟩=>⟨kS V q,av,e,C V q _,?_⟩;have W:=(d.trans i).trans q;have w:=j.ext W;have z7:=q.size;have aG:GI (m.D::f::z) G m7 av aa:=GI.any aF;have bc:aa.length<=a.args.length+3:=by rw[<-au];simp;have:=al.2;omega
   have aM:0<aa.length:=by rw[<-au];simp;omega
   refine(qI (x:=⟨a.op,0,0,0,aa,[]⟩) w.em w.x.size (aG.done (ao V) V) (tv _) V).mono λv m8⟨ev,s8,l8,ay,p8,f8,b8⟩=>⟨PF.dv f8 (N V),_,ev,s8,l8,w.next ay f8 b8,?_,(W.fz _).trans f8,V⟩;subst p8;exact(mT.lM ⟨λk=>by simp only at k;omega,λ_=>aM⟩ ⟨by show aa.length<=_;omega,aL⟩).fq V
  .refine(bN (m.D::f::z) (O.ext j.x) V).mono λv m5⟨a',la,e,ga,ea,d⟩=>⟨kS (ad _) d,a',e,C (ad _) d _,C (ad _) d _,C (ad _) d _,?_⟩;subst ea;simp only[bt,aj]at a5 a6;have l:=j.ext d;have t:=d.size;have aa:a.op<=11:=by
    rcases Y.fg.op with k|k
    .exact k.2
    .omega
   refine(qI (x:=⟨a.op,(cons.len:Int),a.bP,a.bY,a.args,[]⟩) l.em l.x.size (GI.done ga (ao (ad _)) (by show a.args.length<=_;omega)) (tv _) V).mono λv G⟨ev,s6,l6,ak,p6,B,b6⟩=>⟨PF.dv B (N t),_,ev,s6,l6,l.next ak B b6,?_,(d.fz _).trans B,V⟩;subst p6;exact(mT.lM ⟨λk=>by simp only at k;omega,λk=>by simp only at k;omega⟩ ⟨by show a.args.length<=_;omega,aL⟩).fq V
  .rintro I ⟨g,u,l,p5,K,b5⟩;have t:=K.size;have ac:mT ah u (6*sw (aD.take (o+1))):=(ag.trans p5).fq V;have av:Fz [f,ab.D] D I:=(fz.then x4).sa K λH s=>by
    simp only[aV,jZ,Cb]at s⊢;rcases s with e|e
    .exact Or.inl (Or.inl e)
    .rcases aZ with d|d
     .exact Or.inl (Or.inr V)
     .exact Or.inr V
   have aw:g.D=ab.D\/F.size<=g.D:=V;have bb:=l.em.gr.bn;have al:∀h∈[M.size,Q.size,D.size],h<I.size:=λh r=>aO (N (ad _) h r).1 t;have ay:=λh r=>tj a h r;refine(jQ a.op I).mono λv G⟨h,e,r,i⟩=>⟨λc b=>i.same c (al c b),h,e,λht=>?_,λhf=>?_⟩
   .have hd:=ay h r;rw[an ht]at hd;intro m7;have q:J G m7:=J.push _ _;have ba:=l.em.box.lt;have z6:=i.size;have aa:∀c∈[g.D,f],c<G.size:=λc b=>by simp at b;omega
    have a3:ap (bH [g.D,f] m7) (.mk G.size 0 1 1) [0]:=ap.lit aA [0] aa rfl rfl aL;have W:=i.trans q;have w:=l.ext W;have a_:=w.cons.len;refine(eQ (S:=[g.D,f]) (λc b=>q.lt (aa c b)) w.cons a3 bF).mono λv m8⟨aK,aE,e,aP,ar,x8⟩=>⟨λc b=>x8.same c (q.lt (i.lt (al c b))),aK,e,?_⟩;intro m9;have d:J m8 m9:=J.push _ _;have z7:=q.size;have z8:=x8.size;have am:∀c∈[g.D,f],c<m8.size:=λc b=>by have:=aa c b;omega
    have a4:ap (bH [g.D,f] m9) (.mk m8.size 0 1 1) [0]:=ap.lit aA [0] am rfl rfl aL;have E9:=w.ext (x8.trans d);have aY:=E9.same;refine(eQ (S:=[g.D,f]) (λc b=>d.lt (am c b)) E9.first a4 bF).mono λv aG⟨aM,aF,e,aQ,au,B⟩=>⟨λc b=>B.same c (d.lt (x8.lt (q.lt (i.lt (al c b))))),aM,e,?_⟩;have ak:=E9.ext B;have aT:ap (bH [g.D,f] aG) aK aE:=(GI.done aP (λc b=>q.lt (aa c b)) (by rw[<-ar];simp;omega)).le ((d.trans B).dg _);have aU:ap (bH [g.D,f] aG) aM aF:=GI.done aQ (λc b=>d.lt (am c b)) (by rw[<-au];simp;omega);refine aJ V _ _ _ ⟨g,u,aE,aF,⟨ak.em,ak.x,ak.gH,aT,aU,by rw[<-ar,<-au];simp;omega,λH s=>?_⟩,by rw[<-ar];simp;omega,ac,av.then (((W.trans x8).trans d).trans B),aw,?_⟩
    .rw[<-au]at s;rcases List.mem_append.1 s with s|s
     .exact l.ji H s
     .simp at s;omega
    .have:=d.size;have:=B.size;omega
   .have hd:=ay h r;rw[ae (by simp[hf])]at hd;exact aJ V _ _ _ ⟨g,u,A,L,l.ext i,V,ac,av.then i,aw,oh i.size⟩
 .have a:o=aD.length:=V;subst a;rw[fx]at ag;exact⟨m,P,R.em,ag.fq V,fz,V⟩
section
variable{m:E}
def Jy(m:E)(s:O):Prop:=s.len<=s.cap/\∀k:Nat,k<s.len->∃v:Int,0<=v/\v<=255/\af m s.D (s.off+k*1)=some (.int .u8 v)
def Ja{dt:O}(h:Jy m dt):aN cg 30 [O.v dt] m λv i=>∃a,v=vp m.size 0/\Rd m.size a 0 i/\J m i:=by
 let⟨g,f⟩:=h;apply Bp;have R:∀a:O,Jy m a->∃l,vp m.size 0=vp m.size 0/\Rd m.size l 0 (m.push (.cells (bu [.s a,.i 0]) pZ))/\J m (m.push (.cells (bu [.s a,.i 0]) pZ)):=λa⟨n,o⟩=>by
  refine⟨a,rfl,⟨⟨0,cF.push _ _ _,bZ _,aL⟩,n,λk c=>?_⟩,J.push _ _⟩;let⟨v,d,e,b⟩:=o k c;have s:=mg b;exact⟨v,d,e,eT.2 ⟨bF,(J.push m _).af b⟩⟩
 refine⟨λh=>?_,λ_=>R dt ⟨g,f⟩⟩;simp only[ar]at h;refine⟨bh,bh,V,?_⟩;refine R _ ?_;cases dt with
 |nil=>simp at h
 |zU j p q=>simp at h
 |mk j p t q=>
  simp only[O.gG,O.ON]at h g;refine⟨by simp[O.cut];omega,λk c=>?_⟩;have r:k<2000:=by simpa[O.cut]using c
  let⟨v,d,e,b⟩:=f k bF;exact⟨v,d,e,by simpa[O.cut]using b⟩
def KQ(f:Nat)(b:List Value)(m:E)(S:List Nat)(Q:Ex->Prop):Prop:=aN cg f b m λv a=>∃s e,v=.agg #[vi e.op,vi e.bP,O.v s]/\fH (bH S a) s e.bC/\Q e/\J m a
def Bf(S:List Nat)(n:Int)(m:E):KQ 280 [vi n] m S (.mk 0 n []=·):=by
 apply EU;simp -zeta only[aC,aB];intro a b d;have c:J m b:=(J.push m _).trans (J.push a _);exact⟨_,.mk 0 n [],rfl,mI _ _ _ _ _ _,rfl,c.ah (ad _) _ _⟩
def mu(S:List Nat)(n:Int)(m:E):KQ 315 [vi n] m S (.mk 12 n []=·):=by
 apply Dw;simp -zeta only[aC,aB];intro a b d;have c:J m b:=(J.push m _).trans (J.push a _);exact⟨_,.mk 12 n [],rfl,mI _ _ _ _ _ _,rfl,c.ah (ad _) _ _⟩
def JV{S:List Nat}{s:O}{bC:List Ex}(h:fH (bH S m) s bC)(a bP:Int):KQ 313 [vi a,vi bP,O.v s] m S (.mk a bP bC=·):=by
 apply Kr;simp -zeta only[aC,aB];intro d c;have b:J m c:=(J.push m _).ah (ad _) _ _;exact⟨s,.mk a bP bC,rfl,h.le (b.dg _),rfl,b⟩
def BE{a P:Nat}{b:O}(r:Rd a b P m)(x:P+4<=10^16):aN cg 332 [vp a 0] m λv h=>∃k:Int,v=vi k/\Rd a b (P+4) h/\Fz [a] m h:=by
 apply Fg (a,0);refine(cq r V 6).mono λv y⟨d,e,_,_,s,n⟩=>⟨d,e,?_⟩;refine(cq s V 6).mono λv z⟨f,e,_,_,t,o⟩=>⟨f,e,?_⟩;refine(cq t V 40).mono λv i⟨g,e,_,_,c,p⟩=>⟨g,e,?_⟩;intro j;have l:J i j:=J.push _ _;have w:ap (bH [a] j) (.mk i.size 0 10 10) [d,f,0,1,2,-1,3,g,999,-998]:=ap.lit aA _ (by have:=c.lt;simpa using this) rfl rfl aL;refine(kE (c.ext l) V w aL).mono λv A⟨k,e,_,u,q⟩=>⟨k,e,k,rfl,u,((n.trans o).trans p).then l|>.trans q⟩
end
section
variable{m:E}
def Z1(e:Ex):Prop:=∀(m:E)(t:O),fH m t e.bC->∀left:Int,left<=600->ta 317 [.agg #[vi e.op,vi e.bP,O.v t],vi left] m λk=>k= -1\/0<=k/\k+e.n=left
def Jb:∀e:Ex,Z1 e:=by
 refine Ex.ind ?_;intro L bP bC s m N c left F;simp only[Ex.Wj,Ex.Us,Ex.Sk,Ex.Ta]at*;apply Bq;simp -zeta only[aC,aB];intro a;have f:J m a:=J.push _ _;have p:∀h∈[m.size],h<a.size:=by simp[a]
 clear_value a;have d:∀{M:E},J m M->∃k:Int,vi (-1:Int)=vi k/\(k= -1\/0<=k/\k+((1+en bC:Nat):Int)=left)/\J m M:=λB=>⟨-1,rfl,Or.inl rfl,B⟩;refine⟨λ_=>d f,λl=>?_⟩;simp only[bM]at l;have r:=c.len;rw[aP (b:=left -1) V V];refine eu (n:=bC.length) (r▸c.gW) (λk(v:Int) M=>J a M/\0<=v/\v+1+en (bC.take k)=left) ⟨J.az _,V,aL⟩ ?_;rintro k v M I μ D ⟨g,z,A⟩ t
 have u:=f.trans g;refine dit (λj=>?_) λj=>?_
 .let⟨e,b⟩:=cG bC k;let⟨w,q,i,g1,g2⟩:=c.aF b;refine⟨V,V,_,u.af i,_,u.af g1,_,u.af g2,?_⟩;refine(s e (aq b) M w (fH.le u.le q) v V).aG g p λK H G C y=>⟨_,rfl,λ_=>d (u.trans C),λo=>?_⟩;simp only[bM]at o;refine t V _ _ ⟨y,V,?_⟩
  rw[KH b];omega
 .rw[bV V]at A;exact⟨v,rfl,Or.inr ⟨z,V⟩,u⟩
def Br{t:O}{e:Ex}(h:fH m t e.bC):ta 286 [.agg #[vi e.op,vi e.bP,O.v t]] m λk=>k= -1\/k=e.n/\e.n<=30:=by
 apply E8;simp -zeta only[aC,aB];intro a;have b:J m a:=J.push _ _;have g:∀d∈[m.size],d<a.size:=by simp[a]
 clear_value a;refine(Jb e a t (fH.le b.le h) 30 bh).aG (J.az a) g λn j i c l=>⟨_,rfl,λ_=>⟨-1,rfl,Or.inl rfl,b.trans c⟩,λf=>?_⟩;simp only[bM]at f;rw[aP (b:=30 -n) V V];exact⟨_,rfl,Or.inr ⟨V,V⟩,b.trans c⟩
def MB{s:O}{l:List Int}(h:ap m s l)(e:Int):ta 279 [O.v s,vi e] m λk=>-1<=k/\k<l.length:=by
 apply Fc;have c:=h.len;refine dV (n:=l.length) (c▸h.gW) (λ_ M=>J m M) (J.az _) ?_;rintro k M I μ g a f
 refine⟨λb=>?_,λ_=>⟨-1,rfl,⟨V,V⟩,a⟩⟩;simp only[ar]at b;let⟨x,d⟩:=cG l k;exact⟨V,V,x,(h.ext a).aF d,λ_=>⟨k,rfl,⟨V,V⟩,a⟩,λ_=>f V _ a⟩
def Ml(f:O)(m:E):aN cg 215 [O.v f] m λv a=>v=.agg #[O.v f]/\J m a:=by
 apply Mk;simp -zeta only[aC,aB];intro b c;exact⟨trivial,(J.push m _).ah (ad _) _ _⟩
def RH(p:O)(r:Int)(m:E):aN cg 250 [O.v p,vi r] m λv a=>v=.agg #[O.v p,vi r,vi 0,vi 0,O.v .nil]/\J m a:=by
 apply MC;simp -zeta only[aC,aB];intro b c;exact⟨trivial,(J.push m _).ah (ad _) _ _⟩
end
section
variable{a:List Nat}{m:E}{b d p:O}
def Hz(q:∀c∈a,c<m.size){l:List Int}(h:ap m b l)(w:l.length<=10^12)(u:Int):lg 333 [O.v b,vi u] m a λc=>(∀y∈c,0<=y/\y<(l.length:Int))/\c.length<=l.length:=by
 apply zw;intro B;have r:=h.len;refine eu (n:=l.length) (r▸h.gW) (λk s M=>J m M/\∃c,GI a m M s c/\(∀y∈c,0<=y/\y<(l.length:Int))/\c.length<=k) ⟨J.push m _,[],GI.nil a m,aL,ad _⟩ ?_;rintro k s M I μ z ⟨e,c,g,f,A⟩ j
 refine⟨λi=>?_,λi=>⟨s,c,rfl,g,⟨f,V⟩,e⟩⟩;simp only[ar]at i;let⟨x,t⟩:=cG l k;refine⟨V,V,x,(h.ext e).aF t,λ_=>?_,λ_=>j V _ _ ⟨e,c,g,f,V⟩⟩;intro C;exact GI.kM g (e.fz []) q V λD v p o _ _=>j V _ _ ⟨o.ext,_,p,λy d=>by
  rcases List.mem_append.1 d with d|d
  .exact f y d
  .simp at d;omega,bF⟩
def TJ(m:E)(b:List Ce)(p:dy):Prop:=∃a x y z,b=[.s a,.i p.aU,.i x,.i y,.s z]/\ap m a p.params
abbrev pA(m:E)(s:O)(l:List dy):Prop:=eR m 5 (TJ m) s l
def TJ.le{m b:E}(h:Le m b){a:List Ce}{p:dy}:TJ m a p->TJ b a p:=λ⟨c,x,y,z,d,e⟩=>⟨c,x,y,z,d,e.le h⟩
def pA.le{m b:E}(a:Le m b){s:O}{l:List dy}(h:pA m s l):pA b s l:=eR.le h a λ_ _=>TJ.le a
def pA.aF{s:O}{l:List dy}(h:pA m s l){k:Nat}{p:dy}(d:l[k]? =some p):∃a,ap m a p.params/\af m s.D (s.off+k*5)=some (O.v a)/\af m s.D (s.off+k*5+1)=some (vi p.aU):=by
 obtain⟨e,⟨a,x,y,z,rfl,c⟩,b⟩:=h.iD k p d;exact⟨a,c,b 0 _ rfl,b 1 _ rfl⟩
def ClQ(a:List bz)(b:List dy)(t y:Int):Prop:=∃(f:Nat)(q:dy),y=f/\b[f]? =some q/\0<q.params.length/\(0<t->∃d∈a,d.cons.length=0/\q.params.getLast?=some d.sZ/\q.aU=d.to)
def yu(X:∀g∈a,g<m.size){h:List bz}{e:List dy}(hd:cy m d h)(ht:dU h)(o:pA m p e)(hf:e.length<=1000)(v:Int):lg 339 [.agg #[O.v d,O.v p],vi v] m a λb=>(∀y∈b,ClQ h e v y)/\b.length<=e.length:=by
 apply CL;simp -zeta only[aC,aB];intro c q;have z:J m c:=J.push _ _;have G:∀g∈[m.size],g<c.size:=by simp[c]
 have R:GI a c q (.mk c.size 0 0 0) []:=GI.nil a c;have x2:J c q:=J.push _ _;clear_value q;clear_value c;have aa:=o.len;refine eu (n:=e.length) (aa▸o.gW) (λk t M=>J c M/\∃b,GI a c M t b/\(∀y∈b,ClQ h e v y)/\b.length<=k) ⟨x2,[],R,aL,ad _⟩ ?_;rintro k t M ac μ hk ⟨A,b,i,j,af⟩ r
 have u:=z.trans A;refine⟨λF=>?_,λF=>⟨t,b,rfl,i.cz (λ_ E=>E) z.size,⟨j,V⟩,u⟩⟩;simp only[ar]at F;let⟨s,I⟩:=cG e k;let⟨B,l,C,P⟩:=o.aF I;have ae:=l.len;have ag:=l.gW;refine⟨V,V,_,u.af C,λS=>?_,λ_=>r V _ _ ⟨A,b,i,j,V⟩⟩;simp only[ar]at S;rw[aP (b:=(B.len:Int) -1) V V];let⟨y,K⟩:=cG s.params (((B.len:Int) -1).toNat);refine⟨V,V,_,u.af C,V,V,y,(l.ext u).aF K,V,V,_,u.af P,?_⟩;refine(AK (hd.le u.le) ht y s.aU).aG A G λai m3 H L w=>⟨_,rfl,λZ=>?_,λ_=>r V _ _ ⟨w,b,i.ext L,j,V⟩⟩;intro m4;refine GI.kM (i.ext L) (w.fz []) (λg f=>z.lt (X g f)) V λaj M' Q D _ _=>⟨J.oK (w.aK _) D.ext G,r V _ _ ⟨D.ext,_,Q,λab f=>?_,bF⟩⟩;rcases List.mem_append.1 f with f|f
 .exact j ab f
 .simp at f Z;refine⟨k,s,f,I,V,λE=>?_⟩;rcases H with H|⟨ah,N,_,Y,T,U,W⟩
  .omega
  .refine⟨N,aq Y,T,?_,W.symm⟩;rw[List.getLast?_eq_getElem?,U,<-K];congr 1;omega
def pT{i:List bz}{j:List dy}{v:List Int}(hd:cy m d i)(k:dU i)(q:pA m p j)(o:j.length<=1000)(r:ap m b v)(t:Int):oQ 334 [.agg #[O.v d,O.v p],O.v b,vi t] m:=by
 apply EI;simp -zeta only[aC,aB];intro a;have f:J m a:=J.push _ _;have e:∀n∈[m.size],n<a.size:=by simp[a]
 clear_value a;refine(ng (hd.le f.le) k t).any.aG (J.az a) e λl x g _=>⟨_,rfl,λ_=>rA (f.trans g),λ_=>?_⟩;have c:=f.trans g;refine(yu (a:=[]) aL (hd.le c.le) k (pA.le c.le q) o t).aG g e λA w y _ _ h s=>⟨_,rfl,λ_=>rA (c.trans h),λ_=>?_⟩;exact(dw (r.ext (c.trans h)) t).any.aG s e λl z u _=>⟨_,rfl,rA ((c.trans h).trans u)⟩
end
def Mi{a P:Nat}{p:O}{m:E}(h:Rd a p P m)(Q:P+1<=10^16){q v x:O}{i:List bz}{r:List dy}{L:List Int}(hd:cy (bH [a] m) q i)(H:dU i)(G:pA (bH [a] m) v r)(B:r.length<=1000)(I:ap (bH [a] m) x L):
 aN cg 327 [vp a 0,.agg #[O.v q,O.v v],O.v x] m λw u=>∃k:Int,w=vi k/\(k=1\/0<=k/\k<=4/\k<=i.length)/\Rd a p (P+1) u/\Fz [a] m u:=by
 apply EG (a,0)
 simp -zeta only[aC,aB]
 intro b d
 have U:b.size=m.size+1:=by simp[b]
 have M:J m b:=J.push _ _
 have y:J b d:=J.push _ _
 have z:J m d:=M.trans y
 have S:=h.lt
 have t:∀c∈[m.size],c<d.size/\c∉[a]:=λc n=>by have:=y.size;simp at n⊢;omega
 have K:ap (bH [a] d) (.mk b.size 0 7 7) [1,1,3,0,2,4,3]:=ap.lit aA _ bF rfl rfl aL
 clear_value d
 have R:=hd.len
 refine(kE (h.ext z) V K aL).mono λw f⟨k,A,C,l,j⟩=>⟨j.dv t,k,A,?_⟩
 have e:Fz [a] m f:=(z.fz _).trans j
 have s:0<=k/\k<=4:=by simp at C;omega
 refine⟨λ_=>⟨1,rfl,Or.inl rfl,l,e⟩,λF=>?_⟩
 simp only[bM]at F
 have o:Le (bH [a] m) f:=(e.dg λ_ h=>h).trans (bA _ _)
 have D:∀c∈[m.size],c<f.size:=λc n=>aO (t c n).1 j.size
 refine(pT (hd.le o) H (pA.le o G) B (I.le o) k).aG (J.az f) D λN T g _=>⟨_,rfl,λ_=>⟨1,rfl,Or.inl rfl,l.ext g,e.then g⟩,λ_=>⟨k,rfl,Or.inr ⟨s.1,s.2,V⟩,l.ext g,e.then g⟩⟩

section
variable{t:Int}{x:Ex}
def KX:List bz:=[⟨0,0,[[],[0,1]]⟩,⟨0,0,[]⟩,⟨0,0,[[],[3,0,3]]⟩]
def Sn:List bz:=[⟨0,0,[[1,3]]⟩,⟨1,0,[]⟩,⟨0,0,[[1,1,0],[0],[3]]⟩,⟨0,1,[]⟩]
def rP:List (List bz):=KX::Sn.map λd=>KX++[d]
def PN:List (List Int×Int):=[([],0),([1],0),([1,1],1),([1],1),([1,0],1),([2,1],1),([1,1],0),([3],0),([0],1),([0,1],1),([3,0],3),([3],1),([1,3,0],0),([0],0),([0,0],0),([1,0],0)]
structure GP(ds:List bz)(fs:List dy):Prop where
 ds:ds∈rP
 iZ:0<fs.length
 oG:fs.length<=4
 dz:∀q∈fs,(q.params,q.aU)∈PN
def Lo(t:Int):Prop:=t=0\/t=1\/t=3
instance(t:Int):Decidable (Lo t):=inferInstanceAs (Decidable (_\/_))
def Ty(a:List bz)(t:Int):Prop:=0<=t/\t<=(a.length:Int)
instance(a:List bz)(t:Int):Decidable (Ty a t):=inferInstanceAs (Decidable (_/\_))
section
variable{a:List bz}{b:List dy}
def pC:∀a∈rP,3<=a.length/\a.length<=4:=bh
def QX:∀a∈rP,∀t∈[(0:Int),1,2,3,4],∀c∈(cA a t).take 2,((cA a t).head?=some c\/t∉cE a c)->(cE a c).length<=3/\(∀f∈cE a c,Lo f)/\(Lo t->(cE a c).length=0):=bh
def RS:∀a∈rP,0<(cA a 1).length/\0<(cA a 3).length/\(cA a 0).length=0:=bh
def QV:∀a∈rP,∀d∈a,d.cons.length=0->∀s∈PN,s.1.getLast?=some d.sZ->s.2=d.to->∀f∈s.1.dropLast,Lo f:=bh
def NO:∀a∈rP,cA a 1=[0,1]/\cA a 3=[2,3]/\cE a 0=[]/\cE a 1=[0,1]/\cE a 2=[]/\cE a 3=[3,0,3]:=bh
def zK:∀a∈rP,(∀t∈[(0:Int),1,2,3,4],∀c∈cA a t,(cE a c).length<=3/\∀f∈cE a c,Ty a f)/\(∀t∈[(0:Int),1,2,3,4],(cA a t).length<=3)/\(∀d∈a,Ty a d.sZ):=bh
def QW:∀a∈rP,∀t∈[(1:Int),3,4],(t:Int)<=a.length->(∀d∈a[t.toNat -1]?,d.cons.length≠0)->0<(cA a t).length:=bh
def wU:∀s∈PN,s.1.length<=3/\(∀t∈s.1,0<=t/\t<=3)/\0<=s.2/\s.2<=3:=bh
def Vp(a:0<=t)(b:t<=4):t∈[(0:Int),1,2,3,4]:=bF
def Ty.YM(hd:a∈rP)(h:Ty a t):t∈[(0:Int),1,2,3,4]:=Vp h.1 (PA (pC a hd) h.2)
def GP.ty(h:GP a b)(c:0<=t)(d:t<=3):Ty a t:=⟨c,oh (pC a h.ds)⟩
def Lo.ty(hd:a∈rP)(h:Lo t):Ty a t:=by have:=pC a hd;unfold Lo at h;constructor<;>omega
end
def TN:∀a∈rP,∀d∈a,0<d.cons.length->d.cons.length<=3/\d.sZ=0/\d.to=0/\∀f∈d.cons,f.length<=3/\∀t∈f,0<=t/\t<=(a.length:Int):=bh
def TO:∀a∈rP,∀k∈List.range a.length,∀d∈a[k]?,d.cons.length=0->(∀e∈a.take k,¬(e.cons.length=0/\e.sZ=d.sZ/\e.to=d.to))/\Ty a d.sZ/\Ty a d.to:=bh
def td{a:List bz}(h:a∈rP):dU a:=
 ⟨(pC a h).2,λk d b=>⟨TN a h d (aq b),TO a h k (List.mem_range.2 (aw b)) d b⟩⟩
structure XF(ds:List bz)(nf a:Nat)(op bP:Int)(n:Nat):Prop where
 o:0<=op/\op<=13
 UF:op=12->0<=bP/\bP<(a:Int)
 KF:op=13->n=2
 Zu:op=7->n=3
 all:op=8->n=1+(cA ds bP).length/\0<(cA ds bP).length
 call:op=9->0<=bP/\bP<(nf:Int)
def xb(b:List bz)(a bP:Int):Nat->Nat
 |0=>0
 |i+1=>if a=13 then 1 else Cd b a bP i
inductive WX(ds:List bz)(nf:Nat):Nat->Ex->Prop
 |mk {a:Nat} {op bP:Int} {bC:List Ex} (fg:XF ds nf a op bP bC.length) (hk:∀(i:Nat)(e:Ex),bC[i]? =some e->WX ds nf (a+xb ds op bP i) e):WX ds nf a (.mk op bP bC)
section
variable{b:List bz}{c a:Nat}{d bP:Int}{bC:List Ex}
def WX.aS{e:Ex}(h:WX b c a e):XF b c a e.op e.bP e.bC.length/\∀(i:Nat)(x:Ex),e.bC[i]? =some x->WX b c (a+xb b e.op e.bP i) x:=by
 cases h with
 |mk fg d=>exact⟨fg,d⟩
def Zx(a:d≠13)(c:d≠8)(i:Nat):xb b d bP i=0:=by
 cases i with
 |zero=>rfl
 |succ i=>show(if d=13 then 1 else Cd b d bP i)=0;rw[ae a,KZ c]
def WX.fg(k:0<=d/\d<=11)(g:d=7->bC.length=3)(f:d≠8)(i:d=9->0<=bP/\bP<(c:Int))(j:∀e∈bC,WX b c a e):WX b c a (.mk d bP bC):=
 .mk ⟨⟨V,V⟩,λh=>V,λh=>V,g,λh=>absurd h f,i⟩ λl e h=>by rw[Zx V f];exact j e (aq h)
def WX.int(n:Int):WX b c a (.mk 0 n []):=.fg bh (λh=>V) bh (λh=>V) aL
def WX.UF(h:0<=bP/\bP<(a:Int)):WX b c a (.mk 12 bP []):=.mk ⟨bh,λ_=>h,λh=>V,λh=>V,λh=>V,λh=>V⟩ aL
def WX.lt{y:Ex}(e:WX b c a x)(f:WX b c (a+1) y):WX b c a (.mk 13 0 [x,y]):=
 .mk ⟨bh,λh=>V,λ_=>rfl,λh=>V,λh=>V,λh=>V⟩ λi g d=>by
  rcases i with _|_|i
  .simp at d;subst d;exact e
  .simp at d;subst d;exact f
  .simp at d
def WX.mt{l:List Ex}(k:WX b c a x)(n:l.length=(cA b bP).length)(m:0<l.length)(j:∀(i:Nat)(e:Ex)(f:Int),l[i]? =some e->(cA b bP)[i]? =some f->WX b c (a+(cE b f).length) e):WX b c a (.mk 8 bP (x::l)):=
 .mk ⟨bh,λh=>V,λh=>V,λh=>V,λ_=>⟨bF,V⟩,λh=>V⟩ λi e d=>by
  rcases i with _|i
  .simp at d;subst d;exact k
  .simp at d;let⟨f,g⟩:=cG (cA b bP) i (oh (aw d));have:=j i e f d g;show WX b c (a+Cd b 8 bP i) e;rw[KY rfl g];exact this
end
end
section
variable{X:List Nat}{b k c:Nat}{s:O}
structure GC(rb:Nat)(bs:O)(P:Nat)(d p:O)(ds:List bz)(fs:List dy)(m:E):Prop where
 rd:Rd rb bs P m
 hd:cy (bH [rb] m) d ds
 hp:pA (bH [rb] m) p fs
 gp:GP ds fs
def Lw(a:Nat)(L:List Nat)(m:E):Prop:=∀b∈L,b<m.size/\b≠a
def XP(S:List Nat)(b:Nat)(c:O)(m:E)(P:Nat)(Q:Ex->Prop)(v:Value)(a:E):Prop:=∃s e,v=.agg #[vi e.op,vi e.bP,O.v s]/\fH (bH S a) s e.bC/\Q e/\Rd b c P a/\Fz [b] m a
abbrev IR(a:Nat)(m:E)(s:O)(l:List Int):Prop:=ap (bH [a] m) s l
section
variable{e P i:Nat}{h d p:O}{l:List bz}{n:List dy}{m M g:E}{S L:List Nat}{f:Nat}{j:List Value}{Q Q':Ex->Prop}
def fh(f:Fz [e] m M):Le (bH [e] m) (bH [e] M):=f.dg λ_ h=>h
def GC.to(a:GC e h P d p l n m)(f:Fz [e] m M)(r:Rd e h i M):GC e h i d p l n M:=⟨r,a.hd.le (fh f),pA.le (fh f) a.hp,a.gp⟩
def GC.ext(a:GC e h P d p l n m)(x:J m M):GC e h P d p l n M:=a.to (x.fz _) (a.rd.ext x)
def GC.types(a:GC e h P d p l n m):dU l:=td a.gp.ds
def Lw.fz(h:Lw e L m)(f:Fz X m M):Lw e L M:=λb a=>⟨aO (h b a).1 f.size,(h b a).2⟩
def Lw.lt(h:Lw e L m)(f:Fz X m M):∀b∈L,b<M.size:=λb a=>(h.fz f b a).1
def Lw.dv(h:Lw e L m)(f:Fz [e] m M):eI L m M:=f.dv λb a=>⟨(h b a).1,by have:=(h b a).2;simpa using this⟩
def Lw.cp(h:Lw e L m)(f:Fz [e] m M)(c:Fz [e] M g)(a:b∈L)(o:Nat):af g b o=af M b o:=aI (c.same b (h.fz f b a).1 (by have:=(h b a).2;simpa using this)) o
def XP.mono{P i:Nat}(k:∀a,Q a->Q' a)(j:P<=i){v:Value}:XP S e h m P Q v M->XP S e h m i Q' v M:=λ⟨s,a,b,c,d,f,g⟩=>⟨s,a,b,c,k a d,f.mono j,g⟩
def XP.then{K:Value->E->Prop}(c:aN cg f j M (XP S e h M P Q))(m:Lw e L M)(n:∀s a g,fH (bH S g) s a.bC->Q a->Rd e h P g->Fz [e] M g->K (.agg #[vi a.op,vi a.bP,O.v s]) g):aN cg f j M λv g=>eI L M g/\K v g:=
 c.mono λv g⟨s,a,d,i,k,l,b⟩=>⟨m.dv b,d▸n s a g i k l b⟩
def Lw.tC(h:Lw e L m)(f:Fz [e] m M)(a:Fz [e] m g):eI L M g:=λb c=>by
 have:=h b c;rw[f.same b this.1 (by simpa using this.2),a.same b this.1 (by simpa using this.2)]
def XP.ret{p:Nat}(q:aN cg f j M (XP (b::S) e h M P Q))(t:Lw e L M)(o:Fz [e] m M)(r:Rd e h p m)(n:m.size<=b)(v:∀a,Q a->Q' a)(u:P<=i):
 aN cg f j M λA g=>eI L M g/\∃c d:Int,∃k:O,A=.agg #[vi c,vi d,O.v k]/\XP S e h m i Q' (.agg #[vi c,vi d,O.v k]) (ah g b 0 [.i c,.i d,.s k]):=
 XP.then q t λs a g z y w l=>⟨_,_,_,rfl,s,a,rfl,fH.le (cB aL λB x=>ai _ x) z,v a y,r.ah (w.mono u) (o.trans l) n 0 _,(o.trans l).ah (Or.inr n) _ _⟩
abbrev GE(S:List Nat)(a m:E)(s:O)(l:List Ex):Prop:=Gr S a m bG 3 Cc s l
def XP.kM{B:Nat}{i:E}{s:O}{n:List Ex}{K:O->E->Prop}(D:aN cg f j M (XP (s.D::S) e h M P Q))(t:GE S i M s n)(z:Fz [e] i M)(w:Lw e L i)(u:Rd e h B i)(H:e∈S)(l:n.length<=1000)
 (F:∀c r g,Q c->GE S i g r (n++[c])->Rd e h P g->Fz [e] i g->Fz [e,s.D] M g->(r.D=s.D\/M.size<=r.D)->K r g):
 aN cg f j M λN k=>eI L M k/\∃o p:Int,∃q:O,N=.agg #[vi o,vi p,O.v q]/\
  jN (k.push (.cells (bu [.i o,.i p,.s q]) bG)) bG [.i 0,.i 0,.s .nil] 40 s (O.mk k.size 0 1 1) λr g=>eI L (k.push (.cells (bu [.i o,.i p,.s q]) bG)) g/\K r g:=
 XP.then D (w.fz z) λU c k J G x d=>⟨_,_,_,rfl,by
  have T:=t.bn;have I:=u.lt;have v:=z.trans d;refine Gr.kM (g:=[.i 0,.i 0,.s .nil]) (k:=c) Cc.mono bh (t.eB Cc.mono d (by simp;exact⟨H,I⟩)) v (by cases c;exact Cc.of J) V λr g C m R A=>⟨w.tC (v.push _) m,F c r g G C (u.Nj x m (A e x.lt V)) m ⟨bI d.size R.1,λb y l=>?_⟩ (oh d.size)⟩;simp only[aV,jZ,Cb,vG]at l;rw[A b (aO y d.size) l.2,d.same b y (by simpa using l.1)]⟩
def YO{b:E}(h:Fz [e,k] b M)(d:s.D=k\/b.size<=s.D)(a:Fz [e,s.D] M g):Fz [e,k] b g:=
 h.sa a λy c=>by simp at c⊢;omega
end
def nh{S:List Nat}{d P:Nat}{b:O}{m:E}{bC:List Ex}(j:Rd d b P m)(h:fH (bH S m) s bC)(a bP:Int):aN cg 313 [vi a,vi bP,O.v s] m (XP S d b m P (.mk a bP bC=·)):=
 (JV h a bP).mono λv l⟨k,e,f,g,i,c⟩=>⟨k,e,f,g,i,j.ext c,c.fz _⟩
def XV(b:List bz)(d:List dy)(c:Nat)(e:Ex):Prop:=(∀a,WX b d.length a e)/\e.n<=c
def Xo(c k:Nat)(e:List bz)(f:List dy)(t:Int):Prop:=∀(S:List Nat)(a P:Nat)(b d p:O)(m:E),(∀g∈S,g<m.size)->a∈S->GC a b P d p e f m->P+k<=10^16->
 aN cg 335 [vp a 0,.agg #[O.v d,O.v p],vi t] m (XP S a b m (P+k) (XV e f c))
def Sw{a:List bz}{b:List dy}{l:List Ex}{f i:Int}(m:f=6\/f=10)(h:∀e∈l,XV a b 1 e)(k:l.length+1<=c):XV a b c (.mk f i l):=
 ⟨λg=>.fg V (λh=>V) V (λh=>V) λe d=>(h e d).1 g,by
  rw[Ex.Ta];have:∀l:List Ex,(∀e∈l,XV a b 1 e)->en l<=l.length:=λl=>by
   induction l with
   |nil=>simp
   |cons x l j=>intro h;rw[OR,aY];have:=(h x aL).2;have:=j λe d=>h e (by simp[d]);omega
  have:=this l h;omega⟩
def JU{d:List bz}{fs:List dy}{t:Int}(ht:Ty d t)(D:(Lo t/\c=1/\k=5)\/((∀a,Lo a->Xo 1 5 d fs a)/\c=4/\k=20)):Xo c k d fs t:=by
 intro r f B H ao ax al hS aa a hP;apply Ds (f,0);simp -zeta only[aC,aB];intro m ab;let⟨x2,hl⟩:=dD (a:=m) (c:=ab) rfl rfl;have s1:m.size=al.size+1:=by simp[m]
 clear_value ab;have hr:=a.rd.lt;have L2:Lw f [m.size,al.size] ab:=λb K=>⟨hl b K,by simp at K;omega⟩;have Y:=a.types;have h5:=Ty.YM a.gp.ds ht;have ag:∀e∈m.size::r,e<ab.size:=bO hS x2.size (hl _ aL);have c2:=a.ext x2;refine(iy (e:=[f]) (by simp;exact c2.rd.lt) (c2.hd.le (bA _ _)) Y t).mono λA m3⟨cs,l,e,hc,q,G⟩=>⟨L2.dv (G.fz _),cs,e,?_⟩;subst q;have u:=c2.ext G;have N:=L2.fz (G.fz []);have u3:=x2.trans G;have aN:=hc.len;refine dit (λh0=>?_) λh0=>?_
 .let⟨X,ak⟩:=cG (cA d t) 0;have hh:(cA d t).head?=some X:=by rw[List.head?_eq_getElem?];exact ak
  have L:X∈(cA d t).take 2:=List.mem_take_iff_getElem.2 ⟨0,V,by have:=List.getElem?_eq_some_iff.1 ak;exact this.2⟩;have A0:∀{M:E},Fz [f] m3 M->af M cs.D (cs.off+Int.toNat 0*1)=some (vi X):=λR=>(eT.1 ((hc.le (fh R)).aF ak)).2;refine⟨bh,V,X,A0 (Fz.az _ _),λa M=>a∈(cA d t).take 2/\Rd f H (B+1) M/\Fz [f] m3 M,⟨λI=>?_,λI=>⟨L,u.rd.mono V,Fz.az _ _⟩⟩,?_⟩
  .simp only[ar]at I;let⟨o,i⟩:=cG (cA d t) 1;have t1:o∈(cA d t).take 2:=List.mem_take_iff_getElem.2 ⟨1,V,by have:=List.getElem?_eq_some_iff.1 i;exact this.2⟩;refine(cq u.rd V 4).mono λA m4⟨F,e,_,_,j,g⟩=>⟨N.dv g,F,e,λh=>⟨bh,V,o,(eT.1 ((hc.le (fh g)).aF i)).2,t1,j,g⟩,λh=>⟨L,j,g⟩⟩
  rintro c' v ⟨aA,w,i⟩;have O:=N.fz i;refine⟨λa M=>a∈(cA d t).take 2/\((cA d t).head?=some a\/t∉cE d a)/\Rd f H (B+1) M/\Fz [f] m3 M,?_,?_⟩
  .refine(dJ (e:=[]) aL ((u.to i w).hd.le ((bA _ _).trans (Ao _))) Y c').mono λA m6⟨R,l,e,hf,q,x⟩=>⟨O.dv (x.fz _),R,e,?_⟩;subst q;refine(dw (hf.le (bA _ _)) t).mono λA o⟨b,e,K,g⟩=>⟨(O.fz (x.fz [])).dv (g.fz _),b,e,λau=>?_,λah=>⟨aA,Or.inr λj=>by rw[K.2 j]at ah;exact absurd ah bh,(w.ext x).ext g,(i.then x).then g⟩⟩;have j:=(i.then x).then g;exact⟨bh,V,X,A0 j,L,Or.inl hh,(w.ext x).ext g,j⟩
  rintro Q p ⟨I,h2,r8,Z⟩;let⟨z3,aE,zz⟩:=QX d a.gp.ds t h5 Q I h2;have c8:=u.to Z r8;have L8:=N.fz Z;have F8:Fz [f] al p:=(u3.fz _).trans Z;have z8:=Z.size;have aG:=G.size;have z2:=x2.size;intro U;have x9:J p U:=J.push _ _;have g9:GE (m.size::r) p U (.mk p.size 0 0 0) []:=Gr.new _ (ad _) _ _ _;have s9:U.size=p.size+1:=by simp[U]
  clear_value U;refine(dJ (e:=[f,p.size]) bF (c8.hd.le (x9.bH aL)) Y Q).mono λA av⟨R,l,e,hf,q,ac⟩=>⟨(L8.fz (x9.fz [])).dv (ac.fz _),R,e,?_⟩;subst q;have aD:=hf.len;refine eu (n:=(cE d Q).length) V (λj s M=>∃l,GE (m.size::r) p M s l/\l.length=j/\(∀e∈l,XV d fs 1 e)/\Rd f H (B+1+5*j) M/\Fz [f] p M/\Fz [f,p.size] av M/\(s.D=p.size\/av.size<=s.D)) ⟨[],g9.ext Cc.mono ac,rfl,aL,(r8.ext x9).ext ac,((x9.trans ac).fz _),Fz.az _ _,Or.inl rfl⟩ ?_;rintro j s M ay μ hj ⟨l,C,aF,T,W,o,ae,hs⟩ am
  have LM:=L8.fz o;refine dit (λh=>?_) λh=>?_
  .rcases D with⟨aj,_,_⟩|⟨ih,e1,e2⟩
   .have:=zz aj;omega
   let⟨y,z⟩:=cG (cE d Q) j;refine⟨V,V,y,(eT.1 ((hf.le (ae.dg λ_ h=>h)).aF z)).2,?_⟩;exact XP.kM (ih y (aE y (aq z)) (s.D::m.size::r) f (B+1+5*j) H ao ax M (bO (λe g=>by have:=ag e g;have:=o.size;have:=G.size;omega) (ad _) C.bn.2) (by simp[aa]) (c8.to o W) V) C o L8 r8 (by simp[aa]) V λe aM M' g g' r' f' ap aI=>
    am V _ _ ⟨_,g',bF,λe' ai=>by rcases List.mem_append.1 ai with h|h;exact T e' h;simp at h;subst h;exact g,r'.mono V,f',YO ae hs ap,oh ae.size⟩
  .have az:∀e∈m.size::r,e<p.size:=λe g=>by have:=ag e g;omega
   exact XP.ret (nh W (C.done Cc.mono az bh V) 6 Q) LM (F8.trans o) a.rd V (λe g=>g▸Sw (Or.inl rfl) T (by rcases D with⟨h,e,_⟩|⟨_,e,_⟩;have:=zz h;omega;omega)) (by rcases D with⟨h,_,e⟩|⟨_,_,e⟩;have:=zz h;omega;omega)
 .refine(yu (a:=[f]) (by simp;exact u.rd.lt) (u.hd.le (bA _ _)) Y (pA.le (bA _ _) u.hp) (oh a.gp.oG) t).mono λA m4⟨R,l,e,gl,T,p⟩=>⟨N.dv (p.fz _),R,e,?_⟩;have ae:IR f m4 R l:=GI.done gl (by simp;exact u.rd.lt) (PA T.2 a.gp.oG);have aQ:=ae.len;have X:=u.ext p;have Q:=N.fz (p.fz []);have u4:=u3.trans p;have z4:=p.size;have z3:=G.size;refine⟨λb M=>(b=true->0<t/\0<R.len)/\M=m4,⟨λh=>⟨λU=>by simp only[ar]at h U;omega,rfl⟩,λh=>⟨aL,rfl⟩⟩,?_⟩;rintro b _ ⟨K,rfl⟩;refine⟨λau=>?_,λah=>?_⟩
  .let⟨L,aO⟩:=K au;refine(cq X.rd V R.len).mono λA v⟨F,e,k0,k2,w,i⟩=>⟨Q.dv i,F,e,k0,V,?_⟩;let⟨y,z⟩:=cG l F.toNat;obtain⟨fi,q,rfl,U,aT,aH⟩:=T.1 y (aq z);let⟨dd,aA,az,aE,aJ⟩:=aH L;have aj:=QV d a.gp.ds dd aA az _ (a.gp.dz q (aq U)) aE aJ;have aU:q.params.length<=3:=(wU _ (a.gp.dz q (aq U))).1;have Z:=X.to i w;have O:=Q.fz i;let⟨ps,ak,e0,e1⟩:=Z.hp.aF U;have aR:=ak.len;have aD:=aw U;have aS:=Z.hp.len;refine⟨_,(eT.1 ((ae.le (fh i)).aF z)).2,V,V,ps,(eT.1 e0).2,?_⟩;intro m6;have x:J v m6:=J.push _ _;have g6:GE (m.size::r) v m6 (.mk v.size 0 0 0) []:=Gr.new _ (ad _) _ _ _;clear_value m6;have z5:=i.size;have ac:∀e∈m.size::r,e<v.size:=λe g=>by have:=ag e g;omega
   have aV:¬Lo t\/(Lo t/\0<t):=by by_cases h:Lo t;exact Or.inr ⟨h,L⟩;exact Or.inl h
   have hd:=RS d a.gp.ds;rcases D with⟨aG,_,_⟩|⟨ih,e2,e3⟩
   .exfalso;rcases aG with h|h|h
    .omega
    .subst h;omega
    .subst h;omega
   refine eu (n:=q.params.length -1) V (λj s M=>∃l,GE (m.size::r) v M s l/\l.length=j/\(∀e∈l,XV d fs 1 e)/\Rd f H (B+1+5*j) M/\Fz [f] v M) ⟨[],g6,rfl,aL,w.ext x,x.fz _⟩ ?_;rintro j s M ay μ hj ⟨l',C,aF,av,W,o⟩ am
   have ew:cU ((j:Int)+1)=j+1:=aP V V;refine⟨λh=>?_,λh=>?_⟩
   .simp only[ew,ar]at h;let⟨y,z⟩:=cG q.params j;have aK:y∈q.params.dropLast:=List.mem_iff_getElem?.2 ⟨j,by rw[XN,an V];exact z⟩;refine⟨V,V,y,(eT.1 ((ak.le (fh o)).aF z)).2,?_⟩;exact XP.kM (ih y (aj y aK) (s.D::m.size::r) f (B+1+5*j) H ao ax M (bO (λe g=>PA (ac e g) o.size) (ad _) C.bn.2) (by simp[aa]) (Z.to o W) V) C o O w (by simp[aa]) V λe aM M' g g' r' f' ap aI=>
     am V _ _ ⟨_,g',bF,λe' ai=>by rcases List.mem_append.1 ai with h|h;exact av e' h;simp at h;subst h;exact g,r'.mono V,f'⟩
   .simp only[ew,bM]at h;exact XP.ret (nh W (C.done Cc.mono ac bh V) 10 _) (O.fz o) (((u4.fz _).trans i).trans o) a.rd V (λe g=>g▸Sw (Or.inr rfl) av V) V
  .refine(BE X.rd (by rcases D with⟨_,_,e⟩|⟨_,_,e⟩<;>omega)).mono λA v⟨F,e,w,i⟩=>⟨Q.dv i,F,e,?_⟩;exact XP.ret (P:=B+4) ((Bf (m.size::r) F v).mono λA x⟨o,e,I,h2,j,h⟩=>⟨o,e,I,h2,j,w.ext h,h.fz _⟩) (Q.fz i) ((u4.fz _).trans i) a.rd V (λe g=>g▸⟨λh=>.int _,by rw[Ex.Ta];rcases D with⟨_,e,_⟩|⟨_,e,_⟩<;>simp[e]⟩) (by rcases D with⟨_,_,e⟩|⟨_,_,e⟩<;>omega)
end
section
variable{a:Nat}{t:Int}
def _root_.Go.Vc.Ra{σ:Type}(o:a<=9223372036854775807)(e:1<=a){m:E}{h:σ}{g:(σ->Int->E->Prop)->(σ->Int->E->Nat)->σ->Int->E->Prop}(Q:Nat->σ->E->Prop)(l:Q 1 h m)
 (j:∀(k:Nat)(s:σ)(b:E)(I:σ->Int->E->Prop)(μ:σ->Int->E->Nat),1<=k->k<=a->Q k s b->
  (k<a->∀d c,Q (k+1) d c->I d (cU ((k:Int)+1)) c/\μ d (cU ((k:Int)+1)) c<μ s k b)->g I μ s k b):
 ∃(I:σ->Int->E->Prop)(μ:σ->Int->E->Nat),I h 1 m/\∀s i b,I s i b->g I μ s i b:=by
 refine⟨λs i c=>∃k:Nat,i=k/\1<=k/\k<=a/\Q k s c,λ_ i _=>(a -i).toNat,⟨1,rfl,ad _,e,l⟩,?_⟩
 rintro s i b ⟨k,rfl,e,n,p⟩
 refine j k s b _ _ e n p λf d c q=>?_
 rw[kG f o]
 exact⟨⟨k+1,rfl,V,f,q⟩,DK f⟩
def _root_.Go.Vc.YN(l:a<=9223372036854775807)(d:1<=a){m:E}{f:(Int->E->Prop)->(Int->E->Nat)->Int->E->Prop}(Q:Nat->E->Prop)(g:Q 1 m)
 (h:∀(k:Nat)(b:E)(I:Int->E->Prop)(μ:Int->E->Nat),1<=k->k<=a->Q k b->
  (k<a->∀c,Q (k+1) c->I (cU ((k:Int)+1)) c/\μ (cU ((k:Int)+1)) c<μ k b)->f I μ k b):
 ∃(I:Int->E->Prop)(μ:Int->E->Nat),I 1 m/\∀i b,I i b->f I μ i b:=by
 refine⟨λi c=>∃k:Nat,i=k/\1<=k/\k<=a/\Q k c,λi _=>(a -i).toNat,⟨1,rfl,ad _,d,g⟩,?_⟩
 rintro i b ⟨k,rfl,d,j,n⟩
 refine h k b _ _ d j n λe c o=>?_
 rw[kG e l]
 exact⟨⟨k+1,rfl,V,e,o⟩,DK e⟩
def KB{a:List bz}{b:List dy}(hd:a∈rP)(c:Ty a t):Xo 4 20 a b t:=JU c (Or.inr ⟨λ_ h=>JU (h.ty hd) (Or.inl ⟨h,rfl,rfl⟩),rfl,rfl⟩)
def KQ.x{f:Nat}{a:List Value}{S:List Nat}{d P:Nat}{b:O}{m:E}{Q:Ex->Prop}(h:KQ f a m S Q)(k:Rd d b P m):aN cg f a m (XP S d b m P Q):=
 h.mono λv n⟨l,e,g,i,j,c⟩=>⟨l,e,g,i,j,k.ext c,c.fz _⟩
section
variable{f:List Nat}{c P:Nat}{h d p j:O}{g:List bz}{e:List dy}{b:E}{i:List Int}
def rH(hS:∀o∈f,o<b.size)(ag:c∈f)(o:GC c h P d p g e b)(hP:P+22<=10^16)(hv:IR c b j i)(ak:i.length<=1000)(ht:Ty g t):
 aN cg 316 [vp c 0,.agg #[O.v d,O.v p],O.v j,vi t] b (XP f c h b (P+22) λa=>WX g e.length i.length a/\a.n<=4):=by
 apply Kn (c,0)
 simp -zeta only[aC,aB]
 intro k y
 let⟨A,hl⟩:=dD (a:=k) (c:=y) rfl rfl
 have s1:k.size=b.size+1:=by simp[k]
 clear_value y
 have hr:=o.rd.lt
 have Y:Lw c [k.size,b.size] y:=λN hb=>⟨hl N hb,by simp at hb;omega⟩
 have ae:∀a∈k.size::f,a<y.size:=bO hS A.size (hl _ aL)
 have z2:=A.size
 refine(Hz (a:=[c]) (m:=y) bF ((hv.le (bA _ _)).ext A) V t).mono λ_ U⟨r,ac,a,gl,ai,B⟩=>⟨Y.dv (B.fz _),r,a,?_⟩
 have aa:IR c U r ac:=GI.done gl bF V
 have F:=(o.ext A).ext B
 have D:=Y.fz (B.fz [])
 have C:Fz [c] b U:=(A.trans B).fz _
 have al:=aa.len
 have z3:=B.size
 have ji:∀{Q:Nat}{M:E},GC c h Q d p g e M->Fz [c] b M->y.size<=M.size->Lw c [k.size,b.size] M->Q<=P+2->aN cg 335 [vp c 0,.agg #[O.v d,O.v p],vi t] M λW n=>eI [k.size,b.size] M n/\∃s u:Int,∃w:O,W=.agg #[vi s,vi u,O.v w]/\XP f c h b (P+22) (λa=>WX g e.length i.length a/\a.n<=4) (.agg #[vi s,vi u,O.v w]) (ah n k.size 0 [.i s,.i u,.s w]):=λR T h1 I hq=>
  XP.ret (KB o.gp.ds ht (k.size::f) c _ h d p _ (λa l=>oh (ae a l)) (by simp[ag]) R V) I T o.rd V (λa l=>⟨l.1 _,l.2⟩) V
 have UF:∀{Q:Nat}{M:E},GC c h Q d p g e M->Fz [c] b M->Fz [c] U M->Lw c [k.size,b.size] M->Q<=P+2->0<r.len->aN cg 40 [vp c 0,vi (r.len:Int)] M λaj n=>eI [k.size,b.size] M n/\∃K:Int,aj=vi K/\(0:Int)<=K/\K<(r.len:Int)/\∃ad:Int,af n r.D (r.off+Int.toNat K*1)=some (vi ad)/\
  aN cg 315 [vi ad] n λW Z=>eI [k.size,b.size] n Z/\∃s u:Int,∃w:O,W=.agg #[vi s,vi u,O.v w]/\XP f c h b (P+22) (λa=>WX g e.length i.length a/\a.n<=4) (.agg #[vi s,vi u,O.v w]) (ah Z k.size 0 [.i s,.i u,.s w]):=λR T f3 I hq h0=>
  (cq R.rd V r.len).mono λ_ n⟨ab,a,k0,k1,r',H⟩=>by
   let⟨X,hy⟩:=cG ac ab.toNat;exact⟨I.dv H,ab,a,k0,V,X,(eT.1 ((aa.le (fh (f3.trans H))).aF hy)).2,XP.ret ((mu (k.size::f) X n).x r') (I.fz H) (T.trans H) o.rd V (λa l=>l▸⟨.UF (ai.1 X (aq hy)),by rw[Ex.Ta];simp⟩) V⟩
 refine⟨λx=>?_,λx=>ji F C z3 D V⟩
 simp only[ar]at x
 refine(cq F.rd V 6).mono λ_ m4⟨k1,a,_,_,r4,l⟩=>⟨D.dv l,k1,a,λx=>UF (F.to l r4) (C.trans l) l (D.fz l) V V,λx=>?_⟩
 intro m5
 have z:J m4 m5:=J.push _ _
 have G:=(F.to l r4).ext z
 have L:=(D.fz l).fz (z.fz [])
 exact(pT (v:=[]) (G.hd.le (bA _ _)) o.types (pA.le (bA _ _) G.hp) (oh o.gp.oG) (mI _ _ _ _ _ _) t).mono λ_ m6⟨N,a,q⟩=>⟨L.dv (q.fz _),N,a,λx=>UF (G.ext q) ((C.trans l).then (z.trans q)) (l.then (z.trans q)) (L.fz (q.fz [])) V V,λx=>ji (G.ext q) ((C.trans l).then (z.trans q)) (by have:=l.size;have:=z.size;have:=q.size;omega) (L.fz (q.fz [])) V⟩
def J9(Y:∀m∈f,m<b.size)(hd:cy b d g)(ht:dU g)(C:pA b p e)(hf:e.length<=1000)(X:1<=e.length)(t:Int):lg 330 [.agg #[O.v d,O.v p],vi t] b f λh=>(∀y∈h,∃(o:Nat)(q:dy),y=o/\e[o]? =some q)/\h.length<=e.length:=by
 apply CK;simp -zeta only[aC,aB];intro a E;have L:J b a:=J.push _ _;have A:∀m∈[b.size],m<a.size:=by simp[a]
 have W:GI f a E (.mk a.size 0 0 0) []:=GI.nil f a;have x2:J a E:=J.push _ _;clear_value E;clear_value a;have ah:=C.len;refine Ra (a:=e.length) V X (λu I M=>J a M/\∃h,GI f a M I h/\(∀y∈h,∃(o:Nat)(q:dy),y=o/\e[o]? =some q)/\h.length<=u) ⟨x2,[],W,aL,aL⟩ ?_;rintro u I M ac μ ae hk ⟨l,h,x,D,ag⟩ T
 have K:=L.trans l;refine⟨λQ=>?_,λQ=>⟨I,h,rfl,x.cz (λ_ i=>i) L.size,⟨D,V⟩,K⟩⟩;simp only[ar]at Q;let⟨q,R⟩:=cG e u;let⟨ad,z,w,U⟩:=C.aF R;have Z:=z.len;refine⟨V,V,_,K.af U,?_⟩;refine eu (n:=q.params.length) (Z▸z.gW) (λ_ _ N=>J M N) (J.az _) ?_;rintro aa ok r I2 μ2 hj c S;have k:=K.trans c;refine⟨V,V,_,k.af w,λi=>⟨λ_=>?_,λ_=>S (by simp only[ar]at i;omega) _ _ c⟩,λi=>⟨λ_=>?_,λ_=>T V _ _ ⟨l.trans c,h,x.ext c,D,V⟩⟩⟩
 .simp only[ar]at i;let⟨y,hy⟩:=cG q.params aa;have P:=(z.ext k).aF hy;refine⟨V,V,_,k.af w,V,V,y,P,?_⟩;intro F;have j:J r F:=J.push _ _;have G:∀{s H:Nat}{ab:Value},af r s H=some ab->af F s H=af r s H:=λi=>by rw[j.af i,i]
  have B:b.size<r.size:=aO (A _ aL) (l.trans c).size;refine⟨G P,G (k.af w),aI (j.same _ B) _,aI (j.same _ B) _,aI (j.same _ B) _,?_⟩;exact(pT (v:=[]) (hd.le (k.trans j).le) ht (pA.le (k.trans j).le C) hf (mI _ _ _ _ _ _) y).aG ((l.trans c).trans j) A λs m5 x5 _=>⟨_,rfl,S V _ _ ((c.trans j).trans x5)⟩
 .intro F;refine GI.kM (x.ext c) ((l.trans c).fz []) (λm j=>L.lt (Y m j)) V λP N B s _ _=>⟨J.oK ((l.trans c).aK _) s.ext A,T V _ _ ⟨s.ext,_,B,λH j=>?_,bF⟩⟩;rcases List.mem_append.1 j with j|j
  .exact D H j
  .simp at j;exact⟨u,q,j,R⟩
end
end
section
variable{f c:Int}{g:O}{e:List Int}
def Cg(c:Int):Nat:=30*4^c.toNat
def uv(h:f<=c):Cg f<=Cg c:=Nat.mul_le_mul_left _ (Nat.pow_le_pow_right bh V)
def QS(c:Int):30<=Cg c:=Nat.le_mul_of_pos_right _ (Nat.pow_pos bh)
def RL(a:0<=f)(h:f+1<=c):4*Cg f<=Cg c:=by
 refine bI (ua ?_) (uv h);unfold Cg;rw[show(f+1).toNat=f.toNat+1 by omega,Nat.pow_succ];omega
def KP(b:List bz)(g:List dy)(c:Int):Prop:=∀(S:List Nat)(a P:Nat)(d e p h:O)(m:E)(v:List Int)(t:Int),(∀f∈S,f<m.size)->a∈S->GC a d P e p b g m->P+Cg c<=10^16->IR a m h v->v.length+3*c.toNat<=1000->Ty b t->
 aN cg 312 [vp a 0,.agg #[O.v e,O.v p],O.v h,vi t,vi c] m (XP S a d m (P+Cg c) λf=>WX b g.length v.length f/\(c<=2->f.n<=4))
def XL(S:List Nat)(b:Nat)(c:O)(m:E)(P:Nat)(Q:List Ex->Prop)(v:Value)(a:E):Prop:=∃s l,v=O.v s/\fH (bH S a) s l/\Q l/\Rd b c P a/\Fz [b] m a
def Ln{S:List Nat}{M:E}(i:∀c∈S,c<M.size)(p:Nat):∀(l:List (Ex×O))(_:l.length<=1000)(_:∀x∈l,fH (bH S M) x.2 x.1.bC){a:List Ce}{n:Nat},a=l.flatMap (λx=>[.i x.1.op,.i x.1.bP,.s x.2])->n=l.length->
 GE S M (M.push (.cells (bu a) bG)) (.mk M.size 0 n n) (l.map (·.1)):=by
 intro l q h a n j k
 refine Gr.lit (f:=l.map λx=>[.i x.1.op,.i x.1.bP,.s x.2]) Cc.mono (ad _) i (by rw[j,List.flatMap_def]) (by simp[k]) ⟨aL,λc d=>?_,λr c o f e=>?_⟩
 .simp at d;obtain⟨_,_,_,rfl⟩:=d;rfl
 .simp only[cK,jH]at f e
  obtain⟨x,g,rfl⟩:=f
  obtain⟨y,b,rfl⟩:=e
  rw[g]at b;simp at b;subst b
  have:=h x (aq g)
  cases m:x.1 with
  |mk t n s=>rw[m]at this;exact Cc.of this
section
variable{j L:List Nat}{h P:Nat}{k d p o:O}{i:List bz}{l:List dy}{m:E}{v:List Int}
def Nw(z:0<=c)(ih:∀a,0<=a->a<=c->KP i l a)(G:∀s∈j,s<m.size)(I:h∈j)(s:GC h k P d p i l m)(hP:P+3*Cg c<=10^16)(hv:IR h m o v)(ah:v.length+3*c.toNat<=1000)(ae:c<=1000)(K:IR h m g e)(h3:e.length<=3)(aa:∀u∈e,Ty i u):
 aN cg 328 [vp h 0,.agg #[O.v d,O.v p],O.v o,O.v g,vi c] m (XL j h k m (P+3*Cg c) λb=>b.length=e.length/\∀f∈b,WX i l.length v.length f):=by
 apply G9 (h,0)
 simp -zeta only[aC,aB]
 intro a B
 have C:J m a:=J.push _ _
 have hr:=s.rd.lt
 have R:Lw h [m.size] a:=by intro c z;simp[a]at z⊢;omega
 have X:GE j a B (.mk a.size 0 0 0) []:=Gr.new _ (ad _) _ _ _
 have Q:J a B:=J.push _ _
 clear_value B
 clear_value a
 have D:=s.ext C
 have ag:=K.len
 refine eu (n:=e.length) V (λr w M=>∃b,GE j a M w b/\b.length=r/\(∀f∈b,WX i l.length v.length f)/\Rd h k (P+r*Cg c) M/\Fz [h] a M) ⟨[],X,rfl,aL,by simpa using D.rd.ext Q,Q.fz _⟩ ?_
 rintro r w M ac μ hk ⟨b,y,af,H,N,F⟩ ab
 have t:=(C.fz [h]).trans F
 refine dit (λq=>?_) λq=>?_
 .let⟨u,L⟩:=cG e r
  let⟨S,E⟩:=Ov (d:=(g.len:Int)) z V
  rw[aP (b:=Int.tdiv c _) V V]
  have hm:=uv E
  have Z:r*Cg c+Cg c<=3*Cg c:=by rw[<-qb];exact dh _ V
  refine⟨V,V,u,(eT.1 ((K.le (fh t)).aF L)).2,V,?_⟩
  exact XP.kM (ih _ S E (w.D::j) h _ k d p o M v u (bO G t.size y.bn.2) (by simp[I]) (s.to t N) V (hv.le (fh t)) V (aa u (aq L))) y F R D.rd I V λf ai M' A W r' U _ _=>
   ab V _ _ ⟨_,W,bF,λT Y=>by rcases List.mem_append.1 Y with q|q;exact H T q;simp at q;subst q;exact A.1,r'.mono (by rw[qb];omega),U⟩
 .have Z:r*Cg c<=3*Cg c:=dh _ V
  exact⟨w,b,rfl,y.done Cc.mono (λf A=>C.lt (G f A)) bh V,⟨V,H⟩,N.mono V,t⟩
def zL{n F B:Nat}{q:E}{Q:Ex->Prop}{u bP:Int}(T:0<=c)(ih:∀a,0<=a->a<=c->KP i l a)(R:∀r∈n::j,r<m.size)(Y:h∈j)(r:GC h k P d p i l m)(K:P+3*Cg c<=10^16)(hv:IR h m o v)(ab:v.length+3*c.toNat<=1000)(U:c<=1000)(Z:IR h m g e)(I:e.length<=3)(aa:∀t∈e,Ty i t)
 (D:Lw h L m)(W:Fz [h] q m)(G:Rd h k F q)(X:q.size<=n)(N:∀a,a.length=e.length->(∀f∈a,WX i l.length v.length f)->Q (.mk u bP a))(M:P+3*Cg c<=B):
 aN cg 328 [vp h 0,.agg #[O.v d,O.v p],O.v o,O.v g,vi c] m λw b=>eI L m b/\∃s:O,w=O.v s/\
  aN cg 313 [vi u,vi bP,O.v s] b λw A=>eI L b A/\∃x y:Int,∃z:O,w=.agg #[vi x,vi y,O.v z]/\XP j h k q B Q (.agg #[vi x,vi y,O.v z]) (ah A n 0 [.i x,.i y,.s z]):=
 (Nw (j:=n::j) T ih R (by simp[Y]) r K hv ab U Z I aa).mono λ_ b⟨s,a,f,H,C,J,t⟩=>⟨D.dv t,s,f,XP.ret (nh J H u bP) (D.fz t) (W.trans t) G X (λf V=>V▸N a C.1 C.2) M⟩
def Kd(I:3<=c/\c<=100)(ih:∀e,0<=e->e<=c -1->KP i l e)(hS:∀r∈j,r<m.size)(ag:h∈j)(r:GC h k P d p i l m)(hP:P+23+3*Cg (c -1)<=10^16)(hv:IR h m o v)(aU:v.length+3*c.toNat<=1000){al:Int}(ht:Ty i al):
 aN cg 329 [vp h 0,.agg #[O.v d,O.v p],O.v o,vi al,vi c] m (XP j h k m (P+23+3*Cg (c -1)) (WX i l.length v.length)):=by
 apply CX (h,0)
 simp -zeta only[aC,aB]
 intro q E m3
 let⟨T,hl⟩:=dD (a:=q) (c:=E) rfl rfl
 have s1:q.size=m.size+1:=by simp[q]
 have U:J E m3:=J.push _ _
 have hr:=r.rd.lt
 have z2:=T.size
 have aE:ap (bH [h] m3) (.mk E.size 0 4 4) [1,1,3,4]:=ap.lit aA _ bF rfl rfl aL
 clear_value m3
 clear_value E
 have L2:Lw h [q.size,m.size] E:=λc I=>⟨hl c I,by simp at I;omega⟩
 have ay:∀e∈q.size::j,e<E.size:=bO hS T.size (hl _ aL)
 have c3:=(r.ext T).ext U
 have L3:=L2.fz (U.fz [])
 have W:=r.types
 refine(kE c3.rd V aE aL).mono λ_ m4⟨R,e,hk,r4,G⟩=>⟨L3.dv G,R,e,?_⟩
 have X:=c3.to G r4
 have L4:=L3.fz G
 have aM:=X.hd.len
 have dl:=pC i r.gp.ds
 have af:R∈[(1:Int),3,4]:=by simp at hk⊢;omega
 have lM:0<(cA i 1).length:=(RS i r.gp.ds).1
 refine⟨λg M=>g∈[(1:Int),3,4]/\g<=i.length/\0<(cA i g).length/\J m4 M,⟨λ_=>⟨bh,V,lM,J.az _⟩,λab=>?_⟩,?_⟩
 .simp only[bM]at ab
  refine(ng (X.hd.le (bA _ _)) W R).mono λ_ m5⟨c,e,I,u⟩=>⟨L4.dv (u.fz _),c,e,λ_=>⟨bh,V,lM,u⟩,λf=>⟨af,V,QW i r.gp.ds R af V λai N s=>?_,u⟩⟩
  rw[I.2 ⟨ai,by simp at af;omega,N,s⟩]at f;exact absurd f bh
 rintro g m5 ⟨an,az,aH,u⟩
 have Y:=X.ext u
 have L5:=L4.fz (u.fz [])
 have F5:Fz [h] m m5:=(((T.trans U).fz _).trans G).then u
 have k5:g∈[(0:Int),1,2,3,4]:=by simp at an⊢;omega
 have hf:=zK i r.gp.ds
 have aI:=hf.2.1 g k5
 refine(iy (e:=[h]) (by simp;exact Y.rd.lt) (Y.hd.le (bA _ _)) W g).mono λ_ m6⟨Z,t,e,hc,ai,L⟩=>⟨L5.dv (L.fz _),Z,e,?_⟩
 subst ai
 have c6:=Y.ext L
 have L6:=L5.fz (L.fz [])
 have F6:=F5.then L
 have aK:=hc.len
 have z3:=U.size;have z4:=G.size;have z5:=u.size;have z6:=L.size
 have am:∀e∈q.size::j,e<m6.size:=λe s=>by have:=ay e s;omega
 refine XP.then (rH (f:=q.size::j) am (by simp[ag]) c6 V (hv.le (fh F6)) V ⟨by simp at an;omega,az⟩) L6 λs0 e0 F h7 q7 r7 H=>⟨_,_,_,rfl,?_⟩
 intro m8
 have x8:J F m8:=J.push _ _
 have z7:=H.size
 have ac:∀e∈q.size::j,e<F.size:=λe s=>by have:=am e s;omega
 have g8:GE (q.size::j) F m8 (.mk F.size 0 1 1) [e0]:=Ln ac 0 [(e0,s0)] aL (by simpa using h7) rfl rfl
 clear_value m8
 have L7:=L6.fz H
 have F7:=F6.trans H
 refine eu (n:=(cA i g).length) V (λA aj M=>∃t,GE (q.size::j) F M aj (e0::t)/\t.length=A/\(∀(z:Nat)(e:Ex)(C:Int),t[z]? =some e->(cA i g)[z]? =some C->WX i l.length (v.length+(cE i C).length) e)/\Rd h k (P+23+A*Cg (c -1)) M/\Fz [h] F M) ⟨[],g8,rfl,aL,by simpa using(r7.ext x8).mono V,x8.fz _⟩ ?_
 rintro A aj M aG μ hj ⟨t,aa,aT,N,K,D⟩ aF
 have w:=L7.fz D
 have aR:A*Cg (c -1)<=3*Cg (c -1):=dh _ V
 refine dit (λab=>?_) λab=>?_
 .let⟨C,hy⟩:=cG (cA i g) A
  let⟨aO,aQ⟩:=hf.1 g k5 C (aq hy)
  have aV:=aa.bn
  have cM:=(c6.to H r7).to D K
  refine⟨V,V,C,(eT.1 ((hc.le (fh (H.trans D))).aF hy)).2,V,?_⟩
  refine(dJ (e:=[h]) (by simp;exact K.lt) cM.hd W C).mono λ_ m9⟨f9,l9,e,h9,q9,f⟩=>⟨w.dv (f.fz _),f9,e,w.cp (Fz.az _ _) (f.fz _) aL _,w.cp (Fz.az _ _) (f.fz _) aL _,?_⟩
  subst q9
  refine(eQ (S:=[h]) (by simp;exact(K.ext f).lt) (hv.le (fh ((F7.trans D).then f))) h9 V).mono λ_ ao⟨ak,ah,e,au,ar,B⟩=>⟨(w.fz (f.fz [])).dv (B.fz _),ak,e,w.cp (f.fz _) (B.fz _) aL _,w.cp (f.fz _) (B.fz _) aL _,?_⟩
  have ax:IR h ao ak ah:=GI.done au (by simp;exact(K.ext f).lt) (by rw[<-ar];simp;omega)
  let⟨d0,d1⟩:=Ov (f:=c -2) (d:=(Z.len:Int)) V V
  rw[aP (b:=c -2) V V,aP (b:=Int.tdiv _ _) V V]
  have hm:=uv (f:=Int.tdiv (c -2) Z.len) (c:=c -1) V
  have aS:A*Cg (c -1)+Cg (c -1)<=3*Cg (c -1):=by rw[<-qb];exact dh _ V
  have fT:=(D.then f).then B
  have aD:ah.length=v.length+(cE i C).length:=by rw[<-ar];simp
  refine XP.kM (ih _ d0 V (aj.D::q.size::j) h _ k d p ak ao ah al (bO (λe s=>PA (ac e s) fT.size) (ad _) (PA f.size B.size)) (by simp[ag]) ((cM.ext f).ext B) V ax V ht) ((aa.ext Cc.mono f).ext Cc.mono B) fT L7 r7 (by simp[ag]) bF λe aX M' s g' r' f' _ _=>
   aF V _ _ ⟨t++[e],g',bF,λz e' y' y Q=>?_,r'.mono (by rw[qb];omega),f'⟩
  rcases aW z t.length with ae|ae
  .rw[av ae]at y;exact N z e' y' y Q
  .rw[aJ ae]at y
   have:z -t.length=0:=by have:=aw y;simp at this;omega
   rw[this]at y;simp at y;subst y
   have:z=A:=V
   subst this
   rw[hy]at Q;simp at Q;subst Q
   rw[<-aD];exact s.1
 .exact XP.ret (nh K (aa.done Cc.mono ac bh bF) 8 g) w (F7.trans D) r.rd V (λe s=>s▸.mt q7.1 V V N) V
end
end
section
section
variable{e L:List Nat}{c P:Nat}{g d p i:O}{f:List bz}{h:List dy}{m:E}{v:List Int}
def Ke{o:Int}(hb:3<=o/\o<=100)(ih:∀j,0<=j->j<=o -1->KP f h j)(hS:∀q∈e,q<m.size)(R:c∈e)(q:GC c g P d p f h m)(hP:P+24+3*Cg (o -1)<=10^16)(T:IR c m i v)(aF:v.length+3*o.toNat<=1000){ab:Int}(ht:Ty f ab):
 aN cg 331 [vp c 0,.agg #[O.v d,O.v p],O.v i,vi ab,vi o] m (XP e c g m (P+24+3*Cg (o -1)) (WX f h.length v.length)):=by
 apply CY (c,0)
 simp -zeta only[aC,aB]
 intro x aa
 let⟨W,N⟩:=dD (a:=x) (c:=aa) rfl rfl
 have s1:x.size=m.size+1:=by simp[x]
 clear_value aa
 have hr:=q.rd.lt
 have z2:=W.size
 have L2:Lw c [x.size,m.size] aa:=λo hb=>⟨N o hb,by simp at hb;omega⟩
 have ao:∀j∈x.size::e,j<aa.size:=bO hS W.size (N _ aL)
 have c2:=q.ext W
 have ac:=q.types
 have aE:=q.hd.len
 have dl:=pC f q.gp.ds
 have av:cU (o -2)=o -2:=aP V V
 have ak:cU (o -1)=o -1:=aP V V
 have oG:=q.gp.oG
 have ax:v.length+3*(o -2).toNat<=1000:=V
 have hm:=uv (f:=o -2) (c:=o -1) V
 have az:P+24+Cg (o -2)<=10^16:=V
 refine⟨λM=>Rd c g (P+1) M/\Fz [c] aa M,?_,?_⟩
 .refine(cq c2.rd V 4).mono λ_ m3⟨y,j,_,_,r3,X⟩=>⟨L2.dv X,y,j,λ_=>?_,λ_=>⟨r3,X⟩⟩
  refine YN (a:=f.length+1) V V (λ_ M=>Rd c g (P+1) M/\Fz [c] aa M) ⟨r3,X⟩ ?_
  rintro Y M au μ aw ha ⟨Q,H⟩ ae
  have L:=c2.to H Q
  have LM:=L2.fz H
  refine⟨λs=>?_,λs=>⟨Q,H⟩⟩
  simp only[ar]at s
  have ea:cU ((Y:Int) -1)=Y -1:=aP V V
  rw[ea]
  refine(ng (L.hd.le (bA _ _)) ac Y).mono λ_ I⟨b4,j,an,K⟩=>⟨LM.dv (K.fz _),b4,j,λh1=>?_,λ_=>ae V _ ⟨Q.ext K,H.then K⟩⟩
  obtain⟨aj,_,hq,ay⟩:=an.1 h1
  have U:f[((Y:Int) -1).toNat]? =some aj:=by rw[<-hq];congr 1;omega
  obtain⟨_,_,g0,g1,_⟩:=L.hd.aF U
  have D:=L.ext K
  have u:=LM.fz (K.fz [])
  have l:=H.then K
  refine⟨V,V,_,K.af (eT.1 g1).2,λ_=>?_,λ_=>ae V _ ⟨Q.ext K,l⟩⟩
  refine(pT (D.hd.le (bA _ _)) ac (pA.le (bA _ _) D.hp) V ((T.le (fh ((W.fz _).trans l))).le (bA _ _)) Y).mono λ_ t⟨b5,j,k⟩=>⟨u.dv (k.fz _),b5,j,λ_=>?_,λ_=>ae V _ ⟨(Q.ext K).ext k,l.then k⟩⟩
  have F:=D.ext k
  have w:=u.fz (k.fz [])
  have f5:=l.then k
  have z5:=f5.size
  have ag:∀j∈x.size::e,j<t.size:=λj G=>by have:=ao j G;omega
  obtain⟨_,_,af,_,_⟩:=F.hd.aF U
  refine⟨V,V,_,(eT.1 af).2,?_⟩
  refine XP.then (rH (f:=x.size::e) ag (by simp[R]) F V (T.le (fh ((W.fz _).trans f5))) V ⟨V,V⟩) w λs6 e6 B h6 q6 r6 z=>⟨_,_,_,rfl,?_⟩
  have c6:=F.to z r6
  have A:=w.fz z
  obtain⟨_,_,am,_,_⟩:=c6.hd.aF U
  refine⟨by rw[(eT.1 am).2,(eT.1 af).2],w.cp (Fz.az _ _) z aL _,w.cp (Fz.az _ _) z aL _,w.cp (Fz.az _ _) z aL _,?_⟩
  rw[av]
  have F6:=(W.fz [c]).trans (f5.trans z)
  have ai:∀j∈x.size::e,j<B.size:=λj G=>by have:=ag j G;have:=z.size;omega
  refine XP.then (ih (o -2) V V (x.size::e) c (P+1+22) g d p i B v _ ai (by simp[R]) c6 V (T.le (fh F6)) ax ((zK f q.gp.ds).2.2 aj (aq U))) A λs7 e7 C h7 q7 r7 r=>⟨_,_,_,rfl,?_⟩
  intro Z
  have x8:J C Z:=J.push _ _
  have al:∀j∈x.size::e,j<C.size:=λj G=>by have:=ai j G;have:=r.size;omega
  have g8:GE (x.size::e) C Z (.mk C.size 0 2 2) [e6,e7]:=Ln al 0 [(e6,s6),(e7,s7)] aL (by simp;exact⟨fH.le (r.dg (by simp[R])) h6,h7⟩) rfl rfl
  clear_value Z
  exact XP.ret (nh (r7.ext x8) (g8.done Cc.mono al bh aL) 11 0) ((A.fz r).fz (x8.fz [])) ((F6.trans r).then x8) q.rd V (λj G=>G▸.fg bh (λs=>V) bh (λs=>V) (by simp;exact⟨q6.1,q7.1⟩)) V
 rintro M ⟨Q,H⟩
 have L:=c2.to H Q
 have LM:=L2.fz H
 have zM:=H.size
 have FM:=(W.fz [c]).trans H
 refine(iy (e:=[c]) (by simp;exact Q.lt) (L.hd.le (bA _ _)) ac ab).mono λ_ m3⟨cs,al,j,hc,aj,x3⟩=>⟨LM.dv (x3.fz _),cs,j,?_⟩
 subst aj
 have Z:=L.ext x3
 have X:=LM.fz (x3.fz [])
 have K:=FM.then x3
 have z3:=x3.size
 have aD:=hc.len
 have af:∀{M:E},m3.size<=M.size->∀j∈x.size::e,j<M.size:=λs j G=>by have:=ao j G;omega
 refine⟨λs=>?_,λs=>⟨λs=>XP.ret (rH (f:=x.size::e) (af (ad _)) (by simp[R]) Z V (T.le (fh K)) V ht) X K q.rd V (λj G=>G.1) V,λs=>?_⟩⟩
 .simp only[ar]at s
  refine(cq Z.rd V cs.len).mono λ_ I⟨y,j,k0,k1,U,l⟩=>⟨X.dv l,y,j,k0,V,?_⟩
  let⟨ae,hy⟩:=cG (cA f ab) y.toNat
  have ag:=(zK f q.gp.ds).1 ab (Ty.YM q.gp.ds ht) ae (aq hy)
  have D:=Z.to l U
  have u:=X.fz l
  refine⟨ae,(eT.1 ((hc.le (fh l)).aF hy)).2,?_⟩
  refine(dJ (e:=[c]) (by simp;exact U.lt) D.hd ac ae).mono λ_ t⟨f5,l5,j,h5,q5,k⟩=>⟨u.dv (k.fz _),f5,j,u.cp (Fz.az _ _) (k.fz _) aL _,u.cp (Fz.az _ _) (k.fz _) aL _,?_⟩
  subst q5
  rw[ak]
  exact zL V ih (af (PA l.size k.size)) R (D.ext k) V (T.le (fh ((K.trans l).then k))) V V h5 ag.1 ag.2 (u.fz (k.fz [])) ((K.trans l).then k) q.rd V (λal _ N=>.fg bh (λs=>V) bh (λs=>V) N) V
 .refine(cq Z.rd V 3).mono λ_ I⟨y,j,k0,k1,U,l⟩=>⟨X.dv l,y,j,λ_=>?_,λ_=>?_⟩
  .have D:=Z.to l U
   have u:=X.fz l
   have z4:=l.size;have aw:=U.lt
   intro t
   have k:J I t:=J.push _ _
   have ae:ap (bH [c] t) (.mk I.size 0 1 1) [0]:=ap.lit aA _ bF rfl rfl aL
   clear_value t
   have z5:=k.size
   rw[ak]
   exact zL V ih (af V) R (D.ext k) V (T.le (fh ((K.trans l).then k))) V V ae aL (by simp[q.gp.ty]) (u.fz (k.fz [])) ((K.trans l).then k) q.rd V (λal _ N=>.fg bh (λs=>V) bh (λs=>V) N) V
  .have D:=Z.to l U
   have u:=X.fz l
   have F4:=K.trans l
   have z4:=l.size;have aw:=U.lt
   have iK:∀{ay M:E}{Y t0:Nat},GC c g (P+3) d p f h M->Fz [c] I M->ap (bH [c] M) (.mk t0 0 2 2) [0,0]->∀op:Int,op∈[(1:Int),2,3,4]->aN cg 328 [vp c 0,.agg #[O.v d,O.v p],O.v i,O.v (.mk t0 0 2 2),vi (o -1)] M λan M1=>eI [x.size,m.size] M M1/\∃au:O,an=O.v au/\
    aN cg 313 [vi op,vi 0,O.v au] M1 λan M2=>eI [x.size,m.size] M1 M2/\∃r0 r1:Int,∃r2:O,an=.agg #[vi r0,vi r1,O.v r2]/\XP e c g m (P+24+3*Cg (o -1)) (WX f h.length v.length) (.agg #[vi r0,vi r1,O.v r2]) (ah M2 x.size 0 [.i r0,.i r1,.s r2]):=λL ae s op ag=>
    zL V ih (af (oh ae.size)) R L V (T.le (fh (F4.trans ae))) V V s aL (by simp[q.gp.ty]) (u.fz ae) (F4.trans ae) q.rd V (λal _ N=>.fg (by simp at ag;omega) (λs=>by simp at ag;omega) (by simp at ag;omega) (λs=>by simp at ag;omega) N) V
   rw[ak]
   refine⟨?_,?_⟩
   .intro t
    have k:J I t:=J.push _ _
    have ai:ap (bH [c] t) (.mk I.size 0 4 4) [1,2,3,4]:=ap.lit aA _ bF rfl rfl aL
    clear_value t
    have F:=D.ext k
    have w:=u.fz (k.fz [])
    have z5:=k.size
    refine⟨u.cp (Fz.az _ _) (k.fz _) aL _,u.cp (Fz.az _ _) (k.fz _) aL _,?_,?_⟩
    .refine(kE F.rd V ai aL).mono λ_ B⟨y,j,hk,r6,z⟩=>⟨w.dv z,y,j,w.cp (Fz.az _ _) z aL _,w.cp (Fz.az _ _) z aL _,?_⟩
     intro C
     have x7:J B C:=J.push _ _
     have am:ap (bH [c] C) (.mk B.size 0 2 2) [0,0]:=ap.lit aA _ (by simp;exact r6.lt) rfl rfl aL
     clear_value C
     have A:=w.fz z
     exact⟨A.cp (Fz.az _ _) (x7.fz _) aL _,A.cp (Fz.az _ _) (x7.fz _) aL _,iK (ay:=C) (Y:=0) ((F.to z r6).ext x7) (((k.fz _).trans z).then x7) am y hk⟩
    .intro B
     have z:J t B:=J.push _ _
     have am:ap (bH [c] B) (.mk t.size 0 2 2) [0,0]:=ap.lit aA _ bF rfl rfl aL
     clear_value B
     have A:=w.fz (z.fz [])
     refine⟨w.cp (Fz.az _ _) (z.fz _) aL _,w.cp (Fz.az _ _) (z.fz _) aL _,?_⟩
     refine(kE (F.ext z).rd V (ai.le (fh (z.fz _))) aL).mono λ_ C⟨y,j,hk,r7,r⟩=>⟨A.dv r,y,j,A.cp (Fz.az _ _) r aL _,A.cp (Fz.az _ _) r aL _,iK (ay:=C) (Y:=0) ((F.ext z).to r r7) (((k.trans z).fz _).trans r) (am.le (fh r)) y hk⟩
   .intro t
    have k:J I t:=J.push _ _
    have ai:ap (bH [c] t) (.mk I.size 0 2 2) [0,0]:=ap.lit aA _ bF rfl rfl aL
    clear_value t
    have F:=D.ext k
    have w:=u.fz (k.fz [])
    have z5:=k.size
    refine⟨u.cp (Fz.az _ _) (k.fz _) aL _,u.cp (Fz.az _ _) (k.fz _) aL _,?_⟩
    intro B
    have z:J t B:=J.push _ _
    have am:ap (bH [c] B) (.mk t.size 0 4 4) [1,2,3,4]:=ap.lit aA _ bF rfl rfl aL
    clear_value B
    have A:=w.fz (z.fz [])
    refine⟨w.cp (Fz.az _ _) (z.fz _) aL _,w.cp (Fz.az _ _) (z.fz _) aL _,?_⟩
    refine(kE (F.ext z).rd V am aL).mono λ_ C⟨y,j,hk,r7,r⟩=>⟨A.dv r,y,j,A.cp (Fz.az _ _) r aL _,A.cp (Fz.az _ _) r aL _,iK (ay:=C) (Y:=0) ((F.ext z).to r r7) (((k.trans z).fz _).trans r) ((ai.le (fh (z.fz _))).le (fh r)) y hk⟩
end
end
section
variable{c:Int}
def Xw{l:List bz}{q:List dy}(hb:0<=c/\c<=100)(ih:∀d,0<=d->d<=c -1->KP l q d):KP l q c:=by
 intro r e P G R U ae v w A hS z j hP K aI I;apply Mu (e,0);simp -zeta only[aC,aB];intro h aa;let⟨x2,hl⟩:=dD (a:=h) (c:=aa) rfl rfl;have s1:h.size=v.size+1:=by simp[h]
 clear_value aa;have hr:=j.rd.lt;have z2:=x2.size;have L2:Lw e [h.size,v.size] aa:=λc hb=>⟨hl c hb,by simp at hb;omega⟩;have H:∀{d:E},aa.size<=d.size->∀f∈h.size::r,f<d.size:=λy f he=>by have:=bO hS x2.size (hl h.size aL) f he;omega
 have c2:=j.ext x2;have am:=j.types;have oG:=j.gp.oG;have iZ:=j.gp.iZ;have aF:=QS c;have au:∀{al:Nat}{d:E},GC e G al R U l q d->Fz [e] aa d->al+22<=P+Cg c->aN cg 316 [vp e 0,.agg #[O.v R,O.v U],O.v ae,vi A] d λad M2=>eI [h.size,v.size] d M2/\∃W X:Int,∃Y:O,ad=.agg #[vi W,vi X,O.v Y]/\XP r e G v (P+Cg c) (λf=>WX l q.length w.length f/\(c<=2->f.n<=4)) (.agg #[vi W,vi X,O.v Y]) (ah M2 h.size 0 [.i W,.i X,.s Y]):=λcM g hq=>
  XP.ret (rH (f:=h.size::r) (H g.size) (by simp[z]) cM V (K.le (fh ((x2.fz _).trans g))) V I) (L2.fz g) ((x2.fz _).trans g) j.rd V (λf he=>⟨he.1,λ_=>he.2⟩) hq
 refine⟨λ_=>au c2 (Fz.az _ _) V,λh3=>?_⟩;simp only[bM]at h3;have aG:=RL (f:=c -1) (c:=c) V V;have aH:=RL (f:=c -2) (c:=c -1) V V;have aE:=QS (c -2);have an:cU (c -1)=c -1:=aP V V;have hQ:∀f,WX l q.length w.length f->WX l q.length w.length f/\(c<=2->f.n<=4):=λf y=>⟨y,λy=>V⟩;refine(cq c2.rd V 12).mono λ_ m3⟨ab,f,k0,k1,r3,f3⟩=>⟨L2.dv f3,ab,f,?_⟩;have u:=c2.to f3 r3;have N:=L2.fz f3;have t:=(x2.fz [e]).trans f3;have z3:=f3.size;have ay:=H z3;have av:∀{d:E},J m3 d->aN cg 331 [vp e 0,.agg #[O.v R,O.v U],O.v ae,vi A,vi c] d λad M2=>eI [h.size,v.size] d M2/\∃W X:Int,∃Y:O,ad=.agg #[vi W,vi X,O.v Y]/\XP r e G v (P+Cg c) (λf=>WX l q.length w.length f/\(c<=2->f.n<=4)) (.agg #[vi W,vi X,O.v Y]) (ah M2 h.size 0 [.i W,.i X,.s Y]):=λC=>
  XP.ret (Ke (e:=h.size::r) ⟨V,V⟩ ih (H (oh C.size)) (by simp[z]) (u.ext C) V (K.le (fh (t.then C))) V I) (N.fz (C.fz [])) (t.then C) j.rd V hQ V
 refine⟨λ_=>au u f3 V,λ_=>⟨λ_=>?_,λ_=>⟨λ_=>?_,λ_=>⟨λ_=>XP.ret (Kd (j:=h.size::r) ⟨V,V⟩ ih ay (by simp[z]) u V (K.le (fh t)) V I) N t j.rd V hQ V,λ_=>⟨λ_=>?_,λ_=>av (J.az _)⟩⟩⟩⟩⟩
 .refine(Mi r3 V u.hd am u.hp V (K.le (fh t))).mono λ_ k⟨B,f,hu,r4,f4⟩=>⟨N.dv f4,B,f,bh,bh,?_⟩;have Q:=u.to f4 r4;have p:=N.fz f4;have F4:=t.trans f4;have z4:=f4.size;have az:Ty l B:=by have:=pC l j.gp.ds;unfold Ty;omega
  let⟨d0,d1⟩:=Ov (f:=c) (d:=2) V V;have d2:Int.tdiv c 2<=c -1:=by rw[p7 V];omega
  have d3:Int.tdiv c 2+Int.tdiv c 2<=c:=by rw[p7 V];omega
  rw[aP (b:=Int.tdiv c 2) V V];generalize Int.tdiv c 2=h2 at*;have hm:=uv d2;have D:∀{d M':E},Fz [e] k d->Fz [e] d M'->af M' v.size 0=af d v.size 0:=λg f'=>p.cp g f' aL _;have F:∀{d M':E},Fz [e] k d->Fz [e] d M'->af M' v.size 1=af d v.size 1:=λg f'=>p.cp g f' aL _;have ag:=λ(d:E)(cM:GC e G (P+2) R U l q d)(g:Fz [e] k d)=>ih h2 d0 d2 (h.size::r) e (P+2) G R U ae d w B (H (oh g.size)) (by simp[z]) cM V (K.le (fh (F4.trans g))) V az;have ai:=λ(d:E)(ac:O)(cM:GC e G (P+2+Cg h2) R U l q d)(g:Fz [e] k d)(hw:IR e d ac (w++[B]))=>ih h2 d0 d2 (h.size::r) e (P+2+Cg h2) G R U ac d (w++[B]) A (H (oh g.size)) (by simp[z]) cM V hw bF I;have aj:=λ(d:E)(ac:O)(g:Fz [e] k d)(hR:e<d.size)(y:IR e d ac [B])=>eQ (S:=[e]) (by simp;exact hR) (K.le (fh (F4.trans g))) y bF;have ak:=λ(M0 d:E)(Z e2:Ex)(t1 t2:O)(g:Fz [e] k d)(hR:Rd e G (P+2+Cg h2+Cg h2) d)(h1:fH (bH (h.size::r) d) t1 Z.bC)(ax:fH (bH (h.size::r) d) t2 e2.bC)(w1:WX l q.length w.length Z)(w2:WX l q.length (w++[B]).length e2)=>
   have C:=J.push d (.cells (bu [.i Z.op,.i Z.bP,.s t1,.i e2.op,.i e2.bP,.s t2]) bG)
   have ao:=H (d:=d) (oh g.size)
   XP.ret (S:=r) (Q':=λf=>WX l q.length w.length f/\(c<=2->f.n<=4)) (nh (hR.ext C) ((Ln ao 0 [(Z,t1),(e2,t2)] aL (by simp;exact⟨h1,ax⟩) rfl rfl).done Cc.mono ao bh aL) 13 0) ((p.fz g).fz (C.fz [])) ((F4.trans g).then C) j.rd V (λf he=>he▸hQ _ (.lt w1 (by simpa using w2))) (i:=P+Cg c) V
  refine⟨?_,?_⟩
  .refine XP.then (ag k Q (Fz.az _ _)) p λs5 T L h5 q5 r5 m=>⟨_,_,_,rfl,D (Fz.az _ _) m,F (Fz.az _ _) m,?_⟩;intro m6;have s:J L m6:=J.push _ _;have aD:ap (bH [e] m6) (.mk L.size 0 1 1) [B]:=ap.lit aA _ (by simp;exact r5.lt) rfl rfl aL;clear_value m6;have o:=m.then s;refine⟨D m (s.fz _),F m (s.fz _),D m (s.fz _),F m (s.fz _),?_⟩;refine(aj m6 _ o (r5.ext s).lt aD).mono λ_ m7⟨s7,l7,f,g7,q7,i⟩=>⟨(p.fz o).dv (i.fz _),s7,f,D o (i.fz _),F o (i.fz _),?_⟩;subst q7;refine XP.then (ai m7 s7 (((Q.to m r5).ext s).ext i) (o.then i) (GI.done g7 (by simp;exact(r5.ext s).lt) bF)) ((p.fz o).fz (i.fz [])) λs8 e8 m8 h8 q8 r8 f8=>⟨_,_,_,rfl,?_⟩;exact ak m8 m8 T e8 s5 s8 ((o.then i).trans f8) r8 (fH.le (((s.trans i).fz [e]).trans f8|>.dg (by simp[z])) h5) h8 q5.1 q8.1
  .intro L;have s:J k L:=J.push _ _;have aD:ap (bH [e] L) (.mk k.size 0 1 1) [B]:=ap.lit aA _ (by simp;exact r4.lt) rfl rfl aL;clear_value L;refine⟨D (Fz.az _ _) (s.fz _),F (Fz.az _ _) (s.fz _),D (Fz.az _ _) (s.fz _),F (Fz.az _ _) (s.fz _),?_⟩;refine XP.then (ag L (Q.ext s) (s.fz _)) (p.fz (s.fz [])) λs6 e6 m6 h6 q6 r6 o=>⟨_,_,_,rfl,D (s.fz _) o,F (s.fz _) o,?_⟩;have T:=(s.fz [e]).trans o;refine(aj m6 _ T r6.lt (aD.le (fh o))).mono λ_ m7⟨s7,l7,f,g7,q7,i⟩=>⟨(p.fz T).dv (i.fz _),s7,f,D T (i.fz _),F T (i.fz _),?_⟩;subst q7;refine XP.then (ai m7 s7 (((Q.ext s).to o r6).ext i) (T.then i) (GI.done g7 (by simp;exact r6.lt) bF)) ((p.fz T).fz (i.fz [])) λs8 e8 m8 h8 q8 r8 f8=>⟨_,_,_,rfl,?_⟩;exact ak m8 m8 e6 e8 s6 s8 ((T.then i).trans f8) r8 (fH.le ((i.fz [e]).trans f8|>.dg (by simp[z])) h6) h8 q6.1 q8.1
 .intro k;have i:J m3 k:=J.push _ _;have s:ap (bH [e] k) (.mk m3.size 0 3 3) [0,A,A]:=ap.lit aA _ (by simp;exact r3.lt) rfl rfl aL;clear_value k;rw[an];exact zL V ih (H (oh i.size)) z (u.ext i) V (K.le (fh (t.then i))) V V s aL (by simp;exact⟨j.gp.ty bh bh,I⟩) (N.fz (i.fz [])) (t.then i) j.rd V (λo hl hw=>hQ _ (.fg bh (λ_=>by simpa using hl) bh (λy=>V) hw)) V
 .refine(J9 (f:=[e]) (by simp;exact r3.lt) (u.hd.le (bA _ _)) am (pA.le (bA _ _) u.hp) V iZ A).mono λ_ k⟨B,o,f,gl,hq,i⟩=>⟨N.dv (i.fz _),B,f,λy=>?_,λ_=>av i⟩;simp only[ar]at y;have ac:IR e k B o:=GI.done gl (by simp;exact r3.lt) V;have ao:=ac.len;have Q:=u.ext i;have p:=N.fz (i.fz []);refine(cq Q.rd V B.len).mono λ_ L⟨ab,f,k0,k1,r5,m⟩=>⟨p.dv m,ab,f,k0,V,?_⟩;let⟨aj,hy⟩:=cG o ab.toNat;obtain⟨fi,ai,rfl,F⟩:=hq.1 aj (aq hy);have s:=Q.to m r5;let⟨ps,ag,e0,Z⟩:=s.hp.aF F;have ak:=aw F;have ax:=s.hp.len;have T:=wU _ (j.gp.dz ai (aq F));have D:=(i.fz [e]).trans m;refine⟨_,(eT.1 ((ac.le (fh m)).aF hy)).2,V,V,ps,(eT.1 e0).2,?_⟩;rw[an];exact zL V ih (H (oh D.size)) z s V (K.le (fh (t.trans D))) V V ag T.1 (λA I=>j.gp.ty (T.2.1 A I).1 (T.2.1 A I).2) (p.fz m) (t.trans D) j.rd V (λo _ hw=>hQ _ (.fg bh (λy=>V) bh (λ_=>⟨V,V⟩) hw)) V
def Rf{b:List bz}{d:List dy}:∀(n:Nat)(c:Int),c.toNat=n->0<=c/\c<=100->KP b d c:=λn=>by
 induction n using Nat.strongRecOn with
 |ind n f=>exactλc i h=>Xw h λa e g=>f a.toNat V a rfl ⟨e,V⟩
section
variable{S:List Nat}{e P:Nat}{h d p j:O}{g:List bz}{i:List dy}{f:E}{v:List Int}
def Yo(g:List bz)(b a:Nat)(e:Ex):Prop:=WX g b a e/\e.n<=30
def Ms(hS:∀y∈S,y<f.size)(ab:e∈S)(y:GC e h P d p g i f)(hP:P+20*Cg 18<=10^16)(hv:IR e f j v)(ak:v.length<=100){T:Int}(ht:Ty g T)(s:0<=c/\c<=18):
 aN cg 285 [vp e 0,.agg #[O.v d,O.v p],O.v j,vi T,vi c] f (XP S e h f (P+20*Cg 18) (Yo g i.length v.length)):=by
 apply EO (e,0)
 simp -zeta only[aC,aB]
 intro t B
 let⟨w,hl⟩:=dD (a:=t) (c:=B) rfl rfl
 have s1:t.size=f.size+1:=by simp[t]
 clear_value B
 have hr:=y.rd.lt
 have z2:=w.size
 have N:Lw e [t.size,f.size] B:=λc s=>⟨hl c s,by simp at s;omega⟩
 have aa:∀{M:E},B.size<=M.size->∀k∈t.size::S,k<M.size:=λR k Z=>by have:=bO hS w.size (hl t.size aL) k Z;omega
 have W:=y.ext w
 have hm:=uv s.2
 refine XP.then (Rf _ c rfl ⟨s.1,V⟩ (t.size::S) e P h d p j B v T (aa (ad _)) (by simp[ab]) W V (hv.le (fh (w.fz _))) V ht) N λs3 F l h3 q3 r3 f3=>⟨_,_,_,rfl,?_⟩
 intro m4 C
 have U:J l C:=(J.push l _).ah (ad _) _ _
 have B5:cF C l.size bG [.i F.op,.i F.bP,.s s3]:=cF.ah (m:=m4) (o:=0) (r:=[.i F.op,.i F.bP,.s s3]) (cF.push l _ _)
 have s5:C.size=l.size+1:=by simp[C,m4,ax]
 clear_value C
 have z3:=f3.size
 have ae:∀k∈l.size::t.size::S,k<C.size:=bO (aa z3) U.size V
 refine⟨λq M=>∃(I:O)(k:Ex)(u:Nat),0<=q/\q<=18/\q.toNat<=u/\u<=18/\cF M l.size bG [.i k.op,.i k.bP,.s I]/\fH (bH (l.size::t.size::S) M) I k.bC/\WX g i.length v.length k/\(q<=2->k.n<=4)/\Rd e h (P+(19 -u)*Cg 18) M/\Fz [e] B M/\C.size<=M.size,λq _=>q.toNat,⟨s3,F,18,s.1,s.2,V,ad _,B5,fH.le (U.bH λc s=>(List.mem_cons.1 s).elim (λR=>Or.inr V) Or.inl) h3,q3.1,q3.2,(r3.ext U).mono V,(f3.then U),ad _⟩,?_⟩
 rintro q M ⟨I,k,u,b0,b1,bk,al,K,hs,hw,hn,rM,X,zM⟩
 have FM:=(w.fz [e]).trans X
 refine⟨_,K.cp 0,_,K.cp 1,_,K.cp 2,?_⟩
 refine(Br (fH.le (bA _ _) hs)).mono λ_ H⟨n6,e6,q6,D⟩=>⟨(N.fz X).dv (D.fz _),n6,e6,?_⟩
 have L:=K.ext D
 have r6:=rM.ext D
 have z:=X.then D
 have z6:=D.size
 have kc:(19 -u)*Cg 18+Cg 18<=20*Cg 18:=by rw[<-qb];exact dh _ V
 have aS:k.n<=30->∃v0:Int,af H l.size 0=some (vi v0)/\∃v1:Int,af H l.size 1=some (vi v1)/\∃v2:O,af H l.size 2=some (O.v v2)/\XP S e h f (P+20*Cg 18) (Yo g i.length v.length) (.agg #[vi v0,vi v1,O.v v2]) (ah H t.size 0 [.i v0,.i v1,.s v2]):=λac=>
  ⟨_,L.cp 0,_,L.cp 1,_,L.cp 2,I,k,rfl,fH.le (cB aL λy Y=>ai _ (ai _ Y)) (fH.le (D.dg _) hs),⟨hw,ac⟩,y.rd.ah (r6.mono V) ((w.fz _).trans z) V 0 _,((w.fz _).trans z).ah (Or.inr V) _ _⟩
 refine⟨λR=>⟨λA=>?_,λA=>aS (by simp only[bM]at A;have:=hn V;omega)⟩,λR=>aS (by simp only[bM]at R;omega)⟩
 simp only[ar]at A
 let⟨d0,d1⟩:=Ov (f:=q) (d:=2) b0 V
 have d2:Int.tdiv q 2<=q -1:=by rw[p7 b0];omega
 rw[aP (b:=Int.tdiv q 2) V V]
 generalize Int.tdiv q 2=A at*
 have ag:=uv (f:=A) (c:=18) V
 refine⟨bh,?_⟩
 refine XP.then (Rf _ A rfl ⟨d0,V⟩ (l.size::t.size::S) e _ h d p j H v T (λk Z=>oh (ae k Z)) (by simp[ab]) (W.to z r6) V (hv.le (fh ((w.fz _).trans z))) V ht) (N.fz z) λs7 G m7 h7 q7 r7 Q=>⟨_,_,_,rfl,?_⟩
 have aj:e≠l.size:=V
 have B7:cF m7 l.size bG [.i k.op,.i k.bP,.s I]:=L.congr (Q.same _ V bF)
 refine⟨B7.fL aL,?_⟩
 intro m8
 have B8:cF m8 l.size bG [.i G.op,.i G.bP,.s s7]:=cF.ah (m:=m7) (o:=0) (r:=[.i G.op,.i G.bP,.s s7]) B7
 have f8:Fz [e] B m8:=(z.trans Q).ah (Or.inr V) _ _
 have s8:m8.size=m7.size:=ax _ _ _ _
 have z7:=Q.size
 refine⟨λc s=>be _ _ _ _ (oh ((N c s).1)),⟨s7,G,u -1,d0,V,V,V,B8,fH.le (cB aL λy Y=>Y) h7,q7.1,q7.2,?_,f8,V⟩,by show A.toNat<q.toNat;omega⟩
 refine W.rd.ah (r7.mono ?_) (z.trans Q) V 0 _
 rw[show 19 -(u -1)=19 -u+1 by omega,qb];omega
end
end
section
structure HX(S:List Nat)(ds:List bz)(nf a:Nat)(M:E)(s:O)(e:Ex):Prop where
 sl:fH (bH S M) s e.bC
 wx:WX ds nf a e
structure Rs(rb:Nat)(bs:O)(m:E)(Q:Nat)(M:E):Prop where
 f:Fz [rb] m M
 r:Rd rb bs Q M
section
variable{S L:List Nat}{f Q q u k a i:Nat}{j d p s w:O}{h:List bz}{t:List dy}{n M c:E}{g:Ex}{v:List Int}{K:Int->Int->O->E->Prop}
def HX.fz(b:HX S h i a M s g)(e:f∈S)(d:Fz [f] M c):HX S h i a c s g:=⟨fH.le (d.dg (by simp[e])) b.sl,b.wx⟩
def HX.ext(b:HX S h i a M s g)(x:J M c):HX S h i a c s g:=⟨fH.le (x.dg _) b.sl,b.wx⟩
def HX.ic(b:HX S h i a M s g)(x:J M c)(f:M.size<=k):HX (k::S) h i a c s g:=⟨fH.le (x.bH λe d=>(List.mem_cons.1 d).elim (λb=>Or.inr V) Or.inl) b.sl,b.wx⟩
def HX.fq(b:HX (k::S) h i a M s g):HX S h i a M s g:=⟨fH.le (iV M λ_=>ai _) b.sl,b.wx⟩
def HX.put(b:HX S h i a M s g)(c:k∈S)(o:Nat)(l:List Ce):HX S h i a (ah M k o l) s g:=⟨fH.le (cB c λ_ b=>b) b.sl,b.wx⟩
def Rs.ext(h:Rs f j n Q M)(x:J M c):Rs f j n Q c:=⟨h.f.then x,h.r.ext x⟩
def Rs.to(h:Rs f j n Q M)(a:Fz [f] M c)(r:Rd f j q c):Rs f j n q c:=⟨h.f.trans a,r⟩
def Rs.put(h:Rs f j n Q M)(b:Rd f j u n)(a:n.size<=k)(o:Nat)(l:List Ce):Rs f j n Q (ah M k o l):=⟨h.f.ah (Or.inr a) _ _,b.ah h.r h.f a o l⟩
def lw(h:f<n.size)(a:∀b∈L,n.size<=b/\b<M.size):Lw f L M:=λb c=>⟨(a b c).2,oh ((a b c).1)⟩
def kg(a:Fz [f] M c)(h:f<n.size)(b:n.size<=k/\k<M.size)(o:Nat):af c k o=af M k o:=aI (a.same k b.2 bF) o
def kK{d c:E}{z a:List Ce}{t:Nat}(f:d=M.push (.cells (bu z) t))(g:c=ah d M.size 0 a)(i:a.length=z.length):J M c/\cF c M.size t a/\c.size=M.size+1:=by
 subst f g;refine⟨(J.push M _).ah (ad _) _ _,?_,by rw[ax];simp⟩;have h:=cF.ah (m:=M.push (.cells (bu z) t)) (b:=M.size) (e:=t) (l:=z) (o:=0) (r:=a) (cF.push _ _ _);rwa[show je z 0 a=a from by
  have h:=Cq [] a z V;rw[Jx V]at h;simpa using h]at h
def XP.kk{e:Nat}{b:List Value}{T:Ex->Prop}(n:aN cg e b M (XP S f j M Q T))(o:Lw f L M)(p:∀s g c,fH (bH S c) s g.bC->T g->Rd f j Q c->Fz [f] M c->K g.op g.bP s c):aN cg e b M λv c=>eI L M c/\∃h i:Int,∃k:O,v=.agg #[vi h,vi i,O.v k]/\K h i k c:=
 XP.then n o λs g c a l m d=>⟨_,_,_,rfl,p s g c a l m d⟩
def wR(S:List Nat)(h:List bz)(i:Nat)(m:Lw f L M){n:Int}(p:0<=n/\n<(a:Int))(o:∀s c,HX S h i a c s (.mk 12 n [])->J M c->K 12 n s c):aN cg 315 [vi n] M λv c=>eI L M c/\∃b d:Int,∃e:O,v=.agg #[vi b,vi d,O.v e]/\K b d e c:=
 (mu S n M).mono λv c⟨s,g,j,k,l,x⟩=>⟨m.dv (x.fz _),by subst l;exact⟨_,_,_,j,o s c ⟨k,.UF p⟩ x⟩⟩
def JH(S:List Nat)(h:List bz)(i a:Nat)(m:Lw f L M)(n:Int)(o:∀s c,HX S h i a c s (.mk 0 n [])->J M c->K 0 n s c):aN cg 280 [vi n] M λv c=>eI L M c/\∃b d:Int,∃e:O,v=.agg #[vi b,vi d,O.v e]/\K b d e c:=
 (Bf S n M).mono λv c⟨s,g,j,k,l,x⟩=>⟨m.dv (x.fz _),by subst l;exact⟨_,_,_,j,o s c ⟨k,.int n⟩ x⟩⟩
def oV(l:List (Ex×O))(d:l.length<=1000)(b:∀c∈S,c<M.size)(h:∀x∈l,fH (bH S M) x.2 x.1.bC){a:List Ce}{n:Nat}(c:a=l.flatMap λx=>[.i x.1.op,.i x.1.bP,.s x.2])(e:n=l.length):fH (bH S (M.push (.cells (bu a) bG))) (.mk M.size 0 n n) (l.map (·.1)):=
 (Ln b 0 l d h c e).done Cc.mono b bh bF
def jD{bC:List Ex}(k:fH (bH S M) s bC){b bP:Int}(q:WX h i a (.mk b bP bC))(o:Lw f L M)(p:∀s c,HX S h i a c s (.mk b bP bC)->J M c->K b bP s c):
 aN cg 313 [vi b,vi bP,O.v s] M λv c=>eI L M c/\∃d e:Int,∃j:O,v=.agg #[vi d,vi e,O.v j]/\K d e j c:=
 (JV k b bP).mono λv c⟨s,g,l,m,n,x⟩=>⟨o.dv (x.fz _),by subst n;exact⟨_,_,_,l,p s c ⟨m,q⟩ x⟩⟩
def Gc(x:∀a∈S,a<M.size)(z:f∈S)(a:GC f j Q d p h t M)(C:Q+Cg 18<=10^16)(B:IR f M w v)(E:v.length<=100){e b:Int}(A:Ty h e)(i:0<=b/\b<=18)(u:Lw f L M)(y:∀g s c,HX S h t.length v.length c s g->Rd f j (Q+Cg 18) c->Fz [f] M c->K g.op g.bP s c):
 aN cg 312 [vp f 0,.agg #[O.v d,O.v p],O.v w,vi e,vi b] M λv c=>eI L M c/\∃k l:Int,∃m:O,v=.agg #[vi k,vi l,O.v m]/\K k l m c:=
 have D:=uv i.2
 XP.kk (Rf _ b rfl ⟨i.1,V⟩ S f Q j d p w M v e x z a V B V A) u λs g c n o q r=>y g s c ⟨n,o.1⟩ (q.mono V) r
end
end
section
def WX.Pz{b:List bz}{c a:Nat}{n:Int}{bC:List Ex}(h:∀e∈bC,WX b c a e):WX b c a (.mk 6 n bC):=.fg bh (λh=>V) bh (λh=>V) h
section
variable{c:List Nat}{e P:Nat}{g d p:O}{f:List bz}{h:List dy}{b:E}
def My(f:List bz)(z:Nat)(hS:∀Z∈c,Z<b.size)(aa:e∈c)(U:Rd e g P b)(hP:P+100<=10^16)(aF:Int):aN cg 314 [vp e 0,vi aF] b (XP c e g b (P+100) (WX f z 0)):=by
 apply EZ (e,0);simp -zeta only[aC,aB];intro aA ac;have x2:J b ac:=(J.push b _).trans (J.push aA _);have s2:ac.size=b.size+2:=by simp[ac,aA]
 clear_value ac;have L:=U.lt;have ap:∀{h:E},ac.size<=h.size->∀Z∈b.size::c,Z<h.size:=λv=>bO hS V V;have X:Rs e g b P ac:=⟨x2.fz _,U.ext x2⟩;refine jD (S:=b.size::c) (a:=0) (h:=f) (i:=z) (f:=e) (bC:=[]) (mI _ _ _ _ _ _) (.Pz aL) (lw L bF) λs3 m3 h3 x3=>?_;intro m4 D;let⟨x5,B5,z5⟩:=kK (M:=m3) (d:=m4) (c:=D) rfl rfl rfl;clear_value D;have z3:=x3.size;have r5:=(X.ext x3).ext x5;refine⟨λ_=>?_,λ_=>?_⟩
 .intro m6;have x6:J D m6:=J.push _ _;clear_value m6;have z6:=x6.size;refine jD (S:=b.size::c) (a:=0) (h:=f) (i:=z) (f:=e) (bC:=[]) (mI _ _ _ _ _ _) (.Pz aL) (lw L bF) λQ F h7 x7=>?_;intro m8 y;let⟨x9,B9,z9⟩:=kK (M:=F) (d:=m8) (c:=y) rfl rfl rfl;clear_value y;have z7:=x7.size;have r9:=((r5.ext x6).ext x7).ext x9;have h9:=h7.ext x9;have G:∀{h C:E},y.size<=h.size->Fz [e] h C->∀i,af C F.size i=af h F.size i:=λv ai i=>kg ai L ⟨V,V⟩ i;have LW:∀{h:E},y.size<=h.size->Lw e [F.size,m3.size,b.size] h:=λv=>lw L bF;have LK:∀{h:E}{s:Nat},y.size<=s->s<h.size->Lw e [s,F.size,m3.size,b.size] h:=λv T=>lw L bF;have hw:∀n:Int,WX f z 0 (.mk 6 3 [.mk 6 2 [],.mk 0 n [],.mk 6 2 []]):=λn=>.Pz (by simp;exact⟨.Pz aL,.int n,.Pz aL⟩);refine⟨λlM h=>∃H l,lM.2=0/\b.size<=lM.1/\cF h lM.1 bG [.i l.op,.i l.bP,.s H]/\HX (b.size::c) f z 0 h H l/\HX (b.size::c) f z 0 h Q (.mk 6 2 [])/\Rs e g b (P+1) h/\y.size<=h.size,?_,?_⟩
  .have iK:∀{s t0:Nat}{h:E}{n:Int},cF h s bG [.i 0,.i 0,.s .nil]->y.size<=s->fH (bH (s::b.size::c) h) (.mk t0 0 3 3) [.mk 6 2 [],.mk 0 n [],.mk 6 2 []]->Rs e g b (P+1) h->HX (s::b.size::c) f z 0 h Q (.mk 6 2 [])->
    aN cg 313 [vi 6,vi 3,O.v (.mk t0 0 3 3)] h λaG C=>eI [s,F.size,m3.size,b.size] h C/\∃r0 r1:Int,∃X:O,aG=.agg #[vi r0,vi r1,O.v X]/\∃H l,((s,0):Nat×Nat).2=0/\b.size<=((s,0):Nat×Nat).1/\cF (ah C s 0 [.i r0,.i r1,.s X]) ((s,0):Nat×Nat).1 bG [.i l.op,.i l.bP,.s H]/\HX (b.size::c) f z 0 (ah C s 0 [.i r0,.i r1,.s X]) H l/\HX (b.size::c) f z 0 (ah C s 0 [.i r0,.i r1,.s X]) Q (.mk 6 2 [])/\Rs e g b (P+1) (ah C s 0 [.i r0,.i r1,.s X])/\y.size<=(ah C s 0 [.i r0,.i r1,.s X]).size:=λB hk W N v=>
    jD W (hw _) (LK hk B.lt) λs' C T au=>⟨s',.mk 6 3 [.mk 6 2 [],.mk 0 _ [],.mk 6 2 []],rfl,by show b.size<=_;omega,cF.ah (m:=C) (o:=0) (r:=[.i 6,.i 3,.s s']) (B.ext au),(T.put aL _ _).fq,((v.ext au).put aL _ _).fq,(N.ext au).put U V _ _,by rw[ax];have:=B.lt;have:=au.size;omega⟩
   have zb:∀h:E,J h (h.push (.cells (bu [.i 0,.i 0,.s .nil]) bG))/\cF (h.push (.cells (bu [.i 0,.i 0,.s .nil]) bG)) h.size bG [.i 0,.i 0,.s .nil]:=λh=>⟨J.push _ _,cF.push _ _ _⟩;have aq:∀{ag:List Nat}{h:E}{n:Int}{si:O},(∀Z∈ag,Z<h.size)->HX ag f z 0 h Q (.mk 6 2 [])->HX ag f z 0 h si (.mk 0 n [])->fH (bH ag (h.push (.cells (bu [.i 6,.i 2,.s Q,.i 0,.i n,.s si,.i 6,.i 2,.s Q]) bG))) (.mk h.size 0 3 3) [.mk 6 2 [],.mk 0 n [],.mk 6 2 []]:=λhS v T=>
    oV [(.mk 6 2 [],Q),(.mk 0 _ [],_),(.mk 6 2 [],Q)] aL hS (by simp;exact⟨v.sl,T.sl,v.sl⟩) rfl rfl
   have ay:∀{h:E}{s:Nat},y.size<=s->s<h.size->∀Z∈s::b.size::c,Z<h.size:=λv T=>bO (ap (h:=y) V) V T;refine⟨(cq r9.r V 9).mono λ_ w⟨n,l,_,_,an,u⟩=>⟨(LW (ad _)).dv u,n,l,G (ad _) u _,G (ad _) u _,G (ad _) u _,G (ad _) u _,G (ad _) u _,G (ad _) u _,?_,?_⟩,?_⟩
   .have I:=r9.to u an;have vH:=u.size;have K:=h9.fz (by simp[aa]) u;refine JH (b.size::c) f z 0 (LW vH) n λaD p aj q=>?_;have av:=q.size;have d:=λi=>G vH (q.fz _) i;refine⟨d _,d _,d _,d _,d _,d _,?_,?_⟩
    .intro k;have j:J p k:=J.push _ _;have W:fH (bH (b.size::c) k) (.mk p.size 0 3 3) [.mk 6 2 [],.mk 0 n [],.mk 6 2 []]:=aq (ag:=b.size::c) (ap V) (K.ext q) aj;have aH:=j.size;refine⟨?_,?_⟩
     .refine jD (M:=k) (f:=e) W (hw n) (LW V) λaz A ao t=>?_;intro R;have ak:J A R:=J.push _ _;have al:=t.size;have d:=λi=>G (h:=A) (C:=R) V (ak.fz _) i;refine⟨d _,d _,d _,d _,d _,d _,?_⟩;intro ae;let⟨Y,ab,am⟩:=kK (M:=A) (d:=R) (c:=ae) rfl rfl rfl;exact⟨az,.mk 6 3 [.mk 6 2 [],.mk 0 n [],.mk 6 2 []],rfl,by show b.size<=A.size;omega,ab,ao.ext Y,(((K.ext q).ext j).ext t).ext Y,(((I.ext q).ext j).ext t).ext Y,V⟩
     .intro A;obtain⟨t,R⟩:J k A/\cF A k.size bG [.i 0,.i 0,.s .nil]:=zb k;have d:=λi=>G (h:=k) (C:=A) V (t.fz _) i;exact⟨d _,d _,d _,d _,d _,d _,iK R V (fH.le (t.bH λam hb=>(List.mem_cons.1 hb).elim (λv=>Or.inr V) Or.inl) W) (((I.ext q).ext j).ext t) (((K.ext q).ext j).ic t (ad _))⟩
    .intro k;obtain⟨j,ae⟩:J p k/\cF k p.size bG [.i 0,.i 0,.s .nil]:=zb p;have d:=λi=>G (h:=p) (C:=k) V (j.fz _) i;refine⟨d _,d _,d _,d _,d _,d _,?_⟩;intro A;have t:J k A:=J.push _ _;have R:=(K.ext q).ic j (ad _);exact iK (ae.ext t) V (aq (ay V ae.lt) R (aj.ic j (ad _))) (((I.ext q).ext j).ext t) (R.ext t)
   .have I:=r9.to u an;have vH:=u.size;have K:=h9.fz (by simp[aa]) u;intro p;obtain⟨q,Y⟩:J w p/\cF p w.size bG [.i 0,.i 0,.s .nil]:=zb w;have d:=λi=>G (h:=w) (C:=p) V (q.fz _) i;have av:=q.size;refine⟨d _,d _,d _,d _,d _,d _,?_⟩;refine JH (w.size::b.size::c) f z 0 (LK V Y.lt) n λal k ak j=>?_;have d:=λi=>G (h:=p) (C:=k) V (j.fz _) i;refine⟨d _,d _,d _,d _,d _,d _,?_⟩;intro A;have t:J k A:=J.push _ _;have R:=(K.ic q (ad _)).ext j;exact iK ((Y.ext j).ext t) V (aq (ay V (Y.ext j).lt) R ak) (((I.ext q).ext j).ext t) (R.ext t)
   .intro w;obtain⟨I,aw⟩:J y w/\cF w y.size bG [.i 0,.i 0,.s .nil]:=zb y;have d:=λi=>G (h:=y) (C:=w) V (I.fz _) i;have vH:=I.size;refine⟨d _,d _,d _,d _,d _,d _,?_⟩;refine(cq (r9.ext I).r V 9).mono λ_ p⟨n,l,_,_,aE,ab⟩=>⟨(LK (ad _) aw.lt).dv ab,n,l,?_⟩;have d:=λi=>G (h:=w) (C:=p) V ab i;refine⟨d _,d _,d _,d _,d _,d _,?_⟩;have Y:=aw.congr (ab.same y.size aw.lt bF);have av:=ab.size;refine JH (y.size::b.size::c) f z 0 (LK (ad _) Y.lt) n λal k ak j=>?_;have d:=λi=>G (h:=p) (C:=k) V (j.fz _) i;refine⟨d _,d _,d _,d _,d _,d _,?_⟩;intro A;have t:J k A:=J.push _ _;have R:=((h9.ic I (ad _)).fz (by simp[aa]) ab).ext j;exact iK ((Y.ext j).ext t) (ad _) (aq (ay (ad _) (Y.ext j).lt) R ak) ((((r9.ext I).to ab aE).ext j).ext t) (R.ext t)
  .rintro⟨s,i⟩ h ⟨H,l,ho,hk,B,v,T,N,Y⟩;simp only at ho hk B;subst ho;have bl:=B.lt;refine⟨_,B.cp 0,_,B.cp 1,_,B.cp 2,?_⟩;have L3:∀{C:E},h.size<=C.size->Lw e [F.size,m3.size,b.size] C:=λv=>LW V;refine(cq N.r V 9).mono λ_ w⟨n,en,_,_,an,u⟩=>⟨(L3 (ad _)).dv u,n,en,?_⟩;have vH:=u.size;have gg:∀{R ab:E},h.size<=R.size->Fz [e] R ab->∀i,af ab s i=af R s i:=λv ai i=>kg ai L ⟨hk,V⟩ i;have ga:=λi=>G (h:=h) (C:=w) Y u i;have gb:=λi=>gg (R:=h) (ab:=w) (ad _) u i;refine⟨?_,?_,?_,?_,?_,?_,?_⟩;iterate 6 first|exact ga _|exact gb _
   refine JH (b.size::c) f z 0 (L3 vH) n λaD p aj q=>?_;have ga:=λi=>G (h:=w) (C:=p) V (q.fz _) i;have gb:=λi=>gg (R:=w) (ab:=p) vH (q.fz _) i;refine⟨?_,?_,?_,?_,?_,?_,?_⟩;iterate 6 first|exact ga _|exact gb _
   intro k;have j:J p k:=J.push _ _;have av:=q.size;have ag:=(v.fz (by simp[aa]) u).ext q;have am:=(T.fz (by simp[aa]) u).ext q;have W:fH (bH (b.size::c) k) (.mk p.size 0 3 3) [l,.mk 0 n [],.mk 6 2 []]:=oV (S:=b.size::c) (M:=p) [(l,H),(.mk 0 n [],aD),(.mk 6 2 [],Q)] aL (ap V) (by simp;exact⟨ag.sl,aj.sl,am.sl⟩) rfl rfl;refine jD (M:=k) (f:=e) W (.Pz (by simp;exact⟨ag.wx,aj.wx,am.wx⟩)) (L3 (C:=k) (oh j.size)) λaz A ao t=>?_;have aq:=(((N.to u an).ext q).ext j).ext t;exact⟨az,_,rfl,(ao.put aL _ _).fq.sl,ao.wx,((aq.put U (ad _) _ _).r).mono V,(aq.put U (ad _) _ _).f⟩
 .intro m6 F;let⟨x7,B7,z7⟩:=kK (M:=D) (d:=m6) (c:=F) rfl rfl rfl;clear_value F;have r7:=r5.ext x7;have C:∀{h:E},F.size<=h.size->Lw e [m3.size,b.size] h:=λv=>lw L bF;refine(cq r7.r V 3).mono λ_ m8⟨n,en,n0,n3,Q,u⟩=>⟨(lw L bF:Lw e [D.size,m3.size,b.size] F).dv u,n,en,?_⟩;rw[aP (b:=1+n) V V];have z8:=u.size;have T:b.size<=D.size:=V;refine⟨λs h=>0<=s/\s<=3/\∃H l,cF h D.size bG [.i l.op,.i l.bP,.s H]/\HX (D.size::b.size::c) f z 0 h H l/\Rs e g b (P+1+4*(3 -s).toNat) h/\F.size<=h.size,λs _=>s.toNat,⟨V,V,s3,.mk 6 0 [],B7.congr (u.same _ V bF),((h3.ext x5).ic x7 (ad _)).fz (by simp[aa]) u,⟨(r7.to u Q).f,Q.mono V⟩,z8⟩,?_⟩;rintro s h ⟨i0,i3,H,l,B,v,N,Y⟩;refine⟨λhi=>?_,λ_=>⟨_,B.cp 0,_,B.cp 1,_,B.cp 2,H,l,rfl,(v.fq.put aL _ _).fq.sl,v.wx,(N.put U (ad _) _ _).r.mono V,(N.put U (ad _) _ _).f⟩⟩;simp only[ar]at hi;refine⟨_,B.cp 0,_,B.cp 1,_,B.cp 2,?_⟩;have d:∀{R ab:E},F.size<=R.size->Fz [e] R ab->∀i,af ab D.size i=af R D.size i:=λv ai i=>kg ai L ⟨T,V⟩ i;refine(BE N.r V).mono λ_ y⟨A,en,d9,t⟩=>⟨(C Y).dv t,A,en,d Y t _,d Y t _,d Y t _,?_⟩;have z9:=t.size;refine JH (D.size::b.size::c) f z 0 (C V) A λan w K I=>⟨d V (I.fz _) _,d V (I.fz _) _,d V (I.fz _) _,?_⟩;intro p;have q:J w p:=J.push _ _;have vH:=I.size;have av:=q.size;have ag:=(v.fz (by simp[aa]) t).ext I;have W:fH (bH (D.size::b.size::c) p) (.mk w.size 0 2 2) [.mk 0 A [],l]:=oV (S:=D.size::b.size::c) (M:=w) [(.mk 0 A [],an),(l,H)] aL (bO (ap (h:=w) V) (ad _) V) (by simp;exact⟨K.sl,ag.sl⟩) rfl rfl;refine jD (M:=p) (f:=e) W (.Pz (by simp;exact⟨K.wx,ag.wx⟩)) (C (h:=p) V) λal k ak j=>?_;have ae:cF k D.size bG [.i l.op,.i l.bP,.s H]:=(((B.congr (t.same _ B.lt bF)).ext I).ext q).ext j;have aH:=j.size;rw[aP (b:=s -1) V V];refine⟨ae.fL aL,λam hb=>be _ _ _ _ (by simp at hb;omega),⟨V,V,al,.mk 6 1 [.mk 0 A [],l],cF.ah (m:=k) (o:=0) (r:=[.i 6,.i 1,.s al]) ae,ak.put aL _ _,?_,by rw[ax];omega⟩,by show(s -1).toNat<s.toNat;omega⟩;have aj:=((((N.to t d9).ext I).ext q).ext j).put U T 0 [.i 6,.i 1,.s al];exact⟨aj.f,aj.r.mono V⟩
end
end
section
structure BX(S:List Nat)(ds:List bz)(nf a k:Nat)(M:E)(s:O)(e:Ex):Prop where
 b:cF M k bG [.i e.op,.i e.bP,.s s]
 h:HX (k::S) ds nf a M s e
section
variable{S:List Nat}{d Q i j k a c:Nat}{h s:O}{b:List bz}{g M f:E}{e:Ex}
def BX.new{f d:E}(h:HX S b c a M s e)(g:f=M.push (.cells (bu [.i 0,.i 0,.s .nil]) bG))(i:d=ah f M.size 0 [.i e.op,.i e.bP,.s s]):J M d/\BX S b c a M.size d s e/\d.size=M.size+1:=
 let⟨x,B,z⟩:=kK g i rfl;⟨x,⟨B,h.ic x (ad _)⟩,z⟩
def BX.fz(h:BX S b c a k M s e)(j:d∈S)(i:k≠d)(g:Fz [d] M f):BX S b c a k f s e:=⟨h.b.congr (g.same k h.b.lt (by simpa using i)),h.h.fz (by simp[j]) g⟩
def BX.ext(h:BX S b c a k M s e)(x:J M f):BX S b c a k f s e:=⟨h.b.ext x,h.h.ext x⟩
def BX.set(h:BX S b c a k M s e){f:O}{d:Ex}(g:HX (k::S) b c a M f d):BX S b c a k (ah M k 0 [.i d.op,.i d.bP,.s f]) f d:=⟨cF.ah (m:=M) (o:=0) (r:=[.i d.op,.i d.bP,.s f]) h.b,g.put aL _ _⟩
def HX.iK(f:HX (k::S) b c a M s e)(r:Rs d h g Q M)(l:Rd d h j g)(m:g.size<=k)(n:Q<=i):XP S d h g i (WX b c a) (.agg #[vi e.op,vi e.bP,O.v s]) (ah M k 0 [.i e.op,.i e.bP,.s s]):=
 ⟨s,e,rfl,(f.put aL _ _).fq.sl,f.wx,(r.put l m _ _).r.mono n,(r.put l m _ _).f⟩
end
section
variable{b:List Nat}{c P:Nat}{g d p:O}{f:List bz}{e:List dy}{m:E}
def Kp(hS:∀l∈b,l<m.size)(z:c∈b)(l:GC c g P d p f e m)(hP:P+200+Cg 18<=10^16):aN cg 281 [vp c 0,.agg #[O.v d,O.v p]] m (XP b c g m (P+200+Cg 18) (WX f e.length 0)):=by
 apply Df (c,0);simp -zeta only[aC,aB];intro h q A;let⟨x2,hl⟩:=dD (a:=h) (c:=q) rfl rfl;have s1:h.size=m.size+1:=by simp[h]
 have s2:q.size=m.size+2:=by simp[q,s1]
 have X:J q A:=J.push _ _;have y:=l.rd.lt;have ac:ap (bH [c] A) (.mk q.size 0 3 3) [1,1,3]:=ap.lit aA _ bF rfl rfl aL;clear_value A;clear_value q;have G:∀{i:E},q.size<=i.size->∀l∈h.size::b,l<i.size:=λF=>bO hS V V;have r3:Rs c g m P A:=⟨(x2.trans X).fz _,(l.rd.ext x2).ext X⟩;have z3:=X.size;refine(kE r3.r V ac aL).mono λ_ m4⟨W,u,ht,d4,H⟩=>⟨(lw y bF:Lw c [h.size,m.size] A).dv H,W,u,?_⟩;have r4:=r3.to H d4;have z4:=H.size;intro Q;have x5:J m4 Q:=J.push _ _;have ae:ap (bH [c] Q) (.mk m4.size 0 1 1) [W]:=ap.lit aA _ (by simp;exact d4.lt) rfl rfl aL;clear_value Q;have R:=r4.ext x5;have z5:=x5.size;refine Gc (S:=h.size::b) (G V) (by simp[z]) (l.to R.f R.r) V ae aL (l.gp.ty (t:=0) bh bh) bh (lw y bF) λD s6 v h6 d6 f6=>?_;intro m7 B;let⟨x8,b8,z8⟩:=BX.new (f:=m7) (d:=B) h6 rfl rfl;clear_value B;have z6:=f6.size;have T:=(R.to f6 d6).ext x8;have L:v.size≠c:=V;have Z:∀{i:E},B.size<=i.size->Lw c [v.size,h.size,m.size] i:=λF=>lw y bF;refine⟨λi=>∃U u,BX (h.size::b) f e.length 1 v.size i U u/\Rs c g m (P+2+Cg 18) i/\B.size<=i.size,?_,?_⟩
 .refine(cq T.r V 3).mono λ_ n⟨Y,en,_,_,x,j⟩=>⟨(Z (ad _)).dv j,Y,en,λ_=>?_,λ_=>⟨s6,D,b8.fz (by simp[z]) L j,⟨(T.to j x).f,x.mono V⟩,j.size⟩⟩;have s:=b8.fz (by simp[z]) L j;have z9:=j.size;intro o;have w:J n o:=J.push _ _;have N:fH (bH (v.size::h.size::b) o) (.mk n.size 0 1 1) [D]:=oV (S:=v.size::h.size::b) (M:=n) [(D,s6)] aL (bO (G (i:=n) V) (ad _) s.b.lt) (by simp;exact s.h.sl) rfl rfl;have vH:=w.size;refine jD (M:=o) N (.fg (a:=1) (b:=f) (c:=e.length) bh (λF=>V) bh (λF=>V) (by simp;exact s.h.wx)) (Z V) λab af K C=>?_;have r:=((T.to j x).ext w).ext C;have I:=((s.ext w).ext C).set K;exact⟨ab,.mk 5 0 [D],I,⟨(r.put l.rd V _ _).f,((r.put l.rd V _ _).r).mono V⟩,by rw[ax];have:=C.size;omega⟩
 rintro i ⟨U,u,r,aa,ah⟩;refine⟨_,r.b.cp 0,_,r.b.cp 1,_,r.b.cp 2,?_⟩;have Y:∀{i:E},B.size<=i.size->Lw c [h.size,m.size] i:=λF=>lw y bF;refine XP.kk (My (c:=h.size::b) f e.length (G V) (by simp[z]) aa.r V W) (Y ah) λs9 e9 n h9 w9 x j=>?_;have I:=λag=>kg j y (k:=v.size) ⟨V,r.b.lt⟩ ag;refine⟨I _,I _,I _,?_⟩;have z9:=j.size;intro o;have w:J n o:=J.push _ _;have s:=r.fz (by simp[z]) L j;have N:fH (bH (h.size::b) o) (.mk n.size 0 2 2) [e9,u]:=oV (S:=h.size::b) (M:=n) [(e9,s9),(u,U)] aL (G V) (by simp;exact⟨h9,s.h.fq.sl⟩) rfl rfl;refine jD (M:=o) N (.lt w9 r.h.wx) (Y (oh w.size)) λab af K C=>?_;exact K.iK (((aa.to j x).ext w).ext C) l.rd V V
def Kc(hS:∀j∈b,j<m.size)(y:c∈b)(j:GC c g P d p f e m)(hP:P+200+2*Cg 18<=10^16){I:Nat}{q:dy}(hq:e[I]? =some q)(h1:1<=q.params.length):
 aN cg 284 [vp c 0,.agg #[O.v d,O.v p],vi I] m (XP b c g m (P+200+2*Cg 18) (WX f e.length q.params.length)):=by
 apply CU (c,0)
 simp -zeta only[aC,aB]
 intro i C
 let⟨x2,hl⟩:=dD (a:=i) (c:=C) rfl rfl
 have s1:i.size=m.size+1:=by simp[i]
 have s2:C.size=m.size+2:=by simp[C,s1]
 have x:=j.rd.lt
 clear_value C
 have v:∀{h:E},C.size<=h.size->∀j∈i.size::b,j<h.size:=λl=>bO hS V V
 have r2:Rs c g m P C:=⟨x2.fz _,j.rd.ext x2⟩
 have s:∀{h:E},C.size<=h.size->Lw c [i.size,m.size] h:=λl=>lw x bF
 let⟨ps,ap,e0,e1⟩:=j.hp.aF hq
 have aV:=aw hq
 have aY:=j.hp.len
 have X:=wU _ (j.gp.dz q (aq hq))
 have h3:q.params.length<=3:=X.1
 have W:∀{h:E},Fz [c] m h->IR c h ps q.params:=λac=>ap.le (fh ac)
 have E1:∀{h:E},Fz [c] m h->af h p.D (p.off+I*5+1)=some (vi q.aU):=λac=>(eT.1 (fh ac _ _ _ e1)).2
 refine⟨V,V,ps,(eT.1 (fh r2.f _ _ _ e0)).2,?_⟩
 refine wR (i.size::b) f e.length (a:=q.params.length) (s (ad _)) V λs3 m3 ao x3=>?_
 have z3:=x3.size
 refine JH (i.size::b) f e.length q.params.length (s z3) 1 λs4 m4 h4 x4=>?_
 have z4:=x4.size
 intro m5
 have x5:J m4 m5:=J.push _ _
 have aI:fH (bH (i.size::b) m5) (.mk m4.size 0 2 2) [.mk 12 0 [],.mk 0 1 []]:=oV (S:=i.size::b) (M:=m4) [(.mk 12 0 [],s3),(.mk 0 1 [],s4)] aL (v V) (by simp;exact⟨(ao.ext x4).sl,h4.sl⟩) rfl rfl
 have z5:=x5.size
 refine jD (M:=m5) aI (.fg (a:=q.params.length) (b:=f) (c:=e.length) bh (λl=>V) bh (λl=>V) (by simp;exact⟨ao.wx,h4.wx⟩)) (s V) λs6 K h6 x6=>?_
 have z6:=x6.size
 have r6:=(((r2.ext x3).ext x4).ext x5).ext x6
 intro m7
 have x7:J K m7:=J.push _ _
 have g7:GE (i.size::b) K m7 (.mk K.size 0 1 1) [.mk 2 0 [.mk 12 0 [],.mk 0 1 []]]:=Ln (v V) 0 [(.mk 2 0 [.mk 12 0 [],.mk 0 1 []],s6)] aL (by simpa using h6.sl) rfl rfl
 clear_value m7
 have aZ:=ap.len
 refine Ra (a:=q.params.length) V h1 (λY F h=>∃z,GE (i.size::b) K h F z/\z.length=Y/\(∀w∈z,WX f e.length q.params.length w)/\Rd c g (P+22*Y) h/\Fz [c] K h) ⟨_,g7,rfl,by simpa using h6.wx,(r6.r.ext x7).mono V,x7.fz _⟩ ?_
 rintro Y F h aU μ aW hj ⟨z,r,aX,hw,rM,fM⟩ aM
 have U:=r6.f.trans fM
 have zM:=fM.size
 refine⟨λl=>?_,λ_=>?_⟩
 .simp only[ar]at l
  let⟨A,o⟩:=cG q.params Y
  have u:=X.2.1 A (aq o)
  refine⟨V,V,A,(eT.1 ((W U).aF o)).2,?_⟩
  exact XP.kM (rH (f:=F.D::i.size::b) (bO (v (h:=h) V) (ad _) r.bn.2) (by simp[y]) (j.to U rM) V (W U) V (j.gp.ty u.1 u.2)) r fM (s V) r6.r (by simp[y]) V λw av N G g' L D _ _=>
   aM V _ _ ⟨_,g',bF,λB H=>by rcases List.mem_append.1 H with l|l;exact hw B l;simp at l;subst l;exact G.1,L.mono V,D⟩
 refine jD (r.done Cc.mono (v (h:=K) V) bh V) (.fg (a:=q.params.length) (b:=f) (c:=e.length) bh (λl=>V) bh (λ_=>⟨V,V⟩) hw) (s V) λs8 o h8 x8=>?_
 intro m9 A
 let⟨ay,ab,vH⟩:=BX.new (f:=m9) (d:=A) h8 rfl rfl
 clear_value A
 have z8:=x8.size
 have D:Rs c g m (P+66) A:=⟨(U.then x8).then ay,((rM.ext x8).ext ay).mono V⟩
 have hk:o.size≠c:=V
 refine⟨λh=>∃F w,BX (i.size::b) f e.length q.params.length o.size h F w/\Rs c g m (P+66+Cg 18) h/\A.size<=h.size,⟨V,V,_,E1 D.f,λ_=>?_,λ_=>⟨s8,_,ab,⟨D.f,D.r.mono V⟩,ad _⟩⟩,?_⟩
 .have T:∀{h:E},A.size<=h.size->Lw c [o.size,i.size,m.size] h:=λl=>lw x bF
  have ag:∀{h:E},A.size<=h.size->∀j∈o.size::i.size::b,j<h.size:=λl=>bO (v (h:=A) V) l V
  refine Gc (S:=o.size::i.size::b) (ag (ad _)) (by simp[y]) (j.to D.f D.r) V (W D.f) V (j.gp.ty (t:=0) bh bh) bh (T (ad _)) λH ah Z N aj u=>?_
  have r:=λR=>kg u x (k:=o.size) ⟨V,ab.b.lt⟩ R
  refine⟨r _,r _,r _,?_⟩
  have aE:=u.size
  intro B
  have G:J Z B:=J.push _ _
  have ae:=ab.fz (by simp[y]) hk u
  have Q:fH (bH (o.size::i.size::b) B) (.mk Z.size 0 2 2) [H,.mk 9 I z]:=oV (S:=o.size::i.size::b) (M:=Z) [(H,ah),(.mk 9 I z,s8)] aL (ag aE) (by simp;exact⟨N.sl,ae.h.sl⟩) rfl rfl
  have aT:=G.size
  refine jD (M:=B) Q (.Pz (by simp;exact⟨N.wx,h8.wx⟩)) (T V) λai aa ak L=>?_
  have al:=(((D.to u aj).ext G).ext L).put j.rd (k:=o.size) V 0 [.i 6,.i 1,.s ai]
  have hb:=((ae.ext G).ext L).set ak
  exact⟨ai,.mk 6 1 [H,.mk 9 I z],hb,al,by rw[ax];have:=L.size;omega⟩
 rintro M3 ⟨F,w,u,av,a2⟩
 refine JH (i.size::b) f e.length q.params.length (s V) 0 λah Z N az=>?_
 have aE:=az.size
 refine wR (i.size::b) f e.length (a:=q.params.length) (s V) V λaO B al G=>?_
 have aT:=G.size
 intro aa
 have L:J B aa:=J.push _ _
 have Q:fH (bH (i.size::b) aa) (.mk B.size 0 2 2) [.mk 0 0 [],.mk 12 0 []]:=oV (S:=i.size::b) (M:=B) [(.mk 0 0 [],ah),(.mk 12 0 [],aO)] aL (v V) (by simp;exact⟨(N.ext G).sl,al.sl⟩) rfl rfl
 have a3:=L.size
 refine jD (M:=aa) Q (.fg (a:=q.params.length) (b:=f) (c:=e.length) bh (λl=>V) bh (λl=>V) (by simp;exact⟨N.wx,al.wx⟩)) (s V) λaP aJ am aA=>?_
 intro aK au
 let⟨aR,aj,a5⟩:=BX.new (f:=aK) (d:=au) am rfl rfl
 clear_value au
 have a4:=aA.size
 have ai:=(((az.trans G).trans L).trans aA).trans aR
 have T:=av.ext ai
 have u:=u.ext ai
 refine⟨_,u.b.cp 0,_,u.b.cp 1,_,u.b.cp 2,V,V,_,E1 T.f,?_⟩
 refine Gc (S:=i.size::b) (v V) (by simp[y]) (j.to T.f T.r) V (W T.f) V (j.gp.ty X.2.2.1 X.2.2.2) bh (lw x bF) λak aQ ae an aG H=>?_
 have r:=λR=>kg H x (k:=o.size) ⟨V,u.b.lt⟩ R
 have g':=λR=>kg H x (k:=aJ.size) ⟨V,aj.b.lt⟩ R
 refine⟨?_,?_,?_,?_,?_,?_,?_⟩
 iterate 6 first|exact r _|exact g' _
 have a6:=H.size
 intro ag
 have aD:J ae ag:=J.push _ _
 have aF:=u.fz (by simp[y]) hk H
 have Q:fH (bH (i.size::b) ag) (.mk ae.size 0 3 3) [.mk 4 0 [.mk 0 0 [],.mk 12 0 []],w,ak]:=oV (S:=i.size::b) (M:=ae) [(.mk 4 0 [.mk 0 0 [],.mk 12 0 []],aP),(w,F),(ak,aQ)] aL (v V) (by simp;exact⟨(aj.h.fq.fz (by simp[y]) H).sl,aF.h.fq.sl,an.sl⟩) rfl rfl
 refine jD (M:=ag) Q (.fg (a:=q.params.length) (b:=f) (c:=e.length) bh (λ_=>rfl) bh (λl=>V) (by simp;exact⟨am.wx,u.h.wx,an.wx⟩)) (lw x (by have:=aD.size;simp;omega)) λa1 a0 aH aS=>?_
 exact aH.iK (((T.to H aG).ext aD).ext aS) j.rd V V
end
end
section
section
variable{c:List Nat}{b P:Nat}{h d p:O}{f:List bz}{g:List dy}{m:E}
def WX.m1{d c:Nat}{x y z:Ex}(hd:f∈rP)(j:WX f d c x)(k:WX f d c y)(l:WX f d (c+2) z):WX f d c (.mk 8 1 [x,y,z]):=by
 obtain⟨e,-,g,h,-⟩:=NO f hd;refine .mt j (by rw[e];rfl) aL λi n m b a=>?_;rw[e]at a;rcases i with _|_|i
 .simp at b a;subst b a;rw[g];exact k
 .simp at b a;subst b a;rw[h];exact l
 .simp at b
def Ku(hS:∀r∈c,r<m.size)(H:b∈c)(r:GC b h P d p f g m)(hP:P+200+2*Cg 18<=10^16){F:Nat}{q:dy}(hq:g[F]? =some q){ai:Int}(ha:0<=ai/\ai<(q.params.length:Int)):
 aN cg 282 [vp b 0,.agg #[O.v d,O.v p],vi F,vi ai] m (XP c b h m (P+200+2*Cg 18) (WX f g.length q.params.length)):=by
 apply Dh (b,0)
 simp -zeta only[aC,aB]
 intro j Z
 let⟨x2,hl⟩:=dD (a:=j) (c:=Z) rfl rfl
 have s1:j.size=m.size+1:=by simp[j]
 have s2:Z.size=m.size+2:=by simp[Z,s1]
 have hr:=r.rd.lt
 clear_value Z
 have an:∀{i:E},Z.size<=i.size->∀r∈j.size::c,r<i.size:=λl=>bO hS V V
 have r2:Rs b h m P Z:=⟨x2.fz _,r.rd.ext x2⟩
 have L1:∀{i:E},Z.size<=i.size->Lw b [j.size,m.size] i:=λl=>lw hr bF
 let⟨ps,aY,e0,e1⟩:=r.hp.aF hq
 have ba:=aw hq
 have bf:=r.hp.len
 have aM:=wU _ (r.gp.dz q (aq hq))
 have h3:q.params.length<=3:=aM.1
 have PS:∀{i:E},Fz [b] m i->IR b i ps q.params:=λK=>aY.le (fh K)
 have E1:∀{i:E},Fz [b] m i->af i p.D (p.off+F*5+1)=some (vi q.aU):=λK=>(eT.1 (fh K _ _ _ e1)).2
 have bg:=aY.len
 have a0:=r.gp.ty (t:=0) bh bh
 have bd:=QS 18
 refine⟨V,V,ps,(eT.1 (fh r2.f _ _ _ e0)).2,?_⟩
 intro m3
 have x3:J Z m3:=J.push _ _
 have aO:ap (bH [b] m3) (.mk Z.size 0 2 2) [0,1]:=ap.lit aA _ bF rfl rfl aL
 clear_value m3
 have r3:=r2.ext x3
 have z3:=x3.size
 refine(eQ (S:=[b]) bF (PS r3.f) aO bF).mono λ_ m4⟨aS,wl,u,gw,qw,x4⟩=>⟨(L1 z3).dv (x4.fz _),aS,u,?_⟩
 subst qw
 have a6:IR b m4 aS (q.params++[0,1]):=GI.done gw bF bF
 have r4:=r3.ext x4
 have z4:=x4.size
 intro m5
 have x5:J m4 m5:=J.push _ _
 have g5:GE (j.size::c) m4 m5 (.mk m4.size 0 0 0) []:=Gr.new _ (ad _) _ _ _
 clear_value m5
 refine eu (n:=q.params.length) V (λN w i=>∃I,GE (j.size::c) m4 i w I/\I.length=N/\(∀u∈I,WX f g.length (q.params.length+2) u)/\Rd b h (P+N) i/\Fz [b] m4 i) ⟨[],g5,rfl,aL,(r4.r.ext x5).mono V,x5.fz _⟩ ?_
 rintro N w i a4 μ hj ⟨I,aK,bc,hw,rM,fM⟩ a8
 have FM:=r4.f.trans fM
 have zM:=fM.size
 refine⟨λl=>?_,λ_=>?_⟩
 .simp only[ar]at l
  let⟨aU,L⟩:=cG q.params N
  have iK:∀{K:Nat}{T:List Value}{y:E}{R:Nat},aN cg K T y (XP (w.D::j.size::c) b h y R (WX f g.length (q.params.length+2)))->R<=P+(N+1)->Rd b h (P+(N+1)) y->Fz [b] i y->aN cg K T y λab A=>eI [j.size,m.size] y A/\∃G C:Int,∃r2:O,ab=.agg #[vi G,vi C,O.v r2]/\
   jN (A.push (.cells (bu [.i G,.i C,.s r2]) bG)) bG [.i 0,.i 0,.s .nil] 40 w (O.mk A.size 0 1 1) λW z=>eI [j.size,m.size] (A.push (.cells (bu [.i G,.i C,.s r2]) bG)) z/\a4 W (cU ((N:Int)+1)) z/\μ W (cU ((N:Int)+1)) z<μ w N i:=λhc hQ C Y=>
   XP.kM hc (aK.eB Cc.mono Y (by simp;exact⟨Or.inr H,V⟩)) (fM.trans Y) (L1 V) r4.r (by simp[H]) V λu W z s g' r' f' _ _=>
    a8 V _ _ ⟨_,g',bF,λo B=>by rcases List.mem_append.1 B with l|l;exact hw o l;simp at l;subst l;exact s,r'.mono hQ,f'⟩
  refine⟨λ_=>?_,λ_=>⟨V,V,aU,(eT.1 ((PS FM).aF L)).2,λ_=>?_,λ_=>iK (((mu _ _ _).x rM).mono λ_ _ l=>l.mono (λu s=>s▸.UF ⟨V,V⟩) (ad _)) V (rM.mono V) (Fz.az _ _)⟩⟩
  .rw[aP (b:=(ps.len:Int)+1) V V]
   exact iK (((mu _ _ _).x rM).mono λ_ _ l=>l.mono (λu s=>s▸.UF ⟨V,V⟩) (ad _)) V (rM.mono V) (Fz.az _ _)
  .refine(cq rM V 2).mono λ_ m6⟨ae,en,_,_,D,B⟩=>⟨(L1 V).dv B,ae,en,λ_=>?_,λ_=>iK (((mu _ _ _).x D).mono λ_ _ l=>l.mono (λu s=>s▸.UF ⟨V,V⟩) (ad _)) V D B⟩
   have z6:=B.size
   have aa:∀{y:E},m6.size<=y.size->∀r∈w.D::j.size::c,r<y.size:=λl=>bO (an (i:=m6) V) l (oh aK.bn.2)
   refine wR (w.D::j.size::c) f g.length (a:=q.params.length+2) (L1 V) V λs7 m7 h7 Q=>?_
   have z7:=Q.size
   refine wR (w.D::j.size::c) f g.length (a:=q.params.length+2) (L1 V) V λs8 o h8 x8=>?_
   have z8:=x8.size
   intro m9
   have x9:J o m9:=J.push _ _
   have X:fH (bH (w.D::j.size::c) m9) (.mk o.size 0 2 2) [.mk 12 N [],.mk 12 ps.len []]:=oV (S:=w.D::j.size::c) (M:=o) [(.mk 12 N [],s7),(.mk 12 ps.len [],s8)] aL (aa V) (by simp;exact⟨(h7.ext x8).sl,h8.sl⟩) rfl rfl
   have U:=((D.ext Q).ext x8).ext x9
   exact iK ((nh U X 1 0).mono λ_ _ l=>l.mono (λu s=>s▸.fg bh (λl=>V) bh (λl=>V) (by simp;exact⟨h7.wx,h8.wx⟩)) (ad _)) V U (((B.then Q).then x8).then x9)
 refine jD (aK.done Cc.mono (an (i:=m4) V) bh V) (.fg (a:=q.params.length+2) (b:=f) (c:=g.length) bh (λl=>V) bh (λ_=>⟨V,V⟩) hw) (L1 V) λs6 m6 h6 x6=>?_
 have z6:=x6.size
 intro m7 o
 let⟨x8,B8,z8⟩:=kK (M:=m6) (d:=m7) (c:=o) rfl rfl rfl
 clear_value o
 intro m9 C
 let⟨aT,av,vH⟩:=BX.new (f:=m9) (d:=C) (h6.ext x8) rfl rfl
 clear_value C
 have aa:Rs b h m (P+3) C:=⟨((FM.then x6).then x8).then aT,(((rM.ext x6).ext x8).ext aT).mono V⟩
 have hk:o.size≠b:=V
 have L2:∀{i:E},C.size<=i.size->Lw b [o.size,m6.size,j.size,m.size] i:=λl=>lw hr bF
 have ao:∀{i:E},C.size<=i.size->∀r∈o.size::j.size::c,r<i.size:=λl=>bO (an (i:=C) V) l V
 have aV:∀{i:E},Fz [b] m4 i->IR b i aS (q.params++[0,1]):=λK=>a6.le (fh K)
 have aX:Fz [b] m4 C:=((fM.then x6).then x8).then aT
 have wl:(q.params++[0,1]).length=q.params.length+2:=aL
 refine⟨λi=>∃w u,BX (j.size::c) f g.length (q.params.length+2) o.size i w u/\Rs b h m (P+10+Cg 18) i/\C.size<=i.size,⟨V,V,_,E1 aa.f,λaZ=>?_,λ_=>⟨V,V,_,E1 aa.f,λ_=>?_,λ_=>⟨s6,_,av,⟨aa.f,aa.r.mono V⟩,ad _⟩⟩⟩,?_⟩
 .simp only[aH]at aZ
  refine(cq aa.r V 5).mono λ_ ac⟨ae,en,_,_,aJ,z⟩=>⟨(L2 (ad _)).dv z,ae,en,λ_=>?_,λ_=>⟨V,V,_,E1 (aa.f.trans z),λl=>by rw[aZ]at l;exact absurd l bh,λ_=>⟨s6,_,av.fz (by simp[H]) hk z,⟨(aa.to z aJ).f,aJ.mono V⟩,z.size⟩⟩⟩
  have Q:=aa.to z aJ
  have T:=z.size
  have aW:=av.fz (by simp[H]) hk z
  refine Gc (v:=q.params++[0,1]) (S:=o.size::j.size::c) (ao T) (by simp[H]) (r.to Q.f Q.r) V (aV (aX.trans z)) bF a0 bh (L2 T) λal aD A am ak s=>?_
  rw[wl]at am
  intro Y U
  let⟨ab,aI,a_⟩:=BX.new (f:=Y) (d:=U) am rfl rfl
  clear_value U
  have a2:=s.size
  have az:=(Q.to s ak).ext ab
  have aj:=(aW.fz (by simp[H]) hk s).ext ab
  have bb:A.size≠b:=V
  have aG:HX (A.size::o.size::j.size::c) f g.length (q.params.length+2) U s6 (.mk 9 F I):=(aW.h.fz (by simp[H]) s).ic ab (ad _)
  have L3:∀{i:E},U.size<=i.size->Lw b [A.size,o.size,m6.size,j.size,m.size] i:=λl=>lw hr bF
  refine⟨λi=>∃w u,BX (o.size::j.size::c) f g.length (q.params.length+2) A.size i w u/\HX (o.size::j.size::c) f g.length (q.params.length+2) i s6 (.mk 9 F I)/\Rs b h m (P+4+Cg 18) i/\U.size<=i.size/\cF i o.size bG [.i 9,.i F,.s s6],⟨λ_=>?_,λ_=>⟨aD,al,aI,aG.fq,az,ad _,aj.b⟩⟩,?_⟩
  .let⟨aU,L⟩:=cG q.params 0
   refine⟨bh,V,aU,(eT.1 ((PS az.f).aF L)).2,λ_=>?_,λ_=>⟨aD,al,aI,aG.fq,az,ad _,aj.b⟩⟩
   refine wR (A.size::o.size::j.size::c) f g.length (a:=q.params.length+2) (L3 (ad _)) V λaE au ay R=>?_
   have a3:=R.size
   refine wR (A.size::o.size::j.size::c) f g.length (a:=q.params.length+2) (L3 a3) V λaF G ag B=>?_
   have bi:=B.size
   intro aQ
   have a1:J G aQ:=J.push _ _
   have X:fH (bH (A.size::o.size::j.size::c) aQ) (.mk G.size 0 2 2) [.mk 12 0 [],.mk 12 ps.len []]:=oV (S:=A.size::o.size::j.size::c) (M:=G) [(.mk 12 0 [],aE),(.mk 12 ps.len [],aF)] aL (bO (ao (i:=G) V) (ad _) V) (by simp;exact⟨(ay.ext B).sl,ag.sl⟩) rfl rfl
   have bj:=a1.size
   refine jD (M:=aQ) X (.fg (a:=q.params.length+2) (b:=f) (c:=g.length) bh (λl=>V) bh (λl=>V) (by simp;exact⟨ay.wx,ag.wx⟩)) (L3 V) λaR a7 a5 a9=>?_
   have D:=((R.trans B).trans a1).trans a9
   have hb:=(aI.ext D).set a5
   have ha:=(aG.ext D).put (k:=A.size) aL 0 [.i 11,.i 0,.s aR]
   have hB:cF (ah a7 A.size 0 [.i 11,.i 0,.s aR]) o.size bG [.i 9,.i F,.s s6]:=(aj.b.ext D).congr (be _ _ _ _ V)
   exact⟨aR,.mk 11 0 [.mk 12 0 [],.mk 12 ps.len []],hb,ha.fq,(az.ext D).put r.rd V _ _,by rw[ax];have:=D.size;omega,hB⟩
  rintro M3 ⟨w,u,L,D,W,aR,aU⟩
  refine⟨_,L.b.cp 0,_,L.b.cp 1,_,L.b.cp 2,?_⟩
  intro au
  have R:J M3 au:=J.push _ _
  have X:fH (bH (o.size::j.size::c) au) (.mk M3.size 0 2 2) [u,.mk 9 F I]:=oV (S:=o.size::j.size::c) (M:=M3) [(u,w),(.mk 9 F I,s6)] aL (ao V) (by simp;exact⟨L.h.fq.sl,D.sl⟩) rfl rfl
  have a3:=R.size
  refine jD (M:=au) X (.Pz (by simp;exact⟨L.h.wx,D.wx⟩)) (L2 V) λaF G ag B=>?_
  have hb:=(BX.mk (e:=.mk 9 F I) ((aU.ext R).ext B) ((D.ext R).ext B)).set ag
  have aQ:=((W.ext R).ext B).put r.rd (k:=o.size) V 0 [.i 6,.i 1,.s aF]
  exact⟨aF,.mk 6 1 [u,.mk 9 F I],hb,⟨aQ.f,aQ.r.mono V⟩,by rw[ax];have:=B.size;omega⟩
 .intro ac
  have D:J C ac:=J.push _ _
  have aO:ap (bH [b] ac) (.mk C.size 0 2 2) [1,2]:=ap.lit aA _ bF rfl rfl aL
  clear_value ac
  have T:=D.size
  have G:∀{y M2:E}{B:Nat},C.size<=y.size->Fz [b] y M2->m.size<=B->B<C.size->∀z,af M2 B z=af y B z:=λl K h1 h2 z=>kg K hr ⟨h1,V⟩ z
  refine⟨G (ad _) (D.fz _) V V _,G (ad _) (D.fz _) V V _,G (ad _) (D.fz _) V V _,G (ad _) (D.fz _) V V _,G (ad _) (D.fz _) V V _,?_⟩
  have Q:=aa.ext D
  refine(kE Q.r V aO aL).mono λ_ A⟨ae,en,hn,ak,s⟩=>⟨(L2 T).dv s,ae,en,G T s V V _,G T s V V _,G T s V V _,G T s V V _,G T s V V _,?_⟩
  have aI:=Q.to s ak
  have a2:=s.size
  refine Gc (v:=q.params++[0,1]) (S:=o.size::j.size::c) (ao V) (by simp[H]) (r.to aI.f aI.r) V (aV ((aX.then D).trans s)) bF a0 bh (L2 V) λaF aU Y aG aQ ag=>?_
  rw[wl]at aG
  have aW:=ag.size
  refine⟨G V ag V V _,G V ag V V _,G V ag V V _,?_⟩
  intro U
  have ab:J Y U:=J.push _ _
  have az:=((av.ext D).fz (by simp[H]) hk s).fz (by simp[H]) hk ag
  have X:fH (bH (o.size::j.size::c) U) (.mk Y.size 0 2 2) [aF,.mk 9 F I]:=oV (S:=o.size::j.size::c) (M:=Y) [(aF,aU),(.mk 9 F I,s6)] aL (ao V) (by simp;exact⟨aG.sl,az.h.sl⟩) rfl rfl
  have a_:=ab.size
  simp at hn
  refine jD (M:=U) X (.fg (a:=q.params.length+2) (b:=f) (c:=g.length) V (λl=>V) V (λl=>V) (by simp;exact⟨aG.wx,az.h.wx⟩)) (L2 V) λaE au ay R=>?_
  have hb:=((az.ext ab).ext R).set ay
  have aJ:=(((aI.to ag aQ).ext ab).ext R).put r.rd (k:=o.size) V 0 [.i ae,.i 0,.s aE]
  exact⟨aE,.mk ae 0 [aF,.mk 9 F I],hb,⟨aJ.f,aJ.r.mono V⟩,by rw[ax];have:=R.size;omega⟩
 rintro M3 ⟨w,u,L,W,aR⟩
 have L3:∀{i:E},C.size<=i.size->Lw b [m6.size,j.size,m.size] i:=λl=>lw hr bF
 have R:∀{y M2:E}{B:Nat},M3.size<=y.size->Fz [b] y M2->m.size<=B->B<C.size->∀z,af M2 B z=af y B z:=λl K h1 h2 z=>kg K hr ⟨h1,V⟩ z
 refine⟨V,V,_,E1 W.f,_,L.b.cp 0,_,L.b.cp 1,_,L.b.cp 2,?_⟩
 refine wR (j.size::c) f g.length (a:=q.params.length) (L3 aR) ha λay ac ae D=>?_
 have T:=D.size
 have gx:∀B z,m.size<=B->B<C.size->af ac B z=af M3 B z:=λB z h1 h2=>R (ad _) (D.fz _) h1 h2 z
 refine⟨gx _ _ V V,gx _ _ V V,gx _ _ V V,(E1 (W.f.then D)).trans (E1 W.f).symm,gx _ _ V V,gx _ _ V V,gx _ _ V V,?_⟩
 have Q:=W.ext D
 refine Gc (S:=j.size::c) (an V) (by simp[H]) (r.to Q.f Q.r) V (PS Q.f) V (r.gp.ty aM.2.2.1 aM.2.2.2) bh (L3 V) λal aD A am ak s=>?_
 have G:∀z,af A o.size z=af ac o.size z:=R T s V V
 refine⟨G _,G _,G _,?_⟩
 have a2:=s.size
 intro Y
 have ag:J A Y:=J.push _ _
 have aj:=(L.ext D).fz (by simp[H]) hk s
 have X:fH (bH (j.size::c) Y) (.mk A.size 0 3 3) [.mk 12 ai [],al,u]:=oV (S:=j.size::c) (M:=A) [(.mk 12 ai [],ay),(al,aD),(u,w)] aL (an V) (by simp;exact⟨(ae.fz (by simp[H]) s).sl,am.sl,aj.h.fq.sl⟩) rfl rfl
 refine jD (M:=Y) X (.m1 r.gp.ds ae.wx am.wx L.h.wx) (L3 (oh ag.size)) λaz U au ab=>?_
 exact au.iK (((Q.to s ak).ext ag).ext ab) r.rd V V
end
end
section
variable{g:E}{s:O}{l:List Int}{c f:Ex}
abbrev G3(M a:E)(k:Nat)(X:Prop):Prop:=af a k 0=af M k 0/\af a k 1=af M k 1/\af a k 2=af M k 2/\X
abbrev E3(v:Value)(X:Int->Int->O->Prop):Prop:=∃a b:Int,∃c:O,v=.agg #[vi a,vi b,O.v c]/\X a b c
abbrev N1(L:List Nat)(e:Nat)(M:E)(K:Int->Int->O->E->Prop):Prop:=aN cg 313 [vi 1,vi 0,O.v (.mk e 0 2 2)] M λv a=>eI L M a/\E3 v λb c d=>K b c d a
section
variable(L:List Nat)(k:Nat)(b:Int)(h i d p w l:O)(j a e:Nat)(F:Int->Int->O->E->Prop)
abbrev TR5(g:Nat)(M:E):Prop:=N1 L g M λd e f c=>G3 M c a (N1 L c.size (c.push (.cells (bu [.i 9,.i b,.s h,.i d,.i e,.s f]) bG)) F)
abbrev TR4(c d:Int)(e:O)(M:E):Prop:=G3 M (M.push (.cells (bu [.i c,.i d,.s e,.i 9,.i b,.s i]) bG)) a (TR5 L b h a F M.size (M.push (.cells (bu [.i c,.i d,.s e,.i 9,.i b,.s i]) bG)))
abbrev TR3(M:E):Prop:=aN cg 312 [vp k 0,.agg #[O.v d,O.v p],O.v w,vi 0,vi 4] M λv c=>eI L M c/\E3 v λe f g=>G3 M c j (G3 M c a (TR4 L b h i a F e f g c))
abbrev TR2(f:Nat)(M:E):Prop:=aN cg 187 [O.v l,O.v (.mk f 0 3 3)] M λv c=>eI L M c/\∃s:O,v=O.v s/\G3 M c j (af c e 0=af M e 0/\af c e 1=af M e 1/\G3 M c a (TR3 L k b h i d p s j a F c))
end
def _root_.Go.Vc.Vq{σ τ:Type}{n:Nat}(q:n<=9223372036854775807)(e:1<=n){m:E}{h:σ}{j:τ}{g:(σ->τ->Int->E->Prop)->(σ->τ->Int->E->Nat)->σ->τ->Int->E->Prop}(Q:Nat->σ->τ->E->Prop)(o:Q 1 h j m)
 (l:∀(k:Nat)(s:σ)(t:τ)(a:E)(I:σ->τ->Int->E->Prop)(μ:σ->τ->Int->E->Nat),1<=k->k<=n->Q k s t a->
  (k<n->∀c d b,Q (k+1) c d b->I c d (cU ((k:Int)+1)) b/\μ c d (cU ((k:Int)+1)) b<μ s t k a)->g I μ s t k a):
 ∃(I:σ->τ->Int->E->Prop)(μ:σ->τ->Int->E->Nat),I h j 1 m/\∀s t i a,I s t i a->g I μ s t i a:=by
 refine⟨λs t i b=>∃k:Nat,i=k/\1<=k/\k<=n/\Q k s t b,λ_ _ i _=>(n -i).toNat,⟨1,rfl,ad _,e,o⟩,?_⟩
 rintro s t i a ⟨k,rfl,e,p,r⟩
 refine l k s t a _ _ e p r λf c d b u=>?_
 rw[kG f q]
 exact⟨⟨k+1,rfl,V,f,u⟩,DK f⟩
def PK(_:E)(a:List Ce)(n:Int):Prop:=∃s:O,a=[.i 12,.i n,.s s]/\s.len=0
def PK.mono:oD 3 PK:=⟨λ_ h=>h,λ⟨_,h,_⟩=>by rw[h];rfl⟩
abbrev GV(g m:E)(s:O)(l:List Int):Prop:=Gr [] g m bG 3 PK s l
def GV.eB{m a:E}(h:GV g m s l)(q:a[s.D]? =m[s.D]?):GV g a s l:=by
 let⟨c,b,d,e⟩:=h;exact⟨c,b,d.congr q,e.mono λ_ _ h=>h⟩
def GV.ex{a:List Nat}{m:E}(h:GV g m s l)(j:s.D∉a)(t:l.length<=1000):fH (bH a m) s (l.map λn=>.mk 12 n []):=by
 let⟨e,d,f,i⟩:=h;have H:=Gr.nK (S:=a) PK.mono ⟨e,d,f,i.mono λ_ _ h=>h⟩ j bh V;refine⟨by rw[H.len];simp,H.cap,H.gW,λq c b=>?_⟩;simp only[cK,jH]at b;obtain⟨n,k,rfl⟩:=b;obtain⟨r,⟨u,rfl,p⟩,o⟩:=H.iD q n k;exact⟨_,Cc.of ⟨p,V,V,aL⟩,o⟩
structure AS(S:List Nat)(ds:List bz)(nf a n0 k Q rb:Nat)(bs:O)(m M:E)(sl:O)(el:Ex)(sr:O)(er:Ex):Prop where
 b:cF M k bG [.i 0,.i 0,.s .nil]
 hk:n0<=k
 l:HX (k::S) ds nf a M sl el
 r:HX (k::S) ds nf a M sr er
 s:Rs rb bs m Q M
section
variable{S:List Nat}{e:List bz}{h a n k Q r b:Nat}{d o p:O}{m M q:E}{i j:Ex}
def AS.ext(f:AS S e h a n k Q b d m M o i p j)(c:J M q):AS S e h a n k Q b d m q o i p j:=⟨f.b.ext c,f.hk,f.l.ext c,f.r.ext c,f.s.ext c⟩
def AS.fz(c:AS S e h a n k Q b d m M o i p j)(g:b∈S)(l:k≠b)(f:Fz [b] M q)(s:Rd b d r q):AS S e h a n k r b d m q o i p j:=⟨c.b.congr (f.same k c.b.lt (by simpa using l)),c.hk,c.l.fz (by simp[g]) f,c.r.fz (by simp[g]) f,c.s.to f s⟩
def AS.new(f:n<=M.size)(l:HX S e h a M o i)(r:HX S e h a M p j)(s:Rs b d m Q M):J M (M.push (.cells (bu [.i 0,.i 0,.s .nil]) bG))/\AS S e h a n M.size Q b d m (M.push (.cells (bu [.i 0,.i 0,.s .nil]) bG)) o i p j:=
 have c:=J.push M (.cells (bu [.i 0,.i 0,.s .nil]) bG)
 ⟨c,cF.push _ _ _,f,l.ic c (ad _),r.ic c (ad _),s.ext c⟩
end
section
variable{h:List Nat}{b P:Nat}{o d p:O}{i:List bz}{j:List dy}{m:E}
def WX.m3{e d:Nat}{z:Ex}(hd:i∈rP)(l:WX i e d c)(m:WX i e d f)(n:WX i e (d+3) z):WX i e d (.mk 8 3 [c,f,z]):=by
 obtain⟨-,g,-,-,j,k⟩:=NO i hd;refine .mt l (by rw[g];rfl) aL λh p o b a=>?_;rw[g]at a;rcases h with _|_|h
 .simp at b a;subst b a;rw[j];exact m
 .simp at b a;subst b a;rw[k];exact n
 .simp at b
def WX.add{b a:Nat}(d:WX i b a c)(e:WX i b a f):WX i b a (.mk 1 0 [c,f]):=.fg bh (λh=>V) bh (λh=>V) (by simp;exact⟨d,e⟩)
def Kv(hS:∀F∈h,F<m.size)(aU:b∈h)(F:GC b o P d p i j m)(hP:P+200+3*Cg 18<=10^16){C:Nat}{w:dy}(hq:j[C]? =some w)(bI:1<=w.params.length):
 aN cg 283 [vp b 0,.agg #[O.v d,O.v p],vi C] m (XP h b o m (P+200+3*Cg 18) (WX i j.length w.params.length)):=by
 apply Di (b,0)
 simp -zeta only[aC,aB]
 intro A au
 let⟨x2,hl⟩:=dD (a:=A) (c:=au) rfl rfl
 have s1:A.size=m.size+1:=by simp[A]
 have s2:au.size=m.size+2:=by simp[au,s1]
 have hr:=F.rd.lt
 clear_value au
 have ay:∀{g:E},au.size<=g.size->∀F∈A.size::h,F<g.size:=λz=>bO hS V V
 have r2:Rs b o m P au:=⟨x2.fz _,F.rd.ext x2⟩
 have L1:∀{g:E},au.size<=g.size->Lw b [A.size,m.size] g:=λz=>lw hr bF
 let⟨ps,bl,e0,e1⟩:=F.hp.aF hq
 have bY:=aw hq
 have b2:=F.hp.len
 have bc:=wU _ (F.gp.dz w (aq hq))
 have h3:w.params.length<=3:=bc.1
 have PS:∀{g:E},Fz [b] m g->IR b g ps w.params:=λD=>bl.le (fh D)
 have E1:∀{g:E},Fz [b] m g->af g p.D (p.off+C*5+1)=some (vi w.aU):=λD=>(eT.1 (fh D _ _ _ e1)).2
 have b3:=bl.len
 have bs:=F.gp.ty (t:=0) bh bh
 have aD:b∈A.size::h:=by simp[aU]
 refine⟨V,V,ps,(eT.1 (fh r2.f _ _ _ e0)).2,?_⟩
 refine wR (A.size::h) i j.length (a:=w.params.length+3) (L1 (ad _)) V λs3 Z bC x3=>?_
 have z3:=x3.size
 intro m4
 have x4:J Z m4:=J.push _ _
 have g4:GV Z m4 (.mk Z.size 0 1 1) [(ps.len:Int)]:=Gr.lit (f:=[[.i 12,.i ps.len,.s s3]]) PK.mono (ad _) aL rfl rfl ⟨rfl,aL,λaE F B hj q=>by
  have:aE=0:=by have:=aw hj;simp at this;omega
  subst this;simp at hj q;subst hj q;exact⟨s3,rfl,bC.sl.len⟩⟩
 have s4:m4.size=Z.size+1:=by simp[m4]
 clear_value m4
 rw[aP (b:=(ps.len:Int)+2) V V]
 refine wR (A.size::h) i j.length (a:=w.params.length+3) (L1 V) V λs5 m5 h5 x5=>?_
 have z5:=x5.size
 intro m6
 have x6:J m5 m6:=J.push _ _
 have g6:GV m5 m6 (.mk m5.size 0 1 1) [(ps.len:Int)+2]:=Gr.lit (f:=[[.i 12,.i (ps.len+2),.s s5]]) PK.mono (ad _) aL rfl rfl ⟨rfl,aL,λaE F B hj q=>by
  have:aE=0:=by have:=aw hj;simp at this;omega
  subst this;simp at hj q;subst hj q;exact⟨s5,rfl,h5.sl.len⟩⟩
 clear_value m6
 have r3:=r2.ext x3
 have vq:∀{g u:E}{L:Int}{s:O}{l:List Int}{aX:O->E->Prop}{aT:O},GV Z g s l->J Z g->l.length<=10->aT.len=0->(∀R u,GV Z u R (l++[L])->J Z u->g.size<=u.size->(R.D=s.D\/g.size<=R.D)->(∀H,H<g.size->H≠s.D->u[H]? =g[H]?)->aX R u)->
  jN (g.push (.cells (bu [.i 12,.i L,.s aT]) bG)) bG [.i 0,.i 0,.s .nil] 40 s (.mk g.size 0 1 1) aX:=λaQ c hl ht hk=>
  Gr.kM (g:=[.i 0,.i 0,.s .nil]) (X:=[]) PK.mono bh aQ (c.fz []) ⟨_,rfl,ht⟩ V λR u g' f' aJ w=>hk R u g' f'.ext aJ.1 aJ.2 w
 refine Vq (n:=w.params.length) V bI (λaE s aT g=>∃l l',GV Z g s l/\GV Z g aT l'/\l.length=aE/\l'.length=aE/\(∀L∈l,0<=L/\L<((w.params.length+3:Nat):Int))/\(∀L∈l',0<=L/\L<((w.params.length+3:Nat):Int))/\J Z g/\s.D≠aT.D) ⟨_,_,(g4.eB ((x5.trans x6).same _ (by show Z.size<_;omega))),Gr.cz PK.mono g6 (λ_ z=>Or.inl z) V,rfl,rfl,bF,bF,(x4.trans x5).trans x6,by show Z.size≠m5.size;omega⟩ ?_
 rintro aE s aT g bW μ bZ hj ⟨l,l',aQ,g',b0,b1,hw,bo,xM,bE⟩ bL
 have zM:=xM.size
 have RM:=r3.ext xM
 refine⟨λz=>?_,λ_=>?_⟩
 .simp only[ar]at z
  refine wR (A.size::h) i j.length (a:=w.params.length+3) (L1 V) V λs7 W h7 x7=>?_
  have gy:=aQ.bn;have aZ:=g'.bn
  have z7:=x7.size
  intro m8
  refine vq (u:=W) (aQ.eB (x7.same _ gy.2)) (xM.trans x7) V h7.sl.len λr9 m9 r x9 z9 Y T=>?_
  refine⟨(L1 (g:=Z) z3).tC ((((xM.trans x7).trans (J.push W _)).fz [b])) (x9.fz _),?_⟩
  refine wR (A.size::h) i j.length (a:=w.params.length+3) (L1 V) V λaa ag a8 ai=>?_
  intro bp
  have N:=((g'.eB (x7.same _ aZ.2)).eB (T _ V (kH bE))).eB (ai.same _ V)
  have vH:=ai.size
  refine vq (u:=W) N (x9.trans ai) V a8.sl.len λbd K I aH bS U Q=>?_
  refine⟨(L1 (g:=Z) z3).tC (((x9.trans ai).trans (J.push ag _)).fz [b]) (aH.fz _),bL V _ _ _ ⟨_,_,(r.eB (ai.same _ r.bn.2)).eB (Q _ (oh r.bn.2) V),I,bF,bF,λL q=>?_,λL q=>?_,aH,oh r.bn.2⟩⟩
  .rcases List.mem_append.1 q with z|z
   .exact hw L z
   .simp at z;omega
  .rcases List.mem_append.1 q with z|z
   .exact bo L z
   .simp at z;omega
 have gy:=aQ.bn;have aZ:=g'.bn
 have nS:∀H,Z.size<=H->H∉A.size::h:=λH hb z=>by have:=ay (g:=au) (ad _) H z;omega
 have bf:∀l:List Int,(∀L∈l,0<=L/\L<((w.params.length+3:Nat):Int))->WX i j.length (w.params.length+3) (.mk 9 C (l.map λL=>.mk 12 L [])):=λl hl=>.fg bh (λz=>V) bh (λ_=>⟨V,V⟩) (by simp;exactλL q=>.UF (hl L q))
 refine jD (aQ.ex (nS _ gy.1) V) (bf l hw) (L1 V) λsl W h7 x7=>?_
 intro m8 m9
 obtain⟨x9,-,z9⟩:=kK (M:=W) (d:=m8) (c:=m9) rfl rfl rfl
 clear_value m9
 have z7:=x7.size
 refine jD ((g'.eB ((x7.trans x9).same _ aZ.2)).ex (nS _ aZ.1) V) (bf l' bo) (lw hr bF) λsr ag a8 ai=>?_
 intro bp K
 obtain⟨aH,-,bS⟩:=kK (M:=ag) (d:=bp) (c:=K) rfl rfl rfl
 clear_value K
 have vH:=ai.size
 have a9:=((h7.ext x9).ext ai).ext aH
 have ba:=a8.ext aH
 generalize bi:Ex.mk 9 C (l.map λL=>.mk 12 L [])=el at a9
 generalize bj:Ex.mk 9 C (l'.map λL=>.mk 12 L [])=er at ba
 have bd:=(((RM.ext x7).ext x9).ext ai).ext aH
 have bX:=((x7.trans x9).trans ai).trans aH
 have bk:∀{r:Nat},K.size<=r->r≠b:=λz=>V
 have G:∀{g u:E}{r aS:Nat},K.size<=g.size->Fz [b] g u->m.size<=r->r<K.size->af u r aS=af g r aS:=λz D h1 h2=>kg D hr ⟨h1,V⟩ _
 have L4:∀{g:E},K.size<=g.size->Lw b [ag.size,W.size,A.size,m.size] g:=λz=>lw hr bF
 have L5:∀{g:E}{r:Nat},K.size<=r->r<g.size->Lw b [r,ag.size,W.size,A.size,m.size] g:=λz h'=>lw hr bF
 have a1:∀{g:E}{r:Nat},K.size<=r->r<g.size->∀F∈r::A.size::h,F<g.size:=λz h'=>bO (ay (g:=K) V) V h'
 have a5:=λ(c f:Ex)=>WX.add (i:=i) (b:=j.length) (a:=w.params.length+3) (c:=c) (f:=f)
 let aX:=λ(r:Nat)(g:E)=>∃s B,BX (A.size::h) i j.length (w.params.length+3) r g s B/\HX (r::A.size::h) i j.length (w.params.length+3) g sl el/\Rs b o m (P+Cg 18) g
 have bz:∃k9,el=.mk 9 C k9:=⟨_,bi.symm⟩
 have bA:∃k9,er=.mk 9 C k9:=⟨_,bj.symm⟩
 clear bi bj
 obtain⟨kl,rfl⟩:=bz
 obtain⟨kr,rfl⟩:=bA
 let av:=λ(r aY:Nat)(g:E)=>AS (A.size::h) i j.length (w.params.length+3) K.size r (P+aY) b o m g sl (.mk 9 C kl) sr (.mk 9 C kr)
 let aO:=λr=>[r,ag.size,W.size,A.size,m.size]
 let K0:=λ(jP:Nat×Nat)(g:E)=>jP.2=0/\K.size<=jP.1/\aX jP.1 g
 let aM:=λ(r:Nat)(q H:Int)(F:O)(u:E)=>K0 (r,0) (ah u r 0 [.i q,.i H,.s F])
 have H3:∀{g u:E}{Q:Prop},K.size<=g.size->Fz [b] g u->Q->G3 g u W.size Q:=λI D c=>⟨G I D V V,G I D V V,G I D V V,c⟩
 have H6:∀{g u:E}{Q:Prop},K.size<=g.size->Fz [b] g u->Q->G3 g u ag.size (G3 g u W.size Q):=λI D c=>⟨G I D V V,G I D V V,G I D V V,H3 I D c⟩
 have H5:∀{g u:E}{Q:Prop},K.size<=g.size->Fz [b] g u->Q->af u m.size 0=af g m.size 0/\af u m.size 1=af g m.size 1/\G3 g u W.size Q:=λI D c=>⟨G I D V V,G I D V V,H3 I D c⟩
 have H8:∀{g u:E}{Q:Prop},K.size<=g.size->Fz [b] g u->Q->G3 g u ag.size (af u m.size 0=af g m.size 0/\af u m.size 1=af g m.size 1/\G3 g u W.size Q):=λI D c=>⟨G I D V V,G I D V V,G I D V V,H5 I D c⟩
 have R7:∀{r t0:Nat}{g:E}{B:Ex},av r (Cg 18) g->fH (bH (r::A.size::h) g) (.mk t0 0 2 2) [.mk 9 C kl,B]->WX i j.length (w.params.length+3) B->N1 (aO r) t0 g (aM r):=λq hs hw=>
  jD hs (a5 _ _ q.l.wx hw) (L5 q.hk q.b.lt) λs' u h' c=>by
   have hb:=(BX.mk (e:=.mk 0 0 []) (s:=.nil) (q.b.ext c) ⟨⟨rfl,ad _,aL,aL⟩,.int 0⟩).set h';exact⟨rfl,q.hk,s',_,hb,(q.l.ext c).put aL _ _,(q.s.ext c).put F.rd (oh q.hk) _ _⟩
 have R6:∀{r:Nat}{g:E}{s:O}{q H:Int}{kk:List Ex},av r (Cg 18) g->HX (r::A.size::h) i j.length (w.params.length+3) g s (.mk q H kk)->N1 (aO r) g.size (g.push (.cells (bu [.i 9,.i C,.s sl,.i q,.i H,.s s]) bG)) (aM r):=λq z=>
  R7 (q.ext (J.push _ _)) (oV [(.mk 9 C kl,sl),(.mk _ _ _,_)] aL (a1 q.hk q.b.lt) (by simp;exact⟨q.l.sl,z.sl⟩) rfl rfl) z.wx
 have R5:∀{r t0:Nat}{g:E}{B:Ex},av r (Cg 18) g->fH (bH (r::A.size::h) g) (.mk t0 0 2 2) [B,.mk 9 C kr]->WX i j.length (w.params.length+3) B->TR5 (aO r) C sl W.size (aM r) t0 g:=λq hs hw=>
  jD hs (a5 _ _ hw q.r.wx) (L5 q.hk q.b.lt) λs' u h' c=>
   have I:=QO (nH q.hk q.b.lt)
   H3 I (c.fz _) (R6 (q.ext c) h')
 have R4:∀{r:Nat}{g:E}{s:O}{B:Ex},av r (Cg 18) g->HX (r::A.size::h) i j.length (w.params.length+3) g s B->TR4 (aO r) C sl sr W.size (aM r) B.op B.bP s g:=λ{r g s B} q z=>
  have c:=J.push g (.cells (bu [.i B.op,.i B.bP,.s s,.i 9,.i C,.s sr]) bG)
  have I:=QO (nH q.hk q.b.lt)
  H3 I (c.fz _) (R5 (q.ext c) (oV [(B,s),(.mk 9 C kr,sr)] aL (a1 q.hk q.b.lt) (by simp;exact⟨z.sl,q.r.sl⟩) rfl rfl) z.wx)
 have bg:∀{a6 L':List Nat}{g:E}{ab:O}{K':Int->Int->O->E->Prop},(∀F∈a6,F<g.size)->b∈a6->Rs b o m P g->IR b g ab (w.params++[3,0,3])->Lw b L' g->(∀B s u,HX a6 i j.length (w.params.length+3) u s B->Rd b o (P+Cg 18) u->Fz [b] g u->K' B.op B.bP s u)->aN cg 312 [vp b 0,.agg #[O.v d,O.v p],O.v ab,vi 0,vi 4] g λbP u=>eI L' g u/\∃r0 r1:Int,∃r2:O,bP=.agg #[vi r0,vi r1,O.v r2]/\K' r0 r1 r2 u:=λbD bJ R hw hL hk=>
  Gc (v:=w.params++[3,0,3]) bD bJ (F.to R.f R.r) V hw bF bs bh hL λB s u z d D=>hk B s u (by simpa using z) d D
 have R3:∀{r:Nat}{g:E}{ab:O},av r 0 g->IR b g ab (w.params++[3,0,3])->TR3 (aO r) b C sl sr d p ab ag.size W.size (aM r) g:=λq hw=>
  bg (a1 q.hk q.b.lt) (by simp[aU]) q.s hw (L5 q.hk q.b.lt) λB s u z d' D=>
   have I:=QO (nH q.hk q.b.lt)
   H6 I D (R4 (q.fz aD (bk q.hk) D d') z)
 have R2:∀{r t0:Nat}{g:E},av r 0 g->ap (bH [b] g) (.mk t0 0 3 3) [3,0,3]->TR2 (aO r) b C sl sr d p ps ag.size W.size m.size (aM r) t0 g:=λq hw=>
  (eQ (S:=[b]) (by simp;exact q.s.r.lt) (PS q.s.f) hw bF).mono λ_ u⟨ab,wl,B,gw,qw,c⟩=>by
   subst qw;have I:=QO (nH q.hk q.b.lt);exact⟨(L5 q.hk q.b.lt).dv (c.fz _),ab,B,H8 I (c.fz _) (R3 (q.ext c) (GI.done gw (by simp;exact q.s.r.lt) bF))⟩
 have aG:∀{g:E}{aY:Nat},K.size<=g.size->HX (A.size::h) i j.length (w.params.length+3) g sl (.mk 9 C kl)->HX (A.size::h) i j.length (w.params.length+3) g sr (.mk 9 C kr)->Rs b o m (P+aY) g->J g (g.push (.cells (bu [.i 0,.i 0,.s .nil]) bG))/\av g.size aY (g.push (.cells (bu [.i 0,.i 0,.s .nil]) bG)):=λh1 h2 h3 h4=>AS.new h1 h2 h3 h4
 have r0:Rs b o m (P+0) K:=bd
 have wl:∀g:E,b<g.size->ap (bH [b] (g.push (.cells (bu [.i 3,.i 0,.i 3]) aA))) (.mk g.size 0 3 3) [3,0,3]:=λg z=>ap.lit aA _ (by simp;exact z) rfl rfl aL
 refine⟨K0,⟨?_,?_⟩,?_⟩
 .intro ac
  have N:J K ac:=J.push _ _
  have a3:ap (bH [b] ac) (.mk K.size 0 3 3) [3,0,3]:=wl K bd.r.lt
  clear_value ac
  have aK:=N.size
  have a_:=a9.ext N;have bb:=ba.ext N;have Y:=r0.ext N
  refine H8 (ad _) (N.fz _) ⟨?_,?_⟩
  .refine(eQ (S:=[b]) (by simp;exact Y.r.lt) (PS Y.f) a3 bF).mono λ_ al⟨ab,bQ,B,gw,qw,T⟩=>⟨(L4 aK).dv (T.fz _),ab,B,H8 aK (T.fz _) ⟨?_,?_⟩⟩
   all_goals have a4:IR b al ab (w.params++[3,0,3]):=qw▸GI.done gw (by simp;exact Y.r.lt) (by rw[<-qw];simp;omega)
   all_goals have bw:=T.size
   .refine bg (a6:=A.size::h) (ay V) aD (Y.ext T) a4 (L4 V) λaj a2 am ak a7 ae=>H6 V ae ⟨?_,?_⟩
    all_goals have az:=(a_.ext T).fz aD ae
    all_goals have aR:=(bb.ext T).fz aD ae
    all_goals have aW:=(Y.ext T).to ae a7
    all_goals have bT:=ae.size
    .intro ao
     have aa:J am ao:=J.push _ _
     have bm:fH (bH (A.size::h) ao) (.mk am.size 0 2 2) [aj,.mk 9 C kr]:=oV [(aj,a2),(.mk 9 C kr,sr)] aL (ay V) (by simp;exact⟨ak.sl,aR.sl⟩) rfl rfl
     have bU:=aa.size
     refine H3 V (aa.fz _) ⟨?_,?_⟩
     .refine jD (M:=ao) bm (a5 _ _ ak.wx aR.wx) (L4 V) λbM aF a0 aI=>H3 V (aI.fz _) ⟨?_,?_⟩
      all_goals have Q:=aa.trans aI
      all_goals have bV:=aI.size
      .intro aV
       have an:J aF aV:=J.push _ _
       have bn:fH (bH (A.size::h) aV) (.mk aF.size 0 2 2) [.mk 9 C kl,.mk 1 0 [aj,.mk 9 C kr]]:=oV [(.mk 9 C kl,sl),(.mk 1 0 [aj,.mk 9 C kr],bM)] aL (ay V) (by simp;exact⟨(az.ext Q).sl,a0.sl⟩) rfl rfl
       have b4:=an.size
       refine⟨?_,?_⟩
       .refine jD (M:=aV) bn (a5 _ _ az.wx a0.wx) (L4 V) λbN bq bB bt=>?_
        have b5:=bt.size
        intro br
        have bR:J bq br:=J.push _ _
        refine H8 V (bR.fz _) ?_
        intro bK
        let⟨bv,bx,b6⟩:=BX.new (f:=br) (d:=bK) bB rfl rfl
        have U:=Q.trans (an.trans bt)
        exact⟨rfl,by show K.size<=bq.size;omega,bN,_,bx,(az.ext U).ic bv (ad _),(aW.ext U).ext bv⟩
       .let⟨U,q⟩:=aG (g:=aV) V ((az.ext Q).ext an) ((aR.ext Q).ext an) ((aW.ext Q).ext an)
        exact H8 V (U.fz _) (R7 q (fH.le (U.bH λH hb=>(List.mem_cons.1 hb).elim (λz=>Or.inr V) Or.inl) bn) a0.wx)
      .let⟨U,q⟩:=aG (g:=aF) V (az.ext Q) (aR.ext Q) (aW.ext Q)
       exact H8 V (U.fz _) (R6 q (a0.ic U (ad _)))
     .let⟨U,q⟩:=aG (g:=ao) V (az.ext aa) (aR.ext aa) (aW.ext aa)
      exact H8 V (U.fz _) (R5 q (fH.le (U.bH λH hb=>(List.mem_cons.1 hb).elim (λz=>Or.inr V) Or.inl) bm) ak.wx)
    .let⟨U,q⟩:=aG (g:=am) V az aR aW
     exact H8 V (U.fz _) (R4 q (ak.ic U (ad _)))
   .let⟨U,q⟩:=aG (g:=al) V (a_.ext T) (bb.ext T) (Y.ext T)
    exact H8 V (U.fz _) (R3 q (a4.le (fh (U.fz _))))
  .let⟨U,q⟩:=aG (g:=ac) aK a_ bb Y
   exact H8 aK (U.fz _) (R2 q (a3.le (fh (U.fz _))))
 .let⟨U,q⟩:=aG (g:=K) (ad _) a9 ba r0
  have za:=U.size
  intro ac
  refine H8 (ad _) (U.fz _) ?_
  intro al
  have T:J ac al:=J.push _ _
  exact H8 za (T.fz _) (R2 (q.ext T) (wl ac q.s.r.lt))
 rintro⟨r,aS⟩ g ⟨ho,hk,s,B,H,hl,R⟩
 simp only at ho hk H hl
 subst ho
 have bv:=H.b.lt
 have a_:=bk hk
 have U:∀{u:E},g.size<=u.size->Lw b [ag.size,W.size,A.size,m.size] u:=λz=>L4 V
 have I:K.size<=g.size:=V
 have a0:∀{u:E},g.size<=u.size->∀F∈r::A.size::h,F<u.size:=λz=>a1 hk V
 refine⟨λu=>∃s B,BX (A.size::h) i j.length (w.params.length+3) r u s B/\Rs b o m (P+2*Cg 18) u/\g.size<=u.size,⟨V,V,_,E1 R.f,λ_=>?_,λ_=>⟨s,B,H,⟨R.f,R.r.mono V⟩,ad _⟩⟩,?_⟩
 .intro ac
  have N:J g ac:=J.push _ _
  have a3:ap (bH [b] ac) (.mk g.size 0 3 3) [3,0,3]:=wl g R.r.lt
  clear_value ac
  have aK:=N.size
  have Y:=R.ext N
  refine H5 I (N.fz _) ?_
  refine(eQ (S:=[b]) (by simp;exact Y.r.lt) (PS Y.f) a3 bF).mono λ_ al⟨ab,bQ,e',gw,qw,T⟩=>⟨(U aK).dv (T.fz _),ab,e',H5 V (T.fz _) ?_⟩
  have a4:IR b al ab (w.params++[3,0,3]):=qw▸GI.done gw (by simp;exact Y.r.lt) (by rw[<-qw];simp;omega)
  have bw:=T.size
  have aR:=Y.ext T
  refine Gc (v:=w.params++[3,0,3]) (S:=r::A.size::h) (a0 V) (by simp[aU]) (F.to aR.f aR.r) V a4 bF bs bh (U V) λaj a2 am ak a7 ae=>H3 V ae ?_
  have ak:HX (r::A.size::h) i j.length (w.params.length+3) am a2 aj:=by simpa using ak
  have bT:=ae.size
  refine wR (r::A.size::h) i j.length (a:=w.params.length+3) (U V) V λbn ao az aa=>H3 V (aa.fz _) ?_
  intro aF
  have aI:J ao aF:=J.push _ _
  have bU:=aa.size
  have bb:=(((hl.ext N).ext T).fz (by simp[aU]) ae).ext aa
  have hs:fH (bH (r::A.size::h) aF) (.mk ao.size 0 3 3) [.mk 9 C kl,aj,.mk 12 (ps.len+2) []]:=oV [(.mk 9 C kl,sl),(aj,a2),(.mk 12 (ps.len+2) [],bn)] aL (a0 V) (by simp;exact⟨bb.sl,(ak.ext aa).sl,az.sl⟩) rfl rfl
  have bV:=aI.size
  refine jD (M:=aF) hs (.Pz (by simp;exact⟨bb.wx,ak.wx,az.wx⟩)) (U V) λbq aV br an=>?_
  have aW:=((((H.ext N).ext T).fz (by simp[aU]) a_ ae).ext (aa.trans aI)).ext an
  have hb:=aW.set br
  have bm:=(((aR.to ae a7).ext (aa.trans aI)).ext an).put F.rd (k:=r) V 0 [.i 6,.i 3,.s bq]
  exact⟨aW.b.fL aL,λb' bt=>be _ _ _ _ (by simp at bt;omega),bq,.mk 6 3 [.mk 9 C kl,aj,.mk 12 (ps.len+2) []],hb,⟨bm.f,bm.r.mono V⟩,by rw[ax];have:=an.size;omega⟩
 rintro M3 ⟨s,B,H,R,aJ⟩
 refine⟨V,V,_,E1 R.f,_,H.b.cp 0,_,H.b.cp 1,_,H.b.cp 2,?_⟩
 refine wR (A.size::h) i j.length (a:=w.params.length) (U aJ) V λaV ac ak N=>?_
 have aK:=N.size
 have ae:∀{M1 M2:E}{aS:Nat},g.size<=M1.size->Fz [b] M1 M2->af M2 r aS=af M1 r aS:=λz D=>kg D hr ⟨V,V⟩ _
 refine⟨ae aJ (N.fz _),ae aJ (N.fz _),ae aJ (N.fz _),(E1 (R.f.then N)).trans (E1 R.f).symm,G V (N.fz _) V V,G V (N.fz _) V V,G V (N.fz _) V V,?_⟩
 have Y:=R.ext N
 refine Gc (S:=A.size::h) (ay V) aD (F.to Y.f Y.r) V (PS Y.f) V (F.gp.ty bc.2.2.1 bc.2.2.2) bh (U V) λaj aW al an aR T=>⟨ae V T,ae V T,ae V T,?_⟩
 have bw:=T.size
 intro am
 have aF:J al am:=J.push _ _
 have aI:=(H.ext N).fz aD a_ T
 have hs:fH (bH (A.size::h) am) (.mk al.size 0 3 3) [.mk 12 0 [],aj,B]:=oV [(.mk 12 0 [],aV),(aj,aW),(B,s)] aL (ay V) (by simp;exact⟨(ak.fz aD T).sl,an.sl,aI.h.fq.sl⟩) rfl rfl
 refine jD (M:=am) hs (.m3 F.gp.ds ak.wx an.wx H.h.wx) (U (oh aF.size)) λbn ao az aa=>?_
 exact az.iK (((Y.to T aR).ext aF).ext aa) F.rd V V
end
end
end Go.Proofs.YtkoifinbblcbiaaGreat
