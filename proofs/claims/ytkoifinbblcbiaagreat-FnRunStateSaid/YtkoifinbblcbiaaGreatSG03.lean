/- Part of a proof. -/
import Derived.Test.YtkoifinbblcbiaaGreatSG02
set_option linter.all false
set_option maxHeartbeats 8000000
set_option maxRecDepth 100000
namespace Go.Proofs.YtkoifinbblcbiaaGreat
open Go.Vc
section
variable{p:Nat->Prop}{o n:Nat}{i:Int}{f:O}
structure dm(p:Nat->Prop)(ro:Nat->Nat)(m:E)(ro':Nat->Nat)(m':E):Prop where
 size:m.size<=m'.size
 gW:∀b,b<m.size->ro' b=ro b
 new:∀b,m'.size<=b->ro' b=0
 eA:∀b,b<m.size->¬p (ro b)->m'[b]? =m[b]?
def dm.az(p:Nat->Prop){a:Nat->Nat}{m:E}(h:∀b,m.size<=b->a b=0):dm p a m a m:=⟨ad _,λ_ _=>rfl,h,λ_ _ _=>rfl⟩
def dm.trans{g i j:Nat->Nat}{d e f:E}(h:dm p g d i e)(k:dm p i e j f):dm p g d j f:=
 ⟨bI h.size k.size,λb a=>by rw[k.gW b (aO a h.size),h.gW b a],k.new,λb a c=>by
  rw[k.eA b (aO a h.size) (by rw[h.gW b a];exact c),h.eA b a c]⟩
def dm.mono{q:Nat->Prop}{b c:Nat->Nat}{m a:E}(h:dm p b m c a)(g:∀k,p k->q k):dm q b m c a:=⟨h.size,h.gW,h.new,λd e i=>h.eA d e λf=>i (g _ f)⟩
def dm.eG(p:Nat->Prop){c:Nat->Nat}{m d:E}(h:J m d)(e:∀b,m.size<=b->c b=0):dm p c m c d:=⟨h.size,λ_ _=>rfl,λb a=>e b (bI h.size a),λb a _=>h.same b a⟩
def dm.ah{a:Nat->Nat}{m:E}(g:∀b,m.size<=b->a b=0){b:Nat}(f:p (a b))(o:Nat)(l:List Ce):dm p a m a (ah m b o l):=
 ⟨uf (av _ _ _ _).symm,λ_ _=>rfl,λc d=>g c (by rw[av]at d;exact d),λc _ h=>bd _ _ _ _ λe=>h (e▸f)⟩
abbrev HC:=dm (λk=>k=3\/k=5\/k=6)
abbrev To:=dm (λk=>k≠0/\k≠9)
def dm.cv{g i:Nat->Nat}{c m f:E}(h:To g m i f)(e:J c m)(d:∀b,b<c.size->g b=0):J c f/\∀b,b<c.size->i b=0:=by
 have j:=e.size;exact⟨⟨bI j h.size,λb a=>by rw[h.eA b V (by simp[d b a]),e.same b a]⟩,λb a=>by rw[h.gW b V,d b a]⟩
def dm.dq{e f:Nat->Nat}{m d:E}(h:To e m f d){l:List Nat}(c:∀b∈l,b<m.size/\e b=0):eF l m d:=λb a=>h.eA b (c b a).1 (by simp[(c b a).2])
structure iJ(ro:Nat->Nat)(m:E)(e sz k:Nat)(s:O)(l:List Ce):Prop where
 len:l.length=s.len*sz
 le:s.len<=s.cap
 aG:s.cap=0\/∃b c tail,s=.mk b 0 s.len c/\ro b=k/\cD m b e (l++tail)/\(l++tail).length=c*sz
section
variable{c g:Nat->Nat}{b d:E}{e a k:Nat}{s:O}{l:List Ce}
def iJ.DA(h:iJ c b e a k s l)(f:s.cap=0):l=[]/\s.len=0:=by
 have:=h.le;have d:s.len=0:=V;exact⟨List.length_eq_zero_iff.1 (by rw[h.len,d];simp),d⟩
def iJ.iD(h:iJ c b e a k s l):fR b s.D s.off l:=by
 rcases h.aG with f|⟨j,d,tail,h1,h2,h3,h4⟩
 .rw[(h.DA f).1];intro i d g;simp at g
 .rw[h1];exact h3.iD.MZ
def iJ.wr(h:iJ c b e a k s l)(d:o+n<=l.length):fL b s.D (s.off+o) n:=by
 rcases h.aG with f|⟨g,i,tail,h1,h2,h3,h4⟩
 .rw[(h.DA f).1]at d;intro m j;simp at d;omega
 .rw[h1];simp only[O.jD,O.mZ,bT];exact h3.fL bF
def iJ.eA(h:iJ c b e a k s l)(p:s.cap≠0->d[s.D]? =b[s.D]?)(q:s.cap≠0->g s.D=c s.D):iJ g d e a k s l:=by
 refine⟨h.len,h.le,?_⟩;rcases h.aG with o|⟨m,n,tail,h1,h2,h3,h4⟩
 .exact Or.inl o
 .by_cases f:s.cap=0
  .exact Or.inl f
  .have i:=p f;have j:=q f;rw[h1]at i j;exact Or.inr ⟨m,n,tail,h1,j.trans h2,h3.congr i,h4⟩
def iJ.D(h:iJ c b e a k s l)(f:s.cap≠0):s.D<b.size/\c s.D=k:=by
 rcases h.aG with d|⟨g,i,tail,h1,h2,h3,h4⟩
 .exact absurd d f
 .rw[h1];exact⟨h3.lt,h2⟩
def iJ.eH(h:iJ c b e a k s l)(i:dm p c b g d)(j:¬p k):iJ g d e a k s l:=
 h.eA (λf=>i.eA _ (h.D f).1 (by rw[(h.D f).2];exact j)) (λf=>i.gW _ (h.D f).1)
def iJ.set(h:iJ c b e a k s l){new:List Ce}(w:o+new.length<=l.length):iJ c (ah b s.D (s.off+o) new) e a k s (je l o new):=by
 refine⟨by rw[kU];exact h.len,h.le,?_⟩;rcases h.aG with u|⟨j,n,tail,h1,h2,h3,h4⟩
 .exact Or.inl u
 .refine Or.inr ⟨j,n,tail,h1,h2,?_,by simp only[be,kU]at h4⊢;exact h4⟩;have p:s.D=j:=by rw[h1];rfl
  have q:s.off=0:=by rw[h1];rfl
  rw[p,q,bT];have:=cD.ah (m:=b) (o:=o) (r:=new) h3;have t:je (l++tail) o new=je l o new++tail:=by
   have f:(je l o new).length=l.length:=kU _ _ _;apply gX;intro i;rcases aW i l.length with d|d
   .have g:(je l o new++tail)[i]? =(je l o new)[i]? :=ax (by rw[f];exact d);rw[g,wt,wt];simp only[be];by_cases v:o<=i/\i<o+new.length
    .rw[an V,an V]
    .rw[ae V,ae V,ax d]
   .have g:(je l o new++tail)[i]? =tail[i -l.length]? :=by rw[aJ (by rw[f];exact d),f]
    rw[g,wt,ae V,aJ d]
  rw[t]at this;exact this
def iJ.cut(h:iJ c b e a k s l){n:Nat}(m:n<=s.len):iJ c b e a k (s.cut 0 n a) (l.take (n*a)):=by
 have j:=h.le;have q:=h.len;rcases h.aG with i|⟨f,g,tail,h1,h2,h3,h4⟩
 .have d:n=0:=V;cases s with
  |nil=>exact⟨by simp[d,O.cut],by simp[O.cut],Or.inl rfl⟩
  |zW f o p=>exact⟨by simp[d,O.cut],by simp[O.cut],Or.inl rfl⟩
  |mk f o r p=>simp at i;subst i;exact⟨by simp[d,O.cut],by simp[d,O.cut],Or.inl (by simp[O.cut])⟩
 .rw[h1];have d:s.len<=g:=by rw[h1]at j;exact j
  refine⟨?_,by simp[O.cut];omega,Or.inr ⟨f,g,l.drop (n*a)++tail,?_,h2,?_,?_⟩⟩
  .simp only[O.cut,O.gH,gL,Xv];have:n*a<=s.len*a:=dg _ m;omega
  .simp[O.cut]
  .rw[<-fE,dk];exact h3
  .rw[<-fE,dk];exact h4
end
def iJ.append{g:Nat->Nat}{f:E}{j l:Nat}{zs:List Ce}{u:Nat}{s x:O}{n c:List Ce}{K:O->E->Prop}(h:iJ g f j zs.length l s n)(t:∀a,f.size<=a->g a=0)
 (k:c.length=x.len*zs.length)(B:fR f x.D x.off c)(i:(s.len+x.len)*u<=140737488355328)
 (q:∀v p d,iJ v d j zs.length l p (n++c)->dm (λy=>y=l) g f v d->K p d):jO f j zs u s x K:=by
 have G:=h.le
 refine⟨c,k,B,λD=>?_,λF=>⟨i,n,h.len,h.iD,λd v=>?_⟩⟩
 .rcases h.aG with C|⟨a,d,tail,h1,h2,h3,h4⟩
  .have w:x.len=0:=V
   have A:c=[]:=List.length_eq_zero_iff.1 (by rw[k,w];simp)
   subst A
   refine⟨λy z=>by simp at z,?_⟩
   have p:=q g s _ (by rw[dX];exact h) (dm.az _ t)
   cases s with
   |nil=>exact p
   |zW a o H=>exact p
   |mk a o H d=>simp only[w,jH];exact p
  .have w:=h.len
   have A:s.cap=d:=by rw[h1];rfl
   rw[h1]
   simp only[O.jD,O.mZ,O.gH,bT]
   simp only[be]at h4
   have z:c.length<=tail.length:=by
    have y:(s.len+x.len)*zs.length<=d*zs.length:=dg _ V;rw[gQ]at y;omega
   refine⟨h3.fL (by simp only[be];omega),?_⟩
   have p:=cD.ah (m:=f) (b:=a) (e:=j) (r:=c) (o:=s.len*zs.length) h3
   rw[<-w,Cl n c tail z]at p
   refine q g _ _ ⟨?_,?_,Or.inr ⟨a,d,tail.drop c.length,rfl,h2,?_,?_⟩⟩ (dm.ah t h2 _ _)
   .simp only[be,O.gH,gQ];omega
   .simp only[O.gH,O.OC];omega
   .rw[<-w];exact p
   .simp only[be,List.length_drop];omega
 .refine q (λa=>if a=f.size then l else g a) _ _ ⟨?_,?_,Or.inr ⟨f.size,d,mK zs (d -(s.len+x.len)),rfl,aL,cD.push _ _ _,?_⟩⟩ ⟨aL,λa i=>ae V,λa i=>?_,λa i _=>by rw[mP,ae V]⟩
  .simp only[be,O.gH,gQ,h.len,k]
  .simpa using v
  .simp only[be,rQ,h.len,k]
   rw[Nat.sub_mul,<-gQ]
   have:(s.len+x.len)*zs.length<=d*zs.length:=dg _ v
   omega
  .simp at i;rw[ae V];exact t a V
def iJ.gD{d:Nat->Nat}{i m:E}{e f k:Nat}{s:O}{l:List Ce}(h:gY i m e f s l)(g:s≠.nil->d s.D=k):iJ d m e f k s l:=by
 refine⟨h.len,?_,?_⟩
 .rcases h.aG with a|⟨b,c,tail,a,h2,h3,h4,h5⟩
  .rw[a];exact ad _
  .rw[a];exact h5
 .rcases h.aG with a|⟨b,c,tail,a,h2,h3,h4,h5⟩
  .rw[a];exact Or.inl rfl
  .refine Or.inr ⟨b,c,tail,a,?_,h3,h4⟩;have:=g (by rw[a];simp);rw[a]at this;exact this
def iJ.nM{e:Nat->Nat}{m:E}{k:Nat}{s:O}{l:List Int}(h:iJ e m aA 1 k s (l.map Ce.i))(g:l.length<=9223372036854775807):ap m s l:=by
 have d:s.len=l.length:=by have:=h.len;simp at this;omega
 refine⟨d,h.le,V,λj x c=>⟨[.i x],rfl,λi f a=>?_⟩⟩;have b:i=0:=by have:=aw a;simp at this;omega
 subst b;simp at a;subst a;have:=h.iD j (.i x) (by simp[c]);simpa using this
def Ay(l:List Int)(i:Nat)(v:Int):je (l.map Ce.i) i [.i v]=(l.set i v).map Ce.i:=by simp[je,ue]
def iJ.gT{a:Nat->Nat}{m:E}{k:Nat}{s:O}{l:List Int}(h:iJ a m aA 1 k s (l.map Ce.i))(b:0<=i)(c:i<l.length)(v:Int):iJ a (ah m s.D (s.off+i.toNat*1) [.i v]) aA 1 k s ((Go.Proofs.YtkoifinbblcbiaaGreat.gT l i v).map Ce.i):=by
 have:=h.set (o:=i.toNat) (new:=[.i v]) bF;rw[Ay]at this;rw[eR];exact this
def iJ.Of{a:Nat->Nat}{m:E}{k:Nat}{s:O}{l:List Int}(h:iJ a m aA 1 k s (l.map Ce.i))(b:0<=i)(c:i<l.length):fL m s.D (s.off+i.toNat*1) 1:=by
 rw[eR];exact h.wr bF
def FB(m:E)(f:O)(l:List Int):Prop:=∃c tail,f=.mk f.D 0 f.len c/\cD m f.D aA (l.map Ce.i++tail)
def FN(N:Nat)(a:Nat->Nat)(m:E)(f:O)(l:List Int):Prop:=l≠[]->a f.D=0/\N<=f.D/\FB m f l
def yg(N:Nat)(b:Nat->Nat)(m:E)(a:List Ce)(c:bN):Prop:=∃f,a=[.i c.aQ,.i c.kj,.s f]/\ap m f c.aF/\FN N b m f c.aF
def Xx(e:List (List Ce)):Prop:=∀(i j:Nat)(c d:List Ce)(a b:O),e[i]? =some c->e[j]? =some d->c[2]? =some (.s a)->d[2]? =some (.s b)->i≠j->a.len≠0->b.len≠0->a.D≠b.D
def Xx.nil:Xx []:=λi j c d a b h=>by simp at h
def dL(N:Nat)(b:Nat->Nat)(m:E)(c:O)(h:List bN):Prop:=∃a,iJ b m lZ 3 3 c a.flatten/\gS 3 (yg N b m) a h/\Xx a
def Td(a:Nat->Nat)(m:E)(i:Nat)(b:List Ce)(f:aY):Prop:=
 ∃r o h,b=[.i f.fG,.i f.pc,.i f.dst,.s r,.s o,.s h]/\iJ a m aA 1 (10+3*i) r (f.ak.map Ce.i)/\iJ a m aA 1 (11+3*i) o (f.aR.map Ce.i)/\iJ a m aA 1 (12+3*i) h (f.ba.map Ce.i)
structure ZB(ro:Nat->Nat)(m:E)(fr:O)(fs:List aY)(css:List (List Ce)):Prop where
 qt:iJ ro m dP 6 4 fr css.flatten
 len:css.length=fs.length
 size:∀cs∈css,cs.length=6
 dz:∀(i:Nat)(cs:List Ce)(f:aY),css[i]? =some cs->fs[i]? =some f->Td ro m i cs f
def nJ(d:Nat->Nat)(m:E)(b:O)(c:List aY):Prop:=∃a,ZB d m b c a
def iT{m b:E}{l:List Int}(h:ap m f l)(j:l≠[]->b[f.D]? =m[f.D]?):ap b f l:=by
 by_cases a:l=[]
 .subst a;exact⟨h.len,h.cap,h.gV,aL⟩
 .exact⟨h.len,h.cap,h.gV,λo x n=>let⟨d,e,g⟩:=h.iD o x n;⟨d,e,λi c k=>by rw[aE (j a)];exact g i c k⟩⟩
def iI{m:E}{l:List Int}(h:ap m f l)(a:l≠[]):f.D<m.size:=by
 cases l with
 |nil=>exact absurd rfl a
 |cons b l=>exact lB (h.aG (k:=0) (x:=b) rfl)
def yg.eH{N:Nat}{k l:Nat->Nat}{m j:E}(c:dm p k m l j)(h:¬p 0)(e:List Ce)(d:bN):yg N k m e d->yg N l j e d:=λ⟨f,q,b,i⟩=>
 ⟨f,q,iT b λa=>c.eA _ (iI b a) (by rw[(i a).1];exact h),λa=>by
  let⟨g1,g2,n,tail,o,g⟩:=i a;exact⟨by rw[c.gW _ (iI b a)];exact g1,g2,n,tail,o,g.congr (c.eA _ g.lt (by rw[g1];exact h))⟩⟩
def dL.eH{N:Nat}{p:Nat->Prop}{d e:Nat->Nat}{m c:E}{b:O}{h:List bN}(n:dL N d m b h)(a:dm p d m e c)(g:¬p 0)(k:¬p 3):dL N e c b h:=by
 let⟨f,i,j,l⟩:=n;exact⟨f,i.eH a k,j.mono (yg.eH a g),l⟩
def Td.eH{p:Nat->Prop}{e g:Nat->Nat}{m d:E}(a:dm p e m g d){i:Nat}(b:∀k,10+3*i<=k->k<=12+3*i->¬p k){c:List Ce}{f:aY}:Td e m i c f->Td g d i c f:=λ⟨r,o,h,j,k,l,n⟩=>
 ⟨r,o,h,j,k.eH a (b _ V V),l.eH a (b _ V V),n.eH a (b _ V V)⟩
def nJ.eH{p:Nat->Prop}{g j:Nat->Nat}{m e:E}{a:O}{b:List aY}(r:nJ g m a b)(c:dm p g m j e)(d:∀k,(k=4\/10<=k)->¬p k):nJ j e a b:=by
 let⟨n,h⟩:=r;exact⟨n,h.qt.eH c (d 4 V),h.len,h.size,λi l f o q=>(h.dz i l f o q).eH c λk s _=>d k V⟩
structure vf(m0:E)(ro:Nat->Nat)(m:E)(mb e:Nat)(bx:List Ce)(aS hp fr:O)(lo:List Int)(lh:List bN)(lf:List aY):Prop where
 cv:J m0 m
 jK:∀b,b<m0.size->ro b=0
 new:∀b,m.size<=b->ro b=0
 box:cD m mb e bx
 QF:ro mb=1
 aS:iJ ro m aA 1 2 aS (lo.map Ce.i)
 heap:dL m0.size ro m hp lh
 ao:nJ ro m fr lf
section
variable{j:E}{b g:Nat->Nat}{a c:E}{d e:Nat}{h:List Ce}{aS l k:O}{r:List Int}{q:List bN}{o:List aY}
def vf.ext(L:vf j b a d e h aS l k r q o)(g:J a c):vf j b c d e h aS l k r q o/\To b a b c:=by
 have f:∀p,dm p b a b c:=λp=>dm.eG p g L.new;exact⟨⟨L.cv.trans g,L.jK,(f (λ_=>False)).new,L.box.ext g,L.QF,L.aS.eH (f (λ_=>False)) id,L.heap.eH (f (λ_=>False)) id id,L.ao.eH (f (λ_=>False)) λ_ _=>id⟩,f _⟩
def vf.jy(L:vf j b a d e h aS l k r q o)(i:Nat)(c:List Ce):vf j b (ah a d i c) d e (je h i c) aS l k r q o/\To b a b (ah a d i c):=by
 have f:dm (λg=>g=1) b a b (ah a d i c):=dm.ah L.new L.QF _ _;have n:To b a b (ah a d i c):=f.mono λg p=>V;let⟨b1,b2⟩:=n.cv L.cv L.jK;exact⟨⟨b1,b2,f.new,cD.ah (m:=a) L.box,L.QF,L.aS.eH f bn,L.heap.eH f bn bn,L.ao.eH f λg p=>V⟩,n⟩
def vf.mw(L:vf j b a d e h aS l k r q o){i:Nat}(c:i+n<=h.length):fL a d i n:=L.box.fL c
def vf.gE(L:vf j b a d e h aS l k r q o)(f:dm (λi=>i=3\/i=5\/i=6) b a g c){m:O}{p:List bN}(s:dL j.size g c m p):vf j g c d e h aS m k r p o/\To b a g c:=by
 have n:To b a g c:=f.mono λi t=>V;let⟨b1,b2⟩:=n.cv L.cv L.jK;exact⟨⟨b1,b2,f.new,L.box.congr (f.eA _ L.box.lt (by rw[L.QF];decide)),by rw[f.gW _ L.box.lt];exact L.QF,L.aS.eH f bn,s,L.ao.eH f λi t=>V⟩,n⟩
def vf.Ip(L:vf j b a d e h aS l k r q o)(f:dm (λi=>i=2) b a g c){p:O}{n:List Int}(s:iJ g c aA 1 2 p (n.map Ce.i)):vf j g c d e h p l k n q o/\To b a g c:=by
 have m:To b a g c:=f.mono λi t=>V;let⟨b1,b2⟩:=m.cv L.cv L.jK;exact⟨⟨b1,b2,f.new,L.box.congr (f.eA _ L.box.lt (by rw[L.QF];decide)),by rw[f.gW _ L.box.lt];exact L.QF,s,L.heap.eH f bn bn,L.ao.eH f λi t=>V⟩,m⟩
def vf.jM(L:vf j b a d e h aS l k r q o)(f:dm (λi=>4<=i/\i≠9) b a g c){m:O}{p:List aY}(s:nJ g c m p):vf j g c d e h aS l m r q p/\To b a g c:=by
 have n:To b a g c:=f.mono λi t=>V;let⟨b1,b2⟩:=n.cv L.cv L.jK;exact⟨⟨b1,b2,f.new,L.box.congr (f.eA _ L.box.lt (by rw[L.QF];decide)),by rw[f.gW _ L.box.lt];exact L.QF,L.aS.eH f bn,L.heap.eH f bn bn,s⟩,n⟩
end
end
section
variable{α:Type}{k:Nat}
def up{α:Type}(f:Nat->α)(k:Nat)(x:α):Nat->α:=λj=>if j=k then x else f j
@[simp] theorem Hs (f:Nat->α) (k:Nat) (x:α):up f k x k=x:=an rfl
def Qu(f:Nat->α)(k:Nat)(x:α){j:Nat}(h:j≠k):up f k x j=f j:=ae h
def Qj(a:Nat->O):List Ce:=[.s (a 0),.s (a 1),.s (a 2),.s (a 3),.s (a 4),.s (a 5),.s (a 6)]
def SN(a:Nat->O)(b:k<7):(Qj a)[k]? =some (.s (a k)):=by
 rcases k with _|_|_|_|_|_|_|k<;>first|rfl|omega
def Ob(a:Nat->O)(b:k<7)(r:O):je (Qj a) k [.s r]=Qj (up a k r):=by
 rcases k with _|_|_|_|_|_|_|k<;>first|rfl|omega
structure jv(ro:Nat->Nat)(m:E)(lb:Nat)(sl:Nat->O)(L:Nat->List Int):Prop where
 new:∀b,m.size<=b->ro b=0
 gW:ro lb=8
 box:cD m lb BQ (Qj sl)
 qt:∀k,k<7->iJ ro m aA 1 (k+1) (sl k) ((L k).map Ce.i)
section
variable{f j:Nat->Nat}{a h:E}{d:Nat}{b:Nat->O}{L:Nat->List Int}
def jv.cp(h:jv f a d b L){k:Nat}(c:k<7):af a d k=some (O.v (b k)):=by
 rw[h.box.cp,SN b c];rfl
def jv.nM(h:jv f a d b L){k:Nat}(c:k<7)(e:(L k).length<=10^12):ap a (b k) (L k):=(h.qt k c).nM V
def jv.len(h:jv f a d b L){k:Nat}(c:k<7):(b k).len=(L k).length:=by have:=(h.qt k c).len;simp at this;omega
def jv.to(h:jv f a d b L):To f a f a:=dm.az _ h.new
def jv.ext(c:jv f a d b L)(e:J a h):jv f h d b L:=
 ⟨λi l=>c.new i (bI e.size l),c.gW,c.box.congr (e.same d c.box.lt),λk g=>(c.qt k g).eA (λj=>e.same _ ((c.qt k g).D j).1) λ_=>rfl⟩
def jv.kL(p:jv f a d b L)(s:k<7)(C:(L k).length<=10^12)(i:Int){K:O->E->Prop}
 (B:∀j r h,To f a j (ah h d k [.s r])->jv j (ah h d k [.s r]) d (up b k r) (up L k (L k++[i]))->K r h):
 jO (a.push (.cells (bt [.i i]) aA)) aA [.i 0] 8 (b k) (.mk a.size 0 1 1) λr h=>fL h d k 1/\K r h:=by
 have z:=J.push a (.cells (bt [.i i]) aA)
 have c:=p.ext z
 have D:=p.len s
 refine iJ.append (zs:=[.i 0]) (c:=[.i i]) (c.qt k s) c.new aL ((cD.push a (e:=aA) (l:=[.i i])).iD) (by simp only[O.gH];omega) λj r h v n=>?_
 have x:cD h d BQ (Qj b):=c.box.congr (n.eA d c.box.lt (by simp only[c.gW];omega))
 have o:j d=8:=by rw[n.gW d c.box.lt,c.gW]
 have A:To f a j h:=(dm.eG _ z p.new).trans (n.mono λt y=>V)
 have u:To f a j (ah h d k [.s r]):=A.trans (dm.ah n.new (by simp only[o];omega) _ _)
 refine⟨x.fL (by show k+1<=7;omega),B j r h u ⟨u.new,o,Ob b s r▸cD.ah (m:=h) x,λt y=>?_⟩⟩
 by_cases g:t=k
 .subst g
  rw[Hs,Hs,fu]
  refine v.eA (λq=>bd _ _ _ _ λg=>?_) λ_=>rfl
  have:=(v.D q).2
  rw[g,o]at this;omega
 .rw[Qu _ _ _ g,Qu _ _ _ g]
  have w:=(c.qt t y).eH n V
  refine w.eA (λq=>bd _ _ _ _ λg=>?_) λ_=>rfl
  have:=(w.D q).2
  rw[g,o]at this;omega
def jv.put(h:jv f a d b L){i:Nat}(r:k<7)(n:i<(L k).length)(x:Int):
 fL a (b k).D ((b k).off+i*1) 1/\jv f (ah a (b k).D ((b k).off+i*1) [.i x]) d b (up L k ((L k).set i x))/\To f a f (ah a (b k).D ((b k).off+i*1) [.i x]):=by
 have g:=h.qt k r
 have s:(L k).map Ce.i≠[]:=λe=>by simp at e;rw[e]at n;simp at n
 have j:(b k).cap≠0:=λj=>s (g.DA j).1
 let⟨t,l⟩:=g.D j
 have c:To f a f (ah a (b k).D ((b k).off+i*1) [.i x]):=dm.ah h.new (by simp only[l];omega) _ _
 refine⟨g.wr bF,⟨c.new,h.gW,h.box.congr (bd _ _ _ _ λe=>by have:=h.gW;rw[e,l]at this;omega),λp q=>?_⟩,c⟩
 by_cases e:p=k
 .subst e
  rw[Hs]
  have:=g.set (o:=i*1) (new:=[.i x]) bF
  rw[Ay,eR]at this
  rw[eR];exact this
 .rw[Qu _ _ _ e]
  have m:=h.qt p q
  refine m.eA (λj=>bd _ _ _ _ λe=>?_) λ_=>rfl
  have:=(m.D j).2
  rw[e,l]at this;omega
def jv.Xl(h:jv f a d b L)(j:k<7){r:O}{l:List Int}(o:iJ f a aA 1 (k+1) r (l.map Ce.i)):
 fL a d k 1/\jv f (ah a d k [.s r]) d (up b k r) (up L k l)/\To f a f (ah a d k [.s r]):=by
 have c:To f a f (ah a d k [.s r]):=dm.ah h.new (by simp only[h.gW];omega) _ _
 refine⟨h.box.fL (by show k+1<=7;omega),⟨c.new,h.gW,Ob b j r▸cD.ah (m:=a) h.box,λn g=>?_⟩,c⟩
 have K:∀{i s l},iJ f a aA 1 (i+1) s l->i<7->iJ f (ah a d k [.s r]) aA 1 (i+1) s l:=λ{i s l} g' hk'=>by
  refine g'.eA (λp=>bd _ _ _ _ λe=>?_) λ_=>rfl;have:=(g'.D p).2;rw[e,h.gW]at this;omega
 by_cases e:n=k
 .subst e
  rw[Hs,Hs];exact K o j
 .rw[Qu _ _ _ e,Qu _ _ _ e];exact K (h.qt n g) g
def jv.cut(h:jv f a d b L){k n:Nat}(c:k<7)(l:n<=(L k).length):
 n<=(b k).cap/\fL a d k 1/\jv f (ah a d k [.s ((b k).cut 0 n 1)]) d (up b k ((b k).cut 0 n 1)) (up L k ((L k).take n))/\To f a f (ah a d k [.s ((b k).cut 0 n 1)]):=by
 have g:=h.qt k c
 have i:=h.len c
 have j:=g.le
 have e:=g.cut (n:=n) V
 rw[eR,<-Ok]at e
 exact⟨V,h.Xl c e⟩
end
structure ql(ds:List bz)(n b:Nat)(L:Nat->List Int):Prop where
 len:∀k,k<6->(L k).length=n
 Xi:∀(v:Nat)(p:Int),(L 2)[v]? =some p->p<v
 Pr:∀(v:Nat)(c f:Int),(L 3)[v]? =some c->(L 4)[v]? =some f->0<=c->0<=f/\f+((cB ds c).length:Int)<=b
 cR:(L 6).length<=10^12
abbrev sI(a:List bz)(n:Nat)(L:Nat->List Int):Prop:=ql a n n L
def Lf(L:Nat->List Int)(t o p:Int):Nat->List Int:=up (up (up (up (up (up L 0 (L 0++[t])) 1 (L 1++[o])) 2 (L 2++[p])) 3 (L 3++[-1])) 4 (L 4++[-1])) 5 (L 5++[-1])
def A2{j:Nat->Nat}{m:E}{b:Nat}{x:Nat->O}{L:Nat->List Int}(h:jv j m b x L)(a:∀k,k<6->(L k).length<=10^12)(t o p:Int):
 aN cq 264 [vp b 0,vi t,vi o,vi p] m λ_ i=>∃l y,To j m l i/\jv l i b y (Lf L t o p):=by
 apply xK (b,0)
 simp -zeta only[bT]
 refine⟨_,h.cp (k:=0) bn,?_⟩
 intro z
 refine h.kL (k:=0) bn (a 0 bn) t λN U G n c=>⟨_,c.cp (k:=1) bn,?_⟩
 intro A
 refine c.kL (k:=1) bn (a 1 bn) o λP V H q d=>⟨_,d.cp (k:=2) bn,?_⟩
 intro B
 refine d.kL (k:=2) bn (a 2 bn) p λQ W I r e=>⟨_,e.cp (k:=3) bn,?_⟩
 intro C
 refine e.kL (k:=3) bn (a 3 bn) (-1) λR X J s f=>⟨_,f.cp (k:=4) bn,?_⟩
 intro D
 refine f.kL (k:=4) bn (a 4 bn) (-1) λS Y K u g=>⟨_,g.cp (k:=5) bn,?_⟩
 intro F
 exact g.kL (k:=5) bn (a 5 bn) (-1) λT Z M v w=>⟨_,_,((((n.trans q).trans r).trans s).trans u).trans v,w⟩
end
section
variable{l:List Int}{d:Nat->Nat}{a:E}{P:(Nat->List Int)->Prop}{b:Nat}{v:Int}
def GI.aS{S:List Nat}{n m:E}{s:O}(h:GI S n m s l):gY n m aA 1 s (l.map Ce.i):=by
 have u:=h.len bn;let⟨r,d,o,a⟩:=h;have t:d.flatten.length=l.length:=by rw[cw a.size,a.len];omega
 have q:d.flatten=l.map Ce.i:=by
  apply gX;intro e;rcases aW e l.length with b|b
  .let⟨x,k⟩:=dB b;let⟨f,j⟩:=cG d e (by rw[a.len];exact b);have p:f=[.i x]:=a.dz e f x j k;have g:=fY (g:=1) a.size j (i:=0) (c:=.i x) (by rw[p];rfl);simp only[eR,jH]at g;rw[g];simp[k]
  .rw[cN V,cN (by simpa using b)]
 rw[<-q];exact o
def Cp(f:Nat->Nat)(m:E)(e:Nat)(P:(Nat->List Int)->Prop)(v:Value)(a:E):Prop:=∃(b:Bool)(d:Nat->Nat),v=vb b/\To f m d a/\(b=true->∃g c,jv d a e g c/\P c)
def Cp.no{b:Nat->Nat}{m:E}{c:Nat}(h:To b m d a):Cp b m c P (vb false) a:=⟨false,d,rfl,h,aL⟩
def Cp.Pt{c:Nat->Nat}{m:E}{b:Nat}{e:Nat->O}{L:Nat->List Int}(h:To c m d a)(f:jv d a b e L)(g:P L):Cp c m b P (vb true) a:=⟨true,d,rfl,h,λ_=>⟨e,L,f,g⟩⟩
def Cp.mono{e:Nat->Nat}{m:E}{c:Nat}{Q:(Nat->List Int)->Prop}{v:Value}(h:Cp e m c P v a)(n:∀L,P L->Q L):Cp e m c Q v a:=let⟨b,d,f,g,i⟩:=h;⟨b,d,f,g,λl=>let⟨o,L,j,k⟩:=i l;⟨o,L,j,n L k⟩⟩
def ql.aR{a:List bz}{n:Nat}{L:Nat->List Int}(h:ql a n b L)(g:l.length=n):ql a n b (up L 1 l):=
 ⟨λk d=>by by_cases e:k=1<;>simp_all [up,h.len k],λv p=>by simpa[up]using h.Xi v p,λv c f=>by simpa[up]using h.Pr v c f,by simpa[up]using h.cR⟩
def ql.tok{a:List bz}{n:Nat}{L:Nat->List Int}(h:ql a n b L)(g:l.length=n):ql a n b (up L 5 l):=
 ⟨λk d=>by by_cases e:k=5<;>simp_all [up,h.len k],λv p=>by simpa[up]using h.Xi v p,λv c f=>by simpa[up]using h.Pr v c f,by simpa[up]using h.cR⟩
def Lc{b x:Int}{v:Nat}(h:(l++[b])[v]? =some x):l[v]? =some x\/v=l.length/\x=b:=by
 rcases aW v l.length with a|a
 .rw[ax a]at h;exact Or.inl h
 .rw[aJ a]at h;have:=aw h;simp at this;have e:v=l.length:=V;subst e;simp at h;exact Or.inr ⟨rfl,h.symm⟩
def ql.DR{c:List bz}{n a:Nat}{L:Nat->List Int}(h:ql c n b L)(j:b<=a):ql c n a L:=
 ⟨h.len,h.Xi,λv d f g i e=>oh (h.Pr v d f g i e),h.cR⟩
def ql.OO{f:List bz}{n:Nat}{L:Nat->List Int}(h:ql f n b L)(u t:Int){p:Int}(r:p<n):ql f (n+1) b (Lf L u t p):=by
 have a:=h.len;refine⟨λk w=>?_,λv q s=>?_,λv e g j m i=>?_,by simpa[Lf,up]using h.cR⟩
 .rcases k with _|_|_|_|_|_|k<;>first|omega|(simp[Lf,up,a])
 .have d:(L 2++[p])[v]? =some q:=by simpa[Lf,up]using s
  rcases Lc d with c|⟨rfl,rfl⟩
  .exact h.Xi v q c
  .rw[a 2 bn];exact r
 .have l:(L 3++[-1])[v]? =some e:=by simpa[Lf,up]using j
  have o:(L 4++[-1])[v]? =some g:=by simpa[Lf,up]using m
  rcases Lc l with c|⟨rfl,rfl⟩
  .rcases Lc o with d|⟨d,rfl⟩
   .have:=h.Pr v e g c d i;omega
   .have:=aw c;rw[a 4 bn]at d;rw[a 3 bn]at this;omega
  .omega
section
variable{f:Nat->Nat}{m:E}{e:Nat}{g:Nat->O}{L:Nat->List Int}{h:List bz}{c:Nat}
def jv.aG(h:jv f m e g L){k:Nat}(b:k<7)(c:(L k).length<=10^12){i:Nat}{x:Int}(a:(L k)[i]? =some x):af m (g k).D ((g k).off+i*1)=some (vi x):=(h.nM b c).aG a
def uU(a:jv f m e g L)(q:sI h c L)(u:c<=10^12)(b:0<=v)(s:v<c):aN cq 265 [vp e 0,vi v] m (Cp f m e λd=>∃l:List Int,l.length=c/\d=up L 1 l):=by
 apply xO (e,0);simp -zeta only[bT];have o:=q.len 1 bn;have t:=a.len (k:=1) bn;let⟨x,r⟩:=cG (L 1) v.toNat;have j:=a.aG bn V r;have d:=a.cp (k:=1) bn;let⟨w,p,n⟩:=a.put (k:=1) (i:=v.toNat) bn V (cO (x -1));exact⟨_,d,b,V,x,j,λ_=>.no a.to,λ_=>⟨_,d,_,d,b,V,x,j,b,V,w,.Pt n p ⟨_,by simp[o],rfl⟩⟩⟩
def sR(q:jv f m e g L)(j:sI h c L)(t:c<=10^12)(i:0<=v)(o:v<c):oV 225 [vp e 0,vi v] m:=by
 apply wH (e,0);refine⟨λv a=>0<=v/\v<(c:Int)/\J m a,λv _=>v.toNat,⟨i,o,J.az _⟩,?_⟩;rintro v A ⟨i,o,d⟩;have H:=q.ext d;have w:=H.len (k:=1) bn;have z:=H.len (k:=2) bn;have C:=j.len 1 bn;have D:=j.len 2 bn;let⟨x,s⟩:=cG (L 1) v.toNat;let⟨y,p⟩:=cG (L 2) v.toNat;have u:=j.Xi _ _ p;refine⟨_,H.cp (k:=1) bn,i,V,x,H.aG bn V s,λ_=>⟨_,H.cp (k:=6) bn,?_⟩,λ_=>rA d⟩;refine(dv (H.nM (k:=6) bn j.cR) v).then λb B _ l=>⟨_,rfl,λ_=>?_,λ_=>rA (d.trans l)⟩;have n:=H.ext l;refine⟨_,n.cp (k:=2) bn,i,V,y,n.aG bn V p,λ_=>rA (d.trans l),λr=>?_⟩;simp only[bE]at r;exact⟨⟨V,V,d.trans l⟩,by show y.toNat<v.toNat;omega⟩
def LZ(i:jv f m e g L)(u:sI h c L)(R:c<=10^12){b:Nat}(H:b<=c):aN cq 338 [vp e 0,vi b] m (Cp f m e λd=>(∀j,j<6->(d j).length=b)/\(d 6).length<=10^12):=by
 apply zg (e,0);simp -zeta only[bT];refine⟨λv a=>(b:Int)<=v/\v<=c/\a=m,λv _=>((c:Int) -v).toNat,⟨V,V,rfl⟩,?_⟩;rintro v W ⟨P,p,rfl⟩;have o:=λj(G:j<6)=>i.len (k:=j) V;have d:=u.len;have S:=o 0 bn;have T:=o 1 bn;have U:=o 5 bn;have n0:=d 0 bn;have n1:=d 1 bn;have n5:=d 5 bn;refine⟨_,i.cp (k:=0) bn,λw=>?_,λw=>?_⟩
 .simp only[ar]at w;let⟨x,q⟩:=cG (L 1) v.toNat;let⟨y,r⟩:=cG (L 5) v.toNat;refine⟨_,i.cp (k:=1) bn,V,V,x,i.aG bn V q,λ_=>.no i.to,λ_=>⟨_,i.cp (k:=5) bn,V,V,y,i.aG bn V r,λ_=>.no i.to,λ_=>?_⟩⟩;rw[aP V V];exact⟨⟨V,V,rfl⟩,by show((c:Int) -(v+1)).toNat<((c:Int) -v).toNat;omega⟩
 .have tk:∀{l:List Int},l.length=c->(l.take b).length=b:=λQ=>bF;have D:Int.toNat (0:Int)=0:=rfl;have E:Int.toNat (b:Int)=b:=V;rw[D,E];let⟨p1,I,p,x⟩:=i.cut (k:=0) (n:=b) bn (by rw[d 0 bn];exact H);refine⟨_,i.cp (k:=0) bn,V,V,V,I,?_⟩;intro X;let⟨p2,J,q,y⟩:=p.cut (k:=1) (n:=b) bn (by simp[up,d];omega);refine⟨_,p.cp (k:=1) bn,V,V,V,J,?_⟩;intro Y;let⟨p3,K,r,z⟩:=q.cut (k:=2) (n:=b) bn (by simp[up,d];omega);refine⟨_,q.cp (k:=2) bn,V,V,V,K,?_⟩;intro Z;let⟨p4,M,s,A⟩:=r.cut (k:=3) (n:=b) bn (by simp[up,d];omega);refine⟨_,r.cp (k:=3) bn,V,V,V,M,?_⟩;intro m5;let⟨p5,N,t,B⟩:=s.cut (k:=4) (n:=b) bn (by simp[up,d];omega);refine⟨_,s.cp (k:=4) bn,V,V,V,N,?_⟩;intro m6;let⟨p6,O,F,C⟩:=t.cut (k:=5) (n:=b) bn (by simp[up,d];omega);refine⟨_,t.cp (k:=5) bn,V,V,V,O,?_⟩;intro m7;refine Cp.Pt (((((x.trans y).trans z).trans A).trans B).trans C) F ⟨λj G=>?_,?_⟩
  .rcases j with _|_|_|_|_|_|j<;>first|omega|(simp[up,d];omega)
  .simpa[up]using u.cR
end
end
section
variable{a:Nat->Nat}{m d c:E}{X:List Nat}
def XY(m:E)(P:(Nat->List Int)->Prop)(v:Value)(c:E):Prop:=∃d,v=vp d 0/\J m c/\∃a e L,(∀b,b<m.size->a b=0)/\jv a c d e L/\P L
def Nf{t:Nat}{sl:Nat->O}{L:Nat->List Int}(h:jv a m t sl L)(S:∀b,b<7->(L b).length<=10^12):
 aN cq 325 [vp t 0] m (XY m λc=>∀b,b<7->c b=L b):=by
 apply vx (t,0)
 simp -zeta only[bT]
 refine⟨_,h.cp (k:=0) bn,_,h.cp (k:=1) bn,_,h.cp (k:=2) bn,_,h.cp (k:=3) bn,_,h.cp (k:=4) bn,_,h.cp (k:=5) bn,_,h.cp (k:=6) bn,?_⟩
 have C:∀{M:E}(b:Nat),b<7->J m M->k8 66 [O.v (sl b)] M [] (L b=·):=λb z y=>bO [] ((h.ext y).nM z (S b z)) (S b z)
 have c:∀{M H:E},J m M->J M H->∀B,af H t B=af M t B:=λy x' B=>aE (x'.same t (y.lt h.box.lt)) B
 have i:=J.az m
 refine(C 0 bn i).then λU _ m1 I e d=>⟨_,rfl,c i d _,c i d _,c i d _,c i d _,c i d _,c i d _,?_⟩
 subst e
 refine(C 1 bn d).then λW _ m2 g1 e j=>⟨_,rfl,c d j _,c d j _,c d j _,c d j _,c d j _,?_⟩
 subst e
 have u:=d.trans j
 refine(C 2 bn u).then λX _ m3 g2 e l=>⟨_,rfl,c u l _,c u l _,c u l _,c u l _,?_⟩
 subst e
 have x:=u.trans l
 refine(C 3 bn x).then λY _ m4 K e n=>⟨_,rfl,c x n _,c x n _,c x n _,?_⟩
 subst e
 have D:=x.trans n
 refine(C 4 bn D).then λZ _ m5 N e o=>⟨_,rfl,c D o _,c D o _,?_⟩
 subst e
 have G:=D.trans o
 refine(C 5 bn G).then λs5 _ m6 P e p=>⟨_,rfl,c G p _,?_⟩
 subst e
 have u6:=G.trans p
 refine(C 6 bn u6).then λs6 _ v Q e q=>⟨_,rfl,?_⟩
 subst e
 intro w
 have r:J v w:=J.push _ _
 have z0:=i.size;have z1:=d.size;have z2:=j.size;have z3:=l.size;have z4:=n.size;have z5:=o.size;have z6:=p.size;have z7:=q.size
 have s8:w.size=v.size+1:=by simp[w]
 have y0:=I.bh;have y1:=g1.bh;have y2:=g2.bh;have y3:=K.bh;have y4:=N.bh;have y5:=P.bh;have y6:=Q.bh
 let f:Nat->Nat:=λg=>if g<m.size then 0 else if g<m1.size then 1 else if g<m2.size then 2 else if g<m3.size then 3 else if g<m4.size then 4 else if g<m5.size then 5 else if g<m6.size then 6 else if g<v.size then 7 else if g=v.size then 8 else 0
 let ab:Nat->O:=λb=>if b=0 then U else if b=1 then W else if b=2 then X else if b=3 then Y else if b=4 then Z else if b=5 then s5 else s6
 have A:∀{m0 M:E}{F:O}{T:List Int}{b:Nat},GI [] m0 M F T->J M w->f F.D=b->iJ f w aA 1 b F (T.map Ce.i):=λaa y hr=>iJ.gD (aa.aS.ext y) λ_=>hr
 refine⟨v.size,rfl,u6.trans (q.trans r),f,ab,L,λg R=>an R,⟨λg R=>?_,?_,cD.push _ _ _,λb z=>?_⟩,λ_ _=>rfl⟩
 .simp only[f]
  repeat rw[ae V]
 .simp only[f]
  repeat rw[ae V]
  simp
 .rcases b with _|_|_|_|_|_|_|b
  .exact A (F:=U) (b:=1) I (j.trans (l.trans (n.trans (o.trans (p.trans (q.trans r)))))) (by simp only[f];rw[ae V,an V])
  .exact A (F:=W) (b:=2) g1 (l.trans (n.trans (o.trans (p.trans (q.trans r))))) (by simp only[f];rw[ae V,ae V,an V])
  .exact A (F:=X) (b:=3) g2 (n.trans (o.trans (p.trans (q.trans r)))) (by simp only[f];rw[ae V,ae V,ae V,an V])
  .exact A (F:=Y) (b:=4) K (o.trans (p.trans (q.trans r))) (by simp only[f];rw[ae V,ae V,ae V,ae V,an V])
  .exact A (F:=Z) (b:=5) N (p.trans (q.trans r)) (by simp only[f];rw[ae V,ae V,ae V,ae V,ae V,an V])
  .exact A (F:=s5) (b:=6) P (q.trans r) (by simp only[f];rw[ae V,ae V,ae V,ae V,ae V,ae V,an V])
  .exact A (F:=s6) (b:=7) Q r (by simp only[f];rw[ae V,ae V,ae V,ae V,ae V,ae V,ae V,an V])
  .omega
structure HG(d:E)(X:List Nat)(a:Nat->Nat)(m:E):Prop where
 ext:J d m
 gJ:∀b,b<d.size->a b=0
 box:∀b∈X,b<m.size/\a b=0
def HG.to{g:Nat->Nat}(h:HG d X a m)(e:To a m g c):HG d X g c:=by
 let⟨i,j⟩:=e.cv h.ext h.gJ;exact⟨i,j,λb f=>⟨aO (h.box b f).1 e.size,by rw[e.gW b (h.box b f).1];exact(h.box b f).2⟩⟩
def HG.dq{d m c:E}{X:List Nat}{a e:Nat->Nat}(h:HG d X a m)(b:To a m e c):eF X m c:=b.dq h.box
def HG.hO(h:HG d X a m)(x:J m c):HG d X a c:=⟨h.ext.trans x,h.gJ,λb e=>⟨x.lt (h.box b e).1,(h.box b e).2⟩⟩
def IN{p I aa:O}{q:gR}(s:ap m p q.params)(F:ap m I q.cR)(ad:q.params.length<=3)(ac:q.cR.length<=3)(w:List bz):
 aN cq 243 [.agg #[O.v p,O.v I,vi q.aT,O.v aa,vi q.body.aT]] m (XY m (sI w q.params.length)):=by
 apply Bi
 simp -zeta only[aD,aC]
 intro e
 have v:J m e:=J.push _ _
 have s1:e.size=m.size+1:=by simp[e]
 have W:∀b∈[m.size],b<e.size:=by simp[e]
 clear_value e
 refine(bO [] (F.ext v) V).aH (J.az e) W λs6 _ f D o K _=>⟨_,rfl,?_⟩
 subst o
 intro t
 have P:J f t:=J.push _ _
 have s3:t.size=f.size+1:=by simp[t]
 have z2:=K.size
 have y6:=D.bh
 let h:Nat->Nat:=λb=>if b<e.size then 0 else if b<f.size then 7 else if b=f.size then 8 else 0
 let d:Nat->List Int:=λk=>if k<6 then[]else q.cR
 let r:Nat->O:=λk=>if k<6 then .nil else s6
 have R:jv h t f.size r d:=by
  refine⟨λb l=>?_,?_,cD.push _ _ _,λk B=>?_⟩
  .simp only[h];repeat rw[ae V]
  .simp only[h];repeat rw[ae V]
   simp
  .by_cases g:k<6
   .simp only[r,d,an g];exact⟨aL,aL,Or.inl rfl⟩
   .have o:k=6:=V;subst o;simp only[r,d,ae g];refine iJ.gD (D.aS.ext P) λ_=>?_;simp only[h];rw[ae V,an V]
 have T:sI w 0 d:=by
  refine⟨λk B=>by simp only[d,an B];rfl,λg p s=>by simp[d]at s,λg j i z=>by simp[d]at z,by simp[d];omega⟩
 have gJ:∀b,b<e.size->h b=0:=λb l=>an l
 clear_value h d r
 have ag:=s.len
 refine dT (n:=q.params.length) V (λk M=>∃a C L,HG e [m.size] a M/\jv a M f.size C L/\sI w k L) ⟨h,r,d,⟨K.trans P,gJ,λb l=>by simp at l;subst l;exact⟨V,gJ _ V⟩⟩,R,T⟩ ?_
 rintro k M S μ B ⟨a,C,L,i,H,A⟩ Z
 refine dit (λU=>?_) λU=>?_
 .let⟨y,X⟩:=cG q.params k
  have N:∀(u:Int){g:E},J M g->aN cq 264 [vp f.size 0,vi y,vi u,vi (-1:Int)] g λ_ c=>eF [m.size] g c/\S (cO ((k:Int)+1)) c/\μ (cO ((k:Int)+1)) c<μ k M:=λu g x=>
   (A2 (H.ext x) (λY Q=>by rw[A.len Y Q];omega) y u (-1)).mono λ_ c⟨Y,ab,j,Q⟩=>⟨(i.hO x).dq j,Z V _ ⟨Y,ab,_,(i.hO x).to j,Q,(A.OO y u V).DR V⟩⟩
  have G:∀{g:E},J M g->af g p.D (p.off+Int.toNat (k:Int)*1)=some (vi y):=λx=>(s.ext (v.trans (i.ext.trans x))).aG X
  refine⟨V,V,y,G (J.az _),λ_=>?_,λ_=>⟨V,V,y,G (J.az _),N 0 (J.az _)⟩⟩
  refine(dv (F.ext (v.trans i.ext)) (k:Int)).then λb M2 _ x=>⟨λj z=>x.same j (i.box j z).1,_,rfl,λ_=>⟨V,V,y,G x,N 1 x⟩,λ_=>⟨V,V,y,G x,N 0 x⟩⟩
 .have o:k=q.params.length:=V
  subst o
  exact⟨f.size,rfl,v.trans i.ext,a,C,L,λb l=>i.gJ b V,H,A⟩
end
section
def jv.Vz{b:Nat->Nat}{m f:E}{q:Nat}{a:Nat->O}{L:Nat->List Int}(h:jv b m q a L)(gJ:∀c,c<f.size->b c=0){k p:Nat}(l:k<7)(c:p<(L k).length):f.size<=(a k).D/\(a k).D<m.size/\b (a k).D=k+1:=by
 have g:=h.qt k l;have o:(L k).map Ce.i≠[]:=λe=>by simp at e;rw[e]at c;simp at c
 let⟨j,d⟩:=g.D λi=>o (g.DA i).1;refine⟨Hx λn=>?_,j,d⟩;rw[gJ _ n]at d;omega
def HG.Tx{c m a g:E}{d:Nat->Nat}{o1 o2:Obj}(j:J c m)(gJ:∀b,b<c.size->d b=0)(k:∀b,m.size<=b->d b=0)(e:a=m.push o1)(h:g=a.push o2):HG c [a.size,m.size] d g:=by
 let⟨l,i⟩:=dD e h;subst e;exact⟨j.trans l,gJ,λb f=>⟨i b f,k b (by simp at f;omega)⟩⟩
section
variable{e:Nat->Nat}{m b:E}{g:Nat}{p:Nat->O}{L:Nat->List Int}{f:List bz}{l:List gR}{h:Nat}{d r a o:O}{x:cU}{c:Prop}{q:Nat}
def Qm(hx:J b m)(gJ:∀u,u<b.size->e u=0)(K:jv e m g p L)(N:sI f h L)(hn:h<=10^12)(hN:eL b d r f l)(ha:ap b a x.args)(hf:UG f q c h x)(an:14<=x.op):
 aN cq 266 [vp g 0,.agg #[O.v d,O.v r],pv x a o] m (Cp e m g (sI f h)):=by
 apply xL (g,0)
 simp -zeta only[aD,aC,bT]
 intro P Q
 have st:=HG.Tx (a:=P) (g:=Q) hx gJ K.new rfl rfl
 have x2:J m Q:=(dD (a:=P) (c:=Q) rfl rfl).1
 have W:To e m e Q:=dm.eG _ x2 K.new
 clear_value Q
 clear_value P
 have D:=K.ext x2
 have aA:=ha.len
 have az:=hf.lM (Or.inl an)
 let⟨A,hy⟩:=cG x.args 0
 let⟨G,y1⟩:=hf.args A (aq hy)
 have U:=N.len
 have n1:=U 1 bn;have n3:=U 3 bn;have n4:=U 4 bn;have n5:=U 5 bn
 have l3:=D.len (k:=3) bn;have l5:=D.len (k:=5) bn
 let⟨B,ae⟩:=cG (L 3) A.toNat
 let⟨v,ag⟩:=cG (L 4) A.toNat
 let⟨tk,au⟩:=cG (L 5) A.toNat
 refine⟨bn,V,A,(ha.ext st.ext).aG hy,?_⟩
 refine⟨λM=>0<=B/\∃R af s,s.length=h/\To e m R M/\HG b [P.size,m.size] R M/\jv R M g af (up L 1 s),?_,?_⟩
 .refine⟨_,D.cp (k:=3) bn,G,V,B,D.aG bn V ae,λ_=>.no W,λw=>?_⟩
  simp only[bE]at w
  refine⟨λ_=>⟨_,D.cp (k:=5) bn,G,V,tk,D.aG bn V au,λ_=>.no W,λ_=>?_⟩,λ_=>?_⟩<;>
  .refine(uU D N hn G y1).mono λax m3⟨u,R,ac,H,y⟩=>⟨st.dq H,u,ac,λC=>.no (W.trans H),λC=>?_⟩
   obtain⟨af,z,t,s,hl,rfl⟩:=y (by simpa using C)
   exact⟨V,R,af,s,hl,W.trans H,st.to H,t⟩
 .rintro m3 ⟨al,aa,F,s,hl,H,S,y⟩
  have e3:(up L 1 s) 3=L 3:=rfl
  have e4:(up L 1 s) 4=L 4:=rfl
  have e5:(up L 1 s) 5=L 5:=rfl
  have e1:(up L 1 s) 1=s:=rfl
  have av:=y.len (k:=3) bn
  rw[e3]at av
  let⟨f0,f1⟩:=N.Pr A.toNat B v ae ag al
  refine⟨_,y.cp (k:=3) bn,G,V,B,y.aG bn (by rw[e3];omega) ae,?_⟩
  have A1:=y.Vz (f:=b) S.gJ (k:=1) (p:=A.toNat) bn (by rw[e1];omega)
  have A5:=y.Vz (f:=b) S.gJ (k:=5) (p:=A.toNat) bn (by rw[e5];omega)
  have hS:∀u∈[(F 1).D,(F 5).D],u<m3.size:=λu C=>by simp at C;omega
  have ak:∀{M:E},J b M->Le b (bH [(F 1).D,(F 5).D] M):=λxx=>(Am b).trans (xx.bH λu C=>Or.inr (by simp at C;omega))
  refine(dK hS (hN.bo.le (ak S.ext)) hN.types B).mono λax m4⟨aj,fl,ac,hs,am,x4⟩=>⟨λu C=>x4.same u (S.box u C).1,aj,ac,?_⟩
  subst am
  have c4:To e m aa m4:=H.trans (dm.eG _ x4 y.new)
  have aE:=hs.len
  have f3:=FU hN.types B
  refine dT (n:=(cB f B).length) V (λz M=>∃s,s.length=h/\To e m aa M/\HG b [P.size,m.size] aa M/\jv aa M g F (up L 1 s)/\Fz [(F 1).D,(F 5).D] m4 M) ⟨s,hl,c4,(S.hO x4),(y.ext x4),Fz.az _ _⟩ ?_
  rintro z M ay μ aB ⟨w,Z,X,ab,t,ad⟩ ai
  have ao:=hs.le (ad.df λ_ K=>K)
  refine⟨λah=>?_,λah=>?_⟩
  .simp only[ar]at ah
   let⟨aw,hz⟩:=cG (cB f B) z
   refine⟨V,V,aw,(ao.le (bA _ _)).aG hz,λ_=>?_,λ_=>ai V _ ⟨w,Z,X,ab,t,ad⟩⟩
   have E3:(up L 1 w) 4=L 4:=rfl
   have E1:(up L 1 w) 1=w:=rfl
   have G1:=t.cp (k:=1) bn
   have G4:=t.cp (k:=4) bn
   have l4:=t.len (k:=4) bn
   have l1:=t.len (k:=1) bn
   rw[E3]at l4;rw[E1]at l1
   have V4:=t.aG (k:=4) bn (by rw[E3];omega) ag
   have ew:cO (v+(z:Int))=v+z:=aP V V
   let⟨T,hw⟩:=cG w ((v+(z:Int)).toNat)
   let⟨wr,Y,I⟩:=t.put (k:=1) (i:=(v+(z:Int)).toNat) bn (by rw[E1];omega) (cO (T+1))
   refine⟨_,G1,_,G4,G,V,v,V4,_,G1,_,G4,G,V,v,V4,?_⟩
   rw[ew]
   refine⟨V,V,T,t.aG (k:=1) bn (by rw[E1];omega) hw,V,V,wr,ab.dq I,ai V _ ⟨w.set (v+(z:Int)).toNat (cO (T+1)),by simp[Z],X.trans I,ab.to I,?_,ad.ah (Or.inl aL) _ _⟩⟩
   have:up (up L 1 w) 1 ((up L 1 w) 1|>.set (v+(z:Int)).toNat (cO (T+1)))=up L 1 (w.set (v+(z:Int)).toNat (cO (T+1))):=by funext j;simp only[up];split<;>rfl
   rw[this]at Y;exact Y
  .refine⟨λ_=>?_,λ_=>.Pt X t (N.aR Z)⟩
   have T:(up L 1 w) 5=L 5:=rfl
   have aw:=t.len (k:=5) bn
   rw[T]at aw
   let⟨wr,Y,I⟩:=t.put (k:=5) (i:=A.toNat) bn (by rw[T];omega) (aj.len:Int)
   exact⟨_,t.cp (k:=5) bn,G,V,wr,ab.dq I,.Pt (X.trans I) Y ((N.aR Z).tok (by rw[T];simp[n5]))⟩
def J3(hx:J b m)(gJ:∀j,j<b.size->e j=0)(Q:jv e m g p L)(hi:sI f h L)(hn:h<=10^12)(hN:eL b d r f l)(B:ap b a x.args)(D:UG f l.length c h x):
 aN cq 268 [vp g 0,.agg #[O.v d,O.v r],pv x a o] m (Cp e m g (sI f h)):=by
 apply tL (g,0)
 simp -zeta only[aD,aC,bT]
 intro K H
 have st:=HG.Tx (a:=K) (g:=H) hx gJ Q.new rfl rfl
 have x2:J m H:=(dD (a:=K) (c:=H) rfl rfl).1
 have c2:To e m e H:=dm.eG _ x2 Q.new
 clear_value H
 clear_value K
 have aa:=B.len
 have Z:∀{M:E},J b M->At M d r a o f l x:=λxx=>⟨hN.le xx.le,B.ext xx,D.call⟩
 refine dT (n:=x.args.length) (aa▸B.gV) (λ_ M=>∃t T N,sI f h N/\To e m t M/\HG b [K.size,m.size] t M/\jv t M g T N) ⟨e,p,L,hi,c2,st,(Q.ext x2)⟩ ?_
 rintro ab M ag μ ah ⟨S,af,Y,v,P,C,s⟩ ad
 refine⟨λF=>?_,λF=>?_⟩
 .simp only[ar]at F
  let⟨I,G⟩:=cG x.args ab
  let⟨W,X⟩:=D.args I (aq G)
  have N0:=v.len 0 bn
  refine⟨_,s.cp (k:=0) bn,?_⟩
  refine(mM (Z C.ext) (s.nM (k:=0) bn V) (by rw[N0];exact D.args) (h:=ab) V).mono λU m4⟨j,z,q⟩=>⟨λj u=>q.same j (C.box j u).1,j,z,λ_=>⟨V,V,I,(B.ext (C.ext.trans q)).aG G,?_⟩,λ_=>ad V _ ⟨S,af,Y,v,P.trans (dm.eG _ q s.new),C.hO q,s.ext q⟩⟩
  have w:=C.hO q
  have y:To e m S m4:=P.trans (dm.eG _ q s.new)
  refine(uU (s.ext q) v hn W X).mono λU m5⟨j,t,z,A,h5⟩=>⟨w.dq A,j,z,λu=>.no (y.trans A),λu=>?_⟩
  obtain⟨T,N,R,ac,hl,rfl⟩:=h5 (by simpa using u)
  exact ad V _ ⟨t,T,_,v.aR hl,y.trans A,w.to A,R⟩
 .refine dT (n:=x.args.length) (aa▸B.gV) (λ_ t=>J M t) (J.az _) ?_
  rintro T M4 I4 μ4 ai q ac
  have w:=C.hO q
  have y:To e m S M4:=P.trans (dm.eG _ q s.new)
  have t:=s.ext q
  refine⟨λF=>?_,λF=>⟨λae=>?_,λ_=>.Pt y t v⟩⟩
  .simp only[ar]at F
   let⟨I,G⟩:=cG x.args T
   let⟨W,X⟩:=D.args I (aq G)
   refine(nU (Z w.ext) (T:Int)).mono λU m5⟨j,z,A⟩=>⟨λj u=>A.same j (w.box j u).1,j,z,λ_=>⟨V,V,I,(B.ext (w.ext.trans A)).aG G,?_⟩,λ_=>ac V _ (q.trans A)⟩
   refine(sR (t.ext A) v hn W X).mono λU m6⟨j,z,N⟩=>⟨λj u=>N.same j (A.lt (w.box j u).1),j,z,λ_=>.no (y.trans (dm.eG _ (A.trans N) t.new)),λ_=>ac V _ ((q.trans A).trans N)⟩
  .simp only[ar]at ae
   have I:=D.bZ
   have u:=v.len 5 bn
   have N:=t.len (k:=5) bn
   have z:cO (x.bZ -1)=x.bZ -1:=aP V V
   let⟨G,A⟩:=cG (Y 5) ((x.bZ -1).toNat)
   let⟨wr,R,j⟩:=t.put (k:=5) (i:=(x.bZ -1).toNat) bn V (-1)
   rw[z]
   exact⟨_,t.cp (k:=5) bn,V,V,G,t.aG (k:=5) bn V A,λ_=>.no y,λ_=>⟨_,t.cp (k:=5) bn,V,V,wr,w.dq j,.Pt (y.trans j) R (v.tok (by simp[u]))⟩⟩
end
end
section
variable{M:E}
def N4(a:Nat->Nat)(m:E):List Nat:=(List.range m.size).filter λb=>a b≠0
def Qe(c:Nat->Nat)(m:E):∀b∈N4 c m,b<m.size:=λb a=>by simp[N4]at a;exact a.1
def SL{d:Nat->Nat}{m a:E}(gJ:∀b,b<a.size->d b=0)(e:J a M):Le a (bH (N4 d m) M):=
 (Am a).trans (e.bH λb c=>Or.inr (by
  simp[N4]at c;exact Hx λh=>c.2 (gJ b h)))
def dm.ZV{a l:Nat->Nat}{m f:E}(h:To a f l M)(k:∀b,m.size<=b->a b=0):Le (bH (N4 a m) f) M:=λb o v j=>by
 let⟨d,e⟩:=eQ.1 j;have i:=lB e;have g:a b=0:=by
  rcases aW b m.size with c|c
  .simp[N4]at d;exact d c
  .exact k b c
 rw[aE (h.eA b i (by simp[g]))];exact e
def Ru(c:List bz)(h:List gR)(i:Prop)(b:Bk):Prop:=∀(e:Nat->Nat)(m a:E)(d:Nat)(l:Nat->O)(L:Nat->List Int)(n k:Nat)(g r t:O),J a m->(∀b,b<a.size->e b=0)->jv e m d l L->sI c n L->WB c h.length i n b->n+4*b.w<=10^12->k<=n->eL a g r c h->eP a t b.aB->
 aN cq 326 [vp d 0,.agg #[O.v g,O.v r],.agg #[O.v t,vi b.aT],vi k] m (Cp e m d λf=>(∀j,j<6->(f j).length=k)/\(f 6).length<=10^12)
def WU(m:E)(n:Nat)(v:Value)(c:E):Prop:=∃(a:Nat)(d:Bool),v=.tuple #[vp a 0,vb d]/\J m c/\(d=true->∃e f L,(∀b,b<m.size->e b=0)/\jv e c a f L/\∀j,j<6->(L j).length=n)
def ql.same{c:List bz}{n b:Nat}{L a:Nat->List Int}(h:ql c n b L)(e:∀k,k<7->a k=L k):ql c n b a:=
 ⟨λk d=>by rw[e k V];exact h.len k d,by rw[e 2 bn];exact h.Xi,by rw[e 3 bn,e 4 bn];exact h.Pr,by rw[e 6 bn];exact h.cR⟩
section
variable{o:Nat->Nat}{m g:E}{j:Nat}{f:Nat->O}{L:Nat->List Int}{e:List bz}{h:List gR}{b:Nat}{d r a l:O}{x:cU}{c:Prop}
def Rn(hx:J g m)(aE:jv o m j f L)(hi:sI e b L)(P:eL g d r e h)(ha:ap g a x.args)(hk:nI g l x.bC)(hw:WS e h.length c b x)(t:b+4*x.w<=10^12){ab:Nat}{p:Bk}(aa:x.bC[ab]? =some p)(ih:Ru e h c p):
 aN cq 307 [vp j 0,.agg #[O.v d,O.v r],pv x a l,vi ab] m (WU m b):=by
 apply zh (j,0)
 simp -zeta only[aD,aC,bT]
 intro I D
 let⟨x2,hl⟩:=dD (a:=I) (c:=D) rfl rfl
 clear_value D
 clear_value I
 have h2:=aE.ext x2
 have ao:=hi.len
 have l0:=h2.len (k:=0) bn
 have n0:=ao 0 bn
 have aY:=aw aa
 have aZ:=hk.len
 have aX:=wX aa
 have a2:=cU.mu x
 have Y:=hw.bC ab p aa
 have w:=hx.trans x2
 let⟨ae,ht,f0,f1⟩:=hk.aG aa
 refine⟨_,h2.cp (k:=0) bn,?_⟩
 refine(Nf h2 (λu hj=>by
  by_cases A:u<6
  .rw[ao u A];omega
  .have:u=6:=V;subst this;exact hi.cR)).mono λv m3⟨C,z,H,K,aR,s,q,h3,y⟩=>⟨H.Vl hl (J.az _)|>λ_=>λp t=>H.same p (hl p t),(C,0),z,?_⟩
 have R:sI e b s:=hi.same y
 have ai:HG D [I.size,m.size] K m3:=⟨H,q,λp t=>⟨H.lt (hl p t),q p (hl p t)⟩⟩
 have iH:∀(M:E)(ac:Nat->Nat)(ah:Nat->O)(X:Nat->List Int)(F:Nat),HG D [I.size,m.size] ac M->jv ac M C ah X->sI e F X->WB e h.length c F p->F<=b+3->b<=F->
  aN cq 326 [vp C 0,.agg #[O.v d,O.v r],.agg #[O.v ae,vi p.aT],vi ((f 0).len:Int)] M λv m'=>eF [I.size,m.size] M m'/\∃S:Bool,v=vb S/\WU m b (.tuple #[vp C 0,vb S]) m':=λM ac ah X F U aA an aF a1 aG=>by
  have e0:(f 0).len=b:=V
  rw[e0]
  refine(ih ac M D C ah X F b d r ae U.ext U.gJ aA an aF V aG (P.le w.le) (ht.le w.le)).mono λv m'⟨S,G,z,c5,N⟩=>⟨U.dq c5,S,z,C,S,rfl,x2.trans (U.to c5).ext,λaJ=>?_⟩
  obtain⟨T,W,A,h7,_⟩:=N aJ
  exact⟨G,T,W,λp t=>(U.to c5).gJ p (x2.lt t),A,h7⟩
 refine⟨λB=>?_,λB=>?_⟩
 .simp only[aI]at B
  have ax:=P.bo.le w.le
  obtain⟨aW,_⟩:=hw.fe.all B
  refine(iy (Qe K m3) (ax.le H.le) P.types x.bQ).mono λv m4⟨s4,l4,z,aK,e4,x4⟩=>⟨λp t=>x4.same p (ai.box p t).1,s4,z,?_⟩
  subst e4
  let⟨q,av⟩:=cG (cy e x.bQ) ab
  have ay:=aK.le (bA _ _)
  have l4:=ay.len
  refine⟨V,V,q,ay.aG av,?_⟩
  have ad:=ai.hO x4
  have h4:=h3.ext x4
  refine(dK (Qe K m4) (ax.le (SL ad.gJ ad.ext)) P.types q).mono λv m5⟨s5,l5,z,az,e5,x5⟩=>⟨λp t=>x5.same p (ad.box p t).1,s5,z,?_⟩
  subst e5
  have ak:=ad.hO x5
  have N:=h4.ext x5
  have aU:=hw.fe.lM (Or.inr (Or.inr B))
  let⟨y,hy⟩:=cG x.args 0
  let⟨y0,y1⟩:=hw.fe.args y (aq hy)
  have aV:=ha.len
  have N5:=R.len
  have a3:=N.len (k:=3) bn
  have F:=N5 3 bn;have n4:=N5 4 bn
  have ag:∀{M:E},J D M->af M a.D (a.off+Int.toNat (0:Int)*1)=some (vi y):=λxx=>(ha.ext (w.trans xx)).aG hy
  let⟨w6,A,c6⟩:=N.put (k:=3) (i:=y.toNat) bn V q
  refine⟨_,N.cp (k:=3) bn,V,V,y,ag ak.ext,y0,V,w6,?_⟩
  intro m6
  have al:=ak.to c6
  let⟨w7,h7,c7⟩:=A.put (k:=4) (i:=y.toNat) bn (by show _<(s 4).length;omega) ((f 0).len:Int)
  have aL:=A.len (k:=4) bn
  have aB:up s 3 ((s 3).set y.toNat q) 4=s 4:=rfl
  rw[aB]at aL
  refine⟨ak.dq c6,_,A.cp (k:=4) bn,V,V,y,ag al.ext,y0,V,w7,?_⟩
  intro m7
  have aT:=al.to c7
  have F3:=FU P.types q
  have e0:((f 0).len:Int)=b:=V
  have i7:ql e b (b+(cB e q).length) (up (up s 3 ((s 3).set y.toNat q)) 4 ((s 4).set y.toNat ((f 0).len:Int))):=by
   refine⟨λu hj=>?_,λv aO hp=>R.Xi v aO (by simpa[up]using hp),λv c ar hc hf h1=>?_,by simpa[up]using R.cR⟩
   .rcases u with _|_|_|_|_|_|u<;>first|omega|(simp[up,N5])
   .have Q:((s 3).set y.toNat q)[v]? =some c:=by simpa[up]using hc
    have Z:((s 4).set y.toNat ((f 0).len:Int))[v]? =some ar:=by simpa[up]using hf
    by_cases ev:y.toNat=v
    .subst ev;rw[dx V]at Q Z;simp at Q Z;subst Q;omega
    .rw[cr ev]at Q Z;have:=R.Pr v c ar Q Z h1;omega
  have a0:=az.len
  refine⟨al.dq c7,?_⟩
  refine dT (n:=(cB e q).length) V (λu M=>∃G T W,ql e (b+u) (b+(cB e q).length) W/\To K m5 G M/\HG D [I.size,m.size] G M/\jv G M C T W) ⟨K,_,_,i7,c6.trans c7,aT,h7⟩ ?_
  rintro u M an μ hj ⟨aQ,aS,L8,Z,c8,C,au⟩ aM
  refine dit (λaH=>?_) λaH=>?_
  .let⟨am,hz⟩:=cG (cB e q) u
   refine⟨V,V,am,(az.le (c8.ZV h4.new)).aG hz,V,V,y,ag C.ext,?_⟩
   exact(A2 au (λaP Q=>by rw[Z.len aP Q];omega) am 0 y).mono λv M'⟨G,T,Q,h9⟩=>⟨C.dq Q,aM V _ ⟨G,T,_,by rw[<-di];exact Z.OO am 0 V,c8.trans Q,C.to Q,h9⟩⟩
  .have Q:u=(cB e q).length:=V
   subst Q
   rw[KL B av]at Y
   exact⟨V,V,ae,(w.trans C.ext).af f0,p.aT,(w.trans C.ext).af f1,iH M aQ aS L8 _ C au Z Y V V⟩
 .simp only[aj]at B
  rw[KM B]at Y
  exact⟨V,V,ae,(w.trans H).af f0,p.aT,(w.trans H).af f1,iH m3 K aR s b ai h3 R Y V V⟩
end
end
section
def _root_.Go.Vc.VS{n b:Nat}(g:b<=n)(o:n<=9223372036854775807){m:E}{e:(Int->E->Prop)->(Int->E->Nat)->Int->E->Prop}(Q:Nat->E->Prop)(f:Q b m)
 (h:∀(k:Nat)(a:E)(I:Int->E->Prop)(μ:Int->E->Nat),b<=k->k<=n->Q k a->
  (k<n->∀c,Q (k+1) c->I (cO ((k:Int)+1)) c/\μ (cO ((k:Int)+1)) c<μ k a)->e I μ k a):
 ∃(I:Int->E->Prop)(μ:Int->E->Nat),I b m/\∀i a,I i a->e I μ i a:=by
 refine⟨λi c=>∃k:Nat,i=k/\b<=k/\k<=n/\Q k c,λi _=>(n -i).toNat,⟨b,rfl,ad _,g,f⟩,?_⟩
 rintro i a ⟨k,rfl,j,l,p⟩
 refine h k a _ _ j l p λd c q=>?_
 rw[jW d o]
 exact⟨⟨k+1,rfl,V,d,q⟩,DI d⟩
section
variable{b:Nat->Nat}{m f:E}{e:Nat}{o:Nat->O}{L:Nat->List Int}{g:List bz}{l:List gR}{h:Nat}{d r i j:O}{x:cU}{c:Prop}
def Nc(hx:J f m)(gJ:∀p,p<f.size->b p=0)(t:jv b m e o L)(hi:sI g h L)(hN:eL f d r g l)(ha:ap f i x.args)(hk:nI f j x.bC)(P:WS g l.length c h x)(q:h+4*x.w<=10^12)(au:x.op=7\/x.op=8)(ih:∀p∈x.bC,Ru g l c p):
 aN cq 267 [vp e 0,.agg #[O.v d,O.v r],pv x i j] m (Cp b m e (sI g h)):=by
 apply vw (e,0)
 simp -zeta only[aD,aC,bT]
 intro X I
 have st:=HG.Tx (a:=X) (g:=I) hx gJ t.new rfl rfl
 let⟨Q,D⟩:=dD (a:=X) (c:=I) rfl rfl
 clear_value I
 clear_value X
 have al:=hk.len
 have aH:=ha.len
 have aF:=P.fe.lM V
 have am:0<x.bC.length:=by
  rcases au with U|h8
  .have:=P.fe.Kr U;omega
  .exact(P.fe.all h8).2
 have N:∀{M:E},J I M->To b m b M:=λz=>dm.eG _ (Q.trans z) t.new
 have ag:∀(M:E)(H:Nat)(p:Bk),J I M->x.bC[H]? =some p->aN cq 307 [vp e 0,.agg #[O.v d,O.v r],pv x i j,vi H] M (WU M h):=λM H p z ah=>
  Rn (hx.trans (Q.trans z)) (t.ext (Q.trans z)) hi hN ha hk P q ah (ih p (aq ah))
 refine⟨λM=>J I M,⟨λ_=>?_,λ_=>J.az _⟩,?_⟩
 .let⟨y,u⟩:=cG x.args 0
  let⟨w,A⟩:=P.fe.args y (aq u)
  refine⟨bn,V,y,(ha.ext st.ext).aG u,?_⟩
  exact(sR (t.ext Q) hi V w A).mono λZ Y⟨p,s,v⟩=>⟨λp q=>v.same p (D p q),p,s,λ_=>.no (N v),λ_=>v⟩
 .intro Y v
  let⟨b0,ak⟩:=dB am
  refine(ag Y 0 b0 v ak).mono λZ m4⟨ac,ay,s,R,h1⟩=>⟨λp q=>R.same p (v.lt (D p q)),(ac,0),ay,s,λ_=>.no (N (v.trans R)),λab=>?_⟩
  let⟨az,ad,L1,ai,h1,n1⟩:=h1 (by simpa using ab)
  have av:=n1 1 bn;have aw:=n1 5 bn
  refine VS (n:=x.bC.length) (b:=1) V (al▸hk.gV) (λ_ M=>J m4 M) (J.az _) ?_
  rintro H M aB μ aG aI S ax
  have y:=(v.trans R).trans S
  have A:=h1.ext S
  refine⟨λW=>?_,λW=>?_⟩
  .simp only[ar]at W
   let⟨p,q⟩:=cG x.bC H
   refine(ag M H p y q).mono λZ m6⟨aa,aj,s,u,C⟩=>⟨λp q=>u.same p (y.lt (D p q)),(aa,0),aj,s,λ_=>.no (N (y.trans u)),λab=>?_⟩
   let⟨aL,aM,L2,aK,C,n2⟩:=C (by simpa using ab)
   have ao:=n2 1 bn;have aJ:=n2 5 bn
   have B:=A.ext u
   refine⟨_,B.cp (k:=1) bn,_,C.cp (k:=1) bn,?_⟩
   refine(qO (B.nM (k:=1) bn V) (C.nM (k:=1) bn V)).mono λZ m7⟨F,s,_,w⟩=>⟨λp q=>w.same p (u.lt (y.lt (D p q))),F,s,λ_=>.no (N (y.trans (u.trans w))),λ_=>?_⟩
   have T:=B.ext w
   have U:=C.ext w
   refine⟨_,T.cp (k:=5) bn,_,U.cp (k:=5) bn,?_⟩
   refine(qO (T.nM (k:=5) bn V) (U.nM (k:=5) bn V)).mono λZ m8⟨F,s,_,K⟩=>⟨λp q=>K.same p (w.lt (u.lt (y.lt (D p q)))),F,s,λ_=>.no (N (y.trans (u.trans (w.trans K)))),λ_=>?_⟩
   exact ax V _ (S.trans (u.trans (w.trans K)))
  .let w:Nat->Nat:=λp=>if p<Y.size then b p else az p
   have uu:=Q.trans v
   have z:=uu.trans (R.trans S)
   have z4:=R.size;have zM:=S.size;have T:=uu.size
   have K:∀p,p<Y.size->w p=b p:=λp q=>an q
   have H0:jv w M e o L:=by
    refine⟨λp q=>?_,by rw[K _ (aO t.box.lt T)];exact t.gW,(t.ext z).box,λu F=>(t.qt u F).eA (λB=>z.same _ ((t.qt u F).D B).1) λB=>K _ (aO ((t.qt u F).D B).1 T)⟩;simp only[w];rw[ae V];exact A.new p q
   have aa:∀u,u<7->iJ w M aA 1 (u+1) (ad u) ((L1 u).map Ce.i):=λu F=>(A.qt u F).eA (λ_=>rfl) λB=>by
    have C:=((A.qt u F).D B).2;simp only[w];rw[ae λW=>by rw[ai _ W]at C;omega]
   have c3:To b m w M:=⟨z.size,λp q=>K p (aO q T),H0.new,λp q _=>z.same p q⟩
   have aj:HG f [X.size,m.size] w M:=⟨st.ext.trans y,λp q=>by rw[K p (aO (aO q hx.size) T)];exact gJ p q,λp q=>⟨y.lt (D p q),by rw[K p (v.lt (D p q))];exact(st.box p q).2⟩⟩
   clear_value w
   refine⟨_,A.cp (k:=1) bn,?_⟩
   let⟨w5,h5,c5⟩:=H0.Xl (k:=1) bn (aa 1 bn)
   refine⟨w5,?_⟩
   intro m9
   have ao:ac≠e:=λs=>by
    have h8:=A.gW;rw[s,ai _ (aO t.box.lt T)]at h8;omega
   have G:af m9 ac 5=some (O.v (ad 5)):=(aE (bd _ _ _ _ ao) _).trans (A.cp (k:=5) bn)
   have A5:iJ w m9 aA 1 (5+1) (ad 5) ((L1 5).map Ce.i):=by
    refine(aa 5 bn).eA (λB=>bd _ _ _ _ λs=>?_) λ_=>rfl;have:=((aa 5 bn).D B).2;rw[s,H0.gW]at this;omega
   let⟨w6,h6,c6⟩:=h5.Xl (k:=5) bn A5
   exact⟨aj.dq c5,_,G,w6,(aj.to c5).dq c6,.Pt ((c3.trans c5).trans c6) h6 ((hi.aR av).tok aw)⟩
end
end
section
section
variable{b:Nat->Nat}{m g:E}{f:Nat}{l:Nat->O}{L:Nat->List Int}{e:List bz}{h:List gR}{n:Nat}{d r a j:O}{x:cU}{c:Prop}
def G6(hx:J g m)(gJ:∀o,o<g.size->b o=0)(aa:jv b m f l L)(w:sI e n L)(U:eL g d r e h)(D:ap g a x.args)(hk:nI g j x.bC)(F:WS e h.length c n x)(u:n+4*x.w<=10^12)(ih:∀o∈x.bC,Ru e h c o):
 aN cq 244 [vp f 0,.agg #[O.v d,O.v r],pv x a j] m (Cp b m f (sI e (n+dn x))):=by
 apply xN (f,0)
 simp -zeta only[aD,aC,bT]
 intro R X
 have S:=HG.Tx (a:=R) (g:=X) hx gJ aa.new rfl rfl
 have x2:J m X:=(dD (a:=R) (c:=X) rfl rfl).1
 clear_value X
 clear_value R
 have h2:=aa.ext x2
 have ao:=D.len
 have ar:=cU.mu x
 have N0:=w.len 0 bn
 refine⟨_,h2.cp (k:=0) bn,?_⟩
 refine(om (U.le S.ext.le) (h2.nM (k:=0) bn V) (D.ext S.ext) (hk.le S.ext.le) V (λo _=>nt o)).mono λA m3⟨G,t,_,x3⟩=>⟨λo u=>x3.same o (S.box o u).1,G,t,?_⟩
 have s:=S.hO x3
 have C:=h2.ext x3
 have P:To b m b m3:=dm.eG _ (x2.trans x3) aa.new
 have lM:14<=x.op\/x.op=7\/x.op=8->∃y:Int,x.args[0]? =some y/\0<=y/\y<(n:Int):=λho=>by
  have:=F.fe.lM ho;let⟨y,K⟩:=cG x.args 0;exact⟨y,K,F.fe.args y (aq K)⟩
 refine⟨λok M=>∃v,To b m v M/\HG g [R.size,m.size] v M/\(ok=true->∃Z N,jv v M f Z N/\sI e n N),⟨λai=>?_,λau=>⟨λaj=>?_,λav=>⟨λak=>?_,λaw=>⟨λh7=>?_,λn7=>?_⟩⟩⟩⟩,?_⟩
 .simp only[aI]at ai
  let⟨y,K,B,W⟩:=lM V
  have ac:=F.fe.lM V
  have Y:∀{M:E},J g M->af M a.D (a.off+Int.toNat (0:Int)*1)=some (vi y):=λT=>(D.ext T).aG K
  refine⟨bn,V,y,Y s.ext,?_⟩
  refine(sR C w V B W).mono λA H⟨o,t,q⟩=>⟨λo u=>q.same o (s.box o u).1,o,t,?_⟩
  have p:=C.ext q
  have z:=s.hO q
  have N1:=w.len 1 bn
  have l1:=p.len (k:=1) bn
  let⟨ab,ad⟩:=cG (L 1) y.toNat
  let⟨wr,Q,I⟩:=p.put (k:=1) (i:=y.toNat) bn V (cO (ab+1))
  exact⟨_,p.cp (k:=1) bn,bn,V,y,Y z.ext,_,p.cp (k:=1) bn,bn,V,y,Y z.ext,B,V,ab,p.aG bn V ad,B,V,wr,z.dq I,b,(P.trans (dm.eG _ q C.new)).trans I,z.to I,λ_=>⟨l,_,Q,w.aR (by simp[N1])⟩⟩
 .simp only[aI]at aj
  let⟨y,K,B,W⟩:=lM V
  have ac:=F.fe.lM V
  refine⟨bn,V,y,(D.ext s.ext).aG K,?_⟩
  refine(uU C w V B W).mono λA H⟨o,v,t,q,p⟩=>⟨s.dq q,o,t,v,P.trans q,s.to q,λu=>?_⟩
  obtain⟨Z,N,Q,ab,Y,rfl⟩:=p u
  exact⟨Z,_,Q,w.aR Y⟩
 .simp only[bR,aI]at ak
  refine(Qm s.ext s.gJ C w V U D F.fe V).mono λA H⟨o,v,t,q,p⟩=>⟨s.dq q,o,t,v,P.trans q,s.to q,p⟩
 .simp only[bR,aI]at h7
  refine(Nc s.ext s.gJ C w U D hk F u h7 ih).mono λA H⟨o,v,t,q,p⟩=>⟨s.dq q,o,t,v,P.trans q,s.to q,p⟩
 .refine(J3 s.ext s.gJ C w V U D F.fe).mono λA H⟨o,v,t,q,p⟩=>⟨s.dq q,o,t,v,P.trans q,s.to q,p⟩
 .rintro ok M ⟨ax,q,z,p⟩
  refine⟨λ_=>.no q,λam=>?_⟩
  let⟨ay,L4,p,i4⟩:=p (by simpa using am)
  have gr:∀{M':E}(G Y:Int),J M M'->dn x=1->aN cq 264 [vp f 0,vi G,vi Y,vi (-1:Int)] M' λ_ m'=>eF [R.size,m.size] M' m'/\Cp b m f (sI e (n+dn x)) (vb true) m':=λG Y T hd=>
   (A2 (p.ext T) (λH B=>by rw[i4.len H B];omega) G Y (-1)).mono λ_ m'⟨v,Z,I,Q⟩=>⟨(z.hO T).dq I,.Pt ((q.trans (dm.eG _ T p.new)).trans I) Q (by rw[hd];exact(i4.OO G Y V).DR V)⟩
  refine(jR x.op M).mono λA m5⟨o,t,ab,B⟩=>⟨λo u=>B.same o (z.box o u).1,o,t,λag=>⟨λ_=>gr G 1 B (by have:=tq x o ab;rw[an ag]at this;exact this),λ_=>?_⟩,λal=>?_⟩
  .refine(jR x.op m5).mono λA m6⟨N,t,W,H⟩=>⟨λo u=>H.same o (B.lt (z.box o u).1),N,t,λad=>gr 0 0 (B.trans H) (by have:=tq x N W;rw[an ad]at this;exact this),λac=>?_⟩
   have:=W.2 (ab.1 ag);rw[this]at ac;simp at ac
  .have ah:=tq x o ab
   rw[ae (by simp[al])]at ah
   exact(jR x.op m5).mono λA m6⟨N,t,W,H⟩=>⟨λo u=>H.same o (B.lt (z.box o u).1),N,t,λad=>gr 0 0 (B.trans H) (by have:=tq x N W;rw[an ad]at this;exact this),λac=>.Pt (q.trans (dm.eG _ (B.trans H) p.new)) (p.ext (B.trans H)) (by rw[ah];exact i4)⟩
end
def Nj{B:List bz}{rs:List gR}{H:Prop}:∀b:Bk,Ru B rs H b:=by
 refine Bk.ind ?_;intro aB ac ih r p mb E sl L aa D af am ap Y gJ t Q W o hk O x;simp only[Bk.jV,Bk.jx,Bk.qQ]at*;apply wI (E,0);simp -zeta only[aD,aC,bT];intro q m;have st:=HG.Tx (a:=q) (g:=m) Y gJ t.new rfl rfl;have F:J p m:=(dD (a:=q) (c:=m) rfl rfl).1;have I:To r p r m:=dm.eG _ F t.new;clear_value m;clear_value q;let⟨C,y,r1⟩:=W.aS;simp only[Bk.jV,Bk.jx]at C y r1;have U:=x.len;have T:=BP aB;refine dT (n:=aB.length) (U▸x.gV) (λi M=>∃g s h,sI B (aa+dc (aB.take i)) h/\To r p g M/\HG mb [q.size,p.size] g M/\jv g M E s h) ⟨r,sl,L,by simpa using Q,I,st,t.ext F⟩ ?_;rintro i M ad μ ah ⟨an,ao,G,f,j,c,d⟩ ab
 have ag:=tn (aB.take i);have ai:=qS i aB;have aj:=gB (aB.take i);refine dit (λS=>?_) λS=>?_
 .let⟨w,l⟩:=cG aB i;let⟨ae,kk,P,R,z,g1,g2,K,N⟩:=x.aG l;have al:=p7 l;have ak:=T (i+1);have X:=c.ext;refine⟨V,V,_,X.af z,_,X.af g1,_,X.af g2,_,X.af K,_,X.af N,?_⟩;refine(G6 X c.gJ d f O P R (C i w l) V (ih w (aq l))).mono λA m4⟨b,g,e,a,u⟩=>⟨c.dq a,b,e,λ_=>.no (j.trans a),λo=>?_⟩;let⟨s,h,v,Z⟩:=u (by simpa using o);exact ab V _ ⟨g,s,h,by rw[(qV l),<-di];exact Z,j.trans a,c.to a,v⟩
 .have K:i=aB.length:=V;rw[K,fw]at f;have ae:=tn aB;have ak:=gB aB;have Z:=f.len 0 bn;have l0:=d.len (k:=0) bn;let⟨X,P⟩:=cG (G 0) ac.toNat;refine⟨_,d.cp (k:=0) bn,y,V,X,d.aG bn V P,λ_=>?_,λ_=>?_⟩
  .refine(uU d f V y V).mono λA m4⟨b,g,e,a,u⟩=>⟨c.dq a,b,e,λ_=>.no (j.trans a),λo=>?_⟩;obtain⟨s,h,v,al,N,rfl⟩:=u (by simpa using o);refine(LZ v (f.aR N) V (b:=D) V).mono λA R⟨b,z,e,l,w⟩=>⟨(c.to a).dq l,b,e,b,z,rfl,(j.trans a).trans l,w⟩
  .refine(LZ d f V (b:=D) V).mono λA R⟨b,z,e,l,w⟩=>⟨c.dq l,b,e,b,z,rfl,j.trans l,w⟩
def XQ(m:E)(f:List bz)(q:gR)(j:Int)(v:Value)(c:E):Prop:=∃(a:Nat)(d:Bool),v=.tuple #[vp a 0,vb d]/\J m c/\(d=true->0<=j/\j<=q.body.aB.length/\∃e g L,(∀b,b<m.size->e b=0)/\jv e c a g L/\sI f (q.params.length+dc (q.body.aB.take j.toNat)) L)
def EQ{m:E}{I T:O}{f:List bz}{z:List gR}{ab:Prop}{W:Nat}(h:eL m I T f z)(P:yF f z ab W)(hW:W<=200000000000){K:Nat}{a:gR}(w:z[K]? =some a){j:Int}(hj: -9000000000000000000<=j/\j<=9000000000000000000):
 aN cq 224 [.agg #[O.v I,O.v T],vi K,vi j] m (XQ m f a j):=by
 apply xJ
 simp -zeta only[aD,aC]
 intro k
 have D:J m k:=J.push _ _
 have g:∀b∈[m.size],b<k.size:=by simp[k]
 clear_value k
 have aH:=h.iX.len;have aG:=h.oJ
 have aE:=aw w
 let⟨ah,af,ak,hw⟩:=P.dz a (aq w)
 let⟨aM,aO,b,c1,c2,H,e0,e1,e2,v,e4⟩:=h.iX.aG w
 have x:∀{M:E}{an:Obj},J m M->XQ m f a j (.tuple #[vp M.size 0,vb false]) (M.push an):=λxx=>⟨_,false,rfl,xx.aK _,aL⟩
 refine(Fi (h.le D.le) (λd c=>oh (P.dz d c))).aH (J.az k) g λv1 m2 F _=>⟨_,rfl,λ_=>x (D.trans F),λ_=>?_⟩
 have Y:=D.trans F
 refine(aX _ _ _ _).aH F g λv2 m3 _ Z v3=>⟨_,rfl,λ_=>x (Y.trans Z),λ_=>?_⟩
 have B:=Y.trans Z
 have az:=H.len
 refine⟨V,V,_,B.af v,?_⟩
 refine(aX _ _ _ _).aH v3 g λv4 R ac x4 C=>⟨_,rfl,λ_=>x (B.trans x4),λaj=>?_⟩
 have c:=B.trans x4
 have hr:=ac.1 (by simpa using aj)
 refine⟨V,V,_,c.af e0,_,c.af e1,_,c.af e2,_,c.af v,_,c.af e4,?_⟩
 refine(IN (q:=a) (c1.ext c) (c2.ext c) ah af f).mono λau S⟨t,u,G,y,sl,aa,gJ,L,i5⟩=>⟨λb d=>G.same b (C.lt (g b d)),(t,0),u,?_⟩
 obtain⟨al,_,_⟩:=ak.aS
 have aA:=Bk.mu a.body
 have ai:=BP a.body.aB
 have ar:HG R [m.size] y S:=⟨G,gJ,λb d=>⟨G.lt (C.lt (g b d)),gJ b (C.lt (g b d))⟩⟩
 have e6:j=((j.toNat:Nat):Int):=V
 obtain⟨s,ad⟩:∃s:Nat,j=s:=⟨j.toNat,e6⟩
 subst ad
 simp only[uc]
 refine dT (n:=s) V (λi M=>∃l A o,sI f (a.params.length+dc (a.body.aB.take i)) o/\To y S l M/\HG R [m.size] l M/\jv l M t A o) ⟨y,sl,aa,by simpa using i5,L.to,ar,L⟩ ?_
 rintro i M ax μ aF ⟨ao,ap,L6,Q,c6,e,N⟩ am
 have U:J m M:=c.trans e.ext
 refine dit (λag=>?_) λag=>?_
 .let⟨av,r⟩:=cG a.body.aB i
  let⟨ay,kk,ha,ae,g0,g1,g2,g3,g4⟩:=(H.le c.le).aG r
  have X:=e.ext
  have aK:=p7 r
  have aJ:=ai (i+1)
  have aB:=tn (a.body.aB.take i)
  have aI:=gB (a.body.aB.take i)
  refine⟨V,V,_,U.af v,V,V,_,X.af g0,_,X.af g1,_,X.af g2,_,X.af g3,_,X.af g4,?_⟩
  refine(G6 X e.gJ N Q (h.le c.le) ha ae (al i av r) V (λb _=>Nj b)).mono λau m7⟨b,l,u,p,h7⟩=>⟨e.dq p,b,u,λ_=>⟨t,false,rfl,c.trans (e.to p).ext,aL⟩,λd=>?_⟩
  let⟨A,o,h8,i8⟩:=h7 (by simpa using d)
  exact am V _ ⟨l,A,o,by rw[qV r,<-di];exact i8,c6.trans p,e.to p,h8⟩
 .have l:i=s:=V
  subst l
  exact⟨t,true,rfl,U,λ_=>⟨V,V,ao,ap,L6,λb d=>e.gJ b (c.lt d),N,by simpa using Q⟩⟩
end
section
variable{f d:Int}{c P:Nat}{m:E}
def Sf(a:0<=f)(b:0<d):0<=f.tmod d/\f.tmod d<d:=⟨Int.tmod_nonneg _ a,Int.tmod_lt_of_pos _ b⟩
def Oe(a:0<=f)(b:0<d):0<=f.tdiv d/\f.tdiv d<=f:=by
 rw[qe a];exact⟨Int.ediv_nonneg a V,Int.ediv_le_self _ a⟩
def Vr{b:Int}(e:0<=f/\f<4611686018427387904)(g:0<=b/\b<4611686018427387904):0<=Vq f b:=by
 unfold Vq;have a:(f%18446744073709551616).toNat<2^62:=V;have c:(b%18446744073709551616).toNat<2^62:=V;have d:=Nat.xor_lt_two_pow a c;rw[aP V V];omega
def Rd(c:Nat)(a:O)(P:Nat)(m:E):Prop:=(∃p:Int,cD m c qd [.s a,.i p]/\0<=p/\p<=P)/\a.len<=a.cap/\∀k:Nat,k<a.len->∃v:Int,0<=v/\v<=255/\af (bH [c] m) a.D (a.off+k*1)=some (.int .u8 v)
def Rd.mono{Q:Nat}{a:O}(h:Rd c a P m)(g:P<=Q):Rd c a Q m:=let⟨⟨p,b,d,f⟩,e⟩:=h;⟨⟨p,b,d,V⟩,e⟩
def Rd.lt{c P:Nat}{a:O}{m:E}(h:Rd c a P m):c<m.size:=let⟨⟨_,b,_⟩,_⟩:=h;b.lt
def Rd.MU{f:Nat}{b:O}{e M a:E}(d:Rd c b f e)(h:Rd c b P M)(l:Fz [c] e a)(k:a[c]? =M[c]?):Rd c b P a:=by
 obtain⟨⟨p,g,i,j⟩,_⟩:=h;exact⟨⟨p,g.congr k,i,j⟩,d.2.1,λo m=>let⟨v,q,r,n⟩:=d.2.2 o m;⟨v,q,r,l.df (λ_ h=>h) _ _ _ n⟩⟩
def Rd.ext{a:O}{d:E}(h:Rd c a P m)(b:J m d):Rd c a P d:=h.MU h (b.fz _) (b.same _ h.lt)
def Rd.ah{c g P:Nat}{a:O}{d M:E}(f:Rd c a g d)(h:Rd c a P M)(j:Fz [c] d M){b:Nat}(i:d.size<=b)(o:Nat)(l:List Ce):Rd c a P (ah M b o l):=
 f.MU h (j.ah (Or.inr i) o l) (bd _ _ _ _ λe=>oh f.lt)
def XZ(c:Nat)(b:O)(P:Nat)(m:E)(d:Int)(v:Value)(a:E):Prop:=∃k:Int,v=vi k/\0<=k/\(k<d\/k=0)/\Rd c b (P+1) a/\Fz [c] m a
def bY{e:O}(s:Rd c e P m)(hP:P<=10^16)(d:Int):aN cq 40 [vp c 0,vi d] m (XZ c e P m d):=by
 let⟨⟨p,t,q,p1⟩,X,E⟩:=s;apply xR (c,0);simp -zeta only[bT];have g1:af m c 1=some (vi p):=t.cp 1;refine⟨p,g1,t.fL aL,?_⟩;intro g;have U:cO (p+1)=p+1:=aP V V;have T:cO (p+1 -1)=p:=by rw[show p+1 -1=p by omega];exact aP V V
 have w:cD g c qd [.s e,.i (p+1)]:=by rw[<-U];exact cD.ah (m:=m) (r:=[.i (cO (p+1))]) (o:=1) t
 have A:Fz [c] m g:=(Fz.az [c] m).ah (Or.inl aL) _ _;have F:Le (bH [c] m) (bH [c] g):=A.df λ_ s=>s;clear_value g;have R:∀k:Int,0<=k->(k<d\/k=0)->XZ c e P m d (vi k) g:=λk C D=>⟨k,rfl,C,D,⟨⟨p+1,w,V,V⟩,X,λj f=>let⟨v,i,l,h⟩:=E j f;⟨v,i,l,F _ _ _ h⟩⟩,A⟩;have f:af g c 0=some (O.v e):=w.cp 0;have g1:af g c 1=some (vi (p+1)):=w.cp 1;have B:∀j:Int,0<=j->j<(e.len:Int)->∃v:Int,0<=v/\v<=255/\af g e.D (e.off+j.toNat*1)=some (.int .u8 v):=λj C D=>by
  let⟨v,i,l,h⟩:=E j.toNat V;exact⟨v,i,l,(eQ.1 (F _ _ _ h)).2⟩
 refine⟨λ_=>R 0 (dw _) (Or.inr rfl),λZ=>⟨_,f,λ_=>R 0 (dw _) (Or.inr rfl),λY=>?_⟩⟩;simp only[bE]at Z;simp only[aj]at Y;have G:0<d:=V;refine⟨_,g1,_,f,?_⟩;rw[T];refine⟨λz=>?_,λ_=>?_⟩
 .simp only[ar]at z;let⟨v,i,l,h⟩:=B p q z;refine⟨_,f,q,z,v,h,V,?_⟩;rw[aP V V];have:=Sf i G;exact R _ this.1 (Or.inl this.2)
 .have y:(0:Int)<(e.len:Int):=V;let⟨I,J⟩:=Sf q y;let⟨v,i,l,h⟩:=B _ I J;have S:cO (cO (p*7)+3)=p*7+3:=by rw[aP (b:=p*7) V V,aP V V]
  let⟨K,L⟩:=Sf (f:=p*7+3) V y;let⟨u,u0,u1,hu⟩:=B _ K L;let⟨d0,d1⟩:=Oe q y;rw[S];refine⟨_,f,_,f,V,I,J,v,h,_,f,_,f,V,K,L,u,hu,_,f,V,bn,V,?_⟩;have M:cO (cO v*131)=v*131:=by rw[aP (b:=v) V V,aP V V]
  have N:cO (cO u*1117)=u*1117:=by rw[aP (b:=u) V V,aP V V]
  have E3:cO (p*29)=p*29:=aP V V;have Q:cO (cO (p.tdiv e.len)*53)=p.tdiv e.len*53:=by rw[aP (b:=p.tdiv e.len) V V,aP V V]
  rw[M,N,E3,Q,aP (b:=v*131+u*1117) V V,aP (b:=v*131+u*1117+p*29) V V,aP (b:=v*131+u*1117+p*29+p.tdiv e.len*53) V V];have H:0<=v*131+u*1117+p*29+p.tdiv e.len*53:=V;let⟨q0,q1⟩:=Oe (d:=64) H bn;rw[aP (b:=Int.tdiv _ 64) V V];have W:=Vr (f:=v*131+u*1117+p*29+p.tdiv e.len*53) (b:=(v*131+u*1117+p*29+p.tdiv e.len*53).tdiv 64) ⟨H,V⟩ ⟨q0,V⟩;let⟨z0,z1⟩:=Sf W G;exact R _ z0 (Or.inl z1)
def kE{a:O}(h:Rd c a P m)(j:P<=10^16){s:O}{l:List Int}(d:ap (bH [c] m) s l)(o:0<l.length):
 aN cq 39 [vp c 0,O.v s] m λv f=>∃k:Int,v=vi k/\k∈l/\Rd c a (P+1) f/\Fz [c] m f:=by
 apply zk (c,0)
 have p:=d.len
 refine(bY h j (s.len:Int)).mono λv r⟨k,g,n,q,i,b⟩=>⟨k,g,n,V,?_⟩
 let⟨x,e⟩:=cG l k.toNat
 exact⟨x,(eQ.1 ((b.df (λ_ h=>h)) _ _ _ (d.aG e))).2,x,rfl,aq e,i,b⟩
end
section
variable{d:List Nat}{c:E}
def _root_.Go.Vc.Gr.set{α:Type}{d X:List Nat}{t c:E}{z f:Nat}{R:E->List Ce->α->Prop}{s:O}{y:List α}(w:oG f R)(h:Gr d t c z f R s y)(hf:Fz X t c){k:Nat}(I:k<y.length){cs:List Ce}{a:α}(F:R (bH (s.D::d) c) cs a):
 fL c s.D (s.off+k*f) f/\Gr d t (ah c s.D (s.off+k*f) cs) z f R s (y.set k a)/\Fz X t (ah c s.D (s.off+k*f) cs)/\(∀g,g≠s.D->(ah c s.D (s.off+k*f) cs)[g]? =c[g]?):=by
 have hy:=h.bh
 let⟨C,e,D,j⟩:=h
 have ab:∀g,g≠s.D->(ah c s.D (s.off+k*f) cs)[g]? =c[g]? :=λg Z=>bd _ _ _ _ Z
 let⟨g,i,tail,u,Q,A,S,T⟩:=D.aG.resolve_left C
 have H:=w.len F
 let⟨l,x⟩:=cG e k (by rw[j.len];exact I)
 have af:=j.size l (aq x)
 have M:s.off+k*f=k*f:=by rw[u];simp
 have G:s.D=g:=by rw[u];rfl
 have J:=aw x
 have N:e=e.take k++l::e.drop (k+1):=by
  have v:=List.getElem?_eq_some_iff.1 x;let⟨W,Y⟩:=v;rw[<-Y,<-qv W,dk]
 have ad:(e.take k).flatten.length=k*f:=by rw[cw λi n=>j.size i (dA n),gL,jf V]
 have ac:e.set k cs=e.take k++cs::e.drop (k+1):=by
  rw[Pu,an J]
 have aa:je (e.flatten++tail) (k*f) cs=(e.set k cs).flatten++tail:=by
  have U:e.flatten++tail=(e.take k).flatten++(l++((e.drop (k+1)).flatten++tail)):=by
   conv=>lhs;rw[N]
   simp
  rw[U,<-ad,Cl _ _ _ bF,ac];rw[show cs.length=l.length by omega,List.drop_left];simp
 have L:(e.set k cs).flatten.length=e.flatten.length:=by
  rw[cw (b:=f) λi n=>?_,cw j.size,dZ];rcases cA n with h|h
  .exact j.size i h
  .rw[h];exact H
 have K:Le (bH (s.D::d) c) (bH (s.D::d) (ah c s.D (s.off+k*f) cs)):=cz aL λ_ h=>h
 refine⟨?_,⟨C,e.set k cs,⟨by rw[L];exact D.len,Or.inr ⟨g,i,tail,u,Q,?_,?_,T⟩⟩,⟨by simp[j.len],λi n=>?_,λP i ae p q=>?_⟩⟩,hf.ah (Or.inr hy.1) _ _,ab⟩
 .rw[M,G]
  refine A.fL ?_
  have:(e.take k).flatten.length+l.length<=e.flatten.length:=by
   conv=>rhs;rw[N]
   simp
  simp only[be];omega
 .have v:=cD.ah (m:=c) (b:=g) (r:=cs) (o:=k*f) A
  rw[M,G,<-aa];exact v
 .rw[<-S,be,be,L]
 .rcases cA n with h|h
  .exact j.size i h
  .rw[h];exact H
 .by_cases B:k=P
  .subst B
   rw[dx J]at p
   rw[dx I]at q
   simp at p q;subst p q
   exact w.le K F
  .rw[cr B]at p q
   exact w.le K (j.dz P i ae p q)
def Br(hS:∀a∈d,a<c.size){g C L:O}{S:Int}{aB:List cU}{q:cU}{f:Nat}(s:eP (bH d c) g aB)(ha:ap (bH d c) C q.args)(hk:nI (bH d c) L q.bC)(hj:f<=aB.length)(hb:aB.length<=900000000000):
 aN cq 226 [.agg #[O.v g,vi S],vi f,pv q C L] c λah N=>∃W,ah=.agg #[O.v W,vi S]/\eP (bH d N) W (aB.take f++[q]++aB.drop f)/\J c N:=by
 apply EY
 simp -zeta only[aD,aC]
 intro P h e k
 let⟨r,m,s1,s2,s3⟩:=qx (a:=P) (b:=h) (c:=e) rfl rfl rfl
 have z:J e k:=J.push _ _
 have s4:k.size=e.size+1:=by simp[k]
 have g0:GS (h.size::d) e k (.mk e.size 0 0 0) []:=GS.new _ _
 clear_value k
 clear_value e
 have u4:=r.trans z
 have K:=s.len
 have ak:=s.cap
 have I:∀a∈[h.size,P.size,c.size],a<k.size:=λa b=>z.lt (m a b)
 have H:∀{M:E}{D:Nat},J c M->c.size<=D->Le (bH d c) (bH (D::h.size::d) M):=λxx aj=>xx.bH λa b=>by
  simp only[aV]at b;rcases b with l|l|l
  .exact Or.inr V
  .exact Or.inr V
  .exact Or.inl l
 have X:Int.toNat (0:Int)=0:=rfl
 have Y:Int.toNat (f:Int)=f:=V
 have Z:Int.toNat (g.len:Int)=g.len:=V
 rw[X,Y,Z]
 refine⟨V,V,V,?_⟩
 have ac:eP (bH (e.size::h.size::d) k) (g.cut 0 f 5) (aB.take f):=by simpa using(s.le (H (D:=e.size) u4 V)).KU (i:=0) (dH _) hj
 refine GS.all g0 (z.fz []) ac bF λT y g1 F z1 q1=>⟨λa b=>q1 a (I a b) (by have:=m a b;simp;omega),V,V,V,?_⟩
 intro Q
 have t:J y Q:=J.push _ _
 have y1:=g1.bh
 have n:J e y:=F.ext
 have A:∀o,af Q c.size o=af y c.size o:=λo=>aE (t.same _ (oh (I c.size aL))) o
 refine⟨A 1,A 0,?_⟩
 refine GS.kL (x:=q) g1 F (ha.le (H (D:=T.D) (r.trans n) V)) (hk.le (H (D:=T.D) (r.trans n) V)) bF λU R g2 v z2 q2=>⟨J.oP (n.trans t) v.ext (λa b=>oh (m a b)),?_⟩
 have p:J e R:=v.ext
 have y2:=g2.bh
 have u:∀{M B:E},J e M->J e B->∀o,af B c.size o=af M c.size o:=λaa h' o=>aE (by rw[h'.same _ (m _ aL),aa.same _ (m _ aL)]) o
 refine⟨u (n.trans t) p 1,u (n.trans t) p 0,?_⟩
 have ae:eP (bH (U.D::h.size::d) R) (g.cut f g.len 5) (aB.drop f):=by
  have:=(s.le (H (D:=U.D) (r.trans p) V)).KU (i:=f) (j:=g.len) V V;rwa[K,bX (ad _),<-K]at this
 refine GS.all g2 v ae bF λr3 m8 G w z3 q3=>⟨J.oP p w.ext m,u p w.ext 1,?_⟩
 intro m9
 have y3:=G.bh
 have ab:∀a∈h.size::d,a<e.size:=λa b=>by
  rcases List.mem_cons.1 b with l|l
  .omega
  .have:=hS a l;omega
 refine⟨r3,rfl,?_,(r.trans w.ext).ah V _ _⟩
 have hD:=G.done gC.mono ab bn bF
 have ag:Le (bH (h.size::d) m8) (bH d m9):=cz aL λa b=>ai _ b
 exact eP.le ag (by simpa[fE]using hD)
def Fl(C:∀b∈d,b<c.size){u L p:O}{A:List bz}{w:List gR}{q:gR}{n:Nat}{l:Bk}(i:eL (bH d c) u L A w)(D:w[n]? =some q)(h3:q.params.length<=3/\q.cR.length<=3)(ag:eP (bH d c) p l.aB):
 ve 228 [.agg #[O.v u,O.v L],vi n,.agg #[O.v p,vi l.aT]] c d A λah=>ah=w.set n ⟨q.params,q.cR,q.aT,l⟩:=by
 apply xZ
 simp -zeta only[aD,aC]
 intro F h g j
 let⟨r,o,s1,s2,s3⟩:=qx (a:=F) (b:=h) (c:=g) rfl rfl rfl
 have y:J g j:=J.push _ _
 have s4:j.size=g.size+1:=by simp[j]
 have g0:GR (h.size::d) g j (.mk g.size 0 0 0) []:=Gr.new _ (ad _) _ _ _
 clear_value j
 clear_value g
 have u4:=r.trans y
 have an:=i.iX.len;have am:=i.oJ
 have ak:=aw D
 have ac:∀b∈[h.size,F.size,c.size],b<j.size:=λb e=>y.lt (o b e)
 have H:∀{M:E}{z:Nat},J c M->c.size<=z->Le (bH d c) (bH (z::h.size::d) M):=λxx aj=>xx.bH λb e=>by
  simp only[aV]at e;rcases e with f|f|f
  .exact Or.inr V
  .exact Or.inr V
  .exact Or.inl f
 refine Gr.all (g:=[.s .nil,.s .nil,.i 0,.s .nil,.i 0]) iU.mono bn g0 (y.fz []) (i.iX.le (H (z:=g.size) u4 V)) bF λm v g1 B z1 q1=>⟨λb e=>q1 b (ac b e) (by have:=o b e;simp;omega),V,V,?_⟩
 simp only[eE]at g1
 have x:J g v:=B.ext
 have y1:=g1.bh
 let⟨ao,ap,t,R,T,c3,U,W,X,Y,Z⟩:=(i.iX.le (H (z:=m.D) (r.trans x) V)).aG D
 have gJ:∀{P:Value}{t I:Nat},af (bH (m.D::h.size::d) v) t I=some P->af v t I=some P:=λaa=>(eQ.1 aa).2
 refine⟨_,gJ U,_,gJ W,_,gJ X,_,gJ Y,_,gJ Z,?_⟩
 have z5:=x.size
 refine(yA (b:=m.D::h.size::d) (λb e=>?_) (R.le (bA _ _)) (T.le (bA _ _)) V).mono λrv m6⟨K,N,f,h1,h2,s⟩=>?_
 .simp only[aV]at e
  rcases e with f|f|f
  .omega
  .omega
  .have:=C b f;omega
 subst f
 have g2:=g1.ext iU.mono s
 have al:=g2.len bn
 let⟨wr,g3,f3,q3⟩:=Gr.set (k:=n) (cs:=[.s K,.s N,.i q.aT,.s p,.i l.aT]) (a:=⟨q.params,q.cR,q.aT,l⟩) iU.mono g2 (B.then s) V ⟨K,N,p,rfl,h1,h2,ag.le (H (z:=m.D) ((r.trans x).trans s) V)⟩
 refine⟨λb e=>s.same b (oh (o b e)),_,_,_,_,_,rfl,V,V,wr,?_⟩
 intro m7
 refine⟨λb e=>q3 b (oh (o b e)),?_⟩
 intro G
 have ab:∀b∈h.size::d,b<g.size:=λb e=>by
  rcases List.mem_cons.1 e with f|f
  .omega
  .have:=C b f;omega
 have ae:Le (bH (h.size::d) m7) (bH d G):=cz aL λb e=>ai _ e
 have Q:J c G:=(r.trans f3.ext).ah V _ _
 exact⟨u,m,_,rfl,⟨i.bo.le (Q.df _),zK.le ae (g3.done iU.mono ab bn bF),i.types,bF⟩,rfl,Q⟩
end
def Us{c:List bz}{f b:Nat}{l:List cU}(h:WL c f True b l){j:Nat}{a v:Int}(e:14<=a/\a<=17)(m:0<=v/\v<((b+dc (l.take j):Nat):Int)):
 WL c f True b (l.take j++[eZ a v]++l.drop j)/\dc (l.take j++[eZ a v]++l.drop j)=dc l/\sw (l.take j++[eZ a v]++l.drop j)=sw l+2:=by
 have d:dc [eZ a v]=0:=jX e.1 [v]
 have g:sw [eZ a v]=2:=oI a [v]
 have i:=cV (l.take j) (l.drop j)
 have k:=dC (l.take j) (l.drop j)
 rw[dk]at i k
 refine⟨((h.take j).yV (DZ e m)).append ?_,?_,?_⟩
 .rw[cV,d];exact h.drop j
 .rw[cV,cV,d];omega
 .rw[dC,dC,g];omega
def Th(h:Nat)(e:List Value)(m:E)(S:List Nat)(b:Nat)(f:O)(P:Nat)(g:List bz)(Q:List gR->Prop):Prop:=
 aN cq h e m λv a=>∃d r c,v=.agg #[O.v d,O.v r]/\eL (bH S a) d r g c/\Q c/\Rd b f P a/\Fz [b] m a
def Qk{h:List Nat}{m:E}(hS:∀l∈h,l<m.size){d P:Nat}{Q:O}(ax:d∈h)(h0:Rd d Q P m)(hP:P+4<=10^16){y t:O}{B:List bz}{L:List gR}(hn:eL (bH h m) y t B L){aa:Nat}(R:yF B L True aa)(hW:aa<=200000000000):
 Th 208 [vp d 0,.agg #[O.v y,O.v t]] m h d Q (P+4) B λW=>yF B W True (aa+4):=by
 apply J4 (d,0)
 simp -zeta only[aD,aC,bT]
 intro f ag
 let⟨x2,hl⟩:=dD (a:=f) (c:=ag) rfl rfl
 have s1:f.size=m.size+1:=by simp[f]
 have s2:ag.size=m.size+2:=by simp[ag,s1]
 clear_value ag
 have b0:=hn.iX.len;have bZ:=hn.oJ
 have b1:=h0.lt
 have nb:∀a∈[f.size,m.size],a<ag.size/\a∉[d]:=λa c=>⟨hl a c,by have:=hl a c;simp at c⊢;omega⟩
 have yT:yF B L True (aa+4):=⟨R.iZ,λq F=>let⟨g,a,l,e⟩:=R.dz q F;⟨g,a,l,V⟩⟩
 refine(bY (h0.ext x2) V (t.len:Int)).mono λo g⟨ab,e,f0,f1,h3,z3⟩=>⟨z3.dq nb,ab,e,?_⟩
 have u3:Fz [d] m g:=(x2.fz _).trans z3
 have bQ:ab<(L.length:Int):=by have:=R.iZ;omega
 let⟨q,F⟩:=cG L ab.toNat
 let⟨aI,aH,bk,hw⟩:=R.dz q (aq F)
 have Hn:∀{M:E},Fz [d] m M->eL (bH h M) y t B L:=λp=>hn.le (p.df λa c=>by simp at c;subst c;exact ax)
 have HS:∀{M:E}(bb:Nat),m.size<=bb->Fz [d] m M->Le (bH h m) (bH (bb::f.size::h) M):=λbb bL gg=>gg.bH (λa c=>by simp at c;subst c;exact ax) λl s=>by
  simp only[aV]at s;rcases s with e|e|e
  .exact Or.inr V
  .exact Or.inr V
  .exact Or.inl e
 have ci:=z3.size
 let⟨cb,cd,a,c1,c2,c3,e0,e1,e2,e3,e4⟩:=(hn.le (HS g.size V u3)).iX.aG F
 have gJ:∀{M:E}{h:List Nat}{o:Value}{a I:Nat},af (bH h M) a I=some o->af M a I=some o:=λD=>(eQ.1 D).2
 refine⟨f0,V,a,gJ e3,q.body.aT,gJ e4,?_⟩
 intro m4 m5
 have x5:J g m5:=(J.push g _).ah (ad _) _ _
 have s5:m5.size=g.size+1:=by simp[m5,m4,av]
 clear_value m5
 have bM:=c3.len
 have bW:=c3.gV
 have bN:=Bk.mu q.body
 have b2:=gB q.body.aB
 have aw:∀a∈[g.size,f.size,m.size],a<m5.size/\a∉[d]:=λa c=>by simp at c⊢;omega
 rw[aP V V]
 refine(bY (h3.ext x5) V _).mono λo m6⟨G,e,j0,j1,h6,z6⟩=>⟨z6.dq aw,G,e,?_⟩
 have u6:Fz [d] m m6:=(u3.then x5).trans z6
 have bD:=z6.size
 have ba:=(Hn u6).le (bA _ _)
 obtain⟨fn,a3⟩:∃fn:Nat,ab=fn:=⟨ab.toNat,V⟩
 subst a3
 simp only[uc]at F
 have al:∀a∈[g.size,f.size,m.size],a<m6.size/\a∉[d]:=λa c=>⟨aO (aw a c).1 bD,(aw a c).2⟩
 have aN:∀{M:E},Rd d Q (P+4) M->Fz [d] m M->∃d' U W,Value.agg #[O.v y,O.v t]=.agg #[O.v d',O.v U]/\eL (bH h (ah M f.size 0 [.s y,.s t])) d' U B W/\yF B W True (aa+4)/\Rd d Q (P+4) (ah M f.size 0 [.s y,.s t])/\Fz [d] m (ah M f.size 0 [.s y,.s t]):=λhr p=>
  have g':=p.ah (b:=f.size) (Or.inr V) 0 [.s y,.s t]
  ⟨y,t,L,rfl,Hn g',yT,h0.ah hr p V _ _,g'⟩
 refine(EQ ba R hW F V).mono λo C⟨lb,ok,e,A,hA⟩=>⟨A.dq λa c=>(al a c).1,(lb,0),ok,e,λ_=>?_,λbd=>?_⟩
 .intro m8
  exact aN ((h6.ext A).mono V) (u6.then A)
 obtain⟨_,jl,ro,sl,au,b7,h7,i7⟩:=hA (by simpa using bd)
 intro m8
 have x8:J C m8:=J.push _ _
 have g8:GI h C m8 (.mk C.size 0 0 0) []:=GI.nil h C
 clear_value m8
 have z7:=A.size
 have bO:=tn q.body.aB
 have a2:=TC q.body.aB G.toNat
 have N0:=i7.len 0 bn
 have u7:Fz [d] m C:=u6.then A
 have aF:∀l∈h,l<C.size:=λl s=>aO (hS l s) u7.size
 refine ez (n:=(au 0).length) V (λan X M=>J C M/\∃H,GI h C M X H/\H.length<=an/\∀z∈H,0<=z/\z<(((au 0).length:Nat):Int)) ⟨x8,[],g8,ad _,aL⟩ ?_
 rintro an X m9 bI μ bU ⟨u,H,p,bX,ai⟩ aA
 have h9:=h7.ext u
 have l0:=h9.len (k:=0) bn
 have am:∀a∈[g.size,f.size,m.size],a<m9.size/\a∉[d]:=λa c=>⟨u.lt (A.lt (al a c).1),(al a c).2⟩
 refine⟨_,h9.cp (k:=0) bn,λa9=>?_,λbR=>?_⟩
 .simp only[ar]at a9
  let⟨z,i⟩:=cG (au 0) an
  refine⟨_,h9.cp (k:=0) bn,V,V,z,h9.aG bn V i,λ_=>?_,λ_=>aA V _ _ ⟨u,H,p,V,ai⟩⟩
  refine(sR h9 i7 V (v:=(an:Int)) V V).mono λo az⟨bb,e,w⟩=>⟨w.dq λa c=>(am a c).1,bb,e,λ_=>?_,λ_=>aA V _ _ ⟨u.trans w,H,p.ext w,V,ai⟩⟩
  intro T
  have gy:=p.bh
  refine GI.kL (p.ext w) ((u.trans w).fz []) aF V λU bm N K _ Y=>⟨J.oP ((u.trans w).aK _) K.ext (λa c=>A.lt (al a c).1),aA V _ _ ⟨K.ext,_,N,bF,λz i=>?_⟩⟩
  rcases List.mem_append.1 i with i|i
  .exact ai z i
  .simp at i;omega
 .have bS:=p.len bn
  have u9:Fz [d] m m9:=u7.then u
  have r9:Rd d Q (P+2) m9:=(h6.ext (A.trans u)).mono V
  refine⟨λ_=>?_,λbc=>?_⟩
  .intro az
   exact aN (r9.mono V) u9
  simp only[aj]at bc
  have gy:=p.bh
  have gb:X.D∉[d]:=by simp;have:=u7.size;omega
  refine(bY r9 V (X.len:Int)).mono λo az⟨ay,e,i0,i1,aX,vG⟩=>⟨vG.dq am,ay,e,i0,V,?_⟩
  let⟨w,aM⟩:=cG H ay.toNat
  let⟨w0,w1⟩:=ai w (aq aM)
  have a4:af m9 X.D (X.off+ay.toNat*1)=some (vi w):=((p.done aF V).le (bA _ _)).aG aM
  refine⟨w,(aE (vG.same _ gy.2 gb) _).trans a4,?_⟩
  have br:=u9.trans vG
  have cj:=u.size;have bE:=vG.size
  have aG:∀a∈[g.size,f.size,m.size],a<az.size/\a∉[d]:=λa c=>⟨aO (am a c).1 bE,(am a c).2⟩
  have ew:cO (cO ((a.len:Int) -G)+1)=(a.len:Int) -G+1:=by rw[aP (b:=(a.len:Int) -G) V V,aP V V]
  rw[ew]
  refine(bY aX V _).mono λo T⟨i2,e,b3,b4,aY,ap⟩=>⟨ap.dq aG,i2,e,?_⟩
  have aQ:=br.trans ap
  have bG:=ap.size
  have ak:∀a∈[g.size,f.size,m.size],a<T.size:=λa c=>aO (aG a c).1 bG
  have ac:∀{M:E},T.size<=M.size->∀l∈g.size::f.size::h,l<M.size:=λhz l s=>by
   simp only[aV]at s;have h1:=ak g.size aL;have h2:=ak f.size aL;rcases s with e|e|e
   .omega
   .omega
   .have:=hS l e;have:=aQ.size;omega
  have bt:Fz [d] g T:=(((((x5.fz _).trans z6).then A).then u).trans vG).trans ap
  have a1:=c3.le (bt.df λl s=>by simp at s;subst s;simp[ax])
  obtain⟨i,a5⟩:∃i:Nat,G=i:=⟨G.toNat,V⟩
  obtain⟨kn,a8⟩:∃kn:Nat,i2=kn:=⟨i2.toNat,V⟩
  subst a5 a8
  have bj:i+kn<=q.body.aB.length:=V
  have aW:cO ((i:Int)+(kn:Int))=((i+kn:Nat):Int):=by rw[aP V V];omega
  simp only[uc]at N0 a2
  let⟨bl,r0,r1⟩:=bk.aS
  have bP:dc (q.body.aB.take i)<=dc (q.body.aB.take (i+kn)):=by
   have:=TC (q.body.aB.take (i+kn)) i;rwa[MB,jf V]at this
  let⟨bw,bu,bB⟩:=Us (j:=i+kn) (a:=15) (v:=w) bl bn ⟨w0,V⟩
  have bi:(q.body.aB.take (i+kn)++[eZ 15 w]++q.body.aB.drop (i+kn)).take i=q.body.aB.take i:=by
   rw[fE,ny bF,MB,jf V]
  let⟨bx,bv,bC⟩:=Us (j:=i) (a:=14) (v:=w) bw bn ⟨w0,by rw[bi];omega⟩
  generalize aK:q.body.aB.take (i+kn)++[eZ 15 w]++q.body.aB.drop (i+kn)=st1 at*
  have bV:st1.length=q.body.aB.length+1:=by rw[<-aK];simp;omega
  have K:∀{M Z:E},J M Z->T.size<=M.size->∀a∈[g.size,f.size,m.size],∀I,af Z a I=af M a I:=λxx hz a c I=>aE (xx.same a (aO (ak a c) hz)) I
  have kS:∀{M Z:E},J M Z->T.size<=M.size->eF [g.size,f.size,m.size] M Z:=λxx hz a c=>xx.same a (aO (ak a c) hz)
  rw[aW]
  refine(jm (c:=g.size::f.size::h) (ac (ad _)) 15 w).mono λo bm⟨bJ,b5,e,aZ,a6,N⟩=>⟨kS N (ad _),_,_,_,_,_,e,K N (ad _) _ aL _,K N (ad _) _ aL _,?_⟩
  have aU:=N.size
  refine(Br (d:=g.size::f.size::h) (S:=q.body.aT) (q:=eZ 15 w) (ac aU) (a1.le (N.df _)) aZ a6 bj V).mono λo bo⟨bq,e,aJ,ao⟩=>⟨kS ao aU,_,_,e,?_⟩
  rw[aK]at aJ
  intro ae
  have ce:=ao.size
  have cf:ae.size=bo.size:=av _ _ _ _
  have aR:=(aQ.then N).then ao
  have bs:Fz [d] m ae:=aR.ah (Or.inr V) _ _
  have bp:Rd d Q (P+2+1+1) ae:=h0.ah ((aY.ext N).ext ao) aR V _ _
  have bg:eP (bH (g.size::f.size::h) ae) bq st1:=aJ.le (cz aL λ_ D=>D)
  clear_value ae
  refine(jm (c:=g.size::f.size::h) (ac V) 14 w).mono λo b8⟨bK,b6,e,a0,a7,z⟩=>⟨kS z V,_,_,_,_,_,e,K z V _ aL _,K z V _ aL _,K z V _ aL _,K z V _ aL _,?_⟩
  have cg:=z.size
  refine(Br (d:=g.size::f.size::h) (S:=q.body.aT) (q:=eZ 14 w) (ac V) (bg.le (z.df _)) a0 a7 (f:=i) V V).mono λo b9⟨cc,e,bh,Y⟩=>⟨kS Y V,_,_,e,K Y V _ aL _,K Y V _ aL _,?_⟩
  have ch:=Y.size
  have aS:=(bs.then z).then Y
  refine(Fl (d:=g.size::f.size::h) (ac V) (l:=.mk (st1.take i++[eZ 14 w]++st1.drop i) q.body.aT) (hn.le (HS g.size V aS)) F ⟨aI,aH⟩ bh).mono λo b_⟨d',U,W,e,a_,bf,aB⟩=>⟨kS aB V,d',U,e,?_⟩
  intro ca
  have aT:=aS.then aB
  refine⟨d',U,W,rfl,a_.le (cz aL λl s=>by simp[s]),?_,h0.ah (((bp.ext z).ext Y).ext aB) aT V _ _,aT.ah (Or.inr V) _ _⟩
  subst bf
  refine⟨by simp;exact R.iZ,λq' be=>?_⟩
  rw[dZ]
  rcases cA be with D|D
  .exact yT.dz q' D
  .subst D
   refine⟨aI,aH,.of bx ⟨r0,by rw[bv,bu];exact r1⟩,?_⟩
   show Bk.w (.mk _ _)<=_
   rw[Bk.qQ,bC,bB];omega
section
variable{f:E}{t:O}{d:Bk}{j e:Int}{g:List Nat}{l h c:Nat}
def pZ(l:eP f t d.aB):tg 275 [.agg #[O.v t,vi d.aT]] f λc=>0<=c/\c<=d.aB.length/\∀(i:Nat)(e:cU),d.aB[i]? =some e->(i:Int)<c->14<=e.op/\e.op<=17:=by
 apply zf;simp -zeta only[aD,aC];intro a;have B:J f a:=J.push _ _;have w:∀q∈[f.size],q<a.size:=by simp[a]
 clear_value a;have x:=l.len;refine dT (n:=d.aB.length) (x▸l.gV) (λc M=>J a M/\∀(i:Nat)(e:cU),d.aB[i]? =some e->i<c->14<=e.op/\e.op<=17) ⟨J.az _,λi e _ b=>V⟩ ?_;rintro c M I μ L ⟨p,o⟩ z
 have u:=B.trans p;have R:∀{m:E},J f m->∃k:Int,vi (c:Int)=vi k/\(0<=k/\k<=d.aB.length/\∀(i:Nat)(e:cU),d.aB[i]? =some e->(i:Int)<k->14<=e.op/\e.op<=17)/\J f m:=λD=>⟨c,rfl,⟨V,V,λi e g b=>o i e g V⟩,D⟩;refine⟨λb=>?_,λb=>R u⟩;simp only[ar]at b;let⟨e,g⟩:=cG d.aB c;obtain⟨h,P,H,N,s,_⟩:=l.aG g;refine⟨V,V,_,u.af s,?_⟩;refine(tK e.op M).aH p w λG Q v C A=>⟨_,rfl,λy=>z V _ ⟨A,λi F j K=>?_⟩,λ_=>R (u.trans C)⟩;by_cases r:i=c
 .subst r;rw[g]at j;simp at j;subst j;exact v.1 y
 .exact o i F j V
def DN(b:eP f t d.aB){w:Int}(K:0<=j/\j<=d.aB.length)(z:∀(r:Nat)(s:cU),d.aB[r]? =some s->(r:Int)<j->0<s.args.length):
 tg 276 [.agg #[O.v t,vi d.aT],vi j,vi w,vi e] f λc=>-1<=c/\(0<=c->c<j/\∃s:cU,d.aB[c.toNat]? =some s/\s.op=w/\s.args[0]? =some e):=by
 apply Hf
 simp -zeta only[aD,aC]
 intro i
 have B:J f i:=J.push _ _
 clear_value i
 have L:=b.len
 have H:=b.gV
 obtain⟨k,A⟩:∃k:Nat,j=k:=⟨j.toNat,V⟩
 subst A
 refine dT (n:=k) V (λc M=>J i M) (J.az _) ?_
 rintro c M I μ F l v
 have u:=B.trans l
 refine⟨λa=>?_,λa=>⟨-1,rfl,⟨V,λa=>V⟩,u⟩⟩
 simp only[ar]at a
 let⟨s,g⟩:=cG d.aB c
 let⟨h,N,m,G,x,g1,g2,y,D⟩:=b.aG g
 have E:=m.len
 have:=z c s g V
 let⟨C,q⟩:=cG s.args 0
 refine⟨V,V,_,u.af x,λo=>⟨V,V,_,u.af y,bn,V,C,(m.ext u).aG q,λp=>?_,λ_=>v V _ l⟩,λ_=>v V _ l⟩
 simp only[aI]at o p
 refine⟨c,rfl,⟨V,λ_=>⟨V,s,?_,o,by rw[<-p];exact q⟩⟩,u⟩
 simpa using g
def Pa(g:eP f t d.aB){b:Int}(A:0<=b/\b<=d.aB.length):tg 309 [.agg #[O.v t,vi d.aT],vi b,vi j] f λc=>-1<=c/\c<d.aB.length:=by
 apply Ix;simp -zeta only[aD,aC];intro i;have v:J f i:=J.push _ _;clear_value i;have q:=g.len;obtain⟨e,p⟩:∃e:Nat,b=e:=⟨b.toNat,V⟩;subst p;refine VS (n:=d.aB.length) (b:=e) V (q▸g.gV) (λc M=>J i M) (J.az _) ?_;rintro c M I μ _ y l s
 have u:=v.trans l;refine⟨λk=>?_,λk=>⟨-1,rfl,⟨V,V⟩,u⟩⟩;simp only[ar]at k;let⟨C,r⟩:=cG d.aB c;let⟨h,B,x,z,m,g1,g2,o,w⟩:=g.aG r;have N:=s V _ l
 exact⟨V,V,_,u.af m,λ_=>⟨V,V,_,u.af g2,λ_=>⟨V,V,_,u.af o,λ_=>⟨c,rfl,⟨V,V⟩,u⟩,λ_=>N⟩,λ_=>N⟩,λ_=>N⟩
def Iz(d:Bk)(Z:∀l∈g,l<f.size)(C:eP f t d.aB)(hw:d.w<=10^12):aN cq 287 [.agg #[O.v t,vi d.aT]] f λai E=>∃s,ai=.agg #[O.v s,vi d.aT]/\GS g f E s d.aB/\J f E:=by
 let⟨aB,q⟩:=d;rw[Bk.qQ]at hw;simp only[Bk.jV,Bk.jx]at*;apply rK;simp -zeta only[aD,aC];intro j b h F p;let⟨K,A⟩:=dD (a:=j) (c:=b) rfl rfl;have s0:j.size=f.size+1:=by simp[j]
 have s1:b.size=f.size+2:=by simp[b,s0]
 have s2:h.size=b.size+1:=by simp[h]
 have s3:F.size=h.size+1:=by simp[F]
 have L:J h p:=(J.push h _).ah (ad _) _ _;have aj:J b p:=(J.push b _).trans L;have x:GS (h.size::j.size::g) b p (.mk b.size 0 0 0) []:=(GS.new _ b).ext gC.mono L;have N:cD p h.size dh [.s (.mk b.size 0 0 0),.i q]:=cD.ah (m:=F) (o:=0) (r:=[.s (.mk b.size 0 0 0),.i q]) (cD.push h _ _);clear_value p;have aa:∀l∈j.size::g,l<b.size:=bP Z K.size (A _ aL);have ag:=C.len;have al:=gB aB;refine dT (n:=aB.length) (ag▸C.gV) (λc M=>J b M/\∃s,GS (h.size::j.size::g) b M s (aB.take c)/\cD M h.size dh [.s s,.i q]) ⟨aj,_,x,N⟩ ?_;rintro c G ak μ hk ⟨w,s,v,B⟩ ah
 have k:=K.trans w;have af:∀d∈[j.size,f.size],d<G.size:=λd y=>w.lt (A d y);have hy:=v.bh;have z5:=w.size;have I:=B.lt;refine dit (λY=>?_) λY=>?_
 .let⟨e,D⟩:=cG aB c;let⟨pa,pk,ha,ae,x,g1,g2,W,X⟩:=C.aG D;have am:=Pg D;refine⟨s,B.cp 0,V,V,_,k.af x,_,k.af g1,_,k.af g2,_,k.af W,_,k.af X,?_⟩;refine(yx (e:=s.D::h.size::j.size::g) (bP (bP aa z5 I) (ad _) hy.2) (ha.ext k) (ae.le k.le) V (λd _=>wB d)).aH (J.az G) af λP Q x' H ab ac R u _=>⟨_,_,_,_,_,rfl,aE (u.same _ I) _,?_⟩;subst R;intro m7;refine Gr.box (g:=[.i 0,.i 0,.i 0,.s .nil,.s .nil]) (j:=0) (i:=[.s s,.i q]) (w:=e) gC.mono bn (v.ext gC.mono u) ((w.trans u).fz []) ⟨P,Q,rfl,ab,ac⟩ bF (B.ext u) aL bn ⟨V,aL⟩ (λl z=>by have M:=A l z;have T:=u.size;omega) λr' E U M T z' q'=>ah V _ ⟨T.ext,r',?_,M⟩
  rw[aU D];exact U
 .rw[bX V]at v;refine⟨s,B.cp 0,q,B.cp 1,?_⟩;intro H;have u:Fz [j.size] G H:=(Fz.az _ _).ah (Or.inl aL) _ _;have D:GS g b H s aB:=v.re gC.mono u aL bF λl z=>Or.inl (by simp[z]);exact⟨s,rfl,Gr.cv gC.mono D (λd y=>Or.inl y) V,k.ah V _ _⟩
def Ut{f:List bz}{d:Prop}{a:List cU}(j:WL f l d h a){e b:cU}(g:a[c]? =some e)(p:WS f l d (h+dc (a.take c)) b)(hd:dn b=dn e):
 WL f l d h (a.set c b)/\dc (a.set c b)=dc a/\sw (a.set c b)+e.w=sw a+b.w:=by
 have o:=aw g
 have k:a.set c b=a.take c++([b]++a.drop (c+1)):=by rw[Pu,an o];rfl
 have i:a=a.take c++([e]++a.drop (c+1)):=by
  let⟨m,n⟩:=List.getElem?_eq_some_iff.1 g;rw[<-n];show a=a.take c++(a[c]::a.drop (c+1));rw[<-qv m,dk]
 have q:dc a=dc (a.take c)+(dn e+dc (a.drop (c+1))):=by
  conv=>lhs;rw[i]
  rw[cV,cV,kN,tp];omega
 have r:sw a=sw (a.take c)+(e.w+sw (a.drop (c+1))):=by
  conv=>lhs;rw[i]
  rw[dC,dC,mN,vC];omega
 rw[k]
 refine⟨(j.take c).append ((WL.lM p).append ?_),?_,?_⟩
 .have:=j.drop (c+1)
  rw[qV g]at this
  rw[kN,tp,hd,jH,di];exact this
 .rw[cV,cV,kN,tp];omega
 .rw[dC,dC,mN,vC];omega
def _root_.Go.Vc.Gr.cells{α:Type}{r:E}{m d:Nat}{R:E->List Ce->α->Prop}{s:O}{l:List α}(n:Gr g r f m d R s l){e:α}(i:l[c]? =some e):∃a,R (bH (s.D::g) f) a e/\fR f s.D (s.off+c*d) a:=by
 let⟨t,k,o,b⟩:=n;let⟨a,h⟩:=cG k c (by rw[b.len];exact aw i);refine⟨a,b.dz c a e h i,λq j p=>?_⟩;have:=o.iD (c*d+q) j (fY b.size h p);rwa[<-di]at this
def Kk(hS:∀c∈g,c<f.size)(w:eP f t d.aB){Q:List bz}(ao:WB Q l True h d)(hw:d.w<=10^12)(hx:0<=e/\e<(h:Int))(a6:h<=10^12)(j:Int):
 aN cq 274 [.agg #[O.v t,vi d.aT],vi e,vi j] f λaa Z=>∃s o,aa=.agg #[O.v s,vi o.aT]/\eP Z s o.aB/\(eP (bH g f) t d.aB->eP (bH g Z) s o.aB)/\(WB Q l True h o/\o.w<=d.w)/\J f Z:=by
 apply Dk
 simp -zeta only[aD,aC]
 intro m u
 let⟨C,q⟩:=dD (a:=m) (c:=u) rfl rfl
 have s1:m.size=f.size+1:=by simp[m]
 have s2:u.size=f.size+2:=by simp[u,s1]
 clear_value u
 let⟨X,aU⟩:=ao.aS
 have D:∀{ac M':E},J u ac->J u M'->∀I,af M' f.size I=af ac f.size I:=λp h' I=>aE (by rw[h'.same _ (q _ aL),p.same _ (q _ aL)]) I
 refine(pZ (w.le C.le)).aH (J.az u) q λn1 m3 U P _=>⟨_,rfl,D (J.az _) P _,D (J.az _) P _,?_⟩
 refine(DN (w.le (C.trans P).le) (w:=16) (e:=e) ⟨U.1,U.2.1⟩ λaq s hi aO=>?_).aH P q λn2 m4 aQ x4 L=>⟨_,rfl,?_⟩
 .have:=U.2.2 aq s hi aO
  have:=(X aq s hi).fe.lM V
  omega
 refine(pZ (w.le (C.trans L).le)).aH L q λn3 m5 an x5 M=>⟨_,rfl,D L M _,D L M _,?_⟩
 refine(Pa (w.le (C.trans M).le) (j:=j) ⟨an.1,an.2.1⟩).aH M q λn4 z bb x6 v6=>⟨_,rfl,?_⟩
 have u6:=C.trans v6
 have ay:∃s o,Value.agg #[O.v t,vi d.aT]=.agg #[O.v s,vi o.aT]/\eP (ah z m.size 0 [.s t,.i d.aT]) s o.aB/\(eP (bH g f) t d.aB->eP (bH g (ah z m.size 0 [.s t,.i d.aT])) s o.aB)/\(WB Q l True h o/\o.w<=d.w)/\J f (ah z m.size 0 [.s t,.i d.aT]):=
  have R:=u6.ah (b:=m.size) V 0 [.s t,.i d.aT]
  ⟨t,d,rfl,w.le R.le,λp=>p.le (R.df _),⟨ao,ad _⟩,R⟩
 refine⟨λ_=>ay,λh2=>⟨λ_=>ay,λh4=>?_⟩⟩
 simp only[bE]at h2 h4
 have z6:=v6.size
 have ak:∀c∈m.size::g,c<z.size:=λc i=>by
  rcases List.mem_cons.1 i with n|n
  .omega
  .have:=hS c n;omega
 refine(Iz d ak (w.le u6.le) hw).mono λaa H⟨K,n,g7,x7⟩=>⟨λc i=>x7.same c (oh (q c i)),_,_,n,?_⟩
 intro m8 A
 have x9:J H A:=(J.push H _).ah (ad _) _ _
 have s9:A.size=H.size+1:=by simp[A,m8,av]
 clear_value A
 have y7:=g7.bh
 have z7:=x7.size
 have g9:=g7.ext gC.mono x9
 have am:∀c∈[H.size,m.size,f.size],c<A.size/\c≠K.D:=λc i=>by simp at i;omega
 refine(jm (c:=K.D::m.size::g) (λc i=>?_) 17 e).mono λaa au⟨ag,ar,n,aK,aM,B⟩=>⟨λc i=>B.same c (am c i).1,_,_,_,_,_,n,aE (B.same _ V) _,?_⟩
 .rcases List.mem_cons.1 i with n|n
  .omega
  .have:=ak c n;omega
 have aj:=g9.ext gC.mono B
 have bg:=aj.len bn
 let⟨ba,so,W,bc,a7⟩:=aQ.2 V
 have aA:J z au:=(x7.trans x9).trans B
 have aR:=aw W
 let⟨a0,T,aG,aY⟩:=Gr.set (k:=n2.toNat) (cs:=[.i 17,.i 0,.i 0,.s ag,.s ar]) (a:=eZ 17 e) gC.mono aj (aA.fz []) aR ⟨ag,ar,rfl,aK,aM⟩
 refine⟨V,V,a0,?_⟩
 intro F
 have vG:=B.size
 have bh:F.size=au.size:=av _ _ _ _
 refine⟨λc i=>aY c (am c i).2,V,V,?_⟩
 have aV:=X _ so W
 have w1:=aV.fe.lM (Or.inl V)
 have d1:dn (eZ 17 e)=dn so:=by
  unfold dn;rw[ae (λp:px _=>by have:=p.2;simp only[eZ]at this;omega),ae (λp:px _=>oh p.2)]
 let⟨az,a2,bj⟩:=Ut X W (DZ (c:=17) (v:=e) bn ⟨hx.1,V⟩) d1
 have be:=cU.mu so
 have a9:(eZ 17 e).w=2:=rfl
 let⟨y,Y⟩:=cG (d.aB.set n2.toNat (eZ 17 e)) n4.toNat bF
 have a_:=T.len bn
 obtain⟨a5,⟨pa,pk,rfl,aS,aT⟩,jw⟩:=T.cells Y
 have e0:=jw 0 _ rfl;have e1:=jw 1 _ rfl;have e2:=jw 2 _ rfl;have e3:=jw 3 _ rfl;have e4:=jw 4 _ rfl
 refine⟨_,e0,_,e1,_,e2,_,e3,_,e4,?_⟩
 intro aW G
 have N:J F G:=(J.push F _).ah (ad _) _ _
 have bi:G.size=F.size+1:=by simp[G,aW,av]
 clear_value G
 have aI:=T.ext gC.mono N
 have aF:cO (1+e)=1+e:=aP V V
 rw[aF]
 have aB:=(aG.then N)
 let⟨a1,aJ,aH,aZ⟩:=Gr.set (k:=n4.toNat) (cs:=[.i y.op,.i y.bQ,.i (1+e),.s pa,.s pk]) (a:=⟨y.op,y.bQ,1+e,y.args,y.bC⟩) gC.mono aI aB bF ⟨pa,pk,rfl,ap.le (N.df _) aS,nI.le (N.df _) aT⟩
 refine⟨V,V,a1,?_⟩
 intro ax
 have r:=az _ y Y
 let⟨a4,a3,bk⟩:=Ut (b:=⟨y.op,y.bQ,1+e,y.args,y.bC⟩) az Y ⟨⟨r.fe.op,r.fe.args,r.fe.lM,⟨by show 0<=1+e;omega,by show 1+e<=_;omega⟩,r.fe.Kr,r.fe.all,r.fe.call⟩,r.bC⟩ rfl
 refine⟨λc i=>aZ c (by simp at i;omega),?_⟩
 intro aX
 have bf:(⟨y.op,y.bQ,1+e,y.args,y.bC⟩:cU).w=y.w:=rfl
 have a8:=Bk.mu d
 have bd:=gB d.aB
 have ab:eP (bH (m.size::g) ax) K _:=aJ.nK gC.mono (S:=m.size::g) (λi=>by
  rcases List.mem_cons.1 i with n|n
  .omega
  .have:=hS _ n;omega) bn bF
 have al:Le (bH (m.size::g) ax) (bH g aX):=cz aL λc i=>ai _ i
 refine⟨K,.mk _ d.aT,rfl,(ab.le al).le (bA _ _),λ_=>ab.le al,⟨.of a4 (by rw[a3,a2];exact aU),?_⟩,(u6.trans aH.ext).ah V _ _⟩
 rw[Bk.qQ];omega
end
def Tm(c:List bz)(d:List gR)(N:Nat):Prop:=∀(b:Bk),b.w<=N->∀(S:List Nat)(m:E),(∀a∈S,a<m.size)->∀(f r t lg:O)(l:List Int)(a:Nat),eL m f r c d->eP m t b.aB->ap m lg l->WB c d.length True a b->a+4*b.w<=10^12->l.length+4*b.w<=10^12->
 nA 232 [.agg #[O.v f,O.v r],.agg #[O.v t,vi b.aT],O.v lg] m S λe=>WB c d.length True a e/\e.w<=b.w
def Kl{D:List Nat}{m:E}(hS:∀c∈D,c<m.size){R ac pa pk lg:O}{j:List bz}{A:List gR}{a:cU}{y:List Int}{F:Nat}(q:eL m R ac j A)(ha:ap m pa a.args)(hk:nI m pk a.bC)(I:ap m lg y)(Y:WS j A.length True F a)(hb:F+4*a.w<=10^12)(a2:y.length+4*a.w<=10^12){l:Nat}{i:Bk}(U:a.bC[l]? =some i)(ih:Tm j A i.w):
 nA 248 [.agg #[O.v R,O.v ac],pv a pa pk,vi l,O.v lg] m D λk=>WB j A.length True (F+BY j a.op a.bQ l) k/\k.w<=i.w:=by
 apply Dl
 simp -zeta only[aD,aC]
 intro aa s b
 let⟨f,hl,s1,h,s3⟩:=qx (a:=aa) (b:=s) (c:=b) rfl rfl rfl
 clear_value b
 let⟨aj,ht,f0,f1⟩:=hk.aG U
 have a0:=aw U
 have a1:=hk.len
 have aW:=ha.len
 have a5:=cU.mu a
 have aY:=wX U
 have ae:=Y.bC l i U
 have aZ:=i.Ht
 have aG:∀{M:E},J b M->∀c∈s.size::D,c<M.size:=λxx c d=>by
  have:=xx.size;rcases List.mem_cons.1 d with e|e
  .omega
  .have:=hS c e;omega
 have iH:∀(M:E)(Z u:O)(l':List Int)(k:Bk)(Lx:List Nat),J m M->J b M->(∀c∈Lx,c<M.size)->eP M u k.aB->ap M Z l'->l'.length<=y.length+1->WB j A.length True (F+BY j a.op a.bQ l) k->k.w<=i.w->
  aN cq 232 [.agg #[O.v R,O.v ac],.agg #[O.v u,vi k.aT],O.v Z] M λv r=>eF Lx M r/\∃(h:O)(b2:Bk),v=.agg #[O.v h,vi b2.aT]/\∀g,g=ah r s.size 0 [.s h,.i b2.aT]->∃s3 b3,(Value.agg #[O.v h,vi b2.aT])=.agg #[O.v s3,vi b3.aT]/\eP (bH D g) s3 b3.aB/\(WB j A.length True (F+BY j a.op a.bQ l) b3/\b3.w<=i.w)/\J m g:=λM Z u l' k Lx xm aU aF hs aK a3 aR aQ=>by
  have h3:=QN q.types a.op a.bQ l
  refine(ih k aQ (s.size::D) M (aG aU) R ac u Z l' _ (q.le xm.le) hs aK aR V V).mono λv r⟨h,b2,e,aO,aH,x'⟩=>⟨x'.dq aF,h,b2,e,λg am=>⟨h,b2,rfl,?_,⟨aH.1,V⟩,?_⟩⟩
  .rw[am];exact aO.le (cz aL λc d=>ai _ d)
  .rw[am];exact(xm.trans x').ah V _ _
 refine⟨λG=>?_,λG=>?_⟩
 .refine⟨V,V,_,f.af f0,_,f.af f1,?_⟩
  refine(iH b lg aj y i _ f (J.az _) hl (ht.le f.le) (I.ext f) V ae (ad _)).mono λv r⟨o,h,b2,e,p⟩=>⟨o,_,_,e,?_⟩
  intro g
  exact p g rfl
 .have G:a.op=8:=by simpa using G
  obtain⟨aX,_⟩:=Y.fe.all G
  have aV:=Y.fe.lM (Or.inr (Or.inr G))
  let⟨B,hy⟩:=cG a.args 0
  let⟨y0,y1⟩:=Y.fe.args B (aq hy)
  refine⟨bn,V,B,(ha.ext f).aG hy,V,V,_,f.af f0,_,f.af f1,?_⟩
  intro m4 t
  have x5:J b t:=(J.push b _).ah (ad _) _ _
  have s5:t.size=b.size+1:=by simp[t,m4,av]
  clear_value t
  have L:=f.trans x5
  have w:∀{M:E},J t M->∀c∈[b.size,s.size,aa.size,m.size],c<M.size:=λxx c d=>by have:=xx.size;simp at d;omega
  refine(dv (I.ext L) B).any.aH (J.az t) (w (J.az _)) λbb m6 n _=>⟨_,rfl,λ_=>?_,λ_=>?_⟩
  .have N:=L.trans n
   let⟨cn,aI⟩:=cG (cy j a.bQ) l
   have C:∀{M M':E},J t M->J M M'->∀c∈[b.size,s.size,aa.size,m.size],∀ab,af M' c ab=af M c ab:=λT h' c d ab=>aE (h'.same c (w T c d)) ab
   refine(iy (e:=[]) aL (q.bo.le N.le) q.types a.bQ).aH n (w (J.az _)) λs7 l7 m7 X e x7 v7=>⟨_,rfl,C n x7 _ aL _,C n x7 _ aL _,C n x7 _ aL _,?_⟩
   subst e
   have X:=X.le (bA _ _)
   have l7:=X.len
   refine⟨V,V,cn,X.aG aI,?_⟩
   refine(dK (e:=[]) aL (q.bo.le ((L.trans v7).le.trans (Am _))) q.types cn).aH v7 (w (J.az _)) λs8 l8 m8 a4 e x8 v8=>⟨_,rfl,C v7 x8 _ aL _,C v7 x8 _ aL _,?_⟩
   subst e
   have z8:=v8.size
   have h3:=QN q.types a.op a.bQ l
   have an:eP (bH [b.size] m8) aj i.aB:=ht.le ((Am m).trans ((L.trans v8).bH λc d=>Or.inr (by simp at d;omega)))
   refine(Kk (g:=[b.size]) bF (an.le (bA _ _)) ae V (e:=B) ⟨y0,V⟩ V (s8.len:Int)).mono λv m9⟨s9,b9,e,_,aP,H,x9⟩=>⟨λc d=>x9.same c (w v8 c d),_,_,e,?_⟩
   intro z
   have v9:=v8.trans x9
   have al:J b z:=(x5.trans v9).ah V _ _
   have W:eP z s9 b9.aB:=((aP an).le (cz (a:=[b.size]) aL λ_ T=>T)).le (bA _ _)
   have a9:z.size=m9.size:=av _ _ _ _
   have z9:=v9.size
   have K:∀{M:E},z.size<=M.size->∀c∈[b.size,s.size,aa.size,m.size],c<M.size:=λT c d=>by simp at d;omega
   clear_value z
   refine(pZ W).aH (J.az z) (K (ad _)) λa7 a6 ag aA _=>⟨_,rfl,?_⟩
   obtain⟨aS,_⟩:=H.1.aS
   refine(DN (W.le aA.le) (w:=17) (e:=B) ⟨ag.1,ag.2.1⟩ λao u hj aM=>?_).aH aA (K (ad _)) λa8 aT _ a_ P=>⟨_,rfl,λ_=>?_,λ_=>?_⟩
   .have:=ag.2.2 ao u hj aM
    have:=(aS ao u hj).fe.lM V
    omega
   .have Q:=al.trans P
    refine(mF (S:=[]) aL ((I.ext (f.trans Q)).le (Am _)) B V).aH P (K (ad _)) λay ar au aB ax ba ak=>⟨_,rfl,?_⟩
    have az:=al.trans ak
    have aJ:ap au ay ar:=(aB.done aL (oh ax.2)).le (bA _ _)
    refine(iH au ay s9 ar b9 _ (f.trans az) az (K ak.size) (W.le ak.le) aJ ax.2 H.1 H.2).mono λv r⟨o,h,b2,e,p⟩=>⟨o,_,_,e,?_⟩
    intro g
    exact p g rfl
   .have Q:=al.trans P
    refine(iH aT lg s9 y b9 _ (f.trans Q) Q (K P.size) (W.le P.le) (I.ext (f.trans Q)) V H.1 H.2).mono λv r⟨o,h,b2,e,p⟩=>⟨o,_,_,e,?_⟩
    intro g
    exact p g rfl
  .have N:=L.trans n
   refine(iH m6 lg aj y i _ N (x5.trans n) (w n) (ht.le N.le) (I.ext N) V ae (ad _)).mono λv r⟨o,h,b2,e,p⟩=>⟨o,_,_,e,?_⟩
   intro g
   exact p g rfl
section
variable{c:List gR}
def Tm.fm{b:List bz}{N a:Nat}(h:Tm b c N)(e:a<=N):Tm b c a:=λd f=>h d (bI f e)
def Ha{K:List bz}:∀N:Nat,Tm K c N:=by
 intro N;induction N with
 |zero=>intro v hb;have:=v.Ht;omega
 |succ N t=>
 intro v hb p Q hS aH a5 a6 lg a3 ae hn hs ao ay aK aR;let⟨aB,A⟩:=v;have ah:=ay.aS;rw[Bk.qQ]at*;simp only[Bk.jV,Bk.jx]at*;apply zl;simp -zeta only[aD,aC];intro R j h f m5 G;let⟨x3,hl,s1,s2,s3⟩:=qx (a:=R) (b:=j) (c:=h) rfl rfl rfl;have s4:f.size=h.size+1:=by simp[f]
 have aj:J f G:=(J.push f _).ah (ad _) _ _;have aF:J h G:=(J.push h _).trans aj;have g0:GS (f.size::j.size::p) h G (.mk h.size 0 0 0) []:=(GS.new _ h).ext gC.mono aj;have B0:cD G f.size dh [.s (.mk h.size 0 0 0),.i A]:=cD.ah (m:=m5) (o:=0) (r:=[.s (.mk h.size 0 0 0),.i A]) (cD.push f _ _);have al:∀d∈j.size::p,d<h.size:=bP hS x3.size (hl _ aL);clear_value G;clear_value h;have ap:=hs.len;have ar:=BP aB;have aX:=gB aB;refine dT (n:=aB.length) (ap▸hs.gV) (λl M=>J h M/\∃s u,GS (f.size::j.size::p) h M s u/\cD M f.size dh [.s s,.i A]/\u.length=l/\WL K c.length True ae u/\dc u=dc (aB.take l)/\sw u<=sw (aB.take l)) ⟨aF,_,[],g0,B0,rfl,WL.nil _ _ _ _,aL,aL⟩ ?_;rintro l M aG μ hk ⟨xM,s,u,O,B,aT,wl,P,au⟩ aA
 have y:=x3.trans xM;have aQ:∀{q:E},h.size<=q.size->∀d∈[j.size,R.size,Q.size],d<q.size:=λz d e=>aO (hl d e) z;have hy:=O.bh;have zM:=xM.size;have aI:=B.lt;refine dit (λz=>?_) λz=>?_
 .let⟨x,D⟩:=cG aB l;let⟨pa,pk,ha,Y,e0,e1,e2,e3,e4⟩:=hs.aG D;have a0:=Pg D;have a2:=cU.mu x;have aM:=qy x.bC;have a1:=p7 D;have aZ:=qV D;have ab:=ah.1 l x D;have aP:=tn (aB.take l);have aU:=gB (aB.take l);have aY:=ar (l+1);refine⟨V,V,_,y.af e0,_,y.af e1,_,y.af e2,_,y.af e3,_,y.af e4,?_⟩;intro m7 k m9;have x8:J M k:=(J.push M _).ah (ad _) _ _;have s8:k.size=M.size+1:=by simp[k,m7,av]
  have x9:J k m9:=J.push _ _;have ak:GB (s.D::f.size::j.size::p) k m9 (.mk k.size 0 0 0) []:=GB.new _ k;clear_value m9;clear_value k;have X:∀d∈s.D::f.size::j.size::p,d<k.size:=λd e=>by
   simp only[aV]at e;rcases e with g|g|g|g
   .omega
   .omega
   .omega
   .have:=hS d g;omega
  have Z:=Y.len;refine ez (n:=x.bC.length) (Z▸Y.gV) (λF ks q=>J k q/\∃lk,GB (s.D::f.size::j.size::p) k q ks lk/\lk.length=F/\(∀(w:Nat)(v:Bk),lk[w]? =some v->WB K c.length True (ae+dc (aB.take l)+BY K x.op x.bQ w) v)/\bw lk<=bw (x.bC.take F)) ⟨x9,[],ak,rfl,aL,aL⟩ ?_;rintro F ks I I2 μ2 hj ⟨H,lk,W,aS,ag,an⟩ az;have C:J Q I:=y.trans (x8.trans H);have yk:=W.bh;have z2:=H.size;have aa:∀{q:E},k.size<=q.size->∀d∈[M.size,j.size,R.size,Q.size],d<q.size:=λz d e=>by simp at e;omega
  refine dit (λh2=>?_) λh2=>?_
  .let⟨v,T⟩:=cG x.bC F;have aN:=wX T;have am:=uH T;refine(Kl (D:=ks.D::s.D::f.size::j.size::p) (λd e=>?_) (hn.le C.le) (ha.ext C) (Y.le C.le) (ao.ext C) ab V V T (t.fm V)).aH (J.az I) (aa z2) λss b' a4 aq af ac _=>⟨_,_,rfl,?_⟩
   .rcases List.mem_cons.1 e with g|g
    .omega
    .have:=X d g;omega
   refine GB.kL (c:=b') (W.ext rT.mono ac) ((H.trans ac).fz []) aq V λr' q g2 f2 a7 q2=>⟨J.oP ((H.trans ac).aK _) f2.ext (aa (ad _)),az V _ _ ⟨f2.ext,_,g2,bF,λw b2 t=>?_,?_⟩⟩
   .rcases aW w lk.length with U|U
    .rw[ax U]at t;exact ag w b2 t
    .rw[aJ U]at t;have:w -lk.length=0:=by have:=aw t;simp at this;omega
     rw[this]at t;simp at t;subst t;have:w=F:=V;subst this;exact af.1
   .rw[oY,uG,zS,am];have:=af.2;omega
  .have ac:lk.length=x.bC.length:=V;rw[bX V]at an;have U:J M I:=x8.trans H;have T:=B.ext U;have G2:=O.ext gC.mono U;refine⟨s,T.cp 0,?_⟩;refine(bO (s.D::f.size::j.size::p) (ha.ext C) V).aH (J.az I) (aa z2) λs' l' af ga g t _=>⟨_,rfl,aE (t.same _ V) _,aE (t.same _ V) _,aE (t.same _ V) _,aE (t.same _ T.lt) _,?_⟩;subst g;intro am;refine Gr.box (g:=[.i 0,.i 0,.i 0,.s .nil,.s .nil]) (L:=[M.size,j.size,R.size,Q.size]) (j:=0) (y:=72) (i:=[.s s,.i A]) (w:=⟨x.op,x.bQ,x.bZ,x.args,lk⟩) gC.mono bn (G2.ext gC.mono t) (((xM.trans U).trans t).fz []) ⟨s',ks,rfl,(ga.done (λd e=>oh (X d e)) V),nI.le (t.df _) (W.done rT.mono X bn (by show lk.length<=_;omega))⟩ V (T.ext t) aL bn ⟨V,aL⟩ (λd e=>by have h1:=t.size;simp at e;omega) λr' m' g' B' f' z' q'=>aA V _ ⟨f'.ext,r',_,g',B',bF,wl.yV (ab.P3 id ab.fe.bZ ac ag|>λz=>by rw[P];exact z),?_,?_⟩
   .rw[cV,kN,tp,P];have g:dn (⟨x.op,x.bQ,x.bZ,x.args,lk⟩:cU)=dn x:=rfl;omega
   .rw[dC,mN,vC];have h5:(⟨x.op,x.bQ,x.bZ,x.args,lk⟩:cU).w=1+x.args.length+bw lk:=cU.mu _;omega
 .have Z:l=aB.length:=V;subst Z;rw[fw]at P au;refine⟨s,B.cp 0,A,B.cp 1,?_⟩;intro m7;have k:Le (bH (f.size::j.size::p) M) (bH p m7):=cz aL λd e=>ai _ (ai _ e);have t:=O.ne B bn;refine⟨s,.mk u A,rfl,eP.le k (O.nK gC.mono (λe=>?_) bn (by show u.length<=_;omega)),⟨.of wl (by rw[P];exact ah.2),by rw[Bk.qQ];omega⟩,y.ah V _ _⟩;rcases List.mem_cons.1 e with g|g
  .exact t g
  .have:=al _ g;omega
def Nn{f:List Nat}{e:E}(U:∀a∈f,a<e.size){u v:O}{p:List bz}(s:eL e u v p c){W:Nat}(hW:W<=200000000000)(hk:yF p c True W):ve 211 [.agg #[O.v u,O.v v]] e f p λH=>yF p H True W:=by
 apply Hb;simp -zeta only[aD,aC];intro g a2;let⟨I,D⟩:=dD (a:=g) (c:=a2) rfl rfl;have s1:g.size=e.size+1:=by simp[g]
 clear_value a2;have an:=s.iX.len;have az:=s.oJ;refine(fX (b:=g.size::f) (bP U I.size (D _ aL)) (s.le I.le).bo s.types).mono λ_ Z⟨ah,r,ai,K⟩=>?_;subst r;refine⟨K.dq D,_,rfl,?_⟩;intro aa av ag;have u2:=I.trans K;let⟨x5,B0,g0,s3,s5⟩:=kY (b:=aa.size::g.size::f) iU.mono (d:=Z) (a:=aa) (c:=av) (h:=ag) rfl rfl rfl;clear_value ag;have F:∀a∈[g.size,e.size],a<Z.size:=λa j=>K.lt (D a j);have X:∀a∈g.size::f,a<Z.size:=λa j=>K.lt (bP U I.size (D _ aL) a j);refine kV (R:=λb d M=>∃u v H,Value.agg #[O.v b,O.v d]=.agg #[O.v u,O.v v]/\eL (bH f M) u v p H/\yF p H True W/\J e M) (r:=c.length) (f:=e) (b:=f) iU.mono bn bn U ⟨V,F _ aL⟩ u2 s3 ai an V x5 B0 g0 (λ_ q=>q.params.length<=3/\q.cR.length<=3/\WB p c.length True q.params.length q.body/\q.body.w<=W) (λb k Y o h1 h2 d h i=>⟨b,k,Y,rfl,⟨h1,h2,s.types,V⟩,Ic hk.iZ d h,i⟩) λau M st Y ax μ aj ay L ab N aw=>?_
 let⟨q,hq⟩:=cG c au aj;let⟨am,al,ar,hw⟩:=hk.dz q (aq hq);have B:=u2.trans L;let⟨aA,aB,b,c1,c2,c3,P,Q,T,y,z⟩:=s.iX.aG hq;have G:∀{w:Value}{b o:Nat},af e b o=some w->af M b o=some w:=λh=>B.af h;refine⟨st,N.cp 1,V,V,_,G P,_,G Q,_,G T,_,G y,_,G z,V,V,_,G y,_,G z,?_⟩;intro i;have hy:=ab.bh;have ac:=N.lt;have zM:=L.size;have d:J M i:=J.push _ _;have s7:i.size=M.size+1:=by simp[i]
 have ak:ap i (.mk M.size 0 0 0) []:=mI _ _ _ _ _ _;clear_value i;have k:∀{w:Value}{b o:Nat},af e b o=some w->af i b o=af M b o:=λh=>by rw[d.af (G h),G h]
 have C:∀{b o:Nat},b<M.size->af i b o=af M b o:=λh=>aE (d.same _ h) _;have A:e.size<M.size:=L.lt (F _ aL);refine⟨k y,k z,C A,C A,C A,k P,k Q,k T,k y,k z,C A,C ac,?_⟩;refine(Ha q.body.w q.body (ad _) (st.D::aa.size::g.size::f) i (λa j=>?_) u v b (.mk M.size 0 0 0) [] q.params.length (s.le (B.trans d).le) (c3.le (B.trans d).le) ak ar V bF).aH (L.trans d) F λss b' M1 ao ae t u1=>⟨_,_,rfl,?_⟩
 .simp only[aV]at j;rcases j with r|r|r|r
  .omega
  .omega
  .have:=X a (by simp[r]);omega
  .have:=X a (by simp[r]);omega
 have x:∀{w:Value}{b o:Nat},af e b o=some w->af M1 b o=af i b o:=λh=>by rw[t.af (d.af (G h)),d.af (G h)]
 refine⟨x P,x Q,x T,x y,x z,aE (t.same _ (d.lt A)) _,aE (t.same _ (d.lt ac)) _,?_⟩;exact wj (b:=g.size::f) (v:=ah) (x:=Y) X (λa j=>by have h1:=F a j;have h2:=u1.size;omega) u1 (ab.ext iU.mono (d.trans t)) (N.ext (d.trans t)) V (c1.ext (B.trans (d.trans t))) (c2.ext (B.trans (d.trans t))) ao ⟨V,V⟩ V λs' M' g' B' x'=>aw s' M' _ g' B' x' ⟨am,al,ae.1,bI ae.2 hw⟩
end
section
variable{m:E}{t:O}{b:Bk}{a:List Nat}
def Rz(a:Int)(l:List cU):Nat:=l.countP λs=>s.op=a
def Yc:∀l:List cU,Rz 14 l+Rz 15 l<=l.length
 |[]=>by simp[Rz]
 |s::l=>by
  have:=Yc l;simp only[Rz,List.countP_cons,aZ]at this⊢;by_cases h:s.op=14
  .simp[h];omega
  .by_cases a:s.op=15
   .simp[a];omega
   .simp[h,a];omega
def TA(a:Int)(l:List cU)(s:cU):Rz a (l++[s])=Rz a l+(if s.op=a then 1 else 0):=by
 simp[Rz,List.countP_append,List.countP_cons]
def I7(g:eP m t b.aB):tg 271 [.agg #[O.v t,vi b.aT]] m λk=>0<=k/\k<=b.aB.length/\∀(i:Nat)(a:cU),b.aB[i]? =some a->(i:Int)<k->a.op=14\/a.op=15:=by
 apply Bv;simp -zeta only[aD,aC];intro c;have G:J m c:=J.push _ _;have z:∀q∈[m.size],q<c.size:=by simp[c]
 clear_value c;have A:=g.len;refine dT (n:=b.aB.length) (A▸g.gV) (λk M=>J c M/\∀(i:Nat)(a:cU),b.aB[i]? =some a->i<k->a.op=14\/a.op=15) ⟨J.az _,λi a _ h=>V⟩ ?_;rintro k M L μ S ⟨o,l⟩ D
 have u:=G.trans o;have R:∀{j:E},J m j->∃f:Int,vi (k:Int)=vi f/\(0<=f/\f<=b.aB.length/\∀(i:Nat)(a:cU),b.aB[i]? =some a->(i:Int)<f->a.op=14\/a.op=15)/\J m j:=λI=>⟨k,rfl,⟨V,V,λi a d h=>l i a d V⟩,I⟩;refine⟨λh=>?_,λh=>R u⟩;simp only[ar]at h;let⟨a,d⟩:=cG b.aB k;let⟨p,C,P,T,s,g1,g2,v,w⟩:=g.aG d;refine⟨V,V,_,u.af s,_,u.af g1,_,u.af g2,_,u.af v,_,u.af w,?_⟩;refine(Bc (x:=a) p C M).aH o z λN U y H F=>⟨_,rfl,λB=>D V _ ⟨F,λi K e Q=>?_⟩,λ_=>R (u.trans H)⟩;by_cases r:i=k
 .subst r;rw[d]at e;simp at e;subst e;exact y.1 B
 .exact l i K e V
def yu(L:∀g∈a,g<m.size)(C:eP m t b.aB){d:Nat}(hm:d<=b.aB.length)(e:Int)(K:∀(i:Nat)(s:cU),b.aB[i]? =some s->i<d->0<s.args.length)(hb:b.aB.length<=10^12):
 k8 272 [.agg #[O.v t,vi b.aT],vi d,vi e] m a λl=>(∀y∈l,∃(i:Nat)(s:cU),i<d/\b.aB[i]? =some s/\y∈s.args)/\l.length<=Rz e (b.aB.take d):=by
 apply CG
 simp -zeta only[aD,aC]
 intro c w
 have z:J m c:=J.push _ _
 have N:∀g∈[m.size],g<c.size:=by simp[c]
 have Q:J c w:=J.push _ _
 have I:GI a c w (.mk c.size 0 0 0) []:=GI.nil a c
 clear_value w
 clear_value c
 have ac:=C.len
 refine ez (n:=d) V (λk s M=>J c M/\∃l,GI a c M s l/\(∀y∈l,∃(i:Nat)(s:cU),i<d/\b.aB[i]? =some s/\y∈s.args)/\l.length<=Rz e (b.aB.take k)) ⟨Q,[],I,aL,aL⟩ ?_
 rintro k s M S μ hk ⟨p,l,q,v,P⟩ E
 have u:=z.trans p
 refine dit (λr=>?_) λr=>?_
 .let⟨x,o⟩:=cG b.aB k
  let⟨U,kk,B,ab,F,W,X,G,Y⟩:=C.aG o
  have Z:=B.len
  have:=K k x o V
  let⟨y,D⟩:=cG x.args 0
  have j:Rz e (b.aB.take (k+1))=Rz e (b.aB.take k)+(if x.op=e then 1 else 0):=by rw[aU o,TA]
  have aa:Rz e (b.aB.take k)<=(b.aB.take k).length:=List.countP_le_length
  have ad:=qS k b.aB
  refine⟨V,V,_,u.af F,λh=>⟨V,V,_,u.af G,bn,V,y,(B.ext u).aG D,?_⟩,λh=>E V _ _ ⟨p,l,q,v,?_⟩⟩
  .intro m3
   simp only[aI]at h
   rw[an h]at j
   refine GI.kL q (p.fz []) (λg j=>z.lt (L g j)) V λaf T H A _ _=>⟨J.oP (p.aK _) A.ext N,E V _ _ ⟨A.ext,_,H,λR f=>?_,bF⟩⟩
   rcases List.mem_append.1 f with f|f
   .exact v R f
   .simp at f;subst f;exact⟨k,x,V,o,aq D⟩
  .simp only[aj]at h
   rw[ae h]at j;omega
 .have f:k=d:=V
  subst f
  exact⟨s,l,rfl,q.cv (λ_ r=>r) z.size,⟨v,P⟩,u⟩
def RD:∀{l:List cU},(∀x∈l,dn x=0)->dc l=0
 |[],_=>rfl
 |x::l,h=>by rw[kN,h x bg,RD λy a=>h y (ai _ a)]
def Uj:∀{l:List cU},(∀x∈l,2<=x.w)->2*l.length<=sw l
 |[],_=>aL
 |x::l,h=>by
  have b:=h x bg;have c:=Uj λy a=>h y (ai _ a);rw[mN,aZ];omega
def Mk(hS:∀c∈a,c<m.size){X:O}{q:List Int}{ds:List bz}{nr g:Nat}(o:eP (bH a m) t b.aB)(hf:ap m X q)(bm:q.length<=3)(am:WB ds nr True (g+q.length) b)(hw:b.w<=100000000000)(ha:g<=10^12){h:Int}(hx:0<=h/\h<(g:Int)):
 nA 247 [.agg #[O.v t,vi b.aT],vi h,O.v X,vi g] m a λb'=>WB ds nr True (g+q.length) b'/\b'.w<=b.w+8:=by
 apply EV
 simp -zeta only[aD,aC]
 intro p T
 let⟨B,C⟩:=dD (a:=p) (c:=T) rfl rfl
 have s1:p.size=m.size+1:=by simp[p]
 have s2:T.size=m.size+2:=by simp[T,s1]
 clear_value T
 let⟨an,aM⟩:=am.aS
 have al:=o.le (bA _ _)
 have bj:=Bk.mu b
 have bu:=gB b.aB
 have aO:=o.len
 have bl:=o.cap
 have bo:=hf.len
 refine(I7 (al.le B.le)).aH (J.az T) C λmn m3 a6 x3 _=>⟨_,rfl,?_⟩
 obtain⟨kn,a4⟩:∃kn:Nat,mn=kn:=⟨mn.toNat,V⟩
 subst a4
 have aK:∀(d:Nat)(s:cU),b.aB[d]? =some s->d<kn->s.op=14\/s.op=15:=λd s w aH=>a6.2.2 d s w V
 have ak:∀(d:Nat)(s:cU),b.aB[d]? =some s->d<kn->0<s.args.length:=λd s w aH=>by
  have:=aK d s w aH;have:=(an d s w).fe.lM V;omega
 refine(yu (a:=[]) aL (al.le (B.trans x3).le) (d:=kn) V 14 ak V).aH x3 C λsd G m4 gd hd x4 v4=>⟨_,rfl,?_⟩
 refine(yu (a:=[]) aL (al.le (B.trans v4).le) (d:=kn) V 15 ak V).aH v4 C λsr Q m5 gr hr x5 v5=>⟨_,rfl,?_⟩
 have bk:=Yc (b.aB.take kn)
 have bw:(b.aB.take kn).length=kn:=bF
 have aN:ap m5 sr Q:=(gr.done aL V).le (bA _ _)
 refine(dv aN h).aH v5 C λbi m6 bh x6 A=>⟨_,rfl,λ_=>⟨t,b,rfl,o.le (((B.trans A).ah V _ _).df _),⟨am,V⟩,(B.trans A).ah V _ _⟩,λbp=>⟨λ_=>⟨t,b,rfl,o.le (((B.trans A).ah V _ _).df _),⟨am,V⟩,(B.trans A).ah V _ _⟩,λa7=>?_⟩⟩
 have bq:0<q.length:=by simp only[aj]at a7;omega
 have aI:∀s∈b.aB.take kn,∃d:Nat,d<kn/\b.aB[d]? =some s:=λs o=>by
  let⟨d,w⟩:=List.mem_iff_getElem?.1 o;have:=aw w;rw[dI V]at w;exact⟨d,V,w⟩
 have aF:dc (b.aB.take kn)=0:=RD λs o=>by
  let⟨d,Z,L⟩:=aI s o;have:=aK d s L Z;exact ae λY:px s.op=>by have:=Y.2;omega
 have bs:2*kn<=sw (b.aB.take kn):=by
  have:=Uj (l:=b.aB.take kn) λs o=>by
   let⟨d,Z,L⟩:=aI s o;have:=ak d s L Z;have:=cU.mu s;omega
  omega
 have bv:sw b.aB=sw (b.aB.take kn)+sw (b.aB.drop kn):=by rw[<-dC,dk]
 have a1:dc b.aB=dc (b.aB.take kn)+dc (b.aB.drop kn):=by rw[<-cV,dk]
 have XH:∀y:Int,(∃(d:Nat)(s:cU),d<kn/\b.aB[d]? =some s/\y∈s.args)->0<=y/\y<((g+q.length:Nat):Int):=λy⟨d,s,Z,L,h3⟩=>by
  have h4:=(an d s L).fe.args y h3;have h5:=TC (b.aB.take kn) d;rw[MB,jf V]at h5;omega
 refine(sF (S:=[]) aL ((aN.ext x6).le (Am _)) h V).aH A C λbd a_ m8 aB aJ x8 v8=>⟨_,rfl,?_⟩
 have y2:=aB.bh
 have bV:=x8.size
 have a8:ap (bH [bd.D] m8) sd G:=((gd.done aL V).le (bA _ _)).le (((x5.trans x6).le.trans (Am m6)).trans (x8.bH λc e=>Or.inr (by simp at e;omega)))
 refine xe (n:=q.length) V (λk sd sr M=>J m6 M/\∃G Q,ap (bH [sr.D] M) sd G/\GI [] m6 M sr Q/\(∀y∈G,0<=y/\y<((g+q.length:Nat):Int))/\G.length<=Rz 14 (b.aB.take kn)/\(∀y∈Q,0<=y/\y<((g+q.length:Nat):Int))/\Q.length<=Rz 15 (b.aB.take kn)+k) ⟨x8,G,a_,a8,aB,λy P=>XH y (hd.1 y P),hd.2,λy P=>XH y (hr.1 y (aJ.1 y P)),Ps aJ.2 hr.2⟩ ?_
 rintro k H D u av μ hk ⟨I,ac,R,N,K,aa,aG,ab,br⟩ ao
 have U:=(B.trans A).trans I
 have y3:=K.bh
 have r:∀c∈[p.size,m.size],c<u.size:=λc e=>I.lt (A.lt (C c e))
 refine⟨λY=>?_,λY=>?_⟩
 .simp only[ar]at Y
  let⟨y,P⟩:=cG q k
  have ew:cO ((g:Int)+(k:Int))=(g:Int)+k:=aP V V
  rw[ew]
  have ah:∀{M:E},J u M->af M X.D (X.off+Int.toNat (k:Int)*1)=some (vi y):=λv=>(hf.ext (U.trans v)).aG P
  have ay:∀{M:E},J u M->av H D (cO ((k:Int)+1)) M/\μ H D (cO ((k:Int)+1)) M<μ H D k u:=λv=>ao V _ _ _ ⟨I.trans v,ac,R,N.le (v.df _),K.ext v,aa,aG,ab,V⟩
  have OO:∀{M:E},J u M->jO (M.push (.cells (bt [.i ((g:Int)+k)]) aA)) aA [.i 0] 8 D (.mk M.size 0 1 1) λau W=>eF [p.size,m.size] (M.push (.cells (bt [.i ((g:Int)+k)]) aA)) W/\av H au (cO ((k:Int)+1)) W/\μ H au (cO ((k:Int)+1)) W<μ H D k u:=λ{M} v=>by
   refine GI.kL (K.ext v) ((I.trans v).fz []) aL V λau W g' f' z' q'=>⟨J.oP ((I.trans v).aK _) f'.ext (λc e=>A.lt (C c e)),ao V _ _ _ ⟨f'.ext,ac,_,(N.le (v.df _)).le (pK λc e hn=>?_),g',aa,aG,λag z=>?_,bF⟩⟩
   .simp at hn;refine⟨?_,q' c e hn⟩;simp;rcases z'.2 with f|f<;>omega
   .rcases List.mem_append.1 z with z|z
    .exact ab ag z
    .simp at z;omega
  refine⟨V,V,y,ah (J.az _),λ_=>?_,λ_=>⟨V,V,y,ah (J.az _),λ_=>?_,λ_=>ay (J.az _)⟩⟩
  .refine(dv (N.le (bA _ _)) _).aH (J.az u) r λbb aS _ F _=>⟨_,rfl,λ_=>?_,λ_=>⟨V,V,y,ah F,λ_=>?_,λ_=>ay F⟩⟩
   .refine(sF (S:=[D.D]) (by have:=F.size;simp;omega) (N.le (F.df _)) _ V).aH F r λaT aR ax aQ aq aU az=>⟨_,rfl,ao V _ _ _ ⟨I.trans az,aR,R,aQ.done (by have:=F.size;simp;omega) (oh aq.2),K.ext az,λag z=>aa ag (aq.1 ag z),oh aq.2,ab,V⟩⟩
   .intro ax
    exact OO F
  .intro ax
   exact OO (J.az _)
 .have a9:ap u D R:=(K.done aL V).le (bA _ _)
  have F:∀{M:E},u.size<=M.size->∀c∈p.size::a,c<M.size:=λz c e=>by
   rcases List.mem_cons.1 e with f|f
   .have:=r p.size aL;omega
   .have:=hS c f;have:=U.size;omega
  refine(eY (c:=p.size::a) (F (ad _)) 14 (N.le (bA _ _)) V).aH (J.az u) r λba bB bD ax aW ah _=>⟨_,rfl,?_⟩
  subst aW
  have bR:=ax.bh
  have bf:=ah.size
  refine(jm (c:=ba.D::p.size::a) (λc e=>?_) 16 h).mono λbQ bE⟨bg,bx,f,a0,a3,aq⟩=>⟨λc e=>aq.same c (ah.lt (r c e)),_,_,_,_,_,f,?_⟩
  .rcases List.mem_cons.1 e with f|f
   .omega
   .exact F bf c f
  intro bG
  have au:=ah.trans aq
  refine GS.kL (x:=eZ 16 h) (ax.ext gC.mono aq) (au.fz []) a0 a3 bF λbb bI ay P bW bM=>⟨J.oP (au.aK _) P.ext r,?_⟩
  have bS:=ay.bh
  have bU:=au.size
  have aT:=P.size
  refine(eY (c:=bb.D::p.size::a) (λc e=>?_) 15 (a9.ext P.ext) V).aH P.ext r λbP bC bJ aY aX be aS=>⟨_,rfl,?_⟩
  .rcases List.mem_cons.1 e with f|f
   .omega
   .exact F aT c f
  subst aX
  refine GS.all (ay.ext gC.mono be) (aS.fz []) (aY.done gC.mono (λc e=>?_) bn bF) bF λaR aQ az v bY bN=>⟨J.oP aS v.ext r,V,V,V,?_⟩
  .rcases List.mem_cons.1 e with f|f
   .omega
   .exact F aT c f
  have bT:=az.bh
  have z9:=U.size
  have a5:Le (bH a m) (bH (aR.D::p.size::a) aQ):=(U.trans v.ext).bH λc e=>by
   simp only[aV]at e;rcases e with f|f|f
   .exact Or.inr V
   .exact Or.inr V
   .exact Or.inl f
  have ek:Int.toNat (kn:Int)=kn:=V
  have el:Int.toNat (t.len:Int)=t.len:=V
  rw[ek,el]
  have a2:eP (bH (aR.D::p.size::a) aQ) (t.cut kn t.len 5) (b.aB.drop kn):=by
   have:=(o.le a5).KU (i:=kn) (j:=t.len) V V;rwa[aO,bX (ad _),<-aO]at this
  refine GS.all az v a2 bF λbc bK aZ ag bZ bO=>⟨J.oP v.ext ag.ext r,aE (by rw[ag.ext.same _ (r _ aL),v.ext.same _ (r _ aL)]) _,?_⟩
  intro bL
  have aU:=aZ.done gC.mono (F (ad _)) bn bF
  have W:dc [eZ 16 h]=0:=jX bn [h]
  have e2:sw [eZ 16 h]=2:=oI 16 [h]
  have W1:WL ds nr True (g+q.length) (ac.map (eZ 14)++[eZ 16 h]++R.map (eZ 15)++b.aB.drop kn):=by
   refine WL.append (WL.append ((rX bn aa).yV ?_) ?_) ?_
   .rw[jX bn];exact DZ bn ⟨hx.1,V⟩
   .rw[cV,jX bn,W];exact rX bn ab
   .rw[cV,cV,jX bn,jX bn,W];have:=an.drop kn;rwa[aF]at this
  refine⟨bc,.mk (ac.map (eZ 14)++[eZ 16 h]++R.map (eZ 15)++b.aB.drop kn) b.aT,rfl,eP.le (cz aL λc e=>ai _ e) aU,⟨.of W1 ?_,?_⟩,(U.trans ag.ext).ah V _ _⟩
  .rw[cV,cV,cV,jX bn,jX bn,W]
   rw[a1,aF]at aM
   simpa using aM
  .rw[Bk.qQ,dC,dC,dC,oI,oI,e2];omega
end
def ZI(c:List bz)(d:List gR)(b:Bk):Prop:=∀(S:List Nat)(m:E),(∀a∈S,a<m.size)->∀(f r t:O)(a:Nat),eL m f r c d->eP m t b.aB->WB c d.length True a b->a+4*b.w<=10^12->9*b.w<=100000000000->
 nA 231 [.agg #[O.v f,O.v r],.agg #[O.v t,vi b.aT],vi a] m S λe=>WB c d.length True a e/\e.w+8<=9*b.w
def Dr{z:List bz}{rs:List gR}:∀B:Bk,ZI z rs B:=by
 refine Bk.ind ?_;intro aB X ih p ac hS aS a6 bW q I hs bj bx bB;have a1:=bj.aS;rw[Bk.qQ]at*;simp only[Bk.jV,Bk.jx]at*;apply wP;simp -zeta only[aD,aC];intro ag j t g m5 m6;let⟨x3,hl,s1,s2,s3⟩:=qx (a:=ag) (b:=j) (c:=t) rfl rfl rfl;have s4:g.size=t.size+1:=by simp[g]
 have a8:J g m6:=(J.push g _).ah (ad _) _ _;have bp:J t m6:=(J.push t _).trans a8;have g0:GS (g.size::j.size::p) t m6 (.mk t.size 0 0 0) []:=(GS.new _ t).ext gC.mono a8;have B0:cD m6 g.size dh [.s (.mk t.size 0 0 0),.i X]:=cD.ah (m:=m5) (o:=0) (r:=[.s (.mk t.size 0 0 0),.i X]) (cD.push g _ _);have a_:∀d∈j.size::p,d<t.size:=bP hS x3.size (hl _ aL);clear_value m6;clear_value t;have be:=hs.len;have bg:=BP aB;have bM:=gB aB;refine ez (n:=aB.length) (be▸hs.gV) (λk(v:Int) M=>v=((q+dc (aB.take k):Nat):Int)/\J t M/\∃s w,GS (g.size::j.size::p) t M s w/\cD M g.size dh [.s s,.i X]/\w.length=k/\WL z rs.length True q w/\dc w=dc (aB.take k)/\sw w<=9*sw (aB.take k)) ⟨aL,bp,_,[],g0,B0,rfl,WL.nil _ _ _ _,aL,aL⟩ ?_;rintro k v0 M aR μ hk ⟨bi,xM,s,w,am,Z,bI,wl,au,bh⟩ a5
 subst bi;have v:=x3.trans xM;have hy:=am.bh;have zM:=xM.size;have bs:=Z.lt;refine dit (λao=>?_) λao=>?_
 .let⟨c,N⟩:=cG aB k;let⟨pa,pk,ha,aK,e0,e1,e2,e3,e4⟩:=hs.aG N;have bR:=Pg N;have bT:=cU.mu c;have bC:=qy c.bC;have bS:=p7 N;have bQ:=qV N;have U:=a1.1 k c N;have bE:=tn (aB.take k);have bL:=gB (aB.take k);have bN:=bg (k+1);refine⟨V,V,_,v.af e0,_,v.af e1,_,v.af e2,_,v.af e3,_,v.af e4,?_⟩;intro m7 l Q;have x8:J M l:=(J.push M _).ah (ad _) _ _;have s8:l.size=M.size+1:=by simp[l,m7,av]
  have x9:J l Q:=J.push _ _;have s9:Q.size=l.size+1:=by simp[Q]
  have a9:GB (s.D::g.size::j.size::p) l Q (.mk l.size 0 0 0) []:=GB.new _ l;clear_value Q;clear_value l;have aG:∀d∈s.D::g.size::j.size::p,d<l.size:=λd h=>by
   simp only[aV]at h;rcases h with e|e|e|e
   .omega
   .omega
   .omega
   .have:=hS d e;omega
  have aM:=aK.len;have D:∀{f:E},l.size<=f.size->∀d∈[M.size,j.size,ag.size,ac.size],d<f.size:=λao d h=>by simp at h;omega
  have z9:Q.size=l.size+1:=s9;refine(iy (e:=[l.size]) bF (I.bo.le (v.trans (x8.trans x9)).le) I.types c.bQ).aH (J.az Q) (D x9.size) λsc lc bU aY e a7 _=>⟨_,rfl,?_⟩;subst e;have bJ:=aY.len;refine ez (n:=c.bC.length) (aM▸aK.gV) (λu ks f=>J l f/\ap (bH [ks.D] f) sc (cy z c.bQ)/\∃lk,GB (s.D::g.size::j.size::p) l f ks lk/\lk.length=u/\(∀(P:Nat)(B:Bk),lk[P]? =some B->WB z rs.length True (q+dc (aB.take k)+BY z c.op c.bQ P) B)/\bw lk<=9*bw (c.bC.take u)) ⟨x9.trans a7,aY,[],a9.ext rT.mono a7,rfl,aL,aL⟩ ?_;rintro u ks A I2 μ2 hj ⟨ak,aZ,lk,gk,bG,aU,bd⟩ bm;have F:J ac A:=v.trans (x8.trans ak);have yk:=gk.bh;have R:=ak.size;refine dit (λh2=>?_) λh2=>?_
  .let⟨B,T⟩:=cG c.bC u;let⟨tb,a0,f0,f1⟩:=aK.aG T;have bD:=wX T;have bb:=uH T;have ar:=U.bC u B T;have h3:=QN I.types c.op c.bQ u;have aF:∀{f:E},J A f->∀d∈ks.D::s.D::g.size::j.size::p,d<f.size:=λxx d h=>by
    have:=xx.size;rcases List.mem_cons.1 h with e|e
    .omega
    .have:=aG d e;omega
   have al:∀{f:E}{Y:O}{C:Bk},J A f->eP (bH (ks.D::s.D::g.size::j.size::p) f) Y C.aB->WB z rs.length True (q+dc (aB.take k)+BY z c.op c.bQ u) C->C.w<=9*B.w->
    jO (f.push (.cells (bt [.s Y,.i C.aT]) dh)) dh [.s .nil,.i 0] 32 ks (.mk f.size 0 1 1) λW M3=>eF [M.size,j.size,ag.size,ac.size] (f.push (.cells (bt [.s Y,.i C.aT]) dh)) M3/\I2 W (cO ((u:Int)+1)) M3/\μ2 W (cO ((u:Int)+1)) M3<μ2 ks u A:=λ{f Y C} x11 ab hwb' hw'=>by
    refine GB.kL (c:=C) (gk.ext rT.mono x11) ((ak.trans x11).fz []) ab V λW M3 g2 f2 bq q2=>⟨J.oP ((ak.trans x11).aK _) f2.ext (D (ad _)),bm V _ _ ⟨f2.ext,(aZ.le (x11.df _)).le (pK λd h aX=>?_),_,g2,bF,λP b2 H=>?_,?_⟩⟩
    .simp at aX
     refine⟨?_,q2 d h aX⟩
     simp
     rcases bq.2 with e|e<;>omega
    .rcases aW P lk.length with y|y
     .rw[ax y]at H;exact aU P b2 H
     .rw[aJ y]at H
      have:P -lk.length=0:=by have:=aw H;simp at this;omega
      rw[this]at H;simp at H;subst H
      have:P=u:=V
      subst this;exact hwb'
    .rw[oY,uG,zS,bb]
     omega
   refine⟨λG=>?_,λG=>?_⟩
   .simp only[aI]at G;obtain⟨bv,_⟩:=U.fe.all G;have br:=U.fe.lM (Or.inr (Or.inr G));let⟨aQ,a2⟩:=cG c.args 0;let⟨y0,y1⟩:=U.fe.args aQ (aq a2);have bu:=ha.len;let⟨cn,aT⟩:=cG (cy z c.bQ) u;refine⟨V,V,cn,(aZ.le (bA _ _)).aG aT,?_⟩;refine(dK (e:=[]) aL (I.bo.le (F.le.trans (Am _))) I.types cn).aH (J.az A) (D R) λsf lf a3 ay e az _=>⟨_,rfl,?_⟩;subst e;have ay:=ay.le (bA _ _);have bK:=ay.len;have aa:=F.trans az;rw[KL G aT]at ar h3 al;have aA:af a3 pa.D (pa.off+Int.toNat (0:Int)*1)=some (vi aQ):=(ha.ext aa).aG a2;refine⟨V,V,_,aa.af f0,_,aa.af f1,bn,V,aQ,aA,?_⟩;have ew:cO (((q+dc (aB.take k):Nat):Int)+(sf.len:Int))=((q+dc (aB.take k)+(cB z cn).length:Nat):Int):=by rw[aP V V];omega
    rw[ew];refine(ih c (aq N) B (aq T) (ks.D::s.D::g.size::j.size::p) a3 (aF az) aS a6 tb _ (I.le aa.le) (a0.le aa.le) ar V V).aH az (D R) λY C bk ab aH ah aO=>⟨_,_,rfl,?_⟩;refine⟨by rw[ah.af aA,aA],aE (ah.same _ (az.lt (D R _ aL))) _,?_⟩;refine(Mk (a:=ks.D::s.D::g.size::j.size::p) (aF aO) ab (ay.ext ah) V aH.1 V V ⟨y0,y1⟩).aH aO (D R) λbV b2 a4 bf ba y bo=>⟨_,_,rfl,?_⟩;intro bl;exact al bo bf ba.1 V
   .simp only[aj]at G;rw[KM G]at ar al;refine⟨V,V,_,F.af f0,_,F.af f1,?_⟩;refine(ih c (aq N) B (aq T) (ks.D::s.D::g.size::j.size::p) A (aF (J.az _)) aS a6 tb _ (I.le F.le) (a0.le F.le) ar V V).aH (J.az A) (D R) λY C bk ab aH ah aO=>⟨_,_,rfl,?_⟩;intro a4;exact al ah ab aH.1 V
  .have ar:lk.length=c.bC.length:=V;rw[bX V]at bd;have T:J M A:=x8.trans ak;have H:=Z.ext T;have G2:=am.ext gC.mono T;refine⟨s,H.cp 0,?_⟩;refine(bO (s.D::g.size::j.size::p) (ha.ext F) V).aH (J.az A) (D R) λs' l' a4 ga e y _=>⟨_,rfl,aE (y.same _ V) _,aE (y.same _ V) _,aE (y.same _ V) _,aE (y.same _ H.lt) _,?_⟩;subst e;intro bl;refine Gr.box (g:=[.i 0,.i 0,.i 0,.s .nil,.s .nil]) (K:=λf=>aN cq 179 [vi c.op] f λv G=>eF [M.size,j.size,ag.size,ac.size] f G/\∃C:Bool,v=vb C/\
    (C=true->aR (cO (((q+dc (aB.take k):Nat):Int)+1)) (cO ((k:Int)+1)) G/\μ (cO (((q+dc (aB.take k):Nat):Int)+1)) (cO ((k:Int)+1)) G<μ ((q+dc (aB.take k):Nat):Int) (k:Int) M)/\
    (C=false->aR ((q+dc (aB.take k):Nat):Int) (cO ((k:Int)+1)) G/\μ ((q+dc (aB.take k):Nat):Int) (cO ((k:Int)+1)) G<μ ((q+dc (aB.take k):Nat):Int) (k:Int) M)) (L:=[M.size,j.size,ag.size,ac.size]) (j:=0) (y:=72) (i:=[.s s,.i X]) (w:=⟨c.op,c.bQ,c.bZ,c.args,lk⟩) gC.mono bn (G2.ext gC.mono y) (((xM.trans T).trans y).fz []) ⟨s',ks,rfl,(ga.done (λd h=>oh (aG d h)) V),nI.le (y.df _) (gk.done rT.mono aG bn (by show lk.length<=_;omega))⟩ V (H.ext y) aL bn ⟨V,aL⟩ (λd h=>by have C:=y.size;simp at h;omega) λW m' g' Y f' z' q'=>?_
   have W':WL z rs.length True q (w++[⟨c.op,c.bQ,c.bZ,c.args,lk⟩]):=wl.yV (U.P3 id U.fe.bZ ar aU|>λao=>by rw[au];exact ao);have ay:=y.size;refine(jR c.op m').mono λv G⟨bb,e,al,C⟩=>⟨λd h=>C.same d (oh (D R d h)),bb,e,?_⟩;have ab:=tq c bb al;have aa:dc (w++[⟨c.op,c.bQ,c.bZ,c.args,lk⟩])=dc (aB.take (k+1)):=by
    rw[cV,kN,tp,au];have e:dn (⟨c.op,c.bQ,c.bZ,c.args,lk⟩:cU)=dn c:=rfl;omega
   have ah:sw (w++[⟨c.op,c.bQ,c.bZ,c.args,lk⟩])<=9*sw (aB.take (k+1)):=by
    rw[dC,mN,vC];have h5:(⟨c.op,c.bQ,c.bZ,c.args,lk⟩:cU).w=1+c.args.length+bw lk:=cU.mu _;omega
   refine⟨λht=>?_,λhf=>?_⟩
   .rw[an ht]at ab;rw[aP (b:=((q+dc (aB.take k):Nat):Int)+1) V V];exact a5 V _ _ ⟨V,f'.ext.trans C,W,_,g'.ext gC.mono C,Y.ext C,bF,W',aa,ah⟩
   .rw[ae (by simp[hf])]at ab;exact a5 V _ _ ⟨V,f'.ext.trans C,W,_,g'.ext gC.mono C,Y.ext C,bF,W',aa,ah⟩
 .have aM:k=aB.length:=V;subst aM;rw[fw]at au bh;refine⟨s,Z.cp 0,X,Z.cp 1,?_⟩;intro m7;have c:Le (bH (g.size::j.size::p) M) (bH p m7):=cz aL λd h=>ai _ (ai _ h);have f:=am.ne Z bn;refine⟨s,.mk w X,rfl,eP.le c (am.nK gC.mono (λh=>?_) bn (by show w.length<=_;omega)),⟨.of wl (by rw[au];exact a1.2),by rw[Bk.qQ];omega⟩,v.ah V _ _⟩;rcases List.mem_cons.1 h with e|e
  .exact f e
  .have:=a_ _ e;omega
def Fa{d:List Nat}{f:E}(A:∀c∈d,c<f.size){j r:O}{h:List bz}{k:List gR}(i:eL f j r h k){W:Nat}(hW:9*W<=100000000000)(X:yF h k True W):ve 210 [.agg #[O.v j,O.v r]] f d h λu=>yF h u True (9*W):=by
 apply xV;simp -zeta only[aD,aC];intro b a2;let⟨y,t⟩:=dD (a:=b) (c:=a2) rfl rfl;have s1:b.size=f.size+1:=by simp[b]
 clear_value a2;have al:=i.iX.len;have aA:=i.oJ;refine(fX (b:=b.size::d) (bP A y.size (t _ aL)) (i.le y.le).bo i.types).mono λ_ I⟨ac,e,ah,z⟩=>?_;subst e;refine⟨z.dq t,_,rfl,?_⟩;intro K ap aa;have u2:=y.trans z;let⟨x5,B0,g0,s3,s5⟩:=kY (b:=K.size::b.size::d) iU.mono (d:=I) (a:=K) (c:=ap) (h:=aa) rfl rfl rfl;clear_value aa;have F:∀c∈[b.size,f.size],c<I.size:=λc a=>z.lt (t c a);have D:∀c∈b.size::d,c<I.size:=λc a=>z.lt (bP A y.size (t _ aL) c a);refine kV (R:=λg o M=>∃j r u,Value.agg #[O.v g,O.v o]=.agg #[O.v j,O.v r]/\eL (bH d M) j r h u/\yF h u True (9*W)/\J f M) (r:=k.length) (f:=f) (b:=d) iU.mono bn bn A ⟨V,F _ aL⟩ u2 s3 ah al V x5 B0 g0 (λ_ q=>q.params.length<=3/\q.cR.length<=3/\WB h k.length True q.params.length q.body/\q.body.w<=9*W) (λg w H x T s o p v=>⟨g,w,H,rfl,⟨T,s,i.types,V⟩,Ic X.iZ o p,v⟩) λao M st H aw μ ai ay N Q B ar=>?_
 let⟨q,Z⟩:=cG k ao ai;let⟨ak,aj,an,hw⟩:=X.dz q (aq Z);have v:=u2.trans N;let⟨au,aB,p,P,c2,c3,e0,e1,e2,e3,e4⟩:=i.iX.aG Z;have G:∀{ab:Value}{p o:Nat},af f p o=some ab->af M p o=some ab:=λag=>v.af ag;refine⟨V,V,_,G e0,_,G e1,_,G e2,_,G e3,_,G e4,?_⟩;intro m7 g;have hy:=Q.bh;have ax:=B.lt;have zM:=N.size;have L:J M g:=(J.push M _).ah (ad _) _ _;have s8:g.size=M.size+1:=by simp[g,m7,av]
 clear_value g;have Y:∀c∈[M.size,b.size,f.size],c<g.size:=λc a=>by
  rcases List.mem_cons.1 a with e|e
  .omega
  .have:=F c e;omega
 have w8:=v.trans L;have az:=P.len;have ae:(au.len:Int)=(q.params.length:Nat):=V;refine⟨st,(B.ext L).cp 1,?_⟩;rw[ae];refine(Dr q.body (st.D::K.size::b.size::d) g (λc a=>?_) j r p q.params.length (i.le w8.le) (c3.le w8.le) an V V).aH (J.az g) Y λss b' M1 am U w _=>⟨_,_,rfl,?_⟩
 .simp only[aV]at a;rcases a with e|e|e|e
  .omega
  .omega
  .have:=D c (by simp[e]);omega
  .have:=D c (by simp[e]);omega
 have C:∀o,af M1 M.size o=af g M.size o:=λo=>aE (w.same _ V) o;refine⟨C 0,C 1,C 2,C 3,C 4,aE (w.same _ V) _,?_⟩;have x:=L.trans w;have z1:=w.size;exact wj (b:=b.size::d) (v:=ac) (x:=H) D (λc a=>by have T:=Y c a;have s:=F c;simp only[aV]at a s;rcases a with e|e|e|e<;>first|omega|(have:=s (by simp[e]);omega)|simp at e) (N.trans x) (Q.ext iU.mono x) (B.ext x) V (P.ext (v.trans x)) (c2.ext (v.trans x)) am ⟨V,V⟩ V λs' T g' s x'=>ar s' T _ g' s x' ⟨ak,aj,U.1,by have:=U.2;show b'.w<=_;omega⟩
section
variable{S:List Nat}{m:E}{c:O}{l:List Instr}
def dR.le{m b:E}(h:Le m b){a:List Ce}{x:Instr}:dR m a x->dR b a x:=λ⟨c,j,d,e,f⟩=>⟨c,j,d,e.le h,f.le h⟩
def dR.mono:oG 6 dR:=⟨λh=>dR.le h,λh=>by obtain⟨_,_,rfl,_⟩:=h;rfl⟩
def fj.le{m b:E}(a:Le m b){s:O}{l:List Instr}(h:fj m s l):fj b s l:=eT.le h a λ_ _=>dR.le a
def lx.le{m b:E}(h:Le m b){a:List Ce}{x:dy}:lx m a x->lx b a x:=λ⟨d,l,c,e,f,g,i⟩=>⟨d,l,c,e,f.le h,g.le h,fj.le h i⟩
def lx.mono:oG 5 lx:=⟨λh=>lx.le h,λh=>by obtain⟨_,_,_,rfl,_⟩:=h;rfl⟩
def iK.le{m b:E}(a:Le m b){s:O}{l:List dy}(h:iK m s l):iK b s l:=eT.le h a λ_ _=>lx.le a
def VU(x:Instr)(a j:O):Value:=.agg #[vi x.op,vi x.dst,vi x.bQ,vi x.bZ,O.v a,O.v j]
def wE(A:∀c∈S,c<m.size){r u:O}{x:Instr}(B:ap m r x.args)(C:ap m u x.eM)(h:x.args.length<=10^12/\x.eM.length<=10^12):
 aN cq 213 [VU x r u] m λH p=>∃g j,H=VU x g j/\ap (bH S p) g x.args/\ap (bH S p) j x.eM/\J m p:=by
 apply rL
 simp -zeta only[aD,aC]
 intro d e
 let⟨k,i⟩:=dD (a:=d) (c:=e) rfl rfl
 have K:d.size=m.size+1:=by simp[d]
 clear_value e
 have s:∀c∈d.size::S,c<e.size:=bP A k.size (i _ aL)
 have b:∀{M q:E},J e M->J M q->∀o,af q m.size o=af M m.size o:=λy z o=>aE (z.same _ (y.lt (i _ aL))) o
 refine(bO (d.size::S) (B.ext k) h.1).aH (J.az e) i λg _ I v l a _=>⟨_,rfl,b (J.az _) a _,b (J.az _) a _,b (J.az _) a _,b (J.az _) a _,b (J.az _) a _,?_⟩
 subst l
 refine(bO (d.size::S) (C.ext (k.trans a)) h.2).aH a i λj _ D w l f G=>⟨_,rfl,b a f _,b a f _,b a f _,b a f _,?_⟩
 subst l
 intro F
 have t:Le (bH (d.size::S) D) (bH S F):=cz aL λc n=>ai _ n
 exact⟨g,j,rfl,((v.done s h.1).le (f.df _)).le t,(w.done (λc n=>a.lt (s c n)) h.2).le t,(k.trans G).ah V _ _⟩
def Nm(d:fj m c l)(s:Int):FA 206 [O.v c,vi s] m:=by
 apply G9;have k:=d.len;refine ez (n:=l.length) (k▸d.gV) (λ_ _ M=>J m M) (J.az _) ?_;rintro q K M I μ F e u
 refine⟨λh=>?_,λ_=>rN e⟩;simp only[ar]at h;let⟨x,o⟩:=cG l q;let⟨z,H,b,E,A,g,B,C,f,D⟩:=(fj.ext e d).aG o;have j:=b.len;refine⟨V,V,_,g,?_⟩;refine ez (n:=x.args.length) (j▸b.gV) (λ_ _ a=>J M a) (J.az _) ?_;rintro r L w v μ2 G a t;refine⟨V,V,_,a.af f,λi=>?_,λ_=>u V _ _ (e.trans a)⟩;simp only[ar]at i;let⟨y,p⟩:=cG x.args r;exact⟨V,V,_,a.af f,V,V,y,(b.ext a).aG p,t V _ _ a⟩
structure Pz(k:Nat)(x:Instr):Prop where
 MV:x.op=22->(k:Int)<x.bQ
 arg:x.op=18\/x.op=23\/x.op=16\/x.op=17->0<x.args.length
def Si(l:List Instr):Prop:=∀(k:Nat)(x:Instr),l[k]? =some x->Pz k x
def I6(f:fj m c l)(E:Si l){n:Int}(C:0<=n)(Sb:Int):oV 233 [O.v c,vi n,vi Sb] m:=by
 apply Bu;simp -zeta only[aD,aC];have I:=f.len;have L:=f.gV;refine⟨λv _ M=>0<=v/\J m M,λv _ _=>((l.length:Int) -v).toNat,⟨C,J.az _⟩,?_⟩;rintro v G M ⟨F,k⟩;refine⟨λh=>?_,λ_=>rA k⟩;simp only[ar]at h;let⟨a,o⟩:=cG l v.toNat;let⟨d,N,e,K,s,t,w,z,A,B⟩:=(fj.ext k f).aG o;have H:=e.len;have g:=E _ a o;refine⟨F,V,_,s,_,t,_,w,_,z,_,A,_,B,?_⟩;intro P b;have j:J M b:=(J.push M _).ah (ad _) _ _;clear_value b;have u:=k.trans j;have MV:(a.op==22)=true->(0<=a.bQ/\J m b)/\((l.length:Int) -a.bQ).toNat<((l.length:Int) -v).toNat:=λh=>by
  simp only[aI]at h;have:=g.MV h;exact⟨⟨V,u⟩,V⟩
 have p:(a.op==23)=true->(0:Int)<=0/\(0:Int)<(d.len:Int)/\∃q:Int,af b d.D (d.off+Int.toNat (0:Int)*1)=some (vi q)/\∃r:Bool,vb (q==G)=.bool r/\J m b:=λh=>by
  simp only[aI]at h;have:=g.arg V;let⟨y,i⟩:=cG a.args 0;exact⟨bn,V,y,(e.ext j).aG i,rA u⟩
 refine⟨λD=>?_,λ_=>⟨MV,λ_=>⟨p,λ_=>rA u⟩⟩⟩;simp only[aI]at D;have:=g.arg V;let⟨y,i⟩:=cG a.args 0;refine⟨bn,V,y,(e.ext j).aG i,λ_=>?_,λ_=>⟨MV,λ_=>⟨p,λ_=>rA u⟩⟩⟩;rw[aP (b:=v+1) V V];exact⟨⟨V,u⟩,by show((l.length:Int) -(v+1)).toNat<((l.length:Int) -v).toNat;omega⟩
def KJ(l b:List Instr):Prop:=b.length=l.length/\∀(k:Nat)(a:Instr),b[k]? =some a->∃x,l[k]? =some x/\(a=x\/a=⟨24,0,x.bQ,0,x.args,x.eM⟩)
def QI(l:List Instr):Prop:=∀x∈l,x.args.length<=10^12/\x.eM.length<=10^12
abbrev Vw(S:List Nat)(a m:E)(s:O)(l:List Instr):Prop:=Gr S a m dW 6 dR s l
def Ko(hS:∀c∈S,c<m.size)(f:fj m c l)(ae:Si l)(af:QI l)(hb:l.length<=10^12):
 aN cq 212 [O.v c] m λN L=>∃s e,N=O.v s/\Vw S m L s e/\KJ l e/\J m L:=by
 apply Dt
 simp -zeta only[aD,aC]
 intro H
 have x1:J m H:=J.push _ _
 have g0:Vw S m H (.mk m.size 0 0 0) []:=Gr.new S (ad _) _ _ _
 clear_value H
 have ac:=f.len
 refine ez (n:=l.length) (ac▸f.gV) (λk s M=>J m M/\∃e,Vw S m M s e/\KJ (l.take k) e) ⟨x1,[],g0,by simp[KJ]⟩ ?_
 rintro k s M Q μ hk ⟨q,e,A,D,F⟩ ai
 refine dit (λaa=>?_) λaa=>?_
 .let⟨d,G⟩:=cG l k
  let⟨al,an,ha,hj,R,T,U,W,X,Y⟩:=(fj.ext q f).aG G
  have ag:=af d (aq G)
  have hy:=A.bh
  have zM:=q.size
  have am:e.length=k:=by rw[D];simp;omega
  have ab:∀c∈s.D::S,c<M.size:=λc f=>by
   rcases List.mem_cons.1 f with u|u
   .omega
   .have:=hS c u;omega
  refine⟨V,V,_,R,_,T,_,U,_,W,_,X,_,Y,?_⟩
  refine(wE ab ha hj ag).mono λN y⟨t,w,u,B,C,P⟩=>⟨_,_,_,_,_,_,u,?_⟩
  intro m3 j
  have i:J y j:=(J.push y _).ah (ad _) _ _
  have s4:j.size=y.size+1:=by simp[j,m3,av]
  clear_value j
  have p:=P.trans i
  have z:∀{g:E}{b:Instr},J j g->ap (bH (s.D::S) g) t b.args->ap (bH (s.D::S) g) w b.eM->(b=d\/b=⟨24,0,d.bQ,0,d.args,d.eM⟩)->
   jO (g.push (.cells (bt [.i b.op,.i b.dst,.i b.bQ,.i b.bZ,.s t,.s w]) dW)) dW [.i 0,.i 0,.i 0,.i 0,.s .nil,.s .nil] 80 s (.mk g.size 0 1 1) λI r=>eF [y.size] (g.push (.cells (bt [.i b.op,.i b.dst,.i b.bQ,.i b.bZ,.s t,.s w]) dW)) r/\Q I (cO ((k:Int)+1)) r/\μ I (cO ((k:Int)+1)) r<μ s k M:=λ{g b} xx h1 h2 h3=>by
   have z4:=p.size
   have zx:=xx.size
   refine Gr.kL (g:=[.i 0,.i 0,.i 0,.i 0,.s .nil,.s .nil]) (k:=b) dR.mono bn (A.ext dR.mono (p.trans xx)) ((q.trans (p.trans xx)).fz []) ⟨t,w,rfl,h1,h2⟩ V λI r g3 Z z3 q3=>⟨λc f=>?_,ai V _ _ ⟨Z.ext,_,g3,bF,λv aj h=>?_⟩⟩
   .have o:=P.size
    simp at f;subst f
    rw[q3 _ V V,(J.push g _).same _ V]
   .rcases aW v e.length with o|o
    .rw[ax o]at h
     let⟨ak,K,ah⟩:=F v aj h
     rw[dI V]at K⊢
     exact⟨ak,K,ah⟩
    .rw[aJ o]at h
     have:v -e.length=0:=by have:=aw h;simp at this;omega
     rw[this]at h;simp at h;subst h
     have:v=k:=V
     subst this
     exact⟨d,by rw[dI V];exact G,h3⟩
  have z4:=p.size
  refine⟨λh9=>?_,λ_=>?_⟩
  .rw[aP (b:=(k:Int)+1) V V]
   refine(I6 (fj.ext (q.trans p) f) ae V d.dst).aH (J.az j) bF λah K o _=>⟨_,rfl,λ_=>?_,λ_=>?_⟩
   .intro m6
    have:=z (b:=⟨24,0,d.bQ,0,d.args,d.eM⟩) o ((B.le (i.df _)).le (o.df _)) ((C.le (i.df _)).le (o.df _)) (Or.inr rfl)
    rw[aP (b:=(k:Int)+1) V V]at this
    exact this
   .intro m6
    have:=z (b:=d) o ((B.le (i.df _)).le (o.df _)) ((C.le (i.df _)).le (o.df _)) (Or.inl rfl)
    rw[aP (b:=(k:Int)+1) V V]at this
    exact this
  .intro K
   exact z (b:=d) (J.az _) (B.le (i.df _)) (C.le (i.df _)) (Or.inl rfl)
 .rw[bX V]at D F
  exact⟨s,e,rfl,A,⟨D,F⟩,q⟩
end
section
variable{b:List dy}
structure Tl(p:dy):Prop where
 params:p.params.length<=3
 cR:p.cR.length<=3
 iZ:0<p.dp.length
 oJ:p.dp.length<=10^12
 dp:Si p.dp
 iP:QI p.dp
structure DY(b:List dy):Prop where
 iZ:0<b.length
 oJ:b.length<=4
 dz:∀p∈b,Tl p
def QH(f:Nat)(c:List Value)(m:E)(S:List Nat)(e:List bz)(Q:List dy->Prop):Prop:=aN cq f c m λv a=>∃d p b,v=.agg #[O.v d,O.v p]/\cx (bH S a) d e/\iK (bH S a) p b/\Q b/\J m a
def KJ.ok{l d:List Instr}(h:KJ l d)(g:Si l)(f:QI l):Si d/\QI d:=by
 let⟨j,e⟩:=h;refine⟨λk a c=>?_,λa c=>?_⟩
 .obtain⟨x,b,rfl|rfl⟩:=e k a c
  .exact g k a b
  .exact⟨sx,sx⟩
 .let⟨k,i⟩:=List.mem_iff_getElem?.1 c;obtain⟨x,b,rfl|rfl⟩:=e k a i
  .exact f a (aq b)
  .exact f x (aq b)
def Vk{a:List dy}(h:DY b)(f:a.length=b.length)(c:∀(i:Nat)(q:dy),a[i]? =some q->Tl q):DY a:=
 ⟨by have:=h.iZ;omega,oh h.oJ,λq e=>by obtain⟨i,d⟩:=List.mem_iff_getElem?.1 e;exact c i q d⟩
def I9{d:List Nat}{l:E}(T:∀c∈d,c<l.size){y z:O}{A:List bz}(hd:cx l y A)(ht:dS A)(hp:iK l z b)(W:DY b):QH 164 [.agg #[O.v y,O.v z]] l d A DY:=by
 apply BA;simp -zeta only[aD,aC];intro f a2;let⟨K,F⟩:=dD (a:=f) (c:=a2) rfl rfl;have s1:f.size=l.size+1:=by simp[f]
 clear_value a2;have ao:=hp.len;have aH:=W.oJ;refine(fX (b:=f.size::d) (bP T K.size (F _ aL)) (hd.le K.le) ht).mono λ_ Z⟨dd,e,am,L⟩=>?_;subst e;refine⟨L.dq F,_,rfl,?_⟩;intro o au ai;have u2:=K.trans L;let⟨x5,B0,g0,s3,s5⟩:=kY (b:=o.size::f.size::d) lx.mono (d:=Z) (a:=o) (c:=au) (h:=ai) rfl rfl rfl;clear_value ai;have U:∀c∈[f.size,l.size],c<Z.size:=λc g=>L.lt (F c g);have ae:∀c∈f.size::d,c<Z.size:=λc g=>L.lt (bP T K.size (F _ aL) c g);refine kV (R:=λj k M=>∃y z h,Value.agg #[O.v j,O.v k]=.agg #[O.v y,O.v z]/\cx (bH d M) y A/\iK (bH d M) z h/\DY h/\J l M) (r:=b.length) (f:=l) (b:=d) lx.mono bn bn T ⟨V,U _ aL⟩ u2 s3 am ao V x5 B0 g0 (λ_ r=>Tl r) (λh r' ah m' h1 C j k p=>⟨h,r',ah,rfl,h1,C,Vk W j k,p⟩) λar M s ah az μ an aF xM ac N aw=>?_
 let⟨r,hq⟩:=cG b ar an;have t:=W.dz r (aq hq);have q3:=t.params;have q4:=t.cR;have qf:=t.oJ;have qs:=t.iZ;have v6:=u2.trans xM;let⟨aA,p,c,c1,c2,c3,e0,e1,e2,e3,e4⟩:=hp.aG hq;have G:∀{aa:Value}{p v:Nat},af l p v=some aa->af M p v=some aa:=λB=>v6.af B;refine⟨V,V,_,G e0,_,G e1,_,G e2,_,G e3,_,G e4,?_⟩;intro m7 k;have hy:=ac.bh;have aB:=N.lt;have zM:=xM.size;have x8:J M k:=(J.push M _).ah (ad _) _ _;have s8:k.size=M.size+1:=by simp[k,m7,av]
 clear_value k;have H:∀c∈[M.size,f.size,l.size],c<k.size:=λc g=>by
  rcases List.mem_cons.1 g with e|e
  .omega
  .have:=U c e;omega
 have w8:=v6.trans x8;have D:∀{M':E},k.size<=M'.size->∀c∈s.D::o.size::f.size::d,c<M'.size:=λB c g=>by
  simp only[aV]at g;rcases g with e|e|e|e
  .omega
  .omega
  .have:=ae c (by simp[e]);omega
  .have:=ae c (by simp[e]);omega
 have h:∀{P M2:E},J k P->J P M2->∀p,p<k.size->∀v,af M2 p v=af P p v:=λB h' p hb v=>aE (h'.same p (B.lt hb)) v;have q:M.size<k.size:=V;have X:o.size<k.size:=V;refine⟨s,(N.ext x8).cp 1,?_⟩;refine(bO (s.D::o.size::f.size::d) (c1.ext w8) V).aH (J.az k) H λa' _ m9 ga e j _=>⟨_,rfl,h (J.az _) j _ q _,h (J.az _) j _ q _,h (J.az _) j _ q _,h (J.az _) j _ q _,h (J.az _) j _ X _,?_⟩;subst e;refine(bO (s.D::o.size::f.size::d) (c2.ext (w8.trans j)) V).aH j H λb' _ aI gb e x w=>⟨_,rfl,h j x _ q _,h j x _ q _,h j x _ q _,h j x _ X _,?_⟩;subst e;have z9:=j.size;have vG:=x.size;refine(Ko (S:=s.D::o.size::f.size::d) (D V) (fj.ext (w8.trans w) c3) t.dp t.iP qf).mono λaa Y⟨Q,I,e,gc,ag,u⟩=>⟨λc g=>u.same c (w.lt (H c g)),Q,e,h w u _ q _,h w u _ q _,h w u _ X _,?_⟩;intro aJ;have ab:=x8.trans (w.trans u);have aK:=u.size;let⟨ax,ay⟩:=ag.ok t.dp t.iP;have aG:=ag.1;have aj:ap (bH (s.D::o.size::f.size::d) Y) a' r.params:=(ga.done (D V) V).le ((x.trans u).df _);have ak:ap (bH (s.D::o.size::f.size::d) Y) b' r.cR:=(gb.done (D V) V).le (u.df _);have al:fj (bH (s.D::o.size::f.size::d) Y) Q I:=gc.done dR.mono (D V) bn V;exact Gr.box (g:=[.s .nil,.s .nil,.i 0,.i 0,.s .nil]) (j:=1) (y:=88) (i:=[.s dd,.s s]) (w:=⟨r.params,r.cR,r.aT,r.ak,I⟩) lx.mono bn (ac.ext lx.mono ab) ((xM.trans ab).fz []) ⟨a',b',Q,rfl,aj,ak,al⟩ V (N.ext ab) aL bn ⟨V,aL⟩ (λc g=>by have h1:=H c g;have C:=U c;simp only[aV]at g C;rcases g with e|e|e|e<;>first|omega|(have:=C (by simp[e]);omega)|simp at e) λr' m' g' C f' z' q'=>aw r' m' _ g' C f'.ext ⟨q3,q4,by show 0<I.length;omega,by show I.length<=_;omega,ax,ay⟩
end
section
variable{S:List Nat}{d c:E}{b:Nat}{s:O}{l:List Instr}{x:Instr}
structure Fv(S:List Nat)(d c:E)(b:Nat)(s:O)(l:List Instr):Prop where
 box:cD c b ov [.s s]
 gr:Vw (b::S) d c s l
 up:d.size<=b
def Fv.ext{S:List Nat}{d c a:E}{b:Nat}{s:O}{l:List Instr}(h:Fv S d c b s l)(x:J c a):Fv S d a b s l:=⟨h.box.ext x,h.gr.ext dR.mono x,h.up⟩
def Fv.ne{S:List Nat}{d c:E}{b:Nat}{s:O}{l:List Instr}(h:Fv S d c b s l):s.D≠b:=h.gr.ne h.box bn
def Px(S:List Nat)(d c:E)(b:Nat)(s:O)(P:List Instr->Prop)(f:E):Prop:=∃a e,Fv S d f b a e/\P e/\Fz [b,s.D] c f/\(a.D=s.D\/c.size<=a.D)
def qN{v z:O}(p:Fv S d c b s l)(E:d.size<=c.size)(H:ap (bH (s.D::b::S) c) v x.args)(I:ap (bH (s.D::b::S) c) z x.eM)(q:l.length<=10^12):
 aN cq 205 [vp b 0,VU x v z] c λP M=>P=vi (l.length:Nat)/\Px S d c b s (l++[x]=·) M:=by
 apply xG (b,0)
 simp -zeta only[aD,aC]
 intro g
 have n:J c g:=J.push _ _
 have s1:g.size=c.size+1:=by simp[g]
 clear_value g
 have h:=p.ext n
 have W:=h.gr.bh
 have D:=h.box.lt
 have T:=p.box.lt
 have X:=p.gr.bh
 refine⟨s,h.box.cp 0,?_⟩
 intro N
 have F:J g N:=J.push _ _
 refine⟨aE (F.same _ D) _,?_⟩
 have U:(c.extract 0 d.size).size=d.size:=mg E
 have g1:Vw (b::S) (c.extract 0 d.size) g s l:=Gr.cv dR.mono h.gr (λG q=>Or.inl q) V
 refine Gr.kL (g:=[.i 0,.i 0,.i 0,.i 0,.s .nil,.s .nil]) (k:=x) dR.mono bn g1 ((((J.MZ E).trans n).fz [])) ⟨v,z,rfl,H.le (n.df _),I.le (n.df _)⟩ V λi k A R Q u=>?_
 have Z:∀e,e<g.size->e≠s.D->k[e]? =g[e]? :=u
 have y:cD k b ov [.s s]:=h.box.congr (u b D (kG h.ne))
 have L:=A.ne y bn
 refine⟨λe f=>?_,y.fL aL,?_⟩
 .simp at f;subst f
  rw[u c.size V V,F.same _ V]
 intro t
 have C:cD t b ov [.s i]:=cD.ah (m:=k) (o:=0) (r:=[.s i]) y
 have w:∀e,e≠b->t[e]? =k[e]? :=λe f=>bd _ _ _ _ f
 have s4:t.size=k.size:=av _ _ _ _
 refine⟨λe f=>w e (by simp at f;omega),i,C.cp 0,?_⟩
 have B:Vw (b::S) d t i (l++[x]):=by
  refine Gr.cv dR.mono (A.re dR.mono (Y:=[b]) ⟨V,λe f j=>w e (by simpa using j)⟩ aL (by simp;exact L) λe f=>Or.inl f) (λG q=>Or.inl q) V
 have G:=B.len bn
 have K:i.len=l.length+1:=by rw[G];simp
 refine⟨?_,i,_,⟨C,B,p.up⟩,rfl,⟨V,λe f j=>?_⟩,oh Q.2⟩
 .rw[K,aP V V];congr 1;omega
 .simp only[aV,j7,BV,vK]at j
  rw[w e j.1,u e V j.2,n.same e f]
def Rm{j:Nat}(h:Fv S d c b s l)(o:d.size<=c.size)(r:l[j]? =some x):
 aN cq 234 [vp b 0,vi j] c λ_ K=>Px S d c b s (l.set j ⟨x.op,0,l.length,0,x.args,x.eM⟩=·) K:=by
 apply xF (b,0)
 simp -zeta only[aD,aC]
 have G:=aw r
 have I:=h.gr.len bn
 obtain⟨M,⟨q,t,rfl,E,F⟩,jw⟩:=h.gr.cells r
 have w:=jw 0 _ rfl;have y:=jw 1 _ rfl;have z:=jw 2 _ rfl;have A:=jw 3 _ rfl;have B:=jw 4 _ rfl;have C:=jw 5 _ rfl
 refine⟨s,h.box.cp 0,V,V,_,w,_,y,_,z,_,A,_,B,_,C,?_⟩
 intro L e
 have g:J c e:=(J.push c _).ah (ad _) _ _
 have Q:e.size=c.size+1:=by simp[e,L,av]
 clear_value e
 have i:=h.ext g
 have H:=i.ne
 have O:=h.gr.bh
 have P:=g.size
 refine⟨s,i.box.cp 0,s,i.box.cp 0,V,V,?_⟩
 have g1:Vw (b::S) (c.extract 0 d.size) e s l:=Gr.cv dR.mono i.gr (λv m=>Or.inl m) (by rw[mg o];exact ad _)
 rw[I]
 let⟨wr,D,N,p⟩:=Gr.set (k:=j) (cs:=[.i x.op,.i 0,.i l.length,.i 0,.s q,.s t]) (a:=⟨x.op,0,l.length,0,x.args,x.eM⟩) dR.mono g1 (((J.MZ o).trans g).fz []) G ⟨q,t,rfl,E.le (g.df _),F.le (g.df _)⟩
 refine⟨wr,?_⟩
 intro u
 have R:u.size=e.size:=av _ _ _ _
 refine⟨λf n=>p f (by simp at n;omega),s,_,⟨i.box.congr (p b (kG H)),Gr.cv dR.mono D (λv m=>Or.inl m) (by rw[mg o];exact ad _),h.up⟩,rfl,⟨V,λf n m=>?_⟩,Or.inl rfl⟩
 simp only[aV,j7,BV,vK]at m
 have v:u[f]? =e[f]? :=p f m.2
 rw[v,g.same f n]
end
section
variable{n a:Nat}
def mS(l b:List Instr)(n:Nat):Prop:=∃a,b=l++a/\(∀(i:Nat)(x:Instr),a[i]? =some x->Pz (l.length+i) x)/\QI a/\a.length<=n
def mS.az(l:List Instr):mS l l 0:=⟨[],aL,aL,λ_ h=>by simp at h,ad _⟩
def mS.fm{l b:List Instr}(h:mS l b n)(i:n<=a):mS l b a:=let⟨f,c,d,e,g⟩:=h;⟨f,c,d,e,V⟩
def mS.len{l a:List Instr}(h:mS l a n):a.length<=l.length+n:=by obtain⟨b,rfl,_,_,d⟩:=h;simp;omega
def mS.trans{l e f:List Instr}(h:mS l e n)(p:mS e f a):mS l f (n+a):=by
 obtain⟨c,rfl,g,k,s⟩:=h;obtain⟨r,rfl,j,m,t⟩:=p;refine⟨c++r,aL,λi x b=>?_,λx q=>?_,bF⟩
 .rcases aW i c.length with d|d
  .rw[ax d]at b;exact g i x b
  .rw[aJ d]at b;have:=j _ x b;have o:(l++c).length+(i -c.length)=l.length+i:=bF;rw[o]at this;exact this
 .rcases List.mem_append.1 q with h|h
  .exact k x h
  .exact m x h
def mS.lM{l:List Instr}{x:Instr}(h:Pz l.length x)(c:x.args.length<=10^12/\x.eM.length<=10^12):mS l (l++[x]) 1:=
 ⟨[x],rfl,λi y a=>by
  have:i=0:=by have:=aw a;simp at this;omega
  subst this;simp at a;subst a;exact h,λy b=>by simp at b;subst b;exact c,aL⟩
section
variable{S:List Nat}{d m c:E}{b:Nat}{s e:O}{l f:List Instr}
def Fv.gJ(h:Fv S d m b s l)(f:J d m)(e:Fz [b,s.D] m c):J d c:=by
 have j:=h.gr.bh;have i:=h.up;exact Fz.ext (((f.fz [b,s.D]).trans e).DR λg a=>Or.inr (by simp at a;omega))
def QS(h:Fz [b,s.D] m c)(f:e.D=s.D\/m.size<=e.D):Le (bH [s.D,b] m) (bH [e.D,b] c):=pK λa g i=>by
 simp at i;refine⟨by simp;rcases f with d|d<;>omega,h.same a g bF⟩
def Px.dq{L:List Nat}(f:Fz [b,s.D] m c)(d:∀a∈L,a<m.size/\a≠b/\a≠s.D):eF L m c:=λa e=>f.same a (d a e).1 (by have:=d a e;simp;omega)
end
structure Sj(S:List Nat)(mb m:E)(eb:Nat)(s:O)(l:List Instr)(cons first:O)(cl fl:List Int):Prop where
 em:Fv S mb m eb s l
 x:J mb m
 gJ:∀c∈S,c<m.size
 cons:ap (bH [s.D,eb] m) cons cl
 first:ap (bH [s.D,eb] m) first fl
 same:fl.length=cl.length
 iP:∀y∈fl,0<=y/\y<=900000000000
def Sj.ext{S:List Nat}{e m d:E}{b:Nat}{s:O}{l:List Instr}{cons first:O}{a c:List Int}(h:Sj S e m b s l cons first a c)(x:J m d):Sj S e d b s l cons first a c:=
 ⟨h.em.ext x,h.x.trans x,λf g=>x.lt (h.gJ f g),h.cons.le (x.df _),h.first.le (x.df _),h.same,h.iP⟩
def Sj.next{S:List Nat}{e m d:E}{a:Nat}{s c:O}{o j:List Instr}{cons first:O}{f g:List Int}(h:Sj S e m a s o cons first f g)(l:Fv S e d a c j)(b:Fz [a,s.D] m d)(i:c.D=s.D\/m.size<=c.D):Sj S e d a c j cons first f g:=
 ⟨l,h.em.gJ h.x b,λk n=>aO (h.gJ k n) b.size,h.cons.le (QS b i),h.first.le (QS b i),h.same,h.iP⟩
def XU(f:List bz)(g:List gR)(x:cU):Prop:=∀(S:List Nat)(a m:E)(c:Nat)(s:O)(l:List Instr)(cons first:O)(b h:List Int)(e r d k:O),Sj S a m c s l cons first b h->WS f g.length True b.length x->b.length+4*x.w<=900000000000->l.length+6*x.w<=10^12->eL a e r f g->ap a d x.args->nI a k x.bC->
 aN cq 219 [vp c 0,.agg #[O.v e,O.v r],pv x d k,O.v cons,O.v first] m λ_ j=>Px S a m c s (λi=>mS l i (6*x.w)) j
def WR(f:List bz)(g:List gR)(b:Bk):Prop:=∀(S:List Nat)(a m:E)(d:Nat)(s:O)(l:List Instr)(cons first:O)(c h:List Int)(e r t:O),Sj S a m d s l cons first c h->WB f g.length True c.length b->c.length+4*b.w<=900000000000->l.length+6*b.w<=10^12->eL a e r f g->eP a t b.aB->
 aN cq 204 [vp d 0,.agg #[O.v e,O.v r],.agg #[O.v t,vi b.aT],O.v cons,O.v first] m λ_ j=>Px S a m d s (λi=>mS l i (6*(b.w -1))) j
end
def tA(m:E):ap m .nil []:=⟨rfl,ad _,aL,aL⟩
def Ma{ds:List bz}{rs:List gR}{aB:List cU}{a8:Int}(b:∀a∈aB,a.op=7\/a.op=8->XU ds rs a):WR ds rs (.mk aB a8):=by
 intro z mb D f ab ah cons first cl fl aN a7 bw E0 a1 be bf hn hs
 have a2:=a1.aS;rw[Bk.qQ]at*;simp only[Bk.jV,Bk.jx]at*;apply vv (f,0);simp -zeta only[aD,aC];intro Q F;let⟨x2,hl⟩:=dD (a:=Q) (c:=F) rfl rfl;have s1:Q.size=D.size+1:=by simp[Q]
 have s2:F.size=D.size+2:=by simp[F,s1]
 clear_value F;have a0:=hs.len;have az:=BP aB;have bl:=gB aB;have bh:=E0.em.box.lt;have bt:=E0.em.gr.bh;have bj:=E0.x.size;refine xe (n:=aB.length) (a0▸hs.gV) (λo cons first M=>∃m P A L,Sj z mb M f m P cons first A L/\A.length=cl.length+dc (aB.take o)/\mS ah P (6*sw (aB.take o))/\Fz [f,ab.D] D M/\(m.D=ab.D\/F.size<=m.D)/\F.size<=M.size) ⟨ab,ah,cl,fl,E0.ext x2,aL,(mS.az ah).fm (dH _),x2.fz _,Or.inl rfl,ad _⟩ ?_;rintro o cons first M a9 μ hk ⟨m,P,A,L,R,aW,ag,fz,aZ,hM⟩ aJ
 have bi:=ag.len;have bo:=az o;have s:=R.em.gr.bh;refine dit (λk=>?_) λk=>?_
 .let⟨a,Z⟩:=cG aB o;let⟨pa,pk,O,aX,e0,e1,e2,e3,e4⟩:=hs.aG Z;have bq:=p7 Z;have bp:=qV Z;have bs:=cU.mu a;have bm:=az (o+1);have bg:=tn (aB.take o);have bk:=gB (aB.take o);have Y:=a2.1 o a Z;rw[<-aW]at Y;have X:=R.x;refine⟨V,V,_,X.af e0,_,X.af e1,_,X.af e2,_,X.af e3,_,X.af e4,?_⟩;intro m3 p;have x4:J M p:=(J.push M _).ah (ad _) _ _;have s4:p.size=M.size+1:=by simp[p,m3,av]
  clear_value p;have j:=R.ext x4;have N:∀{T:E},p.size<=T.size->∀h∈[M.size,Q.size,D.size],h<T.size/\h≠f/\h≠m.D:=λhz h r=>by simp at r;omega
  have kS:∀{y U:E},p.size<=y.size->J y U->eF [M.size,Q.size,D.size] y U:=λhz xx h r=>xx.same h (N hz h r).1;have C:∀{y U:E},p.size<=y.size->J y U->∀ai,af U M.size ai=af y M.size ai:=λhz xx ai=>aE (xx.same _ V) ai;have ao:∀{T:E},p.size<=T.size->∀c∈m.D::f::z,c<T.size:=λhz c b=>by
   simp only[aV]at b;rcases b with e|e|e
   .omega
   .omega
   .have:=R.gJ c e;have:=X.size;omega
  refine⟨λI=>∃g u,Sj z mb I f g u cons first A L/\mS P u (6*a.w)/\Fz [f,m.D] p I/\(g.D=m.D\/p.size<=g.D),⟨λh7=>?_,λn7=>⟨λaR=>?_,λa5=>⟨λaS=>?_,λa6=>?_⟩⟩⟩,?_⟩
  .simp only[bR,aI]at h7;refine(b a (aq Z) h7 z mb p f m P cons first A L aN a7 pa pk j Y V V hn O aX).mono λv m5⟨g,u,ac,p5,K,b5⟩=>⟨Px.dq K (N (ad _)),g,u,j.next ac K b5,p5,K,b5⟩
  .simp only[bR,aI]at aR;refine(bO (m.D::f::z) (O.ext j.x) V).mono λv m5⟨a',la,e,ga,ea,d⟩=>⟨kS (ad _) d,a',e,C (ad _) d _,?_⟩;subst ea;have l:=j.ext d;have t:=d.size;refine(qN (x:=⟨a.op,0,0,0,a.args,[]⟩) l.em l.x.size (GI.done ga (ao (ad _)) (by show a.args.length<=_;omega)) (tA _) V).mono λv G⟨ev,s6,l6,ak,p6,B,b6⟩=>⟨Px.dq B (N t),_,ev,s6,l6,l.next ak B b6,?_,(d.fz _).trans B,V⟩;subst p6;exact(mS.lM ⟨λk=>by simp only at k;omega,λk=>by simp only at k;omega⟩ ⟨by show a.args.length<=_;omega,aL⟩).fm V
  .simp only[bR,aI]at aS;have bb:=Y.fe.lM V;let⟨H,ar⟩:=cG a.args 0;let⟨y0,y1⟩:=Y.fe.args H (aq ar);have bd:=O.len;have c4:=(j.cons.le (bA _ _));have f4:=(j.first.le (bA _ _));have a3:=c4.len;have a4:=f4.len;have aY:=j.same;let⟨cn,aP⟩:=cG A H.toNat;let⟨fn,am⟩:=cG L H.toNat;let⟨a_,ba⟩:=j.iP fn (aq am);have F4:=f4.aG am;refine⟨bn,V,H,(O.ext j.x).aG ar,y0,V,cn,c4.aG aP,y0,V,fn,F4,?_⟩;refine(dK (e:=[]) aL (hn.bo.le (j.x.le.trans (Am _))) hn.types cn).mono λv m5⟨aT,bu,e,aK,ax,d⟩=>⟨kS (ad _) d,aT,e,by rw[d.af F4,F4],C (ad _) d _,C (ad _) d _,?_⟩;subst ax;have t:=d.size;have F3:=FU hn.types cn;obtain⟨fk,aQ⟩:∃fk:Nat,fn=fk:=⟨fn.toNat,V⟩;subst aQ;refine(sa (S:=[]) aL aK fk V).mono λv G⟨aU,bv,e,aF,al,i⟩=>⟨kS t i,aU,e,C t i _,C t i _,?_⟩;have z6:=i.size;refine(eO (S:=[]) aL ((O.ext (j.x.trans (d.trans i))).le (Am _)) (aF.done ug.mono aL bn (oh al.2)) (oh al.2)).mono λv m7⟨aw,aa,e,aG,au,q⟩=>⟨kS V q,aw,e,C V q _,?_⟩;have W:=(d.trans i).trans q;have w:=j.ext W;have z7:=q.size;have aH:GI (m.D::f::z) G m7 aw aa:=GI.any aG;have bc:aa.length<=a.args.length+3:=by rw[<-au];simp;have:=al.2;omega
   have aM:0<aa.length:=by rw[<-au];simp;omega
   refine(qN (x:=⟨a.op,0,0,0,aa,[]⟩) w.em w.x.size (aH.done (ao V) V) (tA _) V).mono λv m8⟨ev,s8,l8,ay,p8,f8,b8⟩=>⟨Px.dq f8 (N V),_,ev,s8,l8,w.next ay f8 b8,?_,(W.fz _).trans f8,V⟩;subst p8;exact(mS.lM ⟨λk=>by simp only at k;omega,λ_=>aM⟩ ⟨by show aa.length<=_;omega,aL⟩).fm V
  .refine(bO (m.D::f::z) (O.ext j.x) V).mono λv m5⟨a',la,e,ga,ea,d⟩=>⟨kS (ad _) d,a',e,C (ad _) d _,C (ad _) d _,C (ad _) d _,?_⟩;subst ea;simp only[br,aj]at a5 a6;have l:=j.ext d;have t:=d.size;have aa:a.op<=11:=by
    rcases Y.fe.op with k|k
    .exact k.2
    .omega
   refine(qN (x:=⟨a.op,(cons.len:Int),a.bQ,a.bZ,a.args,[]⟩) l.em l.x.size (GI.done ga (ao (ad _)) (by show a.args.length<=_;omega)) (tA _) V).mono λv G⟨ev,s6,l6,ak,p6,B,b6⟩=>⟨Px.dq B (N t),_,ev,s6,l6,l.next ak B b6,?_,(d.fz _).trans B,V⟩;subst p6;exact(mS.lM ⟨λk=>by simp only at k;omega,λk=>by simp only at k;omega⟩ ⟨by show a.args.length<=_;omega,aL⟩).fm V
  .rintro I ⟨g,u,l,p5,K,b5⟩;have t:=K.size;have ac:mS ah u (6*sw (aB.take (o+1))):=(ag.trans p5).fm V;have aw:Fz [f,ab.D] D I:=(fz.then x4).sq K λH s=>by
    simp only[aV,j7,BV]at s⊢;rcases s with e|e
    .exact Or.inl (Or.inl e)
    .rcases aZ with d|d
     .exact Or.inl (Or.inr V)
     .exact Or.inr V
   have ax:g.D=ab.D\/F.size<=g.D:=V;have bb:=l.em.gr.bh;have al:∀h∈[M.size,Q.size,D.size],h<I.size:=λh r=>aO (N (ad _) h r).1 t;have ay:=λh r=>tq a h r;refine(jR a.op I).mono λv G⟨h,e,r,i⟩=>⟨λc b=>i.same c (al c b),h,e,λht=>?_,λhf=>?_⟩
   .have hd:=ay h r;rw[an ht]at hd;intro m7;have q:J G m7:=J.push _ _;have ba:=l.em.box.lt;have z6:=i.size;have aa:∀c∈[g.D,f],c<G.size:=λc b=>by simp at b;omega
    have a3:ap (bH [g.D,f] m7) (.mk G.size 0 1 1) [0]:=ap.lit aA [0] aa rfl rfl aL;have W:=i.trans q;have w:=l.ext W;have a_:=w.cons.len;refine(eO (S:=[g.D,f]) (λc b=>q.lt (aa c b)) w.cons a3 bF).mono λv m8⟨aK,aF,e,aP,ar,x8⟩=>⟨λc b=>x8.same c (q.lt (i.lt (al c b))),aK,e,?_⟩;intro m9;have d:J m8 m9:=J.push _ _;have z7:=q.size;have z8:=x8.size;have am:∀c∈[g.D,f],c<m8.size:=λc b=>by have:=aa c b;omega
    have a4:ap (bH [g.D,f] m9) (.mk m8.size 0 1 1) [0]:=ap.lit aA [0] am rfl rfl aL;have E9:=w.ext (x8.trans d);have aY:=E9.same;refine(eO (S:=[g.D,f]) (λc b=>d.lt (am c b)) E9.first a4 bF).mono λv aH⟨aM,aG,e,aQ,au,B⟩=>⟨λc b=>B.same c (d.lt (x8.lt (q.lt (i.lt (al c b))))),aM,e,?_⟩;have ak:=E9.ext B;have aT:ap (bH [g.D,f] aH) aK aF:=(GI.done aP (λc b=>q.lt (aa c b)) (by rw[<-ar];simp;omega)).le ((d.trans B).df _);have aU:ap (bH [g.D,f] aH) aM aG:=GI.done aQ (λc b=>d.lt (am c b)) (by rw[<-au];simp;omega);refine aJ V _ _ _ ⟨g,u,aF,aG,⟨ak.em,ak.x,ak.gJ,aT,aU,by rw[<-ar,<-au];simp;omega,λH s=>?_⟩,by rw[<-ar];simp;omega,ac,aw.then (((W.trans x8).trans d).trans B),ax,?_⟩
    .rw[<-au]at s;rcases List.mem_append.1 s with s|s
     .exact l.iP H s
     .simp at s;omega
    .have:=d.size;have:=B.size;omega
   .have hd:=ay h r;rw[ae (by simp[hf])]at hd;exact aJ V _ _ _ ⟨g,u,A,L,l.ext i,V,ac,aw.then i,ax,oh i.size⟩
 .have a:o=aB.length:=V;subst a;rw[fw]at ag;exact⟨m,P,R.em,ag.fm V,fz,V⟩
section
variable{m:E}
def Jm(m:E)(s:O):Prop:=s.len<=s.cap/\∀k:Nat,k<s.len->∃v:Int,0<=v/\v<=255/\af m s.D (s.off+k*1)=some (.int .u8 v)
def IP{dp:O}(h:Jm m dp):aN cq 30 [O.v dp] m λv i=>∃a,v=vp m.size 0/\Rd m.size a 0 i/\J m i:=by
 let⟨g,f⟩:=h;apply Bj;have R:∀a:O,Jm m a->∃l,vp m.size 0=vp m.size 0/\Rd m.size l 0 (m.push (.cells (bt [.s a,.i 0]) qd))/\J m (m.push (.cells (bt [.s a,.i 0]) qd)):=λa⟨n,o⟩=>by
  refine⟨a,rfl,⟨⟨0,cD.push _ _ _,dw _,aL⟩,n,λk c=>?_⟩,J.push _ _⟩;let⟨v,d,e,b⟩:=o k c;have s:=lB b;exact⟨v,d,e,eQ.2 ⟨bF,(J.push m _).af b⟩⟩
 refine⟨λh=>?_,λ_=>R dp ⟨g,f⟩⟩;simp only[ar]at h;refine⟨bn,bn,V,?_⟩;refine R _ ?_;cases dp with
 |nil=>simp at h
 |zW j p q=>simp at h
 |mk j p t q=>
  simp only[O.gH,O.OC]at h g;refine⟨by simp[O.cut];omega,λk c=>?_⟩;have r:k<2000:=by simpa[O.cut]using c
  let⟨v,d,e,b⟩:=f k bF;exact⟨v,d,e,by simpa[O.cut]using b⟩
def KE(f:Nat)(b:List Value)(m:E)(S:List Nat)(Q:Ex->Prop):Prop:=aN cq f b m λv a=>∃s e,v=.agg #[vi e.op,vi e.bQ,O.v s]/\fH (bH S a) s e.bC/\Q e/\J m a
def Ba(S:List Nat)(n:Int)(m:E):KE 280 [vi n] m S (.mk 0 n []=·):=by
 apply EN;simp -zeta only[aD,aC];intro a b d;have c:J m b:=(J.push m _).trans (J.push a _);exact⟨_,.mk 0 n [],rfl,mI _ _ _ _ _ _,rfl,c.ah (ad _) _ _⟩
def ms(S:List Nat)(n:Int)(m:E):KE 315 [vi n] m S (.mk 12 n []=·):=by
 apply Du;simp -zeta only[aD,aC];intro a b d;have c:J m b:=(J.push m _).trans (J.push a _);exact⟨_,.mk 12 n [],rfl,mI _ _ _ _ _ _,rfl,c.ah (ad _) _ _⟩
def JI{S:List Nat}{s:O}{bC:List Ex}(h:fH (bH S m) s bC)(a bQ:Int):KE 313 [vi a,vi bQ,O.v s] m S (.mk a bQ bC=·):=by
 apply Kf;simp -zeta only[aD,aC];intro d c;have b:J m c:=(J.push m _).ah (ad _) _ _;exact⟨s,.mk a bQ bC,rfl,h.le (b.df _),rfl,b⟩
def By{a P:Nat}{b:O}(r:Rd a b P m)(x:P+4<=10^16):aN cq 332 [vp a 0] m λv h=>∃k:Int,v=vi k/\Rd a b (P+4) h/\Fz [a] m h:=by
 apply E8 (a,0);refine(bY r V 6).mono λv y⟨d,e,_,_,s,n⟩=>⟨d,e,?_⟩;refine(bY s V 6).mono λv z⟨f,e,_,_,t,o⟩=>⟨f,e,?_⟩;refine(bY t V 40).mono λv i⟨g,e,_,_,c,p⟩=>⟨g,e,?_⟩;intro j;have l:J i j:=J.push _ _;have w:ap (bH [a] j) (.mk i.size 0 10 10) [d,f,0,1,2,-1,3,g,999,-998]:=ap.lit aA _ (by have:=c.lt;simpa using this) rfl rfl aL;refine(kE (c.ext l) V w aL).mono λv A⟨k,e,_,u,q⟩=>⟨k,e,k,rfl,u,((n.trans o).trans p).then l|>.trans q⟩
end
section
variable{m:E}
def ZG(e:Ex):Prop:=∀(m:E)(t:O),fH m t e.bC->∀left:Int,left<=600->tg 317 [.agg #[vi e.op,vi e.bQ,O.v t],vi left] m λk=>k= -1\/0<=k/\k+e.n=left
def IQ:∀e:Ex,ZG e:=by
 refine Ex.ind ?_;intro L bQ bC s m N c left F;simp only[Ex.VZ,Ex.Ub,Ex.RW,Ex.SF]at*;apply Bl;simp -zeta only[aD,aC];intro a;have f:J m a:=J.push _ _;have p:∀h∈[m.size],h<a.size:=by simp[a]
 clear_value a;have d:∀{M:E},J m M->∃k:Int,vi (-1:Int)=vi k/\(k= -1\/0<=k/\k+((1+en bC:Nat):Int)=left)/\J m M:=λB=>⟨-1,rfl,Or.inl rfl,B⟩;refine⟨λ_=>d f,λl=>?_⟩;simp only[bE]at l;have r:=c.len;rw[aP (b:=left -1) V V];refine ez (n:=bC.length) (r▸c.gV) (λk(v:Int) M=>J a M/\0<=v/\v+1+en (bC.take k)=left) ⟨J.az _,V,aL⟩ ?_;rintro k v M I μ D ⟨g,z,A⟩ t
 have u:=f.trans g;refine dit (λj=>?_) λj=>?_
 .let⟨e,b⟩:=cG bC k;let⟨w,q,i,g1,g2⟩:=c.aG b;refine⟨V,V,_,u.af i,_,u.af g1,_,u.af g2,?_⟩;refine(s e (aq b) M w (fH.le u.le q) v V).aH g p λK H G C y=>⟨_,rfl,λ_=>d (u.trans C),λo=>?_⟩;simp only[bE]at o;refine t V _ _ ⟨y,V,?_⟩
  rw[Kv b];omega
 .rw[bX V]at A;exact⟨v,rfl,Or.inr ⟨z,V⟩,u⟩
def Bm{t:O}{e:Ex}(h:fH m t e.bC):tg 286 [.agg #[vi e.op,vi e.bQ,O.v t]] m λk=>k= -1\/k=e.n/\e.n<=30:=by
 apply EU;simp -zeta only[aD,aC];intro a;have b:J m a:=J.push _ _;have g:∀d∈[m.size],d<a.size:=by simp[a]
 clear_value a;refine(IQ e a t (fH.le b.le h) 30 bn).aH (J.az a) g λn j i c l=>⟨_,rfl,λ_=>⟨-1,rfl,Or.inl rfl,b.trans c⟩,λf=>?_⟩;simp only[bE]at f;rw[aP (b:=30 -n) V V];exact⟨_,rfl,Or.inr ⟨V,V⟩,b.trans c⟩
def Ml{s:O}{l:List Int}(h:ap m s l)(e:Int):tg 279 [O.v s,vi e] m λk=>-1<=k/\k<l.length:=by
 apply EX;have c:=h.len;refine dT (n:=l.length) (c▸h.gV) (λ_ M=>J m M) (J.az _) ?_;rintro k M I μ g a f
 refine⟨λb=>?_,λ_=>⟨-1,rfl,⟨V,V⟩,a⟩⟩;simp only[ar]at b;let⟨x,d⟩:=cG l k;exact⟨V,V,x,(h.ext a).aG d,λ_=>⟨k,rfl,⟨V,V⟩,a⟩,λ_=>f V _ a⟩
def LX(f:O)(m:E):aN cq 215 [O.v f] m λv a=>v=.agg #[O.v f]/\J m a:=by
 apply LV;simp -zeta only[aD,aC];intro b c;exact⟨trivial,(J.push m _).ah (ad _) _ _⟩
def Ro(p:O)(r:Int)(m:E):aN cq 250 [O.v p,vi r] m λv a=>v=.agg #[O.v p,vi r,vi 0,vi 0,O.v .nil]/\J m a:=by
 apply Mm;simp -zeta only[aD,aC];intro b c;exact⟨trivial,(J.push m _).ah (ad _) _ _⟩
end
section
variable{a:List Nat}{m:E}{b d p:O}
def Hm(q:∀c∈a,c<m.size){l:List Int}(h:ap m b l)(w:l.length<=10^12)(u:Int):k8 333 [O.v b,vi u] m a λc=>(∀y∈c,0<=y/\y<(l.length:Int))/\c.length<=l.length:=by
 apply zB;intro B;have r:=h.len;refine ez (n:=l.length) (r▸h.gV) (λk s M=>J m M/\∃c,GI a m M s c/\(∀y∈c,0<=y/\y<(l.length:Int))/\c.length<=k) ⟨J.push m _,[],GI.nil a m,aL,ad _⟩ ?_;rintro k s M I μ z ⟨e,c,g,f,A⟩ j
 refine⟨λi=>?_,λi=>⟨s,c,rfl,g,⟨f,V⟩,e⟩⟩;simp only[ar]at i;let⟨x,t⟩:=cG l k;refine⟨V,V,x,(h.ext e).aG t,λ_=>?_,λ_=>j V _ _ ⟨e,c,g,f,V⟩⟩;intro C;exact GI.kL g (e.fz []) q V λD v p o _ _=>j V _ _ ⟨o.ext,_,p,λy d=>by
  rcases List.mem_append.1 d with d|d
  .exact f y d
  .simp at d;omega,bF⟩
def Tp(m:E)(b:List Ce)(p:dy):Prop:=∃a x y z,b=[.s a,.i p.aT,.i x,.i y,.s z]/\ap m a p.params
abbrev pE(m:E)(s:O)(l:List dy):Prop:=eT m 5 (Tp m) s l
def Tp.le{m b:E}(h:Le m b){a:List Ce}{p:dy}:Tp m a p->Tp b a p:=λ⟨c,x,y,z,d,e⟩=>⟨c,x,y,z,d,e.le h⟩
def pE.le{m b:E}(a:Le m b){s:O}{l:List dy}(h:pE m s l):pE b s l:=eT.le h a λ_ _=>Tp.le a
def pE.aG{s:O}{l:List dy}(h:pE m s l){k:Nat}{p:dy}(d:l[k]? =some p):∃a,ap m a p.params/\af m s.D (s.off+k*5)=some (O.v a)/\af m s.D (s.off+k*5+1)=some (vi p.aT):=by
 obtain⟨e,⟨a,x,y,z,rfl,c⟩,b⟩:=h.iD k p d;exact⟨a,c,b 0 _ rfl,b 1 _ rfl⟩
def ClQ(a:List bz)(b:List dy)(t y:Int):Prop:=∃(f:Nat)(q:dy),y=f/\b[f]? =some q/\0<q.params.length/\(0<t->∃d∈a,d.cons.length=0/\q.params.getLast?=some d.tf/\q.aT=d.to)
def yv(X:∀g∈a,g<m.size){h:List bz}{e:List dy}(hd:cx m d h)(ht:dS h)(o:pE m p e)(hf:e.length<=1000)(v:Int):k8 339 [.agg #[O.v d,O.v p],vi v] m a λb=>(∀y∈b,ClQ h e v y)/\b.length<=e.length:=by
 apply CJ;simp -zeta only[aD,aC];intro c q;have z:J m c:=J.push _ _;have G:∀g∈[m.size],g<c.size:=by simp[c]
 have R:GI a c q (.mk c.size 0 0 0) []:=GI.nil a c;have x2:J c q:=J.push _ _;clear_value q;clear_value c;have aa:=o.len;refine ez (n:=e.length) (aa▸o.gV) (λk t M=>J c M/\∃b,GI a c M t b/\(∀y∈b,ClQ h e v y)/\b.length<=k) ⟨x2,[],R,aL,ad _⟩ ?_;rintro k t M ac μ hk ⟨A,b,i,j,af⟩ r
 have u:=z.trans A;refine⟨λF=>?_,λF=>⟨t,b,rfl,i.cv (λ_ E=>E) z.size,⟨j,V⟩,u⟩⟩;simp only[ar]at F;let⟨s,I⟩:=cG e k;let⟨B,l,C,P⟩:=o.aG I;have ae:=l.len;have ag:=l.gV;refine⟨V,V,_,u.af C,λS=>?_,λ_=>r V _ _ ⟨A,b,i,j,V⟩⟩;simp only[ar]at S;rw[aP (b:=(B.len:Int) -1) V V];let⟨y,K⟩:=cG s.params (((B.len:Int) -1).toNat);refine⟨V,V,_,u.af C,V,V,y,(l.ext u).aG K,V,V,_,u.af P,?_⟩;refine(AF (hd.le u.le) ht y s.aT).aH A G λai m3 H L w=>⟨_,rfl,λZ=>?_,λ_=>r V _ _ ⟨w,b,i.ext L,j,V⟩⟩;intro m4;refine GI.kL (i.ext L) (w.fz []) (λg f=>z.lt (X g f)) V λaj M' Q D _ _=>⟨J.oP (w.aK _) D.ext G,r V _ _ ⟨D.ext,_,Q,λab f=>?_,bF⟩⟩;rcases List.mem_append.1 f with f|f
 .exact j ab f
 .simp at f Z;refine⟨k,s,f,I,V,λE=>?_⟩;rcases H with H|⟨ah,N,_,Y,T,U,W⟩
  .omega
  .refine⟨N,aq Y,T,?_,W.symm⟩;rw[List.getLast?_eq_getElem?,U,<-K];congr 1;omega
def pX{i:List bz}{j:List dy}{v:List Int}(hd:cx m d i)(k:dS i)(q:pE m p j)(o:j.length<=1000)(r:ap m b v)(t:Int):oV 334 [.agg #[O.v d,O.v p],O.v b,vi t] m:=by
 apply EC;simp -zeta only[aD,aC];intro a;have f:J m a:=J.push _ _;have e:∀n∈[m.size],n<a.size:=by simp[a]
 clear_value a;refine(ng (hd.le f.le) k t).any.aH (J.az a) e λl x g _=>⟨_,rfl,λ_=>rA (f.trans g),λ_=>?_⟩;have c:=f.trans g;refine(yv (a:=[]) aL (hd.le c.le) k (pE.le c.le q) o t).aH g e λA w y _ _ h s=>⟨_,rfl,λ_=>rA (c.trans h),λ_=>?_⟩;exact(dv (r.ext (c.trans h)) t).any.aH s e λl z u _=>⟨_,rfl,rA ((c.trans h).trans u)⟩
end
def LR{a P:Nat}{p:O}{m:E}(h:Rd a p P m)(Q:P+1<=10^16){q v x:O}{i:List bz}{r:List dy}{L:List Int}(hd:cx (bH [a] m) q i)(H:dS i)(G:pE (bH [a] m) v r)(B:r.length<=1000)(I:ap (bH [a] m) x L):
 aN cq 327 [vp a 0,.agg #[O.v q,O.v v],O.v x] m λw u=>∃k:Int,w=vi k/\(k=1\/0<=k/\k<=4/\k<=i.length)/\Rd a p (P+1) u/\Fz [a] m u:=by
 apply EA (a,0)
 simp -zeta only[aD,aC]
 intro b d
 have U:b.size=m.size+1:=by simp[b]
 have M:J m b:=J.push _ _
 have y:J b d:=J.push _ _
 have z:J m d:=M.trans y
 have S:=h.lt
 have t:∀c∈[m.size],c<d.size/\c∉[a]:=λc n=>by have:=y.size;simp at n⊢;omega
 have K:ap (bH [a] d) (.mk b.size 0 7 7) [1,1,3,0,2,4,3]:=ap.lit aA _ bF rfl rfl aL
 clear_value d
 have R:=hd.len
 refine(kE (h.ext z) V K aL).mono λw f⟨k,A,C,l,j⟩=>⟨j.dq t,k,A,?_⟩
 have e:Fz [a] m f:=(z.fz _).trans j
 have s:0<=k/\k<=4:=by simp at C;omega
 refine⟨λ_=>⟨1,rfl,Or.inl rfl,l,e⟩,λF=>?_⟩
 simp only[bE]at F
 have o:Le (bH [a] m) f:=(e.df λ_ h=>h).trans (bA _ _)
 have D:∀c∈[m.size],c<f.size:=λc n=>aO (t c n).1 j.size
 refine(pX (hd.le o) H (pE.le o G) B (I.le o) k).aH (J.az f) D λN T g _=>⟨_,rfl,λ_=>⟨1,rfl,Or.inl rfl,l.ext g,e.then g⟩,λ_=>⟨k,rfl,Or.inr ⟨s.1,s.2,V⟩,l.ext g,e.then g⟩⟩

section
variable{t:Int}{x:Ex}
def KK:List bz:=[⟨0,0,[[],[0,1]]⟩,⟨0,0,[]⟩,⟨0,0,[[],[3,0,3]]⟩]
def RX:List bz:=[⟨0,0,[[1,3]]⟩,⟨1,0,[]⟩,⟨0,0,[[1,1,0],[0],[3]]⟩,⟨0,1,[]⟩]
def rU:List (List bz):=KK::RX.map λd=>KK++[d]
def PE:List (List Int×Int):=[([],0),([1],0),([1,1],1),([1],1),([1,0],1),([2,1],1),([1,1],0),([3],0),([0],1),([0,1],1),([3,0],3),([3],1),([1,3,0],0),([0],0),([0,0],0),([1,0],0)]
structure GP(ds:List bz)(fs:List dy):Prop where
 ds:ds∈rU
 iZ:0<fs.length
 oJ:fs.length<=4
 dz:∀q∈fs,(q.params,q.aT)∈PE
def Lo(t:Int):Prop:=t=0\/t=1\/t=3
instance(t:Int):Decidable (Lo t):=inferInstanceAs (Decidable (_\/_))
def Ty(a:List bz)(t:Int):Prop:=0<=t/\t<=(a.length:Int)
instance(a:List bz)(t:Int):Decidable (Ty a t):=inferInstanceAs (Decidable (_/\_))
section
variable{a:List bz}{b:List dy}
def pG:∀a∈rU,3<=a.length/\a.length<=4:=bn
def QL:∀a∈rU,∀t∈[(0:Int),1,2,3,4],∀c∈(cy a t).take 2,((cy a t).head?=some c\/t∉cB a c)->(cB a c).length<=3/\(∀f∈cB a c,Lo f)/\(Lo t->(cB a c).length=0):=bn
def Rw:∀a∈rU,0<(cy a 1).length/\0<(cy a 3).length/\(cy a 0).length=0:=bn
def QJ:∀a∈rU,∀d∈a,d.cons.length=0->∀s∈PE,s.1.getLast?=some d.tf->s.2=d.to->∀f∈s.1.dropLast,Lo f:=bn
def Ny:∀a∈rU,cy a 1=[0,1]/\cy a 3=[2,3]/\cB a 0=[]/\cB a 1=[0,1]/\cB a 2=[]/\cB a 3=[3,0,3]:=bn
def zN:∀a∈rU,(∀t∈[(0:Int),1,2,3,4],∀c∈cy a t,(cB a c).length<=3/\∀f∈cB a c,Ty a f)/\(∀t∈[(0:Int),1,2,3,4],(cy a t).length<=3)/\(∀d∈a,Ty a d.tf):=bn
def QK:∀a∈rU,∀t∈[(1:Int),3,4],(t:Int)<=a.length->(∀d∈a[t.toNat -1]?,d.cons.length≠0)->0<(cy a t).length:=bn
def wU:∀s∈PE,s.1.length<=3/\(∀t∈s.1,0<=t/\t<=3)/\0<=s.2/\s.2<=3:=bn
def U8(a:0<=t)(b:t<=4):t∈[(0:Int),1,2,3,4]:=bF
def Ty.Ys(hd:a∈rU)(h:Ty a t):t∈[(0:Int),1,2,3,4]:=U8 h.1 (Ps (pG a hd) h.2)
def GP.ty(h:GP a b)(c:0<=t)(d:t<=3):Ty a t:=⟨c,oh (pG a h.ds)⟩
def Lo.ty(hd:a∈rU)(h:Lo t):Ty a t:=by have:=pG a hd;unfold Lo at h;constructor<;>omega
end
def Tt:∀a∈rU,∀d∈a,0<d.cons.length->d.cons.length<=3/\d.tf=0/\d.to=0/\∀f∈d.cons,f.length<=3/\∀t∈f,0<=t/\t<=(a.length:Int):=bn
def Tu:∀a∈rU,∀k∈List.range a.length,∀d∈a[k]?,d.cons.length=0->(∀e∈a.take k,¬(e.cons.length=0/\e.tf=d.tf/\e.to=d.to))/\Ty a d.tf/\Ty a d.to:=bn
def tj{a:List bz}(h:a∈rU):dS a:=
 ⟨(pG a h).2,λk d b=>⟨Tt a h d (aq b),Tu a h k (List.mem_range.2 (aw b)) d b⟩⟩
structure XF(ds:List bz)(nf a:Nat)(op bQ:Int)(n:Nat):Prop where
 o:0<=op/\op<=13
 Uo:op=12->0<=bQ/\bQ<(a:Int)
 Kr:op=13->n=2
 Y9:op=7->n=3
 all:op=8->n=1+(cy ds bQ).length/\0<(cy ds bQ).length
 call:op=9->0<=bQ/\bQ<(nf:Int)
def xb(b:List bz)(a bQ:Int):Nat->Nat
 |0=>0
 |i+1=>if a=13 then 1 else BY b a bQ i
inductive WX(ds:List bz)(nf:Nat):Nat->Ex->Prop
 |mk {a:Nat} {op bQ:Int} {bC:List Ex} (fe:XF ds nf a op bQ bC.length) (hk:∀(i:Nat)(e:Ex),bC[i]? =some e->WX ds nf (a+xb ds op bQ i) e):WX ds nf a (.mk op bQ bC)
section
variable{b:List bz}{c a:Nat}{d bQ:Int}{bC:List Ex}
def WX.aS{e:Ex}(h:WX b c a e):XF b c a e.op e.bQ e.bC.length/\∀(i:Nat)(x:Ex),e.bC[i]? =some x->WX b c (a+xb b e.op e.bQ i) x:=by
 cases h with
 |mk fe d=>exact⟨fe,d⟩
def Zc(a:d≠13)(c:d≠8)(i:Nat):xb b d bQ i=0:=by
 cases i with
 |zero=>rfl
 |succ i=>show(if d=13 then 1 else BY b d bQ i)=0;rw[ae a,KM c]
def WX.fe(k:0<=d/\d<=11)(g:d=7->bC.length=3)(f:d≠8)(i:d=9->0<=bQ/\bQ<(c:Int))(j:∀e∈bC,WX b c a e):WX b c a (.mk d bQ bC):=
 .mk ⟨⟨V,V⟩,λh=>V,λh=>V,g,λh=>absurd h f,i⟩ λl e h=>by rw[Zc V f];exact j e (aq h)
def WX.int(n:Int):WX b c a (.mk 0 n []):=.fe bn (λh=>V) bn (λh=>V) aL
def WX.Uo(h:0<=bQ/\bQ<(a:Int)):WX b c a (.mk 12 bQ []):=.mk ⟨bn,λ_=>h,λh=>V,λh=>V,λh=>V,λh=>V⟩ aL
def WX.lt{y:Ex}(e:WX b c a x)(f:WX b c (a+1) y):WX b c a (.mk 13 0 [x,y]):=
 .mk ⟨bn,λh=>V,λ_=>rfl,λh=>V,λh=>V,λh=>V⟩ λi g d=>by
  rcases i with _|_|i
  .simp at d;subst d;exact e
  .simp at d;subst d;exact f
  .simp at d
def WX.mt{l:List Ex}(k:WX b c a x)(n:l.length=(cy b bQ).length)(m:0<l.length)(j:∀(i:Nat)(e:Ex)(f:Int),l[i]? =some e->(cy b bQ)[i]? =some f->WX b c (a+(cB b f).length) e):WX b c a (.mk 8 bQ (x::l)):=
 .mk ⟨bn,λh=>V,λh=>V,λh=>V,λ_=>⟨bF,V⟩,λh=>V⟩ λi e d=>by
  rcases i with _|i
  .simp at d;subst d;exact k
  .simp at d;let⟨f,g⟩:=cG (cy b bQ) i (oh (aw d));have:=j i e f d g;show WX b c (a+BY b 8 bQ i) e;rw[KL rfl g];exact this
end
end
section
variable{X:List Nat}{b k c:Nat}{s:O}
structure GC(rb:Nat)(bs:O)(P:Nat)(d p:O)(ds:List bz)(fs:List dy)(m:E):Prop where
 rd:Rd rb bs P m
 hd:cx (bH [rb] m) d ds
 hp:pE (bH [rb] m) p fs
 gp:GP ds fs
def Lw(a:Nat)(L:List Nat)(m:E):Prop:=∀b∈L,b<m.size/\b≠a
def XP(S:List Nat)(b:Nat)(c:O)(m:E)(P:Nat)(Q:Ex->Prop)(v:Value)(a:E):Prop:=∃s e,v=.agg #[vi e.op,vi e.bQ,O.v s]/\fH (bH S a) s e.bC/\Q e/\Rd b c P a/\Fz [b] m a
abbrev IR(a:Nat)(m:E)(s:O)(l:List Int):Prop:=ap (bH [a] m) s l
section
variable{e P i:Nat}{h d p:O}{l:List bz}{n:List dy}{m M g:E}{S L:List Nat}{f:Nat}{j:List Value}{Q Q':Ex->Prop}
def fh(f:Fz [e] m M):Le (bH [e] m) (bH [e] M):=f.df λ_ h=>h
def GC.to(a:GC e h P d p l n m)(f:Fz [e] m M)(r:Rd e h i M):GC e h i d p l n M:=⟨r,a.hd.le (fh f),pE.le (fh f) a.hp,a.gp⟩
def GC.ext(a:GC e h P d p l n m)(x:J m M):GC e h P d p l n M:=a.to (x.fz _) (a.rd.ext x)
def GC.types(a:GC e h P d p l n m):dS l:=tj a.gp.ds
def Lw.fz(h:Lw e L m)(f:Fz X m M):Lw e L M:=λb a=>⟨aO (h b a).1 f.size,(h b a).2⟩
def Lw.lt(h:Lw e L m)(f:Fz X m M):∀b∈L,b<M.size:=λb a=>(h.fz f b a).1
def Lw.dq(h:Lw e L m)(f:Fz [e] m M):eF L m M:=f.dq λb a=>⟨(h b a).1,by have:=(h b a).2;simpa using this⟩
def Lw.cp(h:Lw e L m)(f:Fz [e] m M)(c:Fz [e] M g)(a:b∈L)(o:Nat):af g b o=af M b o:=aE (c.same b (h.fz f b a).1 (by have:=(h b a).2;simpa using this)) o
def XP.mono{P i:Nat}(k:∀a,Q a->Q' a)(j:P<=i){v:Value}:XP S e h m P Q v M->XP S e h m i Q' v M:=λ⟨s,a,b,c,d,f,g⟩=>⟨s,a,b,c,k a d,f.mono j,g⟩
def XP.then{K:Value->E->Prop}(c:aN cq f j M (XP S e h M P Q))(m:Lw e L M)(n:∀s a g,fH (bH S g) s a.bC->Q a->Rd e h P g->Fz [e] M g->K (.agg #[vi a.op,vi a.bQ,O.v s]) g):aN cq f j M λv g=>eF L M g/\K v g:=
 c.mono λv g⟨s,a,d,i,k,l,b⟩=>⟨m.dq b,d▸n s a g i k l b⟩
def Lw.tG(h:Lw e L m)(f:Fz [e] m M)(a:Fz [e] m g):eF L M g:=λb c=>by
 have:=h b c;rw[f.same b this.1 (by simpa using this.2),a.same b this.1 (by simpa using this.2)]
def XP.ret{p:Nat}(q:aN cq f j M (XP (b::S) e h M P Q))(t:Lw e L M)(o:Fz [e] m M)(r:Rd e h p m)(n:m.size<=b)(v:∀a,Q a->Q' a)(u:P<=i):
 aN cq f j M λA g=>eF L M g/\∃c d:Int,∃k:O,A=.agg #[vi c,vi d,O.v k]/\XP S e h m i Q' (.agg #[vi c,vi d,O.v k]) (ah g b 0 [.i c,.i d,.s k]):=
 XP.then q t λs a g z y w l=>⟨_,_,_,rfl,s,a,rfl,fH.le (cz aL λB x=>ai _ x) z,v a y,r.ah (w.mono u) (o.trans l) n 0 _,(o.trans l).ah (Or.inr n) _ _⟩
abbrev GE(S:List Nat)(a m:E)(s:O)(l:List Ex):Prop:=Gr S a m bG 3 BW s l
def XP.kL{B:Nat}{i:E}{s:O}{n:List Ex}{K:O->E->Prop}(D:aN cq f j M (XP (s.D::S) e h M P Q))(t:GE S i M s n)(z:Fz [e] i M)(w:Lw e L i)(u:Rd e h B i)(H:e∈S)(l:n.length<=1000)
 (F:∀c r g,Q c->GE S i g r (n++[c])->Rd e h P g->Fz [e] i g->Fz [e,s.D] M g->(r.D=s.D\/M.size<=r.D)->K r g):
 aN cq f j M λN k=>eF L M k/\∃o p:Int,∃q:O,N=.agg #[vi o,vi p,O.v q]/\
  jO (k.push (.cells (bt [.i o,.i p,.s q]) bG)) bG [.i 0,.i 0,.s .nil] 40 s (O.mk k.size 0 1 1) λr g=>eF L (k.push (.cells (bt [.i o,.i p,.s q]) bG)) g/\K r g:=
 XP.then D (w.fz z) λU c k J G x d=>⟨_,_,_,rfl,by
  have T:=t.bh;have I:=u.lt;have v:=z.trans d;refine Gr.kL (g:=[.i 0,.i 0,.s .nil]) (k:=c) BW.mono bn (t.eA BW.mono d (by simp;exact⟨H,I⟩)) v (by cases c;exact BW.of J) V λr g C m R A=>⟨w.tG (v.push _) m,F c r g G C (u.MU x m (A e x.lt V)) m ⟨bI d.size R.1,λb y l=>?_⟩ (oh d.size)⟩;simp only[aV,j7,BV,vK]at l;rw[A b (aO y d.size) l.2,d.same b y (by simpa using l.1)]⟩
def Yu{b:E}(h:Fz [e,k] b M)(d:s.D=k\/b.size<=s.D)(a:Fz [e,s.D] M g):Fz [e,k] b g:=
 h.sq a λy c=>by simp at c⊢;omega
end
def nh{S:List Nat}{d P:Nat}{b:O}{m:E}{bC:List Ex}(j:Rd d b P m)(h:fH (bH S m) s bC)(a bQ:Int):aN cq 313 [vi a,vi bQ,O.v s] m (XP S d b m P (.mk a bQ bC=·)):=
 (JI h a bQ).mono λv l⟨k,e,f,g,i,c⟩=>⟨k,e,f,g,i,j.ext c,c.fz _⟩
def Xy(b:List bz)(d:List dy)(c:Nat)(e:Ex):Prop:=(∀a,WX b d.length a e)/\e.n<=c
def WY(c k:Nat)(e:List bz)(f:List dy)(t:Int):Prop:=∀(S:List Nat)(a P:Nat)(b d p:O)(m:E),(∀g∈S,g<m.size)->a∈S->GC a b P d p e f m->P+k<=10^16->
 aN cq 335 [vp a 0,.agg #[O.v d,O.v p],vi t] m (XP S a b m (P+k) (Xy e f c))
def Sc{a:List bz}{b:List dy}{l:List Ex}{f i:Int}(m:f=6\/f=10)(h:∀e∈l,Xy a b 1 e)(k:l.length+1<=c):Xy a b c (.mk f i l):=
 ⟨λg=>.fe V (λh=>V) V (λh=>V) λe d=>(h e d).1 g,by
  rw[Ex.SF];have:∀l:List Ex,(∀e∈l,Xy a b 1 e)->en l<=l.length:=λl=>by
   induction l with
   |nil=>simp
   |cons x l j=>intro h;rw[OH,aZ];have:=(h x aL).2;have:=j λe d=>h e (by simp[d]);omega
  have:=this l h;omega⟩
def JH{d:List bz}{fs:List dy}{t:Int}(ht:Ty d t)(D:(Lo t/\c=1/\k=5)\/((∀a,Lo a->WY 1 5 d fs a)/\c=4/\k=20)):WY c k d fs t:=by
 intro r f B H ao ax al hS aa a hP;apply Dq (f,0);simp -zeta only[aD,aC];intro m ab;let⟨x2,hl⟩:=dD (a:=m) (c:=ab) rfl rfl;have s1:m.size=al.size+1:=by simp[m]
 clear_value ab;have hr:=a.rd.lt;have L2:Lw f [m.size,al.size] ab:=λb K=>⟨hl b K,by simp at K;omega⟩;have Y:=a.types;have h5:=Ty.Ys a.gp.ds ht;have ag:∀e∈m.size::r,e<ab.size:=bP hS x2.size (hl _ aL);have c2:=a.ext x2;refine(iy (e:=[f]) (by simp;exact c2.rd.lt) (c2.hd.le (bA _ _)) Y t).mono λA m3⟨cs,l,e,hc,q,G⟩=>⟨L2.dq (G.fz _),cs,e,?_⟩;subst q;have u:=c2.ext G;have N:=L2.fz (G.fz []);have u3:=x2.trans G;have aN:=hc.len;refine dit (λh0=>?_) λh0=>?_
 .let⟨X,ak⟩:=cG (cy d t) 0;have hh:(cy d t).head?=some X:=by rw[List.head?_eq_getElem?];exact ak
  have L:X∈(cy d t).take 2:=List.mem_take_iff_getElem.2 ⟨0,V,by have:=List.getElem?_eq_some_iff.1 ak;exact this.2⟩;have A0:∀{M:E},Fz [f] m3 M->af M cs.D (cs.off+Int.toNat 0*1)=some (vi X):=λR=>(eQ.1 ((hc.le (fh R)).aG ak)).2;refine⟨bn,V,X,A0 (Fz.az _ _),λa M=>a∈(cy d t).take 2/\Rd f H (B+1) M/\Fz [f] m3 M,⟨λI=>?_,λI=>⟨L,u.rd.mono V,Fz.az _ _⟩⟩,?_⟩
  .simp only[ar]at I;let⟨o,i⟩:=cG (cy d t) 1;have t1:o∈(cy d t).take 2:=List.mem_take_iff_getElem.2 ⟨1,V,by have:=List.getElem?_eq_some_iff.1 i;exact this.2⟩;refine(bY u.rd V 4).mono λA m4⟨F,e,_,_,j,g⟩=>⟨N.dq g,F,e,λh=>⟨bn,V,o,(eQ.1 ((hc.le (fh g)).aG i)).2,t1,j,g⟩,λh=>⟨L,j,g⟩⟩
  rintro c' v ⟨aA,w,i⟩;have O:=N.fz i;refine⟨λa M=>a∈(cy d t).take 2/\((cy d t).head?=some a\/t∉cB d a)/\Rd f H (B+1) M/\Fz [f] m3 M,?_,?_⟩
  .refine(dK (e:=[]) aL ((u.to i w).hd.le ((bA _ _).trans (Am _))) Y c').mono λA m6⟨R,l,e,hf,q,x⟩=>⟨O.dq (x.fz _),R,e,?_⟩;subst q;refine(dv (hf.le (bA _ _)) t).mono λA o⟨b,e,K,g⟩=>⟨(O.fz (x.fz [])).dq (g.fz _),b,e,λau=>?_,λah=>⟨aA,Or.inr λj=>by rw[K.2 j]at ah;exact absurd ah bn,(w.ext x).ext g,(i.then x).then g⟩⟩;have j:=(i.then x).then g;exact⟨bn,V,X,A0 j,L,Or.inl hh,(w.ext x).ext g,j⟩
  rintro Q p ⟨I,h2,r8,Z⟩;let⟨z3,aE,zz⟩:=QL d a.gp.ds t h5 Q I h2;have c8:=u.to Z r8;have L8:=N.fz Z;have F8:Fz [f] al p:=(u3.fz _).trans Z;have z8:=Z.size;have aG:=G.size;have z2:=x2.size;intro U;have x9:J p U:=J.push _ _;have g9:GE (m.size::r) p U (.mk p.size 0 0 0) []:=Gr.new _ (ad _) _ _ _;have s9:U.size=p.size+1:=by simp[U]
  clear_value U;refine(dK (e:=[f,p.size]) bF (c8.hd.le (x9.bH aL)) Y Q).mono λA av⟨R,l,e,hf,q,ac⟩=>⟨(L8.fz (x9.fz [])).dq (ac.fz _),R,e,?_⟩;subst q;have aB:=hf.len;refine ez (n:=(cB d Q).length) V (λj s M=>∃l,GE (m.size::r) p M s l/\l.length=j/\(∀e∈l,Xy d fs 1 e)/\Rd f H (B+1+5*j) M/\Fz [f] p M/\Fz [f,p.size] av M/\(s.D=p.size\/av.size<=s.D)) ⟨[],g9.ext BW.mono ac,rfl,aL,(r8.ext x9).ext ac,((x9.trans ac).fz _),Fz.az _ _,Or.inl rfl⟩ ?_;rintro j s M ay μ hj ⟨l,C,aF,T,W,o,ae,hs⟩ am
  have LM:=L8.fz o;refine dit (λh=>?_) λh=>?_
  .rcases D with⟨aj,_,_⟩|⟨ih,e1,e2⟩
   .have:=zz aj;omega
   let⟨y,z⟩:=cG (cB d Q) j;refine⟨V,V,y,(eQ.1 ((hf.le (ae.df λ_ h=>h)).aG z)).2,?_⟩;exact XP.kL (ih y (aE y (aq z)) (s.D::m.size::r) f (B+1+5*j) H ao ax M (bP (λe g=>by have:=ag e g;have:=o.size;have:=G.size;omega) (ad _) C.bh.2) (by simp[aa]) (c8.to o W) V) C o L8 r8 (by simp[aa]) V λe aM M' g g' r' f' ap aI=>
    am V _ _ ⟨_,g',bF,λe' ai=>by rcases List.mem_append.1 ai with h|h;exact T e' h;simp at h;subst h;exact g,r'.mono V,f',Yu ae hs ap,oh ae.size⟩
  .have az:∀e∈m.size::r,e<p.size:=λe g=>by have:=ag e g;omega
   exact XP.ret (nh W (C.done BW.mono az bn V) 6 Q) LM (F8.trans o) a.rd V (λe g=>g▸Sc (Or.inl rfl) T (by rcases D with⟨h,e,_⟩|⟨_,e,_⟩;have:=zz h;omega;omega)) (by rcases D with⟨h,_,e⟩|⟨_,_,e⟩;have:=zz h;omega;omega)
 .refine(yv (a:=[f]) (by simp;exact u.rd.lt) (u.hd.le (bA _ _)) Y (pE.le (bA _ _) u.hp) (oh a.gp.oJ) t).mono λA m4⟨R,l,e,gl,T,p⟩=>⟨N.dq (p.fz _),R,e,?_⟩;have ae:IR f m4 R l:=GI.done gl (by simp;exact u.rd.lt) (Ps T.2 a.gp.oJ);have aQ:=ae.len;have X:=u.ext p;have Q:=N.fz (p.fz []);have u4:=u3.trans p;have z4:=p.size;have z3:=G.size;refine⟨λb M=>(b=true->0<t/\0<R.len)/\M=m4,⟨λh=>⟨λU=>by simp only[ar]at h U;omega,rfl⟩,λh=>⟨aL,rfl⟩⟩,?_⟩;rintro b _ ⟨K,rfl⟩;refine⟨λau=>?_,λah=>?_⟩
  .let⟨L,aO⟩:=K au;refine(bY X.rd V R.len).mono λA v⟨F,e,k0,k2,w,i⟩=>⟨Q.dq i,F,e,k0,V,?_⟩;let⟨y,z⟩:=cG l F.toNat;obtain⟨fi,q,rfl,U,aT,aH⟩:=T.1 y (aq z);let⟨dd,aA,az,aE,aJ⟩:=aH L;have aj:=QJ d a.gp.ds dd aA az _ (a.gp.dz q (aq U)) aE aJ;have aU:q.params.length<=3:=(wU _ (a.gp.dz q (aq U))).1;have Z:=X.to i w;have O:=Q.fz i;let⟨ps,ak,e0,e1⟩:=Z.hp.aG U;have aR:=ak.len;have aB:=aw U;have aS:=Z.hp.len;refine⟨_,(eQ.1 ((ae.le (fh i)).aG z)).2,V,V,ps,(eQ.1 e0).2,?_⟩;intro m6;have x:J v m6:=J.push _ _;have g6:GE (m.size::r) v m6 (.mk v.size 0 0 0) []:=Gr.new _ (ad _) _ _ _;clear_value m6;have z5:=i.size;have ac:∀e∈m.size::r,e<v.size:=λe g=>by have:=ag e g;omega
   have aV:¬Lo t\/(Lo t/\0<t):=by by_cases h:Lo t;exact Or.inr ⟨h,L⟩;exact Or.inl h
   have hd:=Rw d a.gp.ds;rcases D with⟨aG,_,_⟩|⟨ih,e2,e3⟩
   .exfalso;rcases aG with h|h|h
    .omega
    .subst h;omega
    .subst h;omega
   refine ez (n:=q.params.length -1) V (λj s M=>∃l,GE (m.size::r) v M s l/\l.length=j/\(∀e∈l,Xy d fs 1 e)/\Rd f H (B+1+5*j) M/\Fz [f] v M) ⟨[],g6,rfl,aL,w.ext x,x.fz _⟩ ?_;rintro j s M ay μ hj ⟨l',C,aF,av,W,o⟩ am
   have ew:cO ((j:Int)+1)=j+1:=aP V V;refine⟨λh=>?_,λh=>?_⟩
   .simp only[ew,ar]at h;let⟨y,z⟩:=cG q.params j;have aK:y∈q.params.dropLast:=List.mem_iff_getElem?.2 ⟨j,by rw[List.getElem?_dropLast,an V];exact z⟩;refine⟨V,V,y,(eQ.1 ((ak.le (fh o)).aG z)).2,?_⟩;exact XP.kL (ih y (aj y aK) (s.D::m.size::r) f (B+1+5*j) H ao ax M (bP (λe g=>Ps (ac e g) o.size) (ad _) C.bh.2) (by simp[aa]) (Z.to o W) V) C o O w (by simp[aa]) V λe aM M' g g' r' f' ap aI=>
     am V _ _ ⟨_,g',bF,λe' ai=>by rcases List.mem_append.1 ai with h|h;exact av e' h;simp at h;subst h;exact g,r'.mono V,f'⟩
   .simp only[ew,bE]at h;exact XP.ret (nh W (C.done BW.mono ac bn V) 10 _) (O.fz o) (((u4.fz _).trans i).trans o) a.rd V (λe g=>g▸Sc (Or.inr rfl) av V) V
  .refine(By X.rd (by rcases D with⟨_,_,e⟩|⟨_,_,e⟩<;>omega)).mono λA v⟨F,e,w,i⟩=>⟨Q.dq i,F,e,?_⟩;exact XP.ret (P:=B+4) ((Ba (m.size::r) F v).mono λA x⟨o,e,I,h2,j,h⟩=>⟨o,e,I,h2,j,w.ext h,h.fz _⟩) (Q.fz i) ((u4.fz _).trans i) a.rd V (λe g=>g▸⟨λh=>.int _,by rw[Ex.SF];rcases D with⟨_,e,_⟩|⟨_,e,_⟩<;>simp[e]⟩) (by rcases D with⟨_,_,e⟩|⟨_,_,e⟩<;>omega)
end
section
variable{a:Nat}{t:Int}
def _root_.Go.Vc.QX{σ:Type}(o:a<=9223372036854775807)(e:1<=a){m:E}{h:σ}{g:(σ->Int->E->Prop)->(σ->Int->E->Nat)->σ->Int->E->Prop}(Q:Nat->σ->E->Prop)(l:Q 1 h m)
 (j:∀(k:Nat)(s:σ)(b:E)(I:σ->Int->E->Prop)(μ:σ->Int->E->Nat),1<=k->k<=a->Q k s b->
  (k<a->∀d c,Q (k+1) d c->I d (cO ((k:Int)+1)) c/\μ d (cO ((k:Int)+1)) c<μ s k b)->g I μ s k b):
 ∃(I:σ->Int->E->Prop)(μ:σ->Int->E->Nat),I h 1 m/\∀s i b,I s i b->g I μ s i b:=by
 refine⟨λs i c=>∃k:Nat,i=k/\1<=k/\k<=a/\Q k s c,λ_ i _=>(a -i).toNat,⟨1,rfl,ad _,e,l⟩,?_⟩
 rintro s i b ⟨k,rfl,e,n,p⟩
 refine j k s b _ _ e n p λf d c q=>?_
 rw[jW f o]
 exact⟨⟨k+1,rfl,V,f,q⟩,DI f⟩
def _root_.Go.Vc.Yt(l:a<=9223372036854775807)(d:1<=a){m:E}{f:(Int->E->Prop)->(Int->E->Nat)->Int->E->Prop}(Q:Nat->E->Prop)(g:Q 1 m)
 (h:∀(k:Nat)(b:E)(I:Int->E->Prop)(μ:Int->E->Nat),1<=k->k<=a->Q k b->
  (k<a->∀c,Q (k+1) c->I (cO ((k:Int)+1)) c/\μ (cO ((k:Int)+1)) c<μ k b)->f I μ k b):
 ∃(I:Int->E->Prop)(μ:Int->E->Nat),I 1 m/\∀i b,I i b->f I μ i b:=by
 refine⟨λi c=>∃k:Nat,i=k/\1<=k/\k<=a/\Q k c,λi _=>(a -i).toNat,⟨1,rfl,ad _,d,g⟩,?_⟩
 rintro i b ⟨k,rfl,d,j,n⟩
 refine h k b _ _ d j n λe c o=>?_
 rw[jW e l]
 exact⟨⟨k+1,rfl,V,e,o⟩,DI e⟩
def Kn{a:List bz}{b:List dy}(hd:a∈rU)(c:Ty a t):WY 4 20 a b t:=JH c (Or.inr ⟨λ_ h=>JH (h.ty hd) (Or.inl ⟨h,rfl,rfl⟩),rfl,rfl⟩)
def KE.x{f:Nat}{a:List Value}{S:List Nat}{d P:Nat}{b:O}{m:E}{Q:Ex->Prop}(h:KE f a m S Q)(k:Rd d b P m):aN cq f a m (XP S d b m P Q):=
 h.mono λv n⟨l,e,g,i,j,c⟩=>⟨l,e,g,i,j,k.ext c,c.fz _⟩
section
variable{f:List Nat}{c P:Nat}{h d p j:O}{g:List bz}{e:List dy}{b:E}{i:List Int}
def rO(hS:∀o∈f,o<b.size)(ag:c∈f)(o:GC c h P d p g e b)(hP:P+22<=10^16)(hv:IR c b j i)(ak:i.length<=1000)(ht:Ty g t):
 aN cq 316 [vp c 0,.agg #[O.v d,O.v p],O.v j,vi t] b (XP f c h b (P+22) λa=>WX g e.length i.length a/\a.n<=4):=by
 apply Kb (c,0)
 simp -zeta only[aD,aC]
 intro k y
 let⟨A,hl⟩:=dD (a:=k) (c:=y) rfl rfl
 have s1:k.size=b.size+1:=by simp[k]
 clear_value y
 have hr:=o.rd.lt
 have Y:Lw c [k.size,b.size] y:=λN hb=>⟨hl N hb,by simp at hb;omega⟩
 have ae:∀a∈k.size::f,a<y.size:=bP hS A.size (hl _ aL)
 have z2:=A.size
 refine(Hm (a:=[c]) (m:=y) bF ((hv.le (bA _ _)).ext A) V t).mono λ_ U⟨r,ac,a,gl,ai,B⟩=>⟨Y.dq (B.fz _),r,a,?_⟩
 have aa:IR c U r ac:=GI.done gl bF V
 have F:=(o.ext A).ext B
 have D:=Y.fz (B.fz [])
 have C:Fz [c] b U:=(A.trans B).fz _
 have al:=aa.len
 have z3:=B.size
 have iP:∀{Q:Nat}{M:E},GC c h Q d p g e M->Fz [c] b M->y.size<=M.size->Lw c [k.size,b.size] M->Q<=P+2->aN cq 335 [vp c 0,.agg #[O.v d,O.v p],vi t] M λW n=>eF [k.size,b.size] M n/\∃s u:Int,∃w:O,W=.agg #[vi s,vi u,O.v w]/\XP f c h b (P+22) (λa=>WX g e.length i.length a/\a.n<=4) (.agg #[vi s,vi u,O.v w]) (ah n k.size 0 [.i s,.i u,.s w]):=λR T h1 I hq=>
  XP.ret (Kn o.gp.ds ht (k.size::f) c _ h d p _ (λa l=>oh (ae a l)) (by simp[ag]) R V) I T o.rd V (λa l=>⟨l.1 _,l.2⟩) V
 have Uo:∀{Q:Nat}{M:E},GC c h Q d p g e M->Fz [c] b M->Fz [c] U M->Lw c [k.size,b.size] M->Q<=P+2->0<r.len->aN cq 40 [vp c 0,vi (r.len:Int)] M λaj n=>eF [k.size,b.size] M n/\∃K:Int,aj=vi K/\(0:Int)<=K/\K<(r.len:Int)/\∃ad:Int,af n r.D (r.off+Int.toNat K*1)=some (vi ad)/\
  aN cq 315 [vi ad] n λW Z=>eF [k.size,b.size] n Z/\∃s u:Int,∃w:O,W=.agg #[vi s,vi u,O.v w]/\XP f c h b (P+22) (λa=>WX g e.length i.length a/\a.n<=4) (.agg #[vi s,vi u,O.v w]) (ah Z k.size 0 [.i s,.i u,.s w]):=λR T f3 I hq h0=>
  (bY R.rd V r.len).mono λ_ n⟨ab,a,k0,k1,r',H⟩=>by
   let⟨X,hy⟩:=cG ac ab.toNat;exact⟨I.dq H,ab,a,k0,V,X,(eQ.1 ((aa.le (fh (f3.trans H))).aG hy)).2,XP.ret ((ms (k.size::f) X n).x r') (I.fz H) (T.trans H) o.rd V (λa l=>l▸⟨.Uo (ai.1 X (aq hy)),by rw[Ex.SF];simp⟩) V⟩
 refine⟨λx=>?_,λx=>iP F C z3 D V⟩
 simp only[ar]at x
 refine(bY F.rd V 6).mono λ_ m4⟨k1,a,_,_,r4,l⟩=>⟨D.dq l,k1,a,λx=>Uo (F.to l r4) (C.trans l) l (D.fz l) V V,λx=>?_⟩
 intro m5
 have z:J m4 m5:=J.push _ _
 have G:=(F.to l r4).ext z
 have L:=(D.fz l).fz (z.fz [])
 exact(pX (v:=[]) (G.hd.le (bA _ _)) o.types (pE.le (bA _ _) G.hp) (oh o.gp.oJ) (mI _ _ _ _ _ _) t).mono λ_ m6⟨N,a,q⟩=>⟨L.dq (q.fz _),N,a,λx=>Uo (G.ext q) ((C.trans l).then (z.trans q)) (l.then (z.trans q)) (L.fz (q.fz [])) V V,λx=>iP (G.ext q) ((C.trans l).then (z.trans q)) (by have:=l.size;have:=z.size;have:=q.size;omega) (L.fz (q.fz [])) V⟩
def JX(Y:∀m∈f,m<b.size)(hd:cx b d g)(ht:dS g)(C:pE b p e)(hf:e.length<=1000)(X:1<=e.length)(t:Int):k8 330 [.agg #[O.v d,O.v p],vi t] b f λh=>(∀y∈h,∃(o:Nat)(q:dy),y=o/\e[o]? =some q)/\h.length<=e.length:=by
 apply CI;simp -zeta only[aD,aC];intro a E;have L:J b a:=J.push _ _;have A:∀m∈[b.size],m<a.size:=by simp[a]
 have W:GI f a E (.mk a.size 0 0 0) []:=GI.nil f a;have x2:J a E:=J.push _ _;clear_value E;clear_value a;have ah:=C.len;refine QX (a:=e.length) V X (λu I M=>J a M/\∃h,GI f a M I h/\(∀y∈h,∃(o:Nat)(q:dy),y=o/\e[o]? =some q)/\h.length<=u) ⟨x2,[],W,aL,aL⟩ ?_;rintro u I M ac μ ae hk ⟨l,h,x,D,ag⟩ T
 have K:=L.trans l;refine⟨λQ=>?_,λQ=>⟨I,h,rfl,x.cv (λ_ i=>i) L.size,⟨D,V⟩,K⟩⟩;simp only[ar]at Q;let⟨q,R⟩:=cG e u;let⟨ad,z,w,U⟩:=C.aG R;have Z:=z.len;refine⟨V,V,_,K.af U,?_⟩;refine ez (n:=q.params.length) (Z▸z.gV) (λ_ _ N=>J M N) (J.az _) ?_;rintro aa ok r I2 μ2 hj c S;have k:=K.trans c;refine⟨V,V,_,k.af w,λi=>⟨λ_=>?_,λ_=>S (by simp only[ar]at i;omega) _ _ c⟩,λi=>⟨λ_=>?_,λ_=>T V _ _ ⟨l.trans c,h,x.ext c,D,V⟩⟩⟩
 .simp only[ar]at i;let⟨y,hy⟩:=cG q.params aa;have P:=(z.ext k).aG hy;refine⟨V,V,_,k.af w,V,V,y,P,?_⟩;intro F;have j:J r F:=J.push _ _;have G:∀{s H:Nat}{ab:Value},af r s H=some ab->af F s H=af r s H:=λi=>by rw[j.af i,i]
  have B:b.size<r.size:=aO (A _ aL) (l.trans c).size;refine⟨G P,G (k.af w),aE (j.same _ B) _,aE (j.same _ B) _,aE (j.same _ B) _,?_⟩;exact(pX (v:=[]) (hd.le (k.trans j).le) ht (pE.le (k.trans j).le C) hf (mI _ _ _ _ _ _) y).aH ((l.trans c).trans j) A λs m5 x5 _=>⟨_,rfl,S V _ _ ((c.trans j).trans x5)⟩
 .intro F;refine GI.kL (x.ext c) ((l.trans c).fz []) (λm j=>L.lt (Y m j)) V λP N B s _ _=>⟨J.oP ((l.trans c).aK _) s.ext A,T V _ _ ⟨s.ext,_,B,λH j=>?_,bF⟩⟩;rcases List.mem_append.1 j with j|j
  .exact D H j
  .simp at j;exact⟨u,q,j,R⟩
end
end
section
variable{f c:Int}{g:O}{e:List Int}
def Cg(c:Int):Nat:=30*4^c.toNat
def uz(h:f<=c):Cg f<=Cg c:=Nat.mul_le_mul_left _ (Nat.pow_le_pow_right bn V)
def QG(c:Int):30<=Cg c:=Nat.le_mul_of_pos_right _ (Nat.pow_pos bn)
def Rq(a:0<=f)(h:f+1<=c):4*Cg f<=Cg c:=by
 refine bI (uf ?_) (uz h);unfold Cg;rw[show(f+1).toNat=f.toNat+1 by omega,Nat.pow_succ];omega
def KD(b:List bz)(g:List dy)(c:Int):Prop:=∀(S:List Nat)(a P:Nat)(d e p h:O)(m:E)(v:List Int)(t:Int),(∀f∈S,f<m.size)->a∈S->GC a d P e p b g m->P+Cg c<=10^16->IR a m h v->v.length+3*c.toNat<=1000->Ty b t->
 aN cq 312 [vp a 0,.agg #[O.v e,O.v p],O.v h,vi t,vi c] m (XP S a d m (P+Cg c) λf=>WX b g.length v.length f/\(c<=2->f.n<=4))
def XL(S:List Nat)(b:Nat)(c:O)(m:E)(P:Nat)(Q:List Ex->Prop)(v:Value)(a:E):Prop:=∃s l,v=O.v s/\fH (bH S a) s l/\Q l/\Rd b c P a/\Fz [b] m a
def K6{S:List Nat}{M:E}(i:∀c∈S,c<M.size)(p:Nat):∀(l:List (Ex×O))(_:l.length<=1000)(_:∀x∈l,fH (bH S M) x.2 x.1.bC){a:List Ce}{n:Nat},a=l.flatMap (λx=>[.i x.1.op,.i x.1.bQ,.s x.2])->n=l.length->
 GE S M (M.push (.cells (bt a) bG)) (.mk M.size 0 n n) (l.map (·.1)):=by
 intro l q h a n j k
 refine Gr.lit (f:=l.map λx=>[.i x.1.op,.i x.1.bQ,.s x.2]) BW.mono (ad _) i (by rw[j,List.flatMap_def]) (by simp[k]) ⟨aL,λc d=>?_,λr c o f e=>?_⟩
 .simp at d;obtain⟨_,_,_,rfl⟩:=d;rfl
 .simp only[cJ,jI]at f e
  obtain⟨x,g,rfl⟩:=f
  obtain⟨y,b,rfl⟩:=e
  rw[g]at b;simp at b;subst b
  have:=h x (aq g)
  cases m:x.1 with
  |mk t n s=>rw[m]at this;exact BW.of this
section
variable{j L:List Nat}{h P:Nat}{k d p o:O}{i:List bz}{l:List dy}{m:E}{v:List Int}
def Nh(z:0<=c)(ih:∀a,0<=a->a<=c->KD i l a)(G:∀s∈j,s<m.size)(I:h∈j)(s:GC h k P d p i l m)(hP:P+3*Cg c<=10^16)(hv:IR h m o v)(ah:v.length+3*c.toNat<=1000)(ae:c<=1000)(K:IR h m g e)(h3:e.length<=3)(aa:∀u∈e,Ty i u):
 aN cq 328 [vp h 0,.agg #[O.v d,O.v p],O.v o,O.v g,vi c] m (XL j h k m (P+3*Cg c) λb=>b.length=e.length/\∀f∈b,WX i l.length v.length f):=by
 apply GM (h,0)
 simp -zeta only[aD,aC]
 intro a B
 have C:J m a:=J.push _ _
 have hr:=s.rd.lt
 have R:Lw h [m.size] a:=by intro c z;simp[a]at z⊢;omega
 have X:GE j a B (.mk a.size 0 0 0) []:=Gr.new _ (ad _) _ _ _
 have Q:J a B:=J.push _ _
 clear_value B
 clear_value a
 have D:=s.ext C
 have ag:=K.len
 refine ez (n:=e.length) V (λr w M=>∃b,GE j a M w b/\b.length=r/\(∀f∈b,WX i l.length v.length f)/\Rd h k (P+r*Cg c) M/\Fz [h] a M) ⟨[],X,rfl,aL,by simpa using D.rd.ext Q,Q.fz _⟩ ?_
 rintro r w M ac μ hk ⟨b,y,af,H,N,F⟩ ab
 have t:=(C.fz [h]).trans F
 refine dit (λq=>?_) λq=>?_
 .let⟨u,L⟩:=cG e r
  let⟨S,E⟩:=Oe (d:=(g.len:Int)) z V
  rw[aP (b:=Int.tdiv c _) V V]
  have hm:=uz E
  have Z:r*Cg c+Cg c<=3*Cg c:=by rw[<-qj];exact dg _ V
  refine⟨V,V,u,(eQ.1 ((K.le (fh t)).aG L)).2,V,?_⟩
  exact XP.kL (ih _ S E (w.D::j) h _ k d p o M v u (bP G t.size y.bh.2) (by simp[I]) (s.to t N) V (hv.le (fh t)) V (aa u (aq L))) y F R D.rd I V λf ai M' A W r' U _ _=>
   ab V _ _ ⟨_,W,bF,λT Y=>by rcases List.mem_append.1 Y with q|q;exact H T q;simp at q;subst q;exact A.1,r'.mono (by rw[qj];omega),U⟩
 .have Z:r*Cg c<=3*Cg c:=dg _ V
  exact⟨w,b,rfl,y.done BW.mono (λf A=>C.lt (G f A)) bn V,⟨V,H⟩,N.mono V,t⟩
def zO{n F B:Nat}{q:E}{Q:Ex->Prop}{u bQ:Int}(T:0<=c)(ih:∀a,0<=a->a<=c->KD i l a)(R:∀r∈n::j,r<m.size)(Y:h∈j)(r:GC h k P d p i l m)(K:P+3*Cg c<=10^16)(hv:IR h m o v)(ab:v.length+3*c.toNat<=1000)(U:c<=1000)(Z:IR h m g e)(I:e.length<=3)(aa:∀t∈e,Ty i t)
 (D:Lw h L m)(W:Fz [h] q m)(G:Rd h k F q)(X:q.size<=n)(N:∀a,a.length=e.length->(∀f∈a,WX i l.length v.length f)->Q (.mk u bQ a))(M:P+3*Cg c<=B):
 aN cq 328 [vp h 0,.agg #[O.v d,O.v p],O.v o,O.v g,vi c] m λw b=>eF L m b/\∃s:O,w=O.v s/\
  aN cq 313 [vi u,vi bQ,O.v s] b λw A=>eF L b A/\∃x y:Int,∃z:O,w=.agg #[vi x,vi y,O.v z]/\XP j h k q B Q (.agg #[vi x,vi y,O.v z]) (ah A n 0 [.i x,.i y,.s z]):=
 (Nh (j:=n::j) T ih R (by simp[Y]) r K hv ab U Z I aa).mono λ_ b⟨s,a,f,H,C,J,t⟩=>⟨D.dq t,s,f,XP.ret (nh J H u bQ) (D.fz t) (W.trans t) G X (λf V=>V▸N a C.1 C.2) M⟩
def J1(I:3<=c/\c<=100)(ih:∀e,0<=e->e<=c -1->KD i l e)(hS:∀r∈j,r<m.size)(ag:h∈j)(r:GC h k P d p i l m)(hP:P+23+3*Cg (c -1)<=10^16)(hv:IR h m o v)(aU:v.length+3*c.toNat<=1000){al:Int}(ht:Ty i al):
 aN cq 329 [vp h 0,.agg #[O.v d,O.v p],O.v o,vi al,vi c] m (XP j h k m (P+23+3*Cg (c -1)) (WX i l.length v.length)):=by
 apply CV (h,0)
 simp -zeta only[aD,aC]
 intro q E m3
 let⟨T,hl⟩:=dD (a:=q) (c:=E) rfl rfl
 have s1:q.size=m.size+1:=by simp[q]
 have U:J E m3:=J.push _ _
 have hr:=r.rd.lt
 have z2:=T.size
 have aE:ap (bH [h] m3) (.mk E.size 0 4 4) [1,1,3,4]:=ap.lit aA _ bF rfl rfl aL
 clear_value m3
 clear_value E
 have L2:Lw h [q.size,m.size] E:=λc I=>⟨hl c I,by simp at I;omega⟩
 have ay:∀e∈q.size::j,e<E.size:=bP hS T.size (hl _ aL)
 have c3:=(r.ext T).ext U
 have L3:=L2.fz (U.fz [])
 have W:=r.types
 refine(kE c3.rd V aE aL).mono λ_ m4⟨R,e,hk,r4,G⟩=>⟨L3.dq G,R,e,?_⟩
 have X:=c3.to G r4
 have L4:=L3.fz G
 have aM:=X.hd.len
 have dl:=pG i r.gp.ds
 have af:R∈[(1:Int),3,4]:=by simp at hk⊢;omega
 have lM:0<(cy i 1).length:=(Rw i r.gp.ds).1
 refine⟨λg M=>g∈[(1:Int),3,4]/\g<=i.length/\0<(cy i g).length/\J m4 M,⟨λ_=>⟨bn,V,lM,J.az _⟩,λab=>?_⟩,?_⟩
 .simp only[bE]at ab
  refine(ng (X.hd.le (bA _ _)) W R).mono λ_ m5⟨c,e,I,u⟩=>⟨L4.dq (u.fz _),c,e,λ_=>⟨bn,V,lM,u⟩,λf=>⟨af,V,QK i r.gp.ds R af V λai N s=>?_,u⟩⟩
  rw[I.2 ⟨ai,by simp at af;omega,N,s⟩]at f;exact absurd f bn
 rintro g m5 ⟨an,az,aH,u⟩
 have Y:=X.ext u
 have L5:=L4.fz (u.fz [])
 have F5:Fz [h] m m5:=(((T.trans U).fz _).trans G).then u
 have k5:g∈[(0:Int),1,2,3,4]:=by simp at an⊢;omega
 have hf:=zN i r.gp.ds
 have aI:=hf.2.1 g k5
 refine(iy (e:=[h]) (by simp;exact Y.rd.lt) (Y.hd.le (bA _ _)) W g).mono λ_ m6⟨Z,t,e,hc,ai,L⟩=>⟨L5.dq (L.fz _),Z,e,?_⟩
 subst ai
 have c6:=Y.ext L
 have L6:=L5.fz (L.fz [])
 have F6:=F5.then L
 have aK:=hc.len
 have z3:=U.size;have z4:=G.size;have z5:=u.size;have z6:=L.size
 have am:∀e∈q.size::j,e<m6.size:=λe s=>by have:=ay e s;omega
 refine XP.then (rO (f:=q.size::j) am (by simp[ag]) c6 V (hv.le (fh F6)) V ⟨by simp at an;omega,az⟩) L6 λs0 e0 F h7 q7 r7 H=>⟨_,_,_,rfl,?_⟩
 intro m8
 have x8:J F m8:=J.push _ _
 have z7:=H.size
 have ac:∀e∈q.size::j,e<F.size:=λe s=>by have:=am e s;omega
 have g8:GE (q.size::j) F m8 (.mk F.size 0 1 1) [e0]:=K6 ac 0 [(e0,s0)] aL (by simpa using h7) rfl rfl
 clear_value m8
 have L7:=L6.fz H
 have F7:=F6.trans H
 refine ez (n:=(cy i g).length) V (λA aj M=>∃t,GE (q.size::j) F M aj (e0::t)/\t.length=A/\(∀(z:Nat)(e:Ex)(C:Int),t[z]? =some e->(cy i g)[z]? =some C->WX i l.length (v.length+(cB i C).length) e)/\Rd h k (P+23+A*Cg (c -1)) M/\Fz [h] F M) ⟨[],g8,rfl,aL,by simpa using(r7.ext x8).mono V,x8.fz _⟩ ?_
 rintro A aj M aG μ hj ⟨t,aa,aT,N,K,D⟩ aF
 have w:=L7.fz D
 have aR:A*Cg (c -1)<=3*Cg (c -1):=dg _ V
 refine dit (λab=>?_) λab=>?_
 .let⟨C,hy⟩:=cG (cy i g) A
  let⟨aO,aQ⟩:=hf.1 g k5 C (aq hy)
  have aV:=aa.bh
  have cM:=(c6.to H r7).to D K
  refine⟨V,V,C,(eQ.1 ((hc.le (fh (H.trans D))).aG hy)).2,V,?_⟩
  refine(dK (e:=[h]) (by simp;exact K.lt) cM.hd W C).mono λ_ m9⟨f9,l9,e,h9,q9,f⟩=>⟨w.dq (f.fz _),f9,e,w.cp (Fz.az _ _) (f.fz _) aL _,w.cp (Fz.az _ _) (f.fz _) aL _,?_⟩
  subst q9
  refine(eO (S:=[h]) (by simp;exact(K.ext f).lt) (hv.le (fh ((F7.trans D).then f))) h9 V).mono λ_ ao⟨ak,ah,e,au,ar,B⟩=>⟨(w.fz (f.fz [])).dq (B.fz _),ak,e,w.cp (f.fz _) (B.fz _) aL _,w.cp (f.fz _) (B.fz _) aL _,?_⟩
  have av:IR h ao ak ah:=GI.done au (by simp;exact(K.ext f).lt) (by rw[<-ar];simp;omega)
  let⟨d0,d1⟩:=Oe (f:=c -2) (d:=(Z.len:Int)) V V
  rw[aP (b:=c -2) V V,aP (b:=Int.tdiv _ _) V V]
  have hm:=uz (f:=Int.tdiv (c -2) Z.len) (c:=c -1) V
  have aS:A*Cg (c -1)+Cg (c -1)<=3*Cg (c -1):=by rw[<-qj];exact dg _ V
  have fT:=(D.then f).then B
  have aB:ah.length=v.length+(cB i C).length:=by rw[<-ar];simp
  refine XP.kL (ih _ d0 V (aj.D::q.size::j) h _ k d p ak ao ah al (bP (λe s=>Ps (ac e s) fT.size) (ad _) (Ps f.size B.size)) (by simp[ag]) ((cM.ext f).ext B) V av V ht) ((aa.ext BW.mono f).ext BW.mono B) fT L7 r7 (by simp[ag]) bF λe aX M' s g' r' f' _ _=>
   aF V _ _ ⟨t++[e],g',bF,λz e' y' y Q=>?_,r'.mono (by rw[qj];omega),f'⟩
  rcases aW z t.length with ae|ae
  .rw[ax ae]at y;exact N z e' y' y Q
  .rw[aJ ae]at y
   have:z -t.length=0:=by have:=aw y;simp at this;omega
   rw[this]at y;simp at y;subst y
   have:z=A:=V
   subst this
   rw[hy]at Q;simp at Q;subst Q
   rw[<-aB];exact s.1
 .exact XP.ret (nh K (aa.done BW.mono ac bn bF) 8 g) w (F7.trans D) r.rd V (λe s=>s▸.mt q7.1 V V N) V
end
end
section
section
variable{e L:List Nat}{c P:Nat}{g d p i:O}{f:List bz}{h:List dy}{m:E}{v:List Int}
def J2{o:Int}(hb:3<=o/\o<=100)(ih:∀j,0<=j->j<=o -1->KD f h j)(hS:∀q∈e,q<m.size)(R:c∈e)(q:GC c g P d p f h m)(hP:P+24+3*Cg (o -1)<=10^16)(T:IR c m i v)(aF:v.length+3*o.toNat<=1000){ab:Int}(ht:Ty f ab):
 aN cq 331 [vp c 0,.agg #[O.v d,O.v p],O.v i,vi ab,vi o] m (XP e c g m (P+24+3*Cg (o -1)) (WX f h.length v.length)):=by
 apply CW (c,0)
 simp -zeta only[aD,aC]
 intro x aa
 let⟨W,N⟩:=dD (a:=x) (c:=aa) rfl rfl
 have s1:x.size=m.size+1:=by simp[x]
 clear_value aa
 have hr:=q.rd.lt
 have z2:=W.size
 have L2:Lw c [x.size,m.size] aa:=λo hb=>⟨N o hb,by simp at hb;omega⟩
 have ao:∀j∈x.size::e,j<aa.size:=bP hS W.size (N _ aL)
 have c2:=q.ext W
 have ac:=q.types
 have aE:=q.hd.len
 have dl:=pG f q.gp.ds
 have av:cO (o -2)=o -2:=aP V V
 have ak:cO (o -1)=o -1:=aP V V
 have oJ:=q.gp.oJ
 have ax:v.length+3*(o -2).toNat<=1000:=V
 have hm:=uz (f:=o -2) (c:=o -1) V
 have az:P+24+Cg (o -2)<=10^16:=V
 refine⟨λM=>Rd c g (P+1) M/\Fz [c] aa M,?_,?_⟩
 .refine(bY c2.rd V 4).mono λ_ m3⟨y,j,_,_,r3,X⟩=>⟨L2.dq X,y,j,λ_=>?_,λ_=>⟨r3,X⟩⟩
  refine Yt (a:=f.length+1) V V (λ_ M=>Rd c g (P+1) M/\Fz [c] aa M) ⟨r3,X⟩ ?_
  rintro Y M au μ aw ha ⟨Q,H⟩ ae
  have L:=c2.to H Q
  have LM:=L2.fz H
  refine⟨λs=>?_,λs=>⟨Q,H⟩⟩
  simp only[ar]at s
  have ea:cO ((Y:Int) -1)=Y -1:=aP V V
  rw[ea]
  refine(ng (L.hd.le (bA _ _)) ac Y).mono λ_ I⟨b4,j,an,K⟩=>⟨LM.dq (K.fz _),b4,j,λh1=>?_,λ_=>ae V _ ⟨Q.ext K,H.then K⟩⟩
  obtain⟨aj,_,hq,ay⟩:=an.1 h1
  have U:f[((Y:Int) -1).toNat]? =some aj:=by rw[<-hq];congr 1;omega
  obtain⟨_,_,g0,g1,_⟩:=L.hd.aG U
  have D:=L.ext K
  have u:=LM.fz (K.fz [])
  have l:=H.then K
  refine⟨V,V,_,K.af (eQ.1 g1).2,λ_=>?_,λ_=>ae V _ ⟨Q.ext K,l⟩⟩
  refine(pX (D.hd.le (bA _ _)) ac (pE.le (bA _ _) D.hp) V ((T.le (fh ((W.fz _).trans l))).le (bA _ _)) Y).mono λ_ t⟨b5,j,k⟩=>⟨u.dq (k.fz _),b5,j,λ_=>?_,λ_=>ae V _ ⟨(Q.ext K).ext k,l.then k⟩⟩
  have F:=D.ext k
  have w:=u.fz (k.fz [])
  have f5:=l.then k
  have z5:=f5.size
  have ag:∀j∈x.size::e,j<t.size:=λj G=>by have:=ao j G;omega
  obtain⟨_,_,af,_,_⟩:=F.hd.aG U
  refine⟨V,V,_,(eQ.1 af).2,?_⟩
  refine XP.then (rO (f:=x.size::e) ag (by simp[R]) F V (T.le (fh ((W.fz _).trans f5))) V ⟨V,V⟩) w λs6 e6 B h6 q6 r6 z=>⟨_,_,_,rfl,?_⟩
  have c6:=F.to z r6
  have A:=w.fz z
  obtain⟨_,_,am,_,_⟩:=c6.hd.aG U
  refine⟨by rw[(eQ.1 am).2,(eQ.1 af).2],w.cp (Fz.az _ _) z aL _,w.cp (Fz.az _ _) z aL _,w.cp (Fz.az _ _) z aL _,?_⟩
  rw[av]
  have F6:=(W.fz [c]).trans (f5.trans z)
  have ai:∀j∈x.size::e,j<B.size:=λj G=>by have:=ag j G;have:=z.size;omega
  refine XP.then (ih (o -2) V V (x.size::e) c (P+1+22) g d p i B v _ ai (by simp[R]) c6 V (T.le (fh F6)) ax ((zN f q.gp.ds).2.2 aj (aq U))) A λs7 e7 C h7 q7 r7 r=>⟨_,_,_,rfl,?_⟩
  intro Z
  have x8:J C Z:=J.push _ _
  have al:∀j∈x.size::e,j<C.size:=λj G=>by have:=ai j G;have:=r.size;omega
  have g8:GE (x.size::e) C Z (.mk C.size 0 2 2) [e6,e7]:=K6 al 0 [(e6,s6),(e7,s7)] aL (by simp;exact⟨fH.le (r.df (by simp[R])) h6,h7⟩) rfl rfl
  clear_value Z
  exact XP.ret (nh (r7.ext x8) (g8.done BW.mono al bn aL) 11 0) ((A.fz r).fz (x8.fz [])) ((F6.trans r).then x8) q.rd V (λj G=>G▸.fe bn (λs=>V) bn (λs=>V) (by simp;exact⟨q6.1,q7.1⟩)) V
 rintro M ⟨Q,H⟩
 have L:=c2.to H Q
 have LM:=L2.fz H
 have zM:=H.size
 have FM:=(W.fz [c]).trans H
 refine(iy (e:=[c]) (by simp;exact Q.lt) (L.hd.le (bA _ _)) ac ab).mono λ_ m3⟨cs,al,j,hc,aj,x3⟩=>⟨LM.dq (x3.fz _),cs,j,?_⟩
 subst aj
 have Z:=L.ext x3
 have X:=LM.fz (x3.fz [])
 have K:=FM.then x3
 have z3:=x3.size
 have aB:=hc.len
 have af:∀{M:E},m3.size<=M.size->∀j∈x.size::e,j<M.size:=λs j G=>by have:=ao j G;omega
 refine⟨λs=>?_,λs=>⟨λs=>XP.ret (rO (f:=x.size::e) (af (ad _)) (by simp[R]) Z V (T.le (fh K)) V ht) X K q.rd V (λj G=>G.1) V,λs=>?_⟩⟩
 .simp only[ar]at s
  refine(bY Z.rd V cs.len).mono λ_ I⟨y,j,k0,k1,U,l⟩=>⟨X.dq l,y,j,k0,V,?_⟩
  let⟨ae,hy⟩:=cG (cy f ab) y.toNat
  have ag:=(zN f q.gp.ds).1 ab (Ty.Ys q.gp.ds ht) ae (aq hy)
  have D:=Z.to l U
  have u:=X.fz l
  refine⟨ae,(eQ.1 ((hc.le (fh l)).aG hy)).2,?_⟩
  refine(dK (e:=[c]) (by simp;exact U.lt) D.hd ac ae).mono λ_ t⟨f5,l5,j,h5,q5,k⟩=>⟨u.dq (k.fz _),f5,j,u.cp (Fz.az _ _) (k.fz _) aL _,u.cp (Fz.az _ _) (k.fz _) aL _,?_⟩
  subst q5
  rw[ak]
  exact zO V ih (af (Ps l.size k.size)) R (D.ext k) V (T.le (fh ((K.trans l).then k))) V V h5 ag.1 ag.2 (u.fz (k.fz [])) ((K.trans l).then k) q.rd V (λal _ N=>.fe bn (λs=>V) bn (λs=>V) N) V
 .refine(bY Z.rd V 3).mono λ_ I⟨y,j,k0,k1,U,l⟩=>⟨X.dq l,y,j,λ_=>?_,λ_=>?_⟩
  .have D:=Z.to l U
   have u:=X.fz l
   have z4:=l.size;have aw:=U.lt
   intro t
   have k:J I t:=J.push _ _
   have ae:ap (bH [c] t) (.mk I.size 0 1 1) [0]:=ap.lit aA _ bF rfl rfl aL
   clear_value t
   have z5:=k.size
   rw[ak]
   exact zO V ih (af V) R (D.ext k) V (T.le (fh ((K.trans l).then k))) V V ae aL (by simp[q.gp.ty]) (u.fz (k.fz [])) ((K.trans l).then k) q.rd V (λal _ N=>.fe bn (λs=>V) bn (λs=>V) N) V
  .have D:=Z.to l U
   have u:=X.fz l
   have F4:=K.trans l
   have z4:=l.size;have aw:=U.lt
   have iH:∀{ay M:E}{Y t0:Nat},GC c g (P+3) d p f h M->Fz [c] I M->ap (bH [c] M) (.mk t0 0 2 2) [0,0]->∀op:Int,op∈[(1:Int),2,3,4]->aN cq 328 [vp c 0,.agg #[O.v d,O.v p],O.v i,O.v (.mk t0 0 2 2),vi (o -1)] M λan M1=>eF [x.size,m.size] M M1/\∃au:O,an=O.v au/\
    aN cq 313 [vi op,vi 0,O.v au] M1 λan M2=>eF [x.size,m.size] M1 M2/\∃r0 r1:Int,∃r2:O,an=.agg #[vi r0,vi r1,O.v r2]/\XP e c g m (P+24+3*Cg (o -1)) (WX f h.length v.length) (.agg #[vi r0,vi r1,O.v r2]) (ah M2 x.size 0 [.i r0,.i r1,.s r2]):=λL ae s op ag=>
    zO V ih (af (oh ae.size)) R L V (T.le (fh (F4.trans ae))) V V s aL (by simp[q.gp.ty]) (u.fz ae) (F4.trans ae) q.rd V (λal _ N=>.fe (by simp at ag;omega) (λs=>by simp at ag;omega) (by simp at ag;omega) (λs=>by simp at ag;omega) N) V
   rw[ak]
   refine⟨?_,?_⟩
   .intro t
    have k:J I t:=J.push _ _
    have ai:ap (bH [c] t) (.mk I.size 0 4 4) [1,2,3,4]:=ap.lit aA _ bF rfl rfl aL
    clear_value t
    have F:=D.ext k
    have w:=u.fz (k.fz [])
    have z5:=k.size
    refine⟨u.cp (Fz.az _ _) (k.fz _) aL _,u.cp (Fz.az _ _) (k.fz _) aL _,?_,?_⟩
    .refine(kE F.rd V ai aL).mono λ_ B⟨y,j,hk,r6,z⟩=>⟨w.dq z,y,j,w.cp (Fz.az _ _) z aL _,w.cp (Fz.az _ _) z aL _,?_⟩
     intro C
     have x7:J B C:=J.push _ _
     have am:ap (bH [c] C) (.mk B.size 0 2 2) [0,0]:=ap.lit aA _ (by simp;exact r6.lt) rfl rfl aL
     clear_value C
     have A:=w.fz z
     exact⟨A.cp (Fz.az _ _) (x7.fz _) aL _,A.cp (Fz.az _ _) (x7.fz _) aL _,iH (ay:=C) (Y:=0) ((F.to z r6).ext x7) (((k.fz _).trans z).then x7) am y hk⟩
    .intro B
     have z:J t B:=J.push _ _
     have am:ap (bH [c] B) (.mk t.size 0 2 2) [0,0]:=ap.lit aA _ bF rfl rfl aL
     clear_value B
     have A:=w.fz (z.fz [])
     refine⟨w.cp (Fz.az _ _) (z.fz _) aL _,w.cp (Fz.az _ _) (z.fz _) aL _,?_⟩
     refine(kE (F.ext z).rd V (ai.le (fh (z.fz _))) aL).mono λ_ C⟨y,j,hk,r7,r⟩=>⟨A.dq r,y,j,A.cp (Fz.az _ _) r aL _,A.cp (Fz.az _ _) r aL _,iH (ay:=C) (Y:=0) ((F.ext z).to r r7) (((k.trans z).fz _).trans r) (am.le (fh r)) y hk⟩
   .intro t
    have k:J I t:=J.push _ _
    have ai:ap (bH [c] t) (.mk I.size 0 2 2) [0,0]:=ap.lit aA _ bF rfl rfl aL
    clear_value t
    have F:=D.ext k
    have w:=u.fz (k.fz [])
    have z5:=k.size
    refine⟨u.cp (Fz.az _ _) (k.fz _) aL _,u.cp (Fz.az _ _) (k.fz _) aL _,?_⟩
    intro B
    have z:J t B:=J.push _ _
    have am:ap (bH [c] B) (.mk t.size 0 4 4) [1,2,3,4]:=ap.lit aA _ bF rfl rfl aL
    clear_value B
    have A:=w.fz (z.fz [])
    refine⟨w.cp (Fz.az _ _) (z.fz _) aL _,w.cp (Fz.az _ _) (z.fz _) aL _,?_⟩
    refine(kE (F.ext z).rd V am aL).mono λ_ C⟨y,j,hk,r7,r⟩=>⟨A.dq r,y,j,A.cp (Fz.az _ _) r aL _,A.cp (Fz.az _ _) r aL _,iH (ay:=C) (Y:=0) ((F.ext z).to r r7) (((k.trans z).fz _).trans r) ((ai.le (fh (z.fz _))).le (fh r)) y hk⟩
end
end
section
variable{c:Int}
def Xe{l:List bz}{q:List dy}(hb:0<=c/\c<=100)(ih:∀d,0<=d->d<=c -1->KD l q d):KD l q c:=by
 intro r e P G R U ae v w A hS z j hP K aI I;apply Mf (e,0);simp -zeta only[aD,aC];intro h aa;let⟨x2,hl⟩:=dD (a:=h) (c:=aa) rfl rfl;have s1:h.size=v.size+1:=by simp[h]
 clear_value aa;have hr:=j.rd.lt;have z2:=x2.size;have L2:Lw e [h.size,v.size] aa:=λc hb=>⟨hl c hb,by simp at hb;omega⟩;have H:∀{d:E},aa.size<=d.size->∀f∈h.size::r,f<d.size:=λy f he=>by have:=bP hS x2.size (hl h.size aL) f he;omega
 have c2:=j.ext x2;have am:=j.types;have oJ:=j.gp.oJ;have iZ:=j.gp.iZ;have aF:=QG c;have au:∀{al:Nat}{d:E},GC e G al R U l q d->Fz [e] aa d->al+22<=P+Cg c->aN cq 316 [vp e 0,.agg #[O.v R,O.v U],O.v ae,vi A] d λad M2=>eF [h.size,v.size] d M2/\∃W X:Int,∃Y:O,ad=.agg #[vi W,vi X,O.v Y]/\XP r e G v (P+Cg c) (λf=>WX l q.length w.length f/\(c<=2->f.n<=4)) (.agg #[vi W,vi X,O.v Y]) (ah M2 h.size 0 [.i W,.i X,.s Y]):=λcM g hq=>
  XP.ret (rO (f:=h.size::r) (H g.size) (by simp[z]) cM V (K.le (fh ((x2.fz _).trans g))) V I) (L2.fz g) ((x2.fz _).trans g) j.rd V (λf he=>⟨he.1,λ_=>he.2⟩) hq
 refine⟨λ_=>au c2 (Fz.az _ _) V,λh3=>?_⟩;simp only[bE]at h3;have aG:=Rq (f:=c -1) (c:=c) V V;have aH:=Rq (f:=c -2) (c:=c -1) V V;have aE:=QG (c -2);have an:cO (c -1)=c -1:=aP V V;have hQ:∀f,WX l q.length w.length f->WX l q.length w.length f/\(c<=2->f.n<=4):=λf y=>⟨y,λy=>V⟩;refine(bY c2.rd V 12).mono λ_ m3⟨ab,f,k0,k1,r3,f3⟩=>⟨L2.dq f3,ab,f,?_⟩;have u:=c2.to f3 r3;have N:=L2.fz f3;have t:=(x2.fz [e]).trans f3;have z3:=f3.size;have ay:=H z3;have av:∀{d:E},J m3 d->aN cq 331 [vp e 0,.agg #[O.v R,O.v U],O.v ae,vi A,vi c] d λad M2=>eF [h.size,v.size] d M2/\∃W X:Int,∃Y:O,ad=.agg #[vi W,vi X,O.v Y]/\XP r e G v (P+Cg c) (λf=>WX l q.length w.length f/\(c<=2->f.n<=4)) (.agg #[vi W,vi X,O.v Y]) (ah M2 h.size 0 [.i W,.i X,.s Y]):=λC=>
  XP.ret (J2 (e:=h.size::r) ⟨V,V⟩ ih (H (oh C.size)) (by simp[z]) (u.ext C) V (K.le (fh (t.then C))) V I) (N.fz (C.fz [])) (t.then C) j.rd V hQ V
 refine⟨λ_=>au u f3 V,λ_=>⟨λ_=>?_,λ_=>⟨λ_=>?_,λ_=>⟨λ_=>XP.ret (J1 (j:=h.size::r) ⟨V,V⟩ ih ay (by simp[z]) u V (K.le (fh t)) V I) N t j.rd V hQ V,λ_=>⟨λ_=>?_,λ_=>av (J.az _)⟩⟩⟩⟩⟩
 .refine(LR r3 V u.hd am u.hp V (K.le (fh t))).mono λ_ k⟨B,f,hu,r4,f4⟩=>⟨N.dq f4,B,f,bn,bn,?_⟩;have Q:=u.to f4 r4;have p:=N.fz f4;have F4:=t.trans f4;have z4:=f4.size;have az:Ty l B:=by have:=pG l j.gp.ds;unfold Ty;omega
  let⟨d0,d1⟩:=Oe (f:=c) (d:=2) V V;have d2:Int.tdiv c 2<=c -1:=by rw[qe V];omega
  have d3:Int.tdiv c 2+Int.tdiv c 2<=c:=by rw[qe V];omega
  rw[aP (b:=Int.tdiv c 2) V V];generalize Int.tdiv c 2=h2 at*;have hm:=uz d2;have D:∀{d M':E},Fz [e] k d->Fz [e] d M'->af M' v.size 0=af d v.size 0:=λg f'=>p.cp g f' aL _;have F:∀{d M':E},Fz [e] k d->Fz [e] d M'->af M' v.size 1=af d v.size 1:=λg f'=>p.cp g f' aL _;have ag:=λ(d:E)(cM:GC e G (P+2) R U l q d)(g:Fz [e] k d)=>ih h2 d0 d2 (h.size::r) e (P+2) G R U ae d w B (H (oh g.size)) (by simp[z]) cM V (K.le (fh (F4.trans g))) V az;have ai:=λ(d:E)(ac:O)(cM:GC e G (P+2+Cg h2) R U l q d)(g:Fz [e] k d)(hw:IR e d ac (w++[B]))=>ih h2 d0 d2 (h.size::r) e (P+2+Cg h2) G R U ac d (w++[B]) A (H (oh g.size)) (by simp[z]) cM V hw bF I;have aj:=λ(d:E)(ac:O)(g:Fz [e] k d)(hR:e<d.size)(y:IR e d ac [B])=>eO (S:=[e]) (by simp;exact hR) (K.le (fh (F4.trans g))) y bF;have ak:=λ(M0 d:E)(Z e2:Ex)(t1 t2:O)(g:Fz [e] k d)(hR:Rd e G (P+2+Cg h2+Cg h2) d)(h1:fH (bH (h.size::r) d) t1 Z.bC)(ax:fH (bH (h.size::r) d) t2 e2.bC)(w1:WX l q.length w.length Z)(w2:WX l q.length (w++[B]).length e2)=>
   have C:=J.push d (.cells (bt [.i Z.op,.i Z.bQ,.s t1,.i e2.op,.i e2.bQ,.s t2]) bG)
   have ao:=H (d:=d) (oh g.size)
   XP.ret (S:=r) (Q':=λf=>WX l q.length w.length f/\(c<=2->f.n<=4)) (nh (hR.ext C) ((K6 ao 0 [(Z,t1),(e2,t2)] aL (by simp;exact⟨h1,ax⟩) rfl rfl).done BW.mono ao bn aL) 13 0) ((p.fz g).fz (C.fz [])) ((F4.trans g).then C) j.rd V (λf he=>he▸hQ _ (.lt w1 (by simpa using w2))) (i:=P+Cg c) V
  refine⟨?_,?_⟩
  .refine XP.then (ag k Q (Fz.az _ _)) p λs5 T L h5 q5 r5 m=>⟨_,_,_,rfl,D (Fz.az _ _) m,F (Fz.az _ _) m,?_⟩;intro m6;have s:J L m6:=J.push _ _;have aB:ap (bH [e] m6) (.mk L.size 0 1 1) [B]:=ap.lit aA _ (by simp;exact r5.lt) rfl rfl aL;clear_value m6;have o:=m.then s;refine⟨D m (s.fz _),F m (s.fz _),D m (s.fz _),F m (s.fz _),?_⟩;refine(aj m6 _ o (r5.ext s).lt aB).mono λ_ m7⟨s7,l7,f,g7,q7,i⟩=>⟨(p.fz o).dq (i.fz _),s7,f,D o (i.fz _),F o (i.fz _),?_⟩;subst q7;refine XP.then (ai m7 s7 (((Q.to m r5).ext s).ext i) (o.then i) (GI.done g7 (by simp;exact(r5.ext s).lt) bF)) ((p.fz o).fz (i.fz [])) λs8 e8 m8 h8 q8 r8 f8=>⟨_,_,_,rfl,?_⟩;exact ak m8 m8 T e8 s5 s8 ((o.then i).trans f8) r8 (fH.le (((s.trans i).fz [e]).trans f8|>.df (by simp[z])) h5) h8 q5.1 q8.1
  .intro L;have s:J k L:=J.push _ _;have aB:ap (bH [e] L) (.mk k.size 0 1 1) [B]:=ap.lit aA _ (by simp;exact r4.lt) rfl rfl aL;clear_value L;refine⟨D (Fz.az _ _) (s.fz _),F (Fz.az _ _) (s.fz _),D (Fz.az _ _) (s.fz _),F (Fz.az _ _) (s.fz _),?_⟩;refine XP.then (ag L (Q.ext s) (s.fz _)) (p.fz (s.fz [])) λs6 e6 m6 h6 q6 r6 o=>⟨_,_,_,rfl,D (s.fz _) o,F (s.fz _) o,?_⟩;have T:=(s.fz [e]).trans o;refine(aj m6 _ T r6.lt (aB.le (fh o))).mono λ_ m7⟨s7,l7,f,g7,q7,i⟩=>⟨(p.fz T).dq (i.fz _),s7,f,D T (i.fz _),F T (i.fz _),?_⟩;subst q7;refine XP.then (ai m7 s7 (((Q.ext s).to o r6).ext i) (T.then i) (GI.done g7 (by simp;exact r6.lt) bF)) ((p.fz T).fz (i.fz [])) λs8 e8 m8 h8 q8 r8 f8=>⟨_,_,_,rfl,?_⟩;exact ak m8 m8 e6 e8 s6 s8 ((T.then i).trans f8) r8 (fH.le ((i.fz [e]).trans f8|>.df (by simp[z])) h6) h8 q6.1 q8.1
 .intro k;have i:J m3 k:=J.push _ _;have s:ap (bH [e] k) (.mk m3.size 0 3 3) [0,A,A]:=ap.lit aA _ (by simp;exact r3.lt) rfl rfl aL;clear_value k;rw[an];exact zO V ih (H (oh i.size)) z (u.ext i) V (K.le (fh (t.then i))) V V s aL (by simp;exact⟨j.gp.ty bn bn,I⟩) (N.fz (i.fz [])) (t.then i) j.rd V (λo hl hw=>hQ _ (.fe bn (λ_=>by simpa using hl) bn (λy=>V) hw)) V
 .refine(JX (f:=[e]) (by simp;exact r3.lt) (u.hd.le (bA _ _)) am (pE.le (bA _ _) u.hp) V iZ A).mono λ_ k⟨B,o,f,gl,hq,i⟩=>⟨N.dq (i.fz _),B,f,λy=>?_,λ_=>av i⟩;simp only[ar]at y;have ac:IR e k B o:=GI.done gl (by simp;exact r3.lt) V;have ao:=ac.len;have Q:=u.ext i;have p:=N.fz (i.fz []);refine(bY Q.rd V B.len).mono λ_ L⟨ab,f,k0,k1,r5,m⟩=>⟨p.dq m,ab,f,k0,V,?_⟩;let⟨aj,hy⟩:=cG o ab.toNat;obtain⟨fi,ai,rfl,F⟩:=hq.1 aj (aq hy);have s:=Q.to m r5;let⟨ps,ag,e0,Z⟩:=s.hp.aG F;have ak:=aw F;have ax:=s.hp.len;have T:=wU _ (j.gp.dz ai (aq F));have D:=(i.fz [e]).trans m;refine⟨_,(eQ.1 ((ac.le (fh m)).aG hy)).2,V,V,ps,(eQ.1 e0).2,?_⟩;rw[an];exact zO V ih (H (oh D.size)) z s V (K.le (fh (t.trans D))) V V ag T.1 (λA I=>j.gp.ty (T.2.1 A I).1 (T.2.1 A I).2) (p.fz m) (t.trans D) j.rd V (λo _ hw=>hQ _ (.fe bn (λy=>V) bn (λ_=>⟨V,V⟩) hw)) V
def Q0{b:List bz}{d:List dy}:∀(n:Nat)(c:Int),c.toNat=n->0<=c/\c<=100->KD b d c:=λn=>by
 induction n using Nat.strongRecOn with
 |ind n f=>exactλc i h=>Xe h λa e g=>f a.toNat V a rfl ⟨e,V⟩
section
variable{S:List Nat}{e P:Nat}{h d p j:O}{g:List bz}{i:List dy}{f:E}{v:List Int}
def XV(g:List bz)(b a:Nat)(e:Ex):Prop:=WX g b a e/\e.n<=30
def Md(hS:∀y∈S,y<f.size)(ab:e∈S)(y:GC e h P d p g i f)(hP:P+20*Cg 18<=10^16)(hv:IR e f j v)(ak:v.length<=100){T:Int}(ht:Ty g T)(s:0<=c/\c<=18):
 aN cq 285 [vp e 0,.agg #[O.v d,O.v p],O.v j,vi T,vi c] f (XP S e h f (P+20*Cg 18) (XV g i.length v.length)):=by
 apply EI (e,0)
 simp -zeta only[aD,aC]
 intro t B
 let⟨w,hl⟩:=dD (a:=t) (c:=B) rfl rfl
 have s1:t.size=f.size+1:=by simp[t]
 clear_value B
 have hr:=y.rd.lt
 have z2:=w.size
 have N:Lw e [t.size,f.size] B:=λc s=>⟨hl c s,by simp at s;omega⟩
 have aa:∀{M:E},B.size<=M.size->∀k∈t.size::S,k<M.size:=λR k Z=>by have:=bP hS w.size (hl t.size aL) k Z;omega
 have W:=y.ext w
 have hm:=uz s.2
 refine XP.then (Q0 _ c rfl ⟨s.1,V⟩ (t.size::S) e P h d p j B v T (aa (ad _)) (by simp[ab]) W V (hv.le (fh (w.fz _))) V ht) N λs3 F l h3 q3 r3 f3=>⟨_,_,_,rfl,?_⟩
 intro m4 C
 have U:J l C:=(J.push l _).ah (ad _) _ _
 have B5:cD C l.size bG [.i F.op,.i F.bQ,.s s3]:=cD.ah (m:=m4) (o:=0) (r:=[.i F.op,.i F.bQ,.s s3]) (cD.push l _ _)
 have s5:C.size=l.size+1:=by simp[C,m4,av]
 clear_value C
 have z3:=f3.size
 have ae:∀k∈l.size::t.size::S,k<C.size:=bP (aa z3) U.size V
 refine⟨λq M=>∃(I:O)(k:Ex)(u:Nat),0<=q/\q<=18/\q.toNat<=u/\u<=18/\cD M l.size bG [.i k.op,.i k.bQ,.s I]/\fH (bH (l.size::t.size::S) M) I k.bC/\WX g i.length v.length k/\(q<=2->k.n<=4)/\Rd e h (P+(19 -u)*Cg 18) M/\Fz [e] B M/\C.size<=M.size,λq _=>q.toNat,⟨s3,F,18,s.1,s.2,V,ad _,B5,fH.le (U.bH λc s=>(List.mem_cons.1 s).elim (λR=>Or.inr V) Or.inl) h3,q3.1,q3.2,(r3.ext U).mono V,(f3.then U),ad _⟩,?_⟩
 rintro q M ⟨I,k,u,b0,b1,bk,al,K,hs,hw,hn,rM,X,zM⟩
 have FM:=(w.fz [e]).trans X
 refine⟨_,K.cp 0,_,K.cp 1,_,K.cp 2,?_⟩
 refine(Bm (fH.le (bA _ _) hs)).mono λ_ H⟨n6,e6,q6,D⟩=>⟨(N.fz X).dq (D.fz _),n6,e6,?_⟩
 have L:=K.ext D
 have r6:=rM.ext D
 have z:=X.then D
 have z6:=D.size
 have kc:(19 -u)*Cg 18+Cg 18<=20*Cg 18:=by rw[<-qj];exact dg _ V
 have aS:k.n<=30->∃v0:Int,af H l.size 0=some (vi v0)/\∃v1:Int,af H l.size 1=some (vi v1)/\∃v2:O,af H l.size 2=some (O.v v2)/\XP S e h f (P+20*Cg 18) (XV g i.length v.length) (.agg #[vi v0,vi v1,O.v v2]) (ah H t.size 0 [.i v0,.i v1,.s v2]):=λac=>
  ⟨_,L.cp 0,_,L.cp 1,_,L.cp 2,I,k,rfl,fH.le (cz aL λy Y=>ai _ (ai _ Y)) (fH.le (D.df _) hs),⟨hw,ac⟩,y.rd.ah (r6.mono V) ((w.fz _).trans z) V 0 _,((w.fz _).trans z).ah (Or.inr V) _ _⟩
 refine⟨λR=>⟨λA=>?_,λA=>aS (by simp only[bE]at A;have:=hn V;omega)⟩,λR=>aS (by simp only[bE]at R;omega)⟩
 simp only[ar]at A
 let⟨d0,d1⟩:=Oe (f:=q) (d:=2) b0 V
 have d2:Int.tdiv q 2<=q -1:=by rw[qe b0];omega
 rw[aP (b:=Int.tdiv q 2) V V]
 generalize Int.tdiv q 2=A at*
 have ag:=uz (f:=A) (c:=18) V
 refine⟨bn,?_⟩
 refine XP.then (Q0 _ A rfl ⟨d0,V⟩ (l.size::t.size::S) e _ h d p j H v T (λk Z=>oh (ae k Z)) (by simp[ab]) (W.to z r6) V (hv.le (fh ((w.fz _).trans z))) V ht) (N.fz z) λs7 G m7 h7 q7 r7 Q=>⟨_,_,_,rfl,?_⟩
 have aj:e≠l.size:=V
 have B7:cD m7 l.size bG [.i k.op,.i k.bQ,.s I]:=L.congr (Q.same _ V bF)
 refine⟨B7.fL aL,?_⟩
 intro m8
 have B8:cD m8 l.size bG [.i G.op,.i G.bQ,.s s7]:=cD.ah (m:=m7) (o:=0) (r:=[.i G.op,.i G.bQ,.s s7]) B7
 have f8:Fz [e] B m8:=(z.trans Q).ah (Or.inr V) _ _
 have s8:m8.size=m7.size:=av _ _ _ _
 have z7:=Q.size
 refine⟨λc s=>bd _ _ _ _ (oh ((N c s).1)),⟨s7,G,u -1,d0,V,V,V,B8,fH.le (cz aL λy Y=>Y) h7,q7.1,q7.2,?_,f8,V⟩,by show A.toNat<q.toNat;omega⟩
 refine W.rd.ah (r7.mono ?_) (z.trans Q) V 0 _
 rw[show 19 -(u -1)=19 -u+1 by omega,qj];omega
end
end
section
structure HX(S:List Nat)(ds:List bz)(nf a:Nat)(M:E)(s:O)(e:Ex):Prop where
 sl:fH (bH S M) s e.bC
 wx:WX ds nf a e
structure Rs(rb:Nat)(bs:O)(m:E)(Q:Nat)(M:E):Prop where
 f:Fz [rb] m M
 r:Rd rb bs Q M
section
variable{S L:List Nat}{f Q q u k a i:Nat}{j d p s w:O}{h:List bz}{t:List dy}{n M c:E}{g:Ex}{v:List Int}{K:Int->Int->O->E->Prop}
def HX.fz(b:HX S h i a M s g)(e:f∈S)(d:Fz [f] M c):HX S h i a c s g:=⟨fH.le (d.df (by simp[e])) b.sl,b.wx⟩
def HX.ext(b:HX S h i a M s g)(x:J M c):HX S h i a c s g:=⟨fH.le (x.df _) b.sl,b.wx⟩
def HX.hO(b:HX S h i a M s g)(x:J M c)(f:M.size<=k):HX (k::S) h i a c s g:=⟨fH.le (x.bH λe d=>(List.mem_cons.1 d).elim (λb=>Or.inr V) Or.inl) b.sl,b.wx⟩
def HX.fm(b:HX (k::S) h i a M s g):HX S h i a M s g:=⟨fH.le (iV M λ_=>ai _) b.sl,b.wx⟩
def HX.put(b:HX S h i a M s g)(c:k∈S)(o:Nat)(l:List Ce):HX S h i a (ah M k o l) s g:=⟨fH.le (cz c λ_ b=>b) b.sl,b.wx⟩
def Rs.ext(h:Rs f j n Q M)(x:J M c):Rs f j n Q c:=⟨h.f.then x,h.r.ext x⟩
def Rs.to(h:Rs f j n Q M)(a:Fz [f] M c)(r:Rd f j q c):Rs f j n q c:=⟨h.f.trans a,r⟩
def Rs.put(h:Rs f j n Q M)(b:Rd f j u n)(a:n.size<=k)(o:Nat)(l:List Ce):Rs f j n Q (ah M k o l):=⟨h.f.ah (Or.inr a) _ _,b.ah h.r h.f a o l⟩
def lw(h:f<n.size)(a:∀b∈L,n.size<=b/\b<M.size):Lw f L M:=λb c=>⟨(a b c).2,oh ((a b c).1)⟩
def kg(a:Fz [f] M c)(h:f<n.size)(b:n.size<=k/\k<M.size)(o:Nat):af c k o=af M k o:=aE (a.same k b.2 bF) o
def kJ{d c:E}{z a:List Ce}{t:Nat}(f:d=M.push (.cells (bt z) t))(g:c=ah d M.size 0 a)(i:a.length=z.length):J M c/\cD c M.size t a/\c.size=M.size+1:=by
 subst f g;refine⟨(J.push M _).ah (ad _) _ _,?_,by rw[av];simp⟩;have h:=cD.ah (m:=M.push (.cells (bt z) t)) (b:=M.size) (e:=t) (l:=z) (o:=0) (r:=a) (cD.push _ _ _);rwa[show je z 0 a=a from by
  have h:=Cl [] a z V;rw[Jl V]at h;simpa using h]at h
def XP.kk{e:Nat}{b:List Value}{T:Ex->Prop}(n:aN cq e b M (XP S f j M Q T))(o:Lw f L M)(p:∀s g c,fH (bH S c) s g.bC->T g->Rd f j Q c->Fz [f] M c->K g.op g.bQ s c):aN cq e b M λv c=>eF L M c/\∃h i:Int,∃k:O,v=.agg #[vi h,vi i,O.v k]/\K h i k c:=
 XP.then n o λs g c a l m d=>⟨_,_,_,rfl,p s g c a l m d⟩
def wS(S:List Nat)(h:List bz)(i:Nat)(m:Lw f L M){n:Int}(p:0<=n/\n<(a:Int))(o:∀s c,HX S h i a c s (.mk 12 n [])->J M c->K 12 n s c):aN cq 315 [vi n] M λv c=>eF L M c/\∃b d:Int,∃e:O,v=.agg #[vi b,vi d,O.v e]/\K b d e c:=
 (ms S n M).mono λv c⟨s,g,j,k,l,x⟩=>⟨m.dq (x.fz _),by subst l;exact⟨_,_,_,j,o s c ⟨k,.Uo p⟩ x⟩⟩
def Jv(S:List Nat)(h:List bz)(i a:Nat)(m:Lw f L M)(n:Int)(o:∀s c,HX S h i a c s (.mk 0 n [])->J M c->K 0 n s c):aN cq 280 [vi n] M λv c=>eF L M c/\∃b d:Int,∃e:O,v=.agg #[vi b,vi d,O.v e]/\K b d e c:=
 (Ba S n M).mono λv c⟨s,g,j,k,l,x⟩=>⟨m.dq (x.fz _),by subst l;exact⟨_,_,_,j,o s c ⟨k,.int n⟩ x⟩⟩
def oZ(l:List (Ex×O))(d:l.length<=1000)(b:∀c∈S,c<M.size)(h:∀x∈l,fH (bH S M) x.2 x.1.bC){a:List Ce}{n:Nat}(c:a=l.flatMap λx=>[.i x.1.op,.i x.1.bQ,.s x.2])(e:n=l.length):fH (bH S (M.push (.cells (bt a) bG))) (.mk M.size 0 n n) (l.map (·.1)):=
 (K6 b 0 l d h c e).done BW.mono b bn bF
def jE{bC:List Ex}(k:fH (bH S M) s bC){b bQ:Int}(q:WX h i a (.mk b bQ bC))(o:Lw f L M)(p:∀s c,HX S h i a c s (.mk b bQ bC)->J M c->K b bQ s c):
 aN cq 313 [vi b,vi bQ,O.v s] M λv c=>eF L M c/\∃d e:Int,∃j:O,v=.agg #[vi d,vi e,O.v j]/\K d e j c:=
 (JI k b bQ).mono λv c⟨s,g,l,m,n,x⟩=>⟨o.dq (x.fz _),by subst n;exact⟨_,_,_,l,p s c ⟨m,q⟩ x⟩⟩
def FW(x:∀a∈S,a<M.size)(z:f∈S)(a:GC f j Q d p h t M)(C:Q+Cg 18<=10^16)(B:IR f M w v)(E:v.length<=100){e b:Int}(A:Ty h e)(i:0<=b/\b<=18)(u:Lw f L M)(y:∀g s c,HX S h t.length v.length c s g->Rd f j (Q+Cg 18) c->Fz [f] M c->K g.op g.bQ s c):
 aN cq 312 [vp f 0,.agg #[O.v d,O.v p],O.v w,vi e,vi b] M λv c=>eF L M c/\∃k l:Int,∃m:O,v=.agg #[vi k,vi l,O.v m]/\K k l m c:=
 have D:=uz i.2
 XP.kk (Q0 _ b rfl ⟨i.1,V⟩ S f Q j d p w M v e x z a V B V A) u λs g c n o q r=>y g s c ⟨n,o.1⟩ (q.mono V) r
end
end
section
def WX.Pr{b:List bz}{c a:Nat}{n:Int}{bC:List Ex}(h:∀e∈bC,WX b c a e):WX b c a (.mk 6 n bC):=.fe bn (λh=>V) bn (λh=>V) h
section
variable{c:List Nat}{e P:Nat}{g d p:O}{f:List bz}{h:List dy}{b:E}
def Mi(f:List bz)(z:Nat)(hS:∀Z∈c,Z<b.size)(aa:e∈c)(U:Rd e g P b)(hP:P+100<=10^16)(aF:Int):aN cq 314 [vp e 0,vi aF] b (XP c e g b (P+100) (WX f z 0)):=by
 apply ET (e,0);simp -zeta only[aD,aC];intro aA ac;have x2:J b ac:=(J.push b _).trans (J.push aA _);have s2:ac.size=b.size+2:=by simp[ac,aA]
 clear_value ac;have L:=U.lt;have ap:∀{h:E},ac.size<=h.size->∀Z∈b.size::c,Z<h.size:=λv=>bP hS V V;have X:Rs e g b P ac:=⟨x2.fz _,U.ext x2⟩;refine jE (S:=b.size::c) (a:=0) (h:=f) (i:=z) (f:=e) (bC:=[]) (mI _ _ _ _ _ _) (.Pr aL) (lw L bF) λs3 m3 h3 x3=>?_;intro m4 D;let⟨x5,B5,z5⟩:=kJ (M:=m3) (d:=m4) (c:=D) rfl rfl rfl;clear_value D;have z3:=x3.size;have r5:=(X.ext x3).ext x5;refine⟨λ_=>?_,λ_=>?_⟩
 .intro m6;have x6:J D m6:=J.push _ _;clear_value m6;have z6:=x6.size;refine jE (S:=b.size::c) (a:=0) (h:=f) (i:=z) (f:=e) (bC:=[]) (mI _ _ _ _ _ _) (.Pr aL) (lw L bF) λQ F h7 x7=>?_;intro m8 y;let⟨x9,B9,z9⟩:=kJ (M:=F) (d:=m8) (c:=y) rfl rfl rfl;clear_value y;have z7:=x7.size;have r9:=((r5.ext x6).ext x7).ext x9;have h9:=h7.ext x9;have G:∀{h C:E},y.size<=h.size->Fz [e] h C->∀i,af C F.size i=af h F.size i:=λv ai i=>kg ai L ⟨V,V⟩ i;have LW:∀{h:E},y.size<=h.size->Lw e [F.size,m3.size,b.size] h:=λv=>lw L bF;have LK:∀{h:E}{s:Nat},y.size<=s->s<h.size->Lw e [s,F.size,m3.size,b.size] h:=λv T=>lw L bF;have hw:∀n:Int,WX f z 0 (.mk 6 3 [.mk 6 2 [],.mk 0 n [],.mk 6 2 []]):=λn=>.Pr (by simp;exact⟨.Pr aL,.int n,.Pr aL⟩);refine⟨λlM h=>∃H l,lM.2=0/\b.size<=lM.1/\cD h lM.1 bG [.i l.op,.i l.bQ,.s H]/\HX (b.size::c) f z 0 h H l/\HX (b.size::c) f z 0 h Q (.mk 6 2 [])/\Rs e g b (P+1) h/\y.size<=h.size,?_,?_⟩
  .have iH:∀{s t0:Nat}{h:E}{n:Int},cD h s bG [.i 0,.i 0,.s .nil]->y.size<=s->fH (bH (s::b.size::c) h) (.mk t0 0 3 3) [.mk 6 2 [],.mk 0 n [],.mk 6 2 []]->Rs e g b (P+1) h->HX (s::b.size::c) f z 0 h Q (.mk 6 2 [])->
    aN cq 313 [vi 6,vi 3,O.v (.mk t0 0 3 3)] h λaG C=>eF [s,F.size,m3.size,b.size] h C/\∃r0 r1:Int,∃X:O,aG=.agg #[vi r0,vi r1,O.v X]/\∃H l,((s,0):Nat×Nat).2=0/\b.size<=((s,0):Nat×Nat).1/\cD (ah C s 0 [.i r0,.i r1,.s X]) ((s,0):Nat×Nat).1 bG [.i l.op,.i l.bQ,.s H]/\HX (b.size::c) f z 0 (ah C s 0 [.i r0,.i r1,.s X]) H l/\HX (b.size::c) f z 0 (ah C s 0 [.i r0,.i r1,.s X]) Q (.mk 6 2 [])/\Rs e g b (P+1) (ah C s 0 [.i r0,.i r1,.s X])/\y.size<=(ah C s 0 [.i r0,.i r1,.s X]).size:=λB hk W N v=>
    jE W (hw _) (LK hk B.lt) λs' C T au=>⟨s',.mk 6 3 [.mk 6 2 [],.mk 0 _ [],.mk 6 2 []],rfl,by show b.size<=_;omega,cD.ah (m:=C) (o:=0) (r:=[.i 6,.i 3,.s s']) (B.ext au),(T.put aL _ _).fm,((v.ext au).put aL _ _).fm,(N.ext au).put U V _ _,by rw[av];have:=B.lt;have:=au.size;omega⟩
   have zb:∀h:E,J h (h.push (.cells (bt [.i 0,.i 0,.s .nil]) bG))/\cD (h.push (.cells (bt [.i 0,.i 0,.s .nil]) bG)) h.size bG [.i 0,.i 0,.s .nil]:=λh=>⟨J.push _ _,cD.push _ _ _⟩;have aq:∀{ag:List Nat}{h:E}{n:Int}{si:O},(∀Z∈ag,Z<h.size)->HX ag f z 0 h Q (.mk 6 2 [])->HX ag f z 0 h si (.mk 0 n [])->fH (bH ag (h.push (.cells (bt [.i 6,.i 2,.s Q,.i 0,.i n,.s si,.i 6,.i 2,.s Q]) bG))) (.mk h.size 0 3 3) [.mk 6 2 [],.mk 0 n [],.mk 6 2 []]:=λhS v T=>
    oZ [(.mk 6 2 [],Q),(.mk 0 _ [],_),(.mk 6 2 [],Q)] aL hS (by simp;exact⟨v.sl,T.sl,v.sl⟩) rfl rfl
   have ay:∀{h:E}{s:Nat},y.size<=s->s<h.size->∀Z∈s::b.size::c,Z<h.size:=λv T=>bP (ap (h:=y) V) V T;refine⟨(bY r9.r V 9).mono λ_ w⟨n,l,_,_,an,u⟩=>⟨(LW (ad _)).dq u,n,l,G (ad _) u _,G (ad _) u _,G (ad _) u _,G (ad _) u _,G (ad _) u _,G (ad _) u _,?_,?_⟩,?_⟩
   .have I:=r9.to u an;have vG:=u.size;have K:=h9.fz (by simp[aa]) u;refine Jv (b.size::c) f z 0 (LW vG) n λaB p aj q=>?_;have aw:=q.size;have d:=λi=>G vG (q.fz _) i;refine⟨d _,d _,d _,d _,d _,d _,?_,?_⟩
    .intro k;have j:J p k:=J.push _ _;have W:fH (bH (b.size::c) k) (.mk p.size 0 3 3) [.mk 6 2 [],.mk 0 n [],.mk 6 2 []]:=aq (ag:=b.size::c) (ap V) (K.ext q) aj;have aH:=j.size;refine⟨?_,?_⟩
     .refine jE (M:=k) (f:=e) W (hw n) (LW V) λaz A ao t=>?_;intro R;have ak:J A R:=J.push _ _;have al:=t.size;have d:=λi=>G (h:=A) (C:=R) V (ak.fz _) i;refine⟨d _,d _,d _,d _,d _,d _,?_⟩;intro ae;let⟨Y,ab,am⟩:=kJ (M:=A) (d:=R) (c:=ae) rfl rfl rfl;exact⟨az,.mk 6 3 [.mk 6 2 [],.mk 0 n [],.mk 6 2 []],rfl,by show b.size<=A.size;omega,ab,ao.ext Y,(((K.ext q).ext j).ext t).ext Y,(((I.ext q).ext j).ext t).ext Y,V⟩
     .intro A;obtain⟨t,R⟩:J k A/\cD A k.size bG [.i 0,.i 0,.s .nil]:=zb k;have d:=λi=>G (h:=k) (C:=A) V (t.fz _) i;exact⟨d _,d _,d _,d _,d _,d _,iH R V (fH.le (t.bH λam hb=>(List.mem_cons.1 hb).elim (λv=>Or.inr V) Or.inl) W) (((I.ext q).ext j).ext t) (((K.ext q).ext j).hO t (ad _))⟩
    .intro k;obtain⟨j,ae⟩:J p k/\cD k p.size bG [.i 0,.i 0,.s .nil]:=zb p;have d:=λi=>G (h:=p) (C:=k) V (j.fz _) i;refine⟨d _,d _,d _,d _,d _,d _,?_⟩;intro A;have t:J k A:=J.push _ _;have R:=(K.ext q).hO j (ad _);exact iH (ae.ext t) V (aq (ay V ae.lt) R (aj.hO j (ad _))) (((I.ext q).ext j).ext t) (R.ext t)
   .have I:=r9.to u an;have vG:=u.size;have K:=h9.fz (by simp[aa]) u;intro p;obtain⟨q,Y⟩:J w p/\cD p w.size bG [.i 0,.i 0,.s .nil]:=zb w;have d:=λi=>G (h:=w) (C:=p) V (q.fz _) i;have aw:=q.size;refine⟨d _,d _,d _,d _,d _,d _,?_⟩;refine Jv (w.size::b.size::c) f z 0 (LK V Y.lt) n λal k ak j=>?_;have d:=λi=>G (h:=p) (C:=k) V (j.fz _) i;refine⟨d _,d _,d _,d _,d _,d _,?_⟩;intro A;have t:J k A:=J.push _ _;have R:=(K.hO q (ad _)).ext j;exact iH ((Y.ext j).ext t) V (aq (ay V (Y.ext j).lt) R ak) (((I.ext q).ext j).ext t) (R.ext t)
   .intro w;obtain⟨I,ax⟩:J y w/\cD w y.size bG [.i 0,.i 0,.s .nil]:=zb y;have d:=λi=>G (h:=y) (C:=w) V (I.fz _) i;have vG:=I.size;refine⟨d _,d _,d _,d _,d _,d _,?_⟩;refine(bY (r9.ext I).r V 9).mono λ_ p⟨n,l,_,_,aE,ab⟩=>⟨(LK (ad _) ax.lt).dq ab,n,l,?_⟩;have d:=λi=>G (h:=w) (C:=p) V ab i;refine⟨d _,d _,d _,d _,d _,d _,?_⟩;have Y:=ax.congr (ab.same y.size ax.lt bF);have aw:=ab.size;refine Jv (y.size::b.size::c) f z 0 (LK (ad _) Y.lt) n λal k ak j=>?_;have d:=λi=>G (h:=p) (C:=k) V (j.fz _) i;refine⟨d _,d _,d _,d _,d _,d _,?_⟩;intro A;have t:J k A:=J.push _ _;have R:=((h9.hO I (ad _)).fz (by simp[aa]) ab).ext j;exact iH ((Y.ext j).ext t) (ad _) (aq (ay (ad _) (Y.ext j).lt) R ak) ((((r9.ext I).to ab aE).ext j).ext t) (R.ext t)
  .rintro⟨s,i⟩ h ⟨H,l,ho,hk,B,v,T,N,Y⟩;simp only at ho hk B;subst ho;have bl:=B.lt;refine⟨_,B.cp 0,_,B.cp 1,_,B.cp 2,?_⟩;have L3:∀{C:E},h.size<=C.size->Lw e [F.size,m3.size,b.size] C:=λv=>LW V;refine(bY N.r V 9).mono λ_ w⟨n,en,_,_,an,u⟩=>⟨(L3 (ad _)).dq u,n,en,?_⟩;have vG:=u.size;have gg:∀{R ab:E},h.size<=R.size->Fz [e] R ab->∀i,af ab s i=af R s i:=λv ai i=>kg ai L ⟨hk,V⟩ i;have ga:=λi=>G (h:=h) (C:=w) Y u i;have gb:=λi=>gg (R:=h) (ab:=w) (ad _) u i;refine⟨?_,?_,?_,?_,?_,?_,?_⟩;iterate 6 first|exact ga _|exact gb _
   refine Jv (b.size::c) f z 0 (L3 vG) n λaB p aj q=>?_;have ga:=λi=>G (h:=w) (C:=p) V (q.fz _) i;have gb:=λi=>gg (R:=w) (ab:=p) vG (q.fz _) i;refine⟨?_,?_,?_,?_,?_,?_,?_⟩;iterate 6 first|exact ga _|exact gb _
   intro k;have j:J p k:=J.push _ _;have aw:=q.size;have ag:=(v.fz (by simp[aa]) u).ext q;have am:=(T.fz (by simp[aa]) u).ext q;have W:fH (bH (b.size::c) k) (.mk p.size 0 3 3) [l,.mk 0 n [],.mk 6 2 []]:=oZ (S:=b.size::c) (M:=p) [(l,H),(.mk 0 n [],aB),(.mk 6 2 [],Q)] aL (ap V) (by simp;exact⟨ag.sl,aj.sl,am.sl⟩) rfl rfl;refine jE (M:=k) (f:=e) W (.Pr (by simp;exact⟨ag.wx,aj.wx,am.wx⟩)) (L3 (C:=k) (oh j.size)) λaz A ao t=>?_;have aq:=(((N.to u an).ext q).ext j).ext t;exact⟨az,_,rfl,(ao.put aL _ _).fm.sl,ao.wx,((aq.put U (ad _) _ _).r).mono V,(aq.put U (ad _) _ _).f⟩
 .intro m6 F;let⟨x7,B7,z7⟩:=kJ (M:=D) (d:=m6) (c:=F) rfl rfl rfl;clear_value F;have r7:=r5.ext x7;have C:∀{h:E},F.size<=h.size->Lw e [m3.size,b.size] h:=λv=>lw L bF;refine(bY r7.r V 3).mono λ_ m8⟨n,en,n0,n3,Q,u⟩=>⟨(lw L bF:Lw e [D.size,m3.size,b.size] F).dq u,n,en,?_⟩;rw[aP (b:=1+n) V V];have z8:=u.size;have T:b.size<=D.size:=V;refine⟨λs h=>0<=s/\s<=3/\∃H l,cD h D.size bG [.i l.op,.i l.bQ,.s H]/\HX (D.size::b.size::c) f z 0 h H l/\Rs e g b (P+1+4*(3 -s).toNat) h/\F.size<=h.size,λs _=>s.toNat,⟨V,V,s3,.mk 6 0 [],B7.congr (u.same _ V bF),((h3.ext x5).hO x7 (ad _)).fz (by simp[aa]) u,⟨(r7.to u Q).f,Q.mono V⟩,z8⟩,?_⟩;rintro s h ⟨i0,i3,H,l,B,v,N,Y⟩;refine⟨λhi=>?_,λ_=>⟨_,B.cp 0,_,B.cp 1,_,B.cp 2,H,l,rfl,(v.fm.put aL _ _).fm.sl,v.wx,(N.put U (ad _) _ _).r.mono V,(N.put U (ad _) _ _).f⟩⟩;simp only[ar]at hi;refine⟨_,B.cp 0,_,B.cp 1,_,B.cp 2,?_⟩;have d:∀{R ab:E},F.size<=R.size->Fz [e] R ab->∀i,af ab D.size i=af R D.size i:=λv ai i=>kg ai L ⟨T,V⟩ i;refine(By N.r V).mono λ_ y⟨A,en,d9,t⟩=>⟨(C Y).dq t,A,en,d Y t _,d Y t _,d Y t _,?_⟩;have z9:=t.size;refine Jv (D.size::b.size::c) f z 0 (C V) A λan w K I=>⟨d V (I.fz _) _,d V (I.fz _) _,d V (I.fz _) _,?_⟩;intro p;have q:J w p:=J.push _ _;have vG:=I.size;have aw:=q.size;have ag:=(v.fz (by simp[aa]) t).ext I;have W:fH (bH (D.size::b.size::c) p) (.mk w.size 0 2 2) [.mk 0 A [],l]:=oZ (S:=D.size::b.size::c) (M:=w) [(.mk 0 A [],an),(l,H)] aL (bP (ap (h:=w) V) (ad _) V) (by simp;exact⟨K.sl,ag.sl⟩) rfl rfl;refine jE (M:=p) (f:=e) W (.Pr (by simp;exact⟨K.wx,ag.wx⟩)) (C (h:=p) V) λal k ak j=>?_;have ae:cD k D.size bG [.i l.op,.i l.bQ,.s H]:=(((B.congr (t.same _ B.lt bF)).ext I).ext q).ext j;have aH:=j.size;rw[aP (b:=s -1) V V];refine⟨ae.fL aL,λam hb=>bd _ _ _ _ (by simp at hb;omega),⟨V,V,al,.mk 6 1 [.mk 0 A [],l],cD.ah (m:=k) (o:=0) (r:=[.i 6,.i 1,.s al]) ae,ak.put aL _ _,?_,by rw[av];omega⟩,by show(s -1).toNat<s.toNat;omega⟩;have aj:=((((N.to t d9).ext I).ext q).ext j).put U T 0 [.i 6,.i 1,.s al];exact⟨aj.f,aj.r.mono V⟩
end
end
section
structure BX(S:List Nat)(ds:List bz)(nf a k:Nat)(M:E)(s:O)(e:Ex):Prop where
 b:cD M k bG [.i e.op,.i e.bQ,.s s]
 h:HX (k::S) ds nf a M s e
section
variable{S:List Nat}{d Q i j k a c:Nat}{h s:O}{b:List bz}{g M f:E}{e:Ex}
def BX.new{f d:E}(h:HX S b c a M s e)(g:f=M.push (.cells (bt [.i 0,.i 0,.s .nil]) bG))(i:d=ah f M.size 0 [.i e.op,.i e.bQ,.s s]):J M d/\BX S b c a M.size d s e/\d.size=M.size+1:=
 let⟨x,B,z⟩:=kJ g i rfl;⟨x,⟨B,h.hO x (ad _)⟩,z⟩
def BX.fz(h:BX S b c a k M s e)(j:d∈S)(i:k≠d)(g:Fz [d] M f):BX S b c a k f s e:=⟨h.b.congr (g.same k h.b.lt (by simpa using i)),h.h.fz (by simp[j]) g⟩
def BX.ext(h:BX S b c a k M s e)(x:J M f):BX S b c a k f s e:=⟨h.b.ext x,h.h.ext x⟩
def BX.set(h:BX S b c a k M s e){f:O}{d:Ex}(g:HX (k::S) b c a M f d):BX S b c a k (ah M k 0 [.i d.op,.i d.bQ,.s f]) f d:=⟨cD.ah (m:=M) (o:=0) (r:=[.i d.op,.i d.bQ,.s f]) h.b,g.put aL _ _⟩
def HX.iH(f:HX (k::S) b c a M s e)(r:Rs d h g Q M)(l:Rd d h j g)(m:g.size<=k)(n:Q<=i):XP S d h g i (WX b c a) (.agg #[vi e.op,vi e.bQ,O.v s]) (ah M k 0 [.i e.op,.i e.bQ,.s s]):=
 ⟨s,e,rfl,(f.put aL _ _).fm.sl,f.wx,(r.put l m _ _).r.mono n,(r.put l m _ _).f⟩
end
section
variable{b:List Nat}{c P:Nat}{g d p:O}{f:List bz}{e:List dy}{m:E}
def Kd(hS:∀l∈b,l<m.size)(z:c∈b)(l:GC c g P d p f e m)(hP:P+200+Cg 18<=10^16):aN cq 281 [vp c 0,.agg #[O.v d,O.v p]] m (XP b c g m (P+200+Cg 18) (WX f e.length 0)):=by
 apply Dd (c,0);simp -zeta only[aD,aC];intro h q A;let⟨x2,hl⟩:=dD (a:=h) (c:=q) rfl rfl;have s1:h.size=m.size+1:=by simp[h]
 have s2:q.size=m.size+2:=by simp[q,s1]
 have X:J q A:=J.push _ _;have y:=l.rd.lt;have ac:ap (bH [c] A) (.mk q.size 0 3 3) [1,1,3]:=ap.lit aA _ bF rfl rfl aL;clear_value A;clear_value q;have G:∀{i:E},q.size<=i.size->∀l∈h.size::b,l<i.size:=λF=>bP hS V V;have r3:Rs c g m P A:=⟨(x2.trans X).fz _,(l.rd.ext x2).ext X⟩;have z3:=X.size;refine(kE r3.r V ac aL).mono λ_ m4⟨W,u,ht,d4,H⟩=>⟨(lw y bF:Lw c [h.size,m.size] A).dq H,W,u,?_⟩;have r4:=r3.to H d4;have z4:=H.size;intro Q;have x5:J m4 Q:=J.push _ _;have ae:ap (bH [c] Q) (.mk m4.size 0 1 1) [W]:=ap.lit aA _ (by simp;exact d4.lt) rfl rfl aL;clear_value Q;have R:=r4.ext x5;have z5:=x5.size;refine FW (S:=h.size::b) (G V) (by simp[z]) (l.to R.f R.r) V ae aL (l.gp.ty (t:=0) bn bn) bn (lw y bF) λD s6 v h6 d6 f6=>?_;intro m7 B;let⟨x8,b8,z8⟩:=BX.new (f:=m7) (d:=B) h6 rfl rfl;clear_value B;have z6:=f6.size;have T:=(R.to f6 d6).ext x8;have L:v.size≠c:=V;have Z:∀{i:E},B.size<=i.size->Lw c [v.size,h.size,m.size] i:=λF=>lw y bF;refine⟨λi=>∃U u,BX (h.size::b) f e.length 1 v.size i U u/\Rs c g m (P+2+Cg 18) i/\B.size<=i.size,?_,?_⟩
 .refine(bY T.r V 3).mono λ_ n⟨Y,en,_,_,x,j⟩=>⟨(Z (ad _)).dq j,Y,en,λ_=>?_,λ_=>⟨s6,D,b8.fz (by simp[z]) L j,⟨(T.to j x).f,x.mono V⟩,j.size⟩⟩;have s:=b8.fz (by simp[z]) L j;have z9:=j.size;intro o;have w:J n o:=J.push _ _;have N:fH (bH (v.size::h.size::b) o) (.mk n.size 0 1 1) [D]:=oZ (S:=v.size::h.size::b) (M:=n) [(D,s6)] aL (bP (G (i:=n) V) (ad _) s.b.lt) (by simp;exact s.h.sl) rfl rfl;have vG:=w.size;refine jE (M:=o) N (.fe (a:=1) (b:=f) (c:=e.length) bn (λF=>V) bn (λF=>V) (by simp;exact s.h.wx)) (Z V) λab af K C=>?_;have r:=((T.to j x).ext w).ext C;have I:=((s.ext w).ext C).set K;exact⟨ab,.mk 5 0 [D],I,⟨(r.put l.rd V _ _).f,((r.put l.rd V _ _).r).mono V⟩,by rw[av];have:=C.size;omega⟩
 rintro i ⟨U,u,r,aa,ah⟩;refine⟨_,r.b.cp 0,_,r.b.cp 1,_,r.b.cp 2,?_⟩;have Y:∀{i:E},B.size<=i.size->Lw c [h.size,m.size] i:=λF=>lw y bF;refine XP.kk (Mi (c:=h.size::b) f e.length (G V) (by simp[z]) aa.r V W) (Y ah) λs9 e9 n h9 w9 x j=>?_;have I:=λag=>kg j y (k:=v.size) ⟨V,r.b.lt⟩ ag;refine⟨I _,I _,I _,?_⟩;have z9:=j.size;intro o;have w:J n o:=J.push _ _;have s:=r.fz (by simp[z]) L j;have N:fH (bH (h.size::b) o) (.mk n.size 0 2 2) [e9,u]:=oZ (S:=h.size::b) (M:=n) [(e9,s9),(u,U)] aL (G V) (by simp;exact⟨h9,s.h.fm.sl⟩) rfl rfl;refine jE (M:=o) N (.lt w9 r.h.wx) (Y (oh w.size)) λab af K C=>?_;exact K.iH (((aa.to j x).ext w).ext C) l.rd V V
def J0(hS:∀j∈b,j<m.size)(y:c∈b)(j:GC c g P d p f e m)(hP:P+200+2*Cg 18<=10^16){I:Nat}{q:dy}(hq:e[I]? =some q)(h1:1<=q.params.length):
 aN cq 284 [vp c 0,.agg #[O.v d,O.v p],vi I] m (XP b c g m (P+200+2*Cg 18) (WX f e.length q.params.length)):=by
 apply CS (c,0)
 simp -zeta only[aD,aC]
 intro i C
 let⟨x2,hl⟩:=dD (a:=i) (c:=C) rfl rfl
 have s1:i.size=m.size+1:=by simp[i]
 have s2:C.size=m.size+2:=by simp[C,s1]
 have x:=j.rd.lt
 clear_value C
 have v:∀{h:E},C.size<=h.size->∀j∈i.size::b,j<h.size:=λl=>bP hS V V
 have r2:Rs c g m P C:=⟨x2.fz _,j.rd.ext x2⟩
 have s:∀{h:E},C.size<=h.size->Lw c [i.size,m.size] h:=λl=>lw x bF
 let⟨ps,ap,e0,e1⟩:=j.hp.aG hq
 have aV:=aw hq
 have aY:=j.hp.len
 have X:=wU _ (j.gp.dz q (aq hq))
 have h3:q.params.length<=3:=X.1
 have W:∀{h:E},Fz [c] m h->IR c h ps q.params:=λac=>ap.le (fh ac)
 have E1:∀{h:E},Fz [c] m h->af h p.D (p.off+I*5+1)=some (vi q.aT):=λac=>(eQ.1 (fh ac _ _ _ e1)).2
 refine⟨V,V,ps,(eQ.1 (fh r2.f _ _ _ e0)).2,?_⟩
 refine wS (i.size::b) f e.length (a:=q.params.length) (s (ad _)) V λs3 m3 ao x3=>?_
 have z3:=x3.size
 refine Jv (i.size::b) f e.length q.params.length (s z3) 1 λs4 m4 h4 x4=>?_
 have z4:=x4.size
 intro m5
 have x5:J m4 m5:=J.push _ _
 have aI:fH (bH (i.size::b) m5) (.mk m4.size 0 2 2) [.mk 12 0 [],.mk 0 1 []]:=oZ (S:=i.size::b) (M:=m4) [(.mk 12 0 [],s3),(.mk 0 1 [],s4)] aL (v V) (by simp;exact⟨(ao.ext x4).sl,h4.sl⟩) rfl rfl
 have z5:=x5.size
 refine jE (M:=m5) aI (.fe (a:=q.params.length) (b:=f) (c:=e.length) bn (λl=>V) bn (λl=>V) (by simp;exact⟨ao.wx,h4.wx⟩)) (s V) λs6 K h6 x6=>?_
 have z6:=x6.size
 have r6:=(((r2.ext x3).ext x4).ext x5).ext x6
 intro m7
 have x7:J K m7:=J.push _ _
 have g7:GE (i.size::b) K m7 (.mk K.size 0 1 1) [.mk 2 0 [.mk 12 0 [],.mk 0 1 []]]:=K6 (v V) 0 [(.mk 2 0 [.mk 12 0 [],.mk 0 1 []],s6)] aL (by simpa using h6.sl) rfl rfl
 clear_value m7
 have aZ:=ap.len
 refine QX (a:=q.params.length) V h1 (λY F h=>∃z,GE (i.size::b) K h F z/\z.length=Y/\(∀w∈z,WX f e.length q.params.length w)/\Rd c g (P+22*Y) h/\Fz [c] K h) ⟨_,g7,rfl,by simpa using h6.wx,(r6.r.ext x7).mono V,x7.fz _⟩ ?_
 rintro Y F h aU μ aW hj ⟨z,r,aX,hw,rM,fM⟩ aM
 have U:=r6.f.trans fM
 have zM:=fM.size
 refine⟨λl=>?_,λ_=>?_⟩
 .simp only[ar]at l
  let⟨A,o⟩:=cG q.params Y
  have u:=X.2.1 A (aq o)
  refine⟨V,V,A,(eQ.1 ((W U).aG o)).2,?_⟩
  exact XP.kL (rO (f:=F.D::i.size::b) (bP (v (h:=h) V) (ad _) r.bh.2) (by simp[y]) (j.to U rM) V (W U) V (j.gp.ty u.1 u.2)) r fM (s V) r6.r (by simp[y]) V λw ax N G g' L D _ _=>
   aM V _ _ ⟨_,g',bF,λB H=>by rcases List.mem_append.1 H with l|l;exact hw B l;simp at l;subst l;exact G.1,L.mono V,D⟩
 refine jE (r.done BW.mono (v (h:=K) V) bn V) (.fe (a:=q.params.length) (b:=f) (c:=e.length) bn (λl=>V) bn (λ_=>⟨V,V⟩) hw) (s V) λs8 o h8 x8=>?_
 intro m9 A
 let⟨ay,ab,vG⟩:=BX.new (f:=m9) (d:=A) h8 rfl rfl
 clear_value A
 have z8:=x8.size
 have D:Rs c g m (P+66) A:=⟨(U.then x8).then ay,((rM.ext x8).ext ay).mono V⟩
 have hk:o.size≠c:=V
 refine⟨λh=>∃F w,BX (i.size::b) f e.length q.params.length o.size h F w/\Rs c g m (P+66+Cg 18) h/\A.size<=h.size,⟨V,V,_,E1 D.f,λ_=>?_,λ_=>⟨s8,_,ab,⟨D.f,D.r.mono V⟩,ad _⟩⟩,?_⟩
 .have T:∀{h:E},A.size<=h.size->Lw c [o.size,i.size,m.size] h:=λl=>lw x bF
  have ag:∀{h:E},A.size<=h.size->∀j∈o.size::i.size::b,j<h.size:=λl=>bP (v (h:=A) V) l V
  refine FW (S:=o.size::i.size::b) (ag (ad _)) (by simp[y]) (j.to D.f D.r) V (W D.f) V (j.gp.ty (t:=0) bn bn) bn (T (ad _)) λH ah Z N aj u=>?_
  have r:=λR=>kg u x (k:=o.size) ⟨V,ab.b.lt⟩ R
  refine⟨r _,r _,r _,?_⟩
  have aE:=u.size
  intro B
  have G:J Z B:=J.push _ _
  have ae:=ab.fz (by simp[y]) hk u
  have Q:fH (bH (o.size::i.size::b) B) (.mk Z.size 0 2 2) [H,.mk 9 I z]:=oZ (S:=o.size::i.size::b) (M:=Z) [(H,ah),(.mk 9 I z,s8)] aL (ag aE) (by simp;exact⟨N.sl,ae.h.sl⟩) rfl rfl
  have aT:=G.size
  refine jE (M:=B) Q (.Pr (by simp;exact⟨N.wx,h8.wx⟩)) (T V) λai aa ak L=>?_
  have al:=(((D.to u aj).ext G).ext L).put j.rd (k:=o.size) V 0 [.i 6,.i 1,.s ai]
  have hb:=((ae.ext G).ext L).set ak
  exact⟨ai,.mk 6 1 [H,.mk 9 I z],hb,al,by rw[av];have:=L.size;omega⟩
 rintro M3 ⟨F,w,u,ax,a2⟩
 refine Jv (i.size::b) f e.length q.params.length (s V) 0 λah Z N az=>?_
 have aE:=az.size
 refine wS (i.size::b) f e.length (a:=q.params.length) (s V) V λaO B al G=>?_
 have aT:=G.size
 intro aa
 have L:J B aa:=J.push _ _
 have Q:fH (bH (i.size::b) aa) (.mk B.size 0 2 2) [.mk 0 0 [],.mk 12 0 []]:=oZ (S:=i.size::b) (M:=B) [(.mk 0 0 [],ah),(.mk 12 0 [],aO)] aL (v V) (by simp;exact⟨(N.ext G).sl,al.sl⟩) rfl rfl
 have a3:=L.size
 refine jE (M:=aa) Q (.fe (a:=q.params.length) (b:=f) (c:=e.length) bn (λl=>V) bn (λl=>V) (by simp;exact⟨N.wx,al.wx⟩)) (s V) λaP aJ am aA=>?_
 intro aK au
 let⟨aR,aj,a5⟩:=BX.new (f:=aK) (d:=au) am rfl rfl
 clear_value au
 have a4:=aA.size
 have ai:=(((az.trans G).trans L).trans aA).trans aR
 have T:=ax.ext ai
 have u:=u.ext ai
 refine⟨_,u.b.cp 0,_,u.b.cp 1,_,u.b.cp 2,V,V,_,E1 T.f,?_⟩
 refine FW (S:=i.size::b) (v V) (by simp[y]) (j.to T.f T.r) V (W T.f) V (j.gp.ty X.2.2.1 X.2.2.2) bn (lw x bF) λak aQ ae an aG H=>?_
 have r:=λR=>kg H x (k:=o.size) ⟨V,u.b.lt⟩ R
 have g':=λR=>kg H x (k:=aJ.size) ⟨V,aj.b.lt⟩ R
 refine⟨?_,?_,?_,?_,?_,?_,?_⟩
 iterate 6 first|exact r _|exact g' _
 have a6:=H.size
 intro ag
 have aB:J ae ag:=J.push _ _
 have aF:=u.fz (by simp[y]) hk H
 have Q:fH (bH (i.size::b) ag) (.mk ae.size 0 3 3) [.mk 4 0 [.mk 0 0 [],.mk 12 0 []],w,ak]:=oZ (S:=i.size::b) (M:=ae) [(.mk 4 0 [.mk 0 0 [],.mk 12 0 []],aP),(w,F),(ak,aQ)] aL (v V) (by simp;exact⟨(aj.h.fm.fz (by simp[y]) H).sl,aF.h.fm.sl,an.sl⟩) rfl rfl
 refine jE (M:=ag) Q (.fe (a:=q.params.length) (b:=f) (c:=e.length) bn (λ_=>rfl) bn (λl=>V) (by simp;exact⟨am.wx,u.h.wx,an.wx⟩)) (lw x (by have:=aB.size;simp;omega)) λa1 a0 aH aS=>?_
 exact aH.iH (((T.to H aG).ext aB).ext aS) j.rd V V
end
end
section
section
variable{c:List Nat}{b P:Nat}{h d p:O}{f:List bz}{g:List dy}{m:E}
def WX.m1{d c:Nat}{x y z:Ex}(hd:f∈rU)(j:WX f d c x)(k:WX f d c y)(l:WX f d (c+2) z):WX f d c (.mk 8 1 [x,y,z]):=by
 obtain⟨e,-,g,h,-⟩:=Ny f hd;refine .mt j (by rw[e];rfl) aL λi n m b a=>?_;rw[e]at a;rcases i with _|_|i
 .simp at b a;subst b a;rw[g];exact k
 .simp at b a;subst b a;rw[h];exact l
 .simp at b
def Kg(hS:∀r∈c,r<m.size)(H:b∈c)(r:GC b h P d p f g m)(hP:P+200+2*Cg 18<=10^16){F:Nat}{q:dy}(hq:g[F]? =some q){ai:Int}(ha:0<=ai/\ai<(q.params.length:Int)):
 aN cq 282 [vp b 0,.agg #[O.v d,O.v p],vi F,vi ai] m (XP c b h m (P+200+2*Cg 18) (WX f g.length q.params.length)):=by
 apply Df (b,0)
 simp -zeta only[aD,aC]
 intro j Z
 let⟨x2,hl⟩:=dD (a:=j) (c:=Z) rfl rfl
 have s1:j.size=m.size+1:=by simp[j]
 have s2:Z.size=m.size+2:=by simp[Z,s1]
 have hr:=r.rd.lt
 clear_value Z
 have an:∀{i:E},Z.size<=i.size->∀r∈j.size::c,r<i.size:=λl=>bP hS V V
 have r2:Rs b h m P Z:=⟨x2.fz _,r.rd.ext x2⟩
 have L1:∀{i:E},Z.size<=i.size->Lw b [j.size,m.size] i:=λl=>lw hr bF
 let⟨ps,aY,e0,e1⟩:=r.hp.aG hq
 have ba:=aw hq
 have bf:=r.hp.len
 have aM:=wU _ (r.gp.dz q (aq hq))
 have h3:q.params.length<=3:=aM.1
 have PS:∀{i:E},Fz [b] m i->IR b i ps q.params:=λK=>aY.le (fh K)
 have E1:∀{i:E},Fz [b] m i->af i p.D (p.off+F*5+1)=some (vi q.aT):=λK=>(eQ.1 (fh K _ _ _ e1)).2
 have bg:=aY.len
 have a0:=r.gp.ty (t:=0) bn bn
 have be:=QG 18
 refine⟨V,V,ps,(eQ.1 (fh r2.f _ _ _ e0)).2,?_⟩
 intro m3
 have x3:J Z m3:=J.push _ _
 have aO:ap (bH [b] m3) (.mk Z.size 0 2 2) [0,1]:=ap.lit aA _ bF rfl rfl aL
 clear_value m3
 have r3:=r2.ext x3
 have z3:=x3.size
 refine(eO (S:=[b]) bF (PS r3.f) aO bF).mono λ_ m4⟨aS,wl,u,gw,qw,x4⟩=>⟨(L1 z3).dq (x4.fz _),aS,u,?_⟩
 subst qw
 have a6:IR b m4 aS (q.params++[0,1]):=GI.done gw bF bF
 have r4:=r3.ext x4
 have z4:=x4.size
 intro m5
 have x5:J m4 m5:=J.push _ _
 have g5:GE (j.size::c) m4 m5 (.mk m4.size 0 0 0) []:=Gr.new _ (ad _) _ _ _
 clear_value m5
 refine ez (n:=q.params.length) V (λN w i=>∃I,GE (j.size::c) m4 i w I/\I.length=N/\(∀u∈I,WX f g.length (q.params.length+2) u)/\Rd b h (P+N) i/\Fz [b] m4 i) ⟨[],g5,rfl,aL,(r4.r.ext x5).mono V,x5.fz _⟩ ?_
 rintro N w i a4 μ hj ⟨I,aK,bc,hw,rM,fM⟩ a8
 have FM:=r4.f.trans fM
 have zM:=fM.size
 refine⟨λl=>?_,λ_=>?_⟩
 .simp only[ar]at l
  let⟨aU,L⟩:=cG q.params N
  have iH:∀{K:Nat}{T:List Value}{y:E}{R:Nat},aN cq K T y (XP (w.D::j.size::c) b h y R (WX f g.length (q.params.length+2)))->R<=P+(N+1)->Rd b h (P+(N+1)) y->Fz [b] i y->aN cq K T y λab A=>eF [j.size,m.size] y A/\∃G C:Int,∃r2:O,ab=.agg #[vi G,vi C,O.v r2]/\
   jO (A.push (.cells (bt [.i G,.i C,.s r2]) bG)) bG [.i 0,.i 0,.s .nil] 40 w (O.mk A.size 0 1 1) λW z=>eF [j.size,m.size] (A.push (.cells (bt [.i G,.i C,.s r2]) bG)) z/\a4 W (cO ((N:Int)+1)) z/\μ W (cO ((N:Int)+1)) z<μ w N i:=λhc hQ C Y=>
   XP.kL hc (aK.eA BW.mono Y (by simp;exact⟨Or.inr H,V⟩)) (fM.trans Y) (L1 V) r4.r (by simp[H]) V λu W z s g' r' f' _ _=>
    a8 V _ _ ⟨_,g',bF,λo B=>by rcases List.mem_append.1 B with l|l;exact hw o l;simp at l;subst l;exact s,r'.mono hQ,f'⟩
  refine⟨λ_=>?_,λ_=>⟨V,V,aU,(eQ.1 ((PS FM).aG L)).2,λ_=>?_,λ_=>iH (((ms _ _ _).x rM).mono λ_ _ l=>l.mono (λu s=>s▸.Uo ⟨V,V⟩) (ad _)) V (rM.mono V) (Fz.az _ _)⟩⟩
  .rw[aP (b:=(ps.len:Int)+1) V V]
   exact iH (((ms _ _ _).x rM).mono λ_ _ l=>l.mono (λu s=>s▸.Uo ⟨V,V⟩) (ad _)) V (rM.mono V) (Fz.az _ _)
  .refine(bY rM V 2).mono λ_ m6⟨ae,en,_,_,D,B⟩=>⟨(L1 V).dq B,ae,en,λ_=>?_,λ_=>iH (((ms _ _ _).x D).mono λ_ _ l=>l.mono (λu s=>s▸.Uo ⟨V,V⟩) (ad _)) V D B⟩
   have z6:=B.size
   have aa:∀{y:E},m6.size<=y.size->∀r∈w.D::j.size::c,r<y.size:=λl=>bP (an (i:=m6) V) l (oh aK.bh.2)
   refine wS (w.D::j.size::c) f g.length (a:=q.params.length+2) (L1 V) V λs7 m7 h7 Q=>?_
   have z7:=Q.size
   refine wS (w.D::j.size::c) f g.length (a:=q.params.length+2) (L1 V) V λs8 o h8 x8=>?_
   have z8:=x8.size
   intro m9
   have x9:J o m9:=J.push _ _
   have X:fH (bH (w.D::j.size::c) m9) (.mk o.size 0 2 2) [.mk 12 N [],.mk 12 ps.len []]:=oZ (S:=w.D::j.size::c) (M:=o) [(.mk 12 N [],s7),(.mk 12 ps.len [],s8)] aL (aa V) (by simp;exact⟨(h7.ext x8).sl,h8.sl⟩) rfl rfl
   have U:=((D.ext Q).ext x8).ext x9
   exact iH ((nh U X 1 0).mono λ_ _ l=>l.mono (λu s=>s▸.fe bn (λl=>V) bn (λl=>V) (by simp;exact⟨h7.wx,h8.wx⟩)) (ad _)) V U (((B.then Q).then x8).then x9)
 refine jE (aK.done BW.mono (an (i:=m4) V) bn V) (.fe (a:=q.params.length+2) (b:=f) (c:=g.length) bn (λl=>V) bn (λ_=>⟨V,V⟩) hw) (L1 V) λs6 m6 h6 x6=>?_
 have z6:=x6.size
 intro m7 o
 let⟨x8,B8,z8⟩:=kJ (M:=m6) (d:=m7) (c:=o) rfl rfl rfl
 clear_value o
 intro m9 C
 let⟨aT,ax,vG⟩:=BX.new (f:=m9) (d:=C) (h6.ext x8) rfl rfl
 clear_value C
 have aa:Rs b h m (P+3) C:=⟨((FM.then x6).then x8).then aT,(((rM.ext x6).ext x8).ext aT).mono V⟩
 have hk:o.size≠b:=V
 have L2:∀{i:E},C.size<=i.size->Lw b [o.size,m6.size,j.size,m.size] i:=λl=>lw hr bF
 have ao:∀{i:E},C.size<=i.size->∀r∈o.size::j.size::c,r<i.size:=λl=>bP (an (i:=C) V) l V
 have aV:∀{i:E},Fz [b] m4 i->IR b i aS (q.params++[0,1]):=λK=>a6.le (fh K)
 have aX:Fz [b] m4 C:=((fM.then x6).then x8).then aT
 have wl:(q.params++[0,1]).length=q.params.length+2:=aL
 refine⟨λi=>∃w u,BX (j.size::c) f g.length (q.params.length+2) o.size i w u/\Rs b h m (P+10+Cg 18) i/\C.size<=i.size,⟨V,V,_,E1 aa.f,λaZ=>?_,λ_=>⟨V,V,_,E1 aa.f,λ_=>?_,λ_=>⟨s6,_,ax,⟨aa.f,aa.r.mono V⟩,ad _⟩⟩⟩,?_⟩
 .simp only[aI]at aZ
  refine(bY aa.r V 5).mono λ_ ac⟨ae,en,_,_,aJ,z⟩=>⟨(L2 (ad _)).dq z,ae,en,λ_=>?_,λ_=>⟨V,V,_,E1 (aa.f.trans z),λl=>by rw[aZ]at l;exact absurd l bn,λ_=>⟨s6,_,ax.fz (by simp[H]) hk z,⟨(aa.to z aJ).f,aJ.mono V⟩,z.size⟩⟩⟩
  have Q:=aa.to z aJ
  have T:=z.size
  have aW:=ax.fz (by simp[H]) hk z
  refine FW (v:=q.params++[0,1]) (S:=o.size::j.size::c) (ao T) (by simp[H]) (r.to Q.f Q.r) V (aV (aX.trans z)) bF a0 bn (L2 T) λal aB A am ak s=>?_
  rw[wl]at am
  intro Y U
  let⟨ab,aH,a_⟩:=BX.new (f:=Y) (d:=U) am rfl rfl
  clear_value U
  have a2:=s.size
  have az:=(Q.to s ak).ext ab
  have aj:=(aW.fz (by simp[H]) hk s).ext ab
  have bb:A.size≠b:=V
  have aG:HX (A.size::o.size::j.size::c) f g.length (q.params.length+2) U s6 (.mk 9 F I):=(aW.h.fz (by simp[H]) s).hO ab (ad _)
  have L3:∀{i:E},U.size<=i.size->Lw b [A.size,o.size,m6.size,j.size,m.size] i:=λl=>lw hr bF
  refine⟨λi=>∃w u,BX (o.size::j.size::c) f g.length (q.params.length+2) A.size i w u/\HX (o.size::j.size::c) f g.length (q.params.length+2) i s6 (.mk 9 F I)/\Rs b h m (P+4+Cg 18) i/\U.size<=i.size/\cD i o.size bG [.i 9,.i F,.s s6],⟨λ_=>?_,λ_=>⟨aB,al,aH,aG.fm,az,ad _,aj.b⟩⟩,?_⟩
  .let⟨aU,L⟩:=cG q.params 0
   refine⟨bn,V,aU,(eQ.1 ((PS az.f).aG L)).2,λ_=>?_,λ_=>⟨aB,al,aH,aG.fm,az,ad _,aj.b⟩⟩
   refine wS (A.size::o.size::j.size::c) f g.length (a:=q.params.length+2) (L3 (ad _)) V λaE au ay R=>?_
   have a3:=R.size
   refine wS (A.size::o.size::j.size::c) f g.length (a:=q.params.length+2) (L3 a3) V λaF G ag B=>?_
   have bh:=B.size
   intro aQ
   have a1:J G aQ:=J.push _ _
   have X:fH (bH (A.size::o.size::j.size::c) aQ) (.mk G.size 0 2 2) [.mk 12 0 [],.mk 12 ps.len []]:=oZ (S:=A.size::o.size::j.size::c) (M:=G) [(.mk 12 0 [],aE),(.mk 12 ps.len [],aF)] aL (bP (ao (i:=G) V) (ad _) V) (by simp;exact⟨(ay.ext B).sl,ag.sl⟩) rfl rfl
   have bi:=a1.size
   refine jE (M:=aQ) X (.fe (a:=q.params.length+2) (b:=f) (c:=g.length) bn (λl=>V) bn (λl=>V) (by simp;exact⟨ay.wx,ag.wx⟩)) (L3 V) λaR a7 a5 a9=>?_
   have D:=((R.trans B).trans a1).trans a9
   have hb:=(aH.ext D).set a5
   have ha:=(aG.ext D).put (k:=A.size) aL 0 [.i 11,.i 0,.s aR]
   have hB:cD (ah a7 A.size 0 [.i 11,.i 0,.s aR]) o.size bG [.i 9,.i F,.s s6]:=(aj.b.ext D).congr (bd _ _ _ _ V)
   exact⟨aR,.mk 11 0 [.mk 12 0 [],.mk 12 ps.len []],hb,ha.fm,(az.ext D).put r.rd V _ _,by rw[av];have:=D.size;omega,hB⟩
  rintro M3 ⟨w,u,L,D,W,aR,aU⟩
  refine⟨_,L.b.cp 0,_,L.b.cp 1,_,L.b.cp 2,?_⟩
  intro au
  have R:J M3 au:=J.push _ _
  have X:fH (bH (o.size::j.size::c) au) (.mk M3.size 0 2 2) [u,.mk 9 F I]:=oZ (S:=o.size::j.size::c) (M:=M3) [(u,w),(.mk 9 F I,s6)] aL (ao V) (by simp;exact⟨L.h.fm.sl,D.sl⟩) rfl rfl
  have a3:=R.size
  refine jE (M:=au) X (.Pr (by simp;exact⟨L.h.wx,D.wx⟩)) (L2 V) λaF G ag B=>?_
  have hb:=(BX.mk (e:=.mk 9 F I) ((aU.ext R).ext B) ((D.ext R).ext B)).set ag
  have aQ:=((W.ext R).ext B).put r.rd (k:=o.size) V 0 [.i 6,.i 1,.s aF]
  exact⟨aF,.mk 6 1 [u,.mk 9 F I],hb,⟨aQ.f,aQ.r.mono V⟩,by rw[av];have:=B.size;omega⟩
 .intro ac
  have D:J C ac:=J.push _ _
  have aO:ap (bH [b] ac) (.mk C.size 0 2 2) [1,2]:=ap.lit aA _ bF rfl rfl aL
  clear_value ac
  have T:=D.size
  have G:∀{y M2:E}{B:Nat},C.size<=y.size->Fz [b] y M2->m.size<=B->B<C.size->∀z,af M2 B z=af y B z:=λl K h1 h2 z=>kg K hr ⟨h1,V⟩ z
  refine⟨G (ad _) (D.fz _) V V _,G (ad _) (D.fz _) V V _,G (ad _) (D.fz _) V V _,G (ad _) (D.fz _) V V _,G (ad _) (D.fz _) V V _,?_⟩
  have Q:=aa.ext D
  refine(kE Q.r V aO aL).mono λ_ A⟨ae,en,hn,ak,s⟩=>⟨(L2 T).dq s,ae,en,G T s V V _,G T s V V _,G T s V V _,G T s V V _,G T s V V _,?_⟩
  have aH:=Q.to s ak
  have a2:=s.size
  refine FW (v:=q.params++[0,1]) (S:=o.size::j.size::c) (ao V) (by simp[H]) (r.to aH.f aH.r) V (aV ((aX.then D).trans s)) bF a0 bn (L2 V) λaF aU Y aG aQ ag=>?_
  rw[wl]at aG
  have aW:=ag.size
  refine⟨G V ag V V _,G V ag V V _,G V ag V V _,?_⟩
  intro U
  have ab:J Y U:=J.push _ _
  have az:=((ax.ext D).fz (by simp[H]) hk s).fz (by simp[H]) hk ag
  have X:fH (bH (o.size::j.size::c) U) (.mk Y.size 0 2 2) [aF,.mk 9 F I]:=oZ (S:=o.size::j.size::c) (M:=Y) [(aF,aU),(.mk 9 F I,s6)] aL (ao V) (by simp;exact⟨aG.sl,az.h.sl⟩) rfl rfl
  have a_:=ab.size
  simp at hn
  refine jE (M:=U) X (.fe (a:=q.params.length+2) (b:=f) (c:=g.length) V (λl=>V) V (λl=>V) (by simp;exact⟨aG.wx,az.h.wx⟩)) (L2 V) λaE au ay R=>?_
  have hb:=((az.ext ab).ext R).set ay
  have aJ:=(((aH.to ag aQ).ext ab).ext R).put r.rd (k:=o.size) V 0 [.i ae,.i 0,.s aE]
  exact⟨aE,.mk ae 0 [aF,.mk 9 F I],hb,⟨aJ.f,aJ.r.mono V⟩,by rw[av];have:=R.size;omega⟩
 rintro M3 ⟨w,u,L,W,aR⟩
 have L3:∀{i:E},C.size<=i.size->Lw b [m6.size,j.size,m.size] i:=λl=>lw hr bF
 have R:∀{y M2:E}{B:Nat},M3.size<=y.size->Fz [b] y M2->m.size<=B->B<C.size->∀z,af M2 B z=af y B z:=λl K h1 h2 z=>kg K hr ⟨h1,V⟩ z
 refine⟨V,V,_,E1 W.f,_,L.b.cp 0,_,L.b.cp 1,_,L.b.cp 2,?_⟩
 refine wS (j.size::c) f g.length (a:=q.params.length) (L3 aR) ha λay ac ae D=>?_
 have T:=D.size
 have gx:∀B z,m.size<=B->B<C.size->af ac B z=af M3 B z:=λB z h1 h2=>R (ad _) (D.fz _) h1 h2 z
 refine⟨gx _ _ V V,gx _ _ V V,gx _ _ V V,(E1 (W.f.then D)).trans (E1 W.f).symm,gx _ _ V V,gx _ _ V V,gx _ _ V V,?_⟩
 have Q:=W.ext D
 refine FW (S:=j.size::c) (an V) (by simp[H]) (r.to Q.f Q.r) V (PS Q.f) V (r.gp.ty aM.2.2.1 aM.2.2.2) bn (L3 V) λal aB A am ak s=>?_
 have G:∀z,af A o.size z=af ac o.size z:=R T s V V
 refine⟨G _,G _,G _,?_⟩
 have a2:=s.size
 intro Y
 have ag:J A Y:=J.push _ _
 have aj:=(L.ext D).fz (by simp[H]) hk s
 have X:fH (bH (j.size::c) Y) (.mk A.size 0 3 3) [.mk 12 ai [],al,u]:=oZ (S:=j.size::c) (M:=A) [(.mk 12 ai [],ay),(al,aB),(u,w)] aL (an V) (by simp;exact⟨(ae.fz (by simp[H]) s).sl,am.sl,aj.h.fm.sl⟩) rfl rfl
 refine jE (M:=Y) X (.m1 r.gp.ds ae.wx am.wx L.h.wx) (L3 (oh ag.size)) λaz U au ab=>?_
 exact au.iH (((Q.to s ak).ext ag).ext ab) r.rd V V
end
end
section
variable{g:E}{s:O}{l:List Int}{c f:Ex}
abbrev G3(M a:E)(k:Nat)(X:Prop):Prop:=af a k 0=af M k 0/\af a k 1=af M k 1/\af a k 2=af M k 2/\X
abbrev E3(v:Value)(X:Int->Int->O->Prop):Prop:=∃a b:Int,∃c:O,v=.agg #[vi a,vi b,O.v c]/\X a b c
abbrev N1(L:List Nat)(e:Nat)(M:E)(K:Int->Int->O->E->Prop):Prop:=aN cq 313 [vi 1,vi 0,O.v (.mk e 0 2 2)] M λv a=>eF L M a/\E3 v λb c d=>K b c d a
section
variable(L:List Nat)(k:Nat)(b:Int)(h i d p w l:O)(j a e:Nat)(F:Int->Int->O->E->Prop)
abbrev TR5(g:Nat)(M:E):Prop:=N1 L g M λd e f c=>G3 M c a (N1 L c.size (c.push (.cells (bt [.i 9,.i b,.s h,.i d,.i e,.s f]) bG)) F)
abbrev TR4(c d:Int)(e:O)(M:E):Prop:=G3 M (M.push (.cells (bt [.i c,.i d,.s e,.i 9,.i b,.s i]) bG)) a (TR5 L b h a F M.size (M.push (.cells (bt [.i c,.i d,.s e,.i 9,.i b,.s i]) bG)))
abbrev TR3(M:E):Prop:=aN cq 312 [vp k 0,.agg #[O.v d,O.v p],O.v w,vi 0,vi 4] M λv c=>eF L M c/\E3 v λe f g=>G3 M c j (G3 M c a (TR4 L b h i a F e f g c))
abbrev TR2(f:Nat)(M:E):Prop:=aN cq 187 [O.v l,O.v (.mk f 0 3 3)] M λv c=>eF L M c/\∃s:O,v=O.v s/\G3 M c j (af c e 0=af M e 0/\af c e 1=af M e 1/\G3 M c a (TR3 L k b h i d p s j a F c))
end
def _root_.Go.Vc.U9{σ τ:Type}{n:Nat}(q:n<=9223372036854775807)(e:1<=n){m:E}{h:σ}{j:τ}{g:(σ->τ->Int->E->Prop)->(σ->τ->Int->E->Nat)->σ->τ->Int->E->Prop}(Q:Nat->σ->τ->E->Prop)(o:Q 1 h j m)
 (l:∀(k:Nat)(s:σ)(t:τ)(a:E)(I:σ->τ->Int->E->Prop)(μ:σ->τ->Int->E->Nat),1<=k->k<=n->Q k s t a->
  (k<n->∀c d b,Q (k+1) c d b->I c d (cO ((k:Int)+1)) b/\μ c d (cO ((k:Int)+1)) b<μ s t k a)->g I μ s t k a):
 ∃(I:σ->τ->Int->E->Prop)(μ:σ->τ->Int->E->Nat),I h j 1 m/\∀s t i a,I s t i a->g I μ s t i a:=by
 refine⟨λs t i b=>∃k:Nat,i=k/\1<=k/\k<=n/\Q k s t b,λ_ _ i _=>(n -i).toNat,⟨1,rfl,ad _,e,o⟩,?_⟩
 rintro s t i a ⟨k,rfl,e,p,r⟩
 refine l k s t a _ _ e p r λf c d b u=>?_
 rw[jW f q]
 exact⟨⟨k+1,rfl,V,f,u⟩,DI f⟩
def PB(_:E)(a:List Ce)(n:Int):Prop:=∃s:O,a=[.i 12,.i n,.s s]/\s.len=0
def PB.mono:oG 3 PB:=⟨λ_ h=>h,λ⟨_,h,_⟩=>by rw[h];rfl⟩
abbrev GV(g m:E)(s:O)(l:List Int):Prop:=Gr [] g m bG 3 PB s l
def GV.eA{m a:E}(h:GV g m s l)(q:a[s.D]? =m[s.D]?):GV g a s l:=by
 let⟨c,b,d,e⟩:=h;exact⟨c,b,d.congr q,e.mono λ_ _ h=>h⟩
def GV.ex{a:List Nat}{m:E}(h:GV g m s l)(j:s.D∉a)(t:l.length<=1000):fH (bH a m) s (l.map λn=>.mk 12 n []):=by
 let⟨e,d,f,i⟩:=h;have H:=Gr.nK (S:=a) PB.mono ⟨e,d,f,i.mono λ_ _ h=>h⟩ j bn V;refine⟨by rw[H.len];simp,H.cap,H.gV,λq c b=>?_⟩;simp only[cJ,jI]at b;obtain⟨n,k,rfl⟩:=b;obtain⟨r,⟨u,rfl,p⟩,o⟩:=H.iD q n k;exact⟨_,BW.of ⟨p,V,V,aL⟩,o⟩
structure AS(S:List Nat)(ds:List bz)(nf a n0 k Q rb:Nat)(bs:O)(m M:E)(sl:O)(el:Ex)(sr:O)(er:Ex):Prop where
 b:cD M k bG [.i 0,.i 0,.s .nil]
 hk:n0<=k
 l:HX (k::S) ds nf a M sl el
 r:HX (k::S) ds nf a M sr er
 s:Rs rb bs m Q M
section
variable{S:List Nat}{e:List bz}{h a n k Q r b:Nat}{d o p:O}{m M q:E}{i j:Ex}
def AS.ext(f:AS S e h a n k Q b d m M o i p j)(c:J M q):AS S e h a n k Q b d m q o i p j:=⟨f.b.ext c,f.hk,f.l.ext c,f.r.ext c,f.s.ext c⟩
def AS.fz(c:AS S e h a n k Q b d m M o i p j)(g:b∈S)(l:k≠b)(f:Fz [b] M q)(s:Rd b d r q):AS S e h a n k r b d m q o i p j:=⟨c.b.congr (f.same k c.b.lt (by simpa using l)),c.hk,c.l.fz (by simp[g]) f,c.r.fz (by simp[g]) f,c.s.to f s⟩
def AS.new(f:n<=M.size)(l:HX S e h a M o i)(r:HX S e h a M p j)(s:Rs b d m Q M):J M (M.push (.cells (bt [.i 0,.i 0,.s .nil]) bG))/\AS S e h a n M.size Q b d m (M.push (.cells (bt [.i 0,.i 0,.s .nil]) bG)) o i p j:=
 have c:=J.push M (.cells (bt [.i 0,.i 0,.s .nil]) bG)
 ⟨c,cD.push _ _ _,f,l.hO c (ad _),r.hO c (ad _),s.ext c⟩
end
section
variable{h:List Nat}{b P:Nat}{o d p:O}{i:List bz}{j:List dy}{m:E}
def WX.m3{e d:Nat}{z:Ex}(hd:i∈rU)(l:WX i e d c)(m:WX i e d f)(n:WX i e (d+3) z):WX i e d (.mk 8 3 [c,f,z]):=by
 obtain⟨-,g,-,-,j,k⟩:=Ny i hd;refine .mt l (by rw[g];rfl) aL λh p o b a=>?_;rw[g]at a;rcases h with _|_|h
 .simp at b a;subst b a;rw[j];exact m
 .simp at b a;subst b a;rw[k];exact n
 .simp at b
def WX.add{b a:Nat}(d:WX i b a c)(e:WX i b a f):WX i b a (.mk 1 0 [c,f]):=.fe bn (λh=>V) bn (λh=>V) (by simp;exact⟨d,e⟩)
def Kh(hS:∀F∈h,F<m.size)(aU:b∈h)(F:GC b o P d p i j m)(hP:P+200+3*Cg 18<=10^16){C:Nat}{w:dy}(hq:j[C]? =some w)(bI:1<=w.params.length):
 aN cq 283 [vp b 0,.agg #[O.v d,O.v p],vi C] m (XP h b o m (P+200+3*Cg 18) (WX i j.length w.params.length)):=by
 apply Dg (b,0)
 simp -zeta only[aD,aC]
 intro A au
 let⟨x2,hl⟩:=dD (a:=A) (c:=au) rfl rfl
 have s1:A.size=m.size+1:=by simp[A]
 have s2:au.size=m.size+2:=by simp[au,s1]
 have hr:=F.rd.lt
 clear_value au
 have ay:∀{g:E},au.size<=g.size->∀F∈A.size::h,F<g.size:=λz=>bP hS V V
 have r2:Rs b o m P au:=⟨x2.fz _,F.rd.ext x2⟩
 have L1:∀{g:E},au.size<=g.size->Lw b [A.size,m.size] g:=λz=>lw hr bF
 let⟨ps,bk,e0,e1⟩:=F.hp.aG hq
 have bY:=aw hq
 have b2:=F.hp.len
 have bc:=wU _ (F.gp.dz w (aq hq))
 have h3:w.params.length<=3:=bc.1
 have PS:∀{g:E},Fz [b] m g->IR b g ps w.params:=λD=>bk.le (fh D)
 have E1:∀{g:E},Fz [b] m g->af g p.D (p.off+C*5+1)=some (vi w.aT):=λD=>(eQ.1 (fh D _ _ _ e1)).2
 have b3:=bk.len
 have bs:=F.gp.ty (t:=0) bn bn
 have aB:b∈A.size::h:=by simp[aU]
 refine⟨V,V,ps,(eQ.1 (fh r2.f _ _ _ e0)).2,?_⟩
 refine wS (A.size::h) i j.length (a:=w.params.length+3) (L1 (ad _)) V λs3 Z bC x3=>?_
 have z3:=x3.size
 intro m4
 have x4:J Z m4:=J.push _ _
 have g4:GV Z m4 (.mk Z.size 0 1 1) [(ps.len:Int)]:=Gr.lit (f:=[[.i 12,.i ps.len,.s s3]]) PB.mono (ad _) aL rfl rfl ⟨rfl,aL,λaE F B hj q=>by
  have:aE=0:=by have:=aw hj;simp at this;omega
  subst this;simp at hj q;subst hj q;exact⟨s3,rfl,bC.sl.len⟩⟩
 have s4:m4.size=Z.size+1:=by simp[m4]
 clear_value m4
 rw[aP (b:=(ps.len:Int)+2) V V]
 refine wS (A.size::h) i j.length (a:=w.params.length+3) (L1 V) V λs5 m5 h5 x5=>?_
 have z5:=x5.size
 intro m6
 have x6:J m5 m6:=J.push _ _
 have g6:GV m5 m6 (.mk m5.size 0 1 1) [(ps.len:Int)+2]:=Gr.lit (f:=[[.i 12,.i (ps.len+2),.s s5]]) PB.mono (ad _) aL rfl rfl ⟨rfl,aL,λaE F B hj q=>by
  have:aE=0:=by have:=aw hj;simp at this;omega
  subst this;simp at hj q;subst hj q;exact⟨s5,rfl,h5.sl.len⟩⟩
 clear_value m6
 have r3:=r2.ext x3
 have vq:∀{g u:E}{L:Int}{s:O}{l:List Int}{aX:O->E->Prop}{aT:O},GV Z g s l->J Z g->l.length<=10->aT.len=0->(∀R u,GV Z u R (l++[L])->J Z u->g.size<=u.size->(R.D=s.D\/g.size<=R.D)->(∀H,H<g.size->H≠s.D->u[H]? =g[H]?)->aX R u)->
  jO (g.push (.cells (bt [.i 12,.i L,.s aT]) bG)) bG [.i 0,.i 0,.s .nil] 40 s (.mk g.size 0 1 1) aX:=λaQ c hl ht hk=>
  Gr.kL (g:=[.i 0,.i 0,.s .nil]) (X:=[]) PB.mono bn aQ (c.fz []) ⟨_,rfl,ht⟩ V λR u g' f' aJ w=>hk R u g' f'.ext aJ.1 aJ.2 w
 refine U9 (n:=w.params.length) V bI (λaE s aT g=>∃l l',GV Z g s l/\GV Z g aT l'/\l.length=aE/\l'.length=aE/\(∀L∈l,0<=L/\L<((w.params.length+3:Nat):Int))/\(∀L∈l',0<=L/\L<((w.params.length+3:Nat):Int))/\J Z g/\s.D≠aT.D) ⟨_,_,(g4.eA ((x5.trans x6).same _ (by show Z.size<_;omega))),Gr.cv PB.mono g6 (λ_ z=>Or.inl z) V,rfl,rfl,bF,bF,(x4.trans x5).trans x6,by show Z.size≠m5.size;omega⟩ ?_
 rintro aE s aT g bW μ bZ hj ⟨l,l',aQ,g',b0,b1,hw,bo,xM,bE⟩ bL
 have zM:=xM.size
 have RM:=r3.ext xM
 refine⟨λz=>?_,λ_=>?_⟩
 .simp only[ar]at z
  refine wS (A.size::h) i j.length (a:=w.params.length+3) (L1 V) V λs7 W h7 x7=>?_
  have gy:=aQ.bh;have aZ:=g'.bh
  have z7:=x7.size
  intro m8
  refine vq (u:=W) (aQ.eA (x7.same _ gy.2)) (xM.trans x7) V h7.sl.len λr9 m9 r x9 z9 Y T=>?_
  refine⟨(L1 (g:=Z) z3).tG ((((xM.trans x7).trans (J.push W _)).fz [b])) (x9.fz _),?_⟩
  refine wS (A.size::h) i j.length (a:=w.params.length+3) (L1 V) V λaa ag a8 ai=>?_
  intro bp
  have N:=((g'.eA (x7.same _ aZ.2)).eA (T _ V (kG bE))).eA (ai.same _ V)
  have vG:=ai.size
  refine vq (u:=W) N (x9.trans ai) V a8.sl.len λbe K I aH bS U Q=>?_
  refine⟨(L1 (g:=Z) z3).tG (((x9.trans ai).trans (J.push ag _)).fz [b]) (aH.fz _),bL V _ _ _ ⟨_,_,(r.eA (ai.same _ r.bh.2)).eA (Q _ (oh r.bh.2) V),I,bF,bF,λL q=>?_,λL q=>?_,aH,oh r.bh.2⟩⟩
  .rcases List.mem_append.1 q with z|z
   .exact hw L z
   .simp at z;omega
  .rcases List.mem_append.1 q with z|z
   .exact bo L z
   .simp at z;omega
 have gy:=aQ.bh;have aZ:=g'.bh
 have nS:∀H,Z.size<=H->H∉A.size::h:=λH hb z=>by have:=ay (g:=au) (ad _) H z;omega
 have bf:∀l:List Int,(∀L∈l,0<=L/\L<((w.params.length+3:Nat):Int))->WX i j.length (w.params.length+3) (.mk 9 C (l.map λL=>.mk 12 L [])):=λl hl=>.fe bn (λz=>V) bn (λ_=>⟨V,V⟩) (by simp;exactλL q=>.Uo (hl L q))
 refine jE (aQ.ex (nS _ gy.1) V) (bf l hw) (L1 V) λsl W h7 x7=>?_
 intro m8 m9
 obtain⟨x9,-,z9⟩:=kJ (M:=W) (d:=m8) (c:=m9) rfl rfl rfl
 clear_value m9
 have z7:=x7.size
 refine jE ((g'.eA ((x7.trans x9).same _ aZ.2)).ex (nS _ aZ.1) V) (bf l' bo) (lw hr bF) λsr ag a8 ai=>?_
 intro bp K
 obtain⟨aH,-,bS⟩:=kJ (M:=ag) (d:=bp) (c:=K) rfl rfl rfl
 clear_value K
 have vG:=ai.size
 have a9:=((h7.ext x9).ext ai).ext aH
 have ba:=a8.ext aH
 generalize bh:Ex.mk 9 C (l.map λL=>.mk 12 L [])=el at a9
 generalize bi:Ex.mk 9 C (l'.map λL=>.mk 12 L [])=er at ba
 have be:=(((RM.ext x7).ext x9).ext ai).ext aH
 have bX:=((x7.trans x9).trans ai).trans aH
 have bj:∀{r:Nat},K.size<=r->r≠b:=λz=>V
 have G:∀{g u:E}{r aS:Nat},K.size<=g.size->Fz [b] g u->m.size<=r->r<K.size->af u r aS=af g r aS:=λz D h1 h2=>kg D hr ⟨h1,V⟩ _
 have L4:∀{g:E},K.size<=g.size->Lw b [ag.size,W.size,A.size,m.size] g:=λz=>lw hr bF
 have L5:∀{g:E}{r:Nat},K.size<=r->r<g.size->Lw b [r,ag.size,W.size,A.size,m.size] g:=λz h'=>lw hr bF
 have a1:∀{g:E}{r:Nat},K.size<=r->r<g.size->∀F∈r::A.size::h,F<g.size:=λz h'=>bP (ay (g:=K) V) V h'
 have a5:=λ(c f:Ex)=>WX.add (i:=i) (b:=j.length) (a:=w.params.length+3) (c:=c) (f:=f)
 let aX:=λ(r:Nat)(g:E)=>∃s B,BX (A.size::h) i j.length (w.params.length+3) r g s B/\HX (r::A.size::h) i j.length (w.params.length+3) g sl el/\Rs b o m (P+Cg 18) g
 have bz:∃k9,el=.mk 9 C k9:=⟨_,bh.symm⟩
 have bA:∃k9,er=.mk 9 C k9:=⟨_,bi.symm⟩
 clear bh bi
 obtain⟨kl,rfl⟩:=bz
 obtain⟨kr,rfl⟩:=bA
 let ax:=λ(r aY:Nat)(g:E)=>AS (A.size::h) i j.length (w.params.length+3) K.size r (P+aY) b o m g sl (.mk 9 C kl) sr (.mk 9 C kr)
 let aO:=λr=>[r,ag.size,W.size,A.size,m.size]
 let K0:=λ(jQ:Nat×Nat)(g:E)=>jQ.2=0/\K.size<=jQ.1/\aX jQ.1 g
 let aM:=λ(r:Nat)(q H:Int)(F:O)(u:E)=>K0 (r,0) (ah u r 0 [.i q,.i H,.s F])
 have H3:∀{g u:E}{Q:Prop},K.size<=g.size->Fz [b] g u->Q->G3 g u W.size Q:=λI D c=>⟨G I D V V,G I D V V,G I D V V,c⟩
 have H6:∀{g u:E}{Q:Prop},K.size<=g.size->Fz [b] g u->Q->G3 g u ag.size (G3 g u W.size Q):=λI D c=>⟨G I D V V,G I D V V,G I D V V,H3 I D c⟩
 have H5:∀{g u:E}{Q:Prop},K.size<=g.size->Fz [b] g u->Q->af u m.size 0=af g m.size 0/\af u m.size 1=af g m.size 1/\G3 g u W.size Q:=λI D c=>⟨G I D V V,G I D V V,H3 I D c⟩
 have H8:∀{g u:E}{Q:Prop},K.size<=g.size->Fz [b] g u->Q->G3 g u ag.size (af u m.size 0=af g m.size 0/\af u m.size 1=af g m.size 1/\G3 g u W.size Q):=λI D c=>⟨G I D V V,G I D V V,G I D V V,H5 I D c⟩
 have R7:∀{r t0:Nat}{g:E}{B:Ex},ax r (Cg 18) g->fH (bH (r::A.size::h) g) (.mk t0 0 2 2) [.mk 9 C kl,B]->WX i j.length (w.params.length+3) B->N1 (aO r) t0 g (aM r):=λq hs hw=>
  jE hs (a5 _ _ q.l.wx hw) (L5 q.hk q.b.lt) λs' u h' c=>by
   have hb:=(BX.mk (e:=.mk 0 0 []) (s:=.nil) (q.b.ext c) ⟨⟨rfl,ad _,aL,aL⟩,.int 0⟩).set h';exact⟨rfl,q.hk,s',_,hb,(q.l.ext c).put aL _ _,(q.s.ext c).put F.rd (oh q.hk) _ _⟩
 have R6:∀{r:Nat}{g:E}{s:O}{q H:Int}{kk:List Ex},ax r (Cg 18) g->HX (r::A.size::h) i j.length (w.params.length+3) g s (.mk q H kk)->N1 (aO r) g.size (g.push (.cells (bt [.i 9,.i C,.s sl,.i q,.i H,.s s]) bG)) (aM r):=λq z=>
  R7 (q.ext (J.push _ _)) (oZ [(.mk 9 C kl,sl),(.mk _ _ _,_)] aL (a1 q.hk q.b.lt) (by simp;exact⟨q.l.sl,z.sl⟩) rfl rfl) z.wx
 have R5:∀{r t0:Nat}{g:E}{B:Ex},ax r (Cg 18) g->fH (bH (r::A.size::h) g) (.mk t0 0 2 2) [B,.mk 9 C kr]->WX i j.length (w.params.length+3) B->TR5 (aO r) C sl W.size (aM r) t0 g:=λq hs hw=>
  jE hs (a5 _ _ hw q.r.wx) (L5 q.hk q.b.lt) λs' u h' c=>
   have I:=QC (nH q.hk q.b.lt)
   H3 I (c.fz _) (R6 (q.ext c) h')
 have R4:∀{r:Nat}{g:E}{s:O}{B:Ex},ax r (Cg 18) g->HX (r::A.size::h) i j.length (w.params.length+3) g s B->TR4 (aO r) C sl sr W.size (aM r) B.op B.bQ s g:=λ{r g s B} q z=>
  have c:=J.push g (.cells (bt [.i B.op,.i B.bQ,.s s,.i 9,.i C,.s sr]) bG)
  have I:=QC (nH q.hk q.b.lt)
  H3 I (c.fz _) (R5 (q.ext c) (oZ [(B,s),(.mk 9 C kr,sr)] aL (a1 q.hk q.b.lt) (by simp;exact⟨z.sl,q.r.sl⟩) rfl rfl) z.wx)
 have bg:∀{a6 L':List Nat}{g:E}{ab:O}{K':Int->Int->O->E->Prop},(∀F∈a6,F<g.size)->b∈a6->Rs b o m P g->IR b g ab (w.params++[3,0,3])->Lw b L' g->(∀B s u,HX a6 i j.length (w.params.length+3) u s B->Rd b o (P+Cg 18) u->Fz [b] g u->K' B.op B.bQ s u)->aN cq 312 [vp b 0,.agg #[O.v d,O.v p],O.v ab,vi 0,vi 4] g λbO u=>eF L' g u/\∃r0 r1:Int,∃r2:O,bO=.agg #[vi r0,vi r1,O.v r2]/\K' r0 r1 r2 u:=λbD bJ R hw hL hk=>
  FW (v:=w.params++[3,0,3]) bD bJ (F.to R.f R.r) V hw bF bs bn hL λB s u z d D=>hk B s u (by simpa using z) d D
 have R3:∀{r:Nat}{g:E}{ab:O},ax r 0 g->IR b g ab (w.params++[3,0,3])->TR3 (aO r) b C sl sr d p ab ag.size W.size (aM r) g:=λq hw=>
  bg (a1 q.hk q.b.lt) (by simp[aU]) q.s hw (L5 q.hk q.b.lt) λB s u z d' D=>
   have I:=QC (nH q.hk q.b.lt)
   H6 I D (R4 (q.fz aB (bj q.hk) D d') z)
 have R2:∀{r t0:Nat}{g:E},ax r 0 g->ap (bH [b] g) (.mk t0 0 3 3) [3,0,3]->TR2 (aO r) b C sl sr d p ps ag.size W.size m.size (aM r) t0 g:=λq hw=>
  (eO (S:=[b]) (by simp;exact q.s.r.lt) (PS q.s.f) hw bF).mono λ_ u⟨ab,wl,B,gw,qw,c⟩=>by
   subst qw;have I:=QC (nH q.hk q.b.lt);exact⟨(L5 q.hk q.b.lt).dq (c.fz _),ab,B,H8 I (c.fz _) (R3 (q.ext c) (GI.done gw (by simp;exact q.s.r.lt) bF))⟩
 have aG:∀{g:E}{aY:Nat},K.size<=g.size->HX (A.size::h) i j.length (w.params.length+3) g sl (.mk 9 C kl)->HX (A.size::h) i j.length (w.params.length+3) g sr (.mk 9 C kr)->Rs b o m (P+aY) g->J g (g.push (.cells (bt [.i 0,.i 0,.s .nil]) bG))/\ax g.size aY (g.push (.cells (bt [.i 0,.i 0,.s .nil]) bG)):=λh1 h2 h3 h4=>AS.new h1 h2 h3 h4
 have r0:Rs b o m (P+0) K:=be
 have wl:∀g:E,b<g.size->ap (bH [b] (g.push (.cells (bt [.i 3,.i 0,.i 3]) aA))) (.mk g.size 0 3 3) [3,0,3]:=λg z=>ap.lit aA _ (by simp;exact z) rfl rfl aL
 refine⟨K0,⟨?_,?_⟩,?_⟩
 .intro ac
  have N:J K ac:=J.push _ _
  have a3:ap (bH [b] ac) (.mk K.size 0 3 3) [3,0,3]:=wl K be.r.lt
  clear_value ac
  have aK:=N.size
  have a_:=a9.ext N;have bb:=ba.ext N;have Y:=r0.ext N
  refine H8 (ad _) (N.fz _) ⟨?_,?_⟩
  .refine(eO (S:=[b]) (by simp;exact Y.r.lt) (PS Y.f) a3 bF).mono λ_ al⟨ab,bQ,B,gw,qw,T⟩=>⟨(L4 aK).dq (T.fz _),ab,B,H8 aK (T.fz _) ⟨?_,?_⟩⟩
   all_goals have a4:IR b al ab (w.params++[3,0,3]):=qw▸GI.done gw (by simp;exact Y.r.lt) (by rw[<-qw];simp;omega)
   all_goals have bw:=T.size
   .refine bg (a6:=A.size::h) (ay V) aB (Y.ext T) a4 (L4 V) λaj a2 am ak a7 ae=>H6 V ae ⟨?_,?_⟩
    all_goals have az:=(a_.ext T).fz aB ae
    all_goals have aR:=(bb.ext T).fz aB ae
    all_goals have aW:=(Y.ext T).to ae a7
    all_goals have bT:=ae.size
    .intro ao
     have aa:J am ao:=J.push _ _
     have bl:fH (bH (A.size::h) ao) (.mk am.size 0 2 2) [aj,.mk 9 C kr]:=oZ [(aj,a2),(.mk 9 C kr,sr)] aL (ay V) (by simp;exact⟨ak.sl,aR.sl⟩) rfl rfl
     have bU:=aa.size
     refine H3 V (aa.fz _) ⟨?_,?_⟩
     .refine jE (M:=ao) bl (a5 _ _ ak.wx aR.wx) (L4 V) λbM aF a0 aI=>H3 V (aI.fz _) ⟨?_,?_⟩
      all_goals have Q:=aa.trans aI
      all_goals have bV:=aI.size
      .intro aV
       have an:J aF aV:=J.push _ _
       have bm:fH (bH (A.size::h) aV) (.mk aF.size 0 2 2) [.mk 9 C kl,.mk 1 0 [aj,.mk 9 C kr]]:=oZ [(.mk 9 C kl,sl),(.mk 1 0 [aj,.mk 9 C kr],bM)] aL (ay V) (by simp;exact⟨(az.ext Q).sl,a0.sl⟩) rfl rfl
       have b4:=an.size
       refine⟨?_,?_⟩
       .refine jE (M:=aV) bm (a5 _ _ az.wx a0.wx) (L4 V) λbN bq bB bu=>?_
        have b5:=bu.size
        intro br
        have bR:J bq br:=J.push _ _
        refine H8 V (bR.fz _) ?_
        intro bK
        let⟨bv,bx,b6⟩:=BX.new (f:=br) (d:=bK) bB rfl rfl
        have U:=Q.trans (an.trans bu)
        exact⟨rfl,by show K.size<=bq.size;omega,bN,_,bx,(az.ext U).hO bv (ad _),(aW.ext U).ext bv⟩
       .let⟨U,q⟩:=aG (g:=aV) V ((az.ext Q).ext an) ((aR.ext Q).ext an) ((aW.ext Q).ext an)
        exact H8 V (U.fz _) (R7 q (fH.le (U.bH λH hb=>(List.mem_cons.1 hb).elim (λz=>Or.inr V) Or.inl) bm) a0.wx)
      .let⟨U,q⟩:=aG (g:=aF) V (az.ext Q) (aR.ext Q) (aW.ext Q)
       exact H8 V (U.fz _) (R6 q (a0.hO U (ad _)))
     .let⟨U,q⟩:=aG (g:=ao) V (az.ext aa) (aR.ext aa) (aW.ext aa)
      exact H8 V (U.fz _) (R5 q (fH.le (U.bH λH hb=>(List.mem_cons.1 hb).elim (λz=>Or.inr V) Or.inl) bl) ak.wx)
    .let⟨U,q⟩:=aG (g:=am) V az aR aW
     exact H8 V (U.fz _) (R4 q (ak.hO U (ad _)))
   .let⟨U,q⟩:=aG (g:=al) V (a_.ext T) (bb.ext T) (Y.ext T)
    exact H8 V (U.fz _) (R3 q (a4.le (fh (U.fz _))))
  .let⟨U,q⟩:=aG (g:=ac) aK a_ bb Y
   exact H8 aK (U.fz _) (R2 q (a3.le (fh (U.fz _))))
 .let⟨U,q⟩:=aG (g:=K) (ad _) a9 ba r0
  have za:=U.size
  intro ac
  refine H8 (ad _) (U.fz _) ?_
  intro al
  have T:J ac al:=J.push _ _
  exact H8 za (T.fz _) (R2 (q.ext T) (wl ac q.s.r.lt))
 rintro⟨r,aS⟩ g ⟨ho,hk,s,B,H,hl,R⟩
 simp only at ho hk H hl
 subst ho
 have bv:=H.b.lt
 have a_:=bj hk
 have U:∀{u:E},g.size<=u.size->Lw b [ag.size,W.size,A.size,m.size] u:=λz=>L4 V
 have I:K.size<=g.size:=V
 have a0:∀{u:E},g.size<=u.size->∀F∈r::A.size::h,F<u.size:=λz=>a1 hk V
 refine⟨λu=>∃s B,BX (A.size::h) i j.length (w.params.length+3) r u s B/\Rs b o m (P+2*Cg 18) u/\g.size<=u.size,⟨V,V,_,E1 R.f,λ_=>?_,λ_=>⟨s,B,H,⟨R.f,R.r.mono V⟩,ad _⟩⟩,?_⟩
 .intro ac
  have N:J g ac:=J.push _ _
  have a3:ap (bH [b] ac) (.mk g.size 0 3 3) [3,0,3]:=wl g R.r.lt
  clear_value ac
  have aK:=N.size
  have Y:=R.ext N
  refine H5 I (N.fz _) ?_
  refine(eO (S:=[b]) (by simp;exact Y.r.lt) (PS Y.f) a3 bF).mono λ_ al⟨ab,bQ,e',gw,qw,T⟩=>⟨(U aK).dq (T.fz _),ab,e',H5 V (T.fz _) ?_⟩
  have a4:IR b al ab (w.params++[3,0,3]):=qw▸GI.done gw (by simp;exact Y.r.lt) (by rw[<-qw];simp;omega)
  have bw:=T.size
  have aR:=Y.ext T
  refine FW (v:=w.params++[3,0,3]) (S:=r::A.size::h) (a0 V) (by simp[aU]) (F.to aR.f aR.r) V a4 bF bs bn (U V) λaj a2 am ak a7 ae=>H3 V ae ?_
  have ak:HX (r::A.size::h) i j.length (w.params.length+3) am a2 aj:=by simpa using ak
  have bT:=ae.size
  refine wS (r::A.size::h) i j.length (a:=w.params.length+3) (U V) V λbm ao az aa=>H3 V (aa.fz _) ?_
  intro aF
  have aI:J ao aF:=J.push _ _
  have bU:=aa.size
  have bb:=(((hl.ext N).ext T).fz (by simp[aU]) ae).ext aa
  have hs:fH (bH (r::A.size::h) aF) (.mk ao.size 0 3 3) [.mk 9 C kl,aj,.mk 12 (ps.len+2) []]:=oZ [(.mk 9 C kl,sl),(aj,a2),(.mk 12 (ps.len+2) [],bm)] aL (a0 V) (by simp;exact⟨bb.sl,(ak.ext aa).sl,az.sl⟩) rfl rfl
  have bV:=aI.size
  refine jE (M:=aF) hs (.Pr (by simp;exact⟨bb.wx,ak.wx,az.wx⟩)) (U V) λbq aV br an=>?_
  have aW:=((((H.ext N).ext T).fz (by simp[aU]) a_ ae).ext (aa.trans aI)).ext an
  have hb:=aW.set br
  have bl:=(((aR.to ae a7).ext (aa.trans aI)).ext an).put F.rd (k:=r) V 0 [.i 6,.i 3,.s bq]
  exact⟨aW.b.fL aL,λb' bu=>bd _ _ _ _ (by simp at bu;omega),bq,.mk 6 3 [.mk 9 C kl,aj,.mk 12 (ps.len+2) []],hb,⟨bl.f,bl.r.mono V⟩,by rw[av];have:=an.size;omega⟩
 rintro M3 ⟨s,B,H,R,aJ⟩
 refine⟨V,V,_,E1 R.f,_,H.b.cp 0,_,H.b.cp 1,_,H.b.cp 2,?_⟩
 refine wS (A.size::h) i j.length (a:=w.params.length) (U aJ) V λaV ac ak N=>?_
 have aK:=N.size
 have ae:∀{M1 M2:E}{aS:Nat},g.size<=M1.size->Fz [b] M1 M2->af M2 r aS=af M1 r aS:=λz D=>kg D hr ⟨V,V⟩ _
 refine⟨ae aJ (N.fz _),ae aJ (N.fz _),ae aJ (N.fz _),(E1 (R.f.then N)).trans (E1 R.f).symm,G V (N.fz _) V V,G V (N.fz _) V V,G V (N.fz _) V V,?_⟩
 have Y:=R.ext N
 refine FW (S:=A.size::h) (ay V) aB (F.to Y.f Y.r) V (PS Y.f) V (F.gp.ty bc.2.2.1 bc.2.2.2) bn (U V) λaj aW al an aR T=>⟨ae V T,ae V T,ae V T,?_⟩
 have bw:=T.size
 intro am
 have aF:J al am:=J.push _ _
 have aI:=(H.ext N).fz aB a_ T
 have hs:fH (bH (A.size::h) am) (.mk al.size 0 3 3) [.mk 12 0 [],aj,B]:=oZ [(.mk 12 0 [],aV),(aj,aW),(B,s)] aL (ay V) (by simp;exact⟨(ak.fz aB T).sl,an.sl,aI.h.fm.sl⟩) rfl rfl
 refine jE (M:=am) hs (.m3 F.gp.ds ak.wx an.wx H.h.wx) (U (oh aF.size)) λbm ao az aa=>?_
 exact az.iH (((Y.to T aR).ext aF).ext aa) F.rd V V
end
end
end Go.Proofs.YtkoifinbblcbiaaGreat
