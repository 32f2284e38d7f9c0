/- Part of a proof, joined by a program. -/
import Derived.Test.YtgnjacfobdjeeaaGreatO07
import Derived.Test.YtgnjacfobdjeeaaGreatO08
set_option linter.unusedVariables false
set_option linter.unusedSimpArgs false
set_option linter.defProp false
set_option linter.constructorNameAsVariable false
set_option maxHeartbeats 8000000
set_option maxRecDepth 100000
namespace Go.Proofs.YtgnjacfobdjeeaaGreat
open Go.Vc
section
variable{f b:Nat}{h g:List bM}{e e':Nat->Int}{w:Int}{c d:bM}
def mS:∀(l r:List Int)(f:Nat),dS (l++r) f=dS l f+dS r f
 |[],r,f=>by simp[dS]
 |w::l,r,f=>by simp only[cR,dS,mS l r f];omega
def xC:∀(l:List Int)(f:Nat),dS l.reverse f=dS l f
 |[],f=>rfl
 |w::l,f=>by simp only[YK,mS,xC l f,dS];omega
def gL:∀(l:List Int)(f:Nat),0<=dS l f
 |[],f=>by simp[dS]
 |w::l,f=>by have:=gL l f;simp only[dS];split<;>omega
def ms:∀{l:List Int}{f:Nat},(1000+(f:Int))∉l->dS l f=0
 |[],f,_=>rfl
 |w::l,f,h=>by
  simp only[aS,tA]at h;simp only[dS,ms h.2];rw[ae (λe=>h.1 e.symm)];rfl
def sJ:∀{l:List Int}{f:Nat},(1000+(f:Int))∈l->1<=dS l f
 |[],f,h=>by simp at h
 |w::l,f,h=>by
  simp only[dS];rcases List.mem_cons.1 h with rfl|h
  ·rw[aq rfl];have:=gL l f;omega
  ·have:=sJ h;split<;>omega
def LZ{l:List Int}(h:0<dS l f):(1000+(f:Int))∈l:=
 eA λa=>by rw[ms a]at h;omega
def PU(n:Nat)(f:Nat):dS (fH n) f=0:=ms λh=>by have:=Su h;omega
def tS:∀(l:List Int)(f:Nat),dS (pR l) f=dS l f
 |[],f=>rfl
 |w::l,f=>by
  have:=tS l f;simp only[pR]at this⊢;rw[List.filter_cons];split
  ·simp only[dS,this]
  ·rename_i h;simp only[dS,this];rw[ae (λe=>h bK)];omega
def jM:∀(l:List Int)(f:Nat),dS l f<=l.length
 |[],f=>by simp[dS]
 |w::l,f=>by have:=jM l f;simp only[dS,bg];split<;>omega
def sL:∀(h k:List bM)(f:Nat),dq (h++k) f=dq h f+dq k f
 |[],k,f=>by simp[dq]
 |c::h,k,f=>by simp only[cR,dq,sL h k f];omega
def nV:∀(h:List bM)(f:Nat),0<=dq h f
 |[],f=>by simp[dq]
 |c::h,f=>by have:=nV h f;have:=gL c.aK f;simp only[dq];omega
def xF:∀{h:List bM}{f:Nat}{c:bM}(e:bM)(_:h[f]? =some c)(b:Nat),dq (h.set f e) b=dq h b -dS c.aK b+dS e.aK b
 |[],f,c,e,h,b=>by simp at h
 |d::h,0,c,e,g,b=>by simp at g;subst g;simp only[ig,dq];omega
 |d::h,f+1,c,e,g,b=>by
  have:=xF (h:=h) (f:=f) e (by simpa using g) b;simp only[ic,dq,this];omega
def Jf:∀{h:List bM}{f:Nat},0<dq h f->∃c∈h,(1000+(f:Int))∈c.aK
 |[],f,h=>by simp[dq]at h
 |c::h,f,g=>by
  simp only[dq]at g;rcases fX (0<dS c.aK f)with b|b
  ·exact⟨c,ba,LZ b⟩
  ·obtain⟨d,e,i⟩:=Jf (h:=h) (f:=f) (by have:=gL c.aK f;omega);exact⟨d,ai _ e,i⟩
def Pq:∀{h:List bM}{c:bM}(_:c∈h)(f:Nat),dS c.aK f<=dq h f
 |[],c,a,f=>by simp at a
 |d::h,c,a,f=>by
  simp only[dq];rcases List.mem_cons.1 a with rfl|a
  ·have:=nV h f;omega
  ·have:=Pq a f;have:=gL d.aK f;omega
structure mI(h:List bM)(c:bM):Prop where
 fl:c.aK.length<=3
 lo: -1<=c.aQ
 hi:c.aQ<=999999
 uH:c.aQ<1->c.lp=0/\(∀w∈c.aK,w=0)/\(c.aQ=0->c.aK=[])
 oC:0<c.aQ->(∀w∈c.aK,oL h w)/\0<=c.lp/\c.lp<=99
def Qb(h:List bM):Prop:=∃a:Nat->Nat,∀(i:Nat)(c:bM),h[i]? =some c->∀w∈c.aK,1000<=w->a (ix w)<a i
structure fp(h:List bM)(e:Nat->Int):Prop where
 cell:∀c∈h,mI h c
 JX:Qb h
 ex:∀(f:Nat)(c:bM),h[f]? =some c->0<c.aQ->c.aQ=dq h f+e f
 nn:∀f,0<=e f
 lv:∀f,0<e f->jB h f
def fp.congr(c:fp h e)(a:∀b,e' b=e b):fp h e':=by
 have:e'=e:=funext a;rw[this];exact c
def jL(f:Nat):ix (1000+(f:Int))=f:=by unfold ix;omega
def gP(h:1000<=w):1000+((ix w:Nat):Int)=w:=by unfold ix;omega
def Oo{v:Int}(a:1000<=v)(b:1000<=w)(h:ix v=ix w):v=w:=by rw[<-gP a,<-gP b,h]
def fp.field(i:fp h e)(g:c∈h)(f:w∈c.aK)(j:1000<=w):jc h w:=by
 have d:=i.cell c g;rcases fX (0<c.aQ)with b|b
 ·rcases(d.oC b).1 w f with a|a
  ·have:=a.2;omega
  ·exact a
 ·have:=(d.uH V).2.1 w f;omega
def fp.Up(d:fp h e)(g:¬jB h f):dq h f=0:=by
 rcases fX (0<dq h f)with a|a
 ·obtain⟨c,b,i⟩:=Jf a;have:=(d.field b i V).2;rw[jL]at this;exact absurd this g
 ·have:=nV h f;omega
def fp.VE(a:fp h e)(c:¬jB h f):e f=0:=by
 have:=a.nn f;rcases fX (0<e f)with b|b
 ·exact absurd (a.lv f b) c
 ·omega
def fV(a:b≠f):(h.set f c)[b]? =h[b]? :=by rw[dQ (λe=>a e.symm)]
def eD(a:h[f]? =some d):(h.set f c)[f]? =some c:=by
 rw[dA (ax a)]
def jB.ne(a:b≠f):jB (h.set f c) b<->jB h b:=by unfold jB;rw[fV a]
def jB.Du(a:h[f]? =some d):jB (h.set f c) f<->0<c.aQ:=by
 unfold jB;rw[eD a];simp
def oL.mono(c:oL h w)(b:1000<=w->jB h (ix w)->jB g (ix w)):oL g w:=by
 rcases c with a|a
 ·exact Or.inl a
 ·exact Or.inr ⟨a.1,b a.1 a.2⟩
def mI.mono{h g:List bM}{c:bM}(a:mI h c)(e:0<c.aQ->∀w∈c.aK,1000<=w->jB h (ix w)->jB g (ix w)):mI g c:=
 ⟨a.fl,a.lo,a.hi,a.uH,λb=>⟨λw d=>((a.oC b).1 w d).mono (e b w d),(a.oC b).2⟩⟩
def pd{x:bM}(i:x∈h.set f c):x=c\/∃b,b≠f/\h[b]? =some x:=by
 obtain⟨b,a⟩:=List.mem_iff_getElem?.1 i;by_cases e:b=f
 ·subst e;rw[List.getElem?_set_self']at a;cases g:h[b]? with
  |none=>simp[g]at a
  |some d=>simp[g]at a;exact Or.inl a.symm
 ·rw[fV e]at a;exact Or.inr ⟨b,e,a⟩
def fp.HV(k:fp h e)(i:h[f]? =some c)(j:0<c.aQ){n:Int}(x:0<n)(v:n<=999999)
 (o:∀b,e' b=e b+if b=f then n -c.aQ else 0)(t:0<=e' f):fp (h.set f {c with aQ:=n}) e':=by
 have q:∀b,jB (h.set f {c with aQ:=n}) b<->jB h b:=λb=>by
  by_cases a:b=f
  ·subst a;rw[jB.Du i];exact⟨λ_=>⟨c,i,j⟩,λ_=>x⟩
  ·exact jB.ne a
 have y:∀b,dq (h.set f {c with aQ:=n}) b=dq h b:=λb=>by rw[xF _ i];simp only[];omega
 refine⟨λB z=>?_,?_,λb d g u=>?_,λb=>?_,λb m=>?_⟩
 ·rcases pd z with rfl|⟨b,_,m⟩
  ·have r:=k.cell c (au i)
   exact⟨r.fl,by simp only[];omega,v,λs=>by simp only[]at s;omega,λ_=>⟨λw l=>((r.oC j).1 w l).mono λ_ p=>(q _).2 p,(r.oC j).2⟩⟩
  ·exact(k.cell B (au m)).mono λ_ w _ _ p=>(q _).2 p
 ·obtain⟨A,s⟩:=k.JX
  refine⟨A,λp d g w l j=>?_⟩
  by_cases r:p=f
  ·subst r;rw[eD i]at g;simp at g;subst g;exact s p c i w l j
  ·rw[fV r]at g;exact s p d g w l j
 ·rw[y,o]
  by_cases a:b=f
  ·subst a;rw[eD i]at g;simp at g;subst g
   have:=k.ex b c i j
   simp only[aq];omega
  ·rw[fV a]at g
   have:=k.ex b d g u
   rw[ae a];omega
 ·by_cases a:b=f
  ·subst a;exact t
  ·rw[o,ae a];have:=k.nn b;omega
 ·rw[q]
  by_cases a:b=f
  ·subst a;exact⟨c,i,j⟩
  ·rw[o,ae a]at m;exact k.lv b V
def fp.On(k:fp h e)(n:h[f]? =some c)(J:c.aQ=1)(K:0<e f){c':bM}(D: -1<=c'.aQ)(M:c'.aQ<1)(H:c'.lp=0)
 (s:∀w∈c'.aK,w=0)(C:c'.aK.length<=3)(B:c'.aQ=0->c'.aK=[])
 (q:∀b,e' b=e b -(if b=f then 1 else 0)+dS c.aK b):fp (h.set f c') e':=by
 have p:=k.ex f c n V
 have P:=nV h f
 have O:dq h f=0:=V
 have L:e f=1:=V
 have v:∀x∈h,(1000+(f:Int))∉x.aK:=λx p g=>by
  have:=Pq p f;have:=sJ g;omega
 have N:dS c.aK f=0:=ms (v c (au n))
 have F:∀b,dS c'.aK b=0:=λb=>ms λg=>by have:=s _ g;omega
 have u:∀b,b≠f->jB h b->jB (h.set f c') b:=λb i r=>(jB.ne i).2 r
 have E:∀x∈h,∀w∈x.aK,1000<=w->ix w≠f:=λx p w g o z=>by
  have:=gP o;rw[z]at this;rw[<-this]at g;exact v x p g
 refine⟨λx p=>?_,?_,λb d j A=>?_,λb=>?_,λb m=>?_⟩
 ·rcases pd p with rfl|⟨b,_,m⟩
  ·exact⟨C,D,V,λ_=>⟨H,s,B⟩,λo=>V⟩
  ·exact(k.cell x (au m)).mono λ_ w g o r=>u _ (E x (au m) w g o) r
 ·obtain⟨I,G⟩:=k.JX
  refine⟨I,λy d j w g o=>?_⟩
  by_cases t:y=f
  ·subst t;rw[eD n]at j;simp at j;subst j;have:=s w g;omega
  ·rw[fV t]at j;exact G y d j w g o
 ·rw[xF _ n,F,q]
  by_cases i:b=f
  ·subst i;rw[eD n]at j;simp at j;subst j;omega
  ·rw[fV i]at j
   have:=k.ex b d j A
   rw[ae i];omega
 ·rw[q]
  have:=k.nn b
  have:=gL c.aK b
  split
  ·rename_i i;subst i;omega
  ·omega
 ·rw[q]at m
  by_cases i:b=f
  ·subst i;rw[aq rfl]at m;omega
  ·rw[ae i]at m
   refine u b i ?_
   rcases fX (0<e b)with t|t
   ·exact k.lv b t
   ·have:=k.nn b
    have g:=LZ (l:=c.aK) (f:=b) V
    have:=(k.field (au n) g V).2
    rwa[jL]at this
def fp.make(m:fp h e){x:Int}{i:List Int}(s:¬jB h f)(q:g[f]? =some ⟨1,x,i⟩)(p:∀b,b≠f->g[b]? =h[b]?)
 (G:∀b,dq g b=dq h b+dS i b)(A:∀w∈i,oL h w)(D:i.length<=3)(I:0<=x/\x<=99)(y:∀b,dS i b<=e b)
 (u:∀b,e' b=e b -dS i b+if b=f then 1 else 0):fp g e':=by
 have v:∀b,jB h b->jB g b:=λb j=>by
  by_cases c:b=f
  ·subst c;exact absurd j s
  ·unfold jB;rw[p b c];exact j
 have N:=m.VE s
 have P:=m.Up s
 have O:dS i f=0:=by have:=gL i f;have:=y f;omega
 refine⟨λM K=>?_,?_,λb d a C=>?_,λb=>?_,λb k=>?_⟩
 ·obtain⟨b,k⟩:=List.mem_iff_getElem?.1 K
  by_cases c:b=f
  ·subst c;rw[q]at k;simp at k;subst k
   exact⟨D,E,E,λl=>by simp at l,λ_=>⟨λw o=>(A w o).mono λ_ j=>v _ j,I⟩⟩
  ·rw[p b c]at k
   exact(m.cell M (au k)).mono λ_ w _ _ j=>v _ j
 ·obtain⟨t,H⟩:=m.JX
  refine⟨λl=>if l=f then(i.map λw=>t (ix w)).sum+1 else t l,λl d a w o z=>?_⟩
  have J:ix w≠f:=λB=>by
   have F:jc h w:=by
    by_cases n:l=f
    ·subst n;rw[q]at a;simp at a;subst a;rcases A w o with r|r
     ·have:=r.2;omega
     ·exact r
    ·rw[p l n]at a;exact m.field (au a) o z
   exact s (B▸F.2)
  simp only[ae J]
  by_cases n:l=f
  ·subst n;rw[q]at a;simp at a;subst a
   rw[aq rfl]
   have:∀(r:List Int),w∈r->t (ix w)<=(r.map λw=>t (ix w)).sum:=by
    intro r j;induction r with
    |nil=>simp at j
    |cons Q r L=>
     simp only[cg,List.sum_cons];rcases List.mem_cons.1 j with rfl|j
     ·omega
     ·have:=L j;omega
   have:=this i o;omega
  ·rw[ae n];rw[p l n]at a;exact H l d a w o z
 ·rw[G,u]
  by_cases c:b=f
  ·subst c;rw[q]at a;simp at a;subst a
   rw[aq rfl];simp only[];omega
  ·rw[p b c]at a
   have:=m.ex b d a C
   rw[ae c];omega
 ·rw[u];have:=y b;split<;>omega
 ·rw[u]at k
  by_cases c:b=f
  ·subst c;exact⟨_,q,E⟩
  ·rw[ae c]at k
   exact v b (m.lv b (by have:=gL i b;omega))
def fp.iC:∀(n:Nat)(h:List bM)(o:List Int)(e:Nat->Int),GW h+o.length<=n->fp h (λb=>e b+dS o b)->(∀b,0<=e b)->fp (iC h o) e
 |n,h,[],e,_,a,_=>by rw[zg];exact a.congr λb=>by simp[dS]
 |n,h,w::r,e,f,a,d=>by
  rcases fX (jc h w)with c|c
  ·obtain⟨g,m⟩:=cp c;have s:=gP c.1;have l:∀b,dS (w::r) b=(if b=ix w then 1 else 0)+dS r b:=λb=>by
    simp only[dS];congr 1;by_cases k:b=ix w
    ·subst k;rw[aq s.symm,aq rfl]
    ·rw[ae k,ae (λi=>k (by rw[i,jL]))]
   have p:=lB (d:=jx) g;by_cases j:(aX h w).aQ=1
   ·rw[zh c j];simp only[aq m,jx]at p;simp at p;cases n with
    |zero=>simp at f
    |succ n=>
    refine fp.iC n _ _ e ?_ (fp.On a g j ?_ bd bd rfl (by simp[jx]) (by simp[jx]) (λ_=>rfl) λb=>?_) d
    ·simp[jx]at f⊢;omega
    ·simp only[l,aq];have:=d (ix w);have:=gL r (ix w);omega
    ·simp only[l,mS,xC];omega
   ·rw[uI c j];have q:=lB (d:={aX h w with aQ:=(aX h w).aQ -1}) g;simp only[aq m]at q;rw[aq V]at q;have t:=(a.cell _ (au g)).hi;cases n with
    |zero=>simp at f
    |succ n=>
    refine fp.iC n _ _ e ?_ (fp.HV a g m V V (λb=>?_) ?_) d
    ·simp only[bg]at f;simp only[fG];omega
    ·simp only[l];split<;>omega
    ·have:=d (ix w);have:=gL r (ix w);omega
  ·rw[uJ c];cases n with
   |zero=>simp at f
   |succ n=>
   refine fp.iC n _ _ e (by simp at f;omega) (a.congr λb=>?_) d;simp only[dS];rw[ae]
   ·omega
   ·intro i;have:=a.lv b (by simp only[dS,aq i];have:=d b;have:=gL r b;omega);exact c ⟨V,by rw[i,jL];exact this⟩
def rK(h:List bM):∀n,jS h n<=n
 |0=>ad _
 |n+1=>by
  simp only[jS];have:=rK h n;split
  ·split<;>omega
  ·omega
def rJ(h:List bM):∀(n k:Nat)(c:bM),jS h n<=k->k<n->h[k]? =some c->c.aQ=0
 |0,k,c,_,d,_=>V
 |n+1,k,c,a,e,b=>by
  simp only[jS]at a;by_cases d:k=n
  ·subst d;rw[b]at a;simp only[]at a;split at a
   ·assumption
   ·omega
  ·split at a
   ·split at a
    ·exact rJ h n k c a V b
    ·omega
   ·exact rJ h n k c a V b
def JP(h:List bM):∀(n:Nat)(c:bM),n<=h.length->h[jS h n -1]? =some c->0<jS h n->c.aQ≠0
 |0,c,_,_,b=>by simp[jS]at b
 |n+1,c,g,a,b=>by
  simp only[jS]at a b;obtain⟨d,f⟩:=ag (l:=h) (k:=n) V;rw[f]at a b;simp only[]at a b;split at a
  ·rename_i e;rw[aq e]at b;exact JP h n c V a b
  ·rename_i e;simp at a;rw[f]at a;simp at a;subst a;exact e
def mC(h:List bM):Prop:=∀c,h[h.length -1]? =some c->c.aQ≠0
def El(h:List bM):mC (p7 h):=by
 intro c a;have d:=rK h h.length;unfold p7 at a;rw[fY,iR d]at a;rcases jq (jS h h.length)with b|b
 ·rw[b]at a;simp at a
 ·rw[dj V]at a;exact JP h _ c (ad _) a b
def KZ:∀{h:List bM},(∀c∈h,c.aK=[])->∀f,dq h f=0
 |[],_,f=>rfl
 |c::h,a,f=>by simp only[dq,a c ba,dS,KZ (λd b=>a d (ai _ b)) f];rfl
def fp.p7{h:List bM}{e:Nat->Int}(d:fp h e):fp (p7 h) e:=by
 have u:=rK h h.length;have q:∀(b:Nat)(c:bM),h[b]? =some c->c.aQ≠0->b<jS h h.length:=λb c a i=>
  eA λv=>i (rJ h h.length b c V (ax a) a)
 have k:∀(b:Nat)(c:bM),(Go.Proofs.YtgnjacfobdjeeaaGreat.p7 h)[b]? =some c->h[b]? =some c:=λb c a=>by
  unfold Go.Proofs.YtgnjacfobdjeeaaGreat.p7 at a;have:=ax a;rw[fY]at this;rwa[dj V]at a
 have l:∀b,jB h b->jB (Go.Proofs.YtgnjacfobdjeeaaGreat.p7 h) b:=λb⟨c,a,j⟩=>⟨c,by
  unfold Go.Proofs.YtgnjacfobdjeeaaGreat.p7;rw[dj (q b c a V)];exact a,j⟩
 have s:∀b,dq (Go.Proofs.YtgnjacfobdjeeaaGreat.p7 h) b=dq h b:=λb=>by
  have m:h=Go.Proofs.YtgnjacfobdjeeaaGreat.p7 h++h.drop (jS h h.length):=(de _ _).symm;have n:dq (h.drop (jS h h.length)) b=0:=KZ (λc a=>by
   obtain⟨o,g⟩:=List.mem_iff_getElem?.1 a;rw[qb]at g;have i:=rJ h h.length _ c V (ax g) g;exact((d.cell c (au g)).uH V).2.2 i) b
  have o:=rQ (λg=>dq g b) m;simp only[sL,n]at o;omega
 refine⟨λc a=>?_,?_,λf c a j=>?_,d.nn,λf p=>l f (d.lv f p)⟩
 ·obtain⟨b,g⟩:=List.mem_iff_getElem?.1 a;exact(d.cell c (au (k b c g))).mono λ_ w _ _ r=>l _ r
 ·obtain⟨t,r⟩:=d.JX;exact⟨t,λg c a=>r g c (k g c a)⟩
 ·rw[s];exact d.ex f c (k f c a) j
end
section
variable{b:List Int}{i x r:Int}{c:cD}{f:aZ}{s:St}
def qR(c:0<=i)(d:i<b.length):b[i.toNat]? =some (u b i):=by
 obtain⟨x,a⟩:=ag (l:=b) (k:=i.toNat) V;simp[u,a]
def LA(h:b[i.toNat]? =some x):u b i=x:=by simp[u,h]
def iv(a:0<=i)(c:i<b.length):u b i∈b:=ik (qR a c)
def jH(b:List Int)(i v:Int):(gU b i v).length=b.length:=by simp[gU]
def qZ{v:Int}(h:x∈gU b i v):x=v\/x∈b:=by
 rcases cx h with h|h
 ·exact Or.inr h
 ·exact Or.inl h
def Dx(b:List Int)(i v:Int)(k:Nat):(gU b i v)[k]? =if k=i.toNat/\k<b.length then some v else b[k]? :=by
 unfold gU;by_cases h:k=i.toNat
 ·subst h;by_cases a:i.toNat<b.length
  ·rw[dA a,aq ⟨rfl,a⟩]
  ·rw[ae V,CF V]
 ·rw[ae V,dQ (λe=>h e.symm)]
def EW:∀(av aW:List Int)(k:Nat)(w o e d:Int)(a:Nat),av[k]? =some e->aW[k]? =some d->
 cz (av.set k w) (aW.set k o) a=cz av aW a -(if e=1000+(a:Int)then d else 0)+(if w=1000+(a:Int)then o else 0)
 |[],aW,k,w,o,e,d,a,b,c=>by simp at b
 |r::f,[],k,w,o,e,d,a,b,c=>by simp at c
 |r::f,q::g,0,w,o,e,d,a,b,c=>by
  simp at b c;subst b;subst c;simp only[ig,cz];omega
 |r::f,q::g,k+1,w,o,e,d,a,b,c=>by
  have:=EW f g k w o e d a (by simpa using b) (by simpa using c);simp only[ic,cz,this];omega
def Q7{k:Nat}(h:b[k]? =some x):b.set k x=b:=by
 apply fI;intro i;by_cases a:k=i
 ·subst a;rw[dA (ax h),h]
 ·rw[dQ a]
def EV{av aW:List Int}(c:0<=r)(d:r<av.length)(e:r<aW.length)(o:Int)(a:Nat):
 cz av (gU aW r o) a=cz av aW a+(if u av r=1000+(a:Int)then o -u aW r else 0):=by
 have b:=qR c d
 have:=EW av aW r.toNat (u av r) o _ _ a b (qR c e)
 rw[Q7 b]at this
 rw[gU,this];split<;>omega
def KV{av aW:List Int}(b:0<=r)(c:r<av.length)(d:r<aW.length)(e:u aW r=0)(w o:Int)(a:Nat):
 cz (gU av r w) (gU aW r o) a=cz av aW a+(if w=1000+(a:Int)then o else 0):=by
 have:=EW av aW r.toNat w o _ _ a (qR b c) (qR b d)
 rw[gU,gU,this,e];split<;>omega
def px:∀{av aW:List Int},(∀o∈aW,0<=o)->∀a,0<=cz av aW a
 |[],aW,h,a=>by cases aW<;>simp[cz]
 |r::b,[],h,a=>by simp[cz]
 |r::b,o::d,h,a=>by
  have:=px (av:=b) (aW:=d) (λx c=>h x (ai _ c)) a;have:=h o ba;simp only[cz];split<;>omega
def rf:∀{av aW:List Int},RF aW->∀a,cz av aW a=0
 |[],aW,h,a=>by cases aW<;>simp[cz]
 |r::b,[],h,a=>by simp[cz]
 |r::b,o::d,h,a=>by
  have:=rf (av:=b) (aW:=d) (λx c=>h x (ai _ c)) a;have:=h o ba;simp only[cz,this];split<;>omega
def Dn:∀{e d:List Int}(c b:List Int),e.length=d.length->∀a,cz (e++c) (d++b) a=cz e d a+cz c b a
 |[],[],c,b,_,a=>by simp[cz]
 |[],_::_,_,_,h,_=>by simp at h
 |_::_,[],_,_,h,_=>by simp at h
 |r::g,o::f,c,b,h,a=>by
  have:=Dn (e:=g) (d:=f) c b (by simpa using h) a;simp only[cR,cz,this];omega
def I7:∀{av aW:List Int}{e:Nat}{w o:Int}(_:∀o∈aW,0<=o)(_:av[e]? =some w)(_:aW[e]? =some o){c:Nat}(_:w=1000+(c:Int)),o<=cz av aW c
 |[],_,_,_,_,_,a,_,_,_=>by simp at a
 |_::_,[],_,_,_,_,_,b,_,_=>by simp at b
 |r::i,q::h,0,w,o,d,a,b,c,f=>by
  simp at a b;subst a;subst b;have:=px (av:=i) (aW:=h) (λx g=>d x (ai _ g)) c;simp only[cz,aq f];omega
 |r::i,q::h,e+1,w,o,d,a,b,c,f=>by
  have:=I7 (av:=i) (aW:=h) (e:=e) (λx g=>d x (ai _ g)) (by simpa using a) (by simpa using b) f;have:=d q ba;simp only[cz];split<;>omega
def eU:∀(b r:List aZ)(a:Nat),dD (b++r) a=dD b a+dD r a
 |[],r,a=>by simp[dD]
 |f::b,r,a=>by simp only[cR,dD,eU b r a];omega
def jF(f:aZ)(a:Nat):dD [f] a=cz f.av f.aW a:=by simp[dD]
def dI:∀(b r:List aZ)(a:Nat),holds (b++r) a=holds b a+holds r a
 |[],r,a=>by simp[holds]
 |f::b,r,a=>by simp only[cR,holds,dI b r a];omega
def gT(f:aZ)(a:Nat):holds [f] a=dS f.bn a:=by simp[holds]
def tJ:∀(b:List aZ)(a:Nat),0<=holds b a
 |[],a=>by simp[holds]
 |f::b,a=>by have:=tJ b a;have:=gL f.bn a;simp only[holds];omega
def pI(av:List Int):∀(a aW:List Int),(dx av aW a).length=aW.length
 |[],aW=>rfl
 |r::a,aW=>by simp only[dx];rw[pI av a];split<;>simp[jH]
def vy{av:List Int}:∀(b aW:List Int),(∀r∈b,0<=r/\r<av.length)->av.length=aW.length->∀a,cz av (dx av aW b) a=cz av aW a -dS (b.map (u av)) a
 |[],aW,_,_,a=>by simp[dx,dS]
 |r::b,aW,h,c,a=>by
  have e:=h r ba;have f:=λaW c=>vy (av:=av) b aW (λx d=>h x (ai _ d)) c a;simp only[dx,cg,dS];by_cases d:1000<=u av r
  ·rw[aq d,f _ (by rw[jH];exact c),EV e.1 e.2 V];split<;>omega
  ·rw[ae d,f _ c,ae V];omega
def rH{av:List Int}:∀(b aW:List Int)(k:Nat)(o:Int),(dx av aW b)[k]? =some o->∃q,aW[k]? =some q/\o<=q
 |[],aW,k,o,h=>⟨o,h,dZ _⟩
 |r::b,aW,k,o,h=>by
  simp only[dx]at h;obtain⟨q,a,d⟩:=rH b _ k o h;split at a
  ·rw[Dx]at a;split at a
   ·rename_i c;obtain⟨y,e⟩:=ag c.2;have f:u aW r=y:=by rw[u,iH,<-c.1,e];rfl
    simp at a;exact⟨y,e,V⟩
   ·exact⟨q,a,d⟩
  ·exact⟨q,a,d⟩
def sD:∀(a aW:List Int),(eL aW a).length=aW.length
 |[],aW=>rfl
 |r::a,aW=>by simp only[eL];rw[sD a,jH]
def CP{av:List Int}:∀(b aW:List Int),(∀r∈b,0<=r/\r<av.length)->av.length=aW.length->∀a,cz av (eL aW b) a=cz av aW a+dS (b.map (u av)) a
 |[],aW,_,_,a=>by simp[eL,dS]
 |r::b,aW,h,d,a=>by
  have c:=h r ba;simp only[eL,cg,dS];rw[CP (av:=av) b _ (λx e=>h x (ai _ e)) (by rw[jH];exact d) a,EV c.1 c.2 V];split<;>omega
def Ij{av:List Int}:∀(c aW:List Int),(∀r∈c,0<=r/\r<aW.length/\1000<=u av r)->
 (∀(k:Nat)(o w:Int),aW[k]? =some o->av[k]? =some w->0<=o/\(0<o->1000<=w))->∀(k:Nat)(o w:Int),(eL aW c)[k]? =some o->av[k]? =some w->0<=o/\(0<o->1000<=w)
 |[],aW,_,h,k,o,w,a,b=>h k o w a b
 |r::c,aW,f,h,k,o,w,a,b=>by
  refine Ij (av:=av) c (gU aW r (u aW r+1)) (λx d=>by rw[jH];exact f x (ai _ d)) (λk o w a b=>?_) k o w a b;rw[Dx]at a;split at a
  ·rename_i e;have d:=f r ba;have g:u av r=w:=by rw[u,iH,<-e.1,b];rfl
   have i:=h k (u aW r) w (by rw[e.1];exact qR d.1 d.2.1) b;simp at a;exact⟨V,λ_=>V⟩
  ·exact h k o w a b
def eQ(h:List bM)(a:Nat):Prop:=∃c,h[a]? =some c/\c.aQ<0
structure fS(c:cD)(f:aZ):Prop where
 eS:0<=f.eS/\f.eS<c.cA.length
 pc:0<=f.pc/\f.pc<(dF c f.eS).cE.length
 lr:(f.av.length:Int)=(dF c f.eS).av
 lo:(f.aW.length:Int)=(dF c f.eS).av
 lh:(f.bn.length:Int)=(dF c f.eS).av
 OA:∀w∈f.av,gA w\/1000<=w
 aW:∀(k:Nat)(o w:Int),f.aW[k]? =some o->f.av[k]? =some w->0<=o/\(0<o->1000<=w)
 bn:∀w∈f.bn,w=0\/1000<=w
structure cN(c:cD)(s:St):Prop where
 fK:lO c
 cL:0<=s.cL/\s.cL<=3
 done:s.cL=0<->s.ak=[]
 value:gA s.value
 rL:s.value≠0->s.cL=0
 dK:0<=s.dK/\s.dK<=40
 bI:0<=s.bI/\s.bI<=s.dK
 depth:(s.ak.length:Int)<=s.bI+1
 bo:∀n∈s.bo,gA n
 heap:fp s.heap (dD s.ak)
 iA:mC s.heap
 ak:∀f∈s.ak,fS c f
 first:∀f,s.ak[0]? =some f->f.dst=0
 chain:∀(k:Nat)(f g:aZ),s.ak[k]? =some f->s.ak[k+1]? =some g->0<=g.dst/\g.dst<f.aW.length/\u f.aW g.dst=0
 jy:∀a,eQ s.heap a->holds s.ak a=1
 lL:∀a,¬eQ s.heap a->holds s.ak a=0
def fS.Nj(h:fS c f):∀o∈f.aW,0<=o:=λo d=>by
 obtain⟨b,a⟩:=List.mem_iff_getElem?.1 d;have g:=ax a;have:=h.lo;have:=h.lr;obtain⟨w,e⟩:=ag (l:=f.av) (k:=b) V;exact(h.aW b o w a e).1
def Dq{c:cD}:∀{b:List aZ},(∀f∈b,fS c f)->∀a,0<=dD b a
 |[],_,a=>by simp[dD]
 |f::b,h,a=>by
  have:=Dq (λg d=>h g (ai _ d)) a;have:=px (av:=f.av) (h f ba).Nj a;simp only[dD];omega
def cN.split(h:cN c s)(b:s.cL=3):∃a f,s.ak=a++[f]:=by
 have:s.ak≠[]:=λe=>by have:=h.done.2 e;omega
 exact⟨s.ak.dropLast,s.ak.getLast this,(gV this).symm⟩
def fS.IP(j:lO c)(h:fS c f):∃p,c.cA[f.eS.toNat]? =some p/\dF c f.eS=p/\EB c p/\p.cE[f.pc.toNat]? =some (eZ c f)/\gG c p f.pc.toNat (eZ c f):=by
 obtain⟨p,b⟩:=ag (l:=c.cA) (k:=f.eS.toNat) (by have:=h.eS;omega);have e:dF c f.eS=p:=by simp[dF,b]
 have g:=j.df p (au b);have m:=h.pc;rw[e]at m;obtain⟨i,a⟩:=ag (l:=p.cE) (k:=f.pc.toNat) V;have d:eZ c f=i:=by simp[eZ,e,a]
 exact⟨p,b,e,g,d▸a,d▸g.df _ _ a⟩
def cN.hO(h:cN c s)(A:s.cL=3){d:List aZ}{g:aZ}(j:s.ak=d++[f]){b:List bM}{bo:List Int}(o:fS c g)(hd:g.dst=f.dst)
 (r:fp b (dD (d++[g])))(w:mC b)(t:∀a,eQ b a->holds (d++[g]) a=1)(x:∀a,¬eQ b a->holds (d++[g]) a=0)(v:∀n∈bo,gA n){bI:Int}(n:s.bI<=bI/\bI<=s.dK):
 cN c {s with heap:=b,bo:=bo,bI:=bI,ak:=d++[g]}:=by
 have z:=h.bI
 have m:=h.depth
 rw[j]at m
 refine⟨h.fK,h.cL,⟨λe=>by simp at e;omega,λe=>by simp at e⟩,h.value,h.rL,h.dK,⟨by simp only[];omega,n.2⟩,by simp at m⊢;omega,v,r,w,λq a=>?_,λq a=>?_,λl p q b a=>?_,t,x⟩
 ·rcases List.mem_append.1 a with a|a
  ·exact h.ak q (by rw[j];exact bB _ a)
  ·simp at a;subst a;exact o
 ·have i:=h.first
  rw[j]at i
  cases d with
  |nil=>simp at a;subst a;rw[hd];exact i f E
  |cons y k=>simp at a;subst a;exact i y E
 ·have k:=h.chain l
  rw[j]at k
  simp only[]at b a
  have u:=ax a
  simp at u
  rw[aw V]at b
  rcases aV (l+1) d.length with i|i
  ·rw[aw i]at a
   exact k p q (by rw[aw V];exact b) (by rw[aw i];exact a)
  ·rw[aF i]at a
   have e:l+1 -d.length=0:=V
   rw[e]at a;simp at a;subst a
   rw[hd]
   exact k p f (by rw[aw V];exact b) (by rw[aF i,e];rfl)
end
section
variable{h:List bM}{a:Nat}{c d:bM}{w:Int}{e e':Nat->Int}
def eQ.ne{b:Nat}(d:b≠a):eQ (h.set a c) b<->eQ h b:=by unfold eQ;rw[fV d]
def eQ.Du(b:h[a]? =some d):eQ (h.set a c) a<->c.aQ<0:=by unfold eQ;rw[eD b];simp
def eQ.set(i:h[a]? =some d)(j:0<=d.aQ)(k:0<=c.aQ)(b:Nat):eQ (h.set a c) b<->eQ h b:=by
 by_cases g:b=a
 ·subst g;rw[eQ.Du i];refine⟨λl=>V,λ⟨e,f,m⟩=>?_⟩;rw[i]at f;simp at f;subst f;omega
 ·exact eQ.ne g
def eQ.Re(f:eQ h a):¬jB h a:=λ⟨c,e,i⟩=>by
 obtain⟨d,b,g⟩:=f;rw[e]at b;simp at b;subst b;omega
def eQ.fG(c:jc h w)(b:Nat):eQ (fG h w) b<->eQ h b:=by
 obtain⟨a,d⟩:=cp c;exact eQ.set a V (by simp only[];omega) b
def eQ.nJ(c:jc h w)(b:Nat):eQ (nJ h w) b<->eQ h b:=by
 obtain⟨a,d⟩:=cp c;exact eQ.set a V (by simp only[];omega) b
def eQ.On(c:jc h w)(b:Nat):eQ (h.set (ix w) jx) b<->eQ h b:=by
 obtain⟨a,d⟩:=cp c;exact eQ.set a V (by simp[jx]) b
def eQ.iC:∀(n:Nat)(h:List bM)(i:List Int),GW h+i.length<=n->∀b,eQ (iC h i) b<->eQ h b
 |n,h,[],_,b=>by rw[zg]
 |0,h,w::r,c,b=>by simp at c
 |n+1,h,w::r,c,b=>by
  simp only[bg]at c;rcases fX (jc h w)with a|a
  ·obtain⟨f,g⟩:=cp a;by_cases d:(aX h w).aQ=1
   ·have e:=lB (d:=jx) f;simp only[aq g,jx]at e;simp at e;rw[zh a d,eQ.iC n _ _ (by simp[jx];omega) b,eQ.On a]
   ·have e:=lB (d:={aX h w with aQ:=(aX h w).aQ -1}) f;simp only[aq g]at e;rw[aq V]at e;rw[uI a d,eQ.iC n _ _ (by simp only[Go.Proofs.YtgnjacfobdjeeaaGreat.fG];omega) b,eQ.fG a]
  ·rw[uJ a,eQ.iC n _ _ V b]
def eQ.p7{h:List bM}(b:Nat):eQ (p7 h) b<->eQ h b:=by
 have f:=rK h h.length;unfold eQ Go.Proofs.YtgnjacfobdjeeaaGreat.p7;constructor
 ·rintro⟨c,a,d⟩;have:=ax a;rw[fY]at this;rw[dj V]at a;exact⟨c,a,d⟩
 ·rintro⟨c,a,d⟩;refine⟨c,?_,d⟩;rw[dj]
  ·exact a
  ·exact eA λe=>by have:=rJ h h.length b c V (ax a) a;omega
def fp.nJ(c:fp h e)(f:jc h w)(i:(aX h w).aQ<999999)(a:∀b,e' b=e b+if b=ix w then 1 else 0):fp (nJ h w) e':=by
 obtain⟨d,g⟩:=cp f;refine c.HV d g V V (λb=>?_) ?_
 ·rw[a];split<;>omega
 ·rw[a];have:=c.nn (ix w);split<;>omega
def MS(a:jc h w){v:Int}(d:1000<=v):(aX (nJ h w) v).aQ=(aX h v).aQ+(if v=w then 1 else 0):=by
 obtain⟨c,f⟩:=cp a;unfold nJ;by_cases e:v=w
 ·subst e;rw[aq rfl];conv=>lhs;unfold aX
  rw[eD c];rfl
 ·rw[ae e];conv=>lhs;unfold aX
  rw[fV (λb=>e (Oo d a.1 b))];simp[aX]
def jB.nJ{h:List bM}{w:Int}(a:jc h w)(b:Nat):jB (nJ h w) b<->jB h b:=by
 obtain⟨c,d⟩:=cp a;by_cases e:b=ix w
 ·subst e;unfold Go.Proofs.YtgnjacfobdjeeaaGreat.nJ;rw[jB.Du c];exact⟨λ_=>a.2,λ_=>by simp only[];omega⟩
 ·exact jB.ne e
def gK(d:1000<=w)(r:List Int)(b:Nat):dS (w::r) b=(if b=ix w then 1 else 0)+dS r b:=by
 simp only[dS];congr 1;have e:=gP d;by_cases a:b=ix w
 ·subst a;rw[aq e.symm,aq rfl]
 ·rw[ae a,ae (λc=>a (by rw[c,jL]))]
def fp.jZ:∀(a:List Int)(h:List bM)(e e':Nat->Int),fp h e->(∀w∈a,jc h w/\(aX h w).aQ+dS a (ix w)<=999999)->(∀b,e' b=e b+dS a b)->fp (jZ h a) e'/\(∀b,eQ (jZ h a) b<->eQ h b)/\(jZ h a).length=h.length
 |[],h,e,e',i,_,g=>⟨i.congr λb=>by rw[g];simp[dS],λ_=>UA,rfl⟩
 |w::a,h,e,e',i,k,g=>by
  obtain⟨c,p⟩:=k w ba;rw[gK c.1,aq rfl]at p;have:=gL a (ix w);obtain⟨m,n,o⟩:=fp.jZ a (Go.Proofs.YtgnjacfobdjeeaaGreat.nJ h w) (λb=>e b+if b=ix w then 1 else 0) e' (i.nJ c V λb=>rfl) (λv q=>by
   obtain⟨d,j⟩:=k v (ai _ q);refine⟨⟨d.1,(jB.nJ c _).2 d.2⟩,?_⟩;rw[MS c d.1];rw[gK c.1]at j;split
   ·rename_i f;subst f;rw[aq rfl]at j;omega
   ·rename_i f;rw[ae (λl=>f (Oo d.1 c.1 l))]at j;omega) (λb=>by rw[g,gK c.1];omega)
  refine⟨m,λb=>by rw[Go.Proofs.YtgnjacfobdjeeaaGreat.jZ,n,eQ.nJ c],by rw[Go.Proofs.YtgnjacfobdjeeaaGreat.jZ,o];simp[Go.Proofs.YtgnjacfobdjeeaaGreat.nJ]⟩
def mu{l:List Int}:w∈pR l<->w∈l/\1000<=w:=by simp[pR]
def fp.apart{h:List bM}{e e':Nat->Int}(j:fp h e){w:Int}(q:jc h w)(K:0<e (ix w))(y:(aX h w).aQ=1\/mZ h (aX h w).aK)
 (D:∀b,e' b=e b -(if b=ix w then 1 else 0)+dS (aX h w).aK b)(N:mC h):fp (apart h w) e'/\(∀b,eQ (apart h w) b<->eQ h b)/\mC (apart h w):=by
 obtain⟨g,M⟩:=cp q
 unfold Go.Proofs.YtgnjacfobdjeeaaGreat.apart
 by_cases t:(aX h w).aQ=1
 ·rw[aq t]
  exact⟨(j.On g t K (c':=jx) bd bd rfl (by simp[jx]) (by simp[jx]) (λ_=>rfl) D).p7,λb=>by rw[eQ.p7,eQ.On q],El _⟩
 ·rw[ae t]
  have y:mZ h (aX h w).aK:=by rcases y with o|o;exact absurd o t;exact o
  have T:=(j.cell _ (au g)).hi
  have L:fp (Go.Proofs.YtgnjacfobdjeeaaGreat.fG h w) (λb=>e b -if b=ix w then 1 else 0):=j.HV g M V V (λb=>by split<;>omega) bK
  have z:∀b,jB h b->jB (Go.Proofs.YtgnjacfobdjeeaaGreat.fG h w) b:=λb f=>by
   by_cases m:b=ix w
   ·subst m;unfold Go.Proofs.YtgnjacfobdjeeaaGreat.fG;rw[jB.Du g];simp only[];omega
   ·exact(jB.ne m).2 f
  obtain⟨o,B,C⟩:=fp.jZ (pR (aX h w).aK) _ _ e' L (λv A=>by
   obtain⟨x,r⟩:=mu.1 A;have a:=j.field (au g) x r;refine⟨⟨a.1,z _ a.2⟩,?_⟩;have:=y v x r;rw[tS];have R:(aX (Go.Proofs.YtgnjacfobdjeeaaGreat.fG h w) v).aQ<=(aX h v).aQ:=by
    by_cases m:ix v=ix w
    ·have i:=Oo r q.1 m;subst i;unfold Go.Proofs.YtgnjacfobdjeeaaGreat.fG;conv=>lhs;unfold aX
     rw[eD g];show(aX h v).aQ -1<=(aX h v).aQ;omega
    ·unfold Go.Proofs.YtgnjacfobdjeeaaGreat.fG;conv=>lhs;unfold aX
     rw[fV m];exact dZ _
   omega) (λb=>by rw[D,tS])
  refine⟨o,λb=>by rw[B,eQ.fG q],λc p=>?_⟩
  intro P
  rw[C]at p
  have E:(Go.Proofs.YtgnjacfobdjeeaaGreat.fG h w).length=h.length:=by simp[Go.Proofs.YtgnjacfobdjeeaaGreat.fG]
  rw[E]at p
  have f:=ax p
  rw[C,E]at f
  obtain⟨d,u⟩:=ag (l:=h) (k:=h.length -1) V
  have Q:=N d u
  have J:=j.cell d (au u)
  have S:=J.lo
  rcases fX (0<d.aQ)with F|F
  ·have I:∀(s:List Int)(n:List bM),(∀v∈s,jc n v)->∀b,jB n b->jB (Go.Proofs.YtgnjacfobdjeeaaGreat.jZ n s) b:=by
    intro s;induction s with
    |nil=>intro n _ b f;exact f
    |cons v s O=>
     intro n i b f;have a:=i v ba;exact O _ (λH G=>⟨(i H (ai _ G)).1,(jB.nJ a _).2 (i H (ai _ G)).2⟩) b ((jB.nJ a _).2 f)
   obtain⟨G,i,H⟩:=I (pR (aX h w).aK) (Go.Proofs.YtgnjacfobdjeeaaGreat.fG h w) (λv A=>by
    obtain⟨x,r⟩:=mu.1 A;have a:=j.field (au g) x r;exact⟨a.1,z _ a.2⟩) _ (z _ ⟨d,u,F⟩)
   rw[p]at i;simp at i;subst i;omega
  ·have n:eQ h (h.length -1):=⟨d,u,V⟩
   obtain⟨G,i,s⟩:=(B (h.length -1)).2 ((eQ.fG q _).2 n)
   rw[p]at i;simp at i;subst i;omega
def tG:∀(h:List bM),eK h<=h.length
 |[]=>ad _
 |c::h=>by have:=tG h;simp only[eK,bg];split<;>omega
def Bl:∀(h:List bM)(c:bM),h[eK h]? =some c->c.aQ=0
 |[],c,a=>by simp[eK]at a
 |d::h,c,a=>by
  simp only[eK]at a;split at a
  ·rename_i b;simp at a;subst a;exact b
  ·exact Bl h c (by simpa using a)
def fp.alloc(k:fp h e){t:Int}{f:List Int}(s:∀w∈f,oL h w)(m:f.length<=3)(r:0<=t/\t<=99)(n:∀b,dS f b<=e b)
 (l:∀b,e' b=e b -dS f b+if b=eK h then 1 else 0)(v:mC h):
 fp (lg h (eK h) ⟨1,t,f⟩) e'/\(∀b,eQ (lg h (eK h) ⟨1,t,f⟩) b<->eQ h b)/\mC (lg h (eK h) ⟨1,t,f⟩):=by
 unfold lg
 have o:¬jB h (eK h):=λ⟨c,a,x⟩=>by have:=Bl h c a;omega
 by_cases j:eK h=h.length
 ·rw[aq j]
  have q:(h++[⟨1,t,f⟩])[eK h]? =some ⟨1,t,f⟩:=by rw[j];simp
  have p:∀b,b≠eK h->(h++[⟨1,t,f⟩])[b]? =h[b]? :=λb g=>by
   rcases aV b h.length with i|i
   ·rw[aw i]
   ·rw[cb bK,cb i]
  refine⟨k.make o q p (λb=>by rw[sL];simp[dq]) s m r n l,λb=>?_,λc a=>?_⟩
  ·by_cases g:b=eK h
   ·rw[g];unfold eQ;rw[q,j];simp
   ·unfold eQ;rw[p b g]
  ·simp at a;subst a;simp
 ·rw[ae j]
  have u:eK h<h.length:=by have:=tG h;omega
  obtain⟨d,i⟩:=ag u
  have p:=Bl h d i
  have q:=((k.cell d (au i)).uH V).2.2 p
  refine⟨k.make o (eD i) (λb g=>fV g) (λb=>by rw[xF _ i,q];simp[dS]) s m r n l,λb=>eQ.set i V E b,λc a=>?_⟩
  rw[gW]at a
  by_cases g:h.length -1=eK h
  ·rw[g,eD i]at a;simp at a;subst a;simp
  ·rw[fV g]at a;exact v c a
end
section
variable{b:cD}{w:Int}{s:St}{f g:aZ}
def CC{b:cD}{x:Instr}:∀{l:List Int}{k:Nat}{r:Int},r∈iZ b x k l->r∈l
 |[],k,r,h=>by simp[iZ]at h
 |y::l,k,r,h=>by
  simp only[iZ]at h;split at h
  ·exact ai _ (CC h)
  ·rcases List.mem_cons.1 h with rfl|h
   ·exact ba
   ·exact ai _ (CC h)
def Ld{x:Instr}{r:Int}(h:r∈dp b x):r∈x.args:=by
 unfold dp at h;split at h
 ·exact h
 split at h
 ·exact cT h
 split at h
 ·exact CC h
 ·simp at h
def Gi{a:List bq}(h:dv a)(c:Int):(bT a c).length<=3:=by
 unfold bT;split
 ·cases i:(eC a)[c.toNat]? with
  |none=>simp
  |some f=>
   have d:=au i;unfold eC at d;obtain⟨e,g,b⟩:=List.mem_flatMap.1 d;obtain⟨k,j⟩:=List.mem_iff_getElem?.1 g;have:=(h.df k e j).gR (List.length_pos_of_mem b);exact(this.2.2.2 f b).1
 ·simp
def fS.put{b:cD}{g:aZ}(h:fS b g){r w o:Int}(i:0<=r)(f:gA w\/1000<=w)(d:0<=o)(e:0<o->1000<=w):fS b (g.put r w o):=by
 refine⟨h.eS,h.pc,by simp only[aZ.put,jH];exact h.lr,by simp only[aZ.put,jH];exact h.lo,h.lh,λy a=>?_,λk q y c a=>?_,h.bn⟩
 ·rcases qZ a with rfl|a
  ·exact f
  ·exact h.OA y a
 ·simp only[aZ.put]at c a;rw[Dx]at c a;have:=h.lr;have:=h.lo;split at c<;>split at a
  ·simp at c a;subst c;subst a;exact⟨d,e⟩
  ·omega
  ·omega
  ·exact h.aW k q y c a
def EZ(w:Int):0<=iV w:=by unfold iV;split<;>omega
def Bv(h:0<iV w):1000<=w:=by unfold iV at h;split at h<;>omega
def uR(w:Int)(b:Nat):(if w=1000+(b:Int)then iV w else 0)=dS [w] b:=by
 simp only[dS,iV];split
 ·rw[aq V];rfl
 ·rfl
def EJ(n:Int):gA (Im n):=by unfold Im gA;split<;>(try split)<;>omega
def Nn(c a b:Int):gA (Q5 c a b):=by
 unfold Q5;split
 ·exact EJ _
 split
 ·exact EJ _
 split
 ·exact EJ _
 split<;>(unfold gA;omega)
def lP(cW:List Int):∀(a:List Int)(k:Nat),(gN cW k a).length=a.length
 |[],k=>rfl
 |w::a,k=>by simp only[gN,bg,lP cW a]
def Gx(cW:List Int):∀(b:List Int)(k j:Nat)(o w:Int),(gN cW k b)[j]? =some o->b[j]? =some w->0<=o/\(0<o->1000<=w)
 |[],k,j,o,w,_,h=>by simp at h
 |v::b,k,0,o,w,a,c=>by
  simp[gN]at a c;subst c;split at a
  ·subst a;omega
  ·subst a;exact⟨EZ _,Bv⟩
 |v::b,k,j+1,o,w,a,c=>Gx cW b (k+1) j o w (by simpa[gN]using a) (by simpa using c)
def kU(n:Nat):(fH n).length=n:=by simp[fH]
def oO{n:Nat}(h:w∈fH n):w=0:=Su h
def sI{g j:Int}{d:List Int}{p:cY}(m:lO b)(l:0<=g)(h:b.cA[g.toNat]? =some p)(q:d.length=p.params.length)(n:∀w∈d,gA w\/1000<=w):fS b (cw b g j d):=by
 have e:dF b g=p:=by simp[dF,h]
 have i:=m.df p (au h);have t:=i.av;have r:=i.len;have s:=ax h;refine⟨⟨l,by simp only[cw];omega⟩,⟨by simp[cw],by simp only[cw,e];omega⟩,?_,?_,?_,λw a=>?_,λk o w c a=>?_,λw a=>Or.inl (oO a)⟩
 ·simp only[cw,e,a9,kU];omega
 ·simp only[cw,e,a9,kU,lP];omega
 ·simp only[cw,e,kU];omega
 ·simp only[cw]at a;rcases List.mem_append.1 a with a|a
  ·exact n w a
  ·rw[oO a];exact Or.inl (by unfold gA;omega)
 ·simp only[cw]at c a;rcases aV k d.length with f|f
  ·rw[aw (by rw[lP];exact f)]at c;rw[aw f]at a;exact Gx _ d 0 k o w c a
  ·rw[aF (by rw[lP];exact f)]at c;rw[oO (ik c)];omega
def ph(b:cD)(g d:Int)(a:List Int)(c:Nat):cz (cw b g d a).av (cw b g d a).aW c=cz a (gN (dF b g).cW 0 a) c:=by
 simp only[cw];rw[Dn _ _ (lP _ _ _).symm,rf (λn e=>oO e)];omega
def nQ(b:cD)(g c:Int)(d:List Int)(a:Nat):holds [cw b g c d] a=0:=by
 rw[gT];exact PU _ _
def EX{b:cD}{d:Instr}(f:aZ):∀(e:List Int)(k:Nat)(a:Nat),cz (dh f e) (gN (dF b d.bL).cW k (dh f e)) a=dS ((iZ b d k e).map (u f.av)) a
 |[],k,a=>by simp[dh,cz,iZ,dS]
 |r::h,k,a=>by
  have g:=EX (b:=b) (d:=d) f h (k+1) a;simp only[dh,cg,gN,cz,iZ]at g⊢;rw[g];by_cases c:mQ b d k=true
  ·rw[aq c];unfold mQ at c;rw[aq c];split<;>omega
  ·rw[ae c];unfold mQ at c;rw[ae c];simp only[cg,dS];have:=uR (u f.av r) a;simp only[dS]at this;omega
def Gy:∀(a:List Int)(k:Nat)(b:Nat),cz a (gN [] k a) b=dS a b
 |[],k,b=>by simp[cz,dS]
 |w::a,k,b=>by
  have:=Gy a (k+1) b;have c:=uR w b;simp only[dS]at c;simp only[gN,cz,dS,this,NM,ib,pL];omega
def cN.oJ{e:List bM}{c:List aZ}(i:cN b s)(l:s.ak=c++[f])(m:g.bn=f.bn)(j:∀a,eQ e a<->eQ s.heap a):
 (∀a,eQ e a->holds (c++[g]) a=1)/\(∀a,¬eQ e a->holds (c++[g]) a=0):=by
 have h:∀a,holds (c++[g]) a=holds s.ak a:=λa=>by rw[l,dI,dI,gT,gT,m]
 exact⟨λa d=>by rw[h];exact i.jy a ((j a).1 d),λa d=>by rw[h];exact i.lL a λk=>d ((j a).2 k)⟩
def cN.push(h:cN b s)(D:s.cL=3){d:List aZ}(i:s.ak=d++[f])(r:fS b g)(p:0<=g.dst/\g.dst<f.aW.length/\u f.aW g.dst=0){c:List bM}{bI:Int}
 (t:fp c (dD (d++[f,g])))(x:mC c)(v:∀a,eQ c a->holds (d++[f,g]) a=1)(y:∀a,¬eQ c a->holds (d++[f,g]) a=0)(A:bI=s.bI+1)(C:s.bI<s.dK):
 cN b {s with heap:=c,bI:=bI,ak:=d++[f,g]}:=by
 have B:=h.bI
 have m:=h.depth
 rw[i]at m
 refine⟨h.fK,h.cL,⟨λe=>by simp at e;omega,λe=>by simp at e⟩,h.value,h.rL,h.dK,⟨by simp only[];omega,by simp only[];omega⟩,by simp at m⊢;omega,h.bo,t,x,λq a=>?_,λq a=>?_,λk z q c a=>?_,v,y⟩
 ·rcases List.mem_append.1 a with a|a
  ·exact h.ak q (by rw[i];exact bB _ a)
  ·simp at a
   rcases a with rfl|rfl
   ·exact h.ak _ (by rw[i];simp)
   ·exact r
 ·have j:=h.first
  rw[i]at j
  cases d with
  |nil=>simp at a;subst a;exact j f E
  |cons l n=>simp at a;subst a;exact j l E
 ·have l:=h.chain k
  rw[i]at l
  simp only[]at c a
  have e:d++[f,g]=(d++[f])++[g]:=E
  rw[e]at c a
  have w:=ax a
  simp at w
  rw[aw bK]at c
  rcases aV (k+1) (d++[f]).length with j|j
  ·rw[aw j]at a
   exact l z q c a
  ·simp at j
   rw[aF bK]at a
   have n:k+1 -(d++[f]).length=0:=bK
   rw[n]at a;simp at a;subst a
   rw[aF V]at c
   have o:k -d.length=0:=V
   rw[o]at c;simp at c;subst c;exact p
def Ox{n:List aZ}(d:cN b s)(W:s.cL=3)(q:s.ak=n++[f])
 (Q:sX b s f (eZ b f) (dx f.av f.aW (dp b (eZ b f))))(bh:¬(uP (eZ b f).op/\s.bI=s.dK)):
 cN b (jg b s n f (eZ b f) (dx f.av f.aW (dp b (eZ b f)))):=by
 have L:fS b f:=d.ak f (by rw[q];simp)
 obtain⟨ah,hp,aE,hP,a5,hI⟩:=L.IP d.fK
 generalize eZ b f=x at*
 have⟨lr,lo,lh⟩:(f.av.length:Int)=ah.av/\(f.aW.length:Int)=ah.av/\(f.bn.length:Int)=ah.av:=⟨aE▸L.lr,aE▸L.lo,aE▸L.lh⟩
 have ao:∀v∈x.args,0<=v/\v<f.av.length:=λv y=>by have:=hI.args v y;omega
 have a3:∀r∈dp b x,0<=r/\r<f.av.length:=λr W=>ao r (Ld W)
 have bq:=vy (av:=f.av) (dp b x) f.aW a3 V
 have bp:=pI f.av (dp b x) f.aW
 have bm:=rH (av:=f.av) (dp b x) f.aW
 generalize dx f.av f.aW (dp b x)=aW at*
 have aK:∀G∈n,fS b G:=λG j=>d.ak G (by rw[q];exact bB _ j)
 have ap:∀c,0<=dD n c+cz f.av aW c:=λc=>by
  have:=Dq aK c;have:=px (av:=f.av) Q.nn c;omega
 have H:fp s.heap (λc=>dD n c+cz f.av aW c+dS ((dp b x).map (u f.av)) c):=d.heap.congr λc=>by
  rw[q,eU,jF,bq];omega
 have bb:∀S:Int,0<=S->S<ah.cE.length->fS b {f with aW:=aW,pc:=S}:=λS h0 e=>
  ⟨L.eS,⟨h0,by rw[aE];exact e⟩,L.lr,by simp only[bp];exact L.lo,L.lh,L.OA,λA af w Z o=>by
   obtain⟨G,j,p⟩:=bm A af Z;have C:=L.aW A G w j o;exact⟨Q.nn af (ik Z),λm=>C.2 V⟩,L.bn⟩
 have br:=L.pc
 rw[aE]at br
 have ba:x.op≠23->x.op≠24->f.pc+1<ah.cE.length:=λe C=>by
  rcases fX (f.pc+1<ah.cE.length)with D|D
  ·exact D
  ·have M:f.pc.toNat=ah.cE.length -1:=V;rw[M]at a5;have:=hP.J8 x a5;omega
 have hG:x.op≠23->x.op≠24->fS b {f with aW:=aW,pc:=f.pc+1}:=λe C=>bb _ V (ba e C)
 have ay:∀r:Int,0<=r->r<f.av.length->gA (u f.av r)\/1000<=u f.av r:=λr h0 e=>L.OA _ (iv h0 e)
 have a8:∀r:Int,0<=r->r<f.av.length->u f.av r<1000->gA (u f.av r):=λr h0 e C=>by rcases ay r h0 e with D|D;exact D;omega
 have al:=hI.dst
 have a6:kE x.op->u aW x.dst=0:=λR=>by
  have e:=Q.dst R;have C:=Q.nn _ (iv (b:=aW) al.1 V);omega
 have bs:∀r∈dp b x,oL s.heap (u f.av r):=λr bc=>by
  have bd:=a3 r bc;rcases ay r bd.1 bd.2 with D|D
  ·exact Or.inl D
  ·refine Or.inr ⟨D,H.lv _ ?_⟩;have:=ap (ix (u f.av r));have:=sJ (l:=(dp b x).map (u f.av)) (f:=ix (u f.av r)) (by rw[gP D];exact List.mem_map.2 ⟨r,bc,rfl⟩);omega
 have aL:∀(S:Int)(a7:List Int)(w af:Int),kE x.op->∀c,dD (n++[aZ.put {f with aW:=aW,pc:=S,bn:=a7} x.dst w af]) c=dD n c+cz f.av aW c+(if w=1000+(c:Int)then af else 0):=λS a7 w af R c=>by
  rw[eU,jF];simp only[aZ.put];rw[KV al.1 V V (a6 R)];omega
 have aO:∀(w:Int)(bo:List Int),kE x.op->x.op≠23->x.op≠24->dp b x=[]->(gA w\/1000<=w)->(∀m∈bo,gA m)->cN b {s with bo:=bo,ak:=n++[aZ.put {f with aW:=aW,pc:=f.pc+1} x.dst w 0]}:=λw bo R e C z o Z=>by
  obtain⟨B,T⟩:=d.oJ q (g:=aZ.put {f with aW:=aW,pc:=f.pc+1} x.dst w 0) rfl (λc=>UA);refine d.hO W q (hd:=rfl) ((hG e C).put al.1 o (dZ _) (λD=>V)) (H.congr λc=>?_) d.iA B T Z (bI:=s.bI) ⟨dZ _,d.bI.2⟩;rw[aL _ _ _ _ R,z];simp[dS]
 have aQ:∀S:Int,0<=S->S<ah.cE.length->dp b x=[]->cN b {s with ak:=n++[{f with aW:=aW,pc:=S}]}:=λS h0 e z=>by
  obtain⟨B,T⟩:=d.oJ q (g:={f with aW:=aW,pc:=S}) rfl (λc=>UA);refine d.hO W q (hd:=rfl) (bb S h0 e) (H.congr λc=>?_) d.iA B T d.bo (bI:=s.bI) ⟨dZ _,d.bI.2⟩;rw[eU,jF,z];simp[dS]
 have p:=hI.op
 unfold lA at p
 unfold jg
 simp only[]
 by_cases e0:x.op=0
 ·rw[aq e0]at p⊢
  exact aO _ _ (by unfold kE;omega) V V (by simp[dp,e0]) (Or.inl p.2) d.bo
 rw[ae e0]at p⊢
 by_cases e1:x.op=1\/x.op=2\/x.op=3\/x.op=4
 ·rw[aq e1]
  exact aO _ _ (by unfold kE;omega) V V (by unfold dp;rw[ae V,ae V,ae V]) (Or.inl (Nn _ _ _)) d.bo
 rw[ae e1]
 have az:1<=x.args.length->0<=u x.args 0/\u x.args 0<f.av.length:=λe=>ao _ (iv V V)
 by_cases e5:x.op=5
 ·rw[aq e5]
  rw[ae V,aq V]at p
  have y:=az V
  have aC:gA (u f.av (u x.args 0)):=a8 _ y.1 y.2 (Q.ov V _ (iv V V))
  refine aO _ _ (by unfold kE;omega) V V (by simp[dp,e5]) (Or.inl aC) λm I=>?_
  rcases List.mem_append.1 I with I|I
  ·exact d.bo m I
  ·simp at I;subst I;exact aC
 rw[ae e5]
 have be:(dp b x=x.args)->∀w∈dh f x.args,oL s.heap w:=λz w o=>by
  obtain⟨r,ab,rfl⟩:=List.mem_map.1 o;exact bs r (z▸ab)
 have a0:∀aG,dp b x=x.args->x.op≠23->x.op≠24->kE x.op->x.args.length<=3->0<=aG/\aG<=99->cN b {s with heap:=lg s.heap (eK s.heap) ⟨1,aG,dh f x.args⟩,ak:=n++[aZ.put {f with aW:=aW,pc:=f.pc+1} x.dst (1000+eK s.heap) 1]}:=λaG z e C R D aU=>by
  obtain⟨X,k2,k3⟩:=H.alloc (t:=aG) (f:=dh f x.args) (e':=dD (n++[aZ.put {f with aW:=aW,pc:=f.pc+1} x.dst (1000+eK s.heap) 1])) (be z) (by simpa[dh]using D) aU (λc=>by rw[z];have:=ap c;simp only[dh];omega) (λc=>by
   rw[aL _ _ _ _ R,z];simp only[dh];have:(if(1000+(eK s.heap:Int))=1000+(c:Int)then(1:Int)else 0)=if c=eK s.heap then 1 else 0:=by
    by_cases m:c=eK s.heap
    ·rw[aq m,aq V]
    ·rw[ae m,ae V]
   rw[this];omega) d.iA
  obtain⟨B,T⟩:=d.oJ q (g:=aZ.put {f with aW:=aW,pc:=f.pc+1} x.dst (1000+eK s.heap) 1) rfl k2;exact d.hO W q (hd:=rfl) ((hG e C).put al.1 (Or.inr V) V (λ_=>V)) X k3 B T d.bo (bI:=s.bI) ⟨dZ _,d.bI.2⟩
 have bt:(eC b.aT).length<=12:=by
  have:=qW d.fK.pC.types b.aT.length;rw[mM _ _ (ad _)]at this;exact this
 have bv:=d.fK.pC.len
 by_cases U:x.op=6
 ·rw[aq U]
  rw[ae V,ae V,aq U]at p
  have z:dp b x=x.args:=by unfold dp;rw[aq V]
  have R:kE x.op:=by unfold kE;omega
  have ar:x.args.length<=3:=by rw[p.2.1];exact Gi d.fK.pC.types _
  split
  ·rename_i aJ
   have O:0<=x.bV -1/\x.bV -1<f.bn.length:=V
   have hv:=L.bn _ (iv (b:=f.bn) O.1 O.2)
   have Y:1000<=u f.bn (x.bV -1):=V
   have aI:0<holds s.ak (ix (u f.bn (x.bV -1))):=by
    rw[q,dI,gT];have:=tJ n (ix (u f.bn (x.bV -1)));have:=sJ (l:=f.bn) (f:=ix (u f.bn (x.bV -1))) (by rw[gP Y];exact iv O.1 O.2);omega
   have ac:eQ s.heap (ix (u f.bn (x.bV -1))):=eA λI=>by have:=d.lL _ I;omega
   have an:=d.jy _ ac
   obtain⟨aa,N,aB⟩:=ac
   have aD:∀c,dS aa.aK c=0:=λc=>ms λo=>by
    have:=((H.cell aa (au N)).uH V).2.1 _ o;omega
   have X:=H.make (x:=x.bL) (i:=dh f x.args) (e':=dD (n++[aZ.put {f with aW:=aW,pc:=f.pc+1,bn:=gU f.bn (x.bV -1) 0} x.dst (u f.bn (x.bV -1)) 1])) (f:=ix (u f.bn (x.bV -1))) (g:=s.heap.set (ix (u f.bn (x.bV -1))) ⟨1,x.bL,dh f x.args⟩)
    (eQ.Re ⟨aa,N,aB⟩) (eD N) (λc m=>fV m) (λc=>by rw[xF _ N,aD];simp only[];omega) (be z) (by simpa[dh]using ar) V (λc=>by rw[z];have:=ap c;simp only[dh];omega) (λc=>by
     rw[aL _ _ _ _ R,z];simp only[dh];have:(if u f.bn (x.bV -1)=1000+(c:Int)then(1:Int)else 0)=if c=ix (u f.bn (x.bV -1))then 1 else 0:=by
      by_cases m:c=ix (u f.bn (x.bV -1))
      ·rw[aq m,aq (by rw[m,gP Y])]
      ·rw[ae m,ae (λK=>m (by rw[K,jL]))]
     rw[this];omega)
   have aH:∀c,dS (gU f.bn (x.bV -1) 0) c=dS f.bn c -(if c=ix (u f.bn (x.bV -1))then 1 else 0):=by
    intro c;have am:∀(F:List Int)(A:Nat)(w:Int),F[A]? =some w->dS (F.set A 0) c=dS F c -(if w=1000+(c:Int)then 1 else 0):=by
     intro F;induction F with
     |nil=>intro A w B;simp at B
     |cons ai F ih=>
      intro A w B;cases A with
      |zero=>simp at B;subst B;simp only[ig,dS];rw[ae V];omega
      |succ A=>have:=ih A w (by simpa using B);simp only[ic,dS,this];omega
    rw[gU,am _ _ _ (qR O.1 O.2)];by_cases m:c=ix (u f.bn (x.bV -1))
    ·rw[aq m,aq (by rw[m,gP Y])]
    ·rw[ae m,ae (λK=>m (by rw[K,jL]))]
   have P:∀c,holds (n++[aZ.put {f with aW:=aW,pc:=f.pc+1,bn:=gU f.bn (x.bV -1) 0} x.dst (u f.bn (x.bV -1)) 1]) c=holds s.ak c -(if c=ix (u f.bn (x.bV -1))then 1 else 0):=λc=>by
    rw[q,dI,dI,gT,gT];simp only[aZ.put];rw[aH];omega
   have aA:fS b {f with aW:=aW,pc:=f.pc+1,bn:=gU f.bn (x.bV -1) 0}:=by
    have e:=hG V V;exact⟨e.eS,e.pc,e.lr,e.lo,by simp only[jH];exact e.lh,e.OA,e.aW,λw o=>by rcases qZ o with o|o;exact Or.inl o;exact e.bn w o⟩
   refine d.hO W q (hd:=rfl) (aA.put al.1 (Or.inr Y) V (λ_=>Y)) X ?_ (λv y=>?_) (λv y=>?_) d.bo (bI:=s.bI) ⟨dZ _,d.bI.2⟩
   ·intro aj J
    rw[gW]at J
    by_cases m:s.heap.length -1=ix (u f.bn (x.bV -1))
    ·rw[m,eD N]at J;simp at J;subst J;simp
    ·rw[fV m]at J;exact d.iA aj J
   ·rw[P]
    by_cases m:v=ix (u f.bn (x.bV -1))
    ·subst m;rw[eQ.Du N]at y;simp at y
    ·rw[ae m];rw[eQ.ne m]at y;have:=d.jy v y;omega
   ·rw[P]
    by_cases m:v=ix (u f.bn (x.bV -1))
    ·subst m;rw[aq rfl];omega
    ·rw[ae m];rw[eQ.ne m]at y;have:=d.lL v y;omega
  ·exact a0 _ z V V R ar V
 rw[ae U]
 by_cases aa:x.op=10
 ·rw[aq aa]
  rw[ae V,ae V,ae U,ae V,aq aa]at p
  obtain⟨⟨G,aJ,ar,aM⟩,_⟩:=p
  have D:=(d.fK.pC.df G (au ar)).1
  have:=ax ar
  exact a0 _ (by unfold dp;rw[aq V]) V V (by unfold kE;omega) V (by unfold fF;omega)
 rw[ae aa]
 by_cases aH:x.op=14
 ·rw[aq aH]
  rw[ae V,aq V]at p
  have y:=az V
  have z:dp b x=[]:=by simp[dp,aH]
  obtain⟨I,Y⟩:=Q.Wv aH
  obtain⟨B,T⟩:=d.oJ q (g:={f with aW:=gU aW (u x.args 0) (u aW (u x.args 0)+1),pc:=f.pc+1}) rfl (λc=>eQ.nJ I c)
  have e:=hG V V
  refine d.hO W q (hd:=rfl) (g:={f with aW:=gU aW (u x.args 0) (u aW (u x.args 0)+1),pc:=f.pc+1}) ⟨e.eS,e.pc,e.lr,by simp only[jH];exact e.lo,e.lh,e.OA,λA af w Z o=>?_,e.bn⟩ (H.nJ I Y λc=>?_) ?_ B T d.bo (bI:=s.bI) ⟨dZ _,d.bI.2⟩
  ·simp only[]at Z o
   rw[Dx]at Z
   split at Z
   ·rename_i N
    simp at Z
    have M:u f.av (u x.args 0)=w:=by rw[u,iH,<-N.1,o];rfl
    have:=Q.nn _ (iv (b:=aW) y.1 V)
    have:=I.1
    exact⟨V,λ_=>V⟩
   ·exact e.aW A af w Z o
  ·rw[eU,jF,z]
   simp only[]
   rw[EV y.1 y.2 V]
   have N:=gP I.1
   simp only[eI,dS]
   by_cases m:c=ix (u f.av (u x.args 0))
   ·rw[aq m,aq (by rw[m,N])];omega
   ·rw[ae m,ae (λK=>m (by rw[K,jL]))];omega
  ·obtain⟨J,aD⟩:=cp I
   intro aj O
   unfold nJ at O
   rw[gW]at O
   by_cases m:s.heap.length -1=ix (u f.av (u x.args 0))
   ·rw[m,eD J]at O;simp at O;subst O;simp only[];omega
   ·rw[fV m]at O;exact d.iA aj O
 rw[ae aH]
 have aP:x.args.length=1->x.args=[u x.args 0]:=λe=>by
  cases hx:x.args with
  |nil=>rw[hx]at e;simp at e
  |cons ai F=>cases F with
   |nil=>rfl
   |cons a_ F=>rw[hx]at e;simp at e
 by_cases a1:x.op=15
 ·rw[aq a1]
  rw[ae V,aq V]at p
  have z:dp b x=[u x.args 0]:=by unfold dp;rw[aq V];exact aP V
  rw[z]at H
  have X:=fp.iC _ s.heap [u f.av (u x.args 0)] (λc=>dD n c+cz f.av aW c) (ad _) (H.congr λc=>rfl) ap
  obtain⟨B,T⟩:=d.oJ q (g:={f with aW:=aW,pc:=f.pc+1}) rfl (λc=>(eQ.p7 (h:=iC s.heap [u f.av (u x.args 0)]) c).trans (eQ.iC _ _ _ (ad _) c))
  exact d.hO W q (hd:=rfl) (hG V V) (X.p7.congr λc=>by rw[eU,jF]) (El _) B T d.bo (bI:=s.bI) ⟨dZ _,d.bI.2⟩
 rw[ae a1]
 by_cases Y:x.op=16\/x.op=17
 ·rw[aq Y]
  rw[ae V,ae V,ae U,ae V,ae aa,aq Y]at p
  have y:=az V
  have z:dp b x=[u x.args 0]:=by
   unfold dp;rw[ae V,aq Y];cases hx:x.args with
   |nil=>rw[hx]at p;simp at p
   |cons ai F=>rfl
  obtain⟨I,aN,aR,a2⟩:=Q.Q0 Y
  obtain⟨J,aD⟩:=cp I
  have aS:∀r∈x.args.drop 1,0<=r/\r<aW.length/\1000<=u f.av r:=λr ab=>by
   have e:=ao r (Wn ab);have C:u f.av r∈pR (aX s.heap (u f.av (u x.args 0))).aK:=by rw[aN];exact List.mem_map.2 ⟨r,ab,rfl⟩
   exact⟨e.1,V,(mu.1 C).2⟩
  have e:=hG V V
  have ac:fS b {f with aW:=eL aW (x.args.drop 1),pc:=f.pc+1}:=⟨e.eS,e.pc,e.lr,by simp only[sD];exact e.lo,e.lh,e.OA,Ij (av:=f.av) _ aW aS e.aW,e.bn⟩
  have a9:∀c,cz f.av (eL aW (x.args.drop 1)) c=cz f.av aW c+dS (aX s.heap (u f.av (u x.args 0))).aK c:=λc=>by
   rw[CP (av:=f.av) _ _ (λr ab=>by have:=aS r ab;omega) V,<-tS (aX s.heap _).aK,aN];rfl
  have aB:0<dD n (ix (u f.av (u x.args 0)))+cz f.av aW (ix (u f.av (u x.args 0)))+dS ((dp b x).map (u f.av)) (ix (u f.av (u x.args 0))):=by
   rw[z];have:=ap (ix (u f.av (u x.args 0)));simp only[cg,eI,gK I.1,aq,dS];omega
  have aA:∀c,dD n c+cz f.av (eL aW (x.args.drop 1)) c=(dD n c+cz f.av aW c+dS ((dp b x).map (u f.av)) c) -(if c=ix (u f.av (u x.args 0))then 1 else 0)+dS (aX s.heap (u f.av (u x.args 0))).aK c:=λc=>by
   rw[a9,z];simp only[cg,eI,gK I.1,dS];omega
  split
  ·rename_i an
   have aY:=a2 an.2
   have X:=H.On J an.1 aB (c':=⟨-1,0,fH (aX s.heap (u f.av (u x.args 0))).aK.length⟩) E E rfl (λw o=>oO o) (by simp only[kU];exact(H.cell _ (au J)).fl) (λC=>by simp at C) (e':=dD (n++[{f with aW:=eL aW (x.args.drop 1),pc:=f.pc+1,bn:=gU f.bn (u x.args 0) (u f.av (u x.args 0))}])) (λc=>by rw[eU,jF];exact aA c)
   have am:∀(c:Nat)(w:Int)(F:List Int)(A:Nat),F[A]? =some 0->dS (F.set A w) c=dS F c+(if w=1000+(c:Int)then 1 else 0):=by
    intro c w F;induction F with
    |nil=>intro A B;simp at B
    |cons ai F ih=>
     intro A B;cases A with
     |zero=>simp at B;subst B;simp only[ig,dS];split<;>simp_all<;>omega
     |succ A=>have:=ih A (by simpa using B);simp only[ic,dS,this];omega
   have aT:u x.args 0<f.bn.length:=V
   have P:∀c,holds (n++[{f with aW:=eL aW (x.args.drop 1),pc:=f.pc+1,bn:=gU f.bn (u x.args 0) (u f.av (u x.args 0))}]) c=holds s.ak c+(if c=ix (u f.av (u x.args 0))then 1 else 0):=λc=>by
    rw[q,dI,dI,gT,gT];have aI:=qR (b:=f.bn) y.1 aT;rw[aY]at aI;simp only[gU];rw[am c _ _ _ aI];by_cases m:c=ix (u f.av (u x.args 0))
    ·rw[aq m,aq (by rw[m,gP I.1])];omega
    ·rw[ae m,ae (λK=>m (by rw[K,jL]))];omega
   have a4:¬eQ s.heap (ix (u f.av (u x.args 0))):=λB=>B.Re I.2
   refine d.hO W q (hd:=rfl) (g:={f with aW:=eL aW (x.args.drop 1),pc:=f.pc+1,bn:=gU f.bn (u x.args 0) (u f.av (u x.args 0))}) ⟨ac.eS,ac.pc,ac.lr,ac.lo,by simp only[jH];exact ac.lh,ac.OA,ac.aW,λw o=>?_⟩ X ?_ (λv N=>?_) (λv N=>?_) d.bo (bI:=s.bI) ⟨dZ _,d.bI.2⟩
   ·rcases qZ o with o|o
    ·rw[o];exact Or.inr I.1
    ·exact L.bn w o
   ·intro aj O
    rw[gW]at O
    by_cases m:s.heap.length -1=ix (u f.av (u x.args 0))
    ·rw[m,eD J]at O;simp at O;subst O;simp
    ·rw[fV m]at O;exact d.iA aj O
   ·rw[P]
    by_cases m:v=ix (u f.av (u x.args 0))
    ·rw[aq m,m,d.lL _ a4];rfl
    ·rw[ae m];rw[eQ.ne m]at N;have:=d.jy v N;omega
   ·rw[P]
    by_cases m:v=ix (u f.av (u x.args 0))
    ·subst m;rw[eQ.Du J]at N;simp at N
    ·rw[ae m];rw[eQ.ne m]at N;have:=d.lL v N;omega
  ·obtain⟨X,k2,k3⟩:=H.apart I aB aR (e':=dD (n++[{f with aW:=eL aW (x.args.drop 1),pc:=f.pc+1}])) (λc=>by rw[eU,jF];exact aA c) d.iA
   obtain⟨B,T⟩:=d.oJ q (g:={f with aW:=eL aW (x.args.drop 1),pc:=f.pc+1}) rfl k2
   exact d.hO W q (hd:=rfl) ac X k3 B T d.bo (bI:=s.bI) ⟨dZ _,d.bI.2⟩
 rw[ae Y]
 by_cases a2:x.op=18
 ·rw[aq a2]
  rw[ae V,aq V]at p
  have y:=az V
  have z:dp b x=[u x.args 0]:=by unfold dp;rw[aq V];exact aP V
  have R:kE x.op:=by unfold kE;omega
  obtain⟨B,T⟩:=d.oJ q (g:=aZ.put {f with aW:=aW,pc:=f.pc+1} x.dst (u f.av (u x.args 0)) (iV (u f.av (u x.args 0)))) rfl (λc=>UA)
  refine d.hO W q (hd:=rfl) ((hG V V).put al.1 (ay _ y.1 y.2) (EZ _) Bv) (H.congr λc=>?_) d.iA B T d.bo (bI:=s.bI) ⟨dZ _,d.bI.2⟩
  rw[aL _ _ _ _ R,z,uR];rfl
 rw[ae a2]
 by_cases O:x.op=19
 ·rw[aq O]
  rw[ae V,ae V,ae U,ae V,ae aa,ae Y,aq O]at p
  obtain⟨I,m⟩:=Q.load O
  obtain⟨J,aD⟩:=cp I
  refine aO _ _ (by unfold kE;omega) V V (by simp[dp,O]) ?_ d.bo
  rcases((H.cell _ (au J)).oC aD).1 _ (iv p.2.1 m)with C|C
  ·exact Or.inl C
  ·exact Or.inr C.1
 rw[ae O]
 by_cases ac:x.op=20
 ·rw[aq ac]
  rw[ae V,ae V,ae U,ae V,ae aa,ae Y,ae O,aq ac]at p
  have:=ba V V
  exact aQ _ (by split<;>omega) (by split<;>omega) (by simp[dp,ac])
 rw[ae ac]
 by_cases an:x.op=21
 ·rw[aq an]
  rw[ae V,ae V,ae U,ae V,ae aa,ae Y,ae O,ae ac,ae V,aq an]at p
  obtain⟨I,aU⟩:=Q.Mm an
  have aj:Da (bU b.aT x.bL) (aX s.heap (u f.av (u x.args 0))).lp<(bU b.aT x.bL).length:=NN ⟨_,aU,E⟩
  obtain⟨am,m⟩:=p.2.2
  have:=m _ (iv (b:=x.dR) (i:=(Da (bU b.aT x.bL) (aX s.heap (u f.av (u x.args 0))).lp:Nat)) V V)
  exact aQ _ V V (by simp[dp,an])
 rw[ae an]
 by_cases aA:x.op=22
 ·rw[aq aA]
  rw[ae V,ae V,ae U,ae V,ae aa,ae Y,ae O,ae ac,aq aA]at p
  exact aQ _ V V (by simp[dp,aA])
 rw[ae aA]
 have bf:∀w∈dh f x.args,gA w\/1000<=w:=λw o=>by
  obtain⟨r,ab,rfl⟩:=List.mem_map.1 o;exact ay r (ao r ab).1 (ao r ab).2
 have aT:uP x.op->s.bI<s.dK:=λJ=>by
  have:=d.bI;have:s.bI≠s.dK:=λM=>bh ⟨J,M⟩;omega
 have a9:∀(hp:List bM),s.bI<s.dK->x.op≠23->x.op≠24->∀(g:aZ),fS b g->kE x.op->g.dst=x.dst->fp hp (dD (n++[{f with aW:=aW,pc:=f.pc+1},g]))->mC hp->(∀c,eQ hp c<->eQ s.heap c)->(∀c,holds [g] c=0)->
  cN b {s with bI:=s.bI+1,heap:=hp,ak:=n++[{f with aW:=aW,pc:=f.pc+1},g]}:=λhp bu e C g hg R bk hH hT hK bl=>by
  have a4:=d.bI
  have aB:=d.depth
  rw[q]at aB
  have ee:n++[{f with aW:=aW,pc:=f.pc+1},g]=(n++[{f with aW:=aW,pc:=f.pc+1}])++[g]:=E
  have P:∀c,holds (n++[{f with aW:=aW,pc:=f.pc+1},g]) c=holds s.ak c:=λc=>by
   rw[ee,dI,bl,q,dI,dI,gT,gT];simp
  refine⟨d.fK,d.cL,⟨λM=>by simp at M;omega,λM=>by simp at M⟩,d.value,d.rL,d.dK,⟨by simp only[];omega,by simp only[];omega⟩,by simp at aB⊢;omega,d.bo,hH,hT,λG j=>?_,λG j=>?_,λA p1 G m j=>?_,λv y=>?_,λv y=>?_⟩
  ·rcases List.mem_append.1 j with j|j
   ·exact aK G j
   ·simp at j
    rcases j with rfl|rfl
    ·exact hG e C
    ·exact hg
  ·have am:=d.first
   rw[q]at am
   cases n with
   |nil=>simp at j;subst j;exact am f E
   |cons ai ys=>simp at j;subst j;exact am ai E
  ·have aj:=d.chain A
   rw[q]at aj
   simp only[]at m j
   rw[ee]at m j
   have aS:=ax j
   simp at aS
   rw[aw bK]at m
   rcases aV (A+1) (n.length+1)with D|D
   ·rw[aw bK]at j
    rw[aw V]at m
    rcases aV (A+1) n.length with h4|h4
    ·rw[aw h4]at j
     exact aj p1 G (by rw[aw V];exact m) (by rw[aw h4];exact j)
    ·rw[aF h4]at j
     have K:A+1 -n.length=0:=V
     rw[K]at j;simp at j;subst j
     exact aj p1 f (by rw[aw V];exact m) (by rw[aF h4,K];rfl)
   ·rw[aF bK]at j
    have K:A+1 -(n++[{f with aW:=aW,pc:=f.pc+1}]).length=0:=bK
    rw[K]at j;simp at j;subst j
    rw[aF V]at m
    have e3:A -n.length=0:=V
    rw[e3]at m;simp at m;subst m
    rw[bk]
    exact⟨al.1,by simp only[];omega,a6 R⟩
  ·rw[P];exact d.jy v ((hK v).1 y)
  ·rw[P];exact d.lL v λD=>y ((hK v).2 D)
 by_cases e9:x.op=9
 ·rw[aq e9]
  rw[ae V,ae V,ae U,aq V]at p
  obtain⟨G,aJ,ar,aM⟩:=p
  have z:dp b x=iZ b x 0 x.args:=by unfold dp;rw[ae V,ae V,aq V]
  refine a9 s.heap (aT (Or.inl e9)) V V (cw b x.bL x.dst (dh f x.args)) (sI d.fK aJ ar (by simp[dh,aM]) bf) (by unfold kE;omega) rfl (H.congr λc=>?_) d.iA (λ_=>UA) (nQ _ _ _ _)
  rw[eU,z]
  simp only[dD]
  rw[ph,EX];omega
 rw[ae e9]
 by_cases aI:x.op=24
 ·rw[aq aI]
  rw[ae V,ae V,ae U,aq V]at p
  obtain⟨G,aJ,ar,aM⟩:=p
  have z:dp b x=iZ b x 0 x.args:=by unfold dp;rw[ae V,ae V,aq V]
  obtain⟨aN,aY⟩:=Q.zero (Or.inl aI)
  have P:∀c,holds (n++[cw b x.bL f.dst (dh f x.args)]) c=holds s.ak c:=λc=>by
   rw[q,dI,dI,nQ,gT,ms (λo=>by have:=aY _ o;omega)]
  have bg:=aT (Or.inr (Or.inr aI))
  refine d.hO W q (hd:=rfl) (sI d.fK aJ ar (by simp[dh,aM]) bf) (H.congr λc=>?_) d.iA (λv y=>by rw[P];exact d.jy v y) (λv y=>by rw[P];exact d.lL v y) d.bo (bI:=s.bI+1) V
  rw[eU,jF,ph,EX,z,rf aN];omega
 rw[ae aI]
 by_cases ar:x.op=11
 ·rw[aq ar]
  rw[aq V]at p
  have z:dp b x=x.args:=by unfold dp;rw[aq V]
  have bg:x.args=[u x.args 0,u x.args 1]:=by
   cases hx:x.args with
   |nil=>rw[hx]at p;simp at p
   |cons ai F=>cases F with
    |nil=>rw[hx]at p;simp at p
    |cons a_ F=>cases F with
     |nil=>rfl
     |cons _ _=>rw[hx]at p;simp at p
  have aJ:0<=u x.args 1/\u x.args 1<f.av.length:=ao _ (iv V V)
  obtain⟨I,bj,bw,bi,aM,aR⟩:=Q.apply ar
  obtain⟨J,aD⟩:=cp I
  obtain⟨G,j⟩:=ag (l:=b.cA) (k:=((aX s.heap (u f.av (u x.args 0))).lp -fF b).toNat) V
  have a_:dF b ((aX s.heap (u f.av (u x.args 0))).lp -fF b)=G:=by simp[dF,j]
  rw[a_]at bi aM
  have F:∀c,dS ((dp b x).map (u f.av)) c=(if c=ix (u f.av (u x.args 0))then 1 else 0)+dS [u f.av (u x.args 1)] c:=λc=>by
   rw[z,bg];simp only[cg,eI];rw[gK]
   ·rfl
   ·exact I.1
  obtain⟨X,k2,k3⟩:=H.apart I (by simp only[F,aq];have:=ap (ix (u f.av (u x.args 0)));have:=gL [u f.av (u x.args 1)] (ix (u f.av (u x.args 0)));omega) aR
   (e':=dD (n++[{f with aW:=aW,pc:=f.pc+1},cw b ((aX s.heap (u f.av (u x.args 0))).lp -fF b) x.dst ((aX s.heap (u f.av (u x.args 0))).aK++[u f.av (u x.args 1)])])) (λc=>by
    rw[eU,F];simp only[dD];rw[ph,a_,List.length_eq_zero_iff.1 aM,Gy,mS];omega) d.iA
  refine a9 _ (aT (Or.inr (Or.inl ar))) V V _ (sI d.fK bj j bK λw o=>?_) (by unfold kE;omega) rfl X k3 k2 (nQ _ _ _ _)
  rcases List.mem_append.1 o with o|o
  ·rcases((H.cell _ (au J)).oC aD).1 w o with C|C
   ·exact Or.inl C
   ·exact Or.inr C.1
  ·simp at o;subst o;exact ay _ aJ.1 aJ.2
 rw[ae ar]
 have aD:x.op=23:=by
  rw[ae V]at p;by_cases aD:x.op=23
  ·exact aD
  ·rw[ae V,ae U,ae V,ae aa,ae Y,ae O,ae ac,ae aA,ae an]at p;exact p.elim
 rw[ae V,aq V]at p
 have y:=az V
 have z:dp b x=[u x.args 0]:=by unfold dp;rw[aq V];exact aP V
 obtain⟨aN,aY⟩:=Q.zero (Or.inr aD)
 have aR:∀c,holds [f] c=0:=λc=>by rw[gT];exact ms (λo=>by have:=aY _ o;omega)
 split
 ·rename_i I
  have aJ:n=[]:=List.getLast?_eq_none_iff.1 I
  subst aJ
  have F:=Q.ret aD
  have aC:=a8 _ y.1 y.2 (by rcases F with e|e;(rw[q]at e;simp at e);exact e)
  have a4:=d.bI
  refine⟨d.fK,⟨E,E⟩,E,aC,E,d.dK,d.bI,bK,d.bo,H.congr λc=>?_,d.iA,E,E,E,λv N=>?_,λv N=>?_⟩
  ·rw[z,rf aN]
   simp only[dD,cg,eI]
   rw[ms (by simp;have:=aC.2;omega)];rfl
  ·have e:=d.jy v N
   rw[q]at e
   have C:=aR v
   simp only[dT]at e
   omega
  ·simp[holds]
 ·rename_i F I
  have aJ:n=n.dropLast++[F]:=by
   have a_:n≠[]:=λM=>by rw[M]at I;simp at I
   rw[lV a_]at I;simp at I;rw[<-I];exact(gV a_).symm
  generalize n.dropLast=fs' at aJ
  subst aJ
  have aC:fS b F:=aK F E
  obtain⟨aM,bg,bi⟩:=d.chain fs'.length F f (by rw[q];simp) (by rw[q];simp)
  have bj:f.dst<F.av.length:=by have:=aC.lr;have:=aC.lo;omega
  have a4:=d.bI
  have aB:=d.depth
  rw[q]at aB
  have P:∀c,holds (fs'++[F.put f.dst (u f.av (u x.args 0)) (iV (u f.av (u x.args 0)))]) c=holds s.ak c:=λc=>by
   rw[q,dI,dI,aR,dI,gT,gT];simp[aZ.put]
  refine⟨d.fK,d.cL,⟨λM=>by simp at M;omega,λM=>by simp at M⟩,d.value,d.rL,d.dK,d.bI,by simp at aB⊢;omega,d.bo,H.congr λc=>?_,d.iA,λG j=>?_,λG j=>?_,λA p1 G m j=>?_,λv N=>by rw[P];exact d.jy v N,λv N=>by rw[P];exact d.lL v N⟩
  ·rw[eU,jF,eU,jF,z,rf aN]
   simp only[aZ.put,cg,eI]
   rw[KV aM bj bg bi,uR];omega
  ·rcases List.mem_append.1 j with j|j
   ·exact aK G (bB _ j)
   ·simp at j;subst j
    exact aC.put aM (ay _ y.1 y.2) (EZ _) Bv
  ·have am:=d.first
   rw[q]at am
   cases fs' with
   |nil=>simp at j;subst j;exact am F E
   |cons ai ys=>simp at j;subst j;exact am ai E
  ·have aj:=d.chain A
   rw[q]at aj
   simp only[]at m j
   have aS:=ax j
   simp at aS
   rw[aw V]at m
   have e1:(fs'++[F]++[f])[A]? =some p1:=by rw[aw bK,aw V];exact m
   rcases aV (A+1) fs'.length with D|D
   ·rw[aw D]at j
    exact aj p1 G e1 (by rw[aw bK,aw D];exact j)
   ·rw[aF D]at j
    have K:A+1 -fs'.length=0:=V
    rw[K]at j;simp at j;subst j
    exact aj p1 F e1 (by rw[aw bK,aF D,K];rfl)
def Pv(h:cN b s):cN b (rG b s):=by
 unfold rG;by_cases c:s.cL=3
 ·rw[ae (by simpa using c)];obtain⟨j,f,a⟩:=h.split c;have g:s.ak.getLast?=some f:=by rw[a];simp
  have i:s.ak.dropLast=j:=by rw[a];simp
  rw[g,i];simp only[];have d:∀n,1<=n->n<=2->cN b {s with cL:=n}:=λn l m=>
   ⟨h.fK,⟨by simp only[];omega,by simp only[];omega⟩,⟨λe=>by simp only[]at e;omega,λe=>by simp only[]at e;rw[a]at e;simp at e⟩,h.value,λe=>by have:=h.rL e;omega,h.dK,h.bI,h.depth,h.bo,h.heap,h.iA,h.ak,h.first,h.chain,h.jy,h.lL⟩
  split
  ·exact d 1 V V
  ·rename_i e;split
   ·rename_i k;exact Ox h c a k e
   ·exact d 2 V V
 ·rw[aq (by simpa using c)];exact h
end
section
variable{a:cD}
def rem(a:cD):List aZ->Int
 |[]=>0
 |f::b=>((dF a f.eS).cE.length -f.pc)+rem a b
noncomputable def aA (a:cD):Nat->St->St
 |0,s=>s
 |n+1,s=>aA a n (rG a s)
def JM(a:cD):∀(n:Nat)(s:St),aA a (n+1) s=rG a (aA a n s)
 |0,s=>rfl
 |n+1,s=>by rw[aA,JM a n,aA]
def JK{a:cD}:∀(n:Nat){s:St},cN a s->cN a (aA a n s)
 |0,s,h=>h
 |n+1,s,h=>JK n (Pv h)
def vx{s:St}(h:s.cL≠3):rG a s=s:=by unfold rG;rw[aq h]
def AW{a:cD}:∀(n:Nat){s:St},s.cL≠3->aA a n s=s
 |0,s,_=>rfl
 |n+1,s,h=>by rw[aA,vx h,AW n h]
def ku(a:cD)(dK:Int):St:=⟨3,0,0,dK,[],[],[cw a 0 0 []]⟩
def JI{dK:Int}(c:lO a)(p:0<=dK/\dK<=40):cN a (ku a dK):=by
 have s:=c.pC.len;obtain⟨q,i⟩:=ag (l:=a.cA) (k:=0) V;have n:=c.pC.first q i;have m:=sI (j:=0) (d:=[]) c (dZ 0) i (by simp[n.1]) E;have h:∀f,dD [cw a 0 0 []] f=0:=λf=>by rw[jF,ph];simp[cz]
 refine⟨c,by simp[ku],by simp[ku],by simp[ku,gA],by simp[ku],p,by simp[ku];omega,by simp[ku],by simp[ku],⟨by simp[ku],⟨λ_=>0,by simp[ku]⟩,by simp[ku],λd=>by simp only[ku];rw[h];omega,λd b=>by simp only[ku]at b;rw[h]at b;omega⟩,?_,?_,?_,?_,λd⟨j,e,_⟩=>by simp[ku]at e,λd _=>nQ _ _ _ _ _⟩
 ·intro j e;simp[ku]at e
 ·intro g b;simp[ku]at b;subst b;exact m
 ·intro g b;simp[ku]at b;subst b;rfl
 ·intro t g r b o;simp[ku]at o
end
section
variable{k:Nat}{m:I}
def kv{b:List bq}{d:bq}:Eu b k d<->((wU b.length d.rR/\wU b.length d.to/\d.cons.length<=3/\(0<d.cons.length->d.rR=0/\d.to=0))/\
 (∀h∈d.cons,h.length<=3/\CH b.length h)/\∀e∈b.take k,¬(d.cons.length=0/\e.cons.length=0/\e.rR=d.rR/\e.to=d.to)):=by
 constructor
 ·intro l
  rcases jq d.cons.length with a|a
  ·obtain⟨c,f,g⟩:=l.Pn a
   refine⟨⟨f,g,V,λl=>V⟩,λh m=>?_,λe i j=>c e i j.2⟩
   rw[List.length_eq_zero_iff.1 a]at m;cases m
  ·obtain⟨c,f,g,h⟩:=l.gR a
   exact⟨⟨by unfold wU;omega,by unfold wU;omega,c,λ_=>⟨f,g⟩⟩,h,λe i j=>V⟩
 ·rintro⟨⟨c,f,g,h⟩,l,m⟩
  exact⟨λa=>⟨g,(h a).1,(h a).2,l⟩,λa=>⟨λe i j=>m e i ⟨a,j⟩,c,f⟩⟩
def Bo{aT:O}{c:List bq}(C:bR m aT c):dm bY 140 [O.v aT] m (dv c):=by
 apply vX;simp -zeta only[aE,aD];have w:=C.len;have ap:=C.cap;refine dit (λab=>?_) λab=>?_
 ·exact bX (λa=>by have:=a.len;omega) (J.aC _)
 refine dO (n:=c.length) V (λk f=>J m f/\∀(j:Nat)(d:bq),j<k->c[j]? =some d->Eu c j d) ⟨J.aC _,E⟩ ?_;rintro j x am μ hj ⟨L,W⟩ al
 refine dit (λh1=>?_) λh1=>?_
 ·obtain⟨d,G⟩:=ag (l:=c) (k:=j) V;obtain⟨B,H,g0,g1,g2⟩:=(bR.ext L C).u G;have av:=H.len;refine⟨V,V,_,g0,_,g1,B,g2,?_⟩;intro m2 r;have M:J x r:=((J.aC x).aM _).aj (ad _) _ _;have K:∀s∈[x.size],s<r.size:=by simp[r,m2,az]
  clear_value r;have N:=L.trans M;have i:∀{f:I},J r f->¬Eu c j d->∃Q:Bool,vb false=.bool Q/\(Q=true<->dv c)/\J m f:=λai ah=>bX (λa=>ah (a.df j d G)) (N.trans ai);refine⟨λf=>J r f/\wU c.length d.rR/\wU c.length d.to/\d.cons.length<=3/\(0<d.cons.length->d.rR=0/\d.to=0),?_,?_⟩
  ·refine(nN _ _ _).aG (J.aC _) K λs m4 g R t=>⟨_,rfl,λe=>?_,λe=>?_⟩
   ·exact i t λa=>nb g e (w▸(kv.1 a).1.1)
   have q:=yb g e;refine(nN _ _ _).aG t K λs v g u b=>⟨_,rfl,λh=>?_,λh=>?_⟩
   ·exact i b λa=>nb g h (w▸(kv.1 a).1.2.1)
   have y:=yb g h;rw[w]at q y;refine dit (λz=>?_) λz=>?_
   ·exact i b λa=>by have:=(kv.1 a).1.2.2.1;omega
   refine dit (λA=>?_) λA=>?_
   ·refine⟨λo=>?_,λo=>?_⟩
    ·simp only[tz]at o;exact i b λa=>o ((kv.1 a).1.2.2.2 V).1
    simp only[gD]at o;refine⟨λp=>?_,λp=>?_⟩
    ·simp only[tz]at p;exact i b λa=>p ((kv.1 a).1.2.2.2 V).2
    simp only[gD]at p;exact⟨b,q,y,V,λ_=>⟨o,p⟩⟩
   ·exact⟨b,q,y,V,λo=>V⟩
  ·rintro m4 ⟨Z,af⟩;have ar:=nA.ext (M.trans Z) H;refine dO (n:=d.cons.length) V (λk f=>J r f/\∀B∈d.cons.take k,B.length<=3/\CH c.length B) ⟨Z,E⟩ ?_;rintro P v I2 μ2 hi ⟨o,X⟩ aj;refine dit (λR=>?_) λR=>?_
   ·obtain⟨D,p⟩:=ag (l:=d.cons) (k:=P) V;obtain⟨S,F,T⟩:=(nA.ext (M.trans o) H).u p;have Y:=F.len;refine⟨V,V,S,T,?_⟩;intro y z;have q:J v z:=((J.aC v).aM _).aj (ad _) _ _;have U:∀s∈[v.size,x.size],s<z.size:=by
     have:=o.lt (K x.size E);simp[z,y,az];omega
    clear_value z;refine dit (λt=>?_) λt=>?_
    ·exact i (o.trans q) λa=>by have:=((kv.1 a).2.1 D (au p)).1;omega
    refine(tK (F.ext q) _).aG (J.aC _) U λs A g e u=>⟨_,rfl,λb=>?_,λb=>?_⟩
    ·exact i ((o.trans q).trans e) λa=>nb g b (w▸((kv.1 a).2.1 D (au p)).2)
    ·exact aj V _ ⟨(o.trans q).trans e,bD p X ⟨V,w▸yb g b⟩⟩
   ·have ac:=cF V X;refine⟨V,V,V,?_⟩;have S:bR v (aT.cut 0 j 3) (c.take j):=dW.RT (bR.ext (N.trans o) C) V;have ao:(aT.cut 0 j 3).len=j:=by rw[S.len];simp;omega
    simp -zeta only[rO,Int.toNat_zero];refine dO (n:=j) V (λk f=>J v f/\∀g∈c.take k,¬(d.cons.length=0/\g.cons.length=0/\g.rR=d.rR/\g.to=d.to)) ⟨J.aC _,E⟩ ?_;rintro q y I3 μ3 ay ⟨F,Y⟩ ak;refine dit (λt=>?_) λt=>?_
    ·obtain⟨g,T⟩:=ag (l:=c) (k:=q) V;have U:(c.take j)[q]? =some g:=by rw[mg,aq V];exact T
     obtain⟨f',ae,q0,q1,q2⟩:=(bR.ext F S).u U;have aw:=ae.len;refine⟨V,V,_,q0,_,q1,f',q2,?_⟩;intro z A;have aa:J y A:=((J.aC y).aM _).aj (ad _) _ _;clear_value A;have D:¬(d.cons.length=0/\g.cons.length=0/\g.rR=d.rR/\g.to=d.to)->I3 (cK ((q:Int)+1)) A/\μ3 (cK ((q:Int)+1)) A<μ3 q y:=λp=>ak V _ ⟨F.trans aa,bD T Y p⟩;refine⟨λe=>?_,λe=>?_⟩
     ·simp only[aL]at e;refine⟨λu=>?_,λu=>?_⟩
      ·simp only[aL]at u;refine⟨λb=>?_,λb=>?_⟩
       ·simp only[aL]at b;refine⟨λh=>?_,λh=>?_⟩
        ·simp only[aL]at h;exact i ((o.trans F).trans aa) λa=>(kv.1 a).2.2 g (au U) ⟨V,V,b,h⟩
        ·simp only[an]at h;exact D λp=>h p.2.2.2
       ·simp only[an]at b;exact D λp=>b p.2.2.1
      ·simp only[an]at u;exact D λp=>u V
     ·simp only[an]at e;exact D λp=>e V
    ·have:q=j:=V;subst this;refine al V _ ⟨(N.trans o).trans F,λb e h a=>?_⟩
     by_cases g:b=q
     ·subst g;rw[G]at a;simp at a;subst a;exact kv.2 ⟨af,ac,Y⟩
     ·exact W b e V a
 ·exact iN ⟨V,λP d bA=>W P d (by have:=ax bA;omega) bA⟩ L
def Lt(m:I)(b:List Ce)(p:cY):Prop:=∃a l,b=[.s a,.s l,.i p.aR]/\ar m a p.params/\ar m l p.cW
def Lt.ext{m d:I}(b:J m d)(a:List Ce)(c:cY):Lt m a c->Lt d a c:=λ⟨f,g,e,h,i⟩=>⟨f,g,e,h.ext b,i.ext b⟩
abbrev nH(m:I)(s:O)(l:List cY):Prop:=dW m 3 (Lt m) s l
def nH.ext{m b:I}(a:J m b){s:O}{l:List cY}(h:nH m s l):nH b s l:=h.mono a (Lt.ext a)
def nH.u{s:O}{l:List cY}(h:nH m s l){x:cY}(f:l[k]? =some x):
 ∃a b,ar m a x.params/\ar m b x.cW/\D m s.F (s.off+k*3)=some (O.v a)/\D m s.F (s.off+k*3+1)=some (O.v b)/\D m s.F (s.off+k*3+2)=some (vi x.aR):=by
 obtain⟨g,⟨a,b,rfl,d,e⟩,c⟩:=h.je k x f
 exact⟨a,b,d,e,c 0 (.s a) rfl,c 1 (.s b) rfl,c 2 (.i x.aR) rfl⟩
def Di{aa ab:O}{r:List bq}{c:List cY}(hd:bR m aa r)(R:nH m ab c):
 dm bY 85 [O.v aa,O.v ab] m (Ic r c/\∀p∈c,Bf p.params p.cW):=by
 apply xw
 simp -zeta only[aE,aD]
 have Q:=hd.len
 have aF:=R.len
 refine(Bo hd).then λw m1 e f=>⟨_,rfl,λI=>?_,λI=>?_⟩
 ·exact bX (λa=>nb e I a.1.types) f
 have ht:=yb e I
 refine dit (λh2=>?_) λh2=>?_
 ·exact bX (λa=>by have:=a.1.len;omega) f
 refine dit (λh3=>?_) λh3=>?_
 ·exact bX (λa=>by have:=a.1.len;omega) f
 obtain⟨p0,B⟩:=ag (l:=c) (k:=0) V
 obtain⟨a0,l0,ap,aG,g0,g1,g2⟩:=(nH.ext f R).u B
 have aB:=ap.len
 refine⟨V,V,a0,g0,dit (λh4=>?_) λh4=>?_⟩
 ·exact bX (λa=>by have:=(a.1.first p0 B).1;omega) f
 refine⟨V,V,_,g2,λu=>?_,λu=>?_⟩
 ·simp only[tz]at u
  exact bX (λa=>u (a.1.first p0 B).2) f
 simp only[gD]at u
 refine dO (n:=c.length) V (λj X=>J m X/\∀p∈c.take j,(p.params.length<=3/\CH r.length p.params/\wU r.length p.aR)/\Bf p.params p.cW) ⟨f,E⟩ ?_
 rintro j D ay μ hj ⟨o,hn⟩ aw
 refine dit (λh6=>?_) λh6=>?_
 ·obtain⟨p,i⟩:=ag (l:=c) (k:=j) V
  obtain⟨ak,av,P,A,q0,q1,q2⟩:=(nH.ext o R).u i
  have aC:=P.len
  have aI:=A.len
  have aH:=A.fL
  refine⟨V,V,ak,q0,av,q1,_,q2,?_⟩
  intro m3 F
  have q:J D F:=((J.aC D).aM _).aj (ad _) _ _
  have ac:∀w∈[D.size],w<F.size:=by simp[F,m3,az]
  clear_value F
  refine dit (λh7=>?_) λh7=>?_
  ·exact bX (λa=>by have:=(a.1.df p (au i)).1;omega) (o.trans q)
  refine(tK (P.ext q) _).aG (J.aC _) ac λw m5 e h8 h9=>⟨_,rfl,λK=>?_,λK=>?_⟩
  ·exact bX (λa=>nb e K (Q▸(a.1.df p (au i)).2.1)) ((o.trans q).trans h8)
  have af:=yb e K
  refine(nN _ _ _).aG h9 ac λw Y e aA L=>⟨_,rfl,λM=>?_,λM=>?_⟩
  ·exact bX (λa=>nb e M (Q▸(a.1.df p (au i)).2.2)) ((o.trans q).trans L)
  have ae:=yb e M
  rw[Q]at af ae
  have ah:J m Y:=(o.trans q).trans L
  have U:J D Y:=q.trans L
  refine dO (n:=p.cW.length) V (λk X=>X=Y/\∀(j:Nat)(v:Int),j<k->p.cW[j]? =some v->(∃t,0<=v/\p.params[v.toNat]? =some t/\t≠0)/\(∀G:Int,0<j->p.cW[j -1]? =some G->G<v)) ⟨rfl,E⟩ ?_
  rintro k m7 I2 μ2 hk ⟨rfl,S⟩ ai
  have y:¬Bf p.params p.cW->∃Z:Bool,vb false=.bool Z/\(Z=true<->Ic r c/\∀p∈c,Bf p.params p.cW)/\J m m7:=λar=>bX (λa=>ar (a.2 p (au i))) ah
  refine dit (λal=>?_) λal=>?_
  ·obtain⟨x,g⟩:=ag (l:=p.cW) (k:=k) V
   refine⟨V,V,x,by simpa using U.D (A.u g),dit (λam=>?_) λam=>?_⟩
   ·exact y λa=>by obtain⟨⟨t,z,_⟩,_⟩:=a k x g;omega
   refine⟨λz=>?_,λz=>?_⟩
   ·simp only[wS,ao]at z
    refine y λa=>?_
    obtain⟨⟨t,_,d,_⟩,_⟩:=a k x g
    have:=ax d;omega
   simp only[wS,bP]at z
   obtain⟨t,C⟩:=ag (l:=p.params) (k:=x.toNat) V
   refine⟨V,V,t,by simpa using U.D (P.u C),λd=>?_,λd=>?_⟩
   ·simp only[aL]at d
    refine y λa=>?_
    obtain⟨⟨b,_,s,N⟩,_⟩:=a k x g
    rw[C]at s;simp at s;exact N (s▸d)
   simp only[an]at d
   refine dit (λs=>?_) λs=>?_
   ·have e2:cK ((k:Int) -1)=((k -1:Nat):Int):=by rw[aP V V];omega
    obtain⟨aj,W⟩:=ag (l:=p.cW) (k:=k -1) V
    rw[e2]
    refine⟨V,V,aj,by simpa using U.D (A.u W),dit (λN=>?_) λN=>?_⟩
    ·exact y λa=>by have:=(a k x g).2 aj V W;omega
    ·refine ai V _ ⟨rfl,λh v aq b=>?_⟩
     by_cases H:h=k
     ·subst H
      rw[g]at b;simp at b;subst b
      refine⟨⟨t,V,C,d⟩,λG _ T=>?_⟩
      rw[W]at T;simp at T;subst T;omega
     ·exact S h v V b
   ·refine ai V _ ⟨rfl,λh v aq b=>?_⟩
    by_cases H:h=k
    ·subst H
     rw[g]at b;simp at b;subst b
     exact⟨⟨t,V,C,d⟩,λG N _=>V⟩
    ·exact S h v V b
  ·exact aw V _ ⟨ah,bD i hn ⟨⟨V,af,ae⟩,λh v b=>S h v (by have:=ax b;omega) b⟩⟩
 ·have b:=cF V hn
  refine iN ⟨⟨ht,V,λp a=>(b p a).1,λp a=>?_⟩,λp a=>(b p a).2⟩ o
  rw[B]at a;simp at a;subst a
  exact⟨V,u⟩
end
section
variable{c:I}{d f a j:O}{b:cD}{i:Instr}
def De{L:O}(q:eV c d L b):
 aN bY 49 [.agg #[O.v d,O.v L]] c λaq w=>∃X f e,aq=.tuple #[.agg #[O.v X,O.v f],vb e]/\(e=true<->Ic b.aT b.cA/\∀L∈b.cA,Bf L.params L.cW)/\
  (e=true->X=d/\nH w f b.cA)/\J c w:=by
 apply xr
 simp -zeta only[aE,aD]
 intro K h
 have av:=q.cA.len
 have s1:K.size=c.size+1:=by simp[K]
 have s2:h.size=c.size+2:=by simp[h,K]
 have ae:J c h:=((J.aC c).aM _).aM _
 refine dit (λh1=>?_) λh1=>?_
 ·intro g
  exact⟨_,_,_,rfl,⟨λq=>by simp at q,λq=>by have:=q.1.len;omega⟩,λq=>by simp at q,ae.aj V _ _⟩
 intro m4 G
 have s5:G.size=c.size+3:=by simp[G,m4,az,s2]
 have ao:J c G:=(ae.aM _).aj V _ _
 have ak:cB G h.size kD [.s d,.s .nil]:=cB.aj (m:=m4) (o:=0) (r:=[.s d,.s .nil]) (cB.push h _ _)
 clear_value G
 refine dO (n:=b.cA.length) V (λQ w=>J c w/\G.size<=w.size/\∃g z,cB w h.size kD [.s d,.s g]/\iO c w oh 3 g z.flatten/\fU 3 (Lt c) z (b.cA.take Q)/\(g≠.nil->h.size<g.F)/\g.len=Q)
  ⟨ao,ad _,.nil,[],ak,iO.nil _ _ _ _,by simpa using fU.nil 3 (Lt c),E,rfl⟩ ?_
 rintro Q i ar μ hk ⟨s,aw,g,z,v,N,P,T,ac⟩ ap
 refine dit (λh2=>?_) λh2=>?_
 ·obtain⟨R,hq⟩:=ag (l:=b.cA) (k:=Q) V
  obtain⟨a,e,af,ha,t,B,g0,g1,g2,g3,g4⟩:=q.cA.u hq
  refine⟨V,V,a,by simpa using s.D g0,e,by simpa using s.D g1,_,by simpa using s.D g2,_,by simpa using s.D g3,af,by simpa using s.D g4,?_⟩
  intro W j
  have I:J i j:=((J.aC i).aM _).aj (ad _) _ _
  have s8:j.size=i.size+1:=by simp[j,W,az]
  clear_value j
  refine⟨g,(v.ext I).cy 1,?_⟩
  intro x
  have U:J i x:=I.aM _
  have s9:x.size=i.size+2:=by simp[x,s8]
  have kd:fQ x j.size 0 [.s a,.s e,.i R.aR]:=(cB.push j _ _).je
  clear_value x
  refine iO.append (zs:=[.s .nil,.s .nil,.i 0]) (f:=[.s a,.s e,.i R.aR]) (N.ext U) (s.trans U) rfl kd (by simp[ac];omega) ?_
  intro y D h7 h8 Y au ah ai
  have ab:y≠.nil->h.size<y.F:=by
   intro C;rcases ai with⟨_,A⟩|⟨am,A,_⟩|A
   ·exact absurd A C
   ·have:=T am;omega
   ·omega
  have M:∀p,p<x.size->p<=h.size\/p=i.size/\(g=.nil\/g.F<i.size)->D[p]? =x[p]? :=by
   intro p u B;refine ah p u λC=>?_;have:=T C;rcases B with B|⟨rfl,B|B⟩
   ·omega
   ·exact absurd B C
   ·omega
  have al:g=.nil\/g.F<i.size:=N.lt
  have Z:cB D h.size kD [.s d,.s g]:=(v.ext U).congr (M _ V (Or.inl (ad _)))
  refine⟨λp u=>?_,Z.fm E,?_⟩
  ·simp at u
   rcases u with rfl|rfl|rfl
   ·exact M _ V (Or.inr ⟨rfl,al⟩)
   ·exact M _ V (Or.inl V)
   ·exact M _ V (Or.inl V)
  intro F
  have ax:F.size=D.size:=by simp[F,az]
  have aj:cB F h.size kD [.s d,.s y]:=cB.aj (m:=D) (o:=1) (r:=[.s y]) Z
  have aa:∀e,e≠h.size->F[e]? =D[e]? :=λe t=>bh _ _ _ _ t
  have an:J c F:=h8.aj V _ _
  clear_value F
  refine⟨λp u=>?_,?_⟩
  ·simp at u
   rcases u with rfl|rfl|rfl<;>exact aa _ V
  refine ap V _ ⟨an,V,y,z++[[.s a,.s e,.i R.aR]],aj,?_,?_,ab,by simp[Y,ac]⟩
  ·rw[vR]
   have S:iO c D oh 3 y (z.flatten++[[.s a,.s e,.i R.aR]].flatten):=by simpa using h7
   rcases S.lt with A|A
   ·subst A;exact⟨S.len,Or.inl rfl⟩
   ·refine S.congr (aa _ λe2=>?_)
    by_cases H:y=.nil
    ·subst H
     have:=Y
     simp at this
    ·have:=ab H;omega
  ·rw[bH hq]
   exact P.xK rfl ⟨a,e,rfl,ha,t⟩
 ·rw[bZ V]at P
  have A:nH i g b.cA:=(dW.ij N P V V).mono (J.aC _) (Lt.ext s)
  refine⟨d,v.cy 0,g,v.cy 1,g,v.cy 1,?_⟩
  have x:∀e∈[K.size,c.size],e<i.size:=bK
  refine(Di (bR.ext s q.aT) A).aG (J.aC _) x λe W t p _=>⟨_,rfl,p.dg (v.cy 0),p.dg (v.cy 1),?_⟩
  intro j
  have C:∀e,e≠K.size->j[e]? =W[e]? :=λe t=>bh _ _ _ _ t
  have I:J c j:=(s.trans p).aj V _ _
  refine⟨d,g,e,rfl,t,λ_=>⟨rfl,?_⟩,I⟩
  have u:=N.ext p
  have y:iO c j oh 3 g z.flatten:=by
   by_cases H:g=.nil
   ·subst H;exact⟨u.len,Or.inl rfl⟩
   ·exact u.congr (C _ (by have:=T H;omega))
  exact(dW.ij y P V V).mono (J.aC _) (Lt.ext I)
def fB(b:cD)(i:Instr)(a:Int->Prop):Prop:=
 if i.op=0 then -999<=i.bL/\i.bL<=999
 else if i.op=6 then 0<=i.bL/\i.bL<(eC b.aT).length
 else if i.op=9\/i.op=24 then 0<=i.bL/\i.bL<b.cA.length
 else if i.op=10 then 0<=i.bL/\∃q,b.cA[i.bL.toNat]? =some q/\q.cW.length=0
 else if i.op=19 then 0<=i.bL/\i.bL<3
 else if i.op=20\/i.op=22 then a i.bL
 else if i.op=21 then 0<(bU b.aT i.bL).length/\i.dR.length=(bU b.aT i.bL).length
 else i.bL=0
def EO(C:bR c d b.aT)(z:dv b.aT)(D:nH c f b.cA)(U:ar c a i.args)(K:ar c j i.dR)(v:Nat)(x w:Array Value)(I:GL.elem v=true)(n:Int->Prop)
 (M:∀e,J c e->dm bY v (x.toList++[vi i.bL]++w.toList) e (n i.bL)):
 dm bY 89 [.agg #[O.v d,O.v f],.agg #[vi i.op,vi i.dst,vi i.bL,vi i.bV,O.v a,O.v j],.func (.func v) x w] c (fB b i n):=by
 apply oK d f i.op i.dst i.bL i.bV a j (.func v,x,w)
 simp -zeta only[aE,aD]
 intro A t
 have e:J c t:=((J.aC c).aM _).aM _
 have y:∀B∈[A.size,c.size],B<t.size:=by simp[t,A];omega
 have X:=D.len
 have Y:=K.len
 have H:cB t A.size dz [.i i.op,.i i.dst,.i i.bL,.i i.bV,.s a,.s j]:=cB.push _ _ _
 clear_value t
 refine⟨λm=>?_,λm=>?_⟩
 ·simp only[aL]at m
  rw[show fB b i n<->-999<=i.bL/\i.bL<=999 by rw[fB,aq m]]
  refine⟨λh=>fA ?_ e,λh=>bX ?_ e⟩<;>simp at h
  ·simp;omega
  ·omega
 simp only[an]at m
 refine⟨λo=>?_,λo=>?_⟩
 ·simp only[aL]at o
  rw[show fB b i n<->0<=i.bL/\i.bL<(eC b.aT).length by rw[fB,ae m,aq o]]
  refine⟨λh=>?_,λh=>bX ?_ e⟩<;>simp at h
  ·refine(tL (bR.ext e C) z.len (OY z)).aG (J.aC _) y λF g _=>⟨_,rfl,g.dg (H.cy 2),fA ?_ (e.trans g)⟩
   simp;omega
  ·omega
 simp only[an]at o
 refine⟨λp=>?_,λp=>?_⟩
 ·simp only[cv,aL]at p
  rw[show fB b i n<->0<=i.bL/\i.bL<b.cA.length by rw[fB,ae m,ae o,aq p]]
  refine⟨λh=>fA ?_ e,λh=>bX ?_ e⟩<;>simp at h
  ·simp;omega
  ·omega
 simp only[bQ,an]at p
 replace p:¬(i.op=9\/i.op=24):=V
 refine⟨λq=>?_,λq=>?_⟩
 ·simp only[aL]at q
  rw[show fB b i n<->0<=i.bL/\∃r,b.cA[i.bL.toNat]? =some r/\r.cW.length=0 by rw[fB,ae m,ae o,ae p,aq q]]
  refine⟨λh=>⟨λs=>?_,λs=>?_⟩,λh=>bX ?_ e⟩<;>simp at h
  ·simp at s
   obtain⟨r,u⟩:=ag (l:=b.cA) (k:=i.bL.toNat) V
   obtain⟨P,N,W,L,Q,G,R⟩:=(nH.ext e D).u u
   have:=L.len
   refine⟨V,V,N,G,fA ?_ e⟩
   simp only[aL]
   refine⟨λS=>⟨h,r,u,V⟩,λ⟨_,Z,g,T⟩=>?_⟩
   rw[u]at g;simp at g;subst g;omega
  ·simp at s
   exact bX (λ⟨_,r,g,_⟩=>by have:=ax g;omega) e
  ·omega
 simp only[an]at q
 refine⟨λr=>?_,λr=>?_⟩
 ·simp only[aL]at r
  rw[show fB b i n<->0<=i.bL/\i.bL<3 by rw[fB,ae m,ae o,ae p,ae q,aq r]]
  refine⟨λh=>fA ?_ e,λh=>bX ?_ e⟩<;>simp at h
  ·simp;omega
  ·omega
 simp only[an]at r
 refine⟨λs=>?_,λs=>?_⟩
 ·simp only[cv,aL]at s
  rw[show fB b i n<->n i.bL by rw[fB,ae m,ae o,ae p,ae q,ae r,aq s]]
  exact⟨v,rfl,I,(M t e).aG (J.aC _) y λB F u g _=>⟨_,rfl,fA u (e.trans g)⟩⟩
 simp only[bQ,an]at s
 replace s:¬(i.op=20\/i.op=22):=V
 refine⟨λu=>?_,λu=>?_⟩
 ·simp only[aL]at u
  rw[show fB b i n<->0<(bU b.aT i.bL).length/\i.dR.length=(bU b.aT i.bL).length by rw[fB,ae m,ae o,ae p,ae q,ae r,ae s,aq u]]
  refine(IN (bR.ext e C) z _).aG (J.aC _) y ?_
  rintro _ F ⟨L,rfl,G,g⟩
  have:=G.len
  refine⟨g,_,rfl,λh=>fA ?_ (e.trans g),λh=>bX ?_ (e.trans g)⟩<;>simp at h
  ·simp only[aL];omega
  ·omega
 ·simp only[an]at u
  rw[show fB b i n<->i.bL=0 by rw[fB,ae m,ae o,ae p,ae q,ae r,ae s,ae u]]
  exact fA E e
def fJ(b:cD)(i:Instr)(c a:Int):Prop:=
 if i.op=0\/i.op=22 then c=0/\a=0
 else if i.op=1\/i.op=2\/i.op=3\/i.op=4\/i.op=11 then c=2/\a=2
 else if i.op=6 then c=(bT b.aT i.bL).length/\a=(bT b.aT i.bL).length
 else if i.op=9\/i.op=24 then∃q,b.cA[i.bL.toNat]? =some q/\c=q.params.length/\a=q.params.length
 else if i.op=10 then∃q,b.cA[i.bL.toNat]? =some q/\c=(q.params.length:Int) -1/\a=(q.params.length:Int) -1
 else if i.op=16\/i.op=17 then c=1/\a=4
 else c=1/\a=1
def IM(I:bR c d b.aT)(C:dv b.aT)(z:nH c f b.cA){N:Int->Prop}(v:fB b i N):
 aN bY 90 [.agg #[O.v d,O.v f],.agg #[vi i.op,vi i.dst,vi i.bL,vi i.bV,O.v a,O.v j]] c λQ P=>∃D B:Int,Q=.tuple #[vi D,vi B]/\fJ b i D B/\J c P:=by
 apply pQ
 simp -zeta only[aE,aD]
 intro E w
 have g:J c w:=((J.aC c).aM _).aM _
 have K:∀F∈[E.size,c.size],F<w.size:=by simp[w,E];omega
 have S:=z.len
 clear_value w
 refine⟨λh=>?_,λh=>?_⟩
 ·simp only[cv,aL]at h
  exact⟨_,_,rfl,by rw[fJ,aq h];exact⟨rfl,rfl⟩,g⟩
 simp only[bQ,an]at h
 have n:¬(i.op=0\/i.op=22):=V
 refine⟨λs=>?_,λs=>?_⟩
 ·simp only[cv,aL]at s
  exact⟨_,_,rfl,by rw[fJ,ae n,aq s];exact⟨rfl,rfl⟩,g⟩
 simp only[bQ,an]at s
 have p:¬(i.op=1\/i.op=2\/i.op=3\/i.op=4\/i.op=11):=V
 refine⟨λe=>?_,λe=>?_⟩
 ·simp only[aL]at e
  rw[fB,ae h.1,aq e]at v
  have o:=qW C b.aT.length
  rw[mM _ _ (ad _)]at o
  refine(EM (bR.ext g I) C _ V).aG (J.aC _) K ?_
  rintro _ r ⟨t,rfl,q,m⟩
  have:=q.len
  exact⟨m,_,rfl,_,_,rfl,by rw[fJ,ae n,ae p,aq e];omega,g.trans m⟩
 simp only[an]at e
 refine⟨λq=>?_,λq=>?_⟩
 ·simp only[cv,aL]at q
  rw[fB,ae h.1,ae e,aq q]at v
  obtain⟨x,o⟩:=ag (l:=b.cA) (k:=i.bL.toNat) V
  obtain⟨r,M,u,L,y,G,H⟩:=(nH.ext g z).u o
  have:=u.len
  exact⟨V,V,r,y,_,_,rfl,by rw[fJ,ae n,ae p,ae e,aq q];exact⟨x,o,V,V⟩,g⟩
 simp only[bQ,an]at q
 have t:¬(i.op=9\/i.op=24):=V
 refine⟨λm=>?_,λm=>?_⟩
 ·simp only[aL]at m
  rw[fB,ae h.1,ae e,ae t,aq m]at v
  obtain⟨R,x,o,_⟩:=v
  obtain⟨r,M,u,L,y,G,H⟩:=(nH.ext g z).u o
  have:=u.len
  have:=u.fL
  have:=ax o
  have A:cK ((r.len:Int) -1)=(x.params.length:Int) -1:=by rw[aP V V];omega
  exact⟨V,V,r,y,_,_,rfl,by rw[fJ,ae n,ae p,ae e,ae t,aq m];exact⟨x,o,A,A⟩,g⟩
 simp only[an]at m
 refine⟨λo=>?_,λo=>?_⟩
 ·simp only[cv,aL]at o
  exact⟨_,_,rfl,by rw[fJ,ae n,ae p,ae e,ae t,ae m,aq o];exact⟨rfl,rfl⟩,g⟩
 ·simp only[bQ,an]at o
  have r:¬(i.op=16\/i.op=17):=V
  exact⟨_,_,rfl,by rw[fJ,ae n,ae p,ae e,ae t,ae m,ae r];exact⟨rfl,rfl⟩,g⟩
end
section
variable{m:I}{x a:Int}{b d:Nat}{c:O}
def vA(e:D m b 0=some (vi a))(f:D m d 4=some (O.v c)):
 dm bY 87 [vi x,vp b 0,vp d 0] m (a+1<=x/\x<=(c.len:Int) -1):=by
 apply mO x (b,0) (d,0)
 refine⟨a,e,λh=>⟨c,f,fA ?_ (J.aC _)⟩,λh=>bX ?_ (J.aC _)⟩<;>simp at h
 ·simp;omega
 ·omega
def Ha{e:Nat}(f:D m b 0=some (vi a))(g:D m d 4=some (O.v c))
 (h:D m e 0=some (.func (.func 87) #[] #[vp b 0,vp d 0])):
 dm bY 88 [vi x,vp e 0] m (¬(a+1<=x/\x<=(c.len:Int) -1)):=by
 apply mP x (e,0)
 refine⟨(.func 87,#[],#[vp b 0,vp d 0]),h,_,rfl,rfl,?_⟩
 refine(vA f g).then λk l i j=>⟨_,rfl,fA ?_ j⟩
 rw[<-i];simp
def Gn{w:cD}{p:cY}{a:Nat}{i:Instr}(Q:p.av<=2000)(O:w.cA.length<=4)(H:∀s∈w.cA,s.params.length<=3):
 gG w p a i<->((0<=i.op/\i.op<=24/\i.op≠7/\i.op≠8/\i.op≠12/\i.op≠13)/\(0<=i.dst/\i.dst<p.av/\(i.dst=0\/kE i.op)/\0<=i.bV/\i.bV<=p.av/\(i.bV=0\/i.op=6))/\
  (∀q∈i.args,0<=q/\q<p.av)/\(i.dR.length=0\/i.op=21)/\(∀t∈i.dR,(a:Int)+1<=t/\t<=(p.cE.length:Int) -1)/\
  fB w i (λt=>(a:Int)+1<=t/\t<=(p.cE.length:Int) -1)/\∀m j,fJ w i m j->m<=i.args.length/\(i.args.length:Int)<=j):=by
 have P:(0<=i.dst/\i.dst<p.av)->0<p.av:=λy=>V
 constructor
 ·intro y
  have c:=y.op
  have N:=y.dst
  have E:∀q∈i.args,0<=q/\q<p.av:=λq g=>by have:=y.args q g;omega
  have v:i.op≠21->∀t∈i.dR,(a:Int)+1<=t/\t<=(p.cE.length:Int) -1:=λJ t K=>by
   rcases y.dR with r|r
   ·exact absurd r J
   ·rw[List.length_eq_zero_iff.1 r]at K;cases K
  have F:i.dR.length=0\/i.op=21:=y.dR.symm
  have I:0<=i.dst/\i.dst<p.av:=V
  have il:∀(_:0<=i.op/\i.op<=24/\i.op≠7/\i.op≠8/\i.op≠12/\i.op≠13)(_:0<=i.bV/\i.bV<=p.av)(_:∀t∈i.dR,(a:Int)+1<=t/\t<=(p.cE.length:Int) -1)
   (_:fB w i (λt=>(a:Int)+1<=t/\t<=(p.cE.length:Int) -1))(_:∀m j,fJ w i m j->m<=i.args.length/\(i.args.length:Int)<=j),_:=
   λG D H M r=>(⟨G,⟨I.1,I.2,y.Vk,D.1,D.2,y.bV⟩,E,F,H,M,r⟩:(0<=i.op/\i.op<=24/\i.op≠7/\i.op≠8/\i.op≠12/\i.op≠13)/\(0<=i.dst/\i.dst<p.av/\(i.dst=0\/kE i.op)/\0<=i.bV/\i.bV<=p.av/\(i.bV=0\/i.op=6))/\
   (∀q∈i.args,0<=q/\q<p.av)/\(i.dR.length=0\/i.op=21)/\(∀t∈i.dR,(a:Int)+1<=t/\t<=(p.cE.length:Int) -1)/\
   fB w i (λt=>(a:Int)+1<=t/\t<=(p.cE.length:Int) -1)/\∀m j,fJ w i m j->m<=i.args.length/\(i.args.length:Int)<=j)
  have u:i.op≠6->0<=i.bV/\i.bV<=p.av:=λJ=>by rcases y.bV with r|r<;>omega
  unfold lA at c
  by_cases d:i.op=0
  ·rw[aq d]at c
   refine il V (u V) (v V) (by rw[fB,aq d];exact c.2) (λm j g=>?_)
   rw[fJ,aq (Or.inl d)]at g;omega
  rw[ae d]at c
  by_cases h:i.op=1\/i.op=2\/i.op=3\/i.op=4\/i.op=11
  ·rw[aq h]at c
   refine il V (u V) (v V) ?_ (λm j g=>?_)
   ·rw[fB,ae d,ae V,ae V,ae V,ae V,ae V,ae V];exact c.2
   ·rw[fJ,ae V,aq h]at g;omega
  rw[ae h]at c
  by_cases C:i.op=5\/i.op=14\/i.op=15\/i.op=18\/i.op=23
  ·rw[aq C]at c
   refine il V (u V) (v V) ?_ (λm j g=>?_)
   ·rw[fB,ae d,ae V,ae V,ae V,ae V,ae V,ae V];exact c.2
   ·rw[fJ,ae V,ae h,ae V,ae V,ae V,ae V]at g;omega
  rw[ae C]at c
  by_cases b:i.op=6
  ·rw[aq b]at c
   refine il V c.2.2 (v V) ?_ (λm j g=>?_)
   ·rw[fB,ae d,aq b];exact c.1
   ·rw[fJ,ae V,ae h,aq b]at g;omega
  rw[ae b]at c
  by_cases e:i.op=9\/i.op=24
  ·rw[aq e]at c
   obtain⟨s,r,z,x⟩:=c
   have:=ax z
   refine il V (u V) (v V) ?_ (λm j g=>?_)
   ·rw[fB,ae d,ae b,aq e];omega
   ·rw[fJ,ae V,ae h,ae b,aq e]at g
    obtain⟨L,n,A,o⟩:=g
    rw[z]at n;simp at n;subst n;omega
  rw[ae e]at c
  by_cases f:i.op=10
  ·rw[aq f]at c
   obtain⟨⟨s,r,z,x⟩,n⟩:=c
   have:=ax z
   refine il V (u V) (v V) ?_ (λm j g=>?_)
   ·rw[fB,ae d,ae b,ae e,aq f];exact⟨r,s,z,n s z⟩
   ·rw[fJ,ae V,ae h,ae b,ae e,aq f]at g
    obtain⟨L,n,A,o⟩:=g
    rw[z]at n;simp at n;subst n;omega
  rw[ae f]at c
  by_cases n:i.op=16\/i.op=17
  ·rw[aq n]at c
   refine il V (u V) (v V) ?_ (λm j g=>?_)
   ·rw[fB,ae d,ae b,ae e,ae f,ae V,ae V,ae V];exact c.2
   ·rw[fJ,ae V,ae h,ae b,ae e,ae f,aq n]at g;omega
  rw[ae n]at c
  by_cases o:i.op=19
  ·rw[aq o]at c
   refine il V (u V) (v V) ?_ (λm j g=>?_)
   ·rw[fB,ae d,ae b,ae e,ae f,aq o];omega
   ·rw[fJ,ae V,ae h,ae b,ae e,ae f,ae n]at g;omega
  rw[ae o]at c
  by_cases B:i.op=20
  ·rw[aq B]at c
   refine il V (u V) (v V) ?_ (λm j g=>?_)
   ·rw[fB,ae d,ae b,ae e,ae f,ae o,aq (Or.inl B)];exact c.2
   ·rw[fJ,ae V,ae h,ae b,ae e,ae f,ae n]at g;omega
  rw[ae B]at c
  by_cases x:i.op=22
  ·rw[aq x]at c
   refine il V (u V) (v V) ?_ (λm j g=>?_)
   ·rw[fB,ae d,ae b,ae e,ae f,ae o,aq (Or.inr x)];exact c.2
   ·rw[fJ,aq (Or.inr x)]at g;omega
  rw[ae x]at c
  by_cases A:i.op=21
  ·rw[aq A]at c
   refine il V (u V) c.2.2.2 ?_ (λm j g=>?_)
   ·rw[fB,ae d,ae b,ae e,ae f,ae o,ae V,aq A]
    have:=c.2.2.1
    exact⟨c.2.1,V⟩
   ·rw[fJ,ae V,ae h,ae b,ae e,ae f,ae n]at g;omega
  rw[ae A]at c
  exact c.elim
 ·rintro⟨G,D,E,F,u,c,j⟩
  refine⟨λq g=>by have:=E q g;omega,V,D.2.2.1,D.2.2.2.2.2,F.symm,?_⟩
  unfold lA
  by_cases d:i.op=0
  ·rw[aq d]
   rw[fB,aq d]at c
   have:=j 0 0 (by rw[fJ,aq (Or.inl d)];exact⟨rfl,rfl⟩)
   exact⟨V,c⟩
  rw[ae d]
  by_cases h:i.op=1\/i.op=2\/i.op=3\/i.op=4\/i.op=11
  ·rw[aq h]
   rw[fB,ae d,ae V,ae V,ae V,ae V,ae V,ae V]at c
   have:=j 2 2 (by rw[fJ,ae V,aq h];exact⟨rfl,rfl⟩)
   exact⟨V,c⟩
  rw[ae h]
  by_cases C:i.op=5\/i.op=14\/i.op=15\/i.op=18\/i.op=23
  ·rw[aq C]
   rw[fB,ae d,ae V,ae V,ae V,ae V,ae V,ae V]at c
   have:=j 1 1 (by rw[fJ,ae V,ae h,ae V,ae V,ae V,ae V];exact⟨rfl,rfl⟩)
   exact⟨V,c⟩
  rw[ae C]
  by_cases b:i.op=6
  ·rw[aq b]
   rw[fB,ae d,aq b]at c
   have:=j _ _ (by rw[fJ,ae V,ae h,aq b];exact⟨rfl,rfl⟩)
   exact⟨c,V,V⟩
  rw[ae b]
  by_cases e:i.op=9\/i.op=24
  ·rw[aq e]
   rw[fB,ae d,ae b,aq e]at c
   obtain⟨s,m⟩:=ag (l:=w.cA) (k:=i.bL.toNat) V
   have:=j _ _ (by rw[fJ,ae V,ae h,ae b,aq e];exact⟨s,m,rfl,rfl⟩)
   exact⟨s,c.1,m,V⟩
  rw[ae e]
  by_cases f:i.op=10
  ·rw[aq f]
   rw[fB,ae d,ae b,ae e,aq f]at c
   obtain⟨r,s,m,z⟩:=c
   have:=j _ _ (by rw[fJ,ae V,ae h,ae b,ae e,aq f];exact⟨s,m,rfl,rfl⟩)
   refine⟨⟨s,r,m,V⟩,λL t=>?_⟩
   rw[m]at t;simp at t;subst t;exact z
  rw[ae f]
  by_cases n:i.op=16\/i.op=17
  ·rw[aq n]
   rw[fB,ae d,ae b,ae e,ae f,ae V,ae V,ae V]at c
   have:=j 1 4 (by rw[fJ,ae V,ae h,ae b,ae e,ae f,aq n];exact⟨rfl,rfl⟩)
   exact⟨V,c⟩
  have m:i.op≠22->∀(d:¬i.op=0)(h:¬(i.op=1\/i.op=2\/i.op=3\/i.op=4\/i.op=11))(b:¬i.op=6)(e:¬(i.op=9\/i.op=24))(f:¬i.op=10)(n:¬(i.op=16\/i.op=17)),i.args.length=1:=λr d h b e f n=>by
   have:=j 1 1 (by rw[fJ,ae V,ae h,ae b,ae e,ae f,ae n];exact⟨rfl,rfl⟩);omega
  rw[ae n]
  by_cases o:i.op=19
  ·rw[aq o]
   rw[fB,ae d,ae b,ae e,ae f,aq o]at c
   exact⟨m V d h b e f n,V,V⟩
  rw[ae o]
  by_cases B:i.op=20
  ·rw[aq B]
   rw[fB,ae d,ae b,ae e,ae f,ae o,aq (Or.inl B)]at c
   exact⟨m V d h b e f n,c⟩
  rw[ae B]
  by_cases x:i.op=22
  ·rw[aq x]
   rw[fB,ae d,ae b,ae e,ae f,ae o,aq (Or.inr x)]at c
   have:=j 0 0 (by rw[fJ,aq (Or.inr x)];exact⟨rfl,rfl⟩)
   exact⟨V,c⟩
  rw[ae x]
  by_cases A:i.op=21
  ·rw[aq A]
   rw[fB,ae d,ae b,ae e,ae f,ae o,ae V,aq A]at c
   exact⟨m V d h b e f n,c.1,V,u⟩
  rw[ae A]
  omega
end
end Go.Proofs.YtgnjacfobdjeeaaGreat
