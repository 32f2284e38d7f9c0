/- Part of a proof, joined by a program. -/
import Derived.Test.YtgnjacfobdjeeaaGreatW08
import Derived.Test.YtgnjacfobdjeeaaGreatW09
set_option linter.unusedVariables false
set_option linter.unusedSimpArgs false
set_option linter.defProp false
set_option linter.constructorNameAsVariable false
set_option maxHeartbeats 8000000
set_option maxRecDepth 100000
namespace Go.Proofs.YtgnjacfobdjeeaaGreat
open Go.Vc
section
variable{f b:Nat}{h g:List bX}{e e':Nat->Int}{w:Int}{c d:bX}
def lM:∀(l r:List Int)(f:Nat),eL (l++r) f=eL l f+eL r f
 |[],r,f=>by simp[eL]
 |w::l,r,f=>by simp only[cU,eL,lM l r f];omega
def zK:∀(l:List Int)(f:Nat),eL l.reverse f=eL l f
 |[],f=>rfl
 |w::l,f=>by simp only[PB,lM,zK l f,eL];omega
def iG:∀(l:List Int)(f:Nat),0<=eL l f
 |[],f=>by simp[eL]
 |w::l,f=>by have:=iG l f;simp only[eL];split<;>omega
def nJ:∀{l:List Int}{f:Nat},(1000+(f:Int))∉l->eL l f=0
 |[],f,_=>rfl
 |w::l,f,h=>by
  simp only[aU,tH]at h;simp only[eL,nJ h.2];rw[ae (λe=>h.1 e.symm)];rfl
def um:∀{l:List Int}{f:Nat},(1000+(f:Int))∈l->1<=eL l f
 |[],f,h=>by simp at h
 |w::l,f,h=>by
  simp only[eL];rcases List.mem_cons.1 h with rfl|h
  ·rw[ao rfl];have:=iG l f;omega
  ·have:=um h;split<;>omega
def NF{l:List Int}(h:0<eL l f):(1000+(f:Int))∈l:=
 dK λa=>by rw[nJ a]at h;omega
def Rv(n:Nat)(f:Nat):eL (cZ n) f=0:=nJ λh=>by have:=UE h;omega
def vM:∀(l:List Int)(f:Nat),eL (kL l) f=eL l f
 |[],f=>rfl
 |w::l,f=>by
  have:=vM l f;simp only[kL]at this⊢;rw[List.filter_cons];split
  ·simp only[eL,this]
  ·rename_i h;simp only[eL,this];rw[ae (λe=>h bJ)];omega
def lO:∀(l:List Int)(f:Nat),eL l f<=l.length
 |[],f=>by simp[eL]
 |w::l,f=>by have:=lO l f;simp only[eL,aY];split<;>omega
def uq:∀(h k:List bX)(f:Nat),fy (h++k) f=fy h f+fy k f
 |[],k,f=>by simp[fy]
 |c::h,k,f=>by simp only[cU,fy,uq h k f];omega
def ur:∀(h:List bX)(f:Nat),0<=fy h f
 |[],f=>by simp[fy]
 |c::h,f=>by have:=ur h f;have:=iG c.aL f;simp only[fy];omega
def zP:∀{h:List bX}{f:Nat}{c:bX}(e:bX)(_:h[f]? =some c)(b:Nat),fy (h.set f e) b=fy h b -eL c.aL b+eL e.aL b
 |[],f,c,e,h,b=>by simp at h
 |d::h,0,c,e,g,b=>by simp at g;subst g;simp only[gW,fy];omega
 |d::h,f+1,c,e,g,b=>by
  have:=zP (h:=h) (f:=f) e (by simpa using g) b;simp only[iU,fy,this];omega
def KB:∀{h:List bX}{f:Nat},0<fy h f->∃c∈h,(1000+(f:Int))∈c.aL
 |[],f,h=>by simp[fy]at h
 |c::h,f,g=>by
  simp only[fy]at g;rcases dL (0<eL c.aL f)with b|b
  ·exact⟨c,ba,NF b⟩
  ·obtain⟨d,e,i⟩:=KB (h:=h) (f:=f) (by have:=iG c.aL f;omega);exact⟨d,aj _ e,i⟩
def Q2:∀{h:List bX}{c:bX}(_:c∈h)(f:Nat),eL c.aL f<=fy h f
 |[],c,a,f=>by simp at a
 |d::h,c,a,f=>by
  simp only[fy];rcases List.mem_cons.1 a with rfl|a
  ·have:=ur h f;omega
  ·have:=Q2 a f;have:=iG d.aL f;omega
structure wD(h:List bX)(c:bX):Prop where
 fl:c.aL.length<=3
 lo: -1<=c.aS
 hi:c.aS<=999999
 Dh:c.aS<1->c.jQ=0/\(∀w∈c.aL,w=0)/\(c.aS=0->c.aL=[])
 qQ:0<c.aS->(∀w∈c.aL,sY h w)/\0<=c.jQ/\c.jQ<=99
def VV(h:List bX):Prop:=∃a:Nat->Nat,∀(i:Nat)(c:bX),h[i]? =some c->∀w∈c.aL,1000<=w->a (ix w)<a i
structure fE(h:List bX)(e:Nat->Int):Prop where
 cell:∀c∈h,wD h c
 Nh:VV h
 ex:∀(f:Nat)(c:bX),h[f]? =some c->0<c.aS->c.aS=fy h f+e f
 nn:∀f,0<=e f
 lv:∀f,0<e f->j8 h f
def fE.congr(c:fE h e)(a:∀b,e' b=e b):fE h e':=by
 have:e'=e:=funext a;rw[this];exact c
def mO(f:Nat):ix (1000+(f:Int))=f:=by unfold ix;omega
def iI(h:1000<=w):1000+((ix w:Nat):Int)=w:=by unfold ix;omega
def Qf{v:Int}(a:1000<=v)(b:1000<=w)(h:ix v=ix w):v=w:=by rw[<-iI a,<-iI b,h]
def fE.field(i:fE h e)(g:c∈h)(f:w∈c.aL)(j:1000<=w):gE h w:=by
 have d:=i.cell c g;rcases dL (0<c.aS)with b|b
 ·rcases(d.qQ b).1 w f with a|a
  ·have:=a.2;omega
  ·exact a
 ·have:=(d.Dh V).2.1 w f;omega
def fE.Wl(d:fE h e)(g:¬j8 h f):fy h f=0:=by
 rcases dL (0<fy h f)with a|a
 ·obtain⟨c,b,i⟩:=KB a;have:=(d.field b i V).2;rw[mO]at this;exact absurd this g
 ·have:=ur h f;omega
def fE.XD(a:fE h e)(c:¬j8 h f):e f=0:=by
 have:=a.nn f;rcases dL (0<e f)with b|b
 ·exact absurd (a.lv f b) c
 ·omega
def gZ(a:b≠f):(h.set f c)[b]? =h[b]? :=by rw[cy (λe=>a e.symm)]
def eA(a:h[f]? =some d):(h.set f c)[f]? =some c:=by
 rw[dE (ax a)]
def j8.ne(a:b≠f):j8 (h.set f c) b<->j8 h b:=by unfold j8;rw[gZ a]
def j8.FA(a:h[f]? =some d):j8 (h.set f c) f<->0<c.aS:=by
 unfold j8;rw[eA a];simp
def sY.mono(c:sY h w)(b:1000<=w->j8 h (ix w)->j8 g (ix w)):sY g w:=by
 rcases c with a|a
 ·exact Or.inl a
 ·exact Or.inr ⟨a.1,b a.1 a.2⟩
def wD.mono{h g:List bX}{c:bX}(a:wD h c)(e:0<c.aS->∀w∈c.aL,1000<=w->j8 h (ix w)->j8 g (ix w)):wD g c:=
 ⟨a.fl,a.lo,a.hi,a.Dh,λb=>⟨λw d=>((a.qQ b).1 w d).mono (e b w d),(a.qQ b).2⟩⟩
def nI{x:bX}(i:x∈h.set f c):x=c\/∃b,b≠f/\h[b]? =some x:=by
 obtain⟨b,a⟩:=List.mem_iff_getElem?.1 i;by_cases e:b=f
 ·subst e;rw[List.getElem?_set_self']at a;cases g:h[b]? with
  |none=>simp[g]at a
  |some d=>simp[g]at a;exact Or.inl a.symm
 ·rw[gZ e]at a;exact Or.inr ⟨b,e,a⟩
def fE.JG(k:fE h e)(i:h[f]? =some c)(j:0<c.aS){n:Int}(x:0<n)(v:n<=999999)
 (o:∀b,e' b=e b+if b=f then n -c.aS else 0)(t:0<=e' f):fE (h.set f {c with aS:=n}) e':=by
 have q:∀b,j8 (h.set f {c with aS:=n}) b<->j8 h b:=λb=>by
  by_cases a:b=f
  ·subst a;rw[j8.FA i];exact⟨λ_=>⟨c,i,j⟩,λ_=>x⟩
  ·exact j8.ne a
 have y:∀b,fy (h.set f {c with aS:=n}) b=fy h b:=λb=>by rw[zP _ i];simp only[];omega
 refine⟨λB z=>?_,?_,λb d g u=>?_,λb=>?_,λb m=>?_⟩
 ·rcases nI z with rfl|⟨b,_,m⟩
  ·have r:=k.cell c (ar i)
   exact⟨r.fl,by simp only[];omega,v,λs=>by simp only[]at s;omega,λ_=>⟨λw l=>((r.qQ j).1 w l).mono λ_ p=>(q _).2 p,(r.qQ j).2⟩⟩
  ·exact(k.cell B (ar m)).mono λ_ w _ _ p=>(q _).2 p
 ·obtain⟨A,s⟩:=k.Nh
  refine⟨A,λp d g w l j=>?_⟩
  by_cases r:p=f
  ·subst r;rw[eA i]at g;simp at g;subst g;exact s p c i w l j
  ·rw[gZ r]at g;exact s p d g w l j
 ·rw[y,o]
  by_cases a:b=f
  ·subst a;rw[eA i]at g;simp at g;subst g
   have:=k.ex b c i j
   simp only[ao];omega
  ·rw[gZ a]at g
   have:=k.ex b d g u
   rw[ae a];omega
 ·by_cases a:b=f
  ·subst a;exact t
  ·rw[o,ae a];have:=k.nn b;omega
 ·rw[q]
  by_cases a:b=f
  ·subst a;exact⟨c,i,j⟩
  ·rw[o,ae a]at m;exact k.lv b V
def fE.Qb(k:fE h e)(n:h[f]? =some c)(J:c.aS=1)(K:0<e f){c':bX}(D: -1<=c'.aS)(M:c'.aS<1)(H:c'.jQ=0)
 (s:∀w∈c'.aL,w=0)(C:c'.aL.length<=3)(B:c'.aS=0->c'.aL=[])
 (q:∀b,e' b=e b -(if b=f then 1 else 0)+eL c.aL b):fE (h.set f c') e':=by
 have p:=k.ex f c n V
 have P:=ur h f
 have O:fy h f=0:=V
 have L:e f=1:=V
 have v:∀x∈h,(1000+(f:Int))∉x.aL:=λx p g=>by
  have:=Q2 p f;have:=um g;omega
 have N:eL c.aL f=0:=nJ (v c (ar n))
 have F:∀b,eL c'.aL b=0:=λb=>nJ λg=>by have:=s _ g;omega
 have u:∀b,b≠f->j8 h b->j8 (h.set f c') b:=λb i r=>(j8.ne i).2 r
 have E:∀x∈h,∀w∈x.aL,1000<=w->ix w≠f:=λx p w g o z=>by
  have:=iI o;rw[z]at this;rw[<-this]at g;exact v x p g
 refine⟨λx p=>?_,?_,λb d j A=>?_,λb=>?_,λb m=>?_⟩
 ·rcases nI p with rfl|⟨b,_,m⟩
  ·exact⟨C,D,V,λ_=>⟨H,s,B⟩,λo=>V⟩
  ·exact(k.cell x (ar m)).mono λ_ w g o r=>u _ (E x (ar m) w g o) r
 ·obtain⟨I,G⟩:=k.Nh
  refine⟨I,λy d j w g o=>?_⟩
  by_cases t:y=f
  ·subst t;rw[eA n]at j;simp at j;subst j;have:=s w g;omega
  ·rw[gZ t]at j;exact G y d j w g o
 ·rw[zP _ n,F,q]
  by_cases i:b=f
  ·subst i;rw[eA n]at j;simp at j;subst j;omega
  ·rw[gZ i]at j
   have:=k.ex b d j A
   rw[ae i];omega
 ·rw[q]
  have:=k.nn b
  have:=iG c.aL b
  split
  ·rename_i i;subst i;omega
  ·omega
 ·rw[q]at m
  by_cases i:b=f
  ·subst i;rw[ao rfl]at m;omega
  ·rw[ae i]at m
   refine u b i ?_
   rcases dL (0<e b)with t|t
   ·exact k.lv b t
   ·have:=k.nn b
    have g:=NF (l:=c.aL) (f:=b) V
    have:=(k.field (ar n) g V).2
    rwa[mO]at this
def fE.make(m:fE h e){x:Int}{i:List Int}(s:¬j8 h f)(q:g[f]? =some ⟨1,x,i⟩)(p:∀b,b≠f->g[b]? =h[b]?)
 (G:∀b,fy g b=fy h b+eL i b)(A:∀w∈i,sY h w)(E:i.length<=3)(I:0<=x/\x<=99)(y:∀b,eL i b<=e b)
 (u:∀b,e' b=e b -eL i b+if b=f then 1 else 0):fE g e':=by
 have v:∀b,j8 h b->j8 g b:=λb j=>by
  by_cases c:b=f
  ·subst c;exact absurd j s
  ·unfold j8;rw[p b c];exact j
 have N:=m.XD s
 have P:=m.Wl s
 have O:eL i f=0:=by have:=iG i f;have:=y f;omega
 refine⟨λM K=>?_,?_,λb d a C=>?_,λb=>?_,λb k=>?_⟩
 ·obtain⟨b,k⟩:=List.mem_iff_getElem?.1 K
  by_cases c:b=f
  ·subst c;rw[q]at k;simp at k;subst k
   exact⟨E,D,D,λl=>by simp at l,λ_=>⟨λw o=>(A w o).mono λ_ j=>v _ j,I⟩⟩
  ·rw[p b c]at k
   exact(m.cell M (ar k)).mono λ_ w _ _ j=>v _ j
 ·obtain⟨t,H⟩:=m.Nh
  refine⟨λl=>if l=f then(i.map λw=>t (ix w)).sum+1 else t l,λl d a w o z=>?_⟩
  have J:ix w≠f:=λB=>by
   have F:gE h w:=by
    by_cases n:l=f
    ·subst n;rw[q]at a;simp at a;subst a;rcases A w o with r|r
     ·have:=r.2;omega
     ·exact r
    ·rw[p l n]at a;exact m.field (ar a) o z
   exact s (B▸F.2)
  simp only[ae J]
  by_cases n:l=f
  ·subst n;rw[q]at a;simp at a;subst a
   rw[ao rfl]
   have:∀(r:List Int),w∈r->t (ix w)<=(r.map λw=>t (ix w)).sum:=by
    intro r j;induction r with
    |nil=>simp at j
    |cons Q r L=>
     simp only[cG,List.sum_cons];rcases List.mem_cons.1 j with rfl|j
     ·omega
     ·have:=L j;omega
   have:=this i o;omega
  ·rw[ae n];rw[p l n]at a;exact H l d a w o z
 ·rw[G,u]
  by_cases c:b=f
  ·subst c;rw[q]at a;simp at a;subst a
   rw[ao rfl];simp only[];omega
  ·rw[p b c]at a
   have:=m.ex b d a C
   rw[ae c];omega
 ·rw[u];have:=y b;split<;>omega
 ·rw[u]at k
  by_cases c:b=f
  ·subst c;exact⟨_,q,D⟩
  ·rw[ae c]at k
   exact v b (m.lv b (by have:=iG i b;omega))
def fE.iD:∀(n:Nat)(h:List bX)(o:List Int)(e:Nat->Int),Df h+o.length<=n->fE h (λb=>e b+eL o b)->(∀b,0<=e b)->fE (iD h o) e
 |n,h,[],e,_,a,_=>by rw[vu];exact a.congr λb=>by simp[eL]
 |n,h,w::r,e,f,a,d=>by
  rcases dL (gE h w)with c|c
  ·obtain⟨g,m⟩:=bZ c;have s:=iI c.1;have l:∀b,eL (w::r) b=(if b=ix w then 1 else 0)+eL r b:=λb=>by
    simp only[eL];congr 1;by_cases k:b=ix w
    ·subst k;rw[ao s.symm,ao rfl]
    ·rw[ae k,ae (λi=>k (by rw[i,mO]))]
   have p:=k8 (d:=jc) g;by_cases j:(aJ h w).aS=1
   ·rw[vv c j];simp only[ao m,jc]at p;simp at p;cases n with
    |zero=>simp at f
    |succ n=>
    refine fE.iD n _ _ e ?_ (fE.Qb a g j ?_ bh bh rfl (by simp[jc]) (by simp[jc]) (λ_=>rfl) λb=>?_) d
    ·simp[jc]at f⊢;omega
    ·simp only[l,ao];have:=d (ix w);have:=iG r (ix w);omega
    ·simp only[l,lM,zK];omega
   ·rw[sS c j];have q:=k8 (d:={aJ h w with aS:=(aJ h w).aS -1}) g;simp only[ao m]at q;rw[ao V]at q;have t:=(a.cell _ (ar g)).hi;cases n with
    |zero=>simp at f
    |succ n=>
    refine fE.iD n _ _ e ?_ (fE.JG a g m V V (λb=>?_) ?_) d
    ·simp only[aY]at f;simp only[fg];omega
    ·simp only[l];split<;>omega
    ·have:=d (ix w);have:=iG r (ix w);omega
  ·rw[sT c];cases n with
   |zero=>simp at f
   |succ n=>
   refine fE.iD n _ _ e (by simp at f;omega) (a.congr λb=>?_) d;simp only[eL];rw[ae]
   ·omega
   ·intro i;have:=a.lv b (by simp only[eL,ao i];have:=d b;have:=iG r b;omega);exact c ⟨V,by rw[i,mO];exact this⟩
def tC(h:List bX):∀n,iR h n<=n
 |0=>ad _
 |n+1=>by
  simp only[iR];have:=tC h n;split
  ·split<;>omega
  ·omega
def tB(h:List bX):∀(n k:Nat)(c:bX),iR h n<=k->k<n->h[k]? =some c->c.aS=0
 |0,k,c,_,d,_=>V
 |n+1,k,c,a,e,b=>by
  simp only[iR]at a;by_cases d:k=n
  ·subst d;rw[b]at a;simp only[]at a;split at a
   ·assumption
   ·omega
  ·split at a
   ·split at a
    ·exact tB h n k c a V b
    ·omega
   ·exact tB h n k c a V b
def Lg(h:List bX):∀(n:Nat)(c:bX),n<=h.length->h[iR h n -1]? =some c->0<iR h n->c.aS≠0
 |0,c,_,_,b=>by simp[iR]at b
 |n+1,c,g,a,b=>by
  simp only[iR]at a b;obtain⟨d,f⟩:=ag (l:=h) (k:=n) V;rw[f]at a b;simp only[]at a b;split at a
  ·rename_i e;rw[ao e]at b;exact Lg h n c V a b
  ·rename_i e;simp at a;rw[f]at a;simp at a;subst a;exact e
def pp(h:List bX):Prop:=∀c,h[h.length -1]? =some c->c.aS≠0
def Gl(h:List bX):pp (oX h):=by
 intro c a;have d:=tC h h.length;unfold oX at a;rw[fY,iO d]at a;rcases jT (iR h h.length)with b|b
 ·rw[b]at a;simp at a
 ·rw[dC V]at a;exact Lg h _ c (ad _) a b
def ML:∀{h:List bX},(∀c∈h,c.aL=[])->∀f,fy h f=0
 |[],_,f=>rfl
 |c::h,a,f=>by simp only[fy,a c ba,eL,ML (λd b=>a d (aj _ b)) f];rfl
def fE.oX{h:List bX}{e:Nat->Int}(d:fE h e):fE (oX h) e:=by
 have u:=tC h h.length;have q:∀(b:Nat)(c:bX),h[b]? =some c->c.aS≠0->b<iR h h.length:=λb c a i=>
  dK λv=>i (tB h h.length b c V (ax a) a)
 have k:∀(b:Nat)(c:bX),(Go.Proofs.YtgnjacfobdjeeaaGreat.oX h)[b]? =some c->h[b]? =some c:=λb c a=>by
  unfold Go.Proofs.YtgnjacfobdjeeaaGreat.oX at a;have:=ax a;rw[fY]at this;rwa[dC V]at a
 have l:∀b,j8 h b->j8 (Go.Proofs.YtgnjacfobdjeeaaGreat.oX h) b:=λb⟨c,a,j⟩=>⟨c,by
  unfold Go.Proofs.YtgnjacfobdjeeaaGreat.oX;rw[dC (q b c a V)];exact a,j⟩
 have s:∀b,fy (Go.Proofs.YtgnjacfobdjeeaaGreat.oX h) b=fy h b:=λb=>by
  have m:h=Go.Proofs.YtgnjacfobdjeeaaGreat.oX h++h.drop (iR h h.length):=(dg _ _).symm;have n:fy (h.drop (iR h h.length)) b=0:=ML (λc a=>by
   obtain⟨o,g⟩:=List.mem_iff_getElem?.1 a;rw[rT]at g;have i:=tB h h.length _ c V (ax g) g;exact((d.cell c (ar g)).Dh V).2.2 i) b
  have o:=ry (λg=>fy g b) m;simp only[uq,n]at o;omega
 refine⟨λc a=>?_,?_,λf c a j=>?_,d.nn,λf p=>l f (d.lv f p)⟩
 ·obtain⟨b,g⟩:=List.mem_iff_getElem?.1 a;exact(d.cell c (ar (k b c g))).mono λ_ w _ _ r=>l _ r
 ·obtain⟨t,r⟩:=d.Nh;exact⟨t,λg c a=>r g c (k g c a)⟩
 ·rw[s];exact d.ex f c (k f c a) j
end
section
variable{c:List Int}{i x v r:Int}{b:Nat}{d:cH}{f:aX}{s:St}
def og(b:0<=i)(d:i<c.length):c[i.toNat]? =some (E c i):=by
 obtain⟨x,a⟩:=ag (l:=c) (k:=i.toNat) V;simp[E,a]
def Xd(h:c[b]? =some x):E c b=x:=by simp[E,h]
def JS(h:c[i.toNat]? =some x):E c i=x:=by simp[E,h]
def eW(a:0<=i)(b:i<c.length):E c i∈c:=iZ (og a b)
def jM(c:List Int)(i v:Int):(gF c i v).length=c.length:=by simp[gF]
def pD(h:x∈gF c i v):x=v\/x∈c:=by
 rcases di h with h|h
 ·exact Or.inr h
 ·exact Or.inl h
def zT(c:List Int)(i v:Int)(b:Nat):(gF c i v)[b]? =if b=i.toNat/\b<c.length then some v else c[b]? :=by
 unfold gF;by_cases h:b=i.toNat
 ·subst h;by_cases a:i.toNat<c.length
  ·rw[dE a,ao ⟨rfl,a⟩]
  ·rw[ae V,ru V]
 ·rw[ae V,cy (λe=>h e.symm)]
def TN(a:0<=i)(b:i<c.length)(j:Int)(d:0<=j):E (gF c i v) j=if j=i then v else E c j:=by
 unfold E;rw[fI,fI,zT];by_cases h:j=i
 ·subst h;rw[ao rfl,ao ⟨rfl,V⟩];rfl
 ·rw[ae h,ae V]
def He:∀(u aR:List Int)(b:Nat)(w o f e:Int)(a:Nat),u[b]? =some f->aR[b]? =some e->
 dj (u.set b w) (aR.set b o) a=dj u aR a -(if f=1000+(a:Int)then e else 0)+(if w=1000+(a:Int)then o else 0)
 |[],aR,b,w,o,f,e,a,c,d=>by simp at c
 |r::g,[],b,w,o,f,e,a,c,d=>by simp at d
 |r::g,q::h,0,w,o,f,e,a,c,d=>by
  simp at c d;subst c;subst d;simp only[gW,dj];omega
 |r::g,q::h,b+1,w,o,f,e,a,c,d=>by
  have:=He g h b w o f e a (by simpa using c) (by simpa using d);simp only[iU,dj,this];omega
def Ta(h:c[b]? =some x):c.set b x=c:=by
 apply iy;intro i;by_cases a:b=i
 ·subst a;rw[dE (ax h),h]
 ·rw[cy a]
def Hd{u aR:List Int}(c:0<=r)(d:r<u.length)(e:r<aR.length)(o:Int)(a:Nat):
 dj u (gF aR r o) a=dj u aR a+(if E u r=1000+(a:Int)then o -E aR r else 0):=by
 have b:=og c d
 have:=He u aR r.toNat (E u r) o _ _ a b (og c e)
 rw[Ta b]at this
 rw[gF,this];split<;>omega
def MH{u aR:List Int}(b:0<=r)(c:r<u.length)(d:r<aR.length)(e:E aR r=0)(w o:Int)(a:Nat):
 dj (gF u r w) (gF aR r o) a=dj u aR a+(if w=1000+(a:Int)then o else 0):=by
 have:=He u aR r.toNat w o _ _ a (og b c) (og b d)
 rw[gF,gF,this,e];split<;>omega
def td:∀{u aR:List Int},(∀o∈aR,0<=o)->∀a,0<=dj u aR a
 |[],aR,h,a=>by cases aR<;>simp[dj]
 |r::b,[],h,a=>by simp[dj]
 |r::b,o::d,h,a=>by
  have:=td (u:=b) (aR:=d) (λx c=>h x (aj _ c)) a;have:=h o ba;simp only[dj];split<;>omega
def tf:∀{u aR:List Int},Rc aR->∀a,dj u aR a=0
 |[],aR,h,a=>by cases aR<;>simp[dj]
 |r::b,[],h,a=>by simp[dj]
 |r::b,o::d,h,a=>by
  have:=tf (u:=b) (aR:=d) (λx c=>h x (aj _ c)) a;have:=h o ba;simp only[dj,this];split<;>omega
def Fu:∀{e d:List Int}(c b:List Int),e.length=d.length->∀a,dj (e++c) (d++b) a=dj e d a+dj c b a
 |[],[],c,b,_,a=>by simp[dj]
 |[],_::_,_,_,h,_=>by simp at h
 |_::_,[],_,_,h,_=>by simp at h
 |r::g,o::f,c,b,h,a=>by
  have:=Fu (e:=g) (d:=f) c b (by simpa using h) a;simp only[cU,dj,this];omega
def Kw:∀{u aR:List Int}{b:Nat}{w o:Int}(_:∀o∈aR,0<=o)(_:u[b]? =some w)(_:aR[b]? =some o){d:Nat}(_:w=1000+(d:Int)),o<=dj u aR d
 |[],_,_,_,_,_,a,_,_,_=>by simp at a
 |_::_,[],_,_,_,_,_,c,_,_=>by simp at c
 |r::i,q::h,0,w,o,e,a,c,d,f=>by
  simp at a c;subst a;subst c;have:=td (u:=i) (aR:=h) (λx g=>e x (aj _ g)) d;simp only[dj,ao f];omega
 |r::i,q::h,b+1,w,o,e,a,c,d,f=>by
  have:=Kw (u:=i) (aR:=h) (b:=b) (λx g=>e x (aj _ g)) (by simpa using a) (by simpa using c) f;have:=e q ba;simp only[dj];split<;>omega
def fL:∀(c r:List aX)(a:Nat),gN (c++r) a=gN c a+gN r a
 |[],r,a=>by simp[gN]
 |f::c,r,a=>by simp only[cU,gN,fL c r a];omega
def kG(f:aX)(a:Nat):gN [f] a=dj f.u f.aR a:=by simp[gN]
def eB:∀(c r:List aX)(a:Nat),holds (c++r) a=holds c a+holds r a
 |[],r,a=>by simp[holds]
 |f::c,r,a=>by simp only[cU,holds,eB c r a];omega
def iN(f:aX)(a:Nat):holds [f] a=eL f.bo a:=by simp[holds]
def zr:∀(c:List aX)(a:Nat),0<=holds c a
 |[],a=>by simp[holds]
 |f::c,a=>by have:=zr c a;have:=iG f.bo a;simp only[holds];omega
def jV(u:List Int):∀(a aR:List Int),(bC u aR a).length=aR.length
 |[],aR=>rfl
 |r::a,aR=>by simp only[bC];rw[jV u a];split<;>simp[jM]
def xD{u:List Int}:∀(b aR:List Int),(∀r∈b,0<=r/\r<u.length)->u.length=aR.length->∀a,dj u (bC u aR b) a=dj u aR a -eL (b.map (E u)) a
 |[],aR,_,_,a=>by simp[bC,eL]
 |r::b,aR,h,c,a=>by
  have e:=h r ba;have f:=λaR c=>xD (u:=u) b aR (λx d=>h x (aj _ d)) c a;simp only[bC,cG,eL];by_cases d:1000<=E u r
  ·rw[ao d,f _ (by rw[jM];exact c),Hd e.1 e.2 V];split<;>omega
  ·rw[ae d,f _ c,ae V];omega
def kQ{u:List Int}:∀(c aR:List Int)(b:Nat)(o:Int),(bC u aR c)[b]? =some o->∃q,aR[b]? =some q/\o<=q
 |[],aR,b,o,h=>⟨o,h,cE _⟩
 |r::c,aR,b,o,h=>by
  simp only[bC]at h;obtain⟨q,a,e⟩:=kQ c _ b o h;split at a
  ·rw[zT]at a;split at a
   ·rename_i d;obtain⟨y,f⟩:=ag d.2;have g:E aR r=y:=by rw[E,fI,<-d.1,f];rfl
    simp at a;exact⟨y,f,V⟩
   ·exact⟨q,a,e⟩
  ·exact⟨q,a,e⟩
def lD:∀(a aR:List Int),(dz aR a).length=aR.length
 |[],aR=>rfl
 |r::a,aR=>by simp only[dz];rw[lD a,jM]
def EO{u:List Int}:∀(b aR:List Int),(∀r∈b,0<=r/\r<u.length)->u.length=aR.length->∀a,dj u (dz aR b) a=dj u aR a+eL (b.map (E u)) a
 |[],aR,_,_,a=>by simp[dz,eL]
 |r::b,aR,h,d,a=>by
  have c:=h r ba;simp only[dz,cG,eL];rw[EO (u:=u) b _ (λx e=>h x (aj _ e)) (by rw[jM];exact d) a,Hd c.1 c.2 V];split<;>omega
def JW{u:List Int}:∀(d aR:List Int),(∀r∈d,0<=r/\r<aR.length/\1000<=E u r)->
 (∀(b:Nat)(o w:Int),aR[b]? =some o->u[b]? =some w->0<=o/\(0<o->1000<=w))->∀(b:Nat)(o w:Int),(dz aR d)[b]? =some o->u[b]? =some w->0<=o/\(0<o->1000<=w)
 |[],aR,_,h,b,o,w,a,c=>h b o w a c
 |r::d,aR,g,h,b,o,w,a,c=>by
  refine JW (u:=u) d (gF aR r (E aR r+1)) (λx e=>by rw[jM];exact g x (aj _ e)) (λb o w a c=>?_) b o w a c;rw[zT]at a;split at a
  ·rename_i f;have e:=g r ba;have i:E u r=w:=by rw[E,fI,<-f.1,c];rfl
   have j:=h b (E aR r) w (by rw[f.1];exact og e.1 e.2.1) c;simp at a;exact⟨V,λ_=>V⟩
  ·exact h b o w a c
def fF(h:List bX)(a:Nat):Prop:=∃c,h[a]? =some c/\c.aS<0
structure gB(d:cH)(f:aX):Prop where
 eP:0<=f.eP/\f.eP<d.cA.length
 pc:0<=f.pc/\f.pc<(dx d f.eP).cL.length
 lr:(f.u.length:Int)=(dx d f.eP).u
 lo:(f.aR.length:Int)=(dx d f.eP).u
 lh:(f.bo.length:Int)=(dx d f.eP).u
 MM:∀w∈f.u,iu w\/1000<=w
 aR:∀(b:Nat)(o w:Int),f.aR[b]? =some o->f.u[b]? =some w->0<=o/\(0<o->1000<=w)
 bo:∀w∈f.bo,w=0\/1000<=w
structure dh(d:cH)(s:St):Prop where
 fe:gP d
 bU:0<=s.bU/\s.bU<=3
 done:s.bU=0<->s.az=[]
 value:iu s.value
 ve:s.value≠0->s.bU=0
 bA:0<=s.bA/\s.bA<=40
 bq:0<=s.bq/\s.bq<=s.bA
 depth:(s.az.length:Int)<=s.bq+1
 aW:∀n∈s.aW,iu n
 heap:fE s.heap (gN s.az)
 jB:pp s.heap
 az:∀f∈s.az,gB d f
 first:∀f,s.az[0]? =some f->f.dst=0
 chain:∀(b:Nat)(f g:aX),s.az[b]? =some f->s.az[b+1]? =some g->0<=g.dst/\g.dst<f.aR.length/\E f.aR g.dst=0
 kj:∀a,fF s.heap a->holds s.az a=1
 nu:∀a,¬fF s.heap a->holds s.az a=0
def gB.O2(h:gB d f):∀o∈f.aR,0<=o:=λo c=>by
 obtain⟨b,a⟩:=List.mem_iff_getElem?.1 c;have g:=ax a;have:=h.lo;have:=h.lr;obtain⟨w,e⟩:=ag (l:=f.u) (k:=b) V;exact(h.aR b o w a e).1
def JF{d:cH}:∀{b:List aX},(∀f∈b,gB d f)->∀a,0<=gN b a
 |[],_,a=>by simp[gN]
 |f::b,h,a=>by
  have:=JF (λg c=>h g (aj _ c)) a;have:=td (u:=f.u) (h f ba).O2 a;simp only[gN];omega
def dh.split(h:dh d s)(b:s.bU=3):∃a f,s.az=a++[f]:=by
 have:s.az≠[]:=λe=>by have:=h.done.2 e;omega
 exact⟨s.az.dropLast,s.az.getLast this,(dX this).symm⟩
def gB.Im(j:gP d)(h:gB d f):∃p,d.cA[f.eP.toNat]? =some p/\dx d f.eP=p/\GD d p/\p.cL[f.pc.toNat]? =some (dk d f)/\iA d p f.pc.toNat (dk d f):=by
 obtain⟨p,b⟩:=ag (l:=d.cA) (k:=f.eP.toNat) (by have:=h.eP;omega);have e:dx d f.eP=p:=by simp[dx,b]
 have g:=j.dt p (ar b);have m:=h.pc;rw[e]at m;obtain⟨i,a⟩:=ag (l:=p.cL) (k:=f.pc.toNat) V;have c:dk d f=i:=by simp[dk,e,a]
 exact⟨p,b,e,g,c▸a,c▸g.dt _ _ a⟩
def dh.fP(h:dh d s)(A:s.bU=3){e:List aX}{g:aX}(k:s.az=e++[f]){c:List bX}{aW:List Int}(o:gB d g)(hd:g.dst=f.dst)
 (r:fE c (gN (e++[g])))(w:pp c)(t:∀a,fF c a->holds (e++[g]) a=1)(x:∀a,¬fF c a->holds (e++[g]) a=0)(v:∀n∈aW,iu n){bq:Int}(n:s.bq<=bq/\bq<=s.bA):
 dh d {s with heap:=c,aW:=aW,bq:=bq,az:=e++[g]}:=by
 have z:=h.bq
 have m:=h.depth
 rw[k]at m
 refine⟨h.fe,h.bU,⟨λi=>by simp at i;omega,λi=>by simp at i⟩,h.value,h.ve,h.bA,⟨by simp only[];omega,n.2⟩,by simp at m⊢;omega,v,r,w,λq a=>?_,λq a=>?_,λb p q c a=>?_,t,x⟩
 ·rcases List.mem_append.1 a with a|a
  ·exact h.az q (by rw[k];exact bL _ a)
  ·simp at a;subst a;exact o
 ·have j:=h.first
  rw[k]at j
  cases e with
  |nil=>simp at a;subst a;rw[hd];exact j f D
  |cons y l=>simp at a;subst a;exact j y D
 ·have l:=h.chain b
  rw[k]at l
  simp only[]at c a
  have u:=ax a
  simp at u
  rw[aw V]at c
  rcases be (b+1) e.length with j|j
  ·rw[aw j]at a
   exact l p q (by rw[aw V];exact c) (by rw[aw j];exact a)
  ·rw[aG j]at a
   have i:b+1 -e.length=0:=V
   rw[i]at a;simp at a;subst a
   rw[hd]
   exact l p f (by rw[aw V];exact c) (by rw[aG j,i];rfl)
end
section
variable{h:List bX}{a:Nat}{c d:bX}{w:Int}{e e':Nat->Int}
def fF.ne{b:Nat}(d:b≠a):fF (h.set a c) b<->fF h b:=by unfold fF;rw[gZ d]
def fF.FA(b:h[a]? =some d):fF (h.set a c) a<->c.aS<0:=by unfold fF;rw[eA b];simp
def fF.set(i:h[a]? =some d)(j:0<=d.aS)(k:0<=c.aS)(b:Nat):fF (h.set a c) b<->fF h b:=by
 by_cases g:b=a
 ·subst g;rw[fF.FA i];refine⟨λl=>V,λ⟨e,f,m⟩=>?_⟩;rw[i]at f;simp at f;subst f;omega
 ·exact fF.ne g
def fF.Th(f:fF h a):¬j8 h a:=λ⟨c,e,i⟩=>by
 obtain⟨d,b,g⟩:=f;rw[e]at b;simp at b;subst b;omega
def fF.fg(c:gE h w)(b:Nat):fF (fg h w) b<->fF h b:=by
 obtain⟨a,d⟩:=bZ c;exact fF.set a V (by simp only[];omega) b
def fF.nl(c:gE h w)(b:Nat):fF (nl h w) b<->fF h b:=by
 obtain⟨a,d⟩:=bZ c;exact fF.set a V (by simp only[];omega) b
def fF.Qb(c:gE h w)(b:Nat):fF (h.set (ix w) jc) b<->fF h b:=by
 obtain⟨a,d⟩:=bZ c;exact fF.set a V (by simp[jc]) b
def fF.iD:∀(n:Nat)(h:List bX)(i:List Int),Df h+i.length<=n->∀b,fF (iD h i) b<->fF h b
 |n,h,[],_,b=>by rw[vu]
 |0,h,w::r,c,b=>by simp at c
 |n+1,h,w::r,c,b=>by
  simp only[aY]at c;rcases dL (gE h w)with a|a
  ·obtain⟨f,g⟩:=bZ a;by_cases d:(aJ h w).aS=1
   ·have e:=k8 (d:=jc) f;simp only[ao g,jc]at e;simp at e;rw[vv a d,fF.iD n _ _ (by simp[jc];omega) b,fF.Qb a]
   ·have e:=k8 (d:={aJ h w with aS:=(aJ h w).aS -1}) f;simp only[ao g]at e;rw[ao V]at e;rw[sS a d,fF.iD n _ _ (by simp only[Go.Proofs.YtgnjacfobdjeeaaGreat.fg];omega) b,fF.fg a]
  ·rw[sT a,fF.iD n _ _ V b]
def fF.oX{h:List bX}(b:Nat):fF (oX h) b<->fF h b:=by
 have f:=tC h h.length;unfold fF Go.Proofs.YtgnjacfobdjeeaaGreat.oX;constructor
 ·rintro⟨c,a,d⟩;have:=ax a;rw[fY]at this;rw[dC V]at a;exact⟨c,a,d⟩
 ·rintro⟨c,a,d⟩;refine⟨c,?_,d⟩;rw[dC]
  ·exact a
  ·exact dK λe=>by have:=tB h h.length b c V (ax a) a;omega
def fE.nl(c:fE h e)(f:gE h w)(i:(aJ h w).aS<999999)(a:∀b,e' b=e b+if b=ix w then 1 else 0):fE (nl h w) e':=by
 obtain⟨d,g⟩:=bZ f;refine c.JG d g V V (λb=>?_) ?_
 ·rw[a];split<;>omega
 ·rw[a];have:=c.nn (ix w);split<;>omega
def OC(a:gE h w){v:Int}(d:1000<=v):(aJ (nl h w) v).aS=(aJ h v).aS+(if v=w then 1 else 0):=by
 obtain⟨c,f⟩:=bZ a;unfold nl;by_cases e:v=w
 ·subst e;rw[ao rfl];conv=>lhs;unfold aJ
  rw[eA c];rfl
 ·rw[ae e];conv=>lhs;unfold aJ
  rw[gZ (λb=>e (Qf d a.1 b))];simp[aJ]
def j8.nl{h:List bX}{w:Int}(a:gE h w)(b:Nat):j8 (nl h w) b<->j8 h b:=by
 obtain⟨c,d⟩:=bZ a;by_cases e:b=ix w
 ·subst e;unfold Go.Proofs.YtgnjacfobdjeeaaGreat.nl;rw[j8.FA c];exact⟨λ_=>a.2,λ_=>by simp only[];omega⟩
 ·exact j8.ne e
def iF(d:1000<=w)(r:List Int)(b:Nat):eL (w::r) b=(if b=ix w then 1 else 0)+eL r b:=by
 simp only[eL];congr 1;have e:=iI d;by_cases a:b=ix w
 ·subst a;rw[ao e.symm,ao rfl]
 ·rw[ae a,ae (λc=>a (by rw[c,mO]))]
def fE.jy:∀(a:List Int)(h:List bX)(e e':Nat->Int),fE h e->(∀w∈a,gE h w/\(aJ h w).aS+eL a (ix w)<=999999)->(∀b,e' b=e b+eL a b)->fE (jy h a) e'/\(∀b,fF (jy h a) b<->fF h b)/\(jy h a).length=h.length
 |[],h,e,e',i,_,g=>⟨i.congr λb=>by rw[g];simp[eL],λ_=>RK,rfl⟩
 |w::a,h,e,e',i,k,g=>by
  obtain⟨c,p⟩:=k w ba;rw[iF c.1,ao rfl]at p;have:=iG a (ix w);obtain⟨m,n,o⟩:=fE.jy a (Go.Proofs.YtgnjacfobdjeeaaGreat.nl h w) (λb=>e b+if b=ix w then 1 else 0) e' (i.nl c V λb=>rfl) (λv q=>by
   obtain⟨d,j⟩:=k v (aj _ q);refine⟨⟨d.1,(j8.nl c _).2 d.2⟩,?_⟩;rw[OC c d.1];rw[iF c.1]at j;split
   ·rename_i f;subst f;rw[ao rfl]at j;omega
   ·rename_i f;rw[ae (λl=>f (Qf d.1 c.1 l))]at j;omega) (λb=>by rw[g,iF c.1];omega)
  refine⟨m,λb=>by rw[Go.Proofs.YtgnjacfobdjeeaaGreat.jy,n,fF.nl c],by rw[Go.Proofs.YtgnjacfobdjeeaaGreat.jy,o];simp[Go.Proofs.YtgnjacfobdjeeaaGreat.nl]⟩
def lW{l:List Int}:w∈kL l<->w∈l/\1000<=w:=by simp[kL]
def fE.apart{h:List bX}{e e':Nat->Int}(j:fE h e){w:Int}(q:gE h w)(K:0<e (ix w))(y:(aJ h w).aS=1\/kW h (aJ h w).aL)
 (D:∀b,e' b=e b -(if b=ix w then 1 else 0)+eL (aJ h w).aL b)(N:pp h):fE (apart h w) e'/\(∀b,fF (apart h w) b<->fF h b)/\pp (apart h w):=by
 obtain⟨g,M⟩:=bZ q
 unfold Go.Proofs.YtgnjacfobdjeeaaGreat.apart
 by_cases t:(aJ h w).aS=1
 ·rw[ao t]
  exact⟨(j.Qb g t K (c':=jc) bh bh rfl (by simp[jc]) (by simp[jc]) (λ_=>rfl) D).oX,λb=>by rw[fF.oX,fF.Qb q],Gl _⟩
 ·rw[ae t]
  have y:kW h (aJ h w).aL:=by rcases y with o|o;exact absurd o t;exact o
  have T:=(j.cell _ (ar g)).hi
  have L:fE (Go.Proofs.YtgnjacfobdjeeaaGreat.fg h w) (λb=>e b -if b=ix w then 1 else 0):=j.JG g M V V (λb=>by split<;>omega) bJ
  have z:∀b,j8 h b->j8 (Go.Proofs.YtgnjacfobdjeeaaGreat.fg h w) b:=λb f=>by
   by_cases m:b=ix w
   ·subst m;unfold Go.Proofs.YtgnjacfobdjeeaaGreat.fg;rw[j8.FA g];simp only[];omega
   ·exact(j8.ne m).2 f
  obtain⟨o,B,C⟩:=fE.jy (kL (aJ h w).aL) _ _ e' L (λv A=>by
   obtain⟨x,r⟩:=lW.1 A;have a:=j.field (ar g) x r;refine⟨⟨a.1,z _ a.2⟩,?_⟩;have:=y v x r;rw[vM];have R:(aJ (Go.Proofs.YtgnjacfobdjeeaaGreat.fg h w) v).aS<=(aJ h v).aS:=by
    by_cases m:ix v=ix w
    ·have i:=Qf r q.1 m;subst i;unfold Go.Proofs.YtgnjacfobdjeeaaGreat.fg;conv=>lhs;unfold aJ
     rw[eA g];show(aJ h v).aS -1<=(aJ h v).aS;omega
    ·unfold Go.Proofs.YtgnjacfobdjeeaaGreat.fg;conv=>lhs;unfold aJ
     rw[gZ m];exact cE _
   omega) (λb=>by rw[D,vM])
  refine⟨o,λb=>by rw[B,fF.fg q],λc p=>?_⟩
  intro P
  rw[C]at p
  have E:(Go.Proofs.YtgnjacfobdjeeaaGreat.fg h w).length=h.length:=by simp[Go.Proofs.YtgnjacfobdjeeaaGreat.fg]
  rw[E]at p
  have f:=ax p
  rw[C,E]at f
  obtain⟨d,u⟩:=ag (l:=h) (k:=h.length -1) V
  have Q:=N d u
  have J:=j.cell d (ar u)
  have S:=J.lo
  rcases dL (0<d.aS)with F|F
  ·have I:∀(s:List Int)(n:List bX),(∀v∈s,gE n v)->∀b,j8 n b->j8 (Go.Proofs.YtgnjacfobdjeeaaGreat.jy n s) b:=by
    intro s;induction s with
    |nil=>intro n _ b f;exact f
    |cons v s O=>
     intro n i b f;have a:=i v ba;exact O _ (λH G=>⟨(i H (aj _ G)).1,(j8.nl a _).2 (i H (aj _ G)).2⟩) b ((j8.nl a _).2 f)
   obtain⟨G,i,H⟩:=I (kL (aJ h w).aL) (Go.Proofs.YtgnjacfobdjeeaaGreat.fg h w) (λv A=>by
    obtain⟨x,r⟩:=lW.1 A;have a:=j.field (ar g) x r;exact⟨a.1,z _ a.2⟩) _ (z _ ⟨d,u,F⟩)
   rw[p]at i;simp at i;subst i;omega
  ·have n:fF h (h.length -1):=⟨d,u,V⟩
   obtain⟨G,i,s⟩:=(B (h.length -1)).2 ((fF.fg q _).2 n)
   rw[p]at i;simp at i;subst i;omega
def qb:∀(h:List bX),dA h<=h.length
 |[]=>ad _
 |c::h=>by have:=qb h;simp only[dA,aY];split<;>omega
def Dk:∀(h:List bX)(c:bX),h[dA h]? =some c->c.aS=0
 |[],c,a=>by simp[dA]at a
 |d::h,c,a=>by
  simp only[dA]at a;split at a
  ·rename_i b;simp at a;subst a;exact b
  ·exact Dk h c (by simpa using a)
def fE.alloc(k:fE h e){t:Int}{f:List Int}(s:∀w∈f,sY h w)(m:f.length<=3)(r:0<=t/\t<=99)(n:∀b,eL f b<=e b)
 (l:∀b,e' b=e b -eL f b+if b=dA h then 1 else 0)(v:pp h):
 fE (iH h (dA h) ⟨1,t,f⟩) e'/\(∀b,fF (iH h (dA h) ⟨1,t,f⟩) b<->fF h b)/\pp (iH h (dA h) ⟨1,t,f⟩):=by
 unfold iH
 have o:¬j8 h (dA h):=λ⟨c,a,x⟩=>by have:=Dk h c a;omega
 by_cases j:dA h=h.length
 ·rw[ao j]
  have q:(h++[⟨1,t,f⟩])[dA h]? =some ⟨1,t,f⟩:=by rw[j];simp
  have p:∀b,b≠dA h->(h++[⟨1,t,f⟩])[b]? =h[b]? :=λb g=>by
   rcases be b h.length with i|i
   ·rw[aw i]
   ·rw[cY bJ,cY i]
  refine⟨k.make o q p (λb=>by rw[uq];simp[fy]) s m r n l,λb=>?_,λc a=>?_⟩
  ·by_cases g:b=dA h
   ·rw[g];unfold fF;rw[q,j];simp
   ·unfold fF;rw[p b g]
  ·simp at a;subst a;simp
 ·rw[ae j]
  have u:dA h<h.length:=by have:=qb h;omega
  obtain⟨d,i⟩:=ag u
  have p:=Dk h d i
  have q:=((k.cell d (ar i)).Dh V).2.2 p
  refine⟨k.make o (eA i) (λb g=>gZ g) (λb=>by rw[zP _ i,q];simp[eL]) s m r n l,λb=>fF.set i V D b,λc a=>?_⟩
  rw[dZ]at a
  by_cases g:h.length -1=dA h
  ·rw[g,eA i]at a;simp at a;subst a;simp
  ·rw[gZ g]at a;exact v c a
end
section
variable{b:cH}{w:Int}{s:St}{c:List aX}{f d:aX}
def EC{b:cH}{x:Instr}:∀{l:List Int}{k:Nat}{r:Int},r∈hO b x k l->r∈l
 |[],k,r,h=>by simp[hO]at h
 |y::l,k,r,h=>by
  simp only[hO]at h;split at h
  ·exact aj _ (EC h)
  ·rcases List.mem_cons.1 h with rfl|h
   ·exact ba
   ·exact aj _ (EC h)
def Bt{x:Instr}{r:Int}(h:r∈bS b x):r∈x.args:=by
 unfold bS at h;split at h
 ·exact h
 split at h
 ·exact fR h
 split at h
 ·exact EC h
 ·simp at h
def Ii{a:List bB}(h:dP a)(c:Int):(cD a c).length<=3:=by
 unfold cD;split
 ·cases i:(eK a)[c.toNat]? with
  |none=>simp
  |some f=>
   have d:=ar i;unfold eK at d;obtain⟨e,g,b⟩:=List.mem_flatMap.1 d;obtain⟨k,j⟩:=List.mem_iff_getElem?.1 g;have:=(h.dt k e j).iL (List.length_pos_of_mem b);exact(this.2.2.2 f b).1
 ·simp
def gB.put{b:cH}{d:aX}(h:gB b d){r w o:Int}(i:0<=r)(g:iu w\/1000<=w)(e:0<=o)(f:0<o->1000<=w):gB b (d.put r w o):=by
 refine⟨h.eP,h.pc,by simp only[aX.put,jM];exact h.lr,by simp only[aX.put,jM];exact h.lo,h.lh,λy a=>?_,λk q y c a=>?_,h.bo⟩
 ·rcases pD a with rfl|a
  ·exact g
  ·exact h.MM y a
 ·simp only[aX.put]at c a;rw[zT]at c a;have:=h.lr;have:=h.lo;split at c<;>split at a
  ·simp at c a;subst c;subst a;exact⟨e,f⟩
  ·omega
  ·omega
  ·exact h.aR k q y c a
def Hg(w:Int):0<=fW w:=by unfold fW;split<;>omega
def Dz(h:0<fW w):1000<=w:=by unfold fW at h;split at h<;>omega
def wR(w:Int)(b:Nat):(if w=1000+(b:Int)then fW w else 0)=eL [w] b:=by
 simp only[eL,fW];split
 ·rw[ao V];rfl
 ·rfl
def GK(n:Int):iu (EQ n):=by unfold EQ iu;split<;>(try split)<;>omega
def Pa(c a b:Int):iu (NJ c a b):=by
 unfold NJ;split
 ·exact GK _
 split
 ·exact GK _
 split
 ·exact GK _
 split<;>(unfold iu;omega)
def lP(cJ:List Int):∀(a:List Int)(k:Nat),(dD cJ k a).length=a.length
 |[],k=>rfl
 |w::a,k=>by simp only[dD,aY,lP cJ a]
def Iy(cJ:List Int):∀(b:List Int)(k j:Nat)(o w:Int),(dD cJ k b)[j]? =some o->b[j]? =some w->0<=o/\(0<o->1000<=w)
 |[],k,j,o,w,_,h=>by simp at h
 |v::b,k,0,o,w,a,c=>by
  simp[dD]at a c;subst c;split at a
  ·subst a;omega
  ·subst a;exact⟨Hg _,Dz⟩
 |v::b,k,j+1,o,w,a,c=>Iy cJ b (k+1) j o w (by simpa[dD]using a) (by simpa using c)
def jZ(n:Nat):(cZ n).length=n:=by simp[cZ]
def qj{n:Nat}(h:w∈cZ n):w=0:=UE h
def uj{d j:Int}{e:List Int}{p:dw}(m:gP b)(l:0<=d)(h:b.cA[d.toNat]? =some p)(q:e.length=p.params.length)(n:∀w∈e,iu w\/1000<=w):gB b (br b d j e):=by
 have f:dx b d=p:=by simp[dx,h]
 have i:=m.dt p (ar h);have t:=i.u;have r:=i.len;have s:=ax h;refine⟨⟨l,by simp only[br];omega⟩,⟨by simp[br],by simp only[br,f];omega⟩,?_,?_,?_,λw a=>?_,λk o w c a=>?_,λw a=>Or.inl (qj a)⟩
 ·simp only[br,f,aZ,jZ];omega
 ·simp only[br,f,aZ,jZ,lP];omega
 ·simp only[br,f,jZ];omega
 ·simp only[br]at a;rcases List.mem_append.1 a with a|a
  ·exact n w a
  ·rw[qj a];exact Or.inl (by unfold iu;omega)
 ·simp only[br]at c a;rcases be k e.length with g|g
  ·rw[aw (by rw[lP];exact g)]at c;rw[aw g]at a;exact Iy _ e 0 k o w c a
  ·rw[aG (by rw[lP];exact g)]at c;rw[qj (iZ c)];omega
def qJ(b:cH)(d e:Int)(a:List Int)(c:Nat):dj (br b d e a).u (br b d e a).aR c=dj a (dD (dx b d).cJ 0 a) c:=by
 simp only[br];rw[Fu _ _ (lP _ _ _).symm,tf (λn f=>qj f)];omega
def pE(b:cH)(d c:Int)(e:List Int)(a:Nat):holds [br b d c e] a=0:=by
 rw[iN];exact Rv _ _
def Hf{b:cH}{d:Instr}(f:aX):∀(e:List Int)(k:Nat)(a:Nat),dj (cv f e) (dD (dx b d.bN).cJ k (cv f e)) a=eL ((hO b d k e).map (E f.u)) a
 |[],k,a=>by simp[cv,dj,hO,eL]
 |r::h,k,a=>by
  have g:=Hf (b:=b) (d:=d) f h (k+1) a;simp only[cv,cG,dD,dj,hO]at g⊢;rw[g];by_cases c:np b d k=true
  ·rw[ao c];unfold np at c;rw[ao c];split<;>omega
  ·rw[ae c];unfold np at c;rw[ae c];simp only[cG,eL];have:=wR (E f.u r) a;simp only[eL]at this;omega
def Iz:∀(a:List Int)(k:Nat)(b:Nat),dj a (dD [] k a) b=eL a b
 |[],k,b=>by simp[dj,eL]
 |w::a,k,b=>by
  have:=Iz a (k+1) b;have c:=wR w b;simp only[eL]at c;simp only[dD,dj,eL,this,PA,iT,rB];omega
def dh.qd{g:List bX}(i:dh b s)(l:s.az=c++[f])(m:d.bo=f.bo)(j:∀a,fF g a<->fF s.heap a):
 (∀a,fF g a->holds (c++[d]) a=1)/\(∀a,¬fF g a->holds (c++[d]) a=0):=by
 have h:∀a,holds (c++[d]) a=holds s.az a:=λa=>by rw[l,eB,eB,iN,iN,m]
 exact⟨λa e=>by rw[h];exact i.kj a ((j a).1 e),λa e=>by rw[h];exact i.nu a λk=>e ((j a).2 k)⟩
def dh.push(h:dh b s)(C:s.bU=3)(i:s.az=c++[f])(r:gB b d)(p:0<=d.dst/\d.dst<f.aR.length/\E f.aR d.dst=0){e:List bX}{bq:Int}
 (t:fE e (gN (c++[f,d])))(w:pp e)(u:∀a,fF e a->holds (c++[f,d]) a=1)(x:∀a,¬fF e a->holds (c++[f,d]) a=0)(z:bq=s.bq+1)(B:s.bq<s.bA):
 dh b {s with heap:=e,bq:=bq,az:=c++[f,d]}:=by
 have A:=h.bq
 have m:=h.depth
 rw[i]at m
 refine⟨h.fe,h.bU,⟨λg=>by simp at g;omega,λg=>by simp at g⟩,h.value,h.ve,h.bA,⟨by simp only[];omega,by simp only[];omega⟩,by simp at m⊢;omega,h.aW,t,w,λq a=>?_,λq a=>?_,λk y q e a=>?_,u,x⟩
 ·rcases List.mem_append.1 a with a|a
  ·exact h.az q (by rw[i];exact bL _ a)
  ·simp at a
   rcases a with rfl|rfl
   ·exact h.az _ (by rw[i];simp)
   ·exact r
 ·have j:=h.first
  rw[i]at j
  cases c with
  |nil=>simp at a;subst a;exact j f D
  |cons l n=>simp at a;subst a;exact j l D
 ·have l:=h.chain k
  rw[i]at l
  simp only[]at e a
  have g:c++[f,d]=(c++[f])++[d]:=D
  rw[g]at e a
  have v:=ax a
  simp at v
  rw[aw bJ]at e
  rcases be (k+1) (c++[f]).length with j|j
  ·rw[aw j]at a
   exact l y q e a
  ·simp at j
   rw[aG bJ]at a
   have n:k+1 -(c++[f]).length=0:=bJ
   rw[n]at a;simp at a;subst a
   rw[aG V]at e
   have o:k -c.length=0:=V
   rw[o]at e;simp at e;subst e;exact p
def Qk(j:dh b s)(Y:s.bU=3)(v:s.az=c++[f])
 (S:jD b s f (dk b f) (bC f.u f.aR (bS b (dk b f))))(bi:¬(lK (dk b f).op/\s.bq=s.bA)):
 dh b (eC b s c f (dk b f) (bC f.u f.aR (bS b (dk b f)))):=by
 have N:gB b f:=j.az f (by rw[v];simp)
 obtain⟨ai,hp,aE,hP,a5,hI⟩:=N.Im j.fe
 generalize dk b f=x at*
 have⟨lr,lo,lh⟩:(f.u.length:Int)=ai.u/\(f.aR.length:Int)=ai.u/\(f.bo.length:Int)=ai.u:=⟨aE▸N.lr,aE▸N.lo,aE▸N.lh⟩
 have ap:∀y∈x.args,0<=y/\y<f.u.length:=λy z=>by have:=hI.args y z;omega
 have a3:∀r∈bS b x,0<=r/\r<f.u.length:=λr Y=>ap r (Bt Y)
 have bs:=xD (u:=f.u) (bS b x) f.aR a3 V
 have bp:=jV f.u (bS b x) f.aR
 have bn:=kQ (u:=f.u) (bS b x) f.aR
 generalize bC f.u f.aR (bS b x)=aR at*
 have aL:∀I∈c,gB b I:=λI n=>j.az I (by rw[v];exact bL _ n)
 have aq:∀e,0<=gN c e+dj f.u aR e:=λe=>by
  have:=JF aL e;have:=td (u:=f.u) S.nn e;omega
 have J:fE s.heap (λe=>gN c e+dj f.u aR e+eL ((bS b x).map (E f.u)) e):=j.heap.congr λe=>by
  rw[v,fL,kG,bs];omega
 have bb:∀U:Int,0<=U->U<ai.cL.length->gB b {f with aR:=aR,pc:=U}:=λU h0 m=>
  ⟨N.eP,⟨h0,by rw[aE];exact m⟩,N.lr,by simp only[bp];exact N.lo,N.lh,N.MM,λB ah w ho p=>by
   obtain⟨I,n,q⟩:=bn B ah ho;have F:=N.aR B I w n p;exact⟨S.nn ah (iZ ho),λo=>F.2 V⟩,N.bo⟩
 have bt:=N.pc
 rw[aE]at bt
 have ba:x.op≠23->x.op≠24->f.pc+1<ai.cL.length:=λm F=>by
  rcases dL (f.pc+1<ai.cL.length)with G|G
  ·exact G
  ·have O:f.pc.toNat=ai.cL.length -1:=V;rw[O]at a5;have:=hP.Qg x a5;omega
 have hG:x.op≠23->x.op≠24->gB b {f with aR:=aR,pc:=f.pc+1}:=λm F=>bb _ V (ba m F)
 have av:∀r:Int,0<=r->r<f.u.length->iu (E f.u r)\/1000<=E f.u r:=λr h0 m=>N.MM _ (eW h0 m)
 have a8:∀r:Int,0<=r->r<f.u.length->E f.u r<1000->iu (E f.u r):=λr h0 m F=>by rcases av r h0 m with G|G;exact G;omega
 have al:=hI.dst
 have a6:lH x.op->E aR x.dst=0:=λT=>by
  have m:=S.dst T;have F:=S.nn _ (eW (c:=aR) al.1 V);omega
 have bu:∀r∈bS b x,sY s.heap (E f.u r):=λr bc=>by
  have bd:=a3 r bc;rcases av r bd.1 bd.2 with G|G
  ·exact Or.inl G
  ·refine Or.inr ⟨G,J.lv _ ?_⟩;have:=aq (ix (E f.u r));have:=um (l:=(bS b x).map (E f.u)) (f:=ix (E f.u r)) (by rw[iI G];exact List.mem_map.2 ⟨r,bc,rfl⟩);omega
 have aM:∀(U:Int)(a7:List Int)(w ah:Int),lH x.op->∀e,gN (c++[aX.put {f with aR:=aR,pc:=U,bo:=a7} x.dst w ah]) e=gN c e+dj f.u aR e+(if w=1000+(e:Int)then ah else 0):=λU a7 w ah T e=>by
  rw[fL,kG];simp only[aX.put];rw[MH al.1 V V (a6 T)];omega
 have aP:∀(w:Int)(aW:List Int),lH x.op->x.op≠23->x.op≠24->bS b x=[]->(iu w\/1000<=w)->(∀o∈aW,iu o)->dh b {s with aW:=aW,az:=c++[aX.put {f with aR:=aR,pc:=f.pc+1} x.dst w 0]}:=λw aW T m F A p ho=>by
  obtain⟨C,W⟩:=j.qd v (d:=aX.put {f with aR:=aR,pc:=f.pc+1} x.dst w 0) rfl (λe=>RK);refine j.fP Y v (hd:=rfl) ((hG m F).put al.1 p (cE _) (λG=>V)) (J.congr λe=>?_) j.jB C W ho (bq:=s.bq) ⟨cE _,j.bq.2⟩;rw[aM _ _ _ _ T,A];simp[eL]
 have aS:∀U:Int,0<=U->U<ai.cL.length->bS b x=[]->dh b {s with az:=c++[{f with aR:=aR,pc:=U}]}:=λU h0 m A=>by
  obtain⟨C,W⟩:=j.qd v (d:={f with aR:=aR,pc:=U}) rfl (λe=>RK);refine j.fP Y v (hd:=rfl) (bb U h0 m) (J.congr λe=>?_) j.jB C W j.aW (bq:=s.bq) ⟨cE _,j.bq.2⟩;rw[fL,kG,A];simp[eL]
 have q:=hI.op
 unfold lG at q
 unfold eC
 simp only[]
 by_cases e0:x.op=0
 ·rw[ao e0]at q⊢
  exact aP _ _ (by unfold lH;omega) V V (by simp[bS,e0]) (Or.inl q.2) j.aW
 rw[ae e0]at q⊢
 by_cases e1:x.op=1\/x.op=2\/x.op=3\/x.op=4
 ·rw[ao e1]
  exact aP _ _ (by unfold lH;omega) V V (by unfold bS;rw[ae V,ae V,ae V]) (Or.inl (Pa _ _ _)) j.aW
 rw[ae e1]
 have ay:1<=x.args.length->0<=E x.args 0/\E x.args 0<f.u.length:=λm=>ap _ (eW V V)
 by_cases e5:x.op=5
 ·rw[ao e5]
  rw[ae V,ao V]at q
  have z:=ay V
  have aC:iu (E f.u (E x.args 0)):=a8 _ z.1 z.2 (S.mZ V _ (eW V V))
  refine aP _ _ (by unfold lH;omega) V V (by simp[bS,e5]) (Or.inl aC) λo K=>?_
  rcases List.mem_append.1 K with K|K
  ·exact j.aW o K
  ·simp at K;subst K;exact aC
 rw[ae e5]
 have bf:(bS b x=x.args)->∀w∈cv f x.args,sY s.heap w:=λA w p=>by
  obtain⟨r,ac,rfl⟩:=List.mem_map.1 p;exact bu r (A▸ac)
 have a0:∀aF,bS b x=x.args->x.op≠23->x.op≠24->lH x.op->x.args.length<=3->0<=aF/\aF<=99->dh b {s with heap:=iH s.heap (dA s.heap) ⟨1,aF,cv f x.args⟩,az:=c++[aX.put {f with aR:=aR,pc:=f.pc+1} x.dst (1000+dA s.heap) 1]}:=λaF A m F T G aY=>by
  obtain⟨Z,k2,k3⟩:=J.alloc (t:=aF) (f:=cv f x.args) (e':=gN (c++[aX.put {f with aR:=aR,pc:=f.pc+1} x.dst (1000+dA s.heap) 1])) (bf A) (by simpa[cv]using G) aY (λe=>by rw[A];have:=aq e;simp only[cv];omega) (λe=>by
   rw[aM _ _ _ _ T,A];simp only[cv];have:(if(1000+(dA s.heap:Int))=1000+(e:Int)then(1:Int)else 0)=if e=dA s.heap then 1 else 0:=by
    by_cases o:e=dA s.heap
    ·rw[ao o,ao V]
    ·rw[ae o,ae V]
   rw[this];omega) j.jB
  obtain⟨C,W⟩:=j.qd v (d:=aX.put {f with aR:=aR,pc:=f.pc+1} x.dst (1000+dA s.heap) 1) rfl k2;exact j.fP Y v (hd:=rfl) ((hG m F).put al.1 (Or.inr V) V (λ_=>V)) Z k3 C W j.aW (bq:=s.bq) ⟨cE _,j.bq.2⟩
 have bv:(eK b.aT).length<=12:=by
  have:=qS j.fe.mw.types b.aT.length;rw[mL _ _ (ad _)]at this;exact this
 have bx:=j.fe.mw.len
 by_cases X:x.op=6
 ·rw[ao X]
  rw[ae V,ae V,ao X]at q
  have A:bS b x=x.args:=by unfold bS;rw[ao V]
  have T:lH x.op:=by unfold lH;omega
  have au:x.args.length<=3:=by rw[q.2.1];exact Ii j.fe.mw.types _
  split
  ·rename_i aK
   have Q:0<=x.bW -1/\x.bW -1<f.bo.length:=V
   have hv:=N.bo _ (eW (c:=f.bo) Q.1 Q.2)
   have aa:1000<=E f.bo (x.bW -1):=V
   have aI:0<holds s.az (ix (E f.bo (x.bW -1))):=by
    rw[v,eB,iN];have:=zr c (ix (E f.bo (x.bW -1)));have:=um (l:=f.bo) (f:=ix (E f.bo (x.bW -1))) (by rw[iI aa];exact eW Q.1 Q.2);omega
   have af:fF s.heap (ix (E f.bo (x.bW -1))):=dK λK=>by have:=j.nu _ K;omega
   have an:=j.kj _ af
   obtain⟨ab,P,aB⟩:=af
   have aD:∀e,eL ab.aL e=0:=λe=>nJ λp=>by
    have:=((J.cell ab (ar P)).Dh V).2.1 _ p;omega
   have Z:=J.make (x:=x.bN) (i:=cv f x.args) (e':=gN (c++[aX.put {f with aR:=aR,pc:=f.pc+1,bo:=gF f.bo (x.bW -1) 0} x.dst (E f.bo (x.bW -1)) 1])) (f:=ix (E f.bo (x.bW -1))) (g:=s.heap.set (ix (E f.bo (x.bW -1))) ⟨1,x.bN,cv f x.args⟩)
    (fF.Th ⟨ab,P,aB⟩) (eA P) (λe o=>gZ o) (λe=>by rw[zP _ P,aD];simp only[];omega) (bf A) (by simpa[cv]using au) V (λe=>by rw[A];have:=aq e;simp only[cv];omega) (λe=>by
     rw[aM _ _ _ _ T,A];simp only[cv];have:(if E f.bo (x.bW -1)=1000+(e:Int)then(1:Int)else 0)=if e=ix (E f.bo (x.bW -1))then 1 else 0:=by
      by_cases o:e=ix (E f.bo (x.bW -1))
      ·rw[ao o,ao (by rw[o,iI aa])]
      ·rw[ae o,ae (λM=>o (by rw[M,mO]))]
     rw[this];omega)
   have aH:∀e,eL (gF f.bo (x.bW -1) 0) e=eL f.bo e -(if e=ix (E f.bo (x.bW -1))then 1 else 0):=by
    intro e;have am:∀(H:List Int)(B:Nat)(w:Int),H[B]? =some w->eL (H.set B 0) e=eL H e -(if w=1000+(e:Int)then 1 else 0):=by
     intro H;induction H with
     |nil=>intro B w C;simp at C
     |cons aj H ih=>
      intro B w C;cases B with
      |zero=>simp at C;subst C;simp only[gW,eL];rw[ae V];omega
      |succ B=>have:=ih B w (by simpa using C);simp only[iU,eL,this];omega
    rw[gF,am _ _ _ (og Q.1 Q.2)];by_cases o:e=ix (E f.bo (x.bW -1))
    ·rw[ao o,ao (by rw[o,iI aa])]
    ·rw[ae o,ae (λM=>o (by rw[M,mO]))]
   have R:∀e,holds (c++[aX.put {f with aR:=aR,pc:=f.pc+1,bo:=gF f.bo (x.bW -1) 0} x.dst (E f.bo (x.bW -1)) 1]) e=holds s.az e -(if e=ix (E f.bo (x.bW -1))then 1 else 0):=λe=>by
    rw[v,eB,eB,iN,iN];simp only[aX.put];rw[aH];omega
   have aA:gB b {f with aR:=aR,pc:=f.pc+1,bo:=gF f.bo (x.bW -1) 0}:=by
    have m:=hG V V;exact⟨m.eP,m.pc,m.lr,m.lo,by simp only[jM];exact m.lh,m.MM,m.aR,λw p=>by rcases pD p with p|p;exact Or.inl p;exact m.bo w p⟩
   refine j.fP Y v (hd:=rfl) (aA.put al.1 (Or.inr aa) V (λ_=>aa)) Z ?_ (λy z=>?_) (λy z=>?_) j.aW (bq:=s.bq) ⟨cE _,j.bq.2⟩
   ·intro ak L
    rw[dZ]at L
    by_cases o:s.heap.length -1=ix (E f.bo (x.bW -1))
    ·rw[o,eA P]at L;simp at L;subst L;simp
    ·rw[gZ o]at L;exact j.jB ak L
   ·rw[R]
    by_cases o:y=ix (E f.bo (x.bW -1))
    ·subst o;rw[fF.FA P]at z;simp at z
    ·rw[ae o];rw[fF.ne o]at z;have:=j.kj y z;omega
   ·rw[R]
    by_cases o:y=ix (E f.bo (x.bW -1))
    ·subst o;rw[ao rfl];omega
    ·rw[ae o];rw[fF.ne o]at z;have:=j.nu y z;omega
  ·exact a0 _ A V V T au V
 rw[ae X]
 by_cases ab:x.op=10
 ·rw[ao ab]
  rw[ae V,ae V,ae X,ae V,ao ab]at q
  obtain⟨⟨I,aK,au,aN⟩,_⟩:=q
  have G:=(j.fe.mw.dt I (ar au)).1
  have:=ax au
  exact a0 _ (by unfold bS;rw[ao V]) V V (by unfold lH;omega) V (by unfold bI;omega)
 rw[ae ab]
 by_cases aH:x.op=14
 ·rw[ao aH]
  rw[ae V,ao V]at q
  have z:=ay V
  have A:bS b x=[]:=by simp[bS,aH]
  obtain⟨K,aa⟩:=S.UK aH
  obtain⟨C,W⟩:=j.qd v (d:={f with aR:=gF aR (E x.args 0) (E aR (E x.args 0)+1),pc:=f.pc+1}) rfl (λe=>fF.nl K e)
  have m:=hG V V
  refine j.fP Y v (hd:=rfl) (g:={f with aR:=gF aR (E x.args 0) (E aR (E x.args 0)+1),pc:=f.pc+1}) ⟨m.eP,m.pc,m.lr,by simp only[jM];exact m.lo,m.lh,m.MM,λB ah w ho p=>?_,m.bo⟩ (J.nl K aa λe=>?_) ?_ C W j.aW (bq:=s.bq) ⟨cE _,j.bq.2⟩
  ·simp only[]at ho p
   rw[zT]at ho
   split at ho
   ·rename_i P
    simp at ho
    have O:E f.u (E x.args 0)=w:=by rw[E,fI,<-P.1,p];rfl
    have:=S.nn _ (eW (c:=aR) z.1 V)
    have:=K.1
    exact⟨V,λ_=>V⟩
   ·exact m.aR B ah w ho p
  ·rw[fL,kG,A]
   simp only[]
   rw[Hd z.1 z.2 V]
   have P:=iI K.1
   simp only[fq,eL]
   by_cases o:e=ix (E f.u (E x.args 0))
   ·rw[ao o,ao (by rw[o,P])];omega
   ·rw[ae o,ae (λM=>o (by rw[M,mO]))];omega
  ·obtain⟨L,aD⟩:=bZ K
   intro ak Q
   unfold nl at Q
   rw[dZ]at Q
   by_cases o:s.heap.length -1=ix (E f.u (E x.args 0))
   ·rw[o,eA L]at Q;simp at Q;subst Q;simp only[];omega
   ·rw[gZ o]at Q;exact j.jB ak Q
 rw[ae aH]
 have aQ:x.args.length=1->x.args=[E x.args 0]:=λm=>by
  cases hx:x.args with
  |nil=>rw[hx]at m;simp at m
  |cons aj H=>cases H with
   |nil=>rfl
   |cons a_ H=>rw[hx]at m;simp at m
 by_cases a1:x.op=15
 ·rw[ao a1]
  rw[ae V,ao V]at q
  have A:bS b x=[E x.args 0]:=by unfold bS;rw[ao V];exact aQ V
  rw[A]at J
  have Z:=fE.iD _ s.heap [E f.u (E x.args 0)] (λe=>gN c e+dj f.u aR e) (ad _) (J.congr λe=>rfl) aq
  obtain⟨C,W⟩:=j.qd v (d:={f with aR:=aR,pc:=f.pc+1}) rfl (λe=>(fF.oX (h:=iD s.heap [E f.u (E x.args 0)]) e).trans (fF.iD _ _ _ (ad _) e))
  exact j.fP Y v (hd:=rfl) (hG V V) (Z.oX.congr λe=>by rw[fL,kG]) (Gl _) C W j.aW (bq:=s.bq) ⟨cE _,j.bq.2⟩
 rw[ae a1]
 by_cases aa:x.op=16\/x.op=17
 ·rw[ao aa]
  rw[ae V,ae V,ae X,ae V,ae ab,ao aa]at q
  have z:=ay V
  have A:bS b x=[E x.args 0]:=by
   unfold bS;rw[ae V,ao aa];cases hx:x.args with
   |nil=>rw[hx]at q;simp at q
   |cons aj H=>rfl
  obtain⟨K,aO,aT,a2⟩:=S.Kv aa
  obtain⟨L,aD⟩:=bZ K
  have aU:∀r∈x.args.drop 1,0<=r/\r<aR.length/\1000<=E f.u r:=λr ac=>by
   have m:=ap r (wC ac);have F:E f.u r∈kL (aJ s.heap (E f.u (E x.args 0))).aL:=by rw[aO];exact List.mem_map.2 ⟨r,ac,rfl⟩
   exact⟨m.1,V,(lW.1 F).2⟩
  have m:=hG V V
  have af:gB b {f with aR:=dz aR (x.args.drop 1),pc:=f.pc+1}:=⟨m.eP,m.pc,m.lr,by simp only[lD];exact m.lo,m.lh,m.MM,JW (u:=f.u) _ aR aU m.aR,m.bo⟩
  have a9:∀e,dj f.u (dz aR (x.args.drop 1)) e=dj f.u aR e+eL (aJ s.heap (E f.u (E x.args 0))).aL e:=λe=>by
   rw[EO (u:=f.u) _ _ (λr ac=>by have:=aU r ac;omega) V,<-vM (aJ s.heap _).aL,aO];rfl
  have aB:0<gN c (ix (E f.u (E x.args 0)))+dj f.u aR (ix (E f.u (E x.args 0)))+eL ((bS b x).map (E f.u)) (ix (E f.u (E x.args 0))):=by
   rw[A];have:=aq (ix (E f.u (E x.args 0)));simp only[cG,fq,iF K.1,ao,eL];omega
  have aA:∀e,gN c e+dj f.u (dz aR (x.args.drop 1)) e=(gN c e+dj f.u aR e+eL ((bS b x).map (E f.u)) e) -(if e=ix (E f.u (E x.args 0))then 1 else 0)+eL (aJ s.heap (E f.u (E x.args 0))).aL e:=λe=>by
   rw[a9,A];simp only[cG,fq,iF K.1,eL];omega
  split
  ·rename_i an
   have aZ:=a2 an.2
   have Z:=J.Qb L an.1 aB (c':=⟨-1,0,cZ (aJ s.heap (E f.u (E x.args 0))).aL.length⟩) D D rfl (λw p=>qj p) (by simp only[jZ];exact(J.cell _ (ar L)).fl) (λF=>by simp at F) (e':=gN (c++[{f with aR:=dz aR (x.args.drop 1),pc:=f.pc+1,bo:=gF f.bo (E x.args 0) (E f.u (E x.args 0))}])) (λe=>by rw[fL,kG];exact aA e)
   have am:∀(e:Nat)(w:Int)(H:List Int)(B:Nat),H[B]? =some 0->eL (H.set B w) e=eL H e+(if w=1000+(e:Int)then 1 else 0):=by
    intro e w H;induction H with
    |nil=>intro B C;simp at C
    |cons aj H ih=>
     intro B C;cases B with
     |zero=>simp at C;subst C;simp only[gW,eL];split<;>simp_all<;>omega
     |succ B=>have:=ih B (by simpa using C);simp only[iU,eL,this];omega
   have aV:E x.args 0<f.bo.length:=V
   have R:∀e,holds (c++[{f with aR:=dz aR (x.args.drop 1),pc:=f.pc+1,bo:=gF f.bo (E x.args 0) (E f.u (E x.args 0))}]) e=holds s.az e+(if e=ix (E f.u (E x.args 0))then 1 else 0):=λe=>by
    rw[v,eB,eB,iN,iN];have aI:=og (c:=f.bo) z.1 aV;rw[aZ]at aI;simp only[gF];rw[am e _ _ _ aI];by_cases o:e=ix (E f.u (E x.args 0))
    ·rw[ao o,ao (by rw[o,iI K.1])];omega
    ·rw[ae o,ae (λM=>o (by rw[M,mO]))];omega
   have a4:¬fF s.heap (ix (E f.u (E x.args 0))):=λC=>C.Th K.2
   refine j.fP Y v (hd:=rfl) (g:={f with aR:=dz aR (x.args.drop 1),pc:=f.pc+1,bo:=gF f.bo (E x.args 0) (E f.u (E x.args 0))}) ⟨af.eP,af.pc,af.lr,af.lo,by simp only[jM];exact af.lh,af.MM,af.aR,λw p=>?_⟩ Z ?_ (λy P=>?_) (λy P=>?_) j.aW (bq:=s.bq) ⟨cE _,j.bq.2⟩
   ·rcases pD p with p|p
    ·rw[p];exact Or.inr K.1
    ·exact N.bo w p
   ·intro ak Q
    rw[dZ]at Q
    by_cases o:s.heap.length -1=ix (E f.u (E x.args 0))
    ·rw[o,eA L]at Q;simp at Q;subst Q;simp
    ·rw[gZ o]at Q;exact j.jB ak Q
   ·rw[R]
    by_cases o:y=ix (E f.u (E x.args 0))
    ·rw[ao o,o,j.nu _ a4];rfl
    ·rw[ae o];rw[fF.ne o]at P;have:=j.kj y P;omega
   ·rw[R]
    by_cases o:y=ix (E f.u (E x.args 0))
    ·subst o;rw[fF.FA L]at P;simp at P
    ·rw[ae o];rw[fF.ne o]at P;have:=j.nu y P;omega
  ·obtain⟨Z,k2,k3⟩:=J.apart K aB aT (e':=gN (c++[{f with aR:=dz aR (x.args.drop 1),pc:=f.pc+1}])) (λe=>by rw[fL,kG];exact aA e) j.jB
   obtain⟨C,W⟩:=j.qd v (d:={f with aR:=dz aR (x.args.drop 1),pc:=f.pc+1}) rfl k2
   exact j.fP Y v (hd:=rfl) af Z k3 C W j.aW (bq:=s.bq) ⟨cE _,j.bq.2⟩
 rw[ae aa]
 by_cases a2:x.op=18
 ·rw[ao a2]
  rw[ae V,ao V]at q
  have z:=ay V
  have A:bS b x=[E x.args 0]:=by unfold bS;rw[ao V];exact aQ V
  have T:lH x.op:=by unfold lH;omega
  obtain⟨C,W⟩:=j.qd v (d:=aX.put {f with aR:=aR,pc:=f.pc+1} x.dst (E f.u (E x.args 0)) (fW (E f.u (E x.args 0)))) rfl (λe=>RK)
  refine j.fP Y v (hd:=rfl) ((hG V V).put al.1 (av _ z.1 z.2) (Hg _) Dz) (J.congr λe=>?_) j.jB C W j.aW (bq:=s.bq) ⟨cE _,j.bq.2⟩
  rw[aM _ _ _ _ T,A,wR];rfl
 rw[ae a2]
 by_cases Q:x.op=19
 ·rw[ao Q]
  rw[ae V,ae V,ae X,ae V,ae ab,ae aa,ao Q]at q
  obtain⟨K,o⟩:=S.load Q
  obtain⟨L,aD⟩:=bZ K
  refine aP _ _ (by unfold lH;omega) V V (by simp[bS,Q]) ?_ j.aW
  rcases((J.cell _ (ar L)).qQ aD).1 _ (eW q.2.1 o)with F|F
  ·exact Or.inl F
  ·exact Or.inr F.1
 rw[ae Q]
 by_cases af:x.op=20
 ·rw[ao af]
  rw[ae V,ae V,ae X,ae V,ae ab,ae aa,ae Q,ao af]at q
  have:=ba V V
  exact aS _ (by split<;>omega) (by split<;>omega) (by simp[bS,af])
 rw[ae af]
 by_cases an:x.op=21
 ·rw[ao an]
  rw[ae V,ae V,ae X,ae V,ae ab,ae aa,ae Q,ae af,ae V,ao an]at q
  obtain⟨K,aY⟩:=S.xC an
  have ak:qU (cq b.aT x.bN) (aJ s.heap (E f.u (E x.args 0))).jQ<(cq b.aT x.bN).length:=mh ⟨_,aY,D⟩
  obtain⟨am,o⟩:=q.2.2
  have:=o _ (eW (c:=x.ez) (i:=(qU (cq b.aT x.bN) (aJ s.heap (E f.u (E x.args 0))).jQ:Nat)) V V)
  exact aS _ V V (by simp[bS,an])
 rw[ae an]
 by_cases aA:x.op=22
 ·rw[ao aA]
  rw[ae V,ae V,ae X,ae V,ae ab,ae aa,ae Q,ae af,ao aA]at q
  exact aS _ V V (by simp[bS,aA])
 rw[ae aA]
 have bg:∀w∈cv f x.args,iu w\/1000<=w:=λw p=>by
  obtain⟨r,ac,rfl⟩:=List.mem_map.1 p;exact av r (ap r ac).1 (ap r ac).2
 have aV:lK x.op->s.bq<s.bA:=λL=>by
  have:=j.bq;have:s.bq≠s.bA:=λO=>bi ⟨L,O⟩;omega
 have a9:∀(hp:List bX),s.bq<s.bA->x.op≠23->x.op≠24->∀(d:aX),gB b d->lH x.op->d.dst=x.dst->fE hp (gN (c++[{f with aR:=aR,pc:=f.pc+1},d]))->pp hp->(∀e,fF hp e<->fF s.heap e)->(∀e,holds [d] e=0)->
  dh b {s with bq:=s.bq+1,heap:=hp,az:=c++[{f with aR:=aR,pc:=f.pc+1},d]}:=λhp bw m F d hg T bl hH hT hK bm=>by
  have a4:=j.bq
  have aB:=j.depth
  rw[v]at aB
  have ee:c++[{f with aR:=aR,pc:=f.pc+1},d]=(c++[{f with aR:=aR,pc:=f.pc+1}])++[d]:=D
  have R:∀e,holds (c++[{f with aR:=aR,pc:=f.pc+1},d]) e=holds s.az e:=λe=>by
   rw[ee,eB,bm,v,eB,eB,iN,iN];simp
  refine⟨j.fe,j.bU,⟨λO=>by simp at O;omega,λO=>by simp at O⟩,j.value,j.ve,j.bA,⟨by simp only[];omega,by simp only[];omega⟩,by simp at aB⊢;omega,j.aW,hH,hT,λI n=>?_,λI n=>?_,λB p1 I o n=>?_,λy z=>?_,λy z=>?_⟩
  ·rcases List.mem_append.1 n with n|n
   ·exact aL I n
   ·simp at n
    rcases n with rfl|rfl
    ·exact hG m F
    ·exact hg
  ·have am:=j.first
   rw[v]at am
   cases c with
   |nil=>simp at n;subst n;exact am f D
   |cons aj ys=>simp at n;subst n;exact am aj D
  ·have ak:=j.chain B
   rw[v]at ak
   simp only[]at o n
   rw[ee]at o n
   have aU:=ax n
   simp at aU
   rw[aw bJ]at o
   rcases be (B+1) (c.length+1)with G|G
   ·rw[aw bJ]at n
    rw[aw V]at o
    rcases be (B+1) c.length with h4|h4
    ·rw[aw h4]at n
     exact ak p1 I (by rw[aw V];exact o) (by rw[aw h4];exact n)
    ·rw[aG h4]at n
     have M:B+1 -c.length=0:=V
     rw[M]at n;simp at n;subst n
     exact ak p1 f (by rw[aw V];exact o) (by rw[aG h4,M];rfl)
   ·rw[aG bJ]at n
    have M:B+1 -(c++[{f with aR:=aR,pc:=f.pc+1}]).length=0:=bJ
    rw[M]at n;simp at n;subst n
    rw[aG V]at o
    have e3:B -c.length=0:=V
    rw[e3]at o;simp at o;subst o
    rw[bl]
    exact⟨al.1,by simp only[];omega,a6 T⟩
  ·rw[R];exact j.kj y ((hK y).1 z)
  ·rw[R];exact j.nu y λG=>z ((hK y).2 G)
 by_cases e9:x.op=9
 ·rw[ao e9]
  rw[ae V,ae V,ae X,ao V]at q
  obtain⟨I,aK,au,aN⟩:=q
  have A:bS b x=hO b x 0 x.args:=by unfold bS;rw[ae V,ae V,ao V]
  refine a9 s.heap (aV (Or.inl e9)) V V (br b x.bN x.dst (cv f x.args)) (uj j.fe aK au (by simp[cv,aN]) bg) (by unfold lH;omega) rfl (J.congr λe=>?_) j.jB (λ_=>RK) (pE _ _ _ _)
  rw[fL,A]
  simp only[gN]
  rw[qJ,Hf];omega
 rw[ae e9]
 by_cases aI:x.op=24
 ·rw[ao aI]
  rw[ae V,ae V,ae X,ao V]at q
  obtain⟨I,aK,au,aN⟩:=q
  have A:bS b x=hO b x 0 x.args:=by unfold bS;rw[ae V,ae V,ao V]
  obtain⟨aO,aZ⟩:=S.zero (Or.inl aI)
  have R:∀e,holds (c++[br b x.bN f.dst (cv f x.args)]) e=holds s.az e:=λe=>by
   rw[v,eB,eB,pE,iN,nJ (λp=>by have:=aZ _ p;omega)]
  have bh:=aV (Or.inr (Or.inr aI))
  refine j.fP Y v (hd:=rfl) (uj j.fe aK au (by simp[cv,aN]) bg) (J.congr λe=>?_) j.jB (λy z=>by rw[R];exact j.kj y z) (λy z=>by rw[R];exact j.nu y z) j.aW (bq:=s.bq+1) V
  rw[fL,kG,qJ,Hf,A,tf aO];omega
 rw[ae aI]
 by_cases au:x.op=11
 ·rw[ao au]
  rw[ao V]at q
  have A:bS b x=x.args:=by unfold bS;rw[ao V]
  have bh:x.args=[E x.args 0,E x.args 1]:=by
   cases hx:x.args with
   |nil=>rw[hx]at q;simp at q
   |cons aj H=>cases H with
    |nil=>rw[hx]at q;simp at q
    |cons a_ H=>cases H with
     |nil=>rfl
     |cons _ _=>rw[hx]at q;simp at q
  have aK:0<=E x.args 1/\E x.args 1<f.u.length:=ap _ (eW V V)
  obtain⟨K,bk,bz,bj,aN,aT⟩:=S.apply au
  obtain⟨L,aD⟩:=bZ K
  obtain⟨I,n⟩:=ag (l:=b.cA) (k:=((aJ s.heap (E f.u (E x.args 0))).jQ -bI b).toNat) V
  have a_:dx b ((aJ s.heap (E f.u (E x.args 0))).jQ -bI b)=I:=by simp[dx,n]
  rw[a_]at bj aN
  have H:∀e,eL ((bS b x).map (E f.u)) e=(if e=ix (E f.u (E x.args 0))then 1 else 0)+eL [E f.u (E x.args 1)] e:=λe=>by
   rw[A,bh];simp only[cG,fq];rw[iF]
   ·rfl
   ·exact K.1
  obtain⟨Z,k2,k3⟩:=J.apart K (by simp only[H,ao];have:=aq (ix (E f.u (E x.args 0)));have:=iG [E f.u (E x.args 1)] (ix (E f.u (E x.args 0)));omega) aT
   (e':=gN (c++[{f with aR:=aR,pc:=f.pc+1},br b ((aJ s.heap (E f.u (E x.args 0))).jQ -bI b) x.dst ((aJ s.heap (E f.u (E x.args 0))).aL++[E f.u (E x.args 1)])])) (λe=>by
    rw[fL,H];simp only[gN];rw[qJ,a_,List.length_eq_zero_iff.1 aN,Iz,lM];omega) j.jB
  refine a9 _ (aV (Or.inr (Or.inl au))) V V _ (uj j.fe bk n bJ λw p=>?_) (by unfold lH;omega) rfl Z k3 k2 (pE _ _ _ _)
  rcases List.mem_append.1 p with p|p
  ·rcases((J.cell _ (ar L)).qQ aD).1 w p with F|F
   ·exact Or.inl F
   ·exact Or.inr F.1
  ·simp at p;subst p;exact av _ aK.1 aK.2
 rw[ae au]
 have aD:x.op=23:=by
  rw[ae V]at q;by_cases aD:x.op=23
  ·exact aD
  ·rw[ae V,ae X,ae V,ae ab,ae aa,ae Q,ae af,ae aA,ae an]at q;exact q.elim
 rw[ae V,ao V]at q
 have z:=ay V
 have A:bS b x=[E x.args 0]:=by unfold bS;rw[ao V];exact aQ V
 obtain⟨aO,aZ⟩:=S.zero (Or.inr aD)
 have aT:∀e,holds [f] e=0:=λe=>by rw[iN];exact nJ (λp=>by have:=aZ _ p;omega)
 split
 ·rename_i K
  have aK:c=[]:=List.getLast?_eq_none_iff.1 K
  subst aK
  have H:=S.ret aD
  have aC:=a8 _ z.1 z.2 (by rcases H with m|m;(rw[v]at m;simp at m);exact m)
  have a4:=j.bq
  refine⟨j.fe,⟨D,D⟩,D,aC,D,j.bA,j.bq,bJ,j.aW,J.congr λe=>?_,j.jB,D,D,D,λy P=>?_,λy P=>?_⟩
  ·rw[A,tf aO]
   simp only[gN,cG,fq]
   rw[nJ (by simp;have:=aC.2;omega)];rfl
  ·have m:=j.kj y P
   rw[v]at m
   have F:=aT y
   simp only[dS]at m
   omega
  ·simp[holds]
 ·rename_i H K
  have aK:c=c.dropLast++[H]:=by
   have a_:c≠[]:=λO=>by rw[O]at K;simp at K
   rw[eT a_]at K;simp at K;rw[<-K];exact(dX a_).symm
  generalize c.dropLast=fs' at aK
  subst aK
  have aC:gB b H:=aL H D
  obtain⟨aN,bh,bj⟩:=j.chain fs'.length H f (by rw[v];simp) (by rw[v];simp)
  have bk:f.dst<H.u.length:=by have:=aC.lr;have:=aC.lo;omega
  have a4:=j.bq
  have aB:=j.depth
  rw[v]at aB
  have R:∀e,holds (fs'++[H.put f.dst (E f.u (E x.args 0)) (fW (E f.u (E x.args 0)))]) e=holds s.az e:=λe=>by
   rw[v,eB,eB,aT,eB,iN,iN];simp[aX.put]
  refine⟨j.fe,j.bU,⟨λO=>by simp at O;omega,λO=>by simp at O⟩,j.value,j.ve,j.bA,j.bq,by simp at aB⊢;omega,j.aW,J.congr λe=>?_,j.jB,λI n=>?_,λI n=>?_,λB p1 I o n=>?_,λy P=>by rw[R];exact j.kj y P,λy P=>by rw[R];exact j.nu y P⟩
  ·rw[fL,kG,fL,kG,A,tf aO]
   simp only[aX.put,cG,fq]
   rw[MH aN bk bh bj,wR];omega
  ·rcases List.mem_append.1 n with n|n
   ·exact aL I (bL _ n)
   ·simp at n;subst n
    exact aC.put aN (av _ z.1 z.2) (Hg _) Dz
  ·have am:=j.first
   rw[v]at am
   cases fs' with
   |nil=>simp at n;subst n;exact am H D
   |cons aj ys=>simp at n;subst n;exact am aj D
  ·have ak:=j.chain B
   rw[v]at ak
   simp only[]at o n
   have aU:=ax n
   simp at aU
   rw[aw V]at o
   have e1:(fs'++[H]++[f])[B]? =some p1:=by rw[aw bJ,aw V];exact o
   rcases be (B+1) fs'.length with G|G
   ·rw[aw G]at n
    exact ak p1 I e1 (by rw[aw bJ,aw G];exact n)
   ·rw[aG G]at n
    have M:B+1 -fs'.length=0:=V
    rw[M]at n;simp at n;subst n
    exact ak p1 H e1 (by rw[aw bJ,aG G,M];rfl)
def NV(h:dh b s):dh b (mB b s):=by
 unfold mB;by_cases d:s.bU=3
 ·rw[ae (by simpa using d)];obtain⟨c,f,a⟩:=h.split d;have i:s.az.getLast?=some f:=by rw[a];simp
  have j:s.az.dropLast=c:=by rw[a];simp
  rw[i,j];simp only[];have g:∀n,1<=n->n<=2->dh b {s with bU:=n}:=λn l m=>
   ⟨h.fe,⟨by simp only[];omega,by simp only[];omega⟩,⟨λe=>by simp only[]at e;omega,λe=>by simp only[]at e;rw[a]at e;simp at e⟩,h.value,λe=>by have:=h.ve e;omega,h.bA,h.bq,h.depth,h.aW,h.heap,h.jB,h.az,h.first,h.chain,h.kj,h.nu⟩
  split
  ·exact g 1 V V
  ·rename_i e;split
   ·rename_i k;exact Qk h d a k e
   ·exact g 2 V V
 ·rw[ao (by simpa using d)];exact h
end
section
variable{a:cH}{s:St}
def rem(a:cH):List aX->Int
 |[]=>0
 |f::b=>((dx a f.eP).cL.length -f.pc)+rem a b
def mP(a:cH):∀(l r:List aX),rem a (l++r)=rem a l+rem a r
 |[],r=>by simp[rem]
 |f::l,r=>by simp only[cU,rem,mP a l r];omega
def wz(a:cH)(s:St):Int:=rem a s.az+(s.bA -s.bq)*2000
def SY{a:cH}:∀{b:List aX},(∀f∈b,gB a f)->0<=rem a b
 |[],_=>by simp[rem]
 |f::b,h=>by
  have:=SY (λg c=>h g (aj _ c));have:=(h f ba).pc;simp only[rem];omega
def Ut(h:dh a s):0<=wz a s:=by
 have:=SY h.az;have:=h.bq;unfold wz;omega
def NI{c:List aX}{f:aX}(G:dh a s)(hr:s.bU=3)(j:s.az=c++[f])
 (T:jD a s f (dk a f) (bC f.u f.aR (bS a (dk a f)))):
 wz a (eC a s c f (dk a f) (bC f.u f.aR (bS a (dk a f))))<wz a s:=by
 have S:gB a f:=G.az f (by rw[j];simp)
 obtain⟨ac,hp,A,hP,ab,Z⟩:=S.Im G.fe
 have aa:=S.pc
 generalize dk a f=x at*
 generalize bC f.u f.aR (bS a x)=aR at*
 rw[A]at aa
 have kK:∀(g:aX)(b:St),b.az=c++[g]->g.eP=f.eP->f.pc<g.pc->b.bA=s.bA->b.bq=s.bq->wz a b<wz a s:=λg b t y Y u v=>by
  unfold wz;rw[j,t,u,v,mP,mP];simp only[rem,y];omega
 have cL:∀q:Int,0<=q->q<a.cA.length->((dx a q).cL.length:Int)<=2000:=λq h0 y=>by
  obtain⟨X,W⟩:=ag (l:=a.cA) (k:=q.toNat) V;have:=(G.fe.dt X (ar W)).len;have B:dx a q=X:=by simp[dx,W]
  rw[B];omega
 have JA:∀(g n:aX)(b:St),b.az=c++[g,n]->g.eP=f.eP->f.pc<g.pc->0<=n.eP->n.eP<a.cA.length->n.pc=0->b.bA=s.bA->b.bq=s.bq+1->wz a b<wz a s:=λg n b t y Y H I J u v=>by
  have:=cL n.eP H I;unfold wz;rw[j,t,u,v,mP,mP];simp only[rem,y,J];omega
 have tail:∀(n:aX)(b:St),b.az=c++[n]->0<=n.eP->n.eP<a.cA.length->n.pc=0->b.bA=s.bA->b.bq=s.bq+1->wz a b<wz a s:=λn b t H I J u v=>by
  have:=cL n.eP H I;unfold wz;rw[j,t,u,v,mP,mP];simp only[rem,J,A];omega
 have d:=Z.op
 unfold lG at d
 unfold eC
 simp only[]
 by_cases K:x.op=0
 ·rw[ao K];exact kK _ _ rfl rfl (by show f.pc<f.pc+1;omega) rfl rfl
 rw[ae K]at d⊢
 by_cases L:x.op=1\/x.op=2\/x.op=3\/x.op=4
 ·rw[ao L];exact kK _ _ rfl rfl (by show f.pc<f.pc+1;omega) rfl rfl
 rw[ae L]
 by_cases Q:x.op=5
 ·rw[ao Q];exact kK _ _ rfl rfl (by show f.pc<f.pc+1;omega) rfl rfl
 rw[ae Q]
 by_cases e:x.op=6
 ·rw[ao e]
  split
  ·exact kK _ _ rfl rfl (by show f.pc<f.pc+1;omega) rfl rfl
  ·exact kK _ _ rfl rfl (by show f.pc<f.pc+1;omega) rfl rfl
 rw[ae e]
 by_cases m:x.op=10
 ·rw[ao m];exact kK _ _ rfl rfl (by show f.pc<f.pc+1;omega) rfl rfl
 rw[ae m]
 by_cases M:x.op=14
 ·rw[ao M];exact kK _ _ rfl rfl (by simp only[];omega) rfl rfl
 rw[ae M]
 by_cases N:x.op=15
 ·rw[ao N];exact kK _ _ rfl rfl (by simp only[];omega) rfl rfl
 rw[ae N]
 by_cases o:x.op=16\/x.op=17
 ·rw[ao o]
  split
  ·exact kK _ _ rfl rfl (by simp only[];omega) rfl rfl
  ·exact kK _ _ rfl rfl (by simp only[];omega) rfl rfl
 rw[ae o]
 by_cases O:x.op=18
 ·rw[ao O];exact kK _ _ rfl rfl (by show f.pc<f.pc+1;omega) rfl rfl
 rw[ae O]
 by_cases p:x.op=19
 ·rw[ao p];exact kK _ _ rfl rfl (by show f.pc<f.pc+1;omega) rfl rfl
 rw[ae p]
 by_cases r:x.op=20
 ·rw[ao r]
  rw[ae V,ae V,ae e,ae V,ae m,ae o,ae p,ao r]at d
  exact kK _ _ rfl rfl (by simp only[];split<;>omega) rfl rfl
 rw[ae r]
 by_cases w:x.op=21
 ·rw[ao w]
  rw[ae V,ae V,ae e,ae V,ae m,ae o,ae p,ae r,ae V,ao w]at d
  obtain⟨z,C⟩:=T.xC w
  have F:qU (cq a.aT x.bN) (aJ s.heap (E f.u (E x.args 0))).jQ<(cq a.aT x.bN).length:=mh ⟨_,C,D⟩
  obtain⟨P,h⟩:=d.2.2
  have:=h _ (eW (c:=x.ez) (i:=(qU (cq a.aT x.bN) (aJ s.heap (E f.u (E x.args 0))).jQ:Nat)) V V)
  exact kK _ _ rfl rfl (by simp only[];omega) rfl rfl
 rw[ae w]
 by_cases F:x.op=22
 ·rw[ao F]
  rw[ae V,ae V,ae e,ae V,ae m,ae o,ae p,ae r,ao F]at d
  exact kK _ _ rfl rfl (by simp only[];omega) rfl rfl
 rw[ae F]
 by_cases R:x.op=9
 ·rw[ao R]
  rw[ae V,ae V,ae e,ao V]at d
  obtain⟨q,C,h,U⟩:=d
  have:=ax h
  exact JA _ _ _ rfl rfl (by show f.pc<f.pc+1;omega) (by simp only[br];omega) (by simp only[br];omega) rfl rfl rfl
 rw[ae R]
 by_cases P:x.op=24
 ·rw[ao P]
  rw[ae V,ae V,ae e,ao V]at d
  obtain⟨q,C,h,U⟩:=d
  have:=ax h
  exact tail _ _ rfl (by simp only[br];omega) (by simp only[br];omega) rfl rfl rfl
 rw[ae P]
 by_cases C:x.op=11
 ·rw[ao C]
  obtain⟨z,h,U,_⟩:=T.apply C
  exact JA _ _ _ rfl rfl (by show f.pc<f.pc+1;omega) (by simp only[br];omega) (by simp only[br];omega) rfl rfl rfl
 rw[ae C]
 split
 ·rename_i h
  have z:c=[]:=List.getLast?_eq_none_iff.1 h
  subst z
  unfold wz
  rw[j]
  simp only[rem,dS,A];omega
 ·rename_i pf h
  have z:c=c.dropLast++[pf]:=by
   have U:c≠[]:=λB=>by rw[B]at h;simp at h
   rw[eT U]at h;simp at h;rw[<-h];exact(dX U).symm
  generalize c.dropLast=fs' at z
  subst z
  unfold wz
  rw[j]
  simp only[mP,rem,aX.put,A];omega
def RD(h:dh a s)(d:s.bU=3)(b:(mB a s).bU=3):wz a (mB a s)<wz a s:=by
 obtain⟨j,i,c⟩:=h.split d;have f:s.az.getLast?=some i:=by rw[c];simp
 have g:s.az.dropLast=j:=by rw[c];simp
 unfold mB at b⊢;rw[ae (by simpa using d),f,g]at b⊢;simp only[]at b⊢;split at b
 ·simp at b
 ·rename_i k;rw[ae k];split at b
  ·rename_i e;rw[ao e];exact NI h d c e
  ·simp at b
noncomputable def aA (a:cH):Nat->St->St
 |0,s=>s
 |n+1,s=>aA a n (mB a s)
def oF(a:cH):∀(n:Nat)(s:St),aA a (n+1) s=mB a (aA a n s)
 |0,s=>rfl
 |n+1,s=>by rw[aA,oF a n,aA]
def rp{a:cH}:∀(n:Nat){s:St},dh a s->dh a (aA a n s)
 |0,s,h=>h
 |n+1,s,h=>rp n (NV h)
def lT(h:s.bU≠3):mB a s=s:=by unfold mB;rw[ao h]
def ms{a:cH}:∀(n:Nat){s:St},s.bU≠3->aA a n s=s
 |0,s,_=>rfl
 |n+1,s,h=>by rw[aA,lT h,ms n h]
def Lc{a:cH}:∀(n:Nat){s:St},dh a s->wz a s<n->(aA a n s).bU≠3
 |0,s,h,d=>by have:=Ut h;omega
 |n+1,s,h,d=>by
  rcases dL (s.bU=3)with b|b
  ·rcases dL ((mB a s).bU=3)with c|c
   ·have:=RD h b c;exact Lc n (NV h) V
   ·rw[aA,ms n c];exact c
  ·rw[ms _ b];exact b
def fj(a:cH)(bA:Int):St:=⟨3,0,0,bA,[],[],[br a 0 0 []]⟩
def nP{bA:Int}(c:gP a)(p:0<=bA/\bA<=40):dh a (fj a bA):=by
 have s:=c.mw.len;obtain⟨q,i⟩:=ag (l:=a.cA) (k:=0) V;have n:=c.mw.first q i;have m:=uj (j:=0) (e:=[]) c (cE 0) i (by simp[n.1]) D;have h:∀f,gN [br a 0 0 []] f=0:=λf=>by rw[kG,qJ];simp[dj]
 refine⟨c,by simp[fj],by simp[fj],by simp[fj,iu],by simp[fj],p,by simp[fj];omega,by simp[fj],by simp[fj],⟨by simp[fj],⟨λ_=>0,by simp[fj]⟩,by simp[fj],λd=>by simp only[fj];rw[h];omega,λd b=>by simp only[fj]at b;rw[h]at b;omega⟩,?_,?_,?_,?_,λd⟨j,e,_⟩=>by simp[fj]at e,λd _=>pE _ _ _ _ _⟩
 ·intro j e;simp[fj]at e
 ·intro g b;simp[fj]at b;subst b;exact m
 ·intro g b;simp[fj]at b;subst b;rfl
 ·intro t g r b o;simp[fj]at o
def Qw{bA:Int}(b:gP a)(g:0<=bA/\bA<=40):wz a (fj a bA)<=82000:=by
 have f:=b.mw.len;obtain⟨p,c⟩:=ag (l:=a.cA) (k:=0) V;have d:=(b.dt p (ar c)).len;have e:dx a 0=p:=by simp[dx,c]
 unfold wz fj;simp only[rem,br,e];omega
end
section
variable{k:Nat}{m:I}
def lI{b:List bB}{d:bB}:Gw b k d<->((zd b.length d.ug/\zd b.length d.to/\d.cons.length<=3/\(0<d.cons.length->d.ug=0/\d.to=0))/\
 (∀h∈d.cons,h.length<=3/\EF b.length h)/\∀e∈b.take k,¬(d.cons.length=0/\e.cons.length=0/\e.ug=d.ug/\e.to=d.to)):=by
 constructor
 ·intro l
  rcases jT d.cons.length with a|a
  ·obtain⟨c,f,g⟩:=l.QZ a
   refine⟨⟨f,g,V,λl=>V⟩,λh m=>?_,λe i j=>c e i j.2⟩
   rw[List.length_eq_zero_iff.1 a]at m;cases m
  ·obtain⟨c,f,g,h⟩:=l.iL a
   exact⟨⟨by unfold zd;omega,by unfold zd;omega,c,λ_=>⟨f,g⟩⟩,h,λe i j=>V⟩
 ·rintro⟨⟨c,f,g,h⟩,l,m⟩
  exact⟨λa=>⟨g,(h a).1,(h a).2,l⟩,λa=>⟨λe i j=>m e i ⟨a,j⟩,c,f⟩⟩
def Dn{aT:O}{c:List bB}(C:cx m aT c):dJ cw 140 [O.v aT] m (dP c):=by
 apply yi;simp -zeta only[aD,aC];have w:=C.len;have aq:=C.cap;refine dit (λab=>?_) λab=>?_
 ·exact cK (λa=>by have:=a.len;omega) (J.aB _)
 refine eU (n:=c.length) V (λk f=>J m f/\∀(j:Nat)(d:bB),j<k->c[j]? =some d->Gw c j d) ⟨J.aB _,D⟩ ?_;rintro j x an μ hj ⟨L,W⟩ am
 refine dit (λh1=>?_) λh1=>?_
 ·obtain⟨d,G⟩:=ag (l:=c) (k:=j) V;obtain⟨B,H,g0,g1,g2⟩:=(cx.ext L C).E G;have aw:=H.len;refine⟨V,V,_,g0,_,g1,B,g2,?_⟩;intro m2 r;have M:J x r:=((J.aB x).aK _).ai (ad _) _ _;have K:∀s∈[x.size],s<r.size:=by simp[r,m2,av]
  clear_value r;have N:=L.trans M;have i:∀{f:I},J r f->¬Gw c j d->∃Q:Bool,vb false=.bool Q/\(Q=true<->dP c)/\J m f:=λai ah=>cK (λa=>ah (a.dt j d G)) (N.trans ai);refine⟨λf=>J r f/\zd c.length d.ug/\zd c.length d.to/\d.cons.length<=3/\(0<d.cons.length->d.ug=0/\d.to=0),?_,?_⟩
  ·refine(pA _ _ _).aI (J.aB _) K λs m4 g R t=>⟨_,rfl,λe=>?_,λe=>?_⟩
   ·exact i t λa=>nb g e (w▸(lI.1 a).1.1)
   have q:=yb g e;refine(pA _ _ _).aI t K λs v g u b=>⟨_,rfl,λh=>?_,λh=>?_⟩
   ·exact i b λa=>nb g h (w▸(lI.1 a).1.2.1)
   have y:=yb g h;rw[w]at q y;refine dit (λz=>?_) λz=>?_
   ·exact i b λa=>by have:=(lI.1 a).1.2.2.1;omega
   refine dit (λA=>?_) λA=>?_
   ·refine⟨λo=>?_,λo=>?_⟩
    ·simp only[vj]at o;exact i b λa=>o ((lI.1 a).1.2.2.2 V).1
    simp only[ij]at o;refine⟨λp=>?_,λp=>?_⟩
    ·simp only[vj]at p;exact i b λa=>p ((lI.1 a).1.2.2.2 V).2
    simp only[ij]at p;exact⟨b,q,y,V,λ_=>⟨o,p⟩⟩
   ·exact⟨b,q,y,V,λo=>V⟩
  ·rintro m4 ⟨Z,af⟩;have au:=oY.ext (M.trans Z) H;refine eU (n:=d.cons.length) V (λk f=>J r f/\∀B∈d.cons.take k,B.length<=3/\EF c.length B) ⟨Z,D⟩ ?_;rintro P v I2 μ2 hi ⟨o,X⟩ aj;refine dit (λR=>?_) λR=>?_
   ·obtain⟨E,p⟩:=ag (l:=d.cons) (k:=P) V;obtain⟨S,F,T⟩:=(oY.ext (M.trans o) H).E p;have Y:=F.len;refine⟨V,V,S,T,?_⟩;intro y z;have q:J v z:=((J.aB v).aK _).ai (ad _) _ _;have U:∀s∈[v.size,x.size],s<z.size:=by
     have:=o.lt (K x.size D);simp[z,y,av];omega
    clear_value z;refine dit (λt=>?_) λt=>?_
    ·exact i (o.trans q) λa=>by have:=((lI.1 a).2.1 E (ar p)).1;omega
    refine(vz (F.ext q) _).aI (J.aB _) U λs A g e u=>⟨_,rfl,λb=>?_,λb=>?_⟩
    ·exact i ((o.trans q).trans e) λa=>nb g b (w▸((lI.1 a).2.1 E (ar p)).2)
    ·exact aj V _ ⟨(o.trans q).trans e,bV p X ⟨V,w▸yb g b⟩⟩
   ·have ac:=dq V X;refine⟨V,V,V,?_⟩;have S:cx v (aT.cut 0 j 3) (c.take j):=eH.Rl (cx.ext (N.trans o) C) V;have ap:(aT.cut 0 j 3).len=j:=by rw[S.len];simp;omega
    simp -zeta only[tF,Int.toNat_zero];refine eU (n:=j) V (λk f=>J v f/\∀g∈c.take k,¬(d.cons.length=0/\g.cons.length=0/\g.ug=d.ug/\g.to=d.to)) ⟨J.aB _,D⟩ ?_;rintro q y I3 μ3 az ⟨F,Y⟩ al;refine dit (λt=>?_) λt=>?_
    ·obtain⟨g,T⟩:=ag (l:=c) (k:=q) V;have U:(c.take j)[q]? =some g:=by rw[nv,ao V];exact T
     obtain⟨f',ae,q0,q1,q2⟩:=(cx.ext F S).E U;have ay:=ae.len;refine⟨V,V,_,q0,_,q1,f',q2,?_⟩;intro z A;have aa:J y A:=((J.aB y).aK _).ai (ad _) _ _;clear_value A;have E:¬(d.cons.length=0/\g.cons.length=0/\g.ug=d.ug/\g.to=d.to)->I3 (cW ((q:Int)+1)) A/\μ3 (cW ((q:Int)+1)) A<μ3 q y:=λp=>al V _ ⟨F.trans aa,bV T Y p⟩;refine⟨λe=>?_,λe=>?_⟩
     ·simp only[aF]at e;refine⟨λu=>?_,λu=>?_⟩
      ·simp only[aF]at u;refine⟨λb=>?_,λb=>?_⟩
       ·simp only[aF]at b;refine⟨λh=>?_,λh=>?_⟩
        ·simp only[aF]at h;exact i ((o.trans F).trans aa) λa=>(lI.1 a).2.2 g (ar U) ⟨V,V,b,h⟩
        ·simp only[ak]at h;exact E λp=>h p.2.2.2
       ·simp only[ak]at b;exact E λp=>b p.2.2.1
      ·simp only[ak]at u;exact E λp=>u V
     ·simp only[ak]at e;exact E λp=>e V
    ·have:q=j:=V;subst this;refine am V _ ⟨(N.trans o).trans F,λb e h a=>?_⟩
     by_cases g:b=q
     ·subst g;rw[G]at a;simp at a;subst a;exact lI.2 ⟨af,ac,Y⟩
     ·exact W b e V a
 ·exact jG ⟨V,λP d bO=>W P d (by have:=ax bO;omega) bO⟩ L
def Nf(m:I)(b:List Ce)(p:dw):Prop:=∃a l,b=[.s a,.s l,.i p.aV]/\ap m a p.params/\ap m l p.cJ
def Nf.ext{m d:I}(b:J m d)(a:List Ce)(c:dw):Nf m a c->Nf d a c:=λ⟨f,g,e,h,i⟩=>⟨f,g,e,h.ext b,i.ext b⟩
abbrev ph(m:I)(s:O)(l:List dw):Prop:=eH m 3 (Nf m) s l
def ph.ext{m b:I}(a:J m b){s:O}{l:List dw}(h:ph m s l):ph b s l:=h.mono a (Nf.ext a)
def ph.E{s:O}{l:List dw}(h:ph m s l){x:dw}(f:l[k]? =some x):
 ∃a b,ap m a x.params/\ap m b x.cJ/\af m s.F (s.off+k*3)=some (O.v a)/\af m s.F (s.off+k*3+1)=some (O.v b)/\af m s.F (s.off+k*3+2)=some (vi x.aV):=by
 obtain⟨g,⟨a,b,rfl,d,e⟩,c⟩:=h.iP k x f
 exact⟨a,b,d,e,c 0 (.s a) rfl,c 1 (.s b) rfl,c 2 (.i x.aV) rfl⟩
def Fk{aa ab:O}{r:List bB}{c:List dw}(hd:cx m aa r)(R:ph m ab c):
 dJ cw 85 [O.v aa,O.v ab] m (JQ r c/\∀p∈c,Dd p.params p.cJ):=by
 apply zE
 simp -zeta only[aD,aC]
 have Q:=hd.len
 have aG:=R.len
 refine(Dn hd).then λw m1 e f=>⟨_,rfl,λI=>?_,λI=>?_⟩
 ·exact cK (λa=>nb e I a.1.types) f
 have ht:=yb e I
 refine dit (λh2=>?_) λh2=>?_
 ·exact cK (λa=>by have:=a.1.len;omega) f
 refine dit (λh3=>?_) λh3=>?_
 ·exact cK (λa=>by have:=a.1.len;omega) f
 obtain⟨p0,B⟩:=ag (l:=c) (k:=0) V
 obtain⟨a0,l0,ao,aH,g0,g1,g2⟩:=(ph.ext f R).E B
 have aB:=ao.len
 refine⟨V,V,a0,g0,dit (λh4=>?_) λh4=>?_⟩
 ·exact cK (λa=>by have:=(a.1.first p0 B).1;omega) f
 refine⟨V,V,_,g2,λu=>?_,λu=>?_⟩
 ·simp only[vj]at u
  exact cK (λa=>u (a.1.first p0 B).2) f
 simp only[ij]at u
 refine eU (n:=c.length) V (λj X=>J m X/\∀p∈c.take j,(p.params.length<=3/\EF r.length p.params/\zd r.length p.aV)/\Dd p.params p.cJ) ⟨f,D⟩ ?_
 rintro j E az μ hj ⟨o,hn⟩ ay
 refine dit (λh6=>?_) λh6=>?_
 ·obtain⟨p,i⟩:=ag (l:=c) (k:=j) V
  obtain⟨al,aw,P,A,q0,q1,q2⟩:=(ph.ext o R).E i
  have aE:=P.len
  have aJ:=A.len
  have aI:=A.fS
  refine⟨V,V,al,q0,aw,q1,_,q2,?_⟩
  intro m3 F
  have q:J E F:=((J.aB E).aK _).ai (ad _) _ _
  have ac:∀w∈[E.size],w<F.size:=by simp[F,m3,av]
  clear_value F
  refine dit (λh7=>?_) λh7=>?_
  ·exact cK (λa=>by have:=(a.1.dt p (ar i)).1;omega) (o.trans q)
  refine(vz (P.ext q) _).aI (J.aB _) ac λw m5 e h8 h9=>⟨_,rfl,λK=>?_,λK=>?_⟩
  ·exact cK (λa=>nb e K (Q▸(a.1.dt p (ar i)).2.1)) ((o.trans q).trans h8)
  have af:=yb e K
  refine(pA _ _ _).aI h9 ac λw Y e aA L=>⟨_,rfl,λM=>?_,λM=>?_⟩
  ·exact cK (λa=>nb e M (Q▸(a.1.dt p (ar i)).2.2)) ((o.trans q).trans L)
  have ae:=yb e M
  rw[Q]at af ae
  have ah:J m Y:=(o.trans q).trans L
  have U:J E Y:=q.trans L
  refine eU (n:=p.cJ.length) V (λk X=>X=Y/\∀(j:Nat)(v:Int),j<k->p.cJ[j]? =some v->(∃t,0<=v/\p.params[v.toNat]? =some t/\t≠0)/\(∀G:Int,0<j->p.cJ[j -1]? =some G->G<v)) ⟨rfl,D⟩ ?_
  rintro k m7 I2 μ2 hk ⟨rfl,S⟩ ai
  have y:¬Dd p.params p.cJ->∃Z:Bool,vb false=.bool Z/\(Z=true<->JQ r c/\∀p∈c,Dd p.params p.cJ)/\J m m7:=λaq=>cK (λa=>aq (a.2 p (ar i))) ah
  refine dit (λam=>?_) λam=>?_
  ·obtain⟨x,g⟩:=ag (l:=p.cJ) (k:=k) V
   refine⟨V,V,x,by simpa using U.af (A.E g),dit (λan=>?_) λan=>?_⟩
   ·exact y λa=>by obtain⟨⟨t,z,_⟩,_⟩:=a k x g;omega
   refine⟨λz=>?_,λz=>?_⟩
   ·simp only[Gu,au]at z
    refine y λa=>?_
    obtain⟨⟨t,_,d,_⟩,_⟩:=a k x g
    have:=ax d;omega
   simp only[Gu,bH]at z
   obtain⟨t,C⟩:=ag (l:=p.params) (k:=x.toNat) V
   refine⟨V,V,t,by simpa using U.af (P.E C),λd=>?_,λd=>?_⟩
   ·simp only[aF]at d
    refine y λa=>?_
    obtain⟨⟨b,_,s,N⟩,_⟩:=a k x g
    rw[C]at s;simp at s;exact N (s▸d)
   simp only[ak]at d
   refine dit (λs=>?_) λs=>?_
   ·have e2:cW ((k:Int) -1)=((k -1:Nat):Int):=by rw[aQ V V];omega
    obtain⟨aj,W⟩:=ag (l:=p.cJ) (k:=k -1) V
    rw[e2]
    refine⟨V,V,aj,by simpa using U.af (A.E W),dit (λN=>?_) λN=>?_⟩
    ·exact y λa=>by have:=(a k x g).2 aj V W;omega
    ·refine ai V _ ⟨rfl,λh v ap b=>?_⟩
     by_cases H:h=k
     ·subst H
      rw[g]at b;simp at b;subst b
      refine⟨⟨t,V,C,d⟩,λG _ T=>?_⟩
      rw[W]at T;simp at T;subst T;omega
     ·exact S h v V b
   ·refine ai V _ ⟨rfl,λh v ap b=>?_⟩
    by_cases H:h=k
    ·subst H
     rw[g]at b;simp at b;subst b
     exact⟨⟨t,V,C,d⟩,λG N _=>V⟩
    ·exact S h v V b
  ·exact ay V _ ⟨ah,bV i hn ⟨⟨V,af,ae⟩,λh v b=>S h v (by have:=ax b;omega) b⟩⟩
 ·have b:=dq V hn
  refine jG ⟨⟨ht,V,λp a=>(b p a).1,λp a=>?_⟩,λp a=>(b p a).2⟩ o
  rw[B]at a;simp at a;subst a
  exact⟨V,u⟩
end
section
variable{c:I}{d f a j:O}{b:cH}{i:Instr}
def Fg{L:O}(q:eu c d L b):
 aO cw 49 [.agg #[O.v d,O.v L]] c λaq w=>∃X f e,aq=.tuple #[.agg #[O.v X,O.v f],vb e]/\(e=true<->JQ b.aT b.cA/\∀L∈b.cA,Dd L.params L.cJ)/\
  (e=true->X=d/\ph w f b.cA)/\J c w:=by
 apply zD
 simp -zeta only[aD,aC]
 intro K h
 have aw:=q.cA.len
 have s1:K.size=c.size+1:=by simp[K]
 have s2:h.size=c.size+2:=by simp[h,K]
 have ae:J c h:=((J.aB c).aK _).aK _
 refine dit (λh1=>?_) λh1=>?_
 ·intro g
  exact⟨_,_,_,rfl,⟨λq=>by simp at q,λq=>by have:=q.1.len;omega⟩,λq=>by simp at q,ae.ai V _ _⟩
 intro m4 G
 have s5:G.size=c.size+3:=by simp[G,m4,av,s2]
 have ao:J c G:=(ae.aK _).ai V _ _
 have ak:cF G h.size lU [.s d,.s .nil]:=cF.ai (m:=m4) (o:=0) (r:=[.s d,.s .nil]) (cF.push h _ _)
 clear_value G
 refine eU (n:=b.cA.length) V (λQ w=>J c w/\G.size<=w.size/\∃g z,cF w h.size lU [.s d,.s g]/\gG c w pO 3 g z.flatten/\gD 3 (Nf c) z (b.cA.take Q)/\(g≠.nil->h.size<g.F)/\g.len=Q)
  ⟨ao,ad _,.nil,[],ak,gG.nil _ _ _ _,by simpa using gD.nil 3 (Nf c),D,rfl⟩ ?_
 rintro Q i ar μ hk ⟨s,ax,g,z,v,N,P,T,ac⟩ ap
 refine dit (λh2=>?_) λh2=>?_
 ·obtain⟨R,hq⟩:=ag (l:=b.cA) (k:=Q) V
  obtain⟨a,e,af,ha,t,B,g0,g1,g2,g3,g4⟩:=q.cA.E hq
  refine⟨V,V,a,by simpa using s.af g0,e,by simpa using s.af g1,_,by simpa using s.af g2,_,by simpa using s.af g3,af,by simpa using s.af g4,?_⟩
  intro W j
  have I:J i j:=((J.aB i).aK _).ai (ad _) _ _
  have s8:j.size=i.size+1:=by simp[j,W,av]
  clear_value j
  refine⟨g,(v.ext I).cp 1,?_⟩
  intro x
  have U:J i x:=I.aK _
  have s9:x.size=i.size+2:=by simp[x,s8]
  have jg:fN x j.size 0 [.s a,.s e,.i R.aV]:=(cF.push j _ _).iP
  clear_value x
  refine gG.append (c:=[.s .nil,.s .nil,.i 0]) (i:=[.s a,.s e,.i R.aV]) (N.ext U) (s.trans U) rfl jg (by simp[ac];omega) ?_
  intro y E h7 h8 Y au ah ai
  have ab:y≠.nil->h.size<y.F:=by
   intro C;rcases ai with⟨_,A⟩|⟨am,A,_⟩|A
   ·exact absurd A C
   ·have:=T am;omega
   ·omega
  have M:∀p,p<x.size->p<=h.size\/p=i.size/\(g=.nil\/g.F<i.size)->E[p]? =x[p]? :=by
   intro p u B;refine ah p u λC=>?_;have:=T C;rcases B with B|⟨rfl,B|B⟩
   ·omega
   ·exact absurd B C
   ·omega
  have al:g=.nil\/g.F<i.size:=N.lt
  have Z:cF E h.size lU [.s d,.s g]:=(v.ext U).congr (M _ V (Or.inl (ad _)))
  refine⟨λp u=>?_,Z.fH D,?_⟩
  ·simp at u
   rcases u with rfl|rfl|rfl
   ·exact M _ V (Or.inr ⟨rfl,al⟩)
   ·exact M _ V (Or.inl V)
   ·exact M _ V (Or.inl V)
  intro F
  have ay:F.size=E.size:=by simp[F,av]
  have aj:cF F h.size lU [.s d,.s y]:=cF.ai (m:=E) (o:=1) (r:=[.s y]) Z
  have aa:∀e,e≠h.size->F[e]? =E[e]? :=λe t=>bd _ _ _ _ t
  have an:J c F:=h8.ai V _ _
  clear_value F
  refine⟨λp u=>?_,?_⟩
  ·simp at u
   rcases u with rfl|rfl|rfl<;>exact aa _ V
  refine ap V _ ⟨an,V,y,z++[[.s a,.s e,.i R.aV]],aj,?_,?_,ab,by simp[Y,ac]⟩
  ·rw[qB]
   have S:gG c E pO 3 y (z.flatten++[[.s a,.s e,.i R.aV]].flatten):=by simpa using h7
   rcases S.lt with A|A
   ·subst A;exact⟨S.len,Or.inl rfl⟩
   ·refine S.congr (aa _ λe2=>?_)
    by_cases H:y=.nil
    ·subst H
     have:=Y
     simp at this
    ·have:=ab H;omega
  ·rw[bn hq]
   exact P.yy rfl ⟨a,e,rfl,ha,t⟩
 ·rw[cN V]at P
  have A:ph i g b.cA:=(eH.fV N P V V).mono (J.aB _) (Nf.ext s)
  refine⟨d,v.cp 0,g,v.cp 1,g,v.cp 1,?_⟩
  have x:∀e∈[K.size,c.size],e<i.size:=bJ
  refine(Fk (cx.ext s q.aT) A).aI (J.aB _) x λe W t p _=>⟨_,rfl,p.cV (v.cp 0),p.cV (v.cp 1),?_⟩
  intro j
  have C:∀e,e≠K.size->j[e]? =W[e]? :=λe t=>bd _ _ _ _ t
  have I:J c j:=(s.trans p).ai V _ _
  refine⟨d,g,e,rfl,t,λ_=>⟨rfl,?_⟩,I⟩
  have u:=N.ext p
  have y:gG c j pO 3 g z.flatten:=by
   by_cases H:g=.nil
   ·subst H;exact⟨u.len,Or.inl rfl⟩
   ·exact u.congr (C _ (by have:=T H;omega))
  exact(eH.fV y P V V).mono (J.aB _) (Nf.ext I)
def fZ(b:cH)(i:Instr)(a:Int->Prop):Prop:=
 if i.op=0 then -999<=i.bN/\i.bN<=999
 else if i.op=6 then 0<=i.bN/\i.bN<(eK b.aT).length
 else if i.op=9\/i.op=24 then 0<=i.bN/\i.bN<b.cA.length
 else if i.op=10 then 0<=i.bN/\∃q,b.cA[i.bN.toNat]? =some q/\q.cJ.length=0
 else if i.op=19 then 0<=i.bN/\i.bN<3
 else if i.op=20\/i.op=22 then a i.bN
 else if i.op=21 then 0<(cq b.aT i.bN).length/\i.ez.length=(cq b.aT i.bN).length
 else i.bN=0
def GY(C:cx c d b.aT)(z:dP b.aT)(E:ph c f b.cA)(U:ap c a i.args)(K:ap c j i.ez)(v:Nat)(x w:Array Value)(I:GL.elem v=true)(n:Int->Prop)
 (M:∀e,J c e->dJ cw v (x.toList++[vi i.bN]++w.toList) e (n i.bN)):
 dJ cw 89 [.agg #[O.v d,O.v f],.agg #[vi i.op,vi i.dst,vi i.bN,vi i.bW,O.v a,O.v j],.func (.func v) x w] c (fZ b i n):=by
 apply qe d f i.op i.dst i.bN i.bW a j (.func v,x,w)
 simp -zeta only[aD,aC]
 intro A t
 have e:J c t:=((J.aB c).aK _).aK _
 have y:∀B∈[A.size,c.size],B<t.size:=by simp[t,A];omega
 have X:=E.len
 have Y:=K.len
 have H:cF t A.size dQ [.i i.op,.i i.dst,.i i.bN,.i i.bW,.s a,.s j]:=cF.push _ _ _
 clear_value t
 refine⟨λm=>?_,λm=>?_⟩
 ·simp only[aF]at m
  rw[show fZ b i n<->-999<=i.bN/\i.bN<=999 by rw[fZ,ao m]]
  refine⟨λh=>ft ?_ e,λh=>cK ?_ e⟩<;>simp at h
  ·simp;omega
  ·omega
 simp only[ak]at m
 refine⟨λo=>?_,λo=>?_⟩
 ·simp only[aF]at o
  rw[show fZ b i n<->0<=i.bN/\i.bN<(eK b.aT).length by rw[fZ,ae m,ao o]]
  refine⟨λh=>?_,λh=>cK ?_ e⟩<;>simp at h
  ·refine(mX (cx.ext e C) z.len (JC z)).aI (J.aB _) y λF g _=>⟨_,rfl,g.cV (H.cp 2),ft ?_ (e.trans g)⟩
   simp;omega
  ·omega
 simp only[ak]at o
 refine⟨λp=>?_,λp=>?_⟩
 ·simp only[bT,aF]at p
  rw[show fZ b i n<->0<=i.bN/\i.bN<b.cA.length by rw[fZ,ae m,ae o,ao p]]
  refine⟨λh=>ft ?_ e,λh=>cK ?_ e⟩<;>simp at h
  ·simp;omega
  ·omega
 simp only[bz,ak]at p
 replace p:¬(i.op=9\/i.op=24):=V
 refine⟨λq=>?_,λq=>?_⟩
 ·simp only[aF]at q
  rw[show fZ b i n<->0<=i.bN/\∃r,b.cA[i.bN.toNat]? =some r/\r.cJ.length=0 by rw[fZ,ae m,ae o,ae p,ao q]]
  refine⟨λh=>⟨λs=>?_,λs=>?_⟩,λh=>cK ?_ e⟩<;>simp at h
  ·simp at s
   obtain⟨r,u⟩:=ag (l:=b.cA) (k:=i.bN.toNat) V
   obtain⟨P,N,W,L,Q,G,R⟩:=(ph.ext e E).E u
   have:=L.len
   refine⟨V,V,N,G,ft ?_ e⟩
   simp only[aF]
   refine⟨λS=>⟨h,r,u,V⟩,λ⟨_,Z,g,T⟩=>?_⟩
   rw[u]at g;simp at g;subst g;omega
  ·simp at s
   exact cK (λ⟨_,r,g,_⟩=>by have:=ax g;omega) e
  ·omega
 simp only[ak]at q
 refine⟨λr=>?_,λr=>?_⟩
 ·simp only[aF]at r
  rw[show fZ b i n<->0<=i.bN/\i.bN<3 by rw[fZ,ae m,ae o,ae p,ae q,ao r]]
  refine⟨λh=>ft ?_ e,λh=>cK ?_ e⟩<;>simp at h
  ·simp;omega
  ·omega
 simp only[ak]at r
 refine⟨λs=>?_,λs=>?_⟩
 ·simp only[bT,aF]at s
  rw[show fZ b i n<->n i.bN by rw[fZ,ae m,ae o,ae p,ae q,ae r,ao s]]
  exact⟨v,rfl,I,(M t e).aI (J.aB _) y λB F u g _=>⟨_,rfl,ft u (e.trans g)⟩⟩
 simp only[bz,ak]at s
 replace s:¬(i.op=20\/i.op=22):=V
 refine⟨λu=>?_,λu=>?_⟩
 ·simp only[aF]at u
  rw[show fZ b i n<->0<(cq b.aT i.bN).length/\i.ez.length=(cq b.aT i.bN).length by rw[fZ,ae m,ae o,ae p,ae q,ae r,ae s,ao u]]
  refine(sW (cx.ext e C) z _).aI (J.aB _) y ?_
  rintro _ F ⟨L,rfl,G,g⟩
  have:=G.len
  refine⟨g,_,rfl,λh=>ft ?_ (e.trans g),λh=>cK ?_ (e.trans g)⟩<;>simp at h
  ·simp only[aF];omega
  ·omega
 ·simp only[ak]at u
  rw[show fZ b i n<->i.bN=0 by rw[fZ,ae m,ae o,ae p,ae q,ae r,ae s,ae u]]
  exact ft D e
def gK(b:cH)(i:Instr)(c a:Int):Prop:=
 if i.op=0\/i.op=22 then c=0/\a=0
 else if i.op=1\/i.op=2\/i.op=3\/i.op=4\/i.op=11 then c=2/\a=2
 else if i.op=6 then c=(cD b.aT i.bN).length/\a=(cD b.aT i.bN).length
 else if i.op=9\/i.op=24 then∃q,b.cA[i.bN.toNat]? =some q/\c=q.params.length/\a=q.params.length
 else if i.op=10 then∃q,b.cA[i.bN.toNat]? =some q/\c=(q.params.length:Int) -1/\a=(q.params.length:Int) -1
 else if i.op=16\/i.op=17 then c=1/\a=4
 else c=1/\a=1
def Kg(I:cx c d b.aT)(C:dP b.aT)(z:ph c f b.cA){N:Int->Prop}(v:fZ b i N):
 aO cw 90 [.agg #[O.v d,O.v f],.agg #[vi i.op,vi i.dst,vi i.bN,vi i.bW,O.v a,O.v j]] c λQ P=>∃D B:Int,Q=.tuple #[vi D,vi B]/\gK b i D B/\J c P:=by
 apply rK
 simp -zeta only[aD,aC]
 intro E w
 have g:J c w:=((J.aB c).aK _).aK _
 have K:∀F∈[E.size,c.size],F<w.size:=by simp[w,E];omega
 have S:=z.len
 clear_value w
 refine⟨λh=>?_,λh=>?_⟩
 ·simp only[bT,aF]at h
  exact⟨_,_,rfl,by rw[gK,ao h];exact⟨rfl,rfl⟩,g⟩
 simp only[bz,ak]at h
 have n:¬(i.op=0\/i.op=22):=V
 refine⟨λs=>?_,λs=>?_⟩
 ·simp only[bT,aF]at s
  exact⟨_,_,rfl,by rw[gK,ae n,ao s];exact⟨rfl,rfl⟩,g⟩
 simp only[bz,ak]at s
 have p:¬(i.op=1\/i.op=2\/i.op=3\/i.op=4\/i.op=11):=V
 refine⟨λe=>?_,λe=>?_⟩
 ·simp only[aF]at e
  rw[fZ,ae h.1,ao e]at v
  have o:=qS C b.aT.length
  rw[mL _ _ (ad _)]at o
  refine(GQ (cx.ext g I) C _ V).aI (J.aB _) K ?_
  rintro _ r ⟨t,rfl,q,m⟩
  have:=q.len
  exact⟨m,_,rfl,_,_,rfl,by rw[gK,ae n,ae p,ao e];omega,g.trans m⟩
 simp only[ak]at e
 refine⟨λq=>?_,λq=>?_⟩
 ·simp only[bT,aF]at q
  rw[fZ,ae h.1,ae e,ao q]at v
  obtain⟨x,o⟩:=ag (l:=b.cA) (k:=i.bN.toNat) V
  obtain⟨r,M,u,L,y,G,H⟩:=(ph.ext g z).E o
  have:=u.len
  exact⟨V,V,r,y,_,_,rfl,by rw[gK,ae n,ae p,ae e,ao q];exact⟨x,o,V,V⟩,g⟩
 simp only[bz,ak]at q
 have t:¬(i.op=9\/i.op=24):=V
 refine⟨λm=>?_,λm=>?_⟩
 ·simp only[aF]at m
  rw[fZ,ae h.1,ae e,ae t,ao m]at v
  obtain⟨R,x,o,_⟩:=v
  obtain⟨r,M,u,L,y,G,H⟩:=(ph.ext g z).E o
  have:=u.len
  have:=u.fS
  have:=ax o
  have A:cW ((r.len:Int) -1)=(x.params.length:Int) -1:=by rw[aQ V V];omega
  exact⟨V,V,r,y,_,_,rfl,by rw[gK,ae n,ae p,ae e,ae t,ao m];exact⟨x,o,A,A⟩,g⟩
 simp only[ak]at m
 refine⟨λo=>?_,λo=>?_⟩
 ·simp only[bT,aF]at o
  exact⟨_,_,rfl,by rw[gK,ae n,ae p,ae e,ae t,ae m,ao o];exact⟨rfl,rfl⟩,g⟩
 ·simp only[bz,ak]at o
  have r:¬(i.op=16\/i.op=17):=V
  exact⟨_,_,rfl,by rw[gK,ae n,ae p,ae e,ae t,ae m,ae r];exact⟨rfl,rfl⟩,g⟩
end
section
variable{m:I}{x a:Int}{b d:Nat}{c:O}
def xJ(e:af m b 0=some (vi a))(f:af m d 4=some (O.v c)):
 dJ cw 87 [vi x,vp b 0,vp d 0] m (a+1<=x/\x<=(c.len:Int) -1):=by
 apply ov x (b,0) (d,0)
 refine⟨a,e,λh=>⟨c,f,ft ?_ (J.aB _)⟩,λh=>cK ?_ (J.aB _)⟩<;>simp at h
 ·simp;omega
 ·omega
def IS{e:Nat}(f:af m b 0=some (vi a))(g:af m d 4=some (O.v c))
 (h:af m e 0=some (.func (.func 87) #[] #[vp b 0,vp d 0])):
 dJ cw 88 [vi x,vp e 0] m (¬(a+1<=x/\x<=(c.len:Int) -1)):=by
 apply oA x (e,0)
 refine⟨(.func 87,#[],#[vp b 0,vp d 0]),h,_,rfl,rfl,?_⟩
 refine(xJ f g).then λk l i j=>⟨_,rfl,ft ?_ j⟩
 rw[<-i];simp
def Io{w:cH}{p:dw}{a:Nat}{i:Instr}(Q:p.u<=2000)(O:w.cA.length<=4)(H:∀s∈w.cA,s.params.length<=3):
 iA w p a i<->((0<=i.op/\i.op<=24/\i.op≠7/\i.op≠8/\i.op≠12/\i.op≠13)/\(0<=i.dst/\i.dst<p.u/\(i.dst=0\/lH i.op)/\0<=i.bW/\i.bW<=p.u/\(i.bW=0\/i.op=6))/\
  (∀q∈i.args,0<=q/\q<p.u)/\(i.ez.length=0\/i.op=21)/\(∀t∈i.ez,(a:Int)+1<=t/\t<=(p.cL.length:Int) -1)/\
  fZ w i (λt=>(a:Int)+1<=t/\t<=(p.cL.length:Int) -1)/\∀m j,gK w i m j->m<=i.args.length/\(i.args.length:Int)<=j):=by
 have P:(0<=i.dst/\i.dst<p.u)->0<p.u:=λy=>V
 constructor
 ·intro y
  have c:=y.op
  have N:=y.dst
  have E:∀q∈i.args,0<=q/\q<p.u:=λq g=>by have:=y.args q g;omega
  have v:i.op≠21->∀t∈i.ez,(a:Int)+1<=t/\t<=(p.cL.length:Int) -1:=λJ t K=>by
   rcases y.ez with r|r
   ·exact absurd r J
   ·rw[List.length_eq_zero_iff.1 r]at K;cases K
  have F:i.ez.length=0\/i.op=21:=y.ez.symm
  have I:0<=i.dst/\i.dst<p.u:=V
  have ic:∀(_:0<=i.op/\i.op<=24/\i.op≠7/\i.op≠8/\i.op≠12/\i.op≠13)(_:0<=i.bW/\i.bW<=p.u)(_:∀t∈i.ez,(a:Int)+1<=t/\t<=(p.cL.length:Int) -1)
   (_:fZ w i (λt=>(a:Int)+1<=t/\t<=(p.cL.length:Int) -1))(_:∀m j,gK w i m j->m<=i.args.length/\(i.args.length:Int)<=j),_:=
   λG D H M r=>(⟨G,⟨I.1,I.2,y.Xj,D.1,D.2,y.bW⟩,E,F,H,M,r⟩:(0<=i.op/\i.op<=24/\i.op≠7/\i.op≠8/\i.op≠12/\i.op≠13)/\(0<=i.dst/\i.dst<p.u/\(i.dst=0\/lH i.op)/\0<=i.bW/\i.bW<=p.u/\(i.bW=0\/i.op=6))/\
   (∀q∈i.args,0<=q/\q<p.u)/\(i.ez.length=0\/i.op=21)/\(∀t∈i.ez,(a:Int)+1<=t/\t<=(p.cL.length:Int) -1)/\
   fZ w i (λt=>(a:Int)+1<=t/\t<=(p.cL.length:Int) -1)/\∀m j,gK w i m j->m<=i.args.length/\(i.args.length:Int)<=j)
  have u:i.op≠6->0<=i.bW/\i.bW<=p.u:=λJ=>by rcases y.bW with r|r<;>omega
  unfold lG at c
  by_cases d:i.op=0
  ·rw[ao d]at c
   refine ic V (u V) (v V) (by rw[fZ,ao d];exact c.2) (λm j g=>?_)
   rw[gK,ao (Or.inl d)]at g;omega
  rw[ae d]at c
  by_cases h:i.op=1\/i.op=2\/i.op=3\/i.op=4\/i.op=11
  ·rw[ao h]at c
   refine ic V (u V) (v V) ?_ (λm j g=>?_)
   ·rw[fZ,ae d,ae V,ae V,ae V,ae V,ae V,ae V];exact c.2
   ·rw[gK,ae V,ao h]at g;omega
  rw[ae h]at c
  by_cases C:i.op=5\/i.op=14\/i.op=15\/i.op=18\/i.op=23
  ·rw[ao C]at c
   refine ic V (u V) (v V) ?_ (λm j g=>?_)
   ·rw[fZ,ae d,ae V,ae V,ae V,ae V,ae V,ae V];exact c.2
   ·rw[gK,ae V,ae h,ae V,ae V,ae V,ae V]at g;omega
  rw[ae C]at c
  by_cases b:i.op=6
  ·rw[ao b]at c
   refine ic V c.2.2 (v V) ?_ (λm j g=>?_)
   ·rw[fZ,ae d,ao b];exact c.1
   ·rw[gK,ae V,ae h,ao b]at g;omega
  rw[ae b]at c
  by_cases e:i.op=9\/i.op=24
  ·rw[ao e]at c
   obtain⟨s,r,z,x⟩:=c
   have:=ax z
   refine ic V (u V) (v V) ?_ (λm j g=>?_)
   ·rw[fZ,ae d,ae b,ao e];omega
   ·rw[gK,ae V,ae h,ae b,ao e]at g
    obtain⟨L,n,A,o⟩:=g
    rw[z]at n;simp at n;subst n;omega
  rw[ae e]at c
  by_cases f:i.op=10
  ·rw[ao f]at c
   obtain⟨⟨s,r,z,x⟩,n⟩:=c
   have:=ax z
   refine ic V (u V) (v V) ?_ (λm j g=>?_)
   ·rw[fZ,ae d,ae b,ae e,ao f];exact⟨r,s,z,n s z⟩
   ·rw[gK,ae V,ae h,ae b,ae e,ao f]at g
    obtain⟨L,n,A,o⟩:=g
    rw[z]at n;simp at n;subst n;omega
  rw[ae f]at c
  by_cases n:i.op=16\/i.op=17
  ·rw[ao n]at c
   refine ic V (u V) (v V) ?_ (λm j g=>?_)
   ·rw[fZ,ae d,ae b,ae e,ae f,ae V,ae V,ae V];exact c.2
   ·rw[gK,ae V,ae h,ae b,ae e,ae f,ao n]at g;omega
  rw[ae n]at c
  by_cases o:i.op=19
  ·rw[ao o]at c
   refine ic V (u V) (v V) ?_ (λm j g=>?_)
   ·rw[fZ,ae d,ae b,ae e,ae f,ao o];omega
   ·rw[gK,ae V,ae h,ae b,ae e,ae f,ae n]at g;omega
  rw[ae o]at c
  by_cases B:i.op=20
  ·rw[ao B]at c
   refine ic V (u V) (v V) ?_ (λm j g=>?_)
   ·rw[fZ,ae d,ae b,ae e,ae f,ae o,ao (Or.inl B)];exact c.2
   ·rw[gK,ae V,ae h,ae b,ae e,ae f,ae n]at g;omega
  rw[ae B]at c
  by_cases x:i.op=22
  ·rw[ao x]at c
   refine ic V (u V) (v V) ?_ (λm j g=>?_)
   ·rw[fZ,ae d,ae b,ae e,ae f,ae o,ao (Or.inr x)];exact c.2
   ·rw[gK,ao (Or.inr x)]at g;omega
  rw[ae x]at c
  by_cases A:i.op=21
  ·rw[ao A]at c
   refine ic V (u V) c.2.2.2 ?_ (λm j g=>?_)
   ·rw[fZ,ae d,ae b,ae e,ae f,ae o,ae V,ao A]
    have:=c.2.2.1
    exact⟨c.2.1,V⟩
   ·rw[gK,ae V,ae h,ae b,ae e,ae f,ae n]at g;omega
  rw[ae A]at c
  exact c.elim
 ·rintro⟨G,D,E,F,u,c,j⟩
  refine⟨λq g=>by have:=E q g;omega,V,D.2.2.1,D.2.2.2.2.2,F.symm,?_⟩
  unfold lG
  by_cases d:i.op=0
  ·rw[ao d]
   rw[fZ,ao d]at c
   have:=j 0 0 (by rw[gK,ao (Or.inl d)];exact⟨rfl,rfl⟩)
   exact⟨V,c⟩
  rw[ae d]
  by_cases h:i.op=1\/i.op=2\/i.op=3\/i.op=4\/i.op=11
  ·rw[ao h]
   rw[fZ,ae d,ae V,ae V,ae V,ae V,ae V,ae V]at c
   have:=j 2 2 (by rw[gK,ae V,ao h];exact⟨rfl,rfl⟩)
   exact⟨V,c⟩
  rw[ae h]
  by_cases C:i.op=5\/i.op=14\/i.op=15\/i.op=18\/i.op=23
  ·rw[ao C]
   rw[fZ,ae d,ae V,ae V,ae V,ae V,ae V,ae V]at c
   have:=j 1 1 (by rw[gK,ae V,ae h,ae V,ae V,ae V,ae V];exact⟨rfl,rfl⟩)
   exact⟨V,c⟩
  rw[ae C]
  by_cases b:i.op=6
  ·rw[ao b]
   rw[fZ,ae d,ao b]at c
   have:=j _ _ (by rw[gK,ae V,ae h,ao b];exact⟨rfl,rfl⟩)
   exact⟨c,V,V⟩
  rw[ae b]
  by_cases e:i.op=9\/i.op=24
  ·rw[ao e]
   rw[fZ,ae d,ae b,ao e]at c
   obtain⟨s,m⟩:=ag (l:=w.cA) (k:=i.bN.toNat) V
   have:=j _ _ (by rw[gK,ae V,ae h,ae b,ao e];exact⟨s,m,rfl,rfl⟩)
   exact⟨s,c.1,m,V⟩
  rw[ae e]
  by_cases f:i.op=10
  ·rw[ao f]
   rw[fZ,ae d,ae b,ae e,ao f]at c
   obtain⟨r,s,m,z⟩:=c
   have:=j _ _ (by rw[gK,ae V,ae h,ae b,ae e,ao f];exact⟨s,m,rfl,rfl⟩)
   refine⟨⟨s,r,m,V⟩,λL t=>?_⟩
   rw[m]at t;simp at t;subst t;exact z
  rw[ae f]
  by_cases n:i.op=16\/i.op=17
  ·rw[ao n]
   rw[fZ,ae d,ae b,ae e,ae f,ae V,ae V,ae V]at c
   have:=j 1 4 (by rw[gK,ae V,ae h,ae b,ae e,ae f,ao n];exact⟨rfl,rfl⟩)
   exact⟨V,c⟩
  have m:i.op≠22->∀(d:¬i.op=0)(h:¬(i.op=1\/i.op=2\/i.op=3\/i.op=4\/i.op=11))(b:¬i.op=6)(e:¬(i.op=9\/i.op=24))(f:¬i.op=10)(n:¬(i.op=16\/i.op=17)),i.args.length=1:=λr d h b e f n=>by
   have:=j 1 1 (by rw[gK,ae V,ae h,ae b,ae e,ae f,ae n];exact⟨rfl,rfl⟩);omega
  rw[ae n]
  by_cases o:i.op=19
  ·rw[ao o]
   rw[fZ,ae d,ae b,ae e,ae f,ao o]at c
   exact⟨m V d h b e f n,V,V⟩
  rw[ae o]
  by_cases B:i.op=20
  ·rw[ao B]
   rw[fZ,ae d,ae b,ae e,ae f,ae o,ao (Or.inl B)]at c
   exact⟨m V d h b e f n,c⟩
  rw[ae B]
  by_cases x:i.op=22
  ·rw[ao x]
   rw[fZ,ae d,ae b,ae e,ae f,ae o,ao (Or.inr x)]at c
   have:=j 0 0 (by rw[gK,ao (Or.inr x)];exact⟨rfl,rfl⟩)
   exact⟨V,c⟩
  rw[ae x]
  by_cases A:i.op=21
  ·rw[ao A]
   rw[fZ,ae d,ae b,ae e,ae f,ae o,ae V,ao A]at c
   exact⟨m V d h b e f n,c.1,V,u⟩
  rw[ae A]
  omega
end
end Go.Proofs.YtgnjacfobdjeeaaGreat
