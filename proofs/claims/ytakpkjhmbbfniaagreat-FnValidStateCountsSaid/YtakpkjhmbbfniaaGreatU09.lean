/- Part of a proof, joined by a program. -/
import Derived.Test.YtakpkjhmbbfniaaGreatU07
import Derived.Test.YtakpkjhmbbfniaaGreatU08
set_option linter.unusedVariables false
set_option linter.unusedSimpArgs false
set_option linter.defProp false
set_option linter.constructorNameAsVariable false
set_option maxHeartbeats 8000000
set_option maxRecDepth 100000
namespace Go.Proofs.YtakpkjhmbbfniaaGreat
open Go.Vc
section
variable{a b:Nat}{h f:List bL}{e e':Nat->Int}{w:Int}{c d:bL}
def mM:∀(l r:List Int)(a:Nat),dJ (l++r) a=dJ l a+dJ r a
 |[],r,a=>by simp[dJ]
 |w::l,r,a=>by simp only[cN,dJ,mM l r a];omega
def xz:∀(l:List Int)(a:Nat),dJ l.reverse a=dJ l a
 |[],a=>rfl
 |w::l,a=>by simp only[Yl,mM,xz l a,dJ];omega
def gB:∀(l:List Int)(a:Nat),0<=dJ l a
 |[],a=>by simp[dJ]
 |w::l,a=>by have:=gB l a;simp only[dJ];split<;>omega
def mh:∀{l:List Int}{a:Nat},(1000+(a:Int))∉l->dJ l a=0
 |[],a,_=>rfl
 |w::l,a,h=>by
  simp only[aT,tD]at h;simp only[dJ,mh h.2];rw[ae (λe=>h.1 e.symm)];rfl
def qA:∀{l:List Int}{a:Nat},(1000+(a:Int))∈l->1<=dJ l a
 |[],a,h=>by simp at h
 |w::l,a,h=>by
  simp only[dJ];rcases List.mem_cons.1 h with rfl|h
  ·rw[aq rfl];have:=gB l a;omega
  ·have:=qA h;split<;>omega
def LH{l:List Int}(h:0<dJ l a):(1000+(a:Int))∈l:=
 dG λb=>by rw[mh b]at h;omega
def PK(n:Nat)(a:Nat):dJ (fJ n) a=0:=mh λh=>by have:=Sr h;omega
def tT:∀(l:List Int)(a:Nat),dJ (pQ l) a=dJ l a
 |[],a=>rfl
 |w::l,a=>by
  have:=tT l a;simp only[pQ]at this⊢;rw[List.filter_cons];split
  ·simp only[dJ,this]
  ·rename_i h;simp only[dJ,this];rw[ae (λe=>h bF)];omega
def jO:∀(l:List Int)(a:Nat),dJ l a<=l.length
 |[],a=>by simp[dJ]
 |w::l,a=>by have:=jO l a;simp only[dJ,ba];split<;>omega
def sM:∀(h k:List bL)(a:Nat),dw (h++k) a=dw h a+dw k a
 |[],k,a=>by simp[dw]
 |c::h,k,a=>by simp only[cN,dw,sM h k a];omega
def nQ:∀(h:List bL)(a:Nat),0<=dw h a
 |[],a=>by simp[dw]
 |c::h,a=>by have:=nQ h a;have:=gB c.aI a;simp only[dw];omega
def xB:∀{h:List bL}{a:Nat}{c:bL}(e:bL)(_:h[a]? =some c)(b:Nat),dw (h.set a e) b=dw h b -dJ c.aI b+dJ e.aI b
 |[],a,c,e,h,b=>by simp at h
 |d::h,0,c,e,f,b=>by simp at f;subst f;simp only[ig,dw];omega
 |d::h,a+1,c,e,f,b=>by
  have:=xB (h:=h) (a:=a) e (by simpa using f) b;simp only[ic,dw,this];omega
def IY:∀{h:List bL}{a:Nat},0<dw h a->∃c∈h,(1000+(a:Int))∈c.aI
 |[],a,h=>by simp[dw]at h
 |c::h,a,f=>by
  simp only[dw]at f;rcases gE (0<dJ c.aI a)with b|b
  ·exact⟨c,aS,LH b⟩
  ·obtain⟨d,e,g⟩:=IY (h:=h) (a:=a) (by have:=gB c.aI a;omega);exact⟨d,ah _ e,g⟩
def Pb:∀{h:List bL}{c:bL}(_:c∈h)(a:Nat),dJ c.aI a<=dw h a
 |[],c,b,a=>by simp at b
 |d::h,c,b,a=>by
  simp only[dw];rcases List.mem_cons.1 b with rfl|b
  ·have:=nQ h a;omega
  ·have:=Pb b a;have:=gB d.aI a;omega
structure mB(h:List bL)(c:bL):Prop where
 fl:c.aI.length<=3
 lo: -1<=c.aQ
 hi:c.aQ<=999999
 uH:c.aQ<1->c.lA=0/\(∀w∈c.aI,w=0)/\(c.aQ=0->c.aI=[])
 ov:0<c.aQ->(∀w∈c.aI,oK h w)/\0<=c.lA/\c.lA<=99
def P3(h:List bL):Prop:=∃a:Nat->Nat,∀(i:Nat)(c:bL),h[i]? =some c->∀w∈c.aI,1000<=w->a (ix w)<a i
structure fq(h:List bL)(e:Nat->Int):Prop where
 cell:∀c∈h,mB h c
 JK:P3 h
 ex:∀(a:Nat)(c:bL),h[a]? =some c->0<c.aQ->c.aQ=dw h a+e a
 nn:∀a,0<=e a
 lv:∀a,0<e a->jB h a
def fq.congr(c:fq h e)(a:∀b,e' b=e b):fq h e':=by
 have:e'=e:=funext a;rw[this];exact c
def jZ(a:Nat):ix (1000+(a:Int))=a:=by unfold ix;omega
def gC(h:1000<=w):1000+((ix w:Nat):Int)=w:=by unfold ix;omega
def Oa{v:Int}(a:1000<=v)(b:1000<=w)(h:ix v=ix w):v=w:=by rw[<-gC a,<-gC b,h]
def fq.field(i:fq h e)(g:c∈h)(f:w∈c.aI)(j:1000<=w):iX h w:=by
 have d:=i.cell c g;rcases gE (0<c.aQ)with b|b
 ·rcases(d.ov b).1 w f with a|a
  ·have:=a.2;omega
  ·exact a
 ·have:=(d.uH V).2.1 w f;omega
def fq.QS(f:fq h e)(g:¬jB h a):dw h a=0:=by
 rcases gE (0<dw h a)with b|b
 ·obtain⟨c,d,i⟩:=IY b;have:=(f.field d i V).2;rw[jZ]at this;exact absurd this g
 ·have:=nQ h a;omega
def fq.SZ(b:fq h e)(d:¬jB h a):e a=0:=by
 have:=b.nn a;rcases gE (0<e a)with c|c
 ·exact absurd (b.lv a c) d
 ·omega
def fY(d:b≠a):(h.set a c)[b]? =h[b]? :=by rw[dO (λe=>d e.symm)]
def eE(b:h[a]? =some d):(h.set a c)[a]? =some c:=by
 rw[dC (ax b)]
def jB.ne(d:b≠a):jB (h.set a c) b<->jB h b:=by unfold jB;rw[fY d]
def jB.Dt(b:h[a]? =some d):jB (h.set a c) a<->0<c.aQ:=by
 unfold jB;rw[eE b];simp
def oK.mono(c:oK h w)(b:1000<=w->jB h (ix w)->jB f (ix w)):oK f w:=by
 rcases c with a|a
 ·exact Or.inl a
 ·exact Or.inr ⟨a.1,b a.1 a.2⟩
def mB.mono{h f:List bL}{c:bL}(a:mB h c)(e:0<c.aQ->∀w∈c.aI,1000<=w->jB h (ix w)->jB f (ix w)):mB f c:=
 ⟨a.fl,a.lo,a.hi,a.uH,λb=>⟨λw d=>((a.ov b).1 w d).mono (e b w d),(a.ov b).2⟩⟩
def o8{x:bL}(i:x∈h.set a c):x=c\/∃b,b≠a/\h[b]? =some x:=by
 obtain⟨b,f⟩:=List.mem_iff_getElem?.1 i;by_cases e:b=a
 ·subst e;rw[List.getElem?_set_self']at f;cases g:h[b]? with
  |none=>simp[g]at f
  |some d=>simp[g]at f;exact Or.inl f.symm
 ·rw[fY e]at f;exact Or.inr ⟨b,e,f⟩
def fq.HK(k:fq h e)(i:h[a]? =some c)(j:0<c.aQ){n:Int}(x:0<n)(v:n<=999999)
 (o:∀b,e' b=e b+if b=a then n -c.aQ else 0)(t:0<=e' a):fq (h.set a {c with aQ:=n}) e':=by
 have q:∀b,jB (h.set a {c with aQ:=n}) b<->jB h b:=λb=>by
  by_cases f:b=a
  ·subst f;rw[jB.Dt i];exact⟨λ_=>⟨c,i,j⟩,λ_=>x⟩
  ·exact jB.ne f
 have y:∀b,dw (h.set a {c with aQ:=n}) b=dw h b:=λb=>by rw[xB _ i];simp only[];omega
 refine⟨λB z=>?_,?_,λb d g u=>?_,λb=>?_,λb m=>?_⟩
 ·rcases o8 z with rfl|⟨b,_,m⟩
  ·have r:=k.cell c (ar i)
   exact⟨r.fl,by simp only[];omega,v,λs=>by simp only[]at s;omega,λ_=>⟨λw l=>((r.ov j).1 w l).mono λ_ p=>(q _).2 p,(r.ov j).2⟩⟩
  ·exact(k.cell B (ar m)).mono λ_ w _ _ p=>(q _).2 p
 ·obtain⟨A,s⟩:=k.JK
  refine⟨A,λp d g w l j=>?_⟩
  by_cases r:p=a
  ·subst r;rw[eE i]at g;simp at g;subst g;exact s p c i w l j
  ·rw[fY r]at g;exact s p d g w l j
 ·rw[y,o]
  by_cases f:b=a
  ·subst f;rw[eE i]at g;simp at g;subst g
   have:=k.ex b c i j
   simp only[aq];omega
  ·rw[fY f]at g
   have:=k.ex b d g u
   rw[ae f];omega
 ·by_cases f:b=a
  ·subst f;exact t
  ·rw[o,ae f];have:=k.nn b;omega
 ·rw[q]
  by_cases f:b=a
  ·subst f;exact⟨c,i,j⟩
  ·rw[o,ae f]at m;exact k.lv b V
def fq.N9(j:fq h e)(m:h[a]? =some c)(I:c.aQ=1)(J:0<e a){c':bL}(C: -1<=c'.aQ)(L:c'.aQ<1)(G:c'.lA=0)
 (r:∀w∈c'.aI,w=0)(B:c'.aI.length<=3)(A:c'.aQ=0->c'.aI=[])
 (p:∀b,e' b=e b -(if b=a then 1 else 0)+dJ c.aI b):fq (h.set a c') e':=by
 have o:=j.ex a c m V
 have O:=nQ h a
 have N:dw h a=0:=V
 have K:e a=1:=V
 have u:∀x∈h,(1000+(a:Int))∉x.aI:=λx o f=>by
  have:=Pb o a;have:=qA f;omega
 have M:dJ c.aI a=0:=mh (u c (ar m))
 have E:∀b,dJ c'.aI b=0:=λb=>mh λf=>by have:=r _ f;omega
 have t:∀b,b≠a->jB h b->jB (h.set a c') b:=λb g q=>(jB.ne g).2 q
 have D:∀x∈h,∀w∈x.aI,1000<=w->ix w≠a:=λx o w f n y=>by
  have:=gC n;rw[y]at this;rw[<-this]at f;exact u x o f
 refine⟨λx o=>?_,?_,λb d i z=>?_,λb=>?_,λb k=>?_⟩
 ·rcases o8 o with rfl|⟨b,_,k⟩
  ·exact⟨B,C,V,λ_=>⟨G,r,A⟩,λn=>V⟩
  ·exact(j.cell x (ar k)).mono λ_ w f n q=>t _ (D x (ar k) w f n) q
 ·obtain⟨H,F⟩:=j.JK
  refine⟨H,λv d i w f n=>?_⟩
  by_cases s:v=a
  ·subst s;rw[eE m]at i;simp at i;subst i;have:=r w f;omega
  ·rw[fY s]at i;exact F v d i w f n
 ·rw[xB _ m,E,p]
  by_cases g:b=a
  ·subst g;rw[eE m]at i;simp at i;subst i;omega
  ·rw[fY g]at i
   have:=j.ex b d i z
   rw[ae g];omega
 ·rw[p]
  have:=j.nn b
  have:=gB c.aI b
  split
  ·rename_i g;subst g;omega
  ·omega
 ·rw[p]at k
  by_cases g:b=a
  ·subst g;rw[aq rfl]at k;omega
  ·rw[ae g]at k
   refine t b g ?_
   rcases gE (0<e b)with s|s
   ·exact j.lv b s
   ·have:=j.nn b
    have f:=LH (l:=c.aI) (a:=b) V
    have:=(j.field (ar m) f V).2
    rwa[jZ]at this
def fq.make(m:fq h e){x:Int}{i:List Int}(s:¬jB h a)(q:f[a]? =some ⟨1,x,i⟩)(p:∀b,b≠a->f[b]? =h[b]?)
 (G:∀b,dw f b=dw h b+dJ i b)(A:∀w∈i,oK h w)(D:i.length<=3)(I:0<=x/\x<=99)(y:∀b,dJ i b<=e b)
 (u:∀b,e' b=e b -dJ i b+if b=a then 1 else 0):fq f e':=by
 have v:∀b,jB h b->jB f b:=λb j=>by
  by_cases g:b=a
  ·subst g;exact absurd j s
  ·unfold jB;rw[p b g];exact j
 have N:=m.SZ s
 have P:=m.QS s
 have O:dJ i a=0:=by have:=gB i a;have:=y a;omega
 refine⟨λM K=>?_,?_,λb d c C=>?_,λb=>?_,λb k=>?_⟩
 ·obtain⟨b,k⟩:=List.mem_iff_getElem?.1 K
  by_cases g:b=a
  ·subst g;rw[q]at k;simp at k;subst k
   exact⟨D,E,E,λl=>by simp at l,λ_=>⟨λw o=>(A w o).mono λ_ j=>v _ j,I⟩⟩
  ·rw[p b g]at k
   exact(m.cell M (ar k)).mono λ_ w _ _ j=>v _ j
 ·obtain⟨t,H⟩:=m.JK
  refine⟨λl=>if l=a then(i.map λw=>t (ix w)).sum+1 else t l,λl d c w o z=>?_⟩
  have J:ix w≠a:=λB=>by
   have F:iX h w:=by
    by_cases n:l=a
    ·subst n;rw[q]at c;simp at c;subst c;rcases A w o with r|r
     ·have:=r.2;omega
     ·exact r
    ·rw[p l n]at c;exact m.field (ar c) o z
   exact s (B▸F.2)
  simp only[ae J]
  by_cases n:l=a
  ·subst n;rw[q]at c;simp at c;subst c
   rw[aq rfl]
   have:∀(r:List Int),w∈r->t (ix w)<=(r.map λw=>t (ix w)).sum:=by
    intro r j;induction r with
    |nil=>simp at j
    |cons Q r L=>
     simp only[cb,List.sum_cons];rcases List.mem_cons.1 j with rfl|j
     ·omega
     ·have:=L j;omega
   have:=this i o;omega
  ·rw[ae n];rw[p l n]at c;exact H l d c w o z
 ·rw[G,u]
  by_cases g:b=a
  ·subst g;rw[q]at c;simp at c;subst c
   rw[aq rfl];simp only[];omega
  ·rw[p b g]at c
   have:=m.ex b d c C
   rw[ae g];omega
 ·rw[u];have:=y b;split<;>omega
 ·rw[u]at k
  by_cases g:b=a
  ·subst g;exact⟨_,q,E⟩
  ·rw[ae g]at k
   exact v b (m.lv b (by have:=gB i b;omega))
def fq.iA:∀(n:Nat)(h:List bL)(o:List Int)(e:Nat->Int),GH h+o.length<=n->fq h (λb=>e b+dJ o b)->(∀b,0<=e b)->fq (iA h o) e
 |n,h,[],e,_,a,_=>by rw[zd];exact a.congr λb=>by simp[dJ]
 |n,h,w::r,e,f,a,d=>by
  rcases gE (iX h w)with c|c
  ·obtain⟨g,m⟩:=cq c;have s:=gC c.1;have l:∀b,dJ (w::r) b=(if b=ix w then 1 else 0)+dJ r b:=λb=>by
    simp only[dJ];congr 1;by_cases k:b=ix w
    ·subst k;rw[aq s.symm,aq rfl]
    ·rw[ae k,ae (λi=>k (by rw[i,jZ]))]
   have p:=lE (d:=jz) g;by_cases j:(aW h w).aQ=1
   ·rw[ze c j];simp only[aq m,jz]at p;simp at p;cases n with
    |zero=>simp at f
    |succ n=>
    refine fq.iA n _ _ e ?_ (fq.N9 a g j ?_ bd bd rfl (by simp[jz]) (by simp[jz]) (λ_=>rfl) λb=>?_) d
    ·simp[jz]at f⊢;omega
    ·simp only[l,aq];have:=d (ix w);have:=gB r (ix w);omega
    ·simp only[l,mM,xz];omega
   ·rw[uI c j];have q:=lE (d:={aW h w with aQ:=(aW h w).aQ -1}) g;simp only[aq m]at q;rw[aq V]at q;have t:=(a.cell _ (ar g)).hi;cases n with
    |zero=>simp at f
    |succ n=>
    refine fq.iA n _ _ e ?_ (fq.HK a g m V V (λb=>?_) ?_) d
    ·simp only[ba]at f;simp only[fI];omega
    ·simp only[l];split<;>omega
    ·have:=d (ix w);have:=gB r (ix w);omega
  ·rw[uJ c];cases n with
   |zero=>simp at f
   |succ n=>
   refine fq.iA n _ _ e (by simp at f;omega) (a.congr λb=>?_) d;simp only[dJ];rw[ae]
   ·omega
   ·intro i;have:=a.lv b (by simp only[dJ,aq i];have:=d b;have:=gB r b;omega);exact c ⟨V,by rw[i,jZ];exact this⟩
def rQ(h:List bL):∀n,jT h n<=n
 |0=>ad _
 |n+1=>by
  simp only[jT];have:=rQ h n;split
  ·split<;>omega
  ·omega
def rP(h:List bL):∀(n k:Nat)(c:bL),jT h n<=k->k<n->h[k]? =some c->c.aQ=0
 |0,k,c,_,d,_=>V
 |n+1,k,c,a,e,b=>by
  simp only[jT]at a;by_cases d:k=n
  ·subst d;rw[b]at a;simp only[]at a;split at a
   ·assumption
   ·omega
  ·split at a
   ·split at a
    ·exact rP h n k c a V b
    ·omega
   ·exact rP h n k c a V b
def JC(h:List bL):∀(n:Nat)(c:bL),n<=h.length->h[jT h n -1]? =some c->0<jT h n->c.aQ≠0
 |0,c,_,_,b=>by simp[jT]at b
 |n+1,c,g,a,b=>by
  simp only[jT]at a b;obtain⟨d,f⟩:=ag (l:=h) (k:=n) V;rw[f]at a b;simp only[]at a b;split at a
  ·rename_i e;rw[aq e]at b;exact JC h n c V a b
  ·rename_i e;simp at a;rw[f]at a;simp at a;subst a;exact e
def mr(h:List bL):Prop:=∀c,h[h.length -1]? =some c->c.aQ≠0
def Ek(h:List bL):mr (pY h):=by
 intro c a;have d:=rQ h h.length;unfold pY at a;rw[cZ,iO d]at a;rcases jm (jT h h.length)with b|b
 ·rw[b]at a;simp at a
 ·rw[di V]at a;exact JC h _ c (ad _) a b
def KO:∀{h:List bL},(∀c∈h,c.aI=[])->∀a,dw h a=0
 |[],_,a=>rfl
 |c::h,b,a=>by simp only[dw,b c aS,dJ,KO (λd e=>b d (ah _ e)) a];rfl
def fq.pY{h:List bL}{e:Nat->Int}(f:fq h e):fq (pY h) e:=by
 have u:=rQ h h.length;have q:∀(b:Nat)(c:bL),h[b]? =some c->c.aQ≠0->b<jT h h.length:=λb c d i=>
  dG λv=>i (rP h h.length b c V (ax d) d)
 have k:∀(b:Nat)(c:bL),(Go.Proofs.YtakpkjhmbbfniaaGreat.pY h)[b]? =some c->h[b]? =some c:=λb c d=>by
  unfold Go.Proofs.YtakpkjhmbbfniaaGreat.pY at d;have:=ax d;rw[cZ]at this;rwa[di V]at d
 have l:∀b,jB h b->jB (Go.Proofs.YtakpkjhmbbfniaaGreat.pY h) b:=λb⟨c,d,j⟩=>⟨c,by
  unfold Go.Proofs.YtakpkjhmbbfniaaGreat.pY;rw[di (q b c d V)];exact d,j⟩
 have s:∀b,dw (Go.Proofs.YtakpkjhmbbfniaaGreat.pY h) b=dw h b:=λb=>by
  have m:h=Go.Proofs.YtakpkjhmbbfniaaGreat.pY h++h.drop (jT h h.length):=(df _ _).symm;have n:dw (h.drop (jT h h.length)) b=0:=KO (λc d=>by
   obtain⟨o,g⟩:=List.mem_iff_getElem?.1 d;rw[pZ]at g;have i:=rP h h.length _ c V (ax g) g;exact((f.cell c (ar g)).uH V).2.2 i) b
  have o:=rT (λg=>dw g b) m;simp only[sM,n]at o;omega
 refine⟨λc d=>?_,?_,λa c d j=>?_,f.nn,λa p=>l a (f.lv a p)⟩
 ·obtain⟨b,g⟩:=List.mem_iff_getElem?.1 d;exact(f.cell c (ar (k b c g))).mono λ_ w _ _ r=>l _ r
 ·obtain⟨t,r⟩:=f.JK;exact⟨t,λg c d=>r g c (k g c d)⟩
 ·rw[s];exact f.ex a c (k a c d) j
end
section
variable{l av aV:List Int}{i x r:Int}{b:cL}{f:a9}{s:St}
def qR(b:0<=i)(c:i<l.length):l[i.toNat]? =some (u l i):=by
 obtain⟨x,a⟩:=ag (l:=l) (k:=i.toNat) V;simp[u,a]
def Lm(h:l[i.toNat]? =some x):u l i=x:=by simp[u,h]
def il(a:0<=i)(b:i<l.length):u l i∈l:=jx (qR a b)
def jK(l:List Int)(i v:Int):(gU l i v).length=l.length:=by simp[gU]
def rc{v:Int}(h:x∈gU l i v):x=v\/x∈l:=by
 rcases cx h with h|h
 ·exact Or.inr h
 ·exact Or.inl h
def Dw(l:List Int)(i v:Int)(k:Nat):(gU l i v)[k]? =if k=i.toNat/\k<l.length then some v else l[k]? :=by
 unfold gU;by_cases h:k=i.toNat
 ·subst h;by_cases a:i.toNat<l.length
  ·rw[dC a,aq ⟨rfl,a⟩]
  ·rw[ae V,CE V]
 ·rw[ae V,dO (λe=>h e.symm)]
def EU:∀(av aV:List Int)(k:Nat)(w o e d:Int)(a:Nat),av[k]? =some e->aV[k]? =some d->
 cz (av.set k w) (aV.set k o) a=cz av aV a -(if e=1000+(a:Int)then d else 0)+(if w=1000+(a:Int)then o else 0)
 |[],aV,k,w,o,e,d,a,b,c=>by simp at b
 |r::f,[],k,w,o,e,d,a,b,c=>by simp at c
 |r::f,q::g,0,w,o,e,d,a,b,c=>by
  simp at b c;subst b;subst c;simp only[ig,cz];omega
 |r::f,q::g,k+1,w,o,e,d,a,b,c=>by
  have:=EU f g k w o e d a (by simpa using b) (by simpa using c);simp only[ic,cz,this];omega
def Q3{k:Nat}(h:l[k]? =some x):l.set k x=l:=by
 apply fK;intro i;by_cases a:k=i
 ·subst a;rw[dC (ax h),h]
 ·rw[dO a]
def ET(c:0<=r)(d:r<av.length)(e:r<aV.length)(o:Int)(a:Nat):
 cz av (gU aV r o) a=cz av aV a+(if u av r=1000+(a:Int)then o -u aV r else 0):=by
 have b:=qR c d
 have:=EU av aV r.toNat (u av r) o _ _ a b (qR c e)
 rw[Q3 b]at this
 rw[gU,this];split<;>omega
def KJ(b:0<=r)(c:r<av.length)(d:r<aV.length)(e:u aV r=0)(w o:Int)(a:Nat):
 cz (gU av r w) (gU aV r o) a=cz av aV a+(if w=1000+(a:Int)then o else 0):=by
 have:=EU av aV r.toNat w o _ _ a (qR b c) (qR b d)
 rw[gU,gU,this,e];split<;>omega
def nO:∀{av aV:List Int},(∀o∈aV,0<=o)->∀a,0<=cz av aV a
 |[],aV,h,a=>by cases aV<;>simp[cz]
 |r::b,[],h,a=>by simp[cz]
 |r::b,o::d,h,a=>by
  have:=nO (av:=b) (aV:=d) (λx c=>h x (ah _ c)) a;have:=h o aS;simp only[cz];split<;>omega
def rm:∀{av aV:List Int},Rw aV->∀a,cz av aV a=0
 |[],aV,h,a=>by cases aV<;>simp[cz]
 |r::b,[],h,a=>by simp[cz]
 |r::b,o::d,h,a=>by
  have:=rm (av:=b) (aV:=d) (λx c=>h x (ah _ c)) a;have:=h o aS;simp only[cz,this];split<;>omega
def Dm:∀{e d:List Int}(c b:List Int),e.length=d.length->∀a,cz (e++c) (d++b) a=cz e d a+cz c b a
 |[],[],c,b,_,a=>by simp[cz]
 |[],_::_,_,_,h,_=>by simp at h
 |_::_,[],_,_,h,_=>by simp at h
 |r::g,o::f,c,b,h,a=>by
  have:=Dm (e:=g) (d:=f) c b (by simpa using h) a;simp only[cN,cz,this];omega
def IP:∀{av aV:List Int}{e:Nat}{w o:Int}(_:∀o∈aV,0<=o)(_:av[e]? =some w)(_:aV[e]? =some o){c:Nat}(_:w=1000+(c:Int)),o<=cz av aV c
 |[],_,_,_,_,_,a,_,_,_=>by simp at a
 |_::_,[],_,_,_,_,_,b,_,_=>by simp at b
 |r::i,q::h,0,w,o,d,a,b,c,f=>by
  simp at a b;subst a;subst b;have:=nO (av:=i) (aV:=h) (λx g=>d x (ah _ g)) c;simp only[cz,aq f];omega
 |r::i,q::h,e+1,w,o,d,a,b,c,f=>by
  have:=IP (av:=i) (aV:=h) (e:=e) (λx g=>d x (ah _ g)) (by simpa using a) (by simpa using b) f;have:=d q aS;simp only[cz];split<;>omega
def eW:∀(l r:List a9)(a:Nat),eu (l++r) a=eu l a+eu r a
 |[],r,a=>by simp[eu]
 |f::l,r,a=>by simp only[cN,eu,eW l r a];omega
def jI(f:a9)(a:Nat):eu [f] a=cz f.av f.aV a:=by simp[eu]
def dH:∀(l r:List a9)(a:Nat),holds (l++r) a=holds l a+holds r a
 |[],r,a=>by simp[holds]
 |f::l,r,a=>by simp only[cN,holds,dH l r a];omega
def gT(f:a9)(a:Nat):holds [f] a=dJ f.be a:=by simp[holds]
def tK:∀(l:List a9)(a:Nat),0<=holds l a
 |[],a=>by simp[holds]
 |f::l,a=>by have:=tK l a;have:=gB f.be a;simp only[holds];omega
def pI(av:List Int):∀(a aV:List Int),(dz av aV a).length=aV.length
 |[],aV=>rfl
 |r::a,aV=>by simp only[dz];rw[pI av a];split<;>simp[jK]
def vx{av:List Int}:∀(b aV:List Int),(∀r∈b,0<=r/\r<av.length)->av.length=aV.length->∀a,cz av (dz av aV b) a=cz av aV a -dJ (b.map (u av)) a
 |[],aV,_,_,a=>by simp[dz,dJ]
 |r::b,aV,h,c,a=>by
  have e:=h r aS;have f:=λaV c=>vx (av:=av) b aV (λx d=>h x (ah _ d)) c a;simp only[dz,cb,dJ];by_cases d:1000<=u av r
  ·rw[aq d,f _ (by rw[jK];exact c),ET e.1 e.2 V];split<;>omega
  ·rw[ae d,f _ c,ae V];omega
def rL{av:List Int}:∀(b aV:List Int)(k:Nat)(o:Int),(dz av aV b)[k]? =some o->∃q,aV[k]? =some q/\o<=q
 |[],aV,k,o,h=>⟨o,h,dY _⟩
 |r::b,aV,k,o,h=>by
  simp only[dz]at h;obtain⟨q,a,d⟩:=rL b _ k o h;split at a
  ·rw[Dw]at a;split at a
   ·rename_i c;obtain⟨y,e⟩:=ag c.2;have f:u aV r=y:=by rw[u,iH,<-c.1,e];rfl
    simp at a;exact⟨y,e,V⟩
   ·exact⟨q,a,d⟩
  ·exact⟨q,a,d⟩
def sG:∀(a aV:List Int),(eM aV a).length=aV.length
 |[],aV=>rfl
 |r::a,aV=>by simp only[eM];rw[sG a,jK]
def CP{av:List Int}:∀(b aV:List Int),(∀r∈b,0<=r/\r<av.length)->av.length=aV.length->∀a,cz av (eM aV b) a=cz av aV a+dJ (b.map (u av)) a
 |[],aV,_,_,a=>by simp[eM,dJ]
 |r::b,aV,h,d,a=>by
  have c:=h r aS;simp only[eM,cb,dJ];rw[CP (av:=av) b _ (λx e=>h x (ah _ e)) (by rw[jK];exact d) a,ET c.1 c.2 V];split<;>omega
def H4{av:List Int}:∀(c aV:List Int),(∀r∈c,0<=r/\r<aV.length/\1000<=u av r)->
 (∀(k:Nat)(o w:Int),aV[k]? =some o->av[k]? =some w->0<=o/\(0<o->1000<=w))->∀(k:Nat)(o w:Int),(eM aV c)[k]? =some o->av[k]? =some w->0<=o/\(0<o->1000<=w)
 |[],aV,_,h,k,o,w,a,b=>h k o w a b
 |r::c,aV,f,h,k,o,w,a,b=>by
  refine H4 (av:=av) c (gU aV r (u aV r+1)) (λx d=>by rw[jK];exact f x (ah _ d)) (λk o w a b=>?_) k o w a b;rw[Dw]at a;split at a
  ·rename_i e;have d:=f r aS;have g:u av r=w:=by rw[u,iH,<-e.1,b];rfl
   have i:=h k (u aV r) w (by rw[e.1];exact qR d.1 d.2.1) b;simp at a;exact⟨V,λ_=>V⟩
  ·exact h k o w a b
def eR(h:List bL)(a:Nat):Prop:=∃c,h[a]? =some c/\c.aQ<0
structure fO(b:cL)(f:a9):Prop where
 eU:0<=f.eU/\f.eU<b.cB.length
 pc:0<=f.pc/\f.pc<(dF b f.eU).cG.length
 lr:(f.av.length:Int)=(dF b f.eU).av
 lo:(f.aV.length:Int)=(dF b f.eU).av
 lh:(f.be.length:Int)=(dF b f.eU).av
 Oj:∀w∈f.av,gF w\/1000<=w
 aV:∀(k:Nat)(o w:Int),f.aV[k]? =some o->f.av[k]? =some w->0<=o/\(0<o->1000<=w)
 be:∀w∈f.be,w=0\/1000<=w
structure cA(b:cL)(s:St):Prop where
 fP:lO b
 cR:0<=s.cR/\s.cR<=3
 done:s.cR=0<->s.ak=[]
 value:gF s.value
 rR:s.value≠0->s.cR=0
 dQ:0<=s.dQ/\s.dQ<=40
 bG:0<=s.bG/\s.bG<=s.dQ
 ln:(s.ak.length:Int)<=s.bG+1
 bq:∀n∈s.bq,gF n
 heap:fq s.heap (eu s.ak)
 iy:mr s.heap
 ak:∀f∈s.ak,fO b f
 first:∀f,s.ak[0]? =some f->f.dst=0
 chain:∀(k:Nat)(f g:a9),s.ak[k]? =some f->s.ak[k+1]? =some g->0<=g.dst/\g.dst<f.aV.length/\u f.aV g.dst=0
 ju:∀a,eR s.heap a->holds s.ak a=1
 kJ:∀a,¬eR s.heap a->holds s.ak a=0
def fO.IN(h:fO b f):∀o∈f.aV,0<=o:=λo d=>by
 obtain⟨c,a⟩:=List.mem_iff_getElem?.1 d;have g:=ax a;have:=h.lo;have:=h.lr;obtain⟨w,e⟩:=ag (l:=f.av) (k:=c) V;exact(h.aV c o w a e).1
def Dp{b:cL}:∀{c:List a9},(∀f∈c,fO b f)->∀a,0<=eu c a
 |[],_,a=>by simp[eu]
 |f::c,h,a=>by
  have:=Dp (λg d=>h g (ah _ d)) a;have:=nO (av:=f.av) (h f aS).IN a;simp only[eu];omega
def cA.split(h:cA b s)(c:s.cR=3):∃a f,s.ak=a++[f]:=by
 have:s.ak≠[]:=λe=>by have:=h.done.2 e;omega
 exact⟨s.ak.dropLast,s.ak.getLast this,(gW this).symm⟩
def fO.IB(j:lO b)(h:fO b f):∃p,b.cB[f.eU.toNat]? =some p/\dF b f.eU=p/\EA b p/\p.cG[f.pc.toNat]? =some (fg b f)/\gJ b p f.pc.toNat (fg b f):=by
 obtain⟨p,c⟩:=ag (l:=b.cB) (k:=f.eU.toNat) (by have:=h.eU;omega);have e:dF b f.eU=p:=by simp[dF,c]
 have g:=j.dh p (ar c);have m:=h.pc;rw[e]at m;obtain⟨i,a⟩:=ag (l:=p.cG) (k:=f.pc.toNat) V;have d:fg b f=i:=by simp[fg,e,a]
 exact⟨p,c,e,g,d▸a,d▸g.dh _ _ a⟩
def cA.ib(h:cA b s)(A:s.cR=3){d:List a9}{g:a9}(j:s.ak=d++[f]){c:List bL}{bq:List Int}(o:fO b g)(hd:g.dst=f.dst)
 (r:fq c (eu (d++[g])))(w:mr c)(t:∀a,eR c a->holds (d++[g]) a=1)(x:∀a,¬eR c a->holds (d++[g]) a=0)(v:∀n∈bq,gF n){bG:Int}(n:s.bG<=bG/\bG<=s.dQ):
 cA b {s with heap:=c,bq:=bq,bG:=bG,ak:=d++[g]}:=by
 have z:=h.bG
 have m:=h.ln
 rw[j]at m
 refine⟨h.fP,h.cR,⟨λe=>by simp at e;omega,λe=>by simp at e⟩,h.value,h.rR,h.dQ,⟨by simp only[];omega,n.2⟩,by simp at m⊢;omega,v,r,w,λq a=>?_,λq a=>?_,λl p q c a=>?_,t,x⟩
 ·rcases List.mem_append.1 a with a|a
  ·exact h.ak q (by rw[j];exact bH _ a)
  ·simp at a;subst a;exact o
 ·have i:=h.first
  rw[j]at i
  cases d with
  |nil=>simp at a;subst a;rw[hd];exact i f E
  |cons y k=>simp at a;subst a;exact i y E
 ·have k:=h.chain l
  rw[j]at k
  simp only[]at c a
  have u:=ax a
  simp at u
  rw[aw V]at c
  rcases aX (l+1) d.length with i|i
  ·rw[aw i]at a
   exact k p q (by rw[aw V];exact c) (by rw[aw i];exact a)
  ·rw[aF i]at a
   have e:l+1 -d.length=0:=V
   rw[e]at a;simp at a;subst a
   rw[hd]
   exact k p f (by rw[aw V];exact c) (by rw[aF i,e];rfl)
end
section
variable{h:List bL}{a:Nat}{c d:bL}{w:Int}{e e':Nat->Int}
def eR.ne{b:Nat}(d:b≠a):eR (h.set a c) b<->eR h b:=by unfold eR;rw[fY d]
def eR.Dt(b:h[a]? =some d):eR (h.set a c) a<->c.aQ<0:=by unfold eR;rw[eE b];simp
def eR.set(i:h[a]? =some d)(j:0<=d.aQ)(k:0<=c.aQ)(b:Nat):eR (h.set a c) b<->eR h b:=by
 by_cases g:b=a
 ·subst g;rw[eR.Dt i];refine⟨λl=>V,λ⟨e,f,m⟩=>?_⟩;rw[i]at f;simp at f;subst f;omega
 ·exact eR.ne g
def eR.Q8(f:eR h a):¬jB h a:=λ⟨c,e,i⟩=>by
 obtain⟨d,b,g⟩:=f;rw[e]at b;simp at b;subst b;omega
def eR.fI(c:iX h w)(b:Nat):eR (fI h w) b<->eR h b:=by
 obtain⟨a,d⟩:=cq c;exact eR.set a V (by simp only[];omega) b
def eR.nE(c:iX h w)(b:Nat):eR (nE h w) b<->eR h b:=by
 obtain⟨a,d⟩:=cq c;exact eR.set a V (by simp only[];omega) b
def eR.N9(c:iX h w)(b:Nat):eR (h.set (ix w) jz) b<->eR h b:=by
 obtain⟨a,d⟩:=cq c;exact eR.set a V (by simp[jz]) b
def eR.iA:∀(n:Nat)(h:List bL)(i:List Int),GH h+i.length<=n->∀b,eR (iA h i) b<->eR h b
 |n,h,[],_,b=>by rw[zd]
 |0,h,w::r,c,b=>by simp at c
 |n+1,h,w::r,c,b=>by
  simp only[ba]at c;rcases gE (iX h w)with a|a
  ·obtain⟨f,g⟩:=cq a;by_cases d:(aW h w).aQ=1
   ·have e:=lE (d:=jz) f;simp only[aq g,jz]at e;simp at e;rw[ze a d,eR.iA n _ _ (by simp[jz];omega) b,eR.N9 a]
   ·have e:=lE (d:={aW h w with aQ:=(aW h w).aQ -1}) f;simp only[aq g]at e;rw[aq V]at e;rw[uI a d,eR.iA n _ _ (by simp only[Go.Proofs.YtakpkjhmbbfniaaGreat.fI];omega) b,eR.fI a]
  ·rw[uJ a,eR.iA n _ _ V b]
def eR.pY{h:List bL}(b:Nat):eR (pY h) b<->eR h b:=by
 have f:=rQ h h.length;unfold eR Go.Proofs.YtakpkjhmbbfniaaGreat.pY;constructor
 ·rintro⟨c,a,d⟩;have:=ax a;rw[cZ]at this;rw[di V]at a;exact⟨c,a,d⟩
 ·rintro⟨c,a,d⟩;refine⟨c,?_,d⟩;rw[di]
  ·exact a
  ·exact dG λe=>by have:=rP h h.length b c V (ax a) a;omega
def fq.nE(c:fq h e)(f:iX h w)(i:(aW h w).aQ<999999)(a:∀b,e' b=e b+if b=ix w then 1 else 0):fq (nE h w) e':=by
 obtain⟨d,g⟩:=cq f;refine c.HK d g V V (λb=>?_) ?_
 ·rw[a];split<;>omega
 ·rw[a];have:=c.nn (ix w);split<;>omega
def MF(a:iX h w){v:Int}(d:1000<=v):(aW (nE h w) v).aQ=(aW h v).aQ+(if v=w then 1 else 0):=by
 obtain⟨c,f⟩:=cq a;unfold nE;by_cases e:v=w
 ·subst e;rw[aq rfl];conv=>lhs;unfold aW
  rw[eE c];rfl
 ·rw[ae e];conv=>lhs;unfold aW
  rw[fY (λb=>e (Oa d a.1 b))];simp[aW]
def jB.nE{h:List bL}{w:Int}(a:iX h w)(b:Nat):jB (nE h w) b<->jB h b:=by
 obtain⟨c,d⟩:=cq a;by_cases e:b=ix w
 ·subst e;unfold Go.Proofs.YtakpkjhmbbfniaaGreat.nE;rw[jB.Dt c];exact⟨λ_=>a.2,λ_=>by simp only[];omega⟩
 ·exact jB.ne e
def gN(d:1000<=w)(r:List Int)(b:Nat):dJ (w::r) b=(if b=ix w then 1 else 0)+dJ r b:=by
 simp only[dJ];congr 1;have e:=gC d;by_cases a:b=ix w
 ·subst a;rw[aq e.symm,aq rfl]
 ·rw[ae a,ae (λc=>a (by rw[c,jZ]))]
def fq.j8:∀(a:List Int)(h:List bL)(e e':Nat->Int),fq h e->(∀w∈a,iX h w/\(aW h w).aQ+dJ a (ix w)<=999999)->(∀b,e' b=e b+dJ a b)->fq (j8 h a) e'/\(∀b,eR (j8 h a) b<->eR h b)/\(j8 h a).length=h.length
 |[],h,e,e',i,_,g=>⟨i.congr λb=>by rw[g];simp[dJ],λ_=>Ul,rfl⟩
 |w::a,h,e,e',i,k,g=>by
  obtain⟨c,p⟩:=k w aS;rw[gN c.1,aq rfl]at p;have:=gB a (ix w);obtain⟨m,n,o⟩:=fq.j8 a (Go.Proofs.YtakpkjhmbbfniaaGreat.nE h w) (λb=>e b+if b=ix w then 1 else 0) e' (i.nE c V λb=>rfl) (λv q=>by
   obtain⟨d,j⟩:=k v (ah _ q);refine⟨⟨d.1,(jB.nE c _).2 d.2⟩,?_⟩;rw[MF c d.1];rw[gN c.1]at j;split
   ·rename_i f;subst f;rw[aq rfl]at j;omega
   ·rename_i f;rw[ae (λl=>f (Oa d.1 c.1 l))]at j;omega) (λb=>by rw[g,gN c.1];omega)
  refine⟨m,λb=>by rw[Go.Proofs.YtakpkjhmbbfniaaGreat.j8,n,eR.nE c],by rw[Go.Proofs.YtakpkjhmbbfniaaGreat.j8,o];simp[Go.Proofs.YtakpkjhmbbfniaaGreat.nE]⟩
def mj{l:List Int}:w∈pQ l<->w∈l/\1000<=w:=by simp[pQ]
def fq.apart{h:List bL}{e e':Nat->Int}(j:fq h e){w:Int}(q:iX h w)(K:0<e (ix w))(y:(aW h w).aQ=1\/mT h (aW h w).aI)
 (D:∀b,e' b=e b -(if b=ix w then 1 else 0)+dJ (aW h w).aI b)(N:mr h):fq (apart h w) e'/\(∀b,eR (apart h w) b<->eR h b)/\mr (apart h w):=by
 obtain⟨g,M⟩:=cq q
 unfold Go.Proofs.YtakpkjhmbbfniaaGreat.apart
 by_cases t:(aW h w).aQ=1
 ·rw[aq t]
  exact⟨(j.N9 g t K (c':=jz) bd bd rfl (by simp[jz]) (by simp[jz]) (λ_=>rfl) D).pY,λb=>by rw[eR.pY,eR.N9 q],Ek _⟩
 ·rw[ae t]
  have y:mT h (aW h w).aI:=by rcases y with o|o;exact absurd o t;exact o
  have T:=(j.cell _ (ar g)).hi
  have L:fq (Go.Proofs.YtakpkjhmbbfniaaGreat.fI h w) (λb=>e b -if b=ix w then 1 else 0):=j.HK g M V V (λb=>by split<;>omega) bF
  have z:∀b,jB h b->jB (Go.Proofs.YtakpkjhmbbfniaaGreat.fI h w) b:=λb f=>by
   by_cases m:b=ix w
   ·subst m;unfold Go.Proofs.YtakpkjhmbbfniaaGreat.fI;rw[jB.Dt g];simp only[];omega
   ·exact(jB.ne m).2 f
  obtain⟨o,B,C⟩:=fq.j8 (pQ (aW h w).aI) _ _ e' L (λv A=>by
   obtain⟨x,r⟩:=mj.1 A;have a:=j.field (ar g) x r;refine⟨⟨a.1,z _ a.2⟩,?_⟩;have:=y v x r;rw[tT];have R:(aW (Go.Proofs.YtakpkjhmbbfniaaGreat.fI h w) v).aQ<=(aW h v).aQ:=by
    by_cases m:ix v=ix w
    ·have i:=Oa r q.1 m;subst i;unfold Go.Proofs.YtakpkjhmbbfniaaGreat.fI;conv=>lhs;unfold aW
     rw[eE g];show(aW h v).aQ -1<=(aW h v).aQ;omega
    ·unfold Go.Proofs.YtakpkjhmbbfniaaGreat.fI;conv=>lhs;unfold aW
     rw[fY m];exact dY _
   omega) (λb=>by rw[D,tT])
  refine⟨o,λb=>by rw[B,eR.fI q],λc p=>?_⟩
  intro P
  rw[C]at p
  have E:(Go.Proofs.YtakpkjhmbbfniaaGreat.fI h w).length=h.length:=by simp[Go.Proofs.YtakpkjhmbbfniaaGreat.fI]
  rw[E]at p
  have f:=ax p
  rw[C,E]at f
  obtain⟨d,u⟩:=ag (l:=h) (k:=h.length -1) V
  have Q:=N d u
  have J:=j.cell d (ar u)
  have S:=J.lo
  rcases gE (0<d.aQ)with F|F
  ·have I:∀(s:List Int)(n:List bL),(∀v∈s,iX n v)->∀b,jB n b->jB (Go.Proofs.YtakpkjhmbbfniaaGreat.j8 n s) b:=by
    intro s;induction s with
    |nil=>intro n _ b f;exact f
    |cons v s O=>
     intro n i b f;have a:=i v aS;exact O _ (λH G=>⟨(i H (ah _ G)).1,(jB.nE a _).2 (i H (ah _ G)).2⟩) b ((jB.nE a _).2 f)
   obtain⟨G,i,H⟩:=I (pQ (aW h w).aI) (Go.Proofs.YtakpkjhmbbfniaaGreat.fI h w) (λv A=>by
    obtain⟨x,r⟩:=mj.1 A;have a:=j.field (ar g) x r;exact⟨a.1,z _ a.2⟩) _ (z _ ⟨d,u,F⟩)
   rw[p]at i;simp at i;subst i;omega
  ·have n:eR h (h.length -1):=⟨d,u,V⟩
   obtain⟨G,i,s⟩:=(B (h.length -1)).2 ((eR.fI q _).2 n)
   rw[p]at i;simp at i;subst i;omega
def tI:∀(h:List bL),eL h<=h.length
 |[]=>ad _
 |c::h=>by have:=tI h;simp only[eL,ba];split<;>omega
def Bj:∀(h:List bL)(c:bL),h[eL h]? =some c->c.aQ=0
 |[],c,a=>by simp[eL]at a
 |d::h,c,a=>by
  simp only[eL]at a;split at a
  ·rename_i b;simp at a;subst a;exact b
  ·exact Bj h c (by simpa using a)
def fq.alloc(k:fq h e){t:Int}{f:List Int}(s:∀w∈f,oK h w)(m:f.length<=3)(r:0<=t/\t<=99)(n:∀b,dJ f b<=e b)
 (l:∀b,e' b=e b -dJ f b+if b=eL h then 1 else 0)(v:mr h):
 fq (lp h (eL h) ⟨1,t,f⟩) e'/\(∀b,eR (lp h (eL h) ⟨1,t,f⟩) b<->eR h b)/\mr (lp h (eL h) ⟨1,t,f⟩):=by
 unfold lp
 have o:¬jB h (eL h):=λ⟨c,a,x⟩=>by have:=Bj h c a;omega
 by_cases j:eL h=h.length
 ·rw[aq j]
  have q:(h++[⟨1,t,f⟩])[eL h]? =some ⟨1,t,f⟩:=by rw[j];simp
  have p:∀b,b≠eL h->(h++[⟨1,t,f⟩])[b]? =h[b]? :=λb g=>by
   rcases aX b h.length with i|i
   ·rw[aw i]
   ·rw[bZ bF,bZ i]
  refine⟨k.make o q p (λb=>by rw[sM];simp[dw]) s m r n l,λb=>?_,λc a=>?_⟩
  ·by_cases g:b=eL h
   ·rw[g];unfold eR;rw[q,j];simp
   ·unfold eR;rw[p b g]
  ·simp at a;subst a;simp
 ·rw[ae j]
  have u:eL h<h.length:=by have:=tI h;omega
  obtain⟨d,i⟩:=ag u
  have p:=Bj h d i
  have q:=((k.cell d (ar i)).uH V).2.2 p
  refine⟨k.make o (eE i) (λb g=>fY g) (λb=>by rw[xB _ i,q];simp[dJ]) s m r n l,λb=>eR.set i V E b,λc a=>?_⟩
  rw[gX]at a
  by_cases g:h.length -1=eL h
  ·rw[g,eE i]at a;simp at a;subst a;simp
  ·rw[fY g]at a;exact v c a
end
section
variable{b:cL}{w:Int}{s:St}{d:List bL}{c:List a9}{f g:a9}
def CA{b:cL}{x:Instr}:∀{l:List Int}{k:Nat}{r:Int},r∈iV b x k l->r∈l
 |[],k,r,h=>by simp[iV]at h
 |y::l,k,r,h=>by
  simp only[iV]at h;split at h
  ·exact ah _ (CA h)
  ·rcases List.mem_cons.1 h with rfl|h
   ·exact aS
   ·exact ah _ (CA h)
def KW{x:Instr}{r:Int}(h:r∈dp b x):r∈x.args:=by
 unfold dp at h;split at h
 ·exact h
 split at h
 ·exact cw h
 split at h
 ·exact CA h
 ·simp at h
def Gc{a:List bO}(h:dx a)(c:Int):(bT a c).length<=3:=by
 unfold bT;split
 ·cases i:(eD a)[c.toNat]? with
  |none=>simp
  |some f=>
   have d:=ar i;unfold eD at d;obtain⟨e,g,b⟩:=List.mem_flatMap.1 d;obtain⟨k,j⟩:=List.mem_iff_getElem?.1 g;have:=(h.dh k e j).gR (List.length_pos_of_mem b);exact(this.2.2.2 f b).1
 ·simp
def fO.put{b:cL}{g:a9}(h:fO b g){r w o:Int}(i:0<=r)(f:gF w\/1000<=w)(e:0<=o)(d:0<o->1000<=w):fO b (g.put r w o):=by
 refine⟨h.eU,h.pc,by simp only[a9.put,jK];exact h.lr,by simp only[a9.put,jK];exact h.lo,h.lh,λy a=>?_,λk q y c a=>?_,h.be⟩
 ·rcases rc a with rfl|a
  ·exact f
  ·exact h.Oj y a
 ·simp only[a9.put]at c a;rw[Dw]at c a;have:=h.lr;have:=h.lo;split at c<;>split at a
  ·simp at c a;subst c;subst a;exact⟨e,d⟩
  ·omega
  ·omega
  ·exact h.aV k q y c a
def EW(w:Int):0<=iR w:=by unfold iR;split<;>omega
def Br(h:0<iR w):1000<=w:=by unfold iR at h;split at h<;>omega
def uQ(w:Int)(b:Nat):(if w=1000+(b:Int)then iR w else 0)=dJ [w] b:=by
 simp only[dJ,iR];split
 ·rw[aq V];rfl
 ·rfl
def EH(n:Int):gF (Ib n):=by unfold Ib gF;split<;>(try split)<;>omega
def MW(c a b:Int):gF (Q0 c a b):=by
 unfold Q0;split
 ·exact EH _
 split
 ·exact EH _
 split
 ·exact EH _
 split<;>(unfold gF;omega)
def lP(cV:List Int):∀(a:List Int)(k:Nat),(gP cV k a).length=a.length
 |[],k=>rfl
 |w::a,k=>by simp only[gP,ba,lP cV a]
def Gq(cV:List Int):∀(b:List Int)(k j:Nat)(o w:Int),(gP cV k b)[j]? =some o->b[j]? =some w->0<=o/\(0<o->1000<=w)
 |[],k,j,o,w,_,h=>by simp at h
 |v::b,k,0,o,w,a,c=>by
  simp[gP]at a c;subst c;split at a
  ·subst a;omega
  ·subst a;exact⟨EW _,Br⟩
 |v::b,k,j+1,o,w,a,c=>Gq cV b (k+1) j o w (by simpa[gP]using a) (by simpa using c)
def kY(n:Nat):(fJ n).length=n:=by simp[fJ]
def oL{n:Nat}(h:w∈fJ n):w=0:=Sr h
def sK{g j:Int}{e:List Int}{p:cY}(m:lO b)(l:0<=g)(d:b.cB[g.toNat]? =some p)(q:e.length=p.params.length)(n:∀w∈e,gF w\/1000<=w):fO b (cv b g j e):=by
 have f:dF b g=p:=by simp[dF,d]
 have i:=m.dh p (ar d);have t:=i.av;have r:=i.len;have s:=ax d;refine⟨⟨l,by simp only[cv];omega⟩,⟨by simp[cv],by simp only[cv,f];omega⟩,?_,?_,?_,λw a=>?_,λk o w c a=>?_,λw a=>Or.inl (oL a)⟩
 ·simp only[cv,f,bg,kY];omega
 ·simp only[cv,f,bg,kY,lP];omega
 ·simp only[cv,f,kY];omega
 ·simp only[cv]at a;rcases List.mem_append.1 a with a|a
  ·exact n w a
  ·rw[oL a];exact Or.inl (by unfold gF;omega)
 ·simp only[cv]at c a;rcases aX k e.length with h|h
  ·rw[aw (by rw[lP];exact h)]at c;rw[aw h]at a;exact Gq _ e 0 k o w c a
  ·rw[aF (by rw[lP];exact h)]at c;rw[oL (jx c)];omega
def pd(b:cL)(g d:Int)(a:List Int)(c:Nat):cz (cv b g d a).av (cv b g d a).aV c=cz a (gP (dF b g).cV 0 a) c:=by
 simp only[cv];rw[Dm _ _ (lP _ _ _).symm,rm (λn e=>oL e)];omega
def nM(b:cL)(g c:Int)(d:List Int)(a:Nat):holds [cv b g c d] a=0:=by
 rw[gT];exact PK _ _
def EV{b:cL}{d:Instr}(f:a9):∀(e:List Int)(k:Nat)(a:Nat),cz (dg f e) (gP (dF b d.bJ).cV k (dg f e)) a=dJ ((iV b d k e).map (u f.av)) a
 |[],k,a=>by simp[dg,cz,iV,dJ]
 |r::h,k,a=>by
  have g:=EV (b:=b) (d:=d) f h (k+1) a;simp only[dg,cb,gP,cz,iV]at g⊢;rw[g];by_cases c:mK b d k=true
  ·rw[aq c];unfold mK at c;rw[aq c];split<;>omega
  ·rw[ae c];unfold mK at c;rw[ae c];simp only[cb,dJ];have:=uQ (u f.av r) a;simp only[dJ]at this;omega
def Gs:∀(a:List Int)(k:Nat)(b:Nat),cz a (gP [] k a) b=dJ a b
 |[],k,b=>by simp[cz,dJ]
 |w::a,k,b=>by
  have:=Gs a (k+1) b;have c:=uQ w b;simp only[dJ]at c;simp only[gP,cz,dJ,this,Nw,ji,rU];omega
def cA.oI(i:cA b s)(l:s.ak=c++[f])(m:g.be=f.be)(j:∀a,eR d a<->eR s.heap a):
 (∀a,eR d a->holds (c++[g]) a=1)/\(∀a,¬eR d a->holds (c++[g]) a=0):=by
 have h:∀a,holds (c++[g]) a=holds s.ak a:=λa=>by rw[l,dH,dH,gT,gT,m]
 exact⟨λa e=>by rw[h];exact i.ju a ((j a).1 e),λa e=>by rw[h];exact i.kJ a λk=>e ((j a).2 k)⟩
def cA.push(h:cA b s)(D:s.cR=3)(i:s.ak=c++[f])(r:fO b g)(p:0<=g.dst/\g.dst<f.aV.length/\u f.aV g.dst=0){bG:Int}
 (t:fq d (eu (c++[f,g])))(x:mr d)(v:∀a,eR d a->holds (c++[f,g]) a=1)(y:∀a,¬eR d a->holds (c++[f,g]) a=0)(A:bG=s.bG+1)(C:s.bG<s.dQ):
 cA b {s with heap:=d,bG:=bG,ak:=c++[f,g]}:=by
 have B:=h.bG
 have m:=h.ln
 rw[i]at m
 refine⟨h.fP,h.cR,⟨λe=>by simp at e;omega,λe=>by simp at e⟩,h.value,h.rR,h.dQ,⟨by simp only[];omega,by simp only[];omega⟩,by simp at m⊢;omega,h.bq,t,x,λq a=>?_,λq a=>?_,λk z q d a=>?_,v,y⟩
 ·rcases List.mem_append.1 a with a|a
  ·exact h.ak q (by rw[i];exact bH _ a)
  ·simp at a
   rcases a with rfl|rfl
   ·exact h.ak _ (by rw[i];simp)
   ·exact r
 ·have j:=h.first
  rw[i]at j
  cases c with
  |nil=>simp at a;subst a;exact j f E
  |cons l n=>simp at a;subst a;exact j l E
 ·have l:=h.chain k
  rw[i]at l
  simp only[]at d a
  have e:c++[f,g]=(c++[f])++[g]:=E
  rw[e]at d a
  have w:=ax a
  simp at w
  rw[aw bF]at d
  rcases aX (k+1) (c++[f]).length with j|j
  ·rw[aw j]at a
   exact l z q d a
  ·simp at j
   rw[aF bF]at a
   have n:k+1 -(c++[f]).length=0:=bF
   rw[n]at a;simp at a;subst a
   rw[aF V]at d
   have o:k -c.length=0:=V
   rw[o]at d;simp at d;subst d;exact p
def Og(j:cA b s)(X:s.cR=3)(v:s.ak=c++[f])
 (R:sZ b s f (fg b f) (dz f.av f.aV (dp b (fg b f))))(bi:¬(uO (fg b f).op/\s.bG=s.dQ)):
 cA b (jd b s c f (fg b f) (dz f.av f.aV (dp b (fg b f)))):=by
 have M:fO b f:=j.ak f (by rw[v];simp)
 obtain⟨ah,d,aE,hP,a4,hI⟩:=M.IB j.fP
 generalize fg b f=x at*
 have⟨lr,lo,lh⟩:(f.av.length:Int)=ah.av/\(f.aV.length:Int)=ah.av/\(f.be.length:Int)=ah.av:=⟨aE▸M.lr,aE▸M.lo,aE▸M.lh⟩
 have ao:∀y∈x.args,0<=y/\y<f.av.length:=λy z=>by have:=hI.args y z;omega
 have a2:∀r∈dp b x,0<=r/\r<f.av.length:=λr X=>ao r (KW X)
 have bp:=vx (av:=f.av) (dp b x) f.aV a2 V
 have bo:=pI f.av (dp b x) f.aV
 have bn:=rL (av:=f.av) (dp b x) f.aV
 generalize dz f.av f.aV (dp b x)=aV at*
 have aK:∀H∈c,fO b H:=λH n=>j.ak H (by rw[v];exact bH _ n)
 have ap:∀e,0<=eu c e+cz f.av aV e:=λe=>by
  have:=Dp aK e;have:=nO (av:=f.av) R.nn e;omega
 have I:fq s.heap (λe=>eu c e+cz f.av aV e+dJ ((dp b x).map (u f.av)) e):=j.heap.congr λe=>by
  rw[v,eW,jI,bp];omega
 have bb:∀T:Int,0<=T->T<ah.cG.length->fO b {f with aV:=aV,pc:=T}:=λT h0 m=>
  ⟨M.eU,⟨h0,by rw[aE];exact m⟩,M.lr,by simp only[bo];exact M.lo,M.lh,M.Oj,λB af w ho p=>by
   obtain⟨H,n,q⟩:=bn B af ho;have D:=M.aV B H w n p;exact⟨R.nn af (jx ho),λo=>D.2 V⟩,M.be⟩
 have br:=M.pc
 rw[aE]at br
 have ba:x.op≠23->x.op≠24->f.pc+1<ah.cG.length:=λm D=>by
  rcases gE (f.pc+1<ah.cG.length)with F|F
  ·exact F
  ·have N:f.pc.toNat=ah.cG.length -1:=V;rw[N]at a4;have:=hP.JV x a4;omega
 have hG:x.op≠23->x.op≠24->fO b {f with aV:=aV,pc:=f.pc+1}:=λm D=>bb _ V (ba m D)
 have ay:∀r:Int,0<=r->r<f.av.length->gF (u f.av r)\/1000<=u f.av r:=λr h0 m=>M.Oj _ (il h0 m)
 have a7:∀r:Int,0<=r->r<f.av.length->u f.av r<1000->gF (u f.av r):=λr h0 m D=>by rcases ay r h0 m with F|F;exact F;omega
 have al:=hI.dst
 have a5:kK x.op->u aV x.dst=0:=λS=>by
  have m:=R.dst S;have D:=R.nn _ (il (l:=aV) al.1 V);omega
 have bs:∀r∈dp b x,oK s.heap (u f.av r):=λr bc=>by
  have bd:=a2 r bc;rcases ay r bd.1 bd.2 with F|F
  ·exact Or.inl F
  ·refine Or.inr ⟨F,I.lv _ ?_⟩;have:=ap (ix (u f.av r));have:=qA (l:=(dp b x).map (u f.av)) (a:=ix (u f.av r)) (by rw[gC F];exact List.mem_map.2 ⟨r,bc,rfl⟩);omega
 have aL:∀(T:Int)(a6:List Int)(w af:Int),kK x.op->∀e,eu (c++[a9.put {f with aV:=aV,pc:=T,be:=a6} x.dst w af]) e=eu c e+cz f.av aV e+(if w=1000+(e:Int)then af else 0):=λT a6 w af S e=>by
  rw[eW,jI];simp only[a9.put];rw[KJ al.1 V V (a5 S)];omega
 have aO:∀(w:Int)(bq:List Int),kK x.op->x.op≠23->x.op≠24->dp b x=[]->(gF w\/1000<=w)->(∀o∈bq,gF o)->cA b {s with bq:=bq,ak:=c++[a9.put {f with aV:=aV,pc:=f.pc+1} x.dst w 0]}:=λw bq S m D A p ho=>by
  obtain⟨C,U⟩:=j.oI v (g:=a9.put {f with aV:=aV,pc:=f.pc+1} x.dst w 0) rfl (λe=>Ul);refine j.ib X v (hd:=rfl) ((hG m D).put al.1 p (dY _) (λF=>V)) (I.congr λe=>?_) j.iy C U ho (bG:=s.bG) ⟨dY _,j.bG.2⟩;rw[aL _ _ _ _ S,A];simp[dJ]
 have aQ:∀T:Int,0<=T->T<ah.cG.length->dp b x=[]->cA b {s with ak:=c++[{f with aV:=aV,pc:=T}]}:=λT h0 m A=>by
  obtain⟨C,U⟩:=j.oI v (g:={f with aV:=aV,pc:=T}) rfl (λe=>Ul);refine j.ib X v (hd:=rfl) (bb T h0 m) (I.congr λe=>?_) j.iy C U j.bq (bG:=s.bG) ⟨dY _,j.bG.2⟩;rw[eW,jI,A];simp[dJ]
 have q:=hI.op
 unfold lD at q
 unfold jd
 simp only[]
 by_cases e0:x.op=0
 ·rw[aq e0]at q⊢
  exact aO _ _ (by unfold kK;omega) V V (by simp[dp,e0]) (Or.inl q.2) j.bq
 rw[ae e0]at q⊢
 by_cases e1:x.op=1\/x.op=2\/x.op=3\/x.op=4
 ·rw[aq e1]
  exact aO _ _ (by unfold kK;omega) V V (by unfold dp;rw[ae V,ae V,ae V]) (Or.inl (MW _ _ _)) j.bq
 rw[ae e1]
 have az:1<=x.args.length->0<=u x.args 0/\u x.args 0<f.av.length:=λm=>ao _ (il V V)
 by_cases e5:x.op=5
 ·rw[aq e5]
  rw[ae V,aq V]at q
  have z:=az V
  have aC:gF (u f.av (u x.args 0)):=a7 _ z.1 z.2 (R.pw V _ (il V V))
  refine aO _ _ (by unfold kK;omega) V V (by simp[dp,e5]) (Or.inl aC) λo J=>?_
  rcases List.mem_append.1 J with J|J
  ·exact j.bq o J
  ·simp at J;subst J;exact aC
 rw[ae e5]
 have bf:(dp b x=x.args)->∀w∈dg f x.args,oK s.heap w:=λA w p=>by
  obtain⟨r,ab,rfl⟩:=List.mem_map.1 p;exact bs r (A▸ab)
 have aZ:∀aG,dp b x=x.args->x.op≠23->x.op≠24->kK x.op->x.args.length<=3->0<=aG/\aG<=99->cA b {s with heap:=lp s.heap (eL s.heap) ⟨1,aG,dg f x.args⟩,ak:=c++[a9.put {f with aV:=aV,pc:=f.pc+1} x.dst (1000+eL s.heap) 1]}:=λaG A m D S F aU=>by
  obtain⟨Y,k2,k3⟩:=I.alloc (t:=aG) (f:=dg f x.args) (e':=eu (c++[a9.put {f with aV:=aV,pc:=f.pc+1} x.dst (1000+eL s.heap) 1])) (bf A) (by simpa[dg]using F) aU (λe=>by rw[A];have:=ap e;simp only[dg];omega) (λe=>by
   rw[aL _ _ _ _ S,A];simp only[dg];have:(if(1000+(eL s.heap:Int))=1000+(e:Int)then(1:Int)else 0)=if e=eL s.heap then 1 else 0:=by
    by_cases o:e=eL s.heap
    ·rw[aq o,aq V]
    ·rw[ae o,ae V]
   rw[this];omega) j.iy
  obtain⟨C,U⟩:=j.oI v (g:=a9.put {f with aV:=aV,pc:=f.pc+1} x.dst (1000+eL s.heap) 1) rfl k2;exact j.ib X v (hd:=rfl) ((hG m D).put al.1 (Or.inr V) V (λ_=>V)) Y k3 C U j.bq (bG:=s.bG) ⟨dY _,j.bG.2⟩
 have bt:(eD b.aY).length<=12:=by
  have:=qW j.fP.pC.types b.aY.length;rw[mF _ _ (ad _)]at this;exact this
 have bv:=j.fP.pC.len
 by_cases W:x.op=6
 ·rw[aq W]
  rw[ae V,ae V,aq W]at q
  have A:dp b x=x.args:=by unfold dp;rw[aq V]
  have S:kK x.op:=by unfold kK;omega
  have au:x.args.length<=3:=by rw[q.2.1];exact Gc j.fP.pC.types _
  split
  ·rename_i aJ
   have P:0<=x.bV -1/\x.bV -1<f.be.length:=V
   have hv:=M.be _ (il (l:=f.be) P.1 P.2)
   have Z:1000<=u f.be (x.bV -1):=V
   have aI:0<holds s.ak (ix (u f.be (x.bV -1))):=by
    rw[v,dH,gT];have:=tK c (ix (u f.be (x.bV -1)));have:=qA (l:=f.be) (a:=ix (u f.be (x.bV -1))) (by rw[gC Z];exact il P.1 P.2);omega
   have ac:eR s.heap (ix (u f.be (x.bV -1))):=dG λJ=>by have:=j.kJ _ J;omega
   have an:=j.ju _ ac
   obtain⟨aa,O,aB⟩:=ac
   have aD:∀e,dJ aa.aI e=0:=λe=>mh λp=>by
    have:=((I.cell aa (ar O)).uH V).2.1 _ p;omega
   have Y:=I.make (x:=x.bJ) (i:=dg f x.args) (e':=eu (c++[a9.put {f with aV:=aV,pc:=f.pc+1,be:=gU f.be (x.bV -1) 0} x.dst (u f.be (x.bV -1)) 1])) (a:=ix (u f.be (x.bV -1))) (f:=s.heap.set (ix (u f.be (x.bV -1))) ⟨1,x.bJ,dg f x.args⟩)
    (eR.Q8 ⟨aa,O,aB⟩) (eE O) (λe o=>fY o) (λe=>by rw[xB _ O,aD];simp only[];omega) (bf A) (by simpa[dg]using au) V (λe=>by rw[A];have:=ap e;simp only[dg];omega) (λe=>by
     rw[aL _ _ _ _ S,A];simp only[dg];have:(if u f.be (x.bV -1)=1000+(e:Int)then(1:Int)else 0)=if e=ix (u f.be (x.bV -1))then 1 else 0:=by
      by_cases o:e=ix (u f.be (x.bV -1))
      ·rw[aq o,aq (by rw[o,gC Z])]
      ·rw[ae o,ae (λL=>o (by rw[L,jZ]))]
     rw[this];omega)
   have aH:∀e,dJ (gU f.be (x.bV -1) 0) e=dJ f.be e -(if e=ix (u f.be (x.bV -1))then 1 else 0):=by
    intro e;have am:∀(G:List Int)(B:Nat)(w:Int),G[B]? =some w->dJ (G.set B 0) e=dJ G e -(if w=1000+(e:Int)then 1 else 0):=by
     intro G;induction G with
     |nil=>intro B w C;simp at C
     |cons ai G ih=>
      intro B w C;cases B with
      |zero=>simp at C;subst C;simp only[ig,dJ];rw[ae V];omega
      |succ B=>have:=ih B w (by simpa using C);simp only[ic,dJ,this];omega
    rw[gU,am _ _ _ (qR P.1 P.2)];by_cases o:e=ix (u f.be (x.bV -1))
    ·rw[aq o,aq (by rw[o,gC Z])]
    ·rw[ae o,ae (λL=>o (by rw[L,jZ]))]
   have Q:∀e,holds (c++[a9.put {f with aV:=aV,pc:=f.pc+1,be:=gU f.be (x.bV -1) 0} x.dst (u f.be (x.bV -1)) 1]) e=holds s.ak e -(if e=ix (u f.be (x.bV -1))then 1 else 0):=λe=>by
    rw[v,dH,dH,gT,gT];simp only[a9.put];rw[aH];omega
   have aA:fO b {f with aV:=aV,pc:=f.pc+1,be:=gU f.be (x.bV -1) 0}:=by
    have m:=hG V V;exact⟨m.eU,m.pc,m.lr,m.lo,by simp only[jK];exact m.lh,m.Oj,m.aV,λw p=>by rcases rc p with p|p;exact Or.inl p;exact m.be w p⟩
   refine j.ib X v (hd:=rfl) (aA.put al.1 (Or.inr Z) V (λ_=>Z)) Y ?_ (λy z=>?_) (λy z=>?_) j.bq (bG:=s.bG) ⟨dY _,j.bG.2⟩
   ·intro aj K
    rw[gX]at K
    by_cases o:s.heap.length -1=ix (u f.be (x.bV -1))
    ·rw[o,eE O]at K;simp at K;subst K;simp
    ·rw[fY o]at K;exact j.iy aj K
   ·rw[Q]
    by_cases o:y=ix (u f.be (x.bV -1))
    ·subst o;rw[eR.Dt O]at z;simp at z
    ·rw[ae o];rw[eR.ne o]at z;have:=j.ju y z;omega
   ·rw[Q]
    by_cases o:y=ix (u f.be (x.bV -1))
    ·subst o;rw[aq rfl];omega
    ·rw[ae o];rw[eR.ne o]at z;have:=j.kJ y z;omega
  ·exact aZ _ A V V S au V
 rw[ae W]
 by_cases aa:x.op=10
 ·rw[aq aa]
  rw[ae V,ae V,ae W,ae V,aq aa]at q
  obtain⟨⟨H,aJ,au,aM⟩,_⟩:=q
  have F:=(j.fP.pC.dh H (ar au)).1
  have:=ax au
  exact aZ _ (by unfold dp;rw[aq V]) V V (by unfold kK;omega) V (by unfold fH;omega)
 rw[ae aa]
 by_cases aH:x.op=14
 ·rw[aq aH]
  rw[ae V,aq V]at q
  have z:=az V
  have A:dp b x=[]:=by simp[dp,aH]
  obtain⟨J,Z⟩:=R.Wa aH
  obtain⟨C,U⟩:=j.oI v (g:={f with aV:=gU aV (u x.args 0) (u aV (u x.args 0)+1),pc:=f.pc+1}) rfl (λe=>eR.nE J e)
  have m:=hG V V
  refine j.ib X v (hd:=rfl) (g:={f with aV:=gU aV (u x.args 0) (u aV (u x.args 0)+1),pc:=f.pc+1}) ⟨m.eU,m.pc,m.lr,by simp only[jK];exact m.lo,m.lh,m.Oj,λB af w ho p=>?_,m.be⟩ (I.nE J Z λe=>?_) ?_ C U j.bq (bG:=s.bG) ⟨dY _,j.bG.2⟩
  ·simp only[]at ho p
   rw[Dw]at ho
   split at ho
   ·rename_i O
    simp at ho
    have N:u f.av (u x.args 0)=w:=by rw[u,iH,<-O.1,p];rfl
    have:=R.nn _ (il (l:=aV) z.1 V)
    have:=J.1
    exact⟨V,λ_=>V⟩
   ·exact m.aV B af w ho p
  ·rw[eW,jI,A]
   simp only[]
   rw[ET z.1 z.2 V]
   have O:=gC J.1
   simp only[eJ,dJ]
   by_cases o:e=ix (u f.av (u x.args 0))
   ·rw[aq o,aq (by rw[o,O])];omega
   ·rw[ae o,ae (λL=>o (by rw[L,jZ]))];omega
  ·obtain⟨K,aD⟩:=cq J
   intro aj P
   unfold nE at P
   rw[gX]at P
   by_cases o:s.heap.length -1=ix (u f.av (u x.args 0))
   ·rw[o,eE K]at P;simp at P;subst P;simp only[];omega
   ·rw[fY o]at P;exact j.iy aj P
 rw[ae aH]
 have aP:x.args.length=1->x.args=[u x.args 0]:=λm=>by
  cases hx:x.args with
  |nil=>rw[hx]at m;simp at m
  |cons ai G=>cases G with
   |nil=>rfl
   |cons a_ G=>rw[hx]at m;simp at m
 by_cases a0:x.op=15
 ·rw[aq a0]
  rw[ae V,aq V]at q
  have A:dp b x=[u x.args 0]:=by unfold dp;rw[aq V];exact aP V
  rw[A]at I
  have Y:=fq.iA _ s.heap [u f.av (u x.args 0)] (λe=>eu c e+cz f.av aV e) (ad _) (I.congr λe=>rfl) ap
  obtain⟨C,U⟩:=j.oI v (g:={f with aV:=aV,pc:=f.pc+1}) rfl (λe=>(eR.pY (h:=iA s.heap [u f.av (u x.args 0)]) e).trans (eR.iA _ _ _ (ad _) e))
  exact j.ib X v (hd:=rfl) (hG V V) (Y.pY.congr λe=>by rw[eW,jI]) (Ek _) C U j.bq (bG:=s.bG) ⟨dY _,j.bG.2⟩
 rw[ae a0]
 by_cases Z:x.op=16\/x.op=17
 ·rw[aq Z]
  rw[ae V,ae V,ae W,ae V,ae aa,aq Z]at q
  have z:=az V
  have A:dp b x=[u x.args 0]:=by
   unfold dp;rw[ae V,aq Z];cases hx:x.args with
   |nil=>rw[hx]at q;simp at q
   |cons ai G=>rfl
  obtain⟨J,aN,aR,a1⟩:=R.QU Z
  obtain⟨K,aD⟩:=cq J
  have aS:∀r∈x.args.drop 1,0<=r/\r<aV.length/\1000<=u f.av r:=λr ab=>by
   have m:=ao r (V1 ab);have D:u f.av r∈pQ (aW s.heap (u f.av (u x.args 0))).aI:=by rw[aN];exact List.mem_map.2 ⟨r,ab,rfl⟩
   exact⟨m.1,V,(mj.1 D).2⟩
  have m:=hG V V
  have ac:fO b {f with aV:=eM aV (x.args.drop 1),pc:=f.pc+1}:=⟨m.eU,m.pc,m.lr,by simp only[sG];exact m.lo,m.lh,m.Oj,H4 (av:=f.av) _ aV aS m.aV,m.be⟩
  have a8:∀e,cz f.av (eM aV (x.args.drop 1)) e=cz f.av aV e+dJ (aW s.heap (u f.av (u x.args 0))).aI e:=λe=>by
   rw[CP (av:=f.av) _ _ (λr ab=>by have:=aS r ab;omega) V,<-tT (aW s.heap _).aI,aN];rfl
  have aB:0<eu c (ix (u f.av (u x.args 0)))+cz f.av aV (ix (u f.av (u x.args 0)))+dJ ((dp b x).map (u f.av)) (ix (u f.av (u x.args 0))):=by
   rw[A];have:=ap (ix (u f.av (u x.args 0)));simp only[cb,eJ,gN J.1,aq,dJ];omega
  have aA:∀e,eu c e+cz f.av (eM aV (x.args.drop 1)) e=(eu c e+cz f.av aV e+dJ ((dp b x).map (u f.av)) e) -(if e=ix (u f.av (u x.args 0))then 1 else 0)+dJ (aW s.heap (u f.av (u x.args 0))).aI e:=λe=>by
   rw[a8,A];simp only[cb,eJ,gN J.1,dJ];omega
  split
  ·rename_i an
   have aY:=a1 an.2
   have Y:=I.N9 K an.1 aB (c':=⟨-1,0,fJ (aW s.heap (u f.av (u x.args 0))).aI.length⟩) E E rfl (λw p=>oL p) (by simp only[kY];exact(I.cell _ (ar K)).fl) (λD=>by simp at D) (e':=eu (c++[{f with aV:=eM aV (x.args.drop 1),pc:=f.pc+1,be:=gU f.be (u x.args 0) (u f.av (u x.args 0))}])) (λe=>by rw[eW,jI];exact aA e)
   have am:∀(e:Nat)(w:Int)(G:List Int)(B:Nat),G[B]? =some 0->dJ (G.set B w) e=dJ G e+(if w=1000+(e:Int)then 1 else 0):=by
    intro e w G;induction G with
    |nil=>intro B C;simp at C
    |cons ai G ih=>
     intro B C;cases B with
     |zero=>simp at C;subst C;simp only[ig,dJ];split<;>simp_all<;>omega
     |succ B=>have:=ih B (by simpa using C);simp only[ic,dJ,this];omega
   have aT:u x.args 0<f.be.length:=V
   have Q:∀e,holds (c++[{f with aV:=eM aV (x.args.drop 1),pc:=f.pc+1,be:=gU f.be (u x.args 0) (u f.av (u x.args 0))}]) e=holds s.ak e+(if e=ix (u f.av (u x.args 0))then 1 else 0):=λe=>by
    rw[v,dH,dH,gT,gT];have aI:=qR (l:=f.be) z.1 aT;rw[aY]at aI;simp only[gU];rw[am e _ _ _ aI];by_cases o:e=ix (u f.av (u x.args 0))
    ·rw[aq o,aq (by rw[o,gC J.1])];omega
    ·rw[ae o,ae (λL=>o (by rw[L,jZ]))];omega
   have a3:¬eR s.heap (ix (u f.av (u x.args 0))):=λC=>C.Q8 J.2
   refine j.ib X v (hd:=rfl) (g:={f with aV:=eM aV (x.args.drop 1),pc:=f.pc+1,be:=gU f.be (u x.args 0) (u f.av (u x.args 0))}) ⟨ac.eU,ac.pc,ac.lr,ac.lo,by simp only[jK];exact ac.lh,ac.Oj,ac.aV,λw p=>?_⟩ Y ?_ (λy O=>?_) (λy O=>?_) j.bq (bG:=s.bG) ⟨dY _,j.bG.2⟩
   ·rcases rc p with p|p
    ·rw[p];exact Or.inr J.1
    ·exact M.be w p
   ·intro aj P
    rw[gX]at P
    by_cases o:s.heap.length -1=ix (u f.av (u x.args 0))
    ·rw[o,eE K]at P;simp at P;subst P;simp
    ·rw[fY o]at P;exact j.iy aj P
   ·rw[Q]
    by_cases o:y=ix (u f.av (u x.args 0))
    ·rw[aq o,o,j.kJ _ a3];rfl
    ·rw[ae o];rw[eR.ne o]at O;have:=j.ju y O;omega
   ·rw[Q]
    by_cases o:y=ix (u f.av (u x.args 0))
    ·subst o;rw[eR.Dt K]at O;simp at O
    ·rw[ae o];rw[eR.ne o]at O;have:=j.kJ y O;omega
  ·obtain⟨Y,k2,k3⟩:=I.apart J aB aR (e':=eu (c++[{f with aV:=eM aV (x.args.drop 1),pc:=f.pc+1}])) (λe=>by rw[eW,jI];exact aA e) j.iy
   obtain⟨C,U⟩:=j.oI v (g:={f with aV:=eM aV (x.args.drop 1),pc:=f.pc+1}) rfl k2
   exact j.ib X v (hd:=rfl) ac Y k3 C U j.bq (bG:=s.bG) ⟨dY _,j.bG.2⟩
 rw[ae Z]
 by_cases a1:x.op=18
 ·rw[aq a1]
  rw[ae V,aq V]at q
  have z:=az V
  have A:dp b x=[u x.args 0]:=by unfold dp;rw[aq V];exact aP V
  have S:kK x.op:=by unfold kK;omega
  obtain⟨C,U⟩:=j.oI v (g:=a9.put {f with aV:=aV,pc:=f.pc+1} x.dst (u f.av (u x.args 0)) (iR (u f.av (u x.args 0)))) rfl (λe=>Ul)
  refine j.ib X v (hd:=rfl) ((hG V V).put al.1 (ay _ z.1 z.2) (EW _) Br) (I.congr λe=>?_) j.iy C U j.bq (bG:=s.bG) ⟨dY _,j.bG.2⟩
  rw[aL _ _ _ _ S,A,uQ];rfl
 rw[ae a1]
 by_cases P:x.op=19
 ·rw[aq P]
  rw[ae V,ae V,ae W,ae V,ae aa,ae Z,aq P]at q
  obtain⟨J,o⟩:=R.load P
  obtain⟨K,aD⟩:=cq J
  refine aO _ _ (by unfold kK;omega) V V (by simp[dp,P]) ?_ j.bq
  rcases((I.cell _ (ar K)).ov aD).1 _ (il q.2.1 o)with D|D
  ·exact Or.inl D
  ·exact Or.inr D.1
 rw[ae P]
 by_cases ac:x.op=20
 ·rw[aq ac]
  rw[ae V,ae V,ae W,ae V,ae aa,ae Z,ae P,aq ac]at q
  have:=ba V V
  exact aQ _ (by split<;>omega) (by split<;>omega) (by simp[dp,ac])
 rw[ae ac]
 by_cases an:x.op=21
 ·rw[aq an]
  rw[ae V,ae V,ae W,ae V,ae aa,ae Z,ae P,ae ac,ae V,aq an]at q
  obtain⟨J,aU⟩:=R.Mb an
  have aj:Da (bU b.aY x.bJ) (aW s.heap (u f.av (u x.args 0))).lA<(bU b.aY x.bJ).length:=Nx ⟨_,aU,E⟩
  obtain⟨am,o⟩:=q.2.2
  have:=o _ (il (l:=x.dR) (i:=(Da (bU b.aY x.bJ) (aW s.heap (u f.av (u x.args 0))).lA:Nat)) V V)
  exact aQ _ V V (by simp[dp,an])
 rw[ae an]
 by_cases aA:x.op=22
 ·rw[aq aA]
  rw[ae V,ae V,ae W,ae V,ae aa,ae Z,ae P,ae ac,aq aA]at q
  exact aQ _ V V (by simp[dp,aA])
 rw[ae aA]
 have bg:∀w∈dg f x.args,gF w\/1000<=w:=λw p=>by
  obtain⟨r,ab,rfl⟩:=List.mem_map.1 p;exact ay r (ao r ab).1 (ao r ab).2
 have aT:uO x.op->s.bG<s.dQ:=λK=>by
  have:=j.bG;have:s.bG≠s.dQ:=λN=>bi ⟨K,N⟩;omega
 have a8:∀(d:List bL),s.bG<s.dQ->x.op≠23->x.op≠24->∀(g:a9),fO b g->kK x.op->g.dst=x.dst->fq d (eu (c++[{f with aV:=aV,pc:=f.pc+1},g]))->mr d->(∀e,eR d e<->eR s.heap e)->(∀e,holds [g] e=0)->
  cA b {s with bG:=s.bG+1,heap:=d,ak:=c++[{f with aV:=aV,pc:=f.pc+1},g]}:=λd bu m D g hg S bl hH hT hK bm=>by
  have a3:=j.bG
  have aB:=j.ln
  rw[v]at aB
  have ee:c++[{f with aV:=aV,pc:=f.pc+1},g]=(c++[{f with aV:=aV,pc:=f.pc+1}])++[g]:=E
  have Q:∀e,holds (c++[{f with aV:=aV,pc:=f.pc+1},g]) e=holds s.ak e:=λe=>by
   rw[ee,dH,bm,v,dH,dH,gT,gT];simp
  refine⟨j.fP,j.cR,⟨λN=>by simp at N;omega,λN=>by simp at N⟩,j.value,j.rR,j.dQ,⟨by simp only[];omega,by simp only[];omega⟩,by simp at aB⊢;omega,j.bq,hH,hT,λH n=>?_,λH n=>?_,λB p1 H o n=>?_,λy z=>?_,λy z=>?_⟩
  ·rcases List.mem_append.1 n with n|n
   ·exact aK H n
   ·simp at n
    rcases n with rfl|rfl
    ·exact hG m D
    ·exact hg
  ·have am:=j.first
   rw[v]at am
   cases c with
   |nil=>simp at n;subst n;exact am f E
   |cons ai ys=>simp at n;subst n;exact am ai E
  ·have aj:=j.chain B
   rw[v]at aj
   simp only[]at o n
   rw[ee]at o n
   have aS:=ax n
   simp at aS
   rw[aw bF]at o
   rcases aX (B+1) (c.length+1)with F|F
   ·rw[aw bF]at n
    rw[aw V]at o
    rcases aX (B+1) c.length with h4|h4
    ·rw[aw h4]at n
     exact aj p1 H (by rw[aw V];exact o) (by rw[aw h4];exact n)
    ·rw[aF h4]at n
     have L:B+1 -c.length=0:=V
     rw[L]at n;simp at n;subst n
     exact aj p1 f (by rw[aw V];exact o) (by rw[aF h4,L];rfl)
   ·rw[aF bF]at n
    have L:B+1 -(c++[{f with aV:=aV,pc:=f.pc+1}]).length=0:=bF
    rw[L]at n;simp at n;subst n
    rw[aF V]at o
    have e3:B -c.length=0:=V
    rw[e3]at o;simp at o;subst o
    rw[bl]
    exact⟨al.1,by simp only[];omega,a5 S⟩
  ·rw[Q];exact j.ju y ((hK y).1 z)
  ·rw[Q];exact j.kJ y λF=>z ((hK y).2 F)
 by_cases e9:x.op=9
 ·rw[aq e9]
  rw[ae V,ae V,ae W,aq V]at q
  obtain⟨H,aJ,au,aM⟩:=q
  have A:dp b x=iV b x 0 x.args:=by unfold dp;rw[ae V,ae V,aq V]
  refine a8 s.heap (aT (Or.inl e9)) V V (cv b x.bJ x.dst (dg f x.args)) (sK j.fP aJ au (by simp[dg,aM]) bg) (by unfold kK;omega) rfl (I.congr λe=>?_) j.iy (λ_=>Ul) (nM _ _ _ _)
  rw[eW,A]
  simp only[eu]
  rw[pd,EV];omega
 rw[ae e9]
 by_cases aI:x.op=24
 ·rw[aq aI]
  rw[ae V,ae V,ae W,aq V]at q
  obtain⟨H,aJ,au,aM⟩:=q
  have A:dp b x=iV b x 0 x.args:=by unfold dp;rw[ae V,ae V,aq V]
  obtain⟨aN,aY⟩:=R.zero (Or.inl aI)
  have Q:∀e,holds (c++[cv b x.bJ f.dst (dg f x.args)]) e=holds s.ak e:=λe=>by
   rw[v,dH,dH,nM,gT,mh (λp=>by have:=aY _ p;omega)]
  have bh:=aT (Or.inr (Or.inr aI))
  refine j.ib X v (hd:=rfl) (sK j.fP aJ au (by simp[dg,aM]) bg) (I.congr λe=>?_) j.iy (λy z=>by rw[Q];exact j.ju y z) (λy z=>by rw[Q];exact j.kJ y z) j.bq (bG:=s.bG+1) V
  rw[eW,jI,pd,EV,A,rm aN];omega
 rw[ae aI]
 by_cases au:x.op=11
 ·rw[aq au]
  rw[aq V]at q
  have A:dp b x=x.args:=by unfold dp;rw[aq V]
  have bh:x.args=[u x.args 0,u x.args 1]:=by
   cases hx:x.args with
   |nil=>rw[hx]at q;simp at q
   |cons ai G=>cases G with
    |nil=>rw[hx]at q;simp at q
    |cons a_ G=>cases G with
     |nil=>rfl
     |cons _ _=>rw[hx]at q;simp at q
  have aJ:0<=u x.args 1/\u x.args 1<f.av.length:=ao _ (il V V)
  obtain⟨J,bk,bw,bj,aM,aR⟩:=R.apply au
  obtain⟨K,aD⟩:=cq J
  obtain⟨H,n⟩:=ag (l:=b.cB) (k:=((aW s.heap (u f.av (u x.args 0))).lA -fH b).toNat) V
  have a_:dF b ((aW s.heap (u f.av (u x.args 0))).lA -fH b)=H:=by simp[dF,n]
  rw[a_]at bj aM
  have G:∀e,dJ ((dp b x).map (u f.av)) e=(if e=ix (u f.av (u x.args 0))then 1 else 0)+dJ [u f.av (u x.args 1)] e:=λe=>by
   rw[A,bh];simp only[cb,eJ];rw[gN]
   ·rfl
   ·exact J.1
  obtain⟨Y,k2,k3⟩:=I.apart J (by simp only[G,aq];have:=ap (ix (u f.av (u x.args 0)));have:=gB [u f.av (u x.args 1)] (ix (u f.av (u x.args 0)));omega) aR
   (e':=eu (c++[{f with aV:=aV,pc:=f.pc+1},cv b ((aW s.heap (u f.av (u x.args 0))).lA -fH b) x.dst ((aW s.heap (u f.av (u x.args 0))).aI++[u f.av (u x.args 1)])])) (λe=>by
    rw[eW,G];simp only[eu];rw[pd,a_,List.length_eq_zero_iff.1 aM,Gs,mM];omega) j.iy
  refine a8 _ (aT (Or.inr (Or.inl au))) V V _ (sK j.fP bk n bF λw p=>?_) (by unfold kK;omega) rfl Y k3 k2 (nM _ _ _ _)
  rcases List.mem_append.1 p with p|p
  ·rcases((I.cell _ (ar K)).ov aD).1 w p with D|D
   ·exact Or.inl D
   ·exact Or.inr D.1
  ·simp at p;subst p;exact ay _ aJ.1 aJ.2
 rw[ae au]
 have aD:x.op=23:=by
  rw[ae V]at q;by_cases aD:x.op=23
  ·exact aD
  ·rw[ae V,ae W,ae V,ae aa,ae Z,ae P,ae ac,ae aA,ae an]at q;exact q.elim
 rw[ae V,aq V]at q
 have z:=az V
 have A:dp b x=[u x.args 0]:=by unfold dp;rw[aq V];exact aP V
 obtain⟨aN,aY⟩:=R.zero (Or.inr aD)
 have aR:∀e,holds [f] e=0:=λe=>by rw[gT];exact mh (λp=>by have:=aY _ p;omega)
 split
 ·rename_i J
  have aJ:c=[]:=List.getLast?_eq_none_iff.1 J
  subst aJ
  have G:=R.ret aD
  have aC:=a7 _ z.1 z.2 (by rcases G with m|m;(rw[v]at m;simp at m);exact m)
  have a3:=j.bG
  refine⟨j.fP,⟨E,E⟩,E,aC,E,j.dQ,j.bG,bF,j.bq,I.congr λe=>?_,j.iy,E,E,E,λy O=>?_,λy O=>?_⟩
  ·rw[A,rm aN]
   simp only[eu,cb,eJ]
   rw[mh (by simp;have:=aC.2;omega)];rfl
  ·have m:=j.ju y O
   rw[v]at m
   have D:=aR y
   simp only[dS]at m
   omega
  ·simp[holds]
 ·rename_i G J
  have aJ:c=c.dropLast++[G]:=by
   have a_:c≠[]:=λN=>by rw[N]at J;simp at J
   rw[lT a_]at J;simp at J;rw[<-J];exact(gW a_).symm
  generalize c.dropLast=fs' at aJ
  subst aJ
  have aC:fO b G:=aK G E
  obtain⟨aM,bh,bj⟩:=j.chain fs'.length G f (by rw[v];simp) (by rw[v];simp)
  have bk:f.dst<G.av.length:=by have:=aC.lr;have:=aC.lo;omega
  have a3:=j.bG
  have aB:=j.ln
  rw[v]at aB
  have Q:∀e,holds (fs'++[G.put f.dst (u f.av (u x.args 0)) (iR (u f.av (u x.args 0)))]) e=holds s.ak e:=λe=>by
   rw[v,dH,dH,aR,dH,gT,gT];simp[a9.put]
  refine⟨j.fP,j.cR,⟨λN=>by simp at N;omega,λN=>by simp at N⟩,j.value,j.rR,j.dQ,j.bG,by simp at aB⊢;omega,j.bq,I.congr λe=>?_,j.iy,λH n=>?_,λH n=>?_,λB p1 H o n=>?_,λy O=>by rw[Q];exact j.ju y O,λy O=>by rw[Q];exact j.kJ y O⟩
  ·rw[eW,jI,eW,jI,A,rm aN]
   simp only[a9.put,cb,eJ]
   rw[KJ aM bk bh bj,uQ];omega
  ·rcases List.mem_append.1 n with n|n
   ·exact aK H (bH _ n)
   ·simp at n;subst n
    exact aC.put aM (ay _ z.1 z.2) (EW _) Br
  ·have am:=j.first
   rw[v]at am
   cases fs' with
   |nil=>simp at n;subst n;exact am G E
   |cons ai ys=>simp at n;subst n;exact am ai E
  ·have aj:=j.chain B
   rw[v]at aj
   simp only[]at o n
   have aS:=ax n
   simp at aS
   rw[aw V]at o
   have e1:(fs'++[G]++[f])[B]? =some p1:=by rw[aw bF,aw V];exact o
   rcases aX (B+1) fs'.length with F|F
   ·rw[aw F]at n
    exact aj p1 H e1 (by rw[aw bF,aw F];exact n)
   ·rw[aF F]at n
    have L:B+1 -fs'.length=0:=V
    rw[L]at n;simp at n;subst n
    exact aj p1 G e1 (by rw[aw bF,aF F,L];rfl)
def Ph(h:cA b s):cA b (rI b s):=by
 unfold rI;by_cases d:s.cR=3
 ·rw[ae (by simpa using d)];obtain⟨c,f,a⟩:=h.split d;have i:s.ak.getLast?=some f:=by rw[a];simp
  have j:s.ak.dropLast=c:=by rw[a];simp
  rw[i,j];simp only[];have g:∀n,1<=n->n<=2->cA b {s with cR:=n}:=λn l m=>
   ⟨h.fP,⟨by simp only[];omega,by simp only[];omega⟩,⟨λe=>by simp only[]at e;omega,λe=>by simp only[]at e;rw[a]at e;simp at e⟩,h.value,λe=>by have:=h.rR e;omega,h.dQ,h.bG,h.ln,h.bq,h.heap,h.iy,h.ak,h.first,h.chain,h.ju,h.kJ⟩
  split
  ·exact g 1 V V
  ·rename_i e;split
   ·rename_i k;exact Og h d a k e
   ·exact g 2 V V
 ·rw[aq (by simpa using d)];exact h
end
section
variable{a:cL}
def rem(a:cL):List a9->Int
 |[]=>0
 |f::b=>((dF a f.eU).cG.length -f.pc)+rem a b
noncomputable def aA (a:cL):Nat->St->St
 |0,s=>s
 |n+1,s=>aA a n (rI a s)
def Jz(a:cL):∀(n:Nat)(s:St),aA a (n+1) s=rI a (aA a n s)
 |0,s=>rfl
 |n+1,s=>by rw[aA,Jz a n,aA]
def Jx{a:cL}:∀(n:Nat){s:St},cA a s->cA a (aA a n s)
 |0,s,h=>h
 |n+1,s,h=>Jx n (Ph h)
def vw{s:St}(h:s.cR≠3):rI a s=s:=by unfold rI;rw[aq h]
def AU{a:cL}:∀(n:Nat){s:St},s.cR≠3->aA a n s=s
 |0,s,_=>rfl
 |n+1,s,h=>by rw[aA,vw h,AU n h]
def kA(a:cL)(dQ:Int):St:=⟨3,0,0,dQ,[],[],[cv a 0 0 []]⟩
def Jv{dQ:Int}(c:lO a)(p:0<=dQ/\dQ<=40):cA a (kA a dQ):=by
 have s:=c.pC.len;obtain⟨q,i⟩:=ag (l:=a.cB) (k:=0) V;have n:=c.pC.first q i;have m:=sK (j:=0) (e:=[]) c (dY 0) i (by simp[n.1]) E;have h:∀f,eu [cv a 0 0 []] f=0:=λf=>by rw[jI,pd];simp[cz]
 refine⟨c,by simp[kA],by simp[kA],by simp[kA,gF],by simp[kA],p,by simp[kA];omega,by simp[kA],by simp[kA],⟨by simp[kA],⟨λ_=>0,by simp[kA]⟩,by simp[kA],λd=>by simp only[kA];rw[h];omega,λd b=>by simp only[kA]at b;rw[h]at b;omega⟩,?_,?_,?_,?_,λd⟨j,e,_⟩=>by simp[kA]at e,λd _=>nM _ _ _ _ _⟩
 ·intro j e;simp[kA]at e
 ·intro g b;simp[kA]at b;subst b;exact m
 ·intro g b;simp[kA]at b;subst b;rfl
 ·intro t g r b o;simp[kA]at o
end
section
variable{a:List bO}{k:Nat}{m:I}
def kC{d:bO}:Eu a k d<->((wU a.length d.rV/\wU a.length d.to/\d.cons.length<=3/\(0<d.cons.length->d.rV=0/\d.to=0))/\
 (∀h∈d.cons,h.length<=3/\CG a.length h)/\∀e∈a.take k,¬(d.cons.length=0/\e.cons.length=0/\e.rV=d.rV/\e.to=d.to)):=by
 constructor
 ·intro l
  rcases jm d.cons.length with b|b
  ·obtain⟨c,f,g⟩:=l.O8 b
   refine⟨⟨f,g,V,λl=>V⟩,λh m=>?_,λe i j=>c e i j.2⟩
   rw[List.length_eq_zero_iff.1 b]at m;cases m
  ·obtain⟨c,f,g,h⟩:=l.gR b
   exact⟨⟨by unfold wU;omega,by unfold wU;omega,c,λ_=>⟨f,g⟩⟩,h,λe i j=>V⟩
 ·rintro⟨⟨c,f,g,h⟩,l,m⟩
  exact⟨λb=>⟨g,(h b).1,(h b).2,l⟩,λb=>⟨λe i j=>m e i ⟨b,j⟩,c,f⟩⟩
def Bm{aY:O}(C:bR m aY a):dq bY 76 [O.v aY] m (dx a):=by
 apply vW;simp -zeta only[aE,aD];have w:=C.len;have ap:=C.cap;refine dit (λab=>?_) λab=>?_
 ·exact bX (λb=>by have:=b.len;omega) (J.aC _)
 refine eg (n:=a.length) V (λk f=>J m f/\∀(j:Nat)(d:bO),j<k->a[j]? =some d->Eu a j d) ⟨J.aC _,E⟩ ?_;rintro j x am μ hj ⟨L,W⟩ al
 refine dit (λh1=>?_) λh1=>?_
 ·obtain⟨d,G⟩:=ag (l:=a) (k:=j) V;obtain⟨B,H,g0,g1,g2⟩:=(bR.ext L C).u G;have av:=H.len;refine⟨V,V,_,g0,_,g1,B,g2,?_⟩;intro m2 r;have M:J x r:=((J.aC x).aM _).aj (ad _) _ _;have K:∀s∈[x.size],s<r.size:=by simp[r,m2,az]
  clear_value r;have N:=L.trans M;have i:∀{f:I},J r f->¬Eu a j d->∃Q:Bool,vb false=.bool Q/\(Q=true<->dx a)/\J m f:=λai ah=>bX (λb=>ah (b.dh j d G)) (N.trans ai);refine⟨λf=>J r f/\wU a.length d.rV/\wU a.length d.to/\d.cons.length<=3/\(0<d.cons.length->d.rV=0/\d.to=0),?_,?_⟩
  ·refine(nI _ _ _).aG (J.aC _) K λs m4 g R t=>⟨_,rfl,λe=>?_,λe=>?_⟩
   ·exact i t λb=>nb g e (w▸(kC.1 b).1.1)
   have q:=yb g e;refine(nI _ _ _).aG t K λs v g u c=>⟨_,rfl,λh=>?_,λh=>?_⟩
   ·exact i c λb=>nb g h (w▸(kC.1 b).1.2.1)
   have y:=yb g h;rw[w]at q y;refine dit (λz=>?_) λz=>?_
   ·exact i c λb=>by have:=(kC.1 b).1.2.2.1;omega
   refine dit (λA=>?_) λA=>?_
   ·refine⟨λo=>?_,λo=>?_⟩
    ·simp only[tC]at o;exact i c λb=>o ((kC.1 b).1.2.2.2 V).1
    simp only[fE]at o;refine⟨λp=>?_,λp=>?_⟩
    ·simp only[tC]at p;exact i c λb=>p ((kC.1 b).1.2.2.2 V).2
    simp only[fE]at p;exact⟨c,q,y,V,λ_=>⟨o,p⟩⟩
   ·exact⟨c,q,y,V,λo=>V⟩
  ·rintro m4 ⟨Z,af⟩;have au:=ns.ext (M.trans Z) H;refine eg (n:=d.cons.length) V (λk f=>J r f/\∀B∈d.cons.take k,B.length<=3/\CG a.length B) ⟨Z,E⟩ ?_;rintro P v I2 μ2 hi ⟨o,X⟩ aj;refine dit (λR=>?_) λR=>?_
   ·obtain⟨D,p⟩:=ag (l:=d.cons) (k:=P) V;obtain⟨S,F,T⟩:=(ns.ext (M.trans o) H).u p;have Y:=F.len;refine⟨V,V,S,T,?_⟩;intro y z;have q:J v z:=((J.aC v).aM _).aj (ad _) _ _;have U:∀s∈[v.size,x.size],s<z.size:=by
     have:=o.lt (K x.size E);simp[z,y,az];omega
    clear_value z;refine dit (λt=>?_) λt=>?_
    ·exact i (o.trans q) λb=>by have:=((kC.1 b).2.1 D (ar p)).1;omega
    refine(tL (F.ext q) _).aG (J.aC _) U λs A g e u=>⟨_,rfl,λc=>?_,λc=>?_⟩
    ·exact i ((o.trans q).trans e) λb=>nb g c (w▸((kC.1 b).2.1 D (ar p)).2)
    ·exact aj V _ ⟨(o.trans q).trans e,bA p X ⟨V,w▸yb g c⟩⟩
   ·have ac:=cJ V X;refine⟨V,V,V,?_⟩;have S:bR v (aY.cut 0 j 3) (a.take j):=dT.RJ (bR.ext (N.trans o) C) V;have ao:(aY.cut 0 j 3).len=j:=by rw[S.len];simp;omega
    simp -zeta only[rS,Int.toNat_zero];refine eg (n:=j) V (λk f=>J v f/\∀g∈a.take k,¬(d.cons.length=0/\g.cons.length=0/\g.rV=d.rV/\g.to=d.to)) ⟨J.aC _,E⟩ ?_;rintro q y I3 μ3 ay ⟨F,Y⟩ ak;refine dit (λt=>?_) λt=>?_
    ·obtain⟨g,T⟩:=ag (l:=a) (k:=q) V;have U:(a.take j)[q]? =some g:=by rw[lZ,aq V];exact T
     obtain⟨f',ae,q0,q1,q2⟩:=(bR.ext F S).u U;have aw:=ae.len;refine⟨V,V,_,q0,_,q1,f',q2,?_⟩;intro z A;have aa:J y A:=((J.aC y).aM _).aj (ad _) _ _;clear_value A;have D:¬(d.cons.length=0/\g.cons.length=0/\g.rV=d.rV/\g.to=d.to)->I3 (cO ((q:Int)+1)) A/\μ3 (cO ((q:Int)+1)) A<μ3 q y:=λp=>ak V _ ⟨F.trans aa,bA T Y p⟩;refine⟨λe=>?_,λe=>?_⟩
     ·simp only[aL]at e;refine⟨λu=>?_,λu=>?_⟩
      ·simp only[aL]at u;refine⟨λc=>?_,λc=>?_⟩
       ·simp only[aL]at c;refine⟨λh=>?_,λh=>?_⟩
        ·simp only[aL]at h;exact i ((o.trans F).trans aa) λb=>(kC.1 b).2.2 g (ar U) ⟨V,V,c,h⟩
        ·simp only[an]at h;exact D λp=>h p.2.2.2
       ·simp only[an]at c;exact D λp=>c p.2.2.1
      ·simp only[an]at u;exact D λp=>u V
     ·simp only[an]at e;exact D λp=>e V
    ·have:q=j:=V;subst this;refine al V _ ⟨(N.trans o).trans F,λc e h b=>?_⟩
     by_cases g:c=q
     ·subst g;rw[G]at b;simp at b;subst b;exact kC.2 ⟨af,ac,Y⟩
     ·exact W c e V b
 ·exact je ⟨V,λP d bz=>W P d (by have:=ax bz;omega) bz⟩ L
def Lh(m:I)(b:List Ce)(p:cY):Prop:=∃a l,b=[.s a,.s l,.i p.aR]/\au m a p.params/\au m l p.cV
def Lh.ext{m d:I}(b:J m d)(a:List Ce)(c:cY):Lh m a c->Lh d a c:=λ⟨f,g,e,h,i⟩=>⟨f,g,e,h.ext b,i.ext b⟩
abbrev nC(m:I)(s:O)(l:List cY):Prop:=dT m 3 (Lh m) s l
def nC.ext{m b:I}(a:J m b){s:O}{l:List cY}(h:nC m s l):nC b s l:=h.mono a (Lh.ext a)
def nC.u{s:O}{l:List cY}(h:nC m s l){x:cY}(f:l[k]? =some x):
 ∃a b,au m a x.params/\au m b x.cV/\D m s.F (s.off+k*3)=some (O.v a)/\D m s.F (s.off+k*3+1)=some (O.v b)/\D m s.F (s.off+k*3+2)=some (vi x.aR):=by
 obtain⟨g,⟨a,b,rfl,d,e⟩,c⟩:=h.jA k x f
 exact⟨a,b,d,e,c 0 (.s a) rfl,c 1 (.s b) rfl,c 2 (.i x.aR) rfl⟩
def Dg{aa ab:O}{d:List cY}(hd:bR m aa a)(R:nC m ab d):
 dq bY 45 [O.v aa,O.v ab] m (HT a d/\∀p∈d,Be p.params p.cV):=by
 apply xu
 simp -zeta only[aE,aD]
 have Q:=hd.len
 have aF:=R.len
 refine(Bm hd).then λw m1 f g=>⟨_,rfl,λI=>?_,λI=>?_⟩
 ·exact bX (λb=>nb f I b.1.types) g
 have ht:=yb f I
 refine dit (λh2=>?_) λh2=>?_
 ·exact bX (λb=>by have:=b.1.len;omega) g
 refine dit (λh3=>?_) λh3=>?_
 ·exact bX (λb=>by have:=b.1.len;omega) g
 obtain⟨p0,B⟩:=ag (l:=d) (k:=0) V
 obtain⟨a0,l0,ap,aG,g0,g1,g2⟩:=(nC.ext g R).u B
 have aB:=ap.len
 refine⟨V,V,a0,g0,dit (λh4=>?_) λh4=>?_⟩
 ·exact bX (λb=>by have:=(b.1.first p0 B).1;omega) g
 refine⟨V,V,_,g2,λu=>?_,λu=>?_⟩
 ·simp only[tC]at u
  exact bX (λb=>u (b.1.first p0 B).2) g
 simp only[fE]at u
 refine eg (n:=d.length) V (λj X=>J m X/\∀p∈d.take j,(p.params.length<=3/\CG a.length p.params/\wU a.length p.aR)/\Be p.params p.cV) ⟨g,E⟩ ?_
 rintro j D ay μ hj ⟨q,hn⟩ aw
 refine dit (λh6=>?_) λh6=>?_
 ·obtain⟨p,o⟩:=ag (l:=d) (k:=j) V
  obtain⟨ak,av,P,A,q0,q1,q2⟩:=(nC.ext q R).u o
  have aC:=P.len
  have aI:=A.len
  have aH:=A.gA
  refine⟨V,V,ak,q0,av,q1,_,q2,?_⟩
  intro m3 F
  have r:J D F:=((J.aC D).aM _).aj (ad _) _ _
  have ac:∀w∈[D.size],w<F.size:=by simp[F,m3,az]
  clear_value F
  refine dit (λh7=>?_) λh7=>?_
  ·exact bX (λb=>by have:=(b.1.dh p (ar o)).1;omega) (q.trans r)
  refine(tL (P.ext r) _).aG (J.aC _) ac λw m5 f h8 h9=>⟨_,rfl,λK=>?_,λK=>?_⟩
  ·exact bX (λb=>nb f K (Q▸(b.1.dh p (ar o)).2.1)) ((q.trans r).trans h8)
  have af:=yb f K
  refine(nI _ _ _).aG h9 ac λw Y f aA L=>⟨_,rfl,λM=>?_,λM=>?_⟩
  ·exact bX (λb=>nb f M (Q▸(b.1.dh p (ar o)).2.2)) ((q.trans r).trans L)
  have ae:=yb f M
  rw[Q]at af ae
  have ah:J m Y:=(q.trans r).trans L
  have U:J D Y:=r.trans L
  refine eg (n:=p.cV.length) V (λk X=>X=Y/\∀(j:Nat)(v:Int),j<k->p.cV[j]? =some v->(∃t,0<=v/\p.params[v.toNat]? =some t/\t≠0)/\(∀G:Int,0<j->p.cV[j -1]? =some G->G<v)) ⟨rfl,E⟩ ?_
  rintro k m7 I2 μ2 hk ⟨rfl,S⟩ ai
  have y:¬Be p.params p.cV->∃Z:Bool,vb false=.bool Z/\(Z=true<->HT a d/\∀p∈d,Be p.params p.cV)/\J m m7:=λau=>bX (λb=>au (b.2 p (ar o))) ah
  refine dit (λal=>?_) λal=>?_
  ·obtain⟨x,h⟩:=ag (l:=p.cV) (k:=k) V
   refine⟨V,V,x,by simpa using U.D (A.u h),dit (λam=>?_) λam=>?_⟩
   ·exact y λb=>by obtain⟨⟨t,z,_⟩,_⟩:=b k x h;omega
   refine⟨λz=>?_,λz=>?_⟩
   ·simp only[wS,ao]at z
    refine y λb=>?_
    obtain⟨⟨t,_,e,_⟩,_⟩:=b k x h
    have:=ax e;omega
   simp only[wS,bN]at z
   obtain⟨t,C⟩:=ag (l:=p.params) (k:=x.toNat) V
   refine⟨V,V,t,by simpa using U.D (P.u C),λe=>?_,λe=>?_⟩
   ·simp only[aL]at e
    refine y λb=>?_
    obtain⟨⟨c,_,s,N⟩,_⟩:=b k x h
    rw[C]at s;simp at s;exact N (s▸e)
   simp only[an]at e
   refine dit (λs=>?_) λs=>?_
   ·have e2:cO ((k:Int) -1)=((k -1:Nat):Int):=by rw[aP V V];omega
    obtain⟨aj,W⟩:=ag (l:=p.cV) (k:=k -1) V
    rw[e2]
    refine⟨V,V,aj,by simpa using U.D (A.u W),dit (λN=>?_) λN=>?_⟩
    ·exact y λb=>by have:=(b k x h).2 aj V W;omega
    ·refine ai V _ ⟨rfl,λi v aq c=>?_⟩
     by_cases H:i=k
     ·subst H
      rw[h]at c;simp at c;subst c
      refine⟨⟨t,V,C,e⟩,λG _ T=>?_⟩
      rw[W]at T;simp at T;subst T;omega
     ·exact S i v V c
   ·refine ai V _ ⟨rfl,λi v aq c=>?_⟩
    by_cases H:i=k
    ·subst H
     rw[h]at c;simp at c;subst c
     exact⟨⟨t,V,C,e⟩,λG N _=>V⟩
    ·exact S i v V c
  ·exact aw V _ ⟨ah,bA o hn ⟨⟨V,af,ae⟩,λi v c=>S i v (by have:=ax c;omega) c⟩⟩
 ·have c:=cJ V hn
  refine je ⟨⟨ht,V,λp b=>(c p b).1,λp b=>?_⟩,λp b=>(c p b).2⟩ q
  rw[B]at b;simp at b;subst b
  exact⟨V,u⟩
end
section
variable{m:I}{d f a j:O}{b:cL}{i:Instr}
def Dd{K:O}(p:eX m d K b):
 aN bY 19 [.agg #[O.v d,O.v K]] m λaq v=>∃W f c,aq=.tuple #[.agg #[O.v W,O.v f],vb c]/\(c=true<->HT b.aY b.cB/\∀K∈b.cB,Be K.params K.cV)/\
  (c=true->W=d/\nC v f b.cB)/\J m v:=by
 apply xr
 simp -zeta only[aE,aD]
 intro I g
 have av:=p.cB.len
 have s1:I.size=m.size+1:=by simp[I]
 have s2:g.size=m.size+2:=by simp[g,I]
 have ac:J m g:=((J.aC m).aM _).aM _
 refine dit (λh1=>?_) λh1=>?_
 ·intro e
  exact⟨_,_,_,rfl,⟨λp=>by simp at p,λp=>by have:=p.1.len;omega⟩,λp=>by simp at p,ac.aj V _ _⟩
 intro m4 F
 have s5:F.size=m.size+3:=by simp[F,m4,az,s2]
 have ao:J m F:=(ac.aM _).aj V _ _
 have aj:cD F g.size kH [.s d,.s .nil]:=cD.aj (m:=m4) (o:=0) (r:=[.s d,.s .nil]) (cD.push g _ _)
 clear_value F
 refine eg (n:=b.cB.length) V (λP v=>J m v/\F.size<=v.size/\∃e y,cD v g.size kH [.s d,.s e]/\iZ m v oc 3 e y.flatten/\fX 3 (Lh m) y (b.cB.take P)/\(e≠.nil->g.size<e.F)/\e.len=P)
  ⟨ao,ad _,.nil,[],aj,iZ.nil _ _ _ _,by simpa using fX.nil 3 (Lh m),E,rfl⟩ ?_
 rintro P h ar μ hk ⟨q,aw,e,y,u,M,N,S,ab⟩ ap
 refine dit (λh2=>?_) λh2=>?_
 ·obtain⟨Q,hq⟩:=ag (l:=b.cB) (k:=P) V
  obtain⟨a,c,ae,ha,s,A,g0,g1,g2,g3,g4⟩:=p.cB.u hq
  refine⟨V,V,a,by simpa using q.D g0,c,by simpa using q.D g1,_,by simpa using q.D g2,_,by simpa using q.D g3,ae,by simpa using q.D g4,?_⟩
  intro U i
  have H:J h i:=((J.aC h).aM _).aj (ad _) _ _
  have s8:i.size=h.size+1:=by simp[i,U,az]
  clear_value i
  refine⟨e,(u.ext H).cy 1,?_⟩
  intro w
  have T:J h w:=H.aM _
  have s9:w.size=h.size+2:=by simp[w,s8]
  have am:fU w i.size 0 [.s a,.s c,.i Q.aR]:=(cD.push i _ _).jA
  clear_value w
  refine iZ.append (zs:=[.s .nil,.s .nil,.i 0]) (c:=[.s a,.s c,.i Q.aR]) (M.ext T) (q.trans T) rfl am (by simp[ab];omega) ?_
  intro x C h7 h8 X au af ah
  have aa:x≠.nil->g.size<x.F:=by
   intro B;rcases ah with⟨_,z⟩|⟨al,z,_⟩|z
   ·exact absurd z B
   ·have:=S al;omega
   ·omega
  have L:∀j,j<w.size->j<=g.size\/j=h.size/\(e=.nil\/e.F<h.size)->C[j]? =w[j]? :=by
   intro j t A;refine af j t λB=>?_;have:=S B;rcases A with A|⟨rfl,A|A⟩
   ·omega
   ·exact absurd A B
   ·omega
  have ak:e=.nil\/e.F<h.size:=M.lt
  have Y:cD C g.size kH [.s d,.s e]:=(u.ext T).congr (L _ V (Or.inl (ad _)))
  refine⟨λj t=>?_,Y.fu E,?_⟩
  ·simp at t
   rcases t with rfl|rfl|rfl
   ·exact L _ V (Or.inr ⟨rfl,ak⟩)
   ·exact L _ V (Or.inl V)
   ·exact L _ V (Or.inl V)
  intro D
  have ax:D.size=C.size:=by simp[D,az]
  have ai:cD D g.size kH [.s d,.s x]:=cD.aj (m:=C) (o:=1) (r:=[.s x]) Y
  have Z:∀c,c≠g.size->D[c]? =C[c]? :=λc s=>bn _ _ _ _ s
  have an:J m D:=h8.aj V _ _
  clear_value D
  refine⟨λj t=>?_,?_⟩
  ·simp at t
   rcases t with rfl|rfl|rfl<;>exact Z _ V
  refine ap V _ ⟨an,V,x,y++[[.s a,.s c,.i Q.aR]],ai,?_,?_,aa,by simp[X,ab]⟩
  ·rw[vR]
   have R:iZ m C oc 3 x (y.flatten++[[.s a,.s c,.i Q.aR]].flatten):=by simpa using h7
   rcases R.lt with z|z
   ·subst z;exact⟨R.len,Or.inl rfl⟩
   ·refine R.congr (Z _ λe2=>?_)
    by_cases G:x=.nil
    ·subst G
     have:=X
     simp at this
    ·have:=aa G;omega
  ·rw[bK hq]
   exact N.xH rfl ⟨a,c,rfl,ha,s⟩
 ·rw[cE V]at N
  have z:nC h e b.cB:=(dT.iC M N V V).mono (J.aC _) (Lh.ext q)
  refine⟨d,u.cy 0,e,u.cy 1,e,u.cy 1,?_⟩
  have w:∀c∈[I.size,m.size],c<h.size:=bF
  refine(Dg (bR.ext q p.aY) z).aG (J.aC _) w λc U s j _=>⟨_,rfl,j.dk (u.cy 0),j.dk (u.cy 1),?_⟩
  intro i
  have B:∀c,c≠I.size->i[c]? =U[c]? :=λc s=>bn _ _ _ _ s
  have H:J m i:=(q.trans j).aj V _ _
  refine⟨d,e,c,rfl,s,λ_=>⟨rfl,?_⟩,H⟩
  have t:=M.ext j
  have x:iZ m i oc 3 e y.flatten:=by
   by_cases G:e=.nil
   ·subst G;exact⟨t.len,Or.inl rfl⟩
   ·exact t.congr (B _ (by have:=S G;omega))
  exact(dT.iC x N V V).mono (J.aC _) (Lh.ext H)
def fC(b:cL)(i:Instr)(a:Int->Prop):Prop:=
 if i.op=0 then -999<=i.bJ/\i.bJ<=999
 else if i.op=6 then 0<=i.bJ/\i.bJ<(eD b.aY).length
 else if i.op=9\/i.op=24 then 0<=i.bJ/\i.bJ<b.cB.length
 else if i.op=10 then 0<=i.bJ/\∃q,b.cB[i.bJ.toNat]? =some q/\q.cV.length=0
 else if i.op=19 then 0<=i.bJ/\i.bJ<3
 else if i.op=20\/i.op=22 then a i.bJ
 else if i.op=21 then 0<(bU b.aY i.bJ).length/\i.dR.length=(bU b.aY i.bJ).length
 else i.bJ=0
def EM(C:bR m d b.aY)(z:dx b.aY)(D:nC m f b.cB)(U:au m a i.args)(K:au m j i.dR)(v:Nat)(x w:Array Value)(I:GL.elem v=true)(n:Int->Prop)
 (M:∀c,J m c->dq bY v (x.toList++[vi i.bJ]++w.toList) c (n i.bJ)):
 dq bY 49 [.agg #[O.v d,O.v f],.agg #[vi i.op,vi i.dst,vi i.bJ,vi i.bV,O.v a,O.v j],.func (.func v) x w] m (fC b i n):=by
 apply oJ d f i.op i.dst i.bJ i.bV a j (.func v,x,w)
 simp -zeta only[aE,aD]
 intro A t
 have c:J m t:=((J.aC m).aM _).aM _
 have y:∀B∈[A.size,m.size],B<t.size:=by simp[t,A];omega
 have X:=D.len
 have Y:=K.len
 have H:cD t A.size dB [.i i.op,.i i.dst,.i i.bJ,.i i.bV,.s a,.s j]:=cD.push _ _ _
 clear_value t
 refine⟨λg=>?_,λg=>?_⟩
 ·simp only[aL]at g
  rw[show fC b i n<->-999<=i.bJ/\i.bJ<=999 by rw[fC,aq g]]
  refine⟨λh=>fB ?_ c,λh=>bX ?_ c⟩<;>simp at h
  ·simp;omega
  ·omega
 simp only[an]at g
 refine⟨λo=>?_,λo=>?_⟩
 ·simp only[aL]at o
  rw[show fC b i n<->0<=i.bJ/\i.bJ<(eD b.aY).length by rw[fC,ae g,aq o]]
  refine⟨λh=>?_,λh=>bX ?_ c⟩<;>simp at h
  ·refine(tO (bR.ext c C) z.len (OJ z)).aG (J.aC _) y λF e _=>⟨_,rfl,e.dk (H.cy 2),fB ?_ (c.trans e)⟩
   simp;omega
  ·omega
 simp only[an]at o
 refine⟨λp=>?_,λp=>?_⟩
 ·simp only[cr,aL]at p
  rw[show fC b i n<->0<=i.bJ/\i.bJ<b.cB.length by rw[fC,ae g,ae o,aq p]]
  refine⟨λh=>fB ?_ c,λh=>bX ?_ c⟩<;>simp at h
  ·simp;omega
  ·omega
 simp only[bP,an]at p
 replace p:¬(i.op=9\/i.op=24):=V
 refine⟨λq=>?_,λq=>?_⟩
 ·simp only[aL]at q
  rw[show fC b i n<->0<=i.bJ/\∃r,b.cB[i.bJ.toNat]? =some r/\r.cV.length=0 by rw[fC,ae g,ae o,ae p,aq q]]
  refine⟨λh=>⟨λs=>?_,λs=>?_⟩,λh=>bX ?_ c⟩<;>simp at h
  ·simp at s
   obtain⟨r,u⟩:=ag (l:=b.cB) (k:=i.bJ.toNat) V
   obtain⟨P,N,W,L,Q,G,R⟩:=(nC.ext c D).u u
   have:=L.len
   refine⟨V,V,N,G,fB ?_ c⟩
   simp only[aL]
   refine⟨λS=>⟨h,r,u,V⟩,λ⟨_,Z,e,T⟩=>?_⟩
   rw[u]at e;simp at e;subst e;omega
  ·simp at s
   exact bX (λ⟨_,r,e,_⟩=>by have:=ax e;omega) c
  ·omega
 simp only[an]at q
 refine⟨λr=>?_,λr=>?_⟩
 ·simp only[aL]at r
  rw[show fC b i n<->0<=i.bJ/\i.bJ<3 by rw[fC,ae g,ae o,ae p,ae q,aq r]]
  refine⟨λh=>fB ?_ c,λh=>bX ?_ c⟩<;>simp at h
  ·simp;omega
  ·omega
 simp only[an]at r
 refine⟨λs=>?_,λs=>?_⟩
 ·simp only[cr,aL]at s
  rw[show fC b i n<->n i.bJ by rw[fC,ae g,ae o,ae p,ae q,ae r,aq s]]
  exact⟨v,rfl,I,(M t c).aG (J.aC _) y λB F u e _=>⟨_,rfl,fB u (c.trans e)⟩⟩
 simp only[bP,an]at s
 replace s:¬(i.op=20\/i.op=22):=V
 refine⟨λu=>?_,λu=>?_⟩
 ·simp only[aL]at u
  rw[show fC b i n<->0<(bU b.aY i.bJ).length/\i.dR.length=(bU b.aY i.bJ).length by rw[fC,ae g,ae o,ae p,ae q,ae r,ae s,aq u]]
  refine(IA (bR.ext c C) z _).aG (J.aC _) y ?_
  rintro _ F ⟨L,rfl,G,e⟩
  have:=G.len
  refine⟨e,_,rfl,λh=>fB ?_ (c.trans e),λh=>bX ?_ (c.trans e)⟩<;>simp at h
  ·simp only[aL];omega
  ·omega
 ·simp only[an]at u
  rw[show fC b i n<->i.bJ=0 by rw[fC,ae g,ae o,ae p,ae q,ae r,ae s,ae u]]
  exact fB E c
def fL(b:cL)(i:Instr)(c a:Int):Prop:=
 if i.op=0\/i.op=22 then c=0/\a=0
 else if i.op=1\/i.op=2\/i.op=3\/i.op=4\/i.op=11 then c=2/\a=2
 else if i.op=6 then c=(bT b.aY i.bJ).length/\a=(bT b.aY i.bJ).length
 else if i.op=9\/i.op=24 then∃q,b.cB[i.bJ.toNat]? =some q/\c=q.params.length/\a=q.params.length
 else if i.op=10 then∃q,b.cB[i.bJ.toNat]? =some q/\c=(q.params.length:Int) -1/\a=(q.params.length:Int) -1
 else if i.op=16\/i.op=17 then c=1/\a=4
 else c=1/\a=1
def Iz(I:bR m d b.aY)(C:dx b.aY)(z:nC m f b.cB){N:Int->Prop}(v:fC b i N):
 aN bY 50 [.agg #[O.v d,O.v f],.agg #[vi i.op,vi i.dst,vi i.bJ,vi i.bV,O.v a,O.v j]] m λQ P=>∃D B:Int,Q=.tuple #[vi D,vi B]/\fL b i D B/\J m P:=by
 apply pP
 simp -zeta only[aE,aD]
 intro E w
 have e:J m w:=((J.aC m).aM _).aM _
 have K:∀F∈[E.size,m.size],F<w.size:=by simp[w,E];omega
 have S:=z.len
 clear_value w
 refine⟨λg=>?_,λg=>?_⟩
 ·simp only[cr,aL]at g
  exact⟨_,_,rfl,by rw[fL,aq g];exact⟨rfl,rfl⟩,e⟩
 simp only[bP,an]at g
 have n:¬(i.op=0\/i.op=22):=V
 refine⟨λs=>?_,λs=>?_⟩
 ·simp only[cr,aL]at s
  exact⟨_,_,rfl,by rw[fL,ae n,aq s];exact⟨rfl,rfl⟩,e⟩
 simp only[bP,an]at s
 have p:¬(i.op=1\/i.op=2\/i.op=3\/i.op=4\/i.op=11):=V
 refine⟨λc=>?_,λc=>?_⟩
 ·simp only[aL]at c
  rw[fC,ae g.1,aq c]at v
  have o:=qW C b.aY.length
  rw[mF _ _ (ad _)]at o
  refine(EK (bR.ext e I) C _ V).aG (J.aC _) K ?_
  rintro _ r ⟨t,rfl,q,h⟩
  have:=q.len
  exact⟨h,_,rfl,_,_,rfl,by rw[fL,ae n,ae p,aq c];omega,e.trans h⟩
 simp only[an]at c
 refine⟨λq=>?_,λq=>?_⟩
 ·simp only[cr,aL]at q
  rw[fC,ae g.1,ae c,aq q]at v
  obtain⟨x,o⟩:=ag (l:=b.cB) (k:=i.bJ.toNat) V
  obtain⟨r,M,u,L,y,G,H⟩:=(nC.ext e z).u o
  have:=u.len
  exact⟨V,V,r,y,_,_,rfl,by rw[fL,ae n,ae p,ae c,aq q];exact⟨x,o,V,V⟩,e⟩
 simp only[bP,an]at q
 have t:¬(i.op=9\/i.op=24):=V
 refine⟨λh=>?_,λh=>?_⟩
 ·simp only[aL]at h
  rw[fC,ae g.1,ae c,ae t,aq h]at v
  obtain⟨R,x,o,_⟩:=v
  obtain⟨r,M,u,L,y,G,H⟩:=(nC.ext e z).u o
  have:=u.len
  have:=u.gA
  have:=ax o
  have A:cO ((r.len:Int) -1)=(x.params.length:Int) -1:=by rw[aP V V];omega
  exact⟨V,V,r,y,_,_,rfl,by rw[fL,ae n,ae p,ae c,ae t,aq h];exact⟨x,o,A,A⟩,e⟩
 simp only[an]at h
 refine⟨λo=>?_,λo=>?_⟩
 ·simp only[cr,aL]at o
  exact⟨_,_,rfl,by rw[fL,ae n,ae p,ae c,ae t,ae h,aq o];exact⟨rfl,rfl⟩,e⟩
 ·simp only[bP,an]at o
  have r:¬(i.op=16\/i.op=17):=V
  exact⟨_,_,rfl,by rw[fL,ae n,ae p,ae c,ae t,ae h,ae r];exact⟨rfl,rfl⟩,e⟩
end
section
variable{m:I}{x k:Int}{a b:Nat}{c:O}
def vB(d:D m a 0=some (vi k))(e:D m b 4=some (O.v c)):
 dq bY 47 [vi x,vp a 0,vp b 0] m (k+1<=x/\x<=(c.len:Int) -1):=by
 apply mH x (a,0) (b,0)
 refine⟨k,d,λh=>⟨c,e,fB ?_ (J.aC _)⟩,λh=>bX ?_ (J.aC _)⟩<;>simp at h
 ·simp;omega
 ·omega
def GU{d:Nat}(e:D m a 0=some (vi k))(f:D m b 4=some (O.v c))
 (g:D m d 0=some (.func (.func 47) #[] #[vp a 0,vp b 0])):
 dq bY 48 [vi x,vp d 0] m (¬(k+1<=x/\x<=(c.len:Int) -1)):=by
 apply mI x (d,0)
 refine⟨(.func 47,#[],#[vp a 0,vp b 0]),g,_,rfl,rfl,?_⟩
 refine(vB e f).then λj l h i=>⟨_,rfl,fB ?_ i⟩
 rw[<-h];simp
def Gh{v:cL}{p:cY}{k:Nat}{i:Instr}(P:p.av<=2000)(N:v.cB.length<=4)(G:∀r∈v.cB,r.params.length<=3):
 gJ v p k i<->((0<=i.op/\i.op<=24/\i.op≠7/\i.op≠8/\i.op≠12/\i.op≠13)/\(0<=i.dst/\i.dst<p.av/\(i.dst=0\/kK i.op)/\0<=i.bV/\i.bV<=p.av/\(i.bV=0\/i.op=6))/\
  (∀o∈i.args,0<=o/\o<p.av)/\(i.dR.length=0\/i.op=21)/\(∀t∈i.dR,(k:Int)+1<=t/\t<=(p.cG.length:Int) -1)/\
  fC v i (λt=>(k:Int)+1<=t/\t<=(p.cG.length:Int) -1)/\∀j h,fL v i j h->j<=i.args.length/\(i.args.length:Int)<=h):=by
 have O:(0<=i.dst/\i.dst<p.av)->0<p.av:=λx=>V
 constructor
 ·intro x
  have b:=x.op
  have M:=x.dst
  have D:∀o∈i.args,0<=o/\o<p.av:=λo f=>by have:=x.args o f;omega
  have u:i.op≠21->∀t∈i.dR,(k:Int)+1<=t/\t<=(p.cG.length:Int) -1:=λI t J=>by
   rcases x.dR with q|q
   ·exact absurd q I
   ·rw[List.length_eq_zero_iff.1 q]at J;cases J
  have E:i.dR.length=0\/i.op=21:=x.dR.symm
  have H:0<=i.dst/\i.dst<p.av:=V
  have ij:∀(_:0<=i.op/\i.op<=24/\i.op≠7/\i.op≠8/\i.op≠12/\i.op≠13)(_:0<=i.bV/\i.bV<=p.av)(_:∀t∈i.dR,(k:Int)+1<=t/\t<=(p.cG.length:Int) -1)
   (_:fC v i (λt=>(k:Int)+1<=t/\t<=(p.cG.length:Int) -1))(_:∀j h,fL v i j h->j<=i.args.length/\(i.args.length:Int)<=h),_:=
   λF C G L q=>(⟨F,⟨H.1,H.2,x.U0,C.1,C.2,x.bV⟩,D,E,G,L,q⟩:(0<=i.op/\i.op<=24/\i.op≠7/\i.op≠8/\i.op≠12/\i.op≠13)/\(0<=i.dst/\i.dst<p.av/\(i.dst=0\/kK i.op)/\0<=i.bV/\i.bV<=p.av/\(i.bV=0\/i.op=6))/\
   (∀o∈i.args,0<=o/\o<p.av)/\(i.dR.length=0\/i.op=21)/\(∀t∈i.dR,(k:Int)+1<=t/\t<=(p.cG.length:Int) -1)/\
   fC v i (λt=>(k:Int)+1<=t/\t<=(p.cG.length:Int) -1)/\∀j h,fL v i j h->j<=i.args.length/\(i.args.length:Int)<=h)
  have s:i.op≠6->0<=i.bV/\i.bV<=p.av:=λI=>by rcases x.bV with q|q<;>omega
  unfold lD at b
  by_cases c:i.op=0
  ·rw[aq c]at b
   refine ij V (s V) (u V) (by rw[fC,aq c];exact b.2) (λj h f=>?_)
   rw[fL,aq (Or.inl c)]at f;omega
  rw[ae c]at b
  by_cases g:i.op=1\/i.op=2\/i.op=3\/i.op=4\/i.op=11
  ·rw[aq g]at b
   refine ij V (s V) (u V) ?_ (λj h f=>?_)
   ·rw[fC,ae c,ae V,ae V,ae V,ae V,ae V,ae V];exact b.2
   ·rw[fL,ae V,aq g]at f;omega
  rw[ae g]at b
  by_cases B:i.op=5\/i.op=14\/i.op=15\/i.op=18\/i.op=23
  ·rw[aq B]at b
   refine ij V (s V) (u V) ?_ (λj h f=>?_)
   ·rw[fC,ae c,ae V,ae V,ae V,ae V,ae V,ae V];exact b.2
   ·rw[fL,ae V,ae g,ae V,ae V,ae V,ae V]at f;omega
  rw[ae B]at b
  by_cases a:i.op=6
  ·rw[aq a]at b
   refine ij V b.2.2 (u V) ?_ (λj h f=>?_)
   ·rw[fC,ae c,aq a];exact b.1
   ·rw[fL,ae V,ae g,aq a]at f;omega
  rw[ae a]at b
  by_cases d:i.op=9\/i.op=24
  ·rw[aq d]at b
   obtain⟨r,q,y,w⟩:=b
   have:=ax y
   refine ij V (s V) (u V) ?_ (λj h f=>?_)
   ·rw[fC,ae c,ae a,aq d];omega
   ·rw[fL,ae V,ae g,ae a,aq d]at f
    obtain⟨K,m,z,n⟩:=f
    rw[y]at m;simp at m;subst m;omega
  rw[ae d]at b
  by_cases e:i.op=10
  ·rw[aq e]at b
   obtain⟨⟨r,q,y,w⟩,m⟩:=b
   have:=ax y
   refine ij V (s V) (u V) ?_ (λj h f=>?_)
   ·rw[fC,ae c,ae a,ae d,aq e];exact⟨q,r,y,m r y⟩
   ·rw[fL,ae V,ae g,ae a,ae d,aq e]at f
    obtain⟨K,m,z,n⟩:=f
    rw[y]at m;simp at m;subst m;omega
  rw[ae e]at b
  by_cases m:i.op=16\/i.op=17
  ·rw[aq m]at b
   refine ij V (s V) (u V) ?_ (λj h f=>?_)
   ·rw[fC,ae c,ae a,ae d,ae e,ae V,ae V,ae V];exact b.2
   ·rw[fL,ae V,ae g,ae a,ae d,ae e,aq m]at f;omega
  rw[ae m]at b
  by_cases n:i.op=19
  ·rw[aq n]at b
   refine ij V (s V) (u V) ?_ (λj h f=>?_)
   ·rw[fC,ae c,ae a,ae d,ae e,aq n];omega
   ·rw[fL,ae V,ae g,ae a,ae d,ae e,ae m]at f;omega
  rw[ae n]at b
  by_cases A:i.op=20
  ·rw[aq A]at b
   refine ij V (s V) (u V) ?_ (λj h f=>?_)
   ·rw[fC,ae c,ae a,ae d,ae e,ae n,aq (Or.inl A)];exact b.2
   ·rw[fL,ae V,ae g,ae a,ae d,ae e,ae m]at f;omega
  rw[ae A]at b
  by_cases w:i.op=22
  ·rw[aq w]at b
   refine ij V (s V) (u V) ?_ (λj h f=>?_)
   ·rw[fC,ae c,ae a,ae d,ae e,ae n,aq (Or.inr w)];exact b.2
   ·rw[fL,aq (Or.inr w)]at f;omega
  rw[ae w]at b
  by_cases z:i.op=21
  ·rw[aq z]at b
   refine ij V (s V) b.2.2.2 ?_ (λj h f=>?_)
   ·rw[fC,ae c,ae a,ae d,ae e,ae n,ae V,aq z]
    have:=b.2.2.1
    exact⟨b.2.1,V⟩
   ·rw[fL,ae V,ae g,ae a,ae d,ae e,ae m]at f;omega
  rw[ae z]at b
  exact b.elim
 ·rintro⟨F,C,D,E,t,b,h⟩
  refine⟨λo f=>by have:=D o f;omega,V,C.2.2.1,C.2.2.2.2.2,E.symm,?_⟩
  unfold lD
  by_cases c:i.op=0
  ·rw[aq c]
   rw[fC,aq c]at b
   have:=h 0 0 (by rw[fL,aq (Or.inl c)];exact⟨rfl,rfl⟩)
   exact⟨V,b⟩
  rw[ae c]
  by_cases g:i.op=1\/i.op=2\/i.op=3\/i.op=4\/i.op=11
  ·rw[aq g]
   rw[fC,ae c,ae V,ae V,ae V,ae V,ae V,ae V]at b
   have:=h 2 2 (by rw[fL,ae V,aq g];exact⟨rfl,rfl⟩)
   exact⟨V,b⟩
  rw[ae g]
  by_cases B:i.op=5\/i.op=14\/i.op=15\/i.op=18\/i.op=23
  ·rw[aq B]
   rw[fC,ae c,ae V,ae V,ae V,ae V,ae V,ae V]at b
   have:=h 1 1 (by rw[fL,ae V,ae g,ae V,ae V,ae V,ae V];exact⟨rfl,rfl⟩)
   exact⟨V,b⟩
  rw[ae B]
  by_cases a:i.op=6
  ·rw[aq a]
   rw[fC,ae c,aq a]at b
   have:=h _ _ (by rw[fL,ae V,ae g,aq a];exact⟨rfl,rfl⟩)
   exact⟨b,V,V⟩
  rw[ae a]
  by_cases d:i.op=9\/i.op=24
  ·rw[aq d]
   rw[fC,ae c,ae a,aq d]at b
   obtain⟨r,j⟩:=ag (l:=v.cB) (k:=i.bJ.toNat) V
   have:=h _ _ (by rw[fL,ae V,ae g,ae a,aq d];exact⟨r,j,rfl,rfl⟩)
   exact⟨r,b.1,j,V⟩
  rw[ae d]
  by_cases e:i.op=10
  ·rw[aq e]
   rw[fC,ae c,ae a,ae d,aq e]at b
   obtain⟨q,r,j,y⟩:=b
   have:=h _ _ (by rw[fL,ae V,ae g,ae a,ae d,aq e];exact⟨r,j,rfl,rfl⟩)
   refine⟨⟨r,q,j,V⟩,λK s=>?_⟩
   rw[j]at s;simp at s;subst s;exact y
  rw[ae e]
  by_cases m:i.op=16\/i.op=17
  ·rw[aq m]
   rw[fC,ae c,ae a,ae d,ae e,ae V,ae V,ae V]at b
   have:=h 1 4 (by rw[fL,ae V,ae g,ae a,ae d,ae e,aq m];exact⟨rfl,rfl⟩)
   exact⟨V,b⟩
  have j:i.op≠22->∀(c:¬i.op=0)(g:¬(i.op=1\/i.op=2\/i.op=3\/i.op=4\/i.op=11))(a:¬i.op=6)(d:¬(i.op=9\/i.op=24))(e:¬i.op=10)(m:¬(i.op=16\/i.op=17)),i.args.length=1:=λq c g a d e m=>by
   have:=h 1 1 (by rw[fL,ae V,ae g,ae a,ae d,ae e,ae m];exact⟨rfl,rfl⟩);omega
  rw[ae m]
  by_cases n:i.op=19
  ·rw[aq n]
   rw[fC,ae c,ae a,ae d,ae e,aq n]at b
   exact⟨j V c g a d e m,V,V⟩
  rw[ae n]
  by_cases A:i.op=20
  ·rw[aq A]
   rw[fC,ae c,ae a,ae d,ae e,ae n,aq (Or.inl A)]at b
   exact⟨j V c g a d e m,b⟩
  rw[ae A]
  by_cases w:i.op=22
  ·rw[aq w]
   rw[fC,ae c,ae a,ae d,ae e,ae n,aq (Or.inr w)]at b
   have:=h 0 0 (by rw[fL,aq (Or.inr w)];exact⟨rfl,rfl⟩)
   exact⟨V,b⟩
  rw[ae w]
  by_cases z:i.op=21
  ·rw[aq z]
   rw[fC,ae c,ae a,ae d,ae e,ae n,ae V,aq z]at b
   exact⟨j V c g a d e m,b.1,V,t⟩
  rw[ae z]
  omega
end
end Go.Proofs.YtakpkjhmbbfniaaGreat
