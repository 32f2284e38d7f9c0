/- Part of a proof, joined by a program. -/
import Derived.Test.YtgnjacfobdjeeaaGreatP08
import Derived.Test.YtgnjacfobdjeeaaGreatP09
set_option linter.unusedVariables false
set_option linter.unusedSimpArgs false
set_option linter.defProp false
set_option linter.constructorNameAsVariable false
set_option maxHeartbeats 8000000
set_option maxRecDepth 100000
namespace Go.Proofs.YtgnjacfobdjeeaaGreat
open Go.Vc
section
variable{f b:Nat}{h g:List bQ}{e e':Nat->Int}{w:Int}{c d:bQ}
def mF:∀(l r:List Int)(f:Nat),fR (l++r) f=fR l f+fR r f
 |[],r,f=>by simp[fR]
 |w::l,r,f=>by simp only[cA,fR,mF l r f];omega
def zd:∀(l:List Int)(f:Nat),fR l.reverse f=fR l f
 |[],f=>rfl
 |w::l,f=>by simp only[OW,mF,zd l f,fR];omega
def ju:∀(l:List Int)(f:Nat),0<=fR l f
 |[],f=>by simp[fR]
 |w::l,f=>by have:=ju l f;simp only[fR];split<;>omega
def oZ:∀{l:List Int}{f:Nat},(1000+(f:Int))∉l->fR l f=0
 |[],f,_=>rfl
 |w::l,f,h=>by
  simp only[aU,tn]at h;simp only[fR,oZ h.2];rw[ae (λe=>h.1 e.symm)];rfl
def wy:∀{l:List Int}{f:Nat},(1000+(f:Int))∈l->1<=fR l f
 |[],f,h=>by simp at h
 |w::l,f,h=>by
  simp only[fR];rcases List.mem_cons.1 h with rfl|h
  ·rw[an rfl];have:=ju l f;omega
  ·have:=wy h;split<;>omega
def Qo{l:List Int}(h:0<fR l f):(1000+(f:Int))∈l:=
 de λa=>by rw[oZ a]at h;omega
def QP(n:Nat)(f:Nat):fR (cZ n) f=0:=oZ λh=>by have:=TH h;omega
def vt:∀(l:List Int)(f:Nat),fR (j7 l) f=fR l f
 |[],f=>rfl
 |w::l,f=>by
  have:=vt l f;simp only[j7]at this⊢;rw[List.filter_cons];split
  ·simp only[fR,this]
  ·rename_i h;simp only[fR,this];rw[ae (λe=>h bR)];omega
def wu:∀(l:List Int)(f:Nat),fR l f<=l.length
 |[],f=>by simp[fR]
 |w::l,f=>by have:=wu l f;simp only[fR,aZ];split<;>omega
def zi:∀(h k:List bQ)(f:Nat),mj (h++k) f=mj h f+mj k f
 |[],k,f=>by simp[mj]
 |c::h,k,f=>by simp only[cA,mj,zi h k f];omega
def EF:∀(h:List bQ)(f:Nat),0<=mj h f
 |[],f=>by simp[mj]
 |c::h,f=>by have:=EF h f;have:=ju c.aR f;simp only[mj];omega
def zj:∀{h:List bQ}{f:Nat}{c:bQ}(e:bQ)(_:h[f]? =some c)(b:Nat),mj (h.set f e) b=mj h b -fR c.aR b+fR e.aR b
 |[],f,c,e,h,b=>by simp at h
 |d::h,0,c,e,g,b=>by simp at g;subst g;simp only[fj,mj];omega
 |d::h,f+1,c,e,g,b=>by
  have:=zj (h:=h) (f:=f) e (by simpa using g) b;simp only[fO,mj,this];omega
def JS:∀{h:List bQ}{f:Nat},0<mj h f->∃c∈h,(1000+(f:Int))∈c.aR
 |[],f,h=>by simp[mj]at h
 |c::h,f,e=>by
  simp only[mj]at e;rcases dt (0<fR c.aR f)with b|b
  ·exact⟨c,aX,Qo b⟩
  ·obtain⟨d,hd,g⟩:=JS (h:=h) (f:=f) (by have:=ju c.aR f;omega);exact⟨d,ai _ hd,g⟩
def Qq:∀{h:List bQ}{c:bQ}(_:c∈h)(f:Nat),fR c.aR f<=mj h f
 |[],c,a,f=>by simp at a
 |d::h,c,a,f=>by
  simp only[mj];rcases List.mem_cons.1 a with rfl|a
  ·have:=EF h f;omega
  ·have:=Qq a f;have:=ju d.aR f;omega
structure yD(h:List bQ)(c:bQ):Prop where
 fl:c.aR.length<=3
 lo: -1<=c.aS
 hi:c.aS<=999999
 FK:c.aS<1->c.kd=0/\(∀w∈c.aR,w=0)/\(c.aS=0->c.aR=[])
 rm:0<c.aS->(∀w∈c.aR,wo h w)/\0<=c.kd/\c.kd<=99
def VZ(h:List bQ):Prop:=∃a:Nat->Nat,∀(i:Nat)(c:bQ),h[i]? =some c->∀w∈c.aR,1000<=w->a (ix w)<a i
structure ft(h:List bQ)(e:Nat->Int):Prop where
 cell:∀c∈h,yD h c
 Qz:VZ h
 ex:∀(f:Nat)(c:bQ),h[f]? =some c->0<c.aS->c.aS=mj h f+e f
 nn:∀f,0<=e f
 lv:∀f,0<e f->eH h f
def ft.congr(c:ft h e)(a:∀b,e' b=e b):ft h e':=by
 have:e'=e:=funext a;rw[this];exact c
def uo(f:Nat):ix (1000+(f:Int))=f:=by unfold ix;omega
def jI(h:1000<=w):1000+((ix w:Nat):Int)=w:=by unfold ix;omega
def Pt{v:Int}(a:1000<=v)(b:1000<=w)(h:ix v=ix w):v=w:=by rw[<-jI a,<-jI b,h]
def ft.field(i:ft h e)(g:c∈h)(f:w∈c.aR)(j:1000<=w):fQ h w:=by
 have d:=i.cell c g;rcases dt (0<c.aS)with b|b
 ·rcases(d.rm b).1 w f with a|a
  ·have:=a.2;omega
  ·exact a
 ·have:=(d.FK V).2.1 w f;omega
def ft.Vv(d:ft h e)(g:¬eH h f):mj h f=0:=by
 rcases dt (0<mj h f)with a|a
 ·obtain⟨c,b,i⟩:=JS a;have:=(d.field b i V).2;rw[uo]at this;exact absurd this g
 ·have:=EF h f;omega
def ft.WD(a:ft h e)(c:¬eH h f):e f=0:=by
 have:=a.nn f;rcases dt (0<e f)with b|b
 ·exact absurd (a.lv f b) c
 ·omega
def gS(a:b≠f):(h.set f c)[b]? =h[b]? :=by rw[fK (λe=>a e.symm)]
def dY(hd:h[f]? =some d):(h.set f c)[f]? =some c:=by
 rw[eA (aD hd)]
def eH.ne(a:b≠f):eH (h.set f c) b<->eH h b:=by unfold eH;rw[gS a]
def eH.Bf(hd:h[f]? =some d):eH (h.set f c) f<->0<c.aS:=by
 unfold eH;rw[dY hd];simp
def wo.mono(c:wo h w)(b:1000<=w->eH h (ix w)->eH g (ix w)):wo g w:=by
 rcases c with a|a
 ·exact Or.inl a
 ·exact Or.inr ⟨a.1,b a.1 a.2⟩
def yD.mono{h g:List bQ}{c:bQ}(a:yD h c)(e:0<c.aS->∀w∈c.aR,1000<=w->eH h (ix w)->eH g (ix w)):yD g c:=
 ⟨a.fl,a.lo,a.hi,a.FK,λb=>⟨λw d=>((a.rm b).1 w d).mono (e b w d),(a.rm b).2⟩⟩
def nA{x:bQ}(i:x∈h.set f c):x=c\/∃b,b≠f/\h[b]? =some x:=by
 obtain⟨b,a⟩:=List.mem_iff_getElem?.1 i;by_cases e:b=f
 ·subst e;rw[List.getElem?_set_self']at a;cases g:h[b]? with
  |none=>simp[g]at a
  |some d=>simp[g]at a;exact Or.inl a.symm
 ·rw[gS e]at a;exact Or.inr ⟨b,e,a⟩
def ft.IQ(j:ft h e)(g:h[f]? =some c)(i:0<c.aS){n:Int}(v:0<n)(u:n<=999999)
 (m:∀b,e' b=e b+if b=f then n -c.aS else 0)(s:0<=e' f):ft (h.set f {c with aS:=n}) e':=by
 have p:∀b,eH (h.set f {c with aS:=n}) b<->eH h b:=λb=>by
  by_cases a:b=f
  ·subst a;rw[eH.Bf g];exact⟨λ_=>⟨c,g,i⟩,λ_=>v⟩
  ·exact eH.ne a
 have x:∀b,mj (h.set f {c with aS:=n}) b=mj h b:=λb=>by rw[zj _ g];simp only[];omega
 refine⟨λA y=>?_,?_,λb d hd t=>?_,λb=>?_,λb l=>?_⟩
 ·rcases nA y with rfl|⟨b,_,l⟩
  ·have q:=j.cell c (av g)
   exact⟨q.fl,by simp only[];omega,u,λr=>by simp only[]at r;omega,λ_=>⟨λw k=>((q.rm i).1 w k).mono λ_ o=>(p _).2 o,(q.rm i).2⟩⟩
  ·exact(j.cell A (av l)).mono λ_ w _ _ o=>(p _).2 o
 ·obtain⟨z,r⟩:=j.Qz
  refine⟨z,λo d hd w k i=>?_⟩
  by_cases q:o=f
  ·subst q;rw[dY g]at hd;simp at hd;subst hd;exact r o c g w k i
  ·rw[gS q]at hd;exact r o d hd w k i
 ·rw[x,m]
  by_cases a:b=f
  ·subst a;rw[dY g]at hd;simp at hd;subst hd
   have:=j.ex b c g i
   simp only[an];omega
  ·rw[gS a]at hd
   have:=j.ex b d hd t
   rw[ae a];omega
 ·by_cases a:b=f
  ·subst a;exact s
  ·rw[m,ae a];have:=j.nn b;omega
 ·rw[p]
  by_cases a:b=f
  ·subst a;exact⟨c,g,i⟩
  ·rw[m,ae a]at l;exact j.lv b V
def ft.Pq(j:ft h e)(m:h[f]? =some c)(I:c.aS=1)(J:0<e f){c':bQ}(C: -1<=c'.aS)(L:c'.aS<1)(G:c'.kd=0)
 (r:∀w∈c'.aR,w=0)(B:c'.aR.length<=3)(A:c'.aS=0->c'.aR=[])
 (p:∀b,e' b=e b -(if b=f then 1 else 0)+fR c.aR b):ft (h.set f c') e':=by
 have o:=j.ex f c m V
 have O:=EF h f
 have N:mj h f=0:=V
 have K:e f=1:=V
 have u:∀x∈h,(1000+(f:Int))∉x.aR:=λx o g=>by
  have:=Qq o f;have:=wy g;omega
 have M:fR c.aR f=0:=oZ (u c (av m))
 have E:∀b,fR c'.aR b=0:=λb=>oZ λg=>by have:=r _ g;omega
 have t:∀b,b≠f->eH h b->eH (h.set f c') b:=λb i q=>(eH.ne i).2 q
 have D:∀x∈h,∀w∈x.aR,1000<=w->ix w≠f:=λx o w g n y=>by
  have:=jI n;rw[y]at this;rw[<-this]at g;exact u x o g
 refine⟨λx o=>?_,?_,λb d hd z=>?_,λb=>?_,λb k=>?_⟩
 ·rcases nA o with rfl|⟨b,_,k⟩
  ·exact⟨B,C,V,λ_=>⟨G,r,A⟩,λn=>V⟩
  ·exact(j.cell x (av k)).mono λ_ w g n q=>t _ (D x (av k) w g n) q
 ·obtain⟨H,F⟩:=j.Qz
  refine⟨H,λv d hd w g n=>?_⟩
  by_cases s:v=f
  ·subst s;rw[dY m]at hd;simp at hd;subst hd;have:=r w g;omega
  ·rw[gS s]at hd;exact F v d hd w g n
 ·rw[zj _ m,E,p]
  by_cases i:b=f
  ·subst i;rw[dY m]at hd;simp at hd;subst hd;omega
  ·rw[gS i]at hd
   have:=j.ex b d hd z
   rw[ae i];omega
 ·rw[p]
  have:=j.nn b
  have:=ju c.aR b
  split
  ·rename_i i;subst i;omega
  ·omega
 ·rw[p]at k
  by_cases i:b=f
  ·subst i;rw[an rfl]at k;omega
  ·rw[ae i]at k
   refine t b i ?_
   rcases dt (0<e b)with s|s
   ·exact j.lv b s
   ·have:=j.nn b
    have g:=Qo (l:=c.aR) (f:=b) V
    have:=(j.field (av m) g V).2
    rwa[uo]at this
def ft.make(l:ft h e){v:Int}{c:List Int}(r:¬eH h f)(p:g[f]? =some ⟨1,v,c⟩)(o:∀b,b≠f->g[b]? =h[b]?)
 (E:∀b,mj g b=mj h b+fR c b)(z:∀w∈c,wo h w)(C:c.length<=3)(G:0<=v/\v<=99)(x:∀b,fR c b<=e b)
 (t:∀b,e' b=e b -fR c b+if b=f then 1 else 0):ft g e':=by
 have u:∀b,eH h b->eH g b:=λb i=>by
  by_cases a:b=f
  ·subst a;exact absurd i r
  ·unfold eH;rw[o b a];exact i
 have L:=l.WD r
 have N:=l.Vv r
 have M:fR c f=0:=by have:=ju c f;have:=x f;omega
 refine⟨λK I=>?_,?_,λb d hd B=>?_,λb=>?_,λb j=>?_⟩
 ·obtain⟨b,j⟩:=List.mem_iff_getElem?.1 I
  by_cases a:b=f
  ·subst a;rw[p]at j;simp at j;subst j
   exact⟨C,aJ,aJ,λk=>by simp at k,λ_=>⟨λw n=>(z w n).mono λ_ i=>u _ i,G⟩⟩
  ·rw[o b a]at j
   exact(l.cell K (av j)).mono λ_ w _ _ i=>u _ i
 ·obtain⟨s,F⟩:=l.Qz
  refine⟨λk=>if k=f then(c.map λw=>s (ix w)).sum+1 else s k,λk d hd w n y=>?_⟩
  have H:ix w≠f:=λA=>by
   have D:fQ h w:=by
    by_cases m:k=f
    ·subst m;rw[p]at hd;simp at hd;subst hd;rcases z w n with q|q
     ·have:=q.2;omega
     ·exact q
    ·rw[o k m]at hd;exact l.field (av hd) n y
   exact r (A▸D.2)
  simp only[ae H]
  by_cases m:k=f
  ·subst m;rw[p]at hd;simp at hd;subst hd
   rw[an rfl]
   have:∀(q:List Int),w∈q->s (ix w)<=(q.map λw=>s (ix w)).sum:=by
    intro q i;induction q with
    |nil=>simp at i
    |cons O q J=>
     simp only[cE,List.sum_cons];rcases List.mem_cons.1 i with rfl|i
     ·omega
     ·have:=J i;omega
   have:=this c n;omega
  ·rw[ae m];rw[o k m]at hd;exact F k d hd w n y
 ·rw[E,t]
  by_cases a:b=f
  ·subst a;rw[p]at hd;simp at hd;subst hd
   rw[an rfl];simp only[];omega
  ·rw[o b a]at hd
   have:=l.ex b d hd B
   rw[ae a];omega
 ·rw[t];have:=x b;split<;>omega
 ·rw[t]at j
  by_cases a:b=f
  ·subst a;exact⟨_,p,aJ⟩
  ·rw[ae a]at j
   exact u b (l.lv b (by have:=ju c b;omega))
def ft.fY:∀(n:Nat)(h:List bQ)(o:List Int)(e:Nat->Int),yM h+o.length<=n->ft h (λb=>e b+fR o b)->(∀b,0<=e b)->ft (fY h o) e
 |n,h,[],e,_,a,_=>by rw[pK];exact a.congr λb=>by simp[fR]
 |n,h,w::r,e,f,a,d=>by
  rcases dt (fQ h w)with c|c
  ·obtain⟨g,m⟩:=bY c;have s:=jI c.1;have l:∀b,fR (w::r) b=(if b=ix w then 1 else 0)+fR r b:=λb=>by
    simp only[fR];congr 1;by_cases k:b=ix w
    ·subst k;rw[an s.symm,an rfl]
    ·rw[ae k,ae (λi=>k (by rw[i,uo]))]
   have p:=iQ (d:=ic) g;by_cases j:(aG h w).aS=1
   ·rw[pL c j];simp only[an m,ic]at p;simp at p;cases n with
    |zero=>simp at f
    |succ n=>
    refine ft.fY n _ _ e ?_ (ft.Pq a g j ?_ bh bh rfl (by simp[ic]) (by simp[ic]) (λ_=>rfl) λb=>?_) d
    ·simp[ic]at f⊢;omega
    ·simp only[l,an];have:=d (ix w);have:=ju r (ix w);omega
    ·simp only[l,mF,zd];omega
   ·rw[nP c j];have q:=iQ (d:={aG h w with aS:=(aG h w).aS -1}) g;simp only[an m]at q;rw[an V]at q;have t:=(a.cell _ (av g)).hi;cases n with
    |zero=>simp at f
    |succ n=>
    refine ft.fY n _ _ e ?_ (ft.IQ a g m V V (λb=>?_) ?_) d
    ·simp only[aZ]at f;simp only[eQ];omega
    ·simp only[l];split<;>omega
    ·have:=d (ix w);have:=ju r (ix w);omega
  ·rw[nQ c];cases n with
   |zero=>simp at f
   |succ n=>
   refine ft.fY n _ _ e (by simp at f;omega) (a.congr λb=>?_) d;simp only[fR];rw[ae]
   ·omega
   ·intro i;have:=a.lv b (by simp only[fR,an i];have:=d b;have:=ju r b;omega);exact c ⟨V,by rw[i,uo];exact this⟩
def tc(h:List bQ):∀n,iA h n<=n
 |0=>ad _
 |n+1=>by
  simp only[iA];have:=tc h n;split
  ·split<;>omega
  ·omega
def ta(h:List bQ):∀(n k:Nat)(c:bQ),iA h n<=k->k<n->h[k]? =some c->c.aS=0
 |0,k,c,_,d,_=>V
 |n+1,k,c,a,e,b=>by
  simp only[iA]at a;by_cases d:k=n
  ·subst d;rw[b]at a;simp only[]at a;split at a
   ·assumption
   ·omega
  ·split at a
   ·split at a
    ·exact ta h n k c a V b
    ·omega
   ·exact ta h n k c a V b
def Ku(h:List bQ):∀(n:Nat)(c:bQ),n<=h.length->h[iA h n -1]? =some c->0<iA h n->c.aS≠0
 |0,c,_,_,b=>by simp[iA]at b
 |n+1,c,f,a,b=>by
  simp only[iA]at a b;obtain⟨d,hd⟩:=ag (l:=h) (k:=n) V;rw[hd]at a b;simp only[]at a b;split at a
  ·rename_i e;rw[an e]at b;exact Ku h n c V a b
  ·rename_i e;simp at a;rw[hd]at a;simp at a;subst a;exact e
def pZ(h:List bQ):Prop:=∀c,h[h.length -1]? =some c->c.aS≠0
def Fq(h:List bQ):pZ (mM h):=by
 intro c a;have d:=tc h h.length;unfold mM at a;rw[gU,jc d]at a;rcases kX (iA h h.length)with b|b
 ·rw[b]at a;simp at a
 ·rw[dP V]at a;exact Ku h _ c (ad _) a b
def LH:∀{h:List bQ},(∀c∈h,c.aR=[])->∀f,mj h f=0
 |[],_,f=>rfl
 |c::h,a,f=>by simp only[mj,a c aX,fR,LH (λd hd=>a d (ai _ hd)) f];rfl
def ft.mM{h:List bQ}{e:Nat->Int}(d:ft h e):ft (mM h) e:=by
 have u:=tc h h.length;have q:∀(b:Nat)(c:bQ),h[b]? =some c->c.aS≠0->b<iA h h.length:=λb c a i=>
  de λv=>i (ta h h.length b c V (aD a) a)
 have k:∀(b:Nat)(c:bQ),(Go.Proofs.YtgnjacfobdjeeaaGreat.mM h)[b]? =some c->h[b]? =some c:=λb c a=>by
  unfold Go.Proofs.YtgnjacfobdjeeaaGreat.mM at a;have:=aD a;rw[gU]at this;rwa[dP V]at a
 have l:∀b,eH h b->eH (Go.Proofs.YtgnjacfobdjeeaaGreat.mM h) b:=λb⟨c,a,j⟩=>⟨c,by
  unfold Go.Proofs.YtgnjacfobdjeeaaGreat.mM;rw[dP (q b c a V)];exact a,j⟩
 have s:∀b,mj (Go.Proofs.YtgnjacfobdjeeaaGreat.mM h) b=mj h b:=λb=>by
  have m:h=Go.Proofs.YtgnjacfobdjeeaaGreat.mM h++h.drop (iA h h.length):=(cT _ _).symm;have n:mj (h.drop (iA h h.length)) b=0:=LH (λc a=>by
   obtain⟨o,g⟩:=List.mem_iff_getElem?.1 a;rw[rj]at g;have i:=ta h h.length _ c V (aD g) g;exact((d.cell c (av g)).FK V).2.2 i) b
  have o:=pB (λg=>mj g b) m;simp only[zi,n]at o;omega
 refine⟨λc a=>?_,?_,λf c a j=>?_,d.nn,λf p=>l f (d.lv f p)⟩
 ·obtain⟨b,g⟩:=List.mem_iff_getElem?.1 a;exact(d.cell c (av (k b c g))).mono λ_ w _ _ r=>l _ r
 ·obtain⟨t,r⟩:=d.Qz;exact⟨t,λg c a=>r g c (k g c a)⟩
 ·rw[s];exact d.ex f c (k f c a) j
end
section
variable{c:List Int}{i x v r:Int}{b:Nat}{d:cq}{f:aW}{s:St}
def nN(b:0<=i)(d:i<c.length):c[i.toNat]? =some (D c i):=by
 obtain⟨x,a⟩:=ag (l:=c) (k:=i.toNat) V;simp[D,a]
def Wc(h:c[b]? =some x):D c b=x:=by simp[D,h]
def CK(h:c[i.toNat]? =some x):D c i=x:=by simp[D,h]
def eR(a:0<=i)(b:i<c.length):D c i∈c:=fL (nN a b)
def jo(c:List Int)(i v:Int):(gF c i v).length=c.length:=by simp[gF]
def oW(h:x∈gF c i v):x=v\/x∈c:=by
 rcases dE h with h|h
 ·exact Or.inr h
 ·exact Or.inl h
def zn(c:List Int)(i v:Int)(b:Nat):(gF c i v)[b]? =if b=i.toNat/\b<c.length then some v else c[b]? :=by
 unfold gF;by_cases h:b=i.toNat
 ·subst h;by_cases a:i.toNat<c.length
  ·rw[eA a,an ⟨rfl,a⟩]
  ·rw[ae V,qN V]
 ·rw[ae V,fK (λe=>h e.symm)]
def SU(a:0<=i)(b:i<c.length)(j:Int)(d:0<=j):D (gF c i v) j=if j=i then v else D c j:=by
 unfold D;rw[eM,eM,zn];by_cases h:j=i
 ·subst h;rw[an rfl,an ⟨rfl,V⟩];rfl
 ·rw[ae h,ae V]
def Ge:∀(ao aQ:List Int)(b:Nat)(w o f e:Int)(a:Nat),ao[b]? =some f->aQ[b]? =some e->
 fq (ao.set b w) (aQ.set b o) a=fq ao aQ a -(if f=1000+(a:Int)then e else 0)+(if w=1000+(a:Int)then o else 0)
 |[],aQ,b,w,o,f,e,a,c,d=>by simp at c
 |r::g,[],b,w,o,f,e,a,c,d=>by simp at d
 |r::g,q::h,0,w,o,f,e,a,c,d=>by
  simp at c d;subst c;subst d;simp only[fj,fq];omega
 |r::g,q::h,b+1,w,o,f,e,a,c,d=>by
  have:=Ge g h b w o f e a (by simpa using c) (by simpa using d);simp only[fO,fq,this];omega
def Sf(h:c[b]? =some x):c.set b x=c:=by
 apply iT;intro i;by_cases a:b=i
 ·subst a;rw[eA (aD h),h]
 ·rw[fK a]
def Gd{ao aQ:List Int}(c:0<=r)(d:r<ao.length)(e:r<aQ.length)(o:Int)(a:Nat):
 fq ao (gF aQ r o) a=fq ao aQ a+(if D ao r=1000+(a:Int)then o -D aQ r else 0):=by
 have b:=nN c d
 have:=Ge ao aQ r.toNat (D ao r) o _ _ a b (nN c e)
 rw[Sf b]at this
 rw[gF,this];split<;>omega
def LF{ao aQ:List Int}(b:0<=r)(c:r<ao.length)(d:r<aQ.length)(e:D aQ r=0)(w o:Int)(a:Nat):
 fq (gF ao r w) (gF aQ r o) a=fq ao aQ a+(if w=1000+(a:Int)then o else 0):=by
 have:=Ge ao aQ r.toNat w o _ _ a (nN b c) (nN b d)
 rw[gF,gF,this,e];split<;>omega
def zf:∀{ao aQ:List Int},(∀o∈aQ,0<=o)->∀a,0<=fq ao aQ a
 |[],aQ,h,a=>by cases aQ<;>simp[fq]
 |r::b,[],h,a=>by simp[fq]
 |r::b,o::d,h,a=>by
  have:=zf (ao:=b) (aQ:=d) (λx c=>h x (ai _ c)) a;have:=h o aX;simp only[fq];split<;>omega
def sK:∀{ao aQ:List Int},Qy aQ->∀a,fq ao aQ a=0
 |[],aQ,h,a=>by cases aQ<;>simp[fq]
 |r::b,[],h,a=>by simp[fq]
 |r::b,o::d,h,a=>by
  have:=sK (ao:=b) (aQ:=d) (λx c=>h x (ai _ c)) a;have:=h o aX;simp only[fq,this];split<;>omega
def EE:∀{c o1:List Int}(b o2:List Int),c.length=o1.length->∀a,fq (c++b) (o1++o2) a=fq c o1 a+fq b o2 a
 |[],[],b,o2,_,a=>by simp[fq]
 |[],_::_,_,_,h,_=>by simp at h
 |_::_,[],_,_,h,_=>by simp at h
 |r::e,o::d,b,o2,h,a=>by
  have:=EE (c:=e) (o1:=d) b o2 (by simpa using h) a;simp only[cA,fq,this];omega
def On:∀{ao aQ:List Int}{b:Nat}{w o:Int}(_:∀o∈aQ,0<=o)(_:ao[b]? =some w)(_:aQ[b]? =some o){d:Nat}(_:w=1000+(d:Int)),o<=fq ao aQ d
 |[],_,_,_,_,_,a,_,_,_=>by simp at a
 |_::_,[],_,_,_,_,_,c,_,_=>by simp at c
 |r::i,q::h,0,w,o,e,a,c,d,f=>by
  simp at a c;subst a;subst c;have:=zf (ao:=i) (aQ:=h) (λx g=>e x (ai _ g)) d;simp only[fq,an f];omega
 |r::i,q::h,b+1,w,o,e,a,c,d,f=>by
  have:=On (ao:=i) (aQ:=h) (b:=b) (λx g=>e x (ai _ g)) (by simpa using a) (by simpa using c) f;have:=e q aX;simp only[fq];split<;>omega
def fU:∀(c r:List aW)(a:Nat),lB (c++r) a=lB c a+lB r a
 |[],r,a=>by simp[lB]
 |f::c,r,a=>by simp only[cA,lB,fU c r a];omega
def kN(f:aW)(a:Nat):lB [f] a=fq f.ao f.aQ a:=by simp[lB]
def eL:∀(c r:List aW)(a:Nat),holds (c++r) a=holds c a+holds r a
 |[],r,a=>by simp[holds]
 |f::c,r,a=>by simp only[cA,holds,eL c r a];omega
def iF(f:aW)(a:Nat):holds [f] a=fR f.br a:=by simp[holds]
def En:∀(c:List aW)(a:Nat),0<=holds c a
 |[],a=>by simp[holds]
 |f::c,a=>by have:=En c a;have:=ju f.br a;simp only[holds];omega
def jA(ao:List Int):∀(a aQ:List Int),(bB ao aQ a).length=aQ.length
 |[],aQ=>rfl
 |r::a,aQ=>by simp only[bB];rw[jA ao a];split<;>simp[jo]
def wY{ao:List Int}:∀(b aQ:List Int),(∀r∈b,0<=r/\r<ao.length)->ao.length=aQ.length->∀a,fq ao (bB ao aQ b) a=fq ao aQ a -fR (b.map (D ao)) a
 |[],aQ,_,_,a=>by simp[bB,fR]
 |r::b,aQ,h,c,a=>by
  have e:=h r aX;have f:=λaQ c=>wY (ao:=ao) b aQ (λx d=>h x (ai _ d)) c a;simp only[bB,cE,fR];by_cases d:1000<=D ao r
  ·rw[an d,f _ (by rw[jo];exact c),Gd e.1 e.2 V];split<;>omega
  ·rw[ae d,f _ c,ae V];omega
def kj{ao:List Int}:∀(c aQ:List Int)(b:Nat)(o:Int),(bB ao aQ c)[b]? =some o->∃q,aQ[b]? =some q/\o<=q
 |[],aQ,b,o,h=>⟨o,h,cC _⟩
 |r::c,aQ,b,o,h=>by
  simp only[bB]at h;obtain⟨q,a,e⟩:=kj c _ b o h;split at a
  ·rw[zn]at a;split at a
   ·rename_i d;obtain⟨y,f⟩:=ag d.2;have g:D aQ r=y:=by rw[D,eM,<-d.1,f];rfl
    simp at a;exact⟨y,f,V⟩
   ·exact⟨q,a,e⟩
  ·exact⟨q,a,e⟩
def lj:∀(a aQ:List Int),(dw aQ a).length=aQ.length
 |[],aQ=>rfl
 |r::a,aQ=>by simp only[dw];rw[lj a,jo]
def Ed{ao:List Int}:∀(b aQ:List Int),(∀r∈b,0<=r/\r<ao.length)->ao.length=aQ.length->∀a,fq ao (dw aQ b) a=fq ao aQ a+fR (b.map (D ao)) a
 |[],aQ,_,_,a=>by simp[dw,fR]
 |r::b,aQ,h,d,a=>by
  have c:=h r aX;simp only[dw,cE,fR];rw[Ed (ao:=ao) b _ (λx e=>h x (ai _ e)) (by rw[jo];exact d) a,Gd c.1 c.2 V];split<;>omega
def Jd{ao:List Int}:∀(d aQ:List Int),(∀r∈d,0<=r/\r<aQ.length/\1000<=D ao r)->
 (∀(b:Nat)(o w:Int),aQ[b]? =some o->ao[b]? =some w->0<=o/\(0<o->1000<=w))->∀(b:Nat)(o w:Int),(dw aQ d)[b]? =some o->ao[b]? =some w->0<=o/\(0<o->1000<=w)
 |[],aQ,_,h,b,o,w,a,c=>h b o w a c
 |r::d,aQ,g,h,b,o,w,a,c=>by
  refine Jd (ao:=ao) d (gF aQ r (D aQ r+1)) (λx e=>by rw[jo];exact g x (ai _ e)) (λb o w a c=>?_) b o w a c;rw[zn]at a;split at a
  ·rename_i f;have e:=g r aX;have i:D ao r=w:=by rw[D,eM,<-f.1,c];rfl
   have j:=h b (D aQ r) w (by rw[f.1];exact nN e.1 e.2.1) c;simp at a;exact⟨V,λ_=>V⟩
  ·exact h b o w a c
def fy(h:List bQ)(a:Nat):Prop:=∃c,h[a]? =some c/\c.aS<0
structure gA(d:cq)(f:aW):Prop where
 eu:0<=f.eu/\f.eu<d.cB.length
 pc:0<=f.pc/\f.pc<(dy d f.eu).cJ.length
 lr:(f.ao.length:Int)=(dy d f.eu).ao
 lo:(f.aQ.length:Int)=(dy d f.eu).ao
 lh:(f.br.length:Int)=(dy d f.eu).ao
 Nr:∀w∈f.ao,jm w\/1000<=w
 aQ:∀(b:Nat)(o w:Int),f.aQ[b]? =some o->f.ao[b]? =some w->0<=o/\(0<o->1000<=w)
 br:∀w∈f.br,w=0\/1000<=w
structure dm(d:cq)(s:St):Prop where
 fC:gP d
 bW:0<=s.bW/\s.bW<=3
 done:s.bW=0<->s.aA=[]
 value:jm s.value
 DQ:s.value≠0->s.bW=0
 aY:0<=s.aY/\s.aY<=40
 bE:0<=s.bE/\s.bE<=s.aY
 depth:(s.aA.length:Int)<=s.bE+1
 bd:∀n∈s.bd,jm n
 heap:ft s.heap (lB s.aA)
 jX:pZ s.heap
 aA:∀f∈s.aA,gA d f
 first:∀f,s.aA[0]? =some f->f.dst=0
 chain:∀(b:Nat)(f g:aW),s.aA[b]? =some f->s.aA[b+1]? =some g->0<=g.dst/\g.dst<f.aQ.length/\D f.aQ g.dst=0
 kD:∀a,fy s.heap a->holds s.aA a=1
 px:∀a,¬fy s.heap a->holds s.aA a=0
def gA.Sa(h:gA d f):∀o∈f.aQ,0<=o:=λo c=>by
 obtain⟨b,a⟩:=List.mem_iff_getElem?.1 c;have g:=aD a;have:=h.lo;have:=h.lr;obtain⟨w,e⟩:=ag (l:=f.ao) (k:=b) V;exact(h.aQ b o w a e).1
def IP{d:cq}:∀{b:List aW},(∀f∈b,gA d f)->∀a,0<=lB b a
 |[],_,a=>by simp[lB]
 |f::b,h,a=>by
  have:=IP (λg c=>h g (ai _ c)) a;have:=zf (ao:=f.ao) (h f aX).Sa a;simp only[lB];omega
def dm.split(h:dm d s)(b:s.bW=3):∃a f,s.aA=a++[f]:=by
 have:s.aA≠[]:=λe=>by have:=h.done.2 e;omega
 exact⟨s.aA.dropLast,s.aA.getLast this,(eU this).symm⟩
def gA.Hp(j:gP d)(h:gA d f):∃p,d.cB[f.eu.toNat]? =some p/\dy d f.eu=p/\FE d p/\p.cJ[f.pc.toNat]? =some (dh d f)/\ig d p f.pc.toNat (dh d f):=by
 obtain⟨p,b⟩:=ag (l:=d.cB) (k:=f.eu.toNat) (by have:=h.eu;omega);have e:dy d f.eu=p:=by simp[dy,b]
 have g:=j.dz p (av b);have m:=h.pc;rw[e]at m;obtain⟨i,a⟩:=ag (l:=p.cJ) (k:=f.pc.toNat) V;have c:dh d f=i:=by simp[dh,e,a]
 exact⟨p,b,e,g,c▸a,c▸g.dz _ _ a⟩
def dm.fI(h:dm d s)(A:s.bW=3){e:List aW}{g:aW}(k:s.aA=e++[f]){c:List bQ}{bd:List Int}(o:gA d g)(hd:g.dst=f.dst)
 (r:ft c (lB (e++[g])))(w:pZ c)(t:∀a,fy c a->holds (e++[g]) a=1)(x:∀a,¬fy c a->holds (e++[g]) a=0)(v:∀n∈bd,jm n){bE:Int}(n:s.bE<=bE/\bE<=s.aY):
 dm d {s with heap:=c,bd:=bd,bE:=bE,aA:=e++[g]}:=by
 have z:=h.bE
 have m:=h.depth
 rw[k]at m
 refine⟨h.fC,h.bW,⟨λi=>by simp at i;omega,λi=>by simp at i⟩,h.value,h.DQ,h.aY,⟨by simp only[];omega,n.2⟩,by simp at m⊢;omega,v,r,w,λq a=>?_,λq a=>?_,λb p q c a=>?_,t,x⟩
 ·rcases List.mem_append.1 a with a|a
  ·exact h.aA q (by rw[k];exact bJ _ a)
  ·simp at a;subst a;exact o
 ·have j:=h.first
  rw[k]at j
  cases e with
  |nil=>simp at a;subst a;rw[hd];exact j f aJ
  |cons y l=>simp at a;subst a;exact j y aJ
 ·have l:=h.chain b
  rw[k]at l
  simp only[]at c a
  have u:=aD a
  simp at u
  rw[aw V]at c
  rcases bA (b+1) e.length with j|j
  ·rw[aw j]at a
   exact l p q (by rw[aw V];exact c) (by rw[aw j];exact a)
  ·rw[aF j]at a
   have i:b+1 -e.length=0:=V
   rw[i]at a;simp at a;subst a
   rw[hd]
   exact l p f (by rw[aw V];exact c) (by rw[aF j,i];rfl)
end
section
variable{h:List bQ}{a:Nat}{c d:bQ}{w:Int}{e e':Nat->Int}
def fy.ne{b:Nat}(d:b≠a):fy (h.set a c) b<->fy h b:=by unfold fy;rw[gS d]
def fy.Bf(hd:h[a]? =some d):fy (h.set a c) a<->c.aS<0:=by unfold fy;rw[dY hd];simp
def fy.set(hd:h[a]? =some d)(i:0<=d.aS)(j:0<=c.aS)(b:Nat):fy (h.set a c) b<->fy h b:=by
 by_cases g:b=a
 ·subst g;rw[fy.Bf hd];refine⟨λk=>V,λ⟨e,f,l⟩=>?_⟩;rw[hd]at f;simp at f;subst f;omega
 ·exact fy.ne g
def fy.Sk(e:fy h a):¬eH h a:=λ⟨c,b,g⟩=>by
 obtain⟨d,hd,f⟩:=e;rw[b]at hd;simp at hd;subst hd;omega
def fy.eQ(c:fQ h w)(b:Nat):fy (eQ h w) b<->fy h b:=by
 obtain⟨a,d⟩:=bY c;exact fy.set a V (by simp only[];omega) b
def fy.lW(c:fQ h w)(b:Nat):fy (lW h w) b<->fy h b:=by
 obtain⟨a,d⟩:=bY c;exact fy.set a V (by simp only[];omega) b
def fy.Pq(c:fQ h w)(b:Nat):fy (h.set (ix w) ic) b<->fy h b:=by
 obtain⟨a,d⟩:=bY c;exact fy.set a V (by simp[ic]) b
def fy.fY:∀(n:Nat)(h:List bQ)(i:List Int),yM h+i.length<=n->∀b,fy (fY h i) b<->fy h b
 |n,h,[],_,b=>by rw[pK]
 |0,h,w::r,c,b=>by simp at c
 |n+1,h,w::r,c,b=>by
  simp only[aZ]at c;rcases dt (fQ h w)with a|a
  ·obtain⟨f,g⟩:=bY a;by_cases d:(aG h w).aS=1
   ·have e:=iQ (d:=ic) f;simp only[an g,ic]at e;simp at e;rw[pL a d,fy.fY n _ _ (by simp[ic];omega) b,fy.Pq a]
   ·have e:=iQ (d:={aG h w with aS:=(aG h w).aS -1}) f;simp only[an g]at e;rw[an V]at e;rw[nP a d,fy.fY n _ _ (by simp only[Go.Proofs.YtgnjacfobdjeeaaGreat.eQ];omega) b,fy.eQ a]
  ·rw[nQ a,fy.fY n _ _ V b]
def fy.mM{h:List bQ}(b:Nat):fy (mM h) b<->fy h b:=by
 have f:=tc h h.length;unfold fy Go.Proofs.YtgnjacfobdjeeaaGreat.mM;constructor
 ·rintro⟨c,a,d⟩;have:=aD a;rw[gU]at this;rw[dP V]at a;exact⟨c,a,d⟩
 ·rintro⟨c,a,d⟩;refine⟨c,?_,d⟩;rw[dP]
  ·exact a
  ·exact de λe=>by have:=ta h h.length b c V (aD a) a;omega
def ft.lW(c:ft h e)(f:fQ h w)(i:(aG h w).aS<999999)(a:∀b,e' b=e b+if b=ix w then 1 else 0):ft (lW h w) e':=by
 obtain⟨d,g⟩:=bY f;refine c.IQ d g V V (λb=>?_) ?_
 ·rw[a];split<;>omega
 ·rw[a];have:=c.nn (ix w);split<;>omega
def NL(a:fQ h w){v:Int}(d:1000<=v):(aG (lW h w) v).aS=(aG h v).aS+(if v=w then 1 else 0):=by
 obtain⟨c,f⟩:=bY a;unfold lW;by_cases e:v=w
 ·subst e;rw[an rfl];conv=>lhs;unfold aG
  rw[dY c];rfl
 ·rw[ae e];conv=>lhs;unfold aG
  rw[gS (λb=>e (Pt d a.1 b))];simp[aG]
def eH.lW{h:List bQ}{w:Int}(a:fQ h w)(b:Nat):eH (lW h w) b<->eH h b:=by
 obtain⟨c,d⟩:=bY a;by_cases e:b=ix w
 ·subst e;unfold Go.Proofs.YtgnjacfobdjeeaaGreat.lW;rw[eH.Bf c];exact⟨λ_=>a.2,λ_=>by simp only[];omega⟩
 ·exact eH.ne e
def iN(d:1000<=w)(r:List Int)(b:Nat):fR (w::r) b=(if b=ix w then 1 else 0)+fR r b:=by
 simp only[fR];congr 1;have e:=jI d;by_cases a:b=ix w
 ·subst a;rw[an e.symm,an rfl]
 ·rw[ae a,ae (λc=>a (by rw[c,uo]))]
def ft.il:∀(a:List Int)(h:List bQ)(e e':Nat->Int),ft h e->(∀w∈a,fQ h w/\(aG h w).aS+fR a (ix w)<=999999)->(∀b,e' b=e b+fR a b)->ft (il h a) e'/\(∀b,fy (il h a) b<->fy h b)/\(il h a).length=h.length
 |[],h,e,e',i,_,g=>⟨i.congr λb=>by rw[g];simp[fR],λ_=>Q5,rfl⟩
 |w::a,h,e,e',i,k,g=>by
  obtain⟨c,p⟩:=k w aX;rw[iN c.1,an rfl]at p;have:=ju a (ix w);obtain⟨m,n,o⟩:=ft.il a (Go.Proofs.YtgnjacfobdjeeaaGreat.lW h w) (λb=>e b+if b=ix w then 1 else 0) e' (i.lW c V λb=>rfl) (λv q=>by
   obtain⟨d,j⟩:=k v (ai _ q);refine⟨⟨d.1,(eH.lW c _).2 d.2⟩,?_⟩;rw[NL c d.1];rw[iN c.1]at j;split
   ·rename_i f;subst f;rw[an rfl]at j;omega
   ·rename_i f;rw[ae (λl=>f (Pt d.1 c.1 l))]at j;omega) (λb=>by rw[g,iN c.1];omega)
  refine⟨m,λb=>by rw[Go.Proofs.YtgnjacfobdjeeaaGreat.il,n,fy.lW c],by rw[Go.Proofs.YtgnjacfobdjeeaaGreat.il,o];simp[Go.Proofs.YtgnjacfobdjeeaaGreat.lW]⟩
def jT{l:List Int}:w∈j7 l<->w∈l/\1000<=w:=by simp[j7]
def ft.apart{h:List bQ}{e e':Nat->Int}(j:ft h e){w:Int}(q:fQ h w)(J:0<e (ix w))(x:(aG h w).aS=1\/kH h (aG h w).aR)
 (C:∀b,e' b=e b -(if b=ix w then 1 else 0)+fR (aG h w).aR b)(M:pZ h):ft (apart h w) e'/\(∀b,fy (apart h w) b<->fy h b)/\pZ (apart h w):=by
 obtain⟨g,L⟩:=bY q
 unfold Go.Proofs.YtgnjacfobdjeeaaGreat.apart
 by_cases t:(aG h w).aS=1
 ·rw[an t]
  exact⟨(j.Pq g t J (c':=ic) bh bh rfl (by simp[ic]) (by simp[ic]) (λ_=>rfl) C).mM,λb=>by rw[fy.mM,fy.Pq q],Fq _⟩
 ·rw[ae t]
  have x:kH h (aG h w).aR:=by rcases x with o|o;exact absurd o t;exact o
  have S:=(j.cell _ (av g)).hi
  have K:ft (Go.Proofs.YtgnjacfobdjeeaaGreat.eQ h w) (λb=>e b -if b=ix w then 1 else 0):=j.IQ g L V V (λb=>by split<;>omega) bR
  have y:∀b,eH h b->eH (Go.Proofs.YtgnjacfobdjeeaaGreat.eQ h w) b:=λb f=>by
   by_cases m:b=ix w
   ·subst m;unfold Go.Proofs.YtgnjacfobdjeeaaGreat.eQ;rw[eH.Bf g];simp only[];omega
   ·exact(eH.ne m).2 f
  obtain⟨o,A,B⟩:=ft.il (j7 (aG h w).aR) _ _ e' K (λv z=>by
   obtain⟨u,r⟩:=jT.1 z;have a:=j.field (av g) u r;refine⟨⟨a.1,y _ a.2⟩,?_⟩;have:=x v u r;rw[vt];have Q:(aG (Go.Proofs.YtgnjacfobdjeeaaGreat.eQ h w) v).aS<=(aG h v).aS:=by
    by_cases m:ix v=ix w
    ·have i:=Pt r q.1 m;subst i;unfold Go.Proofs.YtgnjacfobdjeeaaGreat.eQ;conv=>lhs;unfold aG
     rw[dY g];show(aG h v).aS -1<=(aG h v).aS;omega
    ·unfold Go.Proofs.YtgnjacfobdjeeaaGreat.eQ;conv=>lhs;unfold aG
     rw[gS m];exact cC _
   omega) (λb=>by rw[C,vt])
  refine⟨o,λb=>by rw[A,fy.eQ q],λc p=>?_⟩
  intro O
  rw[B]at p
  have D:(Go.Proofs.YtgnjacfobdjeeaaGreat.eQ h w).length=h.length:=by simp[Go.Proofs.YtgnjacfobdjeeaaGreat.eQ]
  rw[D]at p
  have f:=aD p
  rw[B,D]at f
  obtain⟨d,hd⟩:=ag (l:=h) (k:=h.length -1) V
  have P:=M d hd
  have I:=j.cell d (av hd)
  have R:=I.lo
  rcases dt (0<d.aS)with E|E
  ·have H:∀(s:List Int)(n:List bQ),(∀v∈s,fQ n v)->∀b,eH n b->eH (Go.Proofs.YtgnjacfobdjeeaaGreat.il n s) b:=by
    intro s;induction s with
    |nil=>intro n _ b f;exact f
    |cons v s N=>
     intro n i b f;have a:=i v aX;exact N _ (λG F=>⟨(i G (ai _ F)).1,(eH.lW a _).2 (i G (ai _ F)).2⟩) b ((eH.lW a _).2 f)
   obtain⟨F,i,G⟩:=H (j7 (aG h w).aR) (Go.Proofs.YtgnjacfobdjeeaaGreat.eQ h w) (λv z=>by
    obtain⟨u,r⟩:=jT.1 z;have a:=j.field (av g) u r;exact⟨a.1,y _ a.2⟩) _ (y _ ⟨d,hd,E⟩)
   rw[p]at i;simp at i;subst i;omega
  ·have n:fy h (h.length -1):=⟨d,hd,V⟩
   obtain⟨F,i,s⟩:=(A (h.length -1)).2 ((fy.eQ q _).2 n)
   rw[p]at i;simp at i;subst i;omega
def pN:∀(h:List bQ),dg h<=h.length
 |[]=>ad _
 |c::h=>by have:=pN h;simp only[dg,aZ];split<;>omega
def CO:∀(h:List bQ)(c:bQ),h[dg h]? =some c->c.aS=0
 |[],c,a=>by simp[dg]at a
 |d::h,c,a=>by
  simp only[dg]at a;split at a
  ·rename_i b;simp at a;subst a;exact b
  ·exact CO h c (by simpa using a)
def ft.alloc(k:ft h e){t:Int}{f:List Int}(s:∀w∈f,wo h w)(m:f.length<=3)(r:0<=t/\t<=99)(n:∀b,fR f b<=e b)
 (l:∀b,e' b=e b -fR f b+if b=dg h then 1 else 0)(u:pZ h):
 ft (gL h (dg h) ⟨1,t,f⟩) e'/\(∀b,fy (gL h (dg h) ⟨1,t,f⟩) b<->fy h b)/\pZ (gL h (dg h) ⟨1,t,f⟩):=by
 unfold gL
 have o:¬eH h (dg h):=λ⟨c,a,v⟩=>by have:=CO h c a;omega
 by_cases i:dg h=h.length
 ·rw[an i]
  have q:(h++[⟨1,t,f⟩])[dg h]? =some ⟨1,t,f⟩:=by rw[i];simp
  have p:∀b,b≠dg h->(h++[⟨1,t,f⟩])[b]? =h[b]? :=λb g=>by
   rcases bA b h.length with j|j
   ·rw[aw j]
   ·rw[di bR,di j]
  refine⟨k.make o q p (λb=>by rw[zi];simp[mj]) s m r n l,λb=>?_,λc a=>?_⟩
  ·by_cases g:b=dg h
   ·rw[g];unfold fy;rw[q,i];simp
   ·unfold fy;rw[p b g]
  ·simp at a;subst a;simp
 ·rw[ae i]
  have q:dg h<h.length:=by have:=pN h;omega
  obtain⟨d,hd⟩:=ag q
  have j:=CO h d hd
  have p:=((k.cell d (av hd)).FK V).2.2 j
  refine⟨k.make o (dY hd) (λb g=>gS g) (λb=>by rw[zj _ hd,p];simp[fR]) s m r n l,λb=>fy.set hd V aJ b,λc a=>?_⟩
  rw[jO]at a
  by_cases g:h.length -1=dg h
  ·rw[g,dY hd]at a;simp at a;subst a;simp
  ·rw[gS g]at a;exact u c a
end
section
variable{b:cq}{w:Int}{s:St}{c:List aW}{f d:aW}
def DP{b:cq}{x:Instr}:∀{l:List Int}{k:Nat}{r:Int},r∈gT b x k l->r∈l
 |[],k,r,h=>by simp[gT]at h
 |y::l,k,r,h=>by
  simp only[gT]at h;split at h
  ·exact ai _ (DP h)
  ·rcases List.mem_cons.1 h with rfl|h
   ·exact aX
   ·exact ai _ (DP h)
def AU{x:Instr}{r:Int}(h:r∈bS b x):r∈x.args:=by
 unfold bS at h;split at h
 ·exact h
 split at h
 ·exact jL h
 split at h
 ·exact DP h
 ·simp at h
def Hj{a:List bu}(h:dI a)(c:Int):(cz a c).length<=3:=by
 unfold cz;split
 ·cases g:(eE a)[c.toNat]? with
  |none=>simp
  |some f=>
   have d:=av g;unfold eE at d;obtain⟨e,hd,b⟩:=List.mem_flatMap.1 d;obtain⟨k,i⟩:=List.mem_iff_getElem?.1 hd;have:=(h.dz k e i).iu (List.length_pos_of_mem b);exact(this.2.2.2 f b).1
 ·simp
def gA.put{b:cq}{d:aW}(h:gA b d){r w o:Int}(i:0<=r)(g:jm w\/1000<=w)(e:0<=o)(f:0<o->1000<=w):gA b (d.put r w o):=by
 refine⟨h.eu,h.pc,by simp only[aW.put,jo];exact h.lr,by simp only[aW.put,jo];exact h.lo,h.lh,λy a=>?_,λk q y c a=>?_,h.br⟩
 ·rcases oW a with rfl|a
  ·exact g
  ·exact h.Nr y a
 ·simp only[aW.put]at c a;rw[zn]at c a;have:=h.lr;have:=h.lo;split at c<;>split at a
  ·simp at c a;subst c;subst a;exact⟨e,f⟩
  ·omega
  ·omega
  ·exact h.aQ k q y c a
def Gg(w:Int):0<=fV w:=by unfold fV;split<;>omega
def CY(h:0<fV w):1000<=w:=by unfold fV at h;split at h<;>omega
def wA(w:Int)(b:Nat):(if w=1000+(b:Int)then fV w else 0)=fR [w] b:=by
 simp only[fR,fV];split
 ·rw[an V];rfl
 ·rfl
def FJ(n:Int):jm (Ef n):=by unfold Ef jm;split<;>(try split)<;>omega
def Oq(c a b:Int):jm (MN c a b):=by
 unfold MN;split
 ·exact FJ _
 split
 ·exact FJ _
 split
 ·exact FJ _
 split<;>(unfold jm;omega)
def lA(cG:List Int):∀(a:List Int)(k:Nat),(dA cG k a).length=a.length
 |[],k=>rfl
 |w::a,k=>by simp only[dA,aZ,lA cG a]
def HA(cG:List Int):∀(b:List Int)(k j:Nat)(o w:Int),(dA cG k b)[j]? =some o->b[j]? =some w->0<=o/\(0<o->1000<=w)
 |[],k,j,o,w,_,h=>by simp at h
 |v::b,k,0,o,w,a,c=>by
  simp[dA]at a c;subst c;split at a
  ·subst a;omega
  ·subst a;exact⟨Gg _,CY⟩
 |v::b,k,j+1,o,w,a,c=>HA cG b (k+1) j o w (by simpa[dA]using a) (by simpa using c)
def jE(n:Nat):(cZ n).length=n:=by simp[cZ]
def pQ{n:Nat}(h:w∈cZ n):w=0:=TH h
def tQ{d j:Int}{e:List Int}{p:dk}(m:gP b)(l:0<=d)(h:b.cB[d.toNat]? =some p)(q:e.length=p.params.length)(n:∀w∈e,jm w\/1000<=w):gA b (bg b d j e):=by
 have f:dy b d=p:=by simp[dy,h]
 have i:=m.dz p (av h);have t:=i.ao;have r:=i.len;have s:=aD h;refine⟨⟨l,by simp only[bg];omega⟩,⟨by simp[bg],by simp only[bg,f];omega⟩,?_,?_,?_,λw a=>?_,λk o w c a=>?_,λw a=>Or.inl (pQ a)⟩
 ·simp only[bg,f,a8,jE];omega
 ·simp only[bg,f,a8,jE,lA];omega
 ·simp only[bg,f,jE];omega
 ·simp only[bg]at a;rcases List.mem_append.1 a with a|a
  ·exact n w a
  ·rw[pQ a];exact Or.inl (by unfold jm;omega)
 ·simp only[bg]at c a;rcases bA k e.length with g|g
  ·rw[aw (by rw[lA];exact g)]at c;rw[aw g]at a;exact HA _ e 0 k o w c a
  ·rw[aF (by rw[lA];exact g)]at c;rw[pQ (fL c)];omega
def qj(b:cq)(d e:Int)(a:List Int)(c:Nat):fq (bg b d e a).ao (bg b d e a).aQ c=fq a (dA (dy b d).cG 0 a) c:=by
 simp only[bg];rw[EE _ _ (lA _ _ _).symm,sK (λn f=>pQ f)];omega
def oX(b:cq)(d c:Int)(e:List Int)(a:Nat):holds [bg b d c e] a=0:=by
 rw[iF];exact QP _ _
def Gf{b:cq}{d:Instr}(f:aW):∀(e:List Int)(k:Nat)(a:Nat),fq (cy f e) (dA (dy b d.bL).cG k (cy f e)) a=fR ((gT b d k e).map (D f.ao)) a
 |[],k,a=>by simp[cy,fq,gT,fR]
 |r::h,k,a=>by
  have g:=Gf (b:=b) (d:=d) f h (k+1) a;simp only[cy,cE,dA,fq,gT]at g⊢;rw[g];by_cases c:na b d k=true
  ·rw[an c];unfold na at c;rw[an c];split<;>omega
  ·rw[ae c];unfold na at c;rw[ae c];simp only[cE,fR];have:=wA (D f.ao r) a;simp only[fR]at this;omega
def HB:∀(a:List Int)(k:Nat)(b:Nat),fq a (dA [] k a) b=fR a b
 |[],k,b=>by simp[fq,fR]
 |w::a,k,b=>by
  have:=HB a (k+1) b;have c:=wA w b;simp only[fR]at c;simp only[dA,fq,fR,this,OV,jx,pC];omega
def dm.pO{g:List bQ}(i:dm b s)(l:s.aA=c++[f])(m:d.br=f.br)(j:∀a,fy g a<->fy s.heap a):
 (∀a,fy g a->holds (c++[d]) a=1)/\(∀a,¬fy g a->holds (c++[d]) a=0):=by
 have h:∀a,holds (c++[d]) a=holds s.aA a:=λa=>by rw[l,eL,eL,iF,iF,m]
 exact⟨λa e=>by rw[h];exact i.kD a ((j a).1 e),λa e=>by rw[h];exact i.px a λk=>e ((j a).2 k)⟩
def dm.push(h:dm b s)(C:s.bW=3)(i:s.aA=c++[f])(p:gA b d)(hd:0<=d.dst/\d.dst<f.aQ.length/\D f.aQ d.dst=0){e:List bQ}{bE:Int}
 (r:ft e (lB (c++[f,d])))(v:pZ e)(t:∀a,fy e a->holds (c++[f,d]) a=1)(w:∀a,¬fy e a->holds (c++[f,d]) a=0)(z:bE=s.bE+1)(B:s.bE<s.aY):
 dm b {s with heap:=e,bE:=bE,aA:=c++[f,d]}:=by
 have A:=h.bE
 have m:=h.depth
 rw[i]at m
 refine⟨h.fC,h.bW,⟨λg=>by simp at g;omega,λg=>by simp at g⟩,h.value,h.DQ,h.aY,⟨by simp only[];omega,by simp only[];omega⟩,by simp at m⊢;omega,h.bd,r,v,λq a=>?_,λq a=>?_,λk x q e a=>?_,t,w⟩
 ·rcases List.mem_append.1 a with a|a
  ·exact h.aA q (by rw[i];exact bJ _ a)
  ·simp at a
   rcases a with rfl|rfl
   ·exact h.aA _ (by rw[i];simp)
   ·exact p
 ·have j:=h.first
  rw[i]at j
  cases c with
  |nil=>simp at a;subst a;exact j f aJ
  |cons y l=>simp at a;subst a;exact j y aJ
 ·have l:=h.chain k
  rw[i]at l
  simp only[]at e a
  have g:c++[f,d]=(c++[f])++[d]:=aJ
  rw[g]at e a
  have u:=aD a
  simp at u
  rw[aw bR]at e
  rcases bA (k+1) (c++[f]).length with j|j
  ·rw[aw j]at a
   exact l x q e a
  ·simp at j
   rw[aF bR]at a
   have n:k+1 -(c++[f]).length=0:=bR
   rw[n]at a;simp at a;subst a
   rw[aF V]at e
   have o:k -c.length=0:=V
   rw[o]at e;simp at e;subst e;exact hd
def Pz(j:dm b s)(W:s.bW=3)(u:s.aA=c++[f])
 (Q:jr b s f (dh b f) (bB f.ao f.aQ (bS b (dh b f))))(bj:¬(mE (dh b f).op/\s.bE=s.aY)):
 dm b (dJ b s c f (dh b f) (bB f.ao f.aQ (bS b (dh b f)))):=by
 have L:gA b f:=j.aA f (by rw[u];simp)
 obtain⟨ah,hp,aE,hP,a5,hI⟩:=L.Hp j.fC
 generalize dh b f=x at*
 have⟨lr,lo,lh⟩:(f.ao.length:Int)=ah.ao/\(f.aQ.length:Int)=ah.ao/\(f.br.length:Int)=ah.ao:=⟨aE▸L.lr,aE▸L.lo,aE▸L.lh⟩
 have ap:∀v∈x.args,0<=v/\v<f.ao.length:=λv y=>by have:=hI.args v y;omega
 have a3:∀r∈bS b x,0<=r/\r<f.ao.length:=λr W=>ap r (AU W)
 have bq:=wY (ao:=f.ao) (bS b x) f.aQ a3 V
 have bp:=jA f.ao (bS b x) f.aQ
 have bo:=kj (ao:=f.ao) (bS b x) f.aQ
 generalize bB f.ao f.aQ (bS b x)=aQ at*
 have aM:∀G∈c,gA b G:=λG n=>j.aA G (by rw[u];exact bJ _ n)
 have aq:∀e,0<=lB c e+fq f.ao aQ e:=λe=>by
  have:=IP aM e;have:=zf (ao:=f.ao) Q.nn e;omega
 have H:ft s.heap (λe=>lB c e+fq f.ao aQ e+fR ((bS b x).map (D f.ao)) e):=j.heap.congr λe=>by
  rw[u,fU,kN,bq];omega
 have bb:∀S:Int,0<=S->S<ah.cJ.length->gA b {f with aQ:=aQ,pc:=S}:=λS h0 m=>
  ⟨L.eu,⟨h0,by rw[aE];exact m⟩,L.lr,by simp only[bp];exact L.lo,L.lh,L.Nr,λA af w Z p=>by
   obtain⟨G,n,q⟩:=bo A af Z;have C:=L.aQ A G w n p;exact⟨Q.nn af (fL Z),λo=>C.2 V⟩,L.br⟩
 have bs:=L.pc
 rw[aE]at bs
 have ba:x.op≠23->x.op≠24->f.pc+1<ah.cJ.length:=λm C=>by
  rcases dt (f.pc+1<ah.cJ.length)with E|E
  ·exact E
  ·have M:f.pc.toNat=ah.cJ.length -1:=V;rw[M]at a5;have:=hP.Pu x a5;omega
 have hG:x.op≠23->x.op≠24->gA b {f with aQ:=aQ,pc:=f.pc+1}:=λm C=>bb _ V (ba m C)
 have au:∀r:Int,0<=r->r<f.ao.length->jm (D f.ao r)\/1000<=D f.ao r:=λr h0 m=>L.Nr _ (eR h0 m)
 have a8:∀r:Int,0<=r->r<f.ao.length->D f.ao r<1000->jm (D f.ao r):=λr h0 m C=>by rcases au r h0 m with E|E;exact E;omega
 have ak:=hI.dst
 have a6:lx x.op->D aQ x.dst=0:=λR=>by
  have m:=Q.dst R;have C:=Q.nn _ (eR (c:=aQ) ak.1 V);omega
 have bt:∀r∈bS b x,wo s.heap (D f.ao r):=λr bc=>by
  have be:=a3 r bc;rcases au r be.1 be.2 with E|E
  ·exact Or.inl E
  ·refine Or.inr ⟨E,H.lv _ ?_⟩;have:=aq (ix (D f.ao r));have:=wy (l:=(bS b x).map (D f.ao)) (f:=ix (D f.ao r)) (by rw[jI E];exact List.mem_map.2 ⟨r,bc,rfl⟩);omega
 have aN:∀(S:Int)(a7:List Int)(w af:Int),lx x.op->∀e,lB (c++[aW.put {f with aQ:=aQ,pc:=S,br:=a7} x.dst w af]) e=lB c e+fq f.ao aQ e+(if w=1000+(e:Int)then af else 0):=λS a7 w af R e=>by
  rw[fU,kN];simp only[aW.put];rw[LF ak.1 V V (a6 R)];omega
 have aR:∀(w:Int)(bd:List Int),lx x.op->x.op≠23->x.op≠24->bS b x=[]->(jm w\/1000<=w)->(∀o∈bd,jm o)->dm b {s with bd:=bd,aA:=c++[aW.put {f with aQ:=aQ,pc:=f.pc+1} x.dst w 0]}:=λw bd R m C z p Z=>by
  obtain⟨B,T⟩:=j.pO u (d:=aW.put {f with aQ:=aQ,pc:=f.pc+1} x.dst w 0) rfl (λe=>Q5);refine j.fI W u (hd:=rfl) ((hG m C).put ak.1 p (cC _) (λE=>V)) (H.congr λe=>?_) j.jX B T Z (bE:=s.bE) ⟨cC _,j.bE.2⟩;rw[aN _ _ _ _ R,z];simp[fR]
 have aT:∀S:Int,0<=S->S<ah.cJ.length->bS b x=[]->dm b {s with aA:=c++[{f with aQ:=aQ,pc:=S}]}:=λS h0 m z=>by
  obtain⟨B,T⟩:=j.pO u (d:={f with aQ:=aQ,pc:=S}) rfl (λe=>Q5);refine j.fI W u (hd:=rfl) (bb S h0 m) (H.congr λe=>?_) j.jX B T j.bd (bE:=s.bE) ⟨cC _,j.bE.2⟩;rw[fU,kN,z];simp[fR]
 have q:=hI.op
 unfold lp at q
 unfold dJ
 simp only[]
 by_cases e0:x.op=0
 ·rw[an e0]at q⊢
  exact aR _ _ (by unfold lx;omega) V V (by simp[bS,e0]) (Or.inl q.2) j.bd
 rw[ae e0]at q⊢
 by_cases e1:x.op=1\/x.op=2\/x.op=3\/x.op=4
 ·rw[an e1]
  exact aR _ _ (by unfold lx;omega) V V (by unfold bS;rw[ae V,ae V,ae V]) (Or.inl (Oq _ _ _)) j.bd
 rw[ae e1]
 have ax:1<=x.args.length->0<=D x.args 0/\D x.args 0<f.ao.length:=λm=>ap _ (eR V V)
 by_cases e5:x.op=5
 ·rw[an e5]
  rw[ae V,an V]at q
  have y:=ax V
  have aB:jm (D f.ao (D x.args 0)):=a8 _ y.1 y.2 (Q.nu V _ (eR V V))
  refine aR _ _ (by unfold lx;omega) V V (by simp[bS,e5]) (Or.inl aB) λo I=>?_
  rcases List.mem_append.1 I with I|I
  ·exact j.bd o I
  ·simp at I;subst I;exact aB
 rw[ae e5]
 have bf:(bS b x=x.args)->∀w∈cy f x.args,wo s.heap w:=λz w p=>by
  obtain⟨r,ab,rfl⟩:=List.mem_map.1 p;exact bt r (z▸ab)
 have a0:∀aH,bS b x=x.args->x.op≠23->x.op≠24->lx x.op->x.args.length<=3->0<=aH/\aH<=99->dm b {s with heap:=gL s.heap (dg s.heap) ⟨1,aH,cy f x.args⟩,aA:=c++[aW.put {f with aQ:=aQ,pc:=f.pc+1} x.dst (1000+dg s.heap) 1]}:=λaH z m C R E aY=>by
  obtain⟨X,k2,k3⟩:=H.alloc (t:=aH) (f:=cy f x.args) (e':=lB (c++[aW.put {f with aQ:=aQ,pc:=f.pc+1} x.dst (1000+dg s.heap) 1])) (bf z) (by simpa[cy]using E) aY (λe=>by rw[z];have:=aq e;simp only[cy];omega) (λe=>by
   rw[aN _ _ _ _ R,z];simp only[cy];have:(if(1000+(dg s.heap:Int))=1000+(e:Int)then(1:Int)else 0)=if e=dg s.heap then 1 else 0:=by
    by_cases o:e=dg s.heap
    ·rw[an o,an V]
    ·rw[ae o,ae V]
   rw[this];omega) j.jX
  obtain⟨B,T⟩:=j.pO u (d:=aW.put {f with aQ:=aQ,pc:=f.pc+1} x.dst (1000+dg s.heap) 1) rfl k2;exact j.fI W u (hd:=rfl) ((hG m C).put ak.1 (Or.inr V) V (λ_=>V)) X k3 B T j.bd (bE:=s.bE) ⟨cC _,j.bE.2⟩
 have bu:(eE b.aT).length<=12:=by
  have:=qx j.fC.lY.types b.aT.length;rw[mz _ _ (ad _)]at this;exact this
 have bw:=j.fC.lY.len
 by_cases U:x.op=6
 ·rw[an U]
  rw[ae V,ae V,an U]at q
  have z:bS b x=x.args:=by unfold bS;rw[an V]
  have R:lx x.op:=by unfold lx;omega
  have ac:x.args.length<=3:=by rw[q.2.1];exact Hj j.fC.lY.types _
  split
  ·rename_i aK
   have N:0<=x.bH -1/\x.bH -1<f.br.length:=V
   have hv:=L.br _ (eR (c:=f.br) N.1 N.2)
   have O:1000<=D f.br (x.bH -1):=V
   have aI:0<holds s.aA (ix (D f.br (x.bH -1))):=by
    rw[u,eL,iF];have:=En c (ix (D f.br (x.bH -1)));have:=wy (l:=f.br) (f:=ix (D f.br (x.bH -1))) (by rw[jI O];exact eR N.1 N.2);omega
   have aa:fy s.heap (ix (D f.br (x.bH -1))):=de λI=>by have:=j.px _ I;omega
   have am:=j.kD _ aa
   obtain⟨Y,hd,ay⟩:=aa
   have az:∀e,fR Y.aR e=0:=λe=>oZ λp=>by
    have:=((H.cell Y (av hd)).FK V).2.1 _ p;omega
   have X:=H.make (v:=x.bL) (c:=cy f x.args) (e':=lB (c++[aW.put {f with aQ:=aQ,pc:=f.pc+1,br:=gF f.br (x.bH -1) 0} x.dst (D f.br (x.bH -1)) 1])) (f:=ix (D f.br (x.bH -1))) (g:=s.heap.set (ix (D f.br (x.bH -1))) ⟨1,x.bL,cy f x.args⟩)
    (fy.Sk ⟨Y,hd,ay⟩) (dY hd) (λe o=>gS o) (λe=>by rw[zj _ hd,az];simp only[];omega) (bf z) (by simpa[cy]using ac) V (λe=>by rw[z];have:=aq e;simp only[cy];omega) (λe=>by
     rw[aN _ _ _ _ R,z];simp only[cy];have:(if D f.br (x.bH -1)=1000+(e:Int)then(1:Int)else 0)=if e=ix (D f.br (x.bH -1))then 1 else 0:=by
      by_cases o:e=ix (D f.br (x.bH -1))
      ·rw[an o,an (by rw[o,jI O])]
      ·rw[ae o,ae (λK=>o (by rw[K,uo]))]
     rw[this];omega)
   have aC:∀e,fR (gF f.br (x.bH -1) 0) e=fR f.br e -(if e=ix (D f.br (x.bH -1))then 1 else 0):=by
    intro e;have al:∀(F:List Int)(A:Nat)(w:Int),F[A]? =some w->fR (F.set A 0) e=fR F e -(if w=1000+(e:Int)then 1 else 0):=by
     intro F;induction F with
     |nil=>intro A w B;simp at B
     |cons ai F ih=>
      intro A w B;cases A with
      |zero=>simp at B;subst B;simp only[fj,fR];rw[ae V];omega
      |succ A=>have:=ih A w (by simpa using B);simp only[fO,fR,this];omega
    rw[gF,al _ _ _ (nN N.1 N.2)];by_cases o:e=ix (D f.br (x.bH -1))
    ·rw[an o,an (by rw[o,jI O])]
    ·rw[ae o,ae (λK=>o (by rw[K,uo]))]
   have P:∀e,holds (c++[aW.put {f with aQ:=aQ,pc:=f.pc+1,br:=gF f.br (x.bH -1) 0} x.dst (D f.br (x.bH -1)) 1]) e=holds s.aA e -(if e=ix (D f.br (x.bH -1))then 1 else 0):=λe=>by
    rw[u,eL,eL,iF,iF];simp only[aW.put];rw[aC];omega
   have ar:gA b {f with aQ:=aQ,pc:=f.pc+1,br:=gF f.br (x.bH -1) 0}:=by
    have m:=hG V V;exact⟨m.eu,m.pc,m.lr,m.lo,by simp only[jo];exact m.lh,m.Nr,m.aQ,λw p=>by rcases oW p with p|p;exact Or.inl p;exact m.br w p⟩
   refine j.fI W u (hd:=rfl) (ar.put ak.1 (Or.inr O) V (λ_=>O)) X ?_ (λv y=>?_) (λv y=>?_) j.bd (bE:=s.bE) ⟨cC _,j.bE.2⟩
   ·intro aj J
    rw[jO]at J
    by_cases o:s.heap.length -1=ix (D f.br (x.bH -1))
    ·rw[o,dY hd]at J;simp at J;subst J;simp
    ·rw[gS o]at J;exact j.jX aj J
   ·rw[P]
    by_cases o:v=ix (D f.br (x.bH -1))
    ·subst o;rw[fy.Bf hd]at y;simp at y
    ·rw[ae o];rw[fy.ne o]at y;have:=j.kD v y;omega
   ·rw[P]
    by_cases o:v=ix (D f.br (x.bH -1))
    ·subst o;rw[an rfl];omega
    ·rw[ae o];rw[fy.ne o]at y;have:=j.px v y;omega
  ·exact a0 _ z V V R ac V
 rw[ae U]
 by_cases aa:x.op=10
 ·rw[an aa]
  rw[ae V,ae V,ae U,ae V,an aa]at q
  obtain⟨⟨G,aL,ar,aO⟩,_⟩:=q
  have E:=(j.fC.lY.dz G (av ar)).1
  have:=aD ar
  exact a0 _ (by unfold bS;rw[an V]) V V (by unfold lx;omega) V (by unfold bz;omega)
 rw[ae aa]
 by_cases aI:x.op=14
 ·rw[an aI]
  rw[ae V,an V]at q
  have y:=ax V
  have z:bS b x=[]:=by simp[bS,aI]
  obtain⟨I,Y⟩:=Q.Th aI
  obtain⟨B,T⟩:=j.pO u (d:={f with aQ:=gF aQ (D x.args 0) (D aQ (D x.args 0)+1),pc:=f.pc+1}) rfl (λe=>fy.lW I e)
  have m:=hG V V
  refine j.fI W u (hd:=rfl) (g:={f with aQ:=gF aQ (D x.args 0) (D aQ (D x.args 0)+1),pc:=f.pc+1}) ⟨m.eu,m.pc,m.lr,by simp only[jo];exact m.lo,m.lh,m.Nr,λA af w Z p=>?_,m.br⟩ (H.lW I Y λe=>?_) ?_ B T j.bd (bE:=s.bE) ⟨cC _,j.bE.2⟩
  ·simp only[]at Z p
   rw[zn]at Z
   split at Z
   ·rename_i N
    simp at Z
    have M:D f.ao (D x.args 0)=w:=by rw[D,eM,<-N.1,p];rfl
    have:=Q.nn _ (eR (c:=aQ) y.1 V)
    have:=I.1
    exact⟨V,λ_=>V⟩
   ·exact m.aQ A af w Z p
  ·rw[fU,kN,z]
   simp only[]
   rw[Gd y.1 y.2 V]
   have N:=jI I.1
   simp only[eX,fR]
   by_cases o:e=ix (D f.ao (D x.args 0))
   ·rw[an o,an (by rw[o,N])];omega
   ·rw[ae o,ae (λK=>o (by rw[K,uo]))];omega
  ·obtain⟨J,aC⟩:=bY I
   intro aj O
   unfold lW at O
   rw[jO]at O
   by_cases o:s.heap.length -1=ix (D f.ao (D x.args 0))
   ·rw[o,dY J]at O;simp at O;subst O;simp only[];omega
   ·rw[gS o]at O;exact j.jX aj O
 rw[ae aI]
 have aS:x.args.length=1->x.args=[D x.args 0]:=λm=>by
  cases hx:x.args with
  |nil=>rw[hx]at m;simp at m
  |cons ai F=>cases F with
   |nil=>rfl
   |cons a_ F=>rw[hx]at m;simp at m
 by_cases a1:x.op=15
 ·rw[an a1]
  rw[ae V,an V]at q
  have z:bS b x=[D x.args 0]:=by unfold bS;rw[an V];exact aS V
  rw[z]at H
  have X:=ft.fY _ s.heap [D f.ao (D x.args 0)] (λe=>lB c e+fq f.ao aQ e) (ad _) (H.congr λe=>rfl) aq
  obtain⟨B,T⟩:=j.pO u (d:={f with aQ:=aQ,pc:=f.pc+1}) rfl (λe=>(fy.mM (h:=fY s.heap [D f.ao (D x.args 0)]) e).trans (fy.fY _ _ _ (ad _) e))
  exact j.fI W u (hd:=rfl) (hG V V) (X.mM.congr λe=>by rw[fU,kN]) (Fq _) B T j.bd (bE:=s.bE) ⟨cC _,j.bE.2⟩
 rw[ae a1]
 by_cases Y:x.op=16\/x.op=17
 ·rw[an Y]
  rw[ae V,ae V,ae U,ae V,ae aa,an Y]at q
  have y:=ax V
  have z:bS b x=[D x.args 0]:=by
   unfold bS;rw[ae V,an Y];cases hx:x.args with
   |nil=>rw[hx]at q;simp at q
   |cons ai F=>rfl
  obtain⟨I,aP,aU,a2⟩:=Q.Ct Y
  obtain⟨J,aC⟩:=bY I
  have aV:∀r∈x.args.drop 1,0<=r/\r<aQ.length/\1000<=D f.ao r:=λr ab=>by
   have m:=ap r (vY ab);have C:D f.ao r∈j7 (aG s.heap (D f.ao (D x.args 0))).aR:=by rw[aP];exact List.mem_map.2 ⟨r,ab,rfl⟩
   exact⟨m.1,V,(jT.1 C).2⟩
  have m:=hG V V
  have ac:gA b {f with aQ:=dw aQ (x.args.drop 1),pc:=f.pc+1}:=⟨m.eu,m.pc,m.lr,by simp only[lj];exact m.lo,m.lh,m.Nr,Jd (ao:=f.ao) _ aQ aV m.aQ,m.br⟩
  have a9:∀e,fq f.ao (dw aQ (x.args.drop 1)) e=fq f.ao aQ e+fR (aG s.heap (D f.ao (D x.args 0))).aR e:=λe=>by
   rw[Ed (ao:=f.ao) _ _ (λr ab=>by have:=aV r ab;omega) V,<-vt (aG s.heap _).aR,aP];rfl
  have az:0<lB c (ix (D f.ao (D x.args 0)))+fq f.ao aQ (ix (D f.ao (D x.args 0)))+fR ((bS b x).map (D f.ao)) (ix (D f.ao (D x.args 0))):=by
   rw[z];have:=aq (ix (D f.ao (D x.args 0)));simp only[cE,eX,iN I.1,an,fR];omega
  have ay:∀e,lB c e+fq f.ao (dw aQ (x.args.drop 1)) e=(lB c e+fq f.ao aQ e+fR ((bS b x).map (D f.ao)) e) -(if e=ix (D f.ao (D x.args 0))then 1 else 0)+fR (aG s.heap (D f.ao (D x.args 0))).aR e:=λe=>by
   rw[a9,z];simp only[cE,eX,iN I.1,fR];omega
  split
  ·rename_i am
   have aZ:=a2 am.2
   have X:=H.Pq J am.1 az (c':=⟨-1,0,cZ (aG s.heap (D f.ao (D x.args 0))).aR.length⟩) aJ aJ rfl (λw p=>pQ p) (by simp only[jE];exact(H.cell _ (av J)).fl) (λC=>by simp at C) (e':=lB (c++[{f with aQ:=dw aQ (x.args.drop 1),pc:=f.pc+1,br:=gF f.br (D x.args 0) (D f.ao (D x.args 0))}])) (λe=>by rw[fU,kN];exact ay e)
   have al:∀(e:Nat)(w:Int)(F:List Int)(A:Nat),F[A]? =some 0->fR (F.set A w) e=fR F e+(if w=1000+(e:Int)then 1 else 0):=by
    intro e w F;induction F with
    |nil=>intro A B;simp at B
    |cons ai F ih=>
     intro A B;cases A with
     |zero=>simp at B;subst B;simp only[fj,fR];split<;>simp_all<;>omega
     |succ A=>have:=ih A (by simpa using B);simp only[fO,fR,this];omega
   have aX:D x.args 0<f.br.length:=V
   have P:∀e,holds (c++[{f with aQ:=dw aQ (x.args.drop 1),pc:=f.pc+1,br:=gF f.br (D x.args 0) (D f.ao (D x.args 0))}]) e=holds s.aA e+(if e=ix (D f.ao (D x.args 0))then 1 else 0):=λe=>by
    rw[u,eL,eL,iF,iF];have aK:=nN (c:=f.br) y.1 aX;rw[aZ]at aK;simp only[gF];rw[al e _ _ _ aK];by_cases o:e=ix (D f.ao (D x.args 0))
    ·rw[an o,an (by rw[o,jI I.1])];omega
    ·rw[ae o,ae (λK=>o (by rw[K,uo]))];omega
   have a4:¬fy s.heap (ix (D f.ao (D x.args 0))):=λB=>B.Sk I.2
   refine j.fI W u (hd:=rfl) (g:={f with aQ:=dw aQ (x.args.drop 1),pc:=f.pc+1,br:=gF f.br (D x.args 0) (D f.ao (D x.args 0))}) ⟨ac.eu,ac.pc,ac.lr,ac.lo,by simp only[jo];exact ac.lh,ac.Nr,ac.aQ,λw p=>?_⟩ X ?_ (λv N=>?_) (λv N=>?_) j.bd (bE:=s.bE) ⟨cC _,j.bE.2⟩
   ·rcases oW p with p|p
    ·rw[p];exact Or.inr I.1
    ·exact L.br w p
   ·intro aj O
    rw[jO]at O
    by_cases o:s.heap.length -1=ix (D f.ao (D x.args 0))
    ·rw[o,dY J]at O;simp at O;subst O;simp
    ·rw[gS o]at O;exact j.jX aj O
   ·rw[P]
    by_cases o:v=ix (D f.ao (D x.args 0))
    ·rw[an o,o,j.px _ a4];rfl
    ·rw[ae o];rw[fy.ne o]at N;have:=j.kD v N;omega
   ·rw[P]
    by_cases o:v=ix (D f.ao (D x.args 0))
    ·subst o;rw[fy.Bf J]at N;simp at N
    ·rw[ae o];rw[fy.ne o]at N;have:=j.px v N;omega
  ·obtain⟨X,k2,k3⟩:=H.apart I az aU (e':=lB (c++[{f with aQ:=dw aQ (x.args.drop 1),pc:=f.pc+1}])) (λe=>by rw[fU,kN];exact ay e) j.jX
   obtain⟨B,T⟩:=j.pO u (d:={f with aQ:=dw aQ (x.args.drop 1),pc:=f.pc+1}) rfl k2
   exact j.fI W u (hd:=rfl) ac X k3 B T j.bd (bE:=s.bE) ⟨cC _,j.bE.2⟩
 rw[ae Y]
 by_cases a2:x.op=18
 ·rw[an a2]
  rw[ae V,an V]at q
  have y:=ax V
  have z:bS b x=[D x.args 0]:=by unfold bS;rw[an V];exact aS V
  have R:lx x.op:=by unfold lx;omega
  obtain⟨B,T⟩:=j.pO u (d:=aW.put {f with aQ:=aQ,pc:=f.pc+1} x.dst (D f.ao (D x.args 0)) (fV (D f.ao (D x.args 0)))) rfl (λe=>Q5)
  refine j.fI W u (hd:=rfl) ((hG V V).put ak.1 (au _ y.1 y.2) (Gg _) CY) (H.congr λe=>?_) j.jX B T j.bd (bE:=s.bE) ⟨cC _,j.bE.2⟩
  rw[aN _ _ _ _ R,z,wA];rfl
 rw[ae a2]
 by_cases O:x.op=19
 ·rw[an O]
  rw[ae V,ae V,ae U,ae V,ae aa,ae Y,an O]at q
  obtain⟨I,o⟩:=Q.load O
  obtain⟨J,aC⟩:=bY I
  refine aR _ _ (by unfold lx;omega) V V (by simp[bS,O]) ?_ j.bd
  rcases((H.cell _ (av J)).rm aC).1 _ (eR q.2.1 o)with C|C
  ·exact Or.inl C
  ·exact Or.inr C.1
 rw[ae O]
 by_cases ac:x.op=20
 ·rw[an ac]
  rw[ae V,ae V,ae U,ae V,ae aa,ae Y,ae O,an ac]at q
  have:=ba V V
  exact aT _ (by split<;>omega) (by split<;>omega) (by simp[bS,ac])
 rw[ae ac]
 by_cases am:x.op=21
 ·rw[an am]
  rw[ae V,ae V,ae U,ae V,ae aa,ae Y,ae O,ae ac,ae V,an am]at q
  obtain⟨I,aY⟩:=Q.Ax am
  have aj:qA (cg b.aT x.bL) (aG s.heap (D f.ao (D x.args 0))).kd<(cg b.aT x.bL).length:=lQ ⟨_,aY,aJ⟩
  obtain⟨al,o⟩:=q.2.2
  have:=o _ (eR (c:=x.dX) (i:=(qA (cg b.aT x.bL) (aG s.heap (D f.ao (D x.args 0))).kd:Nat)) V V)
  exact aT _ V V (by simp[bS,am])
 rw[ae am]
 by_cases ay:x.op=22
 ·rw[an ay]
  rw[ae V,ae V,ae U,ae V,ae aa,ae Y,ae O,ae ac,an ay]at q
  exact aT _ V V (by simp[bS,ay])
 rw[ae ay]
 have bh:∀w∈cy f x.args,jm w\/1000<=w:=λw p=>by
  obtain⟨r,ab,rfl⟩:=List.mem_map.1 p;exact au r (ap r ab).1 (ap r ab).2
 have aX:mE x.op->s.bE<s.aY:=λJ=>by
  have:=j.bE;have:s.bE≠s.aY:=λM=>bj ⟨J,M⟩;omega
 have a9:∀(hp:List bQ),s.bE<s.aY->x.op≠23->x.op≠24->∀(d:aW),gA b d->lx x.op->d.dst=x.dst->ft hp (lB (c++[{f with aQ:=aQ,pc:=f.pc+1},d]))->pZ hp->(∀e,fy hp e<->fy s.heap e)->(∀e,holds [d] e=0)->
  dm b {s with bE:=s.bE+1,heap:=hp,aA:=c++[{f with aQ:=aQ,pc:=f.pc+1},d]}:=λhp bv m C d hg R bm hH hT hK bn=>by
  have a4:=j.bE
  have az:=j.depth
  rw[u]at az
  have ee:c++[{f with aQ:=aQ,pc:=f.pc+1},d]=(c++[{f with aQ:=aQ,pc:=f.pc+1}])++[d]:=aJ
  have P:∀e,holds (c++[{f with aQ:=aQ,pc:=f.pc+1},d]) e=holds s.aA e:=λe=>by
   rw[ee,eL,bn,u,eL,eL,iF,iF];simp
  refine⟨j.fC,j.bW,⟨λM=>by simp at M;omega,λM=>by simp at M⟩,j.value,j.DQ,j.aY,⟨by simp only[];omega,by simp only[];omega⟩,by simp at az⊢;omega,j.bd,hH,hT,λG n=>?_,λG n=>?_,λA p1 G o n=>?_,λv y=>?_,λv y=>?_⟩
  ·rcases List.mem_append.1 n with n|n
   ·exact aM G n
   ·simp at n
    rcases n with rfl|rfl
    ·exact hG m C
    ·exact hg
  ·have al:=j.first
   rw[u]at al
   cases c with
   |nil=>simp at n;subst n;exact al f aJ
   |cons ai ys=>simp at n;subst n;exact al ai aJ
  ·have aj:=j.chain A
   rw[u]at aj
   simp only[]at o n
   rw[ee]at o n
   have aV:=aD n
   simp at aV
   rw[aw bR]at o
   rcases bA (A+1) (c.length+1)with E|E
   ·rw[aw bR]at n
    rw[aw V]at o
    rcases bA (A+1) c.length with h4|h4
    ·rw[aw h4]at n
     exact aj p1 G (by rw[aw V];exact o) (by rw[aw h4];exact n)
    ·rw[aF h4]at n
     have K:A+1 -c.length=0:=V
     rw[K]at n;simp at n;subst n
     exact aj p1 f (by rw[aw V];exact o) (by rw[aF h4,K];rfl)
   ·rw[aF bR]at n
    have K:A+1 -(c++[{f with aQ:=aQ,pc:=f.pc+1}]).length=0:=bR
    rw[K]at n;simp at n;subst n
    rw[aF V]at o
    have e3:A -c.length=0:=V
    rw[e3]at o;simp at o;subst o
    rw[bm]
    exact⟨ak.1,by simp only[];omega,a6 R⟩
  ·rw[P];exact j.kD v ((hK v).1 y)
  ·rw[P];exact j.px v λE=>y ((hK v).2 E)
 by_cases e9:x.op=9
 ·rw[an e9]
  rw[ae V,ae V,ae U,an V]at q
  obtain⟨G,aL,ar,aO⟩:=q
  have z:bS b x=gT b x 0 x.args:=by unfold bS;rw[ae V,ae V,an V]
  refine a9 s.heap (aX (Or.inl e9)) V V (bg b x.bL x.dst (cy f x.args)) (tQ j.fC aL ar (by simp[cy,aO]) bh) (by unfold lx;omega) rfl (H.congr λe=>?_) j.jX (λ_=>Q5) (oX _ _ _ _)
  rw[fU,z]
  simp only[lB]
  rw[qj,Gf];omega
 rw[ae e9]
 by_cases aK:x.op=24
 ·rw[an aK]
  rw[ae V,ae V,ae U,an V]at q
  obtain⟨G,aL,ar,aO⟩:=q
  have z:bS b x=gT b x 0 x.args:=by unfold bS;rw[ae V,ae V,an V]
  obtain⟨aP,aZ⟩:=Q.zero (Or.inl aK)
  have P:∀e,holds (c++[bg b x.bL f.dst (cy f x.args)]) e=holds s.aA e:=λe=>by
   rw[u,eL,eL,oX,iF,oZ (λp=>by have:=aZ _ p;omega)]
  have bi:=aX (Or.inr (Or.inr aK))
  refine j.fI W u (hd:=rfl) (tQ j.fC aL ar (by simp[cy,aO]) bh) (H.congr λe=>?_) j.jX (λv y=>by rw[P];exact j.kD v y) (λv y=>by rw[P];exact j.px v y) j.bd (bE:=s.bE+1) V
  rw[fU,kN,qj,Gf,z,sK aP];omega
 rw[ae aK]
 by_cases ar:x.op=11
 ·rw[an ar]
  rw[an V]at q
  have z:bS b x=x.args:=by unfold bS;rw[an V]
  have bi:x.args=[D x.args 0,D x.args 1]:=by
   cases hx:x.args with
   |nil=>rw[hx]at q;simp at q
   |cons ai F=>cases F with
    |nil=>rw[hx]at q;simp at q
    |cons a_ F=>cases F with
     |nil=>rfl
     |cons _ _=>rw[hx]at q;simp at q
  have aL:0<=D x.args 1/\D x.args 1<f.ao.length:=ap _ (eR V V)
  obtain⟨I,bl,bx,bk,aO,aU⟩:=Q.apply ar
  obtain⟨J,aC⟩:=bY I
  obtain⟨G,n⟩:=ag (l:=b.cB) (k:=((aG s.heap (D f.ao (D x.args 0))).kd -bz b).toNat) V
  have a_:dy b ((aG s.heap (D f.ao (D x.args 0))).kd -bz b)=G:=by simp[dy,n]
  rw[a_]at bk aO
  have F:∀e,fR ((bS b x).map (D f.ao)) e=(if e=ix (D f.ao (D x.args 0))then 1 else 0)+fR [D f.ao (D x.args 1)] e:=λe=>by
   rw[z,bi];simp only[cE,eX];rw[iN]
   ·rfl
   ·exact I.1
  obtain⟨X,k2,k3⟩:=H.apart I (by simp only[F,an];have:=aq (ix (D f.ao (D x.args 0)));have:=ju [D f.ao (D x.args 1)] (ix (D f.ao (D x.args 0)));omega) aU
   (e':=lB (c++[{f with aQ:=aQ,pc:=f.pc+1},bg b ((aG s.heap (D f.ao (D x.args 0))).kd -bz b) x.dst ((aG s.heap (D f.ao (D x.args 0))).aR++[D f.ao (D x.args 1)])])) (λe=>by
    rw[fU,F];simp only[lB];rw[qj,a_,List.length_eq_zero_iff.1 aO,HB,mF];omega) j.jX
  refine a9 _ (aX (Or.inr (Or.inl ar))) V V _ (tQ j.fC bl n bR λw p=>?_) (by unfold lx;omega) rfl X k3 k2 (oX _ _ _ _)
  rcases List.mem_append.1 p with p|p
  ·rcases((H.cell _ (av J)).rm aC).1 w p with C|C
   ·exact Or.inl C
   ·exact Or.inr C.1
  ·simp at p;subst p;exact au _ aL.1 aL.2
 rw[ae ar]
 have aC:x.op=23:=by
  rw[ae V]at q;by_cases aC:x.op=23
  ·exact aC
  ·rw[ae V,ae U,ae V,ae aa,ae Y,ae O,ae ac,ae ay,ae am]at q;exact q.elim
 rw[ae V,an V]at q
 have y:=ax V
 have z:bS b x=[D x.args 0]:=by unfold bS;rw[an V];exact aS V
 obtain⟨aP,aZ⟩:=Q.zero (Or.inr aC)
 have aU:∀e,holds [f] e=0:=λe=>by rw[iF];exact oZ (λp=>by have:=aZ _ p;omega)
 split
 ·rename_i I
  have aL:c=[]:=List.getLast?_eq_none_iff.1 I
  subst aL
  have F:=Q.ret aC
  have aB:=a8 _ y.1 y.2 (by rcases F with m|m;(rw[u]at m;simp at m);exact m)
  have a4:=j.bE
  refine⟨j.fC,⟨aJ,aJ⟩,aJ,aB,aJ,j.aY,j.bE,bR,j.bd,H.congr λe=>?_,j.jX,aJ,aJ,aJ,λv N=>?_,λv N=>?_⟩
  ·rw[z,sK aP]
   simp only[lB,cE,eX]
   rw[oZ (by simp;have:=aB.2;omega)];rfl
  ·have m:=j.kD v N
   rw[u]at m
   have C:=aU v
   simp only[dN]at m
   omega
  ·simp[holds]
 ·rename_i F I
  have aL:c=c.dropLast++[F]:=by
   have a_:c≠[]:=λM=>by rw[M]at I;simp at I
   rw[eP a_]at I;simp at I;rw[<-I];exact(eU a_).symm
  generalize c.dropLast=fs' at aL
  subst aL
  have aB:gA b F:=aM F aJ
  obtain⟨aO,bi,bk⟩:=j.chain fs'.length F f (by rw[u];simp) (by rw[u];simp)
  have bl:f.dst<F.ao.length:=by have:=aB.lr;have:=aB.lo;omega
  have a4:=j.bE
  have az:=j.depth
  rw[u]at az
  have P:∀e,holds (fs'++[F.put f.dst (D f.ao (D x.args 0)) (fV (D f.ao (D x.args 0)))]) e=holds s.aA e:=λe=>by
   rw[u,eL,eL,aU,eL,iF,iF];simp[aW.put]
  refine⟨j.fC,j.bW,⟨λM=>by simp at M;omega,λM=>by simp at M⟩,j.value,j.DQ,j.aY,j.bE,by simp at az⊢;omega,j.bd,H.congr λe=>?_,j.jX,λG n=>?_,λG n=>?_,λA p1 G o n=>?_,λv N=>by rw[P];exact j.kD v N,λv N=>by rw[P];exact j.px v N⟩
  ·rw[fU,kN,fU,kN,z,sK aP]
   simp only[aW.put,cE,eX]
   rw[LF aO bl bi bk,wA];omega
  ·rcases List.mem_append.1 n with n|n
   ·exact aM G (bJ _ n)
   ·simp at n;subst n
    exact aB.put aO (au _ y.1 y.2) (Gg _) CY
  ·have al:=j.first
   rw[u]at al
   cases fs' with
   |nil=>simp at n;subst n;exact al F aJ
   |cons ai ys=>simp at n;subst n;exact al ai aJ
  ·have aj:=j.chain A
   rw[u]at aj
   simp only[]at o n
   have aV:=aD n
   simp at aV
   rw[aw V]at o
   have e1:(fs'++[F]++[f])[A]? =some p1:=by rw[aw bR,aw V];exact o
   rcases bA (A+1) fs'.length with E|E
   ·rw[aw E]at n
    exact aj p1 G e1 (by rw[aw bR,aw E];exact n)
   ·rw[aF E]at n
    have K:A+1 -fs'.length=0:=V
    rw[K]at n;simp at n;subst n
    exact aj p1 F e1 (by rw[aw bR,aF E,K];rfl)
def Nb(h:dm b s):dm b (mT b s):=by
 unfold mT;by_cases d:s.bW=3
 ·rw[ae (by simpa using d)];obtain⟨c,f,a⟩:=h.split d;have i:s.aA.getLast?=some f:=by rw[a];simp
  have j:s.aA.dropLast=c:=by rw[a];simp
  rw[i,j];simp only[];have g:∀n,1<=n->n<=2->dm b {s with bW:=n}:=λn l m=>
   ⟨h.fC,⟨by simp only[];omega,by simp only[];omega⟩,⟨λe=>by simp only[]at e;omega,λe=>by simp only[]at e;rw[a]at e;simp at e⟩,h.value,λe=>by have:=h.DQ e;omega,h.aY,h.bE,h.depth,h.bd,h.heap,h.jX,h.aA,h.first,h.chain,h.kD,h.px⟩
  split
  ·exact g 1 V V
  ·rename_i e;split
   ·rename_i k;exact Pz h d a k e
   ·exact g 2 V V
 ·rw[an (by simpa using d)];exact h
end
section
variable{a:cq}{s:St}
def rem(a:cq):List aW->Int
 |[]=>0
 |f::b=>((dy a f.eu).cJ.length -f.pc)+rem a b
def mH(a:cq):∀(l r:List aW),rem a (l++r)=rem a l+rem a r
 |[],r=>by simp[rem]
 |f::l,r=>by simp only[cA,rem,mH a l r];omega
def vV(a:cq)(s:St):Int:=rem a s.aA+(s.aY -s.bE)*2000
def Sb{a:cq}:∀{b:List aW},(∀f∈b,gA a f)->0<=rem a b
 |[],_=>by simp[rem]
 |f::b,h=>by
  have:=Sb (λg c=>h g (ai _ c));have:=(h f aX).pc;simp only[rem];omega
def Tz(h:dm a s):0<=vV a s:=by
 have:=Sb h.aA;have:=h.bE;unfold vV;omega
def MK{c:List aW}{f:aW}(F:dm a s)(hr:s.bW=3)(j:s.aA=c++[f])
 (S:jr a s f (dh a f) (bB f.ao f.aQ (bS a (dh a f)))):
 vV a (dJ a s c f (dh a f) (bB f.ao f.aQ (bS a (dh a f))))<vV a s:=by
 have R:gA a f:=F.aA f (by rw[j];simp)
 obtain⟨ab,hp,A,hP,aa,Y⟩:=R.Hp F.fC
 have Z:=R.pc
 generalize dh a f=x at*
 generalize bB f.ao f.aQ (bS a x)=aQ at*
 rw[A]at Z
 have jZ:∀(g:aW)(b:St),b.aA=c++[g]->g.eu=f.eu->f.pc<g.pc->b.aY=s.aY->b.bE=s.bE->vV a b<vV a s:=λg b t y X u v=>by
  unfold vV;rw[j,t,u,v,mH,mH];simp only[rem,y];omega
 have cJ:∀q:Int,0<=q->q<a.cB.length->((dy a q).cJ.length:Int)<=2000:=λq h0 y=>by
  obtain⟨W,U⟩:=ag (l:=a.cB) (k:=q.toNat) V;have:=(F.fC.dz W (av U)).len;have B:dy a q=W:=by simp[dy,U]
  rw[B];omega
 have IK:∀(g n:aW)(b:St),b.aA=c++[g,n]->g.eu=f.eu->f.pc<g.pc->0<=n.eu->n.eu<a.cB.length->n.pc=0->b.aY=s.aY->b.bE=s.bE+1->vV a b<vV a s:=λg n b t y X G H I u v=>by
  have:=cJ n.eu G H;unfold vV;rw[j,t,u,v,mH,mH];simp only[rem,y,I];omega
 have tail:∀(n:aW)(b:St),b.aA=c++[n]->0<=n.eu->n.eu<a.cB.length->n.pc=0->b.aY=s.aY->b.bE=s.bE+1->vV a b<vV a s:=λn b t G H I u v=>by
  have:=cJ n.eu G H;unfold vV;rw[j,t,u,v,mH,mH];simp only[rem,I,A];omega
 have d:=Y.op
 unfold lp at d
 unfold dJ
 simp only[]
 by_cases J:x.op=0
 ·rw[an J];exact jZ _ _ rfl rfl (by show f.pc<f.pc+1;omega) rfl rfl
 rw[ae J]at d⊢
 by_cases K:x.op=1\/x.op=2\/x.op=3\/x.op=4
 ·rw[an K];exact jZ _ _ rfl rfl (by show f.pc<f.pc+1;omega) rfl rfl
 rw[ae K]
 by_cases P:x.op=5
 ·rw[an P];exact jZ _ _ rfl rfl (by show f.pc<f.pc+1;omega) rfl rfl
 rw[ae P]
 by_cases e:x.op=6
 ·rw[an e]
  split
  ·exact jZ _ _ rfl rfl (by show f.pc<f.pc+1;omega) rfl rfl
  ·exact jZ _ _ rfl rfl (by show f.pc<f.pc+1;omega) rfl rfl
 rw[ae e]
 by_cases m:x.op=10
 ·rw[an m];exact jZ _ _ rfl rfl (by show f.pc<f.pc+1;omega) rfl rfl
 rw[ae m]
 by_cases L:x.op=14
 ·rw[an L];exact jZ _ _ rfl rfl (by simp only[];omega) rfl rfl
 rw[ae L]
 by_cases M:x.op=15
 ·rw[an M];exact jZ _ _ rfl rfl (by simp only[];omega) rfl rfl
 rw[ae M]
 by_cases o:x.op=16\/x.op=17
 ·rw[an o]
  split
  ·exact jZ _ _ rfl rfl (by simp only[];omega) rfl rfl
  ·exact jZ _ _ rfl rfl (by simp only[];omega) rfl rfl
 rw[ae o]
 by_cases N:x.op=18
 ·rw[an N];exact jZ _ _ rfl rfl (by show f.pc<f.pc+1;omega) rfl rfl
 rw[ae N]
 by_cases p:x.op=19
 ·rw[an p];exact jZ _ _ rfl rfl (by show f.pc<f.pc+1;omega) rfl rfl
 rw[ae p]
 by_cases r:x.op=20
 ·rw[an r]
  rw[ae V,ae V,ae e,ae V,ae m,ae o,ae p,an r]at d
  exact jZ _ _ rfl rfl (by simp only[];split<;>omega) rfl rfl
 rw[ae r]
 by_cases w:x.op=21
 ·rw[an w]
  rw[ae V,ae V,ae e,ae V,ae m,ae o,ae p,ae r,ae V,an w]at d
  obtain⟨z,C⟩:=S.Ax w
  have E:qA (cg a.aT x.bL) (aG s.heap (D f.ao (D x.args 0))).kd<(cg a.aT x.bL).length:=lQ ⟨_,C,aJ⟩
  obtain⟨O,h⟩:=d.2.2
  have:=h _ (eR (c:=x.dX) (i:=(qA (cg a.aT x.bL) (aG s.heap (D f.ao (D x.args 0))).kd:Nat)) V V)
  exact jZ _ _ rfl rfl (by simp only[];omega) rfl rfl
 rw[ae w]
 by_cases E:x.op=22
 ·rw[an E]
  rw[ae V,ae V,ae e,ae V,ae m,ae o,ae p,ae r,an E]at d
  exact jZ _ _ rfl rfl (by simp only[];omega) rfl rfl
 rw[ae E]
 by_cases Q:x.op=9
 ·rw[an Q]
  rw[ae V,ae V,ae e,an V]at d
  obtain⟨q,C,h,T⟩:=d
  have:=aD h
  exact IK _ _ _ rfl rfl (by show f.pc<f.pc+1;omega) (by simp only[bg];omega) (by simp only[bg];omega) rfl rfl rfl
 rw[ae Q]
 by_cases O:x.op=24
 ·rw[an O]
  rw[ae V,ae V,ae e,an V]at d
  obtain⟨q,C,h,T⟩:=d
  have:=aD h
  exact tail _ _ rfl (by simp only[bg];omega) (by simp only[bg];omega) rfl rfl rfl
 rw[ae O]
 by_cases C:x.op=11
 ·rw[an C]
  obtain⟨z,h,T,_⟩:=S.apply C
  exact IK _ _ _ rfl rfl (by show f.pc<f.pc+1;omega) (by simp only[bg];omega) (by simp only[bg];omega) rfl rfl rfl
 rw[ae C]
 split
 ·rename_i h
  have z:c=[]:=List.getLast?_eq_none_iff.1 h
  subst z
  unfold vV
  rw[j]
  simp only[rem,dN,A];omega
 ·rename_i pf h
  have z:c=c.dropLast++[pf]:=by
   have T:c≠[]:=λB=>by rw[B]at h;simp at h
   rw[eP T]at h;simp at h;rw[<-h];exact(eU T).symm
  generalize c.dropLast=fs' at z
  subst z
  unfold vV
  rw[j]
  simp only[mH,rem,aW.put,A];omega
def QV(h:dm a s)(d:s.bW=3)(b:(mT a s).bW=3):vV a (mT a s)<vV a s:=by
 obtain⟨j,i,c⟩:=h.split d;have f:s.aA.getLast?=some i:=by rw[c];simp
 have g:s.aA.dropLast=j:=by rw[c];simp
 unfold mT at b⊢;rw[ae (by simpa using d),f,g]at b⊢;simp only[]at b⊢;split at b
 ·simp at b
 ·rename_i k;rw[ae k];split at b
  ·rename_i e;rw[an e];exact MK h d c e
  ·simp at b
noncomputable def ar (a:cq):Nat->St->St
 |0,s=>s
 |n+1,s=>ar a n (mT a s)
def mK(a:cq):∀(n:Nat)(s:St),ar a (n+1) s=mT a (ar a n s)
 |0,s=>rfl
 |n+1,s=>by rw[ar,mK a n,ar]
def sX{a:cq}:∀(n:Nat){s:St},dm a s->dm a (ar a n s)
 |0,s,h=>h
 |n+1,s,h=>sX n (Nb h)
def rY(h:s.bW≠3):mT a s=s:=by unfold mT;rw[an h]
def lU{a:cq}:∀(n:Nat){s:St},s.bW≠3->ar a n s=s
 |0,s,_=>rfl
 |n+1,s,h=>by rw[ar,rY h,lU n h]
def Kn{a:cq}:∀(n:Nat){s:St},dm a s->vV a s<n->(ar a n s).bW≠3
 |0,s,h,d=>by have:=Tz h;omega
 |n+1,s,h,d=>by
  rcases dt (s.bW=3)with b|b
  ·rcases dt ((mT a s).bW=3)with c|c
   ·have:=QV h b c;exact Kn n (Nb h) V
   ·rw[ar,lU n c];exact c
  ·rw[lU _ b];exact b
def cD(a:cq)(aY:Int):St:=⟨3,0,0,aY,[],[],[bg a 0 0 []]⟩
def vT{aY:Int}(c:gP a)(p:0<=aY/\aY<=40):dm a (cD a aY):=by
 have s:=c.lY.len;obtain⟨q,i⟩:=ag (l:=a.cB) (k:=0) V;have n:=c.lY.first q i;have m:=tQ (j:=0) (e:=[]) c (cC 0) i (by simp[n.1]) aJ;have h:∀f,lB [bg a 0 0 []] f=0:=λf=>by rw[kN,qj];simp[fq]
 refine⟨c,by simp[cD],by simp[cD],by simp[cD,jm],by simp[cD],p,by simp[cD];omega,by simp[cD],by simp[cD],⟨by simp[cD],⟨λ_=>0,by simp[cD]⟩,by simp[cD],λd=>by simp only[cD];rw[h];omega,λd b=>by simp only[cD]at b;rw[h]at b;omega⟩,?_,?_,?_,?_,λd⟨j,e,_⟩=>by simp[cD]at e,λd _=>oX _ _ _ _ _⟩
 ·intro j e;simp[cD]at e
 ·intro g b;simp[cD]at b;subst b;exact m
 ·intro g b;simp[cD]at b;subst b;rfl
 ·intro t g r b o;simp[cD]at o
def PL{aY:Int}(b:gP a)(g:0<=aY/\aY<=40):vV a (cD a aY)<=82000:=by
 have f:=b.lY.len;obtain⟨p,c⟩:=ag (l:=a.cB) (k:=0) V;have d:=(b.dz p (av c)).len;have e:dy a 0=p:=by simp[dy,c]
 unfold vV cD;simp only[rem,bg,e];omega
end
section
variable{k:Nat}{m:J}
def ly{b:List bu}{d:bu}:FA b k d<->((yG b.length d.uP/\yG b.length d.to/\d.cons.length<=3/\(0<d.cons.length->d.uP=0/\d.to=0))/\
 (∀h∈d.cons,h.length<=3/\DU b.length h)/\∀e∈b.take k,¬(d.cons.length=0/\e.cons.length=0/\e.uP=d.uP/\e.to=d.to)):=by
 constructor
 ·intro l
  rcases kX d.cons.length with a|a
  ·obtain⟨c,f,g⟩:=l.Qk a
   refine⟨⟨f,g,V,λl=>V⟩,λh m=>?_,λe i j=>c e i j.2⟩
   rw[List.length_eq_zero_iff.1 a]at m;cases m
  ·obtain⟨c,f,g,h⟩:=l.iu a
   exact⟨⟨by unfold yG;omega,by unfold yG;omega,c,λ_=>⟨f,g⟩⟩,h,λe i j=>V⟩
 ·rintro⟨⟨c,f,g,h⟩,l,m⟩
  exact⟨λa=>⟨g,(h a).1,(h a).2,l⟩,λa=>⟨λe i j=>m e i ⟨a,j⟩,c,f⟩⟩
def CQ{aT:O}{c:List bu}(hd:cr m aT c):dW cp 140 [O.v aT] m (dI c):=by
 apply xJ;simp -zeta only[aC,aB];have w:=hd.len;have ap:=hd.cap;refine dit (λaa=>?_) λaa=>?_
 ·exact cX (λa=>by have:=a.len;omega) (N.az _)
 refine fB (n:=c.length) V (λk f=>N m f/\∀(j:Nat)(d:bu),j<k->c[j]? =some d->FA c j d) ⟨N.az _,aJ⟩ ?_;rintro j x am μ hj ⟨H,T⟩ al
 refine dit (λh1=>?_) λh1=>?_
 ·obtain⟨d,E⟩:=ag (l:=c) (k:=j) V;obtain⟨B,F,g0,g1,g2⟩:=(cr.ext H hd).D E;have ar:=F.len;refine⟨V,V,_,g0,_,g1,B,g2,?_⟩;intro m2 r;have I:N x r:=((N.az x).aN _).ah (ad _) _ _;have G:∀s∈[x.size],s<r.size:=by simp[r,m2,ay]
  clear_value r;have K:=H.trans I;have i:∀{f:J},N r f->¬FA c j d->∃M:Bool,vb false=.bool M/\(M=true<->dI c)/\N m f:=λah af=>cX (λa=>af (a.dz j d E)) (K.trans ah);refine⟨λf=>N r f/\yG c.length d.uP/\yG c.length d.to/\d.cons.length<=3/\(0<d.cons.length->d.uP=0/\d.to=0),?_,?_⟩
  ·refine(oU _ _ _).aK (N.az _) G λs m4 g P t=>⟨_,rfl,λe=>?_,λe=>?_⟩
   ·exact i t λa=>nb g e (w▸(ly.1 a).1.1)
   have q:=yb g e;refine(oU _ _ _).aK t G λs v g u b=>⟨_,rfl,λh=>?_,λh=>?_⟩
   ·exact i b λa=>nb g h (w▸(ly.1 a).1.2.1)
   have y:=yb g h;rw[w]at q y;refine dit (λz=>?_) λz=>?_
   ·exact i b λa=>by have:=(ly.1 a).1.2.2.1;omega
   refine dit (λA=>?_) λA=>?_
   ·refine⟨λo=>?_,λo=>?_⟩
    ·simp only[uO]at o;exact i b λa=>o ((ly.1 a).1.2.2.2 V).1
    simp only[gZ]at o;refine⟨λp=>?_,λp=>?_⟩
    ·simp only[uO]at p;exact i b λa=>p ((ly.1 a).1.2.2.2 V).2
    simp only[gZ]at p;exact⟨b,q,y,V,λ_=>⟨o,p⟩⟩
   ·exact⟨b,q,y,V,λo=>V⟩
  ·rintro m4 ⟨X,ae⟩;have aq:=oH.ext (I.trans X) F;refine fB (n:=d.cons.length) V (λk f=>N r f/\∀B∈d.cons.take k,B.length<=3/\DU c.length B) ⟨X,aJ⟩ ?_;rintro L v I2 μ2 hi ⟨o,U⟩ ai;refine dit (λP=>?_) λP=>?_
   ·obtain⟨C,p⟩:=ag (l:=d.cons) (k:=L) V;obtain⟨Q,D,R⟩:=(oH.ext (I.trans o) F).D p;have W:=D.len;refine⟨V,V,Q,R,?_⟩;intro y z;have q:N v z:=((N.az v).aN _).ah (ad _) _ _;have S:∀s∈[v.size,x.size],s<z.size:=by
     have:=o.lt (G x.size aJ);simp[z,y,ay];omega
    clear_value z;refine dit (λt=>?_) λt=>?_
    ·exact i (o.trans q) λa=>by have:=((ly.1 a).2.1 C (av p)).1;omega
    refine(vd (D.ext q) _).aK (N.az _) S λs A g e u=>⟨_,rfl,λb=>?_,λb=>?_⟩
    ·exact i ((o.trans q).trans e) λa=>nb g b (w▸((ly.1 a).2.1 C (av p)).2)
    ·exact ai V _ ⟨(o.trans q).trans e,cF p U ⟨V,w▸yb g b⟩⟩
   ·have ab:=dx V U;refine⟨V,V,V,?_⟩;have Q:cr v (aT.cut 0 j 3) (c.take j):=eK.Rw (cr.ext (K.trans o) hd) V;have ao:(aT.cut 0 j 3).len=j:=by rw[Q.len];simp;omega
    simp -zeta only[tg,Int.toNat_zero];refine fB (n:=j) V (λk f=>N v f/\∀g∈c.take k,¬(d.cons.length=0/\g.cons.length=0/\g.uP=d.uP/\g.to=d.to)) ⟨N.az _,aJ⟩ ?_;rintro q y Z μ3 aw ⟨D,W⟩ aj;refine dit (λt=>?_) λt=>?_
    ·obtain⟨g,R⟩:=ag (l:=c) (k:=q) V;have S:(c.take j)[q]? =some g:=by rw[kW,an V];exact R
     obtain⟨f',ac,q0,q1,q2⟩:=(cr.ext D Q).D S;have au:=ac.len;refine⟨V,V,_,q0,_,q1,f',q2,?_⟩;intro z A;have Y:N y A:=((N.az y).aN _).ah (ad _) _ _;clear_value A;have C:¬(d.cons.length=0/\g.cons.length=0/\g.uP=d.uP/\g.to=d.to)->Z (cR ((q:Int)+1)) A/\μ3 (cR ((q:Int)+1)) A<μ3 q y:=λp=>aj V _ ⟨D.trans Y,cF R W p⟩;refine⟨λe=>?_,λe=>?_⟩
     ·simp only[aE]at e;refine⟨λu=>?_,λu=>?_⟩
      ·simp only[aE]at u;refine⟨λb=>?_,λb=>?_⟩
       ·simp only[aE]at b;refine⟨λh=>?_,λh=>?_⟩
        ·simp only[aE]at h;exact i ((o.trans D).trans Y) λa=>(ly.1 a).2.2 g (av S) ⟨V,V,b,h⟩
        ·simp only[ak]at h;exact C λp=>h p.2.2.2
       ·simp only[ak]at b;exact C λp=>b p.2.2.1
      ·simp only[ak]at u;exact C λp=>u V
     ·simp only[ak]at e;exact C λp=>e V
    ·have:q=j:=V;subst this;refine al V _ ⟨(K.trans o).trans D,λb e h a=>?_⟩
     by_cases g:b=q
     ·subst g;rw[E]at a;simp at a;subst a;exact ly.2 ⟨ae,ab,W⟩
     ·exact T b e V a
 ·exact jM ⟨V,λL d bM=>T L d (by have:=aD bM;omega) bM⟩ H
def Mg(m:J)(b:List Ce)(p:dk):Prop:=∃a l,b=[.s a,.s l,.i p.aV]/\aq m a p.params/\aq m l p.cG
def Mg.ext{m d:J}(b:N m d)(a:List Ce)(c:dk):Mg m a c->Mg d a c:=λ⟨f,g,e,h,i⟩=>⟨f,g,e,h.ext b,i.ext b⟩
abbrev oO(m:J)(s:O)(l:List dk):Prop:=eK m 3 (Mg m) s l
def oO.ext{m b:J}(a:N m b){s:O}{l:List dk}(h:oO m s l):oO b s l:=h.mono a (Mg.ext a)
def oO.D{s:O}{l:List dk}(h:oO m s l){x:dk}(f:l[k]? =some x):
 ∃a b,aq m a x.params/\aq m b x.cG/\af m s.E (s.off+k*3)=some (O.v a)/\af m s.E (s.off+k*3+1)=some (O.v b)/\af m s.E (s.off+k*3+2)=some (vi x.aV):=by
 obtain⟨g,⟨a,b,rfl,d,e⟩,c⟩:=h.iv k x f
 exact⟨a,b,d,e,c 0 (.s a) rfl,c 1 (.s b) rfl,c 2 (.i x.aV) rfl⟩
def Ez{Z aa:O}{r:List bu}{c:List dk}(hd:cr m Z r)(Q:oO m aa c):
 dW cp 85 [O.v Z,O.v aa] m (I6 r c/\∀p∈c,CI p.params p.cG):=by
 apply y9
 simp -zeta only[aC,aB]
 have P:=hd.len
 have aF:=Q.len
 refine(CQ hd).then λw m1 e f=>⟨_,rfl,λH=>?_,λH=>?_⟩
 ·exact cX (λa=>nb e H a.1.types) f
 have ht:=yb e H
 refine dit (λh2=>?_) λh2=>?_
 ·exact cX (λa=>by have:=a.1.len;omega) f
 refine dit (λh3=>?_) λh3=>?_
 ·exact cX (λa=>by have:=a.1.len;omega) f
 obtain⟨p0,B⟩:=ag (l:=c) (k:=0) V
 obtain⟨a0,l0,an,aG,g0,g1,g2⟩:=(oO.ext f Q).D B
 have az:=an.len
 refine⟨V,V,a0,g0,dit (λh4=>?_) λh4=>?_⟩
 ·exact cX (λa=>by have:=(a.1.first p0 B).1;omega) f
 refine⟨V,V,_,g2,λu=>?_,λu=>?_⟩
 ·simp only[uO]at u
  exact cX (λa=>u (a.1.first p0 B).2) f
 simp only[gZ]at u
 refine fB (n:=c.length) V (λj W=>N m W/\∀p∈c.take j,(p.params.length<=3/\DU r.length p.params/\yG r.length p.aV)/\CI p.params p.cG) ⟨f,aJ⟩ ?_
 rintro j D aw μ hj ⟨o,hn⟩ ar
 refine dit (λh6=>?_) λh6=>?_
 ·obtain⟨p,i⟩:=ag (l:=c) (k:=j) V
  obtain⟨aj,aq,M,A,q0,q1,q2⟩:=(oO.ext o Q).D i
  have aA:=M.len
  have aI:=A.len
  have aH:=A.gV
  refine⟨V,V,aj,q0,aq,q1,_,q2,?_⟩
  intro m3 E
  have q:N D E:=((N.az D).aN _).ah (ad _) _ _
  have ab:∀w∈[D.size],w<E.size:=by simp[E,m3,ay]
  clear_value E
  refine dit (λh7=>?_) λh7=>?_
  ·exact cX (λa=>by have:=(a.1.dz p (av i)).1;omega) (o.trans q)
  refine(vd (M.ext q) _).aK (N.az _) ab λw m5 e h8 h9=>⟨_,rfl,λI=>?_,λI=>?_⟩
  ·exact cX (λa=>nb e I (P▸(a.1.dz p (av i)).2.1)) ((o.trans q).trans h8)
  have ae:=yb e I
  refine(oU _ _ _).aK h9 ab λw X e ax J=>⟨_,rfl,λK=>?_,λK=>?_⟩
  ·exact cX (λa=>nb e K (P▸(a.1.dz p (av i)).2.2)) ((o.trans q).trans J)
  have ac:=yb e K
  rw[P]at ae ac
  have af:N m X:=(o.trans q).trans J
  have T:N D X:=q.trans J
  refine fB (n:=p.cG.length) V (λk W=>W=X/\∀(j:Nat)(v:Int),j<k->p.cG[j]? =some v->(∃t,0<=v/\p.params[v.toNat]? =some t/\t≠0)/\(∀F:Int,0<j->p.cG[j -1]? =some F->F<v)) ⟨rfl,aJ⟩ ?_
  rintro k m7 I2 μ2 hk ⟨rfl,R⟩ ah
  have y:¬CI p.params p.cG->∃Y:Bool,vb false=.bool Y/\(Y=true<->I6 r c/\∀p∈c,CI p.params p.cG)/\N m m7:=λap=>cX (λa=>ap (a.2 p (av i))) af
  refine dit (λal=>?_) λal=>?_
  ·obtain⟨x,g⟩:=ag (l:=p.cG) (k:=k) V
   refine⟨V,V,x,by simpa using T.af (A.D g),dit (λam=>?_) λam=>?_⟩
   ·exact y λa=>by obtain⟨⟨t,z,_⟩,_⟩:=a k x g;omega
   refine⟨λz=>?_,λz=>?_⟩
   ·simp only[Fx,au]at z
    refine y λa=>?_
    obtain⟨⟨t,_,d,_⟩,_⟩:=a k x g
    have:=aD d;omega
   simp only[Fx,bU]at z
   obtain⟨t,C⟩:=ag (l:=p.params) (k:=x.toNat) V
   refine⟨V,V,t,by simpa using T.af (M.D C),λd=>?_,λd=>?_⟩
   ·simp only[aE]at d
    refine y λa=>?_
    obtain⟨⟨b,_,s,L⟩,_⟩:=a k x g
    rw[C]at s;simp at s;exact L (s▸d)
   simp only[ak]at d
   refine dit (λs=>?_) λs=>?_
   ·have e2:cR ((k:Int) -1)=((k -1:Nat):Int):=by rw[aP V V];omega
    obtain⟨ai,U⟩:=ag (l:=p.cG) (k:=k -1) V
    rw[e2]
    refine⟨V,V,ai,by simpa using T.af (A.D U),dit (λL=>?_) λL=>?_⟩
    ·exact y λa=>by have:=(a k x g).2 ai V U;omega
    ·refine ah V _ ⟨rfl,λh v ao b=>?_⟩
     by_cases G:h=k
     ·subst G
      rw[g]at b;simp at b;subst b
      refine⟨⟨t,V,C,d⟩,λF _ S=>?_⟩
      rw[U]at S;simp at S;subst S;omega
     ·exact R h v V b
   ·refine ah V _ ⟨rfl,λh v ao b=>?_⟩
    by_cases G:h=k
    ·subst G
     rw[g]at b;simp at b;subst b
     exact⟨⟨t,V,C,d⟩,λF L _=>V⟩
    ·exact R h v V b
  ·exact ar V _ ⟨af,cF i hn ⟨⟨V,ae,ac⟩,λh v b=>R h v (by have:=aD b;omega) b⟩⟩
 ·have b:=dx V hn
  refine jM ⟨⟨ht,V,λp a=>(b p a).1,λp a=>?_⟩,λp a=>(b p a).2⟩ o
  rw[B]at a;simp at a;subst a
  exact⟨V,u⟩
end
section
variable{c:J}{d f a j:O}{b:cq}{i:Instr}
def Et{J:O}(q:eV c d J b):
 aL cp 49 [.agg #[O.v d,O.v J]] c λap w=>∃W f e,ap=.tuple #[.agg #[O.v W,O.v f],vb e]/\(e=true<->I6 b.aT b.cB/\∀J∈b.cB,CI J.params J.cG)/\
  (e=true->W=d/\oO w f b.cB)/\N c w:=by
 apply yZ
 simp -zeta only[aC,aB]
 intro I h
 have au:=q.cB.len
 have s1:I.size=c.size+1:=by simp[I]
 have s2:h.size=c.size+2:=by simp[h,I]
 have ac:N c h:=((N.az c).aN _).aN _
 refine dit (λh1=>?_) λh1=>?_
 ·intro g
  exact⟨_,_,_,rfl,⟨λq=>by simp at q,λq=>by have:=q.1.len;omega⟩,λq=>by simp at q,ac.ah V _ _⟩
 intro m4 F
 have s5:F.size=c.size+3:=by simp[F,m4,ay,s2]
 have an:N c F:=(ac.aN _).ah V _ _
 have aj:cx F h.size lF [.s d,.s .nil]:=cx.ah (m:=m4) (o:=0) (r:=[.s d,.s .nil]) (cx.push h _ _)
 clear_value F
 refine fB (n:=b.cB.length) V (λP w=>N c w/\F.size<=w.size/\∃g z,cx w h.size lF [.s d,.s g]/\ij c w pv 3 g z.flatten/\gH 3 (Mg c) z (b.cB.take P)/\(g≠.nil->h.size<g.E)/\g.len=P)
  ⟨an,ad _,.nil,[],aj,ij.nil _ _ _ _,by simpa using gH.nil 3 (Mg c),aJ,rfl⟩ ?_
 rintro P i aq μ hk ⟨s,av,g,z,v,L,M,S,ab⟩ ao
 refine dit (λh2=>?_) λh2=>?_
 ·obtain⟨Q,hq⟩:=ag (l:=b.cB) (k:=P) V
  obtain⟨a,e,ae,ha,t,B,g0,g1,g2,g3,g4⟩:=q.cB.D hq
  refine⟨V,V,a,by simpa using s.af g0,e,by simpa using s.af g1,_,by simpa using s.af g2,_,by simpa using s.af g3,ae,by simpa using s.af g4,?_⟩
  intro U j
  have H:N i j:=((N.az i).aN _).ah (ad _) _ _
  have s8:j.size=i.size+1:=by simp[j,U,ay]
  clear_value j
  refine⟨g,(v.ext H).bV 1,?_⟩
  intro x
  have T:N i x:=H.aN _
  have s9:x.size=i.size+2:=by simp[x,s8]
  have jk:fZ x j.size 0 [.s a,.s e,.i Q.aV]:=(cx.push j _ _).iv
  clear_value x
  refine ij.append (c:=[.s .nil,.s .nil,.i 0]) (i:=[.s a,.s e,.i Q.aV]) (L.ext T) (s.trans T) rfl jk (by simp[ab];omega) ?_
  intro y D h7 h8 X ar af ah
  have aa:y≠.nil->h.size<y.E:=by
   intro C;rcases ah with⟨_,A⟩|⟨al,A,_⟩|A
   ·exact absurd A C
   ·have:=S al;omega
   ·omega
  have K:∀p,p<x.size->p<=h.size\/p=i.size/\(g=.nil\/g.E<i.size)->D[p]? =x[p]? :=by
   intro p u B;refine af p u λC=>?_;have:=S C;rcases B with B|⟨rfl,B|B⟩
   ·omega
   ·exact absurd B C
   ·omega
  have ak:g=.nil\/g.E<i.size:=L.lt
  have Y:cx D h.size lF [.s d,.s g]:=(v.ext T).congr (K _ V (Or.inl (ad _)))
  refine⟨λp u=>?_,Y.dZ aJ,?_⟩
  ·simp at u
   rcases u with rfl|rfl|rfl
   ·exact K _ V (Or.inr ⟨rfl,ak⟩)
   ·exact K _ V (Or.inl V)
   ·exact K _ V (Or.inl V)
  intro E
  have aw:E.size=D.size:=by simp[E,ay]
  have ai:cx E h.size lF [.s d,.s y]:=cx.ah (m:=D) (o:=1) (r:=[.s y]) Y
  have Z:∀e,e≠h.size->E[e]? =D[e]? :=λe t=>bt _ _ _ _ t
  have am:N c E:=h8.ah V _ _
  clear_value E
  refine⟨λp u=>?_,?_⟩
  ·simp at u
   rcases u with rfl|rfl|rfl<;>exact Z _ V
  refine ao V _ ⟨am,V,y,z++[[.s a,.s e,.i Q.aV]],ai,?_,?_,aa,by simp[X,ab]⟩
  ·rw[xF]
   have R:ij c D pv 3 y (z.flatten++[[.s a,.s e,.i Q.aV]].flatten):=by simpa using h7
   rcases R.lt with A|A
   ·subst A;exact⟨R.len,Or.inl rfl⟩
   ·refine R.congr (Z _ λe2=>?_)
    by_cases G:y=.nil
    ·subst G
     have:=X
     simp at this
    ·have:=aa G;omega
  ·rw[bn hq]
   exact M.zp rfl ⟨a,e,rfl,ha,t⟩
 ·rw[cN V]at M
  have A:oO i g b.cB:=(eK.gQ L M V V).mono (N.az _) (Mg.ext s)
  refine⟨d,v.bV 0,g,v.bV 1,g,v.bV 1,?_⟩
  have x:∀e∈[I.size,c.size],e<i.size:=bR
  refine(Ez (cr.ext s q.aT) A).aK (N.az _) x λe U t p _=>⟨_,rfl,p.bZ (v.bV 0),p.bZ (v.bV 1),?_⟩
  intro j
  have C:∀e,e≠I.size->j[e]? =U[e]? :=λe t=>bt _ _ _ _ t
  have H:N c j:=(s.trans p).ah V _ _
  refine⟨d,g,e,rfl,t,λ_=>⟨rfl,?_⟩,H⟩
  have u:=L.ext p
  have y:ij c j pv 3 g z.flatten:=by
   by_cases G:g=.nil
   ·subst G;exact⟨u.len,Or.inl rfl⟩
   ·exact u.congr (C _ (by have:=S G;omega))
  exact(eK.gQ y M V V).mono (N.az _) (Mg.ext H)
def fX(b:cq)(i:Instr)(a:Int->Prop):Prop:=
 if i.op=0 then -999<=i.bL/\i.bL<=999
 else if i.op=6 then 0<=i.bL/\i.bL<(eE b.aT).length
 else if i.op=9\/i.op=24 then 0<=i.bL/\i.bL<b.cB.length
 else if i.op=10 then 0<=i.bL/\∃q,b.cB[i.bL.toNat]? =some q/\q.cG.length=0
 else if i.op=19 then 0<=i.bL/\i.bL<3
 else if i.op=20\/i.op=22 then a i.bL
 else if i.op=21 then 0<(cg b.aT i.bL).length/\i.dX.length=(cg b.aT i.bL).length
 else i.bL=0
def FV(hd:cr c d b.aT)(z:dI b.aT)(C:oO c f b.cB)(Q:aq c a i.args)(G:aq c j i.dX)(v:Nat)(x w:Array Value)(F:GL.elem v=true)(n:Int->Prop)
 (I:∀e,N c e->dW cp v (x.toList++[vi i.bL]++w.toList) e (n i.bL)):
 dW cp 89 [.agg #[O.v d,O.v f],.agg #[vi i.op,vi i.dst,vi i.bL,vi i.bH,O.v a,O.v j],.func (.func v) x w] c (fX b i n):=by
 apply pP d f i.op i.dst i.bL i.bH a j (.func v,x,w)
 simp -zeta only[aC,aB]
 intro A t
 have e:N c t:=((N.az c).aN _).aN _
 have y:∀B∈[A.size,c.size],B<t.size:=by simp[t,A];omega
 have S:=C.len
 have T:=G.len
 have E:cx t A.size cV [.i i.op,.i i.dst,.i i.bL,.i i.bH,.s a,.s j]:=cx.push _ _ _
 clear_value t
 refine⟨λm=>?_,λm=>?_⟩
 ·simp only[aE]at m
  rw[show fX b i n<->-999<=i.bL/\i.bL<=999 by rw[fX,an m]]
  refine⟨λh=>fF ?_ e,λh=>cX ?_ e⟩<;>simp at h
  ·simp;omega
  ·omega
 simp only[ak]at m
 refine⟨λo=>?_,λo=>?_⟩
 ·simp only[aE]at o
  rw[show fX b i n<->0<=i.bL/\i.bL<(eE b.aT).length by rw[fX,ae m,an o]]
  refine⟨λh=>?_,λh=>cX ?_ e⟩<;>simp at h
  ·refine(mQ (cr.ext e hd) z.len (IL z)).aK (N.az _) y λD g _=>⟨_,rfl,g.bZ (E.bV 2),fF ?_ (e.trans g)⟩
   simp;omega
  ·omega
 simp only[ak]at o
 refine⟨λp=>?_,λp=>?_⟩
 ·simp only[bT,aE]at p
  rw[show fX b i n<->0<=i.bL/\i.bL<b.cB.length by rw[fX,ae m,ae o,an p]]
  refine⟨λh=>fF ?_ e,λh=>cX ?_ e⟩<;>simp at h
  ·simp;omega
  ·omega
 simp only[bq,ak]at p
 replace p:¬(i.op=9\/i.op=24):=V
 refine⟨λq=>?_,λq=>?_⟩
 ·simp only[aE]at q
  rw[show fX b i n<->0<=i.bL/\∃r,b.cB[i.bL.toNat]? =some r/\r.cG.length=0 by rw[fX,ae m,ae o,ae p,an q]]
  refine⟨λh=>⟨λs=>?_,λs=>?_⟩,λh=>cX ?_ e⟩<;>simp at h
  ·simp at s
   obtain⟨r,u⟩:=ag (l:=b.cB) (k:=i.bL.toNat) V
   obtain⟨K,J,R,H,L,g1,g2⟩:=(oO.ext e C).D u
   have:=H.len
   refine⟨V,V,J,g1,fF ?_ e⟩
   simp only[aE]
   refine⟨λM=>⟨h,r,u,V⟩,λ⟨_,U,g,P⟩=>?_⟩
   rw[u]at g;simp at g;subst g;omega
  ·simp at s
   exact cX (λ⟨_,r,g,_⟩=>by have:=aD g;omega) e
  ·omega
 simp only[ak]at q
 refine⟨λr=>?_,λr=>?_⟩
 ·simp only[aE]at r
  rw[show fX b i n<->0<=i.bL/\i.bL<3 by rw[fX,ae m,ae o,ae p,ae q,an r]]
  refine⟨λh=>fF ?_ e,λh=>cX ?_ e⟩<;>simp at h
  ·simp;omega
  ·omega
 simp only[ak]at r
 refine⟨λs=>?_,λs=>?_⟩
 ·simp only[bT,aE]at s
  rw[show fX b i n<->n i.bL by rw[fX,ae m,ae o,ae p,ae q,ae r,an s]]
  exact⟨v,rfl,F,(I t e).aK (N.az _) y λB D u g _=>⟨_,rfl,fF u (e.trans g)⟩⟩
 simp only[bq,ak]at s
 replace s:¬(i.op=20\/i.op=22):=V
 refine⟨λu=>?_,λu=>?_⟩
 ·simp only[aE]at u
  rw[show fX b i n<->0<(cg b.aT i.bL).length/\i.dX.length=(cg b.aT i.bL).length by rw[fX,ae m,ae o,ae p,ae q,ae r,ae s,an u]]
  refine(sE (cr.ext e hd) z _).aK (N.az _) y ?_
  rintro _ D ⟨J,rfl,H,g⟩
  have:=H.len
  refine⟨g,_,rfl,λh=>fF ?_ (e.trans g),λh=>cX ?_ (e.trans g)⟩<;>simp at h
  ·simp only[aE];omega
  ·omega
 ·simp only[ak]at u
  rw[show fX b i n<->i.bL=0 by rw[fX,ae m,ae o,ae p,ae q,ae r,ae s,ae u]]
  exact fF aJ e
def gD(b:cq)(i:Instr)(c a:Int):Prop:=
 if i.op=0\/i.op=22 then c=0/\a=0
 else if i.op=1\/i.op=2\/i.op=3\/i.op=4\/i.op=11 then c=2/\a=2
 else if i.op=6 then c=(cz b.aT i.bL).length/\a=(cz b.aT i.bL).length
 else if i.op=9\/i.op=24 then∃q,b.cB[i.bL.toNat]? =some q/\c=q.params.length/\a=q.params.length
 else if i.op=10 then∃q,b.cB[i.bL.toNat]? =some q/\c=(q.params.length:Int) -1/\a=(q.params.length:Int) -1
 else if i.op=16\/i.op=17 then c=1/\a=4
 else c=1/\a=1
def Jy(hd:cr c d b.aT)(C:dI b.aT)(z:oO c f b.cB){J:Int->Prop}(v:fX b i J):
 aL cp 90 [.agg #[O.v d,O.v f],.agg #[vi i.op,vi i.dst,vi i.bL,vi i.bH,O.v a,O.v j]] c λL K=>∃D B:Int,L=.tuple #[vi D,vi B]/\gD b i D B/\N c K:=by
 apply qV
 simp -zeta only[aC,aB]
 intro E w
 have g:N c w:=((N.az c).aN _).aN _
 have G:∀F∈[E.size,c.size],F<w.size:=by simp[w,E];omega
 have P:=z.len
 clear_value w
 refine⟨λh=>?_,λh=>?_⟩
 ·simp only[bT,aE]at h
  exact⟨_,_,rfl,by rw[gD,an h];exact⟨rfl,rfl⟩,g⟩
 simp only[bq,ak]at h
 have n:¬(i.op=0\/i.op=22):=V
 refine⟨λs=>?_,λs=>?_⟩
 ·simp only[bT,aE]at s
  exact⟨_,_,rfl,by rw[gD,ae n,an s];exact⟨rfl,rfl⟩,g⟩
 simp only[bq,ak]at s
 have p:¬(i.op=1\/i.op=2\/i.op=3\/i.op=4\/i.op=11):=V
 refine⟨λe=>?_,λe=>?_⟩
 ·simp only[aE]at e
  rw[fX,ae h.1,an e]at v
  have o:=qx C b.aT.length
  rw[mz _ _ (ad _)]at o
  refine(FR (cr.ext g hd) C _ V).aK (N.az _) G ?_
  rintro _ r ⟨t,rfl,q,m⟩
  have:=q.len
  exact⟨m,_,rfl,_,_,rfl,by rw[gD,ae n,ae p,an e];omega,g.trans m⟩
 simp only[ak]at e
 refine⟨λq=>?_,λq=>?_⟩
 ·simp only[bT,aE]at q
  rw[fX,ae h.1,ae e,an q]at v
  obtain⟨x,o⟩:=ag (l:=b.cB) (k:=i.bL.toNat) V
  obtain⟨r,I,u,H,y,g1,g2⟩:=(oO.ext g z).D o
  have:=u.len
  exact⟨V,V,r,y,_,_,rfl,by rw[gD,ae n,ae p,ae e,an q];exact⟨x,o,V,V⟩,g⟩
 simp only[bq,ak]at q
 have t:¬(i.op=9\/i.op=24):=V
 refine⟨λm=>?_,λm=>?_⟩
 ·simp only[aE]at m
  rw[fX,ae h.1,ae e,ae t,an m]at v
  obtain⟨M,x,o,_⟩:=v
  obtain⟨r,I,u,H,y,g1,g2⟩:=(oO.ext g z).D o
  have:=u.len
  have:=u.gV
  have:=aD o
  have A:cR ((r.len:Int) -1)=(x.params.length:Int) -1:=by rw[aP V V];omega
  exact⟨V,V,r,y,_,_,rfl,by rw[gD,ae n,ae p,ae e,ae t,an m];exact⟨x,o,A,A⟩,g⟩
 simp only[ak]at m
 refine⟨λo=>?_,λo=>?_⟩
 ·simp only[bT,aE]at o
  exact⟨_,_,rfl,by rw[gD,ae n,ae p,ae e,ae t,ae m,an o];exact⟨rfl,rfl⟩,g⟩
 ·simp only[bq,ak]at o
  have r:¬(i.op=16\/i.op=17):=V
  exact⟨_,_,rfl,by rw[gD,ae n,ae p,ae e,ae t,ae m,ae r];exact⟨rfl,rfl⟩,g⟩
end
section
variable{m:J}{x a:Int}{b b1:Nat}{c:O}
def xk(d:af m b 0=some (vi a))(e:af m b1 4=some (O.v c)):
 dW cp 87 [vi x,vp b 0,vp b1 0] m (a+1<=x/\x<=(c.len:Int) -1):=by
 apply nT x (b,0) (b1,0)
 refine⟨a,d,λh=>⟨c,e,fF ?_ (N.az _)⟩,λh=>cX ?_ (N.az _)⟩<;>simp at h
 ·simp;omega
 ·omega
def HV{b2:Nat}(d:af m b 0=some (vi a))(e:af m b1 4=some (O.v c))
 (f:af m b2 0=some (.func (.func 87) #[] #[vp b 0,vp b1 0])):
 dW cp 88 [vi x,vp b2 0] m (¬(a+1<=x/\x<=(c.len:Int) -1)):=by
 apply nU x (b2,0)
 refine⟨(.func 87,#[],#[vp b 0,vp b1 0]),f,_,rfl,rfl,?_⟩
 refine(xk d e).then λi j g h=>⟨_,rfl,fF ?_ h⟩
 rw[<-g];simp
def Hq{w:cq}{p:dk}{a:Nat}{i:Instr}(P:p.ao<=2000)(N:w.cB.length<=4)(H:∀s∈w.cB,s.params.length<=3):
 ig w p a i<->((0<=i.op/\i.op<=24/\i.op≠7/\i.op≠8/\i.op≠12/\i.op≠13)/\(0<=i.dst/\i.dst<p.ao/\(i.dst=0\/lx i.op)/\0<=i.bH/\i.bH<=p.ao/\(i.bH=0\/i.op=6))/\
  (∀q∈i.args,0<=q/\q<p.ao)/\(i.dX.length=0\/i.op=21)/\(∀t∈i.dX,(a:Int)+1<=t/\t<=(p.cJ.length:Int) -1)/\
  fX w i (λt=>(a:Int)+1<=t/\t<=(p.cJ.length:Int) -1)/\∀m j,gD w i m j->m<=i.args.length/\(i.args.length:Int)<=j):=by
 have O:(0<=i.dst/\i.dst<p.ao)->0<p.ao:=λy=>V
 constructor
 ·intro y
  have c:=y.op
  have hd:=y.dst
  have E:∀q∈i.args,0<=q/\q<p.ao:=λq g=>by have:=y.args q g;omega
  have v:i.op≠21->∀t∈i.dX,(a:Int)+1<=t/\t<=(p.cJ.length:Int) -1:=λJ t K=>by
   rcases y.dX with r|r
   ·exact absurd r J
   ·rw[List.length_eq_zero_iff.1 r]at K;cases K
  have F:i.dX.length=0\/i.op=21:=y.dX.symm
  have I:0<=i.dst/\i.dst<p.ao:=V
  have gW:∀(_:0<=i.op/\i.op<=24/\i.op≠7/\i.op≠8/\i.op≠12/\i.op≠13)(_:0<=i.bH/\i.bH<=p.ao)(_:∀t∈i.dX,(a:Int)+1<=t/\t<=(p.cJ.length:Int) -1)
   (_:fX w i (λt=>(a:Int)+1<=t/\t<=(p.cJ.length:Int) -1))(_:∀m j,gD w i m j->m<=i.args.length/\(i.args.length:Int)<=j),_:=
   λG D H M r=>(⟨G,⟨I.1,I.2,y.Wj,D.1,D.2,y.bH⟩,E,F,H,M,r⟩:(0<=i.op/\i.op<=24/\i.op≠7/\i.op≠8/\i.op≠12/\i.op≠13)/\(0<=i.dst/\i.dst<p.ao/\(i.dst=0\/lx i.op)/\0<=i.bH/\i.bH<=p.ao/\(i.bH=0\/i.op=6))/\
   (∀q∈i.args,0<=q/\q<p.ao)/\(i.dX.length=0\/i.op=21)/\(∀t∈i.dX,(a:Int)+1<=t/\t<=(p.cJ.length:Int) -1)/\
   fX w i (λt=>(a:Int)+1<=t/\t<=(p.cJ.length:Int) -1)/\∀m j,gD w i m j->m<=i.args.length/\(i.args.length:Int)<=j)
  have u:i.op≠6->0<=i.bH/\i.bH<=p.ao:=λJ=>by rcases y.bH with r|r<;>omega
  unfold lp at c
  by_cases d:i.op=0
  ·rw[an d]at c
   refine gW V (u V) (v V) (by rw[fX,an d];exact c.2) (λm j g=>?_)
   rw[gD,an (Or.inl d)]at g;omega
  rw[ae d]at c
  by_cases h:i.op=1\/i.op=2\/i.op=3\/i.op=4\/i.op=11
  ·rw[an h]at c
   refine gW V (u V) (v V) ?_ (λm j g=>?_)
   ·rw[fX,ae d,ae V,ae V,ae V,ae V,ae V,ae V];exact c.2
   ·rw[gD,ae V,an h]at g;omega
  rw[ae h]at c
  by_cases C:i.op=5\/i.op=14\/i.op=15\/i.op=18\/i.op=23
  ·rw[an C]at c
   refine gW V (u V) (v V) ?_ (λm j g=>?_)
   ·rw[fX,ae d,ae V,ae V,ae V,ae V,ae V,ae V];exact c.2
   ·rw[gD,ae V,ae h,ae V,ae V,ae V,ae V]at g;omega
  rw[ae C]at c
  by_cases b:i.op=6
  ·rw[an b]at c
   refine gW V c.2.2 (v V) ?_ (λm j g=>?_)
   ·rw[fX,ae d,an b];exact c.1
   ·rw[gD,ae V,ae h,an b]at g;omega
  rw[ae b]at c
  by_cases e:i.op=9\/i.op=24
  ·rw[an e]at c
   obtain⟨s,r,z,x⟩:=c
   have:=aD z
   refine gW V (u V) (v V) ?_ (λm j g=>?_)
   ·rw[fX,ae d,ae b,an e];omega
   ·rw[gD,ae V,ae h,ae b,an e]at g
    obtain⟨L,n,A,o⟩:=g
    rw[z]at n;simp at n;subst n;omega
  rw[ae e]at c
  by_cases f:i.op=10
  ·rw[an f]at c
   obtain⟨⟨s,r,z,x⟩,n⟩:=c
   have:=aD z
   refine gW V (u V) (v V) ?_ (λm j g=>?_)
   ·rw[fX,ae d,ae b,ae e,an f];exact⟨r,s,z,n s z⟩
   ·rw[gD,ae V,ae h,ae b,ae e,an f]at g
    obtain⟨L,n,A,o⟩:=g
    rw[z]at n;simp at n;subst n;omega
  rw[ae f]at c
  by_cases n:i.op=16\/i.op=17
  ·rw[an n]at c
   refine gW V (u V) (v V) ?_ (λm j g=>?_)
   ·rw[fX,ae d,ae b,ae e,ae f,ae V,ae V,ae V];exact c.2
   ·rw[gD,ae V,ae h,ae b,ae e,ae f,an n]at g;omega
  rw[ae n]at c
  by_cases o:i.op=19
  ·rw[an o]at c
   refine gW V (u V) (v V) ?_ (λm j g=>?_)
   ·rw[fX,ae d,ae b,ae e,ae f,an o];omega
   ·rw[gD,ae V,ae h,ae b,ae e,ae f,ae n]at g;omega
  rw[ae o]at c
  by_cases B:i.op=20
  ·rw[an B]at c
   refine gW V (u V) (v V) ?_ (λm j g=>?_)
   ·rw[fX,ae d,ae b,ae e,ae f,ae o,an (Or.inl B)];exact c.2
   ·rw[gD,ae V,ae h,ae b,ae e,ae f,ae n]at g;omega
  rw[ae B]at c
  by_cases x:i.op=22
  ·rw[an x]at c
   refine gW V (u V) (v V) ?_ (λm j g=>?_)
   ·rw[fX,ae d,ae b,ae e,ae f,ae o,an (Or.inr x)];exact c.2
   ·rw[gD,an (Or.inr x)]at g;omega
  rw[ae x]at c
  by_cases A:i.op=21
  ·rw[an A]at c
   refine gW V (u V) c.2.2.2 ?_ (λm j g=>?_)
   ·rw[fX,ae d,ae b,ae e,ae f,ae o,ae V,an A]
    have:=c.2.2.1
    exact⟨c.2.1,V⟩
   ·rw[gD,ae V,ae h,ae b,ae e,ae f,ae n]at g;omega
  rw[ae A]at c
  exact c.elim
 ·rintro⟨G,D,E,F,u,c,j⟩
  refine⟨λq g=>by have:=E q g;omega,V,D.2.2.1,D.2.2.2.2.2,F.symm,?_⟩
  unfold lp
  by_cases d:i.op=0
  ·rw[an d]
   rw[fX,an d]at c
   have:=j 0 0 (by rw[gD,an (Or.inl d)];exact⟨rfl,rfl⟩)
   exact⟨V,c⟩
  rw[ae d]
  by_cases h:i.op=1\/i.op=2\/i.op=3\/i.op=4\/i.op=11
  ·rw[an h]
   rw[fX,ae d,ae V,ae V,ae V,ae V,ae V,ae V]at c
   have:=j 2 2 (by rw[gD,ae V,an h];exact⟨rfl,rfl⟩)
   exact⟨V,c⟩
  rw[ae h]
  by_cases C:i.op=5\/i.op=14\/i.op=15\/i.op=18\/i.op=23
  ·rw[an C]
   rw[fX,ae d,ae V,ae V,ae V,ae V,ae V,ae V]at c
   have:=j 1 1 (by rw[gD,ae V,ae h,ae V,ae V,ae V,ae V];exact⟨rfl,rfl⟩)
   exact⟨V,c⟩
  rw[ae C]
  by_cases b:i.op=6
  ·rw[an b]
   rw[fX,ae d,an b]at c
   have:=j _ _ (by rw[gD,ae V,ae h,an b];exact⟨rfl,rfl⟩)
   exact⟨c,V,V⟩
  rw[ae b]
  by_cases e:i.op=9\/i.op=24
  ·rw[an e]
   rw[fX,ae d,ae b,an e]at c
   obtain⟨s,m⟩:=ag (l:=w.cB) (k:=i.bL.toNat) V
   have:=j _ _ (by rw[gD,ae V,ae h,ae b,an e];exact⟨s,m,rfl,rfl⟩)
   exact⟨s,c.1,m,V⟩
  rw[ae e]
  by_cases f:i.op=10
  ·rw[an f]
   rw[fX,ae d,ae b,ae e,an f]at c
   obtain⟨r,s,m,z⟩:=c
   have:=j _ _ (by rw[gD,ae V,ae h,ae b,ae e,an f];exact⟨s,m,rfl,rfl⟩)
   refine⟨⟨s,r,m,V⟩,λL t=>?_⟩
   rw[m]at t;simp at t;subst t;exact z
  rw[ae f]
  by_cases n:i.op=16\/i.op=17
  ·rw[an n]
   rw[fX,ae d,ae b,ae e,ae f,ae V,ae V,ae V]at c
   have:=j 1 4 (by rw[gD,ae V,ae h,ae b,ae e,ae f,an n];exact⟨rfl,rfl⟩)
   exact⟨V,c⟩
  have m:i.op≠22->∀(d:¬i.op=0)(h:¬(i.op=1\/i.op=2\/i.op=3\/i.op=4\/i.op=11))(b:¬i.op=6)(e:¬(i.op=9\/i.op=24))(f:¬i.op=10)(n:¬(i.op=16\/i.op=17)),i.args.length=1:=λr d h b e f n=>by
   have:=j 1 1 (by rw[gD,ae V,ae h,ae b,ae e,ae f,ae n];exact⟨rfl,rfl⟩);omega
  rw[ae n]
  by_cases o:i.op=19
  ·rw[an o]
   rw[fX,ae d,ae b,ae e,ae f,an o]at c
   exact⟨m V d h b e f n,V,V⟩
  rw[ae o]
  by_cases B:i.op=20
  ·rw[an B]
   rw[fX,ae d,ae b,ae e,ae f,ae o,an (Or.inl B)]at c
   exact⟨m V d h b e f n,c⟩
  rw[ae B]
  by_cases x:i.op=22
  ·rw[an x]
   rw[fX,ae d,ae b,ae e,ae f,ae o,an (Or.inr x)]at c
   have:=j 0 0 (by rw[gD,an (Or.inr x)];exact⟨rfl,rfl⟩)
   exact⟨V,c⟩
  rw[ae x]
  by_cases A:i.op=21
  ·rw[an A]
   rw[fX,ae d,ae b,ae e,ae f,ae o,ae V,an A]at c
   exact⟨m V d h b e f n,c.1,V,u⟩
  rw[ae A]
  omega
end
end Go.Proofs.YtgnjacfobdjeeaaGreat
