/- Part of a proof. -/
import Derived.Test.YtkicoahejfbjhaaGreatSA09
import Derived.Test.YtkicoahejfbjhaaGreatSA10
set_option linter.all false
set_option maxHeartbeats 8000000
set_option maxRecDepth 100000
namespace Go.Proofs.YtkicoahejfbjhaaGreat
open Go.Vc
section
variable{α:Type}{k:Nat}
def up{α:Type}(f:Nat->α)(k:Nat)(x:α):Nat->α:=λj=>if j=k then x else f j
@[simp] theorem He (f:Nat->α) (k:Nat) (x:α):up f k x k=x:=an rfl
def Qb(f:Nat->α)(k:Nat)(x:α){j:Nat}(h:j≠k):up f k x j=f j:=ae h
def PY(a:Nat->O):List Ce:=[.s (a 0),.s (a 1),.s (a 2),.s (a 3),.s (a 4),.s (a 5),.s (a 6)]
def Sv(a:Nat->O)(b:k<7):(PY a)[k]? =some (.s (a k)):=by
 rcases k with _|_|_|_|_|_|_|k<;>first|rfl|omega
def NL(a:Nat->O)(b:k<7)(r:O):iZ (PY a) k [.s r]=PY (up a k r):=by
 rcases k with _|_|_|_|_|_|_|k<;>first|rfl|omega
structure js(ro:Nat->Nat)(m:E)(lb:Nat)(sl:Nat->O)(L:Nat->List Int):Prop where
 new:∀b,m.size<=b->ro b=0
 gT:ro lb=8
 box:cE m lb By (PY sl)
 pY:∀k,k<7->iF ro m aA 1 (k+1) (sl k) ((L k).map Ce.i)
section
variable{f j:Nat->Nat}{a h:E}{d:Nat}{b:Nat->O}{L:Nat->List Int}
def js.bZ(h:js f a d b L){k:Nat}(c:k<7):af a d k=some (O.v (b k)):=by
 rw[h.box.bZ,Sv b c];rfl
def js.nH(h:js f a d b L){k:Nat}(c:k<7)(e:(L k).length<=10^12):ap a (b k) (L k):=(h.pY k c).nH V
def js.len(h:js f a d b L){k:Nat}(c:k<7):(b k).len=(L k).length:=by have:=(h.pY k c).len;simp at this;omega
def js.to(h:js f a d b L):To f a f a:=dp.az _ h.new
def js.ext(c:js f a d b L)(e:J a h):js f h d b L:=
 ⟨λi l=>c.new i (bH e.size l),c.gT,c.box.congr (e.same d c.box.lt),λk g=>(c.pY k g).eA (λj=>e.same _ ((c.pY k g).D j).1) λ_=>rfl⟩
def js.kH(p:js f a d b L)(s:k<7)(C:(L k).length<=10^12)(i:Int){K:O->E->Prop}
 (B:∀j r h,To f a j (ah h d k [.s r])->js j (ah h d k [.s r]) d (up b k r) (up L k (L k++[i]))->K r h):
 jK (a.push (.cells (bt [.i i]) aA)) aA [.i 0] 8 (b k) (.mk a.size 0 1 1) λr h=>fJ h d k 1/\K r h:=by
 have z:=J.push a (.cells (bt [.i i]) aA)
 have c:=p.ext z
 have D:=p.len s
 refine iF.append (zs:=[.i 0]) (c:=[.i i]) (c.pY k s) c.new aL ((cE.push a (e:=aA) (l:=[.i i])).iA) (by simp only[O.gE];omega) λj r h v n=>?_
 have x:cE h d By (PY b):=c.box.congr (n.eA d c.box.lt (by simp only[c.gT];omega))
 have o:j d=8:=by rw[n.gT d c.box.lt,c.gT]
 have A:To f a j h:=(dp.eG _ z p.new).trans (n.mono λt y=>V)
 have u:To f a j (ah h d k [.s r]):=A.trans (dp.ah n.new (by simp only[o];omega) _ _)
 refine⟨x.fJ (by show k+1<=7;omega),B j r h u ⟨u.new,o,NL b s r▸cE.ah (m:=h) x,λt y=>?_⟩⟩
 by_cases g:t=k
 .subst g
  rw[He,He,ft]
  refine v.eA (λq=>bd _ _ _ _ λg=>?_) λ_=>rfl
  have:=(v.D q).2
  rw[g,o]at this;omega
 .rw[Qb _ _ _ g,Qb _ _ _ g]
  have w:=(c.pY t y).eH n V
  refine w.eA (λq=>bd _ _ _ _ λg=>?_) λ_=>rfl
  have:=(w.D q).2
  rw[g,o]at this;omega
def js.put(h:js f a d b L){i:Nat}(r:k<7)(n:i<(L k).length)(x:Int):
 fJ a (b k).D ((b k).off+i*1) 1/\js f (ah a (b k).D ((b k).off+i*1) [.i x]) d b (up L k ((L k).set i x))/\To f a f (ah a (b k).D ((b k).off+i*1) [.i x]):=by
 have g:=h.pY k r
 have s:(L k).map Ce.i≠[]:=λe=>by simp at e;rw[e]at n;simp at n
 have j:(b k).cap≠0:=λj=>s (g.Dj j).1
 let⟨t,l⟩:=g.D j
 have c:To f a f (ah a (b k).D ((b k).off+i*1) [.i x]):=dp.ah h.new (by simp only[l];omega) _ _
 refine⟨g.wr bE,⟨c.new,h.gT,h.box.congr (bd _ _ _ _ λe=>by have:=h.gT;rw[e,l]at this;omega),λp q=>?_⟩,c⟩
 by_cases e:p=k
 .subst e
  rw[He]
  have:=g.set (o:=i*1) (new:=[.i x]) bE
  rw[Ag,eQ]at this
  rw[eQ];exact this
 .rw[Qb _ _ _ e]
  have m:=h.pY p q
  refine m.eA (λj=>bd _ _ _ _ λe=>?_) λ_=>rfl
  have:=(m.D j).2
  rw[e,l]at this;omega
def js.Xe(h:js f a d b L)(j:k<7){r:O}{l:List Int}(o:iF f a aA 1 (k+1) r (l.map Ce.i)):
 fJ a d k 1/\js f (ah a d k [.s r]) d (up b k r) (up L k l)/\To f a f (ah a d k [.s r]):=by
 have c:To f a f (ah a d k [.s r]):=dp.ah h.new (by simp only[h.gT];omega) _ _
 refine⟨h.box.fJ (by show k+1<=7;omega),⟨c.new,h.gT,NL b j r▸cE.ah (m:=a) h.box,λn g=>?_⟩,c⟩
 have K:∀{i s l},iF f a aA 1 (i+1) s l->i<7->iF f (ah a d k [.s r]) aA 1 (i+1) s l:=λ{i s l} g' hk'=>by
  refine g'.eA (λp=>bd _ _ _ _ λe=>?_) λ_=>rfl;have:=(g'.D p).2;rw[e,h.gT]at this;omega
 by_cases e:n=k
 .subst e
  rw[He,He];exact K o j
 .rw[Qb _ _ _ e,Qb _ _ _ e];exact K (h.pY n g) g
def js.cut(h:js f a d b L){k n:Nat}(c:k<7)(l:n<=(L k).length):
 n<=(b k).cap/\fJ a d k 1/\js f (ah a d k [.s ((b k).cut 0 n 1)]) d (up b k ((b k).cut 0 n 1)) (up L k ((L k).take n))/\To f a f (ah a d k [.s ((b k).cut 0 n 1)]):=by
 have g:=h.pY k c
 have i:=h.len c
 have j:=g.le
 have e:=g.cut (n:=n) V
 rw[eQ,<-NV]at e
 exact⟨V,h.Xe c e⟩
end
structure pX(ds:List bz)(n b:Nat)(L:Nat->List Int):Prop where
 len:∀k,k<6->(L k).length=n
 Xc:∀(v:Nat)(p:Int),(L 2)[v]? =some p->p<v
 O2:∀(v:Nat)(c f:Int),(L 3)[v]? =some c->(L 4)[v]? =some f->0<=c->0<=f/\f+((cD ds c).length:Int)<=b
 cR:(L 6).length<=10^12
abbrev sk(a:List bz)(n:Nat)(L:Nat->List Int):Prop:=pX a n n L
def KO(L:Nat->List Int)(t o p:Int):Nat->List Int:=up (up (up (up (up (up L 0 (L 0++[t])) 1 (L 1++[o])) 2 (L 2++[p])) 3 (L 3++[-1])) 4 (L 4++[-1])) 5 (L 5++[-1])
def AJ{j:Nat->Nat}{m:E}{b:Nat}{x:Nat->O}{L:Nat->List Int}(h:js j m b x L)(a:∀k,k<6->(L k).length<=10^12)(t o p:Int):
 aN cg 266 [vp b 0,vi t,vi o,vi p] m λ_ i=>∃l y,To j m l i/\js l i b y (KO L t o p):=by
 apply xl (b,0)
 simp -zeta only[bT]
 refine⟨_,h.bZ (k:=0) bh,?_⟩
 intro z
 refine h.kH (k:=0) bh (a 0 bh) t λN U G n c=>⟨_,c.bZ (k:=1) bh,?_⟩
 intro A
 refine c.kH (k:=1) bh (a 1 bh) o λP V H q d=>⟨_,d.bZ (k:=2) bh,?_⟩
 intro B
 refine d.kH (k:=2) bh (a 2 bh) p λQ W I r e=>⟨_,e.bZ (k:=3) bh,?_⟩
 intro C
 refine e.kH (k:=3) bh (a 3 bh) (-1) λR X J s f=>⟨_,f.bZ (k:=4) bh,?_⟩
 intro D
 refine f.kH (k:=4) bh (a 4 bh) (-1) λS Y K u g=>⟨_,g.bZ (k:=5) bh,?_⟩
 intro F
 exact g.kH (k:=5) bh (a 5 bh) (-1) λT Z M v w=>⟨_,_,((((n.trans q).trans r).trans s).trans u).trans v,w⟩
end
section
variable{l:List Int}{d:Nat->Nat}{a:E}{P:(Nat->List Int)->Prop}{b:Nat}{v:Int}
def GI.aT{S:List Nat}{n m:E}{s:O}(h:GI S n m s l):gV n m aA 1 s (l.map Ce.i):=by
 have u:=h.len bh;let⟨r,d,o,a⟩:=h;have t:d.flatten.length=l.length:=by rw[cv a.size,a.len];omega
 have q:d.flatten=l.map Ce.i:=by
  apply gU;intro e;rcases aW e l.length with b|b
  .let⟨x,k⟩:=dB b;let⟨f,j⟩:=cG d e (by rw[a.len];exact b);have p:f=[.i x]:=a.dz e f x j k;have g:=fV (g:=1) a.size j (i:=0) (c:=.i x) (by rw[p];rfl);simp only[eQ,jE]at g;rw[g];simp[k]
  .rw[cO V,cO (by simpa using b)]
 rw[<-q];exact o
def BZ(f:Nat->Nat)(m:E)(e:Nat)(P:(Nat->List Int)->Prop)(v:Value)(a:E):Prop:=∃(b:Bool)(d:Nat->Nat),v=vb b/\To f m d a/\(b=true->∃g c,js d a e g c/\P c)
def BZ.no{b:Nat->Nat}{m:E}{c:Nat}(h:To b m d a):BZ b m c P (vb false) a:=⟨false,d,rfl,h,aL⟩
def BZ.O8{c:Nat->Nat}{m:E}{b:Nat}{e:Nat->O}{L:Nat->List Int}(h:To c m d a)(f:js d a b e L)(g:P L):BZ c m b P (vb true) a:=⟨true,d,rfl,h,λ_=>⟨e,L,f,g⟩⟩
def BZ.mono{e:Nat->Nat}{m:E}{c:Nat}{Q:(Nat->List Int)->Prop}{v:Value}(h:BZ e m c P v a)(n:∀L,P L->Q L):BZ e m c Q v a:=let⟨b,d,f,g,i⟩:=h;⟨b,d,f,g,λl=>let⟨o,L,j,k⟩:=i l;⟨o,L,j,n L k⟩⟩
def pX.aR{a:List bz}{n:Nat}{L:Nat->List Int}(h:pX a n b L)(g:l.length=n):pX a n b (up L 1 l):=
 ⟨λk d=>by by_cases e:k=1<;>simp_all [up,h.len k],λv p=>by simpa[up]using h.Xc v p,λv c f=>by simpa[up]using h.O2 v c f,by simpa[up]using h.cR⟩
def pX.tok{a:List bz}{n:Nat}{L:Nat->List Int}(h:pX a n b L)(g:l.length=n):pX a n b (up L 5 l):=
 ⟨λk d=>by by_cases e:k=5<;>simp_all [up,h.len k],λv p=>by simpa[up]using h.Xc v p,λv c f=>by simpa[up]using h.O2 v c f,by simpa[up]using h.cR⟩
def KM{b x:Int}{v:Nat}(h:(l++[b])[v]? =some x):l[v]? =some x\/v=l.length/\x=b:=by
 rcases aW v l.length with a|a
 .rw[ax a]at h;exact Or.inl h
 .rw[aI a]at h;have:=av h;simp at this;have e:v=l.length:=V;subst e;simp at h;exact Or.inr ⟨rfl,h.symm⟩
def pX.DB{c:List bz}{n a:Nat}{L:Nat->List Int}(h:pX c n b L)(j:b<=a):pX c n a L:=
 ⟨h.len,h.Xc,λv d f g i e=>oh (h.O2 v d f g i e),h.cR⟩
def pX.Ow{f:List bz}{n:Nat}{L:Nat->List Int}(h:pX f n b L)(u t:Int){p:Int}(r:p<n):pX f (n+1) b (KO L u t p):=by
 have a:=h.len;refine⟨λk w=>?_,λv q s=>?_,λv e g j m i=>?_,by simpa[KO,up]using h.cR⟩
 .rcases k with _|_|_|_|_|_|k<;>first|omega|(simp[KO,up,a])
 .have d:(L 2++[p])[v]? =some q:=by simpa[KO,up]using s
  rcases KM d with c|⟨rfl,rfl⟩
  .exact h.Xc v q c
  .rw[a 2 bh];exact r
 .have l:(L 3++[-1])[v]? =some e:=by simpa[KO,up]using j
  have o:(L 4++[-1])[v]? =some g:=by simpa[KO,up]using m
  rcases KM l with c|⟨rfl,rfl⟩
  .rcases KM o with d|⟨d,rfl⟩
   .have:=h.O2 v e g c d i;omega
   .have:=av c;rw[a 4 bh]at d;rw[a 3 bh]at this;omega
  .omega
section
variable{f:Nat->Nat}{m:E}{e:Nat}{g:Nat->O}{L:Nat->List Int}{h:List bz}{c:Nat}
def js.aF(h:js f m e g L){k:Nat}(b:k<7)(c:(L k).length<=10^12){i:Nat}{x:Int}(a:(L k)[i]? =some x):af m (g k).D ((g k).off+i*1)=some (vi x):=(h.nH b c).aF a
def uG(a:js f m e g L)(q:sk h c L)(u:c<=10^12)(b:0<=v)(s:v<c):aN cg 267 [vp e 0,vi v] m (BZ f m e λd=>∃l:List Int,l.length=c/\d=up L 1 l):=by
 apply xt (e,0);simp -zeta only[bT];have o:=q.len 1 bh;have t:=a.len (k:=1) bh;let⟨x,r⟩:=cG (L 1) v.toNat;have j:=a.aF bh V r;have d:=a.bZ (k:=1) bh;let⟨w,p,n⟩:=a.put (k:=1) (i:=v.toNat) bh V (cT (x -1));exact⟨_,d,b,V,x,j,λ_=>.no a.to,λ_=>⟨_,d,_,d,b,V,x,j,b,V,w,.O8 n p ⟨_,by simp[o],rfl⟩⟩⟩
def sH(q:js f m e g L)(j:sk h c L)(t:c<=10^12)(i:0<=v)(o:v<c):oJ 227 [vp e 0,vi v] m:=by
 apply wi (e,0);refine⟨λv a=>0<=v/\v<(c:Int)/\J m a,λv _=>v.toNat,⟨i,o,J.az _⟩,?_⟩;rintro v A ⟨i,o,d⟩;have H:=q.ext d;have w:=H.len (k:=1) bh;have z:=H.len (k:=2) bh;have C:=j.len 1 bh;have D:=j.len 2 bh;let⟨x,s⟩:=cG (L 1) v.toNat;let⟨y,p⟩:=cG (L 2) v.toNat;have u:=j.Xc _ _ p;refine⟨_,H.bZ (k:=1) bh,i,V,x,H.aF bh V s,λ_=>⟨_,H.bZ (k:=6) bh,?_⟩,λ_=>rA d⟩;refine(dw (H.nH (k:=6) bh j.cR) v).then λb B _ l=>⟨_,rfl,λ_=>?_,λ_=>rA (d.trans l)⟩;have n:=H.ext l;refine⟨_,n.bZ (k:=2) bh,i,V,y,n.aF bh V p,λ_=>rA (d.trans l),λr=>?_⟩;simp only[bL]at r;exact⟨⟨V,V,d.trans l⟩,by show y.toNat<v.toNat;omega⟩
def LA(i:js f m e g L)(u:sk h c L)(R:c<=10^12){b:Nat}(H:b<=c):aN cg 340 [vp e 0,vi b] m (BZ f m e λd=>(∀j,j<6->(d j).length=b)/\(d 6).length<=10^12):=by
 apply yO (e,0);simp -zeta only[bT];refine⟨λv a=>(b:Int)<=v/\v<=c/\a=m,λv _=>((c:Int) -v).toNat,⟨V,V,rfl⟩,?_⟩;rintro v W ⟨P,p,rfl⟩;have o:=λj(G:j<6)=>i.len (k:=j) V;have d:=u.len;have S:=o 0 bh;have T:=o 1 bh;have U:=o 5 bh;have n0:=d 0 bh;have n1:=d 1 bh;have n5:=d 5 bh;refine⟨_,i.bZ (k:=0) bh,λw=>?_,λw=>?_⟩
 .simp only[ar]at w;let⟨x,q⟩:=cG (L 1) v.toNat;let⟨y,r⟩:=cG (L 5) v.toNat;refine⟨_,i.bZ (k:=1) bh,V,V,x,i.aF bh V q,λ_=>.no i.to,λ_=>⟨_,i.bZ (k:=5) bh,V,V,y,i.aF bh V r,λ_=>.no i.to,λ_=>?_⟩⟩;rw[aQ V V];exact⟨⟨V,V,rfl⟩,by show((c:Int) -(v+1)).toNat<((c:Int) -v).toNat;omega⟩
 .have tk:∀{l:List Int},l.length=c->(l.take b).length=b:=λQ=>bE;have D:Int.toNat (0:Int)=0:=rfl;have E:Int.toNat (b:Int)=b:=V;rw[D,E];let⟨p1,I,p,x⟩:=i.cut (k:=0) (n:=b) bh (by rw[d 0 bh];exact H);refine⟨_,i.bZ (k:=0) bh,V,V,V,I,?_⟩;intro X;let⟨p2,J,q,y⟩:=p.cut (k:=1) (n:=b) bh (by simp[up,d];omega);refine⟨_,p.bZ (k:=1) bh,V,V,V,J,?_⟩;intro Y;let⟨p3,K,r,z⟩:=q.cut (k:=2) (n:=b) bh (by simp[up,d];omega);refine⟨_,q.bZ (k:=2) bh,V,V,V,K,?_⟩;intro Z;let⟨p4,M,s,A⟩:=r.cut (k:=3) (n:=b) bh (by simp[up,d];omega);refine⟨_,r.bZ (k:=3) bh,V,V,V,M,?_⟩;intro m5;let⟨p5,N,t,B⟩:=s.cut (k:=4) (n:=b) bh (by simp[up,d];omega);refine⟨_,s.bZ (k:=4) bh,V,V,V,N,?_⟩;intro m6;let⟨p6,O,F,C⟩:=t.cut (k:=5) (n:=b) bh (by simp[up,d];omega);refine⟨_,t.bZ (k:=5) bh,V,V,V,O,?_⟩;intro m7;refine BZ.O8 (((((x.trans y).trans z).trans A).trans B).trans C) F ⟨λj G=>?_,?_⟩
  .rcases j with _|_|_|_|_|_|j<;>first|omega|(simp[up,d];omega)
  .simpa[up]using u.cR
end
end
section
variable{a:Nat->Nat}{m d c:E}{X:List Nat}
def XQ(m:E)(P:(Nat->List Int)->Prop)(v:Value)(c:E):Prop:=∃d,v=vp d 0/\J m c/\∃a e L,(∀b,b<m.size->a b=0)/\js a c d e L/\P L
def MN{t:Nat}{sl:Nat->O}{L:Nat->List Int}(h:js a m t sl L)(S:∀b,b<7->(L b).length<=10^12):
 aN cg 327 [vp t 0] m (XQ m λc=>∀b,b<7->c b=L b):=by
 apply ve (t,0)
 simp -zeta only[bT]
 refine⟨_,h.bZ (k:=0) bh,_,h.bZ (k:=1) bh,_,h.bZ (k:=2) bh,_,h.bZ (k:=3) bh,_,h.bZ (k:=4) bh,_,h.bZ (k:=5) bh,_,h.bZ (k:=6) bh,?_⟩
 have C:∀{M:E}(b:Nat),b<7->J m M->kY 68 [O.v (sl b)] M [] (L b=·):=λb z y=>bN [] ((h.ext y).nH z (S b z)) (S b z)
 have c:∀{M H:E},J m M->J M H->∀B,af H t B=af M t B:=λy x' B=>aJ (x'.same t (y.lt h.box.lt)) B
 have i:=J.az m
 refine(C 0 bh i).then λU _ m1 I e d=>⟨_,rfl,c i d _,c i d _,c i d _,c i d _,c i d _,c i d _,?_⟩
 subst e
 refine(C 1 bh d).then λW _ m2 g1 e j=>⟨_,rfl,c d j _,c d j _,c d j _,c d j _,c d j _,?_⟩
 subst e
 have u:=d.trans j
 refine(C 2 bh u).then λX _ m3 g2 e l=>⟨_,rfl,c u l _,c u l _,c u l _,c u l _,?_⟩
 subst e
 have x:=u.trans l
 refine(C 3 bh x).then λY _ m4 K e n=>⟨_,rfl,c x n _,c x n _,c x n _,?_⟩
 subst e
 have D:=x.trans n
 refine(C 4 bh D).then λZ _ m5 N e o=>⟨_,rfl,c D o _,c D o _,?_⟩
 subst e
 have G:=D.trans o
 refine(C 5 bh G).then λs5 _ m6 P e p=>⟨_,rfl,c G p _,?_⟩
 subst e
 have u6:=G.trans p
 refine(C 6 bh u6).then λs6 _ v Q e q=>⟨_,rfl,?_⟩
 subst e
 intro w
 have r:J v w:=J.push _ _
 have z0:=i.size;have z1:=d.size;have z2:=j.size;have z3:=l.size;have z4:=n.size;have z5:=o.size;have z6:=p.size;have z7:=q.size
 have s8:w.size=v.size+1:=by simp[w]
 have y0:=I.bn;have y1:=g1.bn;have y2:=g2.bn;have y3:=K.bn;have y4:=N.bn;have y5:=P.bn;have y6:=Q.bn
 let f:Nat->Nat:=λg=>if g<m.size then 0 else if g<m1.size then 1 else if g<m2.size then 2 else if g<m3.size then 3 else if g<m4.size then 4 else if g<m5.size then 5 else if g<m6.size then 6 else if g<v.size then 7 else if g=v.size then 8 else 0
 let ab:Nat->O:=λb=>if b=0 then U else if b=1 then W else if b=2 then X else if b=3 then Y else if b=4 then Z else if b=5 then s5 else s6
 have A:∀{m0 M:E}{F:O}{T:List Int}{b:Nat},GI [] m0 M F T->J M w->f F.D=b->iF f w aA 1 b F (T.map Ce.i):=λaa y hr=>iF.fZ (aa.aT.ext y) λ_=>hr
 refine⟨v.size,rfl,u6.trans (q.trans r),f,ab,L,λg R=>an R,⟨λg R=>?_,?_,cE.push _ _ _,λb z=>?_⟩,λ_ _=>rfl⟩
 .simp only[f]
  repeat rw[ae V]
 .simp only[f]
  repeat rw[ae V]
  simp
 .rcases b with _|_|_|_|_|_|_|b
  .exact A (F:=U) (b:=1) I (j.trans (l.trans (n.trans (o.trans (p.trans (q.trans r)))))) (by simp only[f];rw[ae V,an V])
  .exact A (F:=W) (b:=2) g1 (l.trans (n.trans (o.trans (p.trans (q.trans r))))) (by simp only[f];rw[ae V,ae V,an V])
  .exact A (F:=X) (b:=3) g2 (n.trans (o.trans (p.trans (q.trans r)))) (by simp only[f];rw[ae V,ae V,ae V,an V])
  .exact A (F:=Y) (b:=4) K (o.trans (p.trans (q.trans r))) (by simp only[f];rw[ae V,ae V,ae V,ae V,an V])
  .exact A (F:=Z) (b:=5) N (p.trans (q.trans r)) (by simp only[f];rw[ae V,ae V,ae V,ae V,ae V,an V])
  .exact A (F:=s5) (b:=6) P (q.trans r) (by simp only[f];rw[ae V,ae V,ae V,ae V,ae V,ae V,an V])
  .exact A (F:=s6) (b:=7) Q r (by simp only[f];rw[ae V,ae V,ae V,ae V,ae V,ae V,ae V,an V])
  .omega
structure Hp(d:E)(X:List Nat)(a:Nat->Nat)(m:E):Prop where
 ext:J d m
 gF:∀b,b<d.size->a b=0
 box:∀b∈X,b<m.size/\a b=0
def Hp.to{g:Nat->Nat}(h:Hp d X a m)(e:To a m g c):Hp d X g c:=by
 let⟨i,j⟩:=e.cx h.ext h.gF;exact⟨i,j,λb f=>⟨aO (h.box b f).1 e.size,by rw[e.gT b (h.box b f).1];exact(h.box b f).2⟩⟩
def Hp.dv{d m c:E}{X:List Nat}{a e:Nat->Nat}(h:Hp d X a m)(b:To a m e c):eF X m c:=b.dv h.box
def Hp.gX(h:Hp d X a m)(x:J m c):Hp d X a c:=⟨h.ext.trans x,h.gF,λb e=>⟨x.lt (h.box b e).1,(h.box b e).2⟩⟩
def Ix{p I aa:O}{q:gN}(s:ap m p q.params)(F:ap m I q.cR)(ad:q.params.length<=3)(ac:q.cR.length<=3)(w:List bz):
 aN cg 245 [.agg #[O.v p,O.v I,vi q.aS,O.v aa,vi q.body.aS]] m (XQ m (sk w q.params.length)):=by
 apply AU
 simp -zeta only[aC,aB]
 intro e
 have v:J m e:=J.push _ _
 have s1:e.size=m.size+1:=by simp[e]
 have W:∀b∈[m.size],b<e.size:=by simp[e]
 clear_value e
 refine(bN [] (F.ext v) V).aH (J.az e) W λs6 _ f D o K _=>⟨_,rfl,?_⟩
 subst o
 intro t
 have P:J f t:=J.push _ _
 have s3:t.size=f.size+1:=by simp[t]
 have z2:=K.size
 have y6:=D.bn
 let h:Nat->Nat:=λb=>if b<e.size then 0 else if b<f.size then 7 else if b=f.size then 8 else 0
 let d:Nat->List Int:=λk=>if k<6 then[]else q.cR
 let r:Nat->O:=λk=>if k<6 then .nil else s6
 have R:js h t f.size r d:=by
  refine⟨λb l=>?_,?_,cE.push _ _ _,λk B=>?_⟩
  .simp only[h];repeat rw[ae V]
  .simp only[h];repeat rw[ae V]
   simp
  .by_cases g:k<6
   .simp only[r,d,an g];exact⟨aL,aL,Or.inl rfl⟩
   .have o:k=6:=V;subst o;simp only[r,d,ae g];refine iF.fZ (D.aT.ext P) λ_=>?_;simp only[h];rw[ae V,an V]
 have T:sk w 0 d:=by
  refine⟨λk B=>by simp only[d,an B];rfl,λg p s=>by simp[d]at s,λg j i z=>by simp[d]at z,by simp[d];omega⟩
 have gF:∀b,b<e.size->h b=0:=λb l=>an l
 clear_value h d r
 have ag:=s.len
 refine dU (n:=q.params.length) V (λk M=>∃a C L,Hp e [m.size] a M/\js a M f.size C L/\sk w k L) ⟨h,r,d,⟨K.trans P,gF,λb l=>by simp at l;subst l;exact⟨V,gF _ V⟩⟩,R,T⟩ ?_
 rintro k M S μ B ⟨a,C,L,i,H,A⟩ Z
 refine dit (λU=>?_) λU=>?_
 .let⟨y,X⟩:=cG q.params k
  have N:∀(u:Int){g:E},J M g->aN cg 266 [vp f.size 0,vi y,vi u,vi (-1:Int)] g λ_ c=>eF [m.size] g c/\S (cT ((k:Int)+1)) c/\μ (cT ((k:Int)+1)) c<μ k M:=λu g x=>
   (AJ (H.ext x) (λY Q=>by rw[A.len Y Q];omega) y u (-1)).mono λ_ c⟨Y,ab,j,Q⟩=>⟨(i.gX x).dv j,Z V _ ⟨Y,ab,_,(i.gX x).to j,Q,(A.Ow y u V).DB V⟩⟩
  have G:∀{g:E},J M g->af g p.D (p.off+Int.toNat (k:Int)*1)=some (vi y):=λx=>(s.ext (v.trans (i.ext.trans x))).aF X
  refine⟨V,V,y,G (J.az _),λ_=>?_,λ_=>⟨V,V,y,G (J.az _),N 0 (J.az _)⟩⟩
  refine(dw (F.ext (v.trans i.ext)) (k:Int)).then λb M2 _ x=>⟨λj z=>x.same j (i.box j z).1,_,rfl,λ_=>⟨V,V,y,G x,N 1 x⟩,λ_=>⟨V,V,y,G x,N 0 x⟩⟩
 .have o:k=q.params.length:=V
  subst o
  exact⟨f.size,rfl,v.trans i.ext,a,C,L,λb l=>i.gF b V,H,A⟩
end
section
def js.Vq{b:Nat->Nat}{m f:E}{q:Nat}{a:Nat->O}{L:Nat->List Int}(h:js b m q a L)(gF:∀c,c<f.size->b c=0){k p:Nat}(l:k<7)(c:p<(L k).length):f.size<=(a k).D/\(a k).D<m.size/\b (a k).D=k+1:=by
 have g:=h.pY k l;have o:(L k).map Ce.i≠[]:=λe=>by simp at e;rw[e]at c;simp at c
 let⟨j,d⟩:=g.D λi=>o (g.Dj i).1;refine⟨Hi λn=>?_,j,d⟩;rw[gF _ n]at d;omega
def Hp.Th{c m a g:E}{d:Nat->Nat}{o1 o2:Obj}(j:J c m)(gF:∀b,b<c.size->d b=0)(k:∀b,m.size<=b->d b=0)(e:a=m.push o1)(h:g=a.push o2):Hp c [a.size,m.size] d g:=by
 let⟨l,i⟩:=dD e h;subst e;exact⟨j.trans l,gF,λb f=>⟨i b f,k b (by simp at f;omega)⟩⟩
section
variable{e:Nat->Nat}{m b:E}{g:Nat}{p:Nat->O}{L:Nat->List Int}{f:List bz}{l:List gN}{h:Nat}{d r a o:O}{x:cV}{c:Prop}{q:Nat}
def P2(hx:J b m)(gF:∀u,u<b.size->e u=0)(K:js e m g p L)(N:sk f h L)(hn:h<=10^12)(hN:eK b d r f l)(ha:ap b a x.args)(hf:Uv f q c h x)(an:14<=x.op):
 aN cg 268 [vp g 0,.agg #[O.v d,O.v r],oW x a o] m (BZ e m g (sk f h)):=by
 apply xp (g,0)
 simp -zeta only[aC,aB,bT]
 intro P Q
 have st:=Hp.Th (a:=P) (g:=Q) hx gF K.new rfl rfl
 have x2:J m Q:=(dD (a:=P) (c:=Q) rfl rfl).1
 have W:To e m e Q:=dp.eG _ x2 K.new
 clear_value Q
 clear_value P
 have D:=K.ext x2
 have aA:=ha.len
 have az:=hf.lJ (Or.inl an)
 let⟨A,hy⟩:=cG x.args 0
 let⟨G,y1⟩:=hf.args A (aq hy)
 have U:=N.len
 have n1:=U 1 bh;have n3:=U 3 bh;have n4:=U 4 bh;have n5:=U 5 bh
 have l3:=D.len (k:=3) bh;have l5:=D.len (k:=5) bh
 let⟨B,ae⟩:=cG (L 3) A.toNat
 let⟨v,ag⟩:=cG (L 4) A.toNat
 let⟨tk,au⟩:=cG (L 5) A.toNat
 refine⟨bh,V,A,(ha.ext st.ext).aF hy,?_⟩
 refine⟨λM=>0<=B/\∃R af s,s.length=h/\To e m R M/\Hp b [P.size,m.size] R M/\js R M g af (up L 1 s),?_,?_⟩
 .refine⟨_,D.bZ (k:=3) bh,G,V,B,D.aF bh V ae,λ_=>.no W,λw=>?_⟩
  simp only[bL]at w
  refine⟨λ_=>⟨_,D.bZ (k:=5) bh,G,V,tk,D.aF bh V au,λ_=>.no W,λ_=>?_⟩,λ_=>?_⟩<;>
  .refine(uG D N hn G y1).mono λax m3⟨u,R,ac,H,y⟩=>⟨st.dv H,u,ac,λC=>.no (W.trans H),λC=>?_⟩
   obtain⟨af,z,t,s,hl,rfl⟩:=y (by simpa using C)
   exact⟨V,R,af,s,hl,W.trans H,st.to H,t⟩
 .rintro m3 ⟨al,aa,F,s,hl,H,S,y⟩
  have e3:(up L 1 s) 3=L 3:=rfl
  have e4:(up L 1 s) 4=L 4:=rfl
  have e5:(up L 1 s) 5=L 5:=rfl
  have e1:(up L 1 s) 1=s:=rfl
  have av:=y.len (k:=3) bh
  rw[e3]at av
  let⟨f0,f1⟩:=N.O2 A.toNat B v ae ag al
  refine⟨_,y.bZ (k:=3) bh,G,V,B,y.aF bh (by rw[e3];omega) ae,?_⟩
  have A1:=y.Vq (f:=b) S.gF (k:=1) (p:=A.toNat) bh (by rw[e1];omega)
  have A5:=y.Vq (f:=b) S.gF (k:=5) (p:=A.toNat) bh (by rw[e5];omega)
  have hS:∀u∈[(F 1).D,(F 5).D],u<m3.size:=λu C=>by simp at C;omega
  have ak:∀{M:E},J b M->Le b (bG [(F 1).D,(F 5).D] M):=λxx=>(zW b).trans (xx.bG λu C=>Or.inr (by simp at C;omega))
  refine(dI hS (hN.bo.le (ak S.ext)) hN.types B).mono λax m4⟨aj,fl,ac,hs,am,x4⟩=>⟨λu C=>x4.same u (S.box u C).1,aj,ac,?_⟩
  subst am
  have c4:To e m aa m4:=H.trans (dp.eG _ x4 y.new)
  have aE:=hs.len
  have f3:=Fy hN.types B
  refine dU (n:=(cD f B).length) V (λz M=>∃s,s.length=h/\To e m aa M/\Hp b [P.size,m.size] aa M/\js aa M g F (up L 1 s)/\Fz [(F 1).D,(F 5).D] m4 M) ⟨s,hl,c4,(S.gX x4),(y.ext x4),Fz.az _ _⟩ ?_
  rintro z M ay μ aD ⟨w,Z,X,ab,t,ad⟩ ai
  have ao:=hs.le (ad.df λ_ K=>K)
  refine⟨λah=>?_,λah=>?_⟩
  .simp only[ar]at ah
   let⟨aw,hz⟩:=cG (cD f B) z
   refine⟨V,V,aw,(ao.le (bA _ _)).aF hz,λ_=>?_,λ_=>ai V _ ⟨w,Z,X,ab,t,ad⟩⟩
   have E3:(up L 1 w) 4=L 4:=rfl
   have E1:(up L 1 w) 1=w:=rfl
   have G1:=t.bZ (k:=1) bh
   have G4:=t.bZ (k:=4) bh
   have l4:=t.len (k:=4) bh
   have l1:=t.len (k:=1) bh
   rw[E3]at l4;rw[E1]at l1
   have V4:=t.aF (k:=4) bh (by rw[E3];omega) ag
   have ew:cT (v+(z:Int))=v+z:=aQ V V
   let⟨T,hw⟩:=cG w ((v+(z:Int)).toNat)
   let⟨wr,Y,I⟩:=t.put (k:=1) (i:=(v+(z:Int)).toNat) bh (by rw[E1];omega) (cT (T+1))
   refine⟨_,G1,_,G4,G,V,v,V4,_,G1,_,G4,G,V,v,V4,?_⟩
   rw[ew]
   refine⟨V,V,T,t.aF (k:=1) bh (by rw[E1];omega) hw,V,V,wr,ab.dv I,ai V _ ⟨w.set (v+(z:Int)).toNat (cT (T+1)),by simp[Z],X.trans I,ab.to I,?_,ad.ah (Or.inl aL) _ _⟩⟩
   have:up (up L 1 w) 1 ((up L 1 w) 1|>.set (v+(z:Int)).toNat (cT (T+1)))=up L 1 (w.set (v+(z:Int)).toNat (cT (T+1))):=by funext j;simp only[up];split<;>rfl
   rw[this]at Y;exact Y
  .refine⟨λ_=>?_,λ_=>.O8 X t (N.aR Z)⟩
   have T:(up L 1 w) 5=L 5:=rfl
   have aw:=t.len (k:=5) bh
   rw[T]at aw
   let⟨wr,Y,I⟩:=t.put (k:=5) (i:=A.toNat) bh (by rw[T];omega) (aj.len:Int)
   exact⟨_,t.bZ (k:=5) bh,G,V,wr,ab.dv I,.O8 (X.trans I) Y ((N.aR Z).tok (by rw[T];simp[n5]))⟩
def JM(hx:J b m)(gF:∀j,j<b.size->e j=0)(Q:js e m g p L)(hi:sk f h L)(hn:h<=10^12)(hN:eK b d r f l)(B:ap b a x.args)(D:Uv f l.length c h x):
 aN cg 270 [vp g 0,.agg #[O.v d,O.v r],oW x a o] m (BZ e m g (sk f h)):=by
 apply tB (g,0)
 simp -zeta only[aC,aB,bT]
 intro K H
 have st:=Hp.Th (a:=K) (g:=H) hx gF Q.new rfl rfl
 have x2:J m H:=(dD (a:=K) (c:=H) rfl rfl).1
 have c2:To e m e H:=dp.eG _ x2 Q.new
 clear_value H
 clear_value K
 have aa:=B.len
 have Z:∀{M:E},J b M->At M d r a o f l x:=λxx=>⟨hN.le xx.le,B.ext xx,D.call⟩
 refine dU (n:=x.args.length) (aa▸B.gS) (λ_ M=>∃t T N,sk f h N/\To e m t M/\Hp b [K.size,m.size] t M/\js t M g T N) ⟨e,p,L,hi,c2,st,(Q.ext x2)⟩ ?_
 rintro ab M ag μ ah ⟨S,af,Y,v,P,C,s⟩ ad
 refine⟨λF=>?_,λF=>?_⟩
 .simp only[ar]at F
  let⟨I,G⟩:=cG x.args ab
  let⟨W,X⟩:=D.args I (aq G)
  have N0:=v.len 0 bh
  refine⟨_,s.bZ (k:=0) bh,?_⟩
  refine(mH (Z C.ext) (s.nH (k:=0) bh V) (by rw[N0];exact D.args) (h:=ab) V).mono λU m4⟨j,z,q⟩=>⟨λj u=>q.same j (C.box j u).1,j,z,λ_=>⟨V,V,I,(B.ext (C.ext.trans q)).aF G,?_⟩,λ_=>ad V _ ⟨S,af,Y,v,P.trans (dp.eG _ q s.new),C.gX q,s.ext q⟩⟩
  have w:=C.gX q
  have y:To e m S m4:=P.trans (dp.eG _ q s.new)
  refine(uG (s.ext q) v hn W X).mono λU m5⟨j,t,z,A,h5⟩=>⟨w.dv A,j,z,λu=>.no (y.trans A),λu=>?_⟩
  obtain⟨T,N,R,ac,hl,rfl⟩:=h5 (by simpa using u)
  exact ad V _ ⟨t,T,_,v.aR hl,y.trans A,w.to A,R⟩
 .refine dU (n:=x.args.length) (aa▸B.gS) (λ_ t=>J M t) (J.az _) ?_
  rintro T M4 I4 μ4 ai q ac
  have w:=C.gX q
  have y:To e m S M4:=P.trans (dp.eG _ q s.new)
  have t:=s.ext q
  refine⟨λF=>?_,λF=>⟨λae=>?_,λ_=>.O8 y t v⟩⟩
  .simp only[ar]at F
   let⟨I,G⟩:=cG x.args T
   let⟨W,X⟩:=D.args I (aq G)
   refine(nO (Z w.ext) (T:Int)).mono λU m5⟨j,z,A⟩=>⟨λj u=>A.same j (w.box j u).1,j,z,λ_=>⟨V,V,I,(B.ext (w.ext.trans A)).aF G,?_⟩,λ_=>ac V _ (q.trans A)⟩
   refine(sH (t.ext A) v hn W X).mono λU m6⟨j,z,N⟩=>⟨λj u=>N.same j (A.lt (w.box j u).1),j,z,λ_=>.no (y.trans (dp.eG _ (A.trans N) t.new)),λ_=>ac V _ ((q.trans A).trans N)⟩
  .simp only[ar]at ae
   have I:=D.bY
   have u:=v.len 5 bh
   have N:=t.len (k:=5) bh
   have z:cT (x.bY -1)=x.bY -1:=aQ V V
   let⟨G,A⟩:=cG (Y 5) ((x.bY -1).toNat)
   let⟨wr,R,j⟩:=t.put (k:=5) (i:=(x.bY -1).toNat) bh V (-1)
   rw[z]
   exact⟨_,t.bZ (k:=5) bh,V,V,G,t.aF (k:=5) bh V A,λ_=>.no y,λ_=>⟨_,t.bZ (k:=5) bh,V,V,wr,w.dv j,.O8 (y.trans j) R (v.tok (by simp[u]))⟩⟩
end
end
section
variable{M:E}
def NI(a:Nat->Nat)(m:E):List Nat:=(List.range m.size).filter λb=>a b≠0
def PT(c:Nat->Nat)(m:E):∀b∈NI c m,b<m.size:=λb a=>by simp[NI]at a;exact a.1
def Su{d:Nat->Nat}{m a:E}(gF:∀b,b<a.size->d b=0)(e:J a M):Le a (bG (NI d m) M):=
 (zW a).trans (e.bG λb c=>Or.inr (by
  simp[NI]at c;exact Hi λh=>c.2 (gF b h)))
def dp.ZV{a l:Nat->Nat}{m f:E}(h:To a f l M)(k:∀b,m.size<=b->a b=0):Le (bG (NI a m) f) M:=λb o v j=>by
 let⟨d,e⟩:=eP.1 j;have i:=lZ e;have g:a b=0:=by
  rcases aW b m.size with c|c
  .simp[NI]at d;exact d c
  .exact k b c
 rw[aJ (h.eA b i (by simp[g]))];exact e
def Rg(c:List bz)(h:List gN)(i:Prop)(b:Bk):Prop:=∀(e:Nat->Nat)(m a:E)(d:Nat)(l:Nat->O)(L:Nat->List Int)(n k:Nat)(g r t:O),J a m->(∀b,b<a.size->e b=0)->js e m d l L->sk c n L->WB c h.length i n b->n+4*b.w<=10^12->k<=n->eK a g r c h->eO a t b.aD->
 aN cg 328 [vp d 0,.agg #[O.v g,O.v r],.agg #[O.v t,vi b.aS],vi k] m (BZ e m d λf=>(∀j,j<6->(f j).length=k)/\(f 6).length<=10^12)
def WI(m:E)(n:Nat)(v:Value)(c:E):Prop:=∃(a:Nat)(d:Bool),v=.tuple #[vp a 0,vb d]/\J m c/\(d=true->∃e f L,(∀b,b<m.size->e b=0)/\js e c a f L/\∀j,j<6->(L j).length=n)
def pX.same{c:List bz}{n b:Nat}{L a:Nat->List Int}(h:pX c n b L)(e:∀k,k<7->a k=L k):pX c n b a:=
 ⟨λk d=>by rw[e k V];exact h.len k d,by rw[e 2 bh];exact h.Xc,by rw[e 3 bh,e 4 bh];exact h.O2,by rw[e 6 bh];exact h.cR⟩
section
variable{o:Nat->Nat}{m g:E}{j:Nat}{f:Nat->O}{L:Nat->List Int}{e:List bz}{h:List gN}{b:Nat}{d r a l:O}{x:cV}{c:Prop}
def Q7(hx:J g m)(aE:js o m j f L)(hi:sk e b L)(P:eK g d r e h)(ha:ap g a x.args)(hk:nD g l x.bC)(hw:WS e h.length c b x)(t:b+4*x.w<=10^12){ab:Nat}{p:Bk}(aa:x.bC[ab]? =some p)(ih:Rg e h c p):
 aN cg 309 [vp j 0,.agg #[O.v d,O.v r],oW x a l,vi ab] m (WI m b):=by
 apply yP (j,0)
 simp -zeta only[aC,aB,bT]
 intro I D
 let⟨x2,hl⟩:=dD (a:=I) (c:=D) rfl rfl
 clear_value D
 clear_value I
 have h2:=aE.ext x2
 have ao:=hi.len
 have l0:=h2.len (k:=0) bh
 have n0:=ao 0 bh
 have aY:=av aa
 have aZ:=hk.len
 have aX:=wJ aa
 have a2:=cV.mr x
 have Y:=hw.bC ab p aa
 have w:=hx.trans x2
 let⟨ae,ht,f0,f1⟩:=hk.aF aa
 refine⟨_,h2.bZ (k:=0) bh,?_⟩
 refine(MN h2 (λu hj=>by
  by_cases A:u<6
  .rw[ao u A];omega
  .have:u=6:=V;subst this;exact hi.cR)).mono λv m3⟨C,z,H,K,aR,s,q,h3,y⟩=>⟨H.U9 hl (J.az _)|>λ_=>λp t=>H.same p (hl p t),(C,0),z,?_⟩
 have R:sk e b s:=hi.same y
 have ai:Hp D [I.size,m.size] K m3:=⟨H,q,λp t=>⟨H.lt (hl p t),q p (hl p t)⟩⟩
 have iH:∀(M:E)(ac:Nat->Nat)(ah:Nat->O)(X:Nat->List Int)(F:Nat),Hp D [I.size,m.size] ac M->js ac M C ah X->sk e F X->WB e h.length c F p->F<=b+3->b<=F->
  aN cg 328 [vp C 0,.agg #[O.v d,O.v r],.agg #[O.v ae,vi p.aS],vi ((f 0).len:Int)] M λv m'=>eF [I.size,m.size] M m'/\∃S:Bool,v=vb S/\WI m b (.tuple #[vp C 0,vb S]) m':=λM ac ah X F U aA an aF a1 aH=>by
  have e0:(f 0).len=b:=V
  rw[e0]
  refine(ih ac M D C ah X F b d r ae U.ext U.gF aA an aF V aH (P.le w.le) (ht.le w.le)).mono λv m'⟨S,G,z,c5,N⟩=>⟨U.dv c5,S,z,C,S,rfl,x2.trans (U.to c5).ext,λaJ=>?_⟩
  obtain⟨T,W,A,h7,_⟩:=N aJ
  exact⟨G,T,W,λp t=>(U.to c5).gF p (x2.lt t),A,h7⟩
 refine⟨λB=>?_,λB=>?_⟩
 .simp only[aG]at B
  have ax:=P.bo.le w.le
  obtain⟨aW,_⟩:=hw.eZ.all B
  refine(il (PT K m3) (ax.le H.le) P.types x.bP).mono λv m4⟨s4,l4,z,aK,e4,x4⟩=>⟨λp t=>x4.same p (ai.box p t).1,s4,z,?_⟩
  subst e4
  let⟨q,aw⟩:=cG (cy e x.bP) ab
  have ay:=aK.le (bA _ _)
  have l4:=ay.len
  refine⟨V,V,q,ay.aF aw,?_⟩
  have ad:=ai.gX x4
  have h4:=h3.ext x4
  refine(dI (PT K m4) (ax.le (Su ad.gF ad.ext)) P.types q).mono λv m5⟨s5,l5,z,az,e5,x5⟩=>⟨λp t=>x5.same p (ad.box p t).1,s5,z,?_⟩
  subst e5
  have ak:=ad.gX x5
  have N:=h4.ext x5
  have aU:=hw.eZ.lJ (Or.inr (Or.inr B))
  let⟨y,hy⟩:=cG x.args 0
  let⟨y0,y1⟩:=hw.eZ.args y (aq hy)
  have aV:=ha.len
  have N5:=R.len
  have a3:=N.len (k:=3) bh
  have F:=N5 3 bh;have n4:=N5 4 bh
  have ag:∀{M:E},J D M->af M a.D (a.off+Int.toNat (0:Int)*1)=some (vi y):=λxx=>(ha.ext (w.trans xx)).aF hy
  let⟨w6,A,c6⟩:=N.put (k:=3) (i:=y.toNat) bh V q
  refine⟨_,N.bZ (k:=3) bh,V,V,y,ag ak.ext,y0,V,w6,?_⟩
  intro m6
  have al:=ak.to c6
  let⟨w7,h7,c7⟩:=A.put (k:=4) (i:=y.toNat) bh (by show _<(s 4).length;omega) ((f 0).len:Int)
  have aL:=A.len (k:=4) bh
  have aD:up s 3 ((s 3).set y.toNat q) 4=s 4:=rfl
  rw[aD]at aL
  refine⟨ak.dv c6,_,A.bZ (k:=4) bh,V,V,y,ag al.ext,y0,V,w7,?_⟩
  intro m7
  have aT:=al.to c7
  have F3:=Fy P.types q
  have e0:((f 0).len:Int)=b:=V
  have i7:pX e b (b+(cD e q).length) (up (up s 3 ((s 3).set y.toNat q)) 4 ((s 4).set y.toNat ((f 0).len:Int))):=by
   refine⟨λu hj=>?_,λv aO hp=>R.Xc v aO (by simpa[up]using hp),λv c ar hc hf h1=>?_,by simpa[up]using R.cR⟩
   .rcases u with _|_|_|_|_|_|u<;>first|omega|(simp[up,N5])
   .have Q:((s 3).set y.toNat q)[v]? =some c:=by simpa[up]using hc
    have Z:((s 4).set y.toNat ((f 0).len:Int))[v]? =some ar:=by simpa[up]using hf
    by_cases ev:y.toNat=v
    .subst ev;rw[dx V]at Q Z;simp at Q Z;subst Q;omega
    .rw[cr ev]at Q Z;have:=R.O2 v c ar Q Z h1;omega
  have a0:=az.len
  refine⟨al.dv c7,?_⟩
  refine dU (n:=(cD e q).length) V (λu M=>∃G T W,pX e (b+u) (b+(cD e q).length) W/\To K m5 G M/\Hp D [I.size,m.size] G M/\js G M C T W) ⟨K,_,_,i7,c6.trans c7,aT,h7⟩ ?_
  rintro u M an μ hj ⟨aQ,aS,L8,Z,c8,C,au⟩ aM
  refine dit (λaI=>?_) λaI=>?_
  .let⟨am,hz⟩:=cG (cD e q) u
   refine⟨V,V,am,(az.le (c8.ZV h4.new)).aF hz,V,V,y,ag C.ext,?_⟩
   exact(AJ au (λaP Q=>by rw[Z.len aP Q];omega) am 0 y).mono λv M'⟨G,T,Q,h9⟩=>⟨C.dv Q,aM V _ ⟨G,T,_,by rw[<-dj];exact Z.Ow am 0 V,c8.trans Q,C.to Q,h9⟩⟩
  .have Q:u=(cD e q).length:=V
   subst Q
   rw[Ku B aw]at Y
   exact⟨V,V,ae,(w.trans C.ext).af f0,p.aS,(w.trans C.ext).af f1,iH M aQ aS L8 _ C au Z Y V V⟩
 .simp only[aj]at B
  rw[Kv B]at Y
  exact⟨V,V,ae,(w.trans H).af f0,p.aS,(w.trans H).af f1,iH m3 K aR s b ai h3 R Y V V⟩
end
end
section
def _root_.Go.Vc.VJ{n b:Nat}(g:b<=n)(o:n<=9223372036854775807){m:E}{e:(Int->E->Prop)->(Int->E->Nat)->Int->E->Prop}(Q:Nat->E->Prop)(f:Q b m)
 (h:∀(k:Nat)(a:E)(I:Int->E->Prop)(μ:Int->E->Nat),b<=k->k<=n->Q k a->
  (k<n->∀c,Q (k+1) c->I (cT ((k:Int)+1)) c/\μ (cT ((k:Int)+1)) c<μ k a)->e I μ k a):
 ∃(I:Int->E->Prop)(μ:Int->E->Nat),I b m/\∀i a,I i a->e I μ i a:=by
 refine⟨λi c=>∃k:Nat,i=k/\b<=k/\k<=n/\Q k c,λi _=>(n -i).toNat,⟨b,rfl,ad _,g,f⟩,?_⟩
 rintro i a ⟨k,rfl,j,l,p⟩
 refine h k a _ _ j l p λd c q=>?_
 rw[kA d o]
 exact⟨⟨k+1,rfl,V,d,q⟩,Dr d⟩
section
variable{b:Nat->Nat}{m f:E}{e:Nat}{o:Nat->O}{L:Nat->List Int}{g:List bz}{l:List gN}{h:Nat}{d r i j:O}{x:cV}{c:Prop}
def ML(hx:J f m)(gF:∀p,p<f.size->b p=0)(t:js b m e o L)(hi:sk g h L)(hN:eK f d r g l)(ha:ap f i x.args)(hk:nD f j x.bC)(P:WS g l.length c h x)(q:h+4*x.w<=10^12)(au:x.op=7\/x.op=8)(ih:∀p∈x.bC,Rg g l c p):
 aN cg 269 [vp e 0,.agg #[O.v d,O.v r],oW x i j] m (BZ b m e (sk g h)):=by
 apply vd (e,0)
 simp -zeta only[aC,aB,bT]
 intro X I
 have st:=Hp.Th (a:=X) (g:=I) hx gF t.new rfl rfl
 let⟨Q,D⟩:=dD (a:=X) (c:=I) rfl rfl
 clear_value I
 clear_value X
 have al:=hk.len
 have aG:=ha.len
 have aE:=P.eZ.lJ V
 have am:0<x.bC.length:=by
  rcases au with U|h8
  .have:=P.eZ.Ka U;omega
  .exact(P.eZ.all h8).2
 have N:∀{M:E},J I M->To b m b M:=λz=>dp.eG _ (Q.trans z) t.new
 have ag:∀(M:E)(H:Nat)(p:Bk),J I M->x.bC[H]? =some p->aN cg 309 [vp e 0,.agg #[O.v d,O.v r],oW x i j,vi H] M (WI M h):=λM H p z ah=>
  Q7 (hx.trans (Q.trans z)) (t.ext (Q.trans z)) hi hN ha hk P q ah (ih p (aq ah))
 refine⟨λM=>J I M,⟨λ_=>?_,λ_=>J.az _⟩,?_⟩
 .let⟨y,u⟩:=cG x.args 0
  let⟨w,A⟩:=P.eZ.args y (aq u)
  refine⟨bh,V,y,(ha.ext st.ext).aF u,?_⟩
  exact(sH (t.ext Q) hi V w A).mono λZ Y⟨p,s,v⟩=>⟨λp q=>v.same p (D p q),p,s,λ_=>.no (N v),λ_=>v⟩
 .intro Y v
  let⟨b0,ak⟩:=dB am
  refine(ag Y 0 b0 v ak).mono λZ m4⟨ac,ay,s,R,h1⟩=>⟨λp q=>R.same p (v.lt (D p q)),(ac,0),ay,s,λ_=>.no (N (v.trans R)),λab=>?_⟩
  let⟨az,ad,L1,ai,h1,n1⟩:=h1 (by simpa using ab)
  have av:=n1 1 bh;have aw:=n1 5 bh
  refine VJ (n:=x.bC.length) (b:=1) V (al▸hk.gS) (λ_ M=>J m4 M) (J.az _) ?_
  rintro H M aD μ aF aH S ax
  have y:=(v.trans R).trans S
  have A:=h1.ext S
  refine⟨λW=>?_,λW=>?_⟩
  .simp only[ar]at W
   let⟨p,q⟩:=cG x.bC H
   refine(ag M H p y q).mono λZ m6⟨aa,aj,s,u,C⟩=>⟨λp q=>u.same p (y.lt (D p q)),(aa,0),aj,s,λ_=>.no (N (y.trans u)),λab=>?_⟩
   let⟨aL,aM,L2,aK,C,n2⟩:=C (by simpa using ab)
   have ao:=n2 1 bh;have aI:=n2 5 bh
   have B:=A.ext u
   refine⟨_,B.bZ (k:=1) bh,_,C.bZ (k:=1) bh,?_⟩
   refine(qE (B.nH (k:=1) bh V) (C.nH (k:=1) bh V)).mono λZ m7⟨F,s,_,w⟩=>⟨λp q=>w.same p (u.lt (y.lt (D p q))),F,s,λ_=>.no (N (y.trans (u.trans w))),λ_=>?_⟩
   have T:=B.ext w
   have U:=C.ext w
   refine⟨_,T.bZ (k:=5) bh,_,U.bZ (k:=5) bh,?_⟩
   refine(qE (T.nH (k:=5) bh V) (U.nH (k:=5) bh V)).mono λZ m8⟨F,s,_,K⟩=>⟨λp q=>K.same p (w.lt (u.lt (y.lt (D p q)))),F,s,λ_=>.no (N (y.trans (u.trans (w.trans K)))),λ_=>?_⟩
   exact ax V _ (S.trans (u.trans (w.trans K)))
  .let w:Nat->Nat:=λp=>if p<Y.size then b p else az p
   have uu:=Q.trans v
   have z:=uu.trans (R.trans S)
   have z4:=R.size;have zM:=S.size;have T:=uu.size
   have K:∀p,p<Y.size->w p=b p:=λp q=>an q
   have H0:js w M e o L:=by
    refine⟨λp q=>?_,by rw[K _ (aO t.box.lt T)];exact t.gT,(t.ext z).box,λu F=>(t.pY u F).eA (λB=>z.same _ ((t.pY u F).D B).1) λB=>K _ (aO ((t.pY u F).D B).1 T)⟩;simp only[w];rw[ae V];exact A.new p q
   have aa:∀u,u<7->iF w M aA 1 (u+1) (ad u) ((L1 u).map Ce.i):=λu F=>(A.pY u F).eA (λ_=>rfl) λB=>by
    have C:=((A.pY u F).D B).2;simp only[w];rw[ae λW=>by rw[ai _ W]at C;omega]
   have c3:To b m w M:=⟨z.size,λp q=>K p (aO q T),H0.new,λp q _=>z.same p q⟩
   have aj:Hp f [X.size,m.size] w M:=⟨st.ext.trans y,λp q=>by rw[K p (aO (aO q hx.size) T)];exact gF p q,λp q=>⟨y.lt (D p q),by rw[K p (v.lt (D p q))];exact(st.box p q).2⟩⟩
   clear_value w
   refine⟨_,A.bZ (k:=1) bh,?_⟩
   let⟨w5,h5,c5⟩:=H0.Xe (k:=1) bh (aa 1 bh)
   refine⟨w5,?_⟩
   intro m9
   have ao:ac≠e:=λs=>by
    have h8:=A.gT;rw[s,ai _ (aO t.box.lt T)]at h8;omega
   have G:af m9 ac 5=some (O.v (ad 5)):=(aJ (bd _ _ _ _ ao) _).trans (A.bZ (k:=5) bh)
   have A5:iF w m9 aA 1 (5+1) (ad 5) ((L1 5).map Ce.i):=by
    refine(aa 5 bh).eA (λB=>bd _ _ _ _ λs=>?_) λ_=>rfl;have:=((aa 5 bh).D B).2;rw[s,H0.gT]at this;omega
   let⟨w6,h6,c6⟩:=h5.Xe (k:=5) bh A5
   exact⟨aj.dv c5,_,G,w6,(aj.to c5).dv c6,.O8 ((c3.trans c5).trans c6) h6 ((hi.aR av).tok aw)⟩
end
end
section
section
variable{b:Nat->Nat}{m g:E}{f:Nat}{l:Nat->O}{L:Nat->List Int}{e:List bz}{h:List gN}{n:Nat}{d r a j:O}{x:cV}{c:Prop}
def GF(hx:J g m)(gF:∀o,o<g.size->b o=0)(aa:js b m f l L)(w:sk e n L)(U:eK g d r e h)(D:ap g a x.args)(hk:nD g j x.bC)(F:WS e h.length c n x)(u:n+4*x.w<=10^12)(ih:∀o∈x.bC,Rg e h c o):
 aN cg 246 [vp f 0,.agg #[O.v d,O.v r],oW x a j] m (BZ b m f (sk e (n+dn x))):=by
 apply xr (f,0)
 simp -zeta only[aC,aB,bT]
 intro R X
 have S:=Hp.Th (a:=R) (g:=X) hx gF aa.new rfl rfl
 have x2:J m X:=(dD (a:=R) (c:=X) rfl rfl).1
 clear_value X
 clear_value R
 have h2:=aa.ext x2
 have ao:=D.len
 have ar:=cV.mr x
 have N0:=w.len 0 bh
 refine⟨_,h2.bZ (k:=0) bh,?_⟩
 refine(nU (U.le S.ext.le) (h2.nH (k:=0) bh V) (D.ext S.ext) (hk.le S.ext.le) V (λo _=>nk o)).mono λA m3⟨G,t,_,x3⟩=>⟨λo u=>x3.same o (S.box o u).1,G,t,?_⟩
 have s:=S.gX x3
 have C:=h2.ext x3
 have P:To b m b m3:=dp.eG _ (x2.trans x3) aa.new
 have lJ:14<=x.op\/x.op=7\/x.op=8->∃y:Int,x.args[0]? =some y/\0<=y/\y<(n:Int):=λho=>by
  have:=F.eZ.lJ ho;let⟨y,K⟩:=cG x.args 0;exact⟨y,K,F.eZ.args y (aq K)⟩
 refine⟨λok M=>∃v,To b m v M/\Hp g [R.size,m.size] v M/\(ok=true->∃Z N,js v M f Z N/\sk e n N),⟨λai=>?_,λau=>⟨λaj=>?_,λav=>⟨λak=>?_,λaw=>⟨λh7=>?_,λn7=>?_⟩⟩⟩⟩,?_⟩
 .simp only[aG]at ai
  let⟨y,K,B,W⟩:=lJ V
  have ac:=F.eZ.lJ V
  have Y:∀{M:E},J g M->af M a.D (a.off+Int.toNat (0:Int)*1)=some (vi y):=λT=>(D.ext T).aF K
  refine⟨bh,V,y,Y s.ext,?_⟩
  refine(sH C w V B W).mono λA H⟨o,t,q⟩=>⟨λo u=>q.same o (s.box o u).1,o,t,?_⟩
  have p:=C.ext q
  have z:=s.gX q
  have N1:=w.len 1 bh
  have l1:=p.len (k:=1) bh
  let⟨ab,ad⟩:=cG (L 1) y.toNat
  let⟨wr,Q,I⟩:=p.put (k:=1) (i:=y.toNat) bh V (cT (ab+1))
  exact⟨_,p.bZ (k:=1) bh,bh,V,y,Y z.ext,_,p.bZ (k:=1) bh,bh,V,y,Y z.ext,B,V,ab,p.aF bh V ad,B,V,wr,z.dv I,b,(P.trans (dp.eG _ q C.new)).trans I,z.to I,λ_=>⟨l,_,Q,w.aR (by simp[N1])⟩⟩
 .simp only[aG]at aj
  let⟨y,K,B,W⟩:=lJ V
  have ac:=F.eZ.lJ V
  refine⟨bh,V,y,(D.ext s.ext).aF K,?_⟩
  refine(uG C w V B W).mono λA H⟨o,v,t,q,p⟩=>⟨s.dv q,o,t,v,P.trans q,s.to q,λu=>?_⟩
  obtain⟨Z,N,Q,ab,Y,rfl⟩:=p u
  exact⟨Z,_,Q,w.aR Y⟩
 .simp only[bQ,aG]at ak
  refine(P2 s.ext s.gF C w V U D F.eZ V).mono λA H⟨o,v,t,q,p⟩=>⟨s.dv q,o,t,v,P.trans q,s.to q,p⟩
 .simp only[bQ,aG]at h7
  refine(ML s.ext s.gF C w U D hk F u h7 ih).mono λA H⟨o,v,t,q,p⟩=>⟨s.dv q,o,t,v,P.trans q,s.to q,p⟩
 .refine(JM s.ext s.gF C w V U D F.eZ).mono λA H⟨o,v,t,q,p⟩=>⟨s.dv q,o,t,v,P.trans q,s.to q,p⟩
 .rintro ok M ⟨ax,q,z,p⟩
  refine⟨λ_=>.no q,λam=>?_⟩
  let⟨ay,L4,p,i4⟩:=p (by simpa using am)
  have gr:∀{M':E}(G Y:Int),J M M'->dn x=1->aN cg 266 [vp f 0,vi G,vi Y,vi (-1:Int)] M' λ_ m'=>eF [R.size,m.size] M' m'/\BZ b m f (sk e (n+dn x)) (vb true) m':=λG Y T hd=>
   (AJ (p.ext T) (λH B=>by rw[i4.len H B];omega) G Y (-1)).mono λ_ m'⟨v,Z,I,Q⟩=>⟨(z.gX T).dv I,.O8 ((q.trans (dp.eG _ T p.new)).trans I) Q (by rw[hd];exact(i4.Ow G Y V).DB V)⟩
  refine(jN x.op M).mono λA m5⟨o,t,ab,B⟩=>⟨λo u=>B.same o (z.box o u).1,o,t,λag=>⟨λ_=>gr G 1 B (by have:=sZ x o ab;rw[an ag]at this;exact this),λ_=>?_⟩,λal=>?_⟩
  .refine(jN x.op m5).mono λA m6⟨N,t,W,H⟩=>⟨λo u=>H.same o (B.lt (z.box o u).1),N,t,λad=>gr 0 0 (B.trans H) (by have:=sZ x N W;rw[an ad]at this;exact this),λac=>?_⟩
   have:=W.2 (ab.1 ag);rw[this]at ac;simp at ac
  .have ah:=sZ x o ab
   rw[ae (by simp[al])]at ah
   exact(jN x.op m5).mono λA m6⟨N,t,W,H⟩=>⟨λo u=>H.same o (B.lt (z.box o u).1),N,t,λad=>gr 0 0 (B.trans H) (by have:=sZ x N W;rw[an ad]at this;exact this),λac=>.O8 (q.trans (dp.eG _ (B.trans H) p.new)) (p.ext (B.trans H)) (by rw[ah];exact i4)⟩
end
def MR{B:List bz}{rs:List gN}{H:Prop}:∀b:Bk,Rg B rs H b:=by
 refine Bk.ind ?_;intro aD ac ih r p mb E sl L aa D af am ap Y gF t Q W o hk O x;simp only[Bk.jS,Bk.ju,Bk.qG]at*;apply wj (E,0);simp -zeta only[aC,aB,bT];intro q m;have st:=Hp.Th (a:=q) (g:=m) Y gF t.new rfl rfl;have F:J p m:=(dD (a:=q) (c:=m) rfl rfl).1;have I:To r p r m:=dp.eG _ F t.new;clear_value m;clear_value q;let⟨C,y,r1⟩:=W.aT;simp only[Bk.jS,Bk.ju]at C y r1;have U:=x.len;have T:=Bw aD;refine dU (n:=aD.length) (U▸x.gS) (λi M=>∃g s h,sk B (aa+dc (aD.take i)) h/\To r p g M/\Hp mb [q.size,p.size] g M/\js g M E s h) ⟨r,sl,L,by simpa using Q,I,st,t.ext F⟩ ?_;rintro i M ad μ ah ⟨an,ao,G,f,j,c,d⟩ ab
 have ag:=sX (aD.take i);have ai:=qI i aD;have aj:=fY (aD.take i);refine dit (λS=>?_) λS=>?_
 .let⟨w,l⟩:=cG aD i;let⟨ae,kk,P,R,z,g1,g2,K,N⟩:=x.aF l;have al:=pR l;have ak:=T (i+1);have X:=c.ext;refine⟨V,V,_,X.af z,_,X.af g1,_,X.af g2,_,X.af K,_,X.af N,?_⟩;refine(GF X c.gF d f O P R (C i w l) V (ih w (aq l))).mono λA m4⟨b,g,e,a,u⟩=>⟨c.dv a,b,e,λ_=>.no (j.trans a),λo=>?_⟩;let⟨s,h,v,Z⟩:=u (by simpa using o);exact ab V _ ⟨g,s,h,by rw[(qL l),<-dj];exact Z,j.trans a,c.to a,v⟩
 .have K:i=aD.length:=V;rw[K,fu]at f;have ae:=sX aD;have ak:=fY aD;have Z:=f.len 0 bh;have l0:=d.len (k:=0) bh;let⟨X,P⟩:=cG (G 0) ac.toNat;refine⟨_,d.bZ (k:=0) bh,y,V,X,d.aF bh V P,λ_=>?_,λ_=>?_⟩
  .refine(uG d f V y V).mono λA m4⟨b,g,e,a,u⟩=>⟨c.dv a,b,e,λ_=>.no (j.trans a),λo=>?_⟩;obtain⟨s,h,v,al,N,rfl⟩:=u (by simpa using o);refine(LA v (f.aR N) V (b:=D) V).mono λA R⟨b,z,e,l,w⟩=>⟨(c.to a).dv l,b,e,b,z,rfl,(j.trans a).trans l,w⟩
  .refine(LA d f V (b:=D) V).mono λA R⟨b,z,e,l,w⟩=>⟨c.dv l,b,e,b,z,rfl,j.trans l,w⟩
def XG(m:E)(f:List bz)(q:gN)(j:Int)(v:Value)(c:E):Prop:=∃(a:Nat)(d:Bool),v=.tuple #[vp a 0,vb d]/\J m c/\(d=true->0<=j/\j<=q.body.aD.length/\∃e g L,(∀b,b<m.size->e b=0)/\js e c a g L/\sk f (q.params.length+dc (q.body.aD.take j.toNat)) L)
def EB{m:E}{I T:O}{f:List bz}{z:List gN}{ab:Prop}{W:Nat}(h:eK m I T f z)(P:yi f z ab W)(hW:W<=200000000000){K:Nat}{a:gN}(w:z[K]? =some a){j:Int}(hj: -9000000000000000000<=j/\j<=9000000000000000000):
 aN cg 226 [.agg #[O.v I,O.v T],vi K,vi j] m (XG m f a j):=by
 apply xk
 simp -zeta only[aC,aB]
 intro k
 have D:J m k:=J.push _ _
 have g:∀b∈[m.size],b<k.size:=by simp[k]
 clear_value k
 have aH:=h.iT.len;have aG:=h.oA
 have aE:=av w
 let⟨ah,af,ak,hw⟩:=P.dz a (aq w)
 let⟨aM,aO,b,c1,c2,H,e0,e1,e2,v,e4⟩:=h.iT.aF w
 have x:∀{M:E}{an:Obj},J m M->XG m f a j (.tuple #[vp M.size 0,vb false]) (M.push an):=λxx=>⟨_,false,rfl,xx.aK _,aL⟩
 refine(ET (h.le D.le) (λd c=>oh (P.dz d c))).aH (J.az k) g λv1 m2 F _=>⟨_,rfl,λ_=>x (D.trans F),λ_=>?_⟩
 have Y:=D.trans F
 refine(aY _ _ _ _).aH F g λv2 m3 _ Z v3=>⟨_,rfl,λ_=>x (Y.trans Z),λ_=>?_⟩
 have B:=Y.trans Z
 have az:=H.len
 refine⟨V,V,_,B.af v,?_⟩
 refine(aY _ _ _ _).aH v3 g λv4 R ac x4 C=>⟨_,rfl,λ_=>x (B.trans x4),λaj=>?_⟩
 have c:=B.trans x4
 have hr:=ac.1 (by simpa using aj)
 refine⟨V,V,_,c.af e0,_,c.af e1,_,c.af e2,_,c.af v,_,c.af e4,?_⟩
 refine(Ix (q:=a) (c1.ext c) (c2.ext c) ah af f).mono λau S⟨t,u,G,y,sl,aa,gF,L,i5⟩=>⟨λb d=>G.same b (C.lt (g b d)),(t,0),u,?_⟩
 obtain⟨al,_,_⟩:=ak.aT
 have aA:=Bk.mr a.body
 have ai:=Bw a.body.aD
 have ar:Hp R [m.size] y S:=⟨G,gF,λb d=>⟨G.lt (C.lt (g b d)),gF b (C.lt (g b d))⟩⟩
 have e6:j=((j.toNat:Nat):Int):=V
 obtain⟨s,ad⟩:∃s:Nat,j=s:=⟨j.toNat,e6⟩
 subst ad
 simp only[tR]
 refine dU (n:=s) V (λi M=>∃l A o,sk f (a.params.length+dc (a.body.aD.take i)) o/\To y S l M/\Hp R [m.size] l M/\js l M t A o) ⟨y,sl,aa,by simpa using i5,L.to,ar,L⟩ ?_
 rintro i M ax μ aF ⟨ao,ap,L6,Q,c6,e,N⟩ am
 have U:J m M:=c.trans e.ext
 refine dit (λag=>?_) λag=>?_
 .let⟨aw,r⟩:=cG a.body.aD i
  let⟨ay,kk,ha,ae,g0,g1,g2,g3,g4⟩:=(H.le c.le).aF r
  have X:=e.ext
  have aK:=pR r
  have aJ:=ai (i+1)
  have aD:=sX (a.body.aD.take i)
  have aI:=fY (a.body.aD.take i)
  refine⟨V,V,_,U.af v,V,V,_,X.af g0,_,X.af g1,_,X.af g2,_,X.af g3,_,X.af g4,?_⟩
  refine(GF X e.gF N Q (h.le c.le) ha ae (al i aw r) V (λb _=>MR b)).mono λau m7⟨b,l,u,p,h7⟩=>⟨e.dv p,b,u,λ_=>⟨t,false,rfl,c.trans (e.to p).ext,aL⟩,λd=>?_⟩
  let⟨A,o,h8,i8⟩:=h7 (by simpa using d)
  exact am V _ ⟨l,A,o,by rw[qL r,<-dj];exact i8,c6.trans p,e.to p,h8⟩
 .have l:i=s:=V
  subst l
  exact⟨t,true,rfl,U,λ_=>⟨V,V,ao,ap,L6,λb d=>e.gF b (c.lt d),N,by simpa using Q⟩⟩
end
section
variable{f d:Int}{c P:Nat}{m:E}
def RQ(a:0<=f)(b:0<d):0<=f.tmod d/\f.tmod d<d:=⟨Int.tmod_nonneg _ a,Int.tmod_lt_of_pos _ b⟩
def NO(a:0<=f)(b:0<d):0<=f.tdiv d/\f.tdiv d<=f:=by
 rw[pU a];exact⟨Int.ediv_nonneg a V,Int.ediv_le_self _ a⟩
def Vh{b:Int}(e:0<=f/\f<4611686018427387904)(g:0<=b/\b<4611686018427387904):0<=Vg f b:=by
 unfold Vg;have a:(f%18446744073709551616).toNat<2^62:=V;have c:(b%18446744073709551616).toNat<2^62:=V;have d:=Nat.xor_lt_two_pow a c;rw[aQ V V];omega
def Rd(c:Nat)(a:O)(P:Nat)(m:E):Prop:=(∃p:Int,cE m c pT [.s a,.i p]/\0<=p/\p<=P)/\a.len<=a.cap/\∀k:Nat,k<a.len->∃v:Int,0<=v/\v<=255/\af (bG [c] m) a.D (a.off+k*1)=some (.int .u8 v)
def Rd.mono{Q:Nat}{a:O}(h:Rd c a P m)(g:P<=Q):Rd c a Q m:=let⟨⟨p,b,d,f⟩,e⟩:=h;⟨⟨p,b,d,V⟩,e⟩
def Rd.lt{c P:Nat}{a:O}{m:E}(h:Rd c a P m):c<m.size:=let⟨⟨_,b,_⟩,_⟩:=h;b.lt
def Rd.MD{f:Nat}{b:O}{e M a:E}(d:Rd c b f e)(h:Rd c b P M)(l:Fz [c] e a)(k:a[c]? =M[c]?):Rd c b P a:=by
 obtain⟨⟨p,g,i,j⟩,_⟩:=h;exact⟨⟨p,g.congr k,i,j⟩,d.2.1,λo m=>let⟨v,q,r,n⟩:=d.2.2 o m;⟨v,q,r,l.df (λ_ h=>h) _ _ _ n⟩⟩
def Rd.ext{a:O}{d:E}(h:Rd c a P m)(b:J m d):Rd c a P d:=h.MD h (b.fz _) (b.same _ h.lt)
def Rd.ah{c g P:Nat}{a:O}{d M:E}(f:Rd c a g d)(h:Rd c a P M)(j:Fz [c] d M){b:Nat}(i:d.size<=b)(o:Nat)(l:List Ce):Rd c a P (ah M b o l):=
 f.MD h (j.ah (Or.inr i) o l) (bd _ _ _ _ λe=>oh f.lt)
def XR(c:Nat)(b:O)(P:Nat)(m:E)(d:Int)(v:Value)(a:E):Prop:=∃k:Int,v=vi k/\0<=k/\(k<d\/k=0)/\Rd c b (P+1) a/\Fz [c] m a
def cp{e:O}(s:Rd c e P m)(hP:P<=10^16)(d:Int):aN cg 44 [vp c 0,vi d] m (XR c e P m d):=by
 let⟨⟨p,t,q,p1⟩,X,E⟩:=s;apply xy (c,0);simp -zeta only[bT];have g1:af m c 1=some (vi p):=t.bZ 1;refine⟨p,g1,t.fJ aL,?_⟩;intro g;have U:cT (p+1)=p+1:=aQ V V;have T:cT (p+1 -1)=p:=by rw[show p+1 -1=p by omega];exact aQ V V
 have w:cE g c pT [.s e,.i (p+1)]:=by rw[<-U];exact cE.ah (m:=m) (r:=[.i (cT (p+1))]) (o:=1) t
 have A:Fz [c] m g:=(Fz.az [c] m).ah (Or.inl aL) _ _;have F:Le (bG [c] m) (bG [c] g):=A.df λ_ s=>s;clear_value g;have R:∀k:Int,0<=k->(k<d\/k=0)->XR c e P m d (vi k) g:=λk C D=>⟨k,rfl,C,D,⟨⟨p+1,w,V,V⟩,X,λj f=>let⟨v,i,l,h⟩:=E j f;⟨v,i,l,F _ _ _ h⟩⟩,A⟩;have f:af g c 0=some (O.v e):=w.bZ 0;have g1:af g c 1=some (vi (p+1)):=w.bZ 1;have B:∀j:Int,0<=j->j<(e.len:Int)->∃v:Int,0<=v/\v<=255/\af g e.D (e.off+j.toNat*1)=some (.int .u8 v):=λj C D=>by
  let⟨v,i,l,h⟩:=E j.toNat V;exact⟨v,i,l,(eP.1 (F _ _ _ h)).2⟩
 refine⟨λ_=>R 0 (dg _) (Or.inr rfl),λZ=>⟨_,f,λ_=>R 0 (dg _) (Or.inr rfl),λY=>?_⟩⟩;simp only[bL]at Z;simp only[aj]at Y;have G:0<d:=V;refine⟨_,g1,_,f,?_⟩;rw[T];refine⟨λz=>?_,λ_=>?_⟩
 .simp only[ar]at z;let⟨v,i,l,h⟩:=B p q z;refine⟨_,f,q,z,v,h,V,?_⟩;rw[aQ V V];have:=RQ i G;exact R _ this.1 (Or.inl this.2)
 .have y:(0:Int)<(e.len:Int):=V;let⟨I,J⟩:=RQ q y;let⟨v,i,l,h⟩:=B _ I J;have S:cT (cT (p*7)+3)=p*7+3:=by rw[aQ (b:=p*7) V V,aQ V V]
  let⟨K,L⟩:=RQ (f:=p*7+3) V y;let⟨u,u0,u1,hu⟩:=B _ K L;let⟨d0,d1⟩:=NO q y;rw[S];refine⟨_,f,_,f,V,I,J,v,h,_,f,_,f,V,K,L,u,hu,_,f,V,bh,V,?_⟩;have M:cT (cT v*131)=v*131:=by rw[aQ (b:=v) V V,aQ V V]
  have N:cT (cT u*1117)=u*1117:=by rw[aQ (b:=u) V V,aQ V V]
  have E3:cT (p*29)=p*29:=aQ V V;have Q:cT (cT (p.tdiv e.len)*53)=p.tdiv e.len*53:=by rw[aQ (b:=p.tdiv e.len) V V,aQ V V]
  rw[M,N,E3,Q,aQ (b:=v*131+u*1117) V V,aQ (b:=v*131+u*1117+p*29) V V,aQ (b:=v*131+u*1117+p*29+p.tdiv e.len*53) V V];have H:0<=v*131+u*1117+p*29+p.tdiv e.len*53:=V;let⟨q0,q1⟩:=NO (d:=64) H bh;rw[aQ (b:=Int.tdiv _ 64) V V];have W:=Vh (f:=v*131+u*1117+p*29+p.tdiv e.len*53) (b:=(v*131+u*1117+p*29+p.tdiv e.len*53).tdiv 64) ⟨H,V⟩ ⟨q0,V⟩;let⟨z0,z1⟩:=RQ W G;exact R _ z0 (Or.inl z1)
def kv{a:O}(h:Rd c a P m)(j:P<=10^16){s:O}{l:List Int}(d:ap (bG [c] m) s l)(o:0<l.length):
 aN cg 43 [vp c 0,O.v s] m λv f=>∃k:Int,v=vi k/\k∈l/\Rd c a (P+1) f/\Fz [c] m f:=by
 apply yS (c,0)
 have p:=d.len
 refine(cp h j (s.len:Int)).mono λv r⟨k,g,n,q,i,b⟩=>⟨k,g,n,V,?_⟩
 let⟨x,e⟩:=cG l k.toNat
 exact⟨x,(eP.1 ((b.df (λ_ h=>h)) _ _ _ (d.aF e))).2,x,rfl,aq e,i,b⟩
end
section
variable{d:List Nat}{c:E}
def _root_.Go.Vc.Gr.set{α:Type}{d X:List Nat}{t c:E}{z f:Nat}{R:E->List Ce->α->Prop}{s:O}{y:List α}(w:om f R)(h:Gr d t c z f R s y)(hf:Fz X t c){k:Nat}(I:k<y.length){cs:List Ce}{a:α}(F:R (bG (s.D::d) c) cs a):
 fJ c s.D (s.off+k*f) f/\Gr d t (ah c s.D (s.off+k*f) cs) z f R s (y.set k a)/\Fz X t (ah c s.D (s.off+k*f) cs)/\(∀g,g≠s.D->(ah c s.D (s.off+k*f) cs)[g]? =c[g]?):=by
 have hy:=h.bn
 let⟨C,e,D,j⟩:=h
 have ab:∀g,g≠s.D->(ah c s.D (s.off+k*f) cs)[g]? =c[g]? :=λg Z=>bd _ _ _ _ Z
 let⟨g,i,tail,u,Q,A,S,T⟩:=D.aF.resolve_left C
 have H:=w.len F
 let⟨l,x⟩:=cG e k (by rw[j.len];exact I)
 have af:=j.size l (aq x)
 have M:s.off+k*f=k*f:=by rw[u];simp
 have G:s.D=g:=by rw[u];rfl
 have J:=av x
 have N:e=e.take k++l::e.drop (k+1):=by
  have v:=List.getElem?_eq_some_iff.1 x;let⟨W,Y⟩:=v;rw[<-Y,<-pZ W,dm]
 have ad:(e.take k).flatten.length=k*f:=by rw[cv λi n=>j.size i (dA n),gH,jb V]
 have ac:e.set k cs=e.take k++cs::e.drop (k+1):=by
  rw[O9,an J]
 have aa:iZ (e.flatten++tail) (k*f) cs=(e.set k cs).flatten++tail:=by
  have U:e.flatten++tail=(e.take k).flatten++(l++((e.drop (k+1)).flatten++tail)):=by
   conv=>lhs;rw[N]
   simp
  rw[U,<-ad,BU _ _ _ bE,ac];rw[show cs.length=l.length by omega,List.drop_left];simp
 have L:(e.set k cs).flatten.length=e.flatten.length:=by
  rw[cv (b:=f) λi n=>?_,cv j.size,dZ];rcases cB n with h|h
  .exact j.size i h
  .rw[h];exact H
 have K:Le (bG (s.D::d) c) (bG (s.D::d) (ah c s.D (s.off+k*f) cs)):=cA aL λ_ h=>h
 refine⟨?_,⟨C,e.set k cs,⟨by rw[L];exact D.len,Or.inr ⟨g,i,tail,u,Q,?_,?_,T⟩⟩,⟨by simp[j.len],λi n=>?_,λP i ae p q=>?_⟩⟩,hf.ah (Or.inr hy.1) _ _,ab⟩
 .rw[M,G]
  refine A.fJ ?_
  have:(e.take k).flatten.length+l.length<=e.flatten.length:=by
   conv=>rhs;rw[N]
   simp
  simp only[be];omega
 .have v:=cE.ah (m:=c) (b:=g) (r:=cs) (o:=k*f) A
  rw[M,G,<-aa];exact v
 .rw[<-S,be,be,L]
 .rcases cB n with h|h
  .exact j.size i h
  .rw[h];exact H
 .by_cases B:k=P
  .subst B
   rw[dx J]at p
   rw[dx I]at q
   simp at p q;subst p q
   exact w.le K F
  .rw[cr B]at p q
   exact w.le K (j.dz P i ae p q)
def Bc(hS:∀a∈d,a<c.size){g C L:O}{S:Int}{aD:List cV}{q:cV}{f:Nat}(s:eO (bG d c) g aD)(ha:ap (bG d c) C q.args)(hk:nD (bG d c) L q.bC)(hj:f<=aD.length)(hb:aD.length<=900000000000):
 aN cg 228 [.agg #[O.v g,vi S],vi f,oW q C L] c λah N=>∃W,ah=.agg #[O.v W,vi S]/\eO (bG d N) W (aD.take f++[q]++aD.drop f)/\J c N:=by
 apply EI
 simp -zeta only[aC,aB]
 intro P h e k
 let⟨r,m,s1,s2,s3⟩:=p7 (a:=P) (b:=h) (c:=e) rfl rfl rfl
 have z:J e k:=J.push _ _
 have s4:k.size=e.size+1:=by simp[k]
 have g0:GS (h.size::d) e k (.mk e.size 0 0 0) []:=GS.new _ _
 clear_value k
 clear_value e
 have u4:=r.trans z
 have K:=s.len
 have ak:=s.cap
 have I:∀a∈[h.size,P.size,c.size],a<k.size:=λa b=>z.lt (m a b)
 have H:∀{M:E}{D:Nat},J c M->c.size<=D->Le (bG d c) (bG (D::h.size::d) M):=λxx aj=>xx.bG λa b=>by
  simp only[aV]at b;rcases b with l|l|l
  .exact Or.inr V
  .exact Or.inr V
  .exact Or.inl l
 have X:Int.toNat (0:Int)=0:=rfl
 have Y:Int.toNat (f:Int)=f:=V
 have Z:Int.toNat (g.len:Int)=g.len:=V
 rw[X,Y,Z]
 refine⟨V,V,V,?_⟩
 have ac:eO (bG (e.size::h.size::d) k) (g.cut 0 f 5) (aD.take f):=by simpa using(s.le (H (D:=e.size) u4 V)).KD (i:=0) (dL _) hj
 refine GS.all g0 (z.fz []) ac bE λT y g1 F z1 q1=>⟨λa b=>q1 a (I a b) (by have:=m a b;simp;omega),V,V,V,?_⟩
 intro Q
 have t:J y Q:=J.push _ _
 have y1:=g1.bn
 have n:J e y:=F.ext
 have A:∀o,af Q c.size o=af y c.size o:=λo=>aJ (t.same _ (oh (I c.size aL))) o
 refine⟨A 1,A 0,?_⟩
 refine GS.kH (x:=q) g1 F (ha.le (H (D:=T.D) (r.trans n) V)) (hk.le (H (D:=T.D) (r.trans n) V)) bE λU R g2 v z2 q2=>⟨J.oE (n.trans t) v.ext (λa b=>oh (m a b)),?_⟩
 have p:J e R:=v.ext
 have y2:=g2.bn
 have u:∀{M B:E},J e M->J e B->∀o,af B c.size o=af M c.size o:=λaa h' o=>aJ (by rw[h'.same _ (m _ aL),aa.same _ (m _ aL)]) o
 refine⟨u (n.trans t) p 1,u (n.trans t) p 0,?_⟩
 have ae:eO (bG (U.D::h.size::d) R) (g.cut f g.len 5) (aD.drop f):=by
  have:=(s.le (H (D:=U.D) (r.trans p) V)).KD (i:=f) (j:=g.len) V V;rwa[K,bX (ad _),<-K]at this
 refine GS.all g2 v ae bE λr3 m8 G w z3 q3=>⟨J.oE p w.ext m,u p w.ext 1,?_⟩
 intro m9
 have y3:=G.bn
 have ab:∀a∈h.size::d,a<e.size:=λa b=>by
  rcases List.mem_cons.1 b with l|l
  .omega
  .have:=hS a l;omega
 refine⟨r3,rfl,?_,(r.trans w.ext).ah V _ _⟩
 have hD:=G.done gD.mono ab bh bE
 have ag:Le (bG (h.size::d) m8) (bG d m9):=cA aL λa b=>ai _ b
 exact eO.le ag (by simpa[fC]using hD)
def EW(C:∀b∈d,b<c.size){u L p:O}{A:List bz}{w:List gN}{q:gN}{n:Nat}{l:Bk}(i:eK (bG d c) u L A w)(D:w[n]? =some q)(h3:q.params.length<=3/\q.cR.length<=3)(ag:eO (bG d c) p l.aD):
 uP 230 [.agg #[O.v u,O.v L],vi n,.agg #[O.v p,vi l.aS]] c d A λah=>ah=w.set n ⟨q.params,q.cR,q.aS,l⟩:=by
 apply xI
 simp -zeta only[aC,aB]
 intro F h g j
 let⟨r,o,s1,s2,s3⟩:=p7 (a:=F) (b:=h) (c:=g) rfl rfl rfl
 have y:J g j:=J.push _ _
 have s4:j.size=g.size+1:=by simp[j]
 have g0:GR (h.size::d) g j (.mk g.size 0 0 0) []:=Gr.new _ (ad _) _ _ _
 clear_value j
 clear_value g
 have u4:=r.trans y
 have an:=i.iT.len;have am:=i.oA
 have ak:=av D
 have ac:∀b∈[h.size,F.size,c.size],b<j.size:=λb e=>y.lt (o b e)
 have H:∀{M:E}{z:Nat},J c M->c.size<=z->Le (bG d c) (bG (z::h.size::d) M):=λxx aj=>xx.bG λb e=>by
  simp only[aV]at e;rcases e with f|f|f
  .exact Or.inr V
  .exact Or.inr V
  .exact Or.inl f
 refine Gr.all (g:=[.s .nil,.s .nil,.i 0,.s .nil,.i 0]) iQ.mono bh g0 (y.fz []) (i.iT.le (H (z:=g.size) u4 V)) bE λm v g1 B z1 q1=>⟨λb e=>q1 b (ac b e) (by have:=o b e;simp;omega),V,V,?_⟩
 simp only[eE]at g1
 have x:J g v:=B.ext
 have y1:=g1.bn
 let⟨ao,ap,t,R,T,c3,U,W,X,Y,Z⟩:=(i.iT.le (H (z:=m.D) (r.trans x) V)).aF D
 have gF:∀{P:Value}{t I:Nat},af (bG (m.D::h.size::d) v) t I=some P->af v t I=some P:=λaa=>(eP.1 aa).2
 refine⟨_,gF U,_,gF W,_,gF X,_,gF Y,_,gF Z,?_⟩
 have z5:=x.size
 refine(ye (b:=m.D::h.size::d) (λb e=>?_) (R.le (bA _ _)) (T.le (bA _ _)) V).mono λrv m6⟨K,N,f,h1,h2,s⟩=>?_
 .simp only[aV]at e
  rcases e with f|f|f
  .omega
  .omega
  .have:=C b f;omega
 subst f
 have g2:=g1.ext iQ.mono s
 have al:=g2.len bh
 let⟨wr,g3,f3,q3⟩:=Gr.set (k:=n) (cs:=[.s K,.s N,.i q.aS,.s p,.i l.aS]) (a:=⟨q.params,q.cR,q.aS,l⟩) iQ.mono g2 (B.then s) V ⟨K,N,p,rfl,h1,h2,ag.le (H (z:=m.D) ((r.trans x).trans s) V)⟩
 refine⟨λb e=>s.same b (oh (o b e)),_,_,_,_,_,rfl,V,V,wr,?_⟩
 intro m7
 refine⟨λb e=>q3 b (oh (o b e)),?_⟩
 intro G
 have ab:∀b∈h.size::d,b<g.size:=λb e=>by
  rcases List.mem_cons.1 e with f|f
  .omega
  .have:=C b f;omega
 have ae:Le (bG (h.size::d) m7) (bG d G):=cA aL λb e=>ai _ e
 have Q:J c G:=(r.trans f3.ext).ah V _ _
 exact⟨u,m,_,rfl,⟨i.bo.le (Q.df _),zn.le ae (g3.done iQ.mono ab bh bE),i.types,bE⟩,rfl,Q⟩
end
def Uh{c:List bz}{f b:Nat}{l:List cV}(h:WL c f True b l){j:Nat}{a v:Int}(e:14<=a/\a<=17)(m:0<=v/\v<((b+dc (l.take j):Nat):Int)):
 WL c f True b (l.take j++[eY a v]++l.drop j)/\dc (l.take j++[eY a v]++l.drop j)=dc l/\sw (l.take j++[eY a v]++l.drop j)=sw l+2:=by
 have d:dc [eY a v]=0:=jT e.1 [v]
 have g:sw [eY a v]=2:=ov a [v]
 have i:=cW (l.take j) (l.drop j)
 have k:=dC (l.take j) (l.drop j)
 rw[dm]at i k
 refine⟨((h.take j).yD (DK e m)).append ?_,?_,?_⟩
 .rw[cW,d];exact h.drop j
 .rw[cW,cW,d];omega
 .rw[dC,dC,g];omega
def SN(h:Nat)(e:List Value)(m:E)(S:List Nat)(b:Nat)(f:O)(P:Nat)(g:List bz)(Q:List gN->Prop):Prop:=
 aN cg h e m λv a=>∃d r c,v=.agg #[O.v d,O.v r]/\eK (bG S a) d r g c/\Q c/\Rd b f P a/\Fz [b] m a
def PZ{h:List Nat}{m:E}(hS:∀l∈h,l<m.size){d P:Nat}{Q:O}(ax:d∈h)(h0:Rd d Q P m)(hP:P+4<=10^16){y t:O}{B:List bz}{L:List gN}(hn:eK (bG h m) y t B L){aa:Nat}(R:yi B L True aa)(hW:aa<=200000000000):
 SN 210 [vp d 0,.agg #[O.v y,O.v t]] m h d Q (P+4) B λW=>yi B W True (aa+4):=by
 apply JN (d,0)
 simp -zeta only[aC,aB,bT]
 intro f ag
 let⟨x2,hl⟩:=dD (a:=f) (c:=ag) rfl rfl
 have s1:f.size=m.size+1:=by simp[f]
 have s2:ag.size=m.size+2:=by simp[ag,s1]
 clear_value ag
 have bZ:=hn.iT.len;have bY:=hn.oA
 have b0:=h0.lt
 have nb:∀a∈[f.size,m.size],a<ag.size/\a∉[d]:=λa c=>⟨hl a c,by have:=hl a c;simp at c⊢;omega⟩
 have yB:yi B L True (aa+4):=⟨R.iV,λq F=>let⟨g,a,l,e⟩:=R.dz q F;⟨g,a,l,V⟩⟩
 refine(cp (h0.ext x2) V (t.len:Int)).mono λo g⟨ab,e,f0,f1,h3,z3⟩=>⟨z3.dv nb,ab,e,?_⟩
 have u3:Fz [d] m g:=(x2.fz _).trans z3
 have bQ:ab<(L.length:Int):=by have:=R.iV;omega
 let⟨q,F⟩:=cG L ab.toNat
 let⟨aH,aG,bl,hw⟩:=R.dz q (aq F)
 have Hn:∀{M:E},Fz [d] m M->eK (bG h M) y t B L:=λp=>hn.le (p.df λa c=>by simp at c;subst c;exact ax)
 have HS:∀{M:E}(bb:Nat),m.size<=bb->Fz [d] m M->Le (bG h m) (bG (bb::f.size::h) M):=λbb bL gg=>gg.bG (λa c=>by simp at c;subst c;exact ax) λl s=>by
  simp only[aV]at s;rcases s with e|e|e
  .exact Or.inr V
  .exact Or.inr V
  .exact Or.inl e
 have ch:=z3.size
 let⟨ca,cc,a,c1,c2,c3,e0,e1,e2,e3,e4⟩:=(hn.le (HS g.size V u3)).iT.aF F
 have gF:∀{M:E}{h:List Nat}{o:Value}{a I:Nat},af (bG h M) a I=some o->af M a I=some o:=λD=>(eP.1 D).2
 refine⟨f0,V,a,gF e3,q.body.aS,gF e4,?_⟩
 intro m4 m5
 have x5:J g m5:=(J.push g _).ah (ad _) _ _
 have s5:m5.size=g.size+1:=by simp[m5,m4,aw]
 clear_value m5
 have bM:=c3.len
 have bW:=c3.gS
 have bN:=Bk.mr q.body
 have b1:=fY q.body.aD
 have av:∀a∈[g.size,f.size,m.size],a<m5.size/\a∉[d]:=λa c=>by simp at c⊢;omega
 rw[aQ V V]
 refine(cp (h3.ext x5) V _).mono λo m6⟨G,e,j0,j1,h6,z6⟩=>⟨z6.dv av,G,e,?_⟩
 have u6:Fz [d] m m6:=(u3.then x5).trans z6
 have bD:=z6.size
 have ba:=(Hn u6).le (bA _ _)
 obtain⟨fn,a3⟩:∃fn:Nat,ab=fn:=⟨ab.toNat,V⟩
 subst a3
 simp only[tR]at F
 have al:∀a∈[g.size,f.size,m.size],a<m6.size/\a∉[d]:=λa c=>⟨aO (av a c).1 bD,(av a c).2⟩
 have aN:∀{M:E},Rd d Q (P+4) M->Fz [d] m M->∃d' U W,Value.agg #[O.v y,O.v t]=.agg #[O.v d',O.v U]/\eK (bG h (ah M f.size 0 [.s y,.s t])) d' U B W/\yi B W True (aa+4)/\Rd d Q (P+4) (ah M f.size 0 [.s y,.s t])/\Fz [d] m (ah M f.size 0 [.s y,.s t]):=λhr p=>
  have g':=p.ah (b:=f.size) (Or.inr V) 0 [.s y,.s t]
  ⟨y,t,L,rfl,Hn g',yB,h0.ah hr p V _ _,g'⟩
 refine(EB ba R hW F V).mono λo C⟨lb,ok,e,A,hA⟩=>⟨A.dv λa c=>(al a c).1,(lb,0),ok,e,λ_=>?_,λbd=>?_⟩
 .intro m8
  exact aN ((h6.ext A).mono V) (u6.then A)
 obtain⟨_,jl,ro,sl,au,b6,h7,i7⟩:=hA (by simpa using bd)
 intro m8
 have x8:J C m8:=J.push _ _
 have g8:GI h C m8 (.mk C.size 0 0 0) []:=GI.nil h C
 clear_value m8
 have z7:=A.size
 have bO:=sX q.body.aD
 have a2:=Tm q.body.aD G.toNat
 have N0:=i7.len 0 bh
 have u7:Fz [d] m C:=u6.then A
 have aE:∀l∈h,l<C.size:=λl s=>aO (hS l s) u7.size
 refine ez (n:=(au 0).length) V (λan X M=>J C M/\∃H,GI h C M X H/\H.length<=an/\∀z∈H,0<=z/\z<(((au 0).length:Nat):Int)) ⟨x8,[],g8,ad _,aL⟩ ?_
 rintro an X m9 bI μ bU ⟨u,H,p,bX,ai⟩ aA
 have h9:=h7.ext u
 have l0:=h9.len (k:=0) bh
 have am:∀a∈[g.size,f.size,m.size],a<m9.size/\a∉[d]:=λa c=>⟨u.lt (A.lt (al a c).1),(al a c).2⟩
 refine⟨_,h9.bZ (k:=0) bh,λa9=>?_,λbR=>?_⟩
 .simp only[ar]at a9
  let⟨z,i⟩:=cG (au 0) an
  refine⟨_,h9.bZ (k:=0) bh,V,V,z,h9.aF bh V i,λ_=>?_,λ_=>aA V _ _ ⟨u,H,p,V,ai⟩⟩
  refine(sH h9 i7 V (v:=(an:Int)) V V).mono λo az⟨bb,e,w⟩=>⟨w.dv λa c=>(am a c).1,bb,e,λ_=>?_,λ_=>aA V _ _ ⟨u.trans w,H,p.ext w,V,ai⟩⟩
  intro T
  have gy:=p.bn
  refine GI.kH (p.ext w) ((u.trans w).fz []) aE V λU bn N K _ Y=>⟨J.oE ((u.trans w).aK _) K.ext (λa c=>A.lt (al a c).1),aA V _ _ ⟨K.ext,_,N,bE,λz i=>?_⟩⟩
  rcases List.mem_append.1 i with i|i
  .exact ai z i
  .simp at i;omega
 .have bS:=p.len bh
  have u9:Fz [d] m m9:=u7.then u
  have r9:Rd d Q (P+2) m9:=(h6.ext (A.trans u)).mono V
  refine⟨λ_=>?_,λbc=>?_⟩
  .intro az
   exact aN (r9.mono V) u9
  simp only[aj]at bc
  have gy:=p.bn
  have gb:X.D∉[d]:=by simp;have:=u7.size;omega
  refine(cp r9 V (X.len:Int)).mono λo az⟨ay,e,i0,i1,aX,vu⟩=>⟨vu.dv am,ay,e,i0,V,?_⟩
  let⟨w,aM⟩:=cG H ay.toNat
  let⟨w0,w1⟩:=ai w (aq aM)
  have a4:af m9 X.D (X.off+ay.toNat*1)=some (vi w):=((p.done aE V).le (bA _ _)).aF aM
  refine⟨w,(aJ (vu.same _ gy.2 gb) _).trans a4,?_⟩
  have br:=u9.trans vu
  have ci:=u.size;have bF:=vu.size
  have aF:∀a∈[g.size,f.size,m.size],a<az.size/\a∉[d]:=λa c=>⟨aO (am a c).1 bF,(am a c).2⟩
  have ew:cT (cT ((a.len:Int) -G)+1)=(a.len:Int) -G+1:=by rw[aQ (b:=(a.len:Int) -G) V V,aQ V V]
  rw[ew]
  refine(cp aX V _).mono λo T⟨i2,e,b2,b3,aY,ap⟩=>⟨ap.dv aF,i2,e,?_⟩
  have aP:=br.trans ap
  have bH:=ap.size
  have ak:∀a∈[g.size,f.size,m.size],a<T.size:=λa c=>aO (aF a c).1 bH
  have ac:∀{M:E},T.size<=M.size->∀l∈g.size::f.size::h,l<M.size:=λhz l s=>by
   simp only[aV]at s;have h1:=ak g.size aL;have h2:=ak f.size aL;rcases s with e|e|e
   .omega
   .omega
   .have:=hS l e;have:=aP.size;omega
  have bt:Fz [d] g T:=(((((x5.fz _).trans z6).then A).then u).trans vu).trans ap
  have a1:=c3.le (bt.df λl s=>by simp at s;subst s;simp[ax])
  obtain⟨i,a5⟩:∃i:Nat,G=i:=⟨G.toNat,V⟩
  obtain⟨kn,a8⟩:∃kn:Nat,i2=kn:=⟨i2.toNat,V⟩
  subst a5 a8
  have bk:i+kn<=q.body.aD.length:=V
  have aW:cT ((i:Int)+(kn:Int))=((i+kn:Nat):Int):=by rw[aQ V V];omega
  simp only[tR]at N0 a2
  let⟨bm,r0,r1⟩:=bl.aT
  have bP:dc (q.body.aD.take i)<=dc (q.body.aD.take (i+kn)):=by
   have:=Tm (q.body.aD.take (i+kn)) i;rwa[Mj,jb V]at this
  let⟨bw,bu,bB⟩:=Uh (j:=i+kn) (a:=15) (v:=w) bm bh ⟨w0,V⟩
  have bj:(q.body.aD.take (i+kn)++[eY 15 w]++q.body.aD.drop (i+kn)).take i=q.body.aD.take i:=by
   rw[fC,np bE,Mj,jb V]
  let⟨bx,bv,bC⟩:=Uh (j:=i) (a:=14) (v:=w) bw bh ⟨w0,by rw[bj];omega⟩
  generalize aK:q.body.aD.take (i+kn)++[eY 15 w]++q.body.aD.drop (i+kn)=st1 at*
  have bV:st1.length=q.body.aD.length+1:=by rw[<-aK];simp;omega
  have K:∀{M Z:E},J M Z->T.size<=M.size->∀a∈[g.size,f.size,m.size],∀I,af Z a I=af M a I:=λxx hz a c I=>aJ (xx.same a (aO (ak a c) hz)) I
  have kS:∀{M Z:E},J M Z->T.size<=M.size->eF [g.size,f.size,m.size] M Z:=λxx hz a c=>xx.same a (aO (ak a c) hz)
  rw[aW]
  refine(jf (c:=g.size::f.size::h) (ac (ad _)) 15 w).mono λo bn⟨bJ,b4,e,aZ,a6,N⟩=>⟨kS N (ad _),_,_,_,_,_,e,K N (ad _) _ aL _,K N (ad _) _ aL _,?_⟩
  have aU:=N.size
  refine(Bc (d:=g.size::f.size::h) (S:=q.body.aS) (q:=eY 15 w) (ac aU) (a1.le (N.df _)) aZ a6 bk V).mono λo bo⟨bq,e,aI,ao⟩=>⟨kS ao aU,_,_,e,?_⟩
  rw[aK]at aI
  intro ae
  have cd:=ao.size
  have ce:ae.size=bo.size:=aw _ _ _ _
  have aR:=(aP.then N).then ao
  have bs:Fz [d] m ae:=aR.ah (Or.inr V) _ _
  have bp:Rd d Q (P+2+1+1) ae:=h0.ah ((aY.ext N).ext ao) aR V _ _
  have bg:eO (bG (g.size::f.size::h) ae) bq st1:=aI.le (cA aL λ_ D=>D)
  clear_value ae
  refine(jf (c:=g.size::f.size::h) (ac V) 14 w).mono λo b7⟨bK,b5,e,a0,a7,z⟩=>⟨kS z V,_,_,_,_,_,e,K z V _ aL _,K z V _ aL _,K z V _ aL _,K z V _ aL _,?_⟩
  have cf:=z.size
  refine(Bc (d:=g.size::f.size::h) (S:=q.body.aS) (q:=eY 14 w) (ac V) (bg.le (z.df _)) a0 a7 (f:=i) V V).mono λo b8⟨cb,e,bi,Y⟩=>⟨kS Y V,_,_,e,K Y V _ aL _,K Y V _ aL _,?_⟩
  have cg:=Y.size
  have aS:=(bs.then z).then Y
  refine(EW (d:=g.size::f.size::h) (ac V) (l:=.mk (st1.take i++[eY 14 w]++st1.drop i) q.body.aS) (hn.le (HS g.size V aS)) F ⟨aH,aG⟩ bi).mono λo b9⟨d',U,W,e,a_,bf,aD⟩=>⟨kS aD V,d',U,e,?_⟩
  intro b_
  have aT:=aS.then aD
  refine⟨d',U,W,rfl,a_.le (cA aL λl s=>by simp[s]),?_,h0.ah (((bp.ext z).ext Y).ext aD) aT V _ _,aT.ah (Or.inr V) _ _⟩
  subst bf
  refine⟨by simp;exact R.iV,λq' be=>?_⟩
  rw[dZ]
  rcases cB be with D|D
  .exact yB.dz q' D
  .subst D
   refine⟨aH,aG,.of bx ⟨r0,by rw[bv,bu];exact r1⟩,?_⟩
   show Bk.w (.mk _ _)<=_
   rw[Bk.qG,bC,bB];omega
section
variable{f:E}{t:O}{d:Bk}{j e:Int}{g:List Nat}{l h c:Nat}
def pP(l:eO f t d.aD):sT 277 [.agg #[O.v t,vi d.aS]] f λc=>0<=c/\c<=d.aD.length/\∀(i:Nat)(e:cV),d.aD[i]? =some e->(i:Int)<c->14<=e.op/\e.op<=17:=by
 apply yN;simp -zeta only[aC,aB];intro a;have B:J f a:=J.push _ _;have w:∀q∈[f.size],q<a.size:=by simp[a]
 clear_value a;have x:=l.len;refine dU (n:=d.aD.length) (x▸l.gS) (λc M=>J a M/\∀(i:Nat)(e:cV),d.aD[i]? =some e->i<c->14<=e.op/\e.op<=17) ⟨J.az _,λi e _ b=>V⟩ ?_;rintro c M I μ L ⟨p,o⟩ z
 have u:=B.trans p;have R:∀{m:E},J f m->∃k:Int,vi (c:Int)=vi k/\(0<=k/\k<=d.aD.length/\∀(i:Nat)(e:cV),d.aD[i]? =some e->(i:Int)<k->14<=e.op/\e.op<=17)/\J f m:=λD=>⟨c,rfl,⟨V,V,λi e g b=>o i e g V⟩,D⟩;refine⟨λb=>?_,λb=>R u⟩;simp only[ar]at b;let⟨e,g⟩:=cG d.aD c;obtain⟨h,P,H,N,s,_⟩:=l.aF g;refine⟨V,V,_,u.af s,?_⟩;refine(tA e.op M).aH p w λG Q v C A=>⟨_,rfl,λy=>z V _ ⟨A,λi F j K=>?_⟩,λ_=>R (u.trans C)⟩;by_cases r:i=c
 .subst r;rw[g]at j;simp at j;subst j;exact v.1 y
 .exact o i F j V
def Dw(b:eO f t d.aD){w:Int}(K:0<=j/\j<=d.aD.length)(z:∀(r:Nat)(s:cV),d.aD[r]? =some s->(r:Int)<j->0<s.args.length):
 sT 278 [.agg #[O.v t,vi d.aS],vi j,vi w,vi e] f λc=>-1<=c/\(0<=c->c<j/\∃s:cV,d.aD[c.toNat]? =some s/\s.op=w/\s.args[0]? =some e):=by
 apply GQ
 simp -zeta only[aC,aB]
 intro i
 have B:J f i:=J.push _ _
 clear_value i
 have L:=b.len
 have H:=b.gS
 obtain⟨k,A⟩:∃k:Nat,j=k:=⟨j.toNat,V⟩
 subst A
 refine dU (n:=k) V (λc M=>J i M) (J.az _) ?_
 rintro c M I μ F l v
 have u:=B.trans l
 refine⟨λa=>?_,λa=>⟨-1,rfl,⟨V,λa=>V⟩,u⟩⟩
 simp only[ar]at a
 let⟨s,g⟩:=cG d.aD c
 let⟨h,N,m,G,x,g1,g2,y,D⟩:=b.aF g
 have E:=m.len
 have:=z c s g V
 let⟨C,q⟩:=cG s.args 0
 refine⟨V,V,_,u.af x,λo=>⟨V,V,_,u.af y,bh,V,C,(m.ext u).aF q,λp=>?_,λ_=>v V _ l⟩,λ_=>v V _ l⟩
 simp only[aG]at o p
 refine⟨c,rfl,⟨V,λ_=>⟨V,s,?_,o,by rw[<-p];exact q⟩⟩,u⟩
 simpa using g
def ON(g:eO f t d.aD){b:Int}(A:0<=b/\b<=d.aD.length):sT 311 [.agg #[O.v t,vi d.aS],vi b,vi j] f λc=>-1<=c/\c<d.aD.length:=by
 apply Ig;simp -zeta only[aC,aB];intro i;have v:J f i:=J.push _ _;clear_value i;have q:=g.len;obtain⟨e,p⟩:∃e:Nat,b=e:=⟨b.toNat,V⟩;subst p;refine VJ (n:=d.aD.length) (b:=e) V (q▸g.gS) (λc M=>J i M) (J.az _) ?_;rintro c M I μ _ y l s
 have u:=v.trans l;refine⟨λk=>?_,λk=>⟨-1,rfl,⟨V,V⟩,u⟩⟩;simp only[ar]at k;let⟨C,r⟩:=cG d.aD c;let⟨h,B,x,z,m,g1,g2,o,w⟩:=g.aF r;have N:=s V _ l
 exact⟨V,V,_,u.af m,λ_=>⟨V,V,_,u.af g2,λ_=>⟨V,V,_,u.af o,λ_=>⟨c,rfl,⟨V,V⟩,u⟩,λ_=>N⟩,λ_=>N⟩,λ_=>N⟩
def Ii(d:Bk)(Z:∀l∈g,l<f.size)(C:eO f t d.aD)(hw:d.w<=10^12):aN cg 289 [.agg #[O.v t,vi d.aS]] f λai E=>∃s,ai=.agg #[O.v s,vi d.aS]/\GS g f E s d.aD/\J f E:=by
 let⟨aD,q⟩:=d;rw[Bk.qG]at hw;simp only[Bk.jS,Bk.ju]at*;apply ru;simp -zeta only[aC,aB];intro j b h F p;let⟨K,A⟩:=dD (a:=j) (c:=b) rfl rfl;have s0:j.size=f.size+1:=by simp[j]
 have s1:b.size=f.size+2:=by simp[b,s0]
 have s2:h.size=b.size+1:=by simp[h]
 have s3:F.size=h.size+1:=by simp[F]
 have L:J h p:=(J.push h _).ah (ad _) _ _;have aj:J b p:=(J.push b _).trans L;have x:GS (h.size::j.size::g) b p (.mk b.size 0 0 0) []:=(GS.new _ b).ext gD.mono L;have N:cE p h.size di [.s (.mk b.size 0 0 0),.i q]:=cE.ah (m:=F) (o:=0) (r:=[.s (.mk b.size 0 0 0),.i q]) (cE.push h _ _);clear_value p;have aa:∀l∈j.size::g,l<b.size:=bO Z K.size (A _ aL);have ag:=C.len;have al:=fY aD;refine dU (n:=aD.length) (ag▸C.gS) (λc M=>J b M/\∃s,GS (h.size::j.size::g) b M s (aD.take c)/\cE M h.size di [.s s,.i q]) ⟨aj,_,x,N⟩ ?_;rintro c G ak μ hk ⟨w,s,v,B⟩ ah
 have k:=K.trans w;have af:∀d∈[j.size,f.size],d<G.size:=λd y=>w.lt (A d y);have hy:=v.bn;have z5:=w.size;have I:=B.lt;refine dit (λY=>?_) λY=>?_
 .let⟨e,D⟩:=cG aD c;let⟨pa,pk,ha,ae,x,g1,g2,W,X⟩:=C.aF D;have am:=OS D;refine⟨s,B.bZ 0,V,V,_,k.af x,_,k.af g1,_,k.af g2,_,k.af W,_,k.af X,?_⟩;refine(xY (e:=s.D::h.size::j.size::g) (bO (bO aa z5 I) (ad _) hy.2) (ha.ext k) (ae.le k.le) V (λd _=>vZ d)).aH (J.az G) af λP Q x' H ab ac R u _=>⟨_,_,_,_,_,rfl,aJ (u.same _ I) _,?_⟩;subst R;intro m7;refine Gr.box (g:=[.i 0,.i 0,.i 0,.s .nil,.s .nil]) (j:=0) (i:=[.s s,.i q]) (w:=e) gD.mono bh (v.ext gD.mono u) ((w.trans u).fz []) ⟨P,Q,rfl,ab,ac⟩ bE (B.ext u) aL bh ⟨V,aL⟩ (λl z=>by have M:=A l z;have T:=u.size;omega) λr' E U M T z' q'=>ah V _ ⟨T.ext,r',?_,M⟩
  rw[aU D];exact U
 .rw[bX V]at v;refine⟨s,B.bZ 0,q,B.bZ 1,?_⟩;intro H;have u:Fz [j.size] G H:=(Fz.az _ _).ah (Or.inl aL) _ _;have D:GS g b H s aD:=v.re gD.mono u aL bE λl z=>Or.inl (by simp[z]);exact⟨s,rfl,Gr.cx gD.mono D (λd y=>Or.inl y) V,k.ah V _ _⟩
def Ui{f:List bz}{d:Prop}{a:List cV}(j:WL f l d h a){e b:cV}(g:a[c]? =some e)(p:WS f l d (h+dc (a.take c)) b)(hd:dn b=dn e):
 WL f l d h (a.set c b)/\dc (a.set c b)=dc a/\sw (a.set c b)+e.w=sw a+b.w:=by
 have o:=av g
 have k:a.set c b=a.take c++([b]++a.drop (c+1)):=by rw[O9,an o];rfl
 have i:a=a.take c++([e]++a.drop (c+1)):=by
  let⟨m,n⟩:=List.getElem?_eq_some_iff.1 g;rw[<-n];show a=a.take c++(a[c]::a.drop (c+1));rw[<-pZ m,dm]
 have q:dc a=dc (a.take c)+(dn e+dc (a.drop (c+1))):=by
  conv=>lhs;rw[i]
  rw[cW,cW,kK,sY];omega
 have r:sw a=sw (a.take c)+(e.w+sw (a.drop (c+1))):=by
  conv=>lhs;rw[i]
  rw[dC,dC,mI,vj];omega
 rw[k]
 refine⟨(j.take c).append ((WL.lJ p).append ?_),?_,?_⟩
 .have:=j.drop (c+1)
  rw[qL g]at this
  rw[kK,sY,hd,jE,dj];exact this
 .rw[cW,cW,kK,sY];omega
 .rw[dC,dC,mI,vj];omega
def _root_.Go.Vc.Gr.cells{α:Type}{r:E}{m d:Nat}{R:E->List Ce->α->Prop}{s:O}{l:List α}(n:Gr g r f m d R s l){e:α}(i:l[c]? =some e):∃a,R (bG (s.D::g) f) a e/\fP f s.D (s.off+c*d) a:=by
 let⟨t,k,o,b⟩:=n;let⟨a,h⟩:=cG k c (by rw[b.len];exact av i);refine⟨a,b.dz c a e h i,λq j p=>?_⟩;have:=o.iA (c*d+q) j (fV b.size h p);rwa[<-dj]at this
def J3(hS:∀c∈g,c<f.size)(w:eO f t d.aD){Q:List bz}(ao:WB Q l True h d)(hw:d.w<=10^12)(hx:0<=e/\e<(h:Int))(a6:h<=10^12)(j:Int):
 aN cg 276 [.agg #[O.v t,vi d.aS],vi e,vi j] f λaa Z=>∃s o,aa=.agg #[O.v s,vi o.aS]/\eO Z s o.aD/\(eO (bG g f) t d.aD->eO (bG g Z) s o.aD)/\(WB Q l True h o/\o.w<=d.w)/\J f Z:=by
 apply CV
 simp -zeta only[aC,aB]
 intro m u
 let⟨C,q⟩:=dD (a:=m) (c:=u) rfl rfl
 have s1:m.size=f.size+1:=by simp[m]
 have s2:u.size=f.size+2:=by simp[u,s1]
 clear_value u
 let⟨X,aU⟩:=ao.aT
 have D:∀{ac M':E},J u ac->J u M'->∀I,af M' f.size I=af ac f.size I:=λp h' I=>aJ (by rw[h'.same _ (q _ aL),p.same _ (q _ aL)]) I
 refine(pP (w.le C.le)).aH (J.az u) q λn1 m3 U P _=>⟨_,rfl,D (J.az _) P _,D (J.az _) P _,?_⟩
 refine(Dw (w.le (C.trans P).le) (w:=16) (e:=e) ⟨U.1,U.2.1⟩ λaq s hi aO=>?_).aH P q λn2 m4 aP x4 L=>⟨_,rfl,?_⟩
 .have:=U.2.2 aq s hi aO
  have:=(X aq s hi).eZ.lJ V
  omega
 refine(pP (w.le (C.trans L).le)).aH L q λn3 m5 an x5 M=>⟨_,rfl,D L M _,D L M _,?_⟩
 refine(ON (w.le (C.trans M).le) (j:=j) ⟨an.1,an.2.1⟩).aH M q λn4 z bb x6 v6=>⟨_,rfl,?_⟩
 have u6:=C.trans v6
 have ay:∃s o,Value.agg #[O.v t,vi d.aS]=.agg #[O.v s,vi o.aS]/\eO (ah z m.size 0 [.s t,.i d.aS]) s o.aD/\(eO (bG g f) t d.aD->eO (bG g (ah z m.size 0 [.s t,.i d.aS])) s o.aD)/\(WB Q l True h o/\o.w<=d.w)/\J f (ah z m.size 0 [.s t,.i d.aS]):=
  have R:=u6.ah (b:=m.size) V 0 [.s t,.i d.aS]
  ⟨t,d,rfl,w.le R.le,λp=>p.le (R.df _),⟨ao,ad _⟩,R⟩
 refine⟨λ_=>ay,λh2=>⟨λ_=>ay,λh4=>?_⟩⟩
 simp only[bL]at h2 h4
 have z6:=v6.size
 have ak:∀c∈m.size::g,c<z.size:=λc i=>by
  rcases List.mem_cons.1 i with n|n
  .omega
  .have:=hS c n;omega
 refine(Ii d ak (w.le u6.le) hw).mono λaa H⟨K,n,g7,x7⟩=>⟨λc i=>x7.same c (oh (q c i)),_,_,n,?_⟩
 intro m8 A
 have x9:J H A:=(J.push H _).ah (ad _) _ _
 have s9:A.size=H.size+1:=by simp[A,m8,aw]
 clear_value A
 have y7:=g7.bn
 have z7:=x7.size
 have g9:=g7.ext gD.mono x9
 have am:∀c∈[H.size,m.size,f.size],c<A.size/\c≠K.D:=λc i=>by simp at i;omega
 refine(jf (c:=K.D::m.size::g) (λc i=>?_) 17 e).mono λaa au⟨ag,ar,n,aK,aM,B⟩=>⟨λc i=>B.same c (am c i).1,_,_,_,_,_,n,aJ (B.same _ V) _,?_⟩
 .rcases List.mem_cons.1 i with n|n
  .omega
  .have:=ak c n;omega
 have aj:=g9.ext gD.mono B
 have bg:=aj.len bh
 let⟨ba,so,W,bc,a7⟩:=aP.2 V
 have aA:J z au:=(x7.trans x9).trans B
 have aR:=av W
 let⟨a0,T,aF,aY⟩:=Gr.set (k:=n2.toNat) (cs:=[.i 17,.i 0,.i 0,.s ag,.s ar]) (a:=eY 17 e) gD.mono aj (aA.fz []) aR ⟨ag,ar,rfl,aK,aM⟩
 refine⟨V,V,a0,?_⟩
 intro F
 have vu:=B.size
 have bi:F.size=au.size:=aw _ _ _ _
 refine⟨λc i=>aY c (am c i).2,V,V,?_⟩
 have aV:=X _ so W
 have w1:=aV.eZ.lJ (Or.inl V)
 have d1:dn (eY 17 e)=dn so:=by
  unfold dn;rw[ae (λp:oY _=>by have:=p.2;simp only[eY]at this;omega),ae (λp:oY _=>oh p.2)]
 let⟨az,a2,bk⟩:=Ui X W (DK (c:=17) (v:=e) bh ⟨hx.1,V⟩) d1
 have be:=cV.mr so
 have a9:(eY 17 e).w=2:=rfl
 let⟨y,Y⟩:=cG (d.aD.set n2.toNat (eY 17 e)) n4.toNat bE
 have a_:=T.len bh
 obtain⟨a5,⟨pa,pk,rfl,aS,aT⟩,jt⟩:=T.cells Y
 have e0:=jt 0 _ rfl;have e1:=jt 1 _ rfl;have e2:=jt 2 _ rfl;have e3:=jt 3 _ rfl;have e4:=jt 4 _ rfl
 refine⟨_,e0,_,e1,_,e2,_,e3,_,e4,?_⟩
 intro aW G
 have N:J F G:=(J.push F _).ah (ad _) _ _
 have bj:G.size=F.size+1:=by simp[G,aW,aw]
 clear_value G
 have aH:=T.ext gD.mono N
 have aE:cT (1+e)=1+e:=aQ V V
 rw[aE]
 have aD:=(aF.then N)
 let⟨a1,aI,aG,aZ⟩:=Gr.set (k:=n4.toNat) (cs:=[.i y.op,.i y.bP,.i (1+e),.s pa,.s pk]) (a:=⟨y.op,y.bP,1+e,y.args,y.bC⟩) gD.mono aH aD bE ⟨pa,pk,rfl,ap.le (N.df _) aS,nD.le (N.df _) aT⟩
 refine⟨V,V,a1,?_⟩
 intro ax
 have r:=az _ y Y
 let⟨a4,a3,bl⟩:=Ui (b:=⟨y.op,y.bP,1+e,y.args,y.bC⟩) az Y ⟨⟨r.eZ.op,r.eZ.args,r.eZ.lJ,⟨by show 0<=1+e;omega,by show 1+e<=_;omega⟩,r.eZ.Ka,r.eZ.all,r.eZ.call⟩,r.bC⟩ rfl
 refine⟨λc i=>aZ c (by simp at i;omega),?_⟩
 intro aX
 have bf:(⟨y.op,y.bP,1+e,y.args,y.bC⟩:cV).w=y.w:=rfl
 have a8:=Bk.mr d
 have bd:=fY d.aD
 have ab:eO (bG (m.size::g) ax) K _:=aI.nF gD.mono (S:=m.size::g) (λi=>by
  rcases List.mem_cons.1 i with n|n
  .omega
  .have:=hS _ n;omega) bh bE
 have al:Le (bG (m.size::g) ax) (bG g aX):=cA aL λc i=>ai _ i
 refine⟨K,.mk _ d.aS,rfl,(ab.le al).le (bA _ _),λ_=>ab.le al,⟨.of a4 (by rw[a3,a2];exact aU),?_⟩,(u6.trans aG.ext).ah V _ _⟩
 rw[Bk.qG];omega
end
def SX(c:List bz)(d:List gN)(N:Nat):Prop:=∀(b:Bk),b.w<=N->∀(S:List Nat)(m:E),(∀a∈S,a<m.size)->∀(f r t kZ:O)(l:List Int)(a:Nat),eK m f r c d->eO m t b.aD->ap m kZ l->WB c d.length True a b->a+4*b.w<=10^12->l.length+4*b.w<=10^12->
 ns 234 [.agg #[O.v f,O.v r],.agg #[O.v t,vi b.aS],O.v kZ] m S λe=>WB c d.length True a e/\e.w<=b.w
def J4{D:List Nat}{m:E}(hS:∀c∈D,c<m.size){R ac pa pk kZ:O}{j:List bz}{A:List gN}{a:cV}{y:List Int}{F:Nat}(q:eK m R ac j A)(ha:ap m pa a.args)(hk:nD m pk a.bC)(I:ap m kZ y)(Y:WS j A.length True F a)(hb:F+4*a.w<=10^12)(a2:y.length+4*a.w<=10^12){l:Nat}{i:Bk}(U:a.bC[l]? =some i)(ih:SX j A i.w):
 ns 250 [.agg #[O.v R,O.v ac],oW a pa pk,vi l,O.v kZ] m D λk=>WB j A.length True (F+BG j a.op a.bP l) k/\k.w<=i.w:=by
 apply CW
 simp -zeta only[aC,aB]
 intro aa s b
 let⟨f,hl,s1,h,s3⟩:=p7 (a:=aa) (b:=s) (c:=b) rfl rfl rfl
 clear_value b
 let⟨aj,ht,f0,f1⟩:=hk.aF U
 have a0:=av U
 have a1:=hk.len
 have aW:=ha.len
 have a5:=cV.mr a
 have aY:=wJ U
 have ae:=Y.bC l i U
 have aZ:=i.Hf
 have aF:∀{M:E},J b M->∀c∈s.size::D,c<M.size:=λxx c d=>by
  have:=xx.size;rcases List.mem_cons.1 d with e|e
  .omega
  .have:=hS c e;omega
 have iH:∀(M:E)(Z u:O)(l':List Int)(k:Bk)(Lx:List Nat),J m M->J b M->(∀c∈Lx,c<M.size)->eO M u k.aD->ap M Z l'->l'.length<=y.length+1->WB j A.length True (F+BG j a.op a.bP l) k->k.w<=i.w->
  aN cg 234 [.agg #[O.v R,O.v ac],.agg #[O.v u,vi k.aS],O.v Z] M λv r=>eF Lx M r/\∃(h:O)(b2:Bk),v=.agg #[O.v h,vi b2.aS]/\∀g,g=ah r s.size 0 [.s h,.i b2.aS]->∃s3 b3,(Value.agg #[O.v h,vi b2.aS])=.agg #[O.v s3,vi b3.aS]/\eO (bG D g) s3 b3.aD/\(WB j A.length True (F+BG j a.op a.bP l) b3/\b3.w<=i.w)/\J m g:=λM Z u l' k Lx xm aU aE hs aK a3 aR aQ=>by
  have h3:=Qv q.types a.op a.bP l
  refine(ih k aQ (s.size::D) M (aF aU) R ac u Z l' _ (q.le xm.le) hs aK aR V V).mono λv r⟨h,b2,e,aO,aG,x'⟩=>⟨x'.dv aE,h,b2,e,λg am=>⟨h,b2,rfl,?_,⟨aG.1,V⟩,?_⟩⟩
  .rw[am];exact aO.le (cA aL λc d=>ai _ d)
  .rw[am];exact(xm.trans x').ah V _ _
 refine⟨λG=>?_,λG=>?_⟩
 .refine⟨V,V,_,f.af f0,_,f.af f1,?_⟩
  refine(iH b kZ aj y i _ f (J.az _) hl (ht.le f.le) (I.ext f) V ae (ad _)).mono λv r⟨o,h,b2,e,p⟩=>⟨o,_,_,e,?_⟩
  intro g
  exact p g rfl
 .have G:a.op=8:=by simpa using G
  obtain⟨aX,_⟩:=Y.eZ.all G
  have aV:=Y.eZ.lJ (Or.inr (Or.inr G))
  let⟨B,hy⟩:=cG a.args 0
  let⟨y0,y1⟩:=Y.eZ.args B (aq hy)
  refine⟨bh,V,B,(ha.ext f).aF hy,V,V,_,f.af f0,_,f.af f1,?_⟩
  intro m4 t
  have x5:J b t:=(J.push b _).ah (ad _) _ _
  have s5:t.size=b.size+1:=by simp[t,m4,aw]
  clear_value t
  have L:=f.trans x5
  have w:∀{M:E},J t M->∀c∈[b.size,s.size,aa.size,m.size],c<M.size:=λxx c d=>by have:=xx.size;simp at d;omega
  refine(dw (I.ext L) B).any.aH (J.az t) (w (J.az _)) λbb m6 n _=>⟨_,rfl,λ_=>?_,λ_=>?_⟩
  .have N:=L.trans n
   let⟨cn,aH⟩:=cG (cy j a.bP) l
   have C:∀{M M':E},J t M->J M M'->∀c∈[b.size,s.size,aa.size,m.size],∀ab,af M' c ab=af M c ab:=λT h' c d ab=>aJ (h'.same c (w T c d)) ab
   refine(il (e:=[]) aL (q.bo.le N.le) q.types a.bP).aH n (w (J.az _)) λs7 l7 m7 X e x7 v7=>⟨_,rfl,C n x7 _ aL _,C n x7 _ aL _,C n x7 _ aL _,?_⟩
   subst e
   have X:=X.le (bA _ _)
   have l7:=X.len
   refine⟨V,V,cn,X.aF aH,?_⟩
   refine(dI (e:=[]) aL (q.bo.le ((L.trans v7).le.trans (zW _))) q.types cn).aH v7 (w (J.az _)) λs8 l8 m8 a4 e x8 v8=>⟨_,rfl,C v7 x8 _ aL _,C v7 x8 _ aL _,?_⟩
   subst e
   have z8:=v8.size
   have h3:=Qv q.types a.op a.bP l
   have an:eO (bG [b.size] m8) aj i.aD:=ht.le ((zW m).trans ((L.trans v8).bG λc d=>Or.inr (by simp at d;omega)))
   refine(J3 (g:=[b.size]) bE (an.le (bA _ _)) ae V (e:=B) ⟨y0,V⟩ V (s8.len:Int)).mono λv m9⟨s9,b9,e,_,aP,H,x9⟩=>⟨λc d=>x9.same c (w v8 c d),_,_,e,?_⟩
   intro z
   have v9:=v8.trans x9
   have al:J b z:=(x5.trans v9).ah V _ _
   have W:eO z s9 b9.aD:=((aP an).le (cA (a:=[b.size]) aL λ_ T=>T)).le (bA _ _)
   have a9:z.size=m9.size:=aw _ _ _ _
   have z9:=v9.size
   have K:∀{M:E},z.size<=M.size->∀c∈[b.size,s.size,aa.size,m.size],c<M.size:=λT c d=>by simp at d;omega
   clear_value z
   refine(pP W).aH (J.az z) (K (ad _)) λa7 a6 ag aA _=>⟨_,rfl,?_⟩
   obtain⟨aS,_⟩:=H.1.aT
   refine(Dw (W.le aA.le) (w:=17) (e:=B) ⟨ag.1,ag.2.1⟩ λao u hj aM=>?_).aH aA (K (ad _)) λa8 aT _ a_ P=>⟨_,rfl,λ_=>?_,λ_=>?_⟩
   .have:=ag.2.2 ao u hj aM
    have:=(aS ao u hj).eZ.lJ V
    omega
   .have Q:=al.trans P
    refine(my (S:=[]) aL ((I.ext (f.trans Q)).le (zW _)) B V).aH P (K (ad _)) λay ar au aD ax ba ak=>⟨_,rfl,?_⟩
    have az:=al.trans ak
    have aI:ap au ay ar:=(aD.done aL (oh ax.2)).le (bA _ _)
    refine(iH au ay s9 ar b9 _ (f.trans az) az (K ak.size) (W.le ak.le) aI ax.2 H.1 H.2).mono λv r⟨o,h,b2,e,p⟩=>⟨o,_,_,e,?_⟩
    intro g
    exact p g rfl
   .have Q:=al.trans P
    refine(iH aT kZ s9 y b9 _ (f.trans Q) Q (K P.size) (W.le P.le) (I.ext (f.trans Q)) V H.1 H.2).mono λv r⟨o,h,b2,e,p⟩=>⟨o,_,_,e,?_⟩
    intro g
    exact p g rfl
  .have N:=L.trans n
   refine(iH m6 kZ aj y i _ N (x5.trans n) (w n) (ht.le N.le) (I.ext N) V ae (ad _)).mono λv r⟨o,h,b2,e,p⟩=>⟨o,_,_,e,?_⟩
   intro g
   exact p g rfl
section
variable{c:List gN}
def SX.fg{b:List bz}{N a:Nat}(h:SX b c N)(e:a<=N):SX b c a:=λd f=>h d (bH f e)
def GJ{K:List bz}:∀N:Nat,SX K c N:=by
 intro N;induction N with
 |zero=>intro v hb;have:=v.Hf;omega
 |succ N t=>
 intro v hb p Q hS aG a5 a6 kZ a3 ae hn hs ao ay aK aR;let⟨aD,A⟩:=v;have ah:=ay.aT;rw[Bk.qG]at*;simp only[Bk.jS,Bk.ju]at*;apply yT;simp -zeta only[aC,aB];intro R j h f m5 G;let⟨x3,hl,s1,s2,s3⟩:=p7 (a:=R) (b:=j) (c:=h) rfl rfl rfl;have s4:f.size=h.size+1:=by simp[f]
 have aj:J f G:=(J.push f _).ah (ad _) _ _;have aE:J h G:=(J.push h _).trans aj;have g0:GS (f.size::j.size::p) h G (.mk h.size 0 0 0) []:=(GS.new _ h).ext gD.mono aj;have B0:cE G f.size di [.s (.mk h.size 0 0 0),.i A]:=cE.ah (m:=m5) (o:=0) (r:=[.s (.mk h.size 0 0 0),.i A]) (cE.push f _ _);have al:∀d∈j.size::p,d<h.size:=bO hS x3.size (hl _ aL);clear_value G;clear_value h;have ap:=hs.len;have ar:=Bw aD;have aX:=fY aD;refine dU (n:=aD.length) (ap▸hs.gS) (λl M=>J h M/\∃s u,GS (f.size::j.size::p) h M s u/\cE M f.size di [.s s,.i A]/\u.length=l/\WL K c.length True ae u/\dc u=dc (aD.take l)/\sw u<=sw (aD.take l)) ⟨aE,_,[],g0,B0,rfl,WL.nil _ _ _ _,aL,aL⟩ ?_;rintro l M aF μ hk ⟨xM,s,u,O,B,aT,wl,P,au⟩ aA
 have y:=x3.trans xM;have aQ:∀{q:E},h.size<=q.size->∀d∈[j.size,R.size,Q.size],d<q.size:=λz d e=>aO (hl d e) z;have hy:=O.bn;have zM:=xM.size;have aH:=B.lt;refine dit (λz=>?_) λz=>?_
 .let⟨x,D⟩:=cG aD l;let⟨pa,pk,ha,Y,e0,e1,e2,e3,e4⟩:=hs.aF D;have a0:=OS D;have a2:=cV.mr x;have aM:=qb x.bC;have a1:=pR D;have aZ:=qL D;have ab:=ah.1 l x D;have aP:=sX (aD.take l);have aU:=fY (aD.take l);have aY:=ar (l+1);refine⟨V,V,_,y.af e0,_,y.af e1,_,y.af e2,_,y.af e3,_,y.af e4,?_⟩;intro m7 k m9;have x8:J M k:=(J.push M _).ah (ad _) _ _;have s8:k.size=M.size+1:=by simp[k,m7,aw]
  have x9:J k m9:=J.push _ _;have ak:GB (s.D::f.size::j.size::p) k m9 (.mk k.size 0 0 0) []:=GB.new _ k;clear_value m9;clear_value k;have X:∀d∈s.D::f.size::j.size::p,d<k.size:=λd e=>by
   simp only[aV]at e;rcases e with g|g|g|g
   .omega
   .omega
   .omega
   .have:=hS d g;omega
  have Z:=Y.len;refine ez (n:=x.bC.length) (Z▸Y.gS) (λF ks q=>J k q/\∃lk,GB (s.D::f.size::j.size::p) k q ks lk/\lk.length=F/\(∀(w:Nat)(v:Bk),lk[w]? =some v->WB K c.length True (ae+dc (aD.take l)+BG K x.op x.bP w) v)/\bw lk<=bw (x.bC.take F)) ⟨x9,[],ak,rfl,aL,aL⟩ ?_;rintro F ks I I2 μ2 hj ⟨H,lk,W,aS,ag,an⟩ az;have C:J Q I:=y.trans (x8.trans H);have yk:=W.bn;have z2:=H.size;have aa:∀{q:E},k.size<=q.size->∀d∈[M.size,j.size,R.size,Q.size],d<q.size:=λz d e=>by simp at e;omega
  refine dit (λh2=>?_) λh2=>?_
  .let⟨v,T⟩:=cG x.bC F;have aN:=wJ T;have am:=uq T;refine(J4 (D:=ks.D::s.D::f.size::j.size::p) (λd e=>?_) (hn.le C.le) (ha.ext C) (Y.le C.le) (ao.ext C) ab V V T (t.fg V)).aH (J.az I) (aa z2) λss b' a4 aq af ac _=>⟨_,_,rfl,?_⟩
   .rcases List.mem_cons.1 e with g|g
    .omega
    .have:=X d g;omega
   refine GB.kH (c:=b') (W.ext rH.mono ac) ((H.trans ac).fz []) aq V λr' q g2 f2 a7 q2=>⟨J.oE ((H.trans ac).aK _) f2.ext (aa (ad _)),az V _ _ ⟨f2.ext,_,g2,bE,λw b2 t=>?_,?_⟩⟩
   .rcases aW w lk.length with U|U
    .rw[ax U]at t;exact ag w b2 t
    .rw[aI U]at t;have:w -lk.length=0:=by have:=av t;simp at this;omega
     rw[this]at t;simp at t;subst t;have:w=F:=V;subst this;exact af.1
   .rw[oN,uo,zy,am];have:=af.2;omega
  .have ac:lk.length=x.bC.length:=V;rw[bX V]at an;have U:J M I:=x8.trans H;have T:=B.ext U;have G2:=O.ext gD.mono U;refine⟨s,T.bZ 0,?_⟩;refine(bN (s.D::f.size::j.size::p) (ha.ext C) V).aH (J.az I) (aa z2) λs' l' af ga g t _=>⟨_,rfl,aJ (t.same _ V) _,aJ (t.same _ V) _,aJ (t.same _ V) _,aJ (t.same _ T.lt) _,?_⟩;subst g;intro am;refine Gr.box (g:=[.i 0,.i 0,.i 0,.s .nil,.s .nil]) (L:=[M.size,j.size,R.size,Q.size]) (j:=0) (y:=72) (i:=[.s s,.i A]) (w:=⟨x.op,x.bP,x.bY,x.args,lk⟩) gD.mono bh (G2.ext gD.mono t) (((xM.trans U).trans t).fz []) ⟨s',ks,rfl,(ga.done (λd e=>oh (X d e)) V),nD.le (t.df _) (W.done rH.mono X bh (by show lk.length<=_;omega))⟩ V (T.ext t) aL bh ⟨V,aL⟩ (λd e=>by have h1:=t.size;simp at e;omega) λr' m' g' B' f' z' q'=>aA V _ ⟨f'.ext,r',_,g',B',bE,wl.yD (ab.PG id ab.eZ.bY ac ag|>λz=>by rw[P];exact z),?_,?_⟩
   .rw[cW,kK,sY,P];have g:dn (⟨x.op,x.bP,x.bY,x.args,lk⟩:cV)=dn x:=rfl;omega
   .rw[dC,mI,vj];have h5:(⟨x.op,x.bP,x.bY,x.args,lk⟩:cV).w=1+x.args.length+bw lk:=cV.mr _;omega
 .have Z:l=aD.length:=V;subst Z;rw[fu]at P au;refine⟨s,B.bZ 0,A,B.bZ 1,?_⟩;intro m7;have k:Le (bG (f.size::j.size::p) M) (bG p m7):=cA aL λd e=>ai _ (ai _ e);have t:=O.ne B bh;refine⟨s,.mk u A,rfl,eO.le k (O.nF gD.mono (λe=>?_) bh (by show u.length<=_;omega)),⟨.of wl (by rw[P];exact ah.2),by rw[Bk.qG];omega⟩,y.ah V _ _⟩;rcases List.mem_cons.1 e with g|g
  .exact t g
  .have:=al _ g;omega
def MV{f:List Nat}{e:E}(U:∀a∈f,a<e.size){u v:O}{p:List bz}(s:eK e u v p c){W:Nat}(hW:W<=200000000000)(hk:yi p c True W):uP 213 [.agg #[O.v u,O.v v]] e f p λH=>yi p H True W:=by
 apply GK;simp -zeta only[aC,aB];intro g a2;let⟨I,D⟩:=dD (a:=g) (c:=a2) rfl rfl;have s1:g.size=e.size+1:=by simp[g]
 clear_value a2;have an:=s.iT.len;have az:=s.oA;refine(fU (b:=g.size::f) (bO U I.size (D _ aL)) (s.le I.le).bo s.types).mono λ_ Z⟨ah,r,ai,K⟩=>?_;subst r;refine⟨K.dv D,_,rfl,?_⟩;intro aa av ag;have u2:=I.trans K;let⟨x5,B0,g0,s3,s5⟩:=kW (b:=aa.size::g.size::f) iQ.mono (d:=Z) (a:=aa) (c:=av) (h:=ag) rfl rfl rfl;clear_value ag;have F:∀a∈[g.size,e.size],a<Z.size:=λa j=>K.lt (D a j);have X:∀a∈g.size::f,a<Z.size:=λa j=>K.lt (bO U I.size (D _ aL) a j);refine kQ (R:=λb d M=>∃u v H,Value.agg #[O.v b,O.v d]=.agg #[O.v u,O.v v]/\eK (bG f M) u v p H/\yi p H True W/\J e M) (r:=c.length) (f:=e) (b:=f) iQ.mono bh bh U ⟨V,F _ aL⟩ u2 s3 ai an V x5 B0 g0 (λ_ q=>q.params.length<=3/\q.cR.length<=3/\WB p c.length True q.params.length q.body/\q.body.w<=W) (λb k Y o h1 h2 d h i=>⟨b,k,Y,rfl,⟨h1,h2,s.types,V⟩,HN hk.iV d h,i⟩) λau M st Y ax μ aj ay L ab N aw=>?_
 let⟨q,hq⟩:=cG c au aj;let⟨am,al,ar,hw⟩:=hk.dz q (aq hq);have B:=u2.trans L;let⟨aA,aD,b,c1,c2,c3,P,Q,T,y,z⟩:=s.iT.aF hq;have G:∀{w:Value}{b o:Nat},af e b o=some w->af M b o=some w:=λh=>B.af h;refine⟨st,N.bZ 1,V,V,_,G P,_,G Q,_,G T,_,G y,_,G z,V,V,_,G y,_,G z,?_⟩;intro i;have hy:=ab.bn;have ac:=N.lt;have zM:=L.size;have d:J M i:=J.push _ _;have s7:i.size=M.size+1:=by simp[i]
 have ak:ap i (.mk M.size 0 0 0) []:=mD _ _ _ _ _ _;clear_value i;have k:∀{w:Value}{b o:Nat},af e b o=some w->af i b o=af M b o:=λh=>by rw[d.af (G h),G h]
 have C:∀{b o:Nat},b<M.size->af i b o=af M b o:=λh=>aJ (d.same _ h) _;have A:e.size<M.size:=L.lt (F _ aL);refine⟨k y,k z,C A,C A,C A,k P,k Q,k T,k y,k z,C A,C ac,?_⟩;refine(GJ q.body.w q.body (ad _) (st.D::aa.size::g.size::f) i (λa j=>?_) u v b (.mk M.size 0 0 0) [] q.params.length (s.le (B.trans d).le) (c3.le (B.trans d).le) ak ar V bE).aH (L.trans d) F λss b' M1 ao ae t u1=>⟨_,_,rfl,?_⟩
 .simp only[aV]at j;rcases j with r|r|r|r
  .omega
  .omega
  .have:=X a (by simp[r]);omega
  .have:=X a (by simp[r]);omega
 have x:∀{w:Value}{b o:Nat},af e b o=some w->af M1 b o=af i b o:=λh=>by rw[t.af (d.af (G h)),d.af (G h)]
 refine⟨x P,x Q,x T,x y,x z,aJ (t.same _ (d.lt A)) _,aJ (t.same _ (d.lt ac)) _,?_⟩;exact vR (b:=g.size::f) (v:=ah) (x:=Y) X (λa j=>by have h1:=F a j;have h2:=u1.size;omega) u1 (ab.ext iQ.mono (d.trans t)) (N.ext (d.trans t)) V (c1.ext (B.trans (d.trans t))) (c2.ext (B.trans (d.trans t))) ao ⟨V,V⟩ V λs' M' g' B' x'=>aw s' M' _ g' B' x' ⟨am,al,ae.1,bH ae.2 hw⟩
end
section
variable{m:E}{t:O}{b:Bk}{a:List Nat}
def Rl(a:Int)(l:List cV):Nat:=l.countP λs=>s.op=a
def Ya:∀l:List cV,Rl 14 l+Rl 15 l<=l.length
 |[]=>by simp[Rl]
 |s::l=>by
  have:=Ya l;simp only[Rl,List.countP_cons,aZ]at this⊢;by_cases h:s.op=14
  .simp[h];omega
  .by_cases a:s.op=15
   .simp[a];omega
   .simp[h,a];omega
def Tk(a:Int)(l:List cV)(s:cV):Rl a (l++[s])=Rl a l+(if s.op=a then 1 else 0):=by
 simp[Rl,List.countP_append,List.countP_cons]
def IJ(g:eO m t b.aD):sT 273 [.agg #[O.v t,vi b.aS]] m λk=>0<=k/\k<=b.aD.length/\∀(i:Nat)(a:cV),b.aD[i]? =some a->(i:Int)<k->a.op=14\/a.op=15:=by
 apply Bf;simp -zeta only[aC,aB];intro c;have G:J m c:=J.push _ _;have z:∀q∈[m.size],q<c.size:=by simp[c]
 clear_value c;have A:=g.len;refine dU (n:=b.aD.length) (A▸g.gS) (λk M=>J c M/\∀(i:Nat)(a:cV),b.aD[i]? =some a->i<k->a.op=14\/a.op=15) ⟨J.az _,λi a _ h=>V⟩ ?_;rintro k M L μ S ⟨o,l⟩ D
 have u:=G.trans o;have R:∀{j:E},J m j->∃f:Int,vi (k:Int)=vi f/\(0<=f/\f<=b.aD.length/\∀(i:Nat)(a:cV),b.aD[i]? =some a->(i:Int)<f->a.op=14\/a.op=15)/\J m j:=λI=>⟨k,rfl,⟨V,V,λi a d h=>l i a d V⟩,I⟩;refine⟨λh=>?_,λh=>R u⟩;simp only[ar]at h;let⟨a,d⟩:=cG b.aD k;let⟨p,C,P,T,s,g1,g2,v,w⟩:=g.aF d;refine⟨V,V,_,u.af s,_,u.af g1,_,u.af g2,_,u.af v,_,u.af w,?_⟩;refine(AM (x:=a) p C M).aH o z λN U y H F=>⟨_,rfl,λB=>D V _ ⟨F,λi K e Q=>?_⟩,λ_=>R (u.trans H)⟩;by_cases r:i=k
 .subst r;rw[d]at e;simp at e;subst e;exact y.1 B
 .exact l i K e V
def xV(L:∀g∈a,g<m.size)(C:eO m t b.aD){d:Nat}(hm:d<=b.aD.length)(e:Int)(K:∀(i:Nat)(s:cV),b.aD[i]? =some s->i<d->0<s.args.length)(hb:b.aD.length<=10^12):
 kY 274 [.agg #[O.v t,vi b.aS],vi d,vi e] m a λl=>(∀y∈l,∃(i:Nat)(s:cV),i<d/\b.aD[i]? =some s/\y∈s.args)/\l.length<=Rl e (b.aD.take d):=by
 apply Cp
 simp -zeta only[aC,aB]
 intro c w
 have z:J m c:=J.push _ _
 have N:∀g∈[m.size],g<c.size:=by simp[c]
 have Q:J c w:=J.push _ _
 have I:GI a c w (.mk c.size 0 0 0) []:=GI.nil a c
 clear_value w
 clear_value c
 have ac:=C.len
 refine ez (n:=d) V (λk s M=>J c M/\∃l,GI a c M s l/\(∀y∈l,∃(i:Nat)(s:cV),i<d/\b.aD[i]? =some s/\y∈s.args)/\l.length<=Rl e (b.aD.take k)) ⟨Q,[],I,aL,aL⟩ ?_
 rintro k s M S μ hk ⟨p,l,q,v,P⟩ E
 have u:=z.trans p
 refine dit (λr=>?_) λr=>?_
 .let⟨x,o⟩:=cG b.aD k
  let⟨U,kk,B,ab,F,W,X,G,Y⟩:=C.aF o
  have Z:=B.len
  have:=K k x o V
  let⟨y,D⟩:=cG x.args 0
  have j:Rl e (b.aD.take (k+1))=Rl e (b.aD.take k)+(if x.op=e then 1 else 0):=by rw[aU o,Tk]
  have aa:Rl e (b.aD.take k)<=(b.aD.take k).length:=List.countP_le_length
  have ad:=qI k b.aD
  refine⟨V,V,_,u.af F,λh=>⟨V,V,_,u.af G,bh,V,y,(B.ext u).aF D,?_⟩,λh=>E V _ _ ⟨p,l,q,v,?_⟩⟩
  .intro m3
   simp only[aG]at h
   rw[an h]at j
   refine GI.kH q (p.fz []) (λg j=>z.lt (L g j)) V λaf T H A _ _=>⟨J.oE (p.aK _) A.ext N,E V _ _ ⟨A.ext,_,H,λR f=>?_,bE⟩⟩
   rcases List.mem_append.1 f with f|f
   .exact v R f
   .simp at f;subst f;exact⟨k,x,V,o,aq D⟩
  .simp only[aj]at h
   rw[ae h]at j;omega
 .have f:k=d:=V
  subst f
  exact⟨s,l,rfl,q.cx (λ_ r=>r) z.size,⟨v,P⟩,u⟩
def Rm:∀{l:List cV},(∀x∈l,dn x=0)->dc l=0
 |[],_=>rfl
 |x::l,h=>by rw[kK,h x bg,Rm λy a=>h y (ai _ a)]
def T5:∀{l:List cV},(∀x∈l,2<=x.w)->2*l.length<=sw l
 |[],_=>aL
 |x::l,h=>by
  have b:=h x bg;have c:=T5 λy a=>h y (ai _ a);rw[mI,aZ];omega
def LQ(hS:∀c∈a,c<m.size){X:O}{q:List Int}{ds:List bz}{nr g:Nat}(o:eO (bG a m) t b.aD)(hf:ap m X q)(bn:q.length<=3)(am:WB ds nr True (g+q.length) b)(hw:b.w<=100000000000)(ha:g<=10^12){h:Int}(hx:0<=h/\h<(g:Int)):
 ns 249 [.agg #[O.v t,vi b.aS],vi h,O.v X,vi g] m a λb'=>WB ds nr True (g+q.length) b'/\b'.w<=b.w+8:=by
 apply EF
 simp -zeta only[aC,aB]
 intro p T
 let⟨B,C⟩:=dD (a:=p) (c:=T) rfl rfl
 have s1:p.size=m.size+1:=by simp[p]
 have s2:T.size=m.size+2:=by simp[T,s1]
 clear_value T
 let⟨an,aM⟩:=am.aT
 have al:=o.le (bA _ _)
 have bk:=Bk.mr b
 have bu:=fY b.aD
 have aO:=o.len
 have bm:=o.cap
 have bo:=hf.len
 refine(IJ (al.le B.le)).aH (J.az T) C λmn m3 a6 x3 _=>⟨_,rfl,?_⟩
 obtain⟨kn,a4⟩:∃kn:Nat,mn=kn:=⟨mn.toNat,V⟩
 subst a4
 have aK:∀(d:Nat)(s:cV),b.aD[d]? =some s->d<kn->s.op=14\/s.op=15:=λd s w aG=>a6.2.2 d s w V
 have ak:∀(d:Nat)(s:cV),b.aD[d]? =some s->d<kn->0<s.args.length:=λd s w aG=>by
  have:=aK d s w aG;have:=(an d s w).eZ.lJ V;omega
 refine(xV (a:=[]) aL (al.le (B.trans x3).le) (d:=kn) V 14 ak V).aH x3 C λsd G m4 gd hd x4 v4=>⟨_,rfl,?_⟩
 refine(xV (a:=[]) aL (al.le (B.trans v4).le) (d:=kn) V 15 ak V).aH v4 C λsr Q m5 gr hr x5 v5=>⟨_,rfl,?_⟩
 have bl:=Ya (b.aD.take kn)
 have bw:(b.aD.take kn).length=kn:=bE
 have aN:ap m5 sr Q:=(gr.done aL V).le (bA _ _)
 refine(dw aN h).aH v5 C λbi m6 bj x6 A=>⟨_,rfl,λ_=>⟨t,b,rfl,o.le (((B.trans A).ah V _ _).df _),⟨am,V⟩,(B.trans A).ah V _ _⟩,λbp=>⟨λ_=>⟨t,b,rfl,o.le (((B.trans A).ah V _ _).df _),⟨am,V⟩,(B.trans A).ah V _ _⟩,λa7=>?_⟩⟩
 have bq:0<q.length:=by simp only[aj]at a7;omega
 have aH:∀s∈b.aD.take kn,∃d:Nat,d<kn/\b.aD[d]? =some s:=λs o=>by
  let⟨d,w⟩:=List.mem_iff_getElem?.1 o;have:=av w;rw[dG V]at w;exact⟨d,V,w⟩
 have aE:dc (b.aD.take kn)=0:=Rm λs o=>by
  let⟨d,Z,L⟩:=aH s o;have:=aK d s L Z;exact ae λY:oY s.op=>by have:=Y.2;omega
 have bs:2*kn<=sw (b.aD.take kn):=by
  have:=T5 (l:=b.aD.take kn) λs o=>by
   let⟨d,Z,L⟩:=aH s o;have:=ak d s L Z;have:=cV.mr s;omega
  omega
 have bv:sw b.aD=sw (b.aD.take kn)+sw (b.aD.drop kn):=by rw[<-dC,dm]
 have a1:dc b.aD=dc (b.aD.take kn)+dc (b.aD.drop kn):=by rw[<-cW,dm]
 have Xy:∀y:Int,(∃(d:Nat)(s:cV),d<kn/\b.aD[d]? =some s/\y∈s.args)->0<=y/\y<((g+q.length:Nat):Int):=λy⟨d,s,Z,L,h3⟩=>by
  have h4:=(an d s L).eZ.args y h3;have h5:=Tm (b.aD.take kn) d;rw[Mj,jb V]at h5;omega
 refine(se (S:=[]) aL ((aN.ext x6).le (zW _)) h V).aH A C λbd a_ m8 aD aI x8 v8=>⟨_,rfl,?_⟩
 have y2:=aD.bn
 have bV:=x8.size
 have a8:ap (bG [bd.D] m8) sd G:=((gd.done aL V).le (bA _ _)).le (((x5.trans x6).le.trans (zW m6)).trans (x8.bG λc e=>Or.inr (by simp at e;omega)))
 refine wN (n:=q.length) V (λk sd sr M=>J m6 M/\∃G Q,ap (bG [sr.D] M) sd G/\GI [] m6 M sr Q/\(∀y∈G,0<=y/\y<((g+q.length:Nat):Int))/\G.length<=Rl 14 (b.aD.take kn)/\(∀y∈Q,0<=y/\y<((g+q.length:Nat):Int))/\Q.length<=Rl 15 (b.aD.take kn)+k) ⟨x8,G,a_,a8,aD,λy P=>Xy y (hd.1 y P),hd.2,λy P=>Xy y (hr.1 y (aI.1 y P)),O6 aI.2 hr.2⟩ ?_
 rintro k H D u aw μ hk ⟨I,ac,R,N,K,aa,aF,ab,br⟩ ao
 have U:=(B.trans A).trans I
 have y3:=K.bn
 have r:∀c∈[p.size,m.size],c<u.size:=λc e=>I.lt (A.lt (C c e))
 refine⟨λY=>?_,λY=>?_⟩
 .simp only[ar]at Y
  let⟨y,P⟩:=cG q k
  have ew:cT ((g:Int)+(k:Int))=(g:Int)+k:=aQ V V
  rw[ew]
  have ah:∀{M:E},J u M->af M X.D (X.off+Int.toNat (k:Int)*1)=some (vi y):=λv=>(hf.ext (U.trans v)).aF P
  have ay:∀{M:E},J u M->aw H D (cT ((k:Int)+1)) M/\μ H D (cT ((k:Int)+1)) M<μ H D k u:=λv=>ao V _ _ _ ⟨I.trans v,ac,R,N.le (v.df _),K.ext v,aa,aF,ab,V⟩
  have Ow:∀{M:E},J u M->jK (M.push (.cells (bt [.i ((g:Int)+k)]) aA)) aA [.i 0] 8 D (.mk M.size 0 1 1) λau W=>eF [p.size,m.size] (M.push (.cells (bt [.i ((g:Int)+k)]) aA)) W/\aw H au (cT ((k:Int)+1)) W/\μ H au (cT ((k:Int)+1)) W<μ H D k u:=λ{M} v=>by
   refine GI.kH (K.ext v) ((I.trans v).fz []) aL V λau W g' f' z' q'=>⟨J.oE ((I.trans v).aK _) f'.ext (λc e=>A.lt (C c e)),ao V _ _ _ ⟨f'.ext,ac,_,(N.le (v.df _)).le (pA λc e hn=>?_),g',aa,aF,λag z=>?_,bE⟩⟩
   .simp at hn;refine⟨?_,q' c e hn⟩;simp;rcases z'.2 with f|f<;>omega
   .rcases List.mem_append.1 z with z|z
    .exact ab ag z
    .simp at z;omega
  refine⟨V,V,y,ah (J.az _),λ_=>?_,λ_=>⟨V,V,y,ah (J.az _),λ_=>?_,λ_=>ay (J.az _)⟩⟩
  .refine(dw (N.le (bA _ _)) _).aH (J.az u) r λbb aS _ F _=>⟨_,rfl,λ_=>?_,λ_=>⟨V,V,y,ah F,λ_=>?_,λ_=>ay F⟩⟩
   .refine(se (S:=[D.D]) (by have:=F.size;simp;omega) (N.le (F.df _)) _ V).aH F r λaT aR ax aP aq aU az=>⟨_,rfl,ao V _ _ _ ⟨I.trans az,aR,R,aP.done (by have:=F.size;simp;omega) (oh aq.2),K.ext az,λag z=>aa ag (aq.1 ag z),oh aq.2,ab,V⟩⟩
   .intro ax
    exact Ow F
  .intro ax
   exact Ow (J.az _)
 .have a9:ap u D R:=(K.done aL V).le (bA _ _)
  have F:∀{M:E},u.size<=M.size->∀c∈p.size::a,c<M.size:=λz c e=>by
   rcases List.mem_cons.1 e with f|f
   .have:=r p.size aL;omega
   .have:=hS c f;have:=U.size;omega
  refine(eX (c:=p.size::a) (F (ad _)) 14 (N.le (bA _ _)) V).aH (J.az u) r λba bB bD ax aW ah _=>⟨_,rfl,?_⟩
  subst aW
  have bR:=ax.bn
  have bf:=ah.size
  refine(jf (c:=ba.D::p.size::a) (λc e=>?_) 16 h).mono λbQ bF⟨bg,bx,f,a0,a3,aq⟩=>⟨λc e=>aq.same c (ah.lt (r c e)),_,_,_,_,_,f,?_⟩
  .rcases List.mem_cons.1 e with f|f
   .omega
   .exact F bf c f
  intro bH
  have au:=ah.trans aq
  refine GS.kH (x:=eY 16 h) (ax.ext gD.mono aq) (au.fz []) a0 a3 bE λbb bI ay P bW bM=>⟨J.oE (au.aK _) P.ext r,?_⟩
  have bS:=ay.bn
  have bU:=au.size
  have aT:=P.size
  refine(eX (c:=bb.D::p.size::a) (λc e=>?_) 15 (a9.ext P.ext) V).aH P.ext r λbP bC bJ aY aX be aS=>⟨_,rfl,?_⟩
  .rcases List.mem_cons.1 e with f|f
   .omega
   .exact F aT c f
  subst aX
  refine GS.all (ay.ext gD.mono be) (aS.fz []) (aY.done gD.mono (λc e=>?_) bh bE) bE λaR aP az v bY bN=>⟨J.oE aS v.ext r,V,V,V,?_⟩
  .rcases List.mem_cons.1 e with f|f
   .omega
   .exact F aT c f
  have bT:=az.bn
  have z9:=U.size
  have a5:Le (bG a m) (bG (aR.D::p.size::a) aP):=(U.trans v.ext).bG λc e=>by
   simp only[aV]at e;rcases e with f|f|f
   .exact Or.inr V
   .exact Or.inr V
   .exact Or.inl f
  have ek:Int.toNat (kn:Int)=kn:=V
  have el:Int.toNat (t.len:Int)=t.len:=V
  rw[ek,el]
  have a2:eO (bG (aR.D::p.size::a) aP) (t.cut kn t.len 5) (b.aD.drop kn):=by
   have:=(o.le a5).KD (i:=kn) (j:=t.len) V V;rwa[aO,bX (ad _),<-aO]at this
  refine GS.all az v a2 bE λbc bK aZ ag bZ bO=>⟨J.oE v.ext ag.ext r,aJ (by rw[ag.ext.same _ (r _ aL),v.ext.same _ (r _ aL)]) _,?_⟩
  intro bL
  have aU:=aZ.done gD.mono (F (ad _)) bh bE
  have W:dc [eY 16 h]=0:=jT bh [h]
  have e2:sw [eY 16 h]=2:=ov 16 [h]
  have W1:WL ds nr True (g+q.length) (ac.map (eY 14)++[eY 16 h]++R.map (eY 15)++b.aD.drop kn):=by
   refine WL.append (WL.append ((rL bh aa).yD ?_) ?_) ?_
   .rw[jT bh];exact DK bh ⟨hx.1,V⟩
   .rw[cW,jT bh,W];exact rL bh ab
   .rw[cW,cW,jT bh,jT bh,W];have:=an.drop kn;rwa[aE]at this
  refine⟨bc,.mk (ac.map (eY 14)++[eY 16 h]++R.map (eY 15)++b.aD.drop kn) b.aS,rfl,eO.le (cA aL λc e=>ai _ e) aU,⟨.of W1 ?_,?_⟩,(U.trans ag.ext).ah V _ _⟩
  .rw[cW,cW,cW,jT bh,jT bh,W]
   rw[a1,aE]at aM
   simpa using aM
  .rw[Bk.qG,dC,dC,dC,ov,ov,e2];omega
end
end Go.Proofs.YtkicoahejfbjhaaGreat
