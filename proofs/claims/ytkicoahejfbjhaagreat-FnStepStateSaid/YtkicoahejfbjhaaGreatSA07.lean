/- Part of a proof. -/
import Derived.Test.YtkicoahejfbjhaaGreatSA01
import Derived.Test.YtkicoahejfbjhaaGreatSA06
set_option linter.all false
set_option maxHeartbeats 8000000
set_option maxRecDepth 100000
namespace Go.Proofs.YtkicoahejfbjhaaGreat
open Go.Vc
section
variable{S:List Nat}{d:E}{s j a h:O}{e g p:List Int}{k f:Nat}{x:Int}{Q:List Int->Prop}{K:Value->E->Prop}
def _root_.Go.Vc.ap.bZ{X:List Nat}{a:E}(b:ap (bG S d) s e)(f:Fz X d a)(c:∀h∈X,h∈S)(g:e[k]? =some x):af a s.D (s.off+k*1)=some (vi x):=
 (eP.1 ((b.le (f.df c)).aF g)).2
def _root_.Go.Vc.ap.Mw{a:E}(h:ap (bG S d) s e)(b:J d a)(c:e[k]? =some x):af a s.D (s.off+k*1)=some (vi x):=
 h.bZ (b.fz []) aL c
def Fg(f:Nat)(b:List Value)(d:E)(S:List Nat)(Q:List Int->Prop):Prop:=aN cg f b d λv a=>∃s e,v=O.v s/\ap (bG S a) s e/\Q e/\J d a
def kY(f:Nat)(b:List Value)(d:E)(S:List Nat)(Q:List Int->Prop):Prop:=aN cg f b d λv a=>∃s e,v=O.v s/\Gr S d a aA 1 tV s e/\Q e/\J d a
def sT(f:Nat)(a:List Value)(d:E)(Q:Int->Prop):Prop:=aN cg f a d λv b=>∃n:Int,v=vi n/\Q n/\J d b
abbrev GI(S:List Nat)(a d:E)(s:O)(e:List Int):Prop:=Gr S a d aA 1 tV s e
def GI.nil(S:List Nat)(d:E):GI S d (d.push (.cells (bt []) aA)) (.mk d.size 0 0 0) []:=Gr.new S (ad _) aA 1 tV
def GI.kH{S X:List Nat}{c d:E}{s:O}{e:List Int}{a:Int}{K:O->E->Prop}(f:GI S c d s e)(g:Fz X c d)(j:∀h∈S,h<c.size)(k:e.length<=10^12)
 (i:∀r b,GI S c b r (e++[a])->Fz X c b->(d.size<=b.size/\(r.D=s.D\/d.size<=r.D))->(∀h,h<d.size->h≠s.D->b[h]? =d[h]?)->K r b):jK (d.push (.cells (bt [.i a]) aA)) aA [.i 0] 8 s (.mk d.size 0 1 1) K:=
 Gr.kH (g:=[.i 0]) tV.mono bh f g rfl V i
def GI.done{S:List Nat}{a d:E}{s:O}{e:List Int}(b:GI S a d s e)(c:∀h∈S,h<a.size)(f:e.length<=10^12):ap (bG S d) s e:=Gr.done tV.mono b c bh V
def GI.all{S X:List Nat}{b d:E}{s x:O}{e g:List Int}{K:O->E->Prop}(c:GI S b d s e)(f:Fz X b d)(k:∀h∈S,h<b.size)(j:ap (bG (s.D::S) d) x g)(l:e.length+g.length<=10^12)
 (i:∀r a,GI S b a r (e++g)->Fz X b a->(d.size<=a.size/\(r.D=s.D\/d.size<=r.D))->(∀h,h<d.size->h≠s.D->a[h]? =d[h]?)->K r a):jK d aA [.i 0] 8 s x K:=
 Gr.all (g:=[.i 0]) tV.mono bh c f j V i
def GI.jw{b a:E}(h:GI S b d s e)(j:a[s.D]? =d[s.D]?):GI S b a s e:=by
 let⟨f,c,g,i⟩:=h;exact⟨f,c,g.congr j,i.mono λ_ _ h=>h⟩
def GI.ext{S:List Nat}{b d a:E}{s:O}{e:List Int}(h:GI S b d s e)(c:J d a):GI S b a s e:=Gr.ext tV.mono h c
def _root_.Go.Vc.Gr.cx{α:Type}{S c:List Nat}{g i d:E}{f b:Nat}{R:E->List Ce->α->Prop}{s:O}{e:List α}(o:om b R)(k:Gr c i d f b R s e)(p:∀h∈S,h∈c\/d.size<=h)(q:g.size<=i.size):Gr S g d f b R s e:=by
 let⟨l,j,m,n⟩:=k;refine⟨l,j,m.cx q,n.mono λr x=>o.le ((J.az d).bG λh a=>?_)⟩;rcases List.mem_cons.1 a with a|a
 .exact Or.inl (by rw[a];exact bg)
 .exact(p h a).imp (ai _) id
def GI.cx{S a:List Nat}{b c d:E}{s:O}{e:List Int}(f:GI a c d s e)(g:∀h∈S,h∈a)(j:b.size<=c.size):GI S b d s e:=Gr.cx tV.mono f (λh i=>Or.inl (g h i)) j
def kY.then{b:List Value}(h:kY f b d S Q)(k:∀s e a,GI S d a s e->Q e->J d a->K (O.v s) a):aN cg f b d K:=
 h.mono λ_ a⟨s,e,c,g,i,j⟩=>c▸k s e a g i j
def Fg.then{b:List Value}(h:Fg f b d S Q)(k:∀s e a,ap (bG S a) s e->Q e->J d a->K (O.v s) a):aN cg f b d K:=
 h.mono λ_ a⟨s,e,c,g,i,j⟩=>c▸k s e a g i j
def sT.then{b:List Value}{Q:Int->Prop}(h:sT f b d Q)(i:∀n a,Q n->J d a->K (vi n) a):aN cg f b d K:=
 h.mono λ_ a⟨n,e,c,g⟩=>e▸i n a c g
def ta{b:E}{h:Nat}(a:J d b)(c:d.size<=h):Le (bG S d) (bG (h::S) b):=a.bG λf e=>by
 rcases List.mem_cons.1 e with a|a
 .exact Or.inr (by rw[a];exact c)
 .exact Or.inl a
def mj(b:∀h∈S,h<d.size)(i:ap (bG S d) j e)(c:e.length<=10^12):kY 68 [O.v j] d S (e=·):=by
 apply ny;intro k;have a:J d k:=J.push d _;exact GI.all (e:=[]) (X:=[]) (GI.nil S d) (a.fz []) b (i.le (ta a (ad _))) (by simpa using c) λr m g f _ _=>⟨r,e,rfl,by simpa using g,rfl,f.ext⟩
def pb(e g:List Int):Prop:=(∀x∈g,x∈e)/\g.length<=e.length
def oP(h:∀x∈g,x∈e)(b:x∈e):∀y∈g++[x],y∈e:=by
 intro y a;rcases List.mem_append.1 a with a|a
 .exact h y a
 .simp at a;subst a;exact b
def Bv(r:∀h∈S,h<d.size)(b:ap (bG S d) j e)(u:Int)(v:e.length<=10^12):kY 298 [O.v j,vi u] d S (pb e):=by
 apply EX;intro z;have t:=b.len;refine ez (n:=e.length) (t▸b.gS) (λk s a=>J d a/\∃g,GI S d a s g/\(∀x∈g,x∈e)/\g.length<=k) ⟨J.push d _,[],GI.nil S d,aL,ad _⟩ ?_;rintro k s A I μ y ⟨a,g,c,i,w⟩ m
 refine dit (λp=>?_) λp=>?_
 .let⟨x,l⟩:=cG e k;refine⟨V,V,x,b.Mw a l,λq=>⟨V,V,x,b.Mw a l,?_⟩,λq=>m V _ _ ⟨a,g,c,i,V⟩⟩;intro B;exact GI.kH c (a.fz []) r V λD C o f _ _=>m V _ _ ⟨f.ext,_,o,oP i (aq l),bE⟩
 .exact⟨s,g,rfl,c,⟨i,V⟩,a⟩
def OM(r:∀h∈S,h<d.size)(b:ap (bG S d) j e)(u:Int)(v:e.length<=10^12):kY 339 [O.v j,vi u] d S (pb e):=by
 apply Ia;intro z;have t:=b.len;refine ez (n:=e.length) (t▸b.gS) (λk s a=>J d a/\∃g,GI S d a s g/\(∀x∈g,x∈e)/\g.length<=k) ⟨J.push d _,[],GI.nil S d,aL,ad _⟩ ?_;rintro k s A I μ y ⟨a,g,c,i,w⟩ m
 refine dit (λp=>?_) λp=>?_
 .let⟨x,l⟩:=cG e k;refine⟨V,V,x,b.Mw a l,λq=>⟨V,V,x,b.Mw a l,?_⟩,λq=>m V _ _ ⟨a,g,c,i,V⟩⟩;intro B;exact GI.kH c (a.fz []) r V λD C o f _ _=>m V _ _ ⟨f.ext,_,o,oP i (aq l),bE⟩
 .exact⟨s,g,rfl,c,⟨i,V⟩,a⟩
def MM(u:∀h∈S,h<d.size)(i:ap (bG S d) a e)(v:ap (bG S d) h p)(A:e.length<=10^12):kY 325 [O.v a,O.v h] d S (pb e):=by
 apply Gk;intro D;have w:=i.len;refine ez (n:=e.length) (w▸i.gS) (λk s b=>J d b/\∃g,GI S d b s g/\(∀x∈g,x∈e)/\g.length<=k) ⟨J.push d _,[],GI.nil S d,aL,ad _⟩ ?_;rintro k s E I μ C ⟨b,g,j,l,B⟩ o
 refine dit (λr=>?_) λr=>?_
 .let⟨x,m⟩:=cG e k;refine⟨V,V,x,i.Mw b m,?_⟩;refine(dw ((v.le (bA _ _)).ext b) x).then λz F _ c=>⟨_,rfl,λt=>⟨V,V,x,i.Mw (b.trans c) m,?_⟩,λt=>o V _ _ ⟨b.trans c,g,j.ext c,l,V⟩⟩;intro y;exact GI.kH (j.ext c) ((b.trans c).fz []) u V λG y q f _ _=>o V _ _ ⟨f.ext,_,q,oP l (aq m),bE⟩
 .exact⟨s,g,rfl,j,⟨l,V⟩,b⟩
def _root_.Go.Vc.wN{σ τ:Type}{n:Nat}(p:n<=9223372036854775807){h:σ}{j:τ}{g:(σ->τ->Int->E->Prop)->(σ->τ->Int->E->Nat)->σ->τ->Int->E->Prop}(Q:Nat->σ->τ->E->Prop)(m:Q 0 h j d)
 (l:∀(k:Nat)(s:σ)(t:τ)(a:E)(I:σ->τ->Int->E->Prop)(μ:σ->τ->Int->E->Nat),k<=n->Q k s t a->
  (k<n->∀c e b,Q (k+1) c e b->I c e (cT ((k:Int)+1)) b/\μ c e (cT ((k:Int)+1)) b<μ s t k a)->g I μ s t k a):
 ∃(I:σ->τ->Int->E->Prop)(μ:σ->τ->Int->E->Nat),I h j 0 d/\∀s t i a,I s t i a->g I μ s t i a:=by
 refine⟨λs t i b=>∃k:Nat,i=k/\k<=n/\Q k s t b,λ_ _ i _=>(n -i).toNat,⟨0,rfl,dL _,m⟩,?_⟩
 rintro s t i a ⟨k,rfl,o,q⟩
 refine l k s t a _ _ o q λf c e b r=>?_
 rw[kA f p]
 exact⟨⟨k+1,rfl,f,r⟩,Dr f⟩
def WK(e:List Int)(n:Int)(g:List Int):Prop:=(∀x∈g,x∈e\/x=n)/\g.length<=e.length+1
def BN{n:Int}(h:∀x∈g,x∈e\/x=n)(b:x∈e\/x=n):∀y∈g++[x],y∈e\/y=n:=by
 intro y a;rcases List.mem_append.1 a with a|a
 .exact h y a
 .simp at a;subst a;exact b
def my(o:∀h∈S,h<d.size)(w:ap (bG S d) j e)(t:Int)(M:e.length<10^12):kY 279 [O.v j,vi t] d S (WK e t):=by
 apply Gu;intro Q;have K:=w.len;refine wN (n:=e.length) (K▸w.gS) (λk s c b=>J d b/\∃g,GI S d b s g/\(∀x∈g,x∈e\/x=t)/\g.length<=k+(if c=true then 1 else 0)) ⟨J.push d _,[],GI.nil S d,aL,ad _⟩ ?_;rintro k s c y I μ P ⟨a,g,p,q,v⟩ D
 have N:g.length<=k+1:=by split at v<;>omega
 refine dit (λu=>?_) λu=>?_
 .let⟨x,z⟩:=cG e k;have G:∀{b:E},J d b->af b j.D (j.off+k*1)=some (vi x):=λu=>w.Mw u z;have B:x∈e\/x=t:=Or.inl (aq z);have A:∀m:Bool,(g++[x]).length<=k+1+(if m=true then 1 else 0)->jK (y.push (.cells (bt [.i x]) aA)) aA [.i 0] 8 s (.mk y.size 0 1 1) λr b=>I r m (cT ((k:Int)+1)) b/\μ r m (cT ((k:Int)+1)) b<μ s c k y:=λm hd=>
   GI.kH p (a.fz []) o V λr C i f _ _=>D V _ _ _ ⟨f.ext,_,i,BN q B,hd⟩
  refine⟨λl=>⟨V,V,x,G a,λF=>⟨V,V,x,G a,λH=>?_,λH=>⟨V,V,x,G a,A true bE⟩⟩,λF=>⟨V,V,x,G a,A c ?_⟩⟩,λl=>⟨V,V,x,G a,A c ?_⟩⟩
  .have hd:c=false:=by simpa using l
   subst hd;simp at v;intro L;refine GI.kH p (a.fz []) o V λr C i f _ _=>⟨V,V,x,G f.ext,?_⟩;intro R;exact GI.kH i f o bE λr T i f _ _=>D V _ _ _ ⟨f.ext,_,i,BN (BN q (Or.inr rfl)) B,bE⟩
  .simp only[be,aZ,eV];omega
  .simp only[be,aZ,eV];omega
 .refine⟨λl=>?_,λl=>⟨s,g,rfl,p,⟨q,V⟩,a⟩⟩;have hd:c=false:=by simpa using l
  subst hd;simp at v;intro L;exact GI.kH p (a.fz []) o V λr C i f _ _=>⟨r,_,rfl,i,⟨BN q (Or.inr rfl),bE⟩,f.ext⟩
def se(y:∀h∈S,h<d.size)(l:ap (bG S d) j e)(B:Int)(C:e.length<=10^12):kY 275 [O.v j,vi B] d S (pb e):=by
 apply wB;intro F;have z:=l.len;refine wN (n:=e.length) (z▸l.gS) (λk s _ a=>J d a/\∃g,GI S d a s g/\(∀x∈g,x∈e)/\g.length<=k) ⟨J.push d _,[],GI.nil S d,aL,ad _⟩ ?_;rintro k s c o I μ E ⟨b,g,i,m,D⟩ q
 refine dit (λu=>?_) λu=>?_
 .let⟨x,p⟩:=cG e k;have G:=l.Mw b p;have A:jK (o.push (.cells (bt [.i x]) aA)) aA [.i 0] 8 s (.mk o.size 0 1 1) λr a=>I r c (cT ((k:Int)+1)) a/\μ r c (cT ((k:Int)+1)) a<μ s c k o:=
   GI.kH i (b.fz []) y V λr H t f _ _=>q V _ _ _ ⟨f.ext,_,t,oP m (aq p),bE⟩
  exact⟨V,V,x,G,λv=>⟨λw=>q V _ _ _ ⟨b,g,i,m,V⟩,λw=>⟨V,V,x,G,A⟩⟩,λv=>⟨V,V,x,G,A⟩⟩
 .exact⟨s,g,rfl,i,⟨m,V⟩,b⟩
def OQ(f:∀h∈S,h<d.size)(v:ap (bG S d) a e)(i:ap (bG S d) h p)(j:e.length+p.length<=10^12):kY 293 [O.v a,O.v h] d S (λg=>(∀x∈g,x∈e\/x∈p)/\g.length<=e.length+p.length):=by
 apply IN;refine(mj f v V).then λM _ G u r C=>⟨_,rfl,?_⟩;subst r;have w:=i.len;refine ez (n:=p.length) (w▸i.gS) (λk s b=>J d b/\∃g,GI S d b s g/\(∀x∈g,x∈e\/x∈p)/\g.length<=e.length+k) ⟨C,_,u,λx c=>Or.inl c,ad _⟩ ?_;rintro k s H I μ F ⟨c,g,l,m,E⟩ B
 refine dit (λb=>?_) λb=>?_
 .let⟨x,o⟩:=cG p k;refine⟨V,V,x,i.Mw c o,?_⟩;refine(my (λh j=>aO (f h j) c.size) (l.done f V) x V).then λL A K t q D=>⟨_,rfl,B V _ _ ⟨c.trans D,A,t.cx (λ_ b=>b) c.size,λy z=>?_,oh q.2⟩⟩;rcases q.1 y z with b|b
  .exact m y b
  .subst b;exact Or.inr (aq o)
 .exact⟨s,g,rfl,l,⟨m,V⟩,c⟩
def tA(a:Int)(d:E):dt cg 312 [vi a] d (14<=a/\a<=17):=by
 apply yM;exact(aY _ _ _ _).then λh e c b=>⟨_,rfl,eT c b⟩
def eN(c:∀h∈S,h<d.size){gX:O}{a:List Int}(m:ap (bG S d) j e)(n:ap (bG S d) gX a)(l:e.length+a.length<=10^12):kY 189 [O.v j,O.v gX] d S (e++a=·):=by
 apply uE;refine(mj c m V).then λq _ p b i g=>⟨_,rfl,?_⟩;subst i;exact GI.all b (g.fz []) c (n.le (ta g b.bn.1)) l λr o k f _ _=>⟨r,_,rfl,k,rfl,f.ext⟩
def rQ(t:∀h∈S,h<d.size)(l:ap (bG S d) j e)(a:Nat)(w:a+e.length<=10^12):kY 222 [O.v j,vi a] d S (λg=>(∀x∈g,(a:Int)<=x/\x<a+e.length)/\g.length<=e.length):=by
 apply CG;intro B;have u:=l.len;refine ez (n:=e.length) (u▸l.gS) (λk s b=>J d b/\∃g,GI S d b s g/\(∀x∈g,(a:Int)<=x/\x<a+e.length)/\g.length<=k) ⟨J.push d _,[],GI.nil S d,aL,ad _⟩ ?_;rintro k s C I μ A ⟨c,g,i,m,z⟩ o
 refine dit (λq=>?_) λq=>?_
 .let⟨x,v⟩:=cG e k;refine⟨V,V,x,l.Mw c v,λr=>?_,λr=>o V _ _ ⟨c,g,i,m,V⟩⟩;rw[aQ (b:=(a:Int)+k) V V];intro D;refine GI.kH i (c.fz []) t V λF E p f _ _=>o V _ _ ⟨f.ext,_,p,?_,bE⟩
  intro y b;rcases List.mem_append.1 b with b|b
  .exact m y b
  .simp at b;omega
 .exact⟨s,g,rfl,i,⟨m,V⟩,c⟩
def lV(o:∀h∈S,h<d.size)(a b:Nat)(q:a+b<=10^12):kY 205 [vi a,vi b] d S (λg=>(∀x∈g,(a:Int)<=x/\x<a+b)/\g.length=b):=by
 apply xw;intro u;refine ez (n:=b) V (λk s c=>J d c/\∃g,GI S d c s g/\(∀x∈g,(a:Int)<=x/\x<a+b)/\g.length=k) ⟨J.push d _,[],GI.nil S d,aL,rfl⟩ ?_;rintro k s v I μ t ⟨j,g,e,i,r⟩ p
 refine dit (λm=>?_) λm=>?_
 .rw[aQ (b:=(a:Int)+k) V V];intro w;refine GI.kH e (j.fz []) o V λA z l f _ _=>p V _ _ ⟨f.ext,_,l,?_,bE⟩
  intro y c;rcases List.mem_append.1 c with c|c
  .exact i y c
  .simp at c;omega
 .exact⟨s,g,rfl,e,⟨i,V⟩,j⟩
def Hy(e:List Int):(e.map λx=>[Ce.i x]).flatten=e.map Ce.i:=by induction e<;>simp_all
def GI.set{S X:List Nat}{p d:E}{s:O}{e:List Int}(t:GI S p d s e)(M:Fz X p d){k:Nat}(B:k<e.length)(n:Int):
 fJ d s.D (s.off+k*1) 1/\GI S p (ah d s.D (s.off+k*1) [.i n]) s (e.set k n)/\Fz X p (ah d s.D (s.off+k*1) [.i n])/\(∀h,h≠s.D->(ah d s.D (s.off+k*1) [.i n])[h]? =d[h]?):=by
 have R:=t.bn
 have T:=t.len bh
 let⟨v,j,I,g⟩:=t
 have Q:∀h,h≠s.D->(ah d s.D (s.off+k*1) [.i n])[h]? =d[h]? :=λh L=>bd _ _ _ _ L
 let⟨h,D,tail,q,F,u,G,H⟩:=I.aF.resolve_left v
 have N:j.flatten.length=e.length:=by rw[cv g.size,g.len];omega
 have P:j.flatten=e.map Ce.i:=by
  apply gU;intro f;rcases aW f e.length with a|a
  .let⟨x,l⟩:=dB a;let⟨cs,y⟩:=cG j f (by rw[g.len];exact a);have z:cs=[.i x]:=g.dz f cs x y l;have w:=fV (g:=1) g.size y (i:=0) (c:=.i x) (by rw[z];rfl);simp only[eQ,jE]at w;rw[w];simp[l]
  .rw[cO V,cO (by simpa using a)]
 have C:s.off+k*1=k:=by rw[q];simp
 have w:s.D=h:=by rw[q];rfl
 refine⟨?_,⟨v,(e.set k n).map λx=>[.i x],⟨?_,Or.inr ⟨h,D,tail,q,F,?_,?_,H⟩⟩,⟨by rw[dY],λcs y=>?_,λU cs x A l=>?_⟩⟩,M.ah (Or.inr R.1) _ _,Q⟩
 .rw[C,w]
  exact u.fJ (by simp only[be,aZ,eV];omega)
 .rw[Hy,dY,dZ];omega
 .have J:=cE.ah (m:=d) (b:=h) (r:=[.i n]) (o:=k) u
  rw[C,w,Hy]
  have K:iZ (j.flatten++tail) k [.i n]=(e.set k n).map Ce.i++tail:=by
   apply gU;intro f;rw[vV,P];by_cases z:f=k
   .subst z;rw[an ⟨ad _,aL,bE⟩,ax (by simpa using B)];simp[B]
   .rw[ae bE];rcases aW f e.length with a|a
    .rw[ax (by simpa using a),ax (by simpa using a)];simp only[cJ,cr (kC z)]
    .rw[aI (by simpa using a),aI (by simpa using a)];simp
  rw[<-K];exact J
 .rw[<-G,Hy]
  simp only[be,N,dY,dZ]
 .simp only[Xm]at y
  obtain⟨x,_,rfl⟩:=y
  rfl
 .simp only[cJ,l,nQ,DF]at A
  exact A.symm
def uJ(k:∀h∈S,h<d.size)(o:ap (bG S d) j e)(m:e.length<=10^12){a:Nat}(l:a<e.length)(n:Int):kY 237 [O.v j,vi a,vi n] d S (e.set a n=·):=by
 apply zf;refine(mj k o m).then λs _ q g b p=>⟨_,rfl,V,?_,?_⟩
 .subst b;have:=g.len bh;omega
 subst b;obtain⟨c,f,i,_⟩:=g.set (p.fz []) l n;exact⟨c,s,_,rfl,f,rfl,i.ext⟩
end
end Go.Proofs.YtkicoahejfbjhaaGreat
section
namespace Go.Vc
variable{l:List cV}{k d a:Nat}{x s:cV}{c:Prop}
open Go.Proofs.YtkicoahejfbjhaaGreat
def Bk.ind{Q:Bk->Prop}(h:∀aD r,(∀s∈aD,∀b∈s.bC,Q b)->Q (.mk aD r)):∀b,Q b
 | .mk aD r=>h aD r λs _ b _=>Bk.ind h b
termination_by b=>SizeOf.sizeOf b
decreasing_by
 rename_i a c
 have d:=oH a
 have e:=oH c
 have f:SizeOf.sizeOf s.bC<SizeOf.sizeOf s:=by cases s;simp;omega
 simp;omega
def Ex.ind{Q:Ex->Prop}(h:∀a bP bC,(∀e∈bC,Q e)->Q (.mk a bP bC)):∀e,Q e
 | .mk a bP bC=>h a bP bC λe _=>Ex.ind h e
termination_by e=>SizeOf.sizeOf e
decreasing_by
 rename_i a
 have b:=oH a
 simp;omega
def sw(l:List cV):Nat:=(l.map Mo.w).sum
def bw(l:List Bk):Nat:=(l.map Bk.w).sum
def en(l:List Ex):Nat:=(l.map Ex.n).sum
@[simp] theorem vj:sw []=0:=rfl
@[simp] theorem zy:bw []=0:=rfl
@[simp] theorem WV:en []=0:=rfl
def mI(x:cV)(l:List cV):sw (x::l)=x.w+sw l:=by simp[sw]
def uo(x:Bk)(l:List Bk):bw (x::l)=x.w+bw l:=by simp[bw]
def Om(x:Ex)(l:List Ex):en (x::l)=x.n+en l:=by simp[en]
def dC(a b:List cV):sw (a++b)=sw a+sw b:=by simp[sw]
def oN(a b:List Bk):bw (a++b)=bw a+bw b:=by simp[bw]
def Ns(a b:List Ex):en (a++b)=en a+en b:=by simp[en]
def Bk.qG(s:List cV)(r:Int):(Bk.mk s r).w=1+sw s:=Bk.Zb _
def Bk.mr(b:Bk):b.w=1+sw b.aD:=Bk.Zb b
def cV.mr(s:cV):s.w=1+s.args.length+bw s.bC:=rfl
def Ex.Sn(o n:Int)(k:List Ex):(Ex.mk o n k).n=1+en k:=by rw[Ex.n];rfl
def Ex.Yw(e:Ex):e.n=1+en e.bC:=by cases e;exact Ex.Sn _ _ _
def pR(h:l[k]? =some x):sw (l.take (k+1))=sw (l.take k)+x.w:=by rw[aU h,dC,mI,vj];rfl
def uq{l:List Bk}{x:Bk}(h:l[k]? =some x):bw (l.take (k+1))=bw (l.take k)+x.w:=by rw[aU h,oN,uo,zy];rfl
def Kc{l:List Ex}{x:Ex}(h:l[k]? =some x):en (l.take (k+1))=en (l.take k)+x.n:=by rw[aU h,Ns,Om,WV];rfl
def Bw(l:List cV)(k:Nat):sw (l.take k)<=sw l:=by
 have:=dC (l.take k) (l.drop k);rw[dm]at this;omega
def Kx(l:List Bk)(k:Nat):bw (l.take k)<=bw l:=by
 have:=oN (l.take k) (l.drop k);rw[dm]at this;omega
def Rv(l:List Ex)(k:Nat):en (l.take k)<=en l:=by
 have:=Ns (l.take k) (l.drop k);rw[dm]at this;omega
def OS(h:l[k]? =some x):x.w<=sw l:=by
 have:=pR h;have:=Bw l (k+1);omega
def wJ{l:List Bk}{x:Bk}(h:l[k]? =some x):x.w<=bw l:=by
 have:=uq h;have:=Kx l (k+1);omega
def fY:∀l:List cV,l.length<=sw l
 |[]=>aL
 |x::l=>by have:=fY l;rw[mI,aZ,cV.mr];omega
def Bk.Hf(b:Bk):1<=b.w:=by rw[Bk.mr];omega
def qb:∀l:List Bk,l.length<=bw l
 |[]=>aL
 |x::l=>by have:=qb l;have:=x.Hf;rw[uo,aZ];omega
def QC:∀l:List Ex,l.length<=en l
 |[]=>aL
 |x::l=>by have:=QC l;rw[Om,aZ,Ex.Yw];omega
def oY(a:Int):Prop:=0<=a/\a<=11
instance(a:Int):Decidable (oY a):=inferInstanceAs (Decidable (_/\_))
def dn(s:cV):Nat:=if oY s.op then 1 else 0
def dc(l:List cV):Nat:=(l.map dn).sum
@[simp] theorem sY:dc []=0:=rfl
def kK(x:cV)(l:List cV):dc (x::l)=dn x+dc l:=by simp[dc]
def cW(a b:List cV):dc (a++b)=dc a+dc b:=by simp[dc]
def qL(h:l[k]? =some x):dc (l.take (k+1))=dc (l.take k)+dn x:=by rw[aU h,cW,kK,sY];rfl
def Tm(l:List cV)(k:Nat):dc (l.take k)<=dc l:=by
 have:=cW (l.take k) (l.drop k);rw[dm]at this;omega
def Yd(x:cV):dn x<=1:=by unfold dn;split<;>omega
def sX:∀l:List cV,dc l<=l.length
 |[]=>aL
 |x::l=>by have:=sX l;have:=Yd x;rw[kK,aZ];omega
def BG(a:List bz)(b bP:Int)(i:Nat):Nat:=if b=8 then(cD a (((cy a bP)[i]?).getD 0)).length else 0
structure Uv(ds:List bz)(d:Nat)(c:Prop)(a:Nat)(s:cV):Prop where
 op:oY s.op\/c/\14<=s.op/\s.op<=17
 args:∀x∈s.args,0<=x/\x<(a:Int)
 lJ:14<=s.op\/s.op=7\/s.op=8->s.args.length=1
 bY:0<=s.bY/\s.bY<=(a:Int)
 Ka:s.op=7->s.bC.length=2
 all:s.op=8->s.bC.length=(cy ds s.bP).length/\0<s.bC.length
 call:s.op=9->0<=s.bP/\s.bP<(d:Int)
inductive WB(ds:List bz)(d:Nat)(c:Prop):Nat->Bk->Prop
 |mk {a:Nat} {aD:List cV} {r:Int} (eZ:∀(i:Nat)(s:cV),aD[i]? =some s->Uv ds d c (a+dc (aD.take i)) s)
  (bC:∀(i:Nat)(s:cV)(k:Nat)(b:Bk),aD[i]? =some s->s.bC[k]? =some b->WB ds d c (a+dc (aD.take i)+BG ds s.op s.bP k) b)
  (res:0<=r/\r<((a+dc aD:Nat):Int)):WB ds d c a (.mk aD r)
structure WS(ds:List bz)(d:Nat)(c:Prop)(a:Nat)(s:cV):Prop where
 eZ:Uv ds d c a s
 bC:∀(k:Nat)(b:Bk),s.bC[k]? =some b->WB ds d c (a+BG ds s.op s.bP k) b
def WL(b:List bz)(d:Nat)(c:Prop)(a:Nat)(l:List cV):Prop:=∀(i:Nat)(s:cV),l[i]? =some s->WS b d c (a+dc (l.take i)) s
def WB.aT{e:List bz}{b:Bk}(h:WB e d c a b):WL e d c a b.aD/\0<=b.aS/\b.aS<((a+dc b.aD:Nat):Int):=by
 cases h with
 |mk eZ bC j=>exact⟨λi s f=>⟨eZ i s f,λk b g=>bC i s k b f g⟩,j⟩
def WB.of{e:List bz}{aD:List cV}{r:Int}(h:WL e d c a aD)(j:0<=r/\r<((a+dc aD:Nat):Int)):WB e d c a (.mk aD r):=
 .mk (λi s b=>(h i s b).eZ) (λi s k f b g=>(h i s b).bC k f g) j
def WL.nil(b:List bz)(d:Nat)(c:Prop)(a:Nat):WL b d c a []:=λi s h=>by simp at h
def WL.append{f:List bz}{g:List cV}(h:WL f d c a l)(j:WL f d c (a+dc l) g):WL f d c a (l++g):=λi s e=>by
 rcases aW i l.length with b|b
 .rw[ax b]at e;rw[np V];exact h i s e
 .rw[aI b]at e;have:=j _ s e;rw[List.take_append,nB b,cW,<-dj];exact this
def WL.lJ{e:List bz}(h:WS e d c a s):WL e d c a [s]:=λi x b=>by
 have:i=0:=by have:=av b;simp at this;omega
 subst this;simp at b;subst b;simpa using h
def WL.yD{b:List bz}(h:WL b d c a l)(e:WS b d c (a+dc l) s):WL b d c a (l++[s]):=h.append (.lJ e)
def WL.take{e:List bz}(h:WL e d c a l)(k:Nat):WL e d c a (l.take k):=λi s b=>by
 rw[lE]at b;split at b
 .rw[Mj,jb V];exact h i s b
 .simp at b
def WL.drop{b:List bz}(h:WL b d c a l)(k:Nat):WL b d c (a+dc (l.take k)) (l.drop k):=λi s e=>by
 rw[rW]at e;have:=h _ s e;rw[List.take_add,cW,<-dj]at this;exact this
end Go.Vc
end
namespace Go.Proofs.YtkicoahejfbjhaaGreat
open Go.Vc
section
variable{m:E}{d p:O}{b:cN}
def vy(b:cN)(bP:Int)(n:Nat):Prop:=∃q:dy,0<=bP/\b.cF[bP.toNat]? =some q/\q.params.length=n
def Ug:cT 9223372036854775808= -9223372036854775808:=bh
def wy(h:fw m d p b)(bP:Int)(n gX:Nat)(I:n<=9223372036854775807)(H:gX<=1):
 dt cg 202 [.agg #[O.v d,O.v p],vi bP,vi n,vi gX] m (vy b bP (n+gX)):=by
 apply CU
 simp -zeta only[aC,aB]
 intro j
 have i:J m j:=(J.az m).aK _
 have w:∀k∈[m.size],k<j.size:=by simp[j]
 have K:=h.cF.len
 have L:=h.cF.gS
 refine(aY _ _ _ _).aH (J.az _) w λk M o f B=>⟨_,rfl,λa=>?_,λa=>?_⟩
 .have a:=o.1 a
  rw[aQ V V]at a
  let⟨q,g⟩:=cG b.cF bP.toNat
  let⟨e,x,y,l,D,E,s,g1,g2,z,A⟩:=(iG.ext (i.trans f) h.cF).aF g
  refine⟨V,V,e,s,eT ?_ (i.trans f)⟩
  have u:=l.len
  have C:=l.gS
  simp only[aG]
  have r:(e.len:Int)=cT ((n:Int)+(gX:Int))<->e.len=n+gX:=by
   rcases aW (n+gX) 9223372036854775808 with G|F
   .rw[aQ V V];omega
   .have c:(n:Int)+(gX:Int)=9223372036854775808:=V;rw[c,Ug];omega
  rw[r,u]
  exact⟨λv=>⟨q,a.1,g,v⟩,λ⟨N,_,c,t⟩=>by rw[g]at c;simp at c;rw[c];exact t⟩
 .refine bV (λ⟨q,e,c,_⟩=>fb o a ?_) (i.trans f)
  have:=av c
  rw[aQ V V]
  omega
def lY(b:cN)(p:dy)(k:Nat)(i:Instr):Prop:=
 if i.op=0 then i.args.length=0/\-999<=i.bP/\i.bP<=999
 else if i.op=1\/i.op=2\/i.op=3\/i.op=4\/i.op=11 then i.args.length=2/\i.bP=0
 else if i.op=5\/i.op=14\/i.op=15\/i.op=18\/i.op=23 then i.args.length=1/\i.bP=0
 else if i.op=6 then(0<=i.bP/\i.bP<(eR b.bo).length)/\i.args.length=(cD b.bo i.bP).length/\0<=i.bY/\i.bY<=p.ak
 else if i.op=9\/i.op=24 then vy b i.bP i.args.length
 else if i.op=10 then vy b i.bP (i.args.length+1)/\∀q,b.cF[i.bP.toNat]? =some q->q.cR.length=0
 else if i.op=16\/i.op=17 then(1<=i.args.length/\i.args.length<=4)/\i.bP=0
 else if i.op=19 then i.args.length=1/\0<=i.bP/\i.bP<=2
 else if i.op=20 then i.args.length=1/\(k:Int)+1<=i.bP/\i.bP<=(p.dq.length:Int) -1
 else if i.op=22 then i.args.length=0/\(k:Int)+1<=i.bP/\i.bP<=(p.dq.length:Int) -1
 else if i.op=21 then i.args.length=1/\0<(cy b.bo i.bP).length/\N4 i.eL (cy b.bo i.bP).length k p.dq.length
 else False
structure iO(b:cN)(p:dy)(k:Nat)(i:Instr):Prop where
 args:∀a∈i.args,0<=a/\a<=p.ak -1
 dst:0<=i.dst/\i.dst<=p.ak -1
 Ye:i.dst=0\/lO i.op
 bY:i.bY=0\/i.op=6
 eL:i.op=21\/i.eL.length=0
 op:lY b p k i
structure Pf(m:E)(a l:O)(c:O)(p:dy):Prop where
 params:ap m a p.params
 cR:ap m l p.cR
 dq:fe m c p.dq
def Pf.ext{m d:E}(a:J m d){b l c:O}{p:dy}(h:Pf m b l c p):Pf d b l c p:=⟨h.params.ext a,h.cR.ext a,fe.ext a h.dq⟩
def EQ(ai:fw m d p b)(X:dT b.bo){ab ah S:O}{q:dy}(U:Pf m ab ah S q)(hr:1<=q.ak/\q.ak<=2000){k:Nat}{i:Instr}(hk:q.dq[k]? =some i):
 dt cg 160 [.agg #[O.v d,O.v p],.agg #[O.v ab,O.v ah,vi q.aS,vi q.ak,O.v S],vi k] m (iO b q k i):=by
 apply y8
 simp -zeta only[aC,aB]
 intro m1 N
 have Z:J m N:=((J.az m).aK _).aK _
 have aJ:=av hk
 have ac:=U.dq.len
 have aF:=U.dq.gS
 let⟨xa,M,P,hj,g0,g1,g2,g3,g4,g5⟩:=(fe.ext Z U.dq).aF hk
 refine⟨V,V,_,g0,_,g1,_,g2,_,g3,_,g4,_,g5,?_⟩
 intro m3 z
 have r:J m z:=(Z.aK _).ah Z.size _ _
 have ag:J N z:=((J.az N).aK _).ah (ad _) _ _
 have v:∀A∈[N.size,m1.size,m.size],A<z.size:=by
  simp[z,m3,N,m1,aw];omega
 clear_value z
 have T:=P.len
 have aI:=hj.len
 have aA:=P.gS
 have er:cT (q.ak -1)=q.ak -1:=aQ V V
 rw[er]
 refine dU (n:=i.args.length) (T▸P.gS) (λaa s=>J z s/\∀x∈i.args.take aa,0<=x/\x<=q.ak -1) ⟨J.az _,aL⟩ ?_
 rintro aa m5 ay μ aH ⟨Y,hn⟩ au
 refine dit (λh1=>?_) λh1=>?_
 .let⟨x,a⟩:=cG i.args aa
  refine⟨V,V,x,by simpa using(ag.trans Y).af (P.aF a),?_⟩
  exact(aY _ _ _ _).aH Y v λA w e g f=>⟨_,rfl,λc=>bV (λh=>nb e c (h.args x (aq a))) (r.trans f),λc=>au V _ ⟨f,bB a hn (yb e c)⟩⟩
 .have ak:=db V hn
  refine⟨λs=>J z s/\(0<=i.dst/\i.dst<=q.ak -1)/\(i.dst=0\/lO i.op)/\(i.bY=0\/i.op=6)/\(i.op=21\/i.eL.length=0),?_,?_⟩
  .refine(aY _ _ _ _).aH Y v λA w e g f=>⟨_,rfl,λc=>bV (λh=>nb e c h.dst) (r.trans f),λc=>?_⟩
   have R:=yb e c
   have tail:∀s:E,J z s->(i.dst=0\/lO i.op)->
    ((i.bY !=0)=true->((i.op !=6)=true->∃B:Bool,vb false=.bool B/\(B=true<->iO b q k i)/\J m s)/\((i.op !=6)=false->
     ((i.op !=21)=true->((decide ((M.len:Int)>0))=true->∃B:Bool,vb false=.bool B/\(B=true<->iO b q k i)/\J m s)/\((decide ((M.len:Int)>0))=false->J z s/\(0<=i.dst/\i.dst<=q.ak -1)/\(i.dst=0\/lO i.op)/\(i.bY=0\/i.op=6)/\(i.op=21\/i.eL.length=0)))/\
     ((i.op !=21)=false->J z s/\(0<=i.dst/\i.dst<=q.ak -1)/\(i.dst=0\/lO i.op)/\(i.bY=0\/i.op=6)/\(i.op=21\/i.eL.length=0))))/\
    ((i.bY !=0)=false->
     ((i.op !=21)=true->((decide ((M.len:Int)>0))=true->∃B:Bool,vb false=.bool B/\(B=true<->iO b q k i)/\J m s)/\((decide ((M.len:Int)>0))=false->J z s/\(0<=i.dst/\i.dst<=q.ak -1)/\(i.dst=0\/lO i.op)/\(i.bY=0\/i.op=6)/\(i.op=21\/i.eL.length=0)))/\
     ((i.op !=21)=false->J z s/\(0<=i.dst/\i.dst<=q.ak -1)/\(i.dst=0\/lO i.op)/\(i.bY=0\/i.op=6)/\(i.op=21\/i.eL.length=0))):=by
    intro s l Q
    have u:(i.bY=0\/i.op=6)->((i.op !=21)=true->((decide ((M.len:Int)>0))=true->∃B:Bool,vb false=.bool B/\(B=true<->iO b q k i)/\J m s)/\((decide ((M.len:Int)>0))=false->J z s/\(0<=i.dst/\i.dst<=q.ak -1)/\(i.dst=0\/lO i.op)/\(i.bY=0\/i.op=6)/\(i.op=21\/i.eL.length=0)))/\
     ((i.op !=21)=false->J z s/\(0<=i.dst/\i.dst<=q.ak -1)/\(i.dst=0\/lO i.op)/\(i.bY=0\/i.op=6)/\(i.op=21\/i.eL.length=0)):=by
     intro t
     refine⟨λa=>⟨λj=>?_,λj=>?_⟩,λa=>?_⟩
     .simp at a j
      exact bV (λh=>by rcases h.eL with o|o<;>omega) (r.trans l)
     .simp at j
      exact⟨l,R,Q,t,Or.inr V⟩
     .simp at a
      exact⟨l,R,Q,t,Or.inl a⟩
    refine⟨λa=>⟨λj=>?_,λj=>u (Or.inr (by simpa using j))⟩,λa=>u (Or.inl (by simpa using a))⟩
    simp at a j
    exact bV (λh=>by rcases h.bY with o|o<;>contradiction) (r.trans l)
   refine⟨λa=>?_,λa=>tail w f (Or.inl (by simpa using a))⟩
   refine(xC _ _).aH f v λA x e j o=>⟨_,rfl,λG=>?_,λG=>tail x o (Or.inr (yb e G))⟩
   simp at a
   exact bV (λh=>by rcases h.Ye with I|I;exact a I;exact nb e G I) (r.trans o)
  .rintro m8 ⟨x,R,Q,ao,ap⟩
   have y:=r.trans x
   have am:iO b q k i<->lY b q k i:=⟨λh=>h.op,λh=>⟨ak,R,Q,ao,ap,h⟩⟩
   rw[am]
   have K:fw m8 d p b:=fw.ext y ai
   refine⟨λt=>?_,λt=>?_⟩
   .simp only[aG]at t
    have h:lY b q k i<->i.args.length=0/\-999<=i.bP/\i.bP<=999:=by rw[lY,an t]
    rw[h]
    refine⟨λg=>?_,λg=>?_⟩
    .simp only[aG]at g
     refine(aY _ _ _ _).aH x v λA H e f c=>⟨_,rfl,eT ?_ (r.trans c)⟩
     rw[e];omega
    .simp only[aj]at g
     exact bV V y
   simp only[aj]at t
   refine⟨λu=>?_,λu=>?_⟩
   .simp only[bQ,aG]at u
    have h:lY b q k i<->i.args.length=2/\i.bP=0:=by rw[lY,ae t,an u]
    rw[h]
    refine⟨λg=>eT ?_ y,λg=>bV ?_ y⟩
    .simp only[aG]at g⊢;omega
    .simp only[aj]at g;omega
   simp only[br,aj]at u
   replace u:¬(i.op=1\/i.op=2\/i.op=3\/i.op=4\/i.op=11):=V
   refine⟨λw=>?_,λw=>?_⟩
   .simp only[bQ,aG]at w
    have h:lY b q k i<->i.args.length=1/\i.bP=0:=by rw[lY,ae t,ae u,an w]
    rw[h]
    refine⟨λg=>eT ?_ y,λg=>bV ?_ y⟩
    .simp only[aG]at g⊢;omega
    .simp only[aj]at g;omega
   simp only[br,aj]at w
   replace w:¬(i.op=5\/i.op=14\/i.op=15\/i.op=18\/i.op=23):=V
   refine⟨λC=>?_,λC=>?_⟩
   .simp only[aG]at C
    have h:lY b q k i<->(0<=i.bP/\i.bP<(eR b.bo).length)/\i.args.length=(cD b.bo i.bP).length/\0<=i.bY/\i.bY<=q.ak:=by rw[lY,ae t,ae u,ae w,an C]
    rw[h]
    refine(mh K.bo X _).aH x v ?_
    rintro _ H ⟨aD,rfl,D,f⟩
    refine⟨f,_,rfl,dit (λc=>?_) λc=>?_⟩
    .have al:0<=i.bP/\i.bP<(eR b.bo).length:=by
      rcases D with⟨F,L,a,j,o,G⟩|⟨a,_⟩
      .have:=Rw b.bo (show F+1<=b.bo.length from av j);rw[sB j,mP b.bo _ (ad _)]at this;omega
      .omega
     refine(Gl (cw.ext f K.bo) X _).aH (x.trans f) v ?_
     rintro _ ar ⟨ax,rfl,W,a⟩
     have af:=W.len
     refine⟨a,_,rfl,λj=>?_,λj=>?_⟩
     .simp only[aG]at j
      refine(aY _ _ _ _).aH ((x.trans f).trans a) v λA az e o G=>⟨_,rfl,eT ?_ (r.trans G)⟩
      rw[e]
      exact⟨λl=>⟨al,V,l⟩,λl=>l.2.2⟩
     .simp only[aj]at j
      exact bV (λl=>j V) ((y.trans f).trans a)
    .refine bV (λl=>?_) (y.trans f)
     rcases D with⟨F,L,a,j,o,G⟩|⟨_,a⟩
     .omega
     .exact a l.1
   simp only[aj]at C
   refine⟨λD=>?_,λD=>?_⟩
   .simp only[bQ,aG]at D
    have h:lY b q k i<->vy b i.bP (i.args.length+0):=by rw[lY,ae t,ae u,ae w,ae C,an D];rfl
    rw[h]
    have L:=wy K i.bP i.args.length 0 V V
    rw[T]
    refine L.aH x v λA H e f c=>⟨_,rfl,eT e (r.trans c)⟩
   simp only[br,aj]at D
   replace D:¬(i.op=9\/i.op=24):=V
   refine⟨λF=>?_,λF=>?_⟩
   .simp only[aG]at F
    have h:lY b q k i<->vy b i.bP (i.args.length+1)/\∀q,b.cF[i.bP.toNat]? =some q->q.cR.length=0:=by rw[lY,ae t,ae u,ae w,ae C,ae D,an F]
    rw[h]
    have L:=wy K i.bP i.args.length 1 V V
    rw[T]
    refine L.aH x v λA H e f c=>⟨_,rfl,λa=>?_,λa=>bV (λl=>fb e a l.1) (r.trans c)⟩
    let⟨q',j,o,G⟩:=(e.1 a)
    let⟨a',B,c',az,al,aE,f0,f1,f2,f3,f4⟩:=(iG.ext f K.cF).aF o
    have:=K.cF.len
    have:=av o
    refine⟨V,V,B,f1,eT ?_ (r.trans c)⟩
    have aD:=al.len
    simp only[aG]
    refine⟨λl=>⟨⟨q',j,o,G⟩,λaK I=>?_⟩,λl=>?_⟩
    .rw[o]at I;simp at I;subst I;omega
    .have:=l.2 q' o;omega
   simp only[aj]at F
   refine⟨λB=>?_,λB=>?_⟩
   .simp only[bQ,aG]at B
    have h:lY b q k i<->(1<=i.args.length/\i.args.length<=4)/\i.bP=0:=by rw[lY,ae t,ae u,ae w,ae C,ae D,ae F,an B]
    rw[h]
    refine(aY _ _ _ _).aH x v λA H e f c=>⟨_,rfl,λa=>eT ?_ (r.trans c),λa=>bV ?_ (r.trans c)⟩
    .have a:=e.1 a
     simp only[aG];omega
    .have a:=fb e a;omega
   simp only[br,aj]at B
   replace B:¬(i.op=16\/i.op=17):=V
   refine⟨λG=>?_,λG=>?_⟩
   .simp only[aG]at G
    have h:lY b q k i<->i.args.length=1/\0<=i.bP/\i.bP<=2:=by rw[lY,ae t,ae u,ae w,ae C,ae D,ae F,ae B,an G]
    rw[h]
    refine⟨λg=>?_,λg=>?_⟩
    .simp only[aG]at g
     refine(aY _ _ _ _).aH x v λA H e f c=>⟨_,rfl,eT ?_ (r.trans c)⟩
     rw[e];omega
    .simp only[aj]at g
     exact bV V y
   simp only[aj]at G
   have ek:cT ((k:Int)+1)=(k:Int)+1:=aQ V V
   have ec:cT ((S.len:Int) -1)=(q.dq.length:Int) -1:=by rw[aQ V V,ac]
   rw[ek,ec]
   refine⟨λI=>?_,λI=>?_⟩
   .simp only[aG]at I
    have h:lY b q k i<->i.args.length=1/\(k:Int)+1<=i.bP/\i.bP<=(q.dq.length:Int) -1:=by rw[lY,ae t,ae u,ae w,ae C,ae D,ae F,ae B,ae G,an I]
    rw[h]
    refine⟨λg=>?_,λg=>?_⟩
    .simp only[aG]at g
     refine(aY _ _ _ _).aH x v λA H e f c=>⟨_,rfl,eT ?_ (r.trans c)⟩
     rw[e];omega
    .simp only[aj]at g
     exact bV V y
   simp only[aj]at I
   refine⟨λL=>?_,λL=>?_⟩
   .simp only[aG]at L
    have h:lY b q k i<->i.args.length=0/\(k:Int)+1<=i.bP/\i.bP<=(q.dq.length:Int) -1:=by rw[lY,ae t,ae u,ae w,ae C,ae D,ae F,ae B,ae G,ae I,an L]
    rw[h]
    refine⟨λg=>?_,λg=>?_⟩
    .simp only[aG]at g
     refine(aY _ _ _ _).aH x v λA H e f c=>⟨_,rfl,eT ?_ (r.trans c)⟩
     rw[e];omega
    .simp only[aj]at g
     exact bV V y
   simp only[aj]at L
   refine⟨λg=>?_,λg=>?_⟩
   .simp only[aG]at g
    have h:lY b q k i<->i.args.length=1/\0<(cy b.bo i.bP).length/\N4 i.eL (cy b.bo i.bP).length k q.dq.length:=by rw[lY,ae t,ae u,ae w,ae C,ae D,ae F,ae B,ae G,ae I,ae L,an g]
    rw[h]
    refine(Au K.bo X _).aH x v ?_
    rintro _ H ⟨ax,rfl,W,f⟩
    have af:=W.len
    refine⟨f,_,rfl,λc=>?_,λc=>?_⟩
    .simp only[aG]at c
     refine dit (λa=>?_) λa=>?_
     .rw[af,ac]
      refine(ER (hj.ext (ag.trans (x.trans f))) _ _ _ V V).aH (x.trans f) v λA ar e j o=>⟨_,rfl,eT ?_ (r.trans o)⟩
      rw[e]
      exact⟨λl=>⟨V,V,l⟩,λl=>l.2.2⟩
     .exact bV (λl=>V) (y.trans f)
    .simp only[aj]at c
     exact bV (λl=>V) (y.trans f)
   .simp only[aj]at g
    have h:lY b q k i<->False:=by rw[lY,ae t,ae u,ae w,ae C,ae D,ae F,ae B,ae G,ae I,ae L,ae g]
    rw[h]
    exact bV (λl=>l) y
end
section
variable{a:E}{d p:O}{b:cN}
structure Kp(ds:List bz)(ps:List dy):Prop where
 types:dT ds
 len:1<=ps.length/\ps.length<=4
 dz:∀p∈ps,p.params.length<=3/\Fe ds.length p.params/\zm ds.length p.aS
 first:∀p,ps[0]? =some p->p.params.length=0/\p.aS=0
def oI(a:E)(c:List Ce)(p:dy):Prop:=∃b,c=[.s b,.i p.aS,.i 0,.i 0,.s .nil]/\ap a b p.params
def oI.ext{a d:E}(h:J a d)(b:List Ce)(c:dy):oI a b c->oI d b c:=λ⟨f,e,g⟩=>⟨f,e,g.ext h⟩
def SL.aF{s:O}{l:List dy}(h:eS a 5 (oI a) s l){k:Nat}{x:dy}(e:l[k]? =some x):
 ∃b,ap a b x.params/\af a s.D (s.off+k*5)=some (O.v b)/\af a s.D (s.off+k*5+1)=some (vi x.aS)/\af a s.D (s.off+k*5+2)=some (vi 0)/\af a s.D (s.off+k*5+3)=some (vi 0)/\af a s.D (s.off+k*5+4)=some (O.v .nil):=by
 obtain⟨f,⟨b,rfl,d⟩,c⟩:=h.iA k x e
 exact⟨b,d,c 0 (.s b) rfl,c 1 (.i x.aS) rfl,c 2 (.i 0) rfl,c 3 (.i 0) rfl,c 4 (.s .nil) rfl⟩
def uI{D:O}{k:List bz}{j:List dy}(hd:cw a d k)(y:eS a 5 (oI a) D j):
 dt cg 86 [.agg #[O.v d,O.v D]] a (Kp k j):=by
 apply Bu
 simp -zeta only[aC,aB]
 intro q
 have o:J a q:=(J.az a).aK _
 have z:∀g∈[a.size],g<q.size:=by simp[q]
 have m:=hd.len
 have aa:=y.len
 refine(EV (cw.ext o hd)).aH (J.az _) z λg m2 c N Q=>⟨_,rfl,λv=>bV (λb=>nb c v b.types) (o.trans N),λv=>?_⟩
 have T:=yb c v
 refine(aY _ _ _ _).aH Q z λg m3 c Z H=>⟨_,rfl,λw=>bV (λb=>nb c w (oh b.len)) (o.trans H),λw=>?_⟩
 have ab:=yb c w
 refine dU (n:=j.length) V (λB e=>J q e/\∀p∈j.take B,p.params.length<=3/\Fe k.length p.params/\zm k.length p.aS) ⟨H,aL⟩ ?_
 rintro B C X μ hj ⟨A,K⟩ W
 have f:=o.trans A
 refine dit (λR=>?_) λR=>?_
 .let⟨p,e⟩:=cG j B
  let⟨M,l,s,g1,g2,E,F⟩:=SL.aF (y.mono f (oI.ext f)) e
  have S:=l.len
  refine⟨V,V,_,s,_,g1,_,g2,_,E,_,F,?_⟩
  intro L r
  have i:J C r:=((J.az C).aK _).ah (ad _) _ _
  have I:∀g∈[C.size,a.size],g<r.size:=by
   have:=A.lt (z a.size aL);have:=i.size;simp[r,L,aw];simp[r,L,aw]at this;omega
  refine dit (λh=>?_) λh=>?_
  .exact bV (λb=>oh ((b.dz p (aq e)).1)) (f.trans i)
  refine(vX (l.ext i) _).aH (J.az _) I λg m7 c x P=>⟨_,rfl,λt=>bV (λb=>nb c t (m▸(b.dz p (aq e)).2.1)) ((f.trans i).trans x),λt=>?_⟩
  have U:=yb c t
  refine(aY _ _ _ _).aH P I λg m8 c Y G=>⟨_,rfl,λu=>?_,λu=>?_⟩
  .refine bV (λb=>nb c u ?_) ((f.trans i).trans G)
   rw[m];exact(b.dz p (aq e)).2.2
  .refine W V _ ⟨(A.trans i).trans G,bB e K ⟨V,m▸U,?_⟩⟩
   have:=yb c u
   rw[m]at this;exact this
 .have r:=db V K
  let⟨p,e⟩:=cG j 0
  let⟨M,l,s,g1,g2,E,F⟩:=SL.aF (y.mono f (oI.ext f)) e
  have S:=l.len
  refine⟨V,V,_,s,λh=>?_,λh=>?_⟩
  .simp only[aG]at h
   refine⟨V,V,_,g1,eT ?_ f⟩
   simp only[aG]
   refine⟨λx=>⟨T,V,r,λt i=>?_⟩,λb=>(b.first p e).2⟩
   rw[e]at i;simp at i;subst i
   exact⟨V,x⟩
  .simp only[aj]at h
   exact bV (λb=>h (oh ((b.first p e).1))) f
def CZ(M:fw a d p b)(ap:b.cF.length<=4):
 aN cg 87 [.agg #[O.v d,O.v p]] a λal j=>∃L,al=.agg #[O.v d,O.v L]/\eS j 5 (oI j) L b.cF/\J a j:=by
 apply xD
 simp -zeta only[aC,aB]
 intro q k e K l
 have aq:=M.cF.len
 have ah:J a K:=(((J.az a).aK _).aK _|>.aK _).aK _
 have s3:e.size=a.size+3:=by simp[e,k,q]
 have s2:k.size=a.size+2:=by simp[k,q]
 have s1:q.size=a.size+1:=by simp[q]
 have s5:l.size=a.size+4:=by simp[l,K,aw,s3]
 have ai:J a l:=ah.ah V _ _
 have aa:cE l e.size kG [.s d,.s (.mk k.size 0 0 0)]:=cE.ah (m:=K) (o:=0) (r:=[.s d,.s (.mk k.size 0 0 0)]) (cE.push e _ _)
 have ag:J e l:=((J.az e).aK _).ah (ad _) _ _
 have ae:gV a l fm 5 (.mk k.size 0 0 0) ([]:List (List Ce)).flatten:=
  (gV.new (((J.az a).aK _).aK _:J a k) fm 5 [] 0 aL:gV a e fm 5 (.mk k.size 0 0 0) []).ext ag
 clear_value l
 refine dU (n:=b.cF.length) V (λC j=>J a j/\l.size<=j.size/\∃g w,cE j e.size kG [.s d,.s g]/\gV a j fm 5 g w.flatten/\gP 5 (oI a) w (b.cF.take C)/\g≠.nil/\q.size<g.D/\g.D≠e.size/\g.len=C)
  ⟨ai,ad _,_,[],aa,ae,by simpa using gP.nil 5 (oI a),aL,bE,bE,rfl⟩ ?_
 rintro C z am μ hk ⟨A,ay,g,w,x,P,I,au,ar,af,R⟩ ak
 refine dit (λT=>?_) λT=>?_
 .let⟨D,Q⟩:=cG b.cF C
  let⟨s,c,an,Z,f,hc,S,g1,g2,g3,g4⟩:=M.cF.aF Q
  refine⟨g,x.bZ 1,V,V,s,by simpa using A.af S,V,V,_,by simpa using A.af g2,?_⟩
  intro h
  have B:J z h:=J.push _ _
  refine⟨B.da (x.bZ 1),?_⟩
  have jt:fP h z.size 0 [.s s,.i D.aS,.i 0,.i 0,.s .nil]:=(cE.push z _ _).iA
  have ac:=x.ext B
  have av:h.size=z.size+1:=by simp[h]
  clear_value h
  refine gV.append (zs:=[.s .nil,.i 0,.i 0,.i 0,.s .nil]) (d:=[.s s,.i D.aS,.i 0,.i 0,.s .nil]) (P.ext B) (A.trans B) rfl jt (by simp[R];omega) ?_
  intro v t X Y F ao U W
  have E:∀c,c<h.size->c≠g.D->t[c]? =h[c]? :=λc f G=>U c f (λ_=>G)
  have y:q.size<v.D/\v.D≠e.size:=by
   rcases W with⟨_,i⟩|⟨_,i,_⟩|i
   .rw[i]at F;simp at F
   .rw[i];constructor<;>omega
   .rw[i];constructor<;>omega
  have N:cE t e.size kG [.s d,.s g]:=ac.congr (E _ V (λi=>af i.symm))
  refine⟨λc f=>?_,N.fJ aL,?_⟩
  .simp at f
   rcases f with rfl|rfl
   .exact E _ V V
   .exact E _ V V
  intro u
  have ax:u.size=t.size:=by simp[u,aw]
  have ab:cE u e.size kG [.s d,.s v]:=cE.ah (m:=t) (o:=1) (r:=[.s v]) N
  have H:∀c,c≠e.size->u[c]? =t[c]? :=λc f=>bd _ _ _ _ f
  have aj:J a u:=Y.ah V _ _
  clear_value u
  refine⟨λc f=>?_,?_⟩
  .simp at f
   rcases f with rfl|rfl
   .exact H _ V
   .exact H _ V
  refine ak V _ ⟨aj,V,v,w++[[.s s,.i D.aS,.i 0,.i 0,.s .nil]],ab,?_,?_,?_,y.1,y.2,by simp[F,R]⟩
  .rw[qH]
   exact(by simpa using X:gV a t fm 5 v (w.flatten++[[.s s,.i D.aS,.i 0,.i 0,.s .nil]].flatten)).congr (H _ y.2)
  .rw[aU Q]
   exact I.yD rfl ⟨s,rfl,Z⟩
  .intro i
   rw[i]at y;simp at y
 .refine⟨d,x.bZ 0,g,x.bZ 1,?_⟩
  intro h
  have G:∀c,c≠q.size->h[c]? =z[c]? :=λc f=>bd _ _ _ _ f
  have i:J a h:=A.ah V _ _
  refine⟨g,rfl,?_,i⟩
  rw[bX V]at I
  exact(eS.fZ (P.congr (G _ V)) I V V).mono (J.az _) (oI.ext i)
structure Hr(b:cN)(p:dy):Prop where
 cR:DI p.params p.cR
 ak:(p.params.length:Int)<=p.ak/\1<=p.ak/\p.ak<=2000
 len:1<=p.dq.length/\p.dq.length<=2000
 dz:∀(k:Nat)(i:Instr),p.dq[k]? =some i->iO b p k i
 MF:∀i,p.dq[p.dq.length -1]? =some i->i.op=23\/i.op=24
def G6(N:fw a d p b)(T:dT b.bo){C K w:O}{q:dy}(m:Pf a C K w q):
 dt cg 88 [.agg #[O.v d,O.v p],.agg #[O.v C,O.v K,vi q.aS,vi q.ak,O.v w]] a (Hr b q):=by
 apply Br
 simp -zeta only[aC,aB]
 intro L u
 have j:J a u:=((J.az a).aK _).aK _
 have v:∀o∈[L.size,a.size],o<u.size:=by simp[u,L];omega
 clear_value u
 have aa:=m.params.len
 have ab:=m.dq.len
 refine(uH (m.params.ext j) (m.cR.ext j)).aH (J.az _) v λo m3 e P R=>⟨_,rfl,λy=>bV (λf=>nb e y f.cR) (j.trans P),λy=>?_⟩
 have G:=yb e y
 refine(aY _ _ _ _).aH R v λo m4 e h4 D=>⟨_,rfl,λz=>?_,λz=>?_⟩
 .refine bV (λf=>nb e z ?_) (j.trans D)
  have:=f.ak
  split<;>omega
 have S:=yb e z
 refine(aY _ _ _ _).aH D v λo m5 e h7 E=>⟨_,rfl,λA=>bV (λf=>nb e A (oh f.len)) (j.trans E),λA=>?_⟩
 have ad:=yb e A
 have B:(q.params.length:Int)<=q.ak/\1<=q.ak/\q.ak<=2000:=by
  split at S<;>omega
 refine dU (n:=q.dq.length) V (λt U=>J u U/\∀(k:Nat)(i:Instr),k<t->q.dq[k]? =some i->iO b q k i) ⟨E,aL⟩ ?_
 rintro t m6 X μ hj ⟨I,H⟩ W
 have r:=j.trans I
 refine dit (λQ=>?_) λQ=>?_
 .let⟨i,h⟩:=cG q.dq t
  refine(EQ (fw.ext r N) T (m.ext r) B.2 h).aH I v λo Y e l g=>⟨_,rfl,λx=>bV (λf=>nb e x (f.dz t i h)) (j.trans g),λx=>?_⟩
  refine W V _ ⟨g,λk s M c=>?_⟩
  by_cases F:k=t
  .subst F
   rw[h]at c;simp at c;subst c
   exact yb e x
  .exact H k s V c
 .let⟨i,h⟩:=cG q.dq (q.dq.length -1)
  let⟨xa,xj,ha,ac,x,g1,g2,Y,Z,g5⟩:=(fe.ext r m.dq).aF h
  have M:cT ((w.len:Int) -1)=((q.dq.length -1:Nat):Int):=by rw[aQ V V];omega
  rw[M]
  have F:∀(k:Nat)(i:Instr),q.dq[k]? =some i->iO b q k i:=λk s c=>H k s (oh (av c)) c
  refine⟨V,V,_,by simpa using x,λl=>?_,λl=>?_⟩
  .simp only[aG]at l
   refine iN ⟨G,B,V,F,λs c=>?_⟩ r
   rw[h]at c;simp at c;subst c
   exact Or.inl l
  .simp only[aj]at l
   refine⟨V,V,_,by simpa using x,eT ?_ r⟩
   simp only[aG]
   refine⟨λg=>⟨G,B,V,F,λs c=>?_⟩,λf=>?_⟩
   .rw[h]at c;simp at c;subst c
    exact Or.inr g
   .rcases f.MF i h with g|g
    .exact absurd g l
    .exact g
structure nj(b:cN):Prop where
 nN:Kp b.bo b.cF
 dz:∀p∈b.cF,Hr b p
def tF(h:fw a d p b):dt cg 53 [.agg #[O.v d,O.v p]] a (nj b):=by
 apply yZ;simp -zeta only[aC,aB];intro g;have e:J a g:=(J.az a).aK _;have m:∀i∈[a.size],i<g.size:=by simp[g]
 clear_value g;have Q:=h.cF.len;refine dit (λC=>?_) λC=>?_
 .exact bV (λf=>oh f.nN.len) e
 refine(CZ (fw.ext e h) V).aH (J.az _) m ?_;rintro _ R ⟨y,rfl,G,j⟩;refine⟨j,d,y,rfl,?_⟩;refine(uI (cw.ext (e.trans j) h.bo) G).aH j m λi S c M t=>⟨_,rfl,λk=>bV (λf=>nb c k f.nN) (e.trans t),λk=>?_⟩;have w:=yb c k;refine dU (n:=b.cF.length) V (λr l=>J g l/\∀s∈b.cF.take r,Hr b s) ⟨t,aL⟩ ?_;rintro r T I μ P ⟨x,v⟩ H
 have q:=e.trans x;refine dit (λD=>?_) λD=>?_
 .let⟨s,o⟩:=cG b.cF r;let⟨K,i,L,E,c,F,z,g1,g2,A,B⟩:=(iG.ext q h.cF).aF o;refine⟨V,V,_,z,_,g1,_,g2,_,A,_,B,?_⟩;exact(G6 (fw.ext q h) w.types ⟨E,c,F⟩).aH x m λi U c N u=>⟨_,rfl,λl=>bV (λf=>nb c l (f.dz s (aq o))) (e.trans u),λl=>H V _ ⟨u,bB o v (yb c l)⟩⟩
 .exact iN ⟨w,db V v⟩ q
end
section
variable{m:E}{s:O}{l:List Int}
def eS.Tl{α:Type}{c:Nat}{R:List Ce->α->Prop}{l:List α}(h:eS m c R s l){k:Nat}(n:k<=l.length):eS m c R (s.cut 0 k c) (l.take k):=by
 have b:=h.len;have e:=h.cap;have g:=h.gS;cases s with
 |nil=>
  simp at b;have:k=0:=V;subst this;exact⟨by simp[O.cut],by simp[O.cut],by simp[O.cut],aL⟩
 |zD d o a=>
  simp at b;have:k=0:=V;subst this;exact⟨by simp[O.cut],by simp[O.cut],by simp[O.cut],aL⟩
 |mk d o p i=>
  simp only[O.gE,O.Oh]at b e g;refine⟨by simp[O.cut];omega,by simp[O.cut];omega,by simp[O.cut];omega,λj x a=>?_⟩;have f:j<k:=by have:=av a;simp at this;omega
  rw[lE,an f]at a;have:=h.iA j x a;simpa[O.cut]using this
def pB(bo:O)(t:Int)(m:E):dt cg 196 [O.v bo,vi t] m (zm bo.len t):=by
 apply FL;refine⟨λh=>eT ?_ (J.az _),λh=>bV ?_ (J.az _)⟩<;>simp at h
 .simp[zm,h]
 .unfold zm;omega
def vF{g:O}(b:ap m g l)(bo:O):dt cg 195 [O.v bo,O.v g] m (Fe bo.len l):=by
 apply Cc;have i:=b.len;refine dU (n:=l.length) (i▸b.gS) (λk a=>J m a/\∀t∈l.take k,zm bo.len t) ⟨J.az _,aL⟩ ?_;rintro k r I μ q ⟨a,f⟩ o
 refine dit (λh=>?_) λh=>?_
 .let⟨x,c⟩:=cG l k;refine⟨V,V,x,by simpa using a.af (b.aF c),?_⟩;exact(pB _ _ _).then λp s e d=>⟨_,rfl,λh=>bV (λj=>nb e h (j x (aq c))) (a.trans d),λh=>o V _ ⟨a.trans d,bB c f (yb e h)⟩⟩
 .exact iN (db V f) a
def rc(a:Int)(m:E)(d:a≠7/\a≠8):dt cg 98 [vi a] m (lO a):=by
 apply vO;refine⟨λh=>⟨λc=>iN ?_ (J.az _),λc=>⟨λb=>iN ?_ (J.az _),λb=>eT ?_ (J.az _)⟩⟩,λh=>⟨λb=>iN ?_ (J.az _),λb=>eT ?_ (J.az _)⟩⟩<;>simp[lO]at* <;>omega
def qv{bo:O}{a:List bz}(hd:cw m bo a)(s:a.length<=4)(k:∀d∈a,d.cons.length<=3):Hl cg 33 [O.v bo] m (vi (eR a).length):=by
 apply Cf;simp -zeta only[aC,aB];have q:=hd.len;refine ez (n:=a.length) V (λj f b=>J m b/\f=(fc a j:Nat)/\fc a j<=3*j) ⟨J.az _,by cases a<;>rfl,by cases a<;>simp[fc]⟩ ?_;rintro j f t I μ r ⟨c,rfl,p⟩ l
 refine dit (λi=>?_) λi=>?_
 .let⟨d,b⟩:=cG a j;let⟨g,e,h,g1,g2⟩:=(cw.ext c hd).aF b;refine⟨V,V,_,h,_,g1,g,g2,?_⟩;intro u v;have o:=k d (aq b);refine l V _ _ ⟨(c.aK _).ah c.size _ _,?_,?_⟩
  .rw[aQ V (oh e.len),sB b,e.len];rfl
  .rw[sB b];omega
 .refine⟨?_,c⟩;rw[mP a j V]
def Oj{a:List bz}(h:dT a):∀d∈a,d.cons.length<=3:=λd hd=>by
 let⟨k,b⟩:=List.mem_iff_getElem?.1 hd;exact lx h b
def Rx:∀(a:List bz)(k:Nat),(eR (a.take k)).length=fc a k
 |[],k=>by simp[eR,QF]
 |d::a,0=>by simp[eR,fc]
 |d::a,k+1=>by
  have:=Rx a k;simp only[Nb,eR,mu,be,fc]at this⊢;omega
def tf{bo:O}{a:List bz}(hd:cw m bo a)(c:dT a)(t:Int):aN cg 113 [O.v bo,vi t] m λI b=>∃s,I=O.v s/\ap b s (cy a t)/\J m b:=by
 apply FH;have S:=hd.len;have R:=hd.cap;have g:∀(h:¬(1<=t/\t<=a.length)),ap m .nil (cy a t):=λh=>by
  unfold cy;rw[ae h];exact⟨rfl,ad _,aL,aL⟩
 have:=c.len;refine dit (λh=>?_) λh=>?_
 .exact⟨_,rfl,g V,J.az _⟩
 refine dit (λx=>?_) λx=>?_
 .exact⟨_,rfl,g V,J.az _⟩
 have r:cT (t -1)=((t.toNat -1:Nat):Int):=by rw[aQ V V];omega
 rw[r];let⟨d,e⟩:=cG a (t.toNat -1);have u:cy a t=(List.range d.cons.length).map λi=>((fc a (t.toNat -1)+i:Nat):Int):=by
  unfold cy;rw[an V,e];rfl
 rw[u];have P:=qW c (t.toNat -1);have Q:=lx c e;refine⟨V,V,V,?_⟩;have C:cw m (bo.cut 0 (t.toNat -1) 3) (a.take (t.toNat -1)):=eS.Tl hd V;have f:=qv C bE (λd hd=>Oj c d (dA hd));rw[Rx]at f;refine f.then λF p=>⟨_,rfl,?_⟩;let⟨w,D,L,g1,g2⟩:=(cw.ext p hd).aF e;have T:=D.len;refine⟨V,V,w,by simpa using g2,?_⟩;refine ez (n:=d.cons.length) V (λj s b=>J m b/\gV m b aA 1 s (((List.range j).map λi=>((fc a (t.toNat -1)+i:Nat):Int)).map Ce.i)/\s.len=j) ⟨p,by simpa using gV.nil m F aA 1,rfl⟩ ?_;rintro j s G K μ U ⟨o,k,l⟩ H
 refine dit (λy=>?_) λy=>?_
 .intro q;have v:cT (((fc a (t.toNat -1):Nat):Int)+(j:Int))=((fc a (t.toNat -1)+j:Nat):Int):=by rw[aQ V V];omega
  have E:q=G.push (.cells (bt [.i (((fc a (t.toNat -1)+j:Nat):Int))]) aA):=by rw[<-v]
  clear_value q;subst E;refine gV.append (zs:=[.i 0]) (d:=[.i ((fc a (t.toNat -1)+j:Nat):Int)]) (k.ext (J.push _ _)) (o.aK _) rfl (cE.push _ _ _).iA (by simp[l];omega) ?_;intro W b z A B M N _;refine H V _ _ ⟨A,?_,by simp[B,l]⟩
  rw[SA,ft,ft];exact z
 .have:j=d.cons.length:=V;subst this;exact⟨_,rfl,ap.fZ k bE,o⟩
def Py{a:List bz}{i j:Nat}{d:bz}{f:List Int}(h:a[i]? =some d)(b:d.cons[j]? =some f):cD a ((fc a i+j:Nat):Int)=f:=by
 unfold cD;rw[an V,tR,qV a i j d h (av b),b];rfl
def MA{bo:O}{a:List bz}(hd:cw m bo a)(q:dT a)(c:Int)(X: -1000000<=c/\c<=1000000):aN cg 220 [O.v bo,vi c] m λS f=>∃R s,S=.tuple #[vi R,.agg #[O.v s]]/\ap f s (cD a c)/\J m f:=by
 apply HA;simp -zeta only[aC,aB];intro g;have P:J m g:=(J.az m).aK _;have ab:m.size<g.size:=by simp[g]
 clear_value g;have Y:=hd.len;have:=q.len;refine ez (n:=a.length) V (λj w f=>J m f/\g.size<=f.size/\w=c -(fc a j:Nat)/\¬(0<=c/\c<fc a j)) ⟨P,ad _,by cases a<;>simp[fc],by cases a<;>simp[fc]⟩ ?_;rintro j w t I μ hj ⟨d,N,rfl,aa⟩ Q
 refine dit (λG=>?_) λG=>?_
 .let⟨x,b⟩:=cG a j;let⟨h,z,D,g1,g2⟩:=(cw.ext d hd).aF b;have Z:=z.len;have U:=qW q j;have W:=lx q b;refine⟨V,V,_,D,_,g1,h,g2,?_⟩;intro m3 u;have e:J t u:=((J.az t).aK _).ah (ad _) _ _;have A:¬(0<=c -(fc a j:Nat)/\c -(fc a j:Nat)<x.cons.length)->I (cT (c -(fc a j:Nat) -(h.len:Int))) (cT ((j:Int)+1)) u/\μ (cT (c -(fc a j:Nat) -(h.len:Int))) (cT ((j:Int)+1)) u<μ (c -(fc a j:Nat)) j t:=by
   intro hq;refine Q V _ _ ⟨d.trans e,bH N e.size,?_,?_⟩
   .rw[aQ V V,sB b];omega
   .rw[sB b];omega
  refine⟨λi=>⟨λp=>?_,λp=>A ?_⟩,λi=>A ?_⟩
  .simp only[ar]at i p;let⟨T,r⟩:=cG x.cons ((c -(fc a j:Nat)).toNat);let⟨o,hg,y⟩:=(oX.ext e z).aF r;refine⟨V,V,o,y,?_⟩;intro v;have k:J m v:=(d.trans e).ah (ad _) _ _;refine⟨_,o,rfl,?_,k⟩;have l:cD a c=T:=by
    have:=Py b r;rw[<-this];congr 1;omega
   rw[l];obtain⟨B,H,_,_,E⟩:=hd.aF b;have K:h=B:=by
    have:=d.af E;rw[g2]at this;exact O.Bz.1 (by simpa using this)
   subst K;let⟨C,L,F⟩:=H.aF r;have M:o=C:=by
    have:=(d.trans e).af F;rw[y]at this;exact O.Bz.1 (by simpa using this)
   subst M;exact L.ext k
  .simp at i p;omega
  .simp at i;omega
 .intro v;have k:J m v:=d.ah (ad _) _ _;refine⟨_,.nil,rfl,?_,k⟩;have l:cD a c=[]:=by
   unfold cD;split
   .rw[cO (by rw[<-mP a j V];omega)];rfl
   .rfl
  rw[l];exact⟨rfl,ad _,aL,aL⟩
def HB{bo:O}{a:List bz}(hd:cw m bo a)(h:dT a)(c:Int)(f: -1000000<=c/\c<=1000000):aN cg 197 [O.v bo,vi c] m λv d=>∃s,v=O.v s/\ap d s (cD a c)/\J m d:=by
 apply Ch;simp -zeta only[aC,aB];refine(MA hd h c f).mono ?_;rintro _ e ⟨t,s,rfl,g,i⟩;refine⟨t,s,rfl,?_⟩;intro k j;have b:J e j:=((J.az e).aK _).ah (ad _) _ _;exact⟨s,rfl,g.ext b,i.trans b⟩
def vW(f:ap m s l)(g:Nat)(e d:Array Value)(t:GL.elem g=true)(q:Int->Prop)
 (p:∀x∈l,∀a,J m a->dt cg g (e.toList++[vi x]++d.toList) a (q x)):
 aN cg 156 [O.v s,.func (.func g) e d] m λz a=>∃r:Int,z=vi r/\J m a/\
  ((r= -1/\∀x∈l,¬q x)\/∃(k:Nat)(x:Int),r=k/\l[k]? =some x/\q x/\∀y∈l.take k,¬q y):=by
 apply qB s (.func g,e,d)
 have u:=f.len
 refine dU (n:=l.length) (u▸f.gS) (λk a=>J m a/\∀y∈l.take k,¬q y) ⟨J.az _,aL⟩ ?_
 rintro k v I μ B ⟨b,i⟩ w
 refine dit (λh=>?_) λh=>?_
 .let⟨x,c⟩:=cG l k
  refine⟨V,V,x,by simpa using b.af (f.aF c),g,rfl,t,?_⟩
  exact(p x (aq c) v b).then λA C o j=>⟨_,rfl,λh=>⟨_,rfl,b.trans j,Or.inr ⟨k,x,rfl,c,o.1 h,i⟩⟩,λh=>w V _ ⟨b.trans j,bB c i (fb o h)⟩⟩
 .exact⟨_,rfl,b,Or.inl ⟨rfl,db V i⟩⟩
def iU(i:ap m s l)(g:Nat)(b a:Array Value)(f:GL.elem g=true)(q:Int->Prop)
 (e:∀x∈l,∀c,J m c->dt cg g (b.toList++[vi x]++a.toList) c (q x)):
 dt cg 80 [O.v s,.func (.func g) b a] m (∃x∈l,q x):=by
 apply oV s (.func g,b,a)
 refine(vW i g b a f q e).mono ?_
 rintro _ p ⟨r,rfl,j,h⟩
 refine⟨_,rfl,eT ?_ j⟩
 simp only[nY,ar]
 rcases h with⟨rfl,h⟩|⟨o,x,rfl,c,d,n⟩
 .exact⟨λk=>V,λ⟨x,c,d⟩=>absurd d (h x c)⟩
 .exact⟨λ_=>⟨x,aq c,d⟩,λ_=>V⟩
end
section
variable{s c k d r:O}{b:E}{e:List Nat}{Q:List Int->Prop}{v:List Int}{x:cV}
structure _root_.Go.Vc.gN where
 params:List Int
 cR:List Int
 aS:Int
 body:Bk
def iQ(m:E)(a:List Ce)(r:gN):Prop:=∃p l s,a=[.s p,.s l,.i r.aS,.s s,.i r.body.aS]/\ap m p r.params/\ap m l r.cR/\eO m s r.body.aD
abbrev zn(m:E)(s:O)(l:List gN):Prop:=eS m 5 (iQ m) s l
structure eK(m:E)(d r:O)(ds:List bz)(rs:List gN):Prop where
 bo:cw m d ds
 iT:zn m r rs
 types:dT ds
 oA:rs.length<=4
def iQ.le{m b:E}(h:Le m b){a:List Ce}{x:gN}:iQ m a x->iQ b a x:=λ⟨p,l,s,c,d,e,f⟩=>⟨p,l,s,c,d.le h,e.le h,f.le h⟩
def iQ.mono:om 5 iQ:=⟨λh=>iQ.le h,λh=>by obtain⟨_,_,_,rfl,_⟩:=h;rfl⟩
def zn.le{m b:E}(a:Le m b){s:O}{l:List gN}(h:zn m s l):zn b s l:=eS.le h a λ_ _=>iQ.le a
def zn.aF{m:E}{l:List gN}(h:zn m s l){k:Nat}{x:gN}(f:l[k]? =some x):
 ∃p t b,ap m p x.params/\ap m t x.cR/\eO m b x.body.aD/\af m s.D (s.off+k*5)=some (O.v p)/\af m s.D (s.off+k*5+1)=some (O.v t)/\af m s.D (s.off+k*5+2)=some (vi x.aS)/\af m s.D (s.off+k*5+3)=some (O.v b)/\af m s.D (s.off+k*5+4)=some (vi x.body.aS):=by
 obtain⟨g,⟨p,t,b,rfl,c,d,e⟩,a⟩:=h.iA k x f
 exact⟨p,t,b,c,d,e,a 0 _ rfl,a 1 _ rfl,a 2 _ rfl,a 3 _ rfl,a 4 _ rfl⟩
def eK.le{m b:E}{d r:O}{a:List bz}{e:List gN}(h:eK m d r a e)(c:Le m b):eK b d r a e:=⟨h.bo.le c,h.iT.le c,h.types,h.oA⟩
def zW(m:E):Le m (bG [] m):=λb o v h=>eP.2 ⟨aL,h⟩
def Fy{a:List bz}(h:dT a)(c:Int):(cD a c).length<=3:=by
 unfold cD;split
 .rcases aW c.toNat (eR a).length with b|b
  .let⟨i,d,e,j,k⟩:=uQ a c.toNat b;have f:=qV a i (c.toNat -fc a i) d e V;rw[show fc a i+(c.toNat -fc a i)=c.toNat by omega]at f;let⟨x,g⟩:=cG d.cons (c.toNat -fc a i);rw[f,g];exact(((h.dz i d e).iV V).2.2.2 x (aq g)).1
  .rw[cO b];simp
 .simp
def Yb{a:List bz}(h:dT a)(t:Int):(cy a t).length<=3:=by
 unfold cy;split
 .cases b:a[t.toNat -1]? with
  |none=>simp
  |some d=>simpa using lx h b
 .simp
def Qv{a:List bz}(h:dT a)(b bP:Int)(k:Nat):BG a b bP k<=3:=by
 unfold BG;split
 .exact Fy h _
 .omega
abbrev Fh(f:Nat)(a:List Value)(m:E):Prop:=sT f a m λ_=>True
def oJ(f:Nat)(a:List Value)(m:E):Prop:=aN cg f a m λv b=>∃c:Bool,v=.bool c/\J m b
def rN{m:E}{n:Int}(h:J m b):∃k:Int,vi n=vi k/\True/\J m b:=⟨n,rfl,trivial,h⟩
def rA{m:E}{a:Bool}(h:J m b):∃k:Bool,vb a=.bool k/\J m b:=⟨a,rfl,h⟩
def _root_.Go.Vc.dt.any{f:Nat}{a:List Value}{m:E}{p:Prop}(h:dt cg f a m p):oJ f a m:=h.mono λ_ _⟨b,e,_,x⟩=>⟨b,e,x⟩
section
variable{f:Nat}{g:List Value}{a m:E}{K:Value->E->Prop}{l:List Nat}
def Fh.aH(i:Fh f g m)(e:J a m)(o:∀c∈l,c<a.size)(k:∀(n:Int) b,J m b->J a b->K (vi n) b):aN cg f g m λv b=>eF l m b/\K v b:=
 i.mono λ_ b⟨n,h,_,d⟩=>⟨d.dv λc j=>e.lt (o c j),h▸k n b d (e.trans d)⟩
def oJ.aH(i:oJ f g m)(e:J a m)(n:∀c∈l,c<a.size)(k:∀(c:Bool) b,J m b->J a b->K (vb c) b):aN cg f g m λv b=>eF l m b/\K v b:=
 i.mono λ_ b⟨o,h,d⟩=>⟨d.dv λc j=>e.lt (n c j),h▸k o b d (e.trans d)⟩
def sT.aH{Q:Int->Prop}(i:sT f g m Q)(e:J a m)(o:∀c∈l,c<a.size)(k:∀(n:Int) b,Q n->J m b->J a b->K (vi n) b):aN cg f g m λv b=>eF l m b/\K v b:=
 i.mono λ_ b⟨n,h,q,d⟩=>⟨d.dv λc j=>e.lt (o c j),h▸k n b q d (e.trans d)⟩
def Fg.aH(k:Fg f g m e Q)(i:J a m)(q:∀d∈l,d<a.size)(p:∀s c b,ap (bG e b) s c->Q c->J m b->J a b->K (O.v s) b):aN cg f g m λv b=>eF l m b/\K v b:=
 k.mono λ_ b⟨s,c,j,n,r,h⟩=>⟨h.dv λd o=>i.lt (q d o),j▸p s c b n r h (i.trans h)⟩
def kY.aH(k:kY f g m e Q)(i:J a m)(q:∀d∈l,d<a.size)(p:∀s c b,GI e m b s c->Q c->J m b->J a b->K (O.v s) b):aN cg f g m λv b=>eF l m b/\K v b:=
 k.mono λ_ b⟨s,c,j,n,r,h⟩=>⟨h.dv λd o=>i.lt (q d o),j▸p s c b n r h (i.trans h)⟩
end
def _root_.Go.Vc.J.U9{c m:E}(f:J c m){l:List Nat}(e:∀a∈l,a<c.size)(h:J m b):eF l m b:=h.dv λa d=>f.lt (e a d)
def dI{m:E}(D:∀b∈e,b<m.size){bo:O}{a:List bz}(hd:cw (bG e m) bo a)(f:dT a)(c:Int):Fg 201 [O.v bo,vi c] m e (cD a c=·):=by
 apply rq;have l:cw m bo a:=hd.le (bA _ _);have F:=hd.len;have:=f.len;refine(mh l f c).mono ?_;rintro _ I ⟨K,rfl,k,h⟩;refine⟨_,rfl,dit (λu=>?_) λu=>?_⟩
 .refine⟨_,_,rfl,?_,rfl,h.aK _⟩;have g:cD a c=[]:=by
   rcases k with⟨i,d,v,_⟩|⟨_,b⟩
   .omega
   .unfold cD;split
    .rw[cO V];rfl
    .rfl
  rw[g];exact⟨rfl,ad _,aL,aL⟩
 .rcases k with⟨i,d,rfl,b,A,B⟩|⟨v,_⟩
  .have H:=av b;let⟨s,n,y,g1,g2⟩:=(hd.le (h.df e)).aF b;have p:cT ((i:Int)+1 -1)=i:=by rw[aQ V V];omega
   rw[p];have g2:=(eP.1 g2).2;refine⟨V,V,s,by simpa using g2,?_⟩;refine(j7 (cw.ext h l) f V).then λJ g=>⟨_,rfl,g.da (by simpa using g2),?_⟩;have z:=qW f i;have C:=lx f b;have G:=n.len;let⟨x,o⟩:=cG d.cons ((c -fc a i).toNat);let⟨j,w,t⟩:=oX.aF (eS.le n (g.df e) (mM.le (g.df e))) o;have q:cT (c -(fc a i:Int))=c -fc a i:=aQ V V;rw[q];refine⟨V,V,j,(eP.1 t).2,j,_,rfl,?_,rfl,h.trans g⟩;have r:cD a c=x:=by
    unfold cD;rw[an V];have:=qV a i (c -fc a i).toNat d b V;rw[show c.toNat=fc a i+(c -fc a i).toNat by omega,this,o];rfl
   rw[r];exact w
  .omega
def il{m:E}(q:∀o∈e,o<m.size){bo:O}{a:List bz}(hd:cw m bo a)(c:dT a)(t:Int):Fg 136 [O.v bo,vi t] m e (cy a t=·):=by
 apply uB;intro D;have L:=hd.len;have:=c.len;have w:J m D:=(J.az m).aK _;refine(aY _ _ _ _).then λo P u i=>⟨_,rfl,λh=>?_,λh=>?_⟩
 .refine⟨_,_,rfl,?_,rfl,w.trans i⟩;have f:cy a t=[]:=by
   unfold cy;rw[ae (oh (nb u h))]
  rw[f];exact⟨rfl,ad _,aL,aL⟩
 .have h:=yb u h;have x:cT (t -1)=((t.toNat -1:Nat):Int):=by rw[aQ V V];omega
  rw[x];let⟨d,k⟩:=cG a (t.toNat -1);have y:cy a t=(List.range d.cons.length).map λl=>((fc a (t.toNat -1)+l:Nat):Int):=by
   unfold cy;rw[an V,k];rfl
  rw[y];have H:=qW c (t.toNat -1);have K:=lx c k;refine ez (n:=d.cons.length) V (λj s b=>J m b/\GI e m b s ((List.range j).map λl=>((fc a (t.toNat -1)+l:Nat):Int))) ⟨w.trans i,(GI.nil e m).ext i⟩ ?_;rintro j s Q I μ N ⟨f,v⟩ F
  let⟨g,C,G,g1,g2⟩:=(cw.ext f hd).aF k;have M:=C.len;refine⟨V,V,g,by simpa using g2,dit (λB=>?_) λB=>?_⟩
  .refine(j7 (cw.ext f hd) c V).then λR p=>⟨_,rfl,?_⟩;have z:cT (((fc a (t.toNat -1):Nat):Int)+(j:Int))=((fc a (t.toNat -1)+j:Nat):Int):=by rw[aQ V V];omega
   rw[z];intro S;refine GI.kH (v.ext p) ((f.trans p).fz []) q bE λr b A g _ _=>F V _ _ ⟨g.ext,?_⟩
   rw[SA,ft];exact A
  .have:j=d.cons.length:=V;subst this;exact⟨_,_,rfl,v.done q bE,rfl,f⟩
def mV{m:E}{bo:O}{b:List bz}(hd:cw m bo b)(l:dT b)(t:Int):dt cg 304 [O.v bo,vi t] m (∃d,1<=t/\b[t.toNat -1]? =some d/\d.cons.length=0):=by
 apply Ez;have q:=hd.len;have:=l.len;refine(aY _ _ _ _).then λn r g e=>⟨_,rfl,λh=>?_,λh=>?_⟩
 .have h:=g.1 h;let⟨d,c⟩:=cG b (t.toNat -1);let⟨j,k,p,g1,g2⟩:=(cw.ext e hd).aF c;have i:cT (t -1)=((t.toNat -1:Nat):Int):=by rw[aQ V V];omega
  rw[i];refine⟨V,V,j,g2,eT ?_ e⟩;rw[k.len];simp only[aG];exact⟨λh=>⟨d,V,c,V⟩,λ⟨o,_,a,f⟩=>by rw[c]at a;simp at a;subst a;omega⟩
 .refine bV (λ⟨d,a,f,_⟩=>fb g h ⟨a,?_⟩) e;have:=av f;omega
def An{m:E}{bo:O}{a:List bz}(hd:cw m bo a)(r:dT a)(u t:Int):
 sT 326 [O.v bo,vi u,vi t] m λk=>k= -1\/∃(l:Nat)(d:bz),k=l+1/\a[l]? =some d/\d.cons.length=0/\d.sS=u/\d.to=t:=by
 apply Ek
 have w:=hd.len
 have:=r.len
 refine dU (n:=a.length) V (λ_ b=>J m b) (J.az _) ?_
 rintro k s I μ x c v
 refine⟨λh=>?_,λh=>⟨_,rfl,Or.inl rfl,c⟩⟩
 simp only[ar]at h
 let⟨d,j⟩:=cG a k
 let⟨o,q,p,g1,g2⟩:=(cw.ext c hd).aF j
 have e:=v V s c
 refine⟨V,V,o,g2,λf=>⟨V,V,_,p,λg=>⟨V,V,_,g1,λi=>?_,λ_=>e⟩,λ_=>e⟩,λ_=>e⟩
 rw[q.len]at f
 simp only[aG]at f g i
 refine⟨_,rfl,Or.inr ⟨k,d,?_,j,V,g,i⟩,c⟩
 rw[aQ V V]
def sN{m:E}{i p:O}{f t:List Int}(g:ap m c v)(e:ap m i f)(l:ap m p t):oJ 301 [O.v c,O.v i,O.v p] m:=by
 apply IM;have C:=g.len;have r:=e.len;have D:=l.len;have F:=g.gS;refine⟨λ_=>rA (J.az _),λh=>?_⟩;simp only[iJ]at h;refine dU (n:=f.length) (r▸e.gS) (λ_ b=>J m b) (J.az _) ?_;rintro k H I μ G a y
 refine⟨λh=>?_,λh=>rA a⟩;simp only[ar]at h;let⟨x,o⟩:=cG f k;refine⟨V,V,x,(e.ext a).aF o,?_⟩;have q:cT ((c.len:Int) -1)=(v.length:Int) -1:=by rw[aQ V V];omega
 rw[q];refine(aY _ _ _ _).then λB K s d=>⟨_,rfl,λ_=>rA (a.trans d),λj=>?_⟩;have j:=yb s j;let⟨z,u⟩:=cG v x.toNat;let⟨A,w⟩:=cG t k;exact⟨V,V,x,(e.ext (a.trans d)).aF o,V,V,z,(g.ext (a.trans d)).aF u,V,V,A,(l.ext (a.trans d)).aF w,λ_=>rA (a.trans d),λ_=>y V _ (a.trans d)⟩
def MQ(a:Int)(m:E):oJ 299 [vi a] m:=by
 apply Gt;have r:∀b:Bool,∃k:Bool,vb b=.bool k/\J m m:=λb=>rA (J.az m);exact⟨λ_=>r _,λ_=>⟨λ_=>r _,λ_=>⟨λ_=>r _,λ_=>⟨λ_=>r _,λ_=>r _⟩⟩⟩⟩
def oW(x:cV)(a k:O):Value:=.agg #[vi x.op,vi x.bP,vi x.bY,O.v a,O.v k]
def wA{m:E}{g:O}(d:ap m c v)(x:cV):oJ 300 [O.v c,.agg #[vi x.op,vi x.bP,vi x.bY,O.v g,O.v k]] m:=by
 apply Bp;simp -zeta only[aC,aB];intro a;have b:J m a:=J.push _ _;have l:∀f∈[m.size],f<a.size:=by simp[a]
 clear_value a;have o:=d.len;have p:=d.gS;refine⟨λ_=>rA b,λ_=>⟨λ_=>?_,λ_=>rA b⟩⟩;refine(aY _ _ _ _).aH (J.az a) l λf q j _ e=>⟨_,rfl,λh=>?_,λ_=>rA (b.trans e)⟩;have h:=j.1 h;have i:cT (x.bY -1)=((x.bY.toNat -1:Nat):Int):=by rw[aQ V V];omega
 rw[i];let⟨y,n⟩:=cG v (x.bY.toNat -1);exact⟨V,V,y,(d.ext (b.trans e)).aF n,rA (b.trans e)⟩
def Cy{m:E}{l:O}{t:List bz}{B:List gN}(o:eK m d r t B)(i:ap m c v)(g:ap m l x.args):Fh 305 [.agg #[O.v d,O.v r],O.v c,oW x l k] m:=by
 apply wg;simp -zeta only[aC,aB];intro q e;have b:J m e:=(J.push _ _).trans (J.push _ _);have n:∀f∈[q.size,m.size],f<e.size:=by simp[e,q];omega
 clear_value e;have C:=i.len;have D:=i.gS;have F:=g.len;refine⟨λ_=>rN b,λh=>?_⟩;simp only[iJ]at h;let⟨y,p⟩:=cG x.args 0;refine⟨V,V,y,(g.ext b).aF p,?_⟩;have u:cT ((c.len:Int) -1)=(v.length:Int) -1:=by rw[aQ V V];omega
 rw[u];refine(aY _ _ _ _).aH (J.az e) n λf G w _ j=>⟨_,rfl,λ_=>rN (b.trans j),λh=>?_⟩;have h:=yb w h;have a:=b.trans j;let⟨z,A⟩:=cG v y.toNat;have g1:=(g.ext a).aF p;have g2:=(i.ext a).aF A;refine⟨V,V,y,g1,V,V,z,g2,λ_=>rN a,λ_=>⟨λ_=>⟨λ_=>⟨V,V,y,g1,V,V,z,g2,?_⟩,λ_=>rN a⟩,λ_=>rN a⟩⟩;exact(mV ((o.le a.le).bo) o.types z).any.aH j n λf H I s=>⟨_,rfl,λ_=>rN (b.trans s),λ_=>rN (b.trans s)⟩
def EJ{m:E}{w:O}{H:List bz}{t:List gN}(g:eK m d r H t)(U:ap m c v)(A:ap m w x.args):Fh 303 [.agg #[O.v d,O.v r],O.v c,oW x w k] m:=by
 apply xz;simp -zeta only[aC,aB];intro j h;have F:J m h:=(J.push _ _).trans (J.push _ _);have n:∀f∈[j.size,m.size],f<h.size:=by simp[h,j];omega
 clear_value h;have h1:=g.iT.len;have h2:=g.oA;have h3:=A.len;have I:cT ((r.len:Int) -1)=(t.length:Int) -1:=by rw[aQ V V];omega
 rw[I];refine(aY _ _ _ _).aH (J.az h) n λf l S _ u=>⟨_,rfl,λ_=>rN (F.trans u),λy=>?_⟩;have y:=yb S y;have D:=F.trans u;let⟨q,T⟩:=cG t x.bP.toNat;let⟨Z,ac,s,i,c2,c3,L,g1,g2,M,N⟩:=(g.le D.le).iT.aF T;refine⟨V,V,_,L,_,g1,_,g2,_,M,_,N,?_⟩;intro X b;have G:J l b:=((J.az l).aK _).ah (ad _) _ _;have o:∀f∈[l.size,j.size,m.size],f<b.size:=by
  have P:=n j.size aL;have Q:=n m.size aL;have R:=u.size;have z:b.size=l.size+1:=by simp[b,X,aw]
  simp;omega
 clear_value b;have a:=D.trans G;have C:=U.ext a;have B:=A.ext a;have p:=i.ext G;have P:=i.len;have Q:=i.cap;have R:=i.gS;refine⟨λ_=>(sN C B p).aH (J.az b) o λf Y e _=>⟨_,rfl,λ_=>rN (a.trans e),λ_=>rN (a.trans e)⟩,λ_=>⟨λ_=>rN a,λz=>⟨λ_=>rN a,λ_=>?_⟩⟩⟩;simp only[aj]at z;have K:cT ((Z.len:Int) -1)=((q.params.length -1:Nat):Int):=by rw[aQ V V];omega
 rw[K];let⟨aa,W⟩:=cG q.params (q.params.length -1);refine⟨V,V,V,(sN C B (eS.Tl p V)).aH (J.az b) o λf Y e _=>⟨_,rfl,λ_=>rN (a.trans e),λ_=>⟨V,V,aa,(p.ext e).aF W,?_⟩⟩⟩;exact(An (g.le (a.trans e).le).bo g.types _ _).aH e o λab m6 _ x6 u6=>⟨_,rfl,rN (a.trans u6)⟩
def Wz(a:List bz)(e:List gN)(b:Bk):Prop:=∀(m:E)(d r c t:O)(v:List Int),eK m d r a e->ap m c v->eO m t b.aD->v.length+4*b.w<=10^12->Fh 265 [.agg #[O.v d,O.v r],O.v c,.agg #[O.v t,vi b.aS]] m
def JR{m:E}{ab:O}{t:List bz}{Y:List gN}(g:eK m d r t Y)(U:ap m c v)(y:nD m k x.bC)(hb:v.length+4*x.w<=10^12)(ih:∀l∈x.bC,Wz t Y l):Fh 302 [.agg #[O.v d,O.v r],O.v c,oW x ab k] m:=by
 apply CK;simp -zeta only[aC,aB];intro X p;have i:J m p:=(J.push _ _).trans (J.push _ _);have o:∀l∈[X.size,m.size],l<p.size:=by simp[p,X];omega
 clear_value p;have ac:=y.len;have hw:=cV.mr x;refine(il (e:=[]) aL (g.le i.le).bo g.types x.bP).aH (J.az p) o λae cl H w q A _=>⟨_,rfl,?_⟩;subst q;have w:=w.le (bA _ _);have ag:=w.len;have h3:=Yb g.types x.bP;refine⟨λL aa=>aa=H/\0<=L/\(x.op=8->L=(cy t x.bP).length),⟨λh=>?_,λh=>⟨rfl,V,λ_=>V⟩⟩,?_⟩
 .simp only[aG]at h;exact⟨rfl,V,λh=>V⟩
 rintro L ah ⟨f,h4,h5⟩;have f:=f.symm;subst f;refine⟨λ_=>rN (i.trans A),λ_=>⟨λ_=>rN (i.trans A),λT=>?_⟩⟩;simp only[iJ]at T;subst T;refine ez (n:=x.bC.length) (ac▸y.gS) (λ_ _ b=>J H b) (J.az _) ?_;rintro j z I R μ hj B ad
 have M:=A.trans B;have s:=i.trans M;refine⟨λh=>?_,λ_=>rN s⟩;simp only[ar]at h;let⟨l,u⟩:=cG x.bC j;have W:=ih l (aq u);have af:=wJ u;have Z:∀(a:Int)(e:E),J H e->((decide (a<(0:Int)))=true->∃k:Int,vi (-1)=vi k/\True/\J m e)/\((decide (a<(0:Int)))=false->((decide ((j:Int)>(0:Int)))=true->((a !=z)=true->∃k:Int,vi (-1)=vi k/\True/\J m e)/\((a !=z)=false->R a (cT ((j:Int)+1)) e/\μ a (cT ((j:Int)+1)) e<μ z j I))/\((decide ((j:Int)>(0:Int)))=false->R a (cT ((j:Int)+1)) e/\μ a (cT ((j:Int)+1)) e<μ z j I)):=λa e h=>by
  have f:=rN (n:=-1) ((i.trans A).trans h);have D:=ad V a e h
  exact⟨λ_=>f,λ_=>⟨λ_=>⟨λ_=>f,λ_=>D⟩,λ_=>D⟩⟩
 refine⟨λh=>?_,λh=>?_⟩
 .simp only[aG]at h;have h7:=h5 h;let⟨Q,hy⟩:=cG (cy t x.bP) j;refine⟨V,V,Q,(w.ext B).aF hy,?_⟩;refine(dI (e:=[]) aL (g.le (s.le.trans (zW _))).bo g.types Q).aH M o λD fl e hf q x4 u4=>⟨_,rfl,?_⟩;subst q;have h8:=Fy g.types Q;refine(eN (S:=[]) aL (U.le ((i.trans u4).le.trans (zW _))) hf V).aH u4 o λf el m5 he q x5 N=>⟨_,rfl,?_⟩;subst q;let⟨C,G,F,g1⟩:=(y.le (i.trans N).le).aF u;refine⟨V,V,_,F,_,g1,?_⟩;exact(W m5 d r f C _ (g.le (i.trans N).le) ((he.done aL bE).le (bA _ _)) G bE).aH N o λa K P _=>⟨_,rfl,Z a K (((B.trans x4).trans x5).trans P)⟩
 .let⟨C,G,F,g1⟩:=(y.le s.le).aF u;refine⟨V,V,_,F,_,g1,?_⟩;exact(W I d r c C _ (g.le s.le) (U.ext s) G V).aH M o λa K P _=>⟨_,rfl,Z a K (B.trans P)⟩
def Qf{m a:E}(h:J m a)(l:List Int){n:Nat}(c:n=l.length)(b:l.length<=9223372036854775807):ap (a.push (.cells (bt (l.map Ce.i)) aA)) (.mk a.size 0 n n) l:=
 (ap.lit (S:=[]) aA l aL rfl c b).le (bA _ _)
def _root_.Go.Vc.eS.KD{α:Type}{n:E}{b:Nat}{R:List Ce->α->Prop}{l:List α}(h:eS n b R s l){i j:Nat}(u:i<=j)(v:j<=l.length):eS n b R (s.cut i j b) ((l.take j).drop i):=by
 have a:=h.len;have m:=h.cap;have y:=h.gS;have g:(s.cut i j b).len=j -i/\(s.cut i j b).len<=(s.cut i j b).cap:=by
  cases s with
  |nil=>simp at a;simp[O.cut];omega
  |zD d o t=>simp at a;simp[O.cut];omega
  |mk d o r f=>simp at a m;simp[O.cut];omega
 refine⟨by simp[g.1];omega,g.2,V,λk x c=>?_⟩;rw[rW,lE]at c;split at c
 .rename_i w;let⟨p,q,e⟩:=h.iA _ x c;refine⟨p,q,?_⟩;cases s with
  |nil=>simp at a;omega
  |zD d o t=>simp at a;omega
  |mk d o r f=>
   simp at a m;have:¬f=i:=V;simp only[O.cut,this,rG,O.jA,O.mT]at e⊢;rw[gL,<-dj]at e;exact e
 .simp at c
def nU{q:E}{w:O}{P:List bz}{rs:List gN}(B:eK q d r P rs)(hv:ap q c v)(Z:ap q w x.args)(hk:nD q k x.bC)(H:v.length+4*x.w<=10^12)(ih:∀g∈x.bC,Wz P rs g):Fh 260 [.agg #[O.v d,O.v r],O.v c,oW x w k] q:=by
 apply Db;simp -zeta only[aC,aB];intro C p;have M:J q p:=(J.push _ _).trans (J.push _ _);have m:∀g∈[C.size,q.size],g<p.size:=by simp[p,C];omega
 clear_value p;have h1:=Z.len;have h2:=Z.cap;have u:∀{n:E},J p n->ap n c v:=λh=>hv.ext (M.trans h);have A:∀{n:E},J p n->ap n w x.args:=λh=>Z.ext (M.trans h);have N:∀{n:E},J p n->eK n d r P rs:=λh=>B.le (M.trans h).le;have o:∀{n:E}{t:Int},J p n->∃k:Int,vi t=vi k/\True/\J q n:=λh=>rN (M.trans h);have Q:∀{n:E}{t k:Int}{g:Bool},J p n->(g=true->∃k:Int,vi t=vi k/\True/\J q n)/\(g=false->∃a:Int,vi k=vi a/\True/\J q n):=λh=>⟨λ_=>o h,λ_=>o h⟩;refine⟨λX=>J p X,⟨λ_=>(MQ x.op p).aH (J.az p) m λg n e _=>⟨_,rfl,λ_=>o e,λ_=>(wA (u e) x).aH e m λg f l a=>⟨_,rfl,λ_=>o a,λ_=>⟨λ_=>⟨λ_=>⟨λ_=>o a,λ_=>a⟩,λ_=>a⟩,λ_=>a⟩⟩⟩,λ_=>(wA (u (J.az _)) x).aH (J.az p) m λg f a _=>⟨_,rfl,λ_=>o a,λ_=>⟨λ_=>⟨λ_=>⟨λ_=>o a,λ_=>a⟩,λ_=>a⟩,λ_=>a⟩⟩⟩,?_⟩;intro n e;have T:∀{f:E}{R:O}{ak:List Int}(h:J p f),ap f R ak->oJ 301 [O.v c,O.v w,O.v R] f:=λh ht=>sN (u h) (A h) ht;have Kt:∀{f:E}(h:J p f),aN cg 302 [.agg #[O.v d,O.v r],O.v c,.agg #[vi x.op,vi x.bP,vi x.bY,O.v w,O.v k]] f λv b=>eF [C.size,q.size] f b/\∃t:Int,v=vi t/\∃k:Int,vi t=vi k/\True/\J q b:=λh=>
  (JR (N h) (u h) (hk.le (M.trans h).le) H ih).aH h m λt L s U=>⟨t,rfl,o U⟩
 refine⟨λ_=>⟨λ_=>(aY _ _ _ _).any.aH e m λg f l a=>⟨_,rfl,Q a⟩,λ_=>o e⟩,λ_=>⟨λ_=>?_,λ_=>⟨λ_=>?_,λ_=>⟨λ_=>?_,λ_=>⟨λ_=>?_,λ_=>⟨λ_=>?_,λ_=>⟨λ_=>(EJ (N e) (u e) (A e)).aH e m λt f l a=>⟨_,rfl,o a⟩,λ_=>⟨λ_=>?_,λ_=>⟨λ_=>(Cy (N e) (u e) (A e)).aH e m λt f l a=>⟨_,rfl,o a⟩,λ_=>o e⟩⟩⟩⟩⟩⟩⟩⟩⟩
 .intro f;exact(T (e.aK _) (Qf e [0,0] rfl aL)).aH (e.aK _) m λg f l a=>⟨_,rfl,Q a⟩
 .intro f;exact(T (e.aK _) (Qf e [0] rfl aL)).aH (e.aK _) m λg f l a=>⟨_,rfl,Q a⟩
 .refine(mh (N e).bo B.types x.bP).mono λ_ f⟨R,z,_,l⟩=>?_;subst z;have a:=e.trans l;refine⟨e.U9 m l,_,rfl,λ_=>?_,λ_=>o a⟩;refine(dI (e:=[]) aL ((N a).bo.le (zW _)) B.types x.bP).aH a m λae G L hf I s U=>⟨_,rfl,aJ (s.same C.size (a.lt (m _ aL))) _,?_⟩;refine(T U (hf.le (bA _ _))).aH U m λg D x5 y=>⟨_,rfl,λ_=>?_,λ_=>o y⟩;refine(mh (N y).bo B.types x.bP).mono λ_ F⟨R,z,_,W⟩=>?_;subst z;exact⟨y.U9 m W,_,rfl,o (y.trans W)⟩
 .intro f;exact(T (e.aK _) (Qf e [0] rfl aL)).aH (e.aK _) m λg f l a=>⟨_,rfl,λ_=>Kt a,λ_=>o a⟩
 .intro f;exact(T (e.aK _) (Qf e [x.bP] rfl aL)).aH (e.aK _) m λg f l a=>⟨_,rfl,λ_=>Kt a,λ_=>o a⟩
 .have h3:=hv.len;have h4:=hv.gS;refine⟨λg X=>J p X/\(g=true->x.args.length=2/\∃y z G,x.args[0]? =some y/\0<=y/\v[y.toNat]? =some z/\1<=z/\P[z.toNat -1]? =some G),⟨λh=>?_,λ_=>⟨e,sx⟩⟩,?_⟩
  .simp only[aG]at h;let⟨y,I⟩:=cG x.args 0;refine⟨V,V,y,(A e).aF I,?_⟩;have Y:cT ((c.len:Int) -1)=(v.length:Int) -1:=by rw[aQ V V];omega
   rw[Y];refine(aY _ _ _ _).aH (J.az n) (λg H=>e.lt (m g H)) λg f aa _ l=>⟨_,rfl,λh=>?_,λh=>⟨e.trans l,sx⟩⟩;have h:=aa.1 h;have a:=e.trans l;let⟨z,K⟩:=cG v y.toNat;refine⟨V,V,y,(A a).aF I,V,V,z,(u a).aF K,?_⟩;refine(mV (N a).bo B.types z).aH (J.az f) (λg H=>a.lt (m g H)) λg L ab _ s=>⟨_,rfl,a.trans s,λh=>?_⟩;obtain⟨G,h5,h6,_⟩:=ab.1 h;exact⟨V,y,z,G,I,V,K,h5,h6⟩
  .rintro g f ⟨l,ah⟩;refine⟨λh=>?_,λ_=>o l⟩;let⟨h5,y,z,G,I,h6,K,h7,aa⟩:=ah h;let⟨ae,hf,g0,g1,g2⟩:=(N l).bo.aF aa;have an:=B.bo.len;have h8:=B.types.len;have h9:=av aa;have al:=av K;have Y:cT (z -1)=((z.toNat -1:Nat):Int):=by rw[aQ V V];omega
   have ab:=(A l).aF I;have ac:=(u l).aF K;refine⟨V,V,y,ab,V,V,z,ac,?_⟩;rw[Y];refine⟨V,V,_,g0,_,g1,_,g2,?_⟩;intro L;have s:J f L:=J.push _ _;have af:C.size<f.size:=l.lt (m _ aL);have ag:q.size<f.size:=l.lt (m _ aL);refine⟨s.da g0,s.da g1,s.da g2,s.da ac,s.da ab,aJ (s.same _ af) _,aJ (s.same _ ag) _,?_⟩;intro D;have x5:J f D:=s.ah (ad _) _ _;have am:D.size=f.size+1:=by simp[D,L,aw]
   clear_value D;refine⟨V,V,V,?_⟩;intro F;have W:J f F:=x5.trans (J.push _ _);have u6:=l.trans W;have aj:∀g∈[f.size,C.size,q.size],g<F.size:=by simp[F];omega
   refine⟨aJ ((J.push D _).same _ V) _,?_⟩;have ai:ap F (w.cut 1 w.len 1) (x.args.drop 1):=by
    have:=(eS.KD (A u6) (i:=1) (j:=x.args.length) V (ad _));rw[fu]at this;rw[h1];exact this
   exact(sN (u u6) ai (Qf x5 [G.sS] rfl aL)).aH (J.az F) aj λg m7 x7 _=>⟨_,rfl,Q (u6.trans x7)⟩
def _root_.Go.Vc.J.oE{c m:E}(h:J c m)(k:J c b){l:List Nat}(e:∀a∈l,a<c.size):eF l m b:=λa d=>by rw[k.same a (e a d),h.same a (e a d)]
def sZ(x:cV)(b:Bool)(a:b=true<->0<=x.op/\x.op<=11):dn x=if b=true then 1 else 0:=by
 unfold dn;by_cases h:b=true
 .rw[an h];exact an (a.1 h)
 .rw[ae h];exact ae λc=>h (a.2 c)
def nk{I:List bz}{Z:List gN}:∀a:Bk,Wz I Z a:=by
 refine Bk.ind ?_;intro aD Y W D d r c am v R U t j;simp only[Bk.jS,Bk.ju,Bk.qG]at*;apply Aq;simp -zeta only[aC,aB];intro E e;have y:J D e:=(J.push _ _).trans (J.push _ _);have g:∀a∈[E.size,D.size],a<e.size:=by simp[e,E];omega
 clear_value e;have T:=t.len;refine(mj (S:=[]) aL (U.le (y.le.trans (zW _))) V).aH (J.az e) g λs0 _ m2 i K x2 _=>⟨_,rfl,?_⟩;subst K;have C:=Bw aD;refine ez (n:=aD.length) (T▸t.gS) (λk s b=>J e b/\∃l,GI [] e b s l/\l.length=v.length+dc (aD.take k)) ⟨x2,_,i,aL⟩ ?_;rintro k s X aa μ hk ⟨z,l,m,hc⟩ G
 have p:=y.trans z;have ac:=sX (aD.take k);have ag:=qI k aD;have ah:=fY (aD.take k);have af:=m.len bh;have q:=(m.done aL (oh (C k))).le (bA _ _);refine⟨λh=>?_,λh=>?_⟩
 .simp only[ar]at h;let⟨x,o⟩:=cG aD k;let⟨ab,kk,O,Q,i,g1,g2,M,N⟩:=(t.le p.le).aF o;have aj:=pR o;have ai:=C (k+1);have ad:=qL o;refine⟨V,V,_,i,_,g1,_,g2,_,M,_,N,?_⟩;refine(nU (R.le p.le) q O Q V (W x (aq o))).aH z g λak F f u=>⟨_,rfl,λ_=>rN (y.trans u),λ_=>⟨V,V,_,f.af i,?_⟩⟩;refine(jN _ _).aH (J.az F) (λa j=>u.lt (g a j)) λa m5 P _ A=>⟨_,rfl,?_⟩;have hd:=sZ x a P;have w:=u.trans A;refine⟨λh=>?_,λh=>?_⟩
  .rw[an h]at hd;intro m6;refine GI.kH ((m.ext f).ext A) (w.fz []) aL V λr m7 L B H al=>⟨?_,G V _ _ ⟨B.ext,_,L,bE⟩⟩;exact J.oE (w.aK _) B.ext g
  .rw[ae (by simp[h])]at hd;exact G V _ _ ⟨w,l,(m.ext f).ext A,V⟩
 .refine(aY _ _ _ _).aH (J.az X) (λa j=>z.lt (g a j)) λa F o _ f=>⟨_,rfl,λ_=>rN (p.trans f),λh=>?_⟩;have h:=yb o h;have w:=q.gS;rw[aQ V V]at h;let⟨H,u⟩:=cG l Y.toNat;exact⟨V,V,H,(q.ext f).aF u,rN (p.trans f)⟩
end
section
variable{b:E}{d e g k:O}{f:List gN}{c:cV}{h:Nat}
def _root_.Go.Vc.cA{S a:List Nat}{d o:Nat}{l:List Ce}(i:d∈S)(g:∀c∈a,c∈S):Le (bG S b) (bG a (ah b d o l)):=
 pA λc _ e=>⟨λh=>e (g c h),bd _ _ _ _ λf=>e (f▸i)⟩
def ZH(a:Bk):Prop:=∀(b:E)(t:O),eO b t a.aD->∀left:Int,-1<=left->left<=600->sT 308 [.agg #[O.v t,vi a.aS],vi left] b λk=>-1<=k/\k<=600
def IK:∀j:Bk,ZH j:=by
 refine Bk.ind ?_;intro aD aa K b ab q left A C;simp only[Bk.jS,Bk.ju]at*;apply Bi;simp -zeta only[aC,aB];intro f;have w:J b f:=J.push _ _;have F:∀j∈[b.size],j<f.size:=by simp[f]
 clear_value f;have I:=q.len;have r:∀{d:E}{a:Int},J f d->-1<=a/\a<=600->∃k:Int,vi a=vi k/\(-1<=k/\k<=600)/\J b d:=λh o=>⟨_,rfl,o,w.trans h⟩;refine ez (n:=aD.length) (I▸q.gS) (λ_ a d=>J f d/\-1<=a/\a<=600) ⟨J.az _,A,C⟩ ?_;rintro k a M U μ hk ⟨l,o⟩ P
 refine⟨λh=>⟨λ_=>r l V,λB=>?_⟩,λ_=>r l o⟩;simp only[ar]at h;simp only[bL]at B;let⟨c,u⟩:=cG aD k;let⟨g,v,Z,m,X,g1,g2,Y,s⟩:=(q.le (w.trans l).le).aF u;have D:=m.len;rw[aQ (b:=a -1) V V];refine ez (n:=c.bC.length) (D▸m.gS) (λ_ a d=>J M d/\-1<=a/\a<=600) ⟨J.az _,V,V⟩ ?_;rintro L Q N W μ2 hj ⟨i,p⟩ O;refine⟨V,V,v,i.af s,λh=>?_,λ_=>P V _ _ ⟨l.trans i,p⟩⟩;simp only[ar]at h;let⟨j,t⟩:=cG c.bC L;let⟨R,H,y,z⟩:=(m.le i.le).aF t;refine⟨V,V,v,i.af s,V,V,_,y,_,z,?_⟩;exact(K c (aq u) j (aq t) N R H Q p.1 p.2).aH (l.trans i) F λe m4 G T S=>⟨_,rfl,λ_=>r S V,λh=>O V _ _ ⟨i.trans T,G⟩⟩
def LV{t:O}{c:Bk}(g:eO b t c.aD):Fh 264 [.agg #[O.v t,vi c.aS]] b:=by
 apply EN;simp -zeta only[aC,aB];intro a;have d:J b a:=J.push _ _;have f:∀c∈[b.size],c<a.size:=by simp[a]
 clear_value a;exact(IK c a t (g.le d.le) 600 V V).aH (J.az a) f λn h _ _ e=>⟨_,rfl,λ_=>rN (d.trans e),λ_=>rN (d.trans e)⟩
def pOf(e:gN):dy:=⟨e.params,[],e.aS,0,[]⟩
def oI.mono:om 5 oI:=⟨λh⟨g,a,b⟩=>⟨g,a,b.le h⟩,λ⟨g,a,_⟩=>by rw[a];rfl⟩
def MW{F:List bz}(t:eK b d e F f):aN cg 307 [.agg #[O.v d,O.v e]] b λY g=>∃v,Y=.agg #[O.v d,O.v v]/\eS g 5 (oI g) v (f.map pOf)/\J b g:=by
 apply GM;simp -zeta only[aC,aB];intro j a2 a3 a4 p;have ac:=t.iT.len;have hf:=t.oA;have Z:J b a2:=(J.push _ _).trans (J.push _ _);have W:j.size=b.size+1:=by simp[j]
 have X:a2.size=b.size+2:=by simp[a2,W]
 have s3:a3.size=b.size+3:=by simp[a3,X]
 have A:J a3 p:=(J.push a3 _).ah (ad _) _ _;have L:Gr [a3.size,j.size] a2 p fm 5 oI (.mk a2.size 0 0 0) []:=(Gr.new _ (ad _) _ _ _).ext oI.mono A;have D:cE p a3.size kG [.s d,.s (.mk a2.size 0 0 0)]:=cE.ah (m:=a4) (o:=0) (r:=[.s d,.s (.mk a2.size 0 0 0)]) (cE.push a3 _ _);have aa:J a2 p:=(J.push a2 _).trans A;clear_value p;have N:∀l∈[j.size,b.size],l<a2.size/\l∉([]:List Nat):=bE;refine dU (n:=f.length) V (λk g=>J a2 g/\∃s,Gr [a3.size,j.size] a2 g fm 5 oI s ((f.take k).map pOf)/\cE g a3.size kG [.s d,.s s]) ⟨aa,_,L,D⟩ ?_;rintro k Q ab μ hk ⟨u,s,h,B⟩ S
 have z:=Z.trans u;refine dit (λM=>?_) λM=>?_
 .let⟨T,x⟩:=cG f k;have P:zn (bG (s.D::[a3.size,j.size]) Q) e f:=t.iT.le ((zW b).trans ((z.fz []).bG aL λl q=>Or.inr ?_))
  .let⟨y,ae,l,E,c2,c3,G,e1,H,e3,e4⟩:=P.aF x;refine⟨s,B.bZ 1,V,V,y,(eP.1 G).2,V,V,_,(eP.1 H).2,?_⟩;intro R;refine Gr.box (g:=[.s .nil,.i 0,.i 0,.i 0,.s .nil]) (j:=1) (i:=[.s d,.s s]) (w:=pOf T) oI.mono bh h (u.fz []) ⟨y,rfl,E⟩ bE B aL bh ⟨V,aL⟩ (λl q=>by have C:=N l q;have I:=h.bn;have w:=u.size;omega) λU g K C I z' q'=>S V _ ⟨I.ext,U,?_,C⟩
   rw[aU x,ft];exact K
  .have:=h.bn;simp at q;omega
 .refine⟨d,B.bZ 0,s,B.bZ 1,?_⟩;intro R;have x:=h.ne B bh;have y:=h.bn;rw[bX V]at h;refine⟨s,rfl,?_,z.ah V _ _⟩;have w:=h.nF oI.mono bE bh bE;exact eS.le w ((cA (a:=[]) aL aL).trans (bA _ _)) λq c=>oI.mono.le ((cA (a:=[]) aL aL).trans (bA _ _))
def xG{r:List bz}(c:eK b d e r f):oJ 263 [.agg #[O.v d,O.v e]] b:=by
 apply tG;simp -zeta only[aC,aB];intro g;have a:J b g:=J.push _ _;have i:∀h∈[b.size],h<g.size:=by simp[g]
 clear_value g;have K:=c.iT.len;have G:=c.oA;refine⟨λ_=>rA a,λ_=>?_⟩;refine(MW (c.le a.le)).mono λ_ L⟨F,s,w,j⟩=>?_;subst s;refine⟨j.dv i,_,_,rfl,?_⟩;refine(uI (c.le (a.trans j).le).bo w).any.aH j i λh M R m=>⟨_,rfl,λ_=>rA (a.trans m),λ_=>?_⟩;refine dU (n:=f.length) V (λ_ l=>J g l) m ?_;rintro k N I μ H l y
 refine⟨λv=>?_,λ_=>rA (a.trans l)⟩;simp only[ar]at v;let⟨Q,x⟩:=cG f k;let⟨z,A,h,p,q,B,t,u,C,D,E⟩:=(c.le (a.trans l).le).iT.aF x;refine⟨V,V,z,t,V,V,A,u,?_⟩;exact(uH p q).any.aH l i λh P S o=>⟨_,rfl,λ_=>rA (a.trans o),λ_=>y V _ o⟩
def ET{z:List bz}(i:eK b d e z f)(G:∀q∈f,q.params.length+4*q.body.w<=10^12):oJ 244 [.agg #[O.v d,O.v e]] b:=by
 apply xH;simp -zeta only[aC,aB];intro c;have m:J b c:=J.push _ _;have t:∀a∈[b.size],a<c.size:=by simp[c]
 clear_value c;have T:=i.iT.len;have R:=i.oA;refine(xG (i.le m.le)).aH (J.az c) t λa U x _=>⟨_,rfl,λ_=>rA (m.trans x),λ_=>?_⟩;refine dU (n:=f.length) V (λ_ g=>J c g) x ?_;rintro k l P μ S o L
 refine⟨λF=>?_,λ_=>rA (m.trans o)⟩;simp only[ar]at F;let⟨q,u⟩:=cG f k;have v:=m.trans o;let⟨M,X,a,y,Q,s,A,B,C,D,E⟩:=(i.le v.le).iT.aF u;refine⟨V,V,_,A,_,B,_,C,_,D,_,E,?_⟩;intro H g;have j:J l g:=(J.push l _).ah (ad _) _ _;have p:∀a∈[l.size,b.size],a<g.size:=by
  have:=o.lt (t b.size aL);have:g.size=l.size+1:=by simp[g,H,aw]
  simp;omega
 clear_value g;have r:=v.trans j;refine(LV (s.le j.le)).aH (J.az g) p λK I h _=>⟨_,rfl,λ_=>rA (r.trans h),λ_=>?_⟩;refine(nk q.body I d e M a q.params (i.le (r.trans h).le) (y.ext (j.trans h)) (s.le (j.trans h).le) (G q (aq u))).aH h p λK W N w=>⟨_,rfl,aJ (N.same _ (h.lt (p _ aL))) _,λ_=>rA (r.trans w),λ_=>L V _ ((o.trans j).trans w)⟩
def xX(c:Int)(b:E):oJ 123 [vi c] b:=by
 apply rZ;have e:∀a:Bool,∃k:Bool,vb a=.bool k/\J b b:=λa=>rA (J.az b);exact⟨λ_=>e _,λ_=>⟨λ_=>e _,λ_=>⟨λ_=>e _,λ_=>e _⟩⟩⟩
def WC(f:List gN)(c:cV):Prop:=c.op=9->0<=c.bP/\c.bP<f.length
structure At(b:E)(d e g k:O)(ds:List bz)(f:List gN)(c:cV):Prop where
 QS:eK b d e ds f
 args:ap b g c.args
 call:WC f c
def At.le{b j:E}{d e g k:O}{a:List bz}{f:List gN}{c:cV}(h:At b d e g k a f c)(i:Le b j):At j d e g k a f c:=⟨h.QS.le i,h.args.le i,h.call⟩
def dD{o1 o2:Obj}{a c:E}(e:a=b.push o1)(f:c=a.push o2):J b c/\∀d∈[a.size,b.size],d<c.size:=by
 subst e f;exact⟨(J.push _ _).trans (J.push _ _),bE⟩
def nO{o:List bz}(a:At b d e g k o f c)(h:Int):oJ 310 [.agg #[O.v d,O.v e],oW c g k,vi h] b:=by
 apply GD;simp -zeta only[aC,aB];intro s i;let⟨j,q⟩:=dD (a:=s) (c:=i) rfl rfl;clear_value i;have C:=a.QS.iT.len;refine⟨λl=>?_,λ_=>rA j⟩;simp only[aG]at l;have B:=a.call l;let⟨F,r⟩:=cG f c.bP.toNat;let⟨E,t,m,v,n,w,x,p,y,z,A⟩:=(a.QS.le j.le).iT.aF r;exact⟨V,V,t,p,(dw n h).any.aH (J.az i) q λm D u _=>⟨_,rfl,rA (j.trans u)⟩⟩
def mH{q:O}{s:List bz}(j:At b d e g k s f c){v:List Int}(o:ap b q v)(u:∀y∈c.args,0<=y/\y<(v.length:Int))(t:h<c.args.length):oJ 306 [.agg #[O.v d,O.v e],O.v q,oW c g k,vi h] b:=by
 apply yL;simp -zeta only[aC,aB];intro x a;let⟨l,n⟩:=dD (a:=x) (c:=a) rfl rfl;clear_value a;have B:=j.args.len;have D:=o.len;let⟨y,p⟩:=dB t;have C:=u y (aq p);let⟨A,w⟩:=cG v y.toNat;refine(xX c.op a).aH (J.az a) n λr E m _=>⟨_,rfl,λ_=>?_,λ_=>rA (l.trans m)⟩;have i:=l.trans m;refine⟨V,V,y,(j.args.ext i).aF p,V,V,A,(o.ext i).aF w,λ_=>?_,λ_=>rA i⟩;exact(nO (j.le i.le) h).aH m n λr F G z=>⟨_,rfl,rA (l.trans z)⟩
def CP{r:List bz}(a:At b d e g k r f c)(u:h<c.args.length):oJ 338 [.agg #[O.v d,O.v e],oW c g k,vi h] b:=by
 apply wt;simp -zeta only[aC,aB];intro y l;let⟨q,v⟩:=dD (a:=y) (c:=l) rfl rfl;clear_value l;have t:=a.args.len;let⟨A,w⟩:=dB u;refine dU (n:=c.args.length) (t▸a.args.gS) (λ_ i=>J l i) (J.az _) ?_;rintro o E I μ D j z
 have i:=q.trans j;refine⟨λs=>⟨λ_=>?_,λ_=>?_⟩,λ_=>rA i⟩<;>simp only[ar]at s<;>have m:=z V
 .let⟨B,x⟩:=cG c.args o;refine⟨V,V,B,(a.args.ext i).aF x,V,V,A,(a.args.ext i).aF w,λ_=>⟨λ_=>rA i,λ_=>?_⟩,λ_=>m _ j⟩;exact(nO (a.le i.le) o).aH j v λC F G p=>⟨_,rfl,λ_=>rA (q.trans p),λ_=>m _ p⟩
 .exact m _ j
def AO{s r:O}{u:List bz}(i:At b d e g k u f c){z x:List Int}(w:ap b s z)(v:ap b r x)(p:h<c.args.length):oJ 323 [.agg #[O.v d,O.v e],oW c g k,vi h,O.v s,O.v r] b:=by
 apply EA;simp -zeta only[aC,aB];intro A l;let⟨a,j⟩:=dD (a:=A) (c:=l) rfl rfl;clear_value l;have C:=i.args.len;let⟨y,q⟩:=dB p;refine⟨V,V,y,(i.args.ext a).aF q,?_⟩;refine(dw (v.ext a) y).any.aH (J.az l) j λo D n _=>⟨_,rfl,λ_=>rA (a.trans n),λ_=>?_⟩;have t:=a.trans n;refine⟨V,V,y,(i.args.ext t).aF q,?_⟩;refine(dw (w.ext t) y).any.aH n j λo E G m=>⟨_,rfl,λ_=>rA (a.trans m),λ_=>?_⟩;exact(CP (i.le (a.trans m).le) p).aH m j λo F H B=>⟨_,rfl,rA (a.trans B)⟩
end
section
def XE(b:Bk):Prop:=∀(S:List Nat)(m:E),(∀c∈S,c<m.size)->∀(t a:O)(l:List Int)(n:Int)(k:Nat),eO m t b.aD->ap (bG S m) a l->k<=b.aD.length->l.length+b.w<=10^12->
 Fg 292 [.agg #[O.v t,vi b.aS],vi n,vi k,O.v a] m S λc=>c.length<=l.length+b.w
def _root_.Go.Vc.WY{σ:Type}{n b:Nat}(l:b<=n)(q:n<=9223372036854775807){m:E}{g:σ}{f:(σ->Int->E->Prop)->(σ->Int->E->Nat)->σ->Int->E->Prop}(Q:Nat->σ->E->Prop)(j:Q b g m)
 (h:∀(k:Nat)(s:σ)(a:E)(I:σ->Int->E->Prop)(μ:σ->Int->E->Nat),b<=k->k<=n->Q k s a->
  (k<n->∀d c,Q (k+1) d c->I d (cT ((k:Int)+1)) c/\μ d (cT ((k:Int)+1)) c<μ s k a)->f I μ s k a):
 ∃(I:σ->Int->E->Prop)(μ:σ->Int->E->Nat),I g b m/\∀s i a,I s i a->f I μ s i a:=by
 refine⟨λs i c=>∃k:Nat,i=k/\b<=k/\k<=n/\Q k s c,λ_ i _=>(n -i).toNat,⟨b,rfl,ad _,l,j⟩,?_⟩
 rintro s i a ⟨k,rfl,o,p,r⟩
 refine h k s a _ _ o p r λe d c t=>?_
 rw[kA e q]
 exact⟨⟨k+1,rfl,V,e,t⟩,Dr e⟩
def Ee{S:List Nat}{m:E}(P:∀g∈S,g<m.size){B F G:O}{l:List Int}{x:cV}(K:Int)(q:ap m B x.args)(t:nD m F x.bC)(D:ap (bG S m) G l)(hb:l.length+x.w<=10^12)(U:∀e∈x.bC,XE e):
 Fg 322 [oW x B F,vi K,O.v G] m S λa=>a.length<=l.length+x.w:=by
 apply wY
 simp -zeta only[aC,aB]
 intro b
 have f:J m b:=J.push _ _
 have u:∀e∈[m.size],e<b.size:=by simp[b]
 clear_value b
 have Q:=q.len
 have R:=t.len
 have hw:=cV.mr x
 have H:∀{c:E},J b c->∀g∈S,g<c.size:=λh g C=>aO (P g C) (f.trans h).size
 refine(tA x.op b).any.aH (J.az b) u λe m2 o _=>⟨_,rfl,λ_=>⟨_,_,rfl,D.le ((f.trans o).df S),V,f.trans o⟩,λ_=>?_⟩
 refine ez (n:=x.args.length) (Q▸q.gS) (λv s c=>J b c/\∃a,ap (bG S c) s a/\a.length<=l.length+v) ⟨o,l,D.le ((f.trans o).df S),ad _⟩ ?_
 rintro v s m3 ab μ hj ⟨d,a,j,C⟩ z
 refine dit (λh=>?_) λh=>?_
 .let⟨y,i⟩:=cG x.args v
  have g1:=(q.ext (f.trans d)).aF i
  refine⟨V,V,y,g1,λ_=>⟨V,V,y,g1,λ_=>⟨V,V,y,g1,?_⟩,λ_=>z V _ _ ⟨d,a,j,V⟩⟩,λ_=>z V _ _ ⟨d,a,j,V⟩⟩
  exact(my (H d) j y V).aH d u λY w I g2 A p k=>⟨_,rfl,z V _ _ ⟨k,w,g2.done (H d) (oh A.2),oh A.2⟩⟩
 .refine ez (n:=x.bC.length) (R▸t.gS) (λi s c=>J b c/\∃a,ap (bG S c) s a/\a.length<=l.length+x.args.length+bw (x.bC.take i)) ⟨d,a,j,bE⟩ ?_
  rintro i Z I I2 μ2 hi ⟨p,w,g2,ae⟩ X
  have k:=f.trans p
  have y:=Kx x.bC
  refine⟨λh=>?_,λh=>⟨_,_,rfl,g2,oh (y i),k⟩⟩
  simp only[ar]at h
  let⟨e,r⟩:=cG x.bC i
  let⟨aa,T,L,M⟩:=(t.le k.le).aF r
  have ac:=uq r
  refine⟨V,V,_,L,_,M,?_⟩
  exact(U e (aq r) S I (H p) aa Z w K 0 T g2 (dL _) (oh (y (i+1)))).aH p u λY W m5 N A x5 u5=>⟨_,rfl,X V _ _ ⟨u5,W,N,V⟩⟩
def Al:∀e:Bk,XE e:=by
 refine Bk.ind ?_;intro aD P K S o B ab aa l L Z i G D W;simp only[Bk.jS,Bk.ju,Bk.qG]at*;apply Ef;simp -zeta only[aC,aB];intro a;have d:J o a:=J.push _ _;have r:∀e∈[o.size],e<a.size:=by simp[a]
 clear_value a;have I:=i.len;have H:∀{c:E},J a c->∀f∈S,f<c.size:=λh f p=>aO (B f p) (d.trans h).size;refine WY (n:=aD.length) D (I▸i.gS) (λj s c=>J a c/\∃m,ap (bG S c) s m/\m.length<=l.length+sw (aD.take j)) ⟨J.az _,l,G.le (d.df S),V⟩ ?_;rintro j s v T μ _ X ⟨b,m,g,p⟩ M
 have y:=d.trans b;have t:=Bw aD;refine⟨λh=>?_,λh=>?_⟩
 .simp only[ar]at h;let⟨R,k⟩:=cG aD j;let⟨U,kk,C,F,w,g1,g2,x,z⟩:=(i.le y.le).aF k;have Y:=pR k;refine⟨V,V,_,w,_,g1,_,g2,_,x,_,z,?_⟩;exact(Ee (H b) L C F g (oh (t (j+1))) (K R (aq k))).aH b r λN u m3 A q x3 Q=>⟨_,rfl,M V _ _ ⟨Q,u,A,V⟩⟩
 .have A:=t j;have w:∃x k,O.v s=O.v x/\ap (bG S v) x k/\k.length<=l.length+(1+sw aD)/\J o v:=⟨_,_,rfl,g,V,y⟩;refine⟨λ_=>⟨λ_=>?_,λ_=>w⟩,λ_=>w⟩;exact(my (H b) g P V).aH b r λN u C g2 q F z=>⟨_,rfl,_,_,rfl,g2.done (H b) (oh q.2),oh q.2,d.trans z⟩
def Dx{S:List Nat}{m:E}(i:∀d∈S,d<m.size){t:O}{b:Bk}(l:eO m t b.aD)(n:Int)(c:b.w<=10^12):Fg 257 [.agg #[O.v t,vi b.aS],vi n] m S λf=>f.length<=b.w:=by
 apply GW;simp -zeta only[aC,aB];intro g a;let⟨e,k⟩:=dD (a:=g) (c:=a) rfl rfl;have h:ap (bG S a) (.mk g.size 0 0 0) []:=⟨rfl,ad _,aL,aL⟩;clear_value a;exact(Al b S a (λd j=>e.lt (i d j)) t _ _ n 0 (l.le e.le) h (dL _) (by simpa using c)).aH (J.az a) (λb c=>k b (by simp at c⊢;exact Or.inr c)) λr f j g2 q d _=>⟨_,rfl,_,_,rfl,g2,by simpa using q,e.trans d⟩
section
variable{b:List Nat}{m:E}(e:∀c∈b,c<m.size){d r a k s q p:O}{t:List bz}{w:List gN}{x:cV}(h:At m d r a k t w x){v g u:List Int}(o:ap m s v)(l:∀y∈x.args,0<=y/\y<(v.length:Int))(f:ap m q g)(j:ap m p u)
include e h o l
def yI(M:x.args.length<=10^12):kY 261 [.agg #[O.v d,O.v r],O.v s,oW x a k] m b (pb x.args):=by
 apply tZ;simp -zeta only[aC,aB];intro I g P;let⟨q,B⟩:=dD (a:=I) (c:=g) rfl rfl;clear_value g;have H:=h.args.len;refine ez (n:=x.args.length) (H▸h.args.gS) (λj v p=>J g p/\∃f,GI b g p v f/\(∀y∈f,y∈x.args)/\f.length<=j) ⟨J.push _ _,[],GI.nil b g,aL,ad _⟩ ?_;rintro j v Q K μ N ⟨E,f,t,u,A⟩ D
 have w:=q.trans E;refine dit (λG=>?_) λG=>?_
 .let⟨y,C⟩:=cG x.args j;refine(mH (h.le w.le) (o.ext w) l (h:=j) V).aH E B λL R F p=>⟨_,rfl,λ_=>⟨V,V,y,(h.args.ext (q.trans p)).aF C,?_⟩,λ_=>D V _ _ ⟨p,f,t.ext F,u,V⟩⟩;intro S;exact GI.kH (t.ext F) (p.fz []) (λc A=>q.lt (e c A)) V λr T g2 z _ _=>⟨J.oE (p.aK _) z.ext B,D V _ _ ⟨z.ext,_,g2,oP u (aq C),bE⟩⟩
 .exact⟨v,f,rfl,t.cx (λ_ h=>h) q.size,⟨u,V⟩,w⟩
include f j
def Gp(W:x.args.length<=10^12):kY 294 [.agg #[O.v d,O.v r],O.v s,oW x a k,O.v q,O.v p] m b (pb x.args):=by
 apply yK;simp -zeta only[aC,aB];intro S u Y;let⟨v,B⟩:=dD (a:=S) (c:=u) rfl rfl;clear_value u;have R:=h.args.len;refine ez (n:=x.args.length) (R▸h.args.gS) (λt D w=>J u w/\∃g,GI b u w D g/\(∀y∈g,y∈x.args)/\g.length<=t) ⟨J.push _ _,[],GI.nil b u,aL,ad _⟩ ?_;rintro t D Z U μ X ⟨M,g,w,z,K⟩ C
 have E:=v.trans M;refine dit (λQ=>?_) λQ=>?_
 .let⟨y,L⟩:=cG x.args t;refine(mH (h.le E.le) (o.ext E) l (h:=t) V).aH M B λP m4 H F=>⟨_,rfl,λ_=>?_,λ_=>C V _ _ ⟨F,g,w.ext H,z,V⟩⟩;have G:=v.trans F;refine(AO (h.le G.le) (f.ext G) (j.ext G) (h:=t) V).aH F B λP m5 N A=>⟨_,rfl,λ_=>⟨V,V,y,(h.args.ext (v.trans A)).aF L,?_⟩,λ_=>C V _ _ ⟨A,g,(w.ext H).ext N,z,V⟩⟩;intro T;exact GI.kH ((w.ext H).ext N) (A.fz []) (λc K=>v.lt (e c K)) V λr T g2 I _ _=>⟨J.oE (A.aK _) I.ext B,C V _ _ ⟨I.ext,_,g2,oP z (aq L),bE⟩⟩
 .exact⟨D,g,rfl,w.cx (λ_ h=>h) v.size,⟨z,V⟩,E⟩
def Ir(U:g.length<=10^12):kY 296 [.agg #[O.v d,O.v r],O.v s,oW x a k,O.v q,O.v p] m b (pb g):=by
 apply AQ;simp -zeta only[aC,aB];intro Y z;let⟨t,F⟩:=dD (a:=Y) (c:=z) rfl rfl;clear_value z;have af:=h.args.len;have ab:∀{u:E},J z u->∀c∈b,c<u.size:=λh c hc=>aO (e c hc) (t.trans h).size;have X:aN cg 325 [O.v q,O.v p] z λv u=>eF [Y.size,m.size] z u/\∃Z:O,v=O.v Z/\∃A W,O.v Z=O.v A/\GI b m u A W/\pb g W/\J m u:=by
  refine(MM (S:=[]) aL (f.le (t.le.trans (zW _))) (j.le (t.le.trans (zW _))) U).aH (J.az z) F λA w ag C I Q _=>⟨_,rfl,A,w,rfl,?_,I,t.trans Q⟩;let⟨D,K,g1,g2⟩:=C;exact⟨D,K,g1.cx t.size,g2.mono λ_ _ h=>h⟩
 refine⟨λ_=>X,λ_=>⟨λ_=>X,λ_=>?_⟩⟩;refine(mj (S:=[]) aL (f.le (t.le.trans (zW _))) U).aH (J.az z) F λs0 _ ag D ae Q _=>⟨_,rfl,?_⟩;subst ae;refine ez (n:=x.args.length) (af▸h.args.gS) (λH A u=>J z u/\∃w,GI b m u A w/\pb g w) ⟨Q,g,?_,λ_ h=>h,ad _⟩ ?_
 .let⟨D,K,g1,g2⟩:=D;exact⟨D,K,g1.cx t.size,g2.mono λ_ _ h=>h⟩
 rintro H A m3 ah μ hj ⟨x3,w,C,B⟩ L
 have M:=t.trans x3;refine⟨λT=>?_,λT=>⟨A,w,rfl,C,B,M⟩⟩;simp only[ar]at T;let⟨y,hy⟩:=cG x.args H;refine(mH (h.le M.le) (o.ext M) l (h:=H) V).aH x3 F λac m4 R N=>⟨_,rfl,λ_=>?_,λ_=>L V _ _ ⟨N,w,C.ext R,B⟩⟩;have P:=t.trans N;refine(AO (h.le P.le) (f.ext P) (j.ext P) (h:=H) V).aH N F λac m5 x5 G=>⟨_,rfl,λ_=>⟨V,V,y,(h.args.ext (t.trans G)).aF hy,?_⟩,λ_=>L V _ _ ⟨G,w,(C.ext R).ext x5,B⟩⟩;refine(Bv (S:=b) (ab G) (((C.ext R).ext x5).done e (oh B.2)) y (oh B.2)).aH G F λr l2 m6 g2 I x6 u6=>⟨_,rfl,L V _ _ ⟨u6,l2,g2.cx (λ_ h=>h) (t.trans G).size,λaa hz=>B.1 aa (I.1 aa hz),bH I.2 B.2⟩⟩
omit o l
def It(hb:x.args.length<10^12):kY 297 [.agg #[O.v d,O.v r],oW x a k,O.v q,O.v p] m b (pb x.args):=by
 apply AT;simp -zeta only[aC,aB];intro X l aa;let⟨g,w⟩:=dD (a:=X) (c:=l) rfl rfl;clear_value l;have T:=h.args.len;have R:∀{t:E},J l t->∀c∈b,c<t.size:=λh c v=>aO (e c v) (g.trans h).size;refine ez (n:=x.args.length) (T▸h.args.gS) (λA H t=>J l t/\∃i,GI b l t H i/\(∀y∈i,y∈x.args)/\i.length<=A) ⟨J.push _ _,[],GI.nil b l,aL,ad _⟩ ?_;rintro A H m3 Z μ hj ⟨N,i,o,s,v⟩ B
 have M:=g.trans N;refine dit (λS=>?_) λS=>?_
 .let⟨y,z⟩:=cG x.args A;refine(nO (h.le M.le) A).aH N w λK m4 F C=>⟨_,rfl,λ_=>⟨V,V,y,(h.args.ext (g.trans C)).aF z,?_⟩,λ_=>B V _ _ ⟨C,i,o.ext F,s,V⟩⟩;refine(dw (f.ext (g.trans C)) y).any.aH C w λK m5 I D=>⟨_,rfl,λ_=>⟨V,V,y,(h.args.ext (g.trans D)).aF z,?_⟩,λ_=>B V _ _ ⟨D,i,(o.ext F).ext I,s,V⟩⟩;refine(dw (j.ext (g.trans D)) y).any.aH D w λK m6 P u=>⟨_,rfl,λ_=>⟨V,V,y,(h.args.ext (g.trans u)).aF z,?_⟩,λ_=>B V _ _ ⟨u,i,((o.ext F).ext I).ext P,s,V⟩⟩;refine(my (R u) ((((o.ext F).ext I).ext P).done (λc v=>g.lt (e c v)) V) y V).aH u w λr W m7 g2 L x7 Y=>⟨_,rfl,B V _ _ ⟨Y,W,g2.cx (λ_ h=>h) u.size,λQ U=>?_,oh L.2⟩⟩;rcases L.1 Q U with G|G
  .exact s Q G
  .subst G;exact aq z
 .exact⟨H,i,rfl,o.cx (λ_ h=>h) g.size,⟨s,V⟩,M⟩
end
end
end Go.Proofs.YtkicoahejfbjhaaGreat
