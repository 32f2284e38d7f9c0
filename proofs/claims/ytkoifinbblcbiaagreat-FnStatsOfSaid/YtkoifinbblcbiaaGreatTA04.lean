/- Part of a proof. -/
import Derived.Test.YtkoifinbblcbiaaGreatTA03
set_option linter.all false
set_option maxHeartbeats 8000000
set_option maxRecDepth 100000
namespace Go.Proofs.YtkoifinbblcbiaaGreat
open Go.Vc
section
variable{g:E}{s:O}{l:List Int}{c f:Ex}
abbrev G3(M a:E)(k:Nat)(X:Prop):Prop:=af a k 0=af M k 0/\af a k 1=af M k 1/\af a k 2=af M k 2/\X
abbrev E3(v:Value)(X:Int->Int->O->Prop):Prop:=∃a b:Int,∃c:O,v=.agg #[vi a,vi b,O.v c]/\X a b c
abbrev N1(L:List Nat)(e:Nat)(M:E)(K:Int->Int->O->E->Prop):Prop:=aM cq 313 [vi 1,vi 0,O.v (.mk e 0 2 2)] M λv a=>dY L M a/\E3 v λb c d=>K b c d a
section
variable(L:List Nat)(k:Nat)(b:Int)(h i d p w l:O)(j a e:Nat)(F:Int->Int->O->E->Prop)
abbrev TR5(g:Nat)(M:E):Prop:=N1 L g M λd e f c=>G3 M c a (N1 L c.size (c.push (.cells (bA [.i 9,.i b,.s h,.i d,.i e,.s f]) bK)) F)
abbrev TR4(c d:Int)(e:O)(M:E):Prop:=G3 M (M.push (.cells (bA [.i c,.i d,.s e,.i 9,.i b,.s i]) bK)) a (TR5 L b h a F M.size (M.push (.cells (bA [.i c,.i d,.s e,.i 9,.i b,.s i]) bK)))
abbrev TR3(M:E):Prop:=aM cq 312 [vp k 0,.agg #[O.v d,O.v p],O.v w,vi 0,vi 4] M λv c=>dY L M c/\E3 v λe f g=>G3 M c j (G3 M c a (TR4 L b h i a F e f g c))
abbrev TR2(f:Nat)(M:E):Prop:=aM cq 187 [O.v l,O.v (.mk f 0 3 3)] M λv c=>dY L M c/\∃s:O,v=O.v s/\G3 M c j (af c e 0=af M e 0/\af c e 1=af M e 1/\G3 M c a (TR3 L k b h i d p s j a F c))
end
def _root_.Go.Vc.Vn{σ τ:Type}{n:Nat}(q:n<=9223372036854775807)(e:1<=n){m:E}{h:σ}{j:τ}{g:(σ->τ->Int->E->Prop)->(σ->τ->Int->E->Nat)->σ->τ->Int->E->Prop}(Q:Nat->σ->τ->E->Prop)(o:Q 1 h j m)
 (l:∀(k:Nat)(s:σ)(t:τ)(a:E)(I:σ->τ->Int->E->Prop)(μ:σ->τ->Int->E->Nat),1<=k->k<=n->Q k s t a->
  (k<n->∀c d b,Q (k+1) c d b->I c d (cR ((k:Int)+1)) b/\μ c d (cR ((k:Int)+1)) b<μ s t k a)->g I μ s t k a):
 ∃(I:σ->τ->Int->E->Prop)(μ:σ->τ->Int->E->Nat),I h j 1 m/\∀s t i a,I s t i a->g I μ s t i a:=by
 refine⟨λs t i b=>∃k:Nat,i=k/\1<=k/\k<=n/\Q k s t b,λ_ _ i _=>(n -i).toNat,⟨1,rfl,ad _,e,o⟩,?_⟩
 rintro s t i a ⟨k,rfl,e,p,r⟩
 refine l k s t a _ _ e p r λf c d b u=>?_
 rw[kX f q]
 exact⟨⟨k+1,rfl,V,f,u⟩,Gf f⟩
def Pv(_:E)(a:List Ce)(n:Int):Prop:=∃s:O,a=[.i 12,.i n,.s s]/\s.len=0
def Pv.mono:oJ 3 Pv:=⟨λ_ h=>h,λ⟨_,h,_⟩=>by rw[h];rfl⟩
abbrev GV(g m:E)(s:O)(l:List Int):Prop:=Gr [] g m bK 3 Pv s l
def GV.dP{m a:E}(h:GV g m s l)(q:a[s.D]? =m[s.D]?):GV g a s l:=by
 let⟨c,b,d,e⟩:=h;exact⟨c,b,d.congr q,e.mono λ_ _ h=>h⟩
def GV.ex{a:List Nat}{m:E}(h:GV g m s l)(j:s.D∉a)(t:l.length<=1000):fG (bO a m) s (l.map λn=>.mk 12 n []):=by
 let⟨e,d,f,i⟩:=h;have H:=Gr.nR (S:=a) Pv.mono ⟨e,d,f,i.mono λ_ _ h=>h⟩ j be V;refine⟨by rw[H.len];simp,H.cap,H.iB,λq c b=>?_⟩;simp only[cU,jH]at b;obtain⟨n,k,rfl⟩:=b;obtain⟨r,⟨u,rfl,p⟩,o⟩:=H.iF q n k;exact⟨_,BK.of ⟨p,V,V,aJ⟩,o⟩
structure AS(S:List Nat)(ds:List bz)(nf a n0 k Q rb:Nat)(bs:O)(m M:E)(sl:O)(el:Ex)(sr:O)(er:Ex):Prop where
 b:cx M k bK [.i 0,.i 0,.s .nil]
 hk:n0<=k
 l:HX (k::S) ds nf a M sl el
 r:HX (k::S) ds nf a M sr er
 s:Rs rb bs m Q M
section
variable{S:List Nat}{e:List bz}{h a n k Q r b:Nat}{d o p:O}{m M q:E}{i j:Ex}
def AS.ext(f:AS S e h a n k Q b d m M o i p j)(c:J M q):AS S e h a n k Q b d m q o i p j:=⟨f.b.ext c,f.hk,f.l.ext c,f.r.ext c,f.s.ext c⟩
def AS.fz(c:AS S e h a n k Q b d m M o i p j)(g:b∈S)(l:k≠b)(f:Fz [b] M q)(s:Rd b d r q):AS S e h a n k r b d m q o i p j:=⟨c.b.congr (f.same k c.b.lt (by simpa using l)),c.hk,c.l.fz (by simp[g]) f,c.r.fz (by simp[g]) f,c.s.to f s⟩
def AS.new(f:n<=M.size)(l:HX S e h a M o i)(r:HX S e h a M p j)(s:Rs b d m Q M):J M (M.push (.cells (bA [.i 0,.i 0,.s .nil]) bK))/\AS S e h a n M.size Q b d m (M.push (.cells (bA [.i 0,.i 0,.s .nil]) bK)) o i p j:=
 have c:=J.push M (.cells (bA [.i 0,.i 0,.s .nil]) bK)
 ⟨c,cx.push _ _ _,f,l.jU c (ad _),r.jU c (ad _),s.ext c⟩
end
section
variable{h:List Nat}{b P:Nat}{o d p:O}{i:List bz}{j:List dA}{m:E}
def WX.m3{e d:Nat}{z:Ex}(hd:i∈sa)(l:WX i e d c)(m:WX i e d f)(n:WX i e (d+3) z):WX i e d (.mk 8 3 [c,f,z]):=by
 obtain⟨-,g,-,-,j,k⟩:=Nq i hd;refine .mt l (by rw[g];rfl) aJ λh p o b a=>?_;rw[g]at a;rcases h with _|_|h
 .simp at b a;subst b a;rw[j];exact m
 .simp at b a;subst b a;rw[k];exact n
 .simp at b
def WX.add{b a:Nat}(d:WX i b a c)(e:WX i b a f):WX i b a (.mk 1 0 [c,f]):=.fe be (λh=>V) be (λh=>V) (by simp;exact⟨d,e⟩)
def J5(hS:∀F∈h,F<m.size)(aU:b∈h)(F:GC b o P d p i j m)(hP:P+200+3*Cg 18<=10^16){C:Nat}{w:dA}(hq:j[C]? =some w)(bF:1<=w.params.length):
 aM cq 283 [vp b 0,.agg #[O.v d,O.v p],vi C] m (XP h b o m (P+200+3*Cg 18) (WX i j.length w.params.length)):=by
 apply CS (b,0)
 simp -zeta only[aC,aB]
 intro A ap
 let⟨x2,hl⟩:=dO (a:=A) (c:=ap) rfl rfl
 have s1:A.size=m.size+1:=by simp[A]
 have s2:ap.size=m.size+2:=by simp[ap,s1]
 have hr:=F.rd.lt
 clear_value ap
 have ax:∀{g:E},ap.size<=g.size->∀F∈A.size::h,F<g.size:=λz=>bT hS V V
 have r2:Rs b o m P ap:=⟨x2.fz _,F.rd.ext x2⟩
 have L1:∀{g:E},ap.size<=g.size->Lw b [A.size,m.size] g:=λz=>lw hr bI
 let⟨ps,bk,e0,e1⟩:=F.hp.aG hq
 have bY:=az hq
 have b2:=F.hp.len
 have bc:=xf _ (F.gp.dx w (ar hq))
 have h3:w.params.length<=3:=bc.1
 have PS:∀{g:E},Fz [b] m g->IR b g ps w.params:=λD=>bk.le (fh D)
 have E1:∀{g:E},Fz [b] m g->af g p.D (p.off+C*5+1)=some (vi w.aT):=λD=>(eF.1 (fh D _ _ _ e1)).2
 have b3:=bk.len
 have bs:=F.gp.ty (t:=0) be be
 have aA:b∈A.size::h:=by simp[aU]
 refine⟨V,V,ps,(eF.1 (fh r2.f _ _ _ e0)).2,?_⟩
 refine wZ (A.size::h) i j.length (a:=w.params.length+3) (L1 (ad _)) V λs3 Z bC x3=>?_
 have z3:=x3.size
 intro m4
 have x4:J Z m4:=J.push _ _
 have g4:GV Z m4 (.mk Z.size 0 1 1) [(ps.len:Int)]:=Gr.lit (f:=[[.i 12,.i ps.len,.s s3]]) Pv.mono (ad _) aJ rfl rfl ⟨rfl,aJ,λaE F B hj q=>by
  have:aE=0:=by have:=az hj;simp at this;omega
  subst this;simp at hj q;subst hj q;exact⟨s3,rfl,bC.sl.len⟩⟩
 have s4:m4.size=Z.size+1:=by simp[m4]
 clear_value m4
 rw[aP (b:=(ps.len:Int)+2) V V]
 refine wZ (A.size::h) i j.length (a:=w.params.length+3) (L1 V) V λs5 m5 h5 x5=>?_
 have z5:=x5.size
 intro m6
 have x6:J m5 m6:=J.push _ _
 have g6:GV m5 m6 (.mk m5.size 0 1 1) [(ps.len:Int)+2]:=Gr.lit (f:=[[.i 12,.i (ps.len+2),.s s5]]) Pv.mono (ad _) aJ rfl rfl ⟨rfl,aJ,λaE F B hj q=>by
  have:aE=0:=by have:=az hj;simp at this;omega
  subst this;simp at hj q;subst hj q;exact⟨s5,rfl,h5.sl.len⟩⟩
 clear_value m6
 have r3:=r2.ext x3
 have vq:∀{g u:E}{L:Int}{s:O}{l:List Int}{aX:O->E->Prop}{aT:O},GV Z g s l->J Z g->l.length<=10->aT.len=0->(∀R u,GV Z u R (l++[L])->J Z u->g.size<=u.size->(R.D=s.D\/g.size<=R.D)->(∀H,H<g.size->H≠s.D->u[H]? =g[H]?)->aX R u)->
  jN (g.push (.cells (bA [.i 12,.i L,.s aT]) bK)) bK [.i 0,.i 0,.s .nil] 40 s (.mk g.size 0 1 1) aX:=λaQ c hl ht hk=>
  Gr.kM (g:=[.i 0,.i 0,.s .nil]) (X:=[]) Pv.mono be aQ (c.fz []) ⟨_,rfl,ht⟩ V λR u g' f' aK w=>hk R u g' f'.ext aK.1 aK.2 w
 refine Vn (n:=w.params.length) V bF (λaE s aT g=>∃l l',GV Z g s l/\GV Z g aT l'/\l.length=aE/\l'.length=aE/\(∀L∈l,0<=L/\L<((w.params.length+3:Nat):Int))/\(∀L∈l',0<=L/\L<((w.params.length+3:Nat):Int))/\J Z g/\s.D≠aT.D) ⟨_,_,(g4.dP ((x5.trans x6).same _ (by show Z.size<_;omega))),Gr.cv Pv.mono g6 (λ_ z=>Or.inl z) V,rfl,rfl,bI,bI,(x4.trans x5).trans x6,by show Z.size≠m5.size;omega⟩ ?_
 rintro aE s aT g bW μ bZ hj ⟨l,l',aQ,g',b0,b1,hw,bn,xM,bE⟩ bJ
 have zM:=xM.size
 have RM:=r3.ext xM
 refine⟨λz=>?_,λ_=>?_⟩
 .simp only[au]at z
  refine wZ (A.size::h) i j.length (a:=w.params.length+3) (L1 V) V λs7 W h7 x7=>?_
  have gy:=aQ.bh;have aZ:=g'.bh
  have z7:=x7.size
  intro m8
  refine vq (u:=W) (aQ.dP (x7.same _ gy.2)) (xM.trans x7) V h7.sl.len λr9 m9 r x9 z9 Y T=>?_
  refine⟨(L1 (g:=Z) z3).tO ((((xM.trans x7).trans (J.push W _)).fz [b])) (x9.fz _),?_⟩
  refine wZ (A.size::h) i j.length (a:=w.params.length+3) (L1 V) V λaa ah a8 ai=>?_
  intro bp
  have N:=((g'.dP (x7.same _ aZ.2)).dP (T _ V (kJ bE))).dP (ai.same _ V)
  have vL:=ai.size
  refine vq (u:=W) N (x9.trans ai) V a8.sl.len λbd K I aH bR U Q=>?_
  refine⟨(L1 (g:=Z) z3).tO (((x9.trans ai).trans (J.push ah _)).fz [b]) (aH.fz _),bJ V _ _ _ ⟨_,_,(r.dP (ai.same _ r.bh.2)).dP (Q _ (oh r.bh.2) V),I,bI,bI,λL q=>?_,λL q=>?_,aH,oh r.bh.2⟩⟩
  .rcases List.mem_append.1 q with z|z
   .exact hw L z
   .simp at z;omega
  .rcases List.mem_append.1 q with z|z
   .exact bn L z
   .simp at z;omega
 have gy:=aQ.bh;have aZ:=g'.bh
 have nS:∀H,Z.size<=H->H∉A.size::h:=λH hb z=>by have:=ax (g:=ap) (ad _) H z;omega
 have bf:∀l:List Int,(∀L∈l,0<=L/\L<((w.params.length+3:Nat):Int))->WX i j.length (w.params.length+3) (.mk 9 C (l.map λL=>.mk 12 L [])):=λl hl=>.fe be (λz=>V) be (λ_=>⟨V,V⟩) (by simp;exactλL q=>.UE (hl L q))
 refine jD (aQ.ex (nS _ gy.1) V) (bf l hw) (L1 V) λsl W h7 x7=>?_
 intro m8 m9
 obtain⟨x9,-,z9⟩:=kK (M:=W) (d:=m8) (c:=m9) rfl rfl rfl
 clear_value m9
 have z7:=x7.size
 refine jD ((g'.dP ((x7.trans x9).same _ aZ.2)).ex (nS _ aZ.1) V) (bf l' bn) (lw hr bI) λsr ah a8 ai=>?_
 intro bp K
 obtain⟨aH,-,bR⟩:=kK (M:=ah) (d:=bp) (c:=K) rfl rfl rfl
 clear_value K
 have vL:=ai.size
 have a9:=((h7.ext x9).ext ai).ext aH
 have ba:=a8.ext aH
 generalize bh:Ex.mk 9 C (l.map λL=>.mk 12 L [])=el at a9
 generalize bi:Ex.mk 9 C (l'.map λL=>.mk 12 L [])=er at ba
 have bd:=(((RM.ext x7).ext x9).ext ai).ext aH
 have bX:=((x7.trans x9).trans ai).trans aH
 have bj:∀{r:Nat},K.size<=r->r≠b:=λz=>V
 have G:∀{g u:E}{r aS:Nat},K.size<=g.size->Fz [b] g u->m.size<=r->r<K.size->af u r aS=af g r aS:=λz D h1 h2=>kg D hr ⟨h1,V⟩ _
 have L4:∀{g:E},K.size<=g.size->Lw b [ah.size,W.size,A.size,m.size] g:=λz=>lw hr bI
 have L5:∀{g:E}{r:Nat},K.size<=r->r<g.size->Lw b [r,ah.size,W.size,A.size,m.size] g:=λz h'=>lw hr bI
 have a1:∀{g:E}{r:Nat},K.size<=r->r<g.size->∀F∈r::A.size::h,F<g.size:=λz h'=>bT (ax (g:=K) V) V h'
 have a5:=λ(c f:Ex)=>WX.add (i:=i) (b:=j.length) (a:=w.params.length+3) (c:=c) (f:=f)
 let aX:=λ(r:Nat)(g:E)=>∃s B,BX (A.size::h) i j.length (w.params.length+3) r g s B/\HX (r::A.size::h) i j.length (w.params.length+3) g sl el/\Rs b o m (P+Cg 18) g
 have bx:∃k9,el=.mk 9 C k9:=⟨_,bh.symm⟩
 have bz:∃k9,er=.mk 9 C k9:=⟨_,bi.symm⟩
 clear bh bi
 obtain⟨kl,rfl⟩:=bx
 obtain⟨kr,rfl⟩:=bz
 let av:=λ(r aY:Nat)(g:E)=>AS (A.size::h) i j.length (w.params.length+3) K.size r (P+aY) b o m g sl (.mk 9 C kl) sr (.mk 9 C kr)
 let aO:=λr=>[r,ah.size,W.size,A.size,m.size]
 let K0:=λ(kj:Nat×Nat)(g:E)=>kj.2=0/\K.size<=kj.1/\aX kj.1 g
 let aN:=λ(r:Nat)(q H:Int)(F:O)(u:E)=>K0 (r,0) (ag u r 0 [.i q,.i H,.s F])
 have H3:∀{g u:E}{Q:Prop},K.size<=g.size->Fz [b] g u->Q->G3 g u W.size Q:=λI D c=>⟨G I D V V,G I D V V,G I D V V,c⟩
 have H6:∀{g u:E}{Q:Prop},K.size<=g.size->Fz [b] g u->Q->G3 g u ah.size (G3 g u W.size Q):=λI D c=>⟨G I D V V,G I D V V,G I D V V,H3 I D c⟩
 have H5:∀{g u:E}{Q:Prop},K.size<=g.size->Fz [b] g u->Q->af u m.size 0=af g m.size 0/\af u m.size 1=af g m.size 1/\G3 g u W.size Q:=λI D c=>⟨G I D V V,G I D V V,H3 I D c⟩
 have H8:∀{g u:E}{Q:Prop},K.size<=g.size->Fz [b] g u->Q->G3 g u ah.size (af u m.size 0=af g m.size 0/\af u m.size 1=af g m.size 1/\G3 g u W.size Q):=λI D c=>⟨G I D V V,G I D V V,G I D V V,H5 I D c⟩
 have R7:∀{r t0:Nat}{g:E}{B:Ex},av r (Cg 18) g->fG (bO (r::A.size::h) g) (.mk t0 0 2 2) [.mk 9 C kl,B]->WX i j.length (w.params.length+3) B->N1 (aO r) t0 g (aN r):=λq hs hw=>
  jD hs (a5 _ _ q.l.wx hw) (L5 q.hk q.b.lt) λs' u h' c=>by
   have hb:=(BX.mk (e:=.mk 0 0 []) (s:=.nil) (q.b.ext c) ⟨⟨rfl,ad _,aJ,aJ⟩,.int 0⟩).set h';exact⟨rfl,q.hk,s',_,hb,(q.l.ext c).put aJ _ _,(q.s.ext c).put F.rd (oh q.hk) _ _⟩
 have R6:∀{r:Nat}{g:E}{s:O}{q H:Int}{kk:List Ex},av r (Cg 18) g->HX (r::A.size::h) i j.length (w.params.length+3) g s (.mk q H kk)->N1 (aO r) g.size (g.push (.cells (bA [.i 9,.i C,.s sl,.i q,.i H,.s s]) bK)) (aN r):=λq z=>
  R7 (q.ext (J.push _ _)) (ph [(.mk 9 C kl,sl),(.mk _ _ _,_)] aJ (a1 q.hk q.b.lt) (by simp;exact⟨q.l.sl,z.sl⟩) rfl rfl) z.wx
 have R5:∀{r t0:Nat}{g:E}{B:Ex},av r (Cg 18) g->fG (bO (r::A.size::h) g) (.mk t0 0 2 2) [B,.mk 9 C kr]->WX i j.length (w.params.length+3) B->TR5 (aO r) C sl W.size (aN r) t0 g:=λq hs hw=>
  jD hs (a5 _ _ hw q.r.wx) (L5 q.hk q.b.lt) λs' u h' c=>
   have I:=QG (nP q.hk q.b.lt)
   H3 I (c.fz _) (R6 (q.ext c) h')
 have R4:∀{r:Nat}{g:E}{s:O}{B:Ex},av r (Cg 18) g->HX (r::A.size::h) i j.length (w.params.length+3) g s B->TR4 (aO r) C sl sr W.size (aN r) B.op B.bQ s g:=λ{r g s B} q z=>
  have c:=J.push g (.cells (bA [.i B.op,.i B.bQ,.s s,.i 9,.i C,.s sr]) bK)
  have I:=QG (nP q.hk q.b.lt)
  H3 I (c.fz _) (R5 (q.ext c) (ph [(B,s),(.mk 9 C kr,sr)] aJ (a1 q.hk q.b.lt) (by simp;exact⟨z.sl,q.r.sl⟩) rfl rfl) z.wx)
 have bg:∀{a6 L':List Nat}{g:E}{ab:O}{K':Int->Int->O->E->Prop},(∀F∈a6,F<g.size)->b∈a6->Rs b o m P g->IR b g ab (w.params++[3,0,3])->Lw b L' g->(∀B s u,HX a6 i j.length (w.params.length+3) u s B->Rd b o (P+Cg 18) u->Fz [b] g u->K' B.op B.bQ s u)->aM cq 312 [vp b 0,.agg #[O.v d,O.v p],O.v ab,vi 0,vi 4] g λbN u=>dY L' g u/\∃r0 r1:Int,∃r2:O,bN=.agg #[vi r0,vi r1,O.v r2]/\K' r0 r1 r2 u:=λbD bG R hw hL hk=>
  FK (v:=w.params++[3,0,3]) bD bG (F.to R.f R.r) V hw bI bs be hL λB s u z d D=>hk B s u (by simpa using z) d D
 have R3:∀{r:Nat}{g:E}{ab:O},av r 0 g->IR b g ab (w.params++[3,0,3])->TR3 (aO r) b C sl sr d p ab ah.size W.size (aN r) g:=λq hw=>
  bg (a1 q.hk q.b.lt) (by simp[aU]) q.s hw (L5 q.hk q.b.lt) λB s u z d' D=>
   have I:=QG (nP q.hk q.b.lt)
   H6 I D (R4 (q.fz aA (bj q.hk) D d') z)
 have R2:∀{r t0:Nat}{g:E},av r 0 g->aq (bO [b] g) (.mk t0 0 3 3) [3,0,3]->TR2 (aO r) b C sl sr d p ps ah.size W.size m.size (aN r) t0 g:=λq hw=>
  (eM (S:=[b]) (by simp;exact q.s.r.lt) (PS q.s.f) hw bI).mono λ_ u⟨ab,wl,B,gw,qw,c⟩=>by
   subst qw;have I:=QG (nP q.hk q.b.lt);exact⟨(L5 q.hk q.b.lt).dv (c.fz _),ab,B,H8 I (c.fz _) (R3 (q.ext c) (GI.done gw (by simp;exact q.s.r.lt) bI))⟩
 have aG:∀{g:E}{aY:Nat},K.size<=g.size->HX (A.size::h) i j.length (w.params.length+3) g sl (.mk 9 C kl)->HX (A.size::h) i j.length (w.params.length+3) g sr (.mk 9 C kr)->Rs b o m (P+aY) g->J g (g.push (.cells (bA [.i 0,.i 0,.s .nil]) bK))/\av g.size aY (g.push (.cells (bA [.i 0,.i 0,.s .nil]) bK)):=λh1 h2 h3 h4=>AS.new h1 h2 h3 h4
 have r0:Rs b o m (P+0) K:=bd
 have wl:∀g:E,b<g.size->aq (bO [b] (g.push (.cells (bA [.i 3,.i 0,.i 3]) aD))) (.mk g.size 0 3 3) [3,0,3]:=λg z=>aq.lit aD _ (by simp;exact z) rfl rfl aJ
 refine⟨K0,⟨?_,?_⟩,?_⟩
 .intro ac
  have N:J K ac:=J.push _ _
  have a3:aq (bO [b] ac) (.mk K.size 0 3 3) [3,0,3]:=wl K bd.r.lt
  clear_value ac
  have aL:=N.size
  have a_:=a9.ext N;have bb:=ba.ext N;have Y:=r0.ext N
  refine H8 (ad _) (N.fz _) ⟨?_,?_⟩
  .refine(eM (S:=[b]) (by simp;exact Y.r.lt) (PS Y.f) a3 bI).mono λ_ al⟨ab,bP,B,gw,qw,T⟩=>⟨(L4 aL).dv (T.fz _),ab,B,H8 aL (T.fz _) ⟨?_,?_⟩⟩
   all_goals have a4:IR b al ab (w.params++[3,0,3]):=qw▸GI.done gw (by simp;exact Y.r.lt) (by rw[<-qw];simp;omega)
   all_goals have bv:=T.size
   .refine bg (a6:=A.size::h) (ax V) aA (Y.ext T) a4 (L4 V) λaj a2 am ak a7 ae=>H6 V ae ⟨?_,?_⟩
    all_goals have ay:=(a_.ext T).fz aA ae
    all_goals have aR:=(bb.ext T).fz aA ae
    all_goals have aW:=(Y.ext T).to ae a7
    all_goals have bS:=ae.size
    .intro ao
     have aa:J am ao:=J.push _ _
     have bl:fG (bO (A.size::h) ao) (.mk am.size 0 2 2) [aj,.mk 9 C kr]:=ph [(aj,a2),(.mk 9 C kr,sr)] aJ (ax V) (by simp;exact⟨ak.sl,aR.sl⟩) rfl rfl
     have bU:=aa.size
     refine H3 V (aa.fz _) ⟨?_,?_⟩
     .refine jD (M:=ao) bl (a5 _ _ ak.wx aR.wx) (L4 V) λbL aF a0 aI=>H3 V (aI.fz _) ⟨?_,?_⟩
      all_goals have Q:=aa.trans aI
      all_goals have bV:=aI.size
      .intro aV
       have an:J aF aV:=J.push _ _
       have bm:fG (bO (A.size::h) aV) (.mk aF.size 0 2 2) [.mk 9 C kl,.mk 1 0 [aj,.mk 9 C kr]]:=ph [(.mk 9 C kl,sl),(.mk 1 0 [aj,.mk 9 C kr],bL)] aJ (ax V) (by simp;exact⟨(ay.ext Q).sl,a0.sl⟩) rfl rfl
       have b4:=an.size
       refine⟨?_,?_⟩
       .refine jD (M:=aV) bm (a5 _ _ ay.wx a0.wx) (L4 V) λbM bq bB bt=>?_
        have b5:=bt.size
        intro br
        have bQ:J bq br:=J.push _ _
        refine H8 V (bQ.fz _) ?_
        intro bH
        let⟨bu,bw,b6⟩:=BX.new (f:=br) (d:=bH) bB rfl rfl
        have U:=Q.trans (an.trans bt)
        exact⟨rfl,by show K.size<=bq.size;omega,bM,_,bw,(ay.ext U).jU bu (ad _),(aW.ext U).ext bu⟩
       .let⟨U,q⟩:=aG (g:=aV) V ((ay.ext Q).ext an) ((aR.ext Q).ext an) ((aW.ext Q).ext an)
        exact H8 V (U.fz _) (R7 q (fG.le (U.bO λH hb=>(List.mem_cons.1 hb).elim (λz=>Or.inr V) Or.inl) bm) a0.wx)
      .let⟨U,q⟩:=aG (g:=aF) V (ay.ext Q) (aR.ext Q) (aW.ext Q)
       exact H8 V (U.fz _) (R6 q (a0.jU U (ad _)))
     .let⟨U,q⟩:=aG (g:=ao) V (ay.ext aa) (aR.ext aa) (aW.ext aa)
      exact H8 V (U.fz _) (R5 q (fG.le (U.bO λH hb=>(List.mem_cons.1 hb).elim (λz=>Or.inr V) Or.inl) bl) ak.wx)
    .let⟨U,q⟩:=aG (g:=am) V ay aR aW
     exact H8 V (U.fz _) (R4 q (ak.jU U (ad _)))
   .let⟨U,q⟩:=aG (g:=al) V (a_.ext T) (bb.ext T) (Y.ext T)
    exact H8 V (U.fz _) (R3 q (a4.le (fh (U.fz _))))
  .let⟨U,q⟩:=aG (g:=ac) aL a_ bb Y
   exact H8 aL (U.fz _) (R2 q (a3.le (fh (U.fz _))))
 .let⟨U,q⟩:=aG (g:=K) (ad _) a9 ba r0
  have za:=U.size
  intro ac
  refine H8 (ad _) (U.fz _) ?_
  intro al
  have T:J ac al:=J.push _ _
  exact H8 za (T.fz _) (R2 (q.ext T) (wl ac q.s.r.lt))
 rintro⟨r,aS⟩ g ⟨ho,hk,s,B,H,hl,R⟩
 simp only at ho hk H hl
 subst ho
 have bu:=H.b.lt
 have a_:=bj hk
 have U:∀{u:E},g.size<=u.size->Lw b [ah.size,W.size,A.size,m.size] u:=λz=>L4 V
 have I:K.size<=g.size:=V
 have a0:∀{u:E},g.size<=u.size->∀F∈r::A.size::h,F<u.size:=λz=>a1 hk V
 refine⟨λu=>∃s B,BX (A.size::h) i j.length (w.params.length+3) r u s B/\Rs b o m (P+2*Cg 18) u/\g.size<=u.size,⟨V,V,_,E1 R.f,λ_=>?_,λ_=>⟨s,B,H,⟨R.f,R.r.mono V⟩,ad _⟩⟩,?_⟩
 .intro ac
  have N:J g ac:=J.push _ _
  have a3:aq (bO [b] ac) (.mk g.size 0 3 3) [3,0,3]:=wl g R.r.lt
  clear_value ac
  have aL:=N.size
  have Y:=R.ext N
  refine H5 I (N.fz _) ?_
  refine(eM (S:=[b]) (by simp;exact Y.r.lt) (PS Y.f) a3 bI).mono λ_ al⟨ab,bP,e',gw,qw,T⟩=>⟨(U aL).dv (T.fz _),ab,e',H5 V (T.fz _) ?_⟩
  have a4:IR b al ab (w.params++[3,0,3]):=qw▸GI.done gw (by simp;exact Y.r.lt) (by rw[<-qw];simp;omega)
  have bv:=T.size
  have aR:=Y.ext T
  refine FK (v:=w.params++[3,0,3]) (S:=r::A.size::h) (a0 V) (by simp[aU]) (F.to aR.f aR.r) V a4 bI bs be (U V) λaj a2 am ak a7 ae=>H3 V ae ?_
  have ak:HX (r::A.size::h) i j.length (w.params.length+3) am a2 aj:=by simpa using ak
  have bS:=ae.size
  refine wZ (r::A.size::h) i j.length (a:=w.params.length+3) (U V) V λbm ao ay aa=>H3 V (aa.fz _) ?_
  intro aF
  have aI:J ao aF:=J.push _ _
  have bU:=aa.size
  have bb:=(((hl.ext N).ext T).fz (by simp[aU]) ae).ext aa
  have hs:fG (bO (r::A.size::h) aF) (.mk ao.size 0 3 3) [.mk 9 C kl,aj,.mk 12 (ps.len+2) []]:=ph [(.mk 9 C kl,sl),(aj,a2),(.mk 12 (ps.len+2) [],bm)] aJ (a0 V) (by simp;exact⟨bb.sl,(ak.ext aa).sl,ay.sl⟩) rfl rfl
  have bV:=aI.size
  refine jD (M:=aF) hs (.Pj (by simp;exact⟨bb.wx,ak.wx,ay.wx⟩)) (U V) λbq aV br an=>?_
  have aW:=((((H.ext N).ext T).fz (by simp[aU]) a_ ae).ext (aa.trans aI)).ext an
  have hb:=aW.set br
  have bl:=(((aR.to ae a7).ext (aa.trans aI)).ext an).put F.rd (k:=r) V 0 [.i 6,.i 3,.s bq]
  exact⟨aW.b.eC aJ,λb' bt=>bo _ _ _ _ (by simp at bt;omega),bq,.mk 6 3 [.mk 9 C kl,aj,.mk 12 (ps.len+2) []],hb,⟨bl.f,bl.r.mono V⟩,by rw[aw];have:=an.size;omega⟩
 rintro M3 ⟨s,B,H,R,aK⟩
 refine⟨V,V,_,E1 R.f,_,H.b.bV 0,_,H.b.bV 1,_,H.b.bV 2,?_⟩
 refine wZ (A.size::h) i j.length (a:=w.params.length) (U aK) V λaV ac ak N=>?_
 have aL:=N.size
 have ae:∀{M1 M2:E}{aS:Nat},g.size<=M1.size->Fz [b] M1 M2->af M2 r aS=af M1 r aS:=λz D=>kg D hr ⟨V,V⟩ _
 refine⟨ae aK (N.fz _),ae aK (N.fz _),ae aK (N.fz _),(E1 (R.f.then N)).trans (E1 R.f).symm,G V (N.fz _) V V,G V (N.fz _) V V,G V (N.fz _) V V,?_⟩
 have Y:=R.ext N
 refine FK (S:=A.size::h) (ax V) aA (F.to Y.f Y.r) V (PS Y.f) V (F.gp.ty bc.2.2.1 bc.2.2.2) be (U V) λaj aW al an aR T=>⟨ae V T,ae V T,ae V T,?_⟩
 have bv:=T.size
 intro am
 have aF:J al am:=J.push _ _
 have aI:=(H.ext N).fz aA a_ T
 have hs:fG (bO (A.size::h) am) (.mk al.size 0 3 3) [.mk 12 0 [],aj,B]:=ph [(.mk 12 0 [],aV),(aj,aW),(B,s)] aJ (ax V) (by simp;exact⟨(ak.fz aA T).sl,an.sl,aI.h.fu.sl⟩) rfl rfl
 refine jD (M:=am) hs (.m3 F.gp.ds ak.wx an.wx H.h.wx) (U (oh aF.size)) λbm ao ay aa=>?_
 exact ay.iy (((Y.to T aR).ext aF).ext aa) F.rd V V
end
end
section
variable{a:E}{c:List Ce}{b:Nat}
section
variable{f:List Nat}{e P:Nat}{h d p:O}{i:List bz}{g:List dA}{m:E}
def MV(hS:∀n∈f,n<m.size)(aj:e∈f)(n:GC e h P d p i g m)(hP:P+300+40*Cg 18<=10^16){N:Nat}{q:dA}(z:g[N]? =some q)(ak:N=0->q.params.length=0):
 aM cq 251 [vp e 0,.agg #[O.v d,O.v p],vi N] m (XP f e h m (P+300+40*Cg 18) (Yq i g.length q.params.length)):=by
 apply Gn (e,0)
 simp -zeta only[aC,aB]
 intro l w
 let⟨x2,hl⟩:=dO (a:=l) (c:=w) rfl rfl
 have s1:l.size=m.size+1:=by simp[l]
 have s2:w.size=m.size+2:=by simp[w,s1]
 have hr:=n.rd.lt
 clear_value w
 have ae:∀{a:E},w.size<=a.size->∀n∈l.size::f,n<a.size:=λc=>bT hS V V
 have t:Rs e h m P w:=⟨x2.fz _,n.rd.ext x2⟩
 have J:∀{a:E},w.size<=a.size->Lw e [l.size,m.size] a:=λc=>lw hr bI
 let⟨U,ah,e0,e1⟩:=n.hp.aG z
 have an:=az z
 have ao:=n.hp.len
 have ab:=xf _ (n.gp.dx q (ar z))
 have h3:q.params.length<=3:=ab.1
 have Z:∀{a:E},Fz [e] m a->IR e a U q.params:=λx=>ah.le (fh x)
 have aq:=ah.len
 have aa:e∈l.size::f:=by simp[aj]
 have am:=n.gp.ty ab.2.2.1 ab.2.2.2
 refine⟨V,V,U,(eF.1 (fh t.f _ _ _ e0)).2,V,V,_,(eF.1 (fh t.f _ _ _ e1)).2,?_⟩
 refine(Mi ((Z t.f).le (bF _ _)) 1).mono λ_ m3⟨pl,en,ap,x3⟩=>⟨(J (ad _)).dv (x3.fz _),pl,en,?_⟩
 have z3:=x3.size
 refine Jd (l.size::f) i g.length q.params.length (J z3) 0 λs4 o C x4=>?_
 have z4:=x4.size
 intro m5 H
 let⟨x6,b6,z6⟩:=BX.new (f:=m5) (d:=H) C rfl rfl
 clear_value H
 have r6:=((t.ext x3).ext x4).ext x6
 have hk:o.size≠e:=V
 have L6:∀{a:E},H.size<=a.size->Lw e [o.size,l.size,m.size] a:=λc=>lw hr bI
 refine(cC r6.r V 4).mono λ_ r⟨b,en,_,_,d7,L⟩=>⟨(L6 (ad _)).dv L,b,en,?_⟩
 have I:=r6.to L d7
 have z7:=L.size
 have B:=n.to I.f I.r
 have D:∀j∈o.size::l.size::f,j<r.size:=bT (ae (a:=r) V) (ad _) V
 have F:e∈o.size::l.size::f:=by simp[aj]
 have iy:∀{x:Nat}{ac:List Value}{Q:Nat},aM cq x ac r (XP (o.size::l.size::f) e h r Q (WX i g.length q.params.length))->Q<=P+300+20*Cg 18->aM cq x ac r λv A=>dY [o.size,l.size,m.size] r A/\∃W X:Int,∃t:O,v=.agg #[vi W,vi X,O.v t]/\
  ∃u j,BX (l.size::f) i g.length q.params.length o.size (ag A o.size 0 [.i W,.i X,.s t]) u j/\Rs e h m (P+300+20*Cg 18) (ag A o.size 0 [.i W,.i X,.s t])/\H.size<=(ag A o.size 0 [.i W,.i X,.s t]).size:=λc hQ=>
  XP.kk c (L6 z7) λu j A h1 h2 h3 C=>by
   have hb:=((b6.fz aa hk L).fz aa hk C).set ⟨h1,h2⟩;have ai:=(I.to C h3).put n.rd (k:=o.size) V 0 [.i j.op,.i j.bQ,.s u];exact⟨u,j,hb,⟨ai.f,ai.r.mono hQ⟩,by rw[aw];have:=C.size;omega⟩
 have Dl:=λ(a:E)(S':List Nat)(h1:∀j∈S',j<a.size)(h2:e∈S')(Q:Nat)(cM:GC e h Q d p i g a)(x:Fz [e] m a)(hQ:Q+20*Cg 18<=10^16)(s:Int)(hb:0<=s/\s<=18)=>Mb (S:=S') h1 h2 cM hQ (Z x) V am hb
 have R:=iy ((Dl r _ D F _ B I.f V 18 be).mono λ_ _ c=>c.mono (λj K=>K.1) (ad _)) V
 have first:1<=q.params.length->∃y:Int,q.params[0]? =some y/\af r U.D (U.off+Int.toNat 0*1)=some (vi y):=λc=>by
  let⟨y,T⟩:=cK q.params 0;exact⟨y,T,(eF.1 ((Z I.f).aG T)).2⟩
 refine⟨λa=>∃u j,BX (l.size::f) i g.length q.params.length o.size a u j/\Rs e h m (P+300+20*Cg 18) a/\H.size<=a.size,?_,?_⟩
 .refine⟨λv a=>(v=true->N=0)/\r=a,⟨λ_=>⟨λc=>by simp at c;omega,rfl⟩,λ_=>⟨sx,rfl⟩⟩,?_⟩
  rintro v _ ⟨G,rfl⟩
  refine⟨λc=>?_,λ_=>?_⟩
  .have Y:=ak (G c)
   exact iy ((J1 D F B V).mono λ_ _ c=>c.mono (λj K=>by rw[Y];exact K) (ad _)) V
  refine⟨λv a=>(v=true->0<=pl)/\r=a,⟨λ_=>⟨λc=>⟨λ_=>⟨λ_=>by simpa using c,rfl⟩,λ_=>⟨λ_=>by simpa using c,rfl⟩⟩,λ_=>⟨aJ,rfl⟩⟩,λ_=>⟨aJ,rfl⟩⟩,?_⟩
  rintro v _ ⟨G,rfl⟩
  refine⟨λc=>iy (J4 D F B V z ⟨G c,V⟩) V,λ_=>?_⟩
  refine⟨λv a=>(v=true->1<=q.params.length)/\r=a,⟨λ_=>⟨λc=>?_,λ_=>⟨aJ,rfl⟩⟩,λ_=>⟨aJ,rfl⟩⟩,?_⟩
  .simp only[au]at c
   let⟨y,T,K⟩:=first V
   exact⟨be,V,y,K,λ_=>⟨λ_=>⟨λ_=>V,rfl⟩,λ_=>⟨λ_=>V,rfl⟩⟩,λ_=>⟨aJ,rfl⟩⟩
  rintro v _ ⟨G,rfl⟩
  refine⟨λc=>iy (J5 D F B V z (G c)) V,λ_=>⟨λ_=>⟨λc=>?_,λ_=>R⟩,λ_=>R⟩⟩
  simp only[au]at c
  let⟨y,T,K⟩:=first V
  have Y:=iy (JO D F B V z V) V
  exact⟨be,V,y,K,λ_=>⟨λ_=>Y,λ_=>⟨λ_=>Y,λ_=>R⟩⟩,λ_=>R⟩
 rintro a ⟨u,j,s,al,av⟩
 refine⟨_,s.b.bV 0,_,s.b.bV 1,_,s.b.bV 2,?_⟩
 refine(Bb (fG.le (bF _ _) s.h.sl)).mono λ_ m8⟨n8,e8,q8,Y⟩=>⟨(J V).dv (Y.fz _),n8,e8,?_⟩
 have z8:=Y.size
 have G:=al.ext Y
 have K:=s.ext Y
 refine⟨λ_=>XP.ret (Dl m8 (l.size::f) (ae V) aa _ (n.to G.f G.r) G.f V 12 be) (J V) G.f n.rd V (λ_ c=>c) V,λc=>⟨_,K.b.bV 0,_,K.b.bV 1,_,K.b.bV 2,?_⟩⟩
 simp only[bG]at c
 have r9:=G.put n.rd (k:=l.size) V 0 [.i j.op,.i j.bQ,.s u]
 exact⟨u,j,rfl,(K.h.fu.put aJ _ _).fu.sl,⟨s.h.wx,V⟩,r9.r.mono V,r9.f⟩
end
def BT{α:Type}{R:E->List Ce->α->Prop}{n:Nat}(g:oJ n R){S:List Nat}(o:∀d∈S,d<a.size)(e:Nat)(l:List (α×List Ce))(h:∀x∈l,R (bO S a) x.2 x.1)(p:c=l.flatMap (·.2))(q:b=l.length):
 Gr S a (a.push (.cells (bA c) e)) e n R (.mk a.size 0 b b) (l.map (·.1)):=by
 refine Gr.lit (f:=l.map (·.2)) g (ad _) o (by rw[p,List.flatMap_def]) (by simp[q]) ⟨aJ,λd i=>?_,λr d e k j=>?_⟩
 .simp at i;let⟨m,f⟩:=i;exact g.len (h _ f)
 .simp only[cU,jH]at k j
  obtain⟨x,m,rfl⟩:=k
  obtain⟨y,f,rfl⟩:=j
  rw[m]at f;simp at f;subst f
  exact h x (ar m)
abbrev UY(m:E)(s:O)(l:List (List Int)):Prop:=eR m 1 (mT m) s l
def xl{S:List Nat}(d:∀e∈S,e<a.size)(e:Nat)(l:List (List Int×O))(k:l.length<=1000)(h:∀x∈l,aq (bO S a) x.2 x.1)(f:c=l.map λx=>.s x.2)(g:b=l.length):UY (bO S (a.push (.cells (bA c) e))) (.mk a.size 0 b b) (l.map (·.1)):=by
 have H:=BT (R:=λm c x=>mT m c x) (n:=1) ⟨λh=>mT.le h _ _,λ⟨_,h,_⟩=>by rw[h];rfl⟩ d e (l.map λx=>(x.1,[Ce.s x.2])) (λx i=>by simp at i;obtain⟨m,o,j,rfl⟩:=i;exact⟨_,rfl,h _ j⟩) (c:=c) (b:=b) (by rw[f];clear f g h k;induction l<;>simp_all) (by simp[g]);have i:=Gr.done mT.mono H d be bI;rwa[show(l.map λx=>(x.1,[Ce.s x.2])).map (·.1)=l.map (·.1)by simp[XQ,Function.comp_def]]at i
abbrev ZC(S:List Nat)(a m:E)(s:O)(l:List bz):Prop:=Gr S a m j7 3 iI s l
end
section
variable{K:O->E->Prop}
section
variable{S L:List Nat}{c P:Nat}{d:O}{m b:E}
def Ny(f:O)(d:∀a∈L,a<b.size)(g:∀a,J b a->K f a):aM cq 215 [O.v f] b λv a=>dY L b a/\∃c:O,v=.agg #[O.v c]/\K c a:=
 (LU f b).mono λ_ a⟨e,x⟩=>⟨x.dv d,f,e,g a x⟩
def Dj(f:O)(d:∀a,J b a->K f a):aM cq 215 [O.v f] b λv a=>∃c:O,v=.agg #[O.v c]/\K c a:=
 (LU f b).mono λ_ a⟨e,x⟩=>⟨f,e,d a x⟩
def wJ(hS:∀s∈S,s<m.size)(T:c∈S)(Q:Rd c d P m)(hP:P+1<=10^16):
 aM cq 214 [vp c 0] m λa6 U=>∃t ds,a6=O.v t/\ZC S m U t ds/\ds∈sa/\Rd c d (P+1) U/\Fz [c] m U:=by
 apply AM (c,0)
 simp -zeta only[aC,aB]
 have hr:=Q.lt
 have i:∀{b:E},m.size<=b.size->∀s∈S,s<b.size:=λh s hc=>by have:=hS s hc;omega
 have I:∀(b:E)(l:List Int)(L:List Ce)(D:Nat),m.size<=b.size->L=l.map Ce.i->D=l.length->l.length<=1000->aq (bO S (b.push (.cells (bA L) aD))) (.mk b.size 0 D D) l:=λb l L D h h1 h2 h3=>aq.lit aD l (i h) h1 h2 V
 have ap:∀(b:E)(f:Nat),aq (bO S b) (.mk f 0 0 0) []:=λb f=>mL _ _ _ _ _ _
 intro a3
 have x1:J m a3:=J.push _ _
 refine Dj _ λy x2=>?_
 intro m3
 have x3:J y m3:=J.push _ _
 have z2:=(x1.trans x2).size
 have i3:aq (bO S m3) (.mk y.size 0 2 2) [0,1]:=I y [0,1] _ _ z2 rfl rfl be
 clear_value m3
 refine Dj _ λm4 H=>?_
 intro q
 have x5:J m4 q:=J.push _ _
 have z4:=(x3.trans H).size
 have c5:UY (bO S q) (.mk m4.size 0 2 2) [[],[0,1]]:=xl (i V) _ [([],.mk m.size 0 0 0),([0,1],.mk y.size 0 2 2)] aJ (by simp;exact⟨ap _ _,i3.le (H.dg _)⟩) rfl rfl
 clear_value q
 intro m6 B
 obtain⟨x7,-,z7⟩:=kK (M:=q) (d:=m6) (c:=B) rfl rfl rfl
 clear_value B
 have z5:=x5.size
 intro m8
 have x8:J B m8:=J.push _ _
 clear_value m8
 have z8:=x8.size
 refine Ny _ bI λC x9=>?_
 intro W
 have aE:J C W:=J.push _ _
 have z9:=x9.size
 have aY:aq (bO S W) (.mk C.size 0 3 3) [3,0,3]:=I C [3,0,3] _ _ V rfl rfl be
 clear_value W
 have vL:=aE.size
 refine Ny _ bI λX ai=>?_
 intro k
 have aF:J X k:=J.push _ _
 have a_:=ai.size
 have aO:UY (bO S k) (.mk X.size 0 2 2) [[],[3,0,3]]:=xl (i V) _ [([],.mk B.size 0 0 0),([3,0,3],.mk C.size 0 3 3)] aJ (by simp;exact⟨ap _ _,aY.le (ai.dg _)⟩) rfl rfl
 clear_value k
 intro a4 n
 obtain⟨a7,-,bb⟩:=kK (M:=k) (d:=a4) (c:=n) rfl rfl rfl
 clear_value n
 have ba:=aF.size
 have LL:∀{b:E},n.size<=b.size->∀f∈[k.size,q.size],f<b.size:=λh=>bI
 intro Y
 have aG:J n Y:=J.push _ _
 have aZ:aq (bO S Y) (.mk n.size 0 2 2) [1,3]:=I n [1,3] _ _ V rfl rfl be
 clear_value Y
 have a8:=aG.size
 refine Ny _ (LL a8) λZ aj=>?_
 intro o
 have aH:J Z o:=J.push _ _
 have bc:=aj.size
 have aP:UY (bO S o) (.mk Z.size 0 1 1) [[1,3]]:=xl (i V) _ [([1,3],.mk n.size 0 2 2)] aJ (by simp;exact aZ.le (aj.dg _)) rfl rfl
 clear_value o
 have bd:=aH.size
 intro aa
 have aI:J o aa:=J.push _ _
 have a0:aq (bO S aa) (.mk o.size 0 3 3) [1,1,0]:=I o [1,1,0] _ _ V rfl rfl be
 clear_value aa
 have bf:=aI.size
 refine Ny _ (LL V) λx ak=>?_
 intro ab
 have al:J x ab:=J.push _ _
 have bg:=ak.size
 have a1:aq (bO S ab) (.mk x.size 0 1 1) [0]:=I x [0] _ _ V rfl rfl be
 clear_value ab
 have bh:=al.size
 refine Ny _ (LL V) λz F=>?_
 intro ac
 have G:J z ac:=J.push _ _
 have bi:=F.size
 have a2:aq (bO S ac) (.mk z.size 0 1 1) [3]:=I z [3] _ _ V rfl rfl be
 clear_value ac
 have bj:=G.size
 refine Ny _ (LL V) λae u=>?_
 intro p
 have aK:J ae p:=J.push _ _
 have bk:=u.size
 have aQ:UY (bO S p) (.mk ae.size 0 3 3) [[1,1,0],[0],[3]]:=xl (i V) _ [([1,1,0],.mk o.size 0 3 3),([0],.mk x.size 0 1 1),([3],.mk z.size 0 1 1)] aJ (by simp;exact⟨a0.le ((((((ak.trans al).trans F).trans G).trans u)).dg _),a1.le (((F.trans G).trans u).dg _),a2.le (u.dg _)⟩) rfl rfl
 clear_value p
 have bl:=aK.size
 have ax:=(((((aI.trans ak).trans al).trans F).trans G).trans u).trans aK
 have aw:=(((a7.trans aG).trans aj).trans aH).trans ax
 have K:=(((((x7.trans x8).trans x9).trans aE).trans ai).trans aF).trans aw
 have w:∀{am an:E}{t:O}{l:List (List Int)},J am an->UY (bO S am) t l->UY (bO S an) t l:=λaA h=>eR.le h (aA.dg _) (mT.le (aA.dg _))
 have ag:UY (bO S p) .nil []:=⟨rfl,ad _,aJ,aJ⟩
 intro e
 have r:J p e:=J.push _ _
 have aU:cy (bO S e) (.mk p.size 0 4 4) Sa:=(BT (R:=iI) iI.mono (i (b:=p) V) j7 [(⟨0,0,[[1,3]]⟩,[.i 0,.i 0,.s (.mk Z.size 0 1 1)]),(⟨1,0,[]⟩,[.i 1,.i 0,.s .nil]),(⟨0,0,[[1,1,0],[0],[3]]⟩,[.i 0,.i 0,.s (.mk ae.size 0 3 3)]),(⟨0,1,[]⟩,[.i 0,.i 1,.s .nil])] (by simp;exact⟨⟨_,rfl,w ax aP⟩,⟨_,rfl,ag⟩,⟨_,rfl,aQ⟩,⟨_,rfl,ag⟩⟩) rfl rfl).done iI.mono (i V) be be
 clear_value e
 have bm:=r.size
 intro A
 have v:J e A:=J.push _ _
 have ay:ZC S e A (.mk e.size 0 3 3) KD:=BT (R:=iI) iI.mono (i (b:=e) V) j7 [(⟨0,0,[[],[0,1]]⟩,[.i 0,.i 0,.s (.mk m4.size 0 2 2)]),(⟨0,0,[]⟩,[.i 0,.i 0,.s .nil]),(⟨0,0,[[],[3,0,3]]⟩,[.i 0,.i 0,.s (.mk X.size 0 2 2)])] (by simp;exact⟨⟨_,rfl,w (K.trans r) c5⟩,⟨_,rfl,w r ag⟩,⟨_,rfl,w (aw.trans r) aO⟩⟩) rfl rfl
 clear_value A
 have av:=((((x1.trans x2).trans x3).trans H).trans x5).trans (K.trans (r.trans v))
 have bn:=v.size
 have aN:Lw c [k.size,q.size] A:=λf j=>⟨LL V f j,by simp at j;omega⟩
 refine(cC (Q.ext av) V 5).mono λ_ af⟨az,aR,k0,k1,N,g⟩=>⟨aN.dv g,az,aR,λh=>?_,λ_=>⟨_,KD,rfl,Gr.cv iI.mono (ay.dP iI.mono g (by simp;exact⟨T,V⟩)) (λ_ h=>Or.inl h) V,by simp[sa],N,(av.fz _).trans g⟩⟩
 simp only[au]at h
 let⟨ah,hq⟩:=cK Sa az.toNat (by simp[Sa];omega)
 have aX:Le (bO S e) (bO (e.size::S) af):=(v.bO λf j=>(List.mem_cons.1 j).elim (λh=>Or.inr V) Or.inl).trans (g.dg (by simp[T]))
 let⟨aT,hf,e0,e1,e2⟩:=(aU.le aX).aG hq
 refine⟨k0,bI,_,(eF.1 e0).2,_,(eF.1 e1).2,_,(eF.1 e2).2,?_⟩
 intro a9
 have aV:ZC S e af (.mk e.size 0 3 3) KD:=ay.dP iI.mono g (by simp;exact⟨T,V⟩)
 have hz:=g.size
 have aW:KD++[ah]∈sa:=by
  have:=ar hq;simp only[sa,aS,XR];exact Or.inr ⟨ah,this,rfl⟩
 refine Gr.kM (g:=[.i 0,.i 0,.s .nil]) (k:=ah) iI.mono be aV ((v.fz _).trans g) ⟨aT,rfl,hf⟩ (by simp[KD]) λa5 M' g' f' z' q'=>?_
 have ao:=((((((x1.trans x2).trans x3).trans H).trans x5).trans (K.trans r)).fz [c]).trans f'
 have aL:Lw c [k.size,q.size] e:=λf j=>⟨LL V f j,by simp at j;omega⟩
 exact⟨aL.tO (((v.fz [c]).trans g).then (J.push af _)) f',a5,_,rfl,Gr.cv iI.mono g' (λ_ h=>Or.inl h) V,aW,Q.OG N ao (q' c N.lt (by show c≠e.size;omega)),ao⟩
end
end
section
variable{a:Nat}{b:List Ce}
def Pp(M:E)(b:List Ce)(x:dA×Option Ex):Prop:=∃c a k z,b=[.s c,.i x.1.aT,.i a,.i k,.s z]/\aq M c x.1.params/\∀e,x.2=some e->a=e.op/\k=e.bQ/\fG M z e.bD
def Pp.mono:oJ 5 Pp:=⟨λh⟨b,a,k,z,e,c,d⟩=>⟨b,a,k,z,e,c.le h,λx j=>let⟨f,g,i⟩:=d x j;⟨f,g,fG.le h i⟩⟩,λ⟨_,_,_,_,e,_⟩=>by rw[e];rfl⟩
def ZB(M:E)(b:List Ce)(x:dA×Ex):Prop:=∃a s,b=[.s a,.i x.1.aT,.i x.2.op,.i x.2.bQ,.s s]/\aq M a x.1.params/\fG M s x.2.bD
def ZB.mono:oJ 5 ZB:=⟨λh⟨a,s,e,b,c⟩=>⟨a,s,e,b.le h,fG.le h c⟩,λ⟨_,_,e,_⟩=>by rw[e];rfl⟩
abbrev Xl(m:E)(s:O)(l:List (dA×Ex)):Prop:=eR m 5 (ZB m) s l
structure Xo(ds:List bz)(l:List (dA×Ex)):Prop where
 gp:GP ds (l.map (·.1))
 Dl:∀x∈l,Yq ds l.length x.1.params.length x.2
def Gr.Z9{α:Type}{S:List Nat}{q p:E}{j g h c k:Nat}{R:E->List Ce->α->Prop}{o:List α}(x:0<g)(m:Gr S q p j g R (.mk h 0 a c) o)(v:k<=a):Gr S q p j g R (.mk h 0 k c) (o.take k):=by
 have w:=m.len x;obtain⟨-,b,r,d⟩:=m;simp only[O.iS]at w;have t:b.length=a:=by rw[d.len];omega
 rcases r.aG with e|⟨B,C,tail,e,h4,h5,h6,h7⟩
 .simp at e
 simp only[O.iS,O.mk.injEq]at e h7;obtain⟨rfl,-,-,rfl⟩:=e;have l:b.flatten=(b.take k).flatten++(b.drop k).flatten:=by rw[<-qU,dm]
 have n:∀c∈b.take k,c.length=g:=λc s=>d.size c (gB s);refine⟨aJ,b.take k,⟨by rw[cg n,gG,t,jd v];rfl,Or.inr ⟨h,c,(b.drop k).flatten++tail,aJ,h4,by rw[<-fD,<-l];exact h5,by rw[<-fD,<-l];exact h6,bI⟩⟩,?_,n,λy z A f i=>?_⟩
 .rw[gG,gG,d.len]
 .rw[lK]at f i;split at f
  .rename_i u;rw[aj u]at i;exact d.dx y z A f i
  .simp at f
section
variable{S L:List Nat}{d P:Nat}{c:O}{m M:E}
def rL{K:O->Int->Int->Int->O->E->Prop}(l:List Int)(r:Int)(n:∀c∈S,c<M.size)(m:∀d∈L,d<M.size)(t:l.length<=1000)(p:b=l.map Ce.i)(s:a=l.length)(q:∀c,J M c->aq (bO S c) (.mk M.size 0 a a) l->K (.mk M.size 0 a a) r 0 0 .nil c):
 aM cq 250 [O.v (.mk M.size 0 a a),vi r] (M.push (.cells (bA b) aD)) λv c=>dY L (M.push (.cells (bA b) aD)) c/\∃e:O,∃f:Int,∃g:Int,∃h:Int,∃i:O,v=.agg #[O.v e,vi f,vi g,vi h,O.v i]/\K e f g h i c:=
 have j:=J.push M (.cells (bA b) aD)
 (Ru _ r _).mono λ_ c⟨k,x⟩=>⟨x.dv λd o=>j.lt (m d o),_,_,_,_,_,k,q c (j.trans x) ((aq.lit aD l n p s V).le (x.dg _))⟩
def ym(a:List Int)(r:Int):dA:=⟨a,[],r,0,[]⟩
def TD.mono:oJ 5 TD:=⟨λh=>TD.le h,λ⟨_,_,_,_,e,_⟩=>by rw[e];rfl⟩
def Rp(l:List (dA×O))(c:∀d∈S,d<M.size)(h:∀x∈l,aq (bO S M) x.2 x.1.params)(k:l.length<=1000)(f:b=l.flatMap λx=>[.s x.2,.i x.1.aT,.i 0,.i 0,.s .nil])(g:a=l.length):pJ (bO S (M.push (.cells (bA b) fw))) (.mk M.size 0 a a) (l.map (·.1)):=by
 have H:=(BT (R:=TD) TD.mono c fw (l.map λx=>(x.1,[Ce.s x.2,.i x.1.aT,.i 0,.i 0,.s .nil])) (λx d=>by simp at d;obtain⟨i,j,e,rfl⟩:=d;exact⟨_,_,_,_,rfl,h _ e⟩) (c:=b) (b:=a) (by rw[f,List.flatMap_map]) (by simp[g])).done TD.mono c be bI;rwa[show(l.map λx=>(x.1,[Ce.s x.2,.i x.1.aT,.i 0,.i 0,.s .nil])).map (·.1)=l.map (·.1)by simp[XQ,Function.comp_def]]at H
end
end
section
def Vt:List dA:=[ym [1] 0,ym [1,1] 1,ym [1] 1,ym [1,0] 1,ym [2,1] 1,ym [1,1] 0]
def VE:List dA:=[ym [3] 0,ym [0] 1,ym [0,1] 1,ym [3,0] 3,ym [3] 1,ym [1,3,0] 0]
def Pa:List dA:=[ym [0] 0,ym [0,0] 0,ym [1,0] 0,ym [0] 1]
def QQ:(∀q∈Vt,(q.params,q.aT)∈Py)/\(∀q∈VE,(q.params,q.aT)∈Py)/\∀q∈Pa,(q.params,q.aT)∈Py:=be
def OQ{α:Type}{l:List α}{k:Nat}{x:α}(h:l[k]? =some x):l.set k x=l:=iL λi=>by
 rw[jF];split
 .rename_i e;subst e;rw[aj (az h),h]
 .rfl
section
variable{b:List Nat}{c P:Nat}{d:O}{m:E}
def EF(hS:∀j∈b,j<m.size)(s:c∈b)(I:Rd c d P m)(hP:P+10+4*(300+40*Cg 18)<=10^16):
 aM cq 237 [vp c 0] m λbz m'=>∃w aW y o,bz=.agg #[O.v w,O.v aW]/\cy (bO b m') w y/\Xl (bO b m') aW o/\Xo y o/\Rd c d (P+10+4*(300+40*Cg 18)) m'/\Fz [c] m m':=by
 apply xL (c,0)
 unfold sL
 simp(config:={zeta:=false,maxSteps:=2000000}) only[aC,aB]
 have hr:=I.lt
 intro aa
 have x1:J m aa:=J.push _ _
 have s1:aa.size=m.size+1:=by simp[aa]
 clear_value aa
 have ao:∀j∈m.size::b,j<aa.size:=bT hS x1.size V
 refine(wJ ao (by simp[s]) (I.ext x1) V).mono λ_ e⟨w,y,r,gd,aN,d2,f2⟩=>⟨f2.dv bI,w,r,?_⟩
 have z2:=f2.size
 have F2:=(x1.fz [c]).trans f2
 have aK:cy (bO (m.size::b) e) w y:=gd.done iI.mono ao be (oh (pM y aN))
 intro m3 A
 obtain⟨x4,-,z4⟩:=kK (M:=e) (d:=m3) (c:=A) rfl rfl rfl
 clear_value A
 have h:∀{g:E},A.size<=g.size->∀j∈e.size::m.size::b,j<g.size:=λq=>bT (λj hc=>oh (ao j hc)) q V
 have LL:∀{g:E},A.size<=g.size->∀v∈[e.size,m.size],v<g.size:=λq=>bI
 refine rL (S:=e.size::m.size::b) [1] 0 (h V) (LL V) be rfl rfl λa9 x5 i1=>?_
 have z5:=x5.size
 refine rL (S:=e.size::m.size::b) [1,1] 1 (h V) (LL V) be rfl rfl λa2 x6 i2=>?_
 have z6:=x6.size
 refine rL (S:=e.size::m.size::b) [1] 1 (h V) (LL V) be rfl rfl λa3 x7 i3=>?_
 have z7:=x7.size
 refine rL (S:=e.size::m.size::b) [1,0] 1 (h V) (LL V) be rfl rfl λa4 x8 i4=>?_
 have z8:=x8.size
 refine rL (S:=e.size::m.size::b) [2,1] 1 (h V) (LL V) be rfl rfl λa_ x9 i5=>?_
 have z9:=x9.size
 refine rL (S:=e.size::m.size::b) [1,1] 0 (h V) (LL V) be rfl rfl λa6 aA i6=>?_
 have vL:=aA.size
 intro b1
 have y1:J a6 b1:=J.push _ _
 have X9:=x9.trans aA;have X8:=x8.trans X9;have X7:=x7.trans X8;have X6:=x6.trans X7
 have g1:pJ (bO (e.size::m.size::b) b1) (.mk a6.size 0 6 6) Vt:=Rp [(ym [1] 0,.mk A.size 0 1 1),(ym [1,1] 1,.mk a9.size 0 2 2),(ym [1] 1,.mk a2.size 0 1 1),(ym [1,0] 1,.mk a3.size 0 2 2),(ym [2,1] 1,.mk a4.size 0 2 2),(ym [1,1] 0,.mk a_.size 0 2 2)] (h V) (by simp;exact⟨i1.le (X6.dg _),i2.le (X7.dg _),i3.le (X8.dg _),i4.le (X9.dg _),i5.le (aA.dg _),i6⟩) aJ rfl rfl
 have bJ:b1.size=a6.size+1:=by simp[b1]
 clear_value b1
 have w1:=y1.size
 refine rL (S:=e.size::m.size::b) [3] 0 (h V) (LL V) be rfl rfl λc1 u1 j1=>?_
 have v1:=u1.size
 refine rL (S:=e.size::m.size::b) [0] 1 (h V) (LL V) be rfl rfl λc2 u2 j2=>?_
 have v2:=u2.size
 refine rL (S:=e.size::m.size::b) [0,1] 1 (h V) (LL V) be rfl rfl λc3 u3 j3=>?_
 have v3:=u3.size
 refine rL (S:=e.size::m.size::b) [3,0] 3 (h V) (LL V) be rfl rfl λc4 u4 j4=>?_
 have v4:=u4.size
 refine rL (S:=e.size::m.size::b) [3] 1 (h V) (LL V) be rfl rfl λc5 u5 j5=>?_
 have v5:=u5.size
 refine rL (S:=e.size::m.size::b) [1,3,0] 0 (h V) (LL V) be rfl rfl λc6 u6 j6=>?_
 have v6:=u6.size
 intro b2
 have y2:J c6 b2:=J.push _ _
 have U5:=u5.trans u6;have U4:=u4.trans U5;have U3:=u3.trans U4;have U2:=u2.trans U3
 have g2:pJ (bO (e.size::m.size::b) b2) (.mk c6.size 0 6 6) VE:=Rp [(ym [3] 0,.mk b1.size 0 1 1),(ym [0] 1,.mk c1.size 0 1 1),(ym [0,1] 1,.mk c2.size 0 2 2),(ym [3,0] 3,.mk c3.size 0 2 2),(ym [3] 1,.mk c4.size 0 1 1),(ym [1,3,0] 0,.mk c5.size 0 3 3)] (h V) (by simp;exact⟨j1.le (U2.dg _),j2.le (U3.dg _),j3.le (U4.dg _),j4.le (U5.dg _),j5.le (u6.dg _),j6⟩) aJ rfl rfl
 have bK:b2.size=c6.size+1:=by simp[b2]
 clear_value b2
 have w2:=y2.size
 refine rL (S:=e.size::m.size::b) [0] 0 (h V) (LL V) be rfl rfl λe1 t1 k1=>?_
 have q1:=t1.size
 refine rL (S:=e.size::m.size::b) [0,0] 0 (h V) (LL V) be rfl rfl λe2 t2 k2=>?_
 have q2:=t2.size
 refine rL (S:=e.size::m.size::b) [1,0] 0 (h V) (LL V) be rfl rfl λe3 t3 k3=>?_
 have q3:=t3.size
 refine rL (S:=e.size::m.size::b) [0] 1 (h V) (LL V) be rfl rfl λe4 t4 k4=>?_
 have q4:=t4.size
 intro b3
 have y3:J e4 b3:=J.push _ _
 have T3:=t3.trans t4;have T2:=t2.trans T3
 have g3:pJ (bO (e.size::m.size::b) b3) (.mk e4.size 0 4 4) Pa:=Rp [(ym [0] 0,.mk b2.size 0 1 1),(ym [0,0] 0,.mk e1.size 0 2 2),(ym [1,0] 0,.mk e2.size 0 2 2),(ym [0] 1,.mk e3.size 0 1 1)] (h V) (by simp;exact⟨k1.le (T2.dg _),k2.le (T3.dg _),k3.le (t4.dg _),k4⟩) aJ rfl rfl
 have bL:b3.size=e4.size+1:=by simp[b3]
 clear_value b3
 have w3:=y3.size
 refine rL (S:=e.size::m.size::b) [] 0 (h V) (LL V) be rfl rfl λM0 x0 n0=>?_
 have z0:=x0.size
 have aG:=((((u1.trans U2).trans y2)).trans (t1.trans T2)).trans (y3.trans x0)
 have XM:J A M0:=((x5.trans X6).trans y1).trans aG
 have G1:=pJ.le (aG.dg _) g1
 have G2:=pJ.le ((((t1.trans T2)).trans (y3.trans x0)).dg _) g2
 have a8:=pJ.le (x0.dg _) g3
 have dM:Rd c d (P+1) M0:=(d2.ext x4).ext XM
 have L2:∀{g:E},A.size<=g.size->Lw c [e.size,m.size] g:=λq=>lw hr bI
 have bE:c∈e.size::m.size::b:=by simp[s]
 have l:∀{g M':E}{v W:Nat},A.size<=v->v<g.size->Fz [c] g M'->af M' v W=af g v W:=λh1 h2 N=>aL (N.same _ h2 bI) _
 refine(cC dM V _).mono λ_ m5⟨r1,en,bu,aY,d5,f5⟩=>⟨(L2 V).dv f5,r1,en,bu,by simp at aY⊢;omega,?_⟩
 have al:Le (bO (e.size::m.size::b) M0) (bO (e.size::m.size::b) m5):=f5.dg (by simp[s])
 have bR:=f5.size
 let⟨K,aQ⟩:=cK Vt r1.toNat (by simp[Vt]at aY⊢;omega)
 obtain⟨_,⟨pa,pn,pk,pz,rfl,pi⟩,pr⟩:=(pJ.le al G1).iF _ K aQ
 have pg:=λt j q=>(eF.1 (pr t j q)).2
 refine⟨_,pg 0 _ rfl,_,pg 1 _ rfl,_,pg 2 _ rfl,_,pg 3 _ rfl,_,pg 4 _ rfl,?_⟩
 refine(cC d5 V _).mono λ_ m6⟨r2,en,bw,a0,d6,z⟩=>⟨(L2 V).dv z,r2,en,?_⟩
 have bS:=z.size
 have am:Le (bO (e.size::m.size::b) m5) (bO (e.size::m.size::b) m6):=z.dg (by simp[s])
 let⟨p2,aR⟩:=cK VE r2.toNat (by simp[VE]at a0⊢;omega)
 obtain⟨_,⟨qa,qn,qk,qz,rfl,qi⟩,qr⟩:=(pJ.le (al.trans am) G2).iF _ p2 aR
 have qg:=λt j q=>(eF.1 (qr t j q)).2
 refine⟨l bI bI z,l bI bI z,l bI bI z,l bI bI z,l bI bI z,bw,by simp at a0⊢;omega,_,qg 0 _ rfl,_,qg 1 _ rfl,_,qg 2 _ rfl,_,qg 3 _ rfl,_,qg 4 _ rfl,?_⟩
 refine(cC d6 V _).mono λ_ f⟨r3,en,bx,a1,d7,p⟩=>⟨(L2 V).dv p,r3,en,?_⟩
 have bU:=p.size
 have an:Le (bO (e.size::m.size::b) m6) (bO (e.size::m.size::b) f):=p.dg (by simp[s])
 let⟨p3,aT⟩:=cK Pa r3.toNat (by simp[Pa]at a1⊢;omega)
 obtain⟨_,⟨ra,rn,rk,rz,rfl,ri⟩,rr⟩:=(pJ.le ((al.trans am).trans an) a8).iF _ p3 aT
 have rg:=λt j q=>(eF.1 (rr t j q)).2
 refine⟨l bI bI p,l bI bI p,l bI bI p,l bI bI p,l bI bI p,l bI bI p,l bI bI p,l bI bI p,l bI bI p,l bI bI p,bx,by simp at a1⊢;omega,_,rg 0 _ rfl,_,rg 1 _ rfl,_,rg 2 _ rfl,_,rg 3 _ rfl,_,rg 4 _ rfl,?_⟩
 intro T
 have a5:J f T:=J.push _ _
 have bl:aq (bO (e.size::m.size::b) f) (.mk b3.size 0 0 0) []:=mL _ _ _ _ _ _
 have gf:Gr (e.size::m.size::b) f T fw 5 Pp (.mk f.size 0 4 4) [(ym [] 0,none),(K,none),(p2,none),(p3,none)]:=BT Pp.mono (h V) fw [((ym [] 0,none),[.s (.mk b3.size 0 0 0),.i 0,.i 0,.i 0,.s .nil]),((K,none),[.s pa,.i K.aT,.i pn,.i pk,.s pz]),((p2,none),[.s qa,.i p2.aT,.i qn,.i qk,.s qz]),((p3,none),[.s ra,.i p3.aT,.i rn,.i rk,.s rz])] (by simp;exact⟨⟨_,_,_,_,rfl,bl,aJ⟩,⟨_,_,_,_,rfl,pi.le (am.trans an),aJ⟩,⟨_,_,_,_,rfl,qi.le an,aJ⟩,⟨_,_,_,_,rfl,ri,aJ⟩⟩) rfl rfl
 have s8:T.size=f.size+1:=by simp[T]
 clear_value T
 let u:=[ym [] 0,K,p2,p3]
 have bB:f.size≠e.size:=V
 have bd:∀ac∈u,(ac.params,ac.aT)∈Py:=by
  simp only[u,aS,j8,BJ];rintro ac (rfl|rfl|rfl|rfl)
  .simp[ym,Py]
  .exact QQ.1 _ (ar aQ)
  .exact QQ.2.1 _ (ar aR)
  .exact QQ.2.2 _ (ar aT)
 have a7:Fz [c] e f:=(((x4.trans XM).fz [c]).trans f5).trans (z.trans p)
 have aX:∀{g:E}{ah:O}{o:List (dA×Option Ex)}(W:Nat)(L:List Ce),Gr (e.size::m.size::b) f g fw 5 Pp ah o->Gr (e.size::m.size::b) f (ag g e.size W L) fw 5 Pp ah o:=λW L G=>G.NE Pp.mono ((Fz.aA [e.size] _).ag (Or.inl aJ) W L) aJ (by have:=G.bh;simp;omega)
 intro U
 have g9:Gr (e.size::m.size::b) f U fw 5 Pp (.mk f.size 0 4 4) [(ym [] 0,none),(K,none),(p2,none),(p3,none)]:=aX 1 [.s (.mk f.size 0 4 4)] gf
 have r9:Rs c d e (P+4) U:=(Rs.mk (a7.then a5) (d7.ext a5)).put d2 (ad _) 1 [.s (.mk f.size 0 4 4)]
 have s9:U.size=T.size:=aw _ _ _ _
 clear_value U
 intro ax
 have ai:J U ax:=J.push _ _
 have bp:aq (bO [c] ax) (.mk U.size 0 5 5) [4,4,3,2,4]:=aq.lit aD _ bI rfl rfl aJ
 clear_value ax
 have bP:=ai.size
 refine(lg (r9.r.ext ai) V bp aJ).mono λ_ bq⟨mn,en,bk,ba,ae⟩=>⟨(L2 V).dv ae,mn,en,?_⟩
 have bQ:=ae.size
 have bD:2<=mn/\mn<=4:=by simp at bk;omega
 obtain⟨n,rfl⟩:∃n:Nat,mn=n:=⟨mn.toNat,V⟩
 have bh:O.cut (.mk f.size 0 4 4) (Int.toNat 0) (Int.toNat n) 5=.mk f.size 0 n 4:=by simp[O.cut]
 rw[bh]
 refine⟨be,V,bI,?_⟩
 intro ab
 have bc:Gr (e.size::m.size::b) f ab fw 5 Pp (.mk f.size 0 n 4) ([(ym [] 0,none),(K,none),(p2,none),(p3,none)].take n):=Gr.Z9 be (aX 1 [.s (.mk f.size 0 n 4)] ((g9.ext Pp.mono ai).dP Pp.mono ae (by simp[s];omega))) V
 have bv:Rs c d e (P+5) ab:=((r9.ext ai).to ae ba).put d2 (ad _) 1 [.s (.mk f.size 0 n 4)]
 have bG:ab.size=bq.size:=aw _ _ _ _
 clear_value ab
 have aU:(u.take n).length=n:=by simp[u];omega
 have gp:GP y (u.take n):=⟨aN,V,V,λac i=>bd ac (gB i)⟩
 have ew:cR ((n:Int) -1)=n -1:=aP V V
 rw[ew]
 refine⟨λN g=>∃(i:Nat)(o:List (dA×Option Ex)),N=(i:Int) -1/\i<=n/\Gr (e.size::m.size::b) f g fw 5 Pp (.mk f.size 0 n 4) o/\o.map (·.1)=u.take n/\(∀(t:Nat)(x:dA×Option Ex),o[t]? =some x->i<=t->∃r,x.2=some r/\Yq y n x.1.params.length r)/\Rs c d e (P+5+(n -i)*(300+40*Cg 18)) g/\ab.size<=g.size,λN _=>(N+1).toNat,⟨n,_,rfl,ad _,bc,by rw[Ob];rfl,λt x C q=>by have:=az C;simp at this;omega,by rw[QH,QI];exact bv,ad _⟩,?_⟩
 rintro N g ⟨i,o,rfl,bC,G,hl,ap,Y,zM⟩
 have bj:o.length=n:=by rw[<-aU,<-hl];simp
 have gy:=G.bh
 simp only[O.jC]at gy
 have aI:f.size∉e.size::m.size::b:=λq=>by have:=h (g:=A) (ad _) _ q;omega
 refine dit (λq=>?_) λq=>?_
 .obtain⟨i,rfl⟩:∃D,i=D+1:=⟨i -1,V⟩
  have ek:((i+1:Nat):Int) -1=(i:Int):=V
  rw[ek]
  let⟨x,Q⟩:=cK o i
  have au:(u.take n)[i]? =some x.1:=by rw[<-hl];simp[Q]
  have bn:pJ (bO [c] g) (.mk f.size 0 n 4) (u.take n):=by
   have H:=G.nR Pp.mono aI be V;rw[<-hl];refine⟨bI,H.cap,H.iB,λD aF hy=>?_⟩;simp only[cU,jH]at hy;obtain⟨Z,R,rfl⟩:=hy;obtain⟨L,⟨F,i1,i2,i3,rfl,ha,-⟩,av⟩:=H.iF D Z R;have aV:=jT g (S:=e.size::m.size::b) (c:=[c]) (by simp[s]);exact⟨_,⟨F,_,_,_,rfl,ha.le aV⟩,aV.iF av⟩
  have bi:cy (bO [c] g) w y:=aK.le ((jT e (c:=[c]) (by simp[s])).trans (fh Y.f))
  have hB:(n -(i+1))*(300+40*Cg 18)+(300+40*Cg 18)=(n -i)*(300+40*Cg 18):=by rw[<-qy];congr 1;omega
  have bf:(n -i)*(300+40*Cg 18)<=4*(300+40*Cg 18):=dh _ V
  have bm:i=0->x.1.params.length=0:=λI=>by subst I;obtain⟨n',rfl⟩:∃n',n=n'+1:=⟨n -1,V⟩;simp[u]at au;rw[<-au];rfl
  have bg:∀j∈f.size::e.size::m.size::b,j<g.size:=bT (h (g:=g) V) (ad _) gy.2
  refine XP.kk (MV (f:=f.size::e.size::m.size::b) bg (by simp[s]) ⟨Y.r,bi,bn,gp⟩ V au bm) (L2 V) λah r M1 hs B bb ak=>?_
  have bM:=ak.size
  intro br ay
  obtain⟨aE,-,bN⟩:=kK (M:=M1) (d:=br) (c:=ay) rfl rfl rfl
  clear_value ay
  have aH:=(G.dP Pp.mono ak (by simp[s];omega)).ext Pp.mono aE
  obtain⟨L,⟨F,i1,i2,i3,rfl,ha,-⟩,jm⟩:=aH.cells Q
  have bs:=jm 0 _ rfl;have bt:=jm 1 _ rfl
  refine⟨V,bI,F,bs,V,bI,_,bt,V,bI,?_⟩
  obtain⟨wr,gs,-,bF⟩:=aH.set Pp.mono (X:=List.range f.size) ⟨V,λv hb hn=>absurd (List.mem_range.2 hb) hn⟩ (k:=i) V (a:=(x.1,some r)) (cs:=[.s F,.i x.1.aT,.i r.op,.i r.bQ,.s ah]) ⟨F,_,_,_,rfl,ha,λe' aO=>by simp at aO;subst aO;exact⟨rfl,rfl,fG.le (aE.dg _) hs⟩⟩
  refine⟨wr,?_⟩
  intro aO
  have bH:aO.size=ay.size:=aw _ _ _ _
  have aZ:Rs c d e (P+5+(n -(i+1))*(300+40*Cg 18)+300+40*Cg 18) aO:=((Y.to ak bb).ext aE).put d2 (by show e.size<=f.size;omega) _ _
  refine⟨λv hb=>bo _ _ _ _ (by simp at hb;show v≠f.size;omega),⟨i,o.set i (x.1,some r),aP V V,V,gs,?_,λt aF C bA=>?_,⟨aZ.f,aZ.r.mono V⟩,V⟩,?_⟩
  .rw[ug,OQ (by simp[Q]),hl]
  .rw[jF]at C
   split at C
   .rename_i e';subst e';rw[aj V]at C;simp at C;subst C
    have:(u.take n).length=n:=aU
    rw[this]at B;exact⟨r,rfl,B⟩
   .exact ap t aF C V
  .rw[aP V V];show((i:Int) -1+1).toNat<((i:Int)+1).toNat;omega
 .have I:i=0:=V
  subst I
  have ak:Le (bO (e.size::m.size::b) g) (bO b (ag g m.size 0 [.s w,.s (.mk f.size 0 n 4)])):=cA aJ λj hc=>by simp[hc]
  have H:=G.nR Pp.mono aI be V
  have bf:(n -0)*(300+40*Cg 18)<=4*(300+40*Cg 18):=dh _ V
  have C:Rs c d m (P+5+(n -0)*(300+40*Cg 18)) g:=⟨F2.trans Y.f,Y.r⟩
  have C:=C.put I (ad _) 0 [.s w,.s (.mk f.size 0 n 4)]
  have ay:(o.map λx=>(x.1,x.2.getD (.mk 0 0 []))).map (·.1)=u.take n:=by rw[XQ,<-hl];rfl
  refine⟨w,.mk f.size 0 n 4,y,o.map λx=>(x.1,x.2.getD (.mk 0 0 [])),rfl,aK.le ((Y.f.dg (by simp[s])).trans ((cA aJ λj hc=>by simp[hc]))),⟨bI,H.cap,H.iB,λD aF hy=>?_⟩,⟨by rw[ay];exact gp,λx Q=>?_⟩,C.r.mono V,C.f⟩
  .simp only[cU,jH]at hy
   obtain⟨Z,R,rfl⟩:=hy
   let⟨r,B,hf⟩:=ap D Z R (eO _)
   obtain⟨L,⟨F,i1,i2,i3,rfl,ha,hb⟩,av⟩:=H.iF D Z R
   obtain⟨rfl,rfl,au⟩:=hb r B
   exact⟨_,⟨F,i3,by simp[B],ha.le ak,by simp only[B,vJ];exact fG.le ak au⟩,ak.iF av⟩
  .simp only[XR]at Q
   obtain⟨Z,R,rfl⟩:=Q
   let⟨D,F⟩:=List.mem_iff_getElem?.1 R
   let⟨r,B,hf⟩:=ap D Z F (eO _)
   simp only[B,vJ,dW,bj];exact hf
end
end
structure Ph(S:List Nat)(m0 m:E)(lb:Nat)(s:O)(l:List cV)(sc:Nat):Prop where
 box:cx m lb lJ [.s s,.i sc]
 gr:GS (lb::S) m0 m s l
 up:m0.size<=lb
def Ph.ext{S:List Nat}{c m b:E}{a d:Nat}{s:O}{l:List cV}(h:Ph S c m a s l d)(x:J m b):Ph S c b a s l d:=⟨h.box.ext x,h.gr.ext gR.mono x,h.up⟩
def Ph.ne{S:List Nat}{b m:E}{a c:Nat}{s:O}{l:List cV}(h:Ph S b m a s l c):s.D≠a:=h.gr.ne h.box be
def LoP(S:List Nat)(f m:E)(c:Nat)(s:O)(P:List cV->Nat->Prop)(d:E):Prop:=∃a b e,Ph S f d c a b e/\P b e/\Fz [c,s.D] m d/\(a.D=s.D\/m.size<=a.D)
def LO{S:List Nat}{n e:E}{b f:Nat}{s w D:O}{l:List cV}{x:cV}(q:Ph S n e b s l f)(C:n.size<=e.size)(P:aq (bO (s.D::b::S) e) w x.args)(Q:nQ (bO (s.D::b::S) e) D x.bD)(t:l.length<=1000000)(hs:f<=1000000):
 aM cq 311 [vp b 0,pC x w D] e λW T=>W=vi (f:Nat)/\LoP S n e b s (λc d=>c=l++[x]/\d=f+1) T:=by
 apply wN (b,0)
 simp -zeta only[aC,aB]
 intro i
 have k:J e i:=J.push _ _
 have s1:i.size=e.size+1:=by simp[i]
 clear_value i
 have g:=q.ext k
 have hy:=g.gr.bh
 have I:=g.box.lt
 have aa:=q.box.lt
 have ab:=q.gr.bh
 refine⟨s,g.box.bV 0,?_⟩
 intro U
 have K:J i U:=J.push _ _
 refine⟨aL (K.same _ I) _,?_⟩
 have g1:GS (b::S) (e.extract 0 n.size) i s l:=Gr.cv gR.mono g.gr (λL t=>Or.inl t) (by rw[nZ C];exact ad _)
 refine Gr.kM (g:=[.i 0,.i 0,.i 0,.s .nil,.s .nil]) (k:=x) gR.mono be g1 (((J.MA C).trans k).fz []) ⟨w,D,rfl,P.le (k.dg _),eR.le Q (k.dg _) λ_ _=>rY.le (k.dg _)⟩ V λp u G Z X F=>?_
 have A:cx u b lJ [.s s,.i f]:=g.box.congr (F b I (kJ g.ne))
 have R:=G.ne A be
 refine⟨λc d=>?_,A.eC aJ,?_⟩
 .simp at d;subst d
  rw[F e.size V V,K.same _ V]
 intro j
 have B:cx j b lJ [.s p,.i f]:=cx.ag (m:=u) (o:=0) (r:=[.s p]) A
 have y:∀c,c≠b->j[c]? =u[c]? :=λc d=>bo _ _ _ _ d
 have s4:j.size=u.size:=aw _ _ _ _
 have M:cR ((f:Int)+1)=(f+1:Nat):=by rw[aP V V];rfl
 refine⟨λc d=>y c (by simp at d;omega),_,B.bV 1,B.eC aJ,?_⟩
 rw[M]
 intro v
 have H:cx v b lJ [.s p,.i (f+1:Nat)]:=cx.ag (m:=j) (o:=1) (r:=[.i (f+1:Nat)]) B
 have z:∀c,c≠b->v[c]? =j[c]? :=λc d=>bo _ _ _ _ d
 have s5:v.size=j.size:=aw _ _ _ _
 refine⟨λc d=>z c (by simp at d;omega),_,H.bV 1,?_⟩
 have N:GS (b::S) n v p (l++[x]):=by
  refine Gr.cv gR.mono (G.re gR.mono (Y:=[b]) ⟨V,λc d h=>?_⟩ aJ (by simp;exact R) λc d=>Or.inl d) (λL t=>Or.inl t) (by rw[nZ C];exact ad _);have:c≠b:=by simpa using h
  exact(z c this).trans (y c this)
 refine⟨by rw[aP V V];congr 1;omega,p,_,_,⟨H,N,q.up⟩,⟨rfl,rfl⟩,⟨V,λc d h=>?_⟩,oh X.2⟩
 simp only[aS,j8,BJ,ui]at h
 rw[z c h.1,y c h.1,F c V h.2,k.same c d]
section
variable{K D d b:Nat}{a:List cV}
structure LW(ds:List bz)(nf sc:Nat)(a:List cV)(K D sc':Nat):Prop where
 wl:WL ds nf False sc a
 dd:sc'=sc+dc a
 sz:sw a<=K
 oN:sc'<=sc+D
def LW.aA(b:List bz)(c a:Nat):LW b c a [] 0 0 a:=⟨.nil _ _ _ _,aJ,aJ,V⟩
def LW.fu{c:List bz}{e f g:Nat}(h:LW c e f a K D g)(j:K<=d)(i:D<=b):LW c e f a d b g:=⟨h.wl,h.dd,oh h.sz,oh h.oN⟩
def LW.trans{e:List bz}{f i j k:Nat}{g:List cV}(h:LW e f i a K D j)(c:LW e f j g d b k):LW e f i (a++g) (K+d) (D+b) k:=
 ⟨h.wl.append (h.dd▸c.wl),by rw[c.dd,h.dd,cW];omega,by have:=h.sz;have:=c.sz;rw[dD];omega,P7 h.oN c.oN⟩
def LW.kY{b:List bz}{c a:Nat}{x:cV}(h:WS b c False a x):LW b c a [x] x.w 1 (a+1):=⟨.kY h,by rw[kO,tx,dn1 h],by simp[sw],V⟩
section
variable{S:List Nat}{e m f:E}{c g j:Nat}{s i:O}{l h:List cV}
def Ph.gJ(h:Ph S e m c s l g)(d:J e m)(b:Fz [c,s.D] m f):J e f:=by
 have k:=h.gr.bh;have j:=h.up;exact Fz.ext (((d.fz [c,s.D]).trans b).DC λi a=>Or.inr (by simp at a;omega))
def Ph.re{S' Y:List Nat}(h:Ph S e m c s l g)(j:Fz Y m f)(d:∀b∈Y,b∈S/\b≠c/\b≠s.D)(k:∀b∈S',b∈S\/m.size<=b):Ph S' e f c s l g:=
 ⟨h.box.congr (j.same _ h.box.lt λi=>(d _ i).2.1 rfl),h.gr.re gR.mono j (λb a=>ai _ (d b a).1) (λi=>(d _ i).2.2 rfl) λb a=>(List.mem_cons.1 a).elim (λi=>Or.inl (by rw[i];exact aX)) λa=>(k b a).imp (ai _) id,h.up⟩
end
structure LS(S:List Nat)(m0 m:E)(lb:Nat)(s:O)(l:List cV)(sc:Nat)(MG:O)(ev:List Int):Prop where
 em:Ph S m0 m lb s l sc
 x:J m0 m
 gJ:∀c∈S,c<m.size
 MG:aq (bO [s.D,lb] m) MG ev
 sm:∀y∈ev,0<=y/\y<(sc:Int)
def exV(e:Ex)(t:O):Value:=.agg #[vi e.op,vi e.bQ,O.v t]
def U7(b:List bz)(h:Nat)(e:Ex):Prop:=∀(S:List Nat)(c m:E)(d:Nat)(s:O)(l:List cV)(f:Nat)(MG:O)(ev:List Int)(g p t:O),LS S c m d s l f MG ev->WX b h ev.length e->f+4*e.n<=2000->ev.length+4*e.n<=2000->l.length+4*e.n<=2000->cy c g b->dU b->fG c t e.bD->
 aM cq 278 [vp d 0,.agg #[O.v g,O.v p],exV e t,O.v MG] m λv k=>∃r:Int,v=vi r/\LoP S c m d s (λj i=>∃a,j=l++a/\LW b h f a (3*e.n -1) e.n i/\0<=r/\r<(i:Int)) k
def ZY(a:List bz)(f:Nat)(e:Ex):Prop:=∀(S:List Nat)(m:E)(b:Nat)(MG:O)(ev:List Int)(d p t:O),(∀c∈S,c<m.size)->aq m MG ev->(∀y∈ev,0<=y/\y<(b:Int))->WX a f ev.length e->b+4*e.n<=2000->ev.length+4*e.n<=2000->cy m d a->dU a->fG m t e.bD->
 nH 249 [.agg #[O.v d,O.v p],exV e t,O.v MG,vi b] m S λc=>WB a f False b c/\c.w<=3*e.n
def _root_.Go.Vc.Ex.NF(e:Ex):1<=e.n:=by rw[Ex.YV];omega
def Dr{s:List bz}{w:Nat}{e:Ex}(k:U7 s w e):ZY s w e:=by
 intro i v n MG ev C R X t H L N ab Z hd M I;apply zg;simp -zeta only[aC,aB];intro P f b c d;let⟨g,hl,s1,s2,s3⟩:=qE (a:=P) (b:=f) (c:=b) rfl rfl rfl;have p:J b c:=J.push _ _;have W:c.size=b.size+1:=by simp[c]
 have F:GS ((b.size+1)::f.size::i) b c (.mk b.size 0 0 0) []:=Gr.new _ (ad _) _ _ _;have h:J c d:=J.push _ _;have z:cx d c.size lJ [.s (.mk b.size 0 0 0),.i n]:=cx.push _ _ _;clear_value d c b;have Y:=g;have q:=(g.trans p).trans h;have z5:=h.size;have G:∀r∈f.size::i,r<d.size:=bT t q.size V;have O:Ph (f.size::i) b d c.size (.mk b.size 0 0 0) [] n:=⟨z,W▸F.ext gR.mono h,V⟩;have hp:=e.NF;refine(k (f.size::i) b d c.size _ [] n MG ev C R X ⟨O,p.trans h,G,(H.le (((g.trans p).trans h).bO (S:=[]) bI|>λk=>(Ag v).trans k)),L⟩ N V V bI (hd.le g.le) M (fG.le g.le I)).mono λae Q⟨x,E,y,m,ac,o6,⟨a,D,o,T,U⟩,j,b6⟩=>?_;subst D;have z6:=j.size;have A:J v Q:=Fz.ext (((q.fz [c.size,b.size]).trans j).DC λB l=>by simp at l;omega);refine⟨j.dv λB l=>by simp at l;simp;omega,x,E,y,o6.box.bV 0,?_⟩;intro m7;have hz:=o.sz;have aa:=fY m;refine⟨y,.mk m x,rfl,eN.le (cA aJ λr u=>by simp[u]) (o6.gr.nR gR.mono (λu=>?_) be (by show m.length<=_;omega)),⟨WB.of o.wl ⟨T,by rw[<-o.dd];exact U⟩,by rw[Bk.qT];omega⟩,A.ag V _ _⟩;have hy:=o6.gr.bh;have K:=o6.ne;simp only[aS]at u;rcases u with e|e|e
 .exact K e
 .omega
 .have:=t _ e;omega
end
section
variable{M c:E}{a:Nat}
def PO{m:E}{t:O}{l:List Ex}(h:fG m t l){k:Nat}{x:Ex}(f:l[k]? =some x)(a:J m M):∃u,fG m u x.bD/\af M t.D (t.off+k*3)=some (vi x.op)/\af M t.D (t.off+k*3+1)=some (vi x.bQ)/\af M t.D (t.off+k*3+2)=some (O.v u):=
 let⟨u,b,c,d,e⟩:=h.aG f;⟨u,b,a.af c,a.af d,a.af e⟩
def gx(x:J M c){o:Nat}{v:Value}(h:af M a o=some v):af c a o=af M a o:=by rw[x.af h,h]
def gl(x:J M c)(h:a<M.size)(o:Nat):af c a o=af M a o:=aL (x.same a h) o
def Uh{q:List bz}{nf:Nat}{p bQ:Int}{bD:List Ex}(ih:∀t∈bD,U7 q nf t):U7 q nf (.mk p bQ bD):=by
 intro u W D d A aa sc MG ev al an bt e hw br bj bp hd ht hk;have N:=hw.aW;simp only[exV,Ex.Wl,Ex.Ul,Ex.R9,Ex.SJ]at*;apply uy (d,0);simp -zeta only[aC,aB];intro am s;let⟨G,hl⟩:=dO (a:=am) (c:=s) rfl rfl;have s1:am.size=D.size+1:=by simp[am]
 have s2:s.size=D.size+2:=by simp[s,s1]
 clear_value s;have aT:=hk.len;have bn:=hk.iB;have bo:=e.em.box.lt;have h:=e.em.gr.bh;have bq:=e.em.ne;have dg:∀{M:E}{f:O},Fz [d,A.D] D M->(f.D=A.D\/D.size<=f.D)->Le (bO [A.D,d] D) (bO [f.D,d] M):=λab g=>pQ λa aH hn=>by
  simp at hn;exact⟨by simp;rcases g with t|t<;>omega,ab.same a aH bI⟩
 have st:∀{av:List Nat}{M:E}{f:O}{l':List cV}{F:Nat},Ph av W M d f l' F->Fz [d,A.D] D M->(f.D=A.D\/D.size<=f.D)->(∀l∈av,l<M.size)->sc<=F->LS av W M d f l' F MG ev:=λah ab g hS hs=>⟨ah,e.em.gJ e.x ab,hS,e.MG.le (dg ab g),λy h=>⟨(e.sm y h).1,oh ((e.sm y h).2)⟩⟩;have dv:∀{M c:E}{f:O},s.size<=M.size->(f.D=A.D\/s.size<=f.D)->Fz [d,f.D] M c->dY [am.size,D.size] M c:=λhz g ab=>ab.dv λa aH=>by simp at aH;simp;omega
 have aj:∀{M c:E},s.size<=M.size->J M c->dY [am.size,D.size] M c:=λhz bf=>bf.dv λa g=>by simp at g;omega
 have fr:∀{M c:E}{f:O},Fz [d,A.D] D M->(f.D=A.D\/s.size<=f.D)->Fz [d,f.D] M c->Fz [d,A.D] D c:=λab g L=>ab.sG L λy h=>by simp at h⊢;omega
 refine⟨λao=>?_,λao=>⟨λag=>?_,λag=>⟨λap=>?_,λap=>?_⟩⟩⟩
 .simp only[aE]at ao;let⟨j,o⟩:=N.1.UE ao;have k:=e.MG.len;let⟨y,v⟩:=cK ev bQ.toNat;have i:=e.sm y (ar v);exact⟨j,V,y,(eF.1 ((e.MG.le (G.dg _)).aG v)).2,y,rfl,A,aa,sc,e.em.ext G,⟨[],aJ,(LW.aA q nf sc).fu V V,i⟩,G.fz _,Or.inl rfl⟩
 .simp only[aE]at ag;have h2:=N.1.Kh ag;let⟨T,U⟩:=cK bD 0;let⟨j,i⟩:=cK bD 1;have aO:en bD=T.n+j.n:=by
   obtain⟨w,a,rfl⟩:∃w a,bD=[w,a]:=by
    match bD,h2 with
    |[w,a],_=>exact⟨w,a,rfl⟩
   simp at U i;subst U i;simp[en]
  have p0:=T.NF;have p1:=j.NF;let⟨u0,aK,g0,g1,g2⟩:=PO hk U (e.x.trans G);refine⟨be,V,_,g0,_,g1,_,g2,?_⟩;have S2:=st (e.em.ext G) (G.fz _) (Or.inl rfl) (λl r=>oh (e.gJ l r)) (ad _);refine(ih T (ar U) u W s d A aa sc MG ev al an u0 S2 (by have:=N.2 0 T U;simpa[xb]using this) V V V hd ht aK).mono λR o⟨P,ay,H,l3,Q,o3,⟨af,aw,Z,bc,bd⟩,f3,b3⟩=>⟨dv (ad _) (Or.inl rfl) f3,P,ay,?_⟩;subst aw;have F3:=fr (G.fz _) (Or.inl rfl) f3;have z3:=f3.size;have X3:=e.em.gJ e.x F3;let⟨u1,aA,k0,k1,k2⟩:=PO hk i X3;have a1:=Z.oN;have a8:=fY af;have bb:=Z.sz;refine⟨be,V,_,k0,_,k1,_,k2,?_⟩;have S3:=st o3 F3 V (λl r=>oh (e.gJ l r)) (oh Z.dd);have z:∀l∈[H.D,d],l<o.size:=λl r=>by have:=o3.gr.bh;have:=o3.box.lt;simp at r;omega
  intro C;have k:J o C:=J.push _ _;have aG:aq (bO [H.D,d] C) (.mk o.size 0 1 1) [P]:=aq.lit aD _ z rfl rfl aJ;clear_value C;refine⟨gx k k0,gx k k1,gx k k2,gl k V _,gl k V _,gl k V _,?_⟩;have z4:=k.size;refine(eM (S:=[H.D,d]) (λl r=>k.lt (z l r)) (S3.MG.le (k.dg _)) aG bI).mono λR m5⟨I,l5,e5,g5,q5,B⟩=>⟨aj V B,I,e5,gx B (k.af k0),gx B (k.af k1),gx B (k.af k2),gl B V _,gl B V _,gl B V _,?_⟩;subst q5;have z5:=B.size;have S5:LS u W m5 d H (aa++af) Q I (ev++[P]):=⟨(o3.ext k).ext B,(X3.trans k).trans B,λl r=>oh (e.gJ l r),GI.done g5 (λl r=>k.lt (z l r)) bI,λy h=>by
   rcases List.mem_append.1 h with h|h
   .have:=e.sm y h;have:=Z.dd;omega
   .simp at h;omega⟩
  refine(ih j (ar i) u W m5 d H (aa++af) Q I (ev++[P]) al an u1 S5 (by have:=N.2 1 j i;simpa[xb,ag]using this) V bI bI hd ht aA).mono λR m6⟨r1,au,s6,l6,aN,o6,⟨aI,ac,w6,aL,aM⟩,K,b6⟩=>⟨dv V V K,r1,au,r1,rfl,s6,l6,aN,o6,⟨af++aI,by rw[ac,fD],(Z.trans w6).fu V V,aL,aM⟩,fr ((F3.then k).then B) V K,V⟩
 .simp only[bU,aE]at ap;have h3:p=7->bD.length=3:=N.1.Zx;have aG:p=8->bD.length=1+(cw q bQ).length/\0<(cw q bQ).length:=N.1.all;have a5:1<=bD.length:=by rcases ap with i|i;have:=h3 i;omega;have:=aG i;omega
  let⟨T,U⟩:=cK bD 0;have bk:en (bD.take 1)=T.n:=by have:=Kl U;simpa using this
  have bl:=RW bD 1;have p0:=T.NF;let⟨u0,aK,g0,g1,g2⟩:=PO hk U (e.x.trans G);refine⟨be,V,_,g0,_,g1,_,g2,?_⟩;have S2:=st (e.em.ext G) (G.fz _) (Or.inl rfl) (λl r=>oh (e.gJ l r)) (ad _);refine(ih T (ar U) u W s d A aa sc MG ev al an u0 S2 (by have:=N.2 0 T U;simpa[xb]using this) V V V hd ht aK).mono λR o⟨P,ay,H,l3,Q,o3,⟨af,aw,Z,bc,bd⟩,f3,b3⟩=>⟨dv (ad _) (Or.inl rfl) f3,P,ay,?_⟩;subst aw;have F3:=fr (G.fz _) (Or.inl rfl) f3;have z3:=f3.size;have X3:=e.em.gJ e.x F3;have a1:=Z.oN;have a8:=fY af;have bb:=Z.sz;have S3:=st o3 F3 V (λl r=>oh (e.gJ l r)) (oh Z.dd);have aA:∀l∈H.D::d::u,l<o.size:=bT (bT (m:=D) e.gJ V o3.box.lt) (ad _) o3.gr.bh.2;intro C;have k:J o C:=J.push _ _;have g4:GB (H.D::d::u) o C (.mk o.size 0 0 0) []:=GB.new _ o;have s4:C.size=o.size+1:=by simp[C]
  clear_value C;refine(ic (e:=[o.size]) bI (hd.le (X3.trans k).le) ht bQ).mono λR m5⟨cs,cl,ec,r,qc,B⟩=>⟨aj V B,cs,ec,?_⟩;subst qc;have bi:=r.len;have z5:=B.size;refine Q0 (a:=bD.length) (aT▸hk.iB) a5 (λj ks M=>∃z,GB (H.D::d::u) o M ks z/\z.length+1=j/\(∀(ac:Nat)(a:Bk),z[ac]? =some a->WB q nf False (Q+BL q p bQ ac) a)/\bw z+3*T.n<=3*en (bD.take j)/\J o M/\Fz [o.size] m5 M/\(ks.D=o.size\/m5.size<=ks.D)) ⟨[],g4.ext rY.mono B,rfl,aJ,bI,k.trans B,Fz.aA _ _,Or.inl rfl⟩ ?_;rintro j ks M aX μ bm hj ⟨z,L,a7,aU,a2,xM,fM,aR⟩ aL
  have zM:=xM.size;have aQ:=L.bh;have oM:=o3.box.ext xM;refine dit (λi=>?_) λi=>?_
  .have ew:cR ((j:Int) -1)=((j -1:Nat):Int):=by rw[aP V V];omega
   refine⟨λaW c=>J M c/\aW=(BL q p bQ (j -1):Nat),⟨λh8=>?_,λh8=>⟨J.aA _,by simp only[ak]at h8;rw[KF h8];rfl⟩⟩,?_⟩
   .simp only[aE]at h8;have ha:=aG h8;let⟨y,v⟩:=cK (cw q bQ) (j -1);rw[ew];refine⟨V,V,y,(eF.1 ((r.le (fM.dg aJ)).aG v)).2,?_⟩;refine(dL (e:=[]) aJ (hd.le ((X3.trans xM).le.trans (Ag _))) ht y).mono λR m6⟨K,l6,e6,h6,q6,I⟩=>⟨aj V I,K,e6,I,?_⟩;subst q6;rw[KE h8 v,h6.len]
   rintro aW m6 ⟨I,rfl⟩;let⟨t,he⟩:=cK bD j;have X6:=(X3.trans xM).trans I;let⟨aN,hu,k0,k1,k2⟩:=PO hk he X6;have B6:=oM.ext I;have z6:=I.size;refine⟨V,V,_,k0,_,k1,_,k2,_,B6.bV 1,_,B6.bV 1,?_⟩;have bg:=QR ht p bQ (j -1);have a4:=Kl he;have a3:=RW bD (j+1);have a9:=t.NF;refine(mh (S:=[]) (d:=m6) aJ Q (BL q p bQ (j -1)) V).mono λR m7⟨s7,l7,e7,g7,q7,v⟩=>⟨aj V v,s7,e7,gx v (B6.bV 1),gx v k0,gx v k1,gx v k2,gl v V _,gl v V _,gl v V _,?_⟩;have z7:=v.size;have a0:aq (bO [] m7) MG ev:=(S3.MG.le ((((xM.trans I).trans v).dg _).trans (bF _ _))).le (Ag _);refine(eM (S:=[]) aJ a0 (GI.done g7 aJ V) V).mono λR m8⟨s8,l8,e8,g8,q8,K⟩=>⟨aj V K,s8,e8,gx K ((B6.ext v).bV 1),gx K (v.af k0),gx K (v.af k1),gx K (v.af k2),gl K V _,gl K V _,gl K V _,?_⟩;subst q8;have z8:=K.size;have a6:(ev++l7).length=ev.length+BL q p bQ (j -1):=by simp;exact q7.2
   rw[aP (b:=(Q:Int)+(BL q p bQ (j -1):Nat)) V V,show(Q:Int)+(BL q p bQ (j -1):Nat)=((Q+BL q p bQ (j -1):Nat):Int)by omega];have au:=(I.trans v).trans K;have a_:WX q nf (ev++l7).length t:=by
    have:=N.2 j t he;rw[a6];obtain⟨j',rfl⟩:∃j',j=j'+1:=⟨j -1,V⟩;have aY:xb q p bQ (j'+1)=BL q p bQ j':=ae (by simpa using ag);rwa[aY]at this
   refine(Dr (ih t (ar he)) (ks.D::H.D::d::u) m8 _ s8 (ev++l7) al an aN (bT (λl r=>oh (aA l r)) (ad _) V) ((GI.done g8 aJ V).le (bF _ _)) (λy h=>?_) a_ V V (hd.le ((X6.trans v).trans K).le) ht (fG.le ((X6.trans v).trans K).le hu)).mono λR m9⟨s9,b9,e9,h9,q9,x9⟩=>⟨aj V x9,s9,_,e9,?_⟩
   .rcases List.mem_append.1 h with h|h
    .have:=S3.sm y h;omega
    .have:=q7.1 y h;omega
   intro bs;have z9:=x9.size;have bh:=qF z;refine GB.kM (c:=b9) ((L.ext rY.mono au).ext rY.mono x9) (((xM.trans au).trans x9).fz []) h9 V λaM c g' f' z' q'=>⟨λa g=>by
    have aO:a<o.size:=by simp at g;omega
    rw[f'.ext.same a aO,(((xM.trans au).trans x9).aH _).same a aO],aL V _ _ ⟨_,g',by rw[ba,List.length_singleton];omega,λac a hi=>?_,?_,f'.ext,(fM.then (au.trans x9)).sG (Y:=[ks.D]) ⟨z'.1,λa g hn=>q' a g (by simpa using hn)⟩ (λy h=>by simp at h⊢;omega),oh fM.size⟩⟩
   .rcases aZ ac z.length with aI|aI
    .rw[ax aI]at hi;exact aU ac a hi
    .rw[aF aI]at hi;have:ac -z.length=0:=by have:=az hi;simp at this;omega
     rw[this]at hi;simp at hi;subst hi;have:ac=j -1:=V;subst this;exact q9.1
   .rw[pd,uI,zK];have:=q9.2;omega
  .have K:j=bD.length:=V;subst K;rw[fx]at a2;intro m6;have I:J M m6:=J.push _ _;have aW:aq (bO (H.D::d::u) m6) (.mk M.size 0 1 1) [P]:=aq.lit aD _ (λl r=>oh (aA l r)) rfl rfl aJ;have z6:=I.size;have aR:nQ (bO (H.D::d::u) m6) ks z:=nQ.le (I.dg _) (L.done rY.mono aA be (oh (qF z)));clear_value m6;have X6:=xM.trans I;refine(LO (x:=⟨p,bQ,0,[P],z⟩) (o3.ext X6) (X3.trans X6).size aW aR bI V).mono λR m7⟨aO,s7,l7,aY,o7,⟨au,aI⟩,v,b7⟩=>⟨dv V V v,Q,aO,Q,rfl,s7,l7,aY,o7,⟨af++[⟨p,bQ,0,[P],z⟩],by rw[au,fD],?_,V,V⟩,fr (F3.then X6) V v,V⟩;have ws:WS q nf False Q ⟨p,bQ,0,[P],z⟩:=⟨⟨Or.inl (by show 0<=p/\p<=11;omega),bI,λ_=>rfl,⟨by show(0:Int)<=0;omega,by show(0:Int)<=_;omega⟩,λi=>by show z.length=2;have:=h3 i;omega,λi=>by show z.length=(cw q bQ).length/\0<z.length;have:=aG i;omega,λi=>by simp only at i;omega⟩,aU⟩;subst aI;exact(Z.trans (LW.kY ws)).fu (by rw[cV.mD];simp only[aV,eU];omega) V
 .simp only[bu,ak]at ap;simp only[ak]at ao ag;have ho:=N.1.o;intro o;have x3:J s o:=J.push _ _;have g3:GI [] s o (.mk s.size 0 0 0) []:=GI.nil [] s;have aR:o.size=s.size+1:=by simp[o]
  clear_value o;have o3:Ph (s.size::u) W o d A aa sc:=(e.em.ext G).re (x3.fz []) aJ λa g=>(List.mem_cons.1 g).elim (λi=>Or.inr V) Or.inl;refine dV (n:=bD.length) (aT▸hk.iB) (λj w M=>∃f F r l,Ph (w.D::u) W M d f (aa++r) F/\LW q nf sc r (3*en (bD.take j) -j) (en (bD.take j)) F/\GI [] s M w l/\l.length=j/\(∀y∈l,0<=y/\y<(F:Int))/\Fz [d,A.D] D M/\(f.D=A.D\/s.size<=f.D)/\s.size<=M.size) ⟨A,sc,[],[],by simpa using o3,(LW.aA q nf sc).fu (eO _) (eO _),g3,rfl,aJ,(G.trans x3).fz _,Or.inl rfl,V⟩ ?_;rintro j w M aX μ hj ⟨f,F,r,l,ah,v,L,a7,T,fM,g,zM⟩ aL
  have H:=e.em.gJ e.x fM;have af:=v.oN;have aI:=v.dd;have aQ:=L.bh;have B:w.D≠d:=L.ne ah.box be;have Lm:w.D≠f.D:=L.Lm ah.gr be;have aO:=fY r;have aw:=v.sz;have a3:=RW bD j;refine dit (λi=>?_) λi=>?_
  .let⟨t,he⟩:=cK bD j;let⟨aN,hu,k0,k1,k2⟩:=PO hk he H;have a4:=Kl he;have aK:=RW bD (j+1);have a9:=t.NF;have au:=QX (bD.take j);rw[gG,jd V]at au;refine⟨V,V,_,k0,_,k1,_,k2,?_⟩;have SM:=st ah fM V (bT (m:=D) e.gJ V aQ.2) V;refine(ih t (ar he) (w.D::u) W M d f (aa++r) F MG ev al an aN SM (by have:=N.2 j t he;rwa[Zz V V]at this) V V bI hd ht hu).mono λR C⟨aM,er,s4,l4,aG,U,⟨aA,ac,Z,P,r1⟩,z,b4⟩=>⟨dv zM g z,aM,er,?_⟩;subst ac;have z4:=z.size;have F4:=fr fM g z;intro m5;have Q:GI [] s C w l:=GI.any (c:=[d,f.D]) ((GI.any (e:=[d,f.D]) L).NE um.mono z (λ_ i=>i) (by simp;exact⟨B,Lm⟩));have ay:w.D≠s4.D:=Q.Lm U.gr be;refine GI.kM Q (X:=List.range s.size) ⟨V,λa g hn=>absurd (List.mem_range.2 g) hn⟩ aJ V λa' c g' f' z' q'=>?_;have I:Fz [w.D] C c:=⟨z'.1,λa g hn=>q' a g (by simpa using hn)⟩;refine⟨λa g=>?_,aL V _ _ ⟨s4,aG,r++aA,l++[aM],?_,(v.trans Z).fu V V,g',bI,λy h=>?_,F4.sG I λy h=>by simp at h⊢;omega,V,V⟩⟩
   .simp at g;rw[q' a V V,(J.push C _).same a V]
   .rw[<-fD];exact U.re I (by simp;exact⟨B,ay⟩) λa g=>(List.mem_cons.1 g).elim (λt=>by subst t;rcases z'.2 with t|t;exact Or.inl (by simp[t]);exact Or.inr t) λi=>Or.inl (ai _ i)
   .have:=Z.dd;rcases List.mem_append.1 h with h|h
    .have:=T y h;omega
    .simp at h;omega
  .have K:j=bD.length:=V;subst K;rw[fx]at v af aw;have au:=QX bD;intro C;have k:J M C:=J.push _ _;have Q:w.D∉f.D::d::u:=by
    simp only[aS,ui];exact⟨Lm,B,λi=>oh (e.gJ _ i)⟩
   have ha:aq (bO (f.D::d::u) M) w l:=(GI.any (e:=f.D::d::u) L).nR um.mono Q be V;have U:Ph u W M d f (aa++r) F:=ah.re (Fz.aA [] _) aJ λa g=>Or.inl (ai _ g);have z4:=k.size;refine(LO (x:=⟨p,bQ,0,l,[]⟩) (U.ext k) (H.trans k).size (ha.le (k.dg _)) (mL _ _ _ _ _ _) bI V).mono λR m5⟨P,Z,l5,ac,o5,⟨z,I⟩,t,b5⟩=>⟨dv V g t,F,P,F,rfl,Z,l5,ac,o5,⟨r++[⟨p,bQ,0,l,[]⟩],by rw[z,fD],?_,V,V⟩,fr (fM.then k) g t,V⟩;have ws:WS q nf False F ⟨p,bQ,0,l,[]⟩:=⟨⟨Or.inl (by show 0<=p/\p<=11;omega),T,λi=>by simp only at i;omega,⟨by show(0:Int)<=0;omega,by show(0:Int)<=_;omega⟩,λi=>by simp only at i;omega,λi=>by simp only at i;omega,N.1.call⟩,aJ⟩;subst I;exact(v.trans (LW.kY ws)).fu (by rw[cV.mD];simp only[zK];omega) V
def Ui{a:List bz}{c:Nat}:∀e:Ex,U7 a c e:=Ex.ind λ_ _ _ b=>Uh b
end
def Ix{t:List Nat}{w:E}(hS:∀d∈t,d<w.size){U ak:O}{N:List bz}{P:List (dA×Ex)}(hd:cy w U N)(hp:Xl w ak P)(aa:Xo N P):vh 236 [.agg #[O.v U,O.v ak]] w t N λrs=>yF N rs False 95:=by
 apply Be;simp -zeta only[aC,aB];have ht:=tr aa.gp.ds;intro h a2;let⟨L,hl⟩:=dO (a:=h) (c:=a2) rfl rfl;have s1:h.size=w.size+1:=by simp[h]
 clear_value a2;have aO:=hp.len;have aZ:P.length<=4:=by have:=aa.gp.oN;simpa using this
 have aY:0<P.length:=by have:=aa.gp.iY;simpa using this
 refine(fU (b:=h.size::t) (bT hS L.size (hl _ aJ)) (hd.le L.le) ht).mono λ_ av⟨dd,e,aL,x3⟩=>?_;subst e;refine⟨x3.dv hl,_,rfl,?_⟩;intro k aT aF;have u2:=L.trans x3;let⟨x5,B0,g0,s3,s5⟩:=lj (b:=k.size::h.size::t) iQ.mono (d:=av) (a:=k) (c:=aT) (h:=aF) rfl rfl rfl;clear_value aF;have ah:∀d∈[h.size,w.size],d<av.size:=λd g=>x3.lt (hl d g);have aD:∀d∈h.size::t,d<av.size:=λd g=>x3.lt (bT hS L.size (hl _ aJ) d g);refine kW (R:=λb c C=>∃U T rs,Value.agg #[O.v b,O.v c]=.agg #[O.v U,O.v T]/\eK (bO t C) U T N rs/\yF N rs False 95/\J w C) (r:=P.length) (f:=w) (b:=t) iQ.mono be be hS ⟨V,ah _ aJ⟩ u2 s3 aL aO V x5 B0 g0 (λ_ q=>q.params.length<=3/\q.cO.length<=3/\WB N P.length False q.params.length q.body/\q.body.w<=95) (λb s l' m' h1 h2 c f j=>⟨b,s,l',rfl,⟨h1,h2,ht,V⟩,⟨V,λq hq=>by obtain⟨p,l⟩:=List.mem_iff_getElem?.1 hq;rw[c];exact f p q l⟩,j⟩) λab C y l' aI μ aN aW xM az al aU=>?_
 let⟨q,hq⟩:=cK P ab aN;let⟨aR,aX⟩:=aa.Dl q (ar hq);have aP:q.1.params.length<=3:=(xf _ (aa.gp.dx q.1 (List.mem_map.2 ⟨q,ar hq,rfl⟩))).1;have X:=u2.trans xM;obtain⟨cs,⟨ao,aH,rfl,ha,hk⟩,hr⟩:=hp.iF ab q hq;have aE:=ha.len;refine⟨V,V,_,X.af (hr 0 _ rfl),_,X.af (hr 1 _ rfl),_,X.af (hr 2 _ rfl),_,X.af (hr 3 _ rfl),_,X.af (hr 4 _ rfl),?_⟩;intro m7 l;have hy:=az.bh;have aV:=al.lt;have zM:=xM.size;obtain⟨x8,-,s8⟩:=kK (M:=C) (d:=m7) (c:=l) rfl rfl rfl;clear_value l;have W:∀d∈[C.size,h.size,w.size],d<l.size:=λd g=>by
  rcases List.mem_cons.1 g with e|e
  .omega
  .have:=ah d e;omega
 have w8:=X.trans x8;have ac:∀{s:E},l.size<=s.size->∀d∈y.D::k.size::h.size::t,d<s.size:=λaA d g=>by
  simp only[aS]at g;rcases g with e|e|e|e
  .omega
  .omega
  .have:=aD d (by simp[e]);omega
  .have:=aD d (by simp[e]);omega
 have hm:=u2.size;have aG:∀{s:E},J l s->∀{an:Value->E->Prop},(∀H F f,aq f H F->F.length=q.1.params.length->(∀b∈F,0<=b/\b<(q.1.params.length:Int))->J s f->an (O.v H) f)->aM cq 203 [vi 0,vi (ao.len:Int)] s an:=λ{s} x an hk'=>by
  rw[aE];exact(mh (S:=[]) (d:=s) aJ 0 q.1.params.length V).mono λax f⟨H,F,e,gn,qn,xn⟩=>by
   subst e;exact hk' H F f ((GI.done gn aJ V).le (bF _ _)) qn.2 (λb hy=>oh (qn.1 b hy)) xn
 have gJ:∀{s:E}{ay:List Nat}{H:O}{F:List Int},(∀d∈ay,d<s.size)->J l s->aq s H F->F.length=q.1.params.length->(∀b∈F,0<=b/\b<(q.1.params.length:Int))->nH 249 [.agg #[O.v U,O.v ak],.agg #[vi q.2.op,vi q.2.bQ,O.v aH],O.v H,vi (ao.len:Int)] s ay λI=>WB N P.length False q.1.params.length I/\I.w<=3*q.2.n:=λaK x Y h1 h2=>by
  rw[aE];exact Dr (Ui q.2) _ _ q.1.params.length _ _ U ak aH aK Y h2 (by rw[h1];exact aR) V V (hd.le (w8.trans x).le) ht (fG.le (w8.trans x).le hk)
 have G:∀{v f:E}{I Z:Nat},l.size<=v.size->J v f->I<l.size->af f I Z=af v I Z:=λaA x hb=>gl x V _;have j:C.size<l.size:=V;have K:w.size<l.size:=W _ aJ;refine⟨λI s=>∃p D,I.2=0/\l.size<=I.1/\cx s I.1 di [.s p,.i D.aT]/\eN (bO (y.D::k.size::h.size::t) s) p D.ap/\(WB N P.length False q.1.params.length D/\D.w<=3*q.2.n)/\J l s,⟨?_,?_⟩,?_⟩
 .refine aG (J.aA l) λH F B Y ae aj b=>⟨b.dv W,H,rfl,G (ad _) b j,G (ad _) b j,G (ad _) b j,G (ad _) b K,G (ad _) b K,?_,?_⟩;all_goals have u:=b.size
  .refine(gJ (ay:=y.D::k.size::h.size::t) (ac u) b Y ae aj).mono λax A⟨p,D,e,aw,aQ,c⟩=>⟨c.dv λd g=>b.lt (W d g),p,_,e,?_⟩;have vL:=c.size;intro Q;have z:J A Q:=J.push _ _;refine⟨G V z j,G V z j,G V z j,G V z K,G V z K,?_⟩;intro au;let⟨am,ap,a0⟩:=kK (M:=A) (d:=Q) (c:=au) rfl rfl rfl;exact⟨p,D,rfl,by show l.size<=A.size;omega,ap,eN.le (am.dg _) aw,aQ,(b.trans c).trans am⟩
  .intro A;have c:J B A:=J.push _ _;have am:cx A B.size di [.s .nil,.i 0]:=cx.push _ _ _;have vL:=c.size;clear_value A;refine⟨G u c j,G u c j,G u c j,G u c K,G u c K,?_⟩;refine(gJ (ay:=B.size::y.D::k.size::h.size::t) (bT (ac u) vL am.lt) (b.trans c) (Y.ext c) ae aj).mono λax Q⟨p,D,e,ap,aw,z⟩=>⟨z.dv λd g=>?_,p,_,e,?_⟩
   .rcases List.mem_cons.1 g with e|e
    .rw[e];exact am.lt
    .have:=W d e;omega
   intro au;exact⟨p,D,rfl,u,cx.ag (m:=Q) (o:=0) (r:=[.s p,.i D.aT]) (am.ext z),eN.le (cA aJ λd g=>ai _ g) ap,aw,((b.trans c).trans z).ag u _ _⟩
 .intro B;have b:J l B:=J.push _ _;have B9:cx B l.size di [.s .nil,.i 0]:=cx.push _ _ _;have u:=b.size;clear_value B;refine⟨G (ad _) b j,G (ad _) b j,G (ad _) b j,G (ad _) b K,G (ad _) b K,?_⟩;have sm:∀{v f:E},B.size<=v.size->J v f->dY [l.size,C.size,h.size,w.size] v f:=λaA x=>x.dv λd g=>by
   rcases List.mem_cons.1 g with e|e
   .have:=B9.lt;omega
   .have:=W d e;omega
  refine aG b λH F A Y ae aj c=>⟨sm (ad _) c,H,rfl,G u c j,G u c j,G u c j,G u c K,G u c K,?_⟩;have vL:=c.size;refine(gJ (ay:=l.size::y.D::k.size::h.size::t) (bT (ac (s:=A) V) (ad _) (oh B9.lt)) (b.trans c) Y ae aj).mono λax Q⟨p,D,e,ap,aw,z⟩=>⟨sm vL z,p,_,e,?_⟩;intro au;exact⟨p,D,rfl,ad _,cx.ag (m:=Q) (o:=0) (r:=[.s p,.i D.aT]) ((B9.ext c).ext z),eN.le (cA aJ λd g=>ai _ g) ap,aw,((b.trans c).trans z).ag (ad _) _ _⟩
 rintro⟨kb,Z⟩ v ⟨p,D,ho,aw,BB,aQ,ap,x1⟩;simp only at ho aw BB;subst ho;have bl:=BB.lt;have z1:=x1.size;have X1:=x8.trans x1;refine⟨y,(al.ext X1).bV 1,_,BB.bV 0,_,BB.bV 1,?_⟩;have ae:k.size<l.size:=V;have iy:∀{f:E}{Q b':O},J v f->aq (bO (y.D::k.size::h.size::t) f) Q q.1.params->aq (bO (y.D::k.size::h.size::t) f) b' []->af (f.push (.cells (bA [.s Q,.s b',.i q.1.aT,.s p,.i D.aT]) jR)) k.size 1=af f k.size 1/\
  jN (f.push (.cells (bA [.s Q,.s b',.i q.1.aT,.s p,.i D.aT]) jR)) jR [.s .nil,.s .nil,.i 0,.s .nil,.i 0] 88 y (O.mk f.size 0 1 1) λT z=>dY [C.size,h.size,w.size] (f.push (.cells (bA [.s Q,.s b',.i q.1.aT,.s p,.i D.aT]) jR)) z/\eC z k.size 1 1/\(dY [C.size,h.size,w.size] z (ag z k.size 1 [.s T])/\(aI (cR ((ab:Int)+1)) (ag z k.size 1 [.s T])/\μ (cR ((ab:Int)+1)) (ag z k.size 1 [.s T])<μ ab C)):=λL h1 h2=>
  Gr.box (g:=[.s .nil,.s .nil,.i 0,.s .nil,.i 0]) (j:=1) (y:=88) (i:=[.s dd,.s y]) (w:=⟨q.1.params,[],q.1.aT,D⟩) iQ.mono be ((az.ext iQ.mono X1).ext iQ.mono L) (((xM.trans X1).trans L).fz []) ⟨_,_,p,rfl,h1,h2,eN.le (L.dg _) aQ⟩ V ((al.ext X1).ext L) aJ be ⟨V,aJ⟩ (λd g=>⟨by have:=W d g;have:=L.size;omega,by
   rcases List.mem_cons.1 g with e|e
   .omega
   .have:=ah d e;omega,by
   rcases List.mem_cons.1 g with e|e
   .omega
   .have:=ah d e;omega⟩) λT m' g' B' f' z' q'=>aU T m' ⟨q.1.params,[],q.1.aT,D⟩ g' B' f'.ext ⟨aP,aJ,ap.1,by have:=ap.2;show D.w<=95;omega⟩
 have am:∀{f:E},J v f->aq f ao q.1.params:=λx=>ha.ext ((X.trans X1).trans x);have aj:∀{f:E},J v f->∀d∈y.D::k.size::h.size::t,d<f.size:=λx=>ac (oh x.size);have g1:∀{f z:E}{Z:Nat},J v f->J f z->af z kb Z=af f kb Z:=λx x'=>gl x' (oh x.size) _;have au:∀{f z:E},J v f->J f z->dY [C.size,h.size,w.size] f z:=λx x'=>x'.dv λd g=>by have:=W d g;have:=x.size;omega
 refine⟨?_,?_⟩
 .refine(bR (y.D::k.size::h.size::t) (am (J.aA _)) V).mono λ_ B⟨Q,la,e,ga,ea,b⟩=>⟨au (J.aA _) b,Q,e,g1 (J.aA _) b,g1 (J.aA _) b,G z1 b j,G z1 b ae,?_⟩;subst ea;have u:=b.size;intro A;have c:J B A:=J.push _ _;refine⟨g1 b c,g1 b c,G V c j,G V c j,G V c ae,?_⟩;exact iy (b.trans c) ((GI.done ga (aj (J.aA _)) V).le (c.dg _)) (mL _ _ _ _ _ _)
 .intro B;have b:J v B:=J.push _ _;have u:=b.size;refine⟨g1 (J.aA _) b,g1 (J.aA _) b,G z1 b j,G z1 b j,G z1 b ae,?_⟩;refine(bR (y.D::k.size::h.size::t) (am b) V).mono λ_ A⟨Q,la,e,ga,ea,c⟩=>⟨au b c,Q,e,g1 b c,g1 b c,G V c j,G V c ae,?_⟩;subst ea;exact iy (b.trans c) (GI.done ga (aj b) V) (mL _ _ _ _ _ _)
section
variable{L:List Nat}{K:Int->E->Prop}{v:Int}
def DH(P:Nat->Prop)(l b:List Instr)(n:Nat):Prop:=∃a,b=l++a/\(∀(i:Nat)(x:Instr),a[i]? =some x->Pq (l.length+i) x\/P (l.length+i)/\x.op=22)/\QM a/\a.length<=n
section
variable{P c:Nat->Prop}{l a e:List Instr}{n b k:Nat}{x:Instr}
def mU.w(h:mU l a n):DH P l a n:=let⟨g,b,c,d,e⟩:=h;⟨g,b,λi x f=>Or.inl (c i x f),d,e⟩
def DH.YM(h:DH P l a n)(f:∀q,¬P q)(m:n<=b):mU l a b:=let⟨j,c,d,e,k⟩:=h;⟨j,c,λi x g=>(d i x g).resolve_right λh=>f _ h.1,e,V⟩
def DH.imp(h:DH P l a n)(g:∀q,P q->c q)(o:n<=b):DH c l a b:=let⟨k,d,e,f,m⟩:=h;⟨k,d,λj x i=>(e j x i).imp id λh=>⟨g _ h.1,h.2⟩,f,V⟩
def DH.len(h:DH P l a n):l.length<=a.length/\a.length<=l.length+n:=by obtain⟨b,rfl,-,-,d⟩:=h;simp;omega
def DH.then(o:DH P l a n)(p:mU a e b):DH P l e (n+b):=by
 obtain⟨d,rfl,g,j,s⟩:=o;obtain⟨r,rfl,h,k,t⟩:=p;refine⟨d++r,aJ,λi x c=>?_,λx q=>(List.mem_append.1 q).elim (j x) (k x),bI⟩;rcases aZ i d.length with f|f
 .rw[ax f]at c;exact g i x c
 .rw[aF f]at c;have:=h _ x c;have m:(l++d).length+(i -d.length)=l.length+i:=bI;rw[m]at this;exact Or.inl this
def DH.MR(h:DH P l a n)(j:P a.length):DH P l (a++[⟨22,0,0,0,[],[]⟩]) (n+1):=by
 obtain⟨c,rfl,e,f,m⟩:=h;refine⟨c++[⟨22,0,0,0,[],[]⟩],aJ,λi x b=>?_,λx k=>?_,bI⟩
 .rcases aZ i c.length with d|d
  .rw[ax d]at b;exact e i x b
  .rw[aF d]at b;have:i -c.length=0:=by have:=az b;simp at this;omega
   rw[this]at b;simp at b;subst b;have g:i=c.length:=V;subst g;exact Or.inr ⟨by simpa using j,rfl⟩
 .rcases List.mem_append.1 k with h|h
  .exact f x h
  .simp at h;subst h;simp
def DH.set(h:DH P l a n)(g:l.length<=k)(m:Pq k x)(j:x.args.length<=10^12/\x.eG.length<=10^12):DH (λq=>P q/\q≠k) l (a.set k x) n:=by
 obtain⟨p,rfl,c,e,d⟩:=h;refine⟨p.set (k -l.length) x,by rw[Yi _ _ g],λi y b=>?_,λy o=>?_,bI⟩
 .rw[jF]at b;split at b
  .rename_i q;have f:l.length+i=k:=V;split at b
   .simp at b;subst b;rw[f];exact Or.inl m
   .simp at b
  .exact(c i y b).imp id λh=>⟨⟨h.1,V⟩,h.2⟩
 .rcases dp o with h|h
  .exact e y h
  .rw[h];exact j
def DH.Z5(h:DH P l a n)(d:l.length<=k)(c:a[k]? =some x):DH (λq=>P q/\q≠k) l (a.set k ⟨x.op,0,a.length,0,x.args,x.eG⟩) n:=by
 have m:=az c;have g:=h;obtain⟨i,rfl,e,f,j⟩:=h;rw[aF d]at c;have b:=e _ x c;rw[show l.length+(k -l.length)=k by omega]at b;refine g.set d ⟨λ_=>by show(k:Int)<((l++i).length:Nat);omega,λh=>?_⟩ (f x (ar c));simp only at h;rcases b with b|b
 .exact b.arg h
 .omega
end
section
variable{S:List Nat}{e m a:E}{b:Nat}{s c:O}{l d:List Instr}
def Fm.re{S' Y:List Nat}(h:Fm S e m b s l)(i:Fz Y m a)(f:∀c∈Y,c∈S/\c≠b/\c≠s.D)(j:∀c∈S',c∈S\/m.size<=c):Fm S' e a b s l:=
 ⟨h.box.congr (i.same _ h.box.lt λg=>(f _ g).2.1 rfl),h.gr.re dS.mono i (λc d=>ai _ (f c d).1) (λg=>(f _ g).2.2 rfl) λc d=>(List.mem_cons.1 d).elim (λg=>Or.inl (by rw[g];exact aX)) λd=>(j c d).imp (ai _) id,h.up⟩
def HU(k:Fm S e m b s l)(z:J e m)(w:∀h∈S,h<m.size)(n:l.length<=10^12)(u:∀f∈L,f<m.size/\f≠b/\f≠s.D){o i bQ:Int}(y:∀c d a,Fm S e a b c d->d=l++[⟨o,i,bQ,0,[v],[]⟩]->Fz [b,s.D] m a->(c.D=s.D\/m.size<=c.D)->K (l.length:Nat) a):
 aM cq 205 [vp b 0,.agg #[vi o,vi i,vi bQ,vi 0,O.v (.mk m.size 0 1 1),O.v .nil]] (m.push (.cells (bA [.i v]) aD)) λr a=>dY L (m.push (.cells (bA [.i v]) aD)) a/\∃q:Int,r=vi q/\K q a:=by
 have g:=J.push m (.cells (bA [.i v]) aD)
 have D:=k.gr.bh;have C:=k.box.lt
 have A:aq (bO (s.D::b::S) (m.push (.cells (bA [.i v]) aD))) (.mk m.size 0 1 1) [v]:=aq.lit aD _ (by
  intro h p;simp only[aS]at p;rcases p with j|j|j
  .omega
  .omega
  .exact w h j) rfl rfl aJ
 refine(qQ (x:=⟨o,i,bQ,0,[v],[]⟩) (k.ext g) (z.trans g).size A (tG _) n).mono λr a⟨p,c,d,t,j,h,B⟩=>⟨Po.dv h λf n=>?_,_,p,?_⟩
 .have:=u f n;exact⟨g.lt this.1,this.2⟩
 exact y c d a t j.symm (((g.fz [b,s.D])).trans h) (oh g.size)
def Ue(j:Fm S e m b s l)(t:J e m)(p:l.length<=10^12)(o:∀f∈L,f<m.size/\f≠b/\f≠s.D)(q:∀c d a,Fm S e a b c d->d=l++[⟨22,0,0,0,[],[]⟩]->Fz [b,s.D] m a->(c.D=s.D\/m.size<=c.D)->K (l.length:Nat) a):
 aM cq 205 [vp b 0,.agg #[vi 22,vi 0,vi 0,vi 0,O.v .nil,O.v .nil]] m λr a=>dY L m a/\∃n:Int,r=vi n/\K n a:=
 (qQ (x:=⟨22,0,0,0,[],[]⟩) j t.size (tG _) (tG _) p).mono λr a⟨i,c,d,k,h,f,g⟩=>⟨Po.dv f o,_,i,q c d a k h.symm f g⟩
def TE{K:E->Prop}{k:Nat}{x:Instr}(i:Fm S e m b s l)(q:J e m)(p:l[k]? =some x)(n:∀f∈L,f<m.size/\f≠b/\f≠s.D)(o:∀c d a,Fm S e a b c d->d=l.set k ⟨x.op,0,l.length,0,x.args,x.eG⟩->Fz [b,s.D] m a->(c.D=s.D\/m.size<=c.D)->K a):
 aM cq 234 [vp b 0,vi k] m λ_ a=>dY L m a/\K a:=
 (Rr i q.size p).mono λr a⟨c,d,j,h,f,g⟩=>⟨Po.dv f n,o c d a j h.symm f g⟩
end
def Rh{l:List Instr}{d:Int}:mU l (l++[⟨18,d,0,0,[v],[]⟩]) 1:=mU.kY ⟨sx,λ_=>aJ⟩ aJ
end
section
variable{b:List gP}
def LQ{D:List bz}{h:cV}(co:h.op=7\/h.op=8)(ih:∀c∈h.bD,Xk D b c):Yp D b h:=by
 intro B G F d s z cons first cl fl a4 ba aH ah i ap cv cG r ha hk
 apply ux (d,0);simp -zeta only[aC,aB];intro ax ac;let⟨x2,hl⟩:=dO (a:=ax) (c:=ac) rfl rfl;have s1:ax.size=F.size+1:=by simp[ax]
 have s2:ac.size=F.size+2:=by simp[ac,s1]
 clear_value ac;have cz:=i.em.box.lt;have cS:=i.em.gr.bh;have cR:=cV.mD h;have cp:=ha.len;have cF:=hk.len;have cD:=qF h.bD;have cL:=ap.fe.kY V;have cx:=i.cons.len;have cI:=i.x.size;have dg:∀{f:E}{g:O},Fz [d,s.D] F f->(g.D=s.D\/F.size<=g.D)->Le (bO [s.D,d] F) (bO [g.D,d] f):=QW;have st:∀{a0:List Nat}{f:E}{g:O}{L:List Instr},Fm a0 G f d g L->Fz [d,s.D] F f->(g.D=s.D\/F.size<=g.D)->(∀m∈a0,m<f.size)->Su a0 G f d g L cons first cl fl:=λv I e hS=>⟨v,i.em.gJ i.x I,hS,i.cons.le (dg I e),i.first.le (dg I e),i.same,i.kV⟩
 have LL:∀{f:E}{g:O},ac.size<=f.size->(g.D=s.D\/ac.size<=g.D)->∀c∈[ax.size,F.size],c<f.size/\c≠d/\c≠g.D:=λhz e c a6=>by simp at a6;omega
 have fr:∀{f p:E}{g:O},Fz [d,s.D] F f->(g.D=s.D\/ac.size<=g.D)->Fz [d,g.D] f p->Fz [d,s.D] F p:=λI e aa=>I.sG aa λA o=>by simp at o⊢;omega
 have gJ:∀{f:E},F.size<=f.size->∀m∈B,m<f.size:=λj m hc=>by have:=i.gJ m hc;omega
 have aG:∀{w:Nat}{c:Bk}{f:E},h.bD[w]? =some c->J G f->∃K,eN G K c.ap/\af f ah.D (ah.off+w*2)=some (O.v K)/\af f ah.D (ah.off+w*2+1)=some (vi c.aT):=λe bf=>let⟨K,h1,h2,h3⟩:=hk.aG e;⟨K,h1,bf.af h2,bf.af h3⟩;refine⟨λh7=>?_,λh7=>?_⟩
 .simp only[aE]at h7;have aO:=ap.fe.Kh h7;let⟨C,P⟩:=cK h.bD 0;let⟨b1,R⟩:=cK h.bD 1;have bS:bw h.bD=C.w+b1.w:=by
   obtain⟨u,y,l⟩:∃u y,h.bD=[u,y]:=by
    match h.bD,aO with
    |[u,y],_=>exact⟨u,y,rfl⟩
   rw[l]at P R⊢;simp at P R;subst P R;simp[bw]
  have w0:=C.Hh;have w1:=b1.Hh;have ab:∀w,BL D h.op h.bQ w=0:=λw=>KF V;have E2:=i.ext x2;refine(bR (s.D::d::B) (ha.ext E2.x) V).mono λy N⟨a',la,l,ga,ea,x3⟩=>⟨x3.dv hl,a',l,?_⟩;subst ea;have z3:=x3.size;have aQ:∀m∈s.D::d::B,m<ac.size:=bT (bT (gJ (f:=ac) V) V V) (ad _) V;refine(qQ (x:=⟨20,0,0,0,h.args,[]⟩) (E2.em.ext x3) (E2.x.trans x3).size (GI.done ga aQ (by show h.args.length<=_;omega)) (tG _) V).mono λy m4⟨ev,s4,l4,ao,p4,f4,b4⟩=>⟨Po.dv f4 (LL z3 (Or.inl rfl)),_,ev,?_⟩;subst p4;have z4:=f4.size;have F4:Fz [d,s.D] F m4:=((x2.trans x3).fz _).trans f4;have w4:DH (λ_=>False) z (z++[⟨20,0,0,0,h.args,[]⟩]) 1:=(mU.kY ⟨sx,sx⟩ ⟨by show h.args.length<=_;omega,aJ⟩).w;let⟨t0,aR,g0,g1⟩:=aG P (i.em.gJ i.x F4);refine⟨be,V,_,g0,_,g1,?_⟩;have ae:=ap.bD 0 C P;rw[ab]at ae;have aV:=w4.len;refine(ih C (ar P) B G m4 d s4 _ cons first cl fl a4 ba t0 (st ao F4 V (gJ V)) (by simpa using ae) V V r aR).mono λy t⟨s5,l5,a5,p5,f5,b5⟩=>⟨Po.dv f5 (LL V V),?_⟩;have F5:=fr F4 V f5;have z5:=f5.size;have w5:=w4.then p5;have X5:=i.em.gJ i.x F5;obtain⟨_,-,-,g5⟩:=aG P X5;refine⟨be,V,_,g5,?_⟩;have aW:=w5.len;refine HU a5 X5 (gJ V) V (LL V V) λs6 Q Z av e6 f6 b6=>?_;have F6:=fr F5 V f6;have z6:=f6.size;have w6:DH (λ_=>False) z Q (1+6*(C.w -1)+1):=e6▸w5.then Rh;have aX:=w6.len;have a7:Q.length=l5.length+1:=by rw[e6];simp
  have X6:=i.em.gJ i.x F6;refine Ue av X6 V (LL V V) λs7 l7 m7 ay e7 f7 b7=>?_;have F7:=fr F6 V f7;have z7:=f7.size;have w7:DH (λq=>q=Q.length) z l7 (1+6*(C.w -1)+1+1):=e7▸(w6.imp (λ_ j=>j.elim) (ad _)).MR rfl;have a8:l7.length=Q.length+1:=by rw[e7];simp
  let⟨H,al⟩:=cK l7 z.length;refine TE ay (i.em.gJ i.x F7) al (LL V V) λs8 l8 U aF e8 f8 b8=>?_;have w8:DH (λq=>q=Q.length) z l8 (1+6*(C.w -1)+1+1):=e8▸(w7.Z5 (ad _) al).imp (λ_ j=>j.1) (ad _);have a9:l8.length=l7.length:=by rw[e8];simp
  have T:=fr F7 V f8;have z8:=f8.size;let⟨t1,aU,k0,k1⟩:=aG R (i.em.gJ i.x T);refine⟨be,V,_,k0,_,k1,?_⟩;have ag:=ap.bD 1 b1 R;rw[ab]at ag;have aZ:=w8.len;refine(ih b1 (ar R) B G U d s8 l8 cons first cl fl a4 ba t1 (st aF T V (gJ V)) (by simpa using ag) V V r aU).mono λy m9⟨s9,l9,aL,p9,W,b9⟩=>⟨Po.dv W (LL V V),?_⟩;have F9:=fr T V W;have z9:=W.size;have w9:=w8.then p9;have X9:=i.em.gJ i.x F9;obtain⟨_,-,-,g9⟩:=aG R X9;refine⟨be,V,_,g9,?_⟩;have bY:=w9.len;have a_:l8.length<=l9.length:=by obtain⟨nw,l,-⟩:=p9;rw[l];simp
  refine HU aL X9 (gJ V) V (LL V V) λbr Y bb am aI aA bB=>?_;have aN:DH (λq=>q=Q.length) z Y (1+6*(C.w -1)+1+1+6*(b1.w -1)+1):=aI▸w9.then Rh;have az:=fr F9 V aA;have vL:=aA.size;have b0:Y.length=l9.length+1:=by rw[aI];simp
  let⟨bd,aj⟩:=cK Y Q.length;refine TE am (i.em.gJ i.x az) aj (LL V V) λaY aM bc an aT aK bC=>?_;exact⟨aY,aM,an,aT▸(aN.Z5 V aj).YM (λq j=>j.2 j.1) V,fr az V aK,V⟩
 .simp only[ak]at h7;have h8:h.op=8:=V;let⟨cC,cB⟩:=ap.fe.all h8;let⟨A,bn⟩:=cK h.args 0;let⟨y0,y1⟩:=ap.fe.args A (ar bn);obtain⟨yn,rfl⟩:∃b8:Nat,A=b8:=⟨A.toNat,V⟩;have E2:=i.ext x2;refine⟨be,V,yn,(ha.ext E2.x).aG bn,?_⟩;have b7:∀m∈[s.D,d],m<ac.size:=λm hc=>by simp at hc;omega
  refine(ic (e:=[s.D,d]) b7 (r.bn.le E2.x.le) r.types h.bQ).mono λy N⟨aR,ch,ec,hc,qc,x3⟩=>⟨x3.dv hl,aR,ec,?_⟩;subst qc;have cy:=hc.len;have z3:=x3.size;intro m4;refine HU (E2.em.ext x3) (E2.x.trans x3) (gJ V) V (LL z3 (Or.inl rfl)) λs5 l5 t a5 e5 f5 b5=>?_;have z5:=f5.size;have w5:DH (λ_=>False) z l5 1:=e5▸(mU.kY ⟨sx,sx⟩ ⟨aJ,aJ⟩).w;have cY:l5.length=z.length+1:=by rw[e5];simp
  intro Z m7;have x6:J t Z:=J.push _ _;have x7:J Z m7:=J.push _ _;have s6:Z.size=t.size+1:=by simp[Z]
  have s7:m7.size=Z.size+1:=by simp[m7]
  have bN:GI [] t m7 (.mk t.size 0 0 0) []:=(GI.nil [] t).ext x7;have bL:GI [] t m7 (.mk Z.size 0 0 0) []:=GI.cv (GI.nil [] Z) (λ_ j=>j) x6.size;clear_value m7 Z;have bg:=x6.trans x7;have aF:∀{f p:E}{g:O},Fz [d,s.D] N f->(g.D=s.D\/N.size<=g.D)->Fz [d,g.D] f p->Fz [d,s.D] N p:=λI e aa=>I.sG aa λA o=>by simp at o⊢;omega
  have F0:Fz [d,s.D] F N:=(x2.trans x3).fz _;have bh:∀{f:E}{g:O}{w:Nat}{m:Int},Fz [d,s.D] N f->(g.D=s.D\/N.size<=g.D)->(cw D h.bQ)[w]? =some m->af f aR.D (aR.off+w*1)=some (vi m):=λ{f g w m} I e j=>(eF.1 ((hc.le (pQ (c:=[g.D,d]) (a:=f) λc a6 r=>by
   simp at r;exact⟨by simp;rcases e with l|l<;>omega,I.same c a6 bI⟩)).aG j)).2
  have bt:∀{f:E},t.size<=f.size->Fz (List.range t.size) t f:=λj=>⟨j,λc e r=>absurd (List.mem_range.2 e) r⟩;have aj:∀{f p:E}{u:O}{ul:List Int}{aQ:List Nat},GI [] t f u ul->Fz aQ f p->u.D∉aQ->GI [] t p u ul:=λ{f p u ul aQ} aa I j=>GI.any ((GI.any (e:=aQ) aa).NE um.mono I (λ_ j=>j) j);have o7:Fm (t.size::Z.size::B) G m7 d s5 l5:=a5.re (bg.fz []) aJ λc e=>by
   simp only[aS]at e;rcases e with l|l|l
   .exact Or.inr V
   .exact Or.inr V
   .exact Or.inl l
  refine xr (n:=(cw D h.bQ).length) V (λah K en f=>∃g L tl C,Fm (K.D::en.D::B) G f d g L/\DH (λq=>(q:Int)∈C) z L (1+6*bw (h.bD.take ah))/\GI [] t f K tl/\tl.length=ah/\GI [] t f en C/\C.length<=ah/\(∀A∈C,∃q:Nat,A=q/\z.length<q/\q<L.length)/\K.D≠en.D/\Fz [d,s.D] N f/\(g.D=s.D\/N.size<=g.D)/\m7.size<=f.size/\z.length<L.length)
   ⟨s5,l5,[],[],o7,w5.imp (λ_ j=>j.elim) aJ,bN,rfl,bL,ad _,aJ,by show t.size≠Z.size;omega,f5.then bg,V,ad _,V⟩ ?_
  rintro T K en f ce μ hj ⟨g,L,tl,C,v,bc,gt,cN,ge,cA,a8,cJ,I,e,zM,cH⟩ bo
  have bv:=F0.trans I;have XM:=i.em.gJ i.x bv;have ty:=gt.bh;have ey:=ge.bh;have t1:K.D≠d:=gt.ne v.box be;have t2:K.D≠g.D:=gt.Lm v.gr be;have n1:en.D≠d:=ge.ne v.box be;have n2:en.D≠g.D:=ge.Lm v.gr be;have cM:=v.gr.len be;have cQ:=bc.len;have bS:=KH h.bD T;have oy:=v.gr.bh;have c1:=v.box.lt;refine dit (λj=>?_) λj=>?_
  .let⟨m,a7⟩:=cK (cw D h.bQ) T;let⟨c,aL⟩:=cK h.bD T;have ct:=uJ aL;have cu:=KH h.bD (T+1);have cr:=c.Hh;have bl:BL D h.op h.bQ T=(cE D m).length:=KE h8 a7;have cq:=QR r.types h.op h.bQ T;refine⟨g,v.box.bV 0,?_⟩;intro U;refine GI.kM gt (bt V) aJ V λt' M1 aU cj z1 q1=>?_;have fa:Fz [K.D] f M1:=⟨z1.1,λc e r=>q1 c e (by simpa using r)⟩;refine⟨λc e=>by
    simp at e;rw[q1 c V V,(J.push f _).same c V],?_⟩
   have f1:Fz [d,s.D] N M1:=I.sG fa λA o=>by simp at o⊢;omega
   have bK:=aj ge fa bI;have o1:Fm (t'.D::en.D::B) G M1 d g L:=v.re fa (by simp;exact⟨t1,t2⟩) λc e=>by
    rcases List.mem_cons.1 e with l|l
    .rcases z1.2 with e'|e'
     .exact Or.inl (by rw[l,e'];simp)
     .exact Or.inr V
    .exact Or.inl (ai _ l)
   have cc:=aU.bh;refine⟨V,V,m,bh f1 e a7,?_⟩;have X1:=i.em.gJ i.x (F0.trans f1);refine(dL (e:=[]) aJ (r.bn.le (X1.le.trans (Ag _))) r.types m).mono λy M2⟨ff,cn,ef,hf,qf,aO⟩=>⟨aO.dv λc e=>by simp at e;omega,ff,ef,?_⟩;subst qf;have bU:=hf.len;have z2:=aO.size;have f2:=f1.then aO;refine fm (n:=(cE D m).length) V (λw p=>∃ay av,Fm (t'.D::en.D::B) G p d ay av/\DH (λq=>(q:Int)∈C) z av (1+6*bw (h.bD.take T)+w)/\Fz [d,g.D] M2 p/\(ay.D=g.D\/M2.size<=ay.D)/\L.length<=av.length) ⟨g,L,o1.ext aO,bc,Fz.aA _ _,Or.inl rfl,ad _⟩ ?_;rintro w M3 I3 μ3 hi ⟨ae,l3,o3,w3,f3,b3,cU⟩ b_;have c4:=f3.size;have F3:=aF f2 e f3;have aV:ae.D=s.D\/N.size<=ae.D:=V;have cP:=w3.len;have X3:=i.em.gJ i.x (F0.trans F3);have LM:∀{p:E}{u:O},M3.size<=p.size->(u.D=s.D\/N.size<=u.D)->∀c∈[ax.size,F.size],c<p.size/\c≠d/\c≠u.D:=λhz e=>LL V V;have aW:∀{p:E},M3.size<=p.size->∀m∈t'.D::en.D::B,m<p.size:=λj=>bT (bT (gJ (f:=M3) V) (ad _) V) j V;refine⟨λa9=>?_,λa9=>?_⟩
   .simp only[au]at a9;intro m9;refine HU o3 X3 (aW (ad _)) V (LM (ad _) aV) λs4 l4 M4 o4 e4 f4 b4=>b_ V _ ⟨s4,l4,o4,?_,f3.sG f4 λA o=>by simp at o⊢;omega,V,by rw[e4];simp;omega⟩;rw[e4];exact w3.then (mU.kY ⟨sx,sx⟩ ⟨aJ,aJ⟩)
   simp only[bG]at a9;have a_:w=(cE D m).length:=V;subst a_;have y3:=o3.gr.bh;have cf:=o3.box.lt;have ab:∀{p:E},M3.size<=p.size->∀m∈[ae.D,d],m<p.size:=λj m hc=>by simp at hc;omega
   rw[bU];refine(mh (S:=[ae.D,d]) (ab (ad _)) 0 (cE D m).length V).mono λy M4⟨s4,l4,e4,g4,q4,x4⟩=>⟨x4.dv λc e=>by simp at e;omega,s4,e4,?_⟩;have z4:=x4.size;have h4:=GI.done g4 (ab (ad _)) V;let⟨tk,bX,k0,k1⟩:=aG aL (X3.trans x4);have F4:=F3.then x4;have R:∀{u y:E},J M4 u->J u y->∀v,af y ax.size v=af u ax.size v/\af y F.size v=af u F.size v:=λaH c v=>⟨gl c (oh aH.size) v,gl c (oh aH.size) v⟩;refine⟨V,V,tk,k0,_,k1,V,V,m,bh F4 aV a7,?_⟩;have S4:=st o3 (F0.trans F3) V (aW (ad _));have cg:=S4.cons.len;have cm:=S4.first.len;have c2:=S4.same;refine(vd (S:=[ae.D,d]) (ab z4) (S4.cons.le (x4.dg _)) V (a:=yn) V m).mono λy M5⟨s5,cX,e5,g5,q5,P⟩=>⟨P.dv λc e=>by simp at e;omega,s5,e5,gx P k0,gx P k1,(R (J.aA _) P _).1,(R (J.aA _) P _).2,(R (J.aA _) P _).2,?_⟩;have z5:=P.size;have h5:=GI.done g5 (ab z4) (by rw[<-q5];simp;omega);refine(eM (S:=[ae.D,d]) (ab V) h5 (h4.le (P.dg _)) (by rw[<-q5];simp;omega)).mono λy M6⟨bb,Q,e6,g6,q6,al⟩=>⟨al.dv λc e=>by simp at e;omega,bb,e6,gx al (P.af k0),gx al (P.af k1),(R P al _).1,(R P al _).2,(R P al _).2,?_⟩;have z6:=al.size;have an:=P.trans al;have h6:=GI.done g6 (ab V) (by rw[<-q6,<-q5];simp;omega);refine(vd (S:=[ae.D,d]) (ab V) (S4.first.le ((x4.trans an).dg _)) V (a:=yn) V cons.len).mono λy M7⟨ca,l7,e7,g7,q7,ag⟩=>⟨ag.dv λc e=>by simp at e;omega,ca,e7,gx ag (an.af k0),gx ag (an.af k1),(R an ag _).1,(R an ag _).2,(R an ag _).2,?_⟩;have z7:=ag.size;have ao:=an.trans ag;have bP:=GI.done g7 (ab V) (by rw[<-q7];simp;omega);refine(eM (S:=[ae.D,d]) (ab V) bP (h4.le (ao.dg _)) (by rw[<-q7];simp;omega)).mono λy M8⟨s8,l8,e8,g8,q8,H⟩=>⟨H.dv λc e=>by simp at e;omega,s8,e8,gx H (ao.af k0),gx H (ao.af k1),(R ao H _).1,(R ao H _).2,(R ao H _).2,?_⟩;have z8:=H.size;have bQ:=GI.done g8 (ab V) (by rw[<-q8,<-q7];simp;omega);have am:=(x4.trans ao).trans H;have bm:Q.length=cl.length+BL D h.op h.bQ T:=by rw[<-q6,<-q5,bl];simp;omega
   have bV:l8.length=Q.length:=by rw[<-q8,<-q7,bm,bl];simp;omega
   have ES:Su (t'.D::en.D::B) G M8 d ae l3 bb s8 Q l8:=⟨o3.ext am,X3.trans am,aW am.size,h6.le ((ag.trans H).dg _),bQ,bV,λA o=>by
    rw[<-q8]at o;rcases List.mem_append.1 o with o|o
    .rw[<-q7]at o;rcases dp o with o|o
     .exact i.kV A o
     .omega
    .have:=q4.1 A o;omega⟩
   have bZ:WB D b.length True Q.length c:=by rw[bm];exact ap.bD T c aL
   refine(ih c (ar aL) _ G M8 d ae l3 bb s8 Q l8 a4 ba tk ES bZ V V r bX).mono λy M9⟨s9,l9,o9,p9,W,b9⟩=>⟨Po.dv W (LM (oh am.size) aV),?_⟩;have z9:=W.size;have c5:=am.size;have F9:=aF (F3.then am) aV W;have X9:=i.em.gJ i.x (F0.trans F9);have w9:=w3.then p9;have bY:=w9.len;have cW:l3.length<=l9.length:=by obtain⟨nw,l,-⟩:=p9;rw[l];simp
   obtain⟨_,-,-,g9⟩:=aG aL X9;refine⟨V,V,_,g9,?_⟩;refine HU o9 X9 (aW V) V (LM V V) λbr Y bd aX aI aA bB=>?_;have vL:=aA.size;have az:=aF F9 V aA;have aN:DH (λq=>(q:Int)∈C) z Y (1+6*bw (h.bD.take T)+(cE D m).length+6*(c.w -1)+1):=aI▸w9.then Rh;have b0:Y.length=l9.length+1:=by rw[aI];simp
   have cO:=aN.len;have kI:∀{u:O}{ul:List Int},GI [] t M1 u ul->u.D≠d->u.D≠g.D->u.D<M1.size->GI [] t bd u ul:=λ{u ul} aa a1 a2 a3=>by
    have g2:=aa.ext aO;have g3:=aj g2 f3 (by simp;exact⟨a1,a2⟩);have bE:=g3.ext am;have bH:=aj bE W (by simp;exact⟨a1,by rcases b3 with l|l<;>omega⟩);exact aj bH aA (by simp;exact⟨a1,by rcases b9 with l|l<;>omega⟩)
   have bs:t'.D≠d:=aU.ne o1.box be;have cb:t'.D≠g.D:=aU.Lm o1.gr be;have bk:=kI aU bs cb cc.2;have bi:=kI bK n1 n2 V;rw[aP (b:=(aR.len:Int) -1) V V];refine⟨λbW=>?_,λbW=>bo V _ _ _ ⟨br,Y,tl++[(g.len:Int)],C,aX,aN.imp (λ_ j=>j) V,bk,bI,bi,V,λA o=>by obtain⟨q,l,h1,h2⟩:=a8 A o;exact⟨q,l,h1,V⟩,V,az,V,V,V⟩⟩;have c0:=aX.gr.bh;refine Ue aX (i.em.gJ i.x (F0.trans az)) V (LM V V) λaY aM aZ bp aT aK bC=>?_;have c3:=aK.size;have bx:=aF az V aK;have cd:DH (λq=>(q:Int)∈C++[(Y.length:Int)]) z aM (1+6*bw (h.bD.take T)+(cE D m).length+6*(c.w -1)+1+1):=aT▸(aN.imp (λq j=>List.mem_append.2 (Or.inl j)) (ad _)).MR aJ;have cT:aM.length=Y.length+1:=by rw[aT];simp
   have nx:∀{u:O}{ul:List Int},GI [] t bd u ul->u.D≠d->GI [] t aZ u ul:=λaa aH=>aj aa aK (by simp;exact⟨aH,aa.Lm aX.gr be⟩);have bM:=nx bk bs;have bj:=nx bi n1;intro cZ;refine GI.kM bj (bt V) aJ V λci bA bJ ck bu bq=>?_;have fb:Fz [en.D] aZ bA:=⟨bu.1,λc e r=>bq c e (by simpa using r)⟩;have bD:en.D≠aY.D:=bj.Lm bp.gr be;refine⟨λc e=>by
    simp at e;rw[bq c V V,(J.push aZ _).same c V],bo V _ _ _ ⟨aY,aM,tl++[(g.len:Int)],C++[(Y.length:Int)],?_,cd.imp (λ_ j=>j) V,aj bM fb bI,bI,bJ,bI,λA o=>?_,V,bx.sG fb λA o=>by simp at o⊢;omega,V,V,V⟩⟩
   .exact bp.re fb (by simp;exact⟨n1,bD⟩) λc e=>by
     simp only[aS]at e⊢;rcases e with l|l|l
     .exact Or.inl (Or.inl l)
     .rcases bu.2 with e'|e'
      .exact Or.inl (Or.inr (Or.inl V))
      .exact Or.inr V
     .exact Or.inl (Or.inr (Or.inr l))
   .rcases List.mem_append.1 o with o|o
    .let⟨q,l,h1,h2⟩:=a8 A o;exact⟨q,l,h1,V⟩
    .simp at o;exact⟨Y.length,o,V,V⟩
  .have al:T=(cw D h.bQ).length:=V;subst al;refine⟨g,v.box.bV 0,?_⟩;intro U;have H:J f U:=J.push _ _;have ao:aq (bO (g.D::d::B) U) (.mk f.size 0 1 1) [(yn:Int)]:=aq.lit aD _ (bT (bT (gJ (f:=f) V) (ad _) V) (ad _) V) rfl rfl aJ;have s8:U.size=f.size+1:=by simp[U]
   clear_value U;refine⟨gl H V _,gl H V _,V,V,?_⟩;have P:Fm B G U d g L:=(v.ext H).re (Fz.aA [] _) aJ λc e=>Or.inl (ai _ (ai _ e));have az:K.D∉g.D::d::B:=by
    simp only[aS,ui];exact⟨t2,t1,λj=>oh (gJ (f:=F) (ad _) _ j)⟩
   have an:aq (bO (g.D::d::B) U) K tl:=(GI.any (e:=g.D::d::B) (gt.ext H)).nR um.mono az be V;obtain⟨wr,gs,-,Y⟩:=P.gr.set dS.mono (X:=List.range G.size) ⟨V,λc e r=>absurd (List.mem_range.2 e) r⟩ (k:=z.length) V (a:=⟨21,0,h.bQ,0,[(yn:Int)],tl⟩) (cs:=[.i 21,.i 0,.i h.bQ,.i 0,.s (.mk f.size 0 1 1),.s K]) ⟨_,_,rfl,ao,an⟩;refine⟨wr,?_⟩;intro m9;have s9:m9.size=U.size:=aw _ _ _ _;have o9:Fm B G m9 d g (L.set z.length ⟨21,0,h.bQ,0,[(yn:Int)],tl⟩):=⟨P.box.congr (Y d (kJ P.ne)),gs,P.up⟩;have W:Fz [d,g.D] f m9:=⟨V,λc e r=>by
    simp at r;have e1:m9[c]? =U[c]? :=Y c r.2;rw[e1,H.same c e]⟩
   have w9:=(bc.set (x:=⟨21,0,h.bQ,0,[(yn:Int)],tl⟩) (k:=z.length) (ad _) ⟨sx,sx⟩ ⟨aJ,by show tl.length<=_;omega⟩).imp (c:=λq=>(q:Int)∈C) (λ_ j=>j.1) (ad _);refine⟨λc e=>Y c (by simp at e;omega),?_⟩;have aA:=ge.len be;refine fm (n:=C.length) V (λw p=>∃ay av,Fm B G p d ay av/\DH (λq=>(q:Int)∈C.drop w) z av (1+6*bw (h.bD.take (cw D h.bQ).length))/\av.length=L.length/\GI [] t p en C/\Fz [d,s.D] N p/\(ay.D=s.D\/N.size<=ay.D)/\m7.size<=p.size) ⟨g,_,o9,by simpa using w9,aJ,aj ge W (by simp;exact⟨n1,n2⟩),aF I e W,e,V⟩ ?_;rintro w p I2 μ2 hi ⟨ay,l2,o2,w2,am,Q,f2,b2,z2⟩ av;refine dit (λj=>?_) λj=>?_
   .let⟨A,R⟩:=cK C w;obtain⟨q,rfl,aI,aK⟩:=a8 A (ar R);have ag:aq (bO [] p) en C:=(GI.any (e:=[]) Q).nR um.mono aJ be V;have ae:=ag.le (bF _ _);let⟨xq,ab⟩:=cK l2 q;refine⟨V,V,q,ae.aG R,?_⟩;refine TE o2 (i.em.gJ i.x (F0.trans f2)) ab (LL V V) λs4 l4 M4 o4 e4 f4 b4=>av V _ ⟨s4,l4,o4,?_,by rw[e4];simp;exact am,aj Q f4 (by simp;exact⟨n1,Q.Lm o2.gr be⟩),aF f2 b2 f4,oh f2.size,oh f4.size⟩;rw[e4];refine(w2.Z5 V ab).imp (λq' j=>?_) (ad _);let⟨h1,h2⟩:=j;rw[qC V]at h1;rcases List.mem_cons.1 h1 with l|l
    .have:C[w]=(q:Int):=by have:=List.getElem?_eq_some_iff.1 R;exact this.2
     rw[this]at l;exact absurd V h2
    .exact l
   .have a_:w=C.length:=V;subst a_;rw[List.drop_length]at w2;exact⟨ay,l2,o2,w2.YM aJ V,F0.trans f2,V⟩
def LZ{c:List bz}:∀a:Bk,Xk c b a:=Bk.ind λap r f=>LY λx e h=>LQ h λa d=>f x e a d
end
def mU.da{l:List Instr}{n:Nat}(h:mU [] l n):Ss l/\QM l/\l.length<=n:=by
 obtain⟨e,rfl,b,c,d⟩:=h;exact⟨λk x a=>by have:=b k x a;simpa using this,c,d⟩
def Mc{e:List Nat}{r:E}(hS:∀f∈e,f<r.size){B ag:O}{Z:List bz}{rs:List gP}(P:eK r B ag Z rs){al:Nat}(ay:yF Z rs True al)(hW:al<=120000000000):QK 162 [.agg #[O.v B,O.v ag]] r e Z DK:=by
 apply ED;simp -zeta only[aC,aB];have ht:=P.types;have hp:=P.iW;intro b a2;let⟨x2,hl⟩:=dO (a:=b) (c:=a2) rfl rfl;have s1:b.size=r.size+1:=by simp[b]
 clear_value a2;have aX:=hp.len;have bo:=P.oN;have bn:=ay.iY;refine(fU (b:=b.size::e) (bT hS x2.size (hl _ aJ)) (P.bn.le x2.le) ht).mono λ_ ac⟨dd,g,aV,x3⟩=>?_;subst g;refine⟨x3.dv hl,_,rfl,?_⟩;intro j a3 aF;have u2:=x2.trans x3;let⟨x5,B0,g0,s3,s5⟩:=lj (b:=j.size::b.size::e) lB.mono (d:=ac) (a:=j) (c:=a3) (h:=aF) rfl rfl rfl;clear_value aF;have ax:∀f∈[b.size,r.size],f<ac.size:=λf l=>x3.lt (hl f l);have av:∀f∈b.size::e,f<ac.size:=λf l=>x3.lt (bT hS x2.size (hl _ aJ) f l);refine kW (R:=λd h u=>∃B p c,Value.agg #[O.v d,O.v h]=.agg #[O.v B,O.v p]/\cy (bO e u) B Z/\jA (bO e u) p c/\DK c/\J r u) (r:=rs.length) (f:=r) (b:=e) lB.mono be be hS ⟨V,ax _ aJ⟩ u2 s3 aV aX V x5 B0 g0 (λ_ q=>Tz q) (λc r' aA m' d h t k o=>⟨c,r',aA,rfl,d,h,⟨V,V,λq hq=>by obtain⟨s,p⟩:=List.mem_iff_getElem?.1 hq;exact k s q p⟩,o⟩) λaz u o aA bg μ aW bl xM aq aj a6=>?_
 let⟨q,hq⟩:=cK rs az aW;let⟨q3,ba,bb,qw⟩:=ay.dx q (ar hq);have F:=u2.trans xM;obtain⟨cs,⟨bh,k,bd,rfl,c1,c2,c3⟩,Q⟩:=hp.iF az q hq;have aP:=c1.len;have qp:=q.body.Hh;refine⟨V,V,_,F.af (Q 0 _ rfl),_,F.af (Q 1 _ rfl),_,F.af (Q 2 _ rfl),_,F.af (Q 3 _ rfl),_,F.af (Q 4 _ rfl),?_⟩;intro m7 c;have hy:=aq.bh;have bj:=aj.lt;have zM:=xM.size;obtain⟨x8,-,s8⟩:=kK (M:=u) (d:=m7) (c:=c) rfl rfl rfl;clear_value c;have bm:=u2.size;have w8:=F.trans x8;have N:∀{I:E},c.size<=I.size->∀f∈o.D::j.size::b.size::e,f<I.size:=λh f l=>by
  simp only[aS]at l;rcases l with g|g|g|g
  .omega
  .omega
  .have:=av f (by simp[g]);omega
  .have:=av f (by simp[g]);omega
 have bk:b.size<ac.size:=ax _ aJ;intro d s;have x9:J c d:=J.push _ _;have s9:d.size=c.size+1:=by simp[d]
 have aK:J d s:=J.push _ _;have bu:s.size=d.size+1:=by simp[s]
 have g9:VO (d.size::o.D::j.size::b.size::e) c d (.mk c.size 0 0 0) []:=Gr.new _ (ad _) _ _ _;have aM:cx s d.size oH [.s (.mk c.size 0 0 0)]:=cx.push _ _ _;have aQ:Fm (o.D::j.size::b.size::e) c s d.size (.mk c.size 0 0 0) []:=⟨aM,g9.ext dS.mono aK,V⟩;clear_value s d;have am:=x9.trans aK;have aD:∀f∈[c.size,d.size],f<s.size:=λf l=>by simp at l;omega
 have LL:∀{I:E}{s':O},s.size<=I.size->(s'.D=c.size\/s.size<=s'.D)->∀k∈[u.size,b.size,r.size],k<I.size/\k≠d.size/\k≠s'.D:=λhz z k aT=>by simp at aT;omega
 rw[aP];refine(mh (S:=[c.size,d.size]) aD 0 q.params.length V).mono λ_ aE⟨U,ab,g,aR,aI,W⟩=>⟨W.dv λk z=>by simp at z;omega,U,g,?_⟩;have au:=GI.done aR aD V;have bf:=W.size;have aN:Su (o.D::j.size::b.size::e) c aE d.size (.mk c.size 0 0 0) [] U U ab ab:=⟨aQ.ext W,am.trans W,N V,au,au,rfl,λy hy=>oh (aI.1 y hy)⟩;refine(LZ q.body _ c aE d.size _ [] U U ab ab B ag bd aN (by rw[aI.2];exact bb) V bI (P.le w8.le) (eN.le w8.le c3)).mono λbw aZ⟨bv,bp,ae,aH,aa,aO⟩=>⟨Po.dv aa (LL bf (Or.inl rfl)),?_⟩;have bB:=aa.size;simp only[O.jC]at aO aa;have an:J c aZ:=Fz.ext ((((am.trans W).fz [d.size,c.size]).trans aa).DC λk z=>Or.inr (by simp at z;omega));have a9:=aH.len;intro bq;refine HU ae an (N V) (by simp at a9;omega) (LL V V) λA D v L ao ap bi=>?_;have bC:=ap.size;have bx:=ae.gr.bh;have X:J c v:=ae.gJ an ap;have a_:mU [] D (6*q.body.w):=ao▸(aH.trans (mU.kY (x:=⟨23,0,0,0,[q.body.aT],[]⟩) ⟨sx,λ_=>aJ⟩ aJ)).fu V;let⟨a7,a8,bt⟩:=a_.da;have aY:0<D.length:=by rw[ao];simp
 have ak:=aj.ext (x8.trans X);refine⟨o,ak.bV 1,A,L.box.bV 0,A,L.box.bV 0,?_⟩;have bA:=L.gr.bh;have a5:=L.ne;have a4:A.D∉d.size::o.D::j.size::b.size::e:=by
  simp only[aS,ui];have l:=λh:A.D∈o.D::j.size::b.size::e=>N (I:=c) (ad _) _ h;refine⟨a5,λh=>?_,λh=>?_,λh=>?_,λh=>?_⟩<;>have:=l (by simp[h])<;>omega
 have aw:ft (bO (d.size::o.D::j.size::b.size::e) v) A D:=L.gr.nR dS.mono a4 be V;have G:∀{y K:E}{k aG:Nat},v.size<=y.size->J y K->k<v.size->af K k aG=af y k aG:=λh ah z=>gl ah V _;have sm:∀{y K:E},v.size<=y.size->J y K->dY [u.size,b.size,r.size] y K:=λh ah=>ah.dv λk z=>by simp at z;omega
 have T:d.size<v.size:=V;have C:u.size<v.size:=V;have i3:j.size<v.size:=V;refine(bR (o.D::j.size::b.size::e) (c1.ext (w8.trans X)) V).mono λ_ br⟨a',la,g,ga,ea,p⟩=>⟨sm (ad _) p,a',g,G (ad _) p T,G (ad _) p C,G (ad _) p T,G (ad _) p C,G (ad _) p C,G (ad _) p i3,?_⟩;subst ea;have H:=p.size;refine(bR (o.D::j.size::b.size::e) (c2.ext ((w8.trans X).trans p)) V).mono λ_ a0⟨b',lb,g,gb,eb,t⟩=>⟨sm H t,b',g,G H t T,G H t C,G H t T,G H t C,G H t i3,?_⟩;subst eb;have bD:=t.size;have aL:=p.trans t;refine(Ng (m:=a0) (ft.ext aL (eR.le aw (bF _ _) λ_ _=>dS.le (bF _ _))) (q.params.length:Nat)).mono λ_ a1⟨rg,g,_,w⟩=>⟨sm V w,rg,g,G V w T,G V w C,G V w i3,?_⟩;have bE:=w.size;have Y:=aL.trans w;intro bs;have aU:ft (bO (o.D::j.size::b.size::e) a1) A D:=eR.le aw ((Y.dg _).trans (jT _ λ_ h=>ai _ h)) λ_ _=>dS.le ((Y.dg _).trans (jT _ λ_ h=>ai _ h));have XX:=(x8.trans X).trans Y;refine Gr.box (g:=[.s .nil,.s .nil,.i 0,.i 0,.s .nil]) (j:=1) (y:=88) (i:=[.s dd,.s o]) (w:=⟨q.params,q.cO,q.aT,rg,D⟩) lB.mono be (aq.ext lB.mono XX) ((xM.trans XX).fz []) ⟨a',b',A,rfl,(GI.done ga (N V) V).le ((t.trans w).dg _),(GI.done gb (N V) V).le (w.dg _),aU⟩ V (ak.ext Y) aJ be ⟨V,aJ⟩ (λf l=>?_) λr' m' g' B' f' z' q'=>a6 r' m' _ g' B' f'.ext ⟨q3,ba,aY,by show D.length<=_;omega,a7,a8⟩
 simp at l;omega
section
def Mn{α:Type}(T:E->O->O->α->Prop):Prop:=∀M a b c x,Le M a->T M b c x->T a b c x
def PP{α:Type}(T:E->O->O->α->Prop)(U:α->Prop)(S:List Nat)(d:Nat)(e:O)(m:E)(P:Nat)(v:Value)(a:E):Prop:=∃b c x,v=.agg #[O.v b,O.v c]/\T (bO S a) b c x/\U x/\Rd d e P a/\Fz [d] m a
def NT(m:E)(a b:O)(x:List bz×List gP):Prop:=eK m a b x.1 x.2
def IT(m:E)(a b:O)(x:List bz×List dA):Prop:=cy m a x.1/\jA m b x.2
def GT(m:E)(a b:O)(x:List bz×List (dA×Ex)):Prop:=cy m a x.1/\Xl m b x.2
def UN(c:Prop)(W:Nat)(x:List bz×List gP):Prop:=yF x.1 x.2 c W/\x.1∈sa
def UI(x:List bz×List dA):Prop:=DK x.2/\x.1∈sa
def NT.mn:Mn NT:=λ_ _ _ _ _ h t=>eK.le t h
def IT.mn:Mn IT:=λ_ _ _ _ _ h t=>⟨t.1.le h,jA.le h t.2⟩
structure BS(B:List Nat)(rb:Nat)(bs:O)(m:E)(Q:Nat)(M:E):Prop where
 s:Rs rb bs m Q M
 gJ:∀c∈B,m.size<=c/\c<M.size
section
variable{α:Type}{T:E->O->O->α->Prop}{U:α->Prop}{S B L:List Nat}{c Q g i k f t:Nat}{e a b:O}{m M d:E}{x:α}{h:List Value}
def BS.hS(h:BS B c e m Q M)(d:∀a∈S,a<m.size):∀a∈B++S,a<M.size:=λa f=>(List.mem_append.1 f).elim (λb=>(h.gJ a b).2) λb=>aO (d a b) h.s.f.size
def BS.to(h:BS B c e m Q M)(f:Fz [c] M d)(r:Rd c e g d):BS B c e m g d:=⟨h.s.to f r,λa b=>⟨(h.gJ a b).1,aO (h.gJ a b).2 f.size⟩⟩
def BS.lw(h:BS B c e m Q M)(a:c<m.size)(d:∀b∈L,b∈B):Lw c L M:=Go.Proofs.YtkoifinbblcbiaaGreat.lw a λb f=>h.gJ b (d b f)
def BS.call(i:BS B c e m Q M)(o:c<m.size)(p:∀b∈L,b∈B)(l:aM cq f h M (PP T U (B++S) c e M g)){K:O->O->E->Prop}
 (q:∀a b x d,U x->T (bO (B++S) d) a b x->BS B c e m g d->Fz [c] M d->K a b d):aM cq f h M λv d=>dY L M d/\∃j k:O,v=.agg #[O.v j,O.v k]/\K j k d:=
 l.mono λ_ d⟨a,b,x,n,t,u,r,f⟩=>⟨(i.lw o p).dv f,a,b,n,q a b x d u t (i.to f r) f⟩
def BS.pick(h:BS B c e m Q M)(g:c<m.size)(k:Q<=10^16)(j:∀b∈L,b∈B)(n:Int){K:Int->E->Prop}
 (l:∀i d,0<=i->(i<n\/i=0)->BS B c e m (Q+1) d->Fz [c] M d->K i d):aM cq 40 [vp c 0,vi n] M λv d=>dY L M d/\∃i:Int,v=vi i/\K i d:=
 (cC h.s.r k n).mono λ_ d⟨i,a,o,p,r,f⟩=>⟨(h.lw g j).dv f,i,a,l i d o p (h.to f r) f⟩
def BS.box{m1 m2:E}{z l:List Ce}(h:BS B c e m Q M)(g:m1=M.push (.cells (bA z) t))(i:m2=ag m1 M.size 0 l)(n:l.length=z.length):BS (M.size::B) c e m Q m2/\Le (bO (B++S) M) (bO (M.size::B++S) m2)/\cx m2 M.size t l:=by
 let⟨x,d,z⟩:=kK g i n;have o:=h.s.f.size;refine⟨⟨h.s.ext x,λf k=>?_⟩,x.bO λb j=>(List.mem_cons.1 j).elim (λh=>Or.inr V) Or.inl,d⟩;rcases List.mem_cons.1 k with a|a
 .omega
 .have:=h.gJ f a;omega
def BS.put(h:BS B c e m Q M)(d:Rd c e i m)(a:k∈B)(l:List Ce):BS B c e m Q (ag M k 0 l)/\Le (bO (B++S) M) (bO (B++S) (ag M k 0 l)):=
 ⟨⟨h.s.put d (h.gJ k a).1 _ _,λb f=>by rw[aw];exact h.gJ b f⟩,cA (by simp[a]) λ_ h=>h⟩
def BS.le(a:c∈S)(f:Fz [c] M d):Le (bO (B++S) M) (bO (B++S) d):=f.dg (by simp[a])
def BS.iy(h:BS B c e m Q M)(o:Mn T)(j:Rd c e i m)(p:k∈B)(q:T (bO (B++S) M) a b x)(r:U x)(n:Q<=g)(l:List Ce):PP T U S c e m g (.agg #[O.v a,O.v b]) (ag M k 0 l):=
 have⟨d,f⟩:=h.put (S:=S) j p l
 ⟨a,b,x,rfl,o _ _ _ _ _ (f.trans (jT _ λ_=>fL _)) q,r,d.s.r.mono n,d.s.f⟩
def BS.kY(a:Rd c e Q m)(o:Obj):BS [m.size] c e m Q (m.push o)/\Le (bO S m) (bO ([m.size]++S) (m.push o)):=⟨⟨⟨(J.push m o).fz _,a.ext (J.push m o)⟩,aJ⟩,tA (J.push m o) (ad _)⟩
def Ln{a:List bz}{d:Prop}{W:Nat}(j:vh f h M S a λb=>yF a b d W)(hd:a∈sa)(r:Rd c e Q M):aM cq f h M (PP NT (UN d W) S c e M Q):=
 j.mono λ_ _⟨g,k,b,i,n,o,x⟩=>⟨g,k,(a,b),i,n,⟨o,hd⟩,r.ext x,x.fz _⟩
def Wd{a:List bz}(g:QK f h M S a DK)(hd:a∈sa)(r:Rd c e Q M):aM cq f h M (PP IT UI S c e M Q):=
 g.mono λ_ _⟨d,j,k,b,n,i,o,x⟩=>⟨d,j,(a,k),b,⟨n,i⟩,⟨o,hd⟩,r.ext x,x.fz _⟩
end
section
variable{a:List Nat}{m:E}{b P:Nat}{c:O}
def ID(f:∀d∈a,d<m.size)(j:b∈a)(d:Rd b c P m)(D:P+1000+4*(300+40*Cg 18)<=10^16):aM cq 221 [vp b 0] m (PP NT (UN False 95) a b c m (P+11+4*(300+40*Cg 18))):=by
 apply Bg (b,0);simp -zeta only[aC,aB];have e:=d.lt;intro k;obtain⟨b1,-⟩:BS [m.size] b c m P k/\True:=⟨(BS.kY (S:=a) d _).1,trivial⟩;clear_value k;refine b1.call (T:=GT) (U:=λx=>Xo x.1 x.2) (S:=a) e (λ_ h=>h) ((EF (b1.hS f) (by simp[j]) b1.s.r V).mono λv M⟨i,p,g,t,l,n,o,q,r,s⟩=>⟨i,p,(g,t),l,⟨n,o⟩,q,r,s⟩) λi p x F u t b2 A=>?_;refine b2.call (S:=a) e (λ_ h=>h) (Ln (Ix (b2.hS f) (t.1.le (bF _ _)) (eR.le t.2 (bF _ _) λ_ _=>ZB.mono.le (bF _ _)) u) u.gp.ds b2.s.r) λy J L G g t3 b3 B=>?_;intro r l;obtain⟨b5,q,-⟩:=b3.box (S:=a) (m1:=r) (m2:=l) rfl rfl rfl;clear_value l;have s:=NT.mn _ _ _ _ _ q t3;refine b5.pick e V (λ_ h=>h) 3 λE H _ _ b6 o=>?_;have n:=NT.mn _ _ _ _ _ (BS.le j o) s;refine⟨λ_=>?_,λ_=>b6.iy NT.mn d aJ n g V _⟩;exact b6.call (S:=a) e (λ_ h=>h) (Ln (J0 (b6.hS f) (n.le (bF _ _)) V g.1) g.2 b6.s.r) λz K M I w v h C=>h.iy NT.mn d aJ v w V _
def Ez(j:∀d∈a,d<m.size)(g:b∈a)(d:Rd b c P m)(M:P+1000+4*(300+40*Cg 18)<=10^16):aM cq 207 [vp b 0] m (PP NT (UN True 104500) a b c m (P+12+4*(300+40*Cg 18))):=by
 apply xI (b,0);simp -zeta only[aC,aB];have f:=d.lt;intro n;obtain⟨b1,-⟩:BS [m.size] b c m P n/\True:=⟨(BS.kY (S:=a) d _).1,trivial⟩;clear_value n;refine b1.call (S:=a) f (λ_ h=>h) (ID (b1.hS j) (by simp[g]) b1.s.r V) λI U X Q i t2 b2 K=>?_;intro x o;obtain⟨b4,w,-⟩:=b2.box (S:=a) (m1:=x) (m2:=o) rfl rfl rfl;clear_value o;have q:=NT.mn _ _ _ _ _ w t2;refine b4.call (S:=a) f (λ_ h=>h) (Ln (LV (b4.hS j) (q.le (bF _ _)) i.1) i.2 b4.s.r) λJ W Y y G B b5 u=>?_;intro z p;obtain⟨r,l,-⟩:=b5.box (S:=a) (m1:=z) (m2:=p) rfl rfl rfl;clear_value p;have C:=NT.mn _ _ _ _ _ l B;refine r.pick f V (λ_ h=>h) 4 λN R _ _ e k=>?_;have D:=NT.mn _ _ _ _ _ (BS.le g k) C;refine⟨λ_=>?_,λ_=>e.iy NT.mn d aJ D G V _⟩;have E:=NT.mn _ _ _ _ _ (((BS.le g u).trans l).trans (BS.le g k)) q;refine e.call (S:=a) f (λ_ h=>h) (Ln (Qn (e.hS j) (E.le (bF _ _)) i.1) i.2 e.s.r) λt A Z T H F s L=>?_;intro O;let⟨h,v⟩:=s.put (S:=a) d (by simp:y.size∈_) [.s t,.s A];exact h.iy NT.mn d aJ (NT.mn _ _ _ _ _ v F) H V _
end
end
section
variable{c:Prop}
structure BF(S:List Nat)(rb:Nat)(bs:O)(m:E)(k Q W:Nat)(M:E):Prop where
 b:BS [k,m.size] rb bs m Q M
 x:∃d r x,cx M k nu [.s d,.s r]/\NT (bO (k::m.size::S) M) d r x/\UN True W x
def UN.mono{W W':Nat}{x:List bz×List gP}(h:UN c W x)(f:W<=W'):UN c W' x:=⟨⟨h.1.iY,λq g=>let⟨a,b,d,e⟩:=h.1.dx q g;⟨a,b,d,bX e f⟩⟩,h.2⟩
section
variable{e h:List Nat}{d k Q Q' W W' i f:Nat}{g:O}{a M b:E}{K:E->Prop}{j:O->O->List Value}
def BF.mono(h:BF e d g a k Q W M)(j:Q<=Q')(l:W<=W'):BF e d g a k Q' W' M:=⟨⟨⟨h.b.s.f,h.b.s.r.mono j⟩,h.b.gJ⟩,let⟨i,r,x,b,f,c⟩:=h.x;⟨i,r,x,b,f,c.mono l⟩⟩
def BF.to(i:BF e d g a k Q W M)(n:d<a.size)(m:d∈e)(f:Fz [d] M b)(j:BS [k,a.size] d g a Q' b):BF e d g a k Q' W b:=
 let⟨l,r,x,h,t,c⟩:=i.x
 ⟨j,l,r,x,h.congr (f.same k h.lt (by have:=i.b.gJ k aJ;simp;omega)),NT.mn _ _ _ _ _ (BS.le (B:=[k,a.size]) m f) t,c⟩
def BF.pick(j:BF e d g a k Q W M)(l:d<a.size)(q:d∈e)(o:Q<=10^16)(m:∀c∈h,c∈[k,a.size])(n:Int){K:Int->E->Prop}
 (p:∀i b,BF e d g a k (Q+1) W b->K i b):aM cq 40 [vp d 0,vi n] M λv b=>dY h M b/\∃i:Int,v=vi i/\K i b:=
 j.b.pick l o m n λi b _ _ c f=>p i b (j.to l q f c)
def BF.ZE(q:BF e d g a k Q W M)(w:Rd d g i a)(F:k≠a.size)(y:∀p∈h,p=a.size)
 (c:∀l n x,NT (bO (k::a.size::e) M) l n x->UN True W x->aM cq f (j l n) M (PP NT (UN True W') (k::a.size::e) d g M Q'))
 (I:∀b,BF e d g a k Q' W' b->K b):∃z:O,af M k 0=some (O.v z)/\∃A:O,af M k 1=some (O.v A)/\aM cq f (j z A) M λT b=>dY h M b/\∃t u:O,T=.agg #[O.v t,O.v u]/\eC b k 0 2/\(dY h b (ag b k 0 [.s t,.s u])/\K (ag b k 0 [.s t,.s u])):=by
 let⟨l,n,x,B,J,P⟩:=q.x
 have G:=w.lt
 have V:=q.b.gJ k aJ
 refine⟨l,B.bV 0,n,B.bV 1,q.b.call (S:=e) (L:=h) G (λp s=>by simp[y p s]) (c l n x J P) λp s U b R N C D=>?_⟩
 have v:=B.congr (D.same k B.lt bI)
 let⟨b2,H⟩:=C.put (S:=e) w (by simp:k∈_) [.s p,.s s]
 exact⟨v.eC aJ,λc E=>bo _ _ _ _ (by rw[y c E];exact kJ F),I _ ⟨b2,p,s,U,cx.ag (m:=b) (o:=0) (r:=[.s p,.s s]) v,NT.mn _ _ _ _ _ H N,R⟩⟩
def BF.aW(h:BF e d g a k Q W M)(j:Rd d g i a)(l:Q<=Q'):∃b:O,af M k 0=some (O.v b)/\∃c:O,af M k 1=some (O.v c)/\PP NT (UN True W) e d g a Q' (.agg #[O.v b,O.v c]) (ag M a.size 0 [.s b,.s c]):=
 let⟨f,r,_,B,t,u⟩:=h.x
 ⟨f,B.bV 0,r,B.bV 1,h.b.iy NT.mn j aJ t u l _⟩
end
section
variable{a:List Nat}{b:E}{d P:Nat}{e:O}
def YY{h:Nat}{g:List Value}{M:E}{Q:Nat}{b:List bz}{W:Nat}(k:Tt h g M a d e Q b λf=>yF b f c W)(hd:b∈sa):aM cq h g M (PP NT (UN c W) a d e M Q):=
 k.mono λ_ _⟨i,l,f,j,n,o,r,x⟩=>⟨i,l,(b,f),j,n,⟨o,hd⟩,r,x⟩
def R1(i:∀c∈a,c<b.size)(k:d∈a)(g:Rd d e P b)(h:P+4<=10^16){W:Nat}(j:W<=200000000000)(f r:O)(x:List bz×List gP)(t:NT (bO a b) f r x)(u:UN True W x):aM cq 208 [vp d 0,.agg #[O.v f,O.v r]] b (PP NT (UN True (W+4)) a d e b (P+4)):=
 YY (Qm i k g h t u.1 j) u.2
def Cu(z:∀c∈a,c<b.size)(l:d∈a)(g:Rd d e P b)(Z:P+1000+4*(300+40*Cg 18)<=10^16):aM cq 163 [vp d 0] b (PP NT (UN True 98289774148) a d e b (P+24+4*(300+40*Cg 18))):=by
 apply wD (d,0);simp -zeta only[aC,aB];have k:=g.lt;intro q;have z1:q.size=b.size+1:=by simp[q]
 obtain⟨b1,-⟩:BS [b.size] d e b P q/\True:=⟨(BS.kY (S:=a) g _).1,trivial⟩;clear_value q;refine b1.call (S:=a) k (λ_ h=>h) (Ez (b1.hS z) (by simp[l]) b1.s.r V) λD H J f I t2 b2 K=>?_;have z2:=K.size;intro N G;let⟨b4,L,C⟩:=b2.box (S:=a) (m1:=N) (m2:=G) rfl rfl rfl;clear_value G;have X:=NT.mn _ _ _ _ _ L t2;have p:f.size≠b.size:=V;have n:∀{M:E}{Q W:Nat},BF a d e b f.size Q W M->∀c∈f.size::b.size::a,c<M.size:=λh=>h.b.hS z;have F:d∈f.size::b.size::a:=by simp[l]
 refine⟨BF a d e b f.size (P+17+4*(300+40*Cg 18)) 104504,?_,λR U=>?_⟩
 .refine b4.pick k V (λ_ h=>h) 4 λA m5 _ _ b5 t=>?_;have u:=NT.mn _ _ _ _ _ (BS.le (B:=[f.size,b.size]) l t) X;have s:=C.congr (t.same _ C.lt bI);refine⟨λ_=>b5.call (S:=a) k (λ_ h=>h) (R1 (b5.hS z) F b5.s.r V V D H J u I) λi j x O Y T b6 w=>?_,λ_=>BF.mono ⟨b5,D,H,J,s,u,I⟩ V V⟩;intro R;let⟨v,y⟩:=b6.put (S:=a) g (by simp:f.size∈_) [.s i,.s j];exact BF.mono ⟨v,i,j,x,cx.ag (m:=O) (o:=0) (r:=[.s i,.s j]) (s.congr (w.same _ s.lt bI)),NT.mn _ _ _ _ _ y T,Y⟩ V V
 refine⟨BF a d e b f.size (P+18+4*(300+40*Cg 18)) 10921086016,?_,λY O=>?_⟩
 .refine U.pick k l V aJ 4 λA v s=>⟨λ_=>s.ZE g p aJ (λi j x t u=>Ln (Ie (n s) (t.le (bF _ _)) V u.1) u.2 s.b.s.r) λy h=>h.mono V V,λ_=>s.mono V V⟩
 refine O.pick k l V aJ 3 λA aa s=>?_;refine⟨BF a d e b f.size (P+19+4*(300+40*Cg 18)) 98289774144,⟨λ_=>s.ZE g p aJ (λi j x t u=>Ln (EV (n s) (t.le (bF _ _)) V u.1) u.2 s.b.s.r) λy h=>h.mono V V,λ_=>s.mono V V⟩,λab v=>?_⟩;refine⟨BF a d e b f.size (P+19+4*(300+40*Cg 18)) 98289774144,⟨λ_=>v.ZE g p aJ (λi j x t u=>Ln (Nh (n v) (t.le (bF _ _)) V u.1) u.2 v.b.s.r) λy h=>h.mono V V,λ_=>v.mono V V⟩,λac T=>?_⟩;refine T.pick k l V aJ 6 λA ad w=>⟨λ_=>w.ZE g p aJ (λi j x t u=>R1 (n w) F w.b.s.r V V i j x t u) λy h=>h.aW g V,λ_=>(w.mono (Q':=P+24+4*(300+40*Cg 18)) (W':=98289774148) V V).aW g V⟩
def Il(j:∀c∈a,c<b.size)(l:d∈a)(f:Rd d e P b)(B:P+1000+4*(300+40*Cg 18)<=10^16):aM cq 90 [vp d 0] b (PP IT UI a d e b (P+25+4*(300+40*Cg 18))):=by
 apply AN (d,0);simp -zeta only[aC,aB];have g:=f.lt;intro m;obtain⟨b1,-⟩:BS [b.size] d e b P m/\True:=⟨(BS.kY (S:=a) f _).1,trivial⟩;clear_value m;refine b1.call (S:=a) g (λ_ h=>h) (Cu (b1.hS j) (by simp[l]) b1.s.r V) λv H K D o t2 b2 y=>?_;refine b2.call (S:=a) g (λ_ h=>h) (Wd (Mc (b2.hS j) (t2.le (bF _ _)) o.1 V) o.2 b2.s.r) λw I L E i t3 b3 z=>?_;intro r n;obtain⟨b5,q,-⟩:=b3.box (S:=a) (m1:=r) (m2:=n) rfl rfl rfl;clear_value n;have s:=IT.mn _ _ _ _ _ q t3;refine b5.pick g V (λ_ h=>h) 3 λC F _ _ b6 p=>?_;have k:=IT.mn _ _ _ _ _ (BS.le l p) s;refine⟨λ_=>?_,λ_=>b6.iy IT.mn f aJ k i V _⟩;exact b6.call (S:=a) g (λ_ h=>h) (Wd (IH (b6.hS j) (k.1.le (bF _ _)) (tr i.2) (jA.le (bF _ _) k.2) i.1) i.2 b6.s.r) λx J M G u t h A=>h.iy IT.mn f aJ t u V _
end
end
section
variable{x:Instr}
section
variable{S:List Nat}{m M:E}{a P Q:Nat}{b:O}
def Dt(h:Rs a b m Q M)(i:Q<=10^16)(c:List Int){d:List Ce}{n:Nat}(j:d=c.map Ce.i)(p:n=c.length)(l:0<c.length/\c.length<=100):
 aM cq 39 [vp a 0,O.v (.mk M.size 0 n n)] (M.push (.cells (bA d) aD)) λv e=>∃t:Int,v=vi t/\t∈c/\Rs a b m (Q+1) e/\Fz [a] (M.push (.cells (bA d) aD)) e:=by
 have x:=J.push M (.cells (bA d) aD)
 have o:=h.r.lt
 refine(lg (h.ext x).r i (aq.lit aD c (by simp;exact o) j p V) l.1).mono λv e⟨q,g,k,r,f⟩=>⟨q,g,k,(h.ext x).to f r,f⟩
def _root_.Go.Vc.Gr.Ld{b c:E}{s:O}{l:List Int}(h:GI S b M s l)(f:Fz [a] M c)(d:a<b.size):GI S b c s l:=have:=h.bh;GI.jx h (f.same _ this.2 bI)
def wT(n:Rd a b P m)(hP:P+10<=10^16){D:O}{l:List Int}(S:aq m D l)(hb:l.length<=10^12):aM cq 93 [vp a 0,O.v D] m λaa o=>∃s c,aa=O.v s/\GI [] m o s c/\c.length<=l.length+1/\(∀w∈c,w∈l\/-1<=w/\w<=1001)/\Rd a b (P+3) o/\Fz [a] m o:=by
 apply tf (a,0);have g:=n.lt;refine(bR [] S V).mono λ_ W⟨s,c,e,j,I,G⟩=>⟨s,e,?_⟩;subst I;have ab:=j.len be;have p:Rs a b m P W:=⟨G.fz _,n.ext G⟩;have iy:∀{M:E}{Q:Nat},Rs a b m Q M->Q<=P+2->GI [] m M s l->aM cq 39 [vp a 0,O.v (.mk M.size 0 5 5)] (M.push (.cells (bA [.i 0,.i 1,.i 2,.i (-1),.i 1000]) aD)) λx r=>∃i:Int,x=vi i/\
  jN (r.push (.cells (bA [.i i]) aD)) aD [.i 0] 8 s (.mk r.size 0 1 1) λt q=>∃s c,O.v t=O.v s/\GI [] m q s c/\c.length<=l.length+1/\(∀w∈c,w∈l\/-1<=w/\w<=1001)/\Rd a b (P+3) q/\Fz [a] m q:=λ{M Q} rM hQ gM=>
  (Dt rM V [0,1,2,-1,1000] rfl rfl aJ).mono λ_ r⟨t,e,u,f,d⟩=>⟨t,e,by
   have g2:=(gM.ext (J.push M _)).Ld d g;refine GI.kM g2 f.f aJ V λx o L z z' Y=>⟨x,_,rfl,L,aJ,λw v=>?_,?_,z⟩
   .rcases List.mem_append.1 v with h|h
    .exact Or.inl h
    .simp at h u;exact Or.inr V
   .exact(n.OG f.r z (Y a f.r.lt (oh g2.bh))).mono V⟩
 refine⟨λR=>?_,λ_=>iy p V j⟩;simp only[ly,au]at R;refine(cC p.r V 2).mono λ_ m2⟨T,e,_,_,y,d⟩=>⟨T,e,λ_=>?_,λ_=>iy (p.to d y) V (j.Ld d g)⟩;have f:=p.to d y;refine(cC f.r V (s.len:Int)).mono λ_ X⟨i,e,U,k1,H,A⟩=>⟨i,e,?_⟩;refine(Dt (f.to A H) V [0,1,-1,7,1000,1001] rfl rfl aJ).mono λ_ m5⟨t,e,u,F,K⟩=>⟨t,e,U,V,?_⟩;have C:=(((j.Ld d g).Ld A g).ext (J.push X _)).Ld K g;let⟨w,N,B,Z⟩:=C.set F.f (k:=i.toNat) V t;refine⟨w,s,_,rfl,N,aJ,λw v=>?_,(n.OG F.r B (Z a (oh C.bh))).mono V,B⟩;rcases dp v with h|h
 .exact Or.inl h
 .simp at u;exact Or.inr V
def IX(Z:List Nat)(a:Nat)(b:O)(m:E)(P:Nat)(U:Instr->Prop)(v:Value)(c:E):Prop:=∃x d j,v=We x d j/\aq (bO Z c) d x.args/\aq (bO Z c) j x.eG/\U x/\Rd a b P c/\Fz [a] m c
def wG(S:List Nat){p t:O}(v:aq m p x.args)(w:aq m t x.eG)(s:x.args.length<=10^12/\x.eG.length<=10^12):
 aM cq 213 [We x p t] m λz l=>∃c d,z=We x c d/\GI S m l c x.args/\GI S m l d x.eG/\c.D≠d.D/\J m l:=by
 apply rR
 simp -zeta only[aC,aB]
 intro i j
 let⟨e,g⟩:=dO (a:=i) (c:=j) rfl rfl
 have F:i.size=m.size+1:=by simp[i]
 clear_value j
 have b:∀{M n:E},J j M->J M n->∀o,af n m.size o=af M m.size o:=λh u o=>aL (u.same _ (h.lt (g _ aJ))) o
 refine(bR S (v.ext e) s.1).aK (J.aA j) g λc _ B q k a _=>⟨_,rfl,b (J.aA _) a _,b (J.aA _) a _,b (J.aA _) a _,b (J.aA _) a _,b (J.aA _) a _,?_⟩
 subst k
 refine(bR S (w.ext (e.trans a)) s.2).aK a g λd _ C r k f y=>⟨_,rfl,b a f _,b a f _,b a f _,b a f _,?_⟩
 subst k
 intro D
 have G:=q.bh;have H:=r.bh
 have A:=g i.size aJ
 exact⟨c,d,rfl,((q.ext f).jx (bo _ _ _ _ V)).cv (λ_ h=>h) e.size,(r.jx (bo _ _ _ _ V)).cv (λ_ h=>h) (e.trans a).size,V,(e.trans y).ag V _ _⟩
end
structure BI(a0:E)(k rb:Nat)(bs:O)(m:E)(Q:Nat)(M:E)(a j:O)(l l':List Int):Prop where
 ga:GI [] a0 M a l
 gj:GI [] a0 M j l'
 ne:a.D≠j.D
 s:Rs rb bs m Q M
 lo:m.size+2<=a0.size/\l.length<=1000000000001/\l'.length<=1000000000001
 hi:a.D≠k/\j.D≠k/\m.size<=k/\k<M.size
section
variable{Z L:List Nat}{f m M c:E}{b k P g Q h:Nat}{d a j:O}{l e:List Int}
def BI.to(g:BI f k b d m Q M a j l e)(n:b<m.size)(i:Fz [b] M c)(r:Rd b d h c):BI f k b d m h c a j l e:=
 have:=g.lo
 ⟨g.ga.Ld i V,g.gj.Ld i V,g.ne,g.s.to i r,g.lo,g.hi.1,g.hi.2.1,g.hi.2.2.1,aO g.hi.2.2.2 i.size⟩
def BI.put(h:BI f k b d m Q M a j l e)(g:Rd b d P m)(o:Nat)(c:List Ce):BI f k b d m Q (ag M k o c) a j l e:=
 have:=h.lo;have:=h.hi;have:=h.ga.bh
 ⟨GI.jx h.ga (bo _ _ _ _ V),GI.jx h.gj (bo _ _ _ _ V),h.ne,h.s.put g V _ _,h.lo,by rw[aw];exact h.hi⟩
def BI.iy{U:Instr->Prop}(h:BI f k b d m Q M a j l e)(v:Rd b d P m)(t:∀c∈Z,c<m.size){i:Nat}(y:i=m.size+1)(w:Q<=g){r n q p:Int}(x:U ⟨r,n,q,p,l,e⟩)(s:List Ce):IX Z b d m g U (.agg #[vi r,vi n,vi q,vi p,O.v a,O.v j]) (ag M i 0 s):=by
 have:=h.lo;have:=h.hi;have z:=h.ga.bh;have A:=h.gj.bh;have u:=h.s.put v (k:=i) V 0 s;exact⟨⟨r,n,q,p,l,e⟩,a,j,rfl,Gr.done um.mono (GI.any (GI.jx h.ga (bo _ _ _ _ V))) (λc o=>oh (t c o)) be (bX h.lo.2.1 be),Gr.done um.mono (GI.any (GI.jx h.gj (bo _ _ _ _ V))) (λc o=>oh (t c o)) be (bX h.lo.2.2 be),x,u.r.mono w,u.f⟩
def BI.pick(h:BI f k b d m Q M a j l e)(r:b<m.size)(t:Q<=10^16)(s:∀g∈L,m.size<=g/\g<=k)(p:Int){K:Int->E->Prop}
 (v:∀i c,0<=i->(i<p\/i=0)->BI f k b d m (Q+1) c a j l e->(∀o,af c k o=af M k o)->Fz [b] M c->K i c):aM cq 40 [vp b 0,vi p] M λz c=>dY L M c/\∃i:Int,z=vi i/\K i c:=
 have:=h.lo;have:=h.hi;have:=h.ga.bh
 (cC h.s.r t p).mono λ_ c⟨i,q,w,x,y,n⟩=>⟨n.dv λg u=>by have:=s g u;simp;omega,i,q,v i c w x (h.to r n y) (λo=>aL (n.same k h.hi.2.2.2 bI) o) n⟩
end
def Tl(x y:Instr):Prop:=(∀k,Pq k x->Pq k y)/\y.args.length<=10^12/\y.eG.length<=10^12
def Ib{Z:List Nat}{m:E}{g P:Nat}{t F H:O}(d:∀c∈Z,c<m.size)(a:Rd g t P m)(hP:P+10<=10^16)(R:aq (bO [g] m) F x.args)(hj:aq m H x.eG)(b:x.args.length<=10^12/\x.eG.length<=10^12)(hx:∃I,Pq I x):
 aM cq 166 [vp g 0,We x F H] m (IX Z g t m (P+3) (Tl x)):=by
 apply Ax (g,0)
 simp(config:={maxSteps:=1000000}) -zeta only[aC,aB]
 have p:=a.lt
 intro r u
 let⟨W,hl⟩:=dO (a:=r) (c:=u) rfl rfl
 have i:r.size=m.size+1:=by simp[r]
 have s2:u.size=m.size+2:=by simp[u,i]
 clear_value u
 clear_value r
 refine(wG [] ((R.le (bF _ _)).ext W) (hj.ext W) b).mono λ_ w⟨s,K,e,ga,gj,T,X⟩=>⟨X.dv hl,_,_,_,_,_,_,e,?_⟩
 intro m4 U
 obtain⟨N,-,z5⟩:=kK (M:=w) (d:=m4) (c:=U) rfl rfl rfl
 clear_value U
 have ya:=ga.bh;have yj:=gj.bh
 have X5:=(W.trans X).trans N
 have b5:BI u w.size g t m P U s K x.args x.eG:=⟨ga.ext N,gj.ext N,T,⟨X5.fz _,a.ext X5⟩,⟨V,px b.1,px b.2⟩,V,V,V,V⟩
 have o:∀n∈[w.size,r.size,m.size],m.size<=n/\n<=w.size:=bI
 let⟨q,z,C,A,j,B⟩:=x
 have Ek:Tl ⟨q,z,C,A,j,B⟩ ⟨q,z,C,A,j,B⟩:=⟨λ_ h=>h,b⟩
 refine b5.pick p V o 5 λae f _ _ b6 _ f6=>?_
 have y:∀{Y:E}{aa:Nat},BI u w.size g t m aa Y s K j B->aa<=P+3->IX Z g t m (P+3) (Tl ⟨q,z,C,A,j,B⟩) (.agg #[vi q,vi z,vi C,vi A,O.v s,O.v K]) (ag Y r.size 0 [.i q,.i z,.i C,.i A,.s s,.s K]):=λh hQ=>h.iy a d i hQ Ek _
 have ab:q=16\/q=17->(0:Int)<=0/\(0:Int)<(F.len:Int)/\∃v:Int,af f F.D (F.off+Int.toNat 0*1)=some (vi v)/\IX Z g t m (P+3) (Tl ⟨q,z,C,A,j,B⟩) (.agg #[vi 15,vi 0,vi 0,vi 0,O.v (.mk f.size 0 1 1),O.v .nil]) (ag (f.push (.cells (bA [.i v]) aD)) r.size 0 [.i 15,.i 0,.i 0,.i 0,.s (.mk f.size 0 1 1),.s .nil]):=λe=>by
  have hn:0<j.length:=let⟨_,h⟩:=hx;h.arg bI;have S:=R.len;let⟨D,hy⟩:=cK j 0 hn;have z6:=b6.hi;have r7:=(b6.s.ext (J.push f (.cells (bA [.i D]) aD))).put a (k:=r.size) V 0 [.i 15,.i 0,.i 0,.i 0,.s (.mk f.size 0 1 1),.s .nil];have Q:GI [] f (f.push (.cells (bA [.i D]) aD)) (.mk f.size 0 1 1) [D]:=Gr.lit (f:=[[.i D]]) um.mono (ad _) aJ rfl rfl ⟨rfl,aJ,λH cs x G L=>by
   cases H with
   |zero=>simp at G L;rw[<-G,<-L];rfl
   |succ H=>simp at G⟩
  exact⟨cX 0,by simp at S;omega,D,(eF.1 ((R.le (b6.s.f.dg aJ)).aG hy)).2,⟨15,0,0,0,[D],[]⟩,_,.nil,rfl,GI.done (GI.any (GI.jx Q (bo _ _ _ _ bI))) (λc L=>oh (d c L)) aJ,⟨rfl,eO _,aJ,aJ⟩,⟨λ_ _=>⟨sx,sx⟩,aJ,aJ⟩,r7.r.mono V,r7.f⟩
 refine⟨λ_=>⟨λe=>?_,λ_=>⟨λe=>(b6.put a _ _).iy a d i V ⟨λ_ _=>⟨sx,sx⟩,b⟩ _,λ_=>⟨λe=>?_,λ_=>y b6 V⟩⟩⟩,λ_=>⟨λ_=>⟨λG=>?_,λ_=>y b6 V⟩,λ_=>⟨λ_=>?_,λ_=>⟨λ_=>⟨λe=>ab (Or.inl (by simpa using e)),λ_=>⟨λe=>ab (Or.inr (by simpa using e)),λ_=>⟨λe=>b6.pick p V o 4 λv L _ _ c _ _=>(c.put a _ _).iy a d i V ⟨λ_ h=>⟨h.MR,h.arg⟩,b⟩ _,λ_=>y b6 V⟩⟩⟩,λ_=>⟨λ_=>⟨λe=>?_,λ_=>⟨λe=>?_,λ_=>y b6 V⟩⟩,λ_=>y b6 V⟩⟩⟩⟩⟩
 .simp only[aE]at e
  exact(b6.put a _ _).iy a d i V ⟨λ_ _=>⟨sx,sx⟩,b⟩ _
 .simp only[aE]at e
  exact(b6.put a _ _).iy a d i V ⟨λ_ h=>⟨sx,λ_=>h.arg (by simp[e])⟩,b⟩ _
 .simp only[ly,au]at G
  have S:=b6.ga.len be
  refine b6.pick p V o (s.len:Int) λI m7 k0 k1 b7 Q f7=>⟨Q 4,b7.pick p V o 4 λv L _ _ c g8 f8=>⟨g8 4,k0,V,?_⟩⟩
  let⟨ac,g9,f9,q9⟩:=GI.set c.ga (((((X.trans N).fz [g]).trans f6).trans f7).trans f8) (k:=I.toNat) (by show I.toNat<j.length;have:s.len=j.length:=S;omega) v
  have yb:=c.hi
  refine⟨ac,λn b=>q9 n (by have:=o n b;simp at b;omega),BI.iy (k:=w.size) (l:=j.set I.toNat v) (e:=B) ⟨g9,GI.jx c.gj (q9 _ (kJ T)),T,⟨c.s.f.ag (Or.inr V) _ _,a.ag c.s.r c.s.f V _ _⟩,⟨V,by simpa using px b.1,px b.2⟩,V,V,V,by rw[aw];omega⟩ a d i V ⟨λ_ h=>⟨h.MR,λe=>by simpa using h.arg e⟩,by simpa using b⟩ _⟩
 .refine(xV q f).any.mono λ_ m7⟨n,e,I⟩=>⟨I.dv λn b=>P7 (o n b) b6.hi,n,e,λ_=>?_,λ_=>y (b6.to p (I.fz _) (b6.s.r.ext I)) V⟩
  exact(b6.to p (I.fz _) (b6.s.r.ext I)).pick p V o 4 λv L _ _ c _ _=>(c.put a _ _).iy a d i V ⟨λ_ h=>⟨h.MR,h.arg⟩,b⟩ _
 .simp only[aE]at e
  exact b6.pick p V o 9 λv L _ _ c _ _=>(c.put a _ _).iy a d i V ⟨λ_ h=>⟨λh=>by simp[e]at h,h.arg⟩,b⟩ _
 .simp only[aE]at e
  exact b6.pick p V o 3 λv L _ _ c _ _=>(c.put a _ _).iy a d i V ⟨λ_ h=>⟨λh=>by simp[e]at h,h.arg⟩,b⟩ _
end
section
def RA(M:E)(c:List Ce)(x:dA×O):Prop:=∃a b,c=[.s a,.s b,.i x.1.aT,.i x.1.an,.s x.2]/\aq M a x.1.params/\aq M b x.1.cO
def RA.mono:oJ 5 RA:=⟨λh⟨a,b,e,c,d⟩=>⟨a,b,e,c.le h,d.le h⟩,λ⟨_,_,e,_⟩=>by rw[e];rfl⟩
def hd(x:dA×O):dA×O:=({x.1 with da:=[]},x.2)
abbrev Ks(l:List (dA×O)):List Nat:=l.map λx=>x.2.D
structure vM(S:List Nat)(m0 M:E)(dd q:O)(ds:List bz)(l:List (dA×O)):Prop where
 d:cy (bO (q.D::(Ks l++S)) M) dd ds
 g:Gr (Ks l++S) m0 M jy 5 RA q (l.map hd)
 c:∀x∈l,Gr (q.D::(Ks l++S)) m0 M db 6 dS x.2 x.1.da
 nd:(Ks l).Nodup
 lt:∀b∈S,b<M.size
 nq:q.D∉S
 nc:∀x∈l,x.2.D∉S
section
variable{S S' Y:List Nat}{b f M e:E}{c q:O}{d:List bz}{l:List (dA×O)}
def vM.kq(h:vM S b M c q d l):∀x∈l,x.2.D≠q.D:=λx a=>(h.c x a).Lm h.g be
def vM.re(i:vM S b M c q d l)(o:Fz Y M e)(k:∀a∈Y,a∈S)(n:∀a∈S',(a∈S\/M.size<=a)/\a<e.size)(p:f.size<=b.size):vM S' f e c q d l:=by
 have t:=i.g.bh;have r:∀{a:Nat},a∈Ks l++S'->a∈Ks l++S\/M.size<=a:=λg=>by
  rcases List.mem_append.1 g with h|h
  .exact Or.inl (bL _ h)
  .exact(n _ h).1.imp (fL _) id
 have s:∀{a:Nat},a∈q.D::(Ks l++S')->a∈q.D::(Ks l++S)\/M.size<=a:=λg=>by
  rcases List.mem_cons.1 g with h|h
  .exact Or.inl (by simp[h])
  .exact(r h).imp (ai _) id
 refine⟨i.d.le (o.bO (λa g=>by simp[k a g]) λa g=>s g),Gr.cv RA.mono (i.g.re RA.mono o (λa g=>by simp[k a g]) (λj=>i.nq (k _ j)) λa g=>r g) (λa g=>Or.inl g) p,λx m=>Gr.cv dS.mono ((i.c x m).re dS.mono o (λa g=>by simp[k a g]) (λj=>i.nc x m (k _ j)) λa g=>s g) (λa g=>Or.inl g) p,i.nd,λa g=>(n a g).2,λj=>?_,λx m j=>?_⟩
 .rcases(n _ j).1 with h|h
  .exact i.nq h
  .omega
 .have:=(i.c x m).bh;rcases(n _ j).1 with h|h
  .exact i.nc x m h
  .omega
def vM.da(h:vM S b M c q d l){y:dA×O}(a:y∈l)(j:y.1.da.length<=10^12):ft (bO (q.D::S) M) y.2 y.1.da:=
 have g:Gr (q.D::S) b M db 6 dS y.2 y.1.da:=(h.c y a).re dS.mono (Fz.aA [] M) aJ aJ λi f=>Or.inl (by rcases List.mem_cons.1 f with e|e<;>simp[e])
 g.nR dS.mono (by simp;exact⟨h.kq y a,h.nc y a⟩) be V
def vM.gr(h:vM S b M c q d l)(u:∀x∈l,x.1.da.length<=10^12):Gr S b M jy 5 lB q (l.map (·.1)):=by
 let⟨v,n,z,r⟩:=h.g;refine⟨v,n,z,by simpa using r.len,r.size,λk m x t a=>?_⟩;rw[cU]at a;cases f:l[k]? with
 |none=>simp[f]at a
 |some y=>
  simp[f]at a;subst a;let⟨j,g,e,o,p⟩:=r.dx k m (hd y) t (by simp[f]);have i:=ar f;have w:Le (bO (q.D::(Ks l++S)) M) (bO (q.D::S) M):=jT M λg s=>by rcases List.mem_cons.1 s with e|e<;>simp[e]
  exact⟨j,g,y.2,e,o.le w,p.le w,h.da i (u y i)⟩
def vM.yT{L:List Nat}{j G:E}{t e ks:O}{p:dA}{h tb i:Nat}{bc:List Ce}{P:E->Prop}(n:vM S b M c q d l)(x:J M j)(Q:Gr (q.D::(Ks l++S)) G j db 6 dS ks p.da)(h8:M.size<=G.size)
 (ha:aq (bO (ks.D::q.D::(Ks l++S)) j) t p.params)(g:aq (bO (ks.D::q.D::(Ks l++S)) j) e p.cO)(Z:cx M h tb bc)(hi:i<bc.length)(ht:tb≠jy)(v:b.size<=h/\h∈S)(R:∀e∈L,e<j.size/\e≠h/\e≠q.D)(hl:l.length<=1000)(T:J b M)
 (hk:∀r k,vM S b k c r d (l++[(p,ks)])->cx k h tb (js bc i [.s r])->J b k->P k):
 af (j.push (.cells (bA [.s t,.s e,.i p.aT,.i p.an,.s ks]) jy)) h i=af j h i/\
 jN (j.push (.cells (bA [.s t,.s e,.i p.aT,.i p.an,.s ks]) jy)) jy [.s .nil,.s .nil,.i 0,.i 0,.s .nil] 88 q (.mk j.size 0 1 1) λr k=>dY L (j.push (.cells (bA [.s t,.s e,.i p.aT,.i p.an,.s ks]) jy)) k/\eC k h i 1/\(dY L k (ag k h i [.s r])/\P (ag k h i [.s r])):=by
 have z:=Z.ext x
 have U:=J.push j (.cells (bA [.s t,.s e,.i p.aT,.i p.an,.s ks]) jy)
 have yk:=Q.bh
 have yq:=n.g.bh
 have zx:=x.size
 have hq:q.D≠h:=λf=>n.nq (by rw[f];exact v.2)
 have kx:ks.D∉S:=λo=>by have:=n.lt _ o;omega
 have ck:∀y∈l,y.2.D<M.size:=λy s=>(n.c y s).bh.2
 have I:∀e∈Ks (l++[(p,ks)])++S,e∈Ks l++S\/e=ks.D:=λe g=>by
  simp only[Ks,fO,cG,fE,List.mem_append,nN]at g⊢;rcases g with(f|f)|f<;>simp[f]
 have g1:Gr (Ks (l++[(p,ks)])++S) b j jy 5 RA q (l.map hd):=n.g.re RA.mono (x.fz []) aJ aJ λe g=>(I e g).imp id λf=>V
 have Y:Le (bO (ks.D::q.D::(Ks l++S)) j) (bO (q.D::(Ks (l++[(p,ks)])++S)) j):=jT j λe g=>by
  rcases List.mem_cons.1 g with f|f
  .simp[f]
  .rcases I e f with f|f
   .exact ai _ (ai _ f)
   .simp[f]
 refine⟨aL (U.same h z.lt) i,Gr.kM (g:=[.s .nil,.s .nil,.i 0,.i 0,.s .nil]) (k:=hd (p,ks)) RA.mono be g1 ((T.trans x).fz []) ⟨t,e,rfl,ha.le Y,g.le Y⟩ bI λr k ab aa B F=>?_⟩
 have K:=z.congr (F h z.lt (kJ hq))
 have hr:r.D≠h:=by have:=z.lt;omega
 have A:∀e,e≠h->(ag k h i [.s r])[e]? =k[e]? :=λe g=>bo _ _ _ _ g
 have N:Fz [q.D,h] j (ag k h i [.s r]):=⟨by rw[aw];exact B.1,λe g w=>(A e (by simp at w;omega)).trans (F e g (by simp at w;omega))⟩
 have C:Fz [q.D,h] M (ag k h i [.s r]):=(x.fz _).trans N
 have F0:J b (ag k h i [.s r]):=(aa.ag (Or.inr v.1) _ _).ext
 have ae:=B.1
 have W:∀e∈r.D::(Ks (l++[(p,ks)])++S),(e∈q.D::(Ks l++S)\/e=ks.D)\/j.size<=e:=λe g=>by
  rcases List.mem_cons.1 g with f|f
  .rcases B.2 with u|u
   .exact Or.inl (Or.inl (by simp[f,u]))
   .exact Or.inr V
  .exact Or.inl ((I e f).imp (ai _) id)
 have X:∀e∈r.D::(Ks (l++[(p,ks)])++S),e∈q.D::(Ks l++S)\/M.size<=e:=λe g=>(W e g).elim (λf=>f.imp id λf=>V) λf=>Or.inr V
 have H:∀e∈[q.D,h],e∈q.D::(Ks l++S):=λe g=>by simp at g;rcases g with f|f<;>simp[f,v.2]
 refine⟨λe g=>?_,K.eC V,λe g=>A e (R e g).2.1,hk r _ ⟨n.d.le (C.bO H X),?_,λy s=>?_,?_,λe g=>?_,λo=>?_,λy s o=>?_⟩ (cx.ag (m:=k) K) F0⟩
 .have D:=R e g
  rw[F e V D.2.2,U.same e V]
 .rw[fO]
  let⟨g0,D,g1,g2⟩:=ab
  exact⟨g0,D,g1.congr (A _ hr),g2.mono λcs y=>RA.mono.le (pQ λe g w=>⟨w,A e λf=>w (by rw[f];simp[v.2])⟩)⟩
 .rcases List.mem_append.1 s with f|f
  .exact(n.c y f).re dS.mono C H (by simp;exact⟨n.kq y f,λu=>n.nc y f (u▸v.2)⟩) X
  .simp at f
   subst f
   let⟨ac,D,ad,rr⟩:=Q
   have w:Gr (ks.D::q.D::(Ks l++S)) G j db 6 dS ks p.da:=⟨ac,D,ad,rr.mono λcs y=>dS.mono.le (jT j λe g=>by
    rcases List.mem_cons.1 g with f|f
    .simp[f]
    .exact f)⟩
   exact Gr.cv dS.mono (w.re dS.mono N (λe g=>ai _ (H e g)) (by simp;exact⟨V,λu=>kx (u▸v.2)⟩) λe g=>(W e g).imp (λf=>f.elim (ai _) λf=>by simp[f]) id) (λe g=>Or.inl g) (oh T.size)
 .simp only[Ks,fO,cG,fE]
  refine List.nodup_append.2 ⟨n.nd,aJ,λe g u o=>?_⟩
  simp at o g
  obtain⟨w,D,s,rfl⟩:=g
  have:=ck _ s
  simp at this;omega
 .have:=n.lt e g
  have:=C.size
  omega
 .rcases B.2 with f|f
  .exact n.nq (f▸o)
  .have:=n.lt _ o;omega
 .rcases List.mem_append.1 s with f|f
  .exact n.nc y f o
  .simp at f
   subst f
   exact kx o
end
end
def wF{h:List Nat}{m:E}(R:∀c∈h,c<m.size){ae ak:O}{H:List bz}{C:List dA}(hd:cy m ae H)(ht:dU H)(hp:jA m ak C)(ai:DK C):
 aM cq 165 [.agg #[O.v ae,O.v ak]] m λN Y=>∃t q l,N=.agg #[O.v t,O.v q]/\vM h m Y t q H l/\l.map (·.1)=C/\J m Y:=by
 apply AG
 simp -zeta only[aC,aB]
 intro b a2
 let⟨x2,hl⟩:=dO (a:=b) (c:=a2) rfl rfl
 have s1:b.size=m.size+1:=by simp[b]
 clear_value a2
 have aH:=hp.len;have aG:=ai.oN
 refine(fU (b:=b.size::h) (bT R x2.size (hl _ aJ)) (hd.le x2.le) ht).mono λ_ z⟨t,e,av,x3⟩=>?_
 subst e
 refine⟨x3.dv hl,_,rfl,?_⟩
 intro j az ac
 have Z:=x2.trans x3
 let⟨x5,B0,g0,s3,s5⟩:=lj (b:=j.size::b.size::h) RA.mono (d:=z) (a:=j) (c:=az) (h:=ac) rfl rfl rfl
 clear_value ac
 have ah:∀c∈[b.size,m.size],c<z.size:=λc d=>x3.lt (hl c d)
 have i1:=ah b.size aJ
 have z2:=Z.size
 have A0:vM (j.size::b.size::h) z ac t (.mk z.size 0 0 0) H []:=⟨av.le (x5.bO λf s=>by
  simp only[Ks,fE,dX,aS]at s;rcases s with e|e|e
  .exact Or.inr (by rw[e];exact ad _)
  .exact Or.inr V
  .exact Or.inl (List.mem_cons.2 e)),g0,aJ,aJ,λf s=>by
   simp only[aS]at s;rcases s with e|e|e
   .omega
   .omega
   .have:=R f e;omega,λd=>by
   simp only[aS]at d;rcases d with e|e|e
   .simp at e;omega
   .simp at e;omega
   .have:=R _ e;simp at this;omega,aJ⟩
 refine fm (n:=C.length) V (λX g=>J z g/\∃k l,vM (j.size::b.size::h) z g t k H l/\cx g j.size eA [.s t,.s k]/\l.map (·.1)=C.take X) ⟨x5,_,[],A0,B0,rfl⟩ ?_
 rintro X g aE μ hk ⟨xM,o,l,A,B,T⟩ aD
 have zM:=xM.size
 refine dit (λx=>?_) λx=>?_
 .let⟨q,hq⟩:=cK C X
  have W:=ai.dx q (ar hq)
  have q3:=W.params;have q4:=W.cO;have qf:=W.oN
  have v6:=Z.trans xM
  let⟨aF,f,c,c1,c2,c3,e0,e1,e2,e3,e4⟩:=hp.aG hq
  have G:∀{N:Value}{f y:Nat},af m f y=some N->af g f y=some N:=λx=>v6.af x
  refine⟨V,V,_,G e0,_,G e1,_,G e2,_,G e3,_,G e4,?_⟩
  intro m7 k
  obtain⟨Q,-,s8⟩:=kK (M:=g) (d:=m7) (c:=k) rfl rfl rfl
  clear_value k
  have U:∀c∈[g.size,b.size,m.size],c<k.size:=λc d=>by
   rcases List.mem_cons.1 d with e|e
   .omega
   .have:=ah c e;omega
  have w8:=v6.trans Q
  have hT:∀{w:E},g.size<=w.size->∀c∈o.D::(Ks l++(j.size::b.size::h)),c<w.size:=λx c d=>by
   rcases List.mem_cons.1 d with e|e
   .have:=A.g.bh;omega
   .rcases List.mem_append.1 e with e|e
    .obtain⟨u,r,rfl⟩:=List.mem_map.1 e;have:=(A.c u r).bh;omega
    .have:=A.lt c e;omega
  intro m9
  have x9:J k m9:=J.push _ _
  have ap:Gr (o.D::(Ks l++(j.size::b.size::h))) k m9 db 6 dS (.mk k.size 0 0 0) []:=Gr.new _ (ad _) _ _ _
  clear_value m9
  have au:=c3.len
  refine dV (n:=q.da.length) (au▸c3.iB) (λab ks u=>J k u/\Gr (o.D::(Ks l++(j.size::b.size::h))) k u db 6 dS ks (q.da.take ab)) ⟨x9,ap⟩ ?_
  rintro ab ks u I2 μ2 hj ⟨r,I⟩ aA
  have X2:=w8.trans r
  have z2:=r.size
  have ay:∀c∈[g.size,b.size,m.size],c<u.size:=λc d=>r.lt (U c d)
  refine dit (λh2=>?_) λh2=>?_
  .let⟨K,D⟩:=cK q.da ab
   let⟨pa,pj,ha,ax,P,ag,aj,am,an,ao⟩:=(ft.ext X2 c3).aG D
   have yk:=I.bh
   refine⟨V,V,_,P,_,ag,_,aj,_,am,_,an,_,ao,?_⟩
   refine(wH (S:=ks.D::o.D::(Ks l++(j.size::b.size::h))) (λc d=>?_) ha ax (W.kV K (ar D))).mono λN aI⟨a',j',e,aa,aw,v⟩=>⟨λc d=>v.same c (ay c d),_,_,_,_,_,_,e,?_⟩
   .rcases List.mem_cons.1 d with e|e
    .omega
    .exact hT V c e
   intro aK
   refine Gr.kM (g:=[.i 0,.i 0,.i 0,.i 0,.s .nil,.s .nil]) (k:=K) dS.mono be (I.ext dS.mono v) ((r.trans v).fz []) ⟨a',j',rfl,aa,aw⟩ bI λal M3 g3 F z3 aN=>⟨J.oT ((r.trans v).aH _) F.ext U,aA V _ _ ⟨F.ext,?_⟩⟩
   rw[bd D];exact g3
  .rw[cJ V]at I
   have v:∀{M1 u:E},J k M1->J M1 u->∀f,f<k.size->∀y,af u f y=af M1 f y:=λx h' f s y=>aL (h'.same f (x.lt s)) y
   have K:g.size<k.size:=V
   have i2:j.size<k.size:=aO B.lt Q.size
   refine⟨o,(B.ext (Q.trans r)).bV 1,?_⟩
   refine(bR [] (c1.ext X2) V).aK r U λa' _ ao ga e F D=>⟨_,rfl,v r F _ K _,v r F _ K _,v r F _ K _,v r F _ i2 _,?_⟩
   subst e
   refine(bR [] (c2.ext (w8.trans D)) V).aK D U λb' _ aj gb e P am=>⟨_,rfl,v D P _ K _,v D P _ K _,v D P _ i2 _,?_⟩
   subst e
   intro aw
   have ax:=D.size
   have aI:=am.size
   have yk:=I.bh
   have ag:∀{w:E},u.size<=w.size->∀c∈ks.D::o.D::(Ks l++(j.size::b.size::h)),c<w.size:=λx c d=>by
    rcases List.mem_cons.1 d with e|e
    .omega
    .exact hT V c e
   have aa:aq (bO (ks.D::o.D::(Ks l++(j.size::b.size::h))) aj) a' q.params:=(GI.done (GI.any ga) (ag (ad _)) V).le (P.dg _)
   have an:aq (bO (ks.D::o.D::(Ks l++(j.size::b.size::h))) aj) b' q.cO:=GI.done (GI.any gb) (ag F.size) V
   have ll:l.length=X:=by have:=qu List.length T;simp at this;omega
   have yq:=A.g.bh
   exact A.yT (i:=1) (bc:=[.s t,.s o]) (tb:=eA) (p:=⟨q.params,q.cO,q.aT,q.an,q.da⟩) (L:=[g.size,b.size,m.size]) (Q.trans am) (I.ext dS.mono (F.trans P)) V aa an B aJ be ⟨V,aJ⟩ (λc d=>by
    have hn:=A.nq;simp only[aS,ui]at d hn;have:=Q.size;have:=B.lt;rcases d with e|e|e|e
    .omega
    .omega
    .omega
    .simp at e) V xM λal Y A' B' x'=>aD V Y ⟨x',al,_,A',B',by rw[bd hq,fO,T];rfl⟩
 .refine⟨t,B.bV 0,o,B.bV 1,?_⟩
  intro w
  rw[cJ V]at T
  have k:Fz [b.size] g w:=(Fz.aA _ g).ag (Or.inl aJ) _ _
  exact⟨t,o,l,rfl,A.re k aJ (λf s=>⟨Or.inl (by simp[s]),P7 (R f s) k.size⟩) Z.size,T,(Z.trans xM).ag V _ _⟩
section
variable{cs:List Ce}{p:dA}{y:Instr}
def Qj{α:Type}{l:List α}{f:Nat}{x:α}(h:l[f]? =some x):l.set f x=l:=by
 apply iL;intro i;rw[jF];split
 .next e=>
  subst e;rw[h];split
  .rfl
  .next hi=>exact absurd (az h) hi
 .rfl
section
variable{S L B X:List Nat}{c m M:E}{a q d:O}{b:List bz}{l:List (dA×O)}{e Q f k:Nat}{x:dA×O}
def BS.psh(h:BS B e d m Q M)(o:Obj):BS (M.size::B) e d m Q (M.push o):=⟨h.s.ext (J.push M o),λc b=>by
 have z:=h.s.f.size;rw[Array.size_push];rcases List.mem_cons.1 b with a|a
 .omega
 .have:=h.gJ c a;omega⟩
def vM.oN(h:DK (l.map (·.1)))(a:x∈l):Tz x.1:=h.dx x.1 (List.mem_map.2 ⟨x,a,rfl⟩)
def vM.len(h:vM S c M a q b l):q.len=l.length:=by have:=h.g.len be;simpa using this
def vM.iF(n:vM S c M a q b l)(z:l.length<=1000)(k:l[f]? =some x):∃e d:O,af M q.D (q.off+f*5)=some (O.v e)/\af M q.D (q.off+f*5+1)=some (O.v d)/\af M q.D (q.off+f*5+2)=some (vi x.1.aT)/\af M q.D (q.off+f*5+3)=some (vi x.1.an)/\af M q.D (q.off+f*5+4)=some (O.v x.2)/\aq (bO (q.D::S) M) e x.1.params/\aq (bO (q.D::S) M) d x.1.cO:=by
 let⟨A,m,v,r⟩:=n.g;have y:=az k;have t:f<m.length:=by have:=r.len;simp at this;omega
 let⟨cs,j⟩:=dZ t;let⟨e,d,h,o,p⟩:=r.dx f cs (hd x) j (by simp[k]);have iF:=v.iF;have w:Le (bO (q.D::(Ks l++S)) M) (bO (q.D::S) M):=jT M λd s=>by rcases List.mem_cons.1 s with h|h<;>simp[h]
 have aG:∀i g,cs[i]? =some g->af M q.D (q.off+f*5+i)=some g.v:=λi g u=>by
  have:=iF (f*5+i) g (fV r.size j u);rwa[<-dk]at this
 subst h;exact⟨e,d,aG 0 _ rfl,aG 1 _ rfl,aG 2 _ rfl,aG 3 _ rfl,aG 4 _ rfl,o.le w,p.le w⟩
def vM.it(h:vM S c M a q b l)(g:l.length<=1000)(e:∀x∈l,x.1.da.length<=10^12):IT (bO S M) a q (b,l.map (·.1)):=
 ⟨h.d.le (jT M λf d=>by simp[d]),(h.gr e).nR lB.mono h.nq be (by simp only[dW];omega)⟩
def vM.aae(h:vM S c M a q b l)(i:Fz X c M)(o:l.length<=1000)(f:∀x∈l,x.1.da.length<=10^12)(j:k<l.length)(m:lB (bO (q.D::S) M) cs p):
 eC M q.D (q.off+k*5) 5/\∃n,IT (bO S (ag M q.D (q.off+k*5) cs)) a q (b,n):=by
 obtain⟨w,g,-,-⟩:=(h.gr f).set lB.mono i (k:=k) (by simpa using j) m
 have F:Fz [q.D] M (ag M q.D (q.off+k*5) cs):=(Fz.aA _ M).ag (Or.inl aJ) _ _
 exact⟨w,_,h.d.le (F.bO (λe d=>by simp at d;simp[d]) λe d=>Or.inl (by simp[d])),g.nR lB.mono h.nq be bI⟩
def vM.wr(h:vM S c M a q b l)(v:Fz X c M)(j:l[f]? =some x)(A:k<x.1.da.length)(B:dS (bO (q.D::(Ks l++S)) M) cs y):
 eC M x.2.D (x.2.off+k*6) 6/\vM S c (ag M x.2.D (x.2.off+k*6) cs) a q b (l.set f ({x.1 with da:=x.1.da.set k y},x.2)):=by
 have n:=ar j
 have t:x.2.D∈Ks l:=List.mem_map.2 ⟨x,n,rfl⟩
 have C:∀d∈x.2.D::q.D::(Ks l++S),d∈q.D::(Ks l++S):=λd g=>by
  rcases List.mem_cons.1 g with e|e
  .rw[e];exact ai _ (bL _ t)
  .exact e
 obtain⟨D,u,-,E⟩:=(h.c x n).set dS.mono v A (dS.le (jT M C) B)
 have F:Fz [x.2.D] M (ag M x.2.D (x.2.off+k*6) cs):=(Fz.aA _ M).ag (Or.inl aJ) _ _
 have p:∀d∈[x.2.D],d∈Ks l++S:=λd g=>by simp at g;rw[g];exact bL _ t
 have o:Ks (l.set f ({x.1 with da:=x.1.da.set k y},x.2))=Ks l:=by
  simp only[Ks,ug];exact Qj (by simp[j])
 have w:(l.set f ({x.1 with da:=x.1.da.set k y},x.2)).map hd=l.map hd:=by
  rw[ug];exact Qj (by simp[j,hd])
 have r:∀z∈l.set f ({x.1 with da:=x.1.da.set k y},x.2),z=({x.1 with da:=x.1.da.set k y},x.2)\/z∈l/\z.2.D≠x.2.D:=λz m=>by
  let⟨G,i⟩:=List.mem_iff_getElem?.1 m;rw[jF]at i;split at i
  .split at i
   .exact Or.inl (by simpa using i.symm)
   .simp at i
  .next hne=>
   refine Or.inr ⟨ar i,λe=>hne ?_⟩;have s:f<(Ks l).length:=by simpa[Ks]using az j
   exact(List.getElem?_inj s h.nd).1 (by simp[Ks,j,i,e])
 refine⟨D,?_,?_,λz m=>?_,by rw[o];exact h.nd,λd g=>by rw[aw];exact h.lt d g,h.nq,λz m=>?_⟩
 .rw[o];exact h.d.le (F.dg λd g=>ai _ (p d g))
 .rw[o,w];exact h.g.NE RA.mono F p (by simp;exactλe=>h.kq x n e.symm)
 .rw[o]
  rcases r z m with e|⟨e,s⟩
  .rw[e];exact u
  .exact(h.c z e).NE dS.mono F (λd g=>ai _ (p d g)) (by simpa using s)
 .rcases r z m with e|⟨e,s⟩
  .rw[e];exact h.nc x n
  .exact h.nc z e
end
def Va{c:List dA}(h:DK c){f k:Nat}{x:Instr}(g:c[f]? =some p)(i:p.da[k]? =some x)(d:Tl x y):DK (c.set f {p with da:=p.da.set k y}):=by
 have b:=h.dx p (ar g);refine⟨by simpa using h.iY,by simpa using h.oN,λq j=>?_⟩;rcases dp j with e|e
 .exact h.dx q e
 .subst e;refine⟨b.params,b.cO,by simpa using b.iY,by simpa using b.oN,λl z a=>?_,λz a=>?_⟩
  .simp only[jF]at a;split at a
   .next e=>
    subst e;split at a
    .simp at a;subst a;exact d.1 _ (b.da _ _ i)
    .simp at a
   .exact b.da _ _ a
  .rcases dp a with e|e
   .exact b.kV z e
   .rw[e];exact d.2
section
variable{a:List Nat}{m:E}{b P:Nat}{c:O}
def Ic(hS:∀k∈a,k<m.size)(ac:b∈a)(I:Rd b c P m)(hP:P+100<=10^16){ab p:O}{s:List bz×List dA}(ag:IT (bO a m) ab p s)(R:UI s):aM cq 91 [vp b 0,.agg #[O.v ab,O.v p]] m (PP IT UI a b c m (P+11)):=by
 apply Ay (b,0);simp -zeta only[aC,aB];have z:=I.lt;intro i Z;have b2:BS [i.size,m.size] b c m P Z:=BS.psh (BS.kY (S:=a) I _).1 _;have T:J m Z:=(J.push m _).trans (J.push i _);clear_value Z;refine(wF (b2.hS hS) ((ag.1.le (bF _ _)).ext T) (tr R.2) (eR.mono (jA.le (bF _ _) ag.2) T λ_ _=>lB.le T.le) R.1).mono λ_ j⟨w,q,l,e,A,hl,x3⟩=>⟨(b2.lw z λ_ h=>h).dv (x3.fz _),w,q,e,?_⟩;have b3:=b2.to (x3.fz _) (b2.s.r.ext x3);intro m4 K;obtain⟨b5,-,-⟩:=b3.box (S:=a) (m1:=m4) (m2:=K) rfl rfl rfl;obtain⟨x5,-,-⟩:=kK (M:=j) (d:=m4) (c:=K) rfl rfl rfl;clear_value K;have A5:vM ([j.size,i.size,m.size]++a) m K w q s.1 l:=A.re (x5.fz []) aJ (λd f=>⟨by
  rcases List.mem_cons.1 f with e|e
  .exact Or.inr V
  .exact Or.inl e,b5.hS hS d f⟩) T.size
 refine b5.pick z V (λ_ h=>h) 2 λam m6 i0 i1 b6 f6=>?_;have hB:∀d∈[b],d∈[j.size,i.size,m.size]++a:=by simp[ac]
 have Q:∀{u M':E}{l:List (dA×O)},vM ([j.size,i.size,m.size]++a) m u w q s.1 l->Fz [b] u M'->vM ([j.size,i.size,m.size]++a) m M' w q s.1 l:=λh G=>h.re G hB (λd f=>⟨Or.inl f,aO (h.lt d f) G.size⟩) (ad _);refine⟨λN u=>∃n:Nat,N=n/\n<=2/\BS [j.size,i.size,m.size] b c m (P+11 -5*n) u/\∃l,vM ([j.size,i.size,m.size]++a) m u w q s.1 l/\DK (l.map (·.1)),λN _=>N.toNat,⟨(am+1).toNat,by rw[aP V V];omega,V,⟨⟨b6.s.f,b6.s.r.mono V⟩,b6.gJ⟩,l,Q A5 f6,hl▸R.1⟩,?_⟩;rintro N u ⟨n,rfl,hk,d,l,A,r⟩;refine⟨λh=>?_,λ_=>d.iy IT.mn I aJ (x:=(s.1,l.map (·.1))) (A.it (by have:=r.oN;simp at this;omega) λy g=>(vM.oN r g).oN) ⟨r,R.2⟩ V _⟩;simp only[ly,au]at h;have ay:=A.len;have l4:l.length<=4:=by simpa using r.oN
 have l0:0<l.length:=by simpa using r.iY
 refine d.pick z V (λ_ h=>h) (q.len:Int) λG m7 X f1 b7 f7=>?_;have U:=Q A f7;let⟨y,g⟩:=cK l G.toNat;obtain⟨-,-,-,-,-,-,g7,-,-⟩:=U.iF V g;have C:=vM.oN r (ar g);have av:=(U.da (ar g) C.oN).len;have aq:=C.iY;refine⟨X,V,y.2,g7,b7.pick z V (λ_ h=>h) (y.2.len:Int) λan L j0 j1 W f8=>?_⟩;have t:=Q U f8;obtain⟨-,-,-,-,-,-,g8,-,-⟩:=t.iF V g;let⟨ao,B⟩:=cK y.1.da an.toNat;let⟨ap,jj,ha,hj,e0,e1,e2,e3,e4,e5⟩:=(t.da (ar g) C.oN).aG B;have gJ:∀{d o:Nat}{ah:Value},af (bO (q.D::([j.size,i.size,m.size]++a)) L) d o=some ah->af L d o=some ah:=λh=>(eF.1 h).2;refine⟨X,V,y.2,g8,X,V,y.2,g8,j0,V,_,gJ e0,_,gJ e1,_,gJ e2,_,gJ e3,_,gJ e4,_,gJ e5,?_⟩;have hZ:∀k∈q.D::(Ks l++([j.size,i.size,m.size]++a)),k<L.size:=λk Y=>by
  rcases List.mem_cons.1 Y with e|e
  .rw[e];exact t.g.bh.2
  .rcases List.mem_append.1 e with e|e
   .obtain⟨aa,v,rfl⟩:=List.mem_map.1 e;exact(t.c aa v).bh.2
   .exact t.lt k e
 refine(Ib hZ W.s.r V (ha.le (jT _ (by simp[ac]))) (hj.le (bF _ _)) (C.kV ao (ar B)) ⟨_,C.da _ _ B⟩).mono λ_ m9⟨D,a',j',e,ak,al,f,r9,H⟩=>⟨(W.lw z λ_ h=>h).dv H,_,_,_,_,_,_,e,?_⟩;have F:=Q t H;have v:=W.to H r9;let⟨aa,aj⟩:=F.wr v.s.f g (az B) (cs:=[.i D.op,.i D.dst,.i D.bQ,.i D.bM,.s a',.s j']) (y:=D) ⟨a',j',rfl,ak,al⟩;have yc:=(F.c y (ar g)).bh;have ae:∀o d,d∈q.D::([j.size,i.size,m.size]++a)->d≠b->af m9 d o=af L d o:=λo d f hn=>aL (H.same d (hZ d ((List.mem_cons.1 f).elim (λe=>by simp[e]) λe=>ai _ (fL _ e))) (by simpa using hn)) o;have yq:=F.g.bh;have ax:=v.gJ j.size aJ;refine⟨ae _ _ aJ V,ae _ _ aJ V,j0,V,aa,λd f=>bo _ _ _ _ λe=>(F.nc y (ar g)) (by rw[<-e];exact bL _ f),⟨n -1,?_,V,⟨⟨v.s.f.ag (Or.inr V) _ _,(I.ag v.s.r v.s.f V _ _).mono V⟩,λk Y=>by rw[aw];exact v.gJ k Y⟩,_,aj,?_⟩,?_⟩
 .rw[aP V V];omega
 .rw[ug];exact Va r (by simp[g]) B f
 .rw[aP V V];show((n:Int) -1).toNat<(n:Int).toNat;omega
end
end
section
variable{m:E}{b:Nat}{a j:O}
def BI.kY{L:List Nat}{g M:E}{k Q:Nat}{i:O}{p q:List Int}(h:BI g k b i m Q M a j p q)(o:b<m.size)(u:Q<=10^16)(s:∀e∈L,m.size<=e/\e<=k)(d:List Int){f:List Ce}{n:Nat}(w:f=d.map Ce.i)(A:n=d.length)(z:0<d.length/\d.length<=100){K:Int->E->Prop}
 (y:∀t c,BI g k b i m (Q+1) c a j p q->K t c):aM cq 39 [vp b 0,O.v (.mk M.size 0 n n)] (M.push (.cells (bA f) aD)) λC c=>dY L (M.push (.cells (bA f) aD)) c/\∃t:Int,C=vi t/\K t c:=
 have:=h.hi
 have x:=J.push M (.cells (bA f) aD)
 have D:=x.size
 (Dt h.s u d w A z).mono λ_ c⟨t,r,_,B,l⟩=>⟨l.dv λe v=>by have:=s e v;simp only[nN];omega,t,r,y t c ((h.to o (x.fz _) (h.s.r.ext x)).to o l B.r)⟩
def GU{Z:List Nat}{P:Nat}{s:O}{x:Instr}(o:∀c∈Z,c<m.size)(c:Rd b s P m)(hP:P+20<=10^16)(U:aq m a x.args)(W:aq m j x.eG)(p:x.args.length<=10^12/\x.eG.length<=10^12):
 aM cq 168 [vp b 0,We x a j] m (IX Z b s m (P+4) λ_=>True):=by
 apply zl (b,0)
 simp(config:={maxSteps:=1000000}) -zeta only[aC,aB]
 have q:=c.lt
 intro v h
 let⟨H,C⟩:=dO (a:=v) (c:=h) rfl rfl
 have i:v.size=m.size+1:=by simp[v]
 have s2:h.size=m.size+2:=by simp[h,i]
 clear_value h
 clear_value v
 refine(wG [] (U.ext H) (W.ext H) p).mono λ_ r⟨K,N,l,L,E,X,S⟩=>⟨S.dv C,_,_,_,_,_,_,l,?_⟩
 intro Y F
 obtain⟨I,-,z5⟩:=kK (M:=r) (d:=Y) (c:=F) rfl rfl rfl
 clear_value F
 have ya:=L.bh;have yj:=E.bh
 have J:=(H.trans S).trans I
 have b5:BI h r.size b s m P F K N x.args x.eG:=⟨L.ext I,E.ext I,X,⟨J.fz _,c.ext J⟩,⟨V,px p.1,px p.2⟩,V,V,V,V⟩
 have u:∀B∈[r.size,v.size,m.size],m.size<=B/\B<=r.size:=bI
 refine b5.pick q V u 6 λac y _ _ b6 _ f6=>?_
 have y6:=b6.hi
 have R:∀{w:O}{Q:List Int},GI [] h y w Q->Q.length<=10^12->aM cq 93 [vp b 0,O.v w] y λA f=>dY [r.size,v.size,m.size] y f/\∃e,A=O.v e/\∃g,GI [] y f e g/\g.length<=1000000000001/\Rd b s (P+4) f/\Fz [b] y f:=λn C=>
  (wT b6.s.r V (aq.le (bF _ _) (n.done aJ C)) C).mono λ_ f⟨e,g,l,T,D,_,z,t⟩=>⟨t.dv λB p=>by have:=u B p;simp only[nN];omega,e,l,g,T,V,z,t⟩
 refine⟨λ_=>b6.pick q V u 26 λA G _ _ d _ _=>(d.put c _ _).iy c o i V trivial _,λ_=>⟨λ_=>b6.kY q V u [0,1,-1,99] rfl rfl aJ λA G d=>(d.put c _ _).iy c o i V trivial _,λ_=>⟨λ_=>b6.kY q V u [0,1,5,-1,1000,2000] rfl rfl aJ λA G d=>(d.put c _ _).iy c o i V trivial _,λ_=>⟨λ_=>b6.kY q V u [0,1,-1,99] rfl rfl aJ λA G d=>(d.put c _ _).iy c o i V trivial _,λ_=>⟨λ_=>?_,λ_=>⟨λ_=>?_,λ_=>b6.iy c o i V trivial _⟩⟩⟩⟩⟩⟩
 .refine(R b6.ga p.1).mono λ_ f⟨w,e,l,g,n,D,z,t⟩=>⟨w,e,l,?_⟩
  have aa:=n.bh
  have ab:=b6.s.f.size
  have k:=b6.to q t z
  have d:BI h r.size b s m (P+4) f e N g x.eG:=⟨n.cv aJ V,k.gj,oh E.bh,k.s,⟨V,D,b6.lo.2.2⟩,V,V,k.hi.2.2⟩
  exact(d.put c _ _).iy c o i V trivial _
 .refine(R b6.gj p.2).mono λ_ f⟨w,e,l,g,n,D,z,t⟩=>⟨w,e,l,?_⟩
  have aa:=n.bh
  have ab:=b6.s.f.size
  have k:=b6.to q t z
  have d:BI h r.size b s m (P+4) f K e x.args g:=⟨k.ga,n.cv aJ V,V,k.s,⟨V,b6.lo.2.1,D⟩,V,V,k.hi.2.2⟩
  exact(d.put c _ _).iy c o i V trivial _
end
section
def AD(S:List Nat)(b:Nat)(c:O)(m:E)(P:Nat)(v:Value)(a:E):Prop:=∃s d,v=O.v s/\cy (bO S a) s d/\Rd b c P a/\Fz [b] m a
structure DD(S:List Nat)(rb:Nat)(bs:O)(m:E)(Q:Nat)(M:E)(s:O)(ds:List bz):Prop where
 g:ZC S m M s ds
 r:Rs rb bs m Q M
 l:0<ds.length/\ds.length<=100
section
variable{a:List Nat}{b P Q h g:Nat}{c s:O}{m M f:E}{e:List bz}
def DD.to(d:DD a b c m Q M s e)(i:b∈a/\b<m.size)(g:Fz [b] M f)(r:Rs b c m h f):DD a b c m h f s e:=⟨d.g.dP iI.mono g (by simp;exact i),r,d.l⟩
def DD.ext(h:DD a b c m Q M s e)(x:J M f):DD a b c m Q f s e:=⟨h.g.ext iI.mono x,h.r.ext x,h.l⟩
def DD.gJ(h:DD a b c m Q M s e)(g:∀d∈a,d<m.size):∀d∈s.D::a,d<M.size:=λd i=>(List.mem_cons.1 i).elim (λf=>f▸h.g.bh.2) λf=>aO (g d f) h.r.f.size
def DD.lit(h:DD a b c m Q M s e)(f:∀d∈a,d<m.size)(l:List Int){cs:List Ce}{n:Nat}(d:cs=l.map Ce.i)(g:n=l.length)(i:l.length<=100):aq (bO (s.D::a) (M.push (.cells (bA cs) aD))) (.mk M.size 0 n n) l:=aq.lit aD l (h.gJ f) d g V
def DD.iy(h:DD a b c m Q M s e)(f:∀d∈a,d<m.size)(d:Q<=g):AD a b c m g (O.v s) M:=⟨s,e,rfl,h.g.done iI.mono f be (oh h.l),h.r.r.mono d,h.r.f⟩
def DD.set(h:DD a b c m Q M s e)(o:∀f∈a,f<m.size)(i:Rd b c P m)(n:Q<=g){k:Int}(p:0<=k/\k<(e.length:Int)){cs:List Ce}{d:bz}(hd:iI (bO (s.D::a) M) cs d):
 0<=k/\k<(s.len:Int)/\eC M s.D (s.off+k.toNat*3) 3/\AD a b c m g (O.v s) (ag M s.D (s.off+k.toNat*3) cs):=by
 have q:=h.g.len be
 have y:=h.g.bh
 let⟨w,l,f,j⟩:=h.g.set iI.mono h.r.f (k:=k.toNat) V hd
 exact⟨p.1,V,w,s,_,rfl,l.done iI.mono o be (by have:=h.l;simp;omega),(i.OG h.r.r f (j b (oh i.lt))).mono n,f⟩
def DD.jU(h:DD a b c m Q M s e)(i:∀d∈a,d<m.size)(k:Rd b c P m)(q:Q<=g){d:List Ce}{n:Nat}(l:List (bz×List Ce))(hd:∀x∈l,iI (bO (s.D::a) M) x.2 x.1)(t:d=l.flatMap (·.2))(u:n=l.length)(v:l.length<=100):
 jN (M.push (.cells (bA d) j7)) j7 [.i 0,.i 0,.s .nil] 40 s (.mk M.size 0 n n) λr f=>AD a b c m g (O.v r) f:=by
 have x:=J.push M (.cells (bA d) j7)
 have z:=h.g.bh
 have H:=(BT iI.mono (h.gJ i) j7 l hd t u).done iI.mono (h.gJ i) be bI
 have w:=h.l
 refine Gr.all (g:=[.i 0,.i 0,.s .nil]) iI.mono be (h.ext x).g (h.ext x).r.f H bI λr y p j A o=>⟨r,_,rfl,p.done iI.mono i be bI,(k.OG (h.ext x).r.r j (o b (h.ext x).r.r.lt (oh k.lt))).mono q,j⟩
def JJ(g:∀z∈a,z<m.size)(O:b∈a)(v:Rd b c P m)(hP:P+100<=10^16):aM cq 167 [vp b 0] m (AD a b c m (P+6)):=by
 apply Cr (b,0);have hr:=v.lt;have w:b∈a/\b<m.size:=⟨O,hr⟩;refine(wJ g O v V).mono λ_ m1⟨s,e,h,g1,ad,d1,f1⟩=>⟨s,h,?_⟩;have R:DD a b c m (P+1) m1 s e:=⟨g1,⟨f1,d1⟩,oh (pM e ad)⟩;have sl:s.len=e.length:=g1.len be;have dl:=R.l;refine(cC d1 V (s.len:Int)).mono λ_ m2⟨D,h,k0,k1,d2,f2⟩=>⟨D,h,?_⟩;have Z:=R.to w f2 (R.r.to f2 d2);have N:0<=D/\D<(e.length:Int):=V;refine(cC d2 V 14).mono λ_ F⟨ae,h,_,_,d3,f3⟩=>⟨ae,h,?_⟩;have k:=Z.to w f3 (Z.r.to f3 d3);have Q:∀{M:E},UY M .nil []:=⟨rfl,eO _,aJ,aJ⟩;have x:∀{M f:E},J M f->Le (bO (s.D::a) M) (bO (s.D::a) f):=λX=>X.dg _;refine⟨λ_=>?_,λ_=>⟨λ_=>?_,λ_=>⟨λ_=>?_,λ_=>⟨λ_=>?_,λ_=>⟨λ_=>?_,λ_=>⟨λ_=>k.jU g v V [(⟨0,0,[]⟩,[.i 0,.i 0,.s .nil]),(⟨3,0,[]⟩,[.i 3,.i 0,.s .nil])] (by simp;exact⟨⟨.nil,rfl,Q⟩,⟨.nil,rfl,Q⟩⟩) rfl rfl aJ,λ_=>k.iy g V⟩⟩⟩⟩⟩⟩
 .refine(Dt k.r V [-1,5,0,2] rfl rfl aJ).mono λ_ o⟨t,h,_,G,u⟩=>⟨t,h,?_⟩;have r:=(k.ext (J.push F _)).to w u G;refine(Dt G V [0,1,5] rfl rfl aJ).mono λ_ l⟨q,h,_,A,y⟩=>⟨q,h,?_⟩;have p:=(r.ext (J.push o _)).to w y A;exact p.set g v V N (d:=⟨t,q,[]⟩) ⟨.nil,rfl,Q⟩
 .refine(Dt k.r V [-1,0,4,5] rfl rfl aJ).mono λ_ o⟨t,h,_,G,u⟩=>⟨t,h,?_⟩;have r:=(k.ext (J.push F _)).to w u G;have L:=r.lit g [t] (cs:=[.i t]) (n:=1) rfl rfl aJ;refine Dj _ λl y=>?_;have p:=(r.ext (J.push o _)).ext y;have a2:=p.lit g [0,0,0,0] (cs:=[.i 0,.i 0,.i 0,.i 0]) (n:=4) rfl rfl aJ;refine Dj _ λq B=>?_;have H:=(p.ext (J.push l _)).ext B;have a3:=H.lit g [] (cs:=[]) (n:=0) rfl rfl aJ;refine Dj _ λA C=>?_;have I:=(H.ext (J.push q _)).ext C;have K:=(J.push q (.cells (bA []) aD)).trans C;have U:=((J.push l (.cells (bA [.i 0,.i 0,.i 0,.i 0]) aD)).trans B);have z:=xl (I.gJ g) pv [([t],.mk o.size 0 1 1),([0,0,0,0],.mk l.size 0 4 4),([],.mk q.size 0 0 0)] aJ (by
   simp only[aS,j8,BJ,forall_eq_or_imp,forall_eq];exact⟨L.le (x ((y.trans U).trans K)),a2.le (x (B.trans K)),a3.le (x C)⟩) (c:=[.s (.mk o.size 0 1 1),.s (.mk l.size 0 4 4),.s (.mk q.size 0 0 0)]) (b:=3) rfl rfl
  exact(I.ext (J.push A _)).set g v V N (d:=⟨0,0,_⟩) ⟨_,rfl,z⟩
 .have L:=k.lit g [cR (D+1)] (cs:=[.i (cR (D+1))]) (n:=1) rfl rfl aJ;refine Dj _ λl y=>?_;have p:=(k.ext (J.push F _)).ext y;have z:=xl (p.gJ g) pv [([cR (D+1)],.mk F.size 0 1 1)] aJ (by
   simp only[aS,j8,BJ,forall_eq];exact L.le (x y)) (c:=[.s (.mk F.size 0 1 1)]) (b:=1) rfl rfl
  exact(p.ext (J.push l _)).set g v V N (d:=⟨0,0,_⟩) ⟨_,rfl,z⟩
 .refine(Dt k.r V [0,2,1] rfl rfl aJ).mono λ_ o⟨t,h,_,G,u⟩=>⟨t,h,?_⟩;have r:=(k.ext (J.push F _)).to w u G;exact r.jU g v V [(⟨2,t,[]⟩,[.i 2,.i t,.s .nil])] (by simp;exact⟨.nil,rfl,Q⟩) rfl rfl aJ
 .refine(cC k.r.r V 2).mono λ_ o⟨t,h,_,_,d4,u⟩=>⟨t,h,?_⟩;have r:=k.to w u (k.r.to u d4);have L:=r.lit g [] (cs:=[]) (n:=0) rfl rfl aJ;refine Dj _ λl y=>?_;have p:=(r.ext (J.push o _)).ext y;have a2:=p.lit g [2] (cs:=[.i 2]) (n:=1) rfl rfl aJ;refine Dj _ λq B=>?_;have H:=(p.ext (J.push l _)).ext B;have a3:=H.lit g [] (cs:=[]) (n:=0) rfl rfl aJ;refine Dj _ λA C=>?_;have I:=(H.ext (J.push q _)).ext C;have a4:=I.lit g [] (cs:=[]) (n:=0) rfl rfl aJ;refine Dj _ λm8 Y=>?_;have D8:=(I.ext (J.push A _)).ext Y;have W:=(J.push A (.cells (bA []) aD)).trans Y;have K:=(J.push q (.cells (bA []) aD)).trans C;have U:=((J.push l (.cells (bA [.i 2]) aD)).trans B);have z:=xl (D8.gJ g) pv [([],.mk o.size 0 0 0),([2],.mk l.size 0 1 1),([],.mk q.size 0 0 0),([],.mk A.size 0 0 0)] aJ (by
   simp only[aS,j8,BJ,forall_eq_or_imp,forall_eq];exact⟨L.le (x (((y.trans U).trans K).trans W)),a2.le (x ((B.trans K).trans W)),a3.le (x (C.trans W)),a4.le (x Y)⟩) (c:=[.s (.mk o.size 0 0 0),.s (.mk l.size 0 1 1),.s (.mk q.size 0 0 0),.s (.mk A.size 0 0 0)]) (b:=4) rfl rfl
  have T:=D8.ext (J.push m8 (.cells (bA [.s (.mk o.size 0 0 0),.s (.mk l.size 0 1 1),.s (.mk q.size 0 0 0),.s (.mk A.size 0 0 0)]) pv));refine(cC T.r.r V 3).mono λ_ af⟨aa,h,j0,j1,ac,G⟩=>⟨aa,h,j0,bI,aJ,?_⟩;have c':=(eR.le z (G.dg (S:=s.D::a) (by simp[O])) λab X=>mT.le (G.dg (by simp[O])) ab X).KM (i:=aa.toNat) (j:=4) V aJ;exact(T.to w G (T.r.to G ac)).set g v V N (d:=⟨t,0,_⟩) ⟨_,rfl,c'⟩
end
end
section
def Tr{α:Type}(_:α):Prop:=True
section
variable{a:List Nat}{m:E}{b P:Nat}{c:O}
def uX(hS:∀w∈a,w<m.size)(aa:b∈a)(Z:Rd b c P m)(hP:P+200<=10^16){an ao:O}{x:List bz×List dA}(u:IT (bO a m) an ao x)(ap:UI x)(aA:Int):aM cq 92 [vp b 0,.agg #[O.v an,O.v ao],vi aA] m (PP IT Tr a b c m (P+10)):=by
 apply zk (b,0);simp(config:={maxSteps:=1000000}) -zeta only[aC,aB];have F:=Z.lt;intro d ae;have b2:BS [d.size,m.size] b c m P ae:=BS.psh (BS.kY (S:=a) Z _).1 _;have x2:J m ae:=(J.push m _).trans (J.push d _);have s1:d.size=m.size+1:=by simp[d]
 have t2:IT (bO ([d.size,m.size]++a) ae) an ao x:=IT.mn _ _ _ _ _ (x2.bO λh r=>by
  simp at r;rcases r with e|e|e
  .exact Or.inr V
  .exact Or.inr V
  .exact Or.inl e) u
 clear_value ae;refine b2.pick F V (λ_ o=>o) aA λaQ m3 _ _ b3 f3=>?_;have t3:=IT.mn _ _ _ _ _ (BS.le (B:=[d.size,m.size]) aa f3) t2;refine⟨λ_=>b3.iy IT.mn Z aJ t3 trivial V _,λ_=>?_⟩;refine(wF (b3.hS hS) (t3.1.le (bF _ _)) (tr ap.2) (jA.le (bF _ _) t3.2) ap.1).mono λ_ f⟨N,q,C,e,A4,hl,x4⟩=>⟨(b3.lw F λ_ o=>o).dv (x4.fz _),N,q,e,?_⟩;have b4:=b3.to (x4.fz _) (b3.s.r.ext x4);intro m5 m6;obtain⟨b6,-,-⟩:=b4.box (S:=a) (m1:=m5) (m2:=m6) rfl rfl rfl;obtain⟨x6,-,-⟩:=kK (M:=f) (d:=m5) (c:=m6) rfl rfl rfl;clear_value m6;have A6:vM ([f.size,d.size,m.size]++a) m m6 N q x.1 C:=A4.re (x6.fz []) aJ (λh r=>⟨by
  rcases List.mem_cons.1 r with e|e
  .exact Or.inr V
  .exact Or.inl e,b6.hS hS h r⟩) b3.s.f.size
 have ok:DK (C.map (·.1)):=hl▸ap.1;have aX:=A6.len;have l4:C.length<=4:=by simpa using ok.oN
 have l0:0<C.length:=by simpa using ok.iY
 have cl:∀g∈C,g.1.da.length<=10^12:=λg A=>(vM.oN ok A).oN;refine b6.pick F V (λ_ o=>o) (q.len:Int) λp i f0 f1 b7 f7=>?_;have A7:=A6.re f7 (S':=[f.size,d.size,m.size]++a) (by simp[aa]) (λh r=>⟨Or.inl r,b7.hS hS h r⟩) (ad _);let⟨g,A⟩:=cK C p.toNat;let⟨ac,h,g0,g1,g2,g3,g4,aK,aL⟩:=A7.iF V A;refine⟨f0,V,ac,g0,h,g1,_,g2,_,g3,g.2,g4,?_⟩;intro m8 m9;obtain⟨b9,-,-⟩:=b7.box (S:=a) (m1:=m8) (m2:=m9) rfl rfl rfl;obtain⟨x9,-,-⟩:=kK (M:=i) (d:=m8) (c:=m9) rfl rfl rfl;clear_value m9;have A9:vM ([i.size,f.size,d.size,m.size]++a) m m9 N q x.1 C:=A7.re (x9.fz []) aJ (λh r=>⟨by
  rcases List.mem_cons.1 r with e|e
  .exact Or.inr V
  .exact Or.inl e,b9.hS hS h r⟩) (ad _)
 have iy:∀{l:E}{T:O}{aq:List bz×List dA}{Q:Nat},BS [i.size,f.size,d.size,m.size] b c m Q l->IT (bO ([i.size,f.size,d.size,m.size]++a) l) T q aq->Q<=P+10->PP IT Tr a b c m (P+10) (.agg #[O.v T,O.v q]) (ag l d.size 0 [.s T,.s q]):=λh u o=>h.iy IT.mn Z aJ u trivial o _;refine⟨λ_=>iy b9 (A9.it V cl) V,λhn=>?_⟩;have hB:∀h∈[b],h∈[i.size,f.size,d.size,m.size]++a:=by simp[aa]
 have W:∀{l n:E}{C:List (dA×O)},vM ([i.size,f.size,d.size,m.size]++a) m l N q x.1 C->Fz [b] l n->vM ([i.size,f.size,d.size,m.size]++a) m n N q x.1 C:=λo p=>o.re p hB (λh r=>⟨Or.inl r,aO (o.lt h r) p.size⟩) (ad _);refine b9.pick F V (λ_ o=>o) 8 λaQ H _ _ j au=>?_;have U:=W A9 au;have ax:Le (bO (q.D::([f.size,d.size,m.size]++a)) i) (bO (q.D::([i.size,f.size,d.size,m.size]++a)) H):=(x9.bO λh r=>by
  simp only[cH,dX,aS]at r⊢;rcases r with e|e|e
  .exact Or.inl (Or.inl e)
  .exact Or.inr V
  .exact Or.inl (Or.inr e)).trans (au.dg (by simp[aa]))
 have ha:=aK.le ax;have r:=aL.le ax;have ay:∀{l n:E},Fz [b] l n->Le (bO (q.D::([i.size,f.size,d.size,m.size]++a)) l) (bO (q.D::([i.size,f.size,d.size,m.size]++a)) n):=λp=>p.dg (by simp[aa]);have G:=vM.oN ok (ar A);have done:∀{l:E}{Q:Nat}{D:List Ce}{aE:dA},BS [i.size,f.size,d.size,m.size] b c m Q l->vM ([i.size,f.size,d.size,m.size]++a) m l N q x.1 C->lB (bO (q.D::([i.size,f.size,d.size,m.size]++a)) l) D aE->Q<=P+10->
  0<=p/\p<(q.len:Int)/\eC l q.D (q.off+p.toNat*5) 5/\(dY [i.size,f.size,d.size,m.size] l (ag l q.D (q.off+p.toNat*5) D)/\PP IT Tr a b c m (P+10) (.agg #[O.v N,O.v q]) (ag (ag l q.D (q.off+p.toNat*5) D) d.size 0 [.s N,.s q])):=λ{l Q D aE} h K hp hQ=>by
  let⟨X,ps,tt⟩:=K.aae h.s.f V cl (k:=p.toNat) V hp
  have yq:=K.g.bh
  exact⟨f0,V,X,λw R=>bo _ _ _ _ λe=>K.nq (by rw[<-e];exact bL _ R),iy ⟨h.s.put Z yq.1 _ _,λw R=>by rw[aw];exact h.gJ w R⟩ tt hQ⟩
 have v:∀{l n:E}{Q:Nat},BS [i.size,f.size,d.size,m.size] b c m Q l->Fz [b] l n->∀s,af n i.size s=af l i.size s:=λh p s=>kg p F (h.gJ _ aJ) s;have Y:∀{l n:E}{Q:Nat},BS [i.size,f.size,d.size,m.size] b c m Q l->Fz [b] l n->∀s,af n f.size s=af l f.size s:=λh p s=>kg p F (h.gJ _ aJ) s;have am:=U.da (ar A) G.oN;have av:=j.hS hS;have lq:∀w∈q.D::([i.size,f.size,d.size,m.size]++a),w<H.size:=λw R=>(List.mem_cons.1 R).elim (λe=>e▸U.g.bh.2) (av w);have kY:∀(ls:List Int){D:List Ce}{ah:Nat},D=ls.map Ce.i->ah=ls.length->0<ls.length/\ls.length<=100->∀{ak:Int->E->Prop},(∀u n,BS [i.size,f.size,d.size,m.size] b c m (P+4) n->vM ([i.size,f.size,d.size,m.size]++a) m n N q x.1 C->Le (bO (q.D::([i.size,f.size,d.size,m.size]++a)) H) (bO (q.D::([i.size,f.size,d.size,m.size]++a)) n)->(∀s,af n i.size s=af (H.push (.cells (bA D) aD)) i.size s)->(∀s,af n f.size s=af (H.push (.cells (bA D) aD)) f.size s)->ak u n)->
  aM cq 39 [vp b 0,O.v (.mk H.size 0 ah ah)] (H.push (.cells (bA D) aD)) λai n=>dY [i.size,f.size,d.size,m.size] (H.push (.cells (bA D) aD)) n/\∃u:Int,ai=vi u/\ak u n:=λls{D ah} h1 h2 h3{ak} hk=>by
  have x:=J.push H (.cells (bA D) aD)
  have L:=j.to (x.fz _) (j.s.r.ext x)
  exact(Dt j.s V ls h1 h2 h3).mono λ_ n⟨u,e,_,aT,p⟩=>⟨(L.lw F λ_ o=>o).dv p,u,e,hk u n (L.to p aT.r) (W U ((x.fz _).trans p)) (ay ((x.fz _).trans p)) (v L p) (Y L p)⟩
 refine⟨λ_=>?_,λ_=>⟨λ_=>?_,λ_=>⟨λ_=>?_,λ_=>⟨λ_=>?_,λ_=>?_⟩⟩⟩⟩
 .refine(wT j.s.r V (r.le (bF _ _)) (oh G.cO)).mono λ_ ab⟨T,I,e,al,aF,_,aj,t⟩=>⟨(j.lw F λ_ o=>o).dv t,T,e,v j t _,v j t _,v j t _,v j t _,Y j t _,?_⟩;exact done (aE:=⟨g.1.params,I,g.1.aT,g.1.an,g.1.da⟩) (j.to t aj) (W U t) ⟨ac,T,g.2,rfl,ha.le (ay t),GI.done (GI.any al) lq (by have:=G.cO;show I.length<=_;omega),(W U t).da (ar A) G.oN⟩ V
 .have x:=(J.push H (.cells (bA [.i 0,.i 1,.i (cR (g.1.an+1)),.i 2001,.i (-1)]) aD)).fz [b];exact⟨v j x _,v j x _,v j x _,v j x _,Y j x _,kY [0,1,cR (g.1.an+1),2001,-1] rfl rfl aJ λu n b' K le I e4=>⟨I _,I _,I _,I _,e4 _,done (aE:=⟨g.1.params,g.1.cO,g.1.aT,u,g.1.da⟩) b' K ⟨ac,h,g.2,rfl,ha.le le,r.le le,K.da (ar A) G.oN⟩ V⟩⟩
 .have x:=(J.push H (.cells (bA [.i 0,.i 1,.i 9]) aD)).fz [b];have cl:=am.len;have cc:=am.cap;have c0:=G.iY;have cf:=G.oN;have ew:cR ((g.2.len:Int) -1)=((g.2.len -1:Nat):Int):=by rw[aP V V];omega
  rw[ew];refine⟨cX 0,V,V,v j x _,v j x _,v j x _,v j x _,v j x _,Y j x _,kY [0,1,9] rfl rfl aJ λu n b' K le I e4=>⟨I _,I _,I _,I _,I _,e4 _,done (aE:=⟨g.1.params,g.1.cO,u,g.1.an,g.1.da.take (g.2.len -1)⟩) b' K ⟨ac,h,g.2.cut 0 (g.2.len -1) 6,rfl,ha.le le,r.le le,eR.TP (K.da (ar A) G.oN) V⟩ V⟩⟩
 .refine(JJ av (by simp[aa]) j.s.r V).mono λ_ ab⟨T,I,e,hd,aj,t⟩=>⟨(j.lw F λ_ o=>o).dv t,T,e,Y j t _,?_⟩;exact iy (aq:=(I,_)) (j.to t aj) ⟨hd,((W U t).it V cl).2⟩ V
 .have aW:=am.len;have aV:=G.iY;refine j.pick F V (λ_ o=>o) (g.2.len:Int) λaR ab j0 j1 L t=>?_;have I:=W U t;obtain⟨-,-,-,-,-,-,aG,-,-⟩:=I.iF V A;let⟨aq,hz⟩:=cK g.1.da aR.toNat;let⟨a',jj,aH,hj,e0,e1,e2,e3,e4,e5⟩:=(I.da (ar A) G.oN).aG hz;have gJ:∀{h s:Nat}{ai:Value},af (bO (q.D::([i.size,f.size,d.size,m.size]++a)) ab) h s=some ai->af ab h s=some ai:=λo=>(eF.1 o).2;refine⟨f0,V,g.2,aG,j0,V,_,gJ e0,_,gJ e1,_,gJ e2,_,gJ e3,_,gJ e4,_,gJ e5,?_⟩;have hZ:∀w∈q.D::(Ks C++([i.size,f.size,d.size,m.size]++a)),w<ab.size:=λw R=>by
   rcases List.mem_cons.1 R with e|e
   .rw[e];exact I.g.bh.2
   .rcases List.mem_append.1 e with e|e
    .obtain⟨X,hw,rfl⟩:=List.mem_map.1 e;exact(I.c X hw).bh.2
    .exact I.lt w e
  refine(GU hZ L.s.r V (aH.le (bF _ _)) (hj.le (bF _ _)) (G.kV aq (ar hz))).mono λ_ aY⟨z',a2,j2,e,aI,aN,_,aU,K⟩=>⟨(L.lw F λ_ o=>o).dv K,_,_,_,_,_,_,e,?_⟩;have aj:=W I K;have al:=L.to K aU;let⟨X,aF⟩:=aj.wr al.s.f A (az hz) (cs:=[.i z'.op,.i z'.dst,.i z'.bQ,.i z'.bM,.s a2,.s j2]) (y:=z') ⟨a2,j2,rfl,aI,aN⟩;have yc:=(aj.c g (ar A)).bh;have yq:=I.g.bh;refine⟨kg K F yq _,Y L K _,j0,V,X,λh r=>bo _ _ _ _ λe=>(aj.nc g (ar A)) (by rw[<-e];exact bL _ r),iy ⟨al.s.put Z yc.1 _ _,λw R=>by rw[aw];exact al.gJ w R⟩ (aF.it bI λX hw=>?_) V⟩;rcases dp hw with e|e
  .exact cl X e
  .rw[e];simpa using G.oN
def JK(f:∀d∈a,d<m.size)(l:b∈a)(d:Rd b c P m)(K:P+2000+4*(300+40*Cg 18)<=10^16):aM cq 53 [vp b 0] m (PP IT Tr a b c m (P+50+4*(300+40*Cg 18))):=by
 apply Cs (b,0);simp -zeta only[aC,aB];have e:=d.lt;intro g;have z1:g.size=m.size+1:=by simp[g]
 obtain⟨b1,-⟩:BS [m.size] b c m P g/\True:=⟨(BS.kY (S:=a) d _).1,trivial⟩;clear_value g;refine b1.call (S:=a) e (λ_ h=>h) (Il (b1.hS f) (by simp[l]) b1.s.r V) λH Q R o r t2 b2 I=>?_;intro y p;obtain⟨b4,w,-⟩:=b2.box (S:=a) (m1:=y) (m2:=p) rfl rfl rfl;clear_value p;have C:=IT.mn _ _ _ _ _ w t2;have k:b∈[o.size,m.size]++a:=by simp[l]
 refine b4.pick e V (λ_ h=>h) 4 λL M _ _ b5 u=>?_;have q:=IT.mn _ _ _ _ _ (BS.le l u) C;refine⟨λ_=>?_,λ_=>b5.call (S:=a) e (λ_ h=>h) (uX (b5.hS f) k b5.s.r V q r 14) λt B G z F n j v=>j.iy IT.mn d aJ n trivial V _⟩;refine b5.call (S:=a) e (λ_ h=>h) (Ic (b5.hS f) k b5.s.r V q r) λs A T N E D b6 J=>?_;intro O;let⟨i,x⟩:=b6.put (S:=a) d (by simp:o.size∈_) [.s s,.s A];exact i.call (S:=a) e (λ_ h=>h) (uX (i.hS f) k i.s.r V (IT.mn _ _ _ _ _ x D) E 14) λt B G z F n j v=>j.iy IT.mn d aJ n trivial V _
end
end
section
variable{a:Nat}{c:bP}{l:List Int}{x:O}{K:O->E->Prop}{i:Int}
def MU(l r:List Ce)(o:Nat)(c:Ce)(h:l.length<=o):(l++r).set o c=l++r.set (o -l.length) c:=by
 rw[Yi _ _ h]
def lH:∀(a l r:List Ce)(o:Nat),l.length<=o->js (l++r) o a=l++js r (o -l.length) a
 |[],l,r,o,_=>rfl
 |c::a,l,r,o,h=>by
  simp only[js];rw[MU _ _ _ _ h,lH a l _ (o+1) V];congr 2;omega
def Dw:∀(a l r:List Ce)(o:Nat),o+a.length<=l.length->js (l++r) o a=js l o a++r
 |[],l,r,o,_=>rfl
 |c::a,l,r,o,h=>by
  simp only[aV]at h;simp only[js];rw[Mx _ _ V,Dw a _ _ (o+1) bI]
def BZ{f:Nat}:∀(b:List (List Ce))(a:Nat)(e:List Ce)(o:Nat)(d:List Ce),(∀c∈b,c.length=f)->b[a]? =some e->o+d.length<=f->js b.flatten (a*f+o) d=(b.set a (js e o d)).flatten
 |[],a,e,o,d,_,h,_=>by simp at h
 |x::b,0,e,o,d,g,h,j=>by
  simp at h;subst h;have i:=g x aX;rw[jE,QI,cD,Dw _ _ _ _ V,il,jE]
 |x::b,a+1,e,o,d,g,h,j=>by
  have i:=g x aX;rw[jE,lH _ _ _ _ (by rw[i,gL];omega),jq,jE];have k:(a+1)*f+o -x.length=a*f+o:=by rw[i,gL];omega
  rw[k,BZ b a e o d (λc l=>g c (ai _ l)) (by simpa using h) j]
def _root_.Go.Vc.gE.set{α:Type}{e:Nat}{R:List Ce->α->Prop}{f:List (List Ce)}{l:List α}(h:gE e R f l)(a:Nat){cs:List Ce}{x:α}(m:cs.length=e)(n:R cs x):gE e R (f.set a cs) (l.set a x):=by
 refine⟨by simp[h.len],λc b=>?_,λk c y b d=>?_⟩
 .rcases dp b with b|b
  .exact h.size c b
  .rw[b];exact m
 .by_cases j:k=a
  .subst j;have g:=az b;have i:=az d;simp at g i;rw[dJ g]at b;rw[dJ i]at d;simp at b d;subst b;subst d;exact n
  .rw[cz (λg=>j g.symm)]at b d;exact h.dx k c y b d
def _root_.Go.Vc.gE.take{α:Type}{e:Nat}{R:List Ce->α->Prop}{b:List (List Ce)}{l:List α}(h:gE e R b l)(n:Nat):gE e R (b.take n) (l.take n):=by
 refine⟨by simp[h.len],λc a=>h.size c (gB a),λj c y a d=>?_⟩;have f:=az a;simp at f;rw[dG V]at a d;exact h.dx j c y a d
def FJ{b:Nat}:∀(a:List (List Ce))(n:Nat),(∀c∈a,c.length=b)->a.flatten.take (n*b)=(a.take n).flatten
 |[],n,_=>aJ
 |x::a,0,_=>aJ
 |x::a,n+1,h=>by
  have d:=h x aX;rw[jE,List.take_append,nO (by rw[d,gL];omega),Nm,jE];have e:(n+1)*b -x.length=n*b:=by rw[d,gL];omega
  rw[e,FJ a n λc f=>h c (ai _ f)]
section
variable{N:Nat}{d:Nat->Nat}{m:E}{b:O}{h:List bP}
def dQ.len(e:dQ N d m b h):b.len=h.length:=by
 obtain⟨f,c,a,_⟩:=e;have:=c.len;rw[cg a.size,a.len]at this;omega
def dQ.bV(q:dQ N d m b h)(e:h[a]? =some c):∃f,af m b.D (b.off+a*3)=some (vi c.aQ)/\af m b.D (b.off+a*3+1)=some (vi c.kH)/\af m b.D (b.off+a*3+2)=some (O.v f)/\aq m f c.aN/\FN N d m f c.aN:=by
 obtain⟨l,o,g,_⟩:=q;let⟨k,j⟩:=cK l a (by rw[g.len];exact az e);obtain⟨f,rfl,p,n⟩:=g.dx a k c j e;have r:=λi c e=>o.iF (a*3+i) c (fV g.size j e);exact⟨f,r 0 (.i c.aQ) rfl,r 1 (.i c.kH) rfl,r 2 (.s f) rfl,p,n⟩
def dQ.cells(g:dQ N d m b h)(t:h.length<=9223372036854775807):dR m b h:=by
 have r:=g.len;obtain⟨n,e,a,_⟩:=g;refine⟨r,e.le,V,λk x j=>?_⟩;let⟨l,f⟩:=cK n k (by rw[a.len];exact az j);obtain⟨o,rfl,q,s⟩:=a.dx k l x f j;refine⟨_,⟨o,rfl,q⟩,λi c p=>?_⟩;have:=e.iF (k*3+i) c (fV a.size f p);rwa[<-dk]at this
def dQ.wr(g:dQ N d m b h){a o n:Nat}(f:a<h.length)(j:o+n<=3):eC m b.D (b.off+a*3+o) n:=by
 obtain⟨i,e,c,_⟩:=g;rw[dk];exact e.wr (by rw[cg c.size,c.len];have:(a+1)*3<=h.length*3:=dh _ f;omega)
def dQ.D(e:dQ N d m b h){a:Nat}(i:a<h.length):d b.D=3/\b.D<m.size:=by
 have j:=e.len;obtain⟨f,c,g,_⟩:=e;have:=c.le;have:=c.D V;exact⟨this.2,this.1⟩
def Sv(N:Nat)(d:Nat->Nat)(m:E)(b:O)(h:List bP)(f:O)(l:List Int):Prop:=
 l≠[]->(d f.D=0/\N<=f.D/\FB m f l)/\∀(i:Nat)(g:O),i<h.length->af m b.D (b.off+i*3+2)=some (O.v g)->g.len≠0->g.D≠f.D
def FB.gK{b:E}{f:O}(h:gY b m aD 1 f (l.map Ce.i))(d:l≠[]):b.size<=f.D/\FB m f l:=by
 rcases h.aG with e|⟨g,c,tail,e,h2,h3,_,_⟩
 .have a:=h.len;rw[e,dW,O.OH,QI]at a;exact absurd (List.length_eq_zero_iff.1 a) d
 .rw[e];exact⟨h2,c,tail,rfl,h3⟩
def Sv.of{a:E}{w:Nat->Nat}{f:O}(q:dQ N w a b h)(s:0<h.length->m[b.D]? =a[b.D]?)(u:l≠[]->gY a m aD 1 f (l.map Ce.i))(k:l≠[]->d f.D=0)(A:N<=a.size):Sv N d m b h f l:=λe=>by
 let⟨z,n⟩:=FB.gK (u e) e;refine⟨⟨k e,V,n⟩,λi x r g p=>?_⟩;let⟨c,o⟩:=dZ r;obtain⟨y,_,_,v,kf,_⟩:=q.bV o;rw[aL (s V),v]at g;have:=O.Hg.1 (mq g);subst this;have t:c.aN≠[]:=λj=>by have:=kf.len;rw[j]at this;simp at this;exact p this
 have:=iP kf t;omega
def dQ.put(L:dQ N d m b h)(Z:∀g,m.size<=g->d g=0){o:Nat}{p:bP}(I:h[a]? =some c){new:List Ce}(ho:o+new.length<=3)
 (W:∀r,aq m r c.aN->FN N d m r c.aN->∃f,js [.i c.aQ,.i c.kH,.s r] o new=[.i p.aQ,.i p.kH,.s f]/\aq m f p.aN/\FN N d m f p.aN/\(f=r\/Sv N d m b h f p.aN)):
 dQ N d (ag m b.D (b.off+a*3+o) new) b (h.set a p)/\dz (λk=>k=3) d m d (ag m b.D (b.off+a*3+o) new):=by
 have B:=az I
 have V:=L.D B
 have J:dz (λk=>k=3) d m d (ag m b.D (b.off+a*3+o) new):=dz.ag Z V.1 _ _
 let⟨v,E,n,F⟩:=L
 let⟨S,w⟩:=cK v a (by rw[n.len];exact B)
 obtain⟨r,rfl,X,T⟩:=n.dx a S c w I
 let⟨f,D,K,U,hd⟩:=W r X T
 have Q:∀(j:Nat)(q:List Ce)(g:O),v[j]? =some q->q[2]? =some (.s g)->j≠a->f.len≠0->g.len≠0->f.D≠g.D:=λj q g e H Y s t=>by
  rcases hd with rfl|hd
  .exact F a j _ q f g w e rfl H (λl=>Y l.symm) s t
  .have u:p.aN≠[]:=λl=>by have:=K.len;rw[l]at this;simp at this;exact s this
   refine kJ ((hd u).2 j g (by rw[<-n.len];exact az e) ?_ t);have:=E.iF (j*3+2) _ (fV n.size e H);rwa[<-dk]at this
 refine⟨⟨v.set a (js [.i c.aQ,.i c.kH,.s r] o new),?_,?_,?_⟩,J⟩
 .rw[<-BZ v a _ o new n.size w ho,dk]
  exact E.set (by rw[cg n.size,n.len];have:(a+1)*3<=h.length*3:=dh _ B;omega)
 .rw[D]
  exact(n.set a rfl ⟨f,rfl,K,U⟩).mono (yh.eY J be)
 .rw[D]
  have G:=az w
  intro i j C q x R u e z A y s t
  by_cases M:i=a
  .subst M
   rw[dJ G]at u
   rw[cz y]at e
   simp at u;subst u
   simp at z;subst z
   exact Q j q R e A (λl=>y l.symm) s t
  .rw[cz (λl=>M l.symm)]at u
   by_cases P:j=a
   .subst P
    rw[dJ G]at e
    simp at e;subst e
    simp at A;subst A
    exact kJ (Q i C x u z y t s)
   .rw[cz (λl=>P l.symm)]at e
    exact F i j C q x R u e z A y s t
def dQ.tP(j:dQ N d m b h)(k:∀e,m.size<=e->d e=0)(g:h[a]? =some c)(n:Int):
 dQ N d (ag m b.D (b.off+a*3) [.i n]) b (h.set a {c with aQ:=n})/\dz (λe=>e=3) d m d (ag m b.D (b.off+a*3) [.i n]):=
 j.put k g (o:=0) (new:=[.i n]) aJ λf i e=>⟨f,rfl,i,e,Or.inl rfl⟩
def dQ.setCell(k:dQ N d m b h)(q:∀e,m.size<=e->d e=0)(g:a<h.length)(n t:Int){f:O}(j:aq m f l)(e:Sv N d m b h f l):
 dQ N d (ag m b.D (b.off+a*3) [.i n,.i t,.s f]) b (h.set a ⟨n,t,l⟩)/\dz (λi=>i=3) d m d (ag m b.D (b.off+a*3) [.i n,.i t,.s f]):=by
 let⟨c,i⟩:=dZ g
 exact k.put q i (o:=0) (new:=[.i n,.i t,.s f]) aJ λr u s=>⟨f,rfl,j,λp=>(e p).1,Or.inr e⟩
def dQ.cut(j:dQ N d m b h){n:Nat}(v:n<=h.length):dQ N d m (b.cut 0 n 3) (h.take n):=by
 have u:=j.len;let⟨f,q,g,r⟩:=j;refine⟨f.take n,by rw[<-FJ f n g.size];exact q.cut V,g.take n,λi k o p a l c e=>?_⟩;have s:i<n:=by have:=az c;simp at this;omega
 have t:k<n:=by have:=az e;simp at this;omega
 rw[dG s]at c;rw[dG t]at e;exact r i k o p a l c e
def dQ.push(F:dQ N d m b h)(Q:∀c,m.size<=c->d c=0)(S:x.len=1){p t:Int}{f:O}(R:fX m x.D x.off [.i p,.i t,.s f])(E:aq m f l)(C:Sv N d m b h f l)(W:h.length<=2000000000)
 (M:∀z y w,dQ N z w y (h++[⟨p,t,l⟩])->dz (λk=>k=3) d m z w->K y w):jN m nE [.i (0:Int),.i (0:Int),.s O.nil] 40 b x K:=by
 have U:=F.len
 let⟨k,D,A,J⟩:=F
 refine iz.append (c:=[.i 0,.i 0,.s .nil]) (d:=[.i p,.i t,.s f]) D Q (by simp[S]) R V λz y w T H=>M z y w ⟨k++[[.i p,.i t,.s f]],by simpa using T,(A.yT (cs:=[.i p,.i t,.s f]) (x:=⟨p,t,l⟩) rfl ⟨f,rfl,E,λe=>(C e).1⟩).mono (yh.eY H be),?_⟩ H
 have G:∀(o:Nat)(q:List Ce)(c:O),k[o]? =some q->q[2]? =some (.s c)->f.len≠0->c.len≠0->f.D≠c.D:=λo q c v s e n=>by
  have P:l≠[]:=λI=>by have:=E.len;rw[I]at this;simp at this;exact e this
  refine kJ ((C P).2 o c (by rw[<-A.len];exact az v) ?_ n);have:=D.iF (o*3+2) _ (fV A.size v s);rwa[<-dk]at this
 have Re:∀{i:Nat}{j:List Ce}{a:O},(k++[[.i p,.i t,.s f]])[i]? =some j->j[2]? =some (.s a)->k[i]? =some j\/(i=k.length/\a=f):=λ{i j a} g r=>by
  rcases aZ i k.length with e|e
  .rw[ax e]at g;exact Or.inl g
  .rw[aF e]at g;have n:i -k.length=0:=by have:=az g;simp at this;omega
   rw[n]at g;simp at g;subst g;simp at r;exact Or.inr ⟨V,r.symm⟩
 intro i o j q a c g v r s L e n
 rcases Re g r with B|⟨B,rfl⟩
 .rcases Re v s with u|⟨u,rfl⟩
  .exact J i o j q a c B u r s L e n
  .exact kJ (G i j a B r n e)
 .rcases Re v s with u|⟨u,rfl⟩
  .exact G o q c u s e n
  .omega
end
structure tm(ro:Nat->Nat)(m:E)(fr:O)(fs:List aU)(f:aU)(r o h:O)(css:List (List Ce)):Prop where
 pD:iz ro m cL 6 4 fr (css.flatten++[.i f.eg,.i f.pc,.i f.dst,.s r,.s o,.s h])
 len:css.length=fs.length
 size:∀cs∈css,cs.length=6
 dx:∀(i:Nat)(cs:List Ce)(g:aU),css[i]? =some cs->fs[i]? =some g->Tn ro m i cs g
 an:iz ro m aD 1 (10+3*fs.length) r (f.an.map Ce.i)
 aR:iz ro m aD 1 (11+3*fs.length) o (f.aR.map Ce.i)
 aY:iz ro m aD 1 (12+3*fs.length) h (f.aY.map Ce.i)
section
variable{d n:Nat->Nat}{m k:E}{b:O}{a:List aU}{f:aU}{r e h:O}{j:List (List Ce)}
def pA.fZ(n:pA d m b (a++[f])):∃r e h j,tm d m b a f r e h j:=by
 let⟨j,u,l,v,p⟩:=n;have o:j≠[]:=λc=>by rw[c]at l;simp at l
 have c:j=j.dropLast++[j.getLast o]:=(eD o).symm;generalize j.dropLast=c0 at c;generalize j.getLast o=cl at c;subst c;have t:c0.length=a.length:=by simpa using l
 obtain⟨r,e,h,rfl,y,x,n⟩:=p a.length cl f (by rw[aF V];simp[t]) aJ;refine⟨r,e,h,c0,by simpa using u,t,λk w=>v k (by simp[w]),λi k g q s=>p i k g ?_ ?_,y,x,n⟩
 .rw[ax (az q)];exact q
 .rw[ax (az s)];exact s
def tm.uK(T:tm d m b a f r e h j):pA d m b (a++[f]):=by
 refine⟨j++[[.i f.eg,.i f.pc,.i f.dst,.s r,.s e,.s h]],by simpa using T.pD,by simp[T.len],λl c=>?_,λi l o g k=>?_⟩
 .rcases List.mem_append.1 c with c|c
  .exact T.size l c
  .simp at c;subst c;rfl
 .rcases aZ i a.length with n|n
  .rw[ax (by rw[T.len];exact n)]at g;rw[ax n]at k;exact T.dx i l o g k
  .have p:i=a.length:=by have:=az k;simp at this;omega
   subst p;rw[aF (by rw[T.len];omega)]at g;simp[T.len]at g k;subst g;subst k;exact⟨r,e,h,rfl,T.an,T.aR,T.aY⟩
def tm.vU(T:tm d m b a f r e h j):b.len=a.length+1:=by
 have:=T.pD.len;simp only[ba,cg T.size,T.len,aV,eU]at this;omega
def tm.iF(T:tm d m b a f r e h j):af m b.D (b.off+a.length*6)=some (vi f.eg)/\af m b.D (b.off+a.length*6+1)=some (vi f.pc)/\af m b.D (b.off+a.length*6+2)=some (vi f.dst)/\
 af m b.D (b.off+a.length*6+3)=some (O.v r)/\af m b.D (b.off+a.length*6+4)=some (O.v e)/\af m b.D (b.off+a.length*6+5)=some (O.v h):=by
 have l:j.flatten.length=a.length*6:=by rw[cg T.size,T.len]
 have g:=λ(i:Nat)(c:Ce)(k:[Ce.i f.eg,Ce.i f.pc,Ce.i f.dst,Ce.s r,Ce.s e,Ce.s h][i]? =some c)=>T.pD.iF (a.length*6+i) c (by rw[aF V,l,Hj];exact k)
 exact⟨g 0 (.i f.eg) rfl,g 1 (.i f.pc) rfl,g 2 (.i f.dst) rfl,g 3 (.s r) rfl,g 4 (.s e) rfl,g 5 (.s h) rfl⟩
def tm.eY{p:Nat->Prop}(T:tm d m b a f r e h j)(c:dz p d m n k)(g:∀l,(l=4\/10<=l)->¬p l):tm n k b a f r e h j:=
 ⟨T.pD.eY c (g _ V),T.len,T.size,λi o q s t=>(T.dx i o q s t).eY c λl u _=>g l V,T.an.eY c (g _ V),T.aR.eY c (g _ V),T.aY.eY c (g _ V)⟩
def tm.ext(T:tm d m b a f r e h j)(g:∀c,m.size<=c->d c=0)(c:J m k):tm d k b a f r e h j:=T.eY (dz.eT (λ_=>False) c g) λ_ _=>id
def tm.yo{p:Nat->Prop}(T:tm d m b a f r e h j)(s:dz p d m n k)(t:∀c,10<=c->c<10+3*a.length->¬p c):∀(i:Nat)(g:List Ce)(l:aU),j[i]? =some g->a[i]? =some l->Tn n k i g l:=λi g l q o=>
 (T.dx i g l q o).eY s λc u _=>t c V (oh (az o))
def tm.El(T:tm d m b a f r e h j)(p:∀c,m.size<=c->d c=0)(n:0<=i)(g:i<f.an.length)(v:Int):
 tm d (ag m r.D (r.off+i.toNat*1) [.i v]) b a {f with an:=gQ f.an i v} r e h j/\dz (λk=>4<=k/\k≠9) d m d (ag m r.D (r.off+i.toNat*1) [.i v]):=by
 have o:r.cap≠0:=λl=>by have:=(T.an.Dk l).1;simp at this;rw[this]at g;simp at g;omega
 have c:dz (λk=>k=10+3*a.length) d m d (ag m r.D (r.off+i.toNat*1) [.i v]):=dz.ag p (T.an.D o).2 _ _
 exact⟨⟨T.pD.eY c V,T.len,T.size,T.yo c λk _ q=>V,T.an.gQ n g v,T.aR.eY c V,T.aY.eY c V⟩,c.mono λk q=>V⟩
def tm.pZ(T:tm d m b a f r e h j)(p:∀c,m.size<=c->d c=0)(n:0<=i)(g:i<f.aR.length)(v:Int):
 tm d (ag m e.D (e.off+i.toNat*1) [.i v]) b a {f with aR:=gQ f.aR i v} r e h j/\dz (λk=>4<=k/\k≠9) d m d (ag m e.D (e.off+i.toNat*1) [.i v]):=by
 have o:e.cap≠0:=λl=>by have:=(T.aR.Dk l).1;simp at this;rw[this]at g;simp at g;omega
 have c:dz (λk=>k=11+3*a.length) d m d (ag m e.D (e.off+i.toNat*1) [.i v]):=dz.ag p (T.aR.D o).2 _ _
 exact⟨⟨T.pD.eY c V,T.len,T.size,T.yo c λk _ q=>V,T.an.eY c V,T.aR.gQ n g v,T.aY.eY c V⟩,c.mono λk q=>V⟩
def tm.BW(T:tm d m b a f r e h j)(p:∀c,m.size<=c->d c=0)(n:0<=i)(g:i<f.aY.length)(v:Int):
 tm d (ag m h.D (h.off+i.toNat*1) [.i v]) b a {f with aY:=gQ f.aY i v} r e h j/\dz (λk=>4<=k/\k≠9) d m d (ag m h.D (h.off+i.toNat*1) [.i v]):=by
 have o:h.cap≠0:=λl=>by have:=(T.aY.Dk l).1;simp at this;rw[this]at g;simp at g;omega
 have c:dz (λk=>k=12+3*a.length) d m d (ag m h.D (h.off+i.toNat*1) [.i v]):=dz.ag p (T.aY.D o).2 _ _
 exact⟨⟨T.pD.eY c V,T.len,T.size,T.yo c λk _ q=>V,T.an.eY c V,T.aR.eY c V,T.aY.gQ n g v⟩,c.mono λk q=>V⟩
def tm.D(T:tm d m b a f r e h j):d b.D=4/\b.D<m.size:=by
 have:=T.vU;have:=T.pD.le;have:=T.pD.D V;exact⟨this.2,this.1⟩
def tm.NR(T:tm d m b a f r e h j)(i:∀c,m.size<=c->d c=0)(v:Int):
 tm d (ag m b.D (b.off+a.length*6+1) [.i v]) b a {f with pc:=v} r e h j/\dz (λk=>4<=k/\k≠9) d m d (ag m b.D (b.off+a.length*6+1) [.i v]):=by
 have c:dz (λk=>k=4) d m d (ag m b.D (b.off+a.length*6+1) [.i v]):=dz.ag i T.D.1 _ _
 refine⟨⟨?_,T.len,T.size,T.yo c λk l n=>V,T.an.eY c V,T.aR.eY c V,T.aY.eY c V⟩,c.mono λk p=>V⟩
 have g:j.flatten.length=a.length*6:=by rw[cg T.size,T.len]
 have:=T.pD.set (o:=a.length*6+1) (new:=[.i v]) (by simp[g])
 rw[lH _ _ _ _ V,g,Hj]at this
 rw[dk];exact this
def tm.VH(T:tm d m b a f r e h j):eC m b.D (b.off+a.length*6+1) 1:=by
 rw[dk];exact T.pD.wr (by simp only[ba,cg T.size,T.len,aV,eU];omega)
end
def pA.Vx{d:Nat->Nat}{m:E}{c:O}{a:List aU}{f:aU}(e:pA d m c (a++[f])):pA d m (c.cut 0 a.length 6) a:=by
 let⟨r,o,h,b,T⟩:=e.fZ;have g:b.flatten.length=a.length*6:=by rw[cg T.size,T.len]
 have:=T.pD.cut (n:=a.length) (by rw[T.vU];omega);rw[nG V,nO V]at this;exact⟨b,this,T.len,T.size,T.dx⟩
def pA.push{d:Nat->Nat}{m:E}{l:O}{b:List aU}(D:pA d m l b)(F:∀a,m.size<=a->d a=0)(H:x.len=1){a:aU}{c j g:O}(G:fX m x.D x.off [.i a.eg,.i a.pc,.i a.dst,.s c,.s j,.s g])
 (y:iz d m aD 1 (10+3*b.length) c (a.an.map Ce.i))(z:iz d m aD 1 (11+3*b.length) j (a.aR.map Ce.i))(A:iz d m aD 1 (12+3*b.length) g (a.aY.map Ce.i))(N:b.length<=1000000)
 (n:∀k c e,pA k e c (b++[a])->dz (λp=>p=4) d m k e->K c e):jN m cL [.i (0:Int),.i (0:Int),.i (0:Int),.s O.nil,.s O.nil,.s O.nil] 96 l x K:=by
 let⟨v,q,s,t,J⟩:=D
 have M:l.len=b.length:=by have:=q.len;rw[cg t,s]at this;omega
 refine iz.append (c:=[.i 0,.i 0,.i 0,.s .nil,.s .nil,.s .nil]) (d:=[.i a.eg,.i a.pc,.i a.dst,.s c,.s j,.s g]) q F (by simp[H]) G V λk L e I p2=>n k L e ?_ p2
 exact tm.uK (f:=a) (a:=b) (j:=v) (r:=c) (e:=j) (h:=g) ⟨by simpa using I,s,t,λi u w B C=>(J i u w B C).eY p2 λp n _=>V,y.eY p2 V,z.eY p2 V,A.eY p2 V⟩
end
section
variable{m:E}{d:List bP}{g:Nat->Nat}{b k N j:Nat}{q r:List Int}{c:bP}{i:Int}{e:Nat->Int}
def zR:∀(d:List bP)(k:Nat),k<=d.length->(∀c∈d.take k,c.aQ≠0)->k<=dF d
 |[],k,a,_=>by simp at a;simp[a]
 |c::d,0,_,_=>eO _
 |c::d,k+1,a,b=>by
  have f:=b c aJ;have:=zR d k (by simpa using a) (λe hd=>b e (by simp[hd]));simp only[dF];rw[ae f];omega
def Hz:∀(d:List bP)(k:Nat)(c:bP),(∀b∈d.take k,b.aQ≠0)->d[k]? =some c->c.aQ=0->dF d=k
 |[],k,c,_,a,_=>by simp at a
 |b::d,0,c,_,a,e=>by simp at a;subst a;simp[dF,e]
 |b::d,k+1,c,f,a,e=>by
  have g:=f b aJ;have:=Hz d k c (λx h=>f x (by simp[h])) (by simpa using a) e;simp only[dF];rw[ae g,this]
def Gw{i:O}(g:dR m i d):vO cq 185 [O.v i] m (vi (dF d)):=by
 apply AL;have p:=g.len;refine fm (n:=d.length) (p▸g.iB) (λk a=>J m a/\∀c∈d.take k,c.aQ≠0) ⟨J.aA _,aJ⟩ ?_;rintro k t I μ o ⟨a,h⟩ q
 refine dit (λl=>?_) λl=>?_
 .let⟨c,f⟩:=cK d k;obtain⟨r,s,j,_⟩:=(dR.ext a g).aG f;refine⟨V,V,c.aQ,by simpa using j,λb=>⟨?_,a⟩,λb=>q V _ ⟨a,bY f h (by simpa using b)⟩⟩;rw[Hz d k c h f (by simpa using b)]
 .refine⟨?_,a⟩;have:=zR d k o h;have:=qK d;have e:(i.len:Int)=(dF d:Int):=V;rw[e]
def pw(g:Nat->Nat)(b k:Nat):Nat->Nat:=λc=>if c=b then k else g c
def fR(g:Nat->Nat)(b k:Nat):pw g b k b=k:=aj rfl
def ez{c:Nat}(d:c≠b):pw g b k c=g c:=ae d
def dz.pw{p:Nat->Prop}{m':E}(d:J m m')(e:∀b,m.size<=b->g b=0)(f:m.size<=b)(h:b<m'.size)(k:Nat):dz p g m (pw g b k) m':=
 ⟨d.size,λc a=>ez V,λc a=>by rw[ez V];exact e c (bX d.size a),λc a _=>d.same c a⟩
def Nf{s:O}(f:dQ N g m s d)(p:∀b,m.size<=b->g b=0){c:Nat}(ha:c<=d.length)(w:Int){G:O}(T:aq m G q)(W:d.length<=2000000000)(L:q.length<=1000000000)(I:N<=m.size):
 aM cq 186 [O.v s,vi c,vi w,O.v G] m λZ S=>∃v M,Z=O.v M/\dQ N v S M (je d c ⟨1,w,q⟩)/\HC g m v S:=by
 apply IC
 simp -zeta only[aC,aB]
 refine(nC T L).then L λE u o1 Q H=>⟨E,rfl,?_⟩
 intro X a
 have n:J u a:=((J.aA u).aH _).ag (ad _) _ _
 have s3:a.size=u.size+1:=by simp[a,X,aw]
 have t:=H.trans n
 clear_value a
 have y:HC g m g a:=dz.eT _ t p
 have C:=y.new
 have A:dQ N g a s d:=f.eY (dz.eT (λ_=>False) t p) id id
 have aa:=f.len
 have R:=Q.ext n
 have P:q≠[]->g E.D=0:=λU=>by
  rcases o1.D with e|e
  .subst e;have:=Q.len;simp at this;exact absurd (List.length_eq_zero_iff.1 this.symm) U
  .exact p _ e
 have K:g u.size=0:=p _ H.size
 refine⟨λe=>?_,λe=>?_⟩
 .simp at e
  intro h
  have i:J a h:=(J.aA a).aH _
  have jm:fX h a.size 0 [.i 1,.i w,.s E]:=(cx.push a _ _).iF
  have F:HC g m g h:=y.trans (dz.eT _ i C)
  have s4:h.size=a.size+1:=by simp[h]
  clear_value h
  refine dQ.push (A.eY (dz.eT (λ_=>False) i C) id id) F.new (x:=.mk a.size 0 1 1) rfl jm (R.ext i) (Sv.of f (λz=>(t.trans i).same _ (f.D z).2) (λ_=>o1.ext (n.trans i)) P I) W λv r Y D l=>⟨λb j=>?_,v,r,rfl,?_,F.trans (l.mono λk B=>Or.inl B)⟩
  .simp at j;subst j
   exact l.dP _ V (by rw[K];decide)
  .rw[je,aj V];exact D
 .simp at e
  have h:c<d.length:=V
  have i:Int.toNat (c:Int)=c:=V
  rw[i]
  refine⟨V,V,A.wr (o:=0) h be,?_⟩
  intro Y
  let⟨D,l⟩:=A.setCell C h 1 w R (Sv.of f (λz=>t.same _ (f.D z).2) (λ_=>o1.ext n) P I)
  refine⟨λb j=>?_,g,s,rfl,?_,y.trans (l.mono λk B=>Or.inl B)⟩
  .simp at j;subst j
   exact l.dP _ V (by rw[K];decide)
  .rw[je,ae V];exact D
def Mr(b:d[j]? =some c)(a:c.aQ≠0):ji d (j+1)=j+1:=by
 simp only[ji,b];rw[ae a]
def Qv(b:d[j]? =some c)(a:c.aQ=0):ji d (j+1)=ji d j:=by
 simp only[ji,b];rw[aj a]
def xY{a:O}(b:dR m a d):aM cq 189 [O.v a] m λv n=>v=O.v (a.cut 0 (ji d d.length) 3)/\J m n:=by
 apply Kg;have w:=b.len;have t:=b.cap;have x:=b.iB;refine⟨λi n=>J m n/\∃j:Nat,i=j/\j<=d.length/\ji d j=ji d d.length,λi _=>i.toNat,⟨J.aA _,d.length,V,ad _,rfl⟩,?_⟩;rintro i r ⟨l,j,rfl,y,o⟩;have iy:ji d j=j->Value.slice=Value.slice->(0:Int)<=(0:Int)/\(0:Int)<=(j:Int)/\(j:Int)<=(a.cap:Int)/\(O.v (O.cut a (Int.toNat (0:Int)) (Int.toNat (j:Int)) 3)=O.v (a.cut 0 (ji d d.length) 3)/\J m r):=λe _=>by
  refine⟨V,V,V,?_,l⟩;rw[<-o,e];rfl
 refine⟨λf=>?_,λf=>?_⟩
 .simp only[ly,au]at f;obtain⟨k,rfl⟩:∃k,j=k+1:=⟨j -1,V⟩;have p:cR (((k+1:Nat):Int) -1)=(k:Int):=by rw[aP V V];omega
  rw[p];let⟨c,h⟩:=cK d k;obtain⟨s,u,q,_⟩:=(dR.ext l b).aG h;refine⟨V,V,c.aQ,by simpa using q,λg=>⟨⟨l,k,rfl,V,?_⟩,by show(k:Int).toNat<((k+1:Nat):Int).toNat;omega⟩,λg=>iy (Mr h (by simpa using g)) rfl⟩;rw[<-o,Qv h (by simpa using g)]
 .simp only[ly,bG]at f;have:j=0:=V;subst this;exact iy rfl rfl
def iz.Vx{s:O}(d:iz g m aD 1 k s ((q++[i]).map Ce.i)):s.len=q.length+1/\af m s.D (s.off+q.length*1)=some (vi i)/\iz g m aD 1 k (s.cut 0 q.length 1) (q.map Ce.i):=by
 have a:s.len=q.length+1:=by have:=d.len;simp at this;omega
 refine⟨a,?_,?_⟩
 .have:=d.iF q.length (.i i) aJ;rw[iu];exact this
 .have:=d.cut (n:=q.length) V;rw[iu,fO,nG aJ,nO aJ]at this;exact this
def fN.RO(h:fN d (λb=>e b+eQ (i::r) b))(c:∀b,0<=e b)(a:gC d i)(f:(aI d i).aQ=1):fN (d.set (ix i) jb) (λb=>e b+eQ ((aI d i).aN.reverse++r) b):=by
 let⟨g,j⟩:=bZ a;refine fN.Q8 h g f ?_ be be rfl (by simp[jb]) (by simp[jb]) (λ_=>rfl) λb=>?_
 .simp only[iT a.1,aj];have:=c (ix i);have:=iU r (ix i);omega
 .simp only[iT a.1,lY,Ah];omega
def fN.PK(c:fN d (λb=>e b+eQ (i::r) b))(g:∀b,0<=e b)(f:gC d i)(j:(aI d i).aQ≠1):fN (fu d i) (λb=>e b+eQ r b):=by
 let⟨a,h⟩:=bZ f;have k:=(c.cell _ (ar a)).hi;refine fN.Kn c a h V V (λb=>?_) ?_
 .simp only[iT f.1];split<;>omega
 .have:=g (ix i);have:=iU r (ix i);omega
def fN.RN(a:fN d (λb=>e b+eQ (i::r) b))(c:i<1000):fN d (λb=>e b+eQ r b):=
 a.congr λb=>by simp only[eQ];rw[ae V];omega
def fN.PJ(f:fN d (λb=>e b+eQ (i::r) b))(c:∀b,0<=e b)(a:1000<=i):gC d i:=
 ⟨a,f.lv _ (by simp only[iT a,aj];have:=c (ix i);have:=iU r (ix i);omega)⟩
def Ch:List bP->Nat
 |[]=>0
 |c::d=>c.aN.length+Ch d
def zS:∀{d:List bP}{e:Nat}{c:bP}(b:bP),d[e]? =some c->Ch (d.set e b)+c.aN.length=Ch d+b.aN.length
 |[],e,c,b,d=>by simp at d
 |g::d,0,c,b,f=>by simp at f;subst f;simp only[il,Ch];omega
 |g::d,e+1,c,b,f=>by
  have:=zS (d:=d) (e:=e) b (by simpa using f);simp only[jq,Ch];omega
def OA:∀{d:List bP},(∀c∈d,c.aN.length<=3)->Ch d<=3*d.length
 |[],_=>by simp[Ch]
 |c::d,a=>by
  have:=OA (λb hd=>a b (ai _ hd));have:=a c aX;simp only[Ch,aV];omega
def Gu{D:O}(hh:dQ N g m D d)(hn:∀b,m.size<=b->g b=0){ws:O}(hw:aq m ws [i])(hI:fN d (λb=>e b+eQ [i] b))(X:∀b,0<=e b)(aO:d.length<=2000000000):
 aM cq 143 [O.v D,O.v ws] m λaC v=>∃y am,aC=O.v am/\dQ N y v am (nt (gS d [i]))/\HC g m y v:=by
 apply AK
 refine(nC hw aJ).then aJ λs M o1 i1 h1=>⟨s,rfl,?_⟩
 have ao:s≠.nil:=λe=>by subst e;have:=i1.len;simp at this
 have G:m.size<=s.D/\s.D<M.size:=by
  rcases o1.D with e|e
  .exact absurd e ao
  .rcases o1.lt with z|z
   .exact absurd z ao
   .exact⟨e,z⟩
 have c1:HC g m (pw g s.D 6) M:=dz.pw h1 hn G.1 G.2 6
 have a1:iz (pw g s.D 6) M aD 1 6 s ([i].map Ce.i):=iz.gK o1 λ_=>fR _ _ _
 have ax:dQ N (pw g s.D 6) M D d:=hh.eY (dz.pw (p:=λ_=>False) h1 hn G.1 G.2 6) id id
 have aK:=OA λc a=>(hI.cell c a).fl
 have aL:=hh.len
 refine Kr (γ:=List bP×List Int) (λh E v=>∃y,dQ N y v D h.1/\iz y v aD 1 6 E (h.2.reverse.map Ce.i)/\HC g m y v/\fN h.1 (λb=>e b+eQ h.2 b)/\gS h.1 h.2=gS d [i]/\h.1.length=d.length/\h.2.length+Ch h.1<=1+Ch d) (λh=>Cf h.1+h.2.length) (d,[i])
  ⟨_,ax,a1,c1,hI,rfl,rfl,aJ⟩ ?_
 rintro⟨a,st⟩ E m2 aF μ ⟨q,A,a2,h,t,u,K,ae⟩ ab
 simp only[]at A a2 t u K ae
 have ap:E.len=st.length:=by have:=a2.len;simp at this;omega
 refine⟨λS=>?_,λS=>?_⟩
 .simp only[ly,au]at S
  cases st with
  |nil=>simp at ap;omega
  |cons x r=>
   simp only[QF]at a2
   let⟨p1,p2,p3⟩:=a2.Vx
   simp only[aV,mS]at ap p1 p2 p3 ae
   have e1:cR ((E.len:Int) -1)=(r.length:Int):=by rw[aP V V];omega
   have aG:=a2.le
   rw[e1]
   have z:Int.toNat (0:Int)=0:=rfl
   have e3:Int.toNat (r.length:Int)=r.length:=V
   rw[z,e3]
   refine⟨V,V,x,p2,V,V,V,(fF _ _).then λb P hb n=>⟨b,rfl,λaw=>?_,λav=>?_⟩⟩
   .have hx:=hb.1 aw
    have C:=t.PJ X hx
    let⟨j,an⟩:=bZ C
    have ah:=az j
    have aA:ix x=(x -1000).toNat:=rfl
    have aN:=(t.cell _ (ar j)).hi
    have e4:cR (x -1000)=x -1000:=aP V V
    rw[e4,<-aA]
    have H:HC q m2 q P:=dz.eT _ n h.new
    have Z:dQ N q P D a:=A.eY (dz.eT (λ_=>False) n h.new) id id
    have a3:=p3.eY (dz.eT (λ_=>False) n h.new) id
    obtain⟨f0,g0,_,_,_,_⟩:=Z.bV j
    refine⟨V,V,_,g0,V,V,Z.wr (o:=0) ah be,?_⟩
    have e5:cR ((aI a x).aQ -1)=(aI a x).aQ -1:=aP V V
    rw[e5]
    intro m4
    let⟨aa,c4⟩:=Z.tP H.new j ((aI a x).aQ -1)
    have a4:=a3.eY c4 be
    have R:HC g m q m4:=(h.trans H).trans (c4.mono λk B=>Or.inl B)
    have W:=kE (d:=jb) j
    simp only[aj an,jb]at W
    simp at W
    have aB:(a.set (ix x) {aI a x with aQ:=(aI a x).aQ -1})[ix x]? =some {aI a x with aQ:=(aI a x).aQ -1}:=eH j
    obtain⟨f1,k0,_,k2,kf,kr⟩:=aa.bV aB
    refine⟨V,V,_,k0,λT=>?_,λT=>?_⟩
    .simp only[aE]at T
     have al:(aI a x).aQ=1:=V
     have aH:=(t.cell _ (ar j)).fl
     have Y:=kf.len
     simp only[]at Y kf kr
     have I:=zS jb j
     simp only[jb,eU]at I
     refine⟨V,V,f1,k2,iz.append (c:=[.i 0]) (d:=(aI a x).aN.map Ce.i) a4 R.new (by simp[Y]) kf.HY ?_ λac aR Q q1 q2=>?_⟩
     .have:(E.cut 0 r.length 1).len=r.length:=by have:=a4.len;simp at this;omega
      rw[this,Y];omega
     have ay:=aa.eY q2 be be
     have F:HC g m ac Q:=R.trans (q2.mono λk B=>Or.inr (Or.inr B))
     intro m6
     have U:J Q m6:=(J.aA Q).aH _
     have af:=ay.eY (dz.eT (λ_=>False) U F.new) id id
     have a6:=q1.eY (dz.eT (λ_=>False) U F.new) id
     have ad:HC g m ac m6:=F.trans (dz.eT _ U F.new)
     clear_value m6
     have ai:ix x<(a.set (ix x) {aI a x with aQ:=(aI a x).aQ -1}).length:=by simpa using ah
     refine⟨V,V,af.wr (o:=0) ai be,?_⟩
     intro m7
     let⟨ag,c7⟩:=af.setCell ad.new ai 0 0 (f:=.mk Q.size 0 0 0) (l:=[]) ⟨rfl,aJ,aJ,aJ⟩ (λL=>absurd rfl L)
     rw[XS]at ag
     refine ab (a.set (ix x) jb,(aI a x).aN.reverse++r) _ _ ⟨ac,ag,?_,ad.trans (c7.mono λk B=>Or.inl B),t.RO X C al,?_,by simpa using K,?_⟩ ?_
     .have:=a6.eY c7 be
      simpa using this
     .rw[<-tp C al];exact u
     .simp only[ba,mS]
      have B:Ch (a.set (ix x) jb)+(aI a x).aN.length=Ch a:=by simpa[jb]using I
      omega
     .simp only[ba,mS,aV]
      have B:Cf (a.set (ix x) jb)+((aI a x).aQ.toNat+(aI a x).aN.length)=Cf a:=by simpa[jb]using W
      omega
    .simp only[ak]at T
     have L:(aI a x).aQ≠1:=V
     have B:=kE (d:={aI a x with aQ:=(aI a x).aQ -1}) j
     simp only[aj an]at B
     rw[aj V]at B
     have I:=zS {aI a x with aQ:=(aI a x).aQ -1} j
     refine ab (fu a x,r) _ _ ⟨q,aa,a4,R,t.PK X C L,?_,by simpa[fu]using K,?_⟩ ?_
     .rw[<-qH C L];exact u
     .simp only[fu];simp only[]at I;omega
     .simp only[fu,aV];omega
   .have hx:=fb hb av
    have H:HC q m2 q P:=dz.eT _ n h.new
    refine ab (a,r) _ _ ⟨q,A.eY (dz.eT (λ_=>False) n h.new) id id,p3.eY (dz.eT (λ_=>False) n h.new) id,h.trans H,t.RN V,?_,K,by simp only[];omega⟩ aJ
    rw[<-qI (w:=x) (λj=>hx j.1)];exact u
 .simp only[ly,bG]at S
  have j:st=[]:=List.length_eq_zero_iff.1 V
  subst j
  rw[tn]at u
  subst u
  refine(xY (A.cells V)).mono ?_
  rintro _ P ⟨rfl,n⟩
  refine⟨_,rfl,q,_,rfl,?_,h.trans (dz.eT _ n h.new)⟩
  exact(A.eY (dz.eT (λ_=>False) n h.new) id id).cut (ub _ _)
end
section
variable{i:Int}
structure ST(m0:E)(ro:Nat->Nat)(m:E)(mb e:Nat)(bx:List Ce)(aW hp fr:O)(lo:List Int)(lh:List bP)(fs:List aU)(f:aU)(r o h:O)(css:List (List Ce)):Prop where
 cQ:qD m0 ro m mb e bx aW hp fr lo lh (fs++[f])
 fZ:tm ro m fr fs f r o h css
section
variable{g:E}{a t:Nat->Nat}{m s:E}{d e:Nat}{j:List Ce}{aW l b:O}{q:List Int}{n:List bP}{c:List aU}{f:aU}{r o h:O}{k:List (List Ce)}
def ST.ext(S:ST g a m d e j aW l b q n c f r o h k)(i:J m s):ST g a s d e j aW l b q n c f r o h k/\To a m a s:=
 ⟨⟨(S.cQ.ext i).1,S.fZ.ext S.cQ.new i⟩,(S.cQ.ext i).2⟩
def ST.El(S:ST g a m d e j aW l b q n c f r o h k){i:Int}(s:0<=i)(t:i<f.an.length)(v:Int):ST g a (ag m r.D (r.off+i.toNat*1) [.i v]) d e j aW l b q n c {f with an:=gQ f.an i v} r o h k/\To a m a (ag m r.D (r.off+i.toNat*1) [.i v]):=by
 let⟨p,u⟩:=S.fZ.El S.cQ.new s t v;let⟨w,x⟩:=S.cQ.jK u p.uK;exact⟨⟨w,p⟩,x⟩
def ST.pZ(S:ST g a m d e j aW l b q n c f r o h k){i:Int}(s:0<=i)(t:i<f.aR.length)(v:Int):ST g a (ag m o.D (o.off+i.toNat*1) [.i v]) d e j aW l b q n c {f with aR:=gQ f.aR i v} r o h k/\To a m a (ag m o.D (o.off+i.toNat*1) [.i v]):=by
 let⟨p,u⟩:=S.fZ.pZ S.cQ.new s t v;let⟨w,x⟩:=S.cQ.jK u p.uK;exact⟨⟨w,p⟩,x⟩
def ST.BW(S:ST g a m d e j aW l b q n c f r o h k){i:Int}(s:0<=i)(t:i<f.aY.length)(v:Int):ST g a (ag m h.D (h.off+i.toNat*1) [.i v]) d e j aW l b q n c {f with aY:=gQ f.aY i v} r o h k/\To a m a (ag m h.D (h.off+i.toNat*1) [.i v]):=by
 let⟨p,u⟩:=S.fZ.BW S.cQ.new s t v;let⟨w,x⟩:=S.cQ.jK u p.uK;exact⟨⟨w,p⟩,x⟩
def ST.NR(S:ST g a m d e j aW l b q n c f r o h k)(v:Int):ST g a (ag m b.D (b.off+c.length*6+1) [.i v]) d e j aW l b q n c {f with pc:=v} r o h k/\To a m a (ag m b.D (b.off+c.length*6+1) [.i v]):=by
 let⟨i,p⟩:=S.fZ.NR S.cQ.new v;let⟨s,t⟩:=S.cQ.jK p i.uK;exact⟨⟨s,i⟩,t⟩
def ST.jw(S:ST g a m d e j aW l b q n c f r o h k)(i:Nat)(s:List Ce):ST g a (ag m d i s) d e (js j i s) aW l b q n c f r o h k/\To a m a (ag m d i s):=by
 let⟨u,v⟩:=S.cQ.jw i s;exact⟨⟨u,S.fZ.eY (dz.ag (p:=λt=>t=1) S.cQ.new S.cQ.NP i s) λt w=>V⟩,v⟩
def ST.gD(S:ST g a m d e j aW l b q n c f r o h k)(i:HC a m t s){p:O}{u:List bP}(x:dQ g.size t s p u):ST g t s d e j aW p b q u c f r o h k/\To a m t s:=by
 let⟨v,w⟩:=S.cQ.gD i x;exact⟨⟨v,S.fZ.eY i λz y=>V⟩,w⟩
def ST.LN(S:ST g a m d e j aW l b q n c f r o h k)(i:dz (λp=>p=2) a m t s){v:O}{u:List Int}(y:iz t s aD 1 2 v (u.map Ce.i)):ST g t s d e j v l b u n c f r o h k/\To a m t s:=by
 let⟨w,x⟩:=S.cQ.LN i y;exact⟨⟨w,S.fZ.eY i λp z=>V⟩,x⟩
end
def dz.Rm{c f:Nat->Nat}{m a:E}(h:To c m f a){b:Nat}(e:b<m.size)(d:c b=0):dY [b] m a:=h.dv (by simpa using⟨e,d⟩)
abbrev SB(d p:O)(s:St)(aW b a:O):List Ce:=[.s d,.s p,.i s.bJ,.i s.value,.i s.bC,.i s.bq,.s aW,.s b,.s a]
def Cd(f:E)(h:Nat->Nat)(m:E)(g:Nat)(e p:O)(s:St)(c:E):Prop:=
 ∃d aW b a,qD f d c g bS (SB e p s aW b a) aW b a s.aW s.heap s.av/\To h m d c
def Cd.from{b:E}{f g:Nat->Nat}{m c a:E}{e:Nat}{d p:O}{s:St}(i:Cd b g c e d p s a)(n:To f m g c):Cd b f m e d p s a:=
 let⟨o,aW,l,h,j,k⟩:=i
 ⟨o,aW,l,h,j,n.trans k⟩
section
variable{k:E}{e:Nat->Nat}{m:E}{g:Nat}{d p aW b c:O}{a:St}{j:List aU}{f:aU}{r l h:O}{q:List (List Ce)}
def jZ(S:ST k e m g bS (SB d p a aW b c) aW b c a.aW a.heap j f r l h q)(u:j.length<=100000)(v:Int):
 aM cq 142 [vp g 0,vi v] m λw n=>ST k e n g bS (SB d p a aW b c) aW b c a.aW a.heap j {f with pc:=v} r l h q/\To e m e n:=by
 apply pu (g,0)
 have i:af m g 8=some (O.v c):=S.cQ.box.bV 8
 have t:=S.fZ.vU
 have o:cR ((c.len:Int) -1)=(j.length:Int):=by rw[aP V V];omega
 have s:Int.toNat (j.length:Int)=j.length:=V
 refine⟨c,i,c,i,?_⟩
 rw[o,s]
 exact⟨V,V,S.fZ.VH,S.NR v⟩
def Bl(S:ST k e m g bS (SB d p a aW b c) aW b c a.aW a.heap j f r l h q)(P:j.length<=100000)(n:0<=i)(x:i<f.an.length)(y:i<f.aR.length)(w:Int)(W:0<=f.pc/\f.pc<=100000):
 aM cq 135 [vp g 0,vi i,vi w] m λ_ A=>ST k e A g bS (SB d p a aW b c) aW b c a.aW a.heap j (aU.put {f with pc:=f.pc+1} i w 0) r l h q/\To e m e A:=by
 apply uD (g,0)
 simp -zeta only[aC,aB]
 have z:af m g 8=some (O.v c):=S.cQ.box.bV 8
 have T:=S.fZ.vU
 have G:cR ((c.len:Int) -1)=(j.length:Int):=by rw[aP V V];omega
 have H:Int.toNat (j.length:Int)=j.length:=V
 let⟨K,g1,g2,L,M,N⟩:=S.fZ.iF
 have X:r.len=f.an.length:=by have:=S.fZ.an.len;simp at this;omega
 have U:l.len=f.aR.length:=by have:=S.fZ.aR.len;simp at this;omega
 refine⟨c,z,c,z,?_⟩
 rw[G,H]
 refine⟨V,V,_,K,_,g1,_,g2,r,L,l,M,h,N,?_⟩
 intro R o
 have Q:J m o:=((J.aA m).aH _).ag (ad _) _ _
 have Z:o.size=m.size+1:=by simp[o,R,aw]
 have s:e m.size=0:=S.cQ.new _ (ad _)
 let⟨u,t2⟩:=S.ext Q
 clear_value o
 refine⟨n,V,u.fZ.an.Pk n x,?_⟩
 intro t
 let⟨v,t3⟩:=u.El n x w
 have s3:t.size=o.size:=aw _ _ _ _
 refine⟨t3.Rm (show m.size<o.size by omega) s,n,V,v.fZ.aR.Pk n y,?_⟩
 intro B
 let⟨E,C⟩:=v.pZ n (by simpa using y) 0
 have s4:B.size=t.size:=aw _ _ _ _
 have I:cR (f.pc+1)=f.pc+1:=aP V V
 rw[I]
 refine⟨C.Rm (show m.size<t.size by omega) s,(jZ E P (f.pc+1)).mono ?_⟩
 rintro _ Y ⟨F,D⟩
 exact⟨D.Rm (show m.size<B.size by omega) s,F,((t2.trans t3).trans C).trans D⟩
def tX(S:ST k e m g bS (SB d p a aW b c) aW b c a.aW a.heap j f r l h q)(ab:j.length<=100000)(n:0<=i)(D:i<f.an.length)(s:i<f.aR.length)(w:Int):
 aM cq 145 [vp g 0,vi i,vi w] m λ_ H=>ST k e H g bS (SB d p a aW b c) aW b c a.aW a.heap j (f.put i w (gF w)) r l h q/\To e m e H:=by
 apply uC (g,0)
 simp -zeta only[aC,aB]
 have G:af m g 8=some (O.v c):=S.cQ.box.bV 8
 have aa:=S.fZ.vU
 have N:cR ((c.len:Int) -1)=(j.length:Int):=by rw[aP V V];omega
 have P:Int.toNat (j.length:Int)=j.length:=V
 let⟨R,g1,g2,T,U,W⟩:=S.fZ.iF
 have ag:r.len=f.an.length:=by have:=S.fZ.an.len;simp at this;omega
 have ac:l.len=f.aR.length:=by have:=S.fZ.aR.len;simp at this;omega
 refine⟨c,G,c,G,?_⟩
 rw[N,P]
 refine⟨V,V,_,R,_,g1,_,g2,r,T,l,U,h,W,?_⟩
 intro m1 o
 have Z:J m o:=((J.aA m).aH _).ag (ad _) _ _
 have s2:o.size=m.size+1:=by simp[o,m1,aw]
 have t:e m.size=0:=S.cQ.new _ (ad _)
 let⟨A,t2⟩:=S.ext Z
 clear_value o
 refine⟨n,V,A.fZ.an.Pk n D,?_⟩
 intro x
 let⟨B,t3⟩:=A.El n D w
 have s3:x.size=o.size:=aw _ _ _ _
 refine⟨t3.Rm (show m.size<o.size by omega) t,n,V,B.fZ.aR.Pk n s,?_⟩
 intro I
 let⟨L,y⟩:=B.pZ n (by simpa using s) 0
 have s4:I.size=x.size:=aw _ _ _ _
 refine⟨y.Rm (show m.size<x.size by omega) t,(fF _ _).mono ?_⟩
 rintro _ m5 ⟨M,rfl,F,E⟩
 let⟨u,z⟩:=L.ext E
 have s5:=E.size
 refine⟨z.Rm (show m.size<I.size by omega) t,M,rfl,λY=>?_,λX=>?_⟩
 .refine⟨n,V,u.fZ.aR.Pk n (by simpa[jW]using s),?_⟩
  intro m6
  let⟨C,K⟩:=u.pZ n (by simpa[jW]using s) 1
  refine⟨K.Rm (show m.size<m5.size by omega) t,?_,(((t2.trans t3).trans y).trans z).trans K⟩
  have Q:gQ (gQ f.aR i 0) i 1=gQ f.aR i 1:=by simp[gQ,XS]
  have v:gF w=1:=by rw[gF,aj (F.1 Y)]
  simp only[Q]at C
  rw[v];exact C
 .refine⟨?_,((t2.trans t3).trans y).trans z⟩
  have v:gF w=0:=by rw[gF,ae (fb F X)]
  rw[v];exact u
def wy:∀(a:List Int)(g:List bP),(jf g a).length=g.length
 |[],g=>rfl
 |w::a,g=>by rw[jf,wy a];simp[mQ]
def Eh:∀(a:List Int)(g:List bP)(w:Int),jf g (a++[w])=mQ (jf g a) w
 |[],g,w=>rfl
 |v::a,g,w=>by rw[cH,jf,Eh a,jf]
def Ak:∀(a:List Int)(g:List bP)(n:Int),(∀c∈g,-10<=c.aQ/\c.aQ<=n)->∀c∈jf g a,-10<=c.aQ/\c.aQ<=n+a.length
 |[],g,n,h,c,b=>by have:=h c b;simp;omega
 |w::a,g,n,h,c,b=>by
  have:=Ak a (mQ g w) (n+1) (λd hd=>by
   rcases nW hd with rfl|⟨i,_,f⟩
   .simp only[aI];cases e:g[ix w]? with
    |none=>
     unfold mQ at hd;rw[rX (List.getElem?_eq_none_iff.1 e)]at hd;have:=h _ hd;simp only[aI,e]at this⊢;omega
    |some x=>have:=h x (ar e);simp only[vJ];omega
   .have:=h d (ar f);omega) c b
  simp only[aV];omega
def Dx(L:qD k e m g bS (SB d p a aW b c) aW b c a.aW a.heap j){u:O}{l:List Int}(v:aq m u l)(P:l≠[]->e u.D=0)(K:∀w∈l,1000<=w/\ix w<a.heap.length)(H:∀h∈a.heap,-10<=h.aQ/\h.aQ<=999999)(Z:l.length<=1000000)(W:a.heap.length<=2000000000):
 aM cq 141 [vp g 0,O.v u] m λ_ s=>dQ k.size e s b (jf a.heap l)/\dz (λf=>f=3) e m e s:=by
 apply vE (g,0)
 have aa:=v.len
 have I:af m g 7=some (O.v b):=L.box.bV 7
 refine fm (n:=l.length) V (λf s=>dQ k.size e s b (jf a.heap (l.take f))/\dz (λf=>f=3) e m e s) ⟨L.heap,dz.aA _ L.new⟩ ?_
 rintro f A S μ X ⟨i,q⟩ R
 refine dit (λF=>?_) λF=>?_
 .let⟨x,r⟩:=cK l f
  let⟨ab,z⟩:=K x (ar r)
  have y:l≠[]:=λB=>by rw[B]at r;simp at r
  have Q:aq A u l:=iO v λ_=>q.dP _ (iP v y) (by rw[P y];decide)
  have w:af A g 7=some (O.v b):=by rw[aL (q.dP _ L.box.lt (by rw[L.NP];decide))];exact I
  have N:=i.len
  rw[wy]at N
  let⟨h,t⟩:=cK (jf a.heap (l.take f)) (ix x) (by rw[wy];exact z)
  obtain⟨T,E,_⟩:=i.bV t
  have M:ix x=(x -1000).toNat:=rfl
  have C:cR (x -1000)=x -1000:=aP V V
  have U:=Ak (l.take f) a.heap 999999 H h (ar t)
  have Y:((l.take f).length:Int)<=1000000:=bI
  have D:cR (h.aQ+1)=h.aQ+1:=aP V V
  refine⟨V,V,x,by simpa using Q.aG r,b,w,b,w,?_⟩
  rw[C,<-M]
  refine⟨V,V,h.aQ,E,V,V,i.wr (o:=0) (by rw[wy];exact z) be,?_⟩
  rw[D]
  let⟨J,G⟩:=i.tP q.new t (h.aQ+1)
  refine R V _ ⟨?_,q.trans G⟩
  rw[bd r,Eh]
  have:aI (jf a.heap (l.take f)) x=h:=by simp[aI,t]
  unfold mQ
  rw[this];exact J
 .rw[cJ V]at i
  exact⟨i,q⟩
def Bp(L:qD k e m g bS (SB d p a aW b c) aW b c a.aW a.heap j){w:Int}(z:gC a.heap w){i:Nat->Int}(q:fN a.heap i)(M:a.heap.length<=2000000000):
 aM cq 188 [vp g 0,vi w] m λD t=>∃h:Bool,D=vb h/\(h=true<->(aI a.heap w).aQ=1)/\dz (λx=>x=3) e m e t/\(h=true->dQ k.size e t b a.heap)/\(h=false->dQ k.size e t b (jf (fu a.heap w) (kZ (aI a.heap w).aN))):=by
 apply uE (g,0)
 let⟨f,ad⟩:=bZ z
 have P:=az f
 have ab:=L.heap.len
 have N:ix w=(w -1000).toNat:=rfl
 have aa:=z.1
 have G:cR (w -1000)=w -1000:=aP V V
 have r:af m g 7=some (O.v b):=L.box.bV 7
 have ac:=(q.cell _ (ar f)).hi
 have H:cR ((aI a.heap w).aQ -1)=(aI a.heap w).aQ -1:=aP V V
 let⟨U,v,g1,g2,W,X⟩:=L.heap.bV f
 rw[G,<-N]
 refine⟨b,r,V,V,_,v,λn=>⟨true,rfl,by simpa using n,dz.aA _ L.new,λ_=>L.heap,sx⟩,λn=>?_⟩
 simp only[ak]at n
 refine⟨b,r,b,r,V,V,_,v,V,V,L.heap.wr (o:=0) P be,?_⟩
 rw[H]
 intro m1
 let⟨y,l⟩:=L.heap.tP L.new f ((aI a.heap w).aQ -1)
 let⟨I,k0,k1,T,kf,kr⟩:=y.bV (eH f)
 let⟨u,t1⟩:=L.gD (l.mono λx A=>Or.inl A) y
 have Z:=(q.cell _ (ar f)).fl
 refine⟨b,u.box.bV 7,V,V,I,T,?_⟩
 refine(oU kf (by simp only[];omega)).then (by have:=od (aI a.heap w).aN;simp only[];omega) λC m2 o2 B x=>⟨C,rfl,?_⟩
 let⟨E,t2⟩:=u.ext x
 have R:kZ (aI a.heap w).aN≠[]->e C.D=0:=λQ=>by
  rcases o2.D with i|i
  .subst i;have:=B.len;simp at this;exact absurd (List.length_eq_zero_iff.1 this.symm) Q
  .exact l.new _ i
 have:=od (aI a.heap w).aN
 refine(Dx (a:={a with heap:=fu a.heap w}) (j:=j) E B R (λD S=>?_) (λF J=>?_) (by simp only[];omega) (by simpa[fu]using M)).mono ?_
 .let⟨K,A⟩:=lG.1 S
  exact⟨A,by simpa[fu]using az (bZ (q.field (ar f) K A)).1⟩
 .rcases nW J with rfl|⟨h,_,A⟩
  .simp only[];omega
  .have:=q.cell F (ar A);have K:=this.lo;have Y:=this.hi;omega
 .rintro _ Y ⟨K,A⟩
  exact⟨false,rfl,by simpa using n,(l.trans (dz.eT _ x l.new)).trans A,sx,λ_=>K⟩
end
end
section
variable{q:Nat->Nat}{c:E}{e:Nat}{g:List Ce}{x:Instr}{a j:O}{b:Int}
def zy(c:Nat->Nat)(m:E)(a:List Nat):Prop:=∀b∈a,b<m.size/\c b=0
def zy.to{p:Nat->Prop}{e:Nat->Nat}{m:E}{d:List Nat}(h:zy e m d)(t:dz p e m q c):zy q c d:=λb a=>⟨aO (h b a).1 t.size,by rw[t.jc b (h b a).1];exact(h b a).2⟩
def dz.dK{b:Nat->Nat}{m:E}(t:To b m q c){a:List Nat}(h:zy b m a):dY a m c:=t.dv h
def zy.Kh{f:Nat->Nat}{m d e:E}(c:∀b,m.size<=b->f b=0)(g:d.size=m.size+1)(h:e.size=m.size+2):zy f e [d.size,m.size]:=λb a=>by
 simp at a;rcases a with rfl|rfl
 .exact⟨V,c _ V⟩
 .exact⟨V,c _ V⟩
noncomputable def nI (s:St) (a:List aU) (f:aU) (x:Instr) (t:Int):St:=
 open Classical in
 if x.bM≠0/\aG f.aY (x.bM -1)≠0 then
  {s with heap:=s.heap.set (ix (aG f.aY (x.bM -1))) ⟨1,t,cN f x.args⟩,av:=a++[aU.put {f with pc:=f.pc+1,aY:=gQ f.aY (x.bM -1) 0} x.dst (aG f.aY (x.bM -1)) 1]}
 else{s with heap:=je s.heap (dF s.heap) ⟨1,t,cN f x.args⟩,av:=a++[aU.put {f with pc:=f.pc+1} x.dst (1000+dF s.heap) 1]}
section
variable{F:E}{A:Nat->Nat}{v:E}{D:Nat}{d p aW y B:O}{u:St}{C:List aU}{t:aU}{r z h:O}{G:List (List Ce)}
def ST.Am{b:List Int}{a:List bP}(S:ST F A v D e g aW y B b a C t r z h G)(c:t.an.length<=1000000):aq v r t.an:=S.fZ.an.nU V
def ST.Jl{b:List Int}{a:List bP}(S:ST F A v D e g aW y B b a C t r z h G)(c:t.aR.length<=1000000):aq v z t.aR:=S.fZ.aR.nU V
def ST.Q9{b:List Int}{a:List bP}(S:ST F A v D e g aW y B b a C t r z h G)(c:t.aY.length<=1000000):aq v h t.aY:=S.fZ.aY.nU V
def uU(S:ST F A v D bS (SB d p u aW y B) aW y B u.aW u.heap C t r z h G)(ha:aq F a x.args)(ah:∀b∈x.args,0<=b/\b<t.an.length)(au:x.args.length<=4)(g:Int)
 (az:t.an.length=t.aR.length/\t.aY.length=t.aR.length/\t.aR.length<=2000)(ai:0<=x.dst/\x.dst<t.aR.length)(ay:0<=x.bM/\x.bM<=t.aY.length)(aA:0<=t.pc/\t.pc<=100000)(ab:C.length<=100000)(aw:u.heap.length<=1000000000)
 (al:∀w∈t.aY,w≠0->1000<=w/\ix w<u.heap.length):
 aM cq 137 [vp D 0,fv t r z h,xv x a j,vi g] v λ_ c=>Cd F A v D d p (nI u C t x g) c:=by
 apply sD (D,0)
 simp -zeta only[aC,aB]
 intro w E
 have ao:J v E:=((J.aA v).aH _).aH _
 have s1:w.size=v.size+1:=by simp[w]
 have s2:E.size=v.size+2:=by simp[E,s1]
 have T:=zy.Kh S.cQ.new s1 s2
 let⟨I,t2⟩:=S.ext ao
 clear_value E
 have ax:h.len=t.aY.length:=by have:=S.fZ.aY.len;simp at this;omega
 have q:∀{A v t},ST F A v D bS (SB d p u aW y B) aW y B u.aW u.heap C t r z h G->af v D 7=some (O.v y):=λS=>S.cQ.box.bV 7
 refine⟨y,q I,(Gw (I.cQ.heap.cells V)).mono ?_⟩
 rintro _ L ⟨rfl,ac⟩
 let⟨o,t3⟩:=I.ext ac
 have H:=T.to t3
 refine⟨t3.dK T,_,rfl,λaa c=>∃(b:Nat)(e:aU),aa=b/\ST F A c D bS (SB d p u aW y B) aW y B u.aW u.heap C e r z h G/\To A v A c/\zy A c [w.size,v.size]/\b<=u.heap.length/\
  e.an=t.an/\e.aR=t.aR/\e.pc=t.pc/\nI u C t x g={u with heap:=je u.heap b ⟨1,g,cN t x.args⟩,av:=C++[aU.put {e with pc:=t.pc+1} x.dst (1000+b) 1]},?_,?_⟩
 .have none:¬(x.bM≠0/\aG t.aY (x.bM -1)≠0)->∃(b:Nat)(e:aU),((dF u.heap:Nat):Int)=b/\ST F A L D bS (SB d p u aW y B) aW y B u.aW u.heap C e r z h G/\To A v A L/\zy A L [w.size,v.size]/\b<=u.heap.length/\
   e.an=t.an/\e.aR=t.aR/\e.pc=t.pc/\nI u C t x g={u with heap:=je u.heap b ⟨1,g,cN t x.args⟩,av:=C++[aU.put {e with pc:=t.pc+1} x.dst (1000+b) 1]}:=λU=>
   ⟨_,t,rfl,o,t2.trans t3,H,qK _,rfl,rfl,rfl,by rw[nI,ae U]⟩
  refine⟨λK=>?_,λK=>none λP=>by simp at K;omega⟩
  simp at K
  have Q:cR (x.bM -1)=x.bM -1:=aP V V
  rw[Q]
  have k:0<=x.bM -1/\x.bM -1<t.aY.length:=V
  have N:=(o.Q9 V).pN k.1 k.2
  refine⟨V,V,_,N,λm=>?_,λm=>none λP=>by simp at m;exact P.2 m⟩
  simp at m
  let⟨W,Y⟩:=al _ (fq k.1 k.2) m
  refine⟨V,V,_,N,V,V,o.fZ.aY.Pk k.1 k.2,?_⟩
  intro M
  let⟨l,n⟩:=o.BW k.1 k.2 0
  have X:ix (aG t.aY (x.bM -1))=(aG t.aY (x.bM -1) -1000).toNat:=rfl
  have R:cR (aG t.aY (x.bM -1) -1000)=((ix (aG t.aY (x.bM -1)):Nat):Int):=by rw[aP V V];omega
  refine⟨n.dK H,ix (aG t.aY (x.bM -1)),_,R,l,(t2.trans t3).trans n,H.to n,V,rfl,rfl,rfl,?_⟩
  rw[nI,aj ⟨V,m⟩,je,ae V,iV W]
 .rintro aa M ⟨b,e,rfl,l,n,U,ag,m,eo,ep,ec⟩
  have ap:J F M:=l.cQ.cv
  have am:aq M r t.an:=m▸l.Am (by rw[m];omega)
  refine⟨y,q l,(sF (f:=t) am (ha.ext ap) ah V).mono ?_⟩
  rintro _ m5 ⟨ws,rfl,ow,ad⟩
  let⟨k,N⟩:=l.ext ad
  have W:=U.to N
  have an:(cN t x.args).length<=1000000000:=by simp[cN];omega
  have iw:aq m5 ws (cN t x.args):=aq.gK ow V
  refine⟨N.dK U,ws,rfl,by rw[q k,q l],(Nf k.cQ.heap k.cQ.new ag g iw V an k.cQ.cv.size).mono ?_⟩
  rintro _ m6 ⟨ar,K,rfl,ak,c6⟩
  let⟨Z,P⟩:=k.gD c6 ak
  have X:=W.to P
  refine⟨P.dK W,K,rfl,Z.cQ.mE (i:=7) aJ,?_⟩
  intro m7
  let⟨S7,Q⟩:=Z.jw 7 [.s K]
  have Y:=X.to Q
  have e3:cR (1000+(b:Int))=1000+(b:Int):=aP V V
  have e4:cR (t.pc+1)=t.pc+1:=aP V V
  rw[e3,e4]
  refine⟨Q.dK X,(tX (a:={u with heap:=je u.heap b ⟨1,g,cN t x.args⟩}) S7 ab ai.1 (by rw[m];omega) (by rw[eo];omega) (1000+b)).mono ?_⟩
  rintro _ m8 ⟨S8,R⟩
  refine⟨R.dK Y,(jZ (a:={u with heap:=je u.heap b ⟨1,g,cN t x.args⟩}) S8 ab (t.pc+1)).mono ?_⟩
  rintro _ m9 ⟨S9,t9⟩
  refine⟨t9.dK (Y.to R),ar,aW,K,B,?_,((((n.trans N).trans P).trans Q).trans R).trans t9⟩
  rw[ec]
  have e5:gF (1000+(b:Int))=1:=by rw[gF,aj V]
  have:=S9.cQ
  rw[e5]at this
  exact this
def sQ:∀(a aR:List Int)(r:Int),dE aR (a++[r])=gQ (dE aR a) r (aG (dE aR a) r+1)
 |[],aR,r=>rfl
 |q::a,aR,r=>by rw[cH,dE,sQ a,dE]
def Fx{l:List Int}{i:Int}(h:∀z∈l,0<=z/\z<=b)(d:0<=b):0<=aG l i/\aG l i<=b:=by
 rcases aZ i.toNat l.length with a|a
 .let⟨y,c⟩:=dZ a;rw[DM c];exact h y (ar c)
 .rw[aG,fS,cZ a];simp;omega
def qX:∀(c aR:List Int)(b:Int),0<=b->(∀z∈aR,0<=z/\z<=b)->∀z∈dE aR c,0<=z/\z<=b+c.length
 |[],aR,b,e,h,z,d=>by have:=h z d;simp;omega
 |r::c,aR,b,e,h,z,d=>by
  have:=qX c (gQ aR r (aG aR r+1)) (b+1) V (λq a=>by
   have:=Fx (i:=r) h e;rcases pT a with a|a
   .omega
   .have:=h q a;omega) z d
  simp only[aV];omega
noncomputable def tI (u:St) (C:List aU) (t:aU) (x:Instr):St:=
 open Classical in
 if(aI u.heap (aG t.an (aG x.args 0))).aQ=1/\x.op=17 then
  {u with heap:=u.heap.set (ix (aG t.an (aG x.args 0))) ⟨-1,0,df (aI u.heap (aG t.an (aG x.args 0))).aN.length⟩,av:=C++[{t with aR:=dE t.aR (x.args.drop 1),pc:=t.pc+1,aY:=gQ t.aY (aG x.args 0) (aG t.an (aG x.args 0))}]}
 else{u with heap:=apart u.heap (aG t.an (aG x.args 0)),av:=C++[{t with aR:=dE t.aR (x.args.drop 1),pc:=t.pc+1}]}
def ud(b:Nat):nF [.i (0:Int)] b=(df b).map Ce.i:=by
 induction b with
 |zero=>rfl
 |succ b a=>
  have:nF [.i (0:Int)] (b+1)=.i 0::nF [.i (0:Int)] b:=by simp[nF,qW]
  rw[this,a];simp[df,qW]
def rp{v:E}(a:0<=b)(e:b<=1000000):aM cq 191 [vi b] v λd c=>d=O.v (.mk v.size 0 b.toNat b.toNat)/\c=v.push (.cells (bA ((df b.toNat).map Ce.i)) aD):=by
 apply IK;refine⟨a,cX _,V,V,?_⟩;rw[ud];exact⟨rfl,rfl⟩
def NY{v:E}(b:Nat):gY v (v.push (.cells (bA ((df b).map Ce.i)) aD)) aD 1 (.mk v.size 0 b b) ((df b).map Ce.i):=gY.new (J.aA v) aD 1 _ b (by simp[kv])
def Iy(S:ST F A v D bS (SB d p u aW y B) aW y B u.aW u.heap C t r z h G)(ha:aq F a x.args)(ao:∀g∈x.args,0<=g/\g<t.an.length)(aL:1<=x.args.length/\x.args.length<=4)(a1:x.op=16\/x.op=17)
 (aX:t.an.length=t.aR.length/\t.aY.length=t.aR.length/\t.aR.length<=2000)(a2:0<=t.pc/\t.pc<=100000)(am:C.length<=100000)(aQ:u.heap.length<=1000000000)(aH:∀Q∈t.aR,0<=Q/\Q<=999999)
 (ai:gC u.heap (aG t.an (aG x.args 0))){e:Nat->Int}(hI:fN u.heap e):
 aM cq 144 [vp D 0,fv t r z h,xv x a j] v λ_ c=>Cd F A v D d p (tI u C t x) c:=by
 apply td (D,0)
 simp -zeta only[aC,aB]
 intro m1 m2
 have aK:J v m2:=((J.aA v).aH _).aH _
 have s1:m1.size=v.size+1:=by simp[m1]
 have s2:m2.size=v.size+2:=by simp[m2,s1]
 have B2:=zy.Kh S.cQ.new s1 s2
 let⟨S2,t2⟩:=S.ext aK
 clear_value m2
 have a4:r.len=t.an.length:=by have:=S.fZ.an.len;simp at this;omega
 have a0:z.len=t.aR.length:=by have:=S.fZ.aR.len;simp at this;omega
 have aS:h.len=t.aY.length:=by have:=S.fZ.aY.len;simp at this;omega
 have aN:=ha.len
 have H:0<=aG x.args 0/\aG x.args 0<t.an.length:=ao _ (fq V V)
 have ga:∀{c},J F c->∀{b:Nat}{g},x.args[b]? =some g->af c a.D (a.off+Int.toNat (b:Int)*1)=some (vi g):=λhx b g W=>by simpa using(ha.ext hx).aG W
 refine⟨V,V,aG x.args 0,(ha.ext S2.cQ.cv).pN V V,H.1,V,aG t.an (aG x.args 0),(S2.Am V).pN H.1 H.2,?_⟩
 refine⟨λak c=>∃b:Nat,ak=b/\1<=b/\b<=x.args.length/\ST F A c D bS (SB d p u aW y B) aW y B u.aW u.heap C {t with aR:=dE t.aR ((x.args.take b).drop 1)} r z h G/\To A v A c/\zy A c [m1.size,v.size],λak _=>((x.args.length:Int) -ak).toNat,⟨1,rfl,V,V,?_,t2,B2⟩,?_⟩
 .have e1:(x.args.take 1).drop 1=[]:=aJ
  rw[e1];exact S2
 rintro ak m3 ⟨b,rfl,aT,aU,I,t3,Y⟩
 have aF:∀Q∈dE t.aR ((x.args.take b).drop 1),0<=Q/\Q<=1000010:=λQ hq=>by
  have:=qX _ t.aR 999999 V aH Q hq;have h3:((x.args.take b).drop 1).length<=4:=bI;omega
 refine dit (λh1=>?_) λh1=>?_
 .let⟨g,W⟩:=cK x.args b
  have K:=ao g (ar W)
  have M:g<(dE t.aR ((x.args.take b).drop 1)).length:=by rw[lR];omega
  have hb:=Fx (i:=g) aF V
  refine⟨V,V,g,ga I.cQ.cv W,V,V,g,ga I.cQ.cv W,K.1,V,_,(I.Jl (by simp only[lR];omega)).pN K.1 M,K.1,V,I.fZ.aR.Pk K.1 M,?_⟩
  intro q
  have N:cR (aG (dE t.aR ((x.args.take b).drop 1)) g+1)=aG (dE t.aR ((x.args.take b).drop 1)) g+1:=aP V V
  let⟨E,L⟩:=I.pZ K.1 M (aG (dE t.aR ((x.args.take b).drop 1)) g+1)
  have P:q=ag m3 z.D (z.off+g.toNat*1) [.i (aG (dE t.aR ((x.args.take b).drop 1)) g+1)]:=by simp only[q,N]
  clear_value q
  subst P
  refine⟨L.dK Y,?_,?_⟩
  .rw[kX (k:=b) (n:=x.args.length) V V]
   refine⟨b+1,rfl,V,V,?_,t3.trans L,Y.to L⟩
   have e4:(x.args.take (b+1)).drop 1=(x.args.take b).drop 1++[g]:=by
    rw[bd W,List.drop_append_of_le_length bI]
   rw[e4,sQ]
   exact E
  .rw[kX (k:=b) (n:=x.args.length) V V]
   show((x.args.length:Int) -((b+1:Nat):Int)).toNat<((x.args.length:Int) -(b:Int)).toNat
   omega
 .have e1:(x.args.take b).drop 1=x.args.drop 1:=by rw[cJ V]
  rw[e1]at I
  have a5:=iV ai.1
  let⟨al,a3⟩:=bZ ai
  have ah:=az al
  have aZ:=I.cQ.heap.len
  have e4:cR (t.pc+1)=t.pc+1:=aP V V
  have aV:=ai.1
  have aE:ix (aG t.an (aG x.args 0))=(aG t.an (aG x.args 0) -1000).toNat:=rfl
  have e5:cR (aG t.an (aG x.args 0) -1000)=aG t.an (aG x.args 0) -1000:=aP V V
  rw[e4,e5,<-aE]
  generalize hw:aG t.an (aG x.args 0)=w at*
  have gw:∀{A v lh own' held'},ST F A v D bS (SB d p u aW y B) aW y B u.aW lh C {t with aR:=own',aY:=held'} r z h G->af v r.D (r.off+Int.toNat (aG x.args 0)*1)=some (vi w):=λS=>by rw[<-hw];exact(S.Am (by simp only[];omega)).pN H.1 H.2
  refine⟨H.1,V,w,gw I,(Bp I.cQ ai hI V).mono ?_⟩
  rintro _ q ⟨aw,rfl,hb,c4,aA,ay⟩
  refine⟨(c4.mono λb N=>by omega:To A m3 A q).dK Y,aw,rfl,λau=>?_,λap=>?_⟩
  .have ac:=hb.1 au
   let⟨E,L⟩:=I.gD (c4.mono λb N=>Or.inl N) (aA au)
   have B4:=Y.to L
   have g7:af q D 7=some (O.v y):=E.cQ.box.bV 7
   refine⟨λaa=>?_,λaa=>?_⟩
   .simp at aa
    let⟨f0,k0,k1,k2,kf,kr⟩:=E.cQ.heap.bV al
    have ax:=(hI.cell _ (ar al)).fl
    have aO:=kf.len
    refine⟨y,g7,y,g7,V,V,f0,k2,(rp V V).mono ?_⟩
    rintro _ m5 ⟨rfl,rfl⟩
    have e6:Int.toNat (f0.len:Int)=(aI u.heap w).aN.length:=V
    rw[e6]
    have ab:J q (q.push (.cells (bA ((df (aI u.heap w).aN.length).map Ce.i)) aD)):=J.push _ _
    have oz:=NY (v:=q) (aI u.heap w).aN.length
    let⟨K,M⟩:=E.ext ab
    have Z:=B4.to M
    have av:A q.size=0:=E.cQ.new _ (ad _)
    generalize q.push (.cells (bA ((df (aI u.heap w).aN.length).map Ce.i)) aD)=m5 at*
    let⟨an,c6⟩:=K.cQ.heap.setCell K.cQ.new ah (-1) 0 (f:=.mk q.size 0 _ _) (aq.gK oz (by rw[kv];omega)) (Sv.of E.cQ.heap (λH=>ab.same _ (E.cQ.heap.D H).2) (λ_=>oz) (λ_=>av) E.cQ.cv.size)
    refine⟨M.dK B4,_,rfl,ab.cr g7,V,V,K.cQ.heap.wr (o:=0) ah be,?_⟩
    intro m6
    let⟨P,R⟩:=K.gD (c6.mono λb N=>Or.inl N) an
    have B6:=Z.to R
    refine⟨R.dK Z,H.1,V,w,gw P,H.1,V,P.fZ.aY.Pk H.1 (by simp only[];omega),?_⟩
    intro m7
    let⟨U,T⟩:=P.BW H.1 (by simp only[];omega) w
    refine⟨T.dK B6,(jZ (a:={u with heap:=u.heap.set (ix w) ⟨-1,0,df (aI u.heap w).aN.length⟩}) U am (t.pc+1)).mono ?_⟩
    rintro _ m8 ⟨S8,X⟩
    refine⟨X.dK (B6.to T),A,aW,y,B,?_,(((((t3.trans L).trans M).trans R).trans T).trans X)⟩
    rw[tI,hw,aj ⟨ac,aa⟩]
    exact S8.cQ
   .simp at aa
    refine⟨y,g7,?_⟩
    intro m5
    have ab:J q m5:=(J.aA q).aH _
    let⟨K,M⟩:=E.ext ab
    have Z:=B4.to M
    clear_value m5
    refine⟨V,V,K.cQ.heap.wr (o:=0) ah be,?_⟩
    intro m6
    let⟨an,c6⟩:=K.cQ.heap.setCell K.cQ.new ah 0 0 (f:=.mk q.size 0 0 0) (l:=[]) ⟨rfl,aJ,aJ,aJ⟩ (λav=>absurd rfl av)
    let⟨P,R⟩:=K.gD (c6.mono λb N=>Or.inl N) an
    have B6:=Z.to R
    refine⟨R.dK Z,y,P.cQ.box.bV 7,(xY (P.cQ.heap.cells bI)).mono ?_⟩
    rintro _ m7 ⟨rfl,ax⟩
    let⟨U,T⟩:=P.ext ax
    have B7:=B6.to T
    refine⟨T.dK B6,_,rfl,U.cQ.mE (i:=7) aJ,?_⟩
    intro m8
    obtain⟨av,aO⟩:=U.gD (dz.aA _ U.cQ.new) (U.cQ.heap.cut (ub _ _))
    obtain⟨S8,X⟩:=av.jw 7 [.s (y.cut 0 (ji (u.heap.set (ix w) jb) (u.heap.set (ix w) jb).length) 3)]
    refine⟨X.dK B7,(jZ (a:={u with heap:=nt (u.heap.set (ix w) jb)}) S8 am (t.pc+1)).mono ?_⟩
    rintro _ m9 ⟨S9,t9⟩
    refine⟨t9.dK (B7.to X),A,aW,y.cut 0 (ji (u.heap.set (ix w) jb) (u.heap.set (ix w) jb).length) 3,B,?_,((((((t3.trans L).trans M).trans R).trans T).trans X).trans t9)⟩
    rw[tI,hw,ae (λhh=>aa hh.2),Go.Proofs.YtkoifinbblcbiaaGreat.apart,aj ac]
    exact S9.cQ
  .have ac:(aI u.heap w).aQ≠1:=λe=>by have:=hb.2 e;rw[ap]at this;simp at this
   let⟨E,L⟩:=I.gD (c4.mono λb N=>Or.inl N) (ay ap)
   refine(jZ (a:={u with heap:=jf (fu u.heap w) (kZ (aI u.heap w).aN)}) E am (t.pc+1)).mono ?_
   rintro _ m5 ⟨K,M⟩
   refine⟨M.dK (Y.to L),A,aW,y,B,?_,(t3.trans L).trans M⟩
   rw[tI,hw,ae (λhh=>ac hh.1),Go.Proofs.YtkoifinbblcbiaaGreat.apart,ae ac]
   exact K.cQ
end
end
section
variable{e:cp}{c:Instr}{j:O}{l:List Int}{g b1 b2 b3 k:Nat}{b:E}
def iG(e:cp)(c:Instr):Nat->List Int->List Int
 |_,[]=>[]
 |k,w::j=>(if(c.op=9\/c.op=24)/\nJ e c k=true then 0 else gF w)::iG e c (k+1) j
def Du(e:cp)(c:Instr):∀(l r:List Int)(k:Nat),iG e c k (l++r)=iG e c k l++iG e c (k+l.length) r
 |[],r,k=>by simp[iG]
 |b::l,r,k=>by
  have:=Du e c l r (k+1);simp only[cH,iG,this,aV];have a:k+(l.length+1)=k+1+l.length:=V;rw[a]
def Ed(e:cp)(c:Instr):∀(l:List Int)(k:Nat),(iG e c k l).length=l.length
 |[],k=>rfl
 |a::l,k=>by simp only[iG,aV,Ed e c l]
def Jk{e:cp}{c:Instr}(a:c.op=9\/c.op=24):∀(l:List Int)(k:Nat),iG e c k l=dH (dC e c.bQ).cO k l
 |[],k=>rfl
 |d::l,k=>by
  simp only[iG,dH,Jk a l];congr 1;unfold nJ;by_cases h:((dC e c.bQ).cO.any λy=>y==(k:Int))=true
  .rw[aj ⟨a,h⟩,aj h]
  .rw[ae (λb=>h b.2),ae h]
def Gi{e:cp}{c:Instr}(a:¬(c.op=9\/c.op=24)):∀(l:List Int)(k:Nat),iG e c k l=dH [] k l
 |[],k=>rfl
 |d::l,k=>by
  simp only[iG,dH,Gi a l,QE,ig,qv];rw[ae (λb=>a b.1)]
def EP{m:E}{p:Nat}{r A:O}(aa:eW m r A e)(T:af m p 0=some (O.v r))(g1:af m p 1=some (O.v A))(Z:zA e c)(D P:O)(K:aq m j l)(ac:l.length<=1000000):
 oI 190 [vp p 0,xv c D P,O.v j] m (iG e c 0 l):=by
 apply rT (p,0)
 simp -zeta only[aC,aB]
 intro a y
 have w:J m a:=(J.aA m).aH _
 have W:J a y:=(J.aA a).aH _
 have ho:gY a y aD 1 (.mk a.size 0 0 0) []:=gY.new (J.aA a) aD 1 [] 0 aJ
 have f:∀q∈[m.size],q<a.size:=by simp[a]
 have ad:=K.len
 clear_value y
 clear_value a
 refine dV (n:=l.length) V (λk B b=>J a b/\gY a b aD 1 B ((iG e c 0 (l.take k)).map Ce.i)) ⟨W,by simpa[iG]using ho⟩ ?_
 rintro k B m3 ab μ hk ⟨L,g⟩ z
 have M:=w.trans L
 refine dit (λU=>?_) λU=>?_
 .let⟨C,N⟩:=cK l k
  have I:(l.take k).length=k:=bI
  have v:iG e c 0 (l.take (k+1))=iG e c 0 (l.take k)++[if(c.op=9\/c.op=24)/\nJ e c k=true then 0 else gF C]:=by
   rw[bd N,Du,I];simp[iG]
  have u:(iG e c 0 (l.take k)).length<1000000000:=by rw[Ed,I];omega
  refine⟨V,V,C,by simpa using M.af (K.aG N),(fF _ _).aK L f λq m4 G s i=>⟨q,rfl,λY=>?_,λX=>?_⟩⟩
  .have x:=w.trans i
   refine⟨r,x.af T,A,x.af g1,(sC (aa.ext x) Z D P k).aK i f λb2 m5 H F o=>⟨b2,rfl,λt=>?_,λt=>?_⟩⟩
   .intro Q
    refine nY ((g.ext s).ext F) o u λS R h d=>⟨J.tO (o.aH _) d f,z V _ _ ⟨d,?_⟩⟩
    rw[v,ae (nb H t),gF,aj (G.1 Y)];exact h
   .intro Q
    refine nY ((g.ext s).ext F) o u λS R h d=>⟨J.tO (o.aH _) d f,z V _ _ ⟨d,?_⟩⟩
    rw[v,aj (yb H t)];exact h
  .intro Q
   refine nY (g.ext s) i u λS R h d=>⟨J.tO (i.aH _) d f,z V _ _ ⟨d,?_⟩⟩
   rw[v]
   have o:(if(c.op=9\/c.op=24)/\nJ e c k=true then 0 else gF C)=0:=by
    rw[gF,ae (fb G X)];split<;>rfl
   rw[o];exact h
 .rw[cJ V]at g
  exact⟨B,rfl,g.cv w.size,M⟩
structure pG(m b:E)(b1 b2 b3 g:Nat)(an aR aY:List Int):Prop where
 ext:J m b
 lo:m.size<=b1/\m.size<=b2/\m.size<=b3/\b1≠b2/\b1≠b3/\b2≠b3/\b1<b.size/\b2<b.size/\b3<b.size
 kr:cx b b1 aD (an.map Ce.i)
 ko:cx b b2 aD (aR.map Ce.i)
 kh:cx b b3 aD (aY.map Ce.i)
 len:an.length=g/\aR.length=g/\aY.length=g
def KT{a:E}{b:Nat}(d:cx a b aD ((df g).map Ce.i))(f:l.length<=g):cx (ag a b 0 (l.map Ce.i)) b aD ((l++df (g -l.length)).map Ce.i):=by
 have:=cx.ag (m:=a) (o:=0) (r:=l.map Ce.i) d;have e:js ((df g).map Ce.i) 0 (l.map Ce.i)=(l++df (g -l.length)).map Ce.i:=by
  have c:=BY [] (l.map Ce.i) ((df g).map Ce.i) (by simp[kv];omega);simp only[dX,eU]at c;rw[c];simp[df,List.drop_replicate]
 rw[e]at this;exact this
def yx{m:E}{H R:O}(K:eW m H R e){r:Int}(S:0<=r){q:dA}(M:e.cB[r.toNat]? =some q)(C:0<=q.an/\q.an<=2000)(I:Int){G:O}{d h:List Int}(N:aq m j d)(L:aq m G h)(ag:(d.length:Int)<=q.an)(ae:h.length=d.length):
 aM cq 159 [.agg #[O.v H,O.v R],vi r,vi I,O.v j,O.v G] m λab b=>∃b1 b2 b3,ab=.agg #[vi r,vi 0,vi I,O.v (.mk b1 0 q.an.toNat q.an.toNat),O.v (.mk b2 0 q.an.toNat q.an.toNat),O.v (.mk b3 0 q.an.toNat q.an.toNat)]/\
  pG m b b1 b2 b3 q.an.toNat (d++df (q.an.toNat -d.length)) (h++df (q.an.toNat -h.length)) (df q.an.toNat):=by
 apply EE
 simp -zeta only[aC,aB]
 intro x a
 have w:J m a:=((J.aA m).aH _).aH _
 have s1:x.size=m.size+1:=by simp[x]
 have s2:a.size=m.size+2:=by simp[a,s1]
 have k:∀g∈[x.size,m.size],g<a.size:=bI
 have af:=K.cB.len
 have ac:=az M
 have X:=N.len
 have W:=L.len
 clear_value a
 obtain⟨a',l',c',_,_,_,_,_,_,k3,_⟩:=(K.ext w).cB.aG M
 refine⟨S,V,q.an,k3,(rp C.1 V).mono ?_⟩
 rintro _ c ⟨rfl,n⟩
 have z:J a c:=by rw[n];exact J.push _ _
 have s3:c.size=a.size+1:=by rw[n];simp
 have P:cx c a.size aD ((df q.an.toNat).map Ce.i):=by rw[n];exact cx.push _ _ _
 clear n
 refine⟨z.dv k,_,rfl,(rp C.1 V).mono ?_⟩
 rintro _ y ⟨rfl,o⟩
 have u:J c y:=by rw[o];exact J.push _ _
 have s4:y.size=c.size+1:=by rw[o];simp
 have Z:cx y c.size aD ((df q.an.toNat).map Ce.i):=by rw[o];exact cx.push _ _ _
 clear o
 have A:=z.trans u
 have T:min j.len q.an.toNat=d.length:=by rw[X];exact jd V
 have U:min G.len q.an.toNat=h.length:=by rw[W];exact jd V
 refine⟨u.dv (λg B=>z.lt (k g B)),_,rfl,d.map Ce.i,by simp only[O.iS];rw[T];simp,(N.ext (w.trans A)).HY,(P.ext u).eC (by simp[kv];omega),?_⟩
 intro i
 have k5:cx i a.size aD ((d++df (q.an.toNat -d.length)).map Ce.i):=KT (P.ext u) V
 have Q:cx i c.size aD ((df q.an.toNat).map Ce.i):=Z.congr (bo _ _ _ _ (show c.size≠a.size by omega))
 have s:J a i:=A.ag (ad _) _ _
 have s5:i.size=y.size:=aw _ _ _ _
 clear_value i
 refine⟨J.tO A s k,h.map Ce.i,by simp only[O.iS];rw[U];simp,(L.ext (w.trans s)).HY,Q.eC (by simp[kv];omega),?_⟩
 intro f
 have k6:cx f c.size aD ((h++df (q.an.toNat -h.length)).map Ce.i):=KT Q V
 have aa:cx f a.size aD ((d++df (q.an.toNat -d.length)).map Ce.i):=k5.congr (bo _ _ _ _ (show a.size≠c.size by omega))
 have t:J a f:=s.ag (show a.size<=c.size by omega) _ _
 have s6:f.size=i.size:=aw _ _ _ _
 clear_value f
 refine⟨J.tO s t k,(rp C.1 V).mono ?_⟩
 rintro _ l ⟨rfl,p⟩
 have v:J f l:=by rw[p];exact J.push _ _
 have s7:l.size=f.size+1:=by rw[p];simp
 have k7:cx l f.size aD ((df q.an.toNat).map Ce.i):=by rw[p];exact cx.push _ _ _
 clear p
 refine⟨J.tO t (t.trans v) k,_,rfl,?_⟩
 intro D
 have Y:J m D:=(w.trans (t.trans v)).ag V _ _
 have s8:D.size=l.size:=aw _ _ _ _
 have F:∀g,g≠x.size->D[g]? =l[g]? :=λg B=>bo _ _ _ _ B
 refine⟨a.size,c.size,f.size,rfl,Y,V,(aa.ext v).congr (F _ V),(k6.ext v).congr (F _ V),k7.congr (F _ V),by simp[kv];omega⟩
def mK(a:Nat->Nat)(b1 b2 b3 g:Nat):Nat->Nat:=pw (pw (pw a b1 (10+3*g)) b2 (11+3*g)) b3 (12+3*g)
def pG.eY{p:Nat->Prop}{d:Nat->Nat}{m:E}{an aR aY:List Int}(N:pG m b b1 b2 b3 k an aR aY)(e:∀a,m.size<=a->d a=0):dz p d m (mK d b1 b2 b3 g) b:=by
 have f:=N.lo;refine⟨N.ext.size,λa c=>?_,λa c=>?_,λa c _=>N.ext.same a c⟩
 .unfold mK;rw[ez V,ez V,ez V]
 .unfold mK;rw[ez V,ez V,ez V];exact e a (oh N.ext.size)
def pG.pD{a:Nat->Nat}{m:E}{an aR aY:List Int}(N:pG m b b1 b2 b3 k an aR aY):
 iz (mK a b1 b2 b3 g) b aD 1 (10+3*g) (.mk b1 0 k k) (an.map Ce.i)/\iz (mK a b1 b2 b3 g) b aD 1 (11+3*g) (.mk b2 0 k k) (aR.map Ce.i)/\iz (mK a b1 b2 b3 g) b aD 1 (12+3*g) (.mk b3 0 k k) (aY.map Ce.i):=by
 have f:=N.lo
 let⟨c,d,e⟩:=N.len
 refine⟨⟨by simp[c],aJ,Or.inr ⟨b1,k,[],rfl,?_,by rw[dN];exact N.kr,by simp[c]⟩⟩,⟨by simp[d],aJ,Or.inr ⟨b2,k,[],rfl,?_,by rw[dN];exact N.ko,by simp[d]⟩⟩,⟨by simp[e],aJ,Or.inr ⟨b3,k,[],rfl,?_,by rw[dN];exact N.kh,by simp[e]⟩⟩⟩
 .unfold mK;rw[ez V,ez V,fR]
 .unfold mK;rw[ez V,fR]
 .unfold mK;rw[fR]
def pG.box{m:E}{an aR aY:List Int}(N:pG m b b1 b2 b3 k an aR aY){m1:E}(a:J m1 m){nb:Nat}(d:m1.size<=nb)(e:nb<m.size)(i:Nat)(c:List Ce):pG m1 (ag b nb i c) b1 b2 b3 k an aR aY:=by
 have f:=N.lo;have g:=a.size;exact⟨(a.trans N.ext).ag d _ _,by rw[aw];omega,N.kr.congr (bo _ _ _ _ V),N.ko.congr (bo _ _ _ _ V),N.kh.congr (bo _ _ _ _ V),N.len⟩
def pG.PQ{m c:E}{an aR aY:List Int}(N:pG m b b1 b2 b3 k an aR aY)(a:J b c):pG m c b1 b2 b3 k an aR aY:=by
 have d:=N.lo;have:=a.size;exact⟨N.ext.trans a,V,N.kr.ext a,N.ko.ext a,N.kh.ext a,N.len⟩
section
variable{B:E}{v:Nat->Nat}{m:E}{w:Nat}{d p aW z t:O}{s:St}{q:List aU}{u:aU}{D C A:O}{y:List (List Ce)}
def tm.replace{c:Nat->Nat}(T:tm v m t q u D C A y)(s:dz (λ_=>False) v m c b){a:aU}{g e d:O}(w:iz c b aD 1 (10+3*q.length) g (a.an.map Ce.i))(n:iz c b aD 1 (11+3*q.length) e (a.aR.map Ce.i))(p:iz c b aD 1 (12+3*q.length) d (a.aY.map Ce.i)):
 eC b t.D (t.off+q.length*6) 6/\pA c (ag b t.D (t.off+q.length*6) [.i a.eg,.i a.pc,.i a.dst,.s g,.s e,.s d]) t (q++[a])/\dz (λk=>k=4) c b c (ag b t.D (t.off+q.length*6) [.i a.eg,.i a.pc,.i a.dst,.s g,.s e,.s d]):=by
 have j:tm c b t q u D C A y:=T.eY s λ_ _=>id
 have l:y.flatten.length=q.length*6:=by rw[cg T.size,T.len]
 have i:dz (λk=>k=4) c b c (ag b t.D (t.off+q.length*6) [.i a.eg,.i a.pc,.i a.dst,.s g,.s e,.s d]):=dz.ag s.new j.D.1 _ _
 refine⟨j.pD.wr (by simp[l]),tm.uK (f:=a) (a:=q) (j:=y) (r:=g) (e:=e) (h:=d) ⟨?_,T.len,T.size,j.yo i λk n p=>V,w.eY i V,n.eY i V,p.eY i V⟩,i⟩
 have:=j.pD.set (o:=q.length*6) (new:=[.i a.eg,.i a.pc,.i a.dst,.s g,.s e,.s d]) (by simp[l])
 rw[lH _ _ _ _ V,l,QH]at this
 exact this
def No(w nb:Nat)(d:List Nat)(k n f:Int)(g g1 g2:Int)(l j h:O)(e:E)(R:Value->E->Prop):Prop:=
 ((k==(24:Int))=true->
 let b:E:=ag e nb 2 [.i f]
 ∃a:O,af b w 8=some (O.v a)/\
 ∃c:O,af b w 8=some (O.v c)/\
 (0:Int)<=(cR ((c.len:Int) -(1:Int)))/\(cR ((c.len:Int) -(1:Int)))<(a.len:Int)/\
 eC b a.D (a.off+Int.toNat (cR ((c.len:Int) -(1:Int)))*6) 6/\
 let i:E:=ag b a.D (a.off+Int.toNat (cR ((c.len:Int) -(1:Int)))*6) [.i g,.i g1,.i f,.s l,.s j,.s h]
 dY (nb::d) b i/\
 R (.tuple #[]) i)/\
 ((k==(24:Int))=false->
 aM cq 142 [vp w 0,vi (cR (n+(1:Int)))] e λ_ a=>
 dY (nb::d) e a/\
 ∃m:O,af a w 8=some (O.v m)/\
 let c:E:=a.push (.cells (bA [.i g,.i g1,.i g2,.s l,.s j,.s h]) cL)
 af c w 8=af a w 8/\
 jN c cL [.i (0:Int),.i (0:Int),.i (0:Int),.s O.nil,.s O.nil,.s O.nil] 96 m (O.mk a.size 0 1 1) λo b=>
 dY (nb::d) c b/\
 eC b w 8 1/\
 let i:E:=ag b w 8 [.s o]
 dY (nb::d) b i/\
 R (.tuple #[]) i)
def Ov(S:ST B v m w bS (SB d p s aW z t) aW z t s.aW s.heap q u D C A y){W:List Nat}(G:zy v m W){nb:Nat}{h:E}{g:aU}(N:pG m h b1 b2 b3 k g.an g.aR g.aY)(ah:m.size<=nb/\nb<h.size)(r:nb≠b1/\nb≠b2/\nb≠b3)
 (az:q.length<=100000)(aC:0<=u.pc/\u.pc<=100000){R:Value->E->Prop}
 (aq:c.op=24->∀b,Cd B v m w d p {s with av:=q++[{g with dst:=u.dst}]} b->R (.tuple #[]) b)
 (ar:c.op≠24->∀b,Cd B v m w d p {s with av:=q++[{u with pc:=u.pc+1},g]} b->R (.tuple #[]) b):
 No w nb W c.op u.pc u.dst g.eg g.pc g.dst (.mk b1 0 k k) (.mk b2 0 k k) (.mk b3 0 k k) h R:=by
 have aA:=N.lo
 have ay:=S.fZ.vU
 have F:cR ((t.len:Int) -1)=(q.length:Int):=by rw[aP V V];omega
 have e2:Int.toNat (q.length:Int)=q.length:=V
 have e4:cR (u.pc+1)=u.pc+1:=aP V V
 have ai:v nb=0:=S.cQ.new _ ah.1
 have aB:=N.ext.size
 refine⟨λM=>?_,λM=>?_⟩
 .intro H
  have P:pG m H b1 b2 b3 k g.an g.aR g.aY:=⟨N.ext.ag ah.1 _ _,by simp only[H,aw];omega,N.kr.congr (bo _ _ _ _ (λF=>r.1 F.symm)),N.ko.congr (bo _ _ _ _ (λF=>r.2.1 F.symm)),N.kh.congr (bo _ _ _ _ (λF=>r.2.2 F.symm)),N.len⟩
  have ab:H.size=h.size:=aw _ _ _ _
  clear_value H
  have o:dz (λ_=>False) v m (mK v b1 b2 b3 q.length) H:=P.eY S.cQ.new
  let⟨U,a2,a3⟩:=P.pD (a:=v) (g:=q.length)
  let⟨Z,w2,I⟩:=S.fZ.replace o (a:={g with dst:=u.dst}) U a2 a3
  let⟨L,X⟩:=S.cQ.gD (o.mono λ_=>False.elim) (S.cQ.heap.eY o id id)
  have K:af H w 8=some (O.v t):=L.box.bV 8
  refine⟨t,K,t,K,?_⟩
  rw[F,e2]
  refine⟨V,V,Z,?_⟩
  intro aa
  let⟨T,Y⟩:=L.jK (I.mono λk Q=>V) w2
  refine⟨?_,aq (by simpa using M) _ ⟨_,aW,z,t,T,X.trans Y⟩⟩
  intro j e
  rcases List.mem_cons.1 e with rfl|e
  .refine I.dP _ V ?_
   unfold mK;rw[ez r.2.2,ez r.2.1,ez r.1,ai];decide
  .refine I.dP _ (oh ((G j e).1)) ?_
   rw[o.jc j (G j e).1,(G j e).2];decide
 .simp only[ak]at M
  rw[e4]
  have o:dz (λ_=>False) v m (mK v b1 b2 b3 (q.length+1)) h:=N.eY S.cQ.new
  let⟨U,a2,a3⟩:=N.pD (a:=v) (g:=q.length+1)
  let⟨ao,ax⟩:=S.cQ.gD (o.mono λ_=>False.elim) (S.cQ.heap.eY o id id)
  have I:ST B (mK v b1 b2 b3 (q.length+1)) h w bS (SB d p s aW z t) aW z t s.aW s.heap q u D C A y:=⟨ao,S.fZ.eY o λ_ _=>id⟩
  have ag:zy (mK v b1 b2 b3 (q.length+1)) h (nb::W):=λj e=>by
   rcases List.mem_cons.1 e with rfl|e
   .refine⟨V,?_⟩;unfold mK;rw[ez r.2.2,ez r.2.1,ez r.1,ai]
   .exact⟨by have:=(G j e).1;omega,by rw[o.jc j (G j e).1];exact(G j e).2⟩
  apply pu (w,0)
  have K:af h w 8=some (O.v t):=I.cQ.box.bV 8
  refine⟨t,K,t,K,?_⟩
  rw[F,e2]
  refine⟨V,V,I.fZ.VH,?_⟩
  intro H
  let⟨L,aa⟩:=I.NR (u.pc+1)
  have ap:dz (λk=>k=4) (mK v b1 b2 b3 (q.length+1)) h (mK v b1 b2 b3 (q.length+1)) H:=dz.ag I.cQ.new I.fZ.D.1 _ _
  refine⟨aa.dK ag,t,L.cQ.box.bV 8,?_⟩
  intro Z
  have Y:J H Z:=(J.aA H).aH _
  let⟨T,am⟩:=L.ext Y
  have ac:=(ag.to aa).to am
  have jm:fX Z H.size 0 [.i g.eg,.i g.pc,.i g.dst,.s (.mk b1 0 k k),.s (.mk b2 0 k k),.s (.mk b3 0 k k)]:=(cx.push H _ _).iF
  have P:(q++[{u with pc:=u.pc+1}]).length=q.length+1:=aJ
  have X:=λ{k:Nat}{s:O}{l:List Ce}(a:iz (mK v b1 b2 b3 (q.length+1)) h aD 1 k s l)(Q:k≠4)=>(a.eY ap Q).eY (dz.eT (λ_=>False) Y L.cQ.new) id
  refine⟨Y.cr (L.cQ.box.bV 8),pA.push T.cQ.av T.cQ.new (x:=.mk H.size 0 1 1) rfl (a:=g) jm (by rw[P];exact X U V) (by rw[P];exact X a2 V) (by rw[P];exact X a3 V) (by rw[P];omega) λal aj au q1 q2=>?_⟩
  have ab:To _ Z al au:=q2.mono λk Q=>V
  let⟨ad,aF⟩:=T.cQ.jK (q2.mono λk Q=>V) q1
  refine⟨ab.dK ac,ad.mE (i:=8) aJ,?_⟩
  intro aE
  let⟨ae,an⟩:=ad.jw 8 [.s aj]
  refine⟨an.dK (ac.to ab),ar M _ ⟨al,aW,z,aj,?_,(((ax.trans aa).trans am).trans ab).trans an⟩⟩
  have e9:q++[{u with pc:=u.pc+1}]++[g]=q++[{u with pc:=u.pc+1},g]:=aJ
  rw[e9]at ae
  exact ae
end
end
section
variable{a:cp}
noncomputable def qZ (a:cp) (s:St) (b:List aU) (f:aU) (x:Instr):St:=
 if x.op=9 then{s with bC:=s.bC+1,av:=b++[{f with pc:=f.pc+1},br a x.bQ x.dst (cN f x.args)]}
 else if x.op=24 then{s with bC:=s.bC+1,av:=b++[br a x.bQ f.dst (cN f x.args)]}
 else{s with bC:=s.bC+1,heap:=apart s.heap (aG f.an (aG x.args 0)),av:=b++[{f with pc:=f.pc+1},br a ((aI s.heap (aG f.an (aG x.args 0))).kH -bH a) x.dst ((aI s.heap (aG f.an (aG x.args 0))).aN++[aG f.an (aG x.args 1)])]}
section
variable{t:E}{j:Nat->Nat}{m:E}{n:Nat}{d p aW q e:O}{s:St}{c:List aU}{b:aU}{r u h:O}{v:List (List Ce)}
def ST.rv(S:ST t j m n bS (SB d p s aW q e) aW q e s.aW s.heap c b r u h v)(g:eW t d p a)(k:s.aW.length<=2000000000)(i:s.heap.length<=2000000000)(f:lS m e (c++[b])):
 RV m n 2 d p aW q e a {s with av:=c++[b]}:=
 ⟨g.ext S.cQ.cv,S.cQ.box.bV 0,S.cQ.box.bV 1,S.cQ.box.bV 2,S.cQ.box.bV 3,S.cQ.box.bV 4,S.cQ.box.bV 5,S.cQ.box.bV 6,S.cQ.box.bV 7,S.cQ.box.bV 8,S.cQ.aW.nU V,S.cQ.heap.cells V,f⟩
def pA.JH{c:List aU}(d:pA j m e c)(A:c.length<=2000000000)(q:∀b∈c,b.an.length<=1000000/\b.aR.length<=1000000/\b.aY.length<=1000000):lS m e c:=by
 let⟨v,a,g,i,p⟩:=d;have t:e.len=c.length:=by have:=a.len;rw[cg i,g]at this;omega
 refine⟨t,a.le,V,λk x f=>?_⟩;let⟨o,l⟩:=cK v k (by rw[g];exact az f);obtain⟨r,u,h,rfl,y,w,d⟩:=p k o x l f;let⟨B,C,D⟩:=q x (ar f);refine⟨_,⟨r,u,h,rfl,y.nU V,w.nU V,d.nU V⟩,λz n s=>?_⟩;have:=a.iF (k*6+z) n (fV i l s);rwa[<-dk]at this
def MZ(al:ST t j m n bS (SB d p s aW q e) aW q e s.aW s.heap c b r u h v)(aO:eW t d p a)(aA:iE a){y:Instr}{Z ag:O}(ha:aq t Z y.args)(bm:∀C∈y.args,0<=C/\C<b.an.length)(bN:y.args.length<=4)
 (b0:y.op=9\/y.op=24\/y.op=11)(a3:(y.op=9\/y.op=24)->vQ a y.bQ y.args.length)(bl:y.op=11->y.args.length=2/\vP a s.heap (aG b.an (aG y.args 0)))
 (bX:b.an.length=b.aR.length/\b.aY.length=b.aR.length/\b.aR.length<=2000)(bk:∀I∈c,I.an.length<=1000000/\I.aR.length<=1000000/\I.aY.length<=1000000)(bA:0<=b.pc/\b.pc<=100000)(bU:c.length<=10000)(bV:s.heap.length<=1000000000)(b4:s.aW.length<=1000000000)(bO:0<=s.bC/\s.bC<=100000)
 {B:Nat->Int}(hI:fN s.heap B):
 aM cq 139 [vp n 0,fv b r u h,xv y Z ag] m λ_ L=>Cd t j m n d p (qZ a s c b y) L:=by
 apply vC (n,0)
 simp -zeta only[aC,aB]
 intro F m2
 have bE:J m m2:=((J.aA m).aH _).aH _
 have s1:F.size=m.size+1:=by simp[F]
 have s2:m2.size=m.size+2:=by simp[m2,s1]
 have B2:=zy.Kh al.cQ.new s1 s2
 have kB:cx m2 F.size db [.i y.op,.i y.dst,.i y.bQ,.i y.bM,.s Z,.s ag]:=cx.push F _ _
 let⟨S2,t2⟩:=al.ext bE
 clear_value m2
 have bq:zA a y:=λB=>let⟨z,X,D,_⟩:=a3 B;⟨X,z,D⟩
 have bM:(eP a.bn).length<=12:=by
  have:=rD aA.nj.types a.bn.length;rw[mV _ _ (ad _)]at this;exact this
 have bu:∀{j m q lh bx},ST t j m n bS bx aW q e s.aW lh c b r u h v->lS m e (c++[b]):=λal=>al.cQ.av.JH bI (λI A=>by
  rcases List.mem_append.1 A with A|A
  .exact bk I A
  .simp at A;subst A;omega)
 refine(sF (f:=b) (S2.Am V) (ha.ext S2.cQ.cv) bm V).mono ?_
 rintro _ m3 ⟨S,rfl,ow,ay⟩
 let⟨S3,t3⟩:=S2.ext ay
 have B3:=B2.to t3
 have bD:(cN b y.args).length=y.args.length:=by simp[cN]
 have an:aq m3 S (cN b y.args):=aq.gK ow V
 have bK:∀{L:E}{S:O}{ap:List Ce},gY L m3 aD 1 S ap->m.size<=L.size->S≠.nil->j S.D=0:=λho hs Y=>by
  rcases ho.D with B|B
  .exact absurd B Y
  .exact al.cQ.new _ V
 refine⟨t3.dK B2,S,rfl,λI wv L=>∃(aH:Nat->Nat)(a7:O)(ak:List bP)(A:List Int)(z:dA),ST t aH L n bS (SB d p s aW a7 e) aW a7 e s.aW ak c b r u h v/\To j m aH L/\zy aH L [F.size,m.size]/\cx L F.size db [.i y.op,.i y.dst,.i y.bQ,.i y.bM,.s Z,.s ag]/\aq L wv A/\(A≠[]->aH wv.D=0)/\
  0<=I/\a.cB[I.toNat]? =some z/\A.length=z.params.length/\iG a y 0 A=dH z.cO 0 A/\
  (y.op=24->qZ a s c b y={s with bC:=s.bC+1,heap:=ak,av:=c++[br a I b.dst A]})/\(y.op≠24->qZ a s c b y={s with bC:=s.bC+1,heap:=ak,av:=c++[{b with pc:=b.pc+1},br a I y.dst A]}),?_,?_⟩
 .refine⟨λah=>?_,λah=>?_⟩
  .simp at ah
   let⟨D,T,a8,b5,bz,a5,bR⟩:=bl ah
   let⟨ao,bB⟩:=bZ T
   have aZ:=hI.cell _ (ar ao)
   have b6:=(aZ.ry bB).2
   have a6:=az ao
   have bn:y.args=[aG y.args 0,aG y.args 1]:=by
    cases K:y.args with
    |nil=>rw[K]at D;simp at D
    |cons C ap=>cases ap with
     |nil=>rw[K]at D;simp at D
     |cons G ap=>cases ap with
      |nil=>rfl
      |cons _ _=>rw[K]at D;simp at D
   have a9:cN b y.args=[aG b.an (aG y.args 0),aG b.an (aG y.args 1)]:=by rw[bn];rfl
   have b8:=an.len
   have b7:=an.cap
   have gw:af m3 S.D (S.off+Int.toNat (0:Int)*1)=some (vi (aG b.an (aG y.args 0))):=an.aG (k:=0) (by rw[a9];rfl)
   have am:=S3.rv aO V V (bu S3)
   generalize hw:aG b.an (aG y.args 0)=w at*
   generalize hv:aG b.an (aG y.args 1)=ac at*
   let⟨z,hq⟩:=cK a.cB (((aI s.heap w).kH -bH a).toNat)
   have ai:dC a ((aI s.heap w).kH -bH a)=z:=by simp[dC,hq]
   rw[ai]at bz a5
   refine⟨V,V,w,gw,d,am.bn,(fQ am T.1 ao).mono ?_⟩
   rintro _ m4 ⟨f4,rfl,bQ,U⟩
   let⟨S4,t4⟩:=S3.ext U
   have B4:=B3.to t4
   have a0:=am.ext U
   refine⟨t4.dK B3,_,_,_,rfl,U.cr am.bn,(qP a0.fy.bn aA.nj.types).mono ?_⟩
   rintro _ G ⟨rfl,aK⟩
   let⟨M,t5⟩:=S4.ext aK
   have B5:=B4.to t5
   have bj:=a0.ext aK
   refine⟨t5.dK B4,_,rfl,V,V,V,(fQ bj T.1 ao).mono ?_⟩
   rintro _ m6 ⟨f6,rfl,bt,aX⟩
   let⟨S6,t6⟩:=M.ext aX
   have B6:=B5.to t6
   have aF:=(U.trans aK).trans aX
   have e1:(Int.toNat (1:Int))=1:=rfl
   have e2:(Int.toNat (S.len:Int))=S.len:=V
   rw[e1,e2]
   have bF:aq m6 (O.cut S 1 S.len 1) [ac]:=by
    have:=Vk (an.ext aF) (by rw[bD];omega);rw[a9]at this;exact this
   have bT:=aZ.fl
   refine⟨t6.dK B5,_,_,_,rfl,(Ma bt bF bI).mono ?_⟩
   rintro _ m7 ⟨N,rfl,oe,aY⟩
   let⟨S7,t7⟩:=S6.ext aY
   have B7:=B6.to t7
   have ie:aq m7 N ((aI s.heap w).aN++[ac]):=aq.gK oe bI
   have au:j N.D=0:=by
    rcases oe.D with B|B
    .subst B;have:=ie.len;simp at this
    .exact al.cQ.new _ (P7 aF.size ay.size)
   have bs:N.D<m7.size:=iP ie aJ
   refine⟨t7.dK B6,N,rfl,(Bp S7.cQ T hI V).mono ?_⟩
   rintro _ C ⟨aa,rfl,hb,H,bp,bo⟩
   have t8:To j m7 j C:=H.mono λQ P=>V
   have B8:=B7.to t8
   have a_:aq C N ((aI s.heap w).aN++[ac]):=iO ie λ_=>H.dP _ bs (by rw[au];decide)
   have bb:To j m j C:=(((((t2.trans t3).trans t4).trans t5).trans t6).trans t7).trans t8
   have ba:cx C F.size db [.i y.op,.i y.dst,.i y.bQ,.i y.bM,.s Z,.s ag]:=(kB.ext (ay.trans (aF.trans aY))).congr (H.dP _ (B7 F.size aJ).1 (by rw[(B7 F.size aJ).2];decide))
   have e3:cR ((aI s.heap w).kH -((eP a.bn).length:Int))=(aI s.heap w).kH -bH a:=aP V V
   rw[e3]
   have aE:iG a y 0 ((aI s.heap w).aN++[ac])=dH z.cO 0 ((aI s.heap w).aN++[ac]):=by
    rw[Gi V,List.length_eq_zero_iff.1 a5]
   have a4:∀ak,ak=apart s.heap w->qZ a s c b y={s with bC:=s.bC+1,heap:=ak,av:=c++[{b with pc:=b.pc+1},br a ((aI s.heap w).kH -bH a) y.dst ((aI s.heap w).aN++[ac])]}:=λak B=>by
    rw[qZ,ae V,ae V,hw,hv,B]
   refine⟨t8.dK B7,aa,rfl,λa2=>?_,λa1=>?_⟩
   .have aL:=hb.1 a2
    let⟨R,bL⟩:=S7.gD (H.mono λQ P=>Or.inl P) (bp a2)
    have bY:=R.cQ.heap.len
    refine⟨q,R.cQ.box.bV 7,?_⟩
    intro m9
    have bi:J C m9:=(J.aA C).aH _
    let⟨S9,W⟩:=R.ext bi
    have B9:=B8.to W
    clear_value m9
    have bW:=T.1
    have bw:ix w=(w -1000).toNat:=rfl
    have e5:cR (w -1000)=w -1000:=aP V V
    rw[e5,<-bw]
    refine⟨V,V,S9.cQ.heap.wr (o:=0) a6 be,?_⟩
    intro b9
    let⟨bv,bg⟩:=S9.cQ.heap.setCell S9.cQ.new a6 0 0 (f:=.mk C.size 0 0 0) (l:=[]) ⟨rfl,aJ,aJ,aJ⟩ (λY=>absurd rfl Y)
    let⟨ax,aQ⟩:=S9.gD (bg.mono λQ P=>Or.inl P) bv
    have aU:=B9.to aQ
    refine⟨aQ.dK B9,q,ax.cQ.box.bV 7,(xY (ax.cQ.heap.cells bI)).mono ?_⟩
    rintro _ b_ ⟨rfl,bh⟩
    let⟨ab,aR⟩:=ax.ext bh
    have aV:=aU.to aR
    refine⟨aR.dK aU,_,rfl,ab.cQ.mE (i:=7) aJ,?_⟩
    intro aN
    obtain⟨bd,ca⟩:=ab.gD (dz.aA _ ab.cQ.new) (ab.cQ.heap.cut (ub _ _))
    obtain⟨bf,aS⟩:=bd.jw 7 [.s (q.cut 0 (ji (s.heap.set (ix w) jb) (s.heap.set (ix w) jb).length) 3)]
    have bc:=aV.to aS
    have aT:To j C j aN:=((W.trans aQ).trans aR).trans aS
    have bG:aq aN N ((aI s.heap w).aN++[ac]):=iO a_ λ_=>aT.dP _ (oh H.size) (by rw[au];simp)
    have bJ:cx aN F.size db [.i y.op,.i y.dst,.i y.bQ,.i y.bM,.s Z,.s ag]:=ba.congr (aT.dP _ (B8 F.size aJ).1 (by rw[(B8 F.size aJ).2];simp))
    refine⟨aS.dK aV,j,_,_,_,z,bf,bb.trans aT,bc,bJ,bG,λ_=>au,a8,hq,bI,aE,λB=>V,λ_=>a4 _ ?_⟩
    rw[apart,aj aL];rfl
   .have aL:(aI s.heap w).aQ≠1:=λB=>by have:=hb.2 B;rw[a1]at this;simp at this
    let⟨R,bL⟩:=S7.gD (H.mono λQ P=>Or.inl P) (bo a1)
    refine⟨j,q,_,_,z,R,bb,B8,ba,a_,λ_=>au,a8,hq,bI,aE,λB=>V,λ_=>a4 _ ?_⟩
    rw[apart,ae aL]
  .simp at ah
   have C:y.op=9\/y.op=24:=V
   let⟨z,N,H,P⟩:=a3 C
   have ai:dC a y.bQ=z:=by simp[dC,H]
   refine⟨j,q,s.heap,cN b y.args,z,S3,t2.trans t3,B3,kB.ext ay,an,λY=>bK ow V (λB=>by subst B;have:=an.len;simp at this;exact Y (List.length_eq_zero_iff.1 this.symm)),N,H,V,by rw[Jk C,ai],λB=>?_,λB=>?_⟩
   .rw[qZ,ae V,aj B]
   .rw[qZ,aj V]
 .rintro I wv m4 ⟨ao,aV,aR,A,z,S4,t4,B4,bd,aX,bc,a8,hq,bh,aE,a5,a6⟩
  have ai:dC a I=z:=by simp[dC,hq]
  have bg:=(aA.dx z (ar hq)).an
  have h3:=(aA.nj.dx z (ar hq)).1
  refine⟨s.bC,S4.cQ.box.bV 4,S4.cQ.mE (i:=4) aJ,?_⟩
  have e3:cR (s.bC+1)=s.bC+1:=aP V V
  rw[e3]
  intro G
  let⟨M,t5⟩:=S4.jw 4 [.i (s.bC+1)]
  have B5:zy ao G [F.size,m.size]:=B4.to t5
  replace t5:To ao m4 ao G:=t5
  have c5:dz (λQ=>Q=1) ao m4 ao G:=dz.ag S4.cQ.new S4.cQ.NP _ _
  have aY:aq G wv A:=iO aX λY=>c5.dP _ (iP aX Y) (by rw[bc Y];decide)
  have bf:cx G F.size db [.i y.op,.i y.dst,.i y.bQ,.i y.bM,.s Z,.s ag]:=bd.congr (c5.dP _ (B4 F.size aJ).1 (by rw[(B4 F.size aJ).2];decide))
  replace M:ST t ao G n bS (SB d p {s with bC:=s.bC+1,heap:=aR} aW aV e) aW aV e s.aW aR c b r u h v:=M
  refine⟨t5.dK B4,d,M.cQ.box.bV 0,p,M.cQ.box.bV 1,?_⟩
  clear_value G
  have a2:=t4.trans t5
  have kg:∀{H a0:E},J H a0->∀{aa ab:Nat}{ac:Value},af H aa ab=some ac->af a0 aa ab=af H aa ab:=λK=>K.cr
  have bb:(iG a y 0 A).length=A.length:=Ed _ _ _ _
  have ba:(br a I y.dst A).an=A++df (z.an.toNat -A.length):=by simp[br,ai]
  have a_:(br a I y.dst A).aR=iG a y 0 A++df (z.an.toNat -(iG a y 0 A).length):=by simp[br,ai,aE,me]
  have a9:(br a I y.dst A).aY=df z.an.toNat:=by simp[br,ai]
  have iy:∀(T ax:E)(nb b1 b2 b3:Nat),J G T->pG T ax b1 b2 b3 z.an.toNat (A++df (z.an.toNat -A.length)) (iG a y 0 A++df (z.an.toNat -(iG a y 0 A).length)) (df z.an.toNat)->T.size<=nb/\nb<ax.size->nb≠b1/\nb≠b2/\nb≠b3->
   No n nb [F.size,m.size] y.op b.pc b.dst I 0 y.dst (.mk b1 0 z.an.toNat z.an.toNat) (.mk b2 0 z.an.toNat z.an.toNat) (.mk b3 0 z.an.toNat z.an.toNat) ax (λ_ L=>Cd t j m n d p (qZ a s c b y) L):=λT ax nb b1 b2 b3 K N aQ Y=>by
   let⟨SM,tM⟩:=M.ext K
   refine Ov (s:={s with bC:=s.bC+1,heap:=aR}) (g:=br a I y.dst A) (c:=y) SM (B5.to tM) (by rw[ba,a_,a9];exact N) aQ Y V bA (λB L hF=>?_) (λB L hF=>?_)
   .rw[a5 B];exact Cd.from hF (a2.trans tM)
   .rw[a6 B];exact Cd.from hF (a2.trans tM)
  have aK:∀{T:E}{os:O},J G T->aq T os (iG a y 0 A)->aM cq 159 [.agg #[O.v d,O.v p],vi I,vi y.dst,O.v wv,O.v os] T _:=λK ho=>yx (aO.ext (M.cQ.cv.trans K)) a8 hq V y.dst (aY.ext K) ho V bb
  have au:∀{H R:E},J G H->J H R->∀ab,ab<6->af R F.size ab=af H F.size ab:=λX D ab hi=>by
   have Q:=bf.ext X;match ab,hi with
   |0,_=>exact D.cr (Q.bV 0)
   |1,_=>exact D.cr (Q.bV 1)
   |2,_=>exact D.cr (Q.bV 2)
   |3,_=>exact D.cr (Q.bV 3)
   |4,_=>exact D.cr (Q.bV 4)
   |5,_=>exact D.cr (Q.bV 5)
  have Kh:∀{H R:E},J G H->J H R->af R n 0=af H n 0/\af R n 1=af H n 1:=λX D=>⟨D.cr (X.af (M.cQ.box.bV 0)),D.cr (X.af (M.cQ.box.bV 1))⟩
  have a1:∀{T:E},J G T->oI 190 [vp n 0,xv y Z ag,O.v wv] T (iG a y 0 A):=λK=>EP (aO.ext (M.cQ.cv.trans K)) (K.af (M.cQ.box.bV 0)) (K.af (M.cQ.box.bV 1)) bq Z ag (aY.ext K) V
  have sm:∀{H R:E},J G H->J H R->dY [F.size,m.size] H R:=λX D=>D.dv λaa hb=>X.lt (B5 aa hb).1
  have aS:∀{H R:E}{nb:Nat},J G H->J H R->nb<H.size->dY [nb,F.size,m.size] H R:=λX D aQ=>D.dv λaa hb=>by
   rcases List.mem_cons.1 hb with rfl|hb
   .exact aQ
   .exact X.lt (B5 aa hb).1
  refine⟨(a1 (J.aA _)).mono ?_,?_⟩
  .rintro _ ah ⟨os,rfl,oo,P⟩
   have io:aq ah os (iG a y 0 A):=aq.gK oo V
   refine⟨sm (J.aA _) P,os,rfl,au (J.aA _) P 1 V,(Kh (J.aA _) P).1,(Kh (J.aA _) P).2,?_,?_⟩
   .refine(aK P io).mono ?_
    rintro _ am ⟨b1,b2,b3,rfl,N⟩
    have aL:=N.ext
    have aT:=P.trans aL
    refine⟨sm P aL,_,_,_,_,_,_,rfl,?_⟩
    intro aZ
    have aN:J am aZ:=(J.aA am).aH _
    have C:=au aT aN
    have W:=Kh aT aN
    refine⟨C 0 V,C 1 V,C 2 V,C 3 V,C 4 V,C 5 V,C 1 V,W.1,W.2,?_⟩
    intro aF
    have a4:J am aF:=aN.ag (ad _) _ _
    have bi:aF.size=am.size+1:=by simp[aF,aZ,aw]
    have aU:=N.lo
    exact iy ah aF am.size b1 b2 b3 P (N.PQ a4) ⟨by have:=aL.size;omega,V⟩ ⟨V,V,V⟩
   .intro aF
    have am:J ah aF:=(J.aA ah).aH _
    have a4:aF.size=ah.size+1:=by simp[aF]
    have C:=au P am
    have W:=Kh P am
    refine⟨C 0 V,C 1 V,C 2 V,C 3 V,C 4 V,C 5 V,C 1 V,W.1,W.2,?_⟩
    clear_value aF
    refine(aK (P.trans am) (io.ext am)).mono ?_
    rintro _ aZ ⟨b1,b2,b3,rfl,N⟩
    have aL:=N.ext
    refine⟨aS (P.trans am) aL V,_,_,_,_,_,_,rfl,?_⟩
    intro aN
    have aU:=N.lo
    have aT:=N.box am (nb:=ah.size) (ad _) V 0 [.i I,.i 0,.i y.dst,.s (.mk b1 0 z.an.toNat z.an.toNat),.s (.mk b2 0 z.an.toNat z.an.toNat),.s (.mk b3 0 z.an.toNat z.an.toNat)]
    exact iy ah aN ah.size b1 b2 b3 P aT ⟨ad _,by simp only[aN,aw];have:=aL.size;omega⟩ ⟨V,V,V⟩
  .intro ah
   have P:J G ah:=(J.aA G).aH _
   have a4:ah.size=G.size+1:=by simp[ah]
   have C:=au (J.aA _) P
   have W:=Kh (J.aA _) P
   refine⟨C 0 V,C 1 V,C 2 V,C 3 V,C 4 V,C 5 V,C 1 V,W.1,W.2,?_⟩
   clear_value ah
   refine(a1 P).mono ?_
   rintro _ aT ⟨os,rfl,oo,U⟩
   have io:aq aT os (iG a y 0 A):=aq.gK oo V
   have am:=P.trans U
   have bi:=U.size
   refine⟨aS P U V,os,rfl,au P U 1 V,(Kh P U).1,(Kh P U).2,?_⟩
   refine(aK am io).mono ?_
   rintro _ aZ ⟨b1,b2,b3,rfl,N⟩
   have aF:=N.ext
   refine⟨aS am aF V,_,_,_,_,_,_,rfl,?_⟩
   intro aL
   have aU:=N.lo
   have aN:=N.box am (nb:=G.size) (ad _) V 0 [.i I,.i 0,.i y.dst,.s (.mk b1 0 z.an.toNat z.an.toNat),.s (.mk b2 0 z.an.toNat z.an.toNat),.s (.mk b3 0 z.an.toNat z.an.toNat)]
   exact iy G aL G.size b1 b2 b3 (J.aA _) aN ⟨ad _,by simp only[aL,aw];have:=aF.size;omega⟩ ⟨V,V,V⟩
def Nd(S:ST t j m n bS (SB d p s aW q e) aW q e s.aW s.heap c b r u h v)(ae:c.length<=100000)(w:Int)(R:∀g,c.getLast?=some g->0<=b.dst/\b.dst<g.an.length/\b.dst<g.aR.length):
 aM cq 140 [vp n 0,fv b r u h,vi w] m λ_ Y=>Cd t j m n d p (match c.getLast? with|none=>{s with bJ:=0,value:=w,av:=[]}|some g=>{s with av:=c.dropLast++[g.put b.dst w (gF w)]}) Y:=by
 apply vD (n,0)
 simp -zeta only[aC,aB]
 intro f
 have X:J m f:=(J.aA m).aH _
 have s1:f.size=m.size+1:=by simp[f]
 let⟨k,t1⟩:=S.ext X
 have L:j m.size=0:=S.cQ.new _ (ad _)
 have B:zy j f [m.size]:=λD F=>by simp at F;subst F;exact⟨V,L⟩
 clear_value f
 have G:=k.fZ.vU
 have ab:=k.fZ.pD.le
 have y:cR ((e.len:Int) -1)=(c.length:Int):=by rw[aP V V];omega
 have K:Int.toNat (c.length:Int)=c.length:=V
 have E:af f n 8=some (O.v e):=k.cQ.box.bV 8
 refine⟨e,E,e,E,?_⟩
 rw[y,K]
 refine⟨V,V,V,k.cQ.mE (i:=8) aJ,?_⟩
 intro Z
 let⟨x,t2⟩:=k.cQ.jw 8 [.s (e.cut 0 c.length 6)]
 obtain⟨a,_⟩:=x.jK (dz.aA _ x.new) (x.av.Vx)
 have o:=B.to t2
 have ac:(e.cut 0 c.length 6).len=c.length:=by
  cases e with
  |nil=>simp at G
  |zP D H l=>simp at G
  |mk D H z l=>simp[O.cut]
 have e3:Int.toNat (0:Int)=0:=rfl
 refine⟨t2.dK B,e.cut 0 c.length 6,a.box.bV 8,λz=>?_,λz=>?_⟩
 .simp at z
  have M:c=[]:=List.length_eq_zero_iff.1 V
  subst M
  refine⟨a.mE (i:=2) (by simp[kU]),?_⟩
  intro m3
  let⟨l,t3⟩:=a.jw 2 [.i 0]
  have C:=o.to t3
  refine⟨t3.dK o,l.mE (i:=3) (by simp[kU]),?_⟩
  intro N
  let⟨I,A⟩:=l.jw 3 [.i w]
  exact⟨A.dK C,j,aW,q,_,I,(((t1.trans t2).trans t3).trans A)⟩
 .simp at z
  have W:c.length≠0:=V
  have A:c≠[]:=λy=>W (by rw[y];rfl)
  obtain⟨g,l⟩:∃g,c.getLast?=some g:=⟨_,fg A⟩
  let⟨M,N,P⟩:=R g l
  rw[l]
  simp only[]
  have U:c=c.dropLast++[g]:=by
   rw[fg A]at l;simp at l;rw[<-l];exact(eD A).symm
  have C:qD t j Z n bS (SB d p s aW q (e.cut 0 c.length 6)) aW q (e.cut 0 c.length 6) s.aW s.heap (c.dropLast++[g]):=
   ⟨a.cv,a.jB,a.new,a.box,a.NP,a.aW,a.heap,by rw[<-U];exact a.av⟩
  let⟨r',H,h',aa,T⟩:=C.av.fZ
  have Q:c.dropLast.length<=100000:=bI
  refine(tX (a:=s) ⟨C,T⟩ Q M N P w).mono ?_
  rintro _ m3 ⟨I,t3⟩
  exact⟨t3.dK o,j,aW,q,_,I.cQ,(t1.trans t2).trans t3⟩
end
end
section
variable{b:cp}{a:Instr}
def yE.HE{s:St}{d:List aU}{f:aU}(C:yE b s d f a){aR:List Int}(j:aR=bB f.an f.aR (bW b a))(i:∀o∈aR,0<=o):
 fN s.heap (λc=>gU d c+dq f.an aR c+eQ ((bW b a).map (aG f.an)) c)/\∀c,0<=gU d c+dq f.an aR c:=by
 have e:=yf (an:=f.an) (bW b a) f.aR C.Kp C.Lg.1
 rw[<-j]at e
 refine⟨C.ok.heap.congr λc=>?_,λc=>?_⟩
 .rw[C.fr,fW,kT,e];omega
 .have:=Km (b:=d) (λg h=>C.ok.av g (by rw[C.fr];exact bL _ h)) c
  have:=tJ (an:=f.an) i c
  omega
def QS{a:List bz}{t kH:Int}(h:kH∈cw a t):1<=t/\t<=a.length/\(rG (cw a t) kH:Int)=kH -fc a (t.toNat -1)/\(fc a (t.toNat -1):Int)<=kH:=by
 unfold cw at h⊢;by_cases b:1<=t/\t<=a.length
 .rw[aj b]at h⊢;let⟨d,hd⟩:=cK a (t.toNat -1);rw[hd]at h⊢;simp only[oD,vJ]at h⊢;let⟨i,c,e⟩:=List.mem_map.1 h;rw[List.mem_range]at c;have f:rG ((List.range d.cons.length).map λi=>((fc a (t.toNat -1)+i:Nat):Int)) kH=i:=by
   unfold rG;rw[List.findIdx_eq (by simpa using c)];refine⟨by simp[<-e],λj g=>?_⟩;simp;omega
  rw[f];exact⟨b.1,b.2,V,V⟩
 .rw[ae b]at h;simp at h
def OY{k d e:Int}(l:iJ d)(o:iJ e)(m:E):vO cq 136 [vi k,vi d,vi e] m (vi (OO k d e)):=by
 have i:∀n:Int,-2000000<=n/\n<=2000000->vO cq 184 [vi (cR n)] m (vi (FC n)):=λn q=>by
  apply If;rw[aP V V];refine⟨?_,J.aA _⟩;unfold FC;congr 1;repeat' split
  all_goals omega
 unfold iJ at l o;have p: -2000000<=d*e/\d*e<=2000000:=by
  have a:(d*e).natAbs<=999*999:=by rw[Int.natAbs_mul];exact Mz V V
  omega
 apply J7;unfold OO;refine⟨λa=>?_,λa=>⟨λb=>?_,λb=>⟨λc=>?_,λc=>⟨λf=>⟨λh=>?_,λh=>?_⟩,λf=>?_⟩⟩⟩⟩
 .simp at a;rw[aj a];exact(i _ V).then λj g=>⟨_,rfl,rfl,g⟩
 .simp at a b;rw[ae a,aj b];exact(i _ V).then λj g=>⟨_,rfl,rfl,g⟩
 .simp at a b c;rw[ae a,ae b,aj c];exact(i _ p).then λj g=>⟨_,rfl,rfl,g⟩
 .simp at a b c f h;rw[ae a,ae b,ae c,aj ⟨f,h⟩];exact⟨rfl,J.aA _⟩
 .simp at a b c f h;rw[ae a,ae b,ae c,ae V];exact⟨rfl,J.aA _⟩
 .simp at a b c f;rw[ae a,ae b,ae c,ae V];exact⟨rfl,J.aA _⟩
section
variable{q:E}{j:Nat->Nat}{m:E}{t:Nat}{d p aW n k:O}{c:St}{g:List aU}{f:aU}{r o h:O}{u:List (List Ce)}
def J6(C:yE b c g f a){aR:List Int}(ay:aR=bB f.an f.aR (bW b a))(hM:kD b c f a aR)
 (ab:ST q j m t bS (SB d p c aW n k) aW n k c.aW c.heap g {f with aR:=aR} r o h u)(aY:eW q d p b){au a4:O}(ha:aq q au a.args)(hj:aq q a4 a.eG)(bq:c.heap.length<=900000000)(bC:c.aW.length<=900000000):
 aM cq 72 [vp t 0,fv f r o h,xv a au a4] m λ_ R=>Cd q j m t d p (eJ b c g f a aR) R:=by
 apply tW (t,0)
 simp -zeta only[aC,aB]
 intro m1 A
 have bl:J m A:=((J.aA m).aH _).aH _
 have s1:m1.size=m.size+1:=by simp[m1]
 have s2:A.size=m.size+2:=by simp[A,s1]
 have D:=zy.Kh ab.cQ.new s1 s2
 have U:cx A m1.size db [.i a.op,.i a.dst,.i a.bQ,.i a.bM,.s au,.s a4]:=cx.push m1 _ _
 have kF:cx A m.size cL [.i f.eg,.i f.pc,.i f.dst,.s r,.s o,.s h]:=(cx.push m _ _).ext (J.push m1 _)
 let⟨y,t2⟩:=ab.ext bl
 clear_value A
 have bA:aR.length=f.aR.length:=by rw[ay];exact kd _ _ _
 have br:=C.Lg
 have F:=C.lx
 have hd:=C.dst
 have bi:=C.F.pc
 obtain⟨pq,_,bj,hP,bo,hI⟩:=C.I
 rw[bj]at bi
 have bD:=hP.len
 have ao:0<=f.pc/\f.pc<=100000:=V
 have a8:=C.ok.depth
 have bn:=C.ok.bC
 have bt:=C.ok.bq
 rw[C.fr]at a8
 have bp:g.length<=1000:=by simp at a8;omega
 have aZ:f.an.length=aR.length/\f.aY.length=aR.length/\aR.length<=2000:=V
 have bF:r.len=f.an.length:=by have:=ab.fZ.an.len;simp at this;omega
 have bw:o.len=aR.length:=by have:=ab.fZ.aR.len;simp at this;omega
 have bm:=ha.len
 have e4:cR (f.pc+1)=f.pc+1:=aP V V
 have aa:1<=a.args.length->0<=aG a.args 0/\aG a.args 0<f.an.length:=λK=>C.arg _ (fq V V)
 have M:∀{R},J q R->1<=a.args.length->af R au.D (au.off+Int.toNat (0:Int)*1)=some (vi (aG a.args 0)):=λZ K=>(ha.ext Z).pN V V
 have T:∀{j m bx aW n k lo lh o h u own'},ST q j m t bS bx aW n k lo lh g {f with aR:=own'} r o h u->∀{aF:Int},0<=aF->aF<f.an.length->af m r.D (r.off+Int.toNat aF*1)=some (vi (aG f.an aF)):=λab aF h0 K=>(ab.Am (by simp only[];omega)).pN h0 K
 have a7:=C.HE ay hM.nn
 have bg:∀{j m n lh bx},ST q j m t bS bx aW n k c.aW lh g {f with aR:=aR} r o h u->lS m k (g++[{f with aR:=aR}]):=λab=>ab.cQ.av.JH bI (λah G=>by
  rcases List.mem_append.1 G with G|G
  .have Y:=C.ok.av ah (by rw[C.fr];exact bL _ G);obtain⟨pg,_,aK,aw,_⟩:=Y.Ja C.ok.fy;have K:=Y.lr;have N:=Y.lo;have h3:=Y.lh;rw[aK]at K N h3;have:=aw.an;omega
  .simp at G;subst G;simp only[];omega)
 have a_:∀r',r'∈a.args->aG f.an r'<1000->iJ (aG f.an r'):=λr' bk bs=>by
  have ax:=C.arg r' bk;rcases C.F.Si _ (fq ax.1 ax.2)with P|P
  .exact P
  .omega
 have a5:∀{ac:E}(Z:J A ac)(X:Int)(s':St),s'={c with av:=g++[aU.put {f with aR:=aR,pc:=f.pc+1} a.dst X 0]}->
  aM cq 135 [vp t 0,vi a.dst,vi X] ac λ_ R=>dY [m1.size,m.size] ac R/\Cd q j m t d p s' R:=λZ X s' v=>by
  let⟨SM,tM⟩:=y.ext Z
  refine(Bl SM V hd.1 (by simp only[];omega) (by simp only[];omega) X ao).mono ?_
  rintro _ R ⟨S',t'⟩
  exact⟨t'.dK (D.to tM),j,aW,n,k,by rw[v];exact S'.cQ,(t2.trans tM).trans t'⟩
 have aX:∀{ac:E}(Z:J A ac)(a1:Int)(s':St),s'={c with av:=g++[{f with aR:=aR,pc:=a1}]}->
  aM cq 142 [vp t 0,vi a1] ac λ_ R=>dY [m1.size,m.size] ac R/\Cd q j m t d p s' R:=λZ a1 s' v=>by
  let⟨SM,tM⟩:=y.ext Z
  refine(jZ SM V a1).mono ?_
  rintro _ R ⟨S',t'⟩
  exact⟨t'.dK (D.to tM),j,aW,n,k,by rw[v];exact S'.cQ,(t2.trans tM).trans t'⟩
 refine⟨λv=>?_,λe0=>?_⟩
 .simp at v
  exact a5 (J.aA _) _ _ (by unfold eJ;simp only[];rw[aj v])
 simp only[ak]at e0
 refine⟨λv=>?_,λe1=>?_⟩
 .simp only[bU,aE]at v
  have N:=F.2.2.1 V
  have w:=aa V
  have H:0<=aG a.args 1/\aG a.args 1<f.an.length:=C.arg _ (fq V V)
  have I:=hM.nU V
  refine⟨V,V,_,M y.cQ.cv V,w.1,V,_,T y w.1 w.2,V,V,_,(ha.ext y.cQ.cv).pN (i:=1) V V,H.1,V,_,T y H.1 H.2,?_⟩
  refine(OY (a_ _ (fq V V) (I _ (fq V V))) (a_ _ (fq V V) (I _ (fq V V))) A).mono ?_
  rintro _ B ⟨rfl,z⟩
  refine⟨z.dv (λS hb=>(D S hb).1),_,rfl,z.cr (U.bV 1),a5 z _ _ ?_⟩
  unfold eJ;simp only[];rw[ae e0,aj v]
 simp only[bu,ak]at e1
 have an:¬(a.op=1\/a.op=2\/a.op=3\/a.op=4):=V
 refine⟨λv=>?_,λe5=>?_⟩
 .simp only[aE]at v
  have N:=F.2.1 V
  have w:=aa V
  have ag:(O.len aW)=c.aW.length:=by have:=y.cQ.aW.len;simp at this;omega
  refine⟨aW,y.cQ.box.bV 6,V,V,_,M y.cQ.cv V,w.1,V,_,T y w.1 w.2,?_⟩
  intro B
  have z:J A B:=(J.aA A).aH _
  have jm:fX B A.size 0 [.i (aG f.an (aG a.args 0))]:=(cx.push A _ _).iF
  let⟨I,t3⟩:=y.ext z
  have B3:=D.to t3
  clear_value B
  refine⟨z.cr (y.cQ.box.bV 6),iz.append (c:=[.i 0]) (x:=.mk A.size 0 1 1) (d:=[.i (aG f.an (aG a.args 0))]) I.cQ.aW I.cQ.new rfl jm (by simp only[O.iS];omega) λap aH m4 q1 q2=>?_⟩
  have Q:iz ap m4 aD 1 2 aH ((c.aW++[aG f.an (aG a.args 0)]).map Ce.i):=by simpa using q1
  let⟨L,H⟩:=I.LN q2 Q
  have B4:=B3.to H
  refine⟨H.dK B3,L.cQ.mE (i:=6) aJ,?_⟩
  intro m5
  let⟨S5,W⟩:=L.jw 6 [.s aH]
  refine⟨W.dK B4,V,V,_,M S5.cQ.cv V,w.1,V,_,T S5 w.1 w.2,?_⟩
  refine(Bl (a:={c with aW:=c.aW++[aG f.an (aG a.args 0)]}) S5 V hd.1 (by simp only[];omega) (by simp only[];omega) _ ao).mono ?_
  rintro _ m6 ⟨S6,t6⟩
  refine⟨t6.dK (B4.to W),ap,aH,n,k,?_,(((t2.trans t3).trans H).trans W).trans t6⟩
  unfold eJ;simp only[];rw[ae e0,ae an,aj v];exact S6.cQ
 simp only[ak]at e5
 have ba:∀X∈f.aY,X≠0->1000<=X/\ix X<c.heap.length:=λX hw a0=>by
  obtain⟨K,dd,bf,_⟩:=C.Lf X hw a0;exact⟨K,az bf⟩
 refine⟨λv=>?_,λe6=>?_⟩
 .simp only[aE]at v
  have h6:=F.2.2.2.2.1 v
  refine(uU y ha C.arg F.1 a.bQ aZ (by simp only[];omega) ⟨h6.1,h6.2.1⟩ ao V V ba).mono ?_
  rintro _ B ⟨am,al,ai,ag,L3,t3⟩
  refine⟨t3.dK D,am,al,ai,ag,?_,t2.trans t3⟩
  have:eJ b c g f a aR=nI c g {f with aR:=aR} a a.bQ:=by
   unfold eJ nI;simp only[];rw[ae e0,ae an,ae e5,aj v];rfl
  rw[this];exact L3
 simp only[ak]at e6
 refine⟨λv=>?_,λaV=>?_⟩
 .simp only[aE]at v
  have aO:=F.2.2.2.2.2.1 v
  have ax:a.bM=0:=by rcases hI.bM with P|P;exact P;omega
  have aQ:(eP b.bn).length<=12:=by
   have:=rD C.ok.fy.nj.types b.bn.length;rw[mV _ _ (ad _)]at this;exact this
  refine⟨d,y.cQ.box.bV 0,(qP (aY.ext y.cQ.cv).bn C.ok.fy.nj.types).mono ?_⟩
  rintro _ B ⟨rfl,z⟩
  let⟨I,t3⟩:=y.ext z
  have e3:cR (((eP b.bn).length:Int)+a.bQ)=bH b+a.bQ:=aP V V
  refine⟨t3.dK D,_,rfl,z.cr (U.bV 2),z.cr (U.bV 0),z.cr (U.bV 1),z.cr (U.bV 2),z.cr (U.bV 3),z.cr (U.bV 4),z.cr (U.bV 5),z.cr (kF.bV 0),z.cr (kF.bV 1),z.cr (kF.bV 2),z.cr (kF.bV 3),z.cr (kF.bV 4),z.cr (kF.bV 5),?_⟩
  rw[e3]
  refine(uU I ha C.arg F.1 (bH b+a.bQ) aZ (by simp only[];omega) (by rw[ax];omega) ao V V ba).mono ?_
  rintro _ m4 ⟨ap,aN,aA,aL,Q,H⟩
  refine⟨H.dK (D.to t3),ap,aN,aA,aL,?_,(t2.trans t3).trans H⟩
  have:eJ b c g f a aR=nI c g {f with aR:=aR} a (bH b+a.bQ):=by
   unfold eJ nI;simp only[];rw[ae e0,ae an,ae e5,ae e6,aj v,ae (λhh=>hh.1 ax)];rfl
  rw[this];exact Q
 simp only[ak]at aV
 refine⟨λv=>?_,λe9=>?_⟩
 .simp only[bU,aE]at v
  have Q:=hI.op
  unfold lT at Q
  refine(MZ y aY C.ok.fy ha C.arg F.1 V (λe'=>?_) (λe'=>⟨F.2.2.1 V,hM.apply e'⟩) aZ (λah G=>?_) ao V V V V C.ok.heap).mono ?_
  .rw[ae V,ae V,ae V,ae V,aj e']at Q;exact Q
  .have Y:=C.ok.av ah (by rw[C.fr];exact bL _ G)
   obtain⟨pg,_,aK,aw,_⟩:=Y.Ja C.ok.fy
   have K:=Y.lr
   have N:=Y.lo
   have h3:=Y.lh
   rw[aK]at K N h3
   have:=aw.an
   omega
  rintro _ B ⟨am,al,ai,ag,L3,t3⟩
  refine⟨t3.dK D,am,al,ai,ag,?_,t2.trans t3⟩
  have:eJ b c g f a aR=qZ b c g {f with aR:=aR} a:=by
   unfold eJ qZ;simp only[];rw[ae e0,ae an,ae e5,ae e6,ae aV,ae V,ae V,ae V,ae V,ae V,ae V,ae V,ae V];by_cases e9:a.op=9
   .rw[aj e9,aj e9];rfl
   .rw[ae e9,ae e9];by_cases Y:a.op=24
    .rw[aj Y,aj Y];rfl
    .rw[ae Y,ae Y,aj V]
  rw[this];exact L3
 simp only[bu,ak]at e9
 refine⟨λv=>?_,λbc=>?_⟩
 .simp only[aE]at v
  have N:=F.2.1 V
  have w:=aa V
  refine⟨V,V,_,M y.cQ.cv V,w.1,V,_,T y w.1 w.2,(Nd y V (aG f.an (aG a.args 0)) (λah G=>?_)).mono ?_⟩
  .have a0:g≠[]:=λv=>by rw[v]at G;simp at G
   have Y:g=g.dropLast++[ah]:=by
    rw[fg a0]at G;simp at G;rw[<-G];exact(eD a0).symm
   have aK:g.length=g.dropLast.length+1:=by
    have:=qu List.length Y;simpa using this
   let⟨q1,q2,q3⟩:=C.ok.chain g.dropLast.length ah f (by rw[C.fr,Y];simp) (by rw[C.fr,<-aK];simp)
   have aw:=C.ok.av ah (by rw[C.fr,Y];simp)
   have:=aw.lr
   have:=aw.lo
   exact⟨q1,by show f.dst<_;omega,by show f.dst<_;omega⟩
  rintro _ B ⟨am,al,ai,ag,L3,t3⟩
  refine⟨t3.dK D,am,al,ai,ag,?_,t2.trans t3⟩
  unfold eJ
  simp only[]
  rw[ae e0,ae an,ae e5,ae e6,ae aV,ae V,ae V,ae V,ae V,ae V,ae V,ae V,ae V,ae V,ae V,ae V]
  exact L3
 simp only[ak]at bc
 have bh:∀(ah:St),(if a.op=0 then ah else ah)=ah:=λah=>by split<;>rfl
 have MA:eJ b c g f a aR=(
  if a.op=14 then{c with heap:=mQ c.heap (aG f.an (aG a.args 0)),av:=g++[{f with aR:=gQ aR (aG a.args 0) (aG aR (aG a.args 0)+1),pc:=f.pc+1}]}
  else if a.op=15 then{c with heap:=nt (gS c.heap [aG f.an (aG a.args 0)]),av:=g++[{f with aR:=aR,pc:=f.pc+1}]}
  else if a.op=16\/a.op=17 then tI c g {f with aR:=aR} a
  else if a.op=18 then{c with av:=g++[aU.put {f with aR:=aR,pc:=f.pc+1} a.dst (aG f.an (aG a.args 0)) (gF (aG f.an (aG a.args 0)))]}
  else if a.op=19 then{c with av:=g++[aU.put {f with aR:=aR,pc:=f.pc+1} a.dst (aG (aI c.heap (aG f.an (aG a.args 0))).aN a.bQ) 0]}
  else if a.op=20 then{c with av:=g++[{f with aR:=aR,pc:=if aG f.an (aG a.args 0)=0 then a.bQ else f.pc+1}]}
  else if a.op=21 then{c with av:=g++[{f with aR:=aR,pc:=aG a.eG (rG (cw b.bn a.bQ) (aI c.heap (aG f.an (aG a.args 0))).kH)}]}
  else{c with av:=g++[{f with aR:=aR,pc:=a.bQ}]}):=by
  unfold eJ
  simp only[]
  rw[ae e0,ae an,ae e5,ae e6,ae aV]
  by_cases aK:a.op=14
  .rw[aj aK,aj aK]
  rw[ae aK,ae aK]
  by_cases aL:a.op=15
  .rw[aj aL,aj aL]
  rw[ae aL,ae aL]
  by_cases aN:a.op=16\/a.op=17
  .rw[aj aN,aj aN];rfl
  rw[ae aN,ae aN]
  by_cases aO:a.op=18
  .rw[aj aO,aj aO]
  rw[ae aO,ae aO]
  by_cases aQ:a.op=19
  .rw[aj aQ,aj aQ]
  rw[ae aQ,ae aQ]
  by_cases aS:a.op=20
  .rw[aj aS,aj aS]
  rw[ae aS,ae aS]
  by_cases aT:a.op=21
  .rw[aj aT,aj aT]
  rw[ae aT,ae aT]
  have:=C.ZK
  rw[aj V]
 rw[MA]
 clear MA bh
 refine⟨λv=>?_,λa6=>?_⟩
 .simp only[aE]at v
  rw[aj v]
  have N:=F.2.1 V
  have w:=aa V
  let⟨Y,bv⟩:=hM.VS v
  let⟨be,bE⟩:=bZ Y
  refine⟨V,V,_,M y.cQ.cv V,w.1,V,_,T y w.1 w.2,?_⟩
  intro B
  have z:J A B:=(J.aA A).aH _
  have ow:gY A B aD 1 (.mk A.size 0 1 1) ([aG f.an (aG a.args 0)].map Ce.i):=gY.new (J.aA A) aD 1 _ 1 aJ
  let⟨I,t3⟩:=y.ext z
  have B3:=D.to t3
  have hz:j A.size=0:=y.cQ.new _ (ad _)
  clear_value B
  refine(Dx I.cQ (aq.gK ow aJ) (λ_=>hz) (λX hw=>?_) (λbb hc=>?_) aJ V).mono ?_
  .simp at hw;subst hw;exact⟨Y.1,az be⟩
  .have:=C.ok.heap.cell bb hc;have P:=this.lo;have h6:=this.hi;omega
  rintro _ m4 ⟨a2,c4⟩
  let⟨L,H⟩:=I.gD (c4.mono λah hk=>Or.inl hk) a2
  have B4:=B3.to H
  have aw:aG a.args 0<aR.length:=V
  have bz:0<=aG aR (aG a.args 0)/\aG aR (aG a.args 0)<=999999:=by
   refine⟨hM.nn _ (fq (l:=aR) w.1 aw),?_⟩;have G:=oK (l:=aR) w.1 aw;rw[ay]at G;let⟨qq,a3,a9⟩:=ln _ _ _ _ G;have:=(C.OM qq (ar a3)).2;rw[<-ay]at a9;omega
  have bd:cR (aG aR (aG a.args 0)+1)=aG aR (aG a.args 0)+1:=aP V V
  refine⟨H.dK B3,V,V,_,M L.cQ.cv V,V,V,_,M L.cQ.cv V,w.1,V,aG aR (aG a.args 0),(L.Jl (by simp only[];omega)).pN w.1 aw,w.1,V,L.fZ.aR.Pk w.1 aw,?_⟩
  rw[bd,e4]
  intro m5
  let⟨S5,W⟩:=L.pZ w.1 aw (aG aR (aG a.args 0)+1)
  refine⟨W.dK B4,(jZ (a:={c with heap:=jf c.heap [aG f.an (aG a.args 0)]}) S5 V (f.pc+1)).mono ?_⟩
  rintro _ m6 ⟨S6,t6⟩
  exact⟨t6.dK (B4.to W),j,aW,n,k,S6.cQ,(((t2.trans t3).trans H).trans W).trans t6⟩
 simp only[ak]at a6
 rw[ae a6]
 have bb:a.args.length=1->a.args=[aG a.args 0]:=λK=>by
  cases Z:a.args with
  |nil=>rw[Z]at K;simp at K
  |cons aw G=>cases G with
   |nil=>rfl
   |cons bd G=>rw[Z]at K;simp at K
 refine⟨λv=>?_,λaw=>?_⟩
 .simp only[aE]at v
  rw[aj v]
  have N:=F.2.1 V
  have w:=aa V
  have ht:bW b a=[aG a.args 0]:=by unfold bW;rw[aj V];exact bb V
  have G:=a7.1
  rw[ht]at G
  refine⟨n,y.cQ.box.bV 7,V,V,_,M y.cQ.cv V,w.1,V,_,T y w.1 w.2,?_⟩
  intro B
  have z:J A B:=(J.aA A).aH _
  have ow:gY A B aD 1 (.mk A.size 0 1 1) ([aG f.an (aG a.args 0)].map Ce.i):=gY.new (J.aA A) aD 1 _ 1 aJ
  let⟨I,t3⟩:=y.ext z
  have B3:=D.to t3
  clear_value B
  refine⟨z.cr (y.cQ.box.bV 7),(Gu I.cQ.heap I.cQ.new (aq.gK ow aJ) (e:=λS=>gU g S+dq f.an aR S) (G.congr λS=>rfl) a7.2 V).mono ?_⟩
  rintro _ m4 ⟨ap,aA,rfl,a2,c4⟩
  let⟨L,H⟩:=I.gD c4 a2
  have B4:=B3.to H
  refine⟨H.dK B3,aA,rfl,L.cQ.mE (i:=7) aJ,?_⟩
  intro m5
  let⟨S5,W⟩:=L.jw 7 [.s aA]
  rw[e4]
  refine⟨W.dK B4,(jZ (a:={c with heap:=nt (gS c.heap [aG f.an (aG a.args 0)])}) S5 V (f.pc+1)).mono ?_⟩
  rintro _ m6 ⟨S6,t6⟩
  exact⟨t6.dK (B4.to W),ap,aW,aA,k,S6.cQ,(((t2.trans t3).trans H).trans W).trans t6⟩
 simp only[ak]at aw
 rw[ae aw]
 refine⟨λv=>?_,λap=>?_⟩
 .simp only[bU,aE]at v
  rw[aj v]
  refine(Iy y ha C.arg ⟨F.2.2.2.1 v,F.1⟩ v aZ ao V V (λaH G=>?_) (hM.Jj v).1 C.ok.heap).mono ?_
  .refine⟨hM.nn aH G,?_⟩
   let⟨ah,hk⟩:=List.mem_iff_getElem?.1 G
   simp only[]at hk
   rw[ay]at hk
   let⟨qq,a3,a9⟩:=ln _ _ _ _ hk
   have:=(C.OM qq (ar a3)).2
   omega
  rintro _ B ⟨am,al,ai,ag,L3,t3⟩
  exact⟨t3.dK D,am,al,ai,ag,L3,t2.trans t3⟩
 simp only[bu,ak]at ap
 rw[ae V]
 refine⟨λv=>?_,λW=>?_⟩
 .simp only[aE]at v
  rw[aj v]
  have N:=F.2.1 V
  have w:=aa V
  refine⟨V,V,_,M y.cQ.cv V,w.1,V,_,T y w.1 w.2,(tX y V hd.1 (by simp only[];omega) (by simp only[];omega) _).mono ?_⟩
  rintro _ B ⟨I,t3⟩
  rw[e4]
  refine⟨t3.dK D,(jZ I V (f.pc+1)).mono ?_⟩
  rintro _ m4 ⟨L,H⟩
  exact⟨H.dK (D.to t3),j,aW,n,k,L.cQ,(t2.trans t3).trans H⟩
 simp only[ak]at W
 rw[ae W]
 have ai:=y.rv aY V V (bg y)
 refine⟨λv=>?_,λI=>?_⟩
 .simp only[aE]at v
  rw[aj v]
  have N:=F.2.1 V
  have w:=aa V
  let⟨Y,G⟩:=hM.load v
  have Q:=hI.op
  unfold lT at Q
  rw[ae V,ae V,ae V,ae V,ae V,ae V,ae V,aj v]at Q
  refine⟨V,V,_,M y.cQ.cv V,w.1,V,_,T y w.1 w.2,(fQ ai Y.1 (bZ Y).1).mono ?_⟩
  rintro _ B ⟨fl,rfl,H,z⟩
  have L:=H.len
  refine⟨z.dv (λS hb=>(D S hb).1),_,_,_,rfl,z.cr (U.bV 2),z.cr (U.bV 1),Q.2.1,V,_,H.pN Q.2.1 G,a5 z _ _ rfl⟩
 simp only[ak]at I
 rw[ae I]
 refine⟨λv=>?_,λL=>?_⟩
 .simp only[aE]at v
  rw[aj v]
  have N:=F.2.1 V
  have w:=aa V
  refine⟨V,V,_,M y.cQ.cv V,w.1,V,_,T y w.1 w.2,λP=>?_,λP=>?_⟩
  .simp at P;exact aX (J.aA _) _ _ (by rw[aj P])
  .simp at P;rw[e4];exact aX (J.aA _) _ _ (by rw[ae P])
 simp only[ak]at L
 rw[ae L]
 refine⟨λv=>?_,λag=>?_⟩
 .simp only[aE]at v
  rw[aj v]
  have N:=F.2.1 V
  have w:=aa V
  let⟨Y,al⟩:=hM.BC v
  let⟨be,bv,a2,aH⟩:=QS al
  have Q:=hI.op
  unfold lT at Q
  rw[ae V,ae V,ae V,ae V,ae V,ae V,ae V,ae V,ae V,ae V,aj v]at Q
  have a3:rG (cw b.bn a.bQ) (aI c.heap (aG f.an (aG a.args 0))).kH<(cw b.bn a.bQ).length:=mF ⟨_,al,aJ⟩
  have bd:=hj.len
  have a9:=Q.2.2.1
  have aA:=(C.ok.heap.cell _ (ar (bZ Y).1)).ry (bZ Y).2
  have bz:=C.ok.fy.nj.types.len
  refine⟨V,V,_,M y.cQ.cv V,w.1,V,_,T y w.1 w.2,(fQ ai Y.1 (bZ Y).1).mono ?_⟩
  rintro _ B ⟨fl,rfl,H,z⟩
  have e7:cR (a.bQ -1)=((a.bQ.toNat -1:Nat):Int):=by rw[aP V V];omega
  rw[e7]
  have am:=y.cQ.cv.trans z
  refine⟨z.dv (λS hb=>(D S hb).1),_,_,_,rfl,d,z.af (y.cQ.box.bV 0),(km (aY.ext am).bn C.ok.fy.nj.types V).mono ?_⟩
  rintro _ m4 ⟨rfl,G⟩
  have e8:cR ((aI c.heap (aG f.an (aG a.args 0))).kH -((fc b.bn (a.bQ.toNat -1):Nat):Int))=((rG (cw b.bn a.bQ) (aI c.heap (aG f.an (aG a.args 0))).kH:Nat):Int):=by
   rw[aP V V];omega
  refine⟨G.dv (λS hb=>z.lt (D S hb).1),_,rfl,G.cr ((U.ext z).bV 5),?_⟩
  rw[e8]
  refine⟨V,V,_,(hj.ext (am.trans G)).pN V V,aX (z.trans G) _ _ rfl⟩
 simp only[ak]at ag
 rw[ae ag]
 refine⟨λv=>aX (J.aA _) _ _ rfl,λw=>?_⟩
 simp only[ak]at w
 have:=C.ZK
 omega
end
end
end Go.Proofs.YtkoifinbblcbiaaGreat
