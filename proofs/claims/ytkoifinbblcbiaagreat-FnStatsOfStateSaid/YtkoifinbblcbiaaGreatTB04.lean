/- Part of a proof. -/
import Derived.Test.YtkoifinbblcbiaaGreatTB03
set_option linter.all false
set_option maxHeartbeats 8000000
set_option maxRecDepth 100000
namespace Go.Proofs.YtkoifinbblcbiaaGreat
open Go.Vc
section
variable{g:E}{s:O}{l:List Int}{c f:Ex}
abbrev G3(M a:E)(k:Nat)(X:Prop):Prop:=af a k 0=af M k 0/\af a k 1=af M k 1/\af a k 2=af M k 2/\X
abbrev E3(v:Value)(X:Int->Int->O->Prop):Prop:=∃a b:Int,∃c:O,v=.agg #[vi a,vi b,O.v c]/\X a b c
abbrev N1(L:List Nat)(e:Nat)(M:E)(K:Int->Int->O->E->Prop):Prop:=aM cq 313 [vi 1,vi 0,O.v (.mk e 0 2 2)] M λv a=>dY L M a/\E3 v λb c d=>K b c d a
section
variable(L:List Nat)(k:Nat)(b:Int)(h i d p w l:O)(j a e:Nat)(F:Int->Int->O->E->Prop)
abbrev TR5(g:Nat)(M:E):Prop:=N1 L g M λd e f c=>G3 M c a (N1 L c.size (c.push (.cells (bA [.i 9,.i b,.s h,.i d,.i e,.s f]) bK)) F)
abbrev TR4(c d:Int)(e:O)(M:E):Prop:=G3 M (M.push (.cells (bA [.i c,.i d,.s e,.i 9,.i b,.s i]) bK)) a (TR5 L b h a F M.size (M.push (.cells (bA [.i c,.i d,.s e,.i 9,.i b,.s i]) bK)))
abbrev TR3(M:E):Prop:=aM cq 312 [vp k 0,.agg #[O.v d,O.v p],O.v w,vi 0,vi 4] M λv c=>dY L M c/\E3 v λe f g=>G3 M c j (G3 M c a (TR4 L b h i a F e f g c))
abbrev TR2(f:Nat)(M:E):Prop:=aM cq 187 [O.v l,O.v (.mk f 0 3 3)] M λv c=>dY L M c/\∃s:O,v=O.v s/\G3 M c j (af c e 0=af M e 0/\af c e 1=af M e 1/\G3 M c a (TR3 L k b h i d p s j a F c))
end
def _root_.Go.Vc.Vq{σ τ:Type}{n:Nat}(q:n<=9223372036854775807)(e:1<=n){m:E}{h:σ}{j:τ}{g:(σ->τ->Int->E->Prop)->(σ->τ->Int->E->Nat)->σ->τ->Int->E->Prop}(Q:Nat->σ->τ->E->Prop)(o:Q 1 h j m)
 (l:∀(k:Nat)(s:σ)(t:τ)(a:E)(I:σ->τ->Int->E->Prop)(μ:σ->τ->Int->E->Nat),1<=k->k<=n->Q k s t a->
  (k<n->∀c d b,Q (k+1) c d b->I c d (cR ((k:Int)+1)) b/\μ c d (cR ((k:Int)+1)) b<μ s t k a)->g I μ s t k a):
 ∃(I:σ->τ->Int->E->Prop)(μ:σ->τ->Int->E->Nat),I h j 1 m/\∀s t i a,I s t i a->g I μ s t i a:=by
 refine⟨λs t i b=>∃k:Nat,i=k/\1<=k/\k<=n/\Q k s t b,λ_ _ i _=>(n -i).toNat,⟨1,rfl,ad _,e,o⟩,?_⟩
 rintro s t i a ⟨k,rfl,e,p,r⟩
 refine l k s t a _ _ e p r λf c d b u=>?_
 rw[kW f q]
 exact⟨⟨k+1,rfl,V,f,u⟩,Gj f⟩
def Pz(_:E)(a:List Ce)(n:Int):Prop:=∃s:O,a=[.i 12,.i n,.s s]/\s.len=0
def Pz.mono:oH 3 Pz:=⟨λ_ h=>h,λ⟨_,h,_⟩=>by rw[h];rfl⟩
abbrev GV(g m:E)(s:O)(l:List Int):Prop:=Gr [] g m bK 3 Pz s l
def GV.dQ{m a:E}(h:GV g m s l)(q:a[s.D]? =m[s.D]?):GV g a s l:=by
 let⟨c,b,d,e⟩:=h;exact⟨c,b,d.congr q,e.mono λ_ _ h=>h⟩
def GV.ex{a:List Nat}{m:E}(h:GV g m s l)(j:s.D∉a)(t:l.length<=1000):fF (bP a m) s (l.map λn=>.mk 12 n []):=by
 let⟨e,d,f,i⟩:=h;have H:=Gr.nQ (S:=a) Pz.mono ⟨e,d,f,i.mono λ_ _ h=>h⟩ j be V;refine⟨by rw[H.len];simp,H.cap,H.iC,λq c b=>?_⟩;simp only[cU,jG]at b;obtain⟨n,k,rfl⟩:=b;obtain⟨r,⟨u,rfl,p⟩,o⟩:=H.iF q n k;exact⟨_,BQ.of ⟨p,V,V,aL⟩,o⟩
structure AS(S:List Nat)(ds:List bz)(nf a n0 k Q rb:Nat)(bs:O)(m M:E)(sl:O)(el:Ex)(sr:O)(er:Ex):Prop where
 b:cw M k bK [.i 0,.i 0,.s .nil]
 hk:n0<=k
 l:HX (k::S) ds nf a M sl el
 r:HX (k::S) ds nf a M sr er
 s:Rs rb bs m Q M
section
variable{S:List Nat}{e:List bz}{h a n k Q r b:Nat}{d o p:O}{m M q:E}{i j:Ex}
def AS.ext(f:AS S e h a n k Q b d m M o i p j)(c:J M q):AS S e h a n k Q b d m q o i p j:=⟨f.b.ext c,f.hk,f.l.ext c,f.r.ext c,f.s.ext c⟩
def AS.fz(c:AS S e h a n k Q b d m M o i p j)(g:b∈S)(l:k≠b)(f:Fz [b] M q)(s:Rd b d r q):AS S e h a n k r b d m q o i p j:=⟨c.b.congr (f.same k c.b.lt (by simpa using l)),c.hk,c.l.fz (by simp[g]) f,c.r.fz (by simp[g]) f,c.s.to f s⟩
def AS.new(f:n<=M.size)(l:HX S e h a M o i)(r:HX S e h a M p j)(s:Rs b d m Q M):J M (M.push (.cells (bA [.i 0,.i 0,.s .nil]) bK))/\AS S e h a n M.size Q b d m (M.push (.cells (bA [.i 0,.i 0,.s .nil]) bK)) o i p j:=
 have c:=J.push M (.cells (bA [.i 0,.i 0,.s .nil]) bK)
 ⟨c,cw.push _ _ _,f,l.jT c (ad _),r.jT c (ad _),s.ext c⟩
end
section
variable{h:List Nat}{b P:Nat}{o d p:O}{i:List bz}{j:List dA}{m:E}
def WX.m3{e d:Nat}{z:Ex}(hd:i∈rY)(l:WX i e d c)(m:WX i e d f)(n:WX i e (d+3) z):WX i e d (.mk 8 3 [c,f,z]):=by
 obtain⟨-,g,-,-,j,k⟩:=Nw i hd;refine .mt l (by rw[g];rfl) aL λh p o b a=>?_;rw[g]at a;rcases h with _|_|h
 .simp at b a;subst b a;rw[j];exact m
 .simp at b a;subst b a;rw[k];exact n
 .simp at b
def WX.add{b a:Nat}(d:WX i b a c)(e:WX i b a f):WX i b a (.mk 1 0 [c,f]):=.fe be (λh=>V) be (λh=>V) (by simp;exact⟨d,e⟩)
def Ka(hS:∀F∈h,F<m.size)(aU:b∈h)(F:GC b o P d p i j m)(hP:P+200+3*Cg 18<=10^16){C:Nat}{w:dA}(hq:j[C]? =some w)(bF:1<=w.params.length):
 aM cq 283 [vp b 0,.agg #[O.v d,O.v p],vi C] m (XP h b o m (P+200+3*Cg 18) (WX i j.length w.params.length)):=by
 apply CW (b,0)
 simp -zeta only[aC,aB]
 intro A ap
 let⟨x2,hl⟩:=dP (a:=A) (c:=ap) rfl rfl
 have s1:A.size=m.size+1:=by simp[A]
 have s2:ap.size=m.size+2:=by simp[ap,s1]
 have hr:=F.rd.lt
 clear_value ap
 have ax:∀{g:E},ap.size<=g.size->∀F∈A.size::h,F<g.size:=λz=>bT hS V V
 have r2:Rs b o m P ap:=⟨x2.fz _,F.rd.ext x2⟩
 have L1:∀{g:E},ap.size<=g.size->Lw b [A.size,m.size] g:=λz=>lw hr bJ
 let⟨ps,bk,e0,e1⟩:=F.hp.aG hq
 have bY:=az hq
 have b2:=F.hp.len
 have bc:=xk _ (F.gp.dx w (au hq))
 have h3:w.params.length<=3:=bc.1
 have PS:∀{g:E},Fz [b] m g->IR b g ps w.params:=λD=>bk.le (fh D)
 have E1:∀{g:E},Fz [b] m g->af g p.D (p.off+C*5+1)=some (vi w.aT):=λD=>(eF.1 (fh D _ _ _ e1)).2
 have b3:=bk.len
 have bs:=F.gp.ty (t:=0) be be
 have aA:b∈A.size::h:=by simp[aU]
 refine⟨V,V,ps,(eF.1 (fh r2.f _ _ _ e0)).2,?_⟩
 refine xf (A.size::h) i j.length (a:=w.params.length+3) (L1 (ad _)) V λs3 Z bC x3=>?_
 have z3:=x3.size
 intro m4
 have x4:J Z m4:=J.push _ _
 have g4:GV Z m4 (.mk Z.size 0 1 1) [(ps.len:Int)]:=Gr.lit (f:=[[.i 12,.i ps.len,.s s3]]) Pz.mono (ad _) aL rfl rfl ⟨rfl,aL,λaE F B hj q=>by
  have:aE=0:=by have:=az hj;simp at this;omega
  subst this;simp at hj q;subst hj q;exact⟨s3,rfl,bC.sl.len⟩⟩
 have s4:m4.size=Z.size+1:=by simp[m4]
 clear_value m4
 rw[aP (b:=(ps.len:Int)+2) V V]
 refine xf (A.size::h) i j.length (a:=w.params.length+3) (L1 V) V λs5 m5 h5 x5=>?_
 have z5:=x5.size
 intro m6
 have x6:J m5 m6:=J.push _ _
 have g6:GV m5 m6 (.mk m5.size 0 1 1) [(ps.len:Int)+2]:=Gr.lit (f:=[[.i 12,.i (ps.len+2),.s s5]]) Pz.mono (ad _) aL rfl rfl ⟨rfl,aL,λaE F B hj q=>by
  have:aE=0:=by have:=az hj;simp at this;omega
  subst this;simp at hj q;subst hj q;exact⟨s5,rfl,h5.sl.len⟩⟩
 clear_value m6
 have r3:=r2.ext x3
 have vq:∀{g u:E}{L:Int}{s:O}{l:List Int}{aX:O->E->Prop}{aT:O},GV Z g s l->J Z g->l.length<=10->aT.len=0->(∀R u,GV Z u R (l++[L])->J Z u->g.size<=u.size->(R.D=s.D\/g.size<=R.D)->(∀H,H<g.size->H≠s.D->u[H]? =g[H]?)->aX R u)->
  jM (g.push (.cells (bA [.i 12,.i L,.s aT]) bK)) bK [.i 0,.i 0,.s .nil] 40 s (.mk g.size 0 1 1) aX:=λaQ c hl ht hk=>
  Gr.kL (g:=[.i 0,.i 0,.s .nil]) (X:=[]) Pz.mono be aQ (c.fz []) ⟨_,rfl,ht⟩ V λR u g' f' aJ w=>hk R u g' f'.ext aJ.1 aJ.2 w
 refine Vq (n:=w.params.length) V bF (λaE s aT g=>∃l l',GV Z g s l/\GV Z g aT l'/\l.length=aE/\l'.length=aE/\(∀L∈l,0<=L/\L<((w.params.length+3:Nat):Int))/\(∀L∈l',0<=L/\L<((w.params.length+3:Nat):Int))/\J Z g/\s.D≠aT.D) ⟨_,_,(g4.dQ ((x5.trans x6).same _ (by show Z.size<_;omega))),Gr.cv Pz.mono g6 (λ_ z=>Or.inl z) V,rfl,rfl,bJ,bJ,(x4.trans x5).trans x6,by show Z.size≠m5.size;omega⟩ ?_
 rintro aE s aT g bW μ bZ hj ⟨l,l',aQ,g',b0,b1,hw,bn,xM,bE⟩ bI
 have zM:=xM.size
 have RM:=r3.ext xM
 refine⟨λz=>?_,λ_=>?_⟩
 .simp only[aq]at z
  refine xf (A.size::h) i j.length (a:=w.params.length+3) (L1 V) V λs7 W h7 x7=>?_
  have gy:=aQ.bh;have aZ:=g'.bh
  have z7:=x7.size
  intro m8
  refine vq (u:=W) (aQ.dQ (x7.same _ gy.2)) (xM.trans x7) V h7.sl.len λr9 m9 r x9 z9 Y T=>?_
  refine⟨(L1 (g:=Z) z3).tO ((((xM.trans x7).trans (J.push W _)).fz [b])) (x9.fz _),?_⟩
  refine xf (A.size::h) i j.length (a:=w.params.length+3) (L1 V) V λaa ah a8 ai=>?_
  intro bp
  have N:=((g'.dQ (x7.same _ aZ.2)).dQ (T _ V (kH bE))).dQ (ai.same _ V)
  have vQ:=ai.size
  refine vq (u:=W) N (x9.trans ai) V a8.sl.len λbd K I aH bR U Q=>?_
  refine⟨(L1 (g:=Z) z3).tO (((x9.trans ai).trans (J.push ah _)).fz [b]) (aH.fz _),bI V _ _ _ ⟨_,_,(r.dQ (ai.same _ r.bh.2)).dQ (Q _ (oh r.bh.2) V),I,bJ,bJ,λL q=>?_,λL q=>?_,aH,oh r.bh.2⟩⟩
  .rcases List.mem_append.1 q with z|z
   .exact hw L z
   .simp at z;omega
  .rcases List.mem_append.1 q with z|z
   .exact bn L z
   .simp at z;omega
 have gy:=aQ.bh;have aZ:=g'.bh
 have nS:∀H,Z.size<=H->H∉A.size::h:=λH hb z=>by have:=ax (g:=ap) (ad _) H z;omega
 have bf:∀l:List Int,(∀L∈l,0<=L/\L<((w.params.length+3:Nat):Int))->WX i j.length (w.params.length+3) (.mk 9 C (l.map λL=>.mk 12 L [])):=λl hl=>.fe be (λz=>V) be (λ_=>⟨V,V⟩) (by simp;exactλL q=>.UG (hl L q))
 refine jC (aQ.ex (nS _ gy.1) V) (bf l hw) (L1 V) λsl W h7 x7=>?_
 intro m8 m9
 obtain⟨x9,-,z9⟩:=kJ (M:=W) (d:=m8) (c:=m9) rfl rfl rfl
 clear_value m9
 have z7:=x7.size
 refine jC ((g'.dQ ((x7.trans x9).same _ aZ.2)).ex (nS _ aZ.1) V) (bf l' bn) (lw hr bJ) λsr ah a8 ai=>?_
 intro bp K
 obtain⟨aH,-,bR⟩:=kJ (M:=ah) (d:=bp) (c:=K) rfl rfl rfl
 clear_value K
 have vQ:=ai.size
 have a9:=((h7.ext x9).ext ai).ext aH
 have ba:=a8.ext aH
 generalize bh:Ex.mk 9 C (l.map λL=>.mk 12 L [])=el at a9
 generalize bi:Ex.mk 9 C (l'.map λL=>.mk 12 L [])=er at ba
 have bd:=(((RM.ext x7).ext x9).ext ai).ext aH
 have bX:=((x7.trans x9).trans ai).trans aH
 have bj:∀{r:Nat},K.size<=r->r≠b:=λz=>V
 have G:∀{g u:E}{r aS:Nat},K.size<=g.size->Fz [b] g u->m.size<=r->r<K.size->af u r aS=af g r aS:=λz D h1 h2=>kg D hr ⟨h1,V⟩ _
 have L4:∀{g:E},K.size<=g.size->Lw b [ah.size,W.size,A.size,m.size] g:=λz=>lw hr bJ
 have L5:∀{g:E}{r:Nat},K.size<=r->r<g.size->Lw b [r,ah.size,W.size,A.size,m.size] g:=λz h'=>lw hr bJ
 have a1:∀{g:E}{r:Nat},K.size<=r->r<g.size->∀F∈r::A.size::h,F<g.size:=λz h'=>bT (ax (g:=K) V) V h'
 have a5:=λ(c f:Ex)=>WX.add (i:=i) (b:=j.length) (a:=w.params.length+3) (c:=c) (f:=f)
 let aX:=λ(r:Nat)(g:E)=>∃s B,BX (A.size::h) i j.length (w.params.length+3) r g s B/\HX (r::A.size::h) i j.length (w.params.length+3) g sl el/\Rs b o m (P+Cg 18) g
 have bx:∃k9,el=.mk 9 C k9:=⟨_,bh.symm⟩
 have bz:∃k9,er=.mk 9 C k9:=⟨_,bi.symm⟩
 clear bh bi
 obtain⟨kl,rfl⟩:=bx
 obtain⟨kr,rfl⟩:=bz
 let av:=λ(r aY:Nat)(g:E)=>AS (A.size::h) i j.length (w.params.length+3) K.size r (P+aY) b o m g sl (.mk 9 C kl) sr (.mk 9 C kr)
 let aO:=λr=>[r,ah.size,W.size,A.size,m.size]
 let K0:=λ(kd:Nat×Nat)(g:E)=>kd.2=0/\K.size<=kd.1/\aX kd.1 g
 let aN:=λ(r:Nat)(q H:Int)(F:O)(u:E)=>K0 (r,0) (ag u r 0 [.i q,.i H,.s F])
 have H3:∀{g u:E}{Q:Prop},K.size<=g.size->Fz [b] g u->Q->G3 g u W.size Q:=λI D c=>⟨G I D V V,G I D V V,G I D V V,c⟩
 have H6:∀{g u:E}{Q:Prop},K.size<=g.size->Fz [b] g u->Q->G3 g u ah.size (G3 g u W.size Q):=λI D c=>⟨G I D V V,G I D V V,G I D V V,H3 I D c⟩
 have H5:∀{g u:E}{Q:Prop},K.size<=g.size->Fz [b] g u->Q->af u m.size 0=af g m.size 0/\af u m.size 1=af g m.size 1/\G3 g u W.size Q:=λI D c=>⟨G I D V V,G I D V V,H3 I D c⟩
 have H8:∀{g u:E}{Q:Prop},K.size<=g.size->Fz [b] g u->Q->G3 g u ah.size (af u m.size 0=af g m.size 0/\af u m.size 1=af g m.size 1/\G3 g u W.size Q):=λI D c=>⟨G I D V V,G I D V V,G I D V V,H5 I D c⟩
 have R7:∀{r t0:Nat}{g:E}{B:Ex},av r (Cg 18) g->fF (bP (r::A.size::h) g) (.mk t0 0 2 2) [.mk 9 C kl,B]->WX i j.length (w.params.length+3) B->N1 (aO r) t0 g (aN r):=λq hs hw=>
  jC hs (a5 _ _ q.l.wx hw) (L5 q.hk q.b.lt) λs' u h' c=>by
   have hb:=(BX.mk (e:=.mk 0 0 []) (s:=.nil) (q.b.ext c) ⟨⟨rfl,ad _,aL,aL⟩,.int 0⟩).set h';exact⟨rfl,q.hk,s',_,hb,(q.l.ext c).put aL _ _,(q.s.ext c).put F.rd (oh q.hk) _ _⟩
 have R6:∀{r:Nat}{g:E}{s:O}{q H:Int}{kk:List Ex},av r (Cg 18) g->HX (r::A.size::h) i j.length (w.params.length+3) g s (.mk q H kk)->N1 (aO r) g.size (g.push (.cells (bA [.i 9,.i C,.s sl,.i q,.i H,.s s]) bK)) (aN r):=λq z=>
  R7 (q.ext (J.push _ _)) (pb [(.mk 9 C kl,sl),(.mk _ _ _,_)] aL (a1 q.hk q.b.lt) (by simp;exact⟨q.l.sl,z.sl⟩) rfl rfl) z.wx
 have R5:∀{r t0:Nat}{g:E}{B:Ex},av r (Cg 18) g->fF (bP (r::A.size::h) g) (.mk t0 0 2 2) [B,.mk 9 C kr]->WX i j.length (w.params.length+3) B->TR5 (aO r) C sl W.size (aN r) t0 g:=λq hs hw=>
  jC hs (a5 _ _ hw q.r.wx) (L5 q.hk q.b.lt) λs' u h' c=>
   have I:=QK (nO q.hk q.b.lt)
   H3 I (c.fz _) (R6 (q.ext c) h')
 have R4:∀{r:Nat}{g:E}{s:O}{B:Ex},av r (Cg 18) g->HX (r::A.size::h) i j.length (w.params.length+3) g s B->TR4 (aO r) C sl sr W.size (aN r) B.op B.bQ s g:=λ{r g s B} q z=>
  have c:=J.push g (.cells (bA [.i B.op,.i B.bQ,.s s,.i 9,.i C,.s sr]) bK)
  have I:=QK (nO q.hk q.b.lt)
  H3 I (c.fz _) (R5 (q.ext c) (pb [(B,s),(.mk 9 C kr,sr)] aL (a1 q.hk q.b.lt) (by simp;exact⟨z.sl,q.r.sl⟩) rfl rfl) z.wx)
 have bg:∀{a6 L':List Nat}{g:E}{ab:O}{K':Int->Int->O->E->Prop},(∀F∈a6,F<g.size)->b∈a6->Rs b o m P g->IR b g ab (w.params++[3,0,3])->Lw b L' g->(∀B s u,HX a6 i j.length (w.params.length+3) u s B->Rd b o (P+Cg 18) u->Fz [b] g u->K' B.op B.bQ s u)->aM cq 312 [vp b 0,.agg #[O.v d,O.v p],O.v ab,vi 0,vi 4] g λbN u=>dY L' g u/\∃r0 r1:Int,∃r2:O,bN=.agg #[vi r0,vi r1,O.v r2]/\K' r0 r1 r2 u:=λbD bG R hw hL hk=>
  FR (v:=w.params++[3,0,3]) bD bG (F.to R.f R.r) V hw bJ bs be hL λB s u z d D=>hk B s u (by simpa using z) d D
 have R3:∀{r:Nat}{g:E}{ab:O},av r 0 g->IR b g ab (w.params++[3,0,3])->TR3 (aO r) b C sl sr d p ab ah.size W.size (aN r) g:=λq hw=>
  bg (a1 q.hk q.b.lt) (by simp[aU]) q.s hw (L5 q.hk q.b.lt) λB s u z d' D=>
   have I:=QK (nO q.hk q.b.lt)
   H6 I D (R4 (q.fz aA (bj q.hk) D d') z)
 have R2:∀{r t0:Nat}{g:E},av r 0 g->ar (bP [b] g) (.mk t0 0 3 3) [3,0,3]->TR2 (aO r) b C sl sr d p ps ah.size W.size m.size (aN r) t0 g:=λq hw=>
  (eM (S:=[b]) (by simp;exact q.s.r.lt) (PS q.s.f) hw bJ).mono λ_ u⟨ab,wl,B,gw,qw,c⟩=>by
   subst qw;have I:=QK (nO q.hk q.b.lt);exact⟨(L5 q.hk q.b.lt).dv (c.fz _),ab,B,H8 I (c.fz _) (R3 (q.ext c) (GI.done gw (by simp;exact q.s.r.lt) bJ))⟩
 have aG:∀{g:E}{aY:Nat},K.size<=g.size->HX (A.size::h) i j.length (w.params.length+3) g sl (.mk 9 C kl)->HX (A.size::h) i j.length (w.params.length+3) g sr (.mk 9 C kr)->Rs b o m (P+aY) g->J g (g.push (.cells (bA [.i 0,.i 0,.s .nil]) bK))/\av g.size aY (g.push (.cells (bA [.i 0,.i 0,.s .nil]) bK)):=λh1 h2 h3 h4=>AS.new h1 h2 h3 h4
 have r0:Rs b o m (P+0) K:=bd
 have wl:∀g:E,b<g.size->ar (bP [b] (g.push (.cells (bA [.i 3,.i 0,.i 3]) aD))) (.mk g.size 0 3 3) [3,0,3]:=λg z=>ar.lit aD _ (by simp;exact z) rfl rfl aL
 refine⟨K0,⟨?_,?_⟩,?_⟩
 .intro ac
  have N:J K ac:=J.push _ _
  have a3:ar (bP [b] ac) (.mk K.size 0 3 3) [3,0,3]:=wl K bd.r.lt
  clear_value ac
  have aK:=N.size
  have a_:=a9.ext N;have bb:=ba.ext N;have Y:=r0.ext N
  refine H8 (ad _) (N.fz _) ⟨?_,?_⟩
  .refine(eM (S:=[b]) (by simp;exact Y.r.lt) (PS Y.f) a3 bJ).mono λ_ al⟨ab,bO,B,gw,qw,T⟩=>⟨(L4 aK).dv (T.fz _),ab,B,H8 aK (T.fz _) ⟨?_,?_⟩⟩
   all_goals have a4:IR b al ab (w.params++[3,0,3]):=qw▸GI.done gw (by simp;exact Y.r.lt) (by rw[<-qw];simp;omega)
   all_goals have bv:=T.size
   .refine bg (a6:=A.size::h) (ax V) aA (Y.ext T) a4 (L4 V) λaj a2 am ak a7 ae=>H6 V ae ⟨?_,?_⟩
    all_goals have ay:=(a_.ext T).fz aA ae
    all_goals have aR:=(bb.ext T).fz aA ae
    all_goals have aW:=(Y.ext T).to ae a7
    all_goals have bS:=ae.size
    .intro ao
     have aa:J am ao:=J.push _ _
     have bl:fF (bP (A.size::h) ao) (.mk am.size 0 2 2) [aj,.mk 9 C kr]:=pb [(aj,a2),(.mk 9 C kr,sr)] aL (ax V) (by simp;exact⟨ak.sl,aR.sl⟩) rfl rfl
     have bU:=aa.size
     refine H3 V (aa.fz _) ⟨?_,?_⟩
     .refine jC (M:=ao) bl (a5 _ _ ak.wx aR.wx) (L4 V) λbL aF a0 aI=>H3 V (aI.fz _) ⟨?_,?_⟩
      all_goals have Q:=aa.trans aI
      all_goals have bV:=aI.size
      .intro aV
       have an:J aF aV:=J.push _ _
       have bm:fF (bP (A.size::h) aV) (.mk aF.size 0 2 2) [.mk 9 C kl,.mk 1 0 [aj,.mk 9 C kr]]:=pb [(.mk 9 C kl,sl),(.mk 1 0 [aj,.mk 9 C kr],bL)] aL (ax V) (by simp;exact⟨(ay.ext Q).sl,a0.sl⟩) rfl rfl
       have b4:=an.size
       refine⟨?_,?_⟩
       .refine jC (M:=aV) bm (a5 _ _ ay.wx a0.wx) (L4 V) λbM bq bB bt=>?_
        have b5:=bt.size
        intro br
        have bQ:J bq br:=J.push _ _
        refine H8 V (bQ.fz _) ?_
        intro bH
        let⟨bu,bw,b6⟩:=BX.new (f:=br) (d:=bH) bB rfl rfl
        have U:=Q.trans (an.trans bt)
        exact⟨rfl,by show K.size<=bq.size;omega,bM,_,bw,(ay.ext U).jT bu (ad _),(aW.ext U).ext bu⟩
       .let⟨U,q⟩:=aG (g:=aV) V ((ay.ext Q).ext an) ((aR.ext Q).ext an) ((aW.ext Q).ext an)
        exact H8 V (U.fz _) (R7 q (fF.le (U.bP λH hb=>(List.mem_cons.1 hb).elim (λz=>Or.inr V) Or.inl) bm) a0.wx)
      .let⟨U,q⟩:=aG (g:=aF) V (ay.ext Q) (aR.ext Q) (aW.ext Q)
       exact H8 V (U.fz _) (R6 q (a0.jT U (ad _)))
     .let⟨U,q⟩:=aG (g:=ao) V (ay.ext aa) (aR.ext aa) (aW.ext aa)
      exact H8 V (U.fz _) (R5 q (fF.le (U.bP λH hb=>(List.mem_cons.1 hb).elim (λz=>Or.inr V) Or.inl) bl) ak.wx)
    .let⟨U,q⟩:=aG (g:=am) V ay aR aW
     exact H8 V (U.fz _) (R4 q (ak.jT U (ad _)))
   .let⟨U,q⟩:=aG (g:=al) V (a_.ext T) (bb.ext T) (Y.ext T)
    exact H8 V (U.fz _) (R3 q (a4.le (fh (U.fz _))))
  .let⟨U,q⟩:=aG (g:=ac) aK a_ bb Y
   exact H8 aK (U.fz _) (R2 q (a3.le (fh (U.fz _))))
 .let⟨U,q⟩:=aG (g:=K) (ad _) a9 ba r0
  have za:=U.size
  intro ac
  refine H8 (ad _) (U.fz _) ?_
  intro al
  have T:J ac al:=J.push _ _
  exact H8 za (T.fz _) (R2 (q.ext T) (wl ac q.s.r.lt))
 rintro⟨r,aS⟩ g ⟨ho,hk,s,B,H,hl,R⟩
 simp only at ho hk H hl
 subst ho
 have bu:=H.b.lt
 have a_:=bj hk
 have U:∀{u:E},g.size<=u.size->Lw b [ah.size,W.size,A.size,m.size] u:=λz=>L4 V
 have I:K.size<=g.size:=V
 have a0:∀{u:E},g.size<=u.size->∀F∈r::A.size::h,F<u.size:=λz=>a1 hk V
 refine⟨λu=>∃s B,BX (A.size::h) i j.length (w.params.length+3) r u s B/\Rs b o m (P+2*Cg 18) u/\g.size<=u.size,⟨V,V,_,E1 R.f,λ_=>?_,λ_=>⟨s,B,H,⟨R.f,R.r.mono V⟩,ad _⟩⟩,?_⟩
 .intro ac
  have N:J g ac:=J.push _ _
  have a3:ar (bP [b] ac) (.mk g.size 0 3 3) [3,0,3]:=wl g R.r.lt
  clear_value ac
  have aK:=N.size
  have Y:=R.ext N
  refine H5 I (N.fz _) ?_
  refine(eM (S:=[b]) (by simp;exact Y.r.lt) (PS Y.f) a3 bJ).mono λ_ al⟨ab,bO,e',gw,qw,T⟩=>⟨(U aK).dv (T.fz _),ab,e',H5 V (T.fz _) ?_⟩
  have a4:IR b al ab (w.params++[3,0,3]):=qw▸GI.done gw (by simp;exact Y.r.lt) (by rw[<-qw];simp;omega)
  have bv:=T.size
  have aR:=Y.ext T
  refine FR (v:=w.params++[3,0,3]) (S:=r::A.size::h) (a0 V) (by simp[aU]) (F.to aR.f aR.r) V a4 bJ bs be (U V) λaj a2 am ak a7 ae=>H3 V ae ?_
  have ak:HX (r::A.size::h) i j.length (w.params.length+3) am a2 aj:=by simpa using ak
  have bS:=ae.size
  refine xf (r::A.size::h) i j.length (a:=w.params.length+3) (U V) V λbm ao ay aa=>H3 V (aa.fz _) ?_
  intro aF
  have aI:J ao aF:=J.push _ _
  have bU:=aa.size
  have bb:=(((hl.ext N).ext T).fz (by simp[aU]) ae).ext aa
  have hs:fF (bP (r::A.size::h) aF) (.mk ao.size 0 3 3) [.mk 9 C kl,aj,.mk 12 (ps.len+2) []]:=pb [(.mk 9 C kl,sl),(aj,a2),(.mk 12 (ps.len+2) [],bm)] aL (a0 V) (by simp;exact⟨bb.sl,(ak.ext aa).sl,ay.sl⟩) rfl rfl
  have bV:=aI.size
  refine jC (M:=aF) hs (.Pn (by simp;exact⟨bb.wx,ak.wx,ay.wx⟩)) (U V) λbq aV br an=>?_
  have aW:=((((H.ext N).ext T).fz (by simp[aU]) a_ ae).ext (aa.trans aI)).ext an
  have hb:=aW.set br
  have bl:=(((aR.to ae a7).ext (aa.trans aI)).ext an).put F.rd (k:=r) V 0 [.i 6,.i 3,.s bq]
  exact⟨aW.b.eC aL,λb' bt=>bo _ _ _ _ (by simp at bt;omega),bq,.mk 6 3 [.mk 9 C kl,aj,.mk 12 (ps.len+2) []],hb,⟨bl.f,bl.r.mono V⟩,by rw[aw];have:=an.size;omega⟩
 rintro M3 ⟨s,B,H,R,aJ⟩
 refine⟨V,V,_,E1 R.f,_,H.b.bU 0,_,H.b.bU 1,_,H.b.bU 2,?_⟩
 refine xf (A.size::h) i j.length (a:=w.params.length) (U aJ) V λaV ac ak N=>?_
 have aK:=N.size
 have ae:∀{M1 M2:E}{aS:Nat},g.size<=M1.size->Fz [b] M1 M2->af M2 r aS=af M1 r aS:=λz D=>kg D hr ⟨V,V⟩ _
 refine⟨ae aJ (N.fz _),ae aJ (N.fz _),ae aJ (N.fz _),(E1 (R.f.then N)).trans (E1 R.f).symm,G V (N.fz _) V V,G V (N.fz _) V V,G V (N.fz _) V V,?_⟩
 have Y:=R.ext N
 refine FR (S:=A.size::h) (ax V) aA (F.to Y.f Y.r) V (PS Y.f) V (F.gp.ty bc.2.2.1 bc.2.2.2) be (U V) λaj aW al an aR T=>⟨ae V T,ae V T,ae V T,?_⟩
 have bv:=T.size
 intro am
 have aF:J al am:=J.push _ _
 have aI:=(H.ext N).fz aA a_ T
 have hs:fF (bP (A.size::h) am) (.mk al.size 0 3 3) [.mk 12 0 [],aj,B]:=pb [(.mk 12 0 [],aV),(aj,aW),(B,s)] aL (ax V) (by simp;exact⟨(ak.fz aA T).sl,an.sl,aI.h.fw.sl⟩) rfl rfl
 refine jC (M:=am) hs (.m3 F.gp.ds ak.wx an.wx H.h.wx) (U (oh aF.size)) λbm ao ay aa=>?_
 exact ay.iy (((Y.to T aR).ext aF).ext aa) F.rd V V
end
end
section
variable{a:E}{c:List Ce}{b:Nat}
section
variable{f:List Nat}{e P:Nat}{h d p:O}{i:List bz}{g:List dA}{m:E}
def Nb(hS:∀n∈f,n<m.size)(aj:e∈f)(n:GC e h P d p i g m)(hP:P+300+40*Cg 18<=10^16){N:Nat}{q:dA}(z:g[N]? =some q)(ak:N=0->q.params.length=0):
 aM cq 251 [vp e 0,.agg #[O.v d,O.v p],vi N] m (XP f e h m (P+300+40*Cg 18) (Yt i g.length q.params.length)):=by
 apply Gu (e,0)
 simp -zeta only[aC,aB]
 intro l w
 let⟨x2,hl⟩:=dP (a:=l) (c:=w) rfl rfl
 have s1:l.size=m.size+1:=by simp[l]
 have s2:w.size=m.size+2:=by simp[w,s1]
 have hr:=n.rd.lt
 clear_value w
 have ae:∀{a:E},w.size<=a.size->∀n∈l.size::f,n<a.size:=λc=>bT hS V V
 have t:Rs e h m P w:=⟨x2.fz _,n.rd.ext x2⟩
 have J:∀{a:E},w.size<=a.size->Lw e [l.size,m.size] a:=λc=>lw hr bJ
 let⟨U,ah,e0,e1⟩:=n.hp.aG z
 have an:=az z
 have ao:=n.hp.len
 have ab:=xk _ (n.gp.dx q (au z))
 have h3:q.params.length<=3:=ab.1
 have Z:∀{a:E},Fz [e] m a->IR e a U q.params:=λx=>ah.le (fh x)
 have ar:=ah.len
 have aa:e∈l.size::f:=by simp[aj]
 have am:=n.gp.ty ab.2.2.1 ab.2.2.2
 refine⟨V,V,U,(eF.1 (fh t.f _ _ _ e0)).2,V,V,_,(eF.1 (fh t.f _ _ _ e1)).2,?_⟩
 refine(Mp ((Z t.f).le (bG _ _)) 1).mono λ_ m3⟨pl,en,ap,x3⟩=>⟨(J (ad _)).dv (x3.fz _),pl,en,?_⟩
 have z3:=x3.size
 refine Jj (l.size::f) i g.length q.params.length (J z3) 0 λs4 o C x4=>?_
 have z4:=x4.size
 intro m5 H
 let⟨x6,b6,z6⟩:=BX.new (f:=m5) (d:=H) C rfl rfl
 clear_value H
 have r6:=((t.ext x3).ext x4).ext x6
 have hk:o.size≠e:=V
 have L6:∀{a:E},H.size<=a.size->Lw e [o.size,l.size,m.size] a:=λc=>lw hr bJ
 refine(cD r6.r V 4).mono λ_ r⟨b,en,_,_,d7,L⟩=>⟨(L6 (ad _)).dv L,b,en,?_⟩
 have I:=r6.to L d7
 have z7:=L.size
 have B:=n.to I.f I.r
 have D:∀j∈o.size::l.size::f,j<r.size:=bT (ae (a:=r) V) (ad _) V
 have F:e∈o.size::l.size::f:=by simp[aj]
 have iy:∀{x:Nat}{ac:List Value}{Q:Nat},aM cq x ac r (XP (o.size::l.size::f) e h r Q (WX i g.length q.params.length))->Q<=P+300+20*Cg 18->aM cq x ac r λv A=>dY [o.size,l.size,m.size] r A/\∃W X:Int,∃t:O,v=.agg #[vi W,vi X,O.v t]/\
  ∃u j,BX (l.size::f) i g.length q.params.length o.size (ag A o.size 0 [.i W,.i X,.s t]) u j/\Rs e h m (P+300+20*Cg 18) (ag A o.size 0 [.i W,.i X,.s t])/\H.size<=(ag A o.size 0 [.i W,.i X,.s t]).size:=λc hQ=>
  XP.kk c (L6 z7) λu j A h1 h2 h3 C=>by
   have hb:=((b6.fz aa hk L).fz aa hk C).set ⟨h1,h2⟩;have ai:=(I.to C h3).put n.rd (k:=o.size) V 0 [.i j.op,.i j.bQ,.s u];exact⟨u,j,hb,⟨ai.f,ai.r.mono hQ⟩,by rw[aw];have:=C.size;omega⟩
 have Dq:=λ(a:E)(S':List Nat)(h1:∀j∈S',j<a.size)(h2:e∈S')(Q:Nat)(cM:GC e h Q d p i g a)(x:Fz [e] m a)(hQ:Q+20*Cg 18<=10^16)(s:Int)(hb:0<=s/\s<=18)=>Mh (S:=S') h1 h2 cM hQ (Z x) V am hb
 have R:=iy ((Dq r _ D F _ B I.f V 18 be).mono λ_ _ c=>c.mono (λj K=>K.1) (ad _)) V
 have first:1<=q.params.length->∃y:Int,q.params[0]? =some y/\af r U.D (U.off+Int.toNat 0*1)=some (vi y):=λc=>by
  let⟨y,T⟩:=cK q.params 0;exact⟨y,T,(eF.1 ((Z I.f).aG T)).2⟩
 refine⟨λa=>∃u j,BX (l.size::f) i g.length q.params.length o.size a u j/\Rs e h m (P+300+20*Cg 18) a/\H.size<=a.size,?_,?_⟩
 .refine⟨λv a=>(v=true->N=0)/\r=a,⟨λ_=>⟨λc=>by simp at c;omega,rfl⟩,λ_=>⟨sx,rfl⟩⟩,?_⟩
  rintro v _ ⟨G,rfl⟩
  refine⟨λc=>?_,λ_=>?_⟩
  .have Y:=ak (G c)
   exact iy ((J6 D F B V).mono λ_ _ c=>c.mono (λj K=>by rw[Y];exact K) (ad _)) V
  refine⟨λv a=>(v=true->0<=pl)/\r=a,⟨λ_=>⟨λc=>⟨λ_=>⟨λ_=>by simpa using c,rfl⟩,λ_=>⟨λ_=>by simpa using c,rfl⟩⟩,λ_=>⟨aL,rfl⟩⟩,λ_=>⟨aL,rfl⟩⟩,?_⟩
  rintro v _ ⟨G,rfl⟩
  refine⟨λc=>iy (J9 D F B V z ⟨G c,V⟩) V,λ_=>?_⟩
  refine⟨λv a=>(v=true->1<=q.params.length)/\r=a,⟨λ_=>⟨λc=>?_,λ_=>⟨aL,rfl⟩⟩,λ_=>⟨aL,rfl⟩⟩,?_⟩
  .simp only[aq]at c
   let⟨y,T,K⟩:=first V
   exact⟨be,V,y,K,λ_=>⟨λ_=>⟨λ_=>V,rfl⟩,λ_=>⟨λ_=>V,rfl⟩⟩,λ_=>⟨aL,rfl⟩⟩
  rintro v _ ⟨G,rfl⟩
  refine⟨λc=>iy (Ka D F B V z (G c)) V,λ_=>⟨λ_=>⟨λc=>?_,λ_=>R⟩,λ_=>R⟩⟩
  simp only[aq]at c
  let⟨y,T,K⟩:=first V
  have Y:=iy (JT D F B V z V) V
  exact⟨be,V,y,K,λ_=>⟨λ_=>Y,λ_=>⟨λ_=>Y,λ_=>R⟩⟩,λ_=>R⟩
 rintro a ⟨u,j,s,al,av⟩
 refine⟨_,s.b.bU 0,_,s.b.bU 1,_,s.b.bU 2,?_⟩
 refine(Bh (fF.le (bG _ _) s.h.sl)).mono λ_ m8⟨n8,e8,q8,Y⟩=>⟨(J V).dv (Y.fz _),n8,e8,?_⟩
 have z8:=Y.size
 have G:=al.ext Y
 have K:=s.ext Y
 refine⟨λ_=>XP.ret (Dq m8 (l.size::f) (ae V) aa _ (n.to G.f G.r) G.f V 12 be) (J V) G.f n.rd V (λ_ c=>c) V,λc=>⟨_,K.b.bU 0,_,K.b.bU 1,_,K.b.bU 2,?_⟩⟩
 simp only[bD]at c
 have r9:=G.put n.rd (k:=l.size) V 0 [.i j.op,.i j.bQ,.s u]
 exact⟨u,j,rfl,(K.h.fw.put aL _ _).fw.sl,⟨s.h.wx,V⟩,r9.r.mono V,r9.f⟩
end
def BZ{α:Type}{R:E->List Ce->α->Prop}{n:Nat}(g:oH n R){S:List Nat}(o:∀d∈S,d<a.size)(e:Nat)(l:List (α×List Ce))(h:∀x∈l,R (bP S a) x.2 x.1)(p:c=l.flatMap (·.2))(q:b=l.length):
 Gr S a (a.push (.cells (bA c) e)) e n R (.mk a.size 0 b b) (l.map (·.1)):=by
 refine Gr.lit (f:=l.map (·.2)) g (ad _) o (by rw[p,List.flatMap_def]) (by simp[q]) ⟨aL,λd i=>?_,λr d e k j=>?_⟩
 .simp at i;let⟨m,f⟩:=i;exact g.len (h _ f)
 .simp only[cU,jG]at k j
  obtain⟨x,m,rfl⟩:=k
  obtain⟨y,f,rfl⟩:=j
  rw[m]at f;simp at f;subst f
  exact h x (au m)
abbrev U0(m:E)(s:O)(l:List (List Int)):Prop:=eR m 1 (mT m) s l
def xt{S:List Nat}(d:∀e∈S,e<a.size)(e:Nat)(l:List (List Int×O))(k:l.length<=1000)(h:∀x∈l,ar (bP S a) x.2 x.1)(f:c=l.map λx=>.s x.2)(g:b=l.length):U0 (bP S (a.push (.cells (bA c) e))) (.mk a.size 0 b b) (l.map (·.1)):=by
 have H:=BZ (R:=λm c x=>mT m c x) (n:=1) ⟨λh=>mT.le h _ _,λ⟨_,h,_⟩=>by rw[h];rfl⟩ d e (l.map λx=>(x.1,[Ce.s x.2])) (λx i=>by simp at i;obtain⟨m,o,j,rfl⟩:=i;exact⟨_,rfl,h _ j⟩) (c:=c) (b:=b) (by rw[f];clear f g h k;induction l<;>simp_all) (by simp[g]);have i:=Gr.done mT.mono H d be bJ;rwa[show(l.map λx=>(x.1,[Ce.s x.2])).map (·.1)=l.map (·.1)by simp[XT,Function.comp_def]]at i
abbrev ZF(S:List Nat)(a m:E)(s:O)(l:List bz):Prop:=Gr S a m jZ 3 iI s l
end
section
variable{K:O->E->Prop}
section
variable{S L:List Nat}{c P:Nat}{d:O}{m b:E}
def NF(f:O)(d:∀a∈L,a<b.size)(g:∀a,J b a->K f a):aM cq 215 [O.v f] b λv a=>dY L b a/\∃c:O,v=.agg #[O.v c]/\K c a:=
 (Mb f b).mono λ_ a⟨e,x⟩=>⟨x.dv d,f,e,g a x⟩
def Dn(f:O)(d:∀a,J b a->K f a):aM cq 215 [O.v f] b λv a=>∃c:O,v=.agg #[O.v c]/\K c a:=
 (Mb f b).mono λ_ a⟨e,x⟩=>⟨f,e,d a x⟩
def wM(hS:∀s∈S,s<m.size)(T:c∈S)(Q:Rd c d P m)(hP:P+1<=10^16):
 aM cq 214 [vp c 0] m λa6 U=>∃t ds,a6=O.v t/\ZF S m U t ds/\ds∈rY/\Rd c d (P+1) U/\Fz [c] m U:=by
 apply AR (c,0)
 simp -zeta only[aC,aB]
 have hr:=Q.lt
 have i:∀{b:E},m.size<=b.size->∀s∈S,s<b.size:=λh s hc=>by have:=hS s hc;omega
 have I:∀(b:E)(l:List Int)(L:List Ce)(D:Nat),m.size<=b.size->L=l.map Ce.i->D=l.length->l.length<=1000->ar (bP S (b.push (.cells (bA L) aD))) (.mk b.size 0 D D) l:=λb l L D h h1 h2 h3=>ar.lit aD l (i h) h1 h2 V
 have ap:∀(b:E)(f:Nat),ar (bP S b) (.mk f 0 0 0) []:=λb f=>mK _ _ _ _ _ _
 intro a3
 have x1:J m a3:=J.push _ _
 refine Dn _ λy x2=>?_
 intro m3
 have x3:J y m3:=J.push _ _
 have z2:=(x1.trans x2).size
 have i3:ar (bP S m3) (.mk y.size 0 2 2) [0,1]:=I y [0,1] _ _ z2 rfl rfl be
 clear_value m3
 refine Dn _ λm4 H=>?_
 intro q
 have x5:J m4 q:=J.push _ _
 have z4:=(x3.trans H).size
 have c5:U0 (bP S q) (.mk m4.size 0 2 2) [[],[0,1]]:=xt (i V) _ [([],.mk m.size 0 0 0),([0,1],.mk y.size 0 2 2)] aL (by simp;exact⟨ap _ _,i3.le (H.dg _)⟩) rfl rfl
 clear_value q
 intro m6 B
 obtain⟨x7,-,z7⟩:=kJ (M:=q) (d:=m6) (c:=B) rfl rfl rfl
 clear_value B
 have z5:=x5.size
 intro m8
 have x8:J B m8:=J.push _ _
 clear_value m8
 have z8:=x8.size
 refine NF _ bJ λC x9=>?_
 intro W
 have aE:J C W:=J.push _ _
 have z9:=x9.size
 have aY:ar (bP S W) (.mk C.size 0 3 3) [3,0,3]:=I C [3,0,3] _ _ V rfl rfl be
 clear_value W
 have vQ:=aE.size
 refine NF _ bJ λX ai=>?_
 intro k
 have aF:J X k:=J.push _ _
 have a_:=ai.size
 have aO:U0 (bP S k) (.mk X.size 0 2 2) [[],[3,0,3]]:=xt (i V) _ [([],.mk B.size 0 0 0),([3,0,3],.mk C.size 0 3 3)] aL (by simp;exact⟨ap _ _,aY.le (ai.dg _)⟩) rfl rfl
 clear_value k
 intro a4 n
 obtain⟨a7,-,bb⟩:=kJ (M:=k) (d:=a4) (c:=n) rfl rfl rfl
 clear_value n
 have ba:=aF.size
 have LL:∀{b:E},n.size<=b.size->∀f∈[k.size,q.size],f<b.size:=λh=>bJ
 intro Y
 have aG:J n Y:=J.push _ _
 have aZ:ar (bP S Y) (.mk n.size 0 2 2) [1,3]:=I n [1,3] _ _ V rfl rfl be
 clear_value Y
 have a8:=aG.size
 refine NF _ (LL a8) λZ aj=>?_
 intro o
 have aH:J Z o:=J.push _ _
 have bc:=aj.size
 have aP:U0 (bP S o) (.mk Z.size 0 1 1) [[1,3]]:=xt (i V) _ [([1,3],.mk n.size 0 2 2)] aL (by simp;exact aZ.le (aj.dg _)) rfl rfl
 clear_value o
 have bd:=aH.size
 intro aa
 have aI:J o aa:=J.push _ _
 have a0:ar (bP S aa) (.mk o.size 0 3 3) [1,1,0]:=I o [1,1,0] _ _ V rfl rfl be
 clear_value aa
 have bf:=aI.size
 refine NF _ (LL V) λx ak=>?_
 intro ab
 have al:J x ab:=J.push _ _
 have bg:=ak.size
 have a1:ar (bP S ab) (.mk x.size 0 1 1) [0]:=I x [0] _ _ V rfl rfl be
 clear_value ab
 have bh:=al.size
 refine NF _ (LL V) λz F=>?_
 intro ac
 have G:J z ac:=J.push _ _
 have bi:=F.size
 have a2:ar (bP S ac) (.mk z.size 0 1 1) [3]:=I z [3] _ _ V rfl rfl be
 clear_value ac
 have bj:=G.size
 refine NF _ (LL V) λae u=>?_
 intro p
 have aJ:J ae p:=J.push _ _
 have bk:=u.size
 have aQ:U0 (bP S p) (.mk ae.size 0 3 3) [[1,1,0],[0],[3]]:=xt (i V) _ [([1,1,0],.mk o.size 0 3 3),([0],.mk x.size 0 1 1),([3],.mk z.size 0 1 1)] aL (by simp;exact⟨a0.le ((((((ak.trans al).trans F).trans G).trans u)).dg _),a1.le (((F.trans G).trans u).dg _),a2.le (u.dg _)⟩) rfl rfl
 clear_value p
 have bl:=aJ.size
 have ax:=(((((aI.trans ak).trans al).trans F).trans G).trans u).trans aJ
 have aw:=(((a7.trans aG).trans aj).trans aH).trans ax
 have K:=(((((x7.trans x8).trans x9).trans aE).trans ai).trans aF).trans aw
 have w:∀{am an:E}{t:O}{l:List (List Int)},J am an->U0 (bP S am) t l->U0 (bP S an) t l:=λaA h=>eR.le h (aA.dg _) (mT.le (aA.dg _))
 have ag:U0 (bP S p) .nil []:=⟨rfl,ad _,aL,aL⟩
 intro e
 have r:J p e:=J.push _ _
 have aU:cy (bP S e) (.mk p.size 0 4 4) Sd:=(BZ (R:=iI) iI.mono (i (b:=p) V) jZ [(⟨0,0,[[1,3]]⟩,[.i 0,.i 0,.s (.mk Z.size 0 1 1)]),(⟨1,0,[]⟩,[.i 1,.i 0,.s .nil]),(⟨0,0,[[1,1,0],[0],[3]]⟩,[.i 0,.i 0,.s (.mk ae.size 0 3 3)]),(⟨0,1,[]⟩,[.i 0,.i 1,.s .nil])] (by simp;exact⟨⟨_,rfl,w ax aP⟩,⟨_,rfl,ag⟩,⟨_,rfl,aQ⟩,⟨_,rfl,ag⟩⟩) rfl rfl).done iI.mono (i V) be be
 clear_value e
 have bm:=r.size
 intro A
 have v:J e A:=J.push _ _
 have ay:ZF S e A (.mk e.size 0 3 3) KJ:=BZ (R:=iI) iI.mono (i (b:=e) V) jZ [(⟨0,0,[[],[0,1]]⟩,[.i 0,.i 0,.s (.mk m4.size 0 2 2)]),(⟨0,0,[]⟩,[.i 0,.i 0,.s .nil]),(⟨0,0,[[],[3,0,3]]⟩,[.i 0,.i 0,.s (.mk X.size 0 2 2)])] (by simp;exact⟨⟨_,rfl,w (K.trans r) c5⟩,⟨_,rfl,w r ag⟩,⟨_,rfl,w (aw.trans r) aO⟩⟩) rfl rfl
 clear_value A
 have av:=((((x1.trans x2).trans x3).trans H).trans x5).trans (K.trans (r.trans v))
 have bn:=v.size
 have aN:Lw c [k.size,q.size] A:=λf j=>⟨LL V f j,by simp at j;omega⟩
 refine(cD (Q.ext av) V 5).mono λ_ af⟨az,aR,k0,k1,N,g⟩=>⟨aN.dv g,az,aR,λh=>?_,λ_=>⟨_,KJ,rfl,Gr.cv iI.mono (ay.dQ iI.mono g (by simp;exact⟨T,V⟩)) (λ_ h=>Or.inl h) V,by simp[rY],N,(av.fz _).trans g⟩⟩
 simp only[aq]at h
 let⟨ah,hq⟩:=cK Sd az.toNat (by simp[Sd];omega)
 have aX:Le (bP S e) (bP (e.size::S) af):=(v.bP λf j=>(List.mem_cons.1 j).elim (λh=>Or.inr V) Or.inl).trans (g.dg (by simp[T]))
 let⟨aT,hf,e0,e1,e2⟩:=(aU.le aX).aG hq
 refine⟨k0,bJ,_,(eF.1 e0).2,_,(eF.1 e1).2,_,(eF.1 e2).2,?_⟩
 intro a9
 have aV:ZF S e af (.mk e.size 0 3 3) KJ:=ay.dQ iI.mono g (by simp;exact⟨T,V⟩)
 have hz:=g.size
 have aW:KJ++[ah]∈rY:=by
  have:=au hq;simp only[rY,aS,XU];exact Or.inr ⟨ah,this,rfl⟩
 refine Gr.kL (g:=[.i 0,.i 0,.s .nil]) (k:=ah) iI.mono be aV ((v.fz _).trans g) ⟨aT,rfl,hf⟩ (by simp[KJ]) λa5 M' g' f' z' q'=>?_
 have ao:=((((((x1.trans x2).trans x3).trans H).trans x5).trans (K.trans r)).fz [c]).trans f'
 have aK:Lw c [k.size,q.size] e:=λf j=>⟨LL V f j,by simp at j;omega⟩
 exact⟨aK.tO (((v.fz [c]).trans g).then (J.push af _)) f',a5,_,rfl,Gr.cv iI.mono g' (λ_ h=>Or.inl h) V,aW,Q.OK N ao (q' c N.lt (by show c≠e.size;omega)),ao⟩
end
end
section
variable{a:Nat}{b:List Ce}
def Pt(M:E)(b:List Ce)(x:dA×Option Ex):Prop:=∃c a k z,b=[.s c,.i x.1.aT,.i a,.i k,.s z]/\ar M c x.1.params/\∀e,x.2=some e->a=e.op/\k=e.bQ/\fF M z e.bE
def Pt.mono:oH 5 Pt:=⟨λh⟨b,a,k,z,e,c,d⟩=>⟨b,a,k,z,e,c.le h,λx j=>let⟨f,g,i⟩:=d x j;⟨f,g,fF.le h i⟩⟩,λ⟨_,_,_,_,e,_⟩=>by rw[e];rfl⟩
def ZE(M:E)(b:List Ce)(x:dA×Ex):Prop:=∃a s,b=[.s a,.i x.1.aT,.i x.2.op,.i x.2.bQ,.s s]/\ar M a x.1.params/\fF M s x.2.bE
def ZE.mono:oH 5 ZE:=⟨λh⟨a,s,e,b,c⟩=>⟨a,s,e,b.le h,fF.le h c⟩,λ⟨_,_,e,_⟩=>by rw[e];rfl⟩
abbrev Xo(m:E)(s:O)(l:List (dA×Ex)):Prop:=eR m 5 (ZE m) s l
structure Xr(ds:List bz)(l:List (dA×Ex)):Prop where
 gp:GP ds (l.map (·.1))
 Dq:∀x∈l,Yt ds l.length x.1.params.length x.2
def Gr.aac{α:Type}{S:List Nat}{q p:E}{j g h c k:Nat}{R:E->List Ce->α->Prop}{o:List α}(x:0<g)(m:Gr S q p j g R (.mk h 0 a c) o)(v:k<=a):Gr S q p j g R (.mk h 0 k c) (o.take k):=by
 have w:=m.len x;obtain⟨-,b,r,d⟩:=m;simp only[O.iS]at w;have t:b.length=a:=by rw[d.len];omega
 rcases r.aG with e|⟨B,C,tail,e,h4,h5,h6,h7⟩
 .simp at e
 simp only[O.iS,O.mk.injEq]at e h7;obtain⟨rfl,-,-,rfl⟩:=e;have l:b.flatten=(b.take k).flatten++(b.drop k).flatten:=by rw[<-qR,dm]
 have n:∀c∈b.take k,c.length=g:=λc s=>d.size c (gB s);refine⟨aL,b.take k,⟨by rw[cp n,gG,t,jd v];rfl,Or.inr ⟨h,c,(b.drop k).flatten++tail,aL,h4,by rw[<-fC,<-l];exact h5,by rw[<-fC,<-l];exact h6,bJ⟩⟩,?_,n,λy z A f i=>?_⟩
 .rw[gG,gG,d.len]
 .rw[lJ]at f i;split at f
  .rename_i u;rw[aj u]at i;exact d.dx y z A f i
  .simp at f
section
variable{S L:List Nat}{d P:Nat}{c:O}{m M:E}
def rI{K:O->Int->Int->Int->O->E->Prop}(l:List Int)(r:Int)(n:∀c∈S,c<M.size)(m:∀d∈L,d<M.size)(t:l.length<=1000)(p:b=l.map Ce.i)(s:a=l.length)(q:∀c,J M c->ar (bP S c) (.mk M.size 0 a a) l->K (.mk M.size 0 a a) r 0 0 .nil c):
 aM cq 250 [O.v (.mk M.size 0 a a),vi r] (M.push (.cells (bA b) aD)) λv c=>dY L (M.push (.cells (bA b) aD)) c/\∃e:O,∃f:Int,∃g:Int,∃h:Int,∃i:O,v=.agg #[O.v e,vi f,vi g,vi h,O.v i]/\K e f g h i c:=
 have j:=J.push M (.cells (bA b) aD)
 (Ry _ r _).mono λ_ c⟨k,x⟩=>⟨x.dv λd o=>j.lt (m d o),_,_,_,_,_,k,q c (j.trans x) ((ar.lit aD l n p s V).le (x.dg _))⟩
def yu(a:List Int)(r:Int):dA:=⟨a,[],r,0,[]⟩
def TG.mono:oH 5 TG:=⟨λh=>TG.le h,λ⟨_,_,_,_,e,_⟩=>by rw[e];rfl⟩
def Ru(l:List (dA×O))(c:∀d∈S,d<M.size)(h:∀x∈l,ar (bP S M) x.2 x.1.params)(k:l.length<=1000)(f:b=l.flatMap λx=>[.s x.2,.i x.1.aT,.i 0,.i 0,.s .nil])(g:a=l.length):pI (bP S (M.push (.cells (bA b) fx))) (.mk M.size 0 a a) (l.map (·.1)):=by
 have H:=(BZ (R:=TG) TG.mono c fx (l.map λx=>(x.1,[Ce.s x.2,.i x.1.aT,.i 0,.i 0,.s .nil])) (λx d=>by simp at d;obtain⟨i,j,e,rfl⟩:=d;exact⟨_,_,_,_,rfl,h _ e⟩) (c:=b) (b:=a) (by rw[f,List.flatMap_map]) (by simp[g])).done TG.mono c be bJ;rwa[show(l.map λx=>(x.1,[Ce.s x.2,.i x.1.aT,.i 0,.i 0,.s .nil])).map (·.1)=l.map (·.1)by simp[XT,Function.comp_def]]at H
end
end
section
def Vw:List dA:=[yu [1] 0,yu [1,1] 1,yu [1] 1,yu [1,0] 1,yu [2,1] 1,yu [1,1] 0]
def VH:List dA:=[yu [3] 0,yu [0] 1,yu [0,1] 1,yu [3,0] 3,yu [3] 1,yu [1,3,0] 0]
def Pe:List dA:=[yu [0] 0,yu [0,0] 0,yu [1,0] 0,yu [0] 1]
def QT:(∀q∈Vw,(q.params,q.aT)∈PC)/\(∀q∈VH,(q.params,q.aT)∈PC)/\∀q∈Pe,(q.params,q.aT)∈PC:=be
def OU{α:Type}{l:List α}{k:Nat}{x:α}(h:l[k]? =some x):l.set k x=l:=iL λi=>by
 rw[jE];split
 .rename_i e;subst e;rw[aj (az h),h]
 .rfl
section
variable{b:List Nat}{c P:Nat}{d:O}{m:E}
def EJ(hS:∀j∈b,j<m.size)(s:c∈b)(I:Rd c d P m)(hP:P+10+4*(300+40*Cg 18)<=10^16):
 aM cq 237 [vp c 0] m λbz m'=>∃w aW y o,bz=.agg #[O.v w,O.v aW]/\cy (bP b m') w y/\Xo (bP b m') aW o/\Xr y o/\Rd c d (P+10+4*(300+40*Cg 18)) m'/\Fz [c] m m':=by
 apply xQ (c,0)
 unfold sL
 simp(config:={zeta:=false,maxSteps:=2000000}) only[aC,aB]
 have hr:=I.lt
 intro aa
 have x1:J m aa:=J.push _ _
 have s1:aa.size=m.size+1:=by simp[aa]
 clear_value aa
 have ao:∀j∈m.size::b,j<aa.size:=bT hS x1.size V
 refine(wM ao (by simp[s]) (I.ext x1) V).mono λ_ e⟨w,y,r,gd,aN,d2,f2⟩=>⟨f2.dv bJ,w,r,?_⟩
 have z2:=f2.size
 have F2:=(x1.fz [c]).trans f2
 have aK:cy (bP (m.size::b) e) w y:=gd.done iI.mono ao be (oh (pL y aN))
 intro m3 A
 obtain⟨x4,-,z4⟩:=kJ (M:=e) (d:=m3) (c:=A) rfl rfl rfl
 clear_value A
 have h:∀{g:E},A.size<=g.size->∀j∈e.size::m.size::b,j<g.size:=λq=>bT (λj hc=>oh (ao j hc)) q V
 have LL:∀{g:E},A.size<=g.size->∀v∈[e.size,m.size],v<g.size:=λq=>bJ
 refine rI (S:=e.size::m.size::b) [1] 0 (h V) (LL V) be rfl rfl λa9 x5 i1=>?_
 have z5:=x5.size
 refine rI (S:=e.size::m.size::b) [1,1] 1 (h V) (LL V) be rfl rfl λa2 x6 i2=>?_
 have z6:=x6.size
 refine rI (S:=e.size::m.size::b) [1] 1 (h V) (LL V) be rfl rfl λa3 x7 i3=>?_
 have z7:=x7.size
 refine rI (S:=e.size::m.size::b) [1,0] 1 (h V) (LL V) be rfl rfl λa4 x8 i4=>?_
 have z8:=x8.size
 refine rI (S:=e.size::m.size::b) [2,1] 1 (h V) (LL V) be rfl rfl λa_ x9 i5=>?_
 have z9:=x9.size
 refine rI (S:=e.size::m.size::b) [1,1] 0 (h V) (LL V) be rfl rfl λa6 aA i6=>?_
 have vQ:=aA.size
 intro b1
 have y1:J a6 b1:=J.push _ _
 have X9:=x9.trans aA;have X8:=x8.trans X9;have X7:=x7.trans X8;have X6:=x6.trans X7
 have g1:pI (bP (e.size::m.size::b) b1) (.mk a6.size 0 6 6) Vw:=Ru [(yu [1] 0,.mk A.size 0 1 1),(yu [1,1] 1,.mk a9.size 0 2 2),(yu [1] 1,.mk a2.size 0 1 1),(yu [1,0] 1,.mk a3.size 0 2 2),(yu [2,1] 1,.mk a4.size 0 2 2),(yu [1,1] 0,.mk a_.size 0 2 2)] (h V) (by simp;exact⟨i1.le (X6.dg _),i2.le (X7.dg _),i3.le (X8.dg _),i4.le (X9.dg _),i5.le (aA.dg _),i6⟩) aL rfl rfl
 have bI:b1.size=a6.size+1:=by simp[b1]
 clear_value b1
 have w1:=y1.size
 refine rI (S:=e.size::m.size::b) [3] 0 (h V) (LL V) be rfl rfl λc1 u1 j1=>?_
 have v1:=u1.size
 refine rI (S:=e.size::m.size::b) [0] 1 (h V) (LL V) be rfl rfl λc2 u2 j2=>?_
 have v2:=u2.size
 refine rI (S:=e.size::m.size::b) [0,1] 1 (h V) (LL V) be rfl rfl λc3 u3 j3=>?_
 have v3:=u3.size
 refine rI (S:=e.size::m.size::b) [3,0] 3 (h V) (LL V) be rfl rfl λc4 u4 j4=>?_
 have v4:=u4.size
 refine rI (S:=e.size::m.size::b) [3] 1 (h V) (LL V) be rfl rfl λc5 u5 j5=>?_
 have v5:=u5.size
 refine rI (S:=e.size::m.size::b) [1,3,0] 0 (h V) (LL V) be rfl rfl λc6 u6 j6=>?_
 have v6:=u6.size
 intro b2
 have y2:J c6 b2:=J.push _ _
 have U5:=u5.trans u6;have U4:=u4.trans U5;have U3:=u3.trans U4;have U2:=u2.trans U3
 have g2:pI (bP (e.size::m.size::b) b2) (.mk c6.size 0 6 6) VH:=Ru [(yu [3] 0,.mk b1.size 0 1 1),(yu [0] 1,.mk c1.size 0 1 1),(yu [0,1] 1,.mk c2.size 0 2 2),(yu [3,0] 3,.mk c3.size 0 2 2),(yu [3] 1,.mk c4.size 0 1 1),(yu [1,3,0] 0,.mk c5.size 0 3 3)] (h V) (by simp;exact⟨j1.le (U2.dg _),j2.le (U3.dg _),j3.le (U4.dg _),j4.le (U5.dg _),j5.le (u6.dg _),j6⟩) aL rfl rfl
 have bK:b2.size=c6.size+1:=by simp[b2]
 clear_value b2
 have w2:=y2.size
 refine rI (S:=e.size::m.size::b) [0] 0 (h V) (LL V) be rfl rfl λe1 t1 k1=>?_
 have q1:=t1.size
 refine rI (S:=e.size::m.size::b) [0,0] 0 (h V) (LL V) be rfl rfl λe2 t2 k2=>?_
 have q2:=t2.size
 refine rI (S:=e.size::m.size::b) [1,0] 0 (h V) (LL V) be rfl rfl λe3 t3 k3=>?_
 have q3:=t3.size
 refine rI (S:=e.size::m.size::b) [0] 1 (h V) (LL V) be rfl rfl λe4 t4 k4=>?_
 have q4:=t4.size
 intro b3
 have y3:J e4 b3:=J.push _ _
 have T3:=t3.trans t4;have T2:=t2.trans T3
 have g3:pI (bP (e.size::m.size::b) b3) (.mk e4.size 0 4 4) Pe:=Ru [(yu [0] 0,.mk b2.size 0 1 1),(yu [0,0] 0,.mk e1.size 0 2 2),(yu [1,0] 0,.mk e2.size 0 2 2),(yu [0] 1,.mk e3.size 0 1 1)] (h V) (by simp;exact⟨k1.le (T2.dg _),k2.le (T3.dg _),k3.le (t4.dg _),k4⟩) aL rfl rfl
 have bL:b3.size=e4.size+1:=by simp[b3]
 clear_value b3
 have w3:=y3.size
 refine rI (S:=e.size::m.size::b) [] 0 (h V) (LL V) be rfl rfl λM0 x0 n0=>?_
 have z0:=x0.size
 have aG:=((((u1.trans U2).trans y2)).trans (t1.trans T2)).trans (y3.trans x0)
 have XM:J A M0:=((x5.trans X6).trans y1).trans aG
 have G1:=pI.le (aG.dg _) g1
 have G2:=pI.le ((((t1.trans T2)).trans (y3.trans x0)).dg _) g2
 have a8:=pI.le (x0.dg _) g3
 have dM:Rd c d (P+1) M0:=(d2.ext x4).ext XM
 have L2:∀{g:E},A.size<=g.size->Lw c [e.size,m.size] g:=λq=>lw hr bJ
 have bE:c∈e.size::m.size::b:=by simp[s]
 have l:∀{g M':E}{v W:Nat},A.size<=v->v<g.size->Fz [c] g M'->af M' v W=af g v W:=λh1 h2 N=>aJ (N.same _ h2 bJ) _
 refine(cD dM V _).mono λ_ m5⟨r1,en,bu,aY,d5,f5⟩=>⟨(L2 V).dv f5,r1,en,bu,by simp at aY⊢;omega,?_⟩
 have al:Le (bP (e.size::m.size::b) M0) (bP (e.size::m.size::b) m5):=f5.dg (by simp[s])
 have bR:=f5.size
 let⟨K,aQ⟩:=cK Vw r1.toNat (by simp[Vw]at aY⊢;omega)
 obtain⟨_,⟨pa,pn,pk,pz,rfl,pi⟩,pr⟩:=(pI.le al G1).iF _ K aQ
 have pg:=λt j q=>(eF.1 (pr t j q)).2
 refine⟨_,pg 0 _ rfl,_,pg 1 _ rfl,_,pg 2 _ rfl,_,pg 3 _ rfl,_,pg 4 _ rfl,?_⟩
 refine(cD d5 V _).mono λ_ m6⟨r2,en,bw,a0,d6,z⟩=>⟨(L2 V).dv z,r2,en,?_⟩
 have bS:=z.size
 have am:Le (bP (e.size::m.size::b) m5) (bP (e.size::m.size::b) m6):=z.dg (by simp[s])
 let⟨p2,aR⟩:=cK VH r2.toNat (by simp[VH]at a0⊢;omega)
 obtain⟨_,⟨qa,qn,qk,qz,rfl,qi⟩,qr⟩:=(pI.le (al.trans am) G2).iF _ p2 aR
 have qg:=λt j q=>(eF.1 (qr t j q)).2
 refine⟨l bJ bJ z,l bJ bJ z,l bJ bJ z,l bJ bJ z,l bJ bJ z,bw,by simp at a0⊢;omega,_,qg 0 _ rfl,_,qg 1 _ rfl,_,qg 2 _ rfl,_,qg 3 _ rfl,_,qg 4 _ rfl,?_⟩
 refine(cD d6 V _).mono λ_ f⟨r3,en,bx,a1,d7,p⟩=>⟨(L2 V).dv p,r3,en,?_⟩
 have bU:=p.size
 have an:Le (bP (e.size::m.size::b) m6) (bP (e.size::m.size::b) f):=p.dg (by simp[s])
 let⟨p3,aT⟩:=cK Pe r3.toNat (by simp[Pe]at a1⊢;omega)
 obtain⟨_,⟨ra,rn,rk,rz,rfl,ri⟩,rr⟩:=(pI.le ((al.trans am).trans an) a8).iF _ p3 aT
 have rg:=λt j q=>(eF.1 (rr t j q)).2
 refine⟨l bJ bJ p,l bJ bJ p,l bJ bJ p,l bJ bJ p,l bJ bJ p,l bJ bJ p,l bJ bJ p,l bJ bJ p,l bJ bJ p,l bJ bJ p,bx,by simp at a1⊢;omega,_,rg 0 _ rfl,_,rg 1 _ rfl,_,rg 2 _ rfl,_,rg 3 _ rfl,_,rg 4 _ rfl,?_⟩
 intro T
 have a5:J f T:=J.push _ _
 have bl:ar (bP (e.size::m.size::b) f) (.mk b3.size 0 0 0) []:=mK _ _ _ _ _ _
 have gf:Gr (e.size::m.size::b) f T fx 5 Pt (.mk f.size 0 4 4) [(yu [] 0,none),(K,none),(p2,none),(p3,none)]:=BZ Pt.mono (h V) fx [((yu [] 0,none),[.s (.mk b3.size 0 0 0),.i 0,.i 0,.i 0,.s .nil]),((K,none),[.s pa,.i K.aT,.i pn,.i pk,.s pz]),((p2,none),[.s qa,.i p2.aT,.i qn,.i qk,.s qz]),((p3,none),[.s ra,.i p3.aT,.i rn,.i rk,.s rz])] (by simp;exact⟨⟨_,_,_,_,rfl,bl,aL⟩,⟨_,_,_,_,rfl,pi.le (am.trans an),aL⟩,⟨_,_,_,_,rfl,qi.le an,aL⟩,⟨_,_,_,_,rfl,ri,aL⟩⟩) rfl rfl
 have s8:T.size=f.size+1:=by simp[T]
 clear_value T
 let u:=[yu [] 0,K,p2,p3]
 have bB:f.size≠e.size:=V
 have bd:∀ac∈u,(ac.params,ac.aT)∈PC:=by
  simp only[u,aS,j7,BP];rintro ac (rfl|rfl|rfl|rfl)
  .simp[yu,PC]
  .exact QT.1 _ (au aQ)
  .exact QT.2.1 _ (au aR)
  .exact QT.2.2 _ (au aT)
 have a7:Fz [c] e f:=(((x4.trans XM).fz [c]).trans f5).trans (z.trans p)
 have aX:∀{g:E}{ah:O}{o:List (dA×Option Ex)}(W:Nat)(L:List Ce),Gr (e.size::m.size::b) f g fx 5 Pt ah o->Gr (e.size::m.size::b) f (ag g e.size W L) fx 5 Pt ah o:=λW L G=>G.NJ Pt.mono ((Fz.aA [e.size] _).ag (Or.inl aL) W L) aL (by have:=G.bh;simp;omega)
 intro U
 have g9:Gr (e.size::m.size::b) f U fx 5 Pt (.mk f.size 0 4 4) [(yu [] 0,none),(K,none),(p2,none),(p3,none)]:=aX 1 [.s (.mk f.size 0 4 4)] gf
 have r9:Rs c d e (P+4) U:=(Rs.mk (a7.then a5) (d7.ext a5)).put d2 (ad _) 1 [.s (.mk f.size 0 4 4)]
 have s9:U.size=T.size:=aw _ _ _ _
 clear_value U
 intro ax
 have ai:J U ax:=J.push _ _
 have bp:ar (bP [c] ax) (.mk U.size 0 5 5) [4,4,3,2,4]:=ar.lit aD _ bJ rfl rfl aL
 clear_value ax
 have bO:=ai.size
 refine(k8 (r9.r.ext ai) V bp aL).mono λ_ bq⟨mn,en,bk,ba,ae⟩=>⟨(L2 V).dv ae,mn,en,?_⟩
 have bQ:=ae.size
 have bD:2<=mn/\mn<=4:=by simp at bk;omega
 obtain⟨n,rfl⟩:∃n:Nat,mn=n:=⟨mn.toNat,V⟩
 have bh:O.cut (.mk f.size 0 4 4) (Int.toNat 0) (Int.toNat n) 5=.mk f.size 0 n 4:=by simp[O.cut]
 rw[bh]
 refine⟨be,V,bJ,?_⟩
 intro ab
 have bc:Gr (e.size::m.size::b) f ab fx 5 Pt (.mk f.size 0 n 4) ([(yu [] 0,none),(K,none),(p2,none),(p3,none)].take n):=Gr.aac be (aX 1 [.s (.mk f.size 0 n 4)] ((g9.ext Pt.mono ai).dQ Pt.mono ae (by simp[s];omega))) V
 have bv:Rs c d e (P+5) ab:=((r9.ext ai).to ae ba).put d2 (ad _) 1 [.s (.mk f.size 0 n 4)]
 have bG:ab.size=bq.size:=aw _ _ _ _
 clear_value ab
 have aU:(u.take n).length=n:=by simp[u];omega
 have gp:GP y (u.take n):=⟨aN,V,V,λac i=>bd ac (gB i)⟩
 have ew:cR ((n:Int) -1)=n -1:=aP V V
 rw[ew]
 refine⟨λN g=>∃(i:Nat)(o:List (dA×Option Ex)),N=(i:Int) -1/\i<=n/\Gr (e.size::m.size::b) f g fx 5 Pt (.mk f.size 0 n 4) o/\o.map (·.1)=u.take n/\(∀(t:Nat)(x:dA×Option Ex),o[t]? =some x->i<=t->∃r,x.2=some r/\Yt y n x.1.params.length r)/\Rs c d e (P+5+(n -i)*(300+40*Cg 18)) g/\ab.size<=g.size,λN _=>(N+1).toNat,⟨n,_,rfl,ad _,bc,by rw[Of];rfl,λt x C q=>by have:=az C;simp at this;omega,by rw[QL,QM];exact bv,ad _⟩,?_⟩
 rintro N g ⟨i,o,rfl,bC,G,hl,ap,Y,zM⟩
 have bj:o.length=n:=by rw[<-aU,<-hl];simp
 have gy:=G.bh
 simp only[O.jB]at gy
 have aI:f.size∉e.size::m.size::b:=λq=>by have:=h (g:=A) (ad _) _ q;omega
 refine dit (λq=>?_) λq=>?_
 .obtain⟨i,rfl⟩:∃D,i=D+1:=⟨i -1,V⟩
  have ek:((i+1:Nat):Int) -1=(i:Int):=V
  rw[ek]
  let⟨x,Q⟩:=cK o i
  have aq:(u.take n)[i]? =some x.1:=by rw[<-hl];simp[Q]
  have bn:pI (bP [c] g) (.mk f.size 0 n 4) (u.take n):=by
   have H:=G.nQ Pt.mono aI be V;rw[<-hl];refine⟨bJ,H.cap,H.iC,λD aF hy=>?_⟩;simp only[cU,jG]at hy;obtain⟨Z,R,rfl⟩:=hy;obtain⟨L,⟨F,i1,i2,i3,rfl,ha,-⟩,av⟩:=H.iF D Z R;have aV:=jS g (S:=e.size::m.size::b) (c:=[c]) (by simp[s]);exact⟨_,⟨F,_,_,_,rfl,ha.le aV⟩,aV.iF av⟩
  have bi:cy (bP [c] g) w y:=aK.le ((jS e (c:=[c]) (by simp[s])).trans (fh Y.f))
  have hB:(n -(i+1))*(300+40*Cg 18)+(300+40*Cg 18)=(n -i)*(300+40*Cg 18):=by rw[<-qu];congr 1;omega
  have bf:(n -i)*(300+40*Cg 18)<=4*(300+40*Cg 18):=dh _ V
  have bm:i=0->x.1.params.length=0:=λI=>by subst I;obtain⟨n',rfl⟩:∃n',n=n'+1:=⟨n -1,V⟩;simp[u]at aq;rw[<-aq];rfl
  have bg:∀j∈f.size::e.size::m.size::b,j<g.size:=bT (h (g:=g) V) (ad _) gy.2
  refine XP.kk (Nb (f:=f.size::e.size::m.size::b) bg (by simp[s]) ⟨Y.r,bi,bn,gp⟩ V aq bm) (L2 V) λah r M1 hs B bb ak=>?_
  have bM:=ak.size
  intro br ay
  obtain⟨aE,-,bN⟩:=kJ (M:=M1) (d:=br) (c:=ay) rfl rfl rfl
  clear_value ay
  have aH:=(G.dQ Pt.mono ak (by simp[s];omega)).ext Pt.mono aE
  obtain⟨L,⟨F,i1,i2,i3,rfl,ha,-⟩,jm⟩:=aH.cells Q
  have bs:=jm 0 _ rfl;have bt:=jm 1 _ rfl
  refine⟨V,bJ,F,bs,V,bJ,_,bt,V,bJ,?_⟩
  obtain⟨wr,gs,-,bF⟩:=aH.set Pt.mono (X:=List.range f.size) ⟨V,λv hb hn=>absurd (List.mem_range.2 hb) hn⟩ (k:=i) V (a:=(x.1,some r)) (cs:=[.s F,.i x.1.aT,.i r.op,.i r.bQ,.s ah]) ⟨F,_,_,_,rfl,ha,λe' aO=>by simp at aO;subst aO;exact⟨rfl,rfl,fF.le (aE.dg _) hs⟩⟩
  refine⟨wr,?_⟩
  intro aO
  have bH:aO.size=ay.size:=aw _ _ _ _
  have aZ:Rs c d e (P+5+(n -(i+1))*(300+40*Cg 18)+300+40*Cg 18) aO:=((Y.to ak bb).ext aE).put d2 (by show e.size<=f.size;omega) _ _
  refine⟨λv hb=>bo _ _ _ _ (by simp at hb;show v≠f.size;omega),⟨i,o.set i (x.1,some r),aP V V,V,gs,?_,λt aF C bA=>?_,⟨aZ.f,aZ.r.mono V⟩,V⟩,?_⟩
  .rw[ug,OU (by simp[Q]),hl]
  .rw[jE]at C
   split at C
   .rename_i e';subst e';rw[aj V]at C;simp at C;subst C
    have:(u.take n).length=n:=aU
    rw[this]at B;exact⟨r,rfl,B⟩
   .exact ap t aF C V
  .rw[aP V V];show((i:Int) -1+1).toNat<((i:Int)+1).toNat;omega
 .have I:i=0:=V
  subst I
  have ak:Le (bP (e.size::m.size::b) g) (bP b (ag g m.size 0 [.s w,.s (.mk f.size 0 n 4)])):=cB aL λj hc=>by simp[hc]
  have H:=G.nQ Pt.mono aI be V
  have bf:(n -0)*(300+40*Cg 18)<=4*(300+40*Cg 18):=dh _ V
  have C:Rs c d m (P+5+(n -0)*(300+40*Cg 18)) g:=⟨F2.trans Y.f,Y.r⟩
  have C:=C.put I (ad _) 0 [.s w,.s (.mk f.size 0 n 4)]
  have ay:(o.map λx=>(x.1,x.2.getD (.mk 0 0 []))).map (·.1)=u.take n:=by rw[XT,<-hl];rfl
  refine⟨w,.mk f.size 0 n 4,y,o.map λx=>(x.1,x.2.getD (.mk 0 0 [])),rfl,aK.le ((Y.f.dg (by simp[s])).trans ((cB aL λj hc=>by simp[hc]))),⟨bJ,H.cap,H.iC,λD aF hy=>?_⟩,⟨by rw[ay];exact gp,λx Q=>?_⟩,C.r.mono V,C.f⟩
  .simp only[cU,jG]at hy
   obtain⟨Z,R,rfl⟩:=hy
   let⟨r,B,hf⟩:=ap D Z R (eO _)
   obtain⟨L,⟨F,i1,i2,i3,rfl,ha,hb⟩,av⟩:=H.iF D Z R
   obtain⟨rfl,rfl,aq⟩:=hb r B
   exact⟨_,⟨F,i3,by simp[B],ha.le ak,by simp only[B,vO];exact fF.le ak aq⟩,ak.iF av⟩
  .simp only[XU]at Q
   obtain⟨Z,R,rfl⟩:=Q
   let⟨D,F⟩:=List.mem_iff_getElem?.1 R
   let⟨r,B,hf⟩:=ap D Z F (eO _)
   simp only[B,vO,dW,bj];exact hf
end
end
structure Pm(S:List Nat)(m0 m:E)(lb:Nat)(s:O)(l:List cV)(sc:Nat):Prop where
 box:cw m lb lI [.s s,.i sc]
 gr:GS (lb::S) m0 m s l
 up:m0.size<=lb
def Pm.ext{S:List Nat}{c m b:E}{a d:Nat}{s:O}{l:List cV}(h:Pm S c m a s l d)(x:J m b):Pm S c b a s l d:=⟨h.box.ext x,h.gr.ext gQ.mono x,h.up⟩
def Pm.ne{S:List Nat}{b m:E}{a c:Nat}{s:O}{l:List cV}(h:Pm S b m a s l c):s.D≠a:=h.gr.ne h.box be
def LoP(S:List Nat)(f m:E)(c:Nat)(s:O)(P:List cV->Nat->Prop)(d:E):Prop:=∃a b e,Pm S f d c a b e/\P b e/\Fz [c,s.D] m d/\(a.D=s.D\/m.size<=a.D)
def LX{S:List Nat}{n e:E}{b f:Nat}{s w D:O}{l:List cV}{x:cV}(q:Pm S n e b s l f)(C:n.size<=e.size)(P:ar (bP (s.D::b::S) e) w x.args)(Q:nP (bP (s.D::b::S) e) D x.bE)(t:l.length<=1000000)(hs:f<=1000000):
 aM cq 311 [vp b 0,pA x w D] e λW T=>W=vi (f:Nat)/\LoP S n e b s (λc d=>c=l++[x]/\d=f+1) T:=by
 apply wQ (b,0)
 simp -zeta only[aC,aB]
 intro i
 have k:J e i:=J.push _ _
 have s1:i.size=e.size+1:=by simp[i]
 clear_value i
 have g:=q.ext k
 have hy:=g.gr.bh
 have I:=g.box.lt
 have aa:=q.box.lt
 have ab:=q.gr.bh
 refine⟨s,g.box.bU 0,?_⟩
 intro U
 have K:J i U:=J.push _ _
 refine⟨aJ (K.same _ I) _,?_⟩
 have g1:GS (b::S) (e.extract 0 n.size) i s l:=Gr.cv gQ.mono g.gr (λL t=>Or.inl t) (by rw[nY C];exact ad _)
 refine Gr.kL (g:=[.i 0,.i 0,.i 0,.s .nil,.s .nil]) (k:=x) gQ.mono be g1 (((J.MG C).trans k).fz []) ⟨w,D,rfl,P.le (k.dg _),eR.le Q (k.dg _) λ_ _=>rW.le (k.dg _)⟩ V λp u G Z X F=>?_
 have A:cw u b lI [.s s,.i f]:=g.box.congr (F b I (kH g.ne))
 have R:=G.ne A be
 refine⟨λc d=>?_,A.eC aL,?_⟩
 .simp at d;subst d
  rw[F e.size V V,K.same _ V]
 intro j
 have B:cw j b lI [.s p,.i f]:=cw.ag (m:=u) (o:=0) (r:=[.s p]) A
 have y:∀c,c≠b->j[c]? =u[c]? :=λc d=>bo _ _ _ _ d
 have s4:j.size=u.size:=aw _ _ _ _
 have M:cR ((f:Int)+1)=(f+1:Nat):=by rw[aP V V];rfl
 refine⟨λc d=>y c (by simp at d;omega),_,B.bU 1,B.eC aL,?_⟩
 rw[M]
 intro v
 have H:cw v b lI [.s p,.i (f+1:Nat)]:=cw.ag (m:=j) (o:=1) (r:=[.i (f+1:Nat)]) B
 have z:∀c,c≠b->v[c]? =j[c]? :=λc d=>bo _ _ _ _ d
 have s5:v.size=j.size:=aw _ _ _ _
 refine⟨λc d=>z c (by simp at d;omega),_,H.bU 1,?_⟩
 have N:GS (b::S) n v p (l++[x]):=by
  refine Gr.cv gQ.mono (G.re gQ.mono (Y:=[b]) ⟨V,λc d h=>?_⟩ aL (by simp;exact R) λc d=>Or.inl d) (λL t=>Or.inl t) (by rw[nY C];exact ad _);have:c≠b:=by simpa using h
  exact(z c this).trans (y c this)
 refine⟨by rw[aP V V];congr 1;omega,p,_,_,⟨H,N,q.up⟩,⟨rfl,rfl⟩,⟨V,λc d h=>?_⟩,oh X.2⟩
 simp only[aS,j7,BP,ui]at h
 rw[z c h.1,y c h.1,F c V h.2,k.same c d]
section
variable{K D d b:Nat}{a:List cV}
structure LW(ds:List bz)(nf sc:Nat)(a:List cV)(K D sc':Nat):Prop where
 wl:WL ds nf False sc a
 dd:sc'=sc+dc a
 sz:sw a<=K
 oK:sc'<=sc+D
def LW.aA(b:List bz)(c a:Nat):LW b c a [] 0 0 a:=⟨.nil _ _ _ _,aL,aL,V⟩
def LW.fw{c:List bz}{e f g:Nat}(h:LW c e f a K D g)(j:K<=d)(i:D<=b):LW c e f a d b g:=⟨h.wl,h.dd,oh h.sz,oh h.oK⟩
def LW.trans{e:List bz}{f i j k:Nat}{g:List cV}(h:LW e f i a K D j)(c:LW e f j g d b k):LW e f i (a++g) (K+d) (D+b) k:=
 ⟨h.wl.append (h.dd▸c.wl),by rw[c.dd,h.dd,cW];omega,by have:=h.sz;have:=c.sz;rw[dD];omega,Qb h.oK c.oK⟩
def LW.kX{b:List bz}{c a:Nat}{x:cV}(h:WS b c False a x):LW b c a [x] x.w 1 (a+1):=⟨.kX h,by rw[kN,tx,dn1 h],by simp[sw],V⟩
section
variable{S:List Nat}{e m f:E}{c g j:Nat}{s i:O}{l h:List cV}
def Pm.gJ(h:Pm S e m c s l g)(d:J e m)(b:Fz [c,s.D] m f):J e f:=by
 have k:=h.gr.bh;have j:=h.up;exact Fz.ext (((d.fz [c,s.D]).trans b).DH λi a=>Or.inr (by simp at a;omega))
def Pm.re{S' Y:List Nat}(h:Pm S e m c s l g)(j:Fz Y m f)(d:∀b∈Y,b∈S/\b≠c/\b≠s.D)(k:∀b∈S',b∈S\/m.size<=b):Pm S' e f c s l g:=
 ⟨h.box.congr (j.same _ h.box.lt λi=>(d _ i).2.1 rfl),h.gr.re gQ.mono j (λb a=>ai _ (d b a).1) (λi=>(d _ i).2.2 rfl) λb a=>(List.mem_cons.1 a).elim (λi=>Or.inl (by rw[i];exact aX)) λa=>(k b a).imp (ai _) id,h.up⟩
end
structure LS(S:List Nat)(m0 m:E)(lb:Nat)(s:O)(l:List cV)(sc:Nat)(MM:O)(ev:List Int):Prop where
 em:Pm S m0 m lb s l sc
 x:J m0 m
 gJ:∀c∈S,c<m.size
 MM:ar (bP [s.D,lb] m) MM ev
 sm:∀y∈ev,0<=y/\y<(sc:Int)
def exV(e:Ex)(t:O):Value:=.agg #[vi e.op,vi e.bQ,O.v t]
def Va(b:List bz)(h:Nat)(e:Ex):Prop:=∀(S:List Nat)(c m:E)(d:Nat)(s:O)(l:List cV)(f:Nat)(MM:O)(ev:List Int)(g p t:O),LS S c m d s l f MM ev->WX b h ev.length e->f+4*e.n<=2000->ev.length+4*e.n<=2000->l.length+4*e.n<=2000->cy c g b->dU b->fF c t e.bE->
 aM cq 278 [vp d 0,.agg #[O.v g,O.v p],exV e t,O.v MM] m λv k=>∃r:Int,v=vi r/\LoP S c m d s (λj i=>∃a,j=l++a/\LW b h f a (3*e.n -1) e.n i/\0<=r/\r<(i:Int)) k
def Z1(a:List bz)(f:Nat)(e:Ex):Prop:=∀(S:List Nat)(m:E)(b:Nat)(MM:O)(ev:List Int)(d p t:O),(∀c∈S,c<m.size)->ar m MM ev->(∀y∈ev,0<=y/\y<(b:Int))->WX a f ev.length e->b+4*e.n<=2000->ev.length+4*e.n<=2000->cy m d a->dU a->fF m t e.bE->
 nG 249 [.agg #[O.v d,O.v p],exV e t,O.v MM,vi b] m S λc=>WB a f False b c/\c.w<=3*e.n
def _root_.Go.Vc.Ex.NK(e:Ex):1<=e.n:=by rw[Ex.YY];omega
def Dv{s:List bz}{w:Nat}{e:Ex}(k:Va s w e):Z1 s w e:=by
 intro i v n MM ev C R X t H L N ab Z hd M I;apply zl;simp -zeta only[aC,aB];intro P f b c d;let⟨g,hl,s1,s2,s3⟩:=qB (a:=P) (b:=f) (c:=b) rfl rfl rfl;have p:J b c:=J.push _ _;have W:c.size=b.size+1:=by simp[c]
 have F:GS ((b.size+1)::f.size::i) b c (.mk b.size 0 0 0) []:=Gr.new _ (ad _) _ _ _;have h:J c d:=J.push _ _;have z:cw d c.size lI [.s (.mk b.size 0 0 0),.i n]:=cw.push _ _ _;clear_value d c b;have Y:=g;have q:=(g.trans p).trans h;have z5:=h.size;have G:∀r∈f.size::i,r<d.size:=bT t q.size V;have O:Pm (f.size::i) b d c.size (.mk b.size 0 0 0) [] n:=⟨z,W▸F.ext gQ.mono h,V⟩;have hp:=e.NK;refine(k (f.size::i) b d c.size _ [] n MM ev C R X ⟨O,p.trans h,G,(H.le (((g.trans p).trans h).bP (S:=[]) bJ|>λk=>(Al v).trans k)),L⟩ N V V bJ (hd.le g.le) M (fF.le g.le I)).mono λae Q⟨x,E,y,m,ac,o6,⟨a,D,o,T,U⟩,j,b6⟩=>?_;subst D;have z6:=j.size;have A:J v Q:=Fz.ext (((q.fz [c.size,b.size]).trans j).DH λB l=>by simp at l;omega);refine⟨j.dv λB l=>by simp at l;simp;omega,x,E,y,o6.box.bU 0,?_⟩;intro m7;have hz:=o.sz;have aa:=fY m;refine⟨y,.mk m x,rfl,eN.le (cB aL λr u=>by simp[u]) (o6.gr.nQ gQ.mono (λu=>?_) be (by show m.length<=_;omega)),⟨WB.of o.wl ⟨T,by rw[<-o.dd];exact U⟩,by rw[Bk.qQ];omega⟩,A.ag V _ _⟩;have hy:=o6.gr.bh;have K:=o6.ne;simp only[aS]at u;rcases u with e|e|e
 .exact K e
 .omega
 .have:=t _ e;omega
end
section
variable{M c:E}{a:Nat}
def PU{m:E}{t:O}{l:List Ex}(h:fF m t l){k:Nat}{x:Ex}(f:l[k]? =some x)(a:J m M):∃u,fF m u x.bE/\af M t.D (t.off+k*3)=some (vi x.op)/\af M t.D (t.off+k*3+1)=some (vi x.bQ)/\af M t.D (t.off+k*3+2)=some (O.v u):=
 let⟨u,b,c,d,e⟩:=h.aG f;⟨u,b,a.af c,a.af d,a.af e⟩
def gx(x:J M c){o:Nat}{v:Value}(h:af M a o=some v):af c a o=af M a o:=by rw[x.af h,h]
def gl(x:J M c)(h:a<M.size)(o:Nat):af c a o=af M a o:=aJ (x.same a h) o
def Uj{q:List bz}{nf:Nat}{p bQ:Int}{bE:List Ex}(ih:∀t∈bE,Va q nf t):Va q nf (.mk p bQ bE):=by
 intro u W D d A aa sc MM ev al an bt e hw br bj bp hd ht hk;have N:=hw.aW;simp only[exV,Ex.Wo,Ex.Un,Ex.Sc,Ex.SN]at*;apply uz (d,0);simp -zeta only[aC,aB];intro am s;let⟨G,hl⟩:=dP (a:=am) (c:=s) rfl rfl;have s1:am.size=D.size+1:=by simp[am]
 have s2:s.size=D.size+2:=by simp[s,s1]
 clear_value s;have aT:=hk.len;have bn:=hk.iC;have bo:=e.em.box.lt;have h:=e.em.gr.bh;have bq:=e.em.ne;have dg:∀{M:E}{f:O},Fz [d,A.D] D M->(f.D=A.D\/D.size<=f.D)->Le (bP [A.D,d] D) (bP [f.D,d] M):=λab g=>pP λa aH hn=>by
  simp at hn;exact⟨by simp;rcases g with t|t<;>omega,ab.same a aH bJ⟩
 have st:∀{av:List Nat}{M:E}{f:O}{l':List cV}{F:Nat},Pm av W M d f l' F->Fz [d,A.D] D M->(f.D=A.D\/D.size<=f.D)->(∀l∈av,l<M.size)->sc<=F->LS av W M d f l' F MM ev:=λah ab g hS hs=>⟨ah,e.em.gJ e.x ab,hS,e.MM.le (dg ab g),λy h=>⟨(e.sm y h).1,oh ((e.sm y h).2)⟩⟩;have dv:∀{M c:E}{f:O},s.size<=M.size->(f.D=A.D\/s.size<=f.D)->Fz [d,f.D] M c->dY [am.size,D.size] M c:=λhz g ab=>ab.dv λa aH=>by simp at aH;simp;omega
 have aj:∀{M c:E},s.size<=M.size->J M c->dY [am.size,D.size] M c:=λhz bf=>bf.dv λa g=>by simp at g;omega
 have fr:∀{M c:E}{f:O},Fz [d,A.D] D M->(f.D=A.D\/s.size<=f.D)->Fz [d,f.D] M c->Fz [d,A.D] D c:=λab g L=>ab.sF L λy h=>by simp at h⊢;omega
 refine⟨λao=>?_,λao=>⟨λag=>?_,λag=>⟨λap=>?_,λap=>?_⟩⟩⟩
 .simp only[aE]at ao;let⟨j,o⟩:=N.1.UG ao;have k:=e.MM.len;let⟨y,v⟩:=cK ev bQ.toNat;have i:=e.sm y (au v);exact⟨j,V,y,(eF.1 ((e.MM.le (G.dg _)).aG v)).2,y,rfl,A,aa,sc,e.em.ext G,⟨[],aL,(LW.aA q nf sc).fw V V,i⟩,G.fz _,Or.inl rfl⟩
 .simp only[aE]at ag;have h2:=N.1.Km ag;let⟨T,U⟩:=cK bE 0;let⟨j,i⟩:=cK bE 1;have aO:en bE=T.n+j.n:=by
   obtain⟨w,a,rfl⟩:∃w a,bE=[w,a]:=by
    match bE,h2 with
    |[w,a],_=>exact⟨w,a,rfl⟩
   simp at U i;subst U i;simp[en]
  have p0:=T.NK;have p1:=j.NK;let⟨u0,aJ,g0,g1,g2⟩:=PU hk U (e.x.trans G);refine⟨be,V,_,g0,_,g1,_,g2,?_⟩;have S2:=st (e.em.ext G) (G.fz _) (Or.inl rfl) (λl r=>oh (e.gJ l r)) (ad _);refine(ih T (au U) u W s d A aa sc MM ev al an u0 S2 (by have:=N.2 0 T U;simpa[xb]using this) V V V hd ht aJ).mono λR o⟨P,ay,H,l3,Q,o3,⟨af,aw,Z,bc,bd⟩,f3,b3⟩=>⟨dv (ad _) (Or.inl rfl) f3,P,ay,?_⟩;subst aw;have F3:=fr (G.fz _) (Or.inl rfl) f3;have z3:=f3.size;have X3:=e.em.gJ e.x F3;let⟨u1,aA,k0,k1,k2⟩:=PU hk i X3;have a1:=Z.oK;have a8:=fY af;have bb:=Z.sz;refine⟨be,V,_,k0,_,k1,_,k2,?_⟩;have S3:=st o3 F3 V (λl r=>oh (e.gJ l r)) (oh Z.dd);have z:∀l∈[H.D,d],l<o.size:=λl r=>by have:=o3.gr.bh;have:=o3.box.lt;simp at r;omega
  intro C;have k:J o C:=J.push _ _;have aG:ar (bP [H.D,d] C) (.mk o.size 0 1 1) [P]:=ar.lit aD _ z rfl rfl aL;clear_value C;refine⟨gx k k0,gx k k1,gx k k2,gl k V _,gl k V _,gl k V _,?_⟩;have z4:=k.size;refine(eM (S:=[H.D,d]) (λl r=>k.lt (z l r)) (S3.MM.le (k.dg _)) aG bJ).mono λR m5⟨I,l5,e5,g5,q5,B⟩=>⟨aj V B,I,e5,gx B (k.af k0),gx B (k.af k1),gx B (k.af k2),gl B V _,gl B V _,gl B V _,?_⟩;subst q5;have z5:=B.size;have S5:LS u W m5 d H (aa++af) Q I (ev++[P]):=⟨(o3.ext k).ext B,(X3.trans k).trans B,λl r=>oh (e.gJ l r),GI.done g5 (λl r=>k.lt (z l r)) bJ,λy h=>by
   rcases List.mem_append.1 h with h|h
   .have:=e.sm y h;have:=Z.dd;omega
   .simp at h;omega⟩
  refine(ih j (au i) u W m5 d H (aa++af) Q I (ev++[P]) al an u1 S5 (by have:=N.2 1 j i;simpa[xb,ag]using this) V bJ bJ hd ht aA).mono λR m6⟨r1,aq,s6,l6,aN,o6,⟨aI,ac,w6,aK,aM⟩,K,b6⟩=>⟨dv V V K,r1,aq,r1,rfl,s6,l6,aN,o6,⟨af++aI,by rw[ac,fC],(Z.trans w6).fw V V,aK,aM⟩,fr ((F3.then k).then B) V K,V⟩
 .simp only[bV,aE]at ap;have h3:p=7->bE.length=3:=N.1.ZA;have aG:p=8->bE.length=1+(cx q bQ).length/\0<(cx q bQ).length:=N.1.all;have a5:1<=bE.length:=by rcases ap with i|i;have:=h3 i;omega;have:=aG i;omega
  let⟨T,U⟩:=cK bE 0;have bk:en (bE.take 1)=T.n:=by have:=Kq U;simpa using this
  have bl:=RZ bE 1;have p0:=T.NK;let⟨u0,aJ,g0,g1,g2⟩:=PU hk U (e.x.trans G);refine⟨be,V,_,g0,_,g1,_,g2,?_⟩;have S2:=st (e.em.ext G) (G.fz _) (Or.inl rfl) (λl r=>oh (e.gJ l r)) (ad _);refine(ih T (au U) u W s d A aa sc MM ev al an u0 S2 (by have:=N.2 0 T U;simpa[xb]using this) V V V hd ht aJ).mono λR o⟨P,ay,H,l3,Q,o3,⟨af,aw,Z,bc,bd⟩,f3,b3⟩=>⟨dv (ad _) (Or.inl rfl) f3,P,ay,?_⟩;subst aw;have F3:=fr (G.fz _) (Or.inl rfl) f3;have z3:=f3.size;have X3:=e.em.gJ e.x F3;have a1:=Z.oK;have a8:=fY af;have bb:=Z.sz;have S3:=st o3 F3 V (λl r=>oh (e.gJ l r)) (oh Z.dd);have aA:∀l∈H.D::d::u,l<o.size:=bT (bT (m:=D) e.gJ V o3.box.lt) (ad _) o3.gr.bh.2;intro C;have k:J o C:=J.push _ _;have g4:GB (H.D::d::u) o C (.mk o.size 0 0 0) []:=GB.new _ o;have s4:C.size=o.size+1:=by simp[C]
  clear_value C;refine(ic (e:=[o.size]) bJ (hd.le (X3.trans k).le) ht bQ).mono λR m5⟨cs,cl,ec,r,qc,B⟩=>⟨aj V B,cs,ec,?_⟩;subst qc;have bi:=r.len;have z5:=B.size;refine Q4 (a:=bE.length) (aT▸hk.iC) a5 (λj ks M=>∃z,GB (H.D::d::u) o M ks z/\z.length+1=j/\(∀(ac:Nat)(a:Bk),z[ac]? =some a->WB q nf False (Q+BR q p bQ ac) a)/\bw z+3*T.n<=3*en (bE.take j)/\J o M/\Fz [o.size] m5 M/\(ks.D=o.size\/m5.size<=ks.D)) ⟨[],g4.ext rW.mono B,rfl,aL,bJ,k.trans B,Fz.aA _ _,Or.inl rfl⟩ ?_;rintro j ks M aX μ bm hj ⟨z,L,a7,aU,a2,xM,fM,aR⟩ aK
  have zM:=xM.size;have aQ:=L.bh;have oM:=o3.box.ext xM;refine dit (λi=>?_) λi=>?_
  .have ew:cR ((j:Int) -1)=((j -1:Nat):Int):=by rw[aP V V];omega
   refine⟨λaW c=>J M c/\aW=(BR q p bQ (j -1):Nat),⟨λh8=>?_,λh8=>⟨J.aA _,by simp only[ak]at h8;rw[KL h8];rfl⟩⟩,?_⟩
   .simp only[aE]at h8;have ha:=aG h8;let⟨y,v⟩:=cK (cx q bQ) (j -1);rw[ew];refine⟨V,V,y,(eF.1 ((r.le (fM.dg aL)).aG v)).2,?_⟩;refine(dN (e:=[]) aL (hd.le ((X3.trans xM).le.trans (Al _))) ht y).mono λR m6⟨K,l6,e6,h6,q6,I⟩=>⟨aj V I,K,e6,I,?_⟩;subst q6;rw[KK h8 v,h6.len]
   rintro aW m6 ⟨I,rfl⟩;let⟨t,he⟩:=cK bE j;have X6:=(X3.trans xM).trans I;let⟨aN,hu,k0,k1,k2⟩:=PU hk he X6;have B6:=oM.ext I;have z6:=I.size;refine⟨V,V,_,k0,_,k1,_,k2,_,B6.bU 1,_,B6.bU 1,?_⟩;have bg:=QU ht p bQ (j -1);have a4:=Kq he;have a3:=RZ bE (j+1);have a9:=t.NK;refine(mg (S:=[]) (d:=m6) aL Q (BR q p bQ (j -1)) V).mono λR m7⟨s7,l7,e7,g7,q7,v⟩=>⟨aj V v,s7,e7,gx v (B6.bU 1),gx v k0,gx v k1,gx v k2,gl v V _,gl v V _,gl v V _,?_⟩;have z7:=v.size;have a0:ar (bP [] m7) MM ev:=(S3.MM.le ((((xM.trans I).trans v).dg _).trans (bG _ _))).le (Al _);refine(eM (S:=[]) aL a0 (GI.done g7 aL V) V).mono λR m8⟨s8,l8,e8,g8,q8,K⟩=>⟨aj V K,s8,e8,gx K ((B6.ext v).bU 1),gx K (v.af k0),gx K (v.af k1),gx K (v.af k2),gl K V _,gl K V _,gl K V _,?_⟩;subst q8;have z8:=K.size;have a6:(ev++l7).length=ev.length+BR q p bQ (j -1):=by simp;exact q7.2
   rw[aP (b:=(Q:Int)+(BR q p bQ (j -1):Nat)) V V,show(Q:Int)+(BR q p bQ (j -1):Nat)=((Q+BR q p bQ (j -1):Nat):Int)by omega];have aq:=(I.trans v).trans K;have a_:WX q nf (ev++l7).length t:=by
    have:=N.2 j t he;rw[a6];obtain⟨j',rfl⟩:∃j',j=j'+1:=⟨j -1,V⟩;have aY:xb q p bQ (j'+1)=BR q p bQ j':=ae (by simpa using ag);rwa[aY]at this
   refine(Dv (ih t (au he)) (ks.D::H.D::d::u) m8 _ s8 (ev++l7) al an aN (bT (λl r=>oh (aA l r)) (ad _) V) ((GI.done g8 aL V).le (bG _ _)) (λy h=>?_) a_ V V (hd.le ((X6.trans v).trans K).le) ht (fF.le ((X6.trans v).trans K).le hu)).mono λR m9⟨s9,b9,e9,h9,q9,x9⟩=>⟨aj V x9,s9,_,e9,?_⟩
   .rcases List.mem_append.1 h with h|h
    .have:=S3.sm y h;omega
    .have:=q7.1 y h;omega
   intro bs;have z9:=x9.size;have bh:=qC z;refine GB.kL (c:=b9) ((L.ext rW.mono aq).ext rW.mono x9) (((xM.trans aq).trans x9).fz []) h9 V λaM c g' f' z' q'=>⟨λa g=>by
    have aO:a<o.size:=by simp at g;omega
    rw[f'.ext.same a aO,(((xM.trans aq).trans x9).aH _).same a aO],aK V _ _ ⟨_,g',by rw[ba,List.length_singleton];omega,λac a hi=>?_,?_,f'.ext,(fM.then (aq.trans x9)).sF (Y:=[ks.D]) ⟨z'.1,λa g hn=>q' a g (by simpa using hn)⟩ (λy h=>by simp at h⊢;omega),oh fM.size⟩⟩
   .rcases aZ ac z.length with aI|aI
    .rw[ax aI]at hi;exact aU ac a hi
    .rw[aF aI]at hi;have:ac -z.length=0:=by have:=az hi;simp at this;omega
     rw[this]at hi;simp at hi;subst hi;have:ac=j -1:=V;subst this;exact q9.1
   .rw[oZ,uK,zP];have:=q9.2;omega
  .have K:j=bE.length:=V;subst K;rw[fy]at a2;intro m6;have I:J M m6:=J.push _ _;have aW:ar (bP (H.D::d::u) m6) (.mk M.size 0 1 1) [P]:=ar.lit aD _ (λl r=>oh (aA l r)) rfl rfl aL;have z6:=I.size;have aR:nP (bP (H.D::d::u) m6) ks z:=nP.le (I.dg _) (L.done rW.mono aA be (oh (qC z)));clear_value m6;have X6:=xM.trans I;refine(LX (x:=⟨p,bQ,0,[P],z⟩) (o3.ext X6) (X3.trans X6).size aW aR bJ V).mono λR m7⟨aO,s7,l7,aY,o7,⟨aq,aI⟩,v,b7⟩=>⟨dv V V v,Q,aO,Q,rfl,s7,l7,aY,o7,⟨af++[⟨p,bQ,0,[P],z⟩],by rw[aq,fC],?_,V,V⟩,fr (F3.then X6) V v,V⟩;have ws:WS q nf False Q ⟨p,bQ,0,[P],z⟩:=⟨⟨Or.inl (by show 0<=p/\p<=11;omega),bJ,λ_=>rfl,⟨by show(0:Int)<=0;omega,by show(0:Int)<=_;omega⟩,λi=>by show z.length=2;have:=h3 i;omega,λi=>by show z.length=(cx q bQ).length/\0<z.length;have:=aG i;omega,λi=>by simp only at i;omega⟩,aU⟩;subst aI;exact(Z.trans (LW.kX ws)).fw (by rw[cV.mz];simp only[aV,eU];omega) V
 .simp only[bu,ak]at ap;simp only[ak]at ao ag;have ho:=N.1.o;intro o;have x3:J s o:=J.push _ _;have g3:GI [] s o (.mk s.size 0 0 0) []:=GI.nil [] s;have aR:o.size=s.size+1:=by simp[o]
  clear_value o;have o3:Pm (s.size::u) W o d A aa sc:=(e.em.ext G).re (x3.fz []) aL λa g=>(List.mem_cons.1 g).elim (λi=>Or.inr V) Or.inl;refine dV (n:=bE.length) (aT▸hk.iC) (λj w M=>∃f F r l,Pm (w.D::u) W M d f (aa++r) F/\LW q nf sc r (3*en (bE.take j) -j) (en (bE.take j)) F/\GI [] s M w l/\l.length=j/\(∀y∈l,0<=y/\y<(F:Int))/\Fz [d,A.D] D M/\(f.D=A.D\/s.size<=f.D)/\s.size<=M.size) ⟨A,sc,[],[],by simpa using o3,(LW.aA q nf sc).fw (eO _) (eO _),g3,rfl,aL,(G.trans x3).fz _,Or.inl rfl,V⟩ ?_;rintro j w M aX μ hj ⟨f,F,r,l,ah,v,L,a7,T,fM,g,zM⟩ aK
  have H:=e.em.gJ e.x fM;have af:=v.oK;have aI:=v.dd;have aQ:=L.bh;have B:w.D≠d:=L.ne ah.box be;have Lu:w.D≠f.D:=L.Lu ah.gr be;have aO:=fY r;have aw:=v.sz;have a3:=RZ bE j;refine dit (λi=>?_) λi=>?_
  .let⟨t,he⟩:=cK bE j;let⟨aN,hu,k0,k1,k2⟩:=PU hk he H;have a4:=Kq he;have aJ:=RZ bE (j+1);have a9:=t.NK;have aq:=Q1 (bE.take j);rw[gG,jd V]at aq;refine⟨V,V,_,k0,_,k1,_,k2,?_⟩;have SM:=st ah fM V (bT (m:=D) e.gJ V aQ.2) V;refine(ih t (au he) (w.D::u) W M d f (aa++r) F MM ev al an aN SM (by have:=N.2 j t he;rwa[ZC V V]at this) V V bJ hd ht hu).mono λR C⟨aM,er,s4,l4,aG,U,⟨aA,ac,Z,P,r1⟩,z,b4⟩=>⟨dv zM g z,aM,er,?_⟩;subst ac;have z4:=z.size;have F4:=fr fM g z;intro m5;have Q:GI [] s C w l:=GI.any (c:=[d,f.D]) ((GI.any (e:=[d,f.D]) L).NJ um.mono z (λ_ i=>i) (by simp;exact⟨B,Lu⟩));have ay:w.D≠s4.D:=Q.Lu U.gr be;refine GI.kL Q (X:=List.range s.size) ⟨V,λa g hn=>absurd (List.mem_range.2 g) hn⟩ aL V λa' c g' f' z' q'=>?_;have I:Fz [w.D] C c:=⟨z'.1,λa g hn=>q' a g (by simpa using hn)⟩;refine⟨λa g=>?_,aK V _ _ ⟨s4,aG,r++aA,l++[aM],?_,(v.trans Z).fw V V,g',bJ,λy h=>?_,F4.sF I λy h=>by simp at h⊢;omega,V,V⟩⟩
   .simp at g;rw[q' a V V,(J.push C _).same a V]
   .rw[<-fC];exact U.re I (by simp;exact⟨B,ay⟩) λa g=>(List.mem_cons.1 g).elim (λt=>by subst t;rcases z'.2 with t|t;exact Or.inl (by simp[t]);exact Or.inr t) λi=>Or.inl (ai _ i)
   .have:=Z.dd;rcases List.mem_append.1 h with h|h
    .have:=T y h;omega
    .simp at h;omega
  .have K:j=bE.length:=V;subst K;rw[fy]at v af aw;have aq:=Q1 bE;intro C;have k:J M C:=J.push _ _;have Q:w.D∉f.D::d::u:=by
    simp only[aS,ui];exact⟨Lu,B,λi=>oh (e.gJ _ i)⟩
   have ha:ar (bP (f.D::d::u) M) w l:=(GI.any (e:=f.D::d::u) L).nQ um.mono Q be V;have U:Pm u W M d f (aa++r) F:=ah.re (Fz.aA [] _) aL λa g=>Or.inl (ai _ g);have z4:=k.size;refine(LX (x:=⟨p,bQ,0,l,[]⟩) (U.ext k) (H.trans k).size (ha.le (k.dg _)) (mK _ _ _ _ _ _) bJ V).mono λR m5⟨P,Z,l5,ac,o5,⟨z,I⟩,t,b5⟩=>⟨dv V g t,F,P,F,rfl,Z,l5,ac,o5,⟨r++[⟨p,bQ,0,l,[]⟩],by rw[z,fC],?_,V,V⟩,fr (fM.then k) g t,V⟩;have ws:WS q nf False F ⟨p,bQ,0,l,[]⟩:=⟨⟨Or.inl (by show 0<=p/\p<=11;omega),T,λi=>by simp only at i;omega,⟨by show(0:Int)<=0;omega,by show(0:Int)<=_;omega⟩,λi=>by simp only at i;omega,λi=>by simp only at i;omega,N.1.call⟩,aL⟩;subst I;exact(v.trans (LW.kX ws)).fw (by rw[cV.mz];simp only[zP];omega) V
def Uk{a:List bz}{c:Nat}:∀e:Ex,Va a c e:=Ex.ind λ_ _ _ b=>Uj b
end
def ID{t:List Nat}{w:E}(hS:∀d∈t,d<w.size){U ak:O}{N:List bz}{P:List (dA×Ex)}(hd:cy w U N)(hp:Xo w ak P)(aa:Xr N P):vn 236 [.agg #[O.v U,O.v ak]] w t N λrs=>yK N rs False 95:=by
 apply Bj;simp -zeta only[aC,aB];have ht:=tr aa.gp.ds;intro h a2;let⟨L,hl⟩:=dP (a:=h) (c:=a2) rfl rfl;have s1:h.size=w.size+1:=by simp[h]
 clear_value a2;have aO:=hp.len;have aZ:P.length<=4:=by have:=aa.gp.oK;simpa using this
 have aY:0<P.length:=by have:=aa.gp.iY;simpa using this
 refine(fS (b:=h.size::t) (bT hS L.size (hl _ aL)) (hd.le L.le) ht).mono λ_ av⟨dd,e,aK,x3⟩=>?_;subst e;refine⟨x3.dv hl,_,rfl,?_⟩;intro k aT aF;have u2:=L.trans x3;let⟨x5,B0,g0,s3,s5⟩:=lg (b:=k.size::h.size::t) iQ.mono (d:=av) (a:=k) (c:=aT) (h:=aF) rfl rfl rfl;clear_value aF;have ah:∀d∈[h.size,w.size],d<av.size:=λd g=>x3.lt (hl d g);have aD:∀d∈h.size::t,d<av.size:=λd g=>x3.lt (bT hS L.size (hl _ aL) d g);refine kV (R:=λb c C=>∃U T rs,Value.agg #[O.v b,O.v c]=.agg #[O.v U,O.v T]/\eK (bP t C) U T N rs/\yK N rs False 95/\J w C) (r:=P.length) (f:=w) (b:=t) iQ.mono be be hS ⟨V,ah _ aL⟩ u2 s3 aK aO V x5 B0 g0 (λ_ q=>q.params.length<=3/\q.cO.length<=3/\WB N P.length False q.params.length q.body/\q.body.w<=95) (λb s l' m' h1 h2 c f j=>⟨b,s,l',rfl,⟨h1,h2,ht,V⟩,⟨V,λq hq=>by obtain⟨p,l⟩:=List.mem_iff_getElem?.1 hq;rw[c];exact f p q l⟩,j⟩) λab C y l' aI μ aN aW xM az al aU=>?_
 let⟨q,hq⟩:=cK P ab aN;let⟨aR,aX⟩:=aa.Dq q (au hq);have aP:q.1.params.length<=3:=(xk _ (aa.gp.dx q.1 (List.mem_map.2 ⟨q,au hq,rfl⟩))).1;have X:=u2.trans xM;obtain⟨cs,⟨ao,aH,rfl,ha,hk⟩,hr⟩:=hp.iF ab q hq;have aE:=ha.len;refine⟨V,V,_,X.af (hr 0 _ rfl),_,X.af (hr 1 _ rfl),_,X.af (hr 2 _ rfl),_,X.af (hr 3 _ rfl),_,X.af (hr 4 _ rfl),?_⟩;intro m7 l;have hy:=az.bh;have aV:=al.lt;have zM:=xM.size;obtain⟨x8,-,s8⟩:=kJ (M:=C) (d:=m7) (c:=l) rfl rfl rfl;clear_value l;have W:∀d∈[C.size,h.size,w.size],d<l.size:=λd g=>by
  rcases List.mem_cons.1 g with e|e
  .omega
  .have:=ah d e;omega
 have w8:=X.trans x8;have ac:∀{s:E},l.size<=s.size->∀d∈y.D::k.size::h.size::t,d<s.size:=λaA d g=>by
  simp only[aS]at g;rcases g with e|e|e|e
  .omega
  .omega
  .have:=aD d (by simp[e]);omega
  .have:=aD d (by simp[e]);omega
 have hm:=u2.size;have aG:∀{s:E},J l s->∀{an:Value->E->Prop},(∀H F f,ar f H F->F.length=q.1.params.length->(∀b∈F,0<=b/\b<(q.1.params.length:Int))->J s f->an (O.v H) f)->aM cq 203 [vi 0,vi (ao.len:Int)] s an:=λ{s} x an hk'=>by
  rw[aE];exact(mg (S:=[]) (d:=s) aL 0 q.1.params.length V).mono λax f⟨H,F,e,gn,qn,xn⟩=>by
   subst e;exact hk' H F f ((GI.done gn aL V).le (bG _ _)) qn.2 (λb hy=>oh (qn.1 b hy)) xn
 have gJ:∀{s:E}{ay:List Nat}{H:O}{F:List Int},(∀d∈ay,d<s.size)->J l s->ar s H F->F.length=q.1.params.length->(∀b∈F,0<=b/\b<(q.1.params.length:Int))->nG 249 [.agg #[O.v U,O.v ak],.agg #[vi q.2.op,vi q.2.bQ,O.v aH],O.v H,vi (ao.len:Int)] s ay λI=>WB N P.length False q.1.params.length I/\I.w<=3*q.2.n:=λaJ x Y h1 h2=>by
  rw[aE];exact Dv (Uk q.2) _ _ q.1.params.length _ _ U ak aH aJ Y h2 (by rw[h1];exact aR) V V (hd.le (w8.trans x).le) ht (fF.le (w8.trans x).le hk)
 have G:∀{v f:E}{I Z:Nat},l.size<=v.size->J v f->I<l.size->af f I Z=af v I Z:=λaA x hb=>gl x V _;have j:C.size<l.size:=V;have K:w.size<l.size:=W _ aL;refine⟨λI s=>∃p D,I.2=0/\l.size<=I.1/\cw s I.1 di [.s p,.i D.aT]/\eN (bP (y.D::k.size::h.size::t) s) p D.ap/\(WB N P.length False q.1.params.length D/\D.w<=3*q.2.n)/\J l s,⟨?_,?_⟩,?_⟩
 .refine aG (J.aA l) λH F B Y ae aj b=>⟨b.dv W,H,rfl,G (ad _) b j,G (ad _) b j,G (ad _) b j,G (ad _) b K,G (ad _) b K,?_,?_⟩;all_goals have u:=b.size
  .refine(gJ (ay:=y.D::k.size::h.size::t) (ac u) b Y ae aj).mono λax A⟨p,D,e,aw,aQ,c⟩=>⟨c.dv λd g=>b.lt (W d g),p,_,e,?_⟩;have vQ:=c.size;intro Q;have z:J A Q:=J.push _ _;refine⟨G V z j,G V z j,G V z j,G V z K,G V z K,?_⟩;intro aq;let⟨am,ap,a0⟩:=kJ (M:=A) (d:=Q) (c:=aq) rfl rfl rfl;exact⟨p,D,rfl,by show l.size<=A.size;omega,ap,eN.le (am.dg _) aw,aQ,(b.trans c).trans am⟩
  .intro A;have c:J B A:=J.push _ _;have am:cw A B.size di [.s .nil,.i 0]:=cw.push _ _ _;have vQ:=c.size;clear_value A;refine⟨G u c j,G u c j,G u c j,G u c K,G u c K,?_⟩;refine(gJ (ay:=B.size::y.D::k.size::h.size::t) (bT (ac u) vQ am.lt) (b.trans c) (Y.ext c) ae aj).mono λax Q⟨p,D,e,ap,aw,z⟩=>⟨z.dv λd g=>?_,p,_,e,?_⟩
   .rcases List.mem_cons.1 g with e|e
    .rw[e];exact am.lt
    .have:=W d e;omega
   intro aq;exact⟨p,D,rfl,u,cw.ag (m:=Q) (o:=0) (r:=[.s p,.i D.aT]) (am.ext z),eN.le (cB aL λd g=>ai _ g) ap,aw,((b.trans c).trans z).ag u _ _⟩
 .intro B;have b:J l B:=J.push _ _;have B9:cw B l.size di [.s .nil,.i 0]:=cw.push _ _ _;have u:=b.size;clear_value B;refine⟨G (ad _) b j,G (ad _) b j,G (ad _) b j,G (ad _) b K,G (ad _) b K,?_⟩;have sm:∀{v f:E},B.size<=v.size->J v f->dY [l.size,C.size,h.size,w.size] v f:=λaA x=>x.dv λd g=>by
   rcases List.mem_cons.1 g with e|e
   .have:=B9.lt;omega
   .have:=W d e;omega
  refine aG b λH F A Y ae aj c=>⟨sm (ad _) c,H,rfl,G u c j,G u c j,G u c j,G u c K,G u c K,?_⟩;have vQ:=c.size;refine(gJ (ay:=l.size::y.D::k.size::h.size::t) (bT (ac (s:=A) V) (ad _) (oh B9.lt)) (b.trans c) Y ae aj).mono λax Q⟨p,D,e,ap,aw,z⟩=>⟨sm vQ z,p,_,e,?_⟩;intro aq;exact⟨p,D,rfl,ad _,cw.ag (m:=Q) (o:=0) (r:=[.s p,.i D.aT]) ((B9.ext c).ext z),eN.le (cB aL λd g=>ai _ g) ap,aw,((b.trans c).trans z).ag (ad _) _ _⟩
 rintro⟨kb,Z⟩ v ⟨p,D,ho,aw,BB,aQ,ap,x1⟩;simp only at ho aw BB;subst ho;have bl:=BB.lt;have z1:=x1.size;have X1:=x8.trans x1;refine⟨y,(al.ext X1).bU 1,_,BB.bU 0,_,BB.bU 1,?_⟩;have ae:k.size<l.size:=V;have iy:∀{f:E}{Q b':O},J v f->ar (bP (y.D::k.size::h.size::t) f) Q q.1.params->ar (bP (y.D::k.size::h.size::t) f) b' []->af (f.push (.cells (bA [.s Q,.s b',.i q.1.aT,.s p,.i D.aT]) jQ)) k.size 1=af f k.size 1/\
  jM (f.push (.cells (bA [.s Q,.s b',.i q.1.aT,.s p,.i D.aT]) jQ)) jQ [.s .nil,.s .nil,.i 0,.s .nil,.i 0] 88 y (O.mk f.size 0 1 1) λT z=>dY [C.size,h.size,w.size] (f.push (.cells (bA [.s Q,.s b',.i q.1.aT,.s p,.i D.aT]) jQ)) z/\eC z k.size 1 1/\(dY [C.size,h.size,w.size] z (ag z k.size 1 [.s T])/\(aI (cR ((ab:Int)+1)) (ag z k.size 1 [.s T])/\μ (cR ((ab:Int)+1)) (ag z k.size 1 [.s T])<μ ab C)):=λL h1 h2=>
  Gr.box (g:=[.s .nil,.s .nil,.i 0,.s .nil,.i 0]) (j:=1) (y:=88) (i:=[.s dd,.s y]) (w:=⟨q.1.params,[],q.1.aT,D⟩) iQ.mono be ((az.ext iQ.mono X1).ext iQ.mono L) (((xM.trans X1).trans L).fz []) ⟨_,_,p,rfl,h1,h2,eN.le (L.dg _) aQ⟩ V ((al.ext X1).ext L) aL be ⟨V,aL⟩ (λd g=>⟨by have:=W d g;have:=L.size;omega,by
   rcases List.mem_cons.1 g with e|e
   .omega
   .have:=ah d e;omega,by
   rcases List.mem_cons.1 g with e|e
   .omega
   .have:=ah d e;omega⟩) λT m' g' B' f' z' q'=>aU T m' ⟨q.1.params,[],q.1.aT,D⟩ g' B' f'.ext ⟨aP,aL,ap.1,by have:=ap.2;show D.w<=95;omega⟩
 have am:∀{f:E},J v f->ar f ao q.1.params:=λx=>ha.ext ((X.trans X1).trans x);have aj:∀{f:E},J v f->∀d∈y.D::k.size::h.size::t,d<f.size:=λx=>ac (oh x.size);have g1:∀{f z:E}{Z:Nat},J v f->J f z->af z kb Z=af f kb Z:=λx x'=>gl x' (oh x.size) _;have aq:∀{f z:E},J v f->J f z->dY [C.size,h.size,w.size] f z:=λx x'=>x'.dv λd g=>by have:=W d g;have:=x.size;omega
 refine⟨?_,?_⟩
 .refine(bR (y.D::k.size::h.size::t) (am (J.aA _)) V).mono λ_ B⟨Q,la,e,ga,ea,b⟩=>⟨aq (J.aA _) b,Q,e,g1 (J.aA _) b,g1 (J.aA _) b,G z1 b j,G z1 b ae,?_⟩;subst ea;have u:=b.size;intro A;have c:J B A:=J.push _ _;refine⟨g1 b c,g1 b c,G V c j,G V c j,G V c ae,?_⟩;exact iy (b.trans c) ((GI.done ga (aj (J.aA _)) V).le (c.dg _)) (mK _ _ _ _ _ _)
 .intro B;have b:J v B:=J.push _ _;have u:=b.size;refine⟨g1 (J.aA _) b,g1 (J.aA _) b,G z1 b j,G z1 b j,G z1 b ae,?_⟩;refine(bR (y.D::k.size::h.size::t) (am b) V).mono λ_ A⟨Q,la,e,ga,ea,c⟩=>⟨aq b c,Q,e,g1 b c,g1 b c,G V c j,G V c ae,?_⟩;subst ea;exact iy (b.trans c) (GI.done ga (aj b) V) (mK _ _ _ _ _ _)
section
variable{L:List Nat}{K:Int->E->Prop}{v:Int}
def DL(P:Nat->Prop)(l b:List Instr)(n:Nat):Prop:=∃a,b=l++a/\(∀(i:Nat)(x:Instr),a[i]? =some x->Pu (l.length+i) x\/P (l.length+i)/\x.op=22)/\QP a/\a.length<=n
section
variable{P c:Nat->Prop}{l a e:List Instr}{n b k:Nat}{x:Instr}
def mU.w(h:mU l a n):DL P l a n:=let⟨g,b,c,d,e⟩:=h;⟨g,b,λi x f=>Or.inl (c i x f),d,e⟩
def DL.YO(h:DL P l a n)(f:∀q,¬P q)(m:n<=b):mU l a b:=let⟨j,c,d,e,k⟩:=h;⟨j,c,λi x g=>(d i x g).resolve_right λh=>f _ h.1,e,V⟩
def DL.imp(h:DL P l a n)(g:∀q,P q->c q)(o:n<=b):DL c l a b:=let⟨k,d,e,f,m⟩:=h;⟨k,d,λj x i=>(e j x i).imp id λh=>⟨g _ h.1,h.2⟩,f,V⟩
def DL.len(h:DL P l a n):l.length<=a.length/\a.length<=l.length+n:=by obtain⟨b,rfl,-,-,d⟩:=h;simp;omega
def DL.then(o:DL P l a n)(p:mU a e b):DL P l e (n+b):=by
 obtain⟨d,rfl,g,j,s⟩:=o;obtain⟨r,rfl,h,k,t⟩:=p;refine⟨d++r,aL,λi x c=>?_,λx q=>(List.mem_append.1 q).elim (j x) (k x),bJ⟩;rcases aZ i d.length with f|f
 .rw[ax f]at c;exact g i x c
 .rw[aF f]at c;have:=h _ x c;have m:(l++d).length+(i -d.length)=l.length+i:=bJ;rw[m]at this;exact Or.inl this
def DL.MX(h:DL P l a n)(j:P a.length):DL P l (a++[⟨22,0,0,0,[],[]⟩]) (n+1):=by
 obtain⟨c,rfl,e,f,m⟩:=h;refine⟨c++[⟨22,0,0,0,[],[]⟩],aL,λi x b=>?_,λx k=>?_,bJ⟩
 .rcases aZ i c.length with d|d
  .rw[ax d]at b;exact e i x b
  .rw[aF d]at b;have:i -c.length=0:=by have:=az b;simp at this;omega
   rw[this]at b;simp at b;subst b;have g:i=c.length:=V;subst g;exact Or.inr ⟨by simpa using j,rfl⟩
 .rcases List.mem_append.1 k with h|h
  .exact f x h
  .simp at h;subst h;simp
def DL.set(h:DL P l a n)(g:l.length<=k)(m:Pu k x)(j:x.args.length<=10^12/\x.eG.length<=10^12):DL (λq=>P q/\q≠k) l (a.set k x) n:=by
 obtain⟨p,rfl,c,e,d⟩:=h;refine⟨p.set (k -l.length) x,by rw[Yl _ _ g],λi y b=>?_,λy o=>?_,bJ⟩
 .rw[jE]at b;split at b
  .rename_i q;have f:l.length+i=k:=V;split at b
   .simp at b;subst b;rw[f];exact Or.inl m
   .simp at b
  .exact(c i y b).imp id λh=>⟨⟨h.1,V⟩,h.2⟩
 .rcases dp o with h|h
  .exact e y h
  .rw[h];exact j
def DL.Z8(h:DL P l a n)(d:l.length<=k)(c:a[k]? =some x):DL (λq=>P q/\q≠k) l (a.set k ⟨x.op,0,a.length,0,x.args,x.eG⟩) n:=by
 have m:=az c;have g:=h;obtain⟨i,rfl,e,f,j⟩:=h;rw[aF d]at c;have b:=e _ x c;rw[show l.length+(k -l.length)=k by omega]at b;refine g.set d ⟨λ_=>by show(k:Int)<((l++i).length:Nat);omega,λh=>?_⟩ (f x (au c));simp only at h;rcases b with b|b
 .exact b.arg h
 .omega
end
section
variable{S:List Nat}{e m a:E}{b:Nat}{s c:O}{l d:List Instr}
def Fs.re{S' Y:List Nat}(h:Fs S e m b s l)(i:Fz Y m a)(f:∀c∈Y,c∈S/\c≠b/\c≠s.D)(j:∀c∈S',c∈S\/m.size<=c):Fs S' e a b s l:=
 ⟨h.box.congr (i.same _ h.box.lt λg=>(f _ g).2.1 rfl),h.gr.re dT.mono i (λc d=>ai _ (f c d).1) (λg=>(f _ g).2.2 rfl) λc d=>(List.mem_cons.1 d).elim (λg=>Or.inl (by rw[g];exact aX)) λd=>(j c d).imp (ai _) id,h.up⟩
def H9(k:Fs S e m b s l)(z:J e m)(w:∀h∈S,h<m.size)(n:l.length<=10^12)(u:∀f∈L,f<m.size/\f≠b/\f≠s.D){o i bQ:Int}(y:∀c d a,Fs S e a b c d->d=l++[⟨o,i,bQ,0,[v],[]⟩]->Fz [b,s.D] m a->(c.D=s.D\/m.size<=c.D)->K (l.length:Nat) a):
 aM cq 205 [vp b 0,.agg #[vi o,vi i,vi bQ,vi 0,O.v (.mk m.size 0 1 1),O.v .nil]] (m.push (.cells (bA [.i v]) aD)) λr a=>dY L (m.push (.cells (bA [.i v]) aD)) a/\∃q:Int,r=vi q/\K q a:=by
 have g:=J.push m (.cells (bA [.i v]) aD)
 have D:=k.gr.bh;have C:=k.box.lt
 have A:ar (bP (s.D::b::S) (m.push (.cells (bA [.i v]) aD))) (.mk m.size 0 1 1) [v]:=ar.lit aD _ (by
  intro h p;simp only[aS]at p;rcases p with j|j|j
  .omega
  .omega
  .exact w h j) rfl rfl aL
 refine(qN (x:=⟨o,i,bQ,0,[v],[]⟩) (k.ext g) (z.trans g).size A (tG _) n).mono λr a⟨p,c,d,t,j,h,B⟩=>⟨Ps.dv h λf n=>?_,_,p,?_⟩
 .have:=u f n;exact⟨g.lt this.1,this.2⟩
 exact y c d a t j.symm (((g.fz [b,s.D])).trans h) (oh g.size)
def Ug(j:Fs S e m b s l)(t:J e m)(p:l.length<=10^12)(o:∀f∈L,f<m.size/\f≠b/\f≠s.D)(q:∀c d a,Fs S e a b c d->d=l++[⟨22,0,0,0,[],[]⟩]->Fz [b,s.D] m a->(c.D=s.D\/m.size<=c.D)->K (l.length:Nat) a):
 aM cq 205 [vp b 0,.agg #[vi 22,vi 0,vi 0,vi 0,O.v .nil,O.v .nil]] m λr a=>dY L m a/\∃n:Int,r=vi n/\K n a:=
 (qN (x:=⟨22,0,0,0,[],[]⟩) j t.size (tG _) (tG _) p).mono λr a⟨i,c,d,k,h,f,g⟩=>⟨Ps.dv f o,_,i,q c d a k h.symm f g⟩
def TH{K:E->Prop}{k:Nat}{x:Instr}(i:Fs S e m b s l)(q:J e m)(p:l[k]? =some x)(n:∀f∈L,f<m.size/\f≠b/\f≠s.D)(o:∀c d a,Fs S e a b c d->d=l.set k ⟨x.op,0,l.length,0,x.args,x.eG⟩->Fz [b,s.D] m a->(c.D=s.D\/m.size<=c.D)->K a):
 aM cq 234 [vp b 0,vi k] m λ_ a=>dY L m a/\K a:=
 (Rw i q.size p).mono λr a⟨c,d,j,h,f,g⟩=>⟨Ps.dv f n,o c d a j h.symm f g⟩
end
def Rl{l:List Instr}{d:Int}:mU l (l++[⟨18,d,0,0,[v],[]⟩]) 1:=mU.kX ⟨sx,λ_=>aL⟩ aL
end
section
variable{b:List gP}
def LZ{D:List bz}{h:cV}(co:h.op=7\/h.op=8)(ih:∀c∈h.bE,Xn D b c):Ys D b h:=by
 intro B G F d s z cons first cl fl a4 ba aH ah i ap cv cG r ha hk
 apply uy (d,0);simp -zeta only[aC,aB];intro ax ac;let⟨x2,hl⟩:=dP (a:=ax) (c:=ac) rfl rfl;have s1:ax.size=F.size+1:=by simp[ax]
 have s2:ac.size=F.size+2:=by simp[ac,s1]
 clear_value ac;have cz:=i.em.box.lt;have cS:=i.em.gr.bh;have cR:=cV.mz h;have cp:=ha.len;have cE:=hk.len;have cD:=qC h.bE;have cL:=ap.fe.kX V;have cw:=i.cons.len;have cI:=i.x.size;have dg:∀{f:E}{g:O},Fz [d,s.D] F f->(g.D=s.D\/F.size<=g.D)->Le (bP [s.D,d] F) (bP [g.D,d] f):=Q0;have st:∀{a0:List Nat}{f:E}{g:O}{L:List Instr},Fs a0 G f d g L->Fz [d,s.D] F f->(g.D=s.D\/F.size<=g.D)->(∀m∈a0,m<f.size)->Sx a0 G f d g L cons first cl fl:=λv I e hS=>⟨v,i.em.gJ i.x I,hS,i.cons.le (dg I e),i.first.le (dg I e),i.same,i.kU⟩
 have LL:∀{f:E}{g:O},ac.size<=f.size->(g.D=s.D\/ac.size<=g.D)->∀c∈[ax.size,F.size],c<f.size/\c≠d/\c≠g.D:=λhz e c a6=>by simp at a6;omega
 have fr:∀{f p:E}{g:O},Fz [d,s.D] F f->(g.D=s.D\/ac.size<=g.D)->Fz [d,g.D] f p->Fz [d,s.D] F p:=λI e aa=>I.sF aa λA o=>by simp at o⊢;omega
 have gJ:∀{f:E},F.size<=f.size->∀m∈B,m<f.size:=λj m hc=>by have:=i.gJ m hc;omega
 have aG:∀{w:Nat}{c:Bk}{f:E},h.bE[w]? =some c->J G f->∃K,eN G K c.ap/\af f ah.D (ah.off+w*2)=some (O.v K)/\af f ah.D (ah.off+w*2+1)=some (vi c.aT):=λe bf=>let⟨K,h1,h2,h3⟩:=hk.aG e;⟨K,h1,bf.af h2,bf.af h3⟩;refine⟨λh7=>?_,λh7=>?_⟩
 .simp only[aE]at h7;have aO:=ap.fe.Km h7;let⟨C,P⟩:=cK h.bE 0;let⟨b1,R⟩:=cK h.bE 1;have bS:bw h.bE=C.w+b1.w:=by
   obtain⟨u,y,l⟩:∃u y,h.bE=[u,y]:=by
    match h.bE,aO with
    |[u,y],_=>exact⟨u,y,rfl⟩
   rw[l]at P R⊢;simp at P R;subst P R;simp[bw]
  have w0:=C.Hm;have w1:=b1.Hm;have ab:∀w,BR D h.op h.bQ w=0:=λw=>KL V;have E2:=i.ext x2;refine(bR (s.D::d::B) (ha.ext E2.x) V).mono λy N⟨a',la,l,ga,ea,x3⟩=>⟨x3.dv hl,a',l,?_⟩;subst ea;have z3:=x3.size;have aQ:∀m∈s.D::d::B,m<ac.size:=bT (bT (gJ (f:=ac) V) V V) (ad _) V;refine(qN (x:=⟨20,0,0,0,h.args,[]⟩) (E2.em.ext x3) (E2.x.trans x3).size (GI.done ga aQ (by show h.args.length<=_;omega)) (tG _) V).mono λy m4⟨ev,s4,l4,ao,p4,f4,b4⟩=>⟨Ps.dv f4 (LL z3 (Or.inl rfl)),_,ev,?_⟩;subst p4;have z4:=f4.size;have F4:Fz [d,s.D] F m4:=((x2.trans x3).fz _).trans f4;have w4:DL (λ_=>False) z (z++[⟨20,0,0,0,h.args,[]⟩]) 1:=(mU.kX ⟨sx,sx⟩ ⟨by show h.args.length<=_;omega,aL⟩).w;let⟨t0,aR,g0,g1⟩:=aG P (i.em.gJ i.x F4);refine⟨be,V,_,g0,_,g1,?_⟩;have ae:=ap.bE 0 C P;rw[ab]at ae;have aV:=w4.len;refine(ih C (au P) B G m4 d s4 _ cons first cl fl a4 ba t0 (st ao F4 V (gJ V)) (by simpa using ae) V V r aR).mono λy t⟨s5,l5,a5,p5,f5,b5⟩=>⟨Ps.dv f5 (LL V V),?_⟩;have F5:=fr F4 V f5;have z5:=f5.size;have w5:=w4.then p5;have X5:=i.em.gJ i.x F5;obtain⟨_,-,-,g5⟩:=aG P X5;refine⟨be,V,_,g5,?_⟩;have aW:=w5.len;refine H9 a5 X5 (gJ V) V (LL V V) λs6 Q Z av e6 f6 b6=>?_;have F6:=fr F5 V f6;have z6:=f6.size;have w6:DL (λ_=>False) z Q (1+6*(C.w -1)+1):=e6▸w5.then Rl;have aX:=w6.len;have a7:Q.length=l5.length+1:=by rw[e6];simp
  have X6:=i.em.gJ i.x F6;refine Ug av X6 V (LL V V) λs7 l7 m7 ay e7 f7 b7=>?_;have F7:=fr F6 V f7;have z7:=f7.size;have w7:DL (λq=>q=Q.length) z l7 (1+6*(C.w -1)+1+1):=e7▸(w6.imp (λ_ j=>j.elim) (ad _)).MX rfl;have a8:l7.length=Q.length+1:=by rw[e7];simp
  let⟨H,al⟩:=cK l7 z.length;refine TH ay (i.em.gJ i.x F7) al (LL V V) λs8 l8 U aF e8 f8 b8=>?_;have w8:DL (λq=>q=Q.length) z l8 (1+6*(C.w -1)+1+1):=e8▸(w7.Z8 (ad _) al).imp (λ_ j=>j.1) (ad _);have a9:l8.length=l7.length:=by rw[e8];simp
  have T:=fr F7 V f8;have z8:=f8.size;let⟨t1,aU,k0,k1⟩:=aG R (i.em.gJ i.x T);refine⟨be,V,_,k0,_,k1,?_⟩;have ag:=ap.bE 1 b1 R;rw[ab]at ag;have aZ:=w8.len;refine(ih b1 (au R) B G U d s8 l8 cons first cl fl a4 ba t1 (st aF T V (gJ V)) (by simpa using ag) V V r aU).mono λy m9⟨s9,l9,aK,p9,W,b9⟩=>⟨Ps.dv W (LL V V),?_⟩;have F9:=fr T V W;have z9:=W.size;have w9:=w8.then p9;have X9:=i.em.gJ i.x F9;obtain⟨_,-,-,g9⟩:=aG R X9;refine⟨be,V,_,g9,?_⟩;have bY:=w9.len;have a_:l8.length<=l9.length:=by obtain⟨nw,l,-⟩:=p9;rw[l];simp
  refine H9 aK X9 (gJ V) V (LL V V) λbr Y bb am aI aA bB=>?_;have aN:DL (λq=>q=Q.length) z Y (1+6*(C.w -1)+1+1+6*(b1.w -1)+1):=aI▸w9.then Rl;have az:=fr F9 V aA;have vQ:=aA.size;have b0:Y.length=l9.length+1:=by rw[aI];simp
  let⟨bd,aj⟩:=cK Y Q.length;refine TH am (i.em.gJ i.x az) aj (LL V V) λaY aM bc an aT aJ bC=>?_;exact⟨aY,aM,an,aT▸(aN.Z8 V aj).YO (λq j=>j.2 j.1) V,fr az V aJ,V⟩
 .simp only[ak]at h7;have h8:h.op=8:=V;let⟨cC,cB⟩:=ap.fe.all h8;let⟨A,bn⟩:=cK h.args 0;let⟨y0,y1⟩:=ap.fe.args A (au bn);obtain⟨yn,rfl⟩:∃b8:Nat,A=b8:=⟨A.toNat,V⟩;have E2:=i.ext x2;refine⟨be,V,yn,(ha.ext E2.x).aG bn,?_⟩;have b7:∀m∈[s.D,d],m<ac.size:=λm hc=>by simp at hc;omega
  refine(ic (e:=[s.D,d]) b7 (r.bn.le E2.x.le) r.types h.bQ).mono λy N⟨aR,ch,ec,hc,qc,x3⟩=>⟨x3.dv hl,aR,ec,?_⟩;subst qc;have cy:=hc.len;have z3:=x3.size;intro m4;refine H9 (E2.em.ext x3) (E2.x.trans x3) (gJ V) V (LL z3 (Or.inl rfl)) λs5 l5 t a5 e5 f5 b5=>?_;have z5:=f5.size;have w5:DL (λ_=>False) z l5 1:=e5▸(mU.kX ⟨sx,sx⟩ ⟨aL,aL⟩).w;have cY:l5.length=z.length+1:=by rw[e5];simp
  intro Z m7;have x6:J t Z:=J.push _ _;have x7:J Z m7:=J.push _ _;have s6:Z.size=t.size+1:=by simp[Z]
  have s7:m7.size=Z.size+1:=by simp[m7]
  have bN:GI [] t m7 (.mk t.size 0 0 0) []:=(GI.nil [] t).ext x7;have bL:GI [] t m7 (.mk Z.size 0 0 0) []:=GI.cv (GI.nil [] Z) (λ_ j=>j) x6.size;clear_value m7 Z;have bg:=x6.trans x7;have aF:∀{f p:E}{g:O},Fz [d,s.D] N f->(g.D=s.D\/N.size<=g.D)->Fz [d,g.D] f p->Fz [d,s.D] N p:=λI e aa=>I.sF aa λA o=>by simp at o⊢;omega
  have F0:Fz [d,s.D] F N:=(x2.trans x3).fz _;have bh:∀{f:E}{g:O}{w:Nat}{m:Int},Fz [d,s.D] N f->(g.D=s.D\/N.size<=g.D)->(cx D h.bQ)[w]? =some m->af f aR.D (aR.off+w*1)=some (vi m):=λ{f g w m} I e j=>(eF.1 ((hc.le (pP (c:=[g.D,d]) (a:=f) λc a6 r=>by
   simp at r;exact⟨by simp;rcases e with l|l<;>omega,I.same c a6 bJ⟩)).aG j)).2
  have bt:∀{f:E},t.size<=f.size->Fz (List.range t.size) t f:=λj=>⟨j,λc e r=>absurd (List.mem_range.2 e) r⟩;have aj:∀{f p:E}{u:O}{ul:List Int}{aQ:List Nat},GI [] t f u ul->Fz aQ f p->u.D∉aQ->GI [] t p u ul:=λ{f p u ul aQ} aa I j=>GI.any ((GI.any (e:=aQ) aa).NJ um.mono I (λ_ j=>j) j);have o7:Fs (t.size::Z.size::B) G m7 d s5 l5:=a5.re (bg.fz []) aL λc e=>by
   simp only[aS]at e;rcases e with l|l|l
   .exact Or.inr V
   .exact Or.inr V
   .exact Or.inl l
  refine xw (n:=(cx D h.bQ).length) V (λah K en f=>∃g L tl C,Fs (K.D::en.D::B) G f d g L/\DL (λq=>(q:Int)∈C) z L (1+6*bw (h.bE.take ah))/\GI [] t f K tl/\tl.length=ah/\GI [] t f en C/\C.length<=ah/\(∀A∈C,∃q:Nat,A=q/\z.length<q/\q<L.length)/\K.D≠en.D/\Fz [d,s.D] N f/\(g.D=s.D\/N.size<=g.D)/\m7.size<=f.size/\z.length<L.length)
   ⟨s5,l5,[],[],o7,w5.imp (λ_ j=>j.elim) aL,bN,rfl,bL,ad _,aL,by show t.size≠Z.size;omega,f5.then bg,V,ad _,V⟩ ?_
  rintro T K en f ce μ hj ⟨g,L,tl,C,v,bc,gt,cN,ge,cA,a8,cJ,I,e,zM,cH⟩ bo
  have bv:=F0.trans I;have XM:=i.em.gJ i.x bv;have ty:=gt.bh;have ey:=ge.bh;have t1:K.D≠d:=gt.ne v.box be;have t2:K.D≠g.D:=gt.Lu v.gr be;have n1:en.D≠d:=ge.ne v.box be;have n2:en.D≠g.D:=ge.Lu v.gr be;have cM:=v.gr.len be;have cQ:=bc.len;have bS:=KN h.bE T;have oy:=v.gr.bh;have c1:=v.box.lt;refine dit (λj=>?_) λj=>?_
  .let⟨m,a7⟩:=cK (cx D h.bQ) T;let⟨c,aK⟩:=cK h.bE T;have ct:=uL aK;have cu:=KN h.bE (T+1);have cr:=c.Hm;have bl:BR D h.op h.bQ T=(cF D m).length:=KK h8 a7;have cq:=QU r.types h.op h.bQ T;refine⟨g,v.box.bU 0,?_⟩;intro U;refine GI.kL gt (bt V) aL V λt' M1 aU cj z1 q1=>?_;have fa:Fz [K.D] f M1:=⟨z1.1,λc e r=>q1 c e (by simpa using r)⟩;refine⟨λc e=>by
    simp at e;rw[q1 c V V,(J.push f _).same c V],?_⟩
   have f1:Fz [d,s.D] N M1:=I.sF fa λA o=>by simp at o⊢;omega
   have bK:=aj ge fa bJ;have o1:Fs (t'.D::en.D::B) G M1 d g L:=v.re fa (by simp;exact⟨t1,t2⟩) λc e=>by
    rcases List.mem_cons.1 e with l|l
    .rcases z1.2 with e'|e'
     .exact Or.inl (by rw[l,e'];simp)
     .exact Or.inr V
    .exact Or.inl (ai _ l)
   have cc:=aU.bh;refine⟨V,V,m,bh f1 e a7,?_⟩;have X1:=i.em.gJ i.x (F0.trans f1);refine(dN (e:=[]) aL (r.bn.le (X1.le.trans (Al _))) r.types m).mono λy M2⟨ff,cn,ef,hf,qf,aO⟩=>⟨aO.dv λc e=>by simp at e;omega,ff,ef,?_⟩;subst qf;have bU:=hf.len;have z2:=aO.size;have f2:=f1.then aO;refine fm (n:=(cF D m).length) V (λw p=>∃ay av,Fs (t'.D::en.D::B) G p d ay av/\DL (λq=>(q:Int)∈C) z av (1+6*bw (h.bE.take T)+w)/\Fz [d,g.D] M2 p/\(ay.D=g.D\/M2.size<=ay.D)/\L.length<=av.length) ⟨g,L,o1.ext aO,bc,Fz.aA _ _,Or.inl rfl,ad _⟩ ?_;rintro w M3 I3 μ3 hi ⟨ae,l3,o3,w3,f3,b3,cU⟩ b_;have c4:=f3.size;have F3:=aF f2 e f3;have aV:ae.D=s.D\/N.size<=ae.D:=V;have cP:=w3.len;have X3:=i.em.gJ i.x (F0.trans F3);have LM:∀{p:E}{u:O},M3.size<=p.size->(u.D=s.D\/N.size<=u.D)->∀c∈[ax.size,F.size],c<p.size/\c≠d/\c≠u.D:=λhz e=>LL V V;have aW:∀{p:E},M3.size<=p.size->∀m∈t'.D::en.D::B,m<p.size:=λj=>bT (bT (gJ (f:=M3) V) (ad _) V) j V;refine⟨λa9=>?_,λa9=>?_⟩
   .simp only[aq]at a9;intro m9;refine H9 o3 X3 (aW (ad _)) V (LM (ad _) aV) λs4 l4 M4 o4 e4 f4 b4=>b_ V _ ⟨s4,l4,o4,?_,f3.sF f4 λA o=>by simp at o⊢;omega,V,by rw[e4];simp;omega⟩;rw[e4];exact w3.then (mU.kX ⟨sx,sx⟩ ⟨aL,aL⟩)
   simp only[bD]at a9;have a_:w=(cF D m).length:=V;subst a_;have y3:=o3.gr.bh;have cf:=o3.box.lt;have ab:∀{p:E},M3.size<=p.size->∀m∈[ae.D,d],m<p.size:=λj m hc=>by simp at hc;omega
   rw[bU];refine(mg (S:=[ae.D,d]) (ab (ad _)) 0 (cF D m).length V).mono λy M4⟨s4,l4,e4,g4,q4,x4⟩=>⟨x4.dv λc e=>by simp at e;omega,s4,e4,?_⟩;have z4:=x4.size;have h4:=GI.done g4 (ab (ad _)) V;let⟨tk,bX,k0,k1⟩:=aG aK (X3.trans x4);have F4:=F3.then x4;have R:∀{u y:E},J M4 u->J u y->∀v,af y ax.size v=af u ax.size v/\af y F.size v=af u F.size v:=λaH c v=>⟨gl c (oh aH.size) v,gl c (oh aH.size) v⟩;refine⟨V,V,tk,k0,_,k1,V,V,m,bh F4 aV a7,?_⟩;have S4:=st o3 (F0.trans F3) V (aW (ad _));have cg:=S4.cons.len;have cm:=S4.first.len;have c2:=S4.same;refine(vg (S:=[ae.D,d]) (ab z4) (S4.cons.le (x4.dg _)) V (a:=yn) V m).mono λy M5⟨s5,cX,e5,g5,q5,P⟩=>⟨P.dv λc e=>by simp at e;omega,s5,e5,gx P k0,gx P k1,(R (J.aA _) P _).1,(R (J.aA _) P _).2,(R (J.aA _) P _).2,?_⟩;have z5:=P.size;have h5:=GI.done g5 (ab z4) (by rw[<-q5];simp;omega);refine(eM (S:=[ae.D,d]) (ab V) h5 (h4.le (P.dg _)) (by rw[<-q5];simp;omega)).mono λy M6⟨bb,Q,e6,g6,q6,al⟩=>⟨al.dv λc e=>by simp at e;omega,bb,e6,gx al (P.af k0),gx al (P.af k1),(R P al _).1,(R P al _).2,(R P al _).2,?_⟩;have z6:=al.size;have an:=P.trans al;have h6:=GI.done g6 (ab V) (by rw[<-q6,<-q5];simp;omega);refine(vg (S:=[ae.D,d]) (ab V) (S4.first.le ((x4.trans an).dg _)) V (a:=yn) V cons.len).mono λy M7⟨ca,l7,e7,g7,q7,ag⟩=>⟨ag.dv λc e=>by simp at e;omega,ca,e7,gx ag (an.af k0),gx ag (an.af k1),(R an ag _).1,(R an ag _).2,(R an ag _).2,?_⟩;have z7:=ag.size;have ao:=an.trans ag;have bO:=GI.done g7 (ab V) (by rw[<-q7];simp;omega);refine(eM (S:=[ae.D,d]) (ab V) bO (h4.le (ao.dg _)) (by rw[<-q7];simp;omega)).mono λy M8⟨s8,l8,e8,g8,q8,H⟩=>⟨H.dv λc e=>by simp at e;omega,s8,e8,gx H (ao.af k0),gx H (ao.af k1),(R ao H _).1,(R ao H _).2,(R ao H _).2,?_⟩;have z8:=H.size;have bQ:=GI.done g8 (ab V) (by rw[<-q8,<-q7];simp;omega);have am:=(x4.trans ao).trans H;have bm:Q.length=cl.length+BR D h.op h.bQ T:=by rw[<-q6,<-q5,bl];simp;omega
   have bV:l8.length=Q.length:=by rw[<-q8,<-q7,bm,bl];simp;omega
   have ES:Sx (t'.D::en.D::B) G M8 d ae l3 bb s8 Q l8:=⟨o3.ext am,X3.trans am,aW am.size,h6.le ((ag.trans H).dg _),bQ,bV,λA o=>by
    rw[<-q8]at o;rcases List.mem_append.1 o with o|o
    .rw[<-q7]at o;rcases dp o with o|o
     .exact i.kU A o
     .omega
    .have:=q4.1 A o;omega⟩
   have bZ:WB D b.length True Q.length c:=by rw[bm];exact ap.bE T c aK
   refine(ih c (au aK) _ G M8 d ae l3 bb s8 Q l8 a4 ba tk ES bZ V V r bX).mono λy M9⟨s9,l9,o9,p9,W,b9⟩=>⟨Ps.dv W (LM (oh am.size) aV),?_⟩;have z9:=W.size;have c5:=am.size;have F9:=aF (F3.then am) aV W;have X9:=i.em.gJ i.x (F0.trans F9);have w9:=w3.then p9;have bY:=w9.len;have cW:l3.length<=l9.length:=by obtain⟨nw,l,-⟩:=p9;rw[l];simp
   obtain⟨_,-,-,g9⟩:=aG aK X9;refine⟨V,V,_,g9,?_⟩;refine H9 o9 X9 (aW V) V (LM V V) λbr Y bd aX aI aA bB=>?_;have vQ:=aA.size;have az:=aF F9 V aA;have aN:DL (λq=>(q:Int)∈C) z Y (1+6*bw (h.bE.take T)+(cF D m).length+6*(c.w -1)+1):=aI▸w9.then Rl;have b0:Y.length=l9.length+1:=by rw[aI];simp
   have cO:=aN.len;have kI:∀{u:O}{ul:List Int},GI [] t M1 u ul->u.D≠d->u.D≠g.D->u.D<M1.size->GI [] t bd u ul:=λ{u ul} aa a1 a2 a3=>by
    have g2:=aa.ext aO;have g3:=aj g2 f3 (by simp;exact⟨a1,a2⟩);have bF:=g3.ext am;have bH:=aj bF W (by simp;exact⟨a1,by rcases b3 with l|l<;>omega⟩);exact aj bH aA (by simp;exact⟨a1,by rcases b9 with l|l<;>omega⟩)
   have bs:t'.D≠d:=aU.ne o1.box be;have cb:t'.D≠g.D:=aU.Lu o1.gr be;have bk:=kI aU bs cb cc.2;have bi:=kI bK n1 n2 V;rw[aP (b:=(aR.len:Int) -1) V V];refine⟨λbW=>?_,λbW=>bo V _ _ _ ⟨br,Y,tl++[(g.len:Int)],C,aX,aN.imp (λ_ j=>j) V,bk,bJ,bi,V,λA o=>by obtain⟨q,l,h1,h2⟩:=a8 A o;exact⟨q,l,h1,V⟩,V,az,V,V,V⟩⟩;have c0:=aX.gr.bh;refine Ug aX (i.em.gJ i.x (F0.trans az)) V (LM V V) λaY aM aZ bp aT aJ bC=>?_;have c3:=aJ.size;have bx:=aF az V aJ;have cd:DL (λq=>(q:Int)∈C++[(Y.length:Int)]) z aM (1+6*bw (h.bE.take T)+(cF D m).length+6*(c.w -1)+1+1):=aT▸(aN.imp (λq j=>List.mem_append.2 (Or.inl j)) (ad _)).MX aL;have cT:aM.length=Y.length+1:=by rw[aT];simp
   have nx:∀{u:O}{ul:List Int},GI [] t bd u ul->u.D≠d->GI [] t aZ u ul:=λaa aH=>aj aa aJ (by simp;exact⟨aH,aa.Lu aX.gr be⟩);have bM:=nx bk bs;have bj:=nx bi n1;intro cZ;refine GI.kL bj (bt V) aL V λci bA bI ck bu bq=>?_;have fb:Fz [en.D] aZ bA:=⟨bu.1,λc e r=>bq c e (by simpa using r)⟩;have bE:en.D≠aY.D:=bj.Lu bp.gr be;refine⟨λc e=>by
    simp at e;rw[bq c V V,(J.push aZ _).same c V],bo V _ _ _ ⟨aY,aM,tl++[(g.len:Int)],C++[(Y.length:Int)],?_,cd.imp (λ_ j=>j) V,aj bM fb bJ,bJ,bI,bJ,λA o=>?_,V,bx.sF fb λA o=>by simp at o⊢;omega,V,V,V⟩⟩
   .exact bp.re fb (by simp;exact⟨n1,bE⟩) λc e=>by
     simp only[aS]at e⊢;rcases e with l|l|l
     .exact Or.inl (Or.inl l)
     .rcases bu.2 with e'|e'
      .exact Or.inl (Or.inr (Or.inl V))
      .exact Or.inr V
     .exact Or.inl (Or.inr (Or.inr l))
   .rcases List.mem_append.1 o with o|o
    .let⟨q,l,h1,h2⟩:=a8 A o;exact⟨q,l,h1,V⟩
    .simp at o;exact⟨Y.length,o,V,V⟩
  .have al:T=(cx D h.bQ).length:=V;subst al;refine⟨g,v.box.bU 0,?_⟩;intro U;have H:J f U:=J.push _ _;have ao:ar (bP (g.D::d::B) U) (.mk f.size 0 1 1) [(yn:Int)]:=ar.lit aD _ (bT (bT (gJ (f:=f) V) (ad _) V) (ad _) V) rfl rfl aL;have s8:U.size=f.size+1:=by simp[U]
   clear_value U;refine⟨gl H V _,gl H V _,V,V,?_⟩;have P:Fs B G U d g L:=(v.ext H).re (Fz.aA [] _) aL λc e=>Or.inl (ai _ (ai _ e));have az:K.D∉g.D::d::B:=by
    simp only[aS,ui];exact⟨t2,t1,λj=>oh (gJ (f:=F) (ad _) _ j)⟩
   have an:ar (bP (g.D::d::B) U) K tl:=(GI.any (e:=g.D::d::B) (gt.ext H)).nQ um.mono az be V;obtain⟨wr,gs,-,Y⟩:=P.gr.set dT.mono (X:=List.range G.size) ⟨V,λc e r=>absurd (List.mem_range.2 e) r⟩ (k:=z.length) V (a:=⟨21,0,h.bQ,0,[(yn:Int)],tl⟩) (cs:=[.i 21,.i 0,.i h.bQ,.i 0,.s (.mk f.size 0 1 1),.s K]) ⟨_,_,rfl,ao,an⟩;refine⟨wr,?_⟩;intro m9;have s9:m9.size=U.size:=aw _ _ _ _;have o9:Fs B G m9 d g (L.set z.length ⟨21,0,h.bQ,0,[(yn:Int)],tl⟩):=⟨P.box.congr (Y d (kH P.ne)),gs,P.up⟩;have W:Fz [d,g.D] f m9:=⟨V,λc e r=>by
    simp at r;have e1:m9[c]? =U[c]? :=Y c r.2;rw[e1,H.same c e]⟩
   have w9:=(bc.set (x:=⟨21,0,h.bQ,0,[(yn:Int)],tl⟩) (k:=z.length) (ad _) ⟨sx,sx⟩ ⟨aL,by show tl.length<=_;omega⟩).imp (c:=λq=>(q:Int)∈C) (λ_ j=>j.1) (ad _);refine⟨λc e=>Y c (by simp at e;omega),?_⟩;have aA:=ge.len be;refine fm (n:=C.length) V (λw p=>∃ay av,Fs B G p d ay av/\DL (λq=>(q:Int)∈C.drop w) z av (1+6*bw (h.bE.take (cx D h.bQ).length))/\av.length=L.length/\GI [] t p en C/\Fz [d,s.D] N p/\(ay.D=s.D\/N.size<=ay.D)/\m7.size<=p.size) ⟨g,_,o9,by simpa using w9,aL,aj ge W (by simp;exact⟨n1,n2⟩),aF I e W,e,V⟩ ?_;rintro w p I2 μ2 hi ⟨ay,l2,o2,w2,am,Q,f2,b2,z2⟩ av;refine dit (λj=>?_) λj=>?_
   .let⟨A,R⟩:=cK C w;obtain⟨q,rfl,aI,aJ⟩:=a8 A (au R);have ag:ar (bP [] p) en C:=(GI.any (e:=[]) Q).nQ um.mono aL be V;have ae:=ag.le (bG _ _);let⟨xq,ab⟩:=cK l2 q;refine⟨V,V,q,ae.aG R,?_⟩;refine TH o2 (i.em.gJ i.x (F0.trans f2)) ab (LL V V) λs4 l4 M4 o4 e4 f4 b4=>av V _ ⟨s4,l4,o4,?_,by rw[e4];simp;exact am,aj Q f4 (by simp;exact⟨n1,Q.Lu o2.gr be⟩),aF f2 b2 f4,oh f2.size,oh f4.size⟩;rw[e4];refine(w2.Z8 V ab).imp (λq' j=>?_) (ad _);let⟨h1,h2⟩:=j;rw[qy V]at h1;rcases List.mem_cons.1 h1 with l|l
    .have:C[w]=(q:Int):=by have:=List.getElem?_eq_some_iff.1 R;exact this.2
     rw[this]at l;exact absurd V h2
    .exact l
   .have a_:w=C.length:=V;subst a_;rw[List.drop_length]at w2;exact⟨ay,l2,o2,w2.YO aL V,F0.trans f2,V⟩
def Mf{c:List bz}:∀a:Bk,Xn c b a:=Bk.ind λap r f=>Me λx e h=>LZ h λa d=>f x e a d
end
def mU.cX{l:List Instr}{n:Nat}(h:mU [] l n):Sw l/\QP l/\l.length<=n:=by
 obtain⟨e,rfl,b,c,d⟩:=h;exact⟨λk x a=>by have:=b k x a;simpa using this,c,d⟩
def Mi{e:List Nat}{r:E}(hS:∀f∈e,f<r.size){B ag:O}{Z:List bz}{rs:List gP}(P:eK r B ag Z rs){al:Nat}(ay:yK Z rs True al)(hW:al<=120000000000):QO 162 [.agg #[O.v B,O.v ag]] r e Z DO:=by
 apply EH;simp -zeta only[aC,aB];have ht:=P.types;have hp:=P.iW;intro b a2;let⟨x2,hl⟩:=dP (a:=b) (c:=a2) rfl rfl;have s1:b.size=r.size+1:=by simp[b]
 clear_value a2;have aX:=hp.len;have bo:=P.oK;have bn:=ay.iY;refine(fS (b:=b.size::e) (bT hS x2.size (hl _ aL)) (P.bn.le x2.le) ht).mono λ_ ac⟨dd,g,aV,x3⟩=>?_;subst g;refine⟨x3.dv hl,_,rfl,?_⟩;intro j a3 aF;have u2:=x2.trans x3;let⟨x5,B0,g0,s3,s5⟩:=lg (b:=j.size::b.size::e) lA.mono (d:=ac) (a:=j) (c:=a3) (h:=aF) rfl rfl rfl;clear_value aF;have ax:∀f∈[b.size,r.size],f<ac.size:=λf l=>x3.lt (hl f l);have av:∀f∈b.size::e,f<ac.size:=λf l=>x3.lt (bT hS x2.size (hl _ aL) f l);refine kV (R:=λd h u=>∃B p c,Value.agg #[O.v d,O.v h]=.agg #[O.v B,O.v p]/\cy (bP e u) B Z/\jz (bP e u) p c/\DO c/\J r u) (r:=rs.length) (f:=r) (b:=e) lA.mono be be hS ⟨V,ax _ aL⟩ u2 s3 aV aX V x5 B0 g0 (λ_ q=>TC q) (λc r' aA m' d h t k o=>⟨c,r',aA,rfl,d,h,⟨V,V,λq hq=>by obtain⟨s,p⟩:=List.mem_iff_getElem?.1 hq;exact k s q p⟩,o⟩) λaz u o aA bg μ aW bl xM aq aj a6=>?_
 let⟨q,hq⟩:=cK rs az aW;let⟨q3,ba,bb,qw⟩:=ay.dx q (au hq);have F:=u2.trans xM;obtain⟨cs,⟨bh,k,bd,rfl,c1,c2,c3⟩,Q⟩:=hp.iF az q hq;have aP:=c1.len;have qp:=q.body.Hm;refine⟨V,V,_,F.af (Q 0 _ rfl),_,F.af (Q 1 _ rfl),_,F.af (Q 2 _ rfl),_,F.af (Q 3 _ rfl),_,F.af (Q 4 _ rfl),?_⟩;intro m7 c;have hy:=aq.bh;have bj:=aj.lt;have zM:=xM.size;obtain⟨x8,-,s8⟩:=kJ (M:=u) (d:=m7) (c:=c) rfl rfl rfl;clear_value c;have bm:=u2.size;have w8:=F.trans x8;have N:∀{I:E},c.size<=I.size->∀f∈o.D::j.size::b.size::e,f<I.size:=λh f l=>by
  simp only[aS]at l;rcases l with g|g|g|g
  .omega
  .omega
  .have:=av f (by simp[g]);omega
  .have:=av f (by simp[g]);omega
 have bk:b.size<ac.size:=ax _ aL;intro d s;have x9:J c d:=J.push _ _;have s9:d.size=c.size+1:=by simp[d]
 have aJ:J d s:=J.push _ _;have bu:s.size=d.size+1:=by simp[s]
 have g9:VR (d.size::o.D::j.size::b.size::e) c d (.mk c.size 0 0 0) []:=Gr.new _ (ad _) _ _ _;have aM:cw s d.size oF [.s (.mk c.size 0 0 0)]:=cw.push _ _ _;have aQ:Fs (o.D::j.size::b.size::e) c s d.size (.mk c.size 0 0 0) []:=⟨aM,g9.ext dT.mono aJ,V⟩;clear_value s d;have am:=x9.trans aJ;have aD:∀f∈[c.size,d.size],f<s.size:=λf l=>by simp at l;omega
 have LL:∀{I:E}{s':O},s.size<=I.size->(s'.D=c.size\/s.size<=s'.D)->∀k∈[u.size,b.size,r.size],k<I.size/\k≠d.size/\k≠s'.D:=λhz z k aT=>by simp at aT;omega
 rw[aP];refine(mg (S:=[c.size,d.size]) aD 0 q.params.length V).mono λ_ aE⟨U,ab,g,aR,aI,W⟩=>⟨W.dv λk z=>by simp at z;omega,U,g,?_⟩;have ar:=GI.done aR aD V;have bf:=W.size;have aN:Sx (o.D::j.size::b.size::e) c aE d.size (.mk c.size 0 0 0) [] U U ab ab:=⟨aQ.ext W,am.trans W,N V,ar,ar,rfl,λy hy=>oh (aI.1 y hy)⟩;refine(Mf q.body _ c aE d.size _ [] U U ab ab B ag bd aN (by rw[aI.2];exact bb) V bJ (P.le w8.le) (eN.le w8.le c3)).mono λbw aZ⟨bv,bp,ae,aH,aa,aO⟩=>⟨Ps.dv aa (LL bf (Or.inl rfl)),?_⟩;have bB:=aa.size;simp only[O.jB]at aO aa;have an:J c aZ:=Fz.ext ((((am.trans W).fz [d.size,c.size]).trans aa).DH λk z=>Or.inr (by simp at z;omega));have a9:=aH.len;intro bq;refine H9 ae an (N V) (by simp at a9;omega) (LL V V) λA D v L ao ap bi=>?_;have bC:=ap.size;have bx:=ae.gr.bh;have X:J c v:=ae.gJ an ap;have a_:mU [] D (6*q.body.w):=ao▸(aH.trans (mU.kX (x:=⟨23,0,0,0,[q.body.aT],[]⟩) ⟨sx,λ_=>aL⟩ aL)).fw V;let⟨a7,a8,bt⟩:=a_.cX;have aY:0<D.length:=by rw[ao];simp
 have ak:=aj.ext (x8.trans X);refine⟨o,ak.bU 1,A,L.box.bU 0,A,L.box.bU 0,?_⟩;have bA:=L.gr.bh;have a5:=L.ne;have a4:A.D∉d.size::o.D::j.size::b.size::e:=by
  simp only[aS,ui];have l:=λh:A.D∈o.D::j.size::b.size::e=>N (I:=c) (ad _) _ h;refine⟨a5,λh=>?_,λh=>?_,λh=>?_,λh=>?_⟩<;>have:=l (by simp[h])<;>omega
 have aw:fu (bP (d.size::o.D::j.size::b.size::e) v) A D:=L.gr.nQ dT.mono a4 be V;have G:∀{y K:E}{k aG:Nat},v.size<=y.size->J y K->k<v.size->af K k aG=af y k aG:=λh ah z=>gl ah V _;have sm:∀{y K:E},v.size<=y.size->J y K->dY [u.size,b.size,r.size] y K:=λh ah=>ah.dv λk z=>by simp at z;omega
 have T:d.size<v.size:=V;have C:u.size<v.size:=V;have i3:j.size<v.size:=V;refine(bR (o.D::j.size::b.size::e) (c1.ext (w8.trans X)) V).mono λ_ br⟨a',la,g,ga,ea,p⟩=>⟨sm (ad _) p,a',g,G (ad _) p T,G (ad _) p C,G (ad _) p T,G (ad _) p C,G (ad _) p C,G (ad _) p i3,?_⟩;subst ea;have H:=p.size;refine(bR (o.D::j.size::b.size::e) (c2.ext ((w8.trans X).trans p)) V).mono λ_ a0⟨b',lb,g,gb,eb,t⟩=>⟨sm H t,b',g,G H t T,G H t C,G H t T,G H t C,G H t i3,?_⟩;subst eb;have bD:=t.size;have aK:=p.trans t;refine(Nm (m:=a0) (fu.ext aK (eR.le aw (bG _ _) λ_ _=>dT.le (bG _ _))) (q.params.length:Nat)).mono λ_ a1⟨rg,g,_,w⟩=>⟨sm V w,rg,g,G V w T,G V w C,G V w i3,?_⟩;have bE:=w.size;have Y:=aK.trans w;intro bs;have aU:fu (bP (o.D::j.size::b.size::e) a1) A D:=eR.le aw ((Y.dg _).trans (jS _ λ_ h=>ai _ h)) λ_ _=>dT.le ((Y.dg _).trans (jS _ λ_ h=>ai _ h));have XX:=(x8.trans X).trans Y;refine Gr.box (g:=[.s .nil,.s .nil,.i 0,.i 0,.s .nil]) (j:=1) (y:=88) (i:=[.s dd,.s o]) (w:=⟨q.params,q.cO,q.aT,rg,D⟩) lA.mono be (aq.ext lA.mono XX) ((xM.trans XX).fz []) ⟨a',b',A,rfl,(GI.done ga (N V) V).le ((t.trans w).dg _),(GI.done gb (N V) V).le (w.dg _),aU⟩ V (ak.ext Y) aL be ⟨V,aL⟩ (λf l=>?_) λr' m' g' B' f' z' q'=>a6 r' m' _ g' B' f'.ext ⟨q3,ba,aY,by show D.length<=_;omega,a7,a8⟩
 simp at l;omega
section
def Mn{α:Type}(T:E->O->O->α->Prop):Prop:=∀M a b c x,Le M a->T M b c x->T a b c x
def PP{α:Type}(T:E->O->O->α->Prop)(U:α->Prop)(S:List Nat)(d:Nat)(e:O)(m:E)(P:Nat)(v:Value)(a:E):Prop:=∃b c x,v=.agg #[O.v b,O.v c]/\T (bP S a) b c x/\U x/\Rd d e P a/\Fz [d] m a
def NT(m:E)(a b:O)(x:List bz×List gP):Prop:=eK m a b x.1 x.2
def IT(m:E)(a b:O)(x:List bz×List dA):Prop:=cy m a x.1/\jz m b x.2
def GT(m:E)(a b:O)(x:List bz×List (dA×Ex)):Prop:=cy m a x.1/\Xo m b x.2
def UN(c:Prop)(W:Nat)(x:List bz×List gP):Prop:=yK x.1 x.2 c W/\x.1∈rY
def UI(x:List bz×List dA):Prop:=DO x.2/\x.1∈rY
def NT.mn:Mn NT:=λ_ _ _ _ _ h t=>eK.le t h
def IT.mn:Mn IT:=λ_ _ _ _ _ h t=>⟨t.1.le h,jz.le h t.2⟩
structure BS(B:List Nat)(rb:Nat)(bs:O)(m:E)(Q:Nat)(M:E):Prop where
 s:Rs rb bs m Q M
 gJ:∀c∈B,m.size<=c/\c<M.size
section
variable{α:Type}{T:E->O->O->α->Prop}{U:α->Prop}{S B L:List Nat}{c Q g i k f t:Nat}{e a b:O}{m M d:E}{x:α}{h:List Value}
def BS.hS(h:BS B c e m Q M)(d:∀a∈S,a<m.size):∀a∈B++S,a<M.size:=λa f=>(List.mem_append.1 f).elim (λb=>(h.gJ a b).2) λb=>aO (d a b) h.s.f.size
def BS.to(h:BS B c e m Q M)(f:Fz [c] M d)(r:Rd c e g d):BS B c e m g d:=⟨h.s.to f r,λa b=>⟨(h.gJ a b).1,aO (h.gJ a b).2 f.size⟩⟩
def BS.lw(h:BS B c e m Q M)(a:c<m.size)(d:∀b∈L,b∈B):Lw c L M:=Go.Proofs.YtkoifinbblcbiaaGreat.lw a λb f=>h.gJ b (d b f)
def BS.call(i:BS B c e m Q M)(o:c<m.size)(p:∀b∈L,b∈B)(l:aM cq f h M (PP T U (B++S) c e M g)){K:O->O->E->Prop}
 (q:∀a b x d,U x->T (bP (B++S) d) a b x->BS B c e m g d->Fz [c] M d->K a b d):aM cq f h M λv d=>dY L M d/\∃j k:O,v=.agg #[O.v j,O.v k]/\K j k d:=
 l.mono λ_ d⟨a,b,x,n,t,u,r,f⟩=>⟨(i.lw o p).dv f,a,b,n,q a b x d u t (i.to f r) f⟩
def BS.pick(h:BS B c e m Q M)(g:c<m.size)(k:Q<=10^16)(j:∀b∈L,b∈B)(n:Int){K:Int->E->Prop}
 (l:∀i d,0<=i->(i<n\/i=0)->BS B c e m (Q+1) d->Fz [c] M d->K i d):aM cq 40 [vp c 0,vi n] M λv d=>dY L M d/\∃i:Int,v=vi i/\K i d:=
 (cD h.s.r k n).mono λ_ d⟨i,a,o,p,r,f⟩=>⟨(h.lw g j).dv f,i,a,l i d o p (h.to f r) f⟩
def BS.box{m1 m2:E}{z l:List Ce}(h:BS B c e m Q M)(g:m1=M.push (.cells (bA z) t))(i:m2=ag m1 M.size 0 l)(n:l.length=z.length):BS (M.size::B) c e m Q m2/\Le (bP (B++S) M) (bP (M.size::B++S) m2)/\cw m2 M.size t l:=by
 let⟨x,d,z⟩:=kJ g i n;have o:=h.s.f.size;refine⟨⟨h.s.ext x,λf k=>?_⟩,x.bP λb j=>(List.mem_cons.1 j).elim (λh=>Or.inr V) Or.inl,d⟩;rcases List.mem_cons.1 k with a|a
 .omega
 .have:=h.gJ f a;omega
def BS.put(h:BS B c e m Q M)(d:Rd c e i m)(a:k∈B)(l:List Ce):BS B c e m Q (ag M k 0 l)/\Le (bP (B++S) M) (bP (B++S) (ag M k 0 l)):=
 ⟨⟨h.s.put d (h.gJ k a).1 _ _,λb f=>by rw[aw];exact h.gJ b f⟩,cB (by simp[a]) λ_ h=>h⟩
def BS.le(a:c∈S)(f:Fz [c] M d):Le (bP (B++S) M) (bP (B++S) d):=f.dg (by simp[a])
def BS.iy(h:BS B c e m Q M)(o:Mn T)(j:Rd c e i m)(p:k∈B)(q:T (bP (B++S) M) a b x)(r:U x)(n:Q<=g)(l:List Ce):PP T U S c e m g (.agg #[O.v a,O.v b]) (ag M k 0 l):=
 have⟨d,f⟩:=h.put (S:=S) j p l
 ⟨a,b,x,rfl,o _ _ _ _ _ (f.trans (jS _ λ_=>fK _)) q,r,d.s.r.mono n,d.s.f⟩
def BS.kX(a:Rd c e Q m)(o:Obj):BS [m.size] c e m Q (m.push o)/\Le (bP S m) (bP ([m.size]++S) (m.push o)):=⟨⟨⟨(J.push m o).fz _,a.ext (J.push m o)⟩,aL⟩,tA (J.push m o) (ad _)⟩
def Lv{a:List bz}{d:Prop}{W:Nat}(j:vn f h M S a λb=>yK a b d W)(hd:a∈rY)(r:Rd c e Q M):aM cq f h M (PP NT (UN d W) S c e M Q):=
 j.mono λ_ _⟨g,k,b,i,n,o,x⟩=>⟨g,k,(a,b),i,n,⟨o,hd⟩,r.ext x,x.fz _⟩
def Wg{a:List bz}(g:QO f h M S a DO)(hd:a∈rY)(r:Rd c e Q M):aM cq f h M (PP IT UI S c e M Q):=
 g.mono λ_ _⟨d,j,k,b,n,i,o,x⟩=>⟨d,j,(a,k),b,⟨n,i⟩,⟨o,hd⟩,r.ext x,x.fz _⟩
end
section
variable{a:List Nat}{m:E}{b P:Nat}{c:O}
def II(f:∀d∈a,d<m.size)(j:b∈a)(d:Rd b c P m)(D:P+1000+4*(300+40*Cg 18)<=10^16):aM cq 221 [vp b 0] m (PP NT (UN False 95) a b c m (P+11+4*(300+40*Cg 18))):=by
 apply Bm (b,0);simp -zeta only[aC,aB];have e:=d.lt;intro k;obtain⟨b1,-⟩:BS [m.size] b c m P k/\True:=⟨(BS.kX (S:=a) d _).1,trivial⟩;clear_value k;refine b1.call (T:=GT) (U:=λx=>Xr x.1 x.2) (S:=a) e (λ_ h=>h) ((EJ (b1.hS f) (by simp[j]) b1.s.r V).mono λv M⟨i,p,g,t,l,n,o,q,r,s⟩=>⟨i,p,(g,t),l,⟨n,o⟩,q,r,s⟩) λi p x F u t b2 A=>?_;refine b2.call (S:=a) e (λ_ h=>h) (Lv (ID (b2.hS f) (t.1.le (bG _ _)) (eR.le t.2 (bG _ _) λ_ _=>ZE.mono.le (bG _ _)) u) u.gp.ds b2.s.r) λy J L G g t3 b3 B=>?_;intro r l;obtain⟨b5,q,-⟩:=b3.box (S:=a) (m1:=r) (m2:=l) rfl rfl rfl;clear_value l;have s:=NT.mn _ _ _ _ _ q t3;refine b5.pick e V (λ_ h=>h) 3 λE H _ _ b6 o=>?_;have n:=NT.mn _ _ _ _ _ (BS.le j o) s;refine⟨λ_=>?_,λ_=>b6.iy NT.mn d aL n g V _⟩;exact b6.call (S:=a) e (λ_ h=>h) (Lv (J5 (b6.hS f) (n.le (bG _ _)) V g.1) g.2 b6.s.r) λz K M I w v h C=>h.iy NT.mn d aL v w V _
def ED(j:∀d∈a,d<m.size)(g:b∈a)(d:Rd b c P m)(M:P+1000+4*(300+40*Cg 18)<=10^16):aM cq 207 [vp b 0] m (PP NT (UN True 104500) a b c m (P+12+4*(300+40*Cg 18))):=by
 apply xN (b,0);simp -zeta only[aC,aB];have f:=d.lt;intro n;obtain⟨b1,-⟩:BS [m.size] b c m P n/\True:=⟨(BS.kX (S:=a) d _).1,trivial⟩;clear_value n;refine b1.call (S:=a) f (λ_ h=>h) (II (b1.hS j) (by simp[g]) b1.s.r V) λI U X Q i t2 b2 K=>?_;intro x o;obtain⟨b4,w,-⟩:=b2.box (S:=a) (m1:=x) (m2:=o) rfl rfl rfl;clear_value o;have q:=NT.mn _ _ _ _ _ w t2;refine b4.call (S:=a) f (λ_ h=>h) (Lv (Mc (b4.hS j) (q.le (bG _ _)) i.1) i.2 b4.s.r) λJ W Y y G B b5 u=>?_;intro z p;obtain⟨r,l,-⟩:=b5.box (S:=a) (m1:=z) (m2:=p) rfl rfl rfl;clear_value p;have C:=NT.mn _ _ _ _ _ l B;refine r.pick f V (λ_ h=>h) 4 λN R _ _ e k=>?_;have D:=NT.mn _ _ _ _ _ (BS.le g k) C;refine⟨λ_=>?_,λ_=>e.iy NT.mn d aL D G V _⟩;have E:=NT.mn _ _ _ _ _ (((BS.le g u).trans l).trans (BS.le g k)) q;refine e.call (S:=a) f (λ_ h=>h) (Lv (Qr (e.hS j) (E.le (bG _ _)) i.1) i.2 e.s.r) λt A Z T H F s L=>?_;intro O;let⟨h,v⟩:=s.put (S:=a) d (by simp:y.size∈_) [.s t,.s A];exact h.iy NT.mn d aL (NT.mn _ _ _ _ _ v F) H V _
end
end
section
variable{c:Prop}
structure BF(S:List Nat)(rb:Nat)(bs:O)(m:E)(k Q W:Nat)(M:E):Prop where
 b:BS [k,m.size] rb bs m Q M
 x:∃d r x,cw M k nt [.s d,.s r]/\NT (bP (k::m.size::S) M) d r x/\UN True W x
def UN.mono{W W':Nat}{x:List bz×List gP}(h:UN c W x)(f:W<=W'):UN c W' x:=⟨⟨h.1.iY,λq g=>let⟨a,b,d,e⟩:=h.1.dx q g;⟨a,b,d,bX e f⟩⟩,h.2⟩
section
variable{e h:List Nat}{d k Q Q' W W' i f:Nat}{g:O}{a M b:E}{K:E->Prop}{j:O->O->List Value}
def BF.mono(h:BF e d g a k Q W M)(j:Q<=Q')(l:W<=W'):BF e d g a k Q' W' M:=⟨⟨⟨h.b.s.f,h.b.s.r.mono j⟩,h.b.gJ⟩,let⟨i,r,x,b,f,c⟩:=h.x;⟨i,r,x,b,f,c.mono l⟩⟩
def BF.to(i:BF e d g a k Q W M)(n:d<a.size)(m:d∈e)(f:Fz [d] M b)(j:BS [k,a.size] d g a Q' b):BF e d g a k Q' W b:=
 let⟨l,r,x,h,t,c⟩:=i.x
 ⟨j,l,r,x,h.congr (f.same k h.lt (by have:=i.b.gJ k aL;simp;omega)),NT.mn _ _ _ _ _ (BS.le (B:=[k,a.size]) m f) t,c⟩
def BF.pick(j:BF e d g a k Q W M)(l:d<a.size)(q:d∈e)(o:Q<=10^16)(m:∀c∈h,c∈[k,a.size])(n:Int){K:Int->E->Prop}
 (p:∀i b,BF e d g a k (Q+1) W b->K i b):aM cq 40 [vp d 0,vi n] M λv b=>dY h M b/\∃i:Int,v=vi i/\K i b:=
 j.b.pick l o m n λi b _ _ c f=>p i b (j.to l q f c)
def BF.ZH(q:BF e d g a k Q W M)(w:Rd d g i a)(F:k≠a.size)(y:∀p∈h,p=a.size)
 (c:∀l n x,NT (bP (k::a.size::e) M) l n x->UN True W x->aM cq f (j l n) M (PP NT (UN True W') (k::a.size::e) d g M Q'))
 (I:∀b,BF e d g a k Q' W' b->K b):∃z:O,af M k 0=some (O.v z)/\∃A:O,af M k 1=some (O.v A)/\aM cq f (j z A) M λT b=>dY h M b/\∃t u:O,T=.agg #[O.v t,O.v u]/\eC b k 0 2/\(dY h b (ag b k 0 [.s t,.s u])/\K (ag b k 0 [.s t,.s u])):=by
 let⟨l,n,x,B,J,P⟩:=q.x
 have G:=w.lt
 have V:=q.b.gJ k aL
 refine⟨l,B.bU 0,n,B.bU 1,q.b.call (S:=e) (L:=h) G (λp s=>by simp[y p s]) (c l n x J P) λp s U b R N C D=>?_⟩
 have v:=B.congr (D.same k B.lt bJ)
 let⟨b2,H⟩:=C.put (S:=e) w (by simp:k∈_) [.s p,.s s]
 exact⟨v.eC aL,λc E=>bo _ _ _ _ (by rw[y c E];exact kH F),I _ ⟨b2,p,s,U,cw.ag (m:=b) (o:=0) (r:=[.s p,.s s]) v,NT.mn _ _ _ _ _ H N,R⟩⟩
def BF.aW(h:BF e d g a k Q W M)(j:Rd d g i a)(l:Q<=Q'):∃b:O,af M k 0=some (O.v b)/\∃c:O,af M k 1=some (O.v c)/\PP NT (UN True W) e d g a Q' (.agg #[O.v b,O.v c]) (ag M a.size 0 [.s b,.s c]):=
 let⟨f,r,_,B,t,u⟩:=h.x
 ⟨f,B.bU 0,r,B.bU 1,h.b.iy NT.mn j aL t u l _⟩
end
section
variable{a:List Nat}{b:E}{d P:Nat}{e:O}
def Y1{h:Nat}{g:List Value}{M:E}{Q:Nat}{b:List bz}{W:Nat}(k:Tw h g M a d e Q b λf=>yK b f c W)(hd:b∈rY):aM cq h g M (PP NT (UN c W) a d e M Q):=
 k.mono λ_ _⟨i,l,f,j,n,o,r,x⟩=>⟨i,l,(b,f),j,n,⟨o,hd⟩,r,x⟩
def Sa(i:∀c∈a,c<b.size)(k:d∈a)(g:Rd d e P b)(h:P+4<=10^16){W:Nat}(j:W<=200000000000)(f r:O)(x:List bz×List gP)(t:NT (bP a b) f r x)(u:UN True W x):aM cq 208 [vp d 0,.agg #[O.v f,O.v r]] b (PP NT (UN True (W+4)) a d e b (P+4)):=
 Y1 (Qq i k g h t u.1 j) u.2
def Cy(z:∀c∈a,c<b.size)(l:d∈a)(g:Rd d e P b)(Z:P+1000+4*(300+40*Cg 18)<=10^16):aM cq 163 [vp d 0] b (PP NT (UN True 98289774148) a d e b (P+24+4*(300+40*Cg 18))):=by
 apply wG (d,0);simp -zeta only[aC,aB];have k:=g.lt;intro q;have z1:q.size=b.size+1:=by simp[q]
 obtain⟨b1,-⟩:BS [b.size] d e b P q/\True:=⟨(BS.kX (S:=a) g _).1,trivial⟩;clear_value q;refine b1.call (S:=a) k (λ_ h=>h) (ED (b1.hS z) (by simp[l]) b1.s.r V) λD H J f I t2 b2 K=>?_;have z2:=K.size;intro N G;let⟨b4,L,C⟩:=b2.box (S:=a) (m1:=N) (m2:=G) rfl rfl rfl;clear_value G;have X:=NT.mn _ _ _ _ _ L t2;have p:f.size≠b.size:=V;have n:∀{M:E}{Q W:Nat},BF a d e b f.size Q W M->∀c∈f.size::b.size::a,c<M.size:=λh=>h.b.hS z;have F:d∈f.size::b.size::a:=by simp[l]
 refine⟨BF a d e b f.size (P+17+4*(300+40*Cg 18)) 104504,?_,λR U=>?_⟩
 .refine b4.pick k V (λ_ h=>h) 4 λA m5 _ _ b5 t=>?_;have u:=NT.mn _ _ _ _ _ (BS.le (B:=[f.size,b.size]) l t) X;have s:=C.congr (t.same _ C.lt bJ);refine⟨λ_=>b5.call (S:=a) k (λ_ h=>h) (Sa (b5.hS z) F b5.s.r V V D H J u I) λi j x O Y T b6 w=>?_,λ_=>BF.mono ⟨b5,D,H,J,s,u,I⟩ V V⟩;intro R;let⟨v,y⟩:=b6.put (S:=a) g (by simp:f.size∈_) [.s i,.s j];exact BF.mono ⟨v,i,j,x,cw.ag (m:=O) (o:=0) (r:=[.s i,.s j]) (s.congr (w.same _ s.lt bJ)),NT.mn _ _ _ _ _ y T,Y⟩ V V
 refine⟨BF a d e b f.size (P+18+4*(300+40*Cg 18)) 10921086016,?_,λY O=>?_⟩
 .refine U.pick k l V aL 4 λA v s=>⟨λ_=>s.ZH g p aL (λi j x t u=>Lv (Ij (n s) (t.le (bG _ _)) V u.1) u.2 s.b.s.r) λy h=>h.mono V V,λ_=>s.mono V V⟩
 refine O.pick k l V aL 3 λA aa s=>?_;refine⟨BF a d e b f.size (P+19+4*(300+40*Cg 18)) 98289774144,⟨λ_=>s.ZH g p aL (λi j x t u=>Lv (EZ (n s) (t.le (bG _ _)) V u.1) u.2 s.b.s.r) λy h=>h.mono V V,λ_=>s.mono V V⟩,λab v=>?_⟩;refine⟨BF a d e b f.size (P+19+4*(300+40*Cg 18)) 98289774144,⟨λ_=>v.ZH g p aL (λi j x t u=>Lv (Nn (n v) (t.le (bG _ _)) V u.1) u.2 v.b.s.r) λy h=>h.mono V V,λ_=>v.mono V V⟩,λac T=>?_⟩;refine T.pick k l V aL 6 λA ad w=>⟨λ_=>w.ZH g p aL (λi j x t u=>Sa (n w) F w.b.s.r V V i j x t u) λy h=>h.aW g V,λ_=>(w.mono (Q':=P+24+4*(300+40*Cg 18)) (W':=98289774148) V V).aW g V⟩
def Ir(j:∀c∈a,c<b.size)(l:d∈a)(f:Rd d e P b)(B:P+1000+4*(300+40*Cg 18)<=10^16):aM cq 90 [vp d 0] b (PP IT UI a d e b (P+25+4*(300+40*Cg 18))):=by
 apply AT (d,0);simp -zeta only[aC,aB];have g:=f.lt;intro m;obtain⟨b1,-⟩:BS [b.size] d e b P m/\True:=⟨(BS.kX (S:=a) f _).1,trivial⟩;clear_value m;refine b1.call (S:=a) g (λ_ h=>h) (Cy (b1.hS j) (by simp[l]) b1.s.r V) λv H K D o t2 b2 y=>?_;refine b2.call (S:=a) g (λ_ h=>h) (Wg (Mi (b2.hS j) (t2.le (bG _ _)) o.1 V) o.2 b2.s.r) λw I L E i t3 b3 z=>?_;intro r n;obtain⟨b5,q,-⟩:=b3.box (S:=a) (m1:=r) (m2:=n) rfl rfl rfl;clear_value n;have s:=IT.mn _ _ _ _ _ q t3;refine b5.pick g V (λ_ h=>h) 3 λC F _ _ b6 p=>?_;have k:=IT.mn _ _ _ _ _ (BS.le l p) s;refine⟨λ_=>?_,λ_=>b6.iy IT.mn f aL k i V _⟩;exact b6.call (S:=a) g (λ_ h=>h) (Wg (IM (b6.hS j) (k.1.le (bG _ _)) (tr i.2) (jz.le (bG _ _) k.2) i.1) i.2 b6.s.r) λx J M G u t h A=>h.iy IT.mn f aL t u V _
end
end
section
variable{x:Instr}
section
variable{S:List Nat}{m M:E}{a P Q:Nat}{b:O}
def Dx(h:Rs a b m Q M)(i:Q<=10^16)(c:List Int){d:List Ce}{n:Nat}(j:d=c.map Ce.i)(p:n=c.length)(l:0<c.length/\c.length<=100):
 aM cq 39 [vp a 0,O.v (.mk M.size 0 n n)] (M.push (.cells (bA d) aD)) λv e=>∃t:Int,v=vi t/\t∈c/\Rs a b m (Q+1) e/\Fz [a] (M.push (.cells (bA d) aD)) e:=by
 have x:=J.push M (.cells (bA d) aD)
 have o:=h.r.lt
 refine(k8 (h.ext x).r i (ar.lit aD c (by simp;exact o) j p V) l.1).mono λv e⟨q,g,k,r,f⟩=>⟨q,g,k,(h.ext x).to f r,f⟩
def _root_.Go.Vc.Gr.Lk{b c:E}{s:O}{l:List Int}(h:GI S b M s l)(f:Fz [a] M c)(d:a<b.size):GI S b c s l:=have:=h.bh;GI.jx h (f.same _ this.2 bJ)
def wW(n:Rd a b P m)(hP:P+10<=10^16){D:O}{l:List Int}(S:ar m D l)(hb:l.length<=10^12):aM cq 93 [vp a 0,O.v D] m λaa o=>∃s c,aa=O.v s/\GI [] m o s c/\c.length<=l.length+1/\(∀w∈c,w∈l\/-1<=w/\w<=1001)/\Rd a b (P+3) o/\Fz [a] m o:=by
 apply tf (a,0);have g:=n.lt;refine(bR [] S V).mono λ_ W⟨s,c,e,j,I,G⟩=>⟨s,e,?_⟩;subst I;have ab:=j.len be;have p:Rs a b m P W:=⟨G.fz _,n.ext G⟩;have iy:∀{M:E}{Q:Nat},Rs a b m Q M->Q<=P+2->GI [] m M s l->aM cq 39 [vp a 0,O.v (.mk M.size 0 5 5)] (M.push (.cells (bA [.i 0,.i 1,.i 2,.i (-1),.i 1000]) aD)) λx r=>∃i:Int,x=vi i/\
  jM (r.push (.cells (bA [.i i]) aD)) aD [.i 0] 8 s (.mk r.size 0 1 1) λt q=>∃s c,O.v t=O.v s/\GI [] m q s c/\c.length<=l.length+1/\(∀w∈c,w∈l\/-1<=w/\w<=1001)/\Rd a b (P+3) q/\Fz [a] m q:=λ{M Q} rM hQ gM=>
  (Dx rM V [0,1,2,-1,1000] rfl rfl aL).mono λ_ r⟨t,e,u,f,d⟩=>⟨t,e,by
   have g2:=(gM.ext (J.push M _)).Lk d g;refine GI.kL g2 f.f aL V λx o L z z' Y=>⟨x,_,rfl,L,aL,λw v=>?_,?_,z⟩
   .rcases List.mem_append.1 v with h|h
    .exact Or.inl h
    .simp at h u;exact Or.inr V
   .exact(n.OK f.r z (Y a f.r.lt (oh g2.bh))).mono V⟩
 refine⟨λR=>?_,λ_=>iy p V j⟩;simp only[lx,aq]at R;refine(cD p.r V 2).mono λ_ m2⟨T,e,_,_,y,d⟩=>⟨T,e,λ_=>?_,λ_=>iy (p.to d y) V (j.Lk d g)⟩;have f:=p.to d y;refine(cD f.r V (s.len:Int)).mono λ_ X⟨i,e,U,k1,H,A⟩=>⟨i,e,?_⟩;refine(Dx (f.to A H) V [0,1,-1,7,1000,1001] rfl rfl aL).mono λ_ m5⟨t,e,u,F,K⟩=>⟨t,e,U,V,?_⟩;have C:=(((j.Lk d g).Lk A g).ext (J.push X _)).Lk K g;let⟨w,N,B,Z⟩:=C.set F.f (k:=i.toNat) V t;refine⟨w,s,_,rfl,N,aL,λw v=>?_,(n.OK F.r B (Z a (oh C.bh))).mono V,B⟩;rcases dp v with h|h
 .exact Or.inl h
 .simp at u;exact Or.inr V
def IX(Z:List Nat)(a:Nat)(b:O)(m:E)(P:Nat)(U:Instr->Prop)(v:Value)(c:E):Prop:=∃x d j,v=Wh x d j/\ar (bP Z c) d x.args/\ar (bP Z c) j x.eG/\U x/\Rd a b P c/\Fz [a] m c
def wJ(S:List Nat){p t:O}(v:ar m p x.args)(w:ar m t x.eG)(s:x.args.length<=10^12/\x.eG.length<=10^12):
 aM cq 213 [Wh x p t] m λz l=>∃c d,z=Wh x c d/\GI S m l c x.args/\GI S m l d x.eG/\c.D≠d.D/\J m l:=by
 apply rO
 simp -zeta only[aC,aB]
 intro i j
 let⟨e,g⟩:=dP (a:=i) (c:=j) rfl rfl
 have F:i.size=m.size+1:=by simp[i]
 clear_value j
 have b:∀{M n:E},J j M->J M n->∀o,af n m.size o=af M m.size o:=λh u o=>aJ (u.same _ (h.lt (g _ aL))) o
 refine(bR S (v.ext e) s.1).aK (J.aA j) g λc _ B q k a _=>⟨_,rfl,b (J.aA _) a _,b (J.aA _) a _,b (J.aA _) a _,b (J.aA _) a _,b (J.aA _) a _,?_⟩
 subst k
 refine(bR S (w.ext (e.trans a)) s.2).aK a g λd _ C r k f y=>⟨_,rfl,b a f _,b a f _,b a f _,b a f _,?_⟩
 subst k
 intro D
 have G:=q.bh;have H:=r.bh
 have A:=g i.size aL
 exact⟨c,d,rfl,((q.ext f).jx (bo _ _ _ _ V)).cv (λ_ h=>h) e.size,(r.jx (bo _ _ _ _ V)).cv (λ_ h=>h) (e.trans a).size,V,(e.trans y).ag V _ _⟩
end
structure BI(a0:E)(k rb:Nat)(bs:O)(m:E)(Q:Nat)(M:E)(a j:O)(l l':List Int):Prop where
 ga:GI [] a0 M a l
 gj:GI [] a0 M j l'
 ne:a.D≠j.D
 s:Rs rb bs m Q M
 lo:m.size+2<=a0.size/\l.length<=1000000000001/\l'.length<=1000000000001
 hi:a.D≠k/\j.D≠k/\m.size<=k/\k<M.size
section
variable{Z L:List Nat}{f m M c:E}{b k P g Q h:Nat}{d a j:O}{l e:List Int}
def BI.to(g:BI f k b d m Q M a j l e)(n:b<m.size)(i:Fz [b] M c)(r:Rd b d h c):BI f k b d m h c a j l e:=
 have:=g.lo
 ⟨g.ga.Lk i V,g.gj.Lk i V,g.ne,g.s.to i r,g.lo,g.hi.1,g.hi.2.1,g.hi.2.2.1,aO g.hi.2.2.2 i.size⟩
def BI.put(h:BI f k b d m Q M a j l e)(g:Rd b d P m)(o:Nat)(c:List Ce):BI f k b d m Q (ag M k o c) a j l e:=
 have:=h.lo;have:=h.hi;have:=h.ga.bh
 ⟨GI.jx h.ga (bo _ _ _ _ V),GI.jx h.gj (bo _ _ _ _ V),h.ne,h.s.put g V _ _,h.lo,by rw[aw];exact h.hi⟩
def BI.iy{U:Instr->Prop}(h:BI f k b d m Q M a j l e)(v:Rd b d P m)(t:∀c∈Z,c<m.size){i:Nat}(y:i=m.size+1)(w:Q<=g){r n q p:Int}(x:U ⟨r,n,q,p,l,e⟩)(s:List Ce):IX Z b d m g U (.agg #[vi r,vi n,vi q,vi p,O.v a,O.v j]) (ag M i 0 s):=by
 have:=h.lo;have:=h.hi;have z:=h.ga.bh;have A:=h.gj.bh;have u:=h.s.put v (k:=i) V 0 s;exact⟨⟨r,n,q,p,l,e⟩,a,j,rfl,Gr.done um.mono (GI.any (GI.jx h.ga (bo _ _ _ _ V))) (λc o=>oh (t c o)) be (bX h.lo.2.1 be),Gr.done um.mono (GI.any (GI.jx h.gj (bo _ _ _ _ V))) (λc o=>oh (t c o)) be (bX h.lo.2.2 be),x,u.r.mono w,u.f⟩
def BI.pick(h:BI f k b d m Q M a j l e)(r:b<m.size)(t:Q<=10^16)(s:∀g∈L,m.size<=g/\g<=k)(p:Int){K:Int->E->Prop}
 (v:∀i c,0<=i->(i<p\/i=0)->BI f k b d m (Q+1) c a j l e->(∀o,af c k o=af M k o)->Fz [b] M c->K i c):aM cq 40 [vp b 0,vi p] M λz c=>dY L M c/\∃i:Int,z=vi i/\K i c:=
 have:=h.lo;have:=h.hi;have:=h.ga.bh
 (cD h.s.r t p).mono λ_ c⟨i,q,w,x,y,n⟩=>⟨n.dv λg u=>by have:=s g u;simp;omega,i,q,v i c w x (h.to r n y) (λo=>aJ (n.same k h.hi.2.2.2 bJ) o) n⟩
end
def Tp(x y:Instr):Prop:=(∀k,Pu k x->Pu k y)/\y.args.length<=10^12/\y.eG.length<=10^12
def Ih{Z:List Nat}{m:E}{g P:Nat}{t F H:O}(d:∀c∈Z,c<m.size)(a:Rd g t P m)(hP:P+10<=10^16)(R:ar (bP [g] m) F x.args)(hj:ar m H x.eG)(b:x.args.length<=10^12/\x.eG.length<=10^12)(hx:∃I,Pu I x):
 aM cq 166 [vp g 0,Wh x F H] m (IX Z g t m (P+3) (Tp x)):=by
 apply AE (g,0)
 simp(config:={maxSteps:=1000000}) -zeta only[aC,aB]
 have p:=a.lt
 intro r u
 let⟨W,hl⟩:=dP (a:=r) (c:=u) rfl rfl
 have i:r.size=m.size+1:=by simp[r]
 have s2:u.size=m.size+2:=by simp[u,i]
 clear_value u
 clear_value r
 refine(wJ [] ((R.le (bG _ _)).ext W) (hj.ext W) b).mono λ_ w⟨s,K,e,ga,gj,T,X⟩=>⟨X.dv hl,_,_,_,_,_,_,e,?_⟩
 intro m4 U
 obtain⟨N,-,z5⟩:=kJ (M:=w) (d:=m4) (c:=U) rfl rfl rfl
 clear_value U
 have ya:=ga.bh;have yj:=gj.bh
 have X5:=(W.trans X).trans N
 have b5:BI u w.size g t m P U s K x.args x.eG:=⟨ga.ext N,gj.ext N,T,⟨X5.fz _,a.ext X5⟩,⟨V,pv b.1,pv b.2⟩,V,V,V,V⟩
 have o:∀n∈[w.size,r.size,m.size],m.size<=n/\n<=w.size:=bJ
 let⟨q,z,C,A,j,B⟩:=x
 have Eo:Tp ⟨q,z,C,A,j,B⟩ ⟨q,z,C,A,j,B⟩:=⟨λ_ h=>h,b⟩
 refine b5.pick p V o 5 λae f _ _ b6 _ f6=>?_
 have y:∀{Y:E}{aa:Nat},BI u w.size g t m aa Y s K j B->aa<=P+3->IX Z g t m (P+3) (Tp ⟨q,z,C,A,j,B⟩) (.agg #[vi q,vi z,vi C,vi A,O.v s,O.v K]) (ag Y r.size 0 [.i q,.i z,.i C,.i A,.s s,.s K]):=λh hQ=>h.iy a d i hQ Eo _
 have ab:q=16\/q=17->(0:Int)<=0/\(0:Int)<(F.len:Int)/\∃v:Int,af f F.D (F.off+Int.toNat 0*1)=some (vi v)/\IX Z g t m (P+3) (Tp ⟨q,z,C,A,j,B⟩) (.agg #[vi 15,vi 0,vi 0,vi 0,O.v (.mk f.size 0 1 1),O.v .nil]) (ag (f.push (.cells (bA [.i v]) aD)) r.size 0 [.i 15,.i 0,.i 0,.i 0,.s (.mk f.size 0 1 1),.s .nil]):=λe=>by
  have hn:0<j.length:=let⟨_,h⟩:=hx;h.arg bJ;have S:=R.len;let⟨D,hy⟩:=cK j 0 hn;have z6:=b6.hi;have r7:=(b6.s.ext (J.push f (.cells (bA [.i D]) aD))).put a (k:=r.size) V 0 [.i 15,.i 0,.i 0,.i 0,.s (.mk f.size 0 1 1),.s .nil];have Q:GI [] f (f.push (.cells (bA [.i D]) aD)) (.mk f.size 0 1 1) [D]:=Gr.lit (f:=[[.i D]]) um.mono (ad _) aL rfl rfl ⟨rfl,aL,λH cs x G L=>by
   cases H with
   |zero=>simp at G L;rw[<-G,<-L];rfl
   |succ H=>simp at G⟩
  exact⟨cY 0,by simp at S;omega,D,(eF.1 ((R.le (b6.s.f.dg aL)).aG hy)).2,⟨15,0,0,0,[D],[]⟩,_,.nil,rfl,GI.done (GI.any (GI.jx Q (bo _ _ _ _ bJ))) (λc L=>oh (d c L)) aL,⟨rfl,eO _,aL,aL⟩,⟨λ_ _=>⟨sx,sx⟩,aL,aL⟩,r7.r.mono V,r7.f⟩
 refine⟨λ_=>⟨λe=>?_,λ_=>⟨λe=>(b6.put a _ _).iy a d i V ⟨λ_ _=>⟨sx,sx⟩,b⟩ _,λ_=>⟨λe=>?_,λ_=>y b6 V⟩⟩⟩,λ_=>⟨λ_=>⟨λG=>?_,λ_=>y b6 V⟩,λ_=>⟨λ_=>?_,λ_=>⟨λ_=>⟨λe=>ab (Or.inl (by simpa using e)),λ_=>⟨λe=>ab (Or.inr (by simpa using e)),λ_=>⟨λe=>b6.pick p V o 4 λv L _ _ c _ _=>(c.put a _ _).iy a d i V ⟨λ_ h=>⟨h.MX,h.arg⟩,b⟩ _,λ_=>y b6 V⟩⟩⟩,λ_=>⟨λ_=>⟨λe=>?_,λ_=>⟨λe=>?_,λ_=>y b6 V⟩⟩,λ_=>y b6 V⟩⟩⟩⟩⟩
 .simp only[aE]at e
  exact(b6.put a _ _).iy a d i V ⟨λ_ _=>⟨sx,sx⟩,b⟩ _
 .simp only[aE]at e
  exact(b6.put a _ _).iy a d i V ⟨λ_ h=>⟨sx,λ_=>h.arg (by simp[e])⟩,b⟩ _
 .simp only[lx,aq]at G
  have S:=b6.ga.len be
  refine b6.pick p V o (s.len:Int) λI m7 k0 k1 b7 Q f7=>⟨Q 4,b7.pick p V o 4 λv L _ _ c g8 f8=>⟨g8 4,k0,V,?_⟩⟩
  let⟨ac,g9,f9,q9⟩:=GI.set c.ga (((((X.trans N).fz [g]).trans f6).trans f7).trans f8) (k:=I.toNat) (by show I.toNat<j.length;have:s.len=j.length:=S;omega) v
  have yb:=c.hi
  refine⟨ac,λn b=>q9 n (by have:=o n b;simp at b;omega),BI.iy (k:=w.size) (l:=j.set I.toNat v) (e:=B) ⟨g9,GI.jx c.gj (q9 _ (kH T)),T,⟨c.s.f.ag (Or.inr V) _ _,a.ag c.s.r c.s.f V _ _⟩,⟨V,by simpa using pv b.1,pv b.2⟩,V,V,V,by rw[aw];omega⟩ a d i V ⟨λ_ h=>⟨h.MX,λe=>by simpa using h.arg e⟩,by simpa using b⟩ _⟩
 .refine(xZ q f).any.mono λ_ m7⟨n,e,I⟩=>⟨I.dv λn b=>Qb (o n b) b6.hi,n,e,λ_=>?_,λ_=>y (b6.to p (I.fz _) (b6.s.r.ext I)) V⟩
  exact(b6.to p (I.fz _) (b6.s.r.ext I)).pick p V o 4 λv L _ _ c _ _=>(c.put a _ _).iy a d i V ⟨λ_ h=>⟨h.MX,h.arg⟩,b⟩ _
 .simp only[aE]at e
  exact b6.pick p V o 9 λv L _ _ c _ _=>(c.put a _ _).iy a d i V ⟨λ_ h=>⟨λh=>by simp[e]at h,h.arg⟩,b⟩ _
 .simp only[aE]at e
  exact b6.pick p V o 3 λv L _ _ c _ _=>(c.put a _ _).iy a d i V ⟨λ_ h=>⟨λh=>by simp[e]at h,h.arg⟩,b⟩ _
end
section
def RA(M:E)(c:List Ce)(x:dA×O):Prop:=∃a b,c=[.s a,.s b,.i x.1.aT,.i x.1.an,.s x.2]/\ar M a x.1.params/\ar M b x.1.cO
def RA.mono:oH 5 RA:=⟨λh⟨a,b,e,c,d⟩=>⟨a,b,e,c.le h,d.le h⟩,λ⟨_,_,e,_⟩=>by rw[e];rfl⟩
def hd(x:dA×O):dA×O:=({x.1 with cX:=[]},x.2)
abbrev Ks(l:List (dA×O)):List Nat:=l.map λx=>x.2.D
structure vR(S:List Nat)(m0 M:E)(dd q:O)(ds:List bz)(l:List (dA×O)):Prop where
 d:cy (bP (q.D::(Ks l++S)) M) dd ds
 g:Gr (Ks l++S) m0 M jy 5 RA q (l.map hd)
 c:∀x∈l,Gr (q.D::(Ks l++S)) m0 M de 6 dT x.2 x.1.cX
 nd:(Ks l).Nodup
 lt:∀b∈S,b<M.size
 nq:q.D∉S
 nc:∀x∈l,x.2.D∉S
section
variable{S S' Y:List Nat}{b f M e:E}{c q:O}{d:List bz}{l:List (dA×O)}
def vR.kq(h:vR S b M c q d l):∀x∈l,x.2.D≠q.D:=λx a=>(h.c x a).Lu h.g be
def vR.re(i:vR S b M c q d l)(o:Fz Y M e)(k:∀a∈Y,a∈S)(n:∀a∈S',(a∈S\/M.size<=a)/\a<e.size)(p:f.size<=b.size):vR S' f e c q d l:=by
 have t:=i.g.bh;have r:∀{a:Nat},a∈Ks l++S'->a∈Ks l++S\/M.size<=a:=λg=>by
  rcases List.mem_append.1 g with h|h
  .exact Or.inl (bL _ h)
  .exact(n _ h).1.imp (fK _) id
 have s:∀{a:Nat},a∈q.D::(Ks l++S')->a∈q.D::(Ks l++S)\/M.size<=a:=λg=>by
  rcases List.mem_cons.1 g with h|h
  .exact Or.inl (by simp[h])
  .exact(r h).imp (ai _) id
 refine⟨i.d.le (o.bP (λa g=>by simp[k a g]) λa g=>s g),Gr.cv RA.mono (i.g.re RA.mono o (λa g=>by simp[k a g]) (λj=>i.nq (k _ j)) λa g=>r g) (λa g=>Or.inl g) p,λx m=>Gr.cv dT.mono ((i.c x m).re dT.mono o (λa g=>by simp[k a g]) (λj=>i.nc x m (k _ j)) λa g=>s g) (λa g=>Or.inl g) p,i.nd,λa g=>(n a g).2,λj=>?_,λx m j=>?_⟩
 .rcases(n _ j).1 with h|h
  .exact i.nq h
  .omega
 .have:=(i.c x m).bh;rcases(n _ j).1 with h|h
  .exact i.nc x m h
  .omega
def vR.cX(h:vR S b M c q d l){y:dA×O}(a:y∈l)(j:y.1.cX.length<=10^12):fu (bP (q.D::S) M) y.2 y.1.cX:=
 have g:Gr (q.D::S) b M de 6 dT y.2 y.1.cX:=(h.c y a).re dT.mono (Fz.aA [] M) aL aL λi f=>Or.inl (by rcases List.mem_cons.1 f with e|e<;>simp[e])
 g.nQ dT.mono (by simp;exact⟨h.kq y a,h.nc y a⟩) be V
def vR.gr(h:vR S b M c q d l)(u:∀x∈l,x.1.cX.length<=10^12):Gr S b M jy 5 lA q (l.map (·.1)):=by
 let⟨v,n,z,r⟩:=h.g;refine⟨v,n,z,by simpa using r.len,r.size,λk m x t a=>?_⟩;rw[cU]at a;cases f:l[k]? with
 |none=>simp[f]at a
 |some y=>
  simp[f]at a;subst a;let⟨j,g,e,o,p⟩:=r.dx k m (hd y) t (by simp[f]);have i:=au f;have w:Le (bP (q.D::(Ks l++S)) M) (bP (q.D::S) M):=jS M λg s=>by rcases List.mem_cons.1 s with e|e<;>simp[e]
  exact⟨j,g,y.2,e,o.le w,p.le w,h.cX i (u y i)⟩
def vR.yY{L:List Nat}{j G:E}{t e ks:O}{p:dA}{h tb i:Nat}{bc:List Ce}{P:E->Prop}(n:vR S b M c q d l)(x:J M j)(Q:Gr (q.D::(Ks l++S)) G j de 6 dT ks p.cX)(h8:M.size<=G.size)
 (ha:ar (bP (ks.D::q.D::(Ks l++S)) j) t p.params)(g:ar (bP (ks.D::q.D::(Ks l++S)) j) e p.cO)(Z:cw M h tb bc)(hi:i<bc.length)(ht:tb≠jy)(v:b.size<=h/\h∈S)(R:∀e∈L,e<j.size/\e≠h/\e≠q.D)(hl:l.length<=1000)(T:J b M)
 (hk:∀r k,vR S b k c r d (l++[(p,ks)])->cw k h tb (js bc i [.s r])->J b k->P k):
 af (j.push (.cells (bA [.s t,.s e,.i p.aT,.i p.an,.s ks]) jy)) h i=af j h i/\
 jM (j.push (.cells (bA [.s t,.s e,.i p.aT,.i p.an,.s ks]) jy)) jy [.s .nil,.s .nil,.i 0,.i 0,.s .nil] 88 q (.mk j.size 0 1 1) λr k=>dY L (j.push (.cells (bA [.s t,.s e,.i p.aT,.i p.an,.s ks]) jy)) k/\eC k h i 1/\(dY L k (ag k h i [.s r])/\P (ag k h i [.s r])):=by
 have z:=Z.ext x
 have U:=J.push j (.cells (bA [.s t,.s e,.i p.aT,.i p.an,.s ks]) jy)
 have yk:=Q.bh
 have yq:=n.g.bh
 have zx:=x.size
 have hq:q.D≠h:=λf=>n.nq (by rw[f];exact v.2)
 have kx:ks.D∉S:=λo=>by have:=n.lt _ o;omega
 have ck:∀y∈l,y.2.D<M.size:=λy s=>(n.c y s).bh.2
 have I:∀e∈Ks (l++[(p,ks)])++S,e∈Ks l++S\/e=ks.D:=λe g=>by
  simp only[Ks,fN,cG,fD,List.mem_append,nM]at g⊢;rcases g with(f|f)|f<;>simp[f]
 have g1:Gr (Ks (l++[(p,ks)])++S) b j jy 5 RA q (l.map hd):=n.g.re RA.mono (x.fz []) aL aL λe g=>(I e g).imp id λf=>V
 have Y:Le (bP (ks.D::q.D::(Ks l++S)) j) (bP (q.D::(Ks (l++[(p,ks)])++S)) j):=jS j λe g=>by
  rcases List.mem_cons.1 g with f|f
  .simp[f]
  .rcases I e f with f|f
   .exact ai _ (ai _ f)
   .simp[f]
 refine⟨aJ (U.same h z.lt) i,Gr.kL (g:=[.s .nil,.s .nil,.i 0,.i 0,.s .nil]) (k:=hd (p,ks)) RA.mono be g1 ((T.trans x).fz []) ⟨t,e,rfl,ha.le Y,g.le Y⟩ bJ λr k ab aa B F=>?_⟩
 have K:=z.congr (F h z.lt (kH hq))
 have hr:r.D≠h:=by have:=z.lt;omega
 have A:∀e,e≠h->(ag k h i [.s r])[e]? =k[e]? :=λe g=>bo _ _ _ _ g
 have N:Fz [q.D,h] j (ag k h i [.s r]):=⟨by rw[aw];exact B.1,λe g w=>(A e (by simp at w;omega)).trans (F e g (by simp at w;omega))⟩
 have C:Fz [q.D,h] M (ag k h i [.s r]):=(x.fz _).trans N
 have F0:J b (ag k h i [.s r]):=(aa.ag (Or.inr v.1) _ _).ext
 have ae:=B.1
 have W:∀e∈r.D::(Ks (l++[(p,ks)])++S),(e∈q.D::(Ks l++S)\/e=ks.D)\/j.size<=e:=λe g=>by
  rcases List.mem_cons.1 g with f|f
  .rcases B.2 with u|u
   .exact Or.inl (Or.inl (by simp[f,u]))
   .exact Or.inr V
  .exact Or.inl ((I e f).imp (ai _) id)
 have X:∀e∈r.D::(Ks (l++[(p,ks)])++S),e∈q.D::(Ks l++S)\/M.size<=e:=λe g=>(W e g).elim (λf=>f.imp id λf=>V) λf=>Or.inr V
 have H:∀e∈[q.D,h],e∈q.D::(Ks l++S):=λe g=>by simp at g;rcases g with f|f<;>simp[f,v.2]
 refine⟨λe g=>?_,K.eC V,λe g=>A e (R e g).2.1,hk r _ ⟨n.d.le (C.bP H X),?_,λy s=>?_,?_,λe g=>?_,λo=>?_,λy s o=>?_⟩ (cw.ag (m:=k) K) F0⟩
 .have D:=R e g
  rw[F e V D.2.2,U.same e V]
 .rw[fN]
  let⟨g0,D,g1,g2⟩:=ab
  exact⟨g0,D,g1.congr (A _ hr),g2.mono λcs y=>RA.mono.le (pP λe g w=>⟨w,A e λf=>w (by rw[f];simp[v.2])⟩)⟩
 .rcases List.mem_append.1 s with f|f
  .exact(n.c y f).re dT.mono C H (by simp;exact⟨n.kq y f,λu=>n.nc y f (u▸v.2)⟩) X
  .simp at f
   subst f
   let⟨ac,D,ad,rr⟩:=Q
   have w:Gr (ks.D::q.D::(Ks l++S)) G j de 6 dT ks p.cX:=⟨ac,D,ad,rr.mono λcs y=>dT.mono.le (jS j λe g=>by
    rcases List.mem_cons.1 g with f|f
    .simp[f]
    .exact f)⟩
   exact Gr.cv dT.mono (w.re dT.mono N (λe g=>ai _ (H e g)) (by simp;exact⟨V,λu=>kx (u▸v.2)⟩) λe g=>(W e g).imp (λf=>f.elim (ai _) λf=>by simp[f]) id) (λe g=>Or.inl g) (oh T.size)
 .simp only[Ks,fN,cG,fD]
  refine List.nodup_append.2 ⟨n.nd,aL,λe g u o=>?_⟩
  simp at o g
  obtain⟨w,D,s,rfl⟩:=g
  have:=ck _ s
  simp at this;omega
 .have:=n.lt e g
  have:=C.size
  omega
 .rcases B.2 with f|f
  .exact n.nq (f▸o)
  .have:=n.lt _ o;omega
 .rcases List.mem_append.1 s with f|f
  .exact n.nc y f o
  .simp at f
   subst f
   exact kx o
end
end
def wI{h:List Nat}{m:E}(R:∀c∈h,c<m.size){ae ak:O}{H:List bz}{C:List dA}(hd:cy m ae H)(ht:dU H)(hp:jz m ak C)(ai:DO C):
 aM cq 165 [.agg #[O.v ae,O.v ak]] m λN Y=>∃t q l,N=.agg #[O.v t,O.v q]/\vR h m Y t q H l/\l.map (·.1)=C/\J m Y:=by
 apply AL
 simp -zeta only[aC,aB]
 intro b a2
 let⟨x2,hl⟩:=dP (a:=b) (c:=a2) rfl rfl
 have s1:b.size=m.size+1:=by simp[b]
 clear_value a2
 have aH:=hp.len;have aG:=ai.oK
 refine(fS (b:=b.size::h) (bT R x2.size (hl _ aL)) (hd.le x2.le) ht).mono λ_ z⟨t,e,av,x3⟩=>?_
 subst e
 refine⟨x3.dv hl,_,rfl,?_⟩
 intro j az ac
 have Z:=x2.trans x3
 let⟨x5,B0,g0,s3,s5⟩:=lg (b:=j.size::b.size::h) RA.mono (d:=z) (a:=j) (c:=az) (h:=ac) rfl rfl rfl
 clear_value ac
 have ah:∀c∈[b.size,m.size],c<z.size:=λc d=>x3.lt (hl c d)
 have i1:=ah b.size aL
 have z2:=Z.size
 have A0:vR (j.size::b.size::h) z ac t (.mk z.size 0 0 0) H []:=⟨av.le (x5.bP λf s=>by
  simp only[Ks,fD,dX,aS]at s;rcases s with e|e|e
  .exact Or.inr (by rw[e];exact ad _)
  .exact Or.inr V
  .exact Or.inl (List.mem_cons.2 e)),g0,aL,aL,λf s=>by
   simp only[aS]at s;rcases s with e|e|e
   .omega
   .omega
   .have:=R f e;omega,λd=>by
   simp only[aS]at d;rcases d with e|e|e
   .simp at e;omega
   .simp at e;omega
   .have:=R _ e;simp at this;omega,aL⟩
 refine fm (n:=C.length) V (λX g=>J z g/\∃k l,vR (j.size::b.size::h) z g t k H l/\cw g j.size eA [.s t,.s k]/\l.map (·.1)=C.take X) ⟨x5,_,[],A0,B0,rfl⟩ ?_
 rintro X g aE μ hk ⟨xM,o,l,A,B,T⟩ aD
 have zM:=xM.size
 refine dit (λx=>?_) λx=>?_
 .let⟨q,hq⟩:=cK C X
  have W:=ai.dx q (au hq)
  have q3:=W.params;have q4:=W.cO;have qf:=W.oK
  have v6:=Z.trans xM
  let⟨aF,f,c,c1,c2,c3,e0,e1,e2,e3,e4⟩:=hp.aG hq
  have G:∀{N:Value}{f y:Nat},af m f y=some N->af g f y=some N:=λx=>v6.af x
  refine⟨V,V,_,G e0,_,G e1,_,G e2,_,G e3,_,G e4,?_⟩
  intro m7 k
  obtain⟨Q,-,s8⟩:=kJ (M:=g) (d:=m7) (c:=k) rfl rfl rfl
  clear_value k
  have U:∀c∈[g.size,b.size,m.size],c<k.size:=λc d=>by
   rcases List.mem_cons.1 d with e|e
   .omega
   .have:=ah c e;omega
  have w8:=v6.trans Q
  have hT:∀{w:E},g.size<=w.size->∀c∈o.D::(Ks l++(j.size::b.size::h)),c<w.size:=λx c d=>by
   rcases List.mem_cons.1 d with e|e
   .have:=A.g.bh;omega
   .rcases List.mem_append.1 e with e|e
    .obtain⟨u,r,rfl⟩:=List.mem_map.1 e;have:=(A.c u r).bh;omega
    .have:=A.lt c e;omega
  intro m9
  have x9:J k m9:=J.push _ _
  have ap:Gr (o.D::(Ks l++(j.size::b.size::h))) k m9 de 6 dT (.mk k.size 0 0 0) []:=Gr.new _ (ad _) _ _ _
  clear_value m9
  have aq:=c3.len
  refine dV (n:=q.cX.length) (aq▸c3.iC) (λab ks u=>J k u/\Gr (o.D::(Ks l++(j.size::b.size::h))) k u de 6 dT ks (q.cX.take ab)) ⟨x9,ap⟩ ?_
  rintro ab ks u I2 μ2 hj ⟨r,I⟩ aA
  have X2:=w8.trans r
  have z2:=r.size
  have ay:∀c∈[g.size,b.size,m.size],c<u.size:=λc d=>r.lt (U c d)
  refine dit (λh2=>?_) λh2=>?_
  .let⟨K,D⟩:=cK q.cX ab
   let⟨pa,pj,ha,ax,P,ag,aj,am,an,ao⟩:=(fu.ext X2 c3).aG D
   have yk:=I.bh
   refine⟨V,V,_,P,_,ag,_,aj,_,am,_,an,_,ao,?_⟩
   refine(wK (S:=ks.D::o.D::(Ks l++(j.size::b.size::h))) (λc d=>?_) ha ax (W.kU K (au D))).mono λN aI⟨a',j',e,aa,aw,v⟩=>⟨λc d=>v.same c (ay c d),_,_,_,_,_,_,e,?_⟩
   .rcases List.mem_cons.1 d with e|e
    .omega
    .exact hT V c e
   intro aK
   refine Gr.kL (g:=[.i 0,.i 0,.i 0,.i 0,.s .nil,.s .nil]) (k:=K) dT.mono be (I.ext dT.mono v) ((r.trans v).fz []) ⟨a',j',rfl,aa,aw⟩ bJ λal M3 g3 F z3 aN=>⟨J.oQ ((r.trans v).aH _) F.ext U,aA V _ _ ⟨F.ext,?_⟩⟩
   rw[bd D];exact g3
  .rw[cJ V]at I
   have v:∀{M1 u:E},J k M1->J M1 u->∀f,f<k.size->∀y,af u f y=af M1 f y:=λx h' f s y=>aJ (h'.same f (x.lt s)) y
   have K:g.size<k.size:=V
   have i2:j.size<k.size:=aO B.lt Q.size
   refine⟨o,(B.ext (Q.trans r)).bU 1,?_⟩
   refine(bR [] (c1.ext X2) V).aK r U λa' _ ao ga e F D=>⟨_,rfl,v r F _ K _,v r F _ K _,v r F _ K _,v r F _ i2 _,?_⟩
   subst e
   refine(bR [] (c2.ext (w8.trans D)) V).aK D U λb' _ aj gb e P am=>⟨_,rfl,v D P _ K _,v D P _ K _,v D P _ i2 _,?_⟩
   subst e
   intro aw
   have ax:=D.size
   have aI:=am.size
   have yk:=I.bh
   have ag:∀{w:E},u.size<=w.size->∀c∈ks.D::o.D::(Ks l++(j.size::b.size::h)),c<w.size:=λx c d=>by
    rcases List.mem_cons.1 d with e|e
    .omega
    .exact hT V c e
   have aa:ar (bP (ks.D::o.D::(Ks l++(j.size::b.size::h))) aj) a' q.params:=(GI.done (GI.any ga) (ag (ad _)) V).le (P.dg _)
   have an:ar (bP (ks.D::o.D::(Ks l++(j.size::b.size::h))) aj) b' q.cO:=GI.done (GI.any gb) (ag F.size) V
   have ll:l.length=X:=by have:=rV List.length T;simp at this;omega
   have yq:=A.g.bh
   exact A.yY (i:=1) (bc:=[.s t,.s o]) (tb:=eA) (p:=⟨q.params,q.cO,q.aT,q.an,q.cX⟩) (L:=[g.size,b.size,m.size]) (Q.trans am) (I.ext dT.mono (F.trans P)) V aa an B aL be ⟨V,aL⟩ (λc d=>by
    have hn:=A.nq;simp only[aS,ui]at d hn;have:=Q.size;have:=B.lt;rcases d with e|e|e|e
    .omega
    .omega
    .omega
    .simp at e) V xM λal Y A' B' x'=>aD V Y ⟨x',al,_,A',B',by rw[bd hq,fN,T];rfl⟩
 .refine⟨t,B.bU 0,o,B.bU 1,?_⟩
  intro w
  rw[cJ V]at T
  have k:Fz [b.size] g w:=(Fz.aA _ g).ag (Or.inl aL) _ _
  exact⟨t,o,l,rfl,A.re k aL (λf s=>⟨Or.inl (by simp[s]),Qb (R f s) k.size⟩) Z.size,T,(Z.trans xM).ag V _ _⟩
section
variable{cs:List Ce}{p:dA}{y:Instr}
def Qn{α:Type}{l:List α}{f:Nat}{x:α}(h:l[f]? =some x):l.set f x=l:=by
 apply iL;intro i;rw[jE];split
 .next e=>
  subst e;rw[h];split
  .rfl
  .next hi=>exact absurd (az h) hi
 .rfl
section
variable{S L B X:List Nat}{c m M:E}{a q d:O}{b:List bz}{l:List (dA×O)}{e Q f k:Nat}{x:dA×O}
def BS.psh(h:BS B e d m Q M)(o:Obj):BS (M.size::B) e d m Q (M.push o):=⟨h.s.ext (J.push M o),λc b=>by
 have z:=h.s.f.size;rw[Array.size_push];rcases List.mem_cons.1 b with a|a
 .omega
 .have:=h.gJ c a;omega⟩
def vR.oK(h:DO (l.map (·.1)))(a:x∈l):TC x.1:=h.dx x.1 (List.mem_map.2 ⟨x,a,rfl⟩)
def vR.len(h:vR S c M a q b l):q.len=l.length:=by have:=h.g.len be;simpa using this
def vR.iF(n:vR S c M a q b l)(z:l.length<=1000)(k:l[f]? =some x):∃e d:O,af M q.D (q.off+f*5)=some (O.v e)/\af M q.D (q.off+f*5+1)=some (O.v d)/\af M q.D (q.off+f*5+2)=some (vi x.1.aT)/\af M q.D (q.off+f*5+3)=some (vi x.1.an)/\af M q.D (q.off+f*5+4)=some (O.v x.2)/\ar (bP (q.D::S) M) e x.1.params/\ar (bP (q.D::S) M) d x.1.cO:=by
 let⟨A,m,v,r⟩:=n.g;have y:=az k;have t:f<m.length:=by have:=r.len;simp at this;omega
 let⟨cs,j⟩:=dZ t;let⟨e,d,h,o,p⟩:=r.dx f cs (hd x) j (by simp[k]);have iF:=v.iF;have w:Le (bP (q.D::(Ks l++S)) M) (bP (q.D::S) M):=jS M λd s=>by rcases List.mem_cons.1 s with h|h<;>simp[h]
 have aG:∀i g,cs[i]? =some g->af M q.D (q.off+f*5+i)=some g.v:=λi g u=>by
  have:=iF (f*5+i) g (fV r.size j u);rwa[<-dk]at this
 subst h;exact⟨e,d,aG 0 _ rfl,aG 1 _ rfl,aG 2 _ rfl,aG 3 _ rfl,aG 4 _ rfl,o.le w,p.le w⟩
def vR.it(h:vR S c M a q b l)(g:l.length<=1000)(e:∀x∈l,x.1.cX.length<=10^12):IT (bP S M) a q (b,l.map (·.1)):=
 ⟨h.d.le (jS M λf d=>by simp[d]),(h.gr e).nQ lA.mono h.nq be (by simp only[dW];omega)⟩
def vR.aag(h:vR S c M a q b l)(i:Fz X c M)(o:l.length<=1000)(f:∀x∈l,x.1.cX.length<=10^12)(j:k<l.length)(m:lA (bP (q.D::S) M) cs p):
 eC M q.D (q.off+k*5) 5/\∃n,IT (bP S (ag M q.D (q.off+k*5) cs)) a q (b,n):=by
 obtain⟨w,g,-,-⟩:=(h.gr f).set lA.mono i (k:=k) (by simpa using j) m
 have F:Fz [q.D] M (ag M q.D (q.off+k*5) cs):=(Fz.aA _ M).ag (Or.inl aL) _ _
 exact⟨w,_,h.d.le (F.bP (λe d=>by simp at d;simp[d]) λe d=>Or.inl (by simp[d])),g.nQ lA.mono h.nq be bJ⟩
def vR.wr(h:vR S c M a q b l)(v:Fz X c M)(j:l[f]? =some x)(A:k<x.1.cX.length)(B:dT (bP (q.D::(Ks l++S)) M) cs y):
 eC M x.2.D (x.2.off+k*6) 6/\vR S c (ag M x.2.D (x.2.off+k*6) cs) a q b (l.set f ({x.1 with cX:=x.1.cX.set k y},x.2)):=by
 have n:=au j
 have t:x.2.D∈Ks l:=List.mem_map.2 ⟨x,n,rfl⟩
 have C:∀d∈x.2.D::q.D::(Ks l++S),d∈q.D::(Ks l++S):=λd g=>by
  rcases List.mem_cons.1 g with e|e
  .rw[e];exact ai _ (bL _ t)
  .exact e
 obtain⟨D,u,-,E⟩:=(h.c x n).set dT.mono v A (dT.le (jS M C) B)
 have F:Fz [x.2.D] M (ag M x.2.D (x.2.off+k*6) cs):=(Fz.aA _ M).ag (Or.inl aL) _ _
 have p:∀d∈[x.2.D],d∈Ks l++S:=λd g=>by simp at g;rw[g];exact bL _ t
 have o:Ks (l.set f ({x.1 with cX:=x.1.cX.set k y},x.2))=Ks l:=by
  simp only[Ks,ug];exact Qn (by simp[j])
 have w:(l.set f ({x.1 with cX:=x.1.cX.set k y},x.2)).map hd=l.map hd:=by
  rw[ug];exact Qn (by simp[j,hd])
 have r:∀z∈l.set f ({x.1 with cX:=x.1.cX.set k y},x.2),z=({x.1 with cX:=x.1.cX.set k y},x.2)\/z∈l/\z.2.D≠x.2.D:=λz m=>by
  let⟨G,i⟩:=List.mem_iff_getElem?.1 m;rw[jE]at i;split at i
  .split at i
   .exact Or.inl (by simpa using i.symm)
   .simp at i
  .next hne=>
   refine Or.inr ⟨au i,λe=>hne ?_⟩;have s:f<(Ks l).length:=by simpa[Ks]using az j
   exact(List.getElem?_inj s h.nd).1 (by simp[Ks,j,i,e])
 refine⟨D,?_,?_,λz m=>?_,by rw[o];exact h.nd,λd g=>by rw[aw];exact h.lt d g,h.nq,λz m=>?_⟩
 .rw[o];exact h.d.le (F.dg λd g=>ai _ (p d g))
 .rw[o,w];exact h.g.NJ RA.mono F p (by simp;exactλe=>h.kq x n e.symm)
 .rw[o]
  rcases r z m with e|⟨e,s⟩
  .rw[e];exact u
  .exact(h.c z e).NJ dT.mono F (λd g=>ai _ (p d g)) (by simpa using s)
 .rcases r z m with e|⟨e,s⟩
  .rw[e];exact h.nc x n
  .exact h.nc z e
end
def Ve{c:List dA}(h:DO c){f k:Nat}{x:Instr}(g:c[f]? =some p)(i:p.cX[k]? =some x)(d:Tp x y):DO (c.set f {p with cX:=p.cX.set k y}):=by
 have b:=h.dx p (au g);refine⟨by simpa using h.iY,by simpa using h.oK,λq j=>?_⟩;rcases dp j with e|e
 .exact h.dx q e
 .subst e;refine⟨b.params,b.cO,by simpa using b.iY,by simpa using b.oK,λl z a=>?_,λz a=>?_⟩
  .simp only[jE]at a;split at a
   .next e=>
    subst e;split at a
    .simp at a;subst a;exact d.1 _ (b.cX _ _ i)
    .simp at a
   .exact b.cX _ _ a
  .rcases dp a with e|e
   .exact b.kU z e
   .rw[e];exact d.2
section
variable{a:List Nat}{m:E}{b P:Nat}{c:O}
def Ii(hS:∀k∈a,k<m.size)(ac:b∈a)(I:Rd b c P m)(hP:P+100<=10^16){ab p:O}{s:List bz×List dA}(ag:IT (bP a m) ab p s)(R:UI s):aM cq 91 [vp b 0,.agg #[O.v ab,O.v p]] m (PP IT UI a b c m (P+11)):=by
 apply AF (b,0);simp -zeta only[aC,aB];have z:=I.lt;intro i Z;have b2:BS [i.size,m.size] b c m P Z:=BS.psh (BS.kX (S:=a) I _).1 _;have T:J m Z:=(J.push m _).trans (J.push i _);clear_value Z;refine(wI (b2.hS hS) ((ag.1.le (bG _ _)).ext T) (tr R.2) (eR.mono (jz.le (bG _ _) ag.2) T λ_ _=>lA.le T.le) R.1).mono λ_ j⟨w,q,l,e,A,hl,x3⟩=>⟨(b2.lw z λ_ h=>h).dv (x3.fz _),w,q,e,?_⟩;have b3:=b2.to (x3.fz _) (b2.s.r.ext x3);intro m4 K;obtain⟨b5,-,-⟩:=b3.box (S:=a) (m1:=m4) (m2:=K) rfl rfl rfl;obtain⟨x5,-,-⟩:=kJ (M:=j) (d:=m4) (c:=K) rfl rfl rfl;clear_value K;have A5:vR ([j.size,i.size,m.size]++a) m K w q s.1 l:=A.re (x5.fz []) aL (λd f=>⟨by
  rcases List.mem_cons.1 f with e|e
  .exact Or.inr V
  .exact Or.inl e,b5.hS hS d f⟩) T.size
 refine b5.pick z V (λ_ h=>h) 2 λam m6 i0 i1 b6 f6=>?_;have hB:∀d∈[b],d∈[j.size,i.size,m.size]++a:=by simp[ac]
 have Q:∀{u M':E}{l:List (dA×O)},vR ([j.size,i.size,m.size]++a) m u w q s.1 l->Fz [b] u M'->vR ([j.size,i.size,m.size]++a) m M' w q s.1 l:=λh G=>h.re G hB (λd f=>⟨Or.inl f,aO (h.lt d f) G.size⟩) (ad _);refine⟨λN u=>∃n:Nat,N=n/\n<=2/\BS [j.size,i.size,m.size] b c m (P+11 -5*n) u/\∃l,vR ([j.size,i.size,m.size]++a) m u w q s.1 l/\DO (l.map (·.1)),λN _=>N.toNat,⟨(am+1).toNat,by rw[aP V V];omega,V,⟨⟨b6.s.f,b6.s.r.mono V⟩,b6.gJ⟩,l,Q A5 f6,hl▸R.1⟩,?_⟩;rintro N u ⟨n,rfl,hk,d,l,A,r⟩;refine⟨λh=>?_,λ_=>d.iy IT.mn I aL (x:=(s.1,l.map (·.1))) (A.it (by have:=r.oK;simp at this;omega) λy g=>(vR.oK r g).oK) ⟨r,R.2⟩ V _⟩;simp only[lx,aq]at h;have ay:=A.len;have l4:l.length<=4:=by simpa using r.oK
 have l0:0<l.length:=by simpa using r.iY
 refine d.pick z V (λ_ h=>h) (q.len:Int) λG m7 X f1 b7 f7=>?_;have U:=Q A f7;let⟨y,g⟩:=cK l G.toNat;obtain⟨-,-,-,-,-,-,g7,-,-⟩:=U.iF V g;have C:=vR.oK r (au g);have av:=(U.cX (au g) C.oK).len;have ar:=C.iY;refine⟨X,V,y.2,g7,b7.pick z V (λ_ h=>h) (y.2.len:Int) λan L j0 j1 W f8=>?_⟩;have t:=Q U f8;obtain⟨-,-,-,-,-,-,g8,-,-⟩:=t.iF V g;let⟨ao,B⟩:=cK y.1.cX an.toNat;let⟨ap,jj,ha,hj,e0,e1,e2,e3,e4,e5⟩:=(t.cX (au g) C.oK).aG B;have gJ:∀{d o:Nat}{ah:Value},af (bP (q.D::([j.size,i.size,m.size]++a)) L) d o=some ah->af L d o=some ah:=λh=>(eF.1 h).2;refine⟨X,V,y.2,g8,X,V,y.2,g8,j0,V,_,gJ e0,_,gJ e1,_,gJ e2,_,gJ e3,_,gJ e4,_,gJ e5,?_⟩;have hZ:∀k∈q.D::(Ks l++([j.size,i.size,m.size]++a)),k<L.size:=λk Y=>by
  rcases List.mem_cons.1 Y with e|e
  .rw[e];exact t.g.bh.2
  .rcases List.mem_append.1 e with e|e
   .obtain⟨aa,v,rfl⟩:=List.mem_map.1 e;exact(t.c aa v).bh.2
   .exact t.lt k e
 refine(Ih hZ W.s.r V (ha.le (jS _ (by simp[ac]))) (hj.le (bG _ _)) (C.kU ao (au B)) ⟨_,C.cX _ _ B⟩).mono λ_ m9⟨D,a',j',e,ak,al,f,r9,H⟩=>⟨(W.lw z λ_ h=>h).dv H,_,_,_,_,_,_,e,?_⟩;have F:=Q t H;have v:=W.to H r9;let⟨aa,aj⟩:=F.wr v.s.f g (az B) (cs:=[.i D.op,.i D.dst,.i D.bQ,.i D.bM,.s a',.s j']) (y:=D) ⟨a',j',rfl,ak,al⟩;have yc:=(F.c y (au g)).bh;have ae:∀o d,d∈q.D::([j.size,i.size,m.size]++a)->d≠b->af m9 d o=af L d o:=λo d f hn=>aJ (H.same d (hZ d ((List.mem_cons.1 f).elim (λe=>by simp[e]) λe=>ai _ (fK _ e))) (by simpa using hn)) o;have yq:=F.g.bh;have ax:=v.gJ j.size aL;refine⟨ae _ _ aL V,ae _ _ aL V,j0,V,aa,λd f=>bo _ _ _ _ λe=>(F.nc y (au g)) (by rw[<-e];exact bL _ f),⟨n -1,?_,V,⟨⟨v.s.f.ag (Or.inr V) _ _,(I.ag v.s.r v.s.f V _ _).mono V⟩,λk Y=>by rw[aw];exact v.gJ k Y⟩,_,aj,?_⟩,?_⟩
 .rw[aP V V];omega
 .rw[ug];exact Ve r (by simp[g]) B f
 .rw[aP V V];show((n:Int) -1).toNat<(n:Int).toNat;omega
end
end
section
variable{m:E}{b:Nat}{a j:O}
def BI.kX{L:List Nat}{g M:E}{k Q:Nat}{i:O}{p q:List Int}(h:BI g k b i m Q M a j p q)(o:b<m.size)(u:Q<=10^16)(s:∀e∈L,m.size<=e/\e<=k)(d:List Int){f:List Ce}{n:Nat}(w:f=d.map Ce.i)(A:n=d.length)(z:0<d.length/\d.length<=100){K:Int->E->Prop}
 (y:∀t c,BI g k b i m (Q+1) c a j p q->K t c):aM cq 39 [vp b 0,O.v (.mk M.size 0 n n)] (M.push (.cells (bA f) aD)) λC c=>dY L (M.push (.cells (bA f) aD)) c/\∃t:Int,C=vi t/\K t c:=
 have:=h.hi
 have x:=J.push M (.cells (bA f) aD)
 have D:=x.size
 (Dx h.s u d w A z).mono λ_ c⟨t,r,_,B,l⟩=>⟨l.dv λe v=>by have:=s e v;simp only[nM];omega,t,r,y t c ((h.to o (x.fz _) (h.s.r.ext x)).to o l B.r)⟩
def G5{Z:List Nat}{P:Nat}{s:O}{x:Instr}(o:∀c∈Z,c<m.size)(c:Rd b s P m)(hP:P+20<=10^16)(U:ar m a x.args)(W:ar m j x.eG)(p:x.args.length<=10^12/\x.eG.length<=10^12):
 aM cq 168 [vp b 0,Wh x a j] m (IX Z b s m (P+4) λ_=>True):=by
 apply zq (b,0)
 simp(config:={maxSteps:=1000000}) -zeta only[aC,aB]
 have q:=c.lt
 intro v h
 let⟨H,C⟩:=dP (a:=v) (c:=h) rfl rfl
 have i:v.size=m.size+1:=by simp[v]
 have s2:h.size=m.size+2:=by simp[h,i]
 clear_value h
 clear_value v
 refine(wJ [] (U.ext H) (W.ext H) p).mono λ_ r⟨K,N,l,L,E,X,S⟩=>⟨S.dv C,_,_,_,_,_,_,l,?_⟩
 intro Y F
 obtain⟨I,-,z5⟩:=kJ (M:=r) (d:=Y) (c:=F) rfl rfl rfl
 clear_value F
 have ya:=L.bh;have yj:=E.bh
 have J:=(H.trans S).trans I
 have b5:BI h r.size b s m P F K N x.args x.eG:=⟨L.ext I,E.ext I,X,⟨J.fz _,c.ext J⟩,⟨V,pv p.1,pv p.2⟩,V,V,V,V⟩
 have u:∀B∈[r.size,v.size,m.size],m.size<=B/\B<=r.size:=bJ
 refine b5.pick q V u 6 λac y _ _ b6 _ f6=>?_
 have y6:=b6.hi
 have R:∀{w:O}{Q:List Int},GI [] h y w Q->Q.length<=10^12->aM cq 93 [vp b 0,O.v w] y λA f=>dY [r.size,v.size,m.size] y f/\∃e,A=O.v e/\∃g,GI [] y f e g/\g.length<=1000000000001/\Rd b s (P+4) f/\Fz [b] y f:=λn C=>
  (wW b6.s.r V (ar.le (bG _ _) (n.done aL C)) C).mono λ_ f⟨e,g,l,T,D,_,z,t⟩=>⟨t.dv λB p=>by have:=u B p;simp only[nM];omega,e,l,g,T,V,z,t⟩
 refine⟨λ_=>b6.pick q V u 26 λA G _ _ d _ _=>(d.put c _ _).iy c o i V trivial _,λ_=>⟨λ_=>b6.kX q V u [0,1,-1,99] rfl rfl aL λA G d=>(d.put c _ _).iy c o i V trivial _,λ_=>⟨λ_=>b6.kX q V u [0,1,5,-1,1000,2000] rfl rfl aL λA G d=>(d.put c _ _).iy c o i V trivial _,λ_=>⟨λ_=>b6.kX q V u [0,1,-1,99] rfl rfl aL λA G d=>(d.put c _ _).iy c o i V trivial _,λ_=>⟨λ_=>?_,λ_=>⟨λ_=>?_,λ_=>b6.iy c o i V trivial _⟩⟩⟩⟩⟩⟩
 .refine(R b6.ga p.1).mono λ_ f⟨w,e,l,g,n,D,z,t⟩=>⟨w,e,l,?_⟩
  have aa:=n.bh
  have ab:=b6.s.f.size
  have k:=b6.to q t z
  have d:BI h r.size b s m (P+4) f e N g x.eG:=⟨n.cv aL V,k.gj,oh E.bh,k.s,⟨V,D,b6.lo.2.2⟩,V,V,k.hi.2.2⟩
  exact(d.put c _ _).iy c o i V trivial _
 .refine(R b6.gj p.2).mono λ_ f⟨w,e,l,g,n,D,z,t⟩=>⟨w,e,l,?_⟩
  have aa:=n.bh
  have ab:=b6.s.f.size
  have k:=b6.to q t z
  have d:BI h r.size b s m (P+4) f K e x.args g:=⟨k.ga,n.cv aL V,V,k.s,⟨V,b6.lo.2.1,D⟩,V,V,k.hi.2.2⟩
  exact(d.put c _ _).iy c o i V trivial _
end
section
def AD(S:List Nat)(b:Nat)(c:O)(m:E)(P:Nat)(v:Value)(a:E):Prop:=∃s d,v=O.v s/\cy (bP S a) s d/\Rd b c P a/\Fz [b] m a
structure DD(S:List Nat)(rb:Nat)(bs:O)(m:E)(Q:Nat)(M:E)(s:O)(ds:List bz):Prop where
 g:ZF S m M s ds
 r:Rs rb bs m Q M
 l:0<ds.length/\ds.length<=100
section
variable{a:List Nat}{b P Q h g:Nat}{c s:O}{m M f:E}{e:List bz}
def DD.to(d:DD a b c m Q M s e)(i:b∈a/\b<m.size)(g:Fz [b] M f)(r:Rs b c m h f):DD a b c m h f s e:=⟨d.g.dQ iI.mono g (by simp;exact i),r,d.l⟩
def DD.ext(h:DD a b c m Q M s e)(x:J M f):DD a b c m Q f s e:=⟨h.g.ext iI.mono x,h.r.ext x,h.l⟩
def DD.gJ(h:DD a b c m Q M s e)(g:∀d∈a,d<m.size):∀d∈s.D::a,d<M.size:=λd i=>(List.mem_cons.1 i).elim (λf=>f▸h.g.bh.2) λf=>aO (g d f) h.r.f.size
def DD.lit(h:DD a b c m Q M s e)(f:∀d∈a,d<m.size)(l:List Int){cs:List Ce}{n:Nat}(d:cs=l.map Ce.i)(g:n=l.length)(i:l.length<=100):ar (bP (s.D::a) (M.push (.cells (bA cs) aD))) (.mk M.size 0 n n) l:=ar.lit aD l (h.gJ f) d g V
def DD.iy(h:DD a b c m Q M s e)(f:∀d∈a,d<m.size)(d:Q<=g):AD a b c m g (O.v s) M:=⟨s,e,rfl,h.g.done iI.mono f be (oh h.l),h.r.r.mono d,h.r.f⟩
def DD.set(h:DD a b c m Q M s e)(o:∀f∈a,f<m.size)(i:Rd b c P m)(n:Q<=g){k:Int}(p:0<=k/\k<(e.length:Int)){cs:List Ce}{d:bz}(hd:iI (bP (s.D::a) M) cs d):
 0<=k/\k<(s.len:Int)/\eC M s.D (s.off+k.toNat*3) 3/\AD a b c m g (O.v s) (ag M s.D (s.off+k.toNat*3) cs):=by
 have q:=h.g.len be
 have y:=h.g.bh
 let⟨w,l,f,j⟩:=h.g.set iI.mono h.r.f (k:=k.toNat) V hd
 exact⟨p.1,V,w,s,_,rfl,l.done iI.mono o be (by have:=h.l;simp;omega),(i.OK h.r.r f (j b (oh i.lt))).mono n,f⟩
def DD.jT(h:DD a b c m Q M s e)(i:∀d∈a,d<m.size)(k:Rd b c P m)(q:Q<=g){d:List Ce}{n:Nat}(l:List (bz×List Ce))(hd:∀x∈l,iI (bP (s.D::a) M) x.2 x.1)(t:d=l.flatMap (·.2))(u:n=l.length)(v:l.length<=100):
 jM (M.push (.cells (bA d) jZ)) jZ [.i 0,.i 0,.s .nil] 40 s (.mk M.size 0 n n) λr f=>AD a b c m g (O.v r) f:=by
 have x:=J.push M (.cells (bA d) jZ)
 have z:=h.g.bh
 have H:=(BZ iI.mono (h.gJ i) jZ l hd t u).done iI.mono (h.gJ i) be bJ
 have w:=h.l
 refine Gr.all (g:=[.i 0,.i 0,.s .nil]) iI.mono be (h.ext x).g (h.ext x).r.f H bJ λr y p j A o=>⟨r,_,rfl,p.done iI.mono i be bJ,(k.OK (h.ext x).r.r j (o b (h.ext x).r.r.lt (oh k.lt))).mono q,j⟩
def JO(g:∀z∈a,z<m.size)(O:b∈a)(v:Rd b c P m)(hP:P+100<=10^16):aM cq 167 [vp b 0] m (AD a b c m (P+6)):=by
 apply Cv (b,0);have hr:=v.lt;have w:b∈a/\b<m.size:=⟨O,hr⟩;refine(wM g O v V).mono λ_ m1⟨s,e,h,g1,ad,d1,f1⟩=>⟨s,h,?_⟩;have R:DD a b c m (P+1) m1 s e:=⟨g1,⟨f1,d1⟩,oh (pL e ad)⟩;have sl:s.len=e.length:=g1.len be;have dl:=R.l;refine(cD d1 V (s.len:Int)).mono λ_ m2⟨D,h,k0,k1,d2,f2⟩=>⟨D,h,?_⟩;have Z:=R.to w f2 (R.r.to f2 d2);have N:0<=D/\D<(e.length:Int):=V;refine(cD d2 V 14).mono λ_ F⟨ae,h,_,_,d3,f3⟩=>⟨ae,h,?_⟩;have k:=Z.to w f3 (Z.r.to f3 d3);have Q:∀{M:E},U0 M .nil []:=⟨rfl,eO _,aL,aL⟩;have x:∀{M f:E},J M f->Le (bP (s.D::a) M) (bP (s.D::a) f):=λX=>X.dg _;refine⟨λ_=>?_,λ_=>⟨λ_=>?_,λ_=>⟨λ_=>?_,λ_=>⟨λ_=>?_,λ_=>⟨λ_=>?_,λ_=>⟨λ_=>k.jT g v V [(⟨0,0,[]⟩,[.i 0,.i 0,.s .nil]),(⟨3,0,[]⟩,[.i 3,.i 0,.s .nil])] (by simp;exact⟨⟨.nil,rfl,Q⟩,⟨.nil,rfl,Q⟩⟩) rfl rfl aL,λ_=>k.iy g V⟩⟩⟩⟩⟩⟩
 .refine(Dx k.r V [-1,5,0,2] rfl rfl aL).mono λ_ o⟨t,h,_,G,u⟩=>⟨t,h,?_⟩;have r:=(k.ext (J.push F _)).to w u G;refine(Dx G V [0,1,5] rfl rfl aL).mono λ_ l⟨q,h,_,A,y⟩=>⟨q,h,?_⟩;have p:=(r.ext (J.push o _)).to w y A;exact p.set g v V N (d:=⟨t,q,[]⟩) ⟨.nil,rfl,Q⟩
 .refine(Dx k.r V [-1,0,4,5] rfl rfl aL).mono λ_ o⟨t,h,_,G,u⟩=>⟨t,h,?_⟩;have r:=(k.ext (J.push F _)).to w u G;have L:=r.lit g [t] (cs:=[.i t]) (n:=1) rfl rfl aL;refine Dn _ λl y=>?_;have p:=(r.ext (J.push o _)).ext y;have a2:=p.lit g [0,0,0,0] (cs:=[.i 0,.i 0,.i 0,.i 0]) (n:=4) rfl rfl aL;refine Dn _ λq B=>?_;have H:=(p.ext (J.push l _)).ext B;have a3:=H.lit g [] (cs:=[]) (n:=0) rfl rfl aL;refine Dn _ λA C=>?_;have I:=(H.ext (J.push q _)).ext C;have K:=(J.push q (.cells (bA []) aD)).trans C;have U:=((J.push l (.cells (bA [.i 0,.i 0,.i 0,.i 0]) aD)).trans B);have z:=xt (I.gJ g) pt [([t],.mk o.size 0 1 1),([0,0,0,0],.mk l.size 0 4 4),([],.mk q.size 0 0 0)] aL (by
   simp only[aS,j7,BP,forall_eq_or_imp,forall_eq];exact⟨L.le (x ((y.trans U).trans K)),a2.le (x (B.trans K)),a3.le (x C)⟩) (c:=[.s (.mk o.size 0 1 1),.s (.mk l.size 0 4 4),.s (.mk q.size 0 0 0)]) (b:=3) rfl rfl
  exact(I.ext (J.push A _)).set g v V N (d:=⟨0,0,_⟩) ⟨_,rfl,z⟩
 .have L:=k.lit g [cR (D+1)] (cs:=[.i (cR (D+1))]) (n:=1) rfl rfl aL;refine Dn _ λl y=>?_;have p:=(k.ext (J.push F _)).ext y;have z:=xt (p.gJ g) pt [([cR (D+1)],.mk F.size 0 1 1)] aL (by
   simp only[aS,j7,BP,forall_eq];exact L.le (x y)) (c:=[.s (.mk F.size 0 1 1)]) (b:=1) rfl rfl
  exact(p.ext (J.push l _)).set g v V N (d:=⟨0,0,_⟩) ⟨_,rfl,z⟩
 .refine(Dx k.r V [0,2,1] rfl rfl aL).mono λ_ o⟨t,h,_,G,u⟩=>⟨t,h,?_⟩;have r:=(k.ext (J.push F _)).to w u G;exact r.jT g v V [(⟨2,t,[]⟩,[.i 2,.i t,.s .nil])] (by simp;exact⟨.nil,rfl,Q⟩) rfl rfl aL
 .refine(cD k.r.r V 2).mono λ_ o⟨t,h,_,_,d4,u⟩=>⟨t,h,?_⟩;have r:=k.to w u (k.r.to u d4);have L:=r.lit g [] (cs:=[]) (n:=0) rfl rfl aL;refine Dn _ λl y=>?_;have p:=(r.ext (J.push o _)).ext y;have a2:=p.lit g [2] (cs:=[.i 2]) (n:=1) rfl rfl aL;refine Dn _ λq B=>?_;have H:=(p.ext (J.push l _)).ext B;have a3:=H.lit g [] (cs:=[]) (n:=0) rfl rfl aL;refine Dn _ λA C=>?_;have I:=(H.ext (J.push q _)).ext C;have a4:=I.lit g [] (cs:=[]) (n:=0) rfl rfl aL;refine Dn _ λm8 Y=>?_;have D8:=(I.ext (J.push A _)).ext Y;have W:=(J.push A (.cells (bA []) aD)).trans Y;have K:=(J.push q (.cells (bA []) aD)).trans C;have U:=((J.push l (.cells (bA [.i 2]) aD)).trans B);have z:=xt (D8.gJ g) pt [([],.mk o.size 0 0 0),([2],.mk l.size 0 1 1),([],.mk q.size 0 0 0),([],.mk A.size 0 0 0)] aL (by
   simp only[aS,j7,BP,forall_eq_or_imp,forall_eq];exact⟨L.le (x (((y.trans U).trans K).trans W)),a2.le (x ((B.trans K).trans W)),a3.le (x (C.trans W)),a4.le (x Y)⟩) (c:=[.s (.mk o.size 0 0 0),.s (.mk l.size 0 1 1),.s (.mk q.size 0 0 0),.s (.mk A.size 0 0 0)]) (b:=4) rfl rfl
  have T:=D8.ext (J.push m8 (.cells (bA [.s (.mk o.size 0 0 0),.s (.mk l.size 0 1 1),.s (.mk q.size 0 0 0),.s (.mk A.size 0 0 0)]) pt));refine(cD T.r.r V 3).mono λ_ af⟨aa,h,j0,j1,ac,G⟩=>⟨aa,h,j0,bJ,aL,?_⟩;have c':=(eR.le z (G.dg (S:=s.D::a) (by simp[O])) λab X=>mT.le (G.dg (by simp[O])) ab X).KS (i:=aa.toNat) (j:=4) V aL;exact(T.to w G (T.r.to G ac)).set g v V N (d:=⟨t,0,_⟩) ⟨_,rfl,c'⟩
end
end
section
def Tr{α:Type}(_:α):Prop:=True
section
variable{a:List Nat}{m:E}{b P:Nat}{c:O}
def va(hS:∀w∈a,w<m.size)(aa:b∈a)(Z:Rd b c P m)(hP:P+200<=10^16){an ao:O}{x:List bz×List dA}(u:IT (bP a m) an ao x)(ap:UI x)(aA:Int):aM cq 92 [vp b 0,.agg #[O.v an,O.v ao],vi aA] m (PP IT Tr a b c m (P+10)):=by
 apply zp (b,0);simp(config:={maxSteps:=1000000}) -zeta only[aC,aB];have F:=Z.lt;intro d ae;have b2:BS [d.size,m.size] b c m P ae:=BS.psh (BS.kX (S:=a) Z _).1 _;have x2:J m ae:=(J.push m _).trans (J.push d _);have s1:d.size=m.size+1:=by simp[d]
 have t2:IT (bP ([d.size,m.size]++a) ae) an ao x:=IT.mn _ _ _ _ _ (x2.bP λh r=>by
  simp at r;rcases r with e|e|e
  .exact Or.inr V
  .exact Or.inr V
  .exact Or.inl e) u
 clear_value ae;refine b2.pick F V (λ_ o=>o) aA λaQ m3 _ _ b3 f3=>?_;have t3:=IT.mn _ _ _ _ _ (BS.le (B:=[d.size,m.size]) aa f3) t2;refine⟨λ_=>b3.iy IT.mn Z aL t3 trivial V _,λ_=>?_⟩;refine(wI (b3.hS hS) (t3.1.le (bG _ _)) (tr ap.2) (jz.le (bG _ _) t3.2) ap.1).mono λ_ f⟨N,q,C,e,A4,hl,x4⟩=>⟨(b3.lw F λ_ o=>o).dv (x4.fz _),N,q,e,?_⟩;have b4:=b3.to (x4.fz _) (b3.s.r.ext x4);intro m5 m6;obtain⟨b6,-,-⟩:=b4.box (S:=a) (m1:=m5) (m2:=m6) rfl rfl rfl;obtain⟨x6,-,-⟩:=kJ (M:=f) (d:=m5) (c:=m6) rfl rfl rfl;clear_value m6;have A6:vR ([f.size,d.size,m.size]++a) m m6 N q x.1 C:=A4.re (x6.fz []) aL (λh r=>⟨by
  rcases List.mem_cons.1 r with e|e
  .exact Or.inr V
  .exact Or.inl e,b6.hS hS h r⟩) b3.s.f.size
 have ok:DO (C.map (·.1)):=hl▸ap.1;have aX:=A6.len;have l4:C.length<=4:=by simpa using ok.oK
 have l0:0<C.length:=by simpa using ok.iY
 have cl:∀g∈C,g.1.cX.length<=10^12:=λg A=>(vR.oK ok A).oK;refine b6.pick F V (λ_ o=>o) (q.len:Int) λp i f0 f1 b7 f7=>?_;have A7:=A6.re f7 (S':=[f.size,d.size,m.size]++a) (by simp[aa]) (λh r=>⟨Or.inl r,b7.hS hS h r⟩) (ad _);let⟨g,A⟩:=cK C p.toNat;let⟨ac,h,g0,g1,g2,g3,g4,aJ,aK⟩:=A7.iF V A;refine⟨f0,V,ac,g0,h,g1,_,g2,_,g3,g.2,g4,?_⟩;intro m8 m9;obtain⟨b9,-,-⟩:=b7.box (S:=a) (m1:=m8) (m2:=m9) rfl rfl rfl;obtain⟨x9,-,-⟩:=kJ (M:=i) (d:=m8) (c:=m9) rfl rfl rfl;clear_value m9;have A9:vR ([i.size,f.size,d.size,m.size]++a) m m9 N q x.1 C:=A7.re (x9.fz []) aL (λh r=>⟨by
  rcases List.mem_cons.1 r with e|e
  .exact Or.inr V
  .exact Or.inl e,b9.hS hS h r⟩) (ad _)
 have iy:∀{l:E}{T:O}{aq:List bz×List dA}{Q:Nat},BS [i.size,f.size,d.size,m.size] b c m Q l->IT (bP ([i.size,f.size,d.size,m.size]++a) l) T q aq->Q<=P+10->PP IT Tr a b c m (P+10) (.agg #[O.v T,O.v q]) (ag l d.size 0 [.s T,.s q]):=λh u o=>h.iy IT.mn Z aL u trivial o _;refine⟨λ_=>iy b9 (A9.it V cl) V,λhn=>?_⟩;have hB:∀h∈[b],h∈[i.size,f.size,d.size,m.size]++a:=by simp[aa]
 have W:∀{l n:E}{C:List (dA×O)},vR ([i.size,f.size,d.size,m.size]++a) m l N q x.1 C->Fz [b] l n->vR ([i.size,f.size,d.size,m.size]++a) m n N q x.1 C:=λo p=>o.re p hB (λh r=>⟨Or.inl r,aO (o.lt h r) p.size⟩) (ad _);refine b9.pick F V (λ_ o=>o) 8 λaQ H _ _ j ar=>?_;have U:=W A9 ar;have ax:Le (bP (q.D::([f.size,d.size,m.size]++a)) i) (bP (q.D::([i.size,f.size,d.size,m.size]++a)) H):=(x9.bP λh r=>by
  simp only[cH,dX,aS]at r⊢;rcases r with e|e|e
  .exact Or.inl (Or.inl e)
  .exact Or.inr V
  .exact Or.inl (Or.inr e)).trans (ar.dg (by simp[aa]))
 have ha:=aJ.le ax;have r:=aK.le ax;have ay:∀{l n:E},Fz [b] l n->Le (bP (q.D::([i.size,f.size,d.size,m.size]++a)) l) (bP (q.D::([i.size,f.size,d.size,m.size]++a)) n):=λp=>p.dg (by simp[aa]);have G:=vR.oK ok (au A);have done:∀{l:E}{Q:Nat}{D:List Ce}{aE:dA},BS [i.size,f.size,d.size,m.size] b c m Q l->vR ([i.size,f.size,d.size,m.size]++a) m l N q x.1 C->lA (bP (q.D::([i.size,f.size,d.size,m.size]++a)) l) D aE->Q<=P+10->
  0<=p/\p<(q.len:Int)/\eC l q.D (q.off+p.toNat*5) 5/\(dY [i.size,f.size,d.size,m.size] l (ag l q.D (q.off+p.toNat*5) D)/\PP IT Tr a b c m (P+10) (.agg #[O.v N,O.v q]) (ag (ag l q.D (q.off+p.toNat*5) D) d.size 0 [.s N,.s q])):=λ{l Q D aE} h K hp hQ=>by
  let⟨X,ps,tt⟩:=K.aag h.s.f V cl (k:=p.toNat) V hp
  have yq:=K.g.bh
  exact⟨f0,V,X,λw R=>bo _ _ _ _ λe=>K.nq (by rw[<-e];exact bL _ R),iy ⟨h.s.put Z yq.1 _ _,λw R=>by rw[aw];exact h.gJ w R⟩ tt hQ⟩
 have v:∀{l n:E}{Q:Nat},BS [i.size,f.size,d.size,m.size] b c m Q l->Fz [b] l n->∀s,af n i.size s=af l i.size s:=λh p s=>kg p F (h.gJ _ aL) s;have Y:∀{l n:E}{Q:Nat},BS [i.size,f.size,d.size,m.size] b c m Q l->Fz [b] l n->∀s,af n f.size s=af l f.size s:=λh p s=>kg p F (h.gJ _ aL) s;have am:=U.cX (au A) G.oK;have av:=j.hS hS;have lq:∀w∈q.D::([i.size,f.size,d.size,m.size]++a),w<H.size:=λw R=>(List.mem_cons.1 R).elim (λe=>e▸U.g.bh.2) (av w);have kX:∀(ls:List Int){D:List Ce}{ah:Nat},D=ls.map Ce.i->ah=ls.length->0<ls.length/\ls.length<=100->∀{ak:Int->E->Prop},(∀u n,BS [i.size,f.size,d.size,m.size] b c m (P+4) n->vR ([i.size,f.size,d.size,m.size]++a) m n N q x.1 C->Le (bP (q.D::([i.size,f.size,d.size,m.size]++a)) H) (bP (q.D::([i.size,f.size,d.size,m.size]++a)) n)->(∀s,af n i.size s=af (H.push (.cells (bA D) aD)) i.size s)->(∀s,af n f.size s=af (H.push (.cells (bA D) aD)) f.size s)->ak u n)->
  aM cq 39 [vp b 0,O.v (.mk H.size 0 ah ah)] (H.push (.cells (bA D) aD)) λai n=>dY [i.size,f.size,d.size,m.size] (H.push (.cells (bA D) aD)) n/\∃u:Int,ai=vi u/\ak u n:=λls{D ah} h1 h2 h3{ak} hk=>by
  have x:=J.push H (.cells (bA D) aD)
  have L:=j.to (x.fz _) (j.s.r.ext x)
  exact(Dx j.s V ls h1 h2 h3).mono λ_ n⟨u,e,_,aT,p⟩=>⟨(L.lw F λ_ o=>o).dv p,u,e,hk u n (L.to p aT.r) (W U ((x.fz _).trans p)) (ay ((x.fz _).trans p)) (v L p) (Y L p)⟩
 refine⟨λ_=>?_,λ_=>⟨λ_=>?_,λ_=>⟨λ_=>?_,λ_=>⟨λ_=>?_,λ_=>?_⟩⟩⟩⟩
 .refine(wW j.s.r V (r.le (bG _ _)) (oh G.cO)).mono λ_ ab⟨T,I,e,al,aF,_,aj,t⟩=>⟨(j.lw F λ_ o=>o).dv t,T,e,v j t _,v j t _,v j t _,v j t _,Y j t _,?_⟩;exact done (aE:=⟨g.1.params,I,g.1.aT,g.1.an,g.1.cX⟩) (j.to t aj) (W U t) ⟨ac,T,g.2,rfl,ha.le (ay t),GI.done (GI.any al) lq (by have:=G.cO;show I.length<=_;omega),(W U t).cX (au A) G.oK⟩ V
 .have x:=(J.push H (.cells (bA [.i 0,.i 1,.i (cR (g.1.an+1)),.i 2001,.i (-1)]) aD)).fz [b];exact⟨v j x _,v j x _,v j x _,v j x _,Y j x _,kX [0,1,cR (g.1.an+1),2001,-1] rfl rfl aL λu n b' K le I e4=>⟨I _,I _,I _,I _,e4 _,done (aE:=⟨g.1.params,g.1.cO,g.1.aT,u,g.1.cX⟩) b' K ⟨ac,h,g.2,rfl,ha.le le,r.le le,K.cX (au A) G.oK⟩ V⟩⟩
 .have x:=(J.push H (.cells (bA [.i 0,.i 1,.i 9]) aD)).fz [b];have cl:=am.len;have cc:=am.cap;have c0:=G.iY;have cf:=G.oK;have ew:cR ((g.2.len:Int) -1)=((g.2.len -1:Nat):Int):=by rw[aP V V];omega
  rw[ew];refine⟨cY 0,V,V,v j x _,v j x _,v j x _,v j x _,v j x _,Y j x _,kX [0,1,9] rfl rfl aL λu n b' K le I e4=>⟨I _,I _,I _,I _,I _,e4 _,done (aE:=⟨g.1.params,g.1.cO,u,g.1.an,g.1.cX.take (g.2.len -1)⟩) b' K ⟨ac,h,g.2.cut 0 (g.2.len -1) 6,rfl,ha.le le,r.le le,eR.TR (K.cX (au A) G.oK) V⟩ V⟩⟩
 .refine(JO av (by simp[aa]) j.s.r V).mono λ_ ab⟨T,I,e,hd,aj,t⟩=>⟨(j.lw F λ_ o=>o).dv t,T,e,Y j t _,?_⟩;exact iy (aq:=(I,_)) (j.to t aj) ⟨hd,((W U t).it V cl).2⟩ V
 .have aW:=am.len;have aV:=G.iY;refine j.pick F V (λ_ o=>o) (g.2.len:Int) λaR ab j0 j1 L t=>?_;have I:=W U t;obtain⟨-,-,-,-,-,-,aG,-,-⟩:=I.iF V A;let⟨aq,hz⟩:=cK g.1.cX aR.toNat;let⟨a',jj,aH,hj,e0,e1,e2,e3,e4,e5⟩:=(I.cX (au A) G.oK).aG hz;have gJ:∀{h s:Nat}{ai:Value},af (bP (q.D::([i.size,f.size,d.size,m.size]++a)) ab) h s=some ai->af ab h s=some ai:=λo=>(eF.1 o).2;refine⟨f0,V,g.2,aG,j0,V,_,gJ e0,_,gJ e1,_,gJ e2,_,gJ e3,_,gJ e4,_,gJ e5,?_⟩;have hZ:∀w∈q.D::(Ks C++([i.size,f.size,d.size,m.size]++a)),w<ab.size:=λw R=>by
   rcases List.mem_cons.1 R with e|e
   .rw[e];exact I.g.bh.2
   .rcases List.mem_append.1 e with e|e
    .obtain⟨X,hw,rfl⟩:=List.mem_map.1 e;exact(I.c X hw).bh.2
    .exact I.lt w e
  refine(G5 hZ L.s.r V (aH.le (bG _ _)) (hj.le (bG _ _)) (G.kU aq (au hz))).mono λ_ aY⟨z',a2,j2,e,aI,aN,_,aU,K⟩=>⟨(L.lw F λ_ o=>o).dv K,_,_,_,_,_,_,e,?_⟩;have aj:=W I K;have al:=L.to K aU;let⟨X,aF⟩:=aj.wr al.s.f A (az hz) (cs:=[.i z'.op,.i z'.dst,.i z'.bQ,.i z'.bM,.s a2,.s j2]) (y:=z') ⟨a2,j2,rfl,aI,aN⟩;have yc:=(aj.c g (au A)).bh;have yq:=I.g.bh;refine⟨kg K F yq _,Y L K _,j0,V,X,λh r=>bo _ _ _ _ λe=>(aj.nc g (au A)) (by rw[<-e];exact bL _ r),iy ⟨al.s.put Z yc.1 _ _,λw R=>by rw[aw];exact al.gJ w R⟩ (aF.it bJ λX hw=>?_) V⟩;rcases dp hw with e|e
  .exact cl X e
  .rw[e];simpa using G.oK
def JP(f:∀d∈a,d<m.size)(l:b∈a)(d:Rd b c P m)(K:P+2000+4*(300+40*Cg 18)<=10^16):aM cq 53 [vp b 0] m (PP IT Tr a b c m (P+50+4*(300+40*Cg 18))):=by
 apply Cw (b,0);simp -zeta only[aC,aB];have e:=d.lt;intro g;have z1:g.size=m.size+1:=by simp[g]
 obtain⟨b1,-⟩:BS [m.size] b c m P g/\True:=⟨(BS.kX (S:=a) d _).1,trivial⟩;clear_value g;refine b1.call (S:=a) e (λ_ h=>h) (Ir (b1.hS f) (by simp[l]) b1.s.r V) λH Q R o r t2 b2 I=>?_;intro y p;obtain⟨b4,w,-⟩:=b2.box (S:=a) (m1:=y) (m2:=p) rfl rfl rfl;clear_value p;have C:=IT.mn _ _ _ _ _ w t2;have k:b∈[o.size,m.size]++a:=by simp[l]
 refine b4.pick e V (λ_ h=>h) 4 λL M _ _ b5 u=>?_;have q:=IT.mn _ _ _ _ _ (BS.le l u) C;refine⟨λ_=>?_,λ_=>b5.call (S:=a) e (λ_ h=>h) (va (b5.hS f) k b5.s.r V q r 14) λt B G z F n j v=>j.iy IT.mn d aL n trivial V _⟩;refine b5.call (S:=a) e (λ_ h=>h) (Ii (b5.hS f) k b5.s.r V q r) λs A T N E D b6 J=>?_;intro O;let⟨i,x⟩:=b6.put (S:=a) d (by simp:o.size∈_) [.s s,.s A];exact i.call (S:=a) e (λ_ h=>h) (va (i.hS f) k i.s.r V (IT.mn _ _ _ _ _ x D) E 14) λt B G z F n j v=>j.iy IT.mn d aL n trivial V _
end
end
section
variable{a:Nat}{c:bO}{l:List Int}{x:O}{K:O->E->Prop}{i:Int}
def Na(l r:List Ce)(o:Nat)(c:Ce)(h:l.length<=o):(l++r).set o c=l++r.set (o -l.length) c:=by
 rw[Yl _ _ h]
def lG:∀(a l r:List Ce)(o:Nat),l.length<=o->js (l++r) o a=l++js r (o -l.length) a
 |[],l,r,o,_=>rfl
 |c::a,l,r,o,h=>by
  simp only[js];rw[Na _ _ _ _ h,lG a l _ (o+1) V];congr 2;omega
def DA:∀(a l r:List Ce)(o:Nat),o+a.length<=l.length->js (l++r) o a=js l o a++r
 |[],l,r,o,_=>rfl
 |c::a,l,r,o,h=>by
  simp only[aV]at h;simp only[js];rw[MD _ _ V,DA a _ _ (o+1) bJ]
def Cf{f:Nat}:∀(b:List (List Ce))(a:Nat)(e:List Ce)(o:Nat)(d:List Ce),(∀c∈b,c.length=f)->b[a]? =some e->o+d.length<=f->js b.flatten (a*f+o) d=(b.set a (js e o d)).flatten
 |[],a,e,o,d,_,h,_=>by simp at h
 |x::b,0,e,o,d,g,h,j=>by
  simp at h;subst h;have i:=g x aX;rw[jD,QM,cE,DA _ _ _ _ V,il,jD]
 |x::b,a+1,e,o,d,g,h,j=>by
  have i:=g x aX;rw[jD,lG _ _ _ _ (by rw[i,gL];omega),jq,jD];have k:(a+1)*f+o -x.length=a*f+o:=by rw[i,gL];omega
  rw[k,Cf b a e o d (λc l=>g c (ai _ l)) (by simpa using h) j]
def _root_.Go.Vc.gE.set{α:Type}{e:Nat}{R:List Ce->α->Prop}{f:List (List Ce)}{l:List α}(h:gE e R f l)(a:Nat){cs:List Ce}{x:α}(m:cs.length=e)(n:R cs x):gE e R (f.set a cs) (l.set a x):=by
 refine⟨by simp[h.len],λc b=>?_,λk c y b d=>?_⟩
 .rcases dp b with b|b
  .exact h.size c b
  .rw[b];exact m
 .by_cases j:k=a
  .subst j;have g:=az b;have i:=az d;simp at g i;rw[dK g]at b;rw[dK i]at d;simp at b d;subst b;subst d;exact n
  .rw[cz (λg=>j g.symm)]at b d;exact h.dx k c y b d
def _root_.Go.Vc.gE.take{α:Type}{e:Nat}{R:List Ce->α->Prop}{b:List (List Ce)}{l:List α}(h:gE e R b l)(n:Nat):gE e R (b.take n) (l.take n):=by
 refine⟨by simp[h.len],λc a=>h.size c (gB a),λj c y a d=>?_⟩;have f:=az a;simp at f;rw[dH V]at a d;exact h.dx j c y a d
def FQ{b:Nat}:∀(a:List (List Ce))(n:Nat),(∀c∈a,c.length=b)->a.flatten.take (n*b)=(a.take n).flatten
 |[],n,_=>aL
 |x::a,0,_=>aL
 |x::a,n+1,h=>by
  have d:=h x aX;rw[jD,List.take_append,nN (by rw[d,gL];omega),Ns,jD];have e:(n+1)*b -x.length=n*b:=by rw[d,gL];omega
  rw[e,FQ a n λc f=>h c (ai _ f)]
section
variable{N:Nat}{d:Nat->Nat}{m:E}{b:O}{h:List bO}
def dS.len(e:dS N d m b h):b.len=h.length:=by
 obtain⟨f,c,a,_⟩:=e;have:=c.len;rw[cp a.size,a.len]at this;omega
def dS.bU(q:dS N d m b h)(e:h[a]? =some c):∃f,af m b.D (b.off+a*3)=some (vi c.aQ)/\af m b.D (b.off+a*3+1)=some (vi c.kG)/\af m b.D (b.off+a*3+2)=some (O.v f)/\ar m f c.aN/\FN N d m f c.aN:=by
 obtain⟨l,o,g,_⟩:=q;let⟨k,j⟩:=cK l a (by rw[g.len];exact az e);obtain⟨f,rfl,p,n⟩:=g.dx a k c j e;have r:=λi c e=>o.iF (a*3+i) c (fV g.size j e);exact⟨f,r 0 (.i c.aQ) rfl,r 1 (.i c.kG) rfl,r 2 (.s f) rfl,p,n⟩
def dS.cells(g:dS N d m b h)(t:h.length<=9223372036854775807):dF m b h:=by
 have r:=g.len;obtain⟨n,e,a,_⟩:=g;refine⟨r,e.le,V,λk x j=>?_⟩;let⟨l,f⟩:=cK n k (by rw[a.len];exact az j);obtain⟨o,rfl,q,s⟩:=a.dx k l x f j;refine⟨_,⟨o,rfl,q⟩,λi c p=>?_⟩;have:=e.iF (k*3+i) c (fV a.size f p);rwa[<-dk]at this
def dS.wr(g:dS N d m b h){a o n:Nat}(f:a<h.length)(j:o+n<=3):eC m b.D (b.off+a*3+o) n:=by
 obtain⟨i,e,c,_⟩:=g;rw[dk];exact e.wr (by rw[cp c.size,c.len];have:(a+1)*3<=h.length*3:=dh _ f;omega)
def dS.D(e:dS N d m b h){a:Nat}(i:a<h.length):d b.D=3/\b.D<m.size:=by
 have j:=e.len;obtain⟨f,c,g,_⟩:=e;have:=c.le;have:=c.D V;exact⟨this.2,this.1⟩
def Sy(N:Nat)(d:Nat->Nat)(m:E)(b:O)(h:List bO)(f:O)(l:List Int):Prop:=
 l≠[]->(d f.D=0/\N<=f.D/\FB m f l)/\∀(i:Nat)(g:O),i<h.length->af m b.D (b.off+i*3+2)=some (O.v g)->g.len≠0->g.D≠f.D
def FB.gK{b:E}{f:O}(h:gY b m aD 1 f (l.map Ce.i))(d:l≠[]):b.size<=f.D/\FB m f l:=by
 rcases h.aG with e|⟨g,c,tail,e,h2,h3,_,_⟩
 .have a:=h.len;rw[e,dW,O.OL,QM]at a;exact absurd (List.length_eq_zero_iff.1 a) d
 .rw[e];exact⟨h2,c,tail,rfl,h3⟩
def Sy.of{a:E}{w:Nat->Nat}{f:O}(q:dS N w a b h)(s:0<h.length->m[b.D]? =a[b.D]?)(u:l≠[]->gY a m aD 1 f (l.map Ce.i))(k:l≠[]->d f.D=0)(A:N<=a.size):Sy N d m b h f l:=λe=>by
 let⟨z,n⟩:=FB.gK (u e) e;refine⟨⟨k e,V,n⟩,λi x r g p=>?_⟩;let⟨c,o⟩:=dZ r;obtain⟨y,_,_,v,kf,_⟩:=q.bU o;rw[aJ (s V),v]at g;have:=O.Hl.1 (mq g);subst this;have t:c.aN≠[]:=λj=>by have:=kf.len;rw[j]at this;simp at this;exact p this
 have:=iP kf t;omega
def dS.put(L:dS N d m b h)(Z:∀g,m.size<=g->d g=0){o:Nat}{p:bO}(I:h[a]? =some c){new:List Ce}(ho:o+new.length<=3)
 (W:∀r,ar m r c.aN->FN N d m r c.aN->∃f,js [.i c.aQ,.i c.kG,.s r] o new=[.i p.aQ,.i p.kG,.s f]/\ar m f p.aN/\FN N d m f p.aN/\(f=r\/Sy N d m b h f p.aN)):
 dS N d (ag m b.D (b.off+a*3+o) new) b (h.set a p)/\dz (λk=>k=3) d m d (ag m b.D (b.off+a*3+o) new):=by
 have B:=az I
 have V:=L.D B
 have J:dz (λk=>k=3) d m d (ag m b.D (b.off+a*3+o) new):=dz.ag Z V.1 _ _
 let⟨v,E,n,F⟩:=L
 let⟨S,w⟩:=cK v a (by rw[n.len];exact B)
 obtain⟨r,rfl,X,T⟩:=n.dx a S c w I
 let⟨f,D,K,U,hd⟩:=W r X T
 have Q:∀(j:Nat)(q:List Ce)(g:O),v[j]? =some q->q[2]? =some (.s g)->j≠a->f.len≠0->g.len≠0->f.D≠g.D:=λj q g e H Y s t=>by
  rcases hd with rfl|hd
  .exact F a j _ q f g w e rfl H (λl=>Y l.symm) s t
  .have u:p.aN≠[]:=λl=>by have:=K.len;rw[l]at this;simp at this;exact s this
   refine kH ((hd u).2 j g (by rw[<-n.len];exact az e) ?_ t);have:=E.iF (j*3+2) _ (fV n.size e H);rwa[<-dk]at this
 refine⟨⟨v.set a (js [.i c.aQ,.i c.kG,.s r] o new),?_,?_,?_⟩,J⟩
 .rw[<-Cf v a _ o new n.size w ho,dk]
  exact E.set (by rw[cp n.size,n.len];have:(a+1)*3<=h.length*3:=dh _ B;omega)
 .rw[D]
  exact(n.set a rfl ⟨f,rfl,K,U⟩).mono (yo.eY J be)
 .rw[D]
  have G:=az w
  intro i j C q x R u e z A y s t
  by_cases M:i=a
  .subst M
   rw[dK G]at u
   rw[cz y]at e
   simp at u;subst u
   simp at z;subst z
   exact Q j q R e A (λl=>y l.symm) s t
  .rw[cz (λl=>M l.symm)]at u
   by_cases P:j=a
   .subst P
    rw[dK G]at e
    simp at e;subst e
    simp at A;subst A
    exact kH (Q i C x u z y t s)
   .rw[cz (λl=>P l.symm)]at e
    exact F i j C q x R u e z A y s t
def dS.tP(j:dS N d m b h)(k:∀e,m.size<=e->d e=0)(g:h[a]? =some c)(n:Int):
 dS N d (ag m b.D (b.off+a*3) [.i n]) b (h.set a {c with aQ:=n})/\dz (λe=>e=3) d m d (ag m b.D (b.off+a*3) [.i n]):=
 j.put k g (o:=0) (new:=[.i n]) aL λf i e=>⟨f,rfl,i,e,Or.inl rfl⟩
def dS.setCell(k:dS N d m b h)(q:∀e,m.size<=e->d e=0)(g:a<h.length)(n t:Int){f:O}(j:ar m f l)(e:Sy N d m b h f l):
 dS N d (ag m b.D (b.off+a*3) [.i n,.i t,.s f]) b (h.set a ⟨n,t,l⟩)/\dz (λi=>i=3) d m d (ag m b.D (b.off+a*3) [.i n,.i t,.s f]):=by
 let⟨c,i⟩:=dZ g
 exact k.put q i (o:=0) (new:=[.i n,.i t,.s f]) aL λr u s=>⟨f,rfl,j,λp=>(e p).1,Or.inr e⟩
def dS.cut(j:dS N d m b h){n:Nat}(v:n<=h.length):dS N d m (b.cut 0 n 3) (h.take n):=by
 have u:=j.len;let⟨f,q,g,r⟩:=j;refine⟨f.take n,by rw[<-FQ f n g.size];exact q.cut V,g.take n,λi k o p a l c e=>?_⟩;have s:i<n:=by have:=az c;simp at this;omega
 have t:k<n:=by have:=az e;simp at this;omega
 rw[dH s]at c;rw[dH t]at e;exact r i k o p a l c e
def dS.push(F:dS N d m b h)(Q:∀c,m.size<=c->d c=0)(S:x.len=1){p t:Int}{f:O}(R:fX m x.D x.off [.i p,.i t,.s f])(E:ar m f l)(C:Sy N d m b h f l)(W:h.length<=2000000000)
 (M:∀z y w,dS N z w y (h++[⟨p,t,l⟩])->dz (λk=>k=3) d m z w->K y w):jM m nD [.i (0:Int),.i (0:Int),.s O.nil] 40 b x K:=by
 have U:=F.len
 let⟨k,D,A,J⟩:=F
 refine iA.append (c:=[.i 0,.i 0,.s .nil]) (d:=[.i p,.i t,.s f]) D Q (by simp[S]) R V λz y w T H=>M z y w ⟨k++[[.i p,.i t,.s f]],by simpa using T,(A.yY (cs:=[.i p,.i t,.s f]) (x:=⟨p,t,l⟩) rfl ⟨f,rfl,E,λe=>(C e).1⟩).mono (yo.eY H be),?_⟩ H
 have G:∀(o:Nat)(q:List Ce)(c:O),k[o]? =some q->q[2]? =some (.s c)->f.len≠0->c.len≠0->f.D≠c.D:=λo q c v s e n=>by
  have P:l≠[]:=λI=>by have:=E.len;rw[I]at this;simp at this;exact e this
  refine kH ((C P).2 o c (by rw[<-A.len];exact az v) ?_ n);have:=D.iF (o*3+2) _ (fV A.size v s);rwa[<-dk]at this
 have Ri:∀{i:Nat}{j:List Ce}{a:O},(k++[[.i p,.i t,.s f]])[i]? =some j->j[2]? =some (.s a)->k[i]? =some j\/(i=k.length/\a=f):=λ{i j a} g r=>by
  rcases aZ i k.length with e|e
  .rw[ax e]at g;exact Or.inl g
  .rw[aF e]at g;have n:i -k.length=0:=by have:=az g;simp at this;omega
   rw[n]at g;simp at g;subst g;simp at r;exact Or.inr ⟨V,r.symm⟩
 intro i o j q a c g v r s L e n
 rcases Ri g r with B|⟨B,rfl⟩
 .rcases Ri v s with u|⟨u,rfl⟩
  .exact J i o j q a c B u r s L e n
  .exact kH (G i j a B r n e)
 .rcases Ri v s with u|⟨u,rfl⟩
  .exact G o q c u s e n
  .omega
end
structure tm(ro:Nat->Nat)(m:E)(fr:O)(fs:List aU)(f:aU)(r o h:O)(css:List (List Ce)):Prop where
 pB:iA ro m cL 6 4 fr (css.flatten++[.i f.eg,.i f.pc,.i f.dst,.s r,.s o,.s h])
 len:css.length=fs.length
 size:∀cs∈css,cs.length=6
 dx:∀(i:Nat)(cs:List Ce)(g:aU),css[i]? =some cs->fs[i]? =some g->Ts ro m i cs g
 an:iA ro m aD 1 (10+3*fs.length) r (f.an.map Ce.i)
 aR:iA ro m aD 1 (11+3*fs.length) o (f.aR.map Ce.i)
 aY:iA ro m aD 1 (12+3*fs.length) h (f.aY.map Ce.i)
section
variable{d n:Nat->Nat}{m k:E}{b:O}{a:List aU}{f:aU}{r e h:O}{j:List (List Ce)}
def pw.fZ(n:pw d m b (a++[f])):∃r e h j,tm d m b a f r e h j:=by
 let⟨j,u,l,v,p⟩:=n;have o:j≠[]:=λc=>by rw[c]at l;simp at l
 have c:j=j.dropLast++[j.getLast o]:=(eD o).symm;generalize j.dropLast=c0 at c;generalize j.getLast o=cl at c;subst c;have t:c0.length=a.length:=by simpa using l
 obtain⟨r,e,h,rfl,y,x,n⟩:=p a.length cl f (by rw[aF V];simp[t]) aL;refine⟨r,e,h,c0,by simpa using u,t,λk w=>v k (by simp[w]),λi k g q s=>p i k g ?_ ?_,y,x,n⟩
 .rw[ax (az q)];exact q
 .rw[ax (az s)];exact s
def tm.uN(T:tm d m b a f r e h j):pw d m b (a++[f]):=by
 refine⟨j++[[.i f.eg,.i f.pc,.i f.dst,.s r,.s e,.s h]],by simpa using T.pB,by simp[T.len],λl c=>?_,λi l o g k=>?_⟩
 .rcases List.mem_append.1 c with c|c
  .exact T.size l c
  .simp at c;subst c;rfl
 .rcases aZ i a.length with n|n
  .rw[ax (by rw[T.len];exact n)]at g;rw[ax n]at k;exact T.dx i l o g k
  .have p:i=a.length:=by have:=az k;simp at this;omega
   subst p;rw[aF (by rw[T.len];omega)]at g;simp[T.len]at g k;subst g;subst k;exact⟨r,e,h,rfl,T.an,T.aR,T.aY⟩
def tm.vX(T:tm d m b a f r e h j):b.len=a.length+1:=by
 have:=T.pB.len;simp only[ba,cp T.size,T.len,aV,eU]at this;omega
def tm.iF(T:tm d m b a f r e h j):af m b.D (b.off+a.length*6)=some (vi f.eg)/\af m b.D (b.off+a.length*6+1)=some (vi f.pc)/\af m b.D (b.off+a.length*6+2)=some (vi f.dst)/\
 af m b.D (b.off+a.length*6+3)=some (O.v r)/\af m b.D (b.off+a.length*6+4)=some (O.v e)/\af m b.D (b.off+a.length*6+5)=some (O.v h):=by
 have l:j.flatten.length=a.length*6:=by rw[cp T.size,T.len]
 have g:=λ(i:Nat)(c:Ce)(k:[Ce.i f.eg,Ce.i f.pc,Ce.i f.dst,Ce.s r,Ce.s e,Ce.s h][i]? =some c)=>T.pB.iF (a.length*6+i) c (by rw[aF V,l,Hp];exact k)
 exact⟨g 0 (.i f.eg) rfl,g 1 (.i f.pc) rfl,g 2 (.i f.dst) rfl,g 3 (.s r) rfl,g 4 (.s e) rfl,g 5 (.s h) rfl⟩
def tm.eY{p:Nat->Prop}(T:tm d m b a f r e h j)(c:dz p d m n k)(g:∀l,(l=4\/10<=l)->¬p l):tm n k b a f r e h j:=
 ⟨T.pB.eY c (g _ V),T.len,T.size,λi o q s t=>(T.dx i o q s t).eY c λl u _=>g l V,T.an.eY c (g _ V),T.aR.eY c (g _ V),T.aY.eY c (g _ V)⟩
def tm.ext(T:tm d m b a f r e h j)(g:∀c,m.size<=c->d c=0)(c:J m k):tm d k b a f r e h j:=T.eY (dz.eT (λ_=>False) c g) λ_ _=>id
def tm.yv{p:Nat->Prop}(T:tm d m b a f r e h j)(s:dz p d m n k)(t:∀c,10<=c->c<10+3*a.length->¬p c):∀(i:Nat)(g:List Ce)(l:aU),j[i]? =some g->a[i]? =some l->Ts n k i g l:=λi g l q o=>
 (T.dx i g l q o).eY s λc u _=>t c V (oh (az o))
def tm.Ep(T:tm d m b a f r e h j)(p:∀c,m.size<=c->d c=0)(n:0<=i)(g:i<f.an.length)(v:Int):
 tm d (ag m r.D (r.off+i.toNat*1) [.i v]) b a {f with an:=gR f.an i v} r e h j/\dz (λk=>4<=k/\k≠9) d m d (ag m r.D (r.off+i.toNat*1) [.i v]):=by
 have o:r.cap≠0:=λl=>by have:=(T.an.Dp l).1;simp at this;rw[this]at g;simp at g;omega
 have c:dz (λk=>k=10+3*a.length) d m d (ag m r.D (r.off+i.toNat*1) [.i v]):=dz.ag p (T.an.D o).2 _ _
 exact⟨⟨T.pB.eY c V,T.len,T.size,T.yv c λk _ q=>V,T.an.gR n g v,T.aR.eY c V,T.aY.eY c V⟩,c.mono λk q=>V⟩
def tm.pY(T:tm d m b a f r e h j)(p:∀c,m.size<=c->d c=0)(n:0<=i)(g:i<f.aR.length)(v:Int):
 tm d (ag m e.D (e.off+i.toNat*1) [.i v]) b a {f with aR:=gR f.aR i v} r e h j/\dz (λk=>4<=k/\k≠9) d m d (ag m e.D (e.off+i.toNat*1) [.i v]):=by
 have o:e.cap≠0:=λl=>by have:=(T.aR.Dp l).1;simp at this;rw[this]at g;simp at g;omega
 have c:dz (λk=>k=11+3*a.length) d m d (ag m e.D (e.off+i.toNat*1) [.i v]):=dz.ag p (T.aR.D o).2 _ _
 exact⟨⟨T.pB.eY c V,T.len,T.size,T.yv c λk _ q=>V,T.an.eY c V,T.aR.gR n g v,T.aY.eY c V⟩,c.mono λk q=>V⟩
def tm.Cc(T:tm d m b a f r e h j)(p:∀c,m.size<=c->d c=0)(n:0<=i)(g:i<f.aY.length)(v:Int):
 tm d (ag m h.D (h.off+i.toNat*1) [.i v]) b a {f with aY:=gR f.aY i v} r e h j/\dz (λk=>4<=k/\k≠9) d m d (ag m h.D (h.off+i.toNat*1) [.i v]):=by
 have o:h.cap≠0:=λl=>by have:=(T.aY.Dp l).1;simp at this;rw[this]at g;simp at g;omega
 have c:dz (λk=>k=12+3*a.length) d m d (ag m h.D (h.off+i.toNat*1) [.i v]):=dz.ag p (T.aY.D o).2 _ _
 exact⟨⟨T.pB.eY c V,T.len,T.size,T.yv c λk _ q=>V,T.an.eY c V,T.aR.eY c V,T.aY.gR n g v⟩,c.mono λk q=>V⟩
def tm.D(T:tm d m b a f r e h j):d b.D=4/\b.D<m.size:=by
 have:=T.vX;have:=T.pB.le;have:=T.pB.D V;exact⟨this.2,this.1⟩
def tm.NX(T:tm d m b a f r e h j)(i:∀c,m.size<=c->d c=0)(v:Int):
 tm d (ag m b.D (b.off+a.length*6+1) [.i v]) b a {f with pc:=v} r e h j/\dz (λk=>4<=k/\k≠9) d m d (ag m b.D (b.off+a.length*6+1) [.i v]):=by
 have c:dz (λk=>k=4) d m d (ag m b.D (b.off+a.length*6+1) [.i v]):=dz.ag i T.D.1 _ _
 refine⟨⟨?_,T.len,T.size,T.yv c λk l n=>V,T.an.eY c V,T.aR.eY c V,T.aY.eY c V⟩,c.mono λk p=>V⟩
 have g:j.flatten.length=a.length*6:=by rw[cp T.size,T.len]
 have:=T.pB.set (o:=a.length*6+1) (new:=[.i v]) (by simp[g])
 rw[lG _ _ _ _ V,g,Hp]at this
 rw[dk];exact this
def tm.VK(T:tm d m b a f r e h j):eC m b.D (b.off+a.length*6+1) 1:=by
 rw[dk];exact T.pB.wr (by simp only[ba,cp T.size,T.len,aV,eU];omega)
end
def pw.VA{d:Nat->Nat}{m:E}{c:O}{a:List aU}{f:aU}(e:pw d m c (a++[f])):pw d m (c.cut 0 a.length 6) a:=by
 let⟨r,o,h,b,T⟩:=e.fZ;have g:b.flatten.length=a.length*6:=by rw[cp T.size,T.len]
 have:=T.pB.cut (n:=a.length) (by rw[T.vX];omega);rw[nF V,nN V]at this;exact⟨b,this,T.len,T.size,T.dx⟩
def pw.push{d:Nat->Nat}{m:E}{l:O}{b:List aU}(D:pw d m l b)(F:∀a,m.size<=a->d a=0)(H:x.len=1){a:aU}{c j g:O}(G:fX m x.D x.off [.i a.eg,.i a.pc,.i a.dst,.s c,.s j,.s g])
 (y:iA d m aD 1 (10+3*b.length) c (a.an.map Ce.i))(z:iA d m aD 1 (11+3*b.length) j (a.aR.map Ce.i))(A:iA d m aD 1 (12+3*b.length) g (a.aY.map Ce.i))(N:b.length<=1000000)
 (n:∀k c e,pw k e c (b++[a])->dz (λp=>p=4) d m k e->K c e):jM m cL [.i (0:Int),.i (0:Int),.i (0:Int),.s O.nil,.s O.nil,.s O.nil] 96 l x K:=by
 let⟨v,q,s,t,J⟩:=D
 have M:l.len=b.length:=by have:=q.len;rw[cp t,s]at this;omega
 refine iA.append (c:=[.i 0,.i 0,.i 0,.s .nil,.s .nil,.s .nil]) (d:=[.i a.eg,.i a.pc,.i a.dst,.s c,.s j,.s g]) q F (by simp[H]) G V λk L e I p2=>n k L e ?_ p2
 exact tm.uN (f:=a) (a:=b) (j:=v) (r:=c) (e:=j) (h:=g) ⟨by simpa using I,s,t,λi u w B C=>(J i u w B C).eY p2 λp n _=>V,y.eY p2 V,z.eY p2 V,A.eY p2 V⟩
end
section
variable{m:E}{d:List bO}{g:Nat->Nat}{b k N j:Nat}{q r:List Int}{c:bO}{i:Int}{e:Nat->Int}
def zV:∀(d:List bO)(k:Nat),k<=d.length->(∀c∈d.take k,c.aQ≠0)->k<=dG d
 |[],k,a,_=>by simp at a;simp[a]
 |c::d,0,_,_=>eO _
 |c::d,k+1,a,b=>by
  have f:=b c aL;have:=zV d k (by simpa using a) (λe hd=>b e (by simp[hd]));simp only[dG];rw[ae f];omega
def HG:∀(d:List bO)(k:Nat)(c:bO),(∀b∈d.take k,b.aQ≠0)->d[k]? =some c->c.aQ=0->dG d=k
 |[],k,c,_,a,_=>by simp at a
 |b::d,0,c,_,a,e=>by simp at a;subst a;simp[dG,e]
 |b::d,k+1,c,f,a,e=>by
  have g:=f b aL;have:=HG d k c (λx h=>f x (by simp[h])) (by simpa using a) e;simp only[dG];rw[ae g,this]
def GF{i:O}(g:dF m i d):vm cq 185 [O.v i] m (vi (dG d)):=by
 apply AQ;have p:=g.len;refine fm (n:=d.length) (p▸g.iC) (λk a=>J m a/\∀c∈d.take k,c.aQ≠0) ⟨J.aA _,aL⟩ ?_;rintro k t I μ o ⟨a,h⟩ q
 refine dit (λl=>?_) λl=>?_
 .let⟨c,f⟩:=cK d k;obtain⟨r,s,j,_⟩:=(dF.ext a g).aG f;refine⟨V,V,c.aQ,by simpa using j,λb=>⟨?_,a⟩,λb=>q V _ ⟨a,bY f h (by simpa using b)⟩⟩;rw[HG d k c h f (by simpa using b)]
 .refine⟨?_,a⟩;have:=zV d k o h;have:=qH d;have e:(i.len:Int)=(dG d:Int):=V;rw[e]
def pu(g:Nat->Nat)(b k:Nat):Nat->Nat:=λc=>if c=b then k else g c
def fQ(g:Nat->Nat)(b k:Nat):pu g b k b=k:=aj rfl
def ez{c:Nat}(d:c≠b):pu g b k c=g c:=ae d
def dz.pu{p:Nat->Prop}{m':E}(d:J m m')(e:∀b,m.size<=b->g b=0)(f:m.size<=b)(h:b<m'.size)(k:Nat):dz p g m (pu g b k) m':=
 ⟨d.size,λc a=>ez V,λc a=>by rw[ez V];exact e c (bX d.size a),λc a _=>d.same c a⟩
def Nl{s:O}(f:dS N g m s d)(p:∀b,m.size<=b->g b=0){c:Nat}(ha:c<=d.length)(w:Int){G:O}(T:ar m G q)(W:d.length<=2000000000)(L:q.length<=1000000000)(I:N<=m.size):
 aM cq 186 [O.v s,vi c,vi w,O.v G] m λZ S=>∃v M,Z=O.v M/\dS N v S M (je d c ⟨1,w,q⟩)/\HC g m v S:=by
 apply IH
 simp -zeta only[aC,aB]
 refine(nB T L).then L λE u o1 Q H=>⟨E,rfl,?_⟩
 intro X a
 have n:J u a:=((J.aA u).aH _).ag (ad _) _ _
 have s3:a.size=u.size+1:=by simp[a,X,aw]
 have t:=H.trans n
 clear_value a
 have y:HC g m g a:=dz.eT _ t p
 have C:=y.new
 have A:dS N g a s d:=f.eY (dz.eT (λ_=>False) t p) id id
 have aa:=f.len
 have R:=Q.ext n
 have P:q≠[]->g E.D=0:=λU=>by
  rcases o1.D with e|e
  .subst e;have:=Q.len;simp at this;exact absurd (List.length_eq_zero_iff.1 this.symm) U
  .exact p _ e
 have K:g u.size=0:=p _ H.size
 refine⟨λe=>?_,λe=>?_⟩
 .simp at e
  intro h
  have i:J a h:=(J.aA a).aH _
  have jm:fX h a.size 0 [.i 1,.i w,.s E]:=(cw.push a _ _).iF
  have F:HC g m g h:=y.trans (dz.eT _ i C)
  have s4:h.size=a.size+1:=by simp[h]
  clear_value h
  refine dS.push (A.eY (dz.eT (λ_=>False) i C) id id) F.new (x:=.mk a.size 0 1 1) rfl jm (R.ext i) (Sy.of f (λz=>(t.trans i).same _ (f.D z).2) (λ_=>o1.ext (n.trans i)) P I) W λv r Y D l=>⟨λb j=>?_,v,r,rfl,?_,F.trans (l.mono λk B=>Or.inl B)⟩
  .simp at j;subst j
   exact l.dQ _ V (by rw[K];decide)
  .rw[je,aj V];exact D
 .simp at e
  have h:c<d.length:=V
  have i:Int.toNat (c:Int)=c:=V
  rw[i]
  refine⟨V,V,A.wr (o:=0) h be,?_⟩
  intro Y
  let⟨D,l⟩:=A.setCell C h 1 w R (Sy.of f (λz=>t.same _ (f.D z).2) (λ_=>o1.ext n) P I)
  refine⟨λb j=>?_,g,s,rfl,?_,y.trans (l.mono λk B=>Or.inl B)⟩
  .simp at j;subst j
   exact l.dQ _ V (by rw[K];decide)
  .rw[je,ae V];exact D
def My(b:d[j]? =some c)(a:c.aQ≠0):ji d (j+1)=j+1:=by
 simp only[ji,b];rw[ae a]
def Qz(b:d[j]? =some c)(a:c.aQ=0):ji d (j+1)=ji d j:=by
 simp only[ji,b];rw[aj a]
def yf{a:O}(b:dF m a d):aM cq 189 [O.v a] m λv n=>v=O.v (a.cut 0 (ji d d.length) 3)/\J m n:=by
 apply Kl;have w:=b.len;have t:=b.cap;have x:=b.iC;refine⟨λi n=>J m n/\∃j:Nat,i=j/\j<=d.length/\ji d j=ji d d.length,λi _=>i.toNat,⟨J.aA _,d.length,V,ad _,rfl⟩,?_⟩;rintro i r ⟨l,j,rfl,y,o⟩;have iy:ji d j=j->Value.slice=Value.slice->(0:Int)<=(0:Int)/\(0:Int)<=(j:Int)/\(j:Int)<=(a.cap:Int)/\(O.v (O.cut a (Int.toNat (0:Int)) (Int.toNat (j:Int)) 3)=O.v (a.cut 0 (ji d d.length) 3)/\J m r):=λe _=>by
  refine⟨V,V,V,?_,l⟩;rw[<-o,e];rfl
 refine⟨λf=>?_,λf=>?_⟩
 .simp only[lx,aq]at f;obtain⟨k,rfl⟩:∃k,j=k+1:=⟨j -1,V⟩;have p:cR (((k+1:Nat):Int) -1)=(k:Int):=by rw[aP V V];omega
  rw[p];let⟨c,h⟩:=cK d k;obtain⟨s,u,q,_⟩:=(dF.ext l b).aG h;refine⟨V,V,c.aQ,by simpa using q,λg=>⟨⟨l,k,rfl,V,?_⟩,by show(k:Int).toNat<((k+1:Nat):Int).toNat;omega⟩,λg=>iy (My h (by simpa using g)) rfl⟩;rw[<-o,Qz h (by simpa using g)]
 .simp only[lx,bD]at f;have:j=0:=V;subst this;exact iy rfl rfl
def iA.VA{s:O}(d:iA g m aD 1 k s ((q++[i]).map Ce.i)):s.len=q.length+1/\af m s.D (s.off+q.length*1)=some (vi i)/\iA g m aD 1 k (s.cut 0 q.length 1) (q.map Ce.i):=by
 have a:s.len=q.length+1:=by have:=d.len;simp at this;omega
 refine⟨a,?_,?_⟩
 .have:=d.iF q.length (.i i) aL;rw[iu];exact this
 .have:=d.cut (n:=q.length) V;rw[iu,fN,nF aL,nN aL]at this;exact this
def fL.RS(h:fL d (λb=>e b+eQ (i::r) b))(c:∀b,0<=e b)(a:gC d i)(f:(aI d i).aQ=1):fL (d.set (ix i) jb) (λb=>e b+eQ ((aI d i).aN.reverse++r) b):=by
 let⟨g,j⟩:=bZ a;refine fL.Rc h g f ?_ be be rfl (by simp[jb]) (by simp[jb]) (λ_=>rfl) λb=>?_
 .simp only[iT a.1,aj];have:=c (ix i);have:=iU r (ix i);omega
 .simp only[iT a.1,lX,Am];omega
def fL.PO(c:fL d (λb=>e b+eQ (i::r) b))(g:∀b,0<=e b)(f:gC d i)(j:(aI d i).aQ≠1):fL (fw d i) (λb=>e b+eQ r b):=by
 let⟨a,h⟩:=bZ f;have k:=(c.cell _ (au a)).hi;refine fL.Ku c a h V V (λb=>?_) ?_
 .simp only[iT f.1];split<;>omega
 .have:=g (ix i);have:=iU r (ix i);omega
def fL.RQ(a:fL d (λb=>e b+eQ (i::r) b))(c:i<1000):fL d (λb=>e b+eQ r b):=
 a.congr λb=>by simp only[eQ];rw[ae V];omega
def fL.PN(f:fL d (λb=>e b+eQ (i::r) b))(c:∀b,0<=e b)(a:1000<=i):gC d i:=
 ⟨a,f.lv _ (by simp only[iT a,aj];have:=c (ix i);have:=iU r (ix i);omega)⟩
def Cm:List bO->Nat
 |[]=>0
 |c::d=>c.aN.length+Cm d
def zW:∀{d:List bO}{e:Nat}{c:bO}(b:bO),d[e]? =some c->Cm (d.set e b)+c.aN.length=Cm d+b.aN.length
 |[],e,c,b,d=>by simp at d
 |g::d,0,c,b,f=>by simp at f;subst f;simp only[il,Cm];omega
 |g::d,e+1,c,b,f=>by
  have:=zW (d:=d) (e:=e) b (by simpa using f);simp only[jq,Cm];omega
def OE:∀{d:List bO},(∀c∈d,c.aN.length<=3)->Cm d<=3*d.length
 |[],_=>by simp[Cm]
 |c::d,a=>by
  have:=OE (λb hd=>a b (ai _ hd));have:=a c aX;simp only[Cm,aV];omega
def Gz{D:O}(hh:dS N g m D d)(hn:∀b,m.size<=b->g b=0){ws:O}(hw:ar m ws [i])(hI:fL d (λb=>e b+eQ [i] b))(X:∀b,0<=e b)(aO:d.length<=2000000000):
 aM cq 143 [O.v D,O.v ws] m λaC v=>∃y am,aC=O.v am/\dS N y v am (ns (gS d [i]))/\HC g m y v:=by
 apply AP
 refine(nB hw aL).then aL λs M o1 i1 h1=>⟨s,rfl,?_⟩
 have ao:s≠.nil:=λe=>by subst e;have:=i1.len;simp at this
 have G:m.size<=s.D/\s.D<M.size:=by
  rcases o1.D with e|e
  .exact absurd e ao
  .rcases o1.lt with z|z
   .exact absurd z ao
   .exact⟨e,z⟩
 have c1:HC g m (pu g s.D 6) M:=dz.pu h1 hn G.1 G.2 6
 have a1:iA (pu g s.D 6) M aD 1 6 s ([i].map Ce.i):=iA.gK o1 λ_=>fQ _ _ _
 have ax:dS N (pu g s.D 6) M D d:=hh.eY (dz.pu (p:=λ_=>False) h1 hn G.1 G.2 6) id id
 have aJ:=OE λc a=>(hI.cell c a).fl
 have aK:=hh.len
 refine Ky (γ:=List bO×List Int) (λh E v=>∃y,dS N y v D h.1/\iA y v aD 1 6 E (h.2.reverse.map Ce.i)/\HC g m y v/\fL h.1 (λb=>e b+eQ h.2 b)/\gS h.1 h.2=gS d [i]/\h.1.length=d.length/\h.2.length+Cm h.1<=1+Cm d) (λh=>Cl h.1+h.2.length) (d,[i])
  ⟨_,ax,a1,c1,hI,rfl,rfl,aL⟩ ?_
 rintro⟨a,st⟩ E m2 aF μ ⟨q,A,a2,h,t,u,K,ae⟩ ab
 simp only[]at A a2 t u K ae
 have ap:E.len=st.length:=by have:=a2.len;simp at this;omega
 refine⟨λS=>?_,λS=>?_⟩
 .simp only[lx,aq]at S
  cases st with
  |nil=>simp at ap;omega
  |cons x r=>
   simp only[QJ]at a2
   let⟨p1,p2,p3⟩:=a2.VA
   simp only[aV,mS]at ap p1 p2 p3 ae
   have e1:cR ((E.len:Int) -1)=(r.length:Int):=by rw[aP V V];omega
   have aG:=a2.le
   rw[e1]
   have z:Int.toNat (0:Int)=0:=rfl
   have e3:Int.toNat (r.length:Int)=r.length:=V
   rw[z,e3]
   refine⟨V,V,x,p2,V,V,V,(fE _ _).then λb P hb n=>⟨b,rfl,λaw=>?_,λav=>?_⟩⟩
   .have hx:=hb.1 aw
    have C:=t.PN X hx
    let⟨j,an⟩:=bZ C
    have ah:=az j
    have aA:ix x=(x -1000).toNat:=rfl
    have aN:=(t.cell _ (au j)).hi
    have e4:cR (x -1000)=x -1000:=aP V V
    rw[e4,<-aA]
    have H:HC q m2 q P:=dz.eT _ n h.new
    have Z:dS N q P D a:=A.eY (dz.eT (λ_=>False) n h.new) id id
    have a3:=p3.eY (dz.eT (λ_=>False) n h.new) id
    obtain⟨f0,g0,_,_,_,_⟩:=Z.bU j
    refine⟨V,V,_,g0,V,V,Z.wr (o:=0) ah be,?_⟩
    have e5:cR ((aI a x).aQ -1)=(aI a x).aQ -1:=aP V V
    rw[e5]
    intro m4
    let⟨aa,c4⟩:=Z.tP H.new j ((aI a x).aQ -1)
    have a4:=a3.eY c4 be
    have R:HC g m q m4:=(h.trans H).trans (c4.mono λk B=>Or.inl B)
    have W:=kD (d:=jb) j
    simp only[aj an,jb]at W
    simp at W
    have aB:(a.set (ix x) {aI a x with aQ:=(aI a x).aQ -1})[ix x]? =some {aI a x with aQ:=(aI a x).aQ -1}:=eH j
    obtain⟨f1,k0,_,k2,kf,kr⟩:=aa.bU aB
    refine⟨V,V,_,k0,λT=>?_,λT=>?_⟩
    .simp only[aE]at T
     have al:(aI a x).aQ=1:=V
     have aH:=(t.cell _ (au j)).fl
     have Y:=kf.len
     simp only[]at Y kf kr
     have I:=zW jb j
     simp only[jb,eU]at I
     refine⟨V,V,f1,k2,iA.append (c:=[.i 0]) (d:=(aI a x).aN.map Ce.i) a4 R.new (by simp[Y]) kf.Ic ?_ λac aR Q q1 q2=>?_⟩
     .have:(E.cut 0 r.length 1).len=r.length:=by have:=a4.len;simp at this;omega
      rw[this,Y];omega
     have ay:=aa.eY q2 be be
     have F:HC g m ac Q:=R.trans (q2.mono λk B=>Or.inr (Or.inr B))
     intro m6
     have U:J Q m6:=(J.aA Q).aH _
     have af:=ay.eY (dz.eT (λ_=>False) U F.new) id id
     have a6:=q1.eY (dz.eT (λ_=>False) U F.new) id
     have ad:HC g m ac m6:=F.trans (dz.eT _ U F.new)
     clear_value m6
     have ai:ix x<(a.set (ix x) {aI a x with aQ:=(aI a x).aQ -1}).length:=by simpa using ah
     refine⟨V,V,af.wr (o:=0) ai be,?_⟩
     intro m7
     let⟨ag,c7⟩:=af.setCell ad.new ai 0 0 (f:=.mk Q.size 0 0 0) (l:=[]) ⟨rfl,aL,aL,aL⟩ (λL=>absurd rfl L)
     rw[XV]at ag
     refine ab (a.set (ix x) jb,(aI a x).aN.reverse++r) _ _ ⟨ac,ag,?_,ad.trans (c7.mono λk B=>Or.inl B),t.RS X C al,?_,by simpa using K,?_⟩ ?_
     .have:=a6.eY c7 be
      simpa using this
     .rw[<-tp C al];exact u
     .simp only[ba,mS]
      have B:Cm (a.set (ix x) jb)+(aI a x).aN.length=Cm a:=by simpa[jb]using I
      omega
     .simp only[ba,mS,aV]
      have B:Cl (a.set (ix x) jb)+((aI a x).aQ.toNat+(aI a x).aN.length)=Cl a:=by simpa[jb]using W
      omega
    .simp only[ak]at T
     have L:(aI a x).aQ≠1:=V
     have B:=kD (d:={aI a x with aQ:=(aI a x).aQ -1}) j
     simp only[aj an]at B
     rw[aj V]at B
     have I:=zW {aI a x with aQ:=(aI a x).aQ -1} j
     refine ab (fw a x,r) _ _ ⟨q,aa,a4,R,t.PO X C L,?_,by simpa[fw]using K,?_⟩ ?_
     .rw[<-qE C L];exact u
     .simp only[fw];simp only[]at I;omega
     .simp only[fw,aV];omega
   .have hx:=fb hb av
    have H:HC q m2 q P:=dz.eT _ n h.new
    refine ab (a,r) _ _ ⟨q,A.eY (dz.eT (λ_=>False) n h.new) id id,p3.eY (dz.eT (λ_=>False) n h.new) id,h.trans H,t.RQ V,?_,K,by simp only[];omega⟩ aL
    rw[<-qF (w:=x) (λj=>hx j.1)];exact u
 .simp only[lx,bD]at S
  have j:st=[]:=List.length_eq_zero_iff.1 V
  subst j
  rw[tn]at u
  subst u
  refine(yf (A.cells V)).mono ?_
  rintro _ P ⟨rfl,n⟩
  refine⟨_,rfl,q,_,rfl,?_,h.trans (dz.eT _ n h.new)⟩
  exact(A.eY (dz.eT (λ_=>False) n h.new) id id).cut (ub _ _)
end
section
variable{i:Int}
structure ST(m0:E)(ro:Nat->Nat)(m:E)(mb e:Nat)(bx:List Ce)(aW hp fr:O)(lo:List Int)(lh:List bO)(fs:List aU)(f:aU)(r o h:O)(css:List (List Ce)):Prop where
 cQ:qA m0 ro m mb e bx aW hp fr lo lh (fs++[f])
 fZ:tm ro m fr fs f r o h css
section
variable{g:E}{a t:Nat->Nat}{m s:E}{d e:Nat}{j:List Ce}{aW l b:O}{q:List Int}{n:List bO}{c:List aU}{f:aU}{r o h:O}{k:List (List Ce)}
def ST.ext(S:ST g a m d e j aW l b q n c f r o h k)(i:J m s):ST g a s d e j aW l b q n c f r o h k/\To a m a s:=
 ⟨⟨(S.cQ.ext i).1,S.fZ.ext S.cQ.new i⟩,(S.cQ.ext i).2⟩
def ST.Ep(S:ST g a m d e j aW l b q n c f r o h k){i:Int}(s:0<=i)(t:i<f.an.length)(v:Int):ST g a (ag m r.D (r.off+i.toNat*1) [.i v]) d e j aW l b q n c {f with an:=gR f.an i v} r o h k/\To a m a (ag m r.D (r.off+i.toNat*1) [.i v]):=by
 let⟨p,u⟩:=S.fZ.Ep S.cQ.new s t v;let⟨w,x⟩:=S.cQ.jJ u p.uN;exact⟨⟨w,p⟩,x⟩
def ST.pY(S:ST g a m d e j aW l b q n c f r o h k){i:Int}(s:0<=i)(t:i<f.aR.length)(v:Int):ST g a (ag m o.D (o.off+i.toNat*1) [.i v]) d e j aW l b q n c {f with aR:=gR f.aR i v} r o h k/\To a m a (ag m o.D (o.off+i.toNat*1) [.i v]):=by
 let⟨p,u⟩:=S.fZ.pY S.cQ.new s t v;let⟨w,x⟩:=S.cQ.jJ u p.uN;exact⟨⟨w,p⟩,x⟩
def ST.Cc(S:ST g a m d e j aW l b q n c f r o h k){i:Int}(s:0<=i)(t:i<f.aY.length)(v:Int):ST g a (ag m h.D (h.off+i.toNat*1) [.i v]) d e j aW l b q n c {f with aY:=gR f.aY i v} r o h k/\To a m a (ag m h.D (h.off+i.toNat*1) [.i v]):=by
 let⟨p,u⟩:=S.fZ.Cc S.cQ.new s t v;let⟨w,x⟩:=S.cQ.jJ u p.uN;exact⟨⟨w,p⟩,x⟩
def ST.NX(S:ST g a m d e j aW l b q n c f r o h k)(v:Int):ST g a (ag m b.D (b.off+c.length*6+1) [.i v]) d e j aW l b q n c {f with pc:=v} r o h k/\To a m a (ag m b.D (b.off+c.length*6+1) [.i v]):=by
 let⟨i,p⟩:=S.fZ.NX S.cQ.new v;let⟨s,t⟩:=S.cQ.jJ p i.uN;exact⟨⟨s,i⟩,t⟩
def ST.jw(S:ST g a m d e j aW l b q n c f r o h k)(i:Nat)(s:List Ce):ST g a (ag m d i s) d e (js j i s) aW l b q n c f r o h k/\To a m a (ag m d i s):=by
 let⟨u,v⟩:=S.cQ.jw i s;exact⟨⟨u,S.fZ.eY (dz.ag (p:=λt=>t=1) S.cQ.new S.cQ.NV i s) λt w=>V⟩,v⟩
def ST.gD(S:ST g a m d e j aW l b q n c f r o h k)(i:HC a m t s){p:O}{u:List bO}(x:dS g.size t s p u):ST g t s d e j aW p b q u c f r o h k/\To a m t s:=by
 let⟨v,w⟩:=S.cQ.gD i x;exact⟨⟨v,S.fZ.eY i λz y=>V⟩,w⟩
def ST.LV(S:ST g a m d e j aW l b q n c f r o h k)(i:dz (λp=>p=2) a m t s){v:O}{u:List Int}(y:iA t s aD 1 2 v (u.map Ce.i)):ST g t s d e j v l b u n c f r o h k/\To a m t s:=by
 let⟨w,x⟩:=S.cQ.LV i y;exact⟨⟨w,S.fZ.eY i λp z=>V⟩,x⟩
end
def dz.Rq{c f:Nat->Nat}{m a:E}(h:To c m f a){b:Nat}(e:b<m.size)(d:c b=0):dY [b] m a:=h.dv (by simpa using⟨e,d⟩)
abbrev SB(d p:O)(s:St)(aW b a:O):List Ce:=[.s d,.s p,.i s.bI,.i s.value,.i s.bC,.i s.bq,.s aW,.s b,.s a]
def Ck(f:E)(h:Nat->Nat)(m:E)(g:Nat)(e p:O)(s:St)(c:E):Prop:=
 ∃d aW b a,qA f d c g bS (SB e p s aW b a) aW b a s.aW s.heap s.av/\To h m d c
def Ck.from{b:E}{f g:Nat->Nat}{m c a:E}{e:Nat}{d p:O}{s:St}(i:Ck b g c e d p s a)(n:To f m g c):Ck b f m e d p s a:=
 let⟨o,aW,l,h,j,k⟩:=i
 ⟨o,aW,l,h,j,n.trans k⟩
section
variable{k:E}{e:Nat->Nat}{m:E}{g:Nat}{d p aW b c:O}{a:St}{j:List aU}{f:aU}{r l h:O}{q:List (List Ce)}
def jY(S:ST k e m g bS (SB d p a aW b c) aW b c a.aW a.heap j f r l h q)(u:j.length<=100000)(v:Int):
 aM cq 142 [vp g 0,vi v] m λw n=>ST k e n g bS (SB d p a aW b c) aW b c a.aW a.heap j {f with pc:=v} r l h q/\To e m e n:=by
 apply pp (g,0)
 have i:af m g 8=some (O.v c):=S.cQ.box.bU 8
 have t:=S.fZ.vX
 have o:cR ((c.len:Int) -1)=(j.length:Int):=by rw[aP V V];omega
 have s:Int.toNat (j.length:Int)=j.length:=V
 refine⟨c,i,c,i,?_⟩
 rw[o,s]
 exact⟨V,V,S.fZ.VK,S.NX v⟩
def Bq(S:ST k e m g bS (SB d p a aW b c) aW b c a.aW a.heap j f r l h q)(P:j.length<=100000)(n:0<=i)(x:i<f.an.length)(y:i<f.aR.length)(w:Int)(W:0<=f.pc/\f.pc<=100000):
 aM cq 135 [vp g 0,vi i,vi w] m λ_ A=>ST k e A g bS (SB d p a aW b c) aW b c a.aW a.heap j (aU.put {f with pc:=f.pc+1} i w 0) r l h q/\To e m e A:=by
 apply uF (g,0)
 simp -zeta only[aC,aB]
 have z:af m g 8=some (O.v c):=S.cQ.box.bU 8
 have T:=S.fZ.vX
 have G:cR ((c.len:Int) -1)=(j.length:Int):=by rw[aP V V];omega
 have H:Int.toNat (j.length:Int)=j.length:=V
 let⟨K,g1,g2,L,M,N⟩:=S.fZ.iF
 have X:r.len=f.an.length:=by have:=S.fZ.an.len;simp at this;omega
 have U:l.len=f.aR.length:=by have:=S.fZ.aR.len;simp at this;omega
 refine⟨c,z,c,z,?_⟩
 rw[G,H]
 refine⟨V,V,_,K,_,g1,_,g2,r,L,l,M,h,N,?_⟩
 intro R o
 have Q:J m o:=((J.aA m).aH _).ag (ad _) _ _
 have Z:o.size=m.size+1:=by simp[o,R,aw]
 have s:e m.size=0:=S.cQ.new _ (ad _)
 let⟨u,t2⟩:=S.ext Q
 clear_value o
 refine⟨n,V,u.fZ.an.Po n x,?_⟩
 intro t
 let⟨v,t3⟩:=u.Ep n x w
 have s3:t.size=o.size:=aw _ _ _ _
 refine⟨t3.Rq (show m.size<o.size by omega) s,n,V,v.fZ.aR.Po n y,?_⟩
 intro B
 let⟨E,C⟩:=v.pY n (by simpa using y) 0
 have s4:B.size=t.size:=aw _ _ _ _
 have I:cR (f.pc+1)=f.pc+1:=aP V V
 rw[I]
 refine⟨C.Rq (show m.size<t.size by omega) s,(jY E P (f.pc+1)).mono ?_⟩
 rintro _ Y ⟨F,D⟩
 exact⟨D.Rq (show m.size<B.size by omega) s,F,((t2.trans t3).trans C).trans D⟩
def tX(S:ST k e m g bS (SB d p a aW b c) aW b c a.aW a.heap j f r l h q)(ab:j.length<=100000)(n:0<=i)(D:i<f.an.length)(s:i<f.aR.length)(w:Int):
 aM cq 145 [vp g 0,vi i,vi w] m λ_ H=>ST k e H g bS (SB d p a aW b c) aW b c a.aW a.heap j (f.put i w (gF w)) r l h q/\To e m e H:=by
 apply uE (g,0)
 simp -zeta only[aC,aB]
 have G:af m g 8=some (O.v c):=S.cQ.box.bU 8
 have aa:=S.fZ.vX
 have N:cR ((c.len:Int) -1)=(j.length:Int):=by rw[aP V V];omega
 have P:Int.toNat (j.length:Int)=j.length:=V
 let⟨R,g1,g2,T,U,W⟩:=S.fZ.iF
 have ag:r.len=f.an.length:=by have:=S.fZ.an.len;simp at this;omega
 have ac:l.len=f.aR.length:=by have:=S.fZ.aR.len;simp at this;omega
 refine⟨c,G,c,G,?_⟩
 rw[N,P]
 refine⟨V,V,_,R,_,g1,_,g2,r,T,l,U,h,W,?_⟩
 intro m1 o
 have Z:J m o:=((J.aA m).aH _).ag (ad _) _ _
 have s2:o.size=m.size+1:=by simp[o,m1,aw]
 have t:e m.size=0:=S.cQ.new _ (ad _)
 let⟨A,t2⟩:=S.ext Z
 clear_value o
 refine⟨n,V,A.fZ.an.Po n D,?_⟩
 intro x
 let⟨B,t3⟩:=A.Ep n D w
 have s3:x.size=o.size:=aw _ _ _ _
 refine⟨t3.Rq (show m.size<o.size by omega) t,n,V,B.fZ.aR.Po n s,?_⟩
 intro I
 let⟨L,y⟩:=B.pY n (by simpa using s) 0
 have s4:I.size=x.size:=aw _ _ _ _
 refine⟨y.Rq (show m.size<x.size by omega) t,(fE _ _).mono ?_⟩
 rintro _ m5 ⟨M,rfl,F,E⟩
 let⟨u,z⟩:=L.ext E
 have s5:=E.size
 refine⟨z.Rq (show m.size<I.size by omega) t,M,rfl,λY=>?_,λX=>?_⟩
 .refine⟨n,V,u.fZ.aR.Po n (by simpa[jV]using s),?_⟩
  intro m6
  let⟨C,K⟩:=u.pY n (by simpa[jV]using s) 1
  refine⟨K.Rq (show m.size<m5.size by omega) t,?_,(((t2.trans t3).trans y).trans z).trans K⟩
  have Q:gR (gR f.aR i 0) i 1=gR f.aR i 1:=by simp[gR,XV]
  have v:gF w=1:=by rw[gF,aj (F.1 Y)]
  simp only[Q]at C
  rw[v];exact C
 .refine⟨?_,((t2.trans t3).trans y).trans z⟩
  have v:gF w=0:=by rw[gF,ae (fb F X)]
  rw[v];exact u
def wB:∀(a:List Int)(g:List bO),(jf g a).length=g.length
 |[],g=>rfl
 |w::a,g=>by rw[jf,wB a];simp[mP]
def El:∀(a:List Int)(g:List bO)(w:Int),jf g (a++[w])=mP (jf g a) w
 |[],g,w=>rfl
 |v::a,g,w=>by rw[cH,jf,El a,jf]
def Ap:∀(a:List Int)(g:List bO)(n:Int),(∀c∈g,-10<=c.aQ/\c.aQ<=n)->∀c∈jf g a,-10<=c.aQ/\c.aQ<=n+a.length
 |[],g,n,h,c,b=>by have:=h c b;simp;omega
 |w::a,g,n,h,c,b=>by
  have:=Ap a (mP g w) (n+1) (λd hd=>by
   rcases nV hd with rfl|⟨i,_,f⟩
   .simp only[aI];cases e:g[ix w]? with
    |none=>
     unfold mP at hd;rw[rU (List.getElem?_eq_none_iff.1 e)]at hd;have:=h _ hd;simp only[aI,e]at this⊢;omega
    |some x=>have:=h x (au e);simp only[vO];omega
   .have:=h d (au f);omega) c b
  simp only[aV];omega
def DB(L:qA k e m g bS (SB d p a aW b c) aW b c a.aW a.heap j){u:O}{l:List Int}(v:ar m u l)(P:l≠[]->e u.D=0)(K:∀w∈l,1000<=w/\ix w<a.heap.length)(H:∀h∈a.heap,-10<=h.aQ/\h.aQ<=999999)(Z:l.length<=1000000)(W:a.heap.length<=2000000000):
 aM cq 141 [vp g 0,O.v u] m λ_ s=>dS k.size e s b (jf a.heap l)/\dz (λf=>f=3) e m e s:=by
 apply vI (g,0)
 have aa:=v.len
 have I:af m g 7=some (O.v b):=L.box.bU 7
 refine fm (n:=l.length) V (λf s=>dS k.size e s b (jf a.heap (l.take f))/\dz (λf=>f=3) e m e s) ⟨L.heap,dz.aA _ L.new⟩ ?_
 rintro f A S μ X ⟨i,q⟩ R
 refine dit (λF=>?_) λF=>?_
 .let⟨x,r⟩:=cK l f
  let⟨ab,z⟩:=K x (au r)
  have y:l≠[]:=λB=>by rw[B]at r;simp at r
  have Q:ar A u l:=iO v λ_=>q.dQ _ (iP v y) (by rw[P y];decide)
  have w:af A g 7=some (O.v b):=by rw[aJ (q.dQ _ L.box.lt (by rw[L.NV];decide))];exact I
  have N:=i.len
  rw[wB]at N
  let⟨h,t⟩:=cK (jf a.heap (l.take f)) (ix x) (by rw[wB];exact z)
  obtain⟨T,E,_⟩:=i.bU t
  have M:ix x=(x -1000).toNat:=rfl
  have C:cR (x -1000)=x -1000:=aP V V
  have U:=Ap (l.take f) a.heap 999999 H h (au t)
  have Y:((l.take f).length:Int)<=1000000:=bJ
  have D:cR (h.aQ+1)=h.aQ+1:=aP V V
  refine⟨V,V,x,by simpa using Q.aG r,b,w,b,w,?_⟩
  rw[C,<-M]
  refine⟨V,V,h.aQ,E,V,V,i.wr (o:=0) (by rw[wB];exact z) be,?_⟩
  rw[D]
  let⟨J,G⟩:=i.tP q.new t (h.aQ+1)
  refine R V _ ⟨?_,q.trans G⟩
  rw[bd r,El]
  have:aI (jf a.heap (l.take f)) x=h:=by simp[aI,t]
  unfold mP
  rw[this];exact J
 .rw[cJ V]at i
  exact⟨i,q⟩
def Bv(L:qA k e m g bS (SB d p a aW b c) aW b c a.aW a.heap j){w:Int}(z:gC a.heap w){i:Nat->Int}(q:fL a.heap i)(M:a.heap.length<=2000000000):
 aM cq 188 [vp g 0,vi w] m λD t=>∃h:Bool,D=vb h/\(h=true<->(aI a.heap w).aQ=1)/\dz (λx=>x=3) e m e t/\(h=true->dS k.size e t b a.heap)/\(h=false->dS k.size e t b (jf (fw a.heap w) (kY (aI a.heap w).aN))):=by
 apply uG (g,0)
 let⟨f,ad⟩:=bZ z
 have P:=az f
 have ab:=L.heap.len
 have N:ix w=(w -1000).toNat:=rfl
 have aa:=z.1
 have G:cR (w -1000)=w -1000:=aP V V
 have r:af m g 7=some (O.v b):=L.box.bU 7
 have ac:=(q.cell _ (au f)).hi
 have H:cR ((aI a.heap w).aQ -1)=(aI a.heap w).aQ -1:=aP V V
 let⟨U,v,g1,g2,W,X⟩:=L.heap.bU f
 rw[G,<-N]
 refine⟨b,r,V,V,_,v,λn=>⟨true,rfl,by simpa using n,dz.aA _ L.new,λ_=>L.heap,sx⟩,λn=>?_⟩
 simp only[ak]at n
 refine⟨b,r,b,r,V,V,_,v,V,V,L.heap.wr (o:=0) P be,?_⟩
 rw[H]
 intro m1
 let⟨y,l⟩:=L.heap.tP L.new f ((aI a.heap w).aQ -1)
 let⟨I,k0,k1,T,kf,kr⟩:=y.bU (eH f)
 let⟨u,t1⟩:=L.gD (l.mono λx A=>Or.inl A) y
 have Z:=(q.cell _ (au f)).fl
 refine⟨b,u.box.bU 7,V,V,I,T,?_⟩
 refine(oR kf (by simp only[];omega)).then (by have:=nZ (aI a.heap w).aN;simp only[];omega) λC m2 o2 B x=>⟨C,rfl,?_⟩
 let⟨E,t2⟩:=u.ext x
 have R:kY (aI a.heap w).aN≠[]->e C.D=0:=λQ=>by
  rcases o2.D with i|i
  .subst i;have:=B.len;simp at this;exact absurd (List.length_eq_zero_iff.1 this.symm) Q
  .exact l.new _ i
 have:=nZ (aI a.heap w).aN
 refine(DB (a:={a with heap:=fw a.heap w}) (j:=j) E B R (λD S=>?_) (λF J=>?_) (by simp only[];omega) (by simpa[fw]using M)).mono ?_
 .let⟨K,A⟩:=lF.1 S
  exact⟨A,by simpa[fw]using az (bZ (q.field (au f) K A)).1⟩
 .rcases nV J with rfl|⟨h,_,A⟩
  .simp only[];omega
  .have:=q.cell F (au A);have K:=this.lo;have Y:=this.hi;omega
 .rintro _ Y ⟨K,A⟩
  exact⟨false,rfl,by simpa using n,(l.trans (dz.eT _ x l.new)).trans A,sx,λ_=>K⟩
end
end
section
variable{q:Nat->Nat}{c:E}{e:Nat}{g:List Ce}{x:Instr}{a j:O}{b:Int}
def zE(c:Nat->Nat)(m:E)(a:List Nat):Prop:=∀b∈a,b<m.size/\c b=0
def zE.to{p:Nat->Prop}{e:Nat->Nat}{m:E}{d:List Nat}(h:zE e m d)(t:dz p e m q c):zE q c d:=λb a=>⟨aO (h b a).1 t.size,by rw[t.jc b (h b a).1];exact(h b a).2⟩
def dz.dL{b:Nat->Nat}{m:E}(t:To b m q c){a:List Nat}(h:zE b m a):dY a m c:=t.dv h
def zE.Km{f:Nat->Nat}{m d e:E}(c:∀b,m.size<=b->f b=0)(g:d.size=m.size+1)(h:e.size=m.size+2):zE f e [d.size,m.size]:=λb a=>by
 simp at a;rcases a with rfl|rfl
 .exact⟨V,c _ V⟩
 .exact⟨V,c _ V⟩
noncomputable def nH (s:St) (a:List aU) (f:aU) (x:Instr) (t:Int):St:=
 open Classical in
 if x.bM≠0/\aG f.aY (x.bM -1)≠0 then
  {s with heap:=s.heap.set (ix (aG f.aY (x.bM -1))) ⟨1,t,cN f x.args⟩,av:=a++[aU.put {f with pc:=f.pc+1,aY:=gR f.aY (x.bM -1) 0} x.dst (aG f.aY (x.bM -1)) 1]}
 else{s with heap:=je s.heap (dG s.heap) ⟨1,t,cN f x.args⟩,av:=a++[aU.put {f with pc:=f.pc+1} x.dst (1000+dG s.heap) 1]}
section
variable{F:E}{A:Nat->Nat}{v:E}{D:Nat}{d p aW y B:O}{u:St}{C:List aU}{t:aU}{r z h:O}{G:List (List Ce)}
def ST.Ar{b:List Int}{a:List bO}(S:ST F A v D e g aW y B b a C t r z h G)(c:t.an.length<=1000000):ar v r t.an:=S.fZ.an.nT V
def ST.Jr{b:List Int}{a:List bO}(S:ST F A v D e g aW y B b a C t r z h G)(c:t.aR.length<=1000000):ar v z t.aR:=S.fZ.aR.nT V
def ST.Re{b:List Int}{a:List bO}(S:ST F A v D e g aW y B b a C t r z h G)(c:t.aY.length<=1000000):ar v h t.aY:=S.fZ.aY.nT V
def uX(S:ST F A v D bS (SB d p u aW y B) aW y B u.aW u.heap C t r z h G)(ha:ar F a x.args)(ah:∀b∈x.args,0<=b/\b<t.an.length)(au:x.args.length<=4)(g:Int)
 (az:t.an.length=t.aR.length/\t.aY.length=t.aR.length/\t.aR.length<=2000)(ai:0<=x.dst/\x.dst<t.aR.length)(ay:0<=x.bM/\x.bM<=t.aY.length)(aA:0<=t.pc/\t.pc<=100000)(ab:C.length<=100000)(aw:u.heap.length<=1000000000)
 (al:∀w∈t.aY,w≠0->1000<=w/\ix w<u.heap.length):
 aM cq 137 [vp D 0,fv t r z h,xv x a j,vi g] v λ_ c=>Ck F A v D d p (nH u C t x g) c:=by
 apply sC (D,0)
 simp -zeta only[aC,aB]
 intro w E
 have ao:J v E:=((J.aA v).aH _).aH _
 have s1:w.size=v.size+1:=by simp[w]
 have s2:E.size=v.size+2:=by simp[E,s1]
 have T:=zE.Km S.cQ.new s1 s2
 let⟨I,t2⟩:=S.ext ao
 clear_value E
 have ax:h.len=t.aY.length:=by have:=S.fZ.aY.len;simp at this;omega
 have q:∀{A v t},ST F A v D bS (SB d p u aW y B) aW y B u.aW u.heap C t r z h G->af v D 7=some (O.v y):=λS=>S.cQ.box.bU 7
 refine⟨y,q I,(GF (I.cQ.heap.cells V)).mono ?_⟩
 rintro _ L ⟨rfl,ac⟩
 let⟨o,t3⟩:=I.ext ac
 have H:=T.to t3
 refine⟨t3.dL T,_,rfl,λaa c=>∃(b:Nat)(e:aU),aa=b/\ST F A c D bS (SB d p u aW y B) aW y B u.aW u.heap C e r z h G/\To A v A c/\zE A c [w.size,v.size]/\b<=u.heap.length/\
  e.an=t.an/\e.aR=t.aR/\e.pc=t.pc/\nH u C t x g={u with heap:=je u.heap b ⟨1,g,cN t x.args⟩,av:=C++[aU.put {e with pc:=t.pc+1} x.dst (1000+b) 1]},?_,?_⟩
 .have none:¬(x.bM≠0/\aG t.aY (x.bM -1)≠0)->∃(b:Nat)(e:aU),((dG u.heap:Nat):Int)=b/\ST F A L D bS (SB d p u aW y B) aW y B u.aW u.heap C e r z h G/\To A v A L/\zE A L [w.size,v.size]/\b<=u.heap.length/\
   e.an=t.an/\e.aR=t.aR/\e.pc=t.pc/\nH u C t x g={u with heap:=je u.heap b ⟨1,g,cN t x.args⟩,av:=C++[aU.put {e with pc:=t.pc+1} x.dst (1000+b) 1]}:=λU=>
   ⟨_,t,rfl,o,t2.trans t3,H,qH _,rfl,rfl,rfl,by rw[nH,ae U]⟩
  refine⟨λK=>?_,λK=>none λP=>by simp at K;omega⟩
  simp at K
  have Q:cR (x.bM -1)=x.bM -1:=aP V V
  rw[Q]
  have k:0<=x.bM -1/\x.bM -1<t.aY.length:=V
  have N:=(o.Re V).pM k.1 k.2
  refine⟨V,V,_,N,λm=>?_,λm=>none λP=>by simp at m;exact P.2 m⟩
  simp at m
  let⟨W,Y⟩:=al _ (fq k.1 k.2) m
  refine⟨V,V,_,N,V,V,o.fZ.aY.Po k.1 k.2,?_⟩
  intro M
  let⟨l,n⟩:=o.Cc k.1 k.2 0
  have X:ix (aG t.aY (x.bM -1))=(aG t.aY (x.bM -1) -1000).toNat:=rfl
  have R:cR (aG t.aY (x.bM -1) -1000)=((ix (aG t.aY (x.bM -1)):Nat):Int):=by rw[aP V V];omega
  refine⟨n.dL H,ix (aG t.aY (x.bM -1)),_,R,l,(t2.trans t3).trans n,H.to n,V,rfl,rfl,rfl,?_⟩
  rw[nH,aj ⟨V,m⟩,je,ae V,iV W]
 .rintro aa M ⟨b,e,rfl,l,n,U,ag,m,eo,ep,ec⟩
  have ap:J F M:=l.cQ.cv
  have am:ar M r t.an:=m▸l.Ar (by rw[m];omega)
  refine⟨y,q l,(sE (f:=t) am (ha.ext ap) ah V).mono ?_⟩
  rintro _ m5 ⟨ws,rfl,ow,ad⟩
  let⟨k,N⟩:=l.ext ad
  have W:=U.to N
  have an:(cN t x.args).length<=1000000000:=by simp[cN];omega
  have iw:ar m5 ws (cN t x.args):=ar.gK ow V
  refine⟨N.dL U,ws,rfl,by rw[q k,q l],(Nl k.cQ.heap k.cQ.new ag g iw V an k.cQ.cv.size).mono ?_⟩
  rintro _ m6 ⟨aq,K,rfl,ak,c6⟩
  let⟨Z,P⟩:=k.gD c6 ak
  have X:=W.to P
  refine⟨P.dL W,K,rfl,Z.cQ.mD (i:=7) aL,?_⟩
  intro m7
  let⟨S7,Q⟩:=Z.jw 7 [.s K]
  have Y:=X.to Q
  have e3:cR (1000+(b:Int))=1000+(b:Int):=aP V V
  have e4:cR (t.pc+1)=t.pc+1:=aP V V
  rw[e3,e4]
  refine⟨Q.dL X,(tX (a:={u with heap:=je u.heap b ⟨1,g,cN t x.args⟩}) S7 ab ai.1 (by rw[m];omega) (by rw[eo];omega) (1000+b)).mono ?_⟩
  rintro _ m8 ⟨S8,R⟩
  refine⟨R.dL Y,(jY (a:={u with heap:=je u.heap b ⟨1,g,cN t x.args⟩}) S8 ab (t.pc+1)).mono ?_⟩
  rintro _ m9 ⟨S9,t9⟩
  refine⟨t9.dL (Y.to R),aq,aW,K,B,?_,((((n.trans N).trans P).trans Q).trans R).trans t9⟩
  rw[ec]
  have e5:gF (1000+(b:Int))=1:=by rw[gF,aj V]
  have:=S9.cQ
  rw[e5]at this
  exact this
def sQ:∀(a aR:List Int)(r:Int),dE aR (a++[r])=gR (dE aR a) r (aG (dE aR a) r+1)
 |[],aR,r=>rfl
 |q::a,aR,r=>by rw[cH,dE,sQ a,dE]
def FD{l:List Int}{i:Int}(h:∀z∈l,0<=z/\z<=b)(d:0<=b):0<=aG l i/\aG l i<=b:=by
 rcases aZ i.toNat l.length with a|a
 .let⟨y,c⟩:=dZ a;rw[DQ c];exact h y (au c)
 .rw[aG,fR,da a];simp;omega
def qU:∀(c aR:List Int)(b:Int),0<=b->(∀z∈aR,0<=z/\z<=b)->∀z∈dE aR c,0<=z/\z<=b+c.length
 |[],aR,b,e,h,z,d=>by have:=h z d;simp;omega
 |r::c,aR,b,e,h,z,d=>by
  have:=qU c (gR aR r (aG aR r+1)) (b+1) V (λq a=>by
   have:=FD (i:=r) h e;rcases pS a with a|a
   .omega
   .have:=h q a;omega) z d
  simp only[aV];omega
noncomputable def tI (u:St) (C:List aU) (t:aU) (x:Instr):St:=
 open Classical in
 if(aI u.heap (aG t.an (aG x.args 0))).aQ=1/\x.op=17 then
  {u with heap:=u.heap.set (ix (aG t.an (aG x.args 0))) ⟨-1,0,df (aI u.heap (aG t.an (aG x.args 0))).aN.length⟩,av:=C++[{t with aR:=dE t.aR (x.args.drop 1),pc:=t.pc+1,aY:=gR t.aY (aG x.args 0) (aG t.an (aG x.args 0))}]}
 else{u with heap:=apart u.heap (aG t.an (aG x.args 0)),av:=C++[{t with aR:=dE t.aR (x.args.drop 1),pc:=t.pc+1}]}
def ud(b:Nat):nE [.i (0:Int)] b=(df b).map Ce.i:=by
 induction b with
 |zero=>rfl
 |succ b a=>
  have:nE [.i (0:Int)] (b+1)=.i 0::nE [.i (0:Int)] b:=by simp[nE,qT]
  rw[this,a];simp[df,qT]
def rj{v:E}(a:0<=b)(e:b<=1000000):aM cq 191 [vi b] v λd c=>d=O.v (.mk v.size 0 b.toNat b.toNat)/\c=v.push (.cells (bA ((df b.toNat).map Ce.i)) aD):=by
 apply IQ;refine⟨a,cY _,V,V,?_⟩;rw[ud];exact⟨rfl,rfl⟩
def Ob{v:E}(b:Nat):gY v (v.push (.cells (bA ((df b).map Ce.i)) aD)) aD 1 (.mk v.size 0 b b) ((df b).map Ce.i):=gY.new (J.aA v) aD 1 _ b (by simp[ku])
def IE(S:ST F A v D bS (SB d p u aW y B) aW y B u.aW u.heap C t r z h G)(ha:ar F a x.args)(ao:∀g∈x.args,0<=g/\g<t.an.length)(aK:1<=x.args.length/\x.args.length<=4)(a1:x.op=16\/x.op=17)
 (aX:t.an.length=t.aR.length/\t.aY.length=t.aR.length/\t.aR.length<=2000)(a2:0<=t.pc/\t.pc<=100000)(am:C.length<=100000)(aQ:u.heap.length<=1000000000)(aH:∀Q∈t.aR,0<=Q/\Q<=999999)
 (ai:gC u.heap (aG t.an (aG x.args 0))){e:Nat->Int}(hI:fL u.heap e):
 aM cq 144 [vp D 0,fv t r z h,xv x a j] v λ_ c=>Ck F A v D d p (tI u C t x) c:=by
 apply td (D,0)
 simp -zeta only[aC,aB]
 intro m1 m2
 have aJ:J v m2:=((J.aA v).aH _).aH _
 have s1:m1.size=v.size+1:=by simp[m1]
 have s2:m2.size=v.size+2:=by simp[m2,s1]
 have B2:=zE.Km S.cQ.new s1 s2
 let⟨S2,t2⟩:=S.ext aJ
 clear_value m2
 have a4:r.len=t.an.length:=by have:=S.fZ.an.len;simp at this;omega
 have a0:z.len=t.aR.length:=by have:=S.fZ.aR.len;simp at this;omega
 have aS:h.len=t.aY.length:=by have:=S.fZ.aY.len;simp at this;omega
 have aN:=ha.len
 have H:0<=aG x.args 0/\aG x.args 0<t.an.length:=ao _ (fq V V)
 have ga:∀{c},J F c->∀{b:Nat}{g},x.args[b]? =some g->af c a.D (a.off+Int.toNat (b:Int)*1)=some (vi g):=λhx b g W=>by simpa using(ha.ext hx).aG W
 refine⟨V,V,aG x.args 0,(ha.ext S2.cQ.cv).pM V V,H.1,V,aG t.an (aG x.args 0),(S2.Ar V).pM H.1 H.2,?_⟩
 refine⟨λak c=>∃b:Nat,ak=b/\1<=b/\b<=x.args.length/\ST F A c D bS (SB d p u aW y B) aW y B u.aW u.heap C {t with aR:=dE t.aR ((x.args.take b).drop 1)} r z h G/\To A v A c/\zE A c [m1.size,v.size],λak _=>((x.args.length:Int) -ak).toNat,⟨1,rfl,V,V,?_,t2,B2⟩,?_⟩
 .have e1:(x.args.take 1).drop 1=[]:=aL
  rw[e1];exact S2
 rintro ak m3 ⟨b,rfl,aT,aU,I,t3,Y⟩
 have aF:∀Q∈dE t.aR ((x.args.take b).drop 1),0<=Q/\Q<=1000010:=λQ hq=>by
  have:=qU _ t.aR 999999 V aH Q hq;have h3:((x.args.take b).drop 1).length<=4:=bJ;omega
 refine dit (λh1=>?_) λh1=>?_
 .let⟨g,W⟩:=cK x.args b
  have K:=ao g (au W)
  have M:g<(dE t.aR ((x.args.take b).drop 1)).length:=by rw[lQ];omega
  have hb:=FD (i:=g) aF V
  refine⟨V,V,g,ga I.cQ.cv W,V,V,g,ga I.cQ.cv W,K.1,V,_,(I.Jr (by simp only[lQ];omega)).pM K.1 M,K.1,V,I.fZ.aR.Po K.1 M,?_⟩
  intro q
  have N:cR (aG (dE t.aR ((x.args.take b).drop 1)) g+1)=aG (dE t.aR ((x.args.take b).drop 1)) g+1:=aP V V
  let⟨E,L⟩:=I.pY K.1 M (aG (dE t.aR ((x.args.take b).drop 1)) g+1)
  have P:q=ag m3 z.D (z.off+g.toNat*1) [.i (aG (dE t.aR ((x.args.take b).drop 1)) g+1)]:=by simp only[q,N]
  clear_value q
  subst P
  refine⟨L.dL Y,?_,?_⟩
  .rw[kW (k:=b) (n:=x.args.length) V V]
   refine⟨b+1,rfl,V,V,?_,t3.trans L,Y.to L⟩
   have e4:(x.args.take (b+1)).drop 1=(x.args.take b).drop 1++[g]:=by
    rw[bd W,List.drop_append_of_le_length bJ]
   rw[e4,sQ]
   exact E
  .rw[kW (k:=b) (n:=x.args.length) V V]
   show((x.args.length:Int) -((b+1:Nat):Int)).toNat<((x.args.length:Int) -(b:Int)).toNat
   omega
 .have e1:(x.args.take b).drop 1=x.args.drop 1:=by rw[cJ V]
  rw[e1]at I
  have a5:=iV ai.1
  let⟨al,a3⟩:=bZ ai
  have ah:=az al
  have aZ:=I.cQ.heap.len
  have e4:cR (t.pc+1)=t.pc+1:=aP V V
  have aV:=ai.1
  have aE:ix (aG t.an (aG x.args 0))=(aG t.an (aG x.args 0) -1000).toNat:=rfl
  have e5:cR (aG t.an (aG x.args 0) -1000)=aG t.an (aG x.args 0) -1000:=aP V V
  rw[e4,e5,<-aE]
  generalize hw:aG t.an (aG x.args 0)=w at*
  have gw:∀{A v lh own' held'},ST F A v D bS (SB d p u aW y B) aW y B u.aW lh C {t with aR:=own',aY:=held'} r z h G->af v r.D (r.off+Int.toNat (aG x.args 0)*1)=some (vi w):=λS=>by rw[<-hw];exact(S.Ar (by simp only[];omega)).pM H.1 H.2
  refine⟨H.1,V,w,gw I,(Bv I.cQ ai hI V).mono ?_⟩
  rintro _ q ⟨aw,rfl,hb,c4,aA,ay⟩
  refine⟨(c4.mono λb N=>by omega:To A m3 A q).dL Y,aw,rfl,λaq=>?_,λap=>?_⟩
  .have ac:=hb.1 aq
   let⟨E,L⟩:=I.gD (c4.mono λb N=>Or.inl N) (aA aq)
   have B4:=Y.to L
   have g7:af q D 7=some (O.v y):=E.cQ.box.bU 7
   refine⟨λaa=>?_,λaa=>?_⟩
   .simp at aa
    let⟨f0,k0,k1,k2,kf,kr⟩:=E.cQ.heap.bU al
    have ax:=(hI.cell _ (au al)).fl
    have aO:=kf.len
    refine⟨y,g7,y,g7,V,V,f0,k2,(rj V V).mono ?_⟩
    rintro _ m5 ⟨rfl,rfl⟩
    have e6:Int.toNat (f0.len:Int)=(aI u.heap w).aN.length:=V
    rw[e6]
    have ab:J q (q.push (.cells (bA ((df (aI u.heap w).aN.length).map Ce.i)) aD)):=J.push _ _
    have oz:=Ob (v:=q) (aI u.heap w).aN.length
    let⟨K,M⟩:=E.ext ab
    have Z:=B4.to M
    have av:A q.size=0:=E.cQ.new _ (ad _)
    generalize q.push (.cells (bA ((df (aI u.heap w).aN.length).map Ce.i)) aD)=m5 at*
    let⟨an,c6⟩:=K.cQ.heap.setCell K.cQ.new ah (-1) 0 (f:=.mk q.size 0 _ _) (ar.gK oz (by rw[ku];omega)) (Sy.of E.cQ.heap (λH=>ab.same _ (E.cQ.heap.D H).2) (λ_=>oz) (λ_=>av) E.cQ.cv.size)
    refine⟨M.dL B4,_,rfl,ab.cr g7,V,V,K.cQ.heap.wr (o:=0) ah be,?_⟩
    intro m6
    let⟨P,R⟩:=K.gD (c6.mono λb N=>Or.inl N) an
    have B6:=Z.to R
    refine⟨R.dL Z,H.1,V,w,gw P,H.1,V,P.fZ.aY.Po H.1 (by simp only[];omega),?_⟩
    intro m7
    let⟨U,T⟩:=P.Cc H.1 (by simp only[];omega) w
    refine⟨T.dL B6,(jY (a:={u with heap:=u.heap.set (ix w) ⟨-1,0,df (aI u.heap w).aN.length⟩}) U am (t.pc+1)).mono ?_⟩
    rintro _ m8 ⟨S8,X⟩
    refine⟨X.dL (B6.to T),A,aW,y,B,?_,(((((t3.trans L).trans M).trans R).trans T).trans X)⟩
    rw[tI,hw,aj ⟨ac,aa⟩]
    exact S8.cQ
   .simp at aa
    refine⟨y,g7,?_⟩
    intro m5
    have ab:J q m5:=(J.aA q).aH _
    let⟨K,M⟩:=E.ext ab
    have Z:=B4.to M
    clear_value m5
    refine⟨V,V,K.cQ.heap.wr (o:=0) ah be,?_⟩
    intro m6
    let⟨an,c6⟩:=K.cQ.heap.setCell K.cQ.new ah 0 0 (f:=.mk q.size 0 0 0) (l:=[]) ⟨rfl,aL,aL,aL⟩ (λav=>absurd rfl av)
    let⟨P,R⟩:=K.gD (c6.mono λb N=>Or.inl N) an
    have B6:=Z.to R
    refine⟨R.dL Z,y,P.cQ.box.bU 7,(yf (P.cQ.heap.cells bJ)).mono ?_⟩
    rintro _ m7 ⟨rfl,ax⟩
    let⟨U,T⟩:=P.ext ax
    have B7:=B6.to T
    refine⟨T.dL B6,_,rfl,U.cQ.mD (i:=7) aL,?_⟩
    intro m8
    obtain⟨av,aO⟩:=U.gD (dz.aA _ U.cQ.new) (U.cQ.heap.cut (ub _ _))
    obtain⟨S8,X⟩:=av.jw 7 [.s (y.cut 0 (ji (u.heap.set (ix w) jb) (u.heap.set (ix w) jb).length) 3)]
    refine⟨X.dL B7,(jY (a:={u with heap:=ns (u.heap.set (ix w) jb)}) S8 am (t.pc+1)).mono ?_⟩
    rintro _ m9 ⟨S9,t9⟩
    refine⟨t9.dL (B7.to X),A,aW,y.cut 0 (ji (u.heap.set (ix w) jb) (u.heap.set (ix w) jb).length) 3,B,?_,((((((t3.trans L).trans M).trans R).trans T).trans X).trans t9)⟩
    rw[tI,hw,ae (λhh=>aa hh.2),Go.Proofs.YtkoifinbblcbiaaGreat.apart,aj ac]
    exact S9.cQ
  .have ac:(aI u.heap w).aQ≠1:=λe=>by have:=hb.2 e;rw[ap]at this;simp at this
   let⟨E,L⟩:=I.gD (c4.mono λb N=>Or.inl N) (ay ap)
   refine(jY (a:={u with heap:=jf (fw u.heap w) (kY (aI u.heap w).aN)}) E am (t.pc+1)).mono ?_
   rintro _ m5 ⟨K,M⟩
   refine⟨M.dL (Y.to L),A,aW,y,B,?_,(t3.trans L).trans M⟩
   rw[tI,hw,ae (λhh=>ac hh.1),Go.Proofs.YtkoifinbblcbiaaGreat.apart,ae ac]
   exact K.cQ
end
end
section
variable{e:cg}{c:Instr}{j:O}{l:List Int}{g b1 b2 b3 k:Nat}{b:E}
def iG(e:cg)(c:Instr):Nat->List Int->List Int
 |_,[]=>[]
 |k,w::j=>(if(c.op=9\/c.op=24)/\nI e c k=true then 0 else gF w)::iG e c (k+1) j
def Dy(e:cg)(c:Instr):∀(l r:List Int)(k:Nat),iG e c k (l++r)=iG e c k l++iG e c (k+l.length) r
 |[],r,k=>by simp[iG]
 |b::l,r,k=>by
  have:=Dy e c l r (k+1);simp only[cH,iG,this,aV];have a:k+(l.length+1)=k+1+l.length:=V;rw[a]
def Eh(e:cg)(c:Instr):∀(l:List Int)(k:Nat),(iG e c k l).length=l.length
 |[],k=>rfl
 |a::l,k=>by simp only[iG,aV,Eh e c l]
def Jq{e:cg}{c:Instr}(a:c.op=9\/c.op=24):∀(l:List Int)(k:Nat),iG e c k l=dI (dC e c.bQ).cO k l
 |[],k=>rfl
 |d::l,k=>by
  simp only[iG,dI,Jq a l];congr 1;unfold nI;by_cases h:((dC e c.bQ).cO.any λy=>y==(k:Int))=true
  .rw[aj ⟨a,h⟩,aj h]
  .rw[ae (λb=>h b.2),ae h]
def Gm{e:cg}{c:Instr}(a:¬(c.op=9\/c.op=24)):∀(l:List Int)(k:Nat),iG e c k l=dI [] k l
 |[],k=>rfl
 |d::l,k=>by
  simp only[iG,dI,Gm a l,QI,ig,qt];rw[ae (λb=>a b.1)]
def EU{m:E}{p:Nat}{r A:O}(aa:eW m r A e)(T:af m p 0=some (O.v r))(g1:af m p 1=some (O.v A))(Z:zG e c)(D P:O)(K:ar m j l)(ac:l.length<=1000000):
 oG 190 [vp p 0,xv c D P,O.v j] m (iG e c 0 l):=by
 apply rQ (p,0)
 simp -zeta only[aC,aB]
 intro a y
 have w:J m a:=(J.aA m).aH _
 have W:J a y:=(J.aA a).aH _
 have ho:gY a y aD 1 (.mk a.size 0 0 0) []:=gY.new (J.aA a) aD 1 [] 0 aL
 have f:∀q∈[m.size],q<a.size:=by simp[a]
 have ad:=K.len
 clear_value y
 clear_value a
 refine dV (n:=l.length) V (λk B b=>J a b/\gY a b aD 1 B ((iG e c 0 (l.take k)).map Ce.i)) ⟨W,by simpa[iG]using ho⟩ ?_
 rintro k B m3 ab μ hk ⟨L,g⟩ z
 have M:=w.trans L
 refine dit (λU=>?_) λU=>?_
 .let⟨C,N⟩:=cK l k
  have I:(l.take k).length=k:=bJ
  have v:iG e c 0 (l.take (k+1))=iG e c 0 (l.take k)++[if(c.op=9\/c.op=24)/\nI e c k=true then 0 else gF C]:=by
   rw[bd N,Dy,I];simp[iG]
  have u:(iG e c 0 (l.take k)).length<1000000000:=by rw[Eh,I];omega
  refine⟨V,V,C,by simpa using M.af (K.aG N),(fE _ _).aK L f λq m4 G s i=>⟨q,rfl,λY=>?_,λX=>?_⟩⟩
  .have x:=w.trans i
   refine⟨r,x.af T,A,x.af g1,(sB (aa.ext x) Z D P k).aK i f λb2 m5 H F o=>⟨b2,rfl,λt=>?_,λt=>?_⟩⟩
   .intro Q
    refine nX ((g.ext s).ext F) o u λS R h d=>⟨J.tO (o.aH _) d f,z V _ _ ⟨d,?_⟩⟩
    rw[v,ae (nb H t),gF,aj (G.1 Y)];exact h
   .intro Q
    refine nX ((g.ext s).ext F) o u λS R h d=>⟨J.tO (o.aH _) d f,z V _ _ ⟨d,?_⟩⟩
    rw[v,aj (yb H t)];exact h
  .intro Q
   refine nX (g.ext s) i u λS R h d=>⟨J.tO (i.aH _) d f,z V _ _ ⟨d,?_⟩⟩
   rw[v]
   have o:(if(c.op=9\/c.op=24)/\nI e c k=true then 0 else gF C)=0:=by
    rw[gF,ae (fb G X)];split<;>rfl
   rw[o];exact h
 .rw[cJ V]at g
  exact⟨B,rfl,g.cv w.size,M⟩
structure pE(m b:E)(b1 b2 b3 g:Nat)(an aR aY:List Int):Prop where
 ext:J m b
 lo:m.size<=b1/\m.size<=b2/\m.size<=b3/\b1≠b2/\b1≠b3/\b2≠b3/\b1<b.size/\b2<b.size/\b3<b.size
 kr:cw b b1 aD (an.map Ce.i)
 ko:cw b b2 aD (aR.map Ce.i)
 kh:cw b b3 aD (aY.map Ce.i)
 len:an.length=g/\aR.length=g/\aY.length=g
def KZ{a:E}{b:Nat}(d:cw a b aD ((df g).map Ce.i))(f:l.length<=g):cw (ag a b 0 (l.map Ce.i)) b aD ((l++df (g -l.length)).map Ce.i):=by
 have:=cw.ag (m:=a) (o:=0) (r:=l.map Ce.i) d;have e:js ((df g).map Ce.i) 0 (l.map Ce.i)=(l++df (g -l.length)).map Ce.i:=by
  have c:=Cd [] (l.map Ce.i) ((df g).map Ce.i) (by simp[ku];omega);simp only[dX,eU]at c;rw[c];simp[df,List.drop_replicate]
 rw[e]at this;exact this
def yB{m:E}{H R:O}(K:eW m H R e){r:Int}(S:0<=r){q:dA}(M:e.cC[r.toNat]? =some q)(C:0<=q.an/\q.an<=2000)(I:Int){G:O}{d h:List Int}(N:ar m j d)(L:ar m G h)(ag:(d.length:Int)<=q.an)(ae:h.length=d.length):
 aM cq 159 [.agg #[O.v H,O.v R],vi r,vi I,O.v j,O.v G] m λab b=>∃b1 b2 b3,ab=.agg #[vi r,vi 0,vi I,O.v (.mk b1 0 q.an.toNat q.an.toNat),O.v (.mk b2 0 q.an.toNat q.an.toNat),O.v (.mk b3 0 q.an.toNat q.an.toNat)]/\
  pE m b b1 b2 b3 q.an.toNat (d++df (q.an.toNat -d.length)) (h++df (q.an.toNat -h.length)) (df q.an.toNat):=by
 apply EI
 simp -zeta only[aC,aB]
 intro x a
 have w:J m a:=((J.aA m).aH _).aH _
 have s1:x.size=m.size+1:=by simp[x]
 have s2:a.size=m.size+2:=by simp[a,s1]
 have k:∀g∈[x.size,m.size],g<a.size:=bJ
 have af:=K.cC.len
 have ac:=az M
 have X:=N.len
 have W:=L.len
 clear_value a
 obtain⟨a',l',c',_,_,_,_,_,_,k3,_⟩:=(K.ext w).cC.aG M
 refine⟨S,V,q.an,k3,(rj C.1 V).mono ?_⟩
 rintro _ c ⟨rfl,n⟩
 have z:J a c:=by rw[n];exact J.push _ _
 have s3:c.size=a.size+1:=by rw[n];simp
 have P:cw c a.size aD ((df q.an.toNat).map Ce.i):=by rw[n];exact cw.push _ _ _
 clear n
 refine⟨z.dv k,_,rfl,(rj C.1 V).mono ?_⟩
 rintro _ y ⟨rfl,o⟩
 have u:J c y:=by rw[o];exact J.push _ _
 have s4:y.size=c.size+1:=by rw[o];simp
 have Z:cw y c.size aD ((df q.an.toNat).map Ce.i):=by rw[o];exact cw.push _ _ _
 clear o
 have A:=z.trans u
 have T:min j.len q.an.toNat=d.length:=by rw[X];exact jd V
 have U:min G.len q.an.toNat=h.length:=by rw[W];exact jd V
 refine⟨u.dv (λg B=>z.lt (k g B)),_,rfl,d.map Ce.i,by simp only[O.iS];rw[T];simp,(N.ext (w.trans A)).Ic,(P.ext u).eC (by simp[ku];omega),?_⟩
 intro i
 have k5:cw i a.size aD ((d++df (q.an.toNat -d.length)).map Ce.i):=KZ (P.ext u) V
 have Q:cw i c.size aD ((df q.an.toNat).map Ce.i):=Z.congr (bo _ _ _ _ (show c.size≠a.size by omega))
 have s:J a i:=A.ag (ad _) _ _
 have s5:i.size=y.size:=aw _ _ _ _
 clear_value i
 refine⟨J.tO A s k,h.map Ce.i,by simp only[O.iS];rw[U];simp,(L.ext (w.trans s)).Ic,Q.eC (by simp[ku];omega),?_⟩
 intro f
 have k6:cw f c.size aD ((h++df (q.an.toNat -h.length)).map Ce.i):=KZ Q V
 have aa:cw f a.size aD ((d++df (q.an.toNat -d.length)).map Ce.i):=k5.congr (bo _ _ _ _ (show a.size≠c.size by omega))
 have t:J a f:=s.ag (show a.size<=c.size by omega) _ _
 have s6:f.size=i.size:=aw _ _ _ _
 clear_value f
 refine⟨J.tO s t k,(rj C.1 V).mono ?_⟩
 rintro _ l ⟨rfl,p⟩
 have v:J f l:=by rw[p];exact J.push _ _
 have s7:l.size=f.size+1:=by rw[p];simp
 have k7:cw l f.size aD ((df q.an.toNat).map Ce.i):=by rw[p];exact cw.push _ _ _
 clear p
 refine⟨J.tO t (t.trans v) k,_,rfl,?_⟩
 intro D
 have Y:J m D:=(w.trans (t.trans v)).ag V _ _
 have s8:D.size=l.size:=aw _ _ _ _
 have F:∀g,g≠x.size->D[g]? =l[g]? :=λg B=>bo _ _ _ _ B
 refine⟨a.size,c.size,f.size,rfl,Y,V,(aa.ext v).congr (F _ V),(k6.ext v).congr (F _ V),k7.congr (F _ V),by simp[ku];omega⟩
def mJ(a:Nat->Nat)(b1 b2 b3 g:Nat):Nat->Nat:=pu (pu (pu a b1 (10+3*g)) b2 (11+3*g)) b3 (12+3*g)
def pE.eY{p:Nat->Prop}{d:Nat->Nat}{m:E}{an aR aY:List Int}(N:pE m b b1 b2 b3 k an aR aY)(e:∀a,m.size<=a->d a=0):dz p d m (mJ d b1 b2 b3 g) b:=by
 have f:=N.lo;refine⟨N.ext.size,λa c=>?_,λa c=>?_,λa c _=>N.ext.same a c⟩
 .unfold mJ;rw[ez V,ez V,ez V]
 .unfold mJ;rw[ez V,ez V,ez V];exact e a (oh N.ext.size)
def pE.pB{a:Nat->Nat}{m:E}{an aR aY:List Int}(N:pE m b b1 b2 b3 k an aR aY):
 iA (mJ a b1 b2 b3 g) b aD 1 (10+3*g) (.mk b1 0 k k) (an.map Ce.i)/\iA (mJ a b1 b2 b3 g) b aD 1 (11+3*g) (.mk b2 0 k k) (aR.map Ce.i)/\iA (mJ a b1 b2 b3 g) b aD 1 (12+3*g) (.mk b3 0 k k) (aY.map Ce.i):=by
 have f:=N.lo
 let⟨c,d,e⟩:=N.len
 refine⟨⟨by simp[c],aL,Or.inr ⟨b1,k,[],rfl,?_,by rw[dO];exact N.kr,by simp[c]⟩⟩,⟨by simp[d],aL,Or.inr ⟨b2,k,[],rfl,?_,by rw[dO];exact N.ko,by simp[d]⟩⟩,⟨by simp[e],aL,Or.inr ⟨b3,k,[],rfl,?_,by rw[dO];exact N.kh,by simp[e]⟩⟩⟩
 .unfold mJ;rw[ez V,ez V,fQ]
 .unfold mJ;rw[ez V,fQ]
 .unfold mJ;rw[fQ]
def pE.box{m:E}{an aR aY:List Int}(N:pE m b b1 b2 b3 k an aR aY){m1:E}(a:J m1 m){nb:Nat}(d:m1.size<=nb)(e:nb<m.size)(i:Nat)(c:List Ce):pE m1 (ag b nb i c) b1 b2 b3 k an aR aY:=by
 have f:=N.lo;have g:=a.size;exact⟨(a.trans N.ext).ag d _ _,by rw[aw];omega,N.kr.congr (bo _ _ _ _ V),N.ko.congr (bo _ _ _ _ V),N.kh.congr (bo _ _ _ _ V),N.len⟩
def pE.PV{m c:E}{an aR aY:List Int}(N:pE m b b1 b2 b3 k an aR aY)(a:J b c):pE m c b1 b2 b3 k an aR aY:=by
 have d:=N.lo;have:=a.size;exact⟨N.ext.trans a,V,N.kr.ext a,N.ko.ext a,N.kh.ext a,N.len⟩
section
variable{B:E}{v:Nat->Nat}{m:E}{w:Nat}{d p aW z t:O}{s:St}{q:List aU}{u:aU}{D C A:O}{y:List (List Ce)}
def tm.replace{c:Nat->Nat}(T:tm v m t q u D C A y)(s:dz (λ_=>False) v m c b){a:aU}{g e d:O}(w:iA c b aD 1 (10+3*q.length) g (a.an.map Ce.i))(n:iA c b aD 1 (11+3*q.length) e (a.aR.map Ce.i))(p:iA c b aD 1 (12+3*q.length) d (a.aY.map Ce.i)):
 eC b t.D (t.off+q.length*6) 6/\pw c (ag b t.D (t.off+q.length*6) [.i a.eg,.i a.pc,.i a.dst,.s g,.s e,.s d]) t (q++[a])/\dz (λk=>k=4) c b c (ag b t.D (t.off+q.length*6) [.i a.eg,.i a.pc,.i a.dst,.s g,.s e,.s d]):=by
 have j:tm c b t q u D C A y:=T.eY s λ_ _=>id
 have l:y.flatten.length=q.length*6:=by rw[cp T.size,T.len]
 have i:dz (λk=>k=4) c b c (ag b t.D (t.off+q.length*6) [.i a.eg,.i a.pc,.i a.dst,.s g,.s e,.s d]):=dz.ag s.new j.D.1 _ _
 refine⟨j.pB.wr (by simp[l]),tm.uN (f:=a) (a:=q) (j:=y) (r:=g) (e:=e) (h:=d) ⟨?_,T.len,T.size,j.yv i λk n p=>V,w.eY i V,n.eY i V,p.eY i V⟩,i⟩
 have:=j.pB.set (o:=q.length*6) (new:=[.i a.eg,.i a.pc,.i a.dst,.s g,.s e,.s d]) (by simp[l])
 rw[lG _ _ _ _ V,l,QL]at this
 exact this
def Nu(w nb:Nat)(d:List Nat)(k n f:Int)(g g1 g2:Int)(l j h:O)(e:E)(R:Value->E->Prop):Prop:=
 ((k==(24:Int))=true->
 let b:E:=ag e nb 2 [.i f]
 ∃a:O,af b w 8=some (O.v a)/\
 ∃c:O,af b w 8=some (O.v c)/\
 (0:Int)<=(cR ((c.len:Int) -(1:Int)))/\(cR ((c.len:Int) -(1:Int)))<(a.len:Int)/\
 eC b a.D (a.off+Int.toNat (cR ((c.len:Int) -(1:Int)))*6) 6/\
 let i:E:=ag b a.D (a.off+Int.toNat (cR ((c.len:Int) -(1:Int)))*6) [.i g,.i g1,.i f,.s l,.s j,.s h]
 dY (nb::d) b i/\
 R (.tuple #[]) i)/\
 ((k==(24:Int))=false->
 aM cq 142 [vp w 0,vi (cR (n+(1:Int)))] e λ_ a=>
 dY (nb::d) e a/\
 ∃m:O,af a w 8=some (O.v m)/\
 let c:E:=a.push (.cells (bA [.i g,.i g1,.i g2,.s l,.s j,.s h]) cL)
 af c w 8=af a w 8/\
 jM c cL [.i (0:Int),.i (0:Int),.i (0:Int),.s O.nil,.s O.nil,.s O.nil] 96 m (O.mk a.size 0 1 1) λo b=>
 dY (nb::d) c b/\
 eC b w 8 1/\
 let i:E:=ag b w 8 [.s o]
 dY (nb::d) b i/\
 R (.tuple #[]) i)
def Oz(S:ST B v m w bS (SB d p s aW z t) aW z t s.aW s.heap q u D C A y){W:List Nat}(G:zE v m W){nb:Nat}{h:E}{g:aU}(N:pE m h b1 b2 b3 k g.an g.aR g.aY)(ah:m.size<=nb/\nb<h.size)(r:nb≠b1/\nb≠b2/\nb≠b3)
 (az:q.length<=100000)(aC:0<=u.pc/\u.pc<=100000){R:Value->E->Prop}
 (aq:c.op=24->∀b,Ck B v m w d p {s with av:=q++[{g with dst:=u.dst}]} b->R (.tuple #[]) b)
 (ar:c.op≠24->∀b,Ck B v m w d p {s with av:=q++[{u with pc:=u.pc+1},g]} b->R (.tuple #[]) b):
 Nu w nb W c.op u.pc u.dst g.eg g.pc g.dst (.mk b1 0 k k) (.mk b2 0 k k) (.mk b3 0 k k) h R:=by
 have aA:=N.lo
 have ay:=S.fZ.vX
 have F:cR ((t.len:Int) -1)=(q.length:Int):=by rw[aP V V];omega
 have e2:Int.toNat (q.length:Int)=q.length:=V
 have e4:cR (u.pc+1)=u.pc+1:=aP V V
 have ai:v nb=0:=S.cQ.new _ ah.1
 have aB:=N.ext.size
 refine⟨λM=>?_,λM=>?_⟩
 .intro H
  have P:pE m H b1 b2 b3 k g.an g.aR g.aY:=⟨N.ext.ag ah.1 _ _,by simp only[H,aw];omega,N.kr.congr (bo _ _ _ _ (λF=>r.1 F.symm)),N.ko.congr (bo _ _ _ _ (λF=>r.2.1 F.symm)),N.kh.congr (bo _ _ _ _ (λF=>r.2.2 F.symm)),N.len⟩
  have ab:H.size=h.size:=aw _ _ _ _
  clear_value H
  have o:dz (λ_=>False) v m (mJ v b1 b2 b3 q.length) H:=P.eY S.cQ.new
  let⟨U,a2,a3⟩:=P.pB (a:=v) (g:=q.length)
  let⟨Z,w2,I⟩:=S.fZ.replace o (a:={g with dst:=u.dst}) U a2 a3
  let⟨L,X⟩:=S.cQ.gD (o.mono λ_=>False.elim) (S.cQ.heap.eY o id id)
  have K:af H w 8=some (O.v t):=L.box.bU 8
  refine⟨t,K,t,K,?_⟩
  rw[F,e2]
  refine⟨V,V,Z,?_⟩
  intro aa
  let⟨T,Y⟩:=L.jJ (I.mono λk Q=>V) w2
  refine⟨?_,aq (by simpa using M) _ ⟨_,aW,z,t,T,X.trans Y⟩⟩
  intro j e
  rcases List.mem_cons.1 e with rfl|e
  .refine I.dQ _ V ?_
   unfold mJ;rw[ez r.2.2,ez r.2.1,ez r.1,ai];decide
  .refine I.dQ _ (oh ((G j e).1)) ?_
   rw[o.jc j (G j e).1,(G j e).2];decide
 .simp only[ak]at M
  rw[e4]
  have o:dz (λ_=>False) v m (mJ v b1 b2 b3 (q.length+1)) h:=N.eY S.cQ.new
  let⟨U,a2,a3⟩:=N.pB (a:=v) (g:=q.length+1)
  let⟨ao,ax⟩:=S.cQ.gD (o.mono λ_=>False.elim) (S.cQ.heap.eY o id id)
  have I:ST B (mJ v b1 b2 b3 (q.length+1)) h w bS (SB d p s aW z t) aW z t s.aW s.heap q u D C A y:=⟨ao,S.fZ.eY o λ_ _=>id⟩
  have ag:zE (mJ v b1 b2 b3 (q.length+1)) h (nb::W):=λj e=>by
   rcases List.mem_cons.1 e with rfl|e
   .refine⟨V,?_⟩;unfold mJ;rw[ez r.2.2,ez r.2.1,ez r.1,ai]
   .exact⟨by have:=(G j e).1;omega,by rw[o.jc j (G j e).1];exact(G j e).2⟩
  apply pp (w,0)
  have K:af h w 8=some (O.v t):=I.cQ.box.bU 8
  refine⟨t,K,t,K,?_⟩
  rw[F,e2]
  refine⟨V,V,I.fZ.VK,?_⟩
  intro H
  let⟨L,aa⟩:=I.NX (u.pc+1)
  have ap:dz (λk=>k=4) (mJ v b1 b2 b3 (q.length+1)) h (mJ v b1 b2 b3 (q.length+1)) H:=dz.ag I.cQ.new I.fZ.D.1 _ _
  refine⟨aa.dL ag,t,L.cQ.box.bU 8,?_⟩
  intro Z
  have Y:J H Z:=(J.aA H).aH _
  let⟨T,am⟩:=L.ext Y
  have ac:=(ag.to aa).to am
  have jm:fX Z H.size 0 [.i g.eg,.i g.pc,.i g.dst,.s (.mk b1 0 k k),.s (.mk b2 0 k k),.s (.mk b3 0 k k)]:=(cw.push H _ _).iF
  have P:(q++[{u with pc:=u.pc+1}]).length=q.length+1:=aL
  have X:=λ{k:Nat}{s:O}{l:List Ce}(a:iA (mJ v b1 b2 b3 (q.length+1)) h aD 1 k s l)(Q:k≠4)=>(a.eY ap Q).eY (dz.eT (λ_=>False) Y L.cQ.new) id
  refine⟨Y.cr (L.cQ.box.bU 8),pw.push T.cQ.av T.cQ.new (x:=.mk H.size 0 1 1) rfl (a:=g) jm (by rw[P];exact X U V) (by rw[P];exact X a2 V) (by rw[P];exact X a3 V) (by rw[P];omega) λal aj au q1 q2=>?_⟩
  have ab:To _ Z al au:=q2.mono λk Q=>V
  let⟨ad,aF⟩:=T.cQ.jJ (q2.mono λk Q=>V) q1
  refine⟨ab.dL ac,ad.mD (i:=8) aL,?_⟩
  intro aE
  let⟨ae,an⟩:=ad.jw 8 [.s aj]
  refine⟨an.dL (ac.to ab),ar M _ ⟨al,aW,z,aj,?_,(((ax.trans aa).trans am).trans ab).trans an⟩⟩
  have e9:q++[{u with pc:=u.pc+1}]++[g]=q++[{u with pc:=u.pc+1},g]:=aL
  rw[e9]at ae
  exact ae
end
end
section
variable{a:cg}
noncomputable def qW (a:cg) (s:St) (b:List aU) (f:aU) (x:Instr):St:=
 if x.op=9 then{s with bC:=s.bC+1,av:=b++[{f with pc:=f.pc+1},br a x.bQ x.dst (cN f x.args)]}
 else if x.op=24 then{s with bC:=s.bC+1,av:=b++[br a x.bQ f.dst (cN f x.args)]}
 else{s with bC:=s.bC+1,heap:=apart s.heap (aG f.an (aG x.args 0)),av:=b++[{f with pc:=f.pc+1},br a ((aI s.heap (aG f.an (aG x.args 0))).kG -bH a) x.dst ((aI s.heap (aG f.an (aG x.args 0))).aN++[aG f.an (aG x.args 1)])]}
section
variable{t:E}{j:Nat->Nat}{m:E}{n:Nat}{d p aW q e:O}{s:St}{c:List aU}{b:aU}{r u h:O}{v:List (List Ce)}
def ST.rv(S:ST t j m n bS (SB d p s aW q e) aW q e s.aW s.heap c b r u h v)(g:eW t d p a)(k:s.aW.length<=2000000000)(i:s.heap.length<=2000000000)(f:lR m e (c++[b])):
 RV m n 2 d p aW q e a {s with av:=c++[b]}:=
 ⟨g.ext S.cQ.cv,S.cQ.box.bU 0,S.cQ.box.bU 1,S.cQ.box.bU 2,S.cQ.box.bU 3,S.cQ.box.bU 4,S.cQ.box.bU 5,S.cQ.box.bU 6,S.cQ.box.bU 7,S.cQ.box.bU 8,S.cQ.aW.nT V,S.cQ.heap.cells V,f⟩
def pw.Gp{c:List aU}(d:pw j m e c)(A:c.length<=2000000000)(q:∀b∈c,b.an.length<=1000000/\b.aR.length<=1000000/\b.aY.length<=1000000):lR m e c:=by
 let⟨v,a,g,i,p⟩:=d;have t:e.len=c.length:=by have:=a.len;rw[cp i,g]at this;omega
 refine⟨t,a.le,V,λk x f=>?_⟩;let⟨o,l⟩:=cK v k (by rw[g];exact az f);obtain⟨r,u,h,rfl,y,w,d⟩:=p k o x l f;let⟨B,C,D⟩:=q x (au f);refine⟨_,⟨r,u,h,rfl,y.nT V,w.nT V,d.nT V⟩,λz n s=>?_⟩;have:=a.iF (k*6+z) n (fV i l s);rwa[<-dk]at this
def Ng(al:ST t j m n bS (SB d p s aW q e) aW q e s.aW s.heap c b r u h v)(aO:eW t d p a)(aA:iE a){y:Instr}{Z ag:O}(ha:ar t Z y.args)(bm:∀C∈y.args,0<=C/\C<b.an.length)(bN:y.args.length<=4)
 (b0:y.op=9\/y.op=24\/y.op=11)(a3:(y.op=9\/y.op=24)->vT a y.bQ y.args.length)(bl:y.op=11->y.args.length=2/\vS a s.heap (aG b.an (aG y.args 0)))
 (bX:b.an.length=b.aR.length/\b.aY.length=b.aR.length/\b.aR.length<=2000)(bk:∀I∈c,I.an.length<=1000000/\I.aR.length<=1000000/\I.aY.length<=1000000)(bA:0<=b.pc/\b.pc<=100000)(bU:c.length<=10000)(bV:s.heap.length<=1000000000)(b4:s.aW.length<=1000000000)(bP:0<=s.bC/\s.bC<=100000)
 {B:Nat->Int}(hI:fL s.heap B):
 aM cq 139 [vp n 0,fv b r u h,xv y Z ag] m λ_ L=>Ck t j m n d p (qW a s c b y) L:=by
 apply vG (n,0)
 simp -zeta only[aC,aB]
 intro F m2
 have bE:J m m2:=((J.aA m).aH _).aH _
 have s1:F.size=m.size+1:=by simp[F]
 have s2:m2.size=m.size+2:=by simp[m2,s1]
 have B2:=zE.Km al.cQ.new s1 s2
 have kB:cw m2 F.size de [.i y.op,.i y.dst,.i y.bQ,.i y.bM,.s Z,.s ag]:=cw.push F _ _
 let⟨S2,t2⟩:=al.ext bE
 clear_value m2
 have bq:zG a y:=λB=>let⟨z,X,D,_⟩:=a3 B;⟨X,z,D⟩
 have bM:(eP a.bn).length<=12:=by
  have:=ry aA.ni.types a.bn.length;rw[mV _ _ (ad _)]at this;exact this
 have bu:∀{j m q lh bx},ST t j m n bS bx aW q e s.aW lh c b r u h v->lR m e (c++[b]):=λal=>al.cQ.av.Gp bJ (λI A=>by
  rcases List.mem_append.1 A with A|A
  .exact bk I A
  .simp at A;subst A;omega)
 refine(sE (f:=b) (S2.Ar V) (ha.ext S2.cQ.cv) bm V).mono ?_
 rintro _ m3 ⟨S,rfl,ow,ay⟩
 let⟨S3,t3⟩:=S2.ext ay
 have B3:=B2.to t3
 have bD:(cN b y.args).length=y.args.length:=by simp[cN]
 have an:ar m3 S (cN b y.args):=ar.gK ow V
 have bK:∀{L:E}{S:O}{ap:List Ce},gY L m3 aD 1 S ap->m.size<=L.size->S≠.nil->j S.D=0:=λho hs Y=>by
  rcases ho.D with B|B
  .exact absurd B Y
  .exact al.cQ.new _ V
 refine⟨t3.dL B2,S,rfl,λI wv L=>∃(aH:Nat->Nat)(a7:O)(ak:List bO)(A:List Int)(z:dA),ST t aH L n bS (SB d p s aW a7 e) aW a7 e s.aW ak c b r u h v/\To j m aH L/\zE aH L [F.size,m.size]/\cw L F.size de [.i y.op,.i y.dst,.i y.bQ,.i y.bM,.s Z,.s ag]/\ar L wv A/\(A≠[]->aH wv.D=0)/\
  0<=I/\a.cC[I.toNat]? =some z/\A.length=z.params.length/\iG a y 0 A=dI z.cO 0 A/\
  (y.op=24->qW a s c b y={s with bC:=s.bC+1,heap:=ak,av:=c++[br a I b.dst A]})/\(y.op≠24->qW a s c b y={s with bC:=s.bC+1,heap:=ak,av:=c++[{b with pc:=b.pc+1},br a I y.dst A]}),?_,?_⟩
 .refine⟨λah=>?_,λah=>?_⟩
  .simp at ah
   let⟨D,T,a8,b5,bz,a5,bR⟩:=bl ah
   let⟨ao,bB⟩:=bZ T
   have aZ:=hI.cell _ (au ao)
   have b6:=(aZ.rp bB).2
   have a6:=az ao
   have bn:y.args=[aG y.args 0,aG y.args 1]:=by
    cases K:y.args with
    |nil=>rw[K]at D;simp at D
    |cons C ap=>cases ap with
     |nil=>rw[K]at D;simp at D
     |cons G ap=>cases ap with
      |nil=>rfl
      |cons _ _=>rw[K]at D;simp at D
   have a9:cN b y.args=[aG b.an (aG y.args 0),aG b.an (aG y.args 1)]:=by rw[bn];rfl
   have b8:=an.len
   have b7:=an.cap
   have gw:af m3 S.D (S.off+Int.toNat (0:Int)*1)=some (vi (aG b.an (aG y.args 0))):=an.aG (k:=0) (by rw[a9];rfl)
   have am:=S3.rv aO V V (bu S3)
   generalize hw:aG b.an (aG y.args 0)=w at*
   generalize hv:aG b.an (aG y.args 1)=ac at*
   let⟨z,hq⟩:=cK a.cC (((aI s.heap w).kG -bH a).toNat)
   have ai:dC a ((aI s.heap w).kG -bH a)=z:=by simp[dC,hq]
   rw[ai]at bz a5
   refine⟨V,V,w,gw,d,am.bn,(fP am T.1 ao).mono ?_⟩
   rintro _ m4 ⟨f4,rfl,bQ,U⟩
   let⟨S4,t4⟩:=S3.ext U
   have B4:=B3.to t4
   have a0:=am.ext U
   refine⟨t4.dL B3,_,_,_,rfl,U.cr am.bn,(qM a0.fA.bn aA.ni.types).mono ?_⟩
   rintro _ G ⟨rfl,aJ⟩
   let⟨M,t5⟩:=S4.ext aJ
   have B5:=B4.to t5
   have bj:=a0.ext aJ
   refine⟨t5.dL B4,_,rfl,V,V,V,(fP bj T.1 ao).mono ?_⟩
   rintro _ m6 ⟨f6,rfl,bt,aX⟩
   let⟨S6,t6⟩:=M.ext aX
   have B6:=B5.to t6
   have aF:=(U.trans aJ).trans aX
   have e1:(Int.toNat (1:Int))=1:=rfl
   have e2:(Int.toNat (S.len:Int))=S.len:=V
   rw[e1,e2]
   have bF:ar m6 (O.cut S 1 S.len 1) [ac]:=by
    have:=Vn (an.ext aF) (by rw[bD];omega);rw[a9]at this;exact this
   have bT:=aZ.fl
   refine⟨t6.dL B5,_,_,_,rfl,(Mg bt bF bJ).mono ?_⟩
   rintro _ m7 ⟨N,rfl,oe,aY⟩
   let⟨S7,t7⟩:=S6.ext aY
   have B7:=B6.to t7
   have ie:ar m7 N ((aI s.heap w).aN++[ac]):=ar.gK oe bJ
   have aq:j N.D=0:=by
    rcases oe.D with B|B
    .subst B;have:=ie.len;simp at this
    .exact al.cQ.new _ (Qb aF.size ay.size)
   have bs:N.D<m7.size:=iP ie aL
   refine⟨t7.dL B6,N,rfl,(Bv S7.cQ T hI V).mono ?_⟩
   rintro _ C ⟨aa,rfl,hb,H,bp,bo⟩
   have t8:To j m7 j C:=H.mono λQ P=>V
   have B8:=B7.to t8
   have a_:ar C N ((aI s.heap w).aN++[ac]):=iO ie λ_=>H.dQ _ bs (by rw[aq];decide)
   have bb:To j m j C:=(((((t2.trans t3).trans t4).trans t5).trans t6).trans t7).trans t8
   have ba:cw C F.size de [.i y.op,.i y.dst,.i y.bQ,.i y.bM,.s Z,.s ag]:=(kB.ext (ay.trans (aF.trans aY))).congr (H.dQ _ (B7 F.size aL).1 (by rw[(B7 F.size aL).2];decide))
   have e3:cR ((aI s.heap w).kG -((eP a.bn).length:Int))=(aI s.heap w).kG -bH a:=aP V V
   rw[e3]
   have aE:iG a y 0 ((aI s.heap w).aN++[ac])=dI z.cO 0 ((aI s.heap w).aN++[ac]):=by
    rw[Gm V,List.length_eq_zero_iff.1 a5]
   have a4:∀ak,ak=apart s.heap w->qW a s c b y={s with bC:=s.bC+1,heap:=ak,av:=c++[{b with pc:=b.pc+1},br a ((aI s.heap w).kG -bH a) y.dst ((aI s.heap w).aN++[ac])]}:=λak B=>by
    rw[qW,ae V,ae V,hw,hv,B]
   refine⟨t8.dL B7,aa,rfl,λa2=>?_,λa1=>?_⟩
   .have aK:=hb.1 a2
    let⟨R,bL⟩:=S7.gD (H.mono λQ P=>Or.inl P) (bp a2)
    have bY:=R.cQ.heap.len
    refine⟨q,R.cQ.box.bU 7,?_⟩
    intro m9
    have bi:J C m9:=(J.aA C).aH _
    let⟨S9,W⟩:=R.ext bi
    have B9:=B8.to W
    clear_value m9
    have bW:=T.1
    have bw:ix w=(w -1000).toNat:=rfl
    have e5:cR (w -1000)=w -1000:=aP V V
    rw[e5,<-bw]
    refine⟨V,V,S9.cQ.heap.wr (o:=0) a6 be,?_⟩
    intro b9
    let⟨bv,bg⟩:=S9.cQ.heap.setCell S9.cQ.new a6 0 0 (f:=.mk C.size 0 0 0) (l:=[]) ⟨rfl,aL,aL,aL⟩ (λY=>absurd rfl Y)
    let⟨ax,aQ⟩:=S9.gD (bg.mono λQ P=>Or.inl P) bv
    have aU:=B9.to aQ
    refine⟨aQ.dL B9,q,ax.cQ.box.bU 7,(yf (ax.cQ.heap.cells bJ)).mono ?_⟩
    rintro _ b_ ⟨rfl,bh⟩
    let⟨ab,aR⟩:=ax.ext bh
    have aV:=aU.to aR
    refine⟨aR.dL aU,_,rfl,ab.cQ.mD (i:=7) aL,?_⟩
    intro aN
    obtain⟨bd,ca⟩:=ab.gD (dz.aA _ ab.cQ.new) (ab.cQ.heap.cut (ub _ _))
    obtain⟨bf,aS⟩:=bd.jw 7 [.s (q.cut 0 (ji (s.heap.set (ix w) jb) (s.heap.set (ix w) jb).length) 3)]
    have bc:=aV.to aS
    have aT:To j C j aN:=((W.trans aQ).trans aR).trans aS
    have bG:ar aN N ((aI s.heap w).aN++[ac]):=iO a_ λ_=>aT.dQ _ (oh H.size) (by rw[aq];simp)
    have bI:cw aN F.size de [.i y.op,.i y.dst,.i y.bQ,.i y.bM,.s Z,.s ag]:=ba.congr (aT.dQ _ (B8 F.size aL).1 (by rw[(B8 F.size aL).2];simp))
    refine⟨aS.dL aV,j,_,_,_,z,bf,bb.trans aT,bc,bI,bG,λ_=>aq,a8,hq,bJ,aE,λB=>V,λ_=>a4 _ ?_⟩
    rw[apart,aj aK];rfl
   .have aK:(aI s.heap w).aQ≠1:=λB=>by have:=hb.2 B;rw[a1]at this;simp at this
    let⟨R,bL⟩:=S7.gD (H.mono λQ P=>Or.inl P) (bo a1)
    refine⟨j,q,_,_,z,R,bb,B8,ba,a_,λ_=>aq,a8,hq,bJ,aE,λB=>V,λ_=>a4 _ ?_⟩
    rw[apart,ae aK]
  .simp at ah
   have C:y.op=9\/y.op=24:=V
   let⟨z,N,H,P⟩:=a3 C
   have ai:dC a y.bQ=z:=by simp[dC,H]
   refine⟨j,q,s.heap,cN b y.args,z,S3,t2.trans t3,B3,kB.ext ay,an,λY=>bK ow V (λB=>by subst B;have:=an.len;simp at this;exact Y (List.length_eq_zero_iff.1 this.symm)),N,H,V,by rw[Jq C,ai],λB=>?_,λB=>?_⟩
   .rw[qW,ae V,aj B]
   .rw[qW,aj V]
 .rintro I wv m4 ⟨ao,aV,aR,A,z,S4,t4,B4,bd,aX,bc,a8,hq,bh,aE,a5,a6⟩
  have ai:dC a I=z:=by simp[dC,hq]
  have bg:=(aA.dx z (au hq)).an
  have h3:=(aA.ni.dx z (au hq)).1
  refine⟨s.bC,S4.cQ.box.bU 4,S4.cQ.mD (i:=4) aL,?_⟩
  have e3:cR (s.bC+1)=s.bC+1:=aP V V
  rw[e3]
  intro G
  let⟨M,t5⟩:=S4.jw 4 [.i (s.bC+1)]
  have B5:zE ao G [F.size,m.size]:=B4.to t5
  replace t5:To ao m4 ao G:=t5
  have c5:dz (λQ=>Q=1) ao m4 ao G:=dz.ag S4.cQ.new S4.cQ.NV _ _
  have aY:ar G wv A:=iO aX λY=>c5.dQ _ (iP aX Y) (by rw[bc Y];decide)
  have bf:cw G F.size de [.i y.op,.i y.dst,.i y.bQ,.i y.bM,.s Z,.s ag]:=bd.congr (c5.dQ _ (B4 F.size aL).1 (by rw[(B4 F.size aL).2];decide))
  replace M:ST t ao G n bS (SB d p {s with bC:=s.bC+1,heap:=aR} aW aV e) aW aV e s.aW aR c b r u h v:=M
  refine⟨t5.dL B4,d,M.cQ.box.bU 0,p,M.cQ.box.bU 1,?_⟩
  clear_value G
  have a2:=t4.trans t5
  have kg:∀{H a0:E},J H a0->∀{aa ab:Nat}{ac:Value},af H aa ab=some ac->af a0 aa ab=af H aa ab:=λK=>K.cr
  have bb:(iG a y 0 A).length=A.length:=Eh _ _ _ _
  have ba:(br a I y.dst A).an=A++df (z.an.toNat -A.length):=by simp[br,ai]
  have a_:(br a I y.dst A).aR=iG a y 0 A++df (z.an.toNat -(iG a y 0 A).length):=by simp[br,ai,aE,lZ]
  have a9:(br a I y.dst A).aY=df z.an.toNat:=by simp[br,ai]
  have iy:∀(T ax:E)(nb b1 b2 b3:Nat),J G T->pE T ax b1 b2 b3 z.an.toNat (A++df (z.an.toNat -A.length)) (iG a y 0 A++df (z.an.toNat -(iG a y 0 A).length)) (df z.an.toNat)->T.size<=nb/\nb<ax.size->nb≠b1/\nb≠b2/\nb≠b3->
   Nu n nb [F.size,m.size] y.op b.pc b.dst I 0 y.dst (.mk b1 0 z.an.toNat z.an.toNat) (.mk b2 0 z.an.toNat z.an.toNat) (.mk b3 0 z.an.toNat z.an.toNat) ax (λ_ L=>Ck t j m n d p (qW a s c b y) L):=λT ax nb b1 b2 b3 K N aQ Y=>by
   let⟨SM,tM⟩:=M.ext K
   refine Oz (s:={s with bC:=s.bC+1,heap:=aR}) (g:=br a I y.dst A) (c:=y) SM (B5.to tM) (by rw[ba,a_,a9];exact N) aQ Y V bA (λB L hF=>?_) (λB L hF=>?_)
   .rw[a5 B];exact Ck.from hF (a2.trans tM)
   .rw[a6 B];exact Ck.from hF (a2.trans tM)
  have aJ:∀{T:E}{os:O},J G T->ar T os (iG a y 0 A)->aM cq 159 [.agg #[O.v d,O.v p],vi I,vi y.dst,O.v wv,O.v os] T _:=λK ho=>yB (aO.ext (M.cQ.cv.trans K)) a8 hq V y.dst (aY.ext K) ho V bb
  have aq:∀{H R:E},J G H->J H R->∀ab,ab<6->af R F.size ab=af H F.size ab:=λX D ab hi=>by
   have Q:=bf.ext X;match ab,hi with
   |0,_=>exact D.cr (Q.bU 0)
   |1,_=>exact D.cr (Q.bU 1)
   |2,_=>exact D.cr (Q.bU 2)
   |3,_=>exact D.cr (Q.bU 3)
   |4,_=>exact D.cr (Q.bU 4)
   |5,_=>exact D.cr (Q.bU 5)
  have Km:∀{H R:E},J G H->J H R->af R n 0=af H n 0/\af R n 1=af H n 1:=λX D=>⟨D.cr (X.af (M.cQ.box.bU 0)),D.cr (X.af (M.cQ.box.bU 1))⟩
  have a1:∀{T:E},J G T->oG 190 [vp n 0,xv y Z ag,O.v wv] T (iG a y 0 A):=λK=>EU (aO.ext (M.cQ.cv.trans K)) (K.af (M.cQ.box.bU 0)) (K.af (M.cQ.box.bU 1)) bq Z ag (aY.ext K) V
  have sm:∀{H R:E},J G H->J H R->dY [F.size,m.size] H R:=λX D=>D.dv λaa hb=>X.lt (B5 aa hb).1
  have aS:∀{H R:E}{nb:Nat},J G H->J H R->nb<H.size->dY [nb,F.size,m.size] H R:=λX D aQ=>D.dv λaa hb=>by
   rcases List.mem_cons.1 hb with rfl|hb
   .exact aQ
   .exact X.lt (B5 aa hb).1
  refine⟨(a1 (J.aA _)).mono ?_,?_⟩
  .rintro _ ah ⟨os,rfl,oo,P⟩
   have io:ar ah os (iG a y 0 A):=ar.gK oo V
   refine⟨sm (J.aA _) P,os,rfl,aq (J.aA _) P 1 V,(Km (J.aA _) P).1,(Km (J.aA _) P).2,?_,?_⟩
   .refine(aJ P io).mono ?_
    rintro _ am ⟨b1,b2,b3,rfl,N⟩
    have aK:=N.ext
    have aT:=P.trans aK
    refine⟨sm P aK,_,_,_,_,_,_,rfl,?_⟩
    intro aZ
    have aN:J am aZ:=(J.aA am).aH _
    have C:=aq aT aN
    have W:=Km aT aN
    refine⟨C 0 V,C 1 V,C 2 V,C 3 V,C 4 V,C 5 V,C 1 V,W.1,W.2,?_⟩
    intro aF
    have a4:J am aF:=aN.ag (ad _) _ _
    have bi:aF.size=am.size+1:=by simp[aF,aZ,aw]
    have aU:=N.lo
    exact iy ah aF am.size b1 b2 b3 P (N.PV a4) ⟨by have:=aK.size;omega,V⟩ ⟨V,V,V⟩
   .intro aF
    have am:J ah aF:=(J.aA ah).aH _
    have a4:aF.size=ah.size+1:=by simp[aF]
    have C:=aq P am
    have W:=Km P am
    refine⟨C 0 V,C 1 V,C 2 V,C 3 V,C 4 V,C 5 V,C 1 V,W.1,W.2,?_⟩
    clear_value aF
    refine(aJ (P.trans am) (io.ext am)).mono ?_
    rintro _ aZ ⟨b1,b2,b3,rfl,N⟩
    have aK:=N.ext
    refine⟨aS (P.trans am) aK V,_,_,_,_,_,_,rfl,?_⟩
    intro aN
    have aU:=N.lo
    have aT:=N.box am (nb:=ah.size) (ad _) V 0 [.i I,.i 0,.i y.dst,.s (.mk b1 0 z.an.toNat z.an.toNat),.s (.mk b2 0 z.an.toNat z.an.toNat),.s (.mk b3 0 z.an.toNat z.an.toNat)]
    exact iy ah aN ah.size b1 b2 b3 P aT ⟨ad _,by simp only[aN,aw];have:=aK.size;omega⟩ ⟨V,V,V⟩
  .intro ah
   have P:J G ah:=(J.aA G).aH _
   have a4:ah.size=G.size+1:=by simp[ah]
   have C:=aq (J.aA _) P
   have W:=Km (J.aA _) P
   refine⟨C 0 V,C 1 V,C 2 V,C 3 V,C 4 V,C 5 V,C 1 V,W.1,W.2,?_⟩
   clear_value ah
   refine(a1 P).mono ?_
   rintro _ aT ⟨os,rfl,oo,U⟩
   have io:ar aT os (iG a y 0 A):=ar.gK oo V
   have am:=P.trans U
   have bi:=U.size
   refine⟨aS P U V,os,rfl,aq P U 1 V,(Km P U).1,(Km P U).2,?_⟩
   refine(aJ am io).mono ?_
   rintro _ aZ ⟨b1,b2,b3,rfl,N⟩
   have aF:=N.ext
   refine⟨aS am aF V,_,_,_,_,_,_,rfl,?_⟩
   intro aK
   have aU:=N.lo
   have aN:=N.box am (nb:=G.size) (ad _) V 0 [.i I,.i 0,.i y.dst,.s (.mk b1 0 z.an.toNat z.an.toNat),.s (.mk b2 0 z.an.toNat z.an.toNat),.s (.mk b3 0 z.an.toNat z.an.toNat)]
   exact iy G aK G.size b1 b2 b3 (J.aA _) aN ⟨ad _,by simp only[aK,aw];have:=aF.size;omega⟩ ⟨V,V,V⟩
def Nk(S:ST t j m n bS (SB d p s aW q e) aW q e s.aW s.heap c b r u h v)(ae:c.length<=100000)(w:Int)(R:∀g,c.getLast?=some g->0<=b.dst/\b.dst<g.an.length/\b.dst<g.aR.length):
 aM cq 140 [vp n 0,fv b r u h,vi w] m λ_ Y=>Ck t j m n d p (match c.getLast? with|none=>{s with bI:=0,value:=w,av:=[]}|some g=>{s with av:=c.dropLast++[g.put b.dst w (gF w)]}) Y:=by
 apply vH (n,0)
 simp -zeta only[aC,aB]
 intro f
 have X:J m f:=(J.aA m).aH _
 have s1:f.size=m.size+1:=by simp[f]
 let⟨k,t1⟩:=S.ext X
 have L:j m.size=0:=S.cQ.new _ (ad _)
 have B:zE j f [m.size]:=λD F=>by simp at F;subst F;exact⟨V,L⟩
 clear_value f
 have G:=k.fZ.vX
 have ab:=k.fZ.pB.le
 have y:cR ((e.len:Int) -1)=(c.length:Int):=by rw[aP V V];omega
 have K:Int.toNat (c.length:Int)=c.length:=V
 have E:af f n 8=some (O.v e):=k.cQ.box.bU 8
 refine⟨e,E,e,E,?_⟩
 rw[y,K]
 refine⟨V,V,V,k.cQ.mD (i:=8) aL,?_⟩
 intro Z
 let⟨x,t2⟩:=k.cQ.jw 8 [.s (e.cut 0 c.length 6)]
 obtain⟨a,_⟩:=x.jJ (dz.aA _ x.new) (x.av.VA)
 have o:=B.to t2
 have ac:(e.cut 0 c.length 6).len=c.length:=by
  cases e with
  |nil=>simp at G
  |zT D H l=>simp at G
  |mk D H z l=>simp[O.cut]
 have e3:Int.toNat (0:Int)=0:=rfl
 refine⟨t2.dL B,e.cut 0 c.length 6,a.box.bU 8,λz=>?_,λz=>?_⟩
 .simp at z
  have M:c=[]:=List.length_eq_zero_iff.1 V
  subst M
  refine⟨a.mD (i:=2) (by simp[kT]),?_⟩
  intro m3
  let⟨l,t3⟩:=a.jw 2 [.i 0]
  have C:=o.to t3
  refine⟨t3.dL o,l.mD (i:=3) (by simp[kT]),?_⟩
  intro N
  let⟨I,A⟩:=l.jw 3 [.i w]
  exact⟨A.dL C,j,aW,q,_,I,(((t1.trans t2).trans t3).trans A)⟩
 .simp at z
  have W:c.length≠0:=V
  have A:c≠[]:=λy=>W (by rw[y];rfl)
  obtain⟨g,l⟩:∃g,c.getLast?=some g:=⟨_,fg A⟩
  let⟨M,N,P⟩:=R g l
  rw[l]
  simp only[]
  have U:c=c.dropLast++[g]:=by
   rw[fg A]at l;simp at l;rw[<-l];exact(eD A).symm
  have C:qA t j Z n bS (SB d p s aW q (e.cut 0 c.length 6)) aW q (e.cut 0 c.length 6) s.aW s.heap (c.dropLast++[g]):=
   ⟨a.cv,a.jA,a.new,a.box,a.NV,a.aW,a.heap,by rw[<-U];exact a.av⟩
  let⟨r',H,h',aa,T⟩:=C.av.fZ
  have Q:c.dropLast.length<=100000:=bJ
  refine(tX (a:=s) ⟨C,T⟩ Q M N P w).mono ?_
  rintro _ m3 ⟨I,t3⟩
  exact⟨t3.dL o,j,aW,q,_,I.cQ,(t1.trans t2).trans t3⟩
end
end
section
variable{b:cg}{a:Instr}
def yI.HE{s:St}{d:List aU}{f:aU}(C:yI b s d f a){aR:List Int}(j:aR=bB f.an f.aR (bW b a))(i:∀o∈aR,0<=o):
 fL s.heap (λc=>gU d c+dq f.an aR c+eQ ((bW b a).map (aG f.an)) c)/\∀c,0<=gU d c+dq f.an aR c:=by
 have e:=yl (an:=f.an) (bW b a) f.aR C.Kw C.Lm.1
 rw[<-j]at e
 refine⟨C.ok.heap.congr λc=>?_,λc=>?_⟩
 .rw[C.fr,fW,kQ,e];omega
 .have:=Kr (b:=d) (λg h=>C.ok.av g (by rw[C.fr];exact bL _ h)) c
  have:=tJ (an:=f.an) i c
  omega
def QW{a:List bz}{t kG:Int}(h:kG∈cx a t):1<=t/\t<=a.length/\(rC (cx a t) kG:Int)=kG -fc a (t.toNat -1)/\(fc a (t.toNat -1):Int)<=kG:=by
 unfold cx at h⊢;by_cases b:1<=t/\t<=a.length
 .rw[aj b]at h⊢;let⟨d,hd⟩:=cK a (t.toNat -1);rw[hd]at h⊢;simp only[oA,vO]at h⊢;let⟨i,c,e⟩:=List.mem_map.1 h;rw[List.mem_range]at c;have f:rC ((List.range d.cons.length).map λi=>((fc a (t.toNat -1)+i:Nat):Int)) kG=i:=by
   unfold rC;rw[List.findIdx_eq (by simpa using c)];refine⟨by simp[<-e],λj g=>?_⟩;simp;omega
  rw[f];exact⟨b.1,b.2,V,V⟩
 .rw[ae b]at h;simp at h
def O2{k d e:Int}(l:iJ d)(o:iJ e)(m:E):vm cq 136 [vi k,vi d,vi e] m (vi (OS k d e)):=by
 have i:∀n:Int,-2000000<=n/\n<=2000000->vm cq 184 [vi (cR n)] m (vi (FG n)):=λn q=>by
  apply Ik;rw[aP V V];refine⟨?_,J.aA _⟩;unfold FG;congr 1;repeat' split
  all_goals omega
 unfold iJ at l o;have p: -2000000<=d*e/\d*e<=2000000:=by
  have a:(d*e).natAbs<=999*999:=by rw[Int.natAbs_mul];exact MF V V
  omega
 apply Kc;unfold OS;refine⟨λa=>?_,λa=>⟨λb=>?_,λb=>⟨λc=>?_,λc=>⟨λf=>⟨λh=>?_,λh=>?_⟩,λf=>?_⟩⟩⟩⟩
 .simp at a;rw[aj a];exact(i _ V).then λj g=>⟨_,rfl,rfl,g⟩
 .simp at a b;rw[ae a,aj b];exact(i _ V).then λj g=>⟨_,rfl,rfl,g⟩
 .simp at a b c;rw[ae a,ae b,aj c];exact(i _ p).then λj g=>⟨_,rfl,rfl,g⟩
 .simp at a b c f h;rw[ae a,ae b,ae c,aj ⟨f,h⟩];exact⟨rfl,J.aA _⟩
 .simp at a b c f h;rw[ae a,ae b,ae c,ae V];exact⟨rfl,J.aA _⟩
 .simp at a b c f;rw[ae a,ae b,ae c,ae V];exact⟨rfl,J.aA _⟩
section
variable{q:E}{j:Nat->Nat}{m:E}{t:Nat}{d p aW n k:O}{c:St}{g:List aU}{f:aU}{r o h:O}{u:List (List Ce)}
def Kb(C:yI b c g f a){aR:List Int}(ay:aR=bB f.an f.aR (bW b a))(hM:kA b c f a aR)
 (ab:ST q j m t bS (SB d p c aW n k) aW n k c.aW c.heap g {f with aR:=aR} r o h u)(aY:eW q d p b){aq a4:O}(ha:ar q aq a.args)(hj:ar q a4 a.eG)(bq:c.heap.length<=900000000)(bC:c.aW.length<=900000000):
 aM cq 72 [vp t 0,fv f r o h,xv a aq a4] m λ_ R=>Ck q j m t d p (eJ b c g f a aR) R:=by
 apply tW (t,0)
 simp -zeta only[aC,aB]
 intro m1 A
 have bl:J m A:=((J.aA m).aH _).aH _
 have s1:m1.size=m.size+1:=by simp[m1]
 have s2:A.size=m.size+2:=by simp[A,s1]
 have D:=zE.Km ab.cQ.new s1 s2
 have U:cw A m1.size de [.i a.op,.i a.dst,.i a.bQ,.i a.bM,.s aq,.s a4]:=cw.push m1 _ _
 have kF:cw A m.size cL [.i f.eg,.i f.pc,.i f.dst,.s r,.s o,.s h]:=(cw.push m _ _).ext (J.push m1 _)
 let⟨y,t2⟩:=ab.ext bl
 clear_value A
 have bA:aR.length=f.aR.length:=by rw[ay];exact ka _ _ _
 have br:=C.Lm
 have F:=C.lp
 have hd:=C.dst
 have bi:=C.F.pc
 obtain⟨pq,_,bj,hP,bo,hI⟩:=C.I
 rw[bj]at bi
 have bD:=hP.len
 have ao:0<=f.pc/\f.pc<=100000:=V
 have a8:=C.ok.depth
 have bn:=C.ok.bC
 have bt:=C.ok.bq
 rw[C.fr]at a8
 have bp:g.length<=1000:=by simp at a8;omega
 have aZ:f.an.length=aR.length/\f.aY.length=aR.length/\aR.length<=2000:=V
 have bF:r.len=f.an.length:=by have:=ab.fZ.an.len;simp at this;omega
 have bw:o.len=aR.length:=by have:=ab.fZ.aR.len;simp at this;omega
 have bm:=ha.len
 have e4:cR (f.pc+1)=f.pc+1:=aP V V
 have aa:1<=a.args.length->0<=aG a.args 0/\aG a.args 0<f.an.length:=λK=>C.arg _ (fq V V)
 have M:∀{R},J q R->1<=a.args.length->af R aq.D (aq.off+Int.toNat (0:Int)*1)=some (vi (aG a.args 0)):=λZ K=>(ha.ext Z).pM V V
 have T:∀{j m bx aW n k lo lh o h u own'},ST q j m t bS bx aW n k lo lh g {f with aR:=own'} r o h u->∀{aF:Int},0<=aF->aF<f.an.length->af m r.D (r.off+Int.toNat aF*1)=some (vi (aG f.an aF)):=λab aF h0 K=>(ab.Ar (by simp only[];omega)).pM h0 K
 have a7:=C.HE ay hM.nn
 have bg:∀{j m n lh bx},ST q j m t bS bx aW n k c.aW lh g {f with aR:=aR} r o h u->lR m k (g++[{f with aR:=aR}]):=λab=>ab.cQ.av.Gp bJ (λah G=>by
  rcases List.mem_append.1 G with G|G
  .have Y:=C.ok.av ah (by rw[C.fr];exact bL _ G);obtain⟨pg,_,aJ,aw,_⟩:=Y.Jg C.ok.fA;have K:=Y.lr;have N:=Y.lo;have h3:=Y.lh;rw[aJ]at K N h3;have:=aw.an;omega
  .simp at G;subst G;simp only[];omega)
 have a_:∀r',r'∈a.args->aG f.an r'<1000->iJ (aG f.an r'):=λr' bk bs=>by
  have ax:=C.arg r' bk;rcases C.F.Sn _ (fq ax.1 ax.2)with P|P
  .exact P
  .omega
 have a5:∀{ac:E}(Z:J A ac)(X:Int)(s':St),s'={c with av:=g++[aU.put {f with aR:=aR,pc:=f.pc+1} a.dst X 0]}->
  aM cq 135 [vp t 0,vi a.dst,vi X] ac λ_ R=>dY [m1.size,m.size] ac R/\Ck q j m t d p s' R:=λZ X s' v=>by
  let⟨SM,tM⟩:=y.ext Z
  refine(Bq SM V hd.1 (by simp only[];omega) (by simp only[];omega) X ao).mono ?_
  rintro _ R ⟨S',t'⟩
  exact⟨t'.dL (D.to tM),j,aW,n,k,by rw[v];exact S'.cQ,(t2.trans tM).trans t'⟩
 have aX:∀{ac:E}(Z:J A ac)(a1:Int)(s':St),s'={c with av:=g++[{f with aR:=aR,pc:=a1}]}->
  aM cq 142 [vp t 0,vi a1] ac λ_ R=>dY [m1.size,m.size] ac R/\Ck q j m t d p s' R:=λZ a1 s' v=>by
  let⟨SM,tM⟩:=y.ext Z
  refine(jY SM V a1).mono ?_
  rintro _ R ⟨S',t'⟩
  exact⟨t'.dL (D.to tM),j,aW,n,k,by rw[v];exact S'.cQ,(t2.trans tM).trans t'⟩
 refine⟨λv=>?_,λe0=>?_⟩
 .simp at v
  exact a5 (J.aA _) _ _ (by unfold eJ;simp only[];rw[aj v])
 simp only[ak]at e0
 refine⟨λv=>?_,λe1=>?_⟩
 .simp only[bV,aE]at v
  have N:=F.2.2.1 V
  have w:=aa V
  have H:0<=aG a.args 1/\aG a.args 1<f.an.length:=C.arg _ (fq V V)
  have I:=hM.nT V
  refine⟨V,V,_,M y.cQ.cv V,w.1,V,_,T y w.1 w.2,V,V,_,(ha.ext y.cQ.cv).pM (i:=1) V V,H.1,V,_,T y H.1 H.2,?_⟩
  refine(O2 (a_ _ (fq V V) (I _ (fq V V))) (a_ _ (fq V V) (I _ (fq V V))) A).mono ?_
  rintro _ B ⟨rfl,z⟩
  refine⟨z.dv (λS hb=>(D S hb).1),_,rfl,z.cr (U.bU 1),a5 z _ _ ?_⟩
  unfold eJ;simp only[];rw[ae e0,aj v]
 simp only[bu,ak]at e1
 have an:¬(a.op=1\/a.op=2\/a.op=3\/a.op=4):=V
 refine⟨λv=>?_,λe5=>?_⟩
 .simp only[aE]at v
  have N:=F.2.1 V
  have w:=aa V
  have ag:(O.len aW)=c.aW.length:=by have:=y.cQ.aW.len;simp at this;omega
  refine⟨aW,y.cQ.box.bU 6,V,V,_,M y.cQ.cv V,w.1,V,_,T y w.1 w.2,?_⟩
  intro B
  have z:J A B:=(J.aA A).aH _
  have jm:fX B A.size 0 [.i (aG f.an (aG a.args 0))]:=(cw.push A _ _).iF
  let⟨I,t3⟩:=y.ext z
  have B3:=D.to t3
  clear_value B
  refine⟨z.cr (y.cQ.box.bU 6),iA.append (c:=[.i 0]) (x:=.mk A.size 0 1 1) (d:=[.i (aG f.an (aG a.args 0))]) I.cQ.aW I.cQ.new rfl jm (by simp only[O.iS];omega) λap aH m4 q1 q2=>?_⟩
  have Q:iA ap m4 aD 1 2 aH ((c.aW++[aG f.an (aG a.args 0)]).map Ce.i):=by simpa using q1
  let⟨L,H⟩:=I.LV q2 Q
  have B4:=B3.to H
  refine⟨H.dL B3,L.cQ.mD (i:=6) aL,?_⟩
  intro m5
  let⟨S5,W⟩:=L.jw 6 [.s aH]
  refine⟨W.dL B4,V,V,_,M S5.cQ.cv V,w.1,V,_,T S5 w.1 w.2,?_⟩
  refine(Bq (a:={c with aW:=c.aW++[aG f.an (aG a.args 0)]}) S5 V hd.1 (by simp only[];omega) (by simp only[];omega) _ ao).mono ?_
  rintro _ m6 ⟨S6,t6⟩
  refine⟨t6.dL (B4.to W),ap,aH,n,k,?_,(((t2.trans t3).trans H).trans W).trans t6⟩
  unfold eJ;simp only[];rw[ae e0,ae an,aj v];exact S6.cQ
 simp only[ak]at e5
 have ba:∀X∈f.aY,X≠0->1000<=X/\ix X<c.heap.length:=λX hw a0=>by
  obtain⟨K,dd,bf,_⟩:=C.Ll X hw a0;exact⟨K,az bf⟩
 refine⟨λv=>?_,λe6=>?_⟩
 .simp only[aE]at v
  have h6:=F.2.2.2.2.1 v
  refine(uX y ha C.arg F.1 a.bQ aZ (by simp only[];omega) ⟨h6.1,h6.2.1⟩ ao V V ba).mono ?_
  rintro _ B ⟨am,al,ai,ag,L3,t3⟩
  refine⟨t3.dL D,am,al,ai,ag,?_,t2.trans t3⟩
  have:eJ b c g f a aR=nH c g {f with aR:=aR} a a.bQ:=by
   unfold eJ nH;simp only[];rw[ae e0,ae an,ae e5,aj v];rfl
  rw[this];exact L3
 simp only[ak]at e6
 refine⟨λv=>?_,λaV=>?_⟩
 .simp only[aE]at v
  have aO:=F.2.2.2.2.2.1 v
  have ax:a.bM=0:=by rcases hI.bM with P|P;exact P;omega
  have aQ:(eP b.bn).length<=12:=by
   have:=ry C.ok.fA.ni.types b.bn.length;rw[mV _ _ (ad _)]at this;exact this
  refine⟨d,y.cQ.box.bU 0,(qM (aY.ext y.cQ.cv).bn C.ok.fA.ni.types).mono ?_⟩
  rintro _ B ⟨rfl,z⟩
  let⟨I,t3⟩:=y.ext z
  have e3:cR (((eP b.bn).length:Int)+a.bQ)=bH b+a.bQ:=aP V V
  refine⟨t3.dL D,_,rfl,z.cr (U.bU 2),z.cr (U.bU 0),z.cr (U.bU 1),z.cr (U.bU 2),z.cr (U.bU 3),z.cr (U.bU 4),z.cr (U.bU 5),z.cr (kF.bU 0),z.cr (kF.bU 1),z.cr (kF.bU 2),z.cr (kF.bU 3),z.cr (kF.bU 4),z.cr (kF.bU 5),?_⟩
  rw[e3]
  refine(uX I ha C.arg F.1 (bH b+a.bQ) aZ (by simp only[];omega) (by rw[ax];omega) ao V V ba).mono ?_
  rintro _ m4 ⟨ap,aN,aA,aK,Q,H⟩
  refine⟨H.dL (D.to t3),ap,aN,aA,aK,?_,(t2.trans t3).trans H⟩
  have:eJ b c g f a aR=nH c g {f with aR:=aR} a (bH b+a.bQ):=by
   unfold eJ nH;simp only[];rw[ae e0,ae an,ae e5,ae e6,aj v,ae (λhh=>hh.1 ax)];rfl
  rw[this];exact Q
 simp only[ak]at aV
 refine⟨λv=>?_,λe9=>?_⟩
 .simp only[bV,aE]at v
  have Q:=hI.op
  unfold lS at Q
  refine(Ng y aY C.ok.fA ha C.arg F.1 V (λe'=>?_) (λe'=>⟨F.2.2.1 V,hM.apply e'⟩) aZ (λah G=>?_) ao V V V V C.ok.heap).mono ?_
  .rw[ae V,ae V,ae V,ae V,aj e']at Q;exact Q
  .have Y:=C.ok.av ah (by rw[C.fr];exact bL _ G)
   obtain⟨pg,_,aJ,aw,_⟩:=Y.Jg C.ok.fA
   have K:=Y.lr
   have N:=Y.lo
   have h3:=Y.lh
   rw[aJ]at K N h3
   have:=aw.an
   omega
  rintro _ B ⟨am,al,ai,ag,L3,t3⟩
  refine⟨t3.dL D,am,al,ai,ag,?_,t2.trans t3⟩
  have:eJ b c g f a aR=qW b c g {f with aR:=aR} a:=by
   unfold eJ qW;simp only[];rw[ae e0,ae an,ae e5,ae e6,ae aV,ae V,ae V,ae V,ae V,ae V,ae V,ae V,ae V];by_cases e9:a.op=9
   .rw[aj e9,aj e9];rfl
   .rw[ae e9,ae e9];by_cases Y:a.op=24
    .rw[aj Y,aj Y];rfl
    .rw[ae Y,ae Y,aj V]
  rw[this];exact L3
 simp only[bu,ak]at e9
 refine⟨λv=>?_,λbc=>?_⟩
 .simp only[aE]at v
  have N:=F.2.1 V
  have w:=aa V
  refine⟨V,V,_,M y.cQ.cv V,w.1,V,_,T y w.1 w.2,(Nk y V (aG f.an (aG a.args 0)) (λah G=>?_)).mono ?_⟩
  .have a0:g≠[]:=λv=>by rw[v]at G;simp at G
   have Y:g=g.dropLast++[ah]:=by
    rw[fg a0]at G;simp at G;rw[<-G];exact(eD a0).symm
   have aJ:g.length=g.dropLast.length+1:=by
    have:=rV List.length Y;simpa using this
   let⟨q1,q2,q3⟩:=C.ok.chain g.dropLast.length ah f (by rw[C.fr,Y];simp) (by rw[C.fr,<-aJ];simp)
   have aw:=C.ok.av ah (by rw[C.fr,Y];simp)
   have:=aw.lr
   have:=aw.lo
   exact⟨q1,by show f.dst<_;omega,by show f.dst<_;omega⟩
  rintro _ B ⟨am,al,ai,ag,L3,t3⟩
  refine⟨t3.dL D,am,al,ai,ag,?_,t2.trans t3⟩
  unfold eJ
  simp only[]
  rw[ae e0,ae an,ae e5,ae e6,ae aV,ae V,ae V,ae V,ae V,ae V,ae V,ae V,ae V,ae V,ae V,ae V]
  exact L3
 simp only[ak]at bc
 have bh:∀(ah:St),(if a.op=0 then ah else ah)=ah:=λah=>by split<;>rfl
 have MG:eJ b c g f a aR=(
  if a.op=14 then{c with heap:=mP c.heap (aG f.an (aG a.args 0)),av:=g++[{f with aR:=gR aR (aG a.args 0) (aG aR (aG a.args 0)+1),pc:=f.pc+1}]}
  else if a.op=15 then{c with heap:=ns (gS c.heap [aG f.an (aG a.args 0)]),av:=g++[{f with aR:=aR,pc:=f.pc+1}]}
  else if a.op=16\/a.op=17 then tI c g {f with aR:=aR} a
  else if a.op=18 then{c with av:=g++[aU.put {f with aR:=aR,pc:=f.pc+1} a.dst (aG f.an (aG a.args 0)) (gF (aG f.an (aG a.args 0)))]}
  else if a.op=19 then{c with av:=g++[aU.put {f with aR:=aR,pc:=f.pc+1} a.dst (aG (aI c.heap (aG f.an (aG a.args 0))).aN a.bQ) 0]}
  else if a.op=20 then{c with av:=g++[{f with aR:=aR,pc:=if aG f.an (aG a.args 0)=0 then a.bQ else f.pc+1}]}
  else if a.op=21 then{c with av:=g++[{f with aR:=aR,pc:=aG a.eG (rC (cx b.bn a.bQ) (aI c.heap (aG f.an (aG a.args 0))).kG)}]}
  else{c with av:=g++[{f with aR:=aR,pc:=a.bQ}]}):=by
  unfold eJ
  simp only[]
  rw[ae e0,ae an,ae e5,ae e6,ae aV]
  by_cases aJ:a.op=14
  .rw[aj aJ,aj aJ]
  rw[ae aJ,ae aJ]
  by_cases aK:a.op=15
  .rw[aj aK,aj aK]
  rw[ae aK,ae aK]
  by_cases aN:a.op=16\/a.op=17
  .rw[aj aN,aj aN];rfl
  rw[ae aN,ae aN]
  by_cases aO:a.op=18
  .rw[aj aO,aj aO]
  rw[ae aO,ae aO]
  by_cases aQ:a.op=19
  .rw[aj aQ,aj aQ]
  rw[ae aQ,ae aQ]
  by_cases aS:a.op=20
  .rw[aj aS,aj aS]
  rw[ae aS,ae aS]
  by_cases aT:a.op=21
  .rw[aj aT,aj aT]
  rw[ae aT,ae aT]
  have:=C.ZN
  rw[aj V]
 rw[MG]
 clear MG bh
 refine⟨λv=>?_,λa6=>?_⟩
 .simp only[aE]at v
  rw[aj v]
  have N:=F.2.1 V
  have w:=aa V
  let⟨Y,bv⟩:=hM.VV v
  let⟨be,bE⟩:=bZ Y
  refine⟨V,V,_,M y.cQ.cv V,w.1,V,_,T y w.1 w.2,?_⟩
  intro B
  have z:J A B:=(J.aA A).aH _
  have ow:gY A B aD 1 (.mk A.size 0 1 1) ([aG f.an (aG a.args 0)].map Ce.i):=gY.new (J.aA A) aD 1 _ 1 aL
  let⟨I,t3⟩:=y.ext z
  have B3:=D.to t3
  have hz:j A.size=0:=y.cQ.new _ (ad _)
  clear_value B
  refine(DB I.cQ (ar.gK ow aL) (λ_=>hz) (λX hw=>?_) (λbb hc=>?_) aL V).mono ?_
  .simp at hw;subst hw;exact⟨Y.1,az be⟩
  .have:=C.ok.heap.cell bb hc;have P:=this.lo;have h6:=this.hi;omega
  rintro _ m4 ⟨a2,c4⟩
  let⟨L,H⟩:=I.gD (c4.mono λah hk=>Or.inl hk) a2
  have B4:=B3.to H
  have aw:aG a.args 0<aR.length:=V
  have bz:0<=aG aR (aG a.args 0)/\aG aR (aG a.args 0)<=999999:=by
   refine⟨hM.nn _ (fq (l:=aR) w.1 aw),?_⟩;have G:=oI (l:=aR) w.1 aw;rw[ay]at G;let⟨qq,a3,a9⟩:=lj _ _ _ _ G;have:=(C.OQ qq (au a3)).2;rw[<-ay]at a9;omega
  have bd:cR (aG aR (aG a.args 0)+1)=aG aR (aG a.args 0)+1:=aP V V
  refine⟨H.dL B3,V,V,_,M L.cQ.cv V,V,V,_,M L.cQ.cv V,w.1,V,aG aR (aG a.args 0),(L.Jr (by simp only[];omega)).pM w.1 aw,w.1,V,L.fZ.aR.Po w.1 aw,?_⟩
  rw[bd,e4]
  intro m5
  let⟨S5,W⟩:=L.pY w.1 aw (aG aR (aG a.args 0)+1)
  refine⟨W.dL B4,(jY (a:={c with heap:=jf c.heap [aG f.an (aG a.args 0)]}) S5 V (f.pc+1)).mono ?_⟩
  rintro _ m6 ⟨S6,t6⟩
  exact⟨t6.dL (B4.to W),j,aW,n,k,S6.cQ,(((t2.trans t3).trans H).trans W).trans t6⟩
 simp only[ak]at a6
 rw[ae a6]
 have bb:a.args.length=1->a.args=[aG a.args 0]:=λK=>by
  cases Z:a.args with
  |nil=>rw[Z]at K;simp at K
  |cons aw G=>cases G with
   |nil=>rfl
   |cons bd G=>rw[Z]at K;simp at K
 refine⟨λv=>?_,λaw=>?_⟩
 .simp only[aE]at v
  rw[aj v]
  have N:=F.2.1 V
  have w:=aa V
  have ht:bW b a=[aG a.args 0]:=by unfold bW;rw[aj V];exact bb V
  have G:=a7.1
  rw[ht]at G
  refine⟨n,y.cQ.box.bU 7,V,V,_,M y.cQ.cv V,w.1,V,_,T y w.1 w.2,?_⟩
  intro B
  have z:J A B:=(J.aA A).aH _
  have ow:gY A B aD 1 (.mk A.size 0 1 1) ([aG f.an (aG a.args 0)].map Ce.i):=gY.new (J.aA A) aD 1 _ 1 aL
  let⟨I,t3⟩:=y.ext z
  have B3:=D.to t3
  clear_value B
  refine⟨z.cr (y.cQ.box.bU 7),(Gz I.cQ.heap I.cQ.new (ar.gK ow aL) (e:=λS=>gU g S+dq f.an aR S) (G.congr λS=>rfl) a7.2 V).mono ?_⟩
  rintro _ m4 ⟨ap,aA,rfl,a2,c4⟩
  let⟨L,H⟩:=I.gD c4 a2
  have B4:=B3.to H
  refine⟨H.dL B3,aA,rfl,L.cQ.mD (i:=7) aL,?_⟩
  intro m5
  let⟨S5,W⟩:=L.jw 7 [.s aA]
  rw[e4]
  refine⟨W.dL B4,(jY (a:={c with heap:=ns (gS c.heap [aG f.an (aG a.args 0)])}) S5 V (f.pc+1)).mono ?_⟩
  rintro _ m6 ⟨S6,t6⟩
  exact⟨t6.dL (B4.to W),ap,aW,aA,k,S6.cQ,(((t2.trans t3).trans H).trans W).trans t6⟩
 simp only[ak]at aw
 rw[ae aw]
 refine⟨λv=>?_,λap=>?_⟩
 .simp only[bV,aE]at v
  rw[aj v]
  refine(IE y ha C.arg ⟨F.2.2.2.1 v,F.1⟩ v aZ ao V V (λaH G=>?_) (hM.Jp v).1 C.ok.heap).mono ?_
  .refine⟨hM.nn aH G,?_⟩
   let⟨ah,hk⟩:=List.mem_iff_getElem?.1 G
   simp only[]at hk
   rw[ay]at hk
   let⟨qq,a3,a9⟩:=lj _ _ _ _ hk
   have:=(C.OQ qq (au a3)).2
   omega
  rintro _ B ⟨am,al,ai,ag,L3,t3⟩
  exact⟨t3.dL D,am,al,ai,ag,L3,t2.trans t3⟩
 simp only[bu,ak]at ap
 rw[ae V]
 refine⟨λv=>?_,λW=>?_⟩
 .simp only[aE]at v
  rw[aj v]
  have N:=F.2.1 V
  have w:=aa V
  refine⟨V,V,_,M y.cQ.cv V,w.1,V,_,T y w.1 w.2,(tX y V hd.1 (by simp only[];omega) (by simp only[];omega) _).mono ?_⟩
  rintro _ B ⟨I,t3⟩
  rw[e4]
  refine⟨t3.dL D,(jY I V (f.pc+1)).mono ?_⟩
  rintro _ m4 ⟨L,H⟩
  exact⟨H.dL (D.to t3),j,aW,n,k,L.cQ,(t2.trans t3).trans H⟩
 simp only[ak]at W
 rw[ae W]
 have ai:=y.rv aY V V (bg y)
 refine⟨λv=>?_,λI=>?_⟩
 .simp only[aE]at v
  rw[aj v]
  have N:=F.2.1 V
  have w:=aa V
  let⟨Y,G⟩:=hM.load v
  have Q:=hI.op
  unfold lS at Q
  rw[ae V,ae V,ae V,ae V,ae V,ae V,ae V,aj v]at Q
  refine⟨V,V,_,M y.cQ.cv V,w.1,V,_,T y w.1 w.2,(fP ai Y.1 (bZ Y).1).mono ?_⟩
  rintro _ B ⟨fl,rfl,H,z⟩
  have L:=H.len
  refine⟨z.dv (λS hb=>(D S hb).1),_,_,_,rfl,z.cr (U.bU 2),z.cr (U.bU 1),Q.2.1,V,_,H.pM Q.2.1 G,a5 z _ _ rfl⟩
 simp only[ak]at I
 rw[ae I]
 refine⟨λv=>?_,λL=>?_⟩
 .simp only[aE]at v
  rw[aj v]
  have N:=F.2.1 V
  have w:=aa V
  refine⟨V,V,_,M y.cQ.cv V,w.1,V,_,T y w.1 w.2,λP=>?_,λP=>?_⟩
  .simp at P;exact aX (J.aA _) _ _ (by rw[aj P])
  .simp at P;rw[e4];exact aX (J.aA _) _ _ (by rw[ae P])
 simp only[ak]at L
 rw[ae L]
 refine⟨λv=>?_,λag=>?_⟩
 .simp only[aE]at v
  rw[aj v]
  have N:=F.2.1 V
  have w:=aa V
  let⟨Y,al⟩:=hM.BJ v
  let⟨be,bv,a2,aH⟩:=QW al
  have Q:=hI.op
  unfold lS at Q
  rw[ae V,ae V,ae V,ae V,ae V,ae V,ae V,ae V,ae V,ae V,aj v]at Q
  have a3:rC (cx b.bn a.bQ) (aI c.heap (aG f.an (aG a.args 0))).kG<(cx b.bn a.bQ).length:=mE ⟨_,al,aL⟩
  have bd:=hj.len
  have a9:=Q.2.2.1
  have aA:=(C.ok.heap.cell _ (au (bZ Y).1)).rp (bZ Y).2
  have bz:=C.ok.fA.ni.types.len
  refine⟨V,V,_,M y.cQ.cv V,w.1,V,_,T y w.1 w.2,(fP ai Y.1 (bZ Y).1).mono ?_⟩
  rintro _ B ⟨fl,rfl,H,z⟩
  have e7:cR (a.bQ -1)=((a.bQ.toNat -1:Nat):Int):=by rw[aP V V];omega
  rw[e7]
  have am:=y.cQ.cv.trans z
  refine⟨z.dv (λS hb=>(D S hb).1),_,_,_,rfl,d,z.af (y.cQ.box.bU 0),(kj (aY.ext am).bn C.ok.fA.ni.types V).mono ?_⟩
  rintro _ m4 ⟨rfl,G⟩
  have e8:cR ((aI c.heap (aG f.an (aG a.args 0))).kG -((fc b.bn (a.bQ.toNat -1):Nat):Int))=((rC (cx b.bn a.bQ) (aI c.heap (aG f.an (aG a.args 0))).kG:Nat):Int):=by
   rw[aP V V];omega
  refine⟨G.dv (λS hb=>z.lt (D S hb).1),_,rfl,G.cr ((U.ext z).bU 5),?_⟩
  rw[e8]
  refine⟨V,V,_,(hj.ext (am.trans G)).pM V V,aX (z.trans G) _ _ rfl⟩
 simp only[ak]at ag
 rw[ae ag]
 refine⟨λv=>aX (J.aA _) _ _ rfl,λw=>?_⟩
 simp only[ak]at w
 have:=C.ZN
 omega
end
end
end Go.Proofs.YtkoifinbblcbiaaGreat
