/- Part of a proof. -/
import Derived.Test.YtkicoahejfbjhaaGreatSA07
set_option linter.all false
set_option maxHeartbeats 8000000
set_option maxRecDepth 100000
namespace Go.Proofs.YtkicoahejfbjhaaGreat
open Go.Vc
section
variable{m d a:E}{c e:List Nat}{s:O}{l:List Int}{f g:Nat}{K:Value->E->Prop}
def p7{o1 o2 o3:Obj}{a b c:E}(e:a=m.push o1)(f:b=a.push o2)(g:c=b.push o3):J m c/\(∀d∈[b.size,a.size,m.size],d<c.size)/\a.size=m.size+1/\b.size=m.size+2/\c.size=m.size+3:=by
 subst e f g;exact⟨((J.push _ _).trans (J.push _ _)).trans (J.push _ _),bE,aL,aL,aL⟩
def GI.R9{X:List Nat}{n:E}{g:O}{k:List Int}{a:Int}{K:O->E->Prop}(p:GI c d m s l)(i:GI e n m g k)(j:s.D≠g.D)(q:Fz X d m)(w:l.length<=10^12)
 (t:∀r b,GI c d b r (l++[a])->GI e n b g k->r.D≠g.D->Fz X d b->K r b):jK (m.push (.cells (bt [.i a]) aA)) aA [.i 0] 8 s (.mk m.size 0 1 1) K:=by
 have u:=i.bn
 refine Gr.kH (g:=[.i 0]) tV.mono bh p q rfl V λr b o f z v=>t r b o (i.jw (v _ u.2 (kC j))) ?_ f
 rcases z.2 with h|h
 .rw[h];exact j
 .omega
def GI.any(h:GI c d m s l):GI e d m s l:=by
 let⟨b,a,f,g⟩:=h;exact⟨b,a,f,g.mono λ_ _ h=>h⟩
def eY(a v:Int):cV:=⟨a,0,0,[v],[]⟩
abbrev GS(c:List Nat)(d m:E)(s:O)(l:List cV):Prop:=Gr c d m gB 5 gD s l
def GS.new(c:List Nat)(m:E):GS c m (m.push (.cells (bt []) gB)) (.mk m.size 0 0 0) []:=Gr.new c (ad _) _ _ _
def GS.kH{c X:List Nat}{d m:E}{s a k:O}{l:List cV}{x:cV}{K:O->E->Prop}(h:GS c d m s l)(i:Fz X d m)(g:ap (bG (s.D::c) m) a x.args)(j:nD (bG (s.D::c) m) k x.bC)(n:l.length<=10^12)
 (f:∀r b,GS c d b r (l++[x])->Fz X d b->m.size<=b.size/\(r.D=s.D\/m.size<=r.D)->(∀e,e<m.size->e≠s.D->b[e]? =m[e]?)->K r b):
 jK (m.push (.cells (bt [.i x.op,.i x.bP,.i x.bY,.s a,.s k]) gB)) gB [.i 0,.i 0,.i 0,.s .nil,.s .nil] 72 s (.mk m.size 0 1 1) K:=
 Gr.kH (g:=[.i 0,.i 0,.i 0,.s .nil,.s .nil]) gD.mono bh h i ⟨a,k,rfl,g,j⟩ V f
def GS.all{c X:List Nat}{d m:E}{s x:O}{l e:List cV}{K:O->E->Prop}(h:GS c d m s l)(g:Fz X d m)(i:eO (bG (s.D::c) m) x e)(j:l.length+e.length<=10^12)
 (f:∀r a,GS c d a r (l++e)->Fz X d a->m.size<=a.size/\(r.D=s.D\/m.size<=r.D)->(∀b,b<m.size->b≠s.D->a[b]? =m[b]?)->K r a):
 jK m gB [.i 0,.i 0,.i 0,.s .nil,.s .nil] 72 s x K:=
 Gr.all (g:=[.i 0,.i 0,.i 0,.s .nil,.s .nil]) gD.mono bh h g i V f
def mD{α:Type}(m:E)(a:Nat)(R:List Ce->α->Prop)(b o c:Nat):eS m a R (.mk b o 0 c) []:=⟨rfl,dL _,aL,aL⟩
def jf(n:∀f∈c,f<m.size)(g v:Int):aN cg 229 [vi g,vi v] m λs d=>∃a k,s=oW (eY g v) a k/\ap (bG c d) a [v]/\nD (bG c d) k []/\J m d:=by
 apply Cz;simp -zeta only[aC,aB];intro b e q r;have t:J m b:=J.push _ _;have u:J b e:=J.push _ _;have i:J e q:=J.push _ _;have w:b.size=m.size+1:=by simp[b]
 have p:J m r:=((t.trans u).trans i).ah (ad _) _ _;refine⟨_,_,rfl,?_,mD _ _ _ _ _ _,p⟩;have l:ap (bG (m.size::c) e) (.mk b.size 0 1 1) [v]:=ap.lit aA [v] (λj o=>by
  rcases List.mem_cons.1 o with h|h
  .omega
  .have:=n j h;omega) rfl rfl aL
 exact(l.le (i.df _)).le (cA bg λf h=>ai _ h)
def Rf(f:Nat)(b:List Value)(m:E)(c:List Nat)(Q:List cV->Prop):Prop:=aN cg f b m λv a=>∃s l,v=O.v s/\GS c m a s l/\Q l/\J m a
def Rf.aH{h:List Value}{l:List Nat}{Q:List cV->Prop}(k:Rf f h m c Q)(i:J a m)(q:∀e∈l,e<a.size)(p:∀s d b,GS c m b s d->Q d->J m b->J a b->K (O.v s) b):aN cg f h m λv b=>eF l m b/\K v b:=
 k.mono λ_ b⟨s,d,j,n,r,g⟩=>⟨g.dv λe o=>i.lt (q e o),j▸p s d b n r g (i.trans g)⟩
def eX(w:∀g∈c,g<m.size)(b:Int){p:O}(i:ap m p l)(B:l.length<=10^12):Rf 259 [vi b,O.v p] m c (l.map (eY b)=·):=by
 apply AB;intro E;have z:=i.len;refine ez (n:=l.length) (z▸i.gS) (λk s d=>J m d/\GS c m d s ((l.take k).map (eY b))) ⟨J.push m _,by simpa using GS.new c m⟩ ?_;rintro k s F I μ C ⟨e,d⟩ A
 refine dit (λh=>?_) λh=>?_
 .let⟨j,o⟩:=cG l k;refine⟨V,V,j,(i.ext e).aF o,?_⟩;refine(jf (c:=s.D::c) (λg y=>?_) b j).mono λN G⟨a,D,r,u,v,q⟩=>?_
  .have:=d.bn;rcases List.mem_cons.1 y with h|h
   .omega
   .exact e.lt (w g h)
  subst r;refine⟨_,_,_,_,_,rfl,?_⟩;intro H;refine GS.kH (x:=eY b j) (d.ext gD.mono q) ((e.trans q).fz []) u v bE λM K t f P L=>A V _ _ ⟨f.ext,?_⟩
  rw[aU o,ft];exact t
 .rw[bX V]at d;exact⟨s,_,rfl,d,rfl,e⟩
def ov(a:Int):∀l:List Int,sw (l.map (eY a))=2*l.length
 |[]=>rfl
 |v::l=>by rw[cK,mI,ov a l,cV.mr];simp[eY];omega
def jT{a:Int}(h:14<=a):∀l:List Int,dc (l.map (eY a))=0
 |[]=>rfl
 |v::l=>by
  rw[cK,kK,jT h l];unfold dn;rw[ae (λb:oY (eY a v).op=>by have:=b.2;simp only[eY]at this;omega)]
def DK{e:List bz}{a:Nat}{c v:Int}(h:14<=c/\c<=17)(f:0<=v/\v<(a:Int)):WS e g True a (eY c v):=
 ⟨⟨Or.inr ⟨trivial,h⟩,λx d=>by simp[eY]at d;subst d;exact f,λ_=>rfl,by simp[eY],λb=>by simp only[eY]at b;omega,λb=>by simp only[eY]at b;omega,λb=>by simp only[eY]at b;omega⟩,λk d b=>by simp[eY]at b⟩
def rL{d:List bz}{a:Nat}{b:Int}(h:14<=b/\b<=17)(e:∀v∈l,0<=v/\v<(a:Int)):WL d g True a (l.map (eY b)):=λi s c=>by
 rw[cJ,jF]at c;obtain⟨v,f,rfl⟩:=c;rw[<-NV,jT h.1];exact DK h (e v (aq f))
def ns(f:Nat)(d:List Value)(m:E)(c:List Nat)(Q:Bk->Prop):Prop:=aN cg f d m λv a=>∃s b,v=.agg #[O.v s,vi b.aS]/\eO (bG c a) s b.aD/\Q b/\J m a
def ns.aH{g:List Value}{l:List Nat}{Q:Bk->Prop}(k:ns f g m c Q)(h:J a m)(q:∀d∈l,d<a.size)(p:∀s d b,eO (bG c b) s d.aD->Q d->J m b->J a b->K (.agg #[O.v s,vi d.aS]) b):aN cg f g m λv b=>eF l m b/\K v b:=
 k.mono λ_ b⟨s,d,j,n,r,e⟩=>⟨e.dv λi o=>h.lt (q i o),j▸p s d b n r e (h.trans e)⟩
def Km(f:Nat)(d:List Value)(m:E)(c:List Nat)(Q:cV->Prop):Prop:=aN cg f d m λv b=>∃a k x,v=oW x a k/\ap (bG c b) a x.args/\nD (bG c b) k x.bC/\Q x/\J m b
def Km.aH{e:List Value}{l:List Nat}{Q:cV->Prop}(j:Km f e m c Q)(g:J a m)(s:∀b∈l,b<a.size)(r:∀p k x b,ap (bG c b) p x.args->nD (bG c b) k x.bC->Q x->J m b->J a b->K (oW x p k) b):aN cg f e m λv b=>eF l m b/\K v b:=
 j.mono λ_ b⟨p,k,x,i,n,o,t,d⟩=>⟨d.dv λh q=>g.lt (s h q),i▸r p k x b n o t d (g.trans d)⟩
def bO{b:E}(e:∀a∈c,a<m.size)(i:m.size<=b.size){d:Nat}(g:d<b.size):∀a∈d::c,a<b.size:=λa f=>by
 rcases List.mem_cons.1 f with h|h
 .omega
 .have:=e a h;omega
structure Zz(ds:List bz)(g:Nat)(v lo la:List Int)(b:Bk):Prop where
 aR:∀o∈lo,0<=o/\o<(v.length:Int)
 Xx:lo.length+5*b.w<=500
 Xw:la.length+1000*b.w<=1000000
 vN:v.length+5*b.w<=1000000
 wb:WB ds g False v.length b
def WA(a:List bz)(d:List gN)(b:Bk):Prop:=∀(c:List Nat)(m:E),(∀e∈c,e<m.size)->∀(g r k t j e:O)(v i h:List Int),eK m g r a d->ap m k v->eO m t b.aD->ap m j i->ap m e h->Zz a d.length v i h b->
 ns 258 [.agg #[O.v g,O.v r],O.v k,.agg #[O.v t,vi b.aS],O.v j,O.v e] m c λf=>WB a d.length True v.length f/\f.w+1050<=1100*b.w
structure Zy(ds:List bz)(g:Nat)(v fl lo la:List Int)(b:Bk):Prop where
 aR:∀o∈lo,0<=o/\o<(v.length:Int)
 fl3:fl.length<=3
 Xx:lo.length+3+5*b.w<=500
 Xw:la.length+1000*b.w<=1000000
 vN:v.length+3+5*b.w<=1000000
 wb:WB ds g False (v.length+fl.length) b
def JI(hS:∀a∈c,a<m.size){ao G aV aE az bm a5:O}{ds:List bz}{rs:List gN}{P L lo la:List Int}{i:Bk}(hn:eK m ao G ds rs)(hv:ap m aV P)(hf:ap m aE L)(hs:eO m az i.aD)(u:ap m bm lo)(bd:ap m a5 la)
 (hp:Zy ds rs.length P L lo la i)(ih:WA ds rs i):ns 324 [.agg #[O.v ao,O.v G],O.v aV,O.v aE,.agg #[O.v az,vi i.aS],O.v bm,O.v a5] m c λq=>WB ds rs.length True (P.length+L.length) q/\q.w<=1100*i.w:=by
 apply Cx
 simp -zeta only[aC,aB]
 intro d p C
 let⟨w,t,s0,s1,s2⟩:=p7 (a:=d) (b:=p) (c:=C) rfl rfl rfl
 clear_value C
 have b7:=hv.len;have bx:=hf.len;have bF:=u.len;have bU:=hp.fl3;have bR:=i.Hf;have bW:=hp.Xx;have b6:=hp.vN;have bV:=hp.Xw
 refine(eN (S:=[]) aL (hv.le (w.le.trans (zW _))) (hf.le (w.le.trans (zW _))) V).aH (J.az C) t λaM _ b_ gi g x3 _=>⟨_,rfl,?_⟩
 subst g
 refine(Dx (S:=[]) aL (hs.le (w.trans x3).le) _ V).aH x3 t λbK ul F hu b5 x4 H=>⟨_,rfl,?_⟩
 intro m5 m6
 have bg:ap F bK ul:=hu.le (bA _ _)
 have bq:J F m6:=(J.push F _).trans (J.push m5 _)
 have u6:=H.trans bq
 have s5:m5.size=F.size+1:=by simp[m5]
 have gm:GI c F m6 (.mk F.size 0 0 0) []:=(GI.nil c F).ext (J.push m5 _)
 have gd:GI c F m6 (.mk m5.size 0 0 0) []:=(GI.nil c m5).cx (λ_ r=>r) V
 clear_value m6
 have z4:=H.size
 refine wN (n:=lo.length) (bF▸u.gS) (λae h sd M=>J F M/\∃U I,GI c F M h U/\GI c F M sd I/\h.D≠sd.D/\(∀o∈U,o∈lo)/\(∀o∈I,o∈lo)/\U.length<=ae/\I.length<=ae) ⟨bq,[],[],gm,gd,bE,aL,aL,ad _,ad _⟩ ?_
 rintro ae h sd m7 br μ hk ⟨x7,U,I,gm,gd,be,a1,a0,cm,cd⟩ bl
 have u7:=H.trans x7
 have v7:=w.trans u7
 refine dit (λr=>?_) λr=>?_
 .let⟨j,hy⟩:=cG lo ae
  have B:=aq hy
  have A:∀M,J m7 M->jK (M.push (.cells (bt [.i j]) aA)) aA [.i 0] 8 h (.mk M.size 0 1 1) λN m'=>eF [p.size,d.size,m.size] (M.push (.cells (bt [.i j]) aA)) m'/\br N sd (cT ((ae:Int)+1)) m'/\μ N sd (cT ((ae:Int)+1)) m'<μ h sd ae m7:=λM aa=>
   GI.R9 (gm.ext aa) (gd.ext aa) be ((x7.trans aa).fz []) V λG m' z g' k f=>⟨J.oE ((u7.trans aa).aK _) (H.trans f.ext) t,bl V _ _ _ ⟨f.ext,_,_,z,g',k,oP a1 B,a0,bE,V⟩⟩
  refine⟨V,V,j,(u.ext v7).aF hy,?_⟩
  refine(dw (bg.ext x7) j).any.aH u7 t λa m8 v b=>⟨_,rfl,λ_=>⟨V,V,j,(u.ext (w.trans b)).aF hy,A m8 v⟩,λ_=>⟨V,V,j,(u.ext (w.trans b)).aF hy,?_⟩⟩
  refine(dw (bd.ext (w.trans b)) j).any.aH b t λa y Q u9=>⟨_,rfl,λ_=>⟨V,V,j,(u.ext (w.trans u9)).aF hy,A y (v.trans Q)⟩,λ_=>⟨V,V,j,(u.ext (w.trans u9)).aF hy,?_⟩⟩
  intro a6
  have aa:=v.trans Q
  exact GI.R9 (gd.ext aa) (gm.ext aa) be.symm ((x7.trans aa).fz []) V λG m' z g' k f=>⟨J.oE ((u7.trans aa).aK _) (H.trans f.ext) t,bl V _ _ _ ⟨f.ext,_,_,g',z,k.symm,a1,oP a0 B,V,bE⟩⟩
 have cm:U.length<=lo.length:=V
 have cd:I.length<=lo.length:=V
 intro m8
 have bY:=gm.bn
 have bS:=gd.bn
 refine ez (n:=L.length) (bx▸hf.gS) (λae s M=>J m7 M/\∃l,GI c m7 M s l/\(∀o∈l,0<=o/\o<((P.length+L.length:Nat):Int))/\l.length<=ae) ⟨J.push _ _,[],GI.nil c m7,aL,ad _⟩ ?_
 rintro bi su y I2 μ2 hj ⟨Q,A,gu,ar,cu⟩ a8
 have u9:=u7.trans Q
 have v9:=w.trans u9
 refine dit (λh2=>?_) λh2=>?_
 .let⟨j,hy⟩:=cG L bi
  refine⟨V,V,j,(hf.ext v9).aF hy,λ_=>?_,λ_=>a8 V _ _ ⟨Q,A,gu,ar,V⟩⟩
  rw[aQ (b:=(aV.len:Int)+bi) V V]
  refine(dw ((bg.ext x7).ext Q) _).any.aH u9 t λa a6 ak aU=>⟨_,rfl,λ_=>?_,λ_=>a8 V _ _ ⟨Q.trans ak,A,gu.ext ak,ar,V⟩⟩
  intro bj
  refine GI.kH (gu.ext ak) ((Q.trans ak).fz []) (λa b=>aO (hS a b) (w.trans u7).size) V λG m' z f am Z=>⟨J.oE ((u9.trans ak).aK _) (u7.trans f.ext) t,a8 V _ _ ⟨f.ext,_,z,λo u=>?_,bE⟩⟩
  rcases List.mem_append.1 u with u|u
  .exact ar o u
  .simp at u;omega
 have b4:=gu.bn
 have aZ:=gm.ext Q
 have bv:∀{M:E},J C M->∀a∈p.size::c,a<M.size:=λr=>bO hS (w.trans r).size (r.lt (t _ aL))
 have aK:∀{M:E},J C M->h.D<M.size->∀a∈h.D::p.size::c,a<M.size:=λr T a b=>by
  rcases List.mem_cons.1 b with g|g
  .omega
  .exact bv r a g
 refine(eX (c:=h.D::p.size::c) (aK u9 aZ.bn.2) 14 ((gu.done (S:=c) (λa b=>aO (hS a b) (w.trans u7).size) V).le (bA _ _)) V).aH u9 t λs1 _ a6 g1 g ak aU=>⟨_,rfl,?_⟩
 subst g
 have a3:h.D<a6.size:=ak.lt aZ.bn.2
 refine(eX (c:=s1.D::h.D::p.size::c) (λa b=>?_) 15 ((((gd.done (S:=c) (λa b=>aO (hS a b) (w.trans H).size) V).le (bA _ _)).ext Q).ext ak) V).aH aU t λs2 _ bj g2 g aW bJ=>⟨_,rfl,?_⟩
 .rcases List.mem_cons.1 b with g|g
  .have:=g1.bn;omega
  .exact aK aU a3 a g
 subst g
 have bX:h.D<bj.size:=aW.lt a3
 have b0:=(g1.ext gD.mono aW).bn
 have e2:=g2.nF gD.mono (λb=>by
  have hy:=g2.bn;rcases List.mem_cons.1 b with g|g
  .have:=g1.bn;omega
  .have:=aK aU a3 _ g;omega) bh bE
 refine GS.all (g1.ext gD.mono aW) ((ak.trans aW).fz []) e2 bE λB N g3 f3 z3 q3=>⟨J.oE bJ (u9.trans f3.ext) t,?_⟩
 have al:J y N:=f3.ext
 have aD:=u9.trans al
 have cb:=w.trans aD
 have MI:WL ds rs.length True (P.length+L.length) (A.map (eY 14)++I.map (eY 15)):=by
  refine(rL V ar).append ?_;rw[jT V];refine rL V λo u=>?_;have:=hp.aR o (a0 o u);omega
 have bo:dc (A.map (eY 14)++I.map (eY 15))=0:=by rw[cW,jT V,jT V]
 have ca:sw (A.map (eY 14)++I.map (eY 15))<=1006:=by rw[dC,ov,ov];omega
 have bb:GI c F N h U:=(gm.ext Q).ext al
 have bD:B.D≠h.D:=g3.Lb bb bh
 have aH:∀{M j:E},J C M->J C j->∀i∈[p.size,d.size,m.size],∀o,af j i o=af M i o:=λr h' i T o=>aJ (by rw[h'.same i (t i T),r.same i (t i T)]) o
 have E4:∀{M j:E},J C M->J C j->∀{av:Prop},av->af j d.size 0=af M d.size 0/\af j d.size 1=af M d.size 1/\af j m.size 0=af M m.size 0/\af j m.size 1=af M m.size 1/\av:=λr h' _ hp=>⟨aH r h' _ aL _,aH r h' _ aL _,aH r h' _ aL _,aH r h' _ aL _,hp⟩
 have F4:∀{M:E},Fz [h.D] y M->J F M:=λr=>Fz.ext ((((x7.trans Q).fz [h.D]).trans r).DB λi T=>Or.inr (by simp at T;omega))
 have b3:h.D<y.size:=aZ.bn.2
 have z3:=x3.size
 have tail:∀(M:E)(k:Nat)(ss:O)(q:Bk),GS (k::h.D::p.size::c) y M B (A.map (eY 14)++I.map (eY 15))->Fz [h.D] y M->y.size<=k->k<M.size->k≠B.D->eO (bG (k::B.D::h.D::p.size::c) M) ss q.aD->WB ds rs.length True (P.length+L.length) q/\q.w+1050<=1100*i.w->
  let R:E:=ah M k 0 [.s ss,.i q.aS]
  jK R gB [.i 0,.i 0,.i 0,.s .nil,.s .nil] 72 B ss λay M2=>eF [k,p.size,d.size,m.size] R M2/\af M2 k 1=af R k 1/\
   let M3:E:=ah M2 p.size 0 [.s ay,.i q.aS]
   ∃s ab,Value.agg #[O.v ay,vi q.aS]=.agg #[O.v s,vi ab.aS]/\eO (bG c M3) s ab.aD/\(WB ds rs.length True (P.length+L.length) ab/\ab.w<=1100*i.w)/\J m M3:=by
  intro M k ss q z ac bw bP bf au a4 R
  have cc:R.size=M.size:=aw _ _ _ _
  have hy:=z.bn
  have bH:eO (bG (B.D::h.D::p.size::c) R) ss q.aD:=au.le (cA aL λa b=>ai _ b)
  have bQ:=Bk.mr q
  have b1:=fY q.aD
  have hF:=F4 ac
  have zF:=hF.size
  have z9:=ac.size
  have g1:GS (h.D::p.size::c) y R B _:=z.re gD.mono (Y:=[k]) ((Fz.az [k] M).ah (Or.inl aL) _ _) aL (by simpa using kC bf) λa b=>Or.inl (ai _ b)
  have f1:Fz [h.D] y R:=ac.ah (Or.inr bw) _ _
  have hw:=a4.2
  refine GS.all g1 f1 bH bE λG M2 g2 f am Z=>⟨λa b=>?_,aJ (Z k V bf) _,?_⟩
  .simp at b
   refine Z a ?_ ?_<;>rcases b with rfl|rfl|rfl|rfl<;>omega
  intro M3
  have bL:J m M2:=Fz.ext (((v9.fz [h.D]).trans f).DB λi T=>Or.inr (by simp at T;omega))
  have b8:=g2.bn
  have h5:=g2.nF gD.mono (λb=>by
   rcases List.mem_cons.1 b with g|g
   .omega
   .rcases List.mem_cons.1 g with g|g
    .omega
    .have:=hS _ g;omega) bh bE
  refine⟨G,.mk _ q.aS,rfl,eO.le (cA aL λa b=>ai _ (ai _ b)) h5,⟨WB.of (MI.append ?_) ?_,?_⟩,bL.ah V _ _⟩
  .rw[bo];exact a4.1.aT.1
  .rw[cW,bo,bT];exact a4.1.aT.2
  .rw[Bk.qG,dC];omega
 have aR:∀(M:E)(e:List Nat)(K:O->E->Prop),J N M->GS e y M B (A.map (eY 14)++I.map (eY 15))->h.D∈e->(∀G j,GI c F j G (U++A)->GS e y j B (A.map (eY 14)++I.map (eY 15))->Fz [h.D] y j->M.size<=j.size->(∀i,i<M.size->i≠h.D->j[i]? =M[i]?)->K G j)->jK M aA [.i 0] 8 h su K:=by
  intro M e K hx z bC hK;have bI:ap (bG (h.D::c) M) su A:=by
   refine ap.le ((al.trans hx).df _) (Gr.nF (S:=h.D::c) tV.mono gu.any (λb=>?_) bh V);rcases List.mem_cons.1 b with g|g
   .omega
   .have:=hS _ g;have:=w.size;omega
  exact GI.all (bb.ext hx) ((((x7.trans Q).trans al).trans hx).fz []) (λa b=>aO (hS a b) (w.trans H).size) bI V λG j g' f am Z=>hK G j g' (z.Nu gD.mono (Y:=[h.D]) ⟨am.1,λi T hn=>Z i T (by simpa using hn)⟩ (by simpa using bC) (by simpa using bD)) (((al.trans hx).fz [h.D]).trans ⟨am.1,λi T hn=>Z i T (by simpa using hn)⟩) am.1 Z
 have D:∀(M:E)(e:List Nat)(mn ag:O)(v:List Int),(∀a∈e,a<M.size)->Fz [h.D] y M->ap M mn (U++A)->ap M ag v->pb la v->ns 258 [.agg #[O.v ao,O.v G],O.v aM,.agg #[O.v az,vi i.aS],O.v mn,O.v ag] M e λq=>WB ds rs.length True (P.length+L.length) q/\q.w+1050<=1100*i.w:=by
  intro M e mn ag v bu ac h1 h2 h3;have hF:=F4 ac;have hm:=(w.trans H).trans hF;have bB:ap M aM (P++L):=(((gi.done aL bE).le (bA _ _)).ext x4).ext hF;have:=ih e M bu ao G aM az mn ag (P++L) (U++A) v (hn.le hm.le) bB (hs.le hm.le) h1 h2 ⟨λo u=>?_,bE,oh h3.2,bE,by simpa using hp.wb⟩
  .simpa using this
  .simp;rcases List.mem_append.1 u with u|u
   .have:=hp.aR o (a1 o u);omega
   .have:=ar o u;omega
 have b9:=al.size
 have b2:h.D<N.size:=V
 have bZ:B.D<N.size:=g3.bn.2
 have bc:∀{M:E},J C M->N.size<=M.size->∀a∈B.D::h.D::p.size::c,a<M.size:=λr hz a b=>by
  rcases List.mem_cons.1 b with g|g
  .omega
  .exact aK r V a g
 have iH:∀(M:E)(k:Nat)(mn ag:O)(v:List Int),GS (k::h.D::p.size::c) y M B (A.map (eY 14)++I.map (eY 15))->Fz [h.D] y M->N.size<=k->k<M.size->ap M mn (U++A)->ap M ag v->pb la v->
  aN cg 258 [.agg #[O.v ao,O.v G],O.v aM,.agg #[O.v az,vi i.aS],O.v mn,O.v ag] M λrv j=>eF [k,p.size,d.size,m.size] M j/\∃a9:O,∃aT:Int,rv=.agg #[O.v a9,vi aT]/\
   let R:E:=ah j k 0 [.s a9,.i aT]
   jK R gB [.i 0,.i 0,.i 0,.s .nil,.s .nil] 72 B a9 λay M2=>eF [k,p.size,d.size,m.size] R M2/\af M2 k 1=af R k 1/\
    let M3:E:=ah M2 p.size 0 [.s ay,.i aT]
    ∃s ab,Value.agg #[O.v ay,vi aT]=.agg #[O.v s,vi ab.aS]/\eO (bG c M3) s ab.aD/\(WB ds rs.length True (P.length+L.length) ab/\ab.w<=1100*i.w)/\J m M3:=by
  intro M k mn ag v z ac h1 h2 h3 h4 h5
  have hM:J C M:=H.trans (F4 ac)
  refine(D M (k::B.D::h.D::p.size::c) mn ag v (λa b=>?_) ac h3 h4 h5).aH (J.az M) (λa b=>?_) λss q j au hq hx _=>⟨_,_,rfl,tail j k ss q (z.ext gD.mono hx) (ac.then hx) V (hx.lt h2) V au hq⟩
  .rcases List.mem_cons.1 b with g|g
   .omega
   .exact bc hM V a g
  .rcases List.mem_cons.1 b with g|g
   .omega
   .exact hM.lt (t a g)
 have aS:∀(M:E)(o:Obj),GS (h.D::p.size::c) y M B (A.map (eY 14)++I.map (eY 15))->GS (M.size::h.D::p.size::c) y (M.push o) B (A.map (eY 14)++I.map (eY 15)):=λM o z=>
  z.re gD.mono (Y:=[]) ((J.push M o).fz []) aL aL λa b=>by
   rcases List.mem_cons.1 b with g|g
   .exact Or.inr V
   .exact Or.inl g
 have bN:Fz [h.D] y N:=al.fz _
 have aY:∀(M:E)(aX:List Nat)(K:Value->E->Prop),J C M->(∀a∈aX,a<M.size)->(∀s v j,ap j s v->pb la v->J M j->K (O.v s) j)->aN cg 339 [O.v a5,vi (aV.len:Int)] M λP m'=>eF aX M m'/\K P m':=λM aX K hM hL hK=>
  (OM (S:=[]) aL (bd.le ((w.trans hM).le.trans (zW _))) _ V).aH (J.az M) hL λs v j z av aa _=>hK s v j ((z.done aL (oh av.2)).le (bA _ _)) av aa
 have aI:∀{M:E}{s:O},GI c F M s (U++A)->ap M s (U++A):=λz=>(z.done (λa b=>aO (hS a b) (w.trans H).size) bE).le (bA _ _)
 have a2:∀{M:E}{k:Nat},J C M->k<M.size->∀a∈[k,p.size,d.size,m.size],a<M.size:=λr T a b=>by
  rcases List.mem_cons.1 b with g|g
  .omega
  .exact r.lt (t a g)
 refine⟨aR N _ _ (J.az _) g3 aL λax aP ga gs X am Z=>⟨λa b=>Z a (aD.lt (t a b)) (oh (t a b)),E4 aD (H.trans (F4 X)) ⟨?_,?_⟩⟩,?_⟩
 .have aj:=H.trans (F4 X)
  refine aY aP _ _ aj (λa b=>aj.lt (t a b)) λan v aG ba bn W=>⟨_,rfl,E4 aj (aj.trans W) ⟨?_,?_⟩⟩
  .have aF:=aj.trans W
   have bM:=W.size
   refine(D aG (B.D::h.D::p.size::c) ax an v (bc aF V) (X.then W) ((aI ga).ext W) ba bn).aH aF t λss q a7 au hq a_ bp=>⟨_,_,rfl,?_⟩
   intro bk
   have ce:=a_.size
   have bs:=(X.then W).then a_
   exact E4 bp (bp.aK _) (tail bk a7.size ss q (aS a7 _ ((gs.ext gD.mono W).ext gD.mono a_)) (bs.push _) V (by simp[bk]) V (au.le (ta (J.push a7 _) (ad _))) hq)
  .intro a7
   have bM:=W.size
   have aF:=aj.trans W
   exact E4 aF (aF.aK _) (iH a7 aG.size ax an v (aS aG _ (gs.ext gD.mono W)) ((X.then W).push _) V (by simp[a7]) (((aI ga).ext W).ext (J.push _ _)) (ba.ext (J.push _ _)) bn)
 .intro W
  have aj:=H.trans (F4 X)
  have aF:J C W:=aj.aK _
  have a7:J aP W:=J.push _ _
  refine E4 aj aF (aY W _ _ aF (a2 aF (by simp[W])) λan v ba a_ bk aG=>⟨_,rfl,E4 aF (aF.trans aG) ?_⟩)
  exact iH ba aP.size ax an v ((aS aP _ gs).ext gD.mono aG) ((X.then a7).then aG) V (aG.lt (by simp[W])) (((aI ga).ext a7).ext aG) a_ bk
 .intro W
  have aG:J C W:=aD.aK _
  have bn:J N W:=J.push _ _
  refine E4 aD aG (aR W _ _ bn (aS N _ g3) aL λax a_ ga gs X am Z=>⟨λa b=>Z a (a2 aG (by simp[W]) a b) ?_,E4 aG (H.trans (F4 X)) ?_⟩)
  .rcases List.mem_cons.1 b with g|g
   .omega
   .have:=t a g;omega
  have aF:=H.trans (F4 X)
  have bp:W.size=N.size+1:=by simp[W]
  refine aY a_ _ _ aF (a2 aF V) λan v ba a7 bk aj=>⟨_,rfl,E4 aF (aF.trans aj) ?_⟩
  exact iH ba N.size ax an v (gs.ext gD.mono aj) (X.then aj) (ad _) (aj.lt V) ((aI ga).ext aj) a7 bk
end
section
variable{c m:E}{k i g a:Nat}{s:O}{d:List Nat}{e:List Int}{x:cV}{f:List gN}
def VH{a b:E}(h:J a c)(f:Fz [k] c b)(g:a.size<=k):J a b:=Fz.ext (((h.fz [k]).trans f).DB λe d=>Or.inr (by simp at d;omega))
def _root_.Go.Vc.Fz.Ow{M b:E}(f:Fz [k] c M)(h:s.D=k\/c.size<=s.D)(g:M.size<=b.size)(q:∀a,a<M.size->a≠s.D->b[a]? =M[a]?):Fz [k] c b:=
 f.rV ⟨g,λa d e=>q a d (by simpa using e)⟩ (Y:=[s.D]) (λy d=>by simp at d⊢;omega)
def GI.ZK{X:List Nat}{b:E}{x:O}{f:List Int}{K:O->E->Prop}(h:GI d b m s e)(k:Fz X b m)(n:ap m x f)(p:e.length+f.length<=10^12)
 (l:∀r a,GI d b a r (e++f)->Fz X b a->(m.size<=a.size/\(r.D=s.D\/m.size<=r.D))->(∀c,c<m.size->c≠s.D->a[c]? =m[c]?)->K r a):jK m aA [.i 0] 8 s x K:=by
 let⟨o,g,i,j⟩:=n.VS (b:=1) λ_ _ h=>by rw[h];rfl
 exact Gr.next (g:=[.i 0]) tV.mono bh h k g i j V l
def bN(d:List Nat){b:O}(h:ap m b e)(c:e.length<=10^12):kY 68 [O.v b] m d (e=·):=by
 apply ny;intro i;have a:J m i:=J.push m _;exact GI.ZK (e:=[]) (X:=[]) (GI.nil d m) (a.fz []) (h.ext a) (by simpa using c) λr j g f _ _=>⟨r,e,rfl,by simpa using g,rfl,f.ext⟩
abbrev GB(d:List Nat)(a m:E)(s:O)(e:List Bk):Prop:=Gr d a m di 2 rH s e
def GB.new(d:List Nat)(m:E):GB d m (m.push (.cells (bt []) di)) (.mk m.size 0 0 0) []:=Gr.new d (ad _) _ _ _
def GB.kH{d X:List Nat}{g m:E}{s a:O}{e:List Bk}{c:Bk}{K:O->E->Prop}(h:GB d g m s e)(k:Fz X g m)(j:eO (bG (s.D::d) m) a c.aD)(l:e.length<=10^12)
 (i:∀r b,GB d g b r (e++[c])->Fz X g b->m.size<=b.size/\(r.D=s.D\/m.size<=r.D)->(∀f,f<m.size->f≠s.D->b[f]? =m[f]?)->K r b):
 jK (m.push (.cells (bt [.s a,.i c.aS]) di)) di [.s .nil,.i 0] 32 s (.mk m.size 0 1 1) K:=
 Gr.kH (g:=[.s .nil,.i 0]) rH.mono bh h k (by cases c;exact rH.of j) V i
def Ku{a:List bz}{b bP:Int}{y:Int}(h:b=8)(c:(cy a bP)[i]? =some y):BG a b bP i=(cD a y).length:=by unfold BG;rw[an h,c];rfl
def Kv{b:List bz}{a bP:Int}(h:a≠8):BG b a bP i=0:=by unfold BG;rw[ae h]
def _root_.Go.Vc.WS.PG{b:List bz}{f d:Prop}(h:WS b g f a x)(j:f->d){bY:Int}(l:0<=bY/\bY<=(a:Int)){bC:List Bk}(i:bC.length=x.bC.length)(m:∀(k:Nat)(c:Bk),bC[k]? =some c->WB b g d (a+BG b x.op x.bP k) c):WS b g d a ⟨x.op,x.bP,bY,x.args,bC⟩:=
 ⟨⟨h.eZ.op.imp id λh=>⟨j h.1,h.2⟩,h.eZ.args,h.eZ.lJ,l,λe=>i.trans (h.eZ.Ka e),λe=>i▸h.eZ.all e,h.eZ.call⟩,m⟩
def Il(hS:∀g∈d,g<m.size){Y U ae a k ac ab:O}{r:List bz}{G lo la:List Int}(D:eK m Y U r f)(hv:ap m ae G)(ha:ap m a x.args)(R:nD m k x.bC)(ho:ap m ac lo)(aA:ap m ab la)
 (aD:∀o∈lo,0<=o/\o<(G.length:Int))(Xx:lo.length+5*x.w<=500)(Xw:la.length+1000*x.w<=1000000)(vN:G.length+5*x.w<=1000000)(aa:WS r f.length False G.length x)(ih:∀c∈x.bC,WA r f c):
 Km 295 [.agg #[O.v Y,O.v U],O.v ae,oW x a k,O.v ac,O.v ab] m d λy=>WS r f.length True G.length y/\y.op=x.op/\y.w<=1+x.args.length+1100*bw x.bC:=by
 apply AA
 simp -zeta only[aC,aB]
 intro m0 o p ak
 let⟨q,u,s0,s1,s2⟩:=p7 (a:=m0) (b:=o) (c:=p) rfl rfl rfl
 have ao:J p ak:=J.push _ _
 have gk:=GB.new (o.size::d) p
 clear_value p
 have aK:=ha.len;have az:=R.len;have hw:=cV.mr x;have aQ:=Kx x.bC
 refine(il (e:=[p.size]) (by simp[ak]) (D.le (q.trans ao).le).bo D.types x.bP).aH ao u λg cl m4 t F x4 u4=>⟨_,rfl,?_⟩
 subst F
 have aR:=t.len
 refine ez (n:=x.bC.length) (az▸R.gS) (λj s M=>Fz [p.size] m4 M/\(s.D=p.size\/m4.size<=s.D)/\∃e,GB (o.size::d) p M s e/\e.length=j/\(∀(i:Nat)(c:Bk),e[i]? =some c->WB r f.length True (G.length+BG r x.op x.bP i) c)/\bw e<=1100*bw (x.bC.take j)) ⟨Fz.az _ _,Or.inl rfl,[],gk.ext rH.mono x4,rfl,aL,aL⟩ ?_
 rintro j s T au μ hj ⟨N,aE,e,Q,aT,ag,ay⟩ aH
 have h:=VH u4 N (ad _)
 have hy:=Q.bn
 refine dit (λz=>?_) λz=>?_
 .intro m6
  have l:J T m6:=J.push _ _
  let⟨c,C⟩:=cG x.bC j
  have aM:=wJ C
  have aP:=uq C
  have aw:∀{M:E},J T M->∀g∈s.D::o.size::d,g<M.size:=λz=>bO (bO hS q.size (u _ aL)) (h.trans z).size (oh z.size)
  have iH:∀(M:E)(H:O)(P:List Int)(w:O),J T M->ap M H P->P.length=BG r x.op x.bP j->eO M w c.aD->
   aN cg 324 [.agg #[O.v Y,O.v U],O.v ae,O.v H,.agg #[O.v w,vi c.aS],O.v ac,O.v ab] M λrv K=>eF [o.size,m0.size,m.size] M K/\∃am:O,∃an:Int,rv=.agg #[O.v am,vi an]/\
    let M1:E:=K.push (.cells (bt [.s am,.i an]) di)
    jK M1 di [.s O.nil,.i (0:Int)] 32 s (O.mk K.size 0 1 1) λal L=>eF [o.size,m0.size,m.size] M1 L/\au al (cT ((j:Int)+(1:Int))) L/\μ al (cT ((j:Int)+(1:Int))) L<μ s j T:=by
   intro M H P w B hf af I
   have X:=q.trans (h.trans B)
   have b3:=Qv D.types x.op x.bP j
   refine(JI (c:=s.D::o.size::d) (aw B) (D.le X.le) (hv.ext X) hf I (ho.ext X) (aA.ext X) ⟨aD,V,V,V,V,af▸aa.bC j c C⟩ (ih c (aq C))).aH (h.trans B) u λss b' K aF F y u'=>⟨_,_,rfl,?_⟩
   refine GB.kH (c:=b') (Q.ext rH.mono (B.trans y)) (u'.fz []) aF (oh (qb x.bC)) λU L g2 f2 z2 q2=>⟨J.oE (u'.aK _) f2.ext u,aH V _ _ ⟨(N.then (B.trans y)).Ow aE z2.1 q2,?_,_,g2,bE,λi b2 v=>?_,?_⟩⟩
   .have A:=(N.then (B.trans y)).size
    rcases z2.2 with Z|Z<;>omega
   .rcases aW i e.length with A|A
    .rw[ax A]at v;exact ag i b2 v
    .rw[aI A]at v
     have:i -e.length=0:=by have:=av v;simp at this;omega
     rw[this]at v;simp at v;subst v
     have:i=j:=V
     subst this
     rw[<-af];exact F.1
   .rw[oN,uo,zy]
    have:=F.2;omega
  refine⟨λA=>?_,λA=>?_⟩
  .simp only[aG]at A
   have aS:=(aa.eZ.all A).1
   let⟨ar,ah⟩:=cG (cy r x.bP) j
   refine⟨V,V,ar,(eP.1 ((t.le ((N.then l).df aL)).aF ah)).2,?_⟩
   have W:=h.trans l
   refine(dI (e:=[]) aL ((D.le (q.trans W).le).bo.le (zW _)) D.types ar).aH W u λH P m7 hf F x7 u7=>⟨_,rfl,?_⟩
   subst F
   let⟨w,I,e0,e1⟩:=(R.le (q.trans u7).le).aF C
   exact⟨V,V,_,e0,_,e1,iH m7 H _ w (l.trans x7) (hf.le (bA _ _)) (Ku A ah).symm I⟩
  .simp only[aj]at A
   let⟨w,I,e0,e1⟩:=(R.le (q.trans (h.trans l)).le).aF C
   exact⟨V,V,_,e0,_,e1,iH m6 _ [] w l (mD _ _ _ _ _ _) (Kv A).symm I⟩
 .have A:e.length=x.bC.length:=V
  rw[bX V]at ay
  refine(bN (o.size::d) (ha.ext (q.trans h)) V).aH h u λB H m6 w Z l W=>⟨_,rfl,aJ (l.same _ (h.lt (u _ aL))) _,aJ (l.same _ (h.lt (u _ aL))) _,?_⟩
  subst Z
  intro m7
  have C:=(Q.ext rH.mono l).bn
  have v:∀g∈o.size::d,g<p.size:=bO hS q.size V
  refine⟨B,s,⟨x.op,x.bP,0,x.args,e⟩,rfl,(w.done (λg t=>aO (v g t) h.size) V).le (cA aL λg t=>ai _ t),nD.le (cA aL λg t=>ai _ t) ((Q.ext rH.mono l).done rH.mono v bh (by have:=qb x.bC;show e.length<=_;omega)),⟨aa.PG (λz=>z.elim) ⟨V,V⟩ A ag,rfl,?_⟩,(q.trans W).ah V _ _⟩
  rw[cV.mr]
  simp only
  omega
def _root_.Go.Vc.Ry{σ τ ρ:Type}{n:Nat}(u:n<=9223372036854775807){j:σ}{l:τ}{h:ρ}{g:(σ->τ->ρ->Int->E->Prop)->(σ->τ->ρ->Int->E->Nat)->σ->τ->ρ->Int->E->Prop}(Q:Nat->σ->τ->ρ->E->Prop)(p:Q 0 j l h m)
 (o:∀(k:Nat)(s:σ)(t:τ)(r:ρ)(a:E)(I:σ->τ->ρ->Int->E->Prop)(μ:σ->τ->ρ->Int->E->Nat),k<=n->Q k s t r a->
  (k<n->∀d e c b,Q (k+1) d e c b->I d e c (cT ((k:Int)+1)) b/\μ d e c (cT ((k:Int)+1)) b<μ s t r k a)->g I μ s t r k a):
 ∃(I:σ->τ->ρ->Int->E->Prop)(μ:σ->τ->ρ->Int->E->Nat),I j l h 0 m/\∀s t r i a,I s t r i a->g I μ s t r i a:=by
 refine⟨λs t r i b=>∃k:Nat,i=k/\k<=n/\Q k s t r b,λ_ _ _ i _=>(n -i).toNat,⟨0,rfl,dL _,p⟩,?_⟩
 rintro s t r i a ⟨k,rfl,q,v⟩
 refine o k s t r a _ _ q v λf d e c b w=>?_
 rw[kA f u]
 exact⟨⟨k+1,rfl,f,w⟩,Dr f⟩
structure CB(ds:List bz)(g:Nat)(d:List Nat)(m2 M:E)(v lo:List Int)(aD:List cV)(k:Nat)(st inn mn:O):Prop where
 x:J m2 M
 hs:∃e,GS (inn.D::mn.D::d) m2 M st e/\WL ds g True v.length e/\dc e=dc (aD.take k)/\sw e<=1100*sw (aD.take k)
 hi:∃e,GI d m2 M inn e/\e.length=v.length+dc (aD.take k)
 hm:∃e,GI d m2 M mn e/\e.length<=lo.length+k/\∀o∈e,0<=o/\o<((v.length+dc (aD.take k):Nat):Int)
 ne:inn.D≠mn.D
def ZO{b:List bz}(h:WS b g False a x):dn x=1:=an (h.eZ.op.resolve_right λh=>h.1)
def Gm{U:List bz}:∀c:Bk,WA U f c:=by
 refine Bk.ind ?_;intro aD v ih d m hS b8 c0 dQ c2 dM c6 aj lo la hn hv hs A bP hp;have bf:=hp.wb.aT;simp only[Bk.jS,Bk.ju]at*;have Xx:=hp.Xx;have Xw:=hp.Xw;have vN:=hp.vN;rw[(Bk.qG aD v)]at Xx Xw vN;apply yJ;simp -zeta only[aC,aB];intro m0 o q aI;let⟨F,N,s0,s1,s2⟩:=p7 (a:=m0) (b:=o) (c:=q) rfl rfl rfl;have bo:J q aI:=J.push _ _;have bK:∀am,GS am q aI (.mk q.size 0 0 0) []:=λam=>GS.new am q;have s3:aI.size=q.size+1:=by simp[aI]
 clear_value aI;clear_value q;have bS:=hs.len;have cK:=Bw aD;have ds:=fY aD;refine(bN d (hv.ext (F.trans bo)) V).aH bo N λl _ m4 G p x4 u4=>⟨_,rfl,?_⟩;subst p;refine(bN d (A.ext (F.trans u4)) V).aH u4 N λu _ m5 W p x5 u5=>⟨_,rfl,?_⟩;subst p;have bT:=G.bn;have bU:=W.bn;refine Ry (n:=aD.length) (bS▸hs.gS) (λk z l u g=>CB U f.length (o.size::d) q g aj lo aD k z l u) ⟨u5,⟨[],((bK _).ext gD.mono x4).ext gD.mono x5,WL.nil _ _ _ _,rfl,aL⟩,⟨aj,((G.ext x5).cx (λ_ h=>h) bo.size).any,aL⟩,⟨lo,(W.cx (λ_ h=>h) u4.size).any,V,by simpa using hp.aR⟩,V⟩ ?_;clear G W bT bU bK;rintro k z l u B bq μ hk ⟨x6,⟨R,gs,aX,Z,dt⟩,⟨li,G,aT⟩,⟨lm,W,db,bQ⟩,dm⟩ a3
 have v6:=F.trans x6;have dg:=G.len bh;have de:=sX (aD.take k);have dj:=qI k aD;have L:∀j∈o.size::d,j<q.size:=bO hS F.size (N _ aL);have cv:ap B l li:=(G.done L V).le (bA _ _);have cx:ap B u lm:=(W.done L V).le (bA _ _);have dH:=gs.bn;have bT:=G.bn;have bU:=W.bn;have cJ:=fY (aD.take k);have dh:k<=sw (aD.take k):=by rw[gH]at cJ;omega
 refine dit (λh=>?_) λh=>?_
 .let⟨x,r⟩:=cG aD k;let⟨a,kk,ha,bM,g0,g1,g2,g3,g4⟩:=hs.aF r;refine⟨V,V,_,v6.af g0,_,v6.af g1,_,v6.af g2,_,v6.af g3,_,v6.af g4,?_⟩;intro m7 C;have x8:J B C:=(J.push B _).ah (ad _) _ _;have s8:C.size=B.size+1:=by simp[C,m7,aw]
  clear_value C;have T:=x6.trans x8;have z6:=x6.size;have t:∀{g:E},C.size<=g.size->∀c∈[B.size,o.size,m0.size,m.size],c<g.size:=λh c hb=>by
   rcases List.mem_cons.1 hb with p|p
   .omega
   .have:=T.lt (N c p);omega
  have dA:=pR r;have dy:=qL r;have dz:=cV.mr x;have af:WS U f.length False li.length x:=by rw[aT];exact bf.1 k x r
  have bL:=ZO af;have dv:=cK (k+1);have dd:=qb x.bC;have dk:=fY R;have ae:∀{g:E},J q g->At g b8 c0 a kk U f x:=λh=>⟨hn.le (F.trans h).le,ha.ext (F.trans h),af.eZ.call⟩;have aW:∀{g:E},GI (o.size::d) q g l li->ap g l li:=λw=>(w.done L V).le (bA _ _);have bd:∀{g:E},GI (o.size::d) q g u lm->ap g u lm:=λw=>(w.done L V).le (bA _ _);have an:∀{g:E}{am:List Nat},C.size<=g.size->(∀j∈am,j<g.size)->∀j∈am++o.size::d,j<g.size:=λh hb j b=>by
   rcases List.mem_append.1 b with h|h
   .exact hb j h
   .have:=L j h;omega
  refine(nU (ae T).QS (aW (G.ext x8)) (ae T).args (bM.le (F.trans T).le) V λc _=>nk c).aH (J.az C) (t (ad _)) λty m9 x9 _=>⟨_,rfl,?_⟩;intro aZ;have b2:J C aZ:=x9.aK _;have e0:ap (bG [] aZ) (.mk m9.size 0 0 0) []:=mD _ _ _ _ _ _;clear_value aZ;rw[kA (k:=k) (n:=aD.length) V (bS▸hs.gS)]at a3⊢
  refine(Al (.mk aD v) [] aZ aL c2 _ _ _ (k+1) (hs.le (F.trans (T.trans b2)).le) e0 (by simp only[Bk.jS];omega) (by simp only[Bk.qG,eV];omega)).aH b2 (t (ad _)) λus ul cO hu cL dR bn=>⟨_,rfl,?_⟩;rw[Bk.qG,eV]at cL;refine(OQ (S:=[]) aL hu ((bP.ext (F.trans (T.trans bn))).le (zW _)) V).aH bn (t (ad _)) λlt ll cP ba bY c3 au=>⟨_,rfl,?_⟩;have aH:∀{g:E},GI [] cO g lt ll->ap g lt ll:=λw=>(w.done aL (oh bY.2)).le (bA _ _);have br:=T.trans au;have bx:=G.ext (x8.trans au);have bI:=W.ext (x8.trans au);have cq:=gs.ext gD.mono (x8.trans au);refine(Gp (b:=[]) aL (ae br) (aW bx) af.eZ.args (bd bI) (aH ba) V).aH (J.az cP) (t au.size) λdu dl cQ ck bZ av _=>⟨_,rfl,?_⟩;have c7:=bZ.2;have dT:=au.size;have dU:=av.size;have dS:=bn.size;have d8:=c3.size;refine(eX (c:=[z.D,l.D,u.D]++o.size::d) (an V bE) 14 ((ck.done aL V).le (bA _ _)) V).aH (J.az cQ) (t V) λdO _ a0 ce p ax _=>⟨_,rfl,?_⟩;subst p;have dV:=ax.size;refine GS.all (cq.ext gD.mono (av.trans ax)) (((br.trans av).trans ax).fz []) (ce.done gD.mono (an (am:=[z.D,l.D,u.D]) V bE) bh bE) bE λbm bV bv b9 b3 a5=>⟨λj b=>a5 j (t V j b) ?_,?_⟩
  .simp at b;omega
  have aS:J q bV:=b9.ext;have cw:l.D<a0.size:=V;have cy:u.D<a0.size:=V;have cz:z.D≠l.D:=gs.Lb G bh;have cB:z.D≠u.D:=gs.Lb W bh;have di:=ba.bn;have bB:=(bx.ext (av.trans ax)).jw (a5 _ cw cz.symm);have bJ:=(bI.ext (av.trans ax)).jw (a5 _ cy cB.symm);have bF:=(ba.ext (av.trans ax)).jw (a5 _ V V);have dp:bm.D=z.D\/a0.size<=bm.D:=b3.2;have dD:=bv.bn;have dW:=b3.1;refine(Il (d:=[bm.D,l.D,u.D]++o.size::d) (an V bE) (ae aS).QS (aW bB) (ae aS).args (bM.le (F.trans aS).le) (bd bJ) (aH bF) (by rw[aT];exact bQ) V (oh bY.2) V af (ih x (aq r))).aH (J.az bV) (t V) λc_ da x' bW cr cs cY ay _=>⟨_,_,_,_,_,rfl,?_⟩;let⟨cM,cI,dx⟩:=cY;have dX:=ay.size;refine GS.kH (x:=x') (bv.ext gD.mono ay) ((aS.trans ay).fz []) cr cs bE λaK bg bw b_ b4 a6=>⟨λj b=>?_,?_⟩
  .have:=t (g:=bW) V j b;rw[a6 j this (by simp at b;omega),(J.push bW _).same j this]
  have a8:J q bg:=b_.ext;have bC:=(bB.ext ay).jw (a6 _ V V);have cp:=(bJ.ext ay).jw (a6 _ V V);have a_:=(bF.ext ay).jw (a6 _ V V);have dq:aK.D=z.D\/a0.size<=aK.D:=by have:=b4.2;omega
  have dY:=b4.1;refine(Ir (b:=[]) aL (ae a8) (aW bC) af.eZ.args (bd cp) (aH a_) V).aH (J.az bg) (t V) λar lf cR gf bk az _=>⟨_,rfl,?_⟩;have bs:=a8.trans az;have dZ:=az.size;have cu:∀{g:E},GI [] bg g ar lf->ap g ar lf:=λw=>(w.done aL (oh bk.2)).le (bA _ _);refine(It (b:=[]) aL (ae bs) (cu gf) (aH (a_.ext az)) V).aH (J.az cR) (t V) λc1 Q cS gd b0 aA _=>⟨_,rfl,?_⟩;have d0:=aA.size;have c9:=b0.2;have c8:=bk.2;have dG:=gf.bn;have dF:=gd.bn;have dE:=bw.bn;refine(eX (c:=[aK.D,ar.D,l.D]++o.size::d) (an V bE) 15 ((gd.done aL V).le (bA _ _)) V).aH (J.az cS) (t V) λdP _ cT ch p ak _=>⟨_,rfl,?_⟩;subst p;have b6:=(bs.trans aA).trans ak;have d3:=ak.size;have cf:GS ([ar.D,l.D]++o.size::d) q cT aK _:=bw.re gD.mono (Y:=[]) (((az.trans aA).trans ak).fz []) aL aL λj b=>by
   simp only[cZ,eE,aV]at b⊢;rcases b with h|h|h
   .exact Or.inr V
   .exact Or.inl (Or.inl h)
   .exact Or.inl (Or.inr (Or.inr h))
  refine GS.all cf (b6.fz []) (ch.done gD.mono (an (am:=[aK.D,ar.D,l.D]) V bE) bh bE) bE λH a1 ci ca c4 aJ=>⟨λj b=>aJ j (t V j b) ?_,?_⟩
  .simp at b;omega
  have b7:J q a1:=ca.ext;have d4:=c4.1;have cn:=((bC.ext az).ext (aA.trans ak)).jw (aJ _ V V);have cm:=(gf.ext (aA.trans ak)).jw (aJ _ V V);have cj:=(gd.ext ak).jw (aJ _ V V);have co:=((a_.ext az).ext (aA.trans ak)).jw (aJ _ V V);have bc:ap a1 c1 Q:=(cj.done aL V).le (bA _ _);have ct:=bc.len;have cl:GI (o.size::d) q a1 ar lf:=(cm.cx (λ_ h=>h) a8.size).any;refine ez (n:=Q.length) (ct▸bc.gS) (λ_ s g=>J a1 g/\∃e,GI (o.size::d) q g s e/\GS ([s.D,l.D]++o.size::d) q g H (R++dl.map (eY 14)++[x']++Q.map (eY 15))/\pb lf e/\l.D≠s.D/\C.size<=s.D) ⟨J.az _,lf,cl,ci,⟨λ_ h=>h,ad _⟩,V,V⟩ ?_;rintro i s bi I2 μ2 hi ⟨aE,e,gl,bb,P,cC,dr⟩ cU;have bu:=b7.trans aE;have d5:=aE.size;have cN:=gl.bn;refine dit (λh2=>?_) λh2=>?_
  .let⟨I,K⟩:=cG Q i;refine⟨V,V,I,(bc.ext aE).aF K,?_⟩;refine(Bv (S:=[]) aL (((gl.done L (oh P.2)).le (bA _ _)).le (zW _)) I (oh P.2)).aH (J.az bi) (t V) λac X ab g2 y D _=>⟨_,rfl,cU V _ _ ⟨aE.trans D,X,(g2.cx (λ_ h=>h) bu.size).any,?_,⟨λaF hz=>P.1 aF (y.1 aF hz),bH y.2 P.2⟩,?_,?_⟩⟩
   .have aa:=g2.bn;refine bb.re gD.mono (Y:=[]) (D.fz []) aL aL λj b=>?_;simp only[cZ,eE,aV]at b⊢;rcases b with h|h|h
    .exact Or.inr V
    .exact Or.inl (Or.inr (Or.inl h))
    .exact Or.inl (Or.inr (Or.inr h))
   .have:=g2.bn;omega
   .have:=g2.bn;omega
  intro dJ;have bD:=cn.ext aE;refine GI.kH bD (bu.fz []) L V λaa ao ab cb b5 a7=>⟨λj b=>?_,?_⟩
  .have:=t (g:=bi) V j b;rw[a7 j this (by simp at b;omega),(J.push bi _).same j this]
  have a9:J q ao:=cb.ext;have c5:=b5.1;have cF:H.D≠l.D:=bb.Lb bD bh;have aG:=gl.jw (a7 _ cN.2 cC.symm);have bR:=b5.2;have ac:GS ([s.D,aa.D]++o.size::d) q ao H _:=bb.re gD.mono (Y:=[l.D]) ⟨c5,λj b hn=>a7 j b (by simpa using hn)⟩ aL (by simpa using cF) λj b=>by
   simp only[cZ,eE,aV]at b⊢;rcases b with h|h|h
   .exact Or.inl (Or.inl h)
   .rcases bR with p|p
    .exact Or.inl (Or.inr (Or.inl (h.trans p)))
    .exact Or.inr V
   .exact Or.inl (Or.inr (Or.inr h))
  have bj:aa.D≠s.D:=by rcases bR with p|p<;>omega
  have I:WL U f.length True aj.length (R++dl.map (eY 14)++[x']++Q.map (eY 15))/\dc (R++dl.map (eY 14)++[x']++Q.map (eY 15))=dc (aD.take (k+1))/\sw (R++dl.map (eY 14)++[x']++Q.map (eY 15))+2<=1100*sw (aD.take (k+1)):=by
   have df:dn x'=1:=by unfold dn at bL⊢;rw[cI];exact bL
   have d1:dc (dl.map (eY 14))=0:=jT V _;have d2:dc (Q.map (eY 15))=0:=jT V _;refine⟨((aX.append (rL V λy A=>?_)).yD ?_).append (rL V λy A=>?_),?_,?_⟩
   .rw[Z,<-aT];exact af.eZ.args y (bZ.1 y A)
   .rw[cW,d1,Z,jE,<-aT];exact cM
   .have:=af.eZ.args y (b0.1 y A);rw[cW,cW,d1,Z,kK,sY];omega
   .rw[cW,cW,cW,d1,d2,Z,kK,sY];omega
   .rw[dC,dC,dC,ov,ov,mI,vj];omega
  have be:∀y∈e,0<=y/\y<((aj.length+dc (aD.take (k+1)):Nat):Int):=λy A=>by
   have:=bQ y (bk.1 y (P.1 y A));omega
  have bX:∀(g:E),J ao g->bq H aa s ((k+1:Nat):Int) g/\μ H aa s ((k+1:Nat):Int) g<μ z l u k B:=λg r=>
   a3 V _ _ _ _ ⟨a9.trans r,⟨_,(ac.re gD.mono (Y:=[]) (r.fz []) aL aL λj b=>Or.inl (by simp only[cZ,eE,aV]at b⊢;rcases b with h|h|h;exact Or.inr (Or.inl h);exact Or.inl h;exact Or.inr (Or.inr h))),I.1,I.2.1,V⟩,⟨_,ab.ext r,bE⟩,⟨e,aG.ext r,oh P.2,be⟩,bj⟩
  have dI:=ac.bn;have cX:∀(g:E),J ao g->aN cg 229 [vi (15:Int),vi (l.len:Int)] g λrv D=>eF [B.size,o.size,m0.size,m.size] g D/\∃aM:Int,∃aO:Int,∃aP:Int,∃aQ:O,∃aR:O,rv=.agg #[vi aM,vi aO,vi aP,O.v aQ,O.v aR]/\
   let M2:E:=D.push (.cells (bt [.i aM,.i aO,.i aP,.s aQ,.s aR]) gB)
   jK M2 gB [.i (0:Int),.i (0:Int),.i (0:Int),.s O.nil,.s O.nil] 72 H (O.mk D.size 0 1 1) λb1 K=>eF [B.size,o.size,m0.size,m.size] M2 K/\bq b1 aa s ((k+1:Nat):Int) K/\μ b1 aa s ((k+1:Nat):Int) K<μ z l u k B:=by
   intro g r
   have zx:=r.size
   have dB:=ab.bn
   refine(jf (c:=[H.D,s.D,aa.D]++o.size::d) (an V bE) 15 (l.len:Int)).mono λrv D⟨pa,pk,p,X,h2,ag⟩=>?_
   subst p
   have d7:=ag.size
   have aY:=r.trans ag
   refine⟨ag.dv (t V),_,_,_,_,_,rfl,?_⟩
   have cD:H.D≠aa.D:=ac.Lb ab bh
   have cE:H.D≠s.D:=ac.Lb aG bh
   refine GS.kH (x:=eY 15 (l.len:Int)) (ac.ext gD.mono aY) ((a9.trans aY).fz []) X h2 (O6 I.2.2 (fY (R++dl.map (eY 14)++[x']++Q.map (eY 15)))) λr' K w aU aF a4=>⟨λj b=>?_,a3 V _ _ _ _ ⟨aU.ext,⟨_,(w.re gD.mono (Y:=[]) ((J.az _).fz []) aL aL λj b=>Or.inl (by simp only[cZ,eE,aV]at b⊢;rcases b with h|h|h;exact Or.inr (Or.inl h);exact Or.inl h;exact Or.inr (Or.inr h))),I.1.yD (DK V ?_),?_,?_⟩,⟨_,(ab.ext aY).jw (a4 _ V cD.symm),bE⟩,⟨e,(aG.ext aY).jw (a4 _ V cE.symm),oh P.2,be⟩,bj⟩⟩
   .have:=t (g:=D) V j b
    rw[a4 j this (by simp at b;omega),(J.push D _).same j this]
   .rw[I.2.1];omega
   .rw[cW,I.2.1];simp[kK,dn,eY,oY]
   .rw[dC,mI,vj]
    have h5:(eY 15 (l.len:Int)).w=2:=by rw[cV.mr];rfl
    have:=I.2.2;omega
  refine⟨λ_=>?_,λh0=>⟨λX=>by rw[h0]at X;simp at X,λ_=>bX ao (J.az _)⟩⟩;refine(dw (aH (((co.ext aE).jw (a7 _ V V)))) _).any.aH (J.az ao) (t V) λc a2 al _=>⟨_,rfl,λ_=>?_,λ_=>⟨λ_=>cX a2 al,λ_=>bX a2 al⟩⟩;intro dK;have cH:H.D≠s.D:=ac.Lb aG bh;have d6:=al.size;refine GI.kH (aG.ext al) ((a9.trans al).fz []) L (oh P.2) λdN dL cd cc bp bl=>⟨λj b=>?_,a3 V _ _ _ _ ⟨cc.ext,⟨_,(ac.ext gD.mono al).re gD.mono (Y:=[s.D]) ⟨bp.1,λj b hn=>bl j b (by simpa using hn)⟩ aL (by simpa using cH) λj b=>?_,I.1,I.2.1,V⟩,⟨_,(ab.ext al).jw (bl _ ?_ bj),bE⟩,⟨_,cd,?_,?_⟩,?_⟩⟩
  .have:=t (g:=a2) V j b;rw[bl j this (by simp at b;omega),(J.push a2 _).same j this]
  .simp only[cZ,eE,aV]at b⊢;rcases b with h|h|h
   .exact Or.inl (Or.inr (Or.inl h))
   .rcases bp.2 with p|p
    .exact Or.inl (Or.inl (h.trans p))
    .exact Or.inr V
   .exact Or.inl (Or.inr (Or.inr h))
  .have:=ab.bn;omega
  .have:=P.2;simp;omega
  .intro y A;rcases List.mem_append.1 A with A|A
   .exact be y A
   .simp at A;omega
  .have:=ab.bn;rcases bp.2 with p|p<;>omega
 .have aa:k=aD.length:=V;subst aa;rw[fu]at*;have P:∀(g:E)(H:O)(t:List cV),J q g->GS (l.D::u.D::o.size::d) q g H t->WL U f.length True aj.length t->dc t=dc aD->sw t<=1100*sw aD+2->
   let y:E:=ah g o.size 0 [.s H,.i v]
   ∃s c,Value.agg #[O.v H,vi v]=.agg #[O.v s,vi c.aS]/\eO (bG d y) s c.aD/\(WB U f.length True aj.length c/\c.w+1050<=1100*(Bk.mk aD v).w)/\J m y:=by
   intro g H t r w X h2 h3 y
   have ab:=fY t
   have:=w.bn
   refine⟨H,.mk t v,rfl,eO.le (cA aL λj b=>ai _ b) (w.re gD.mono (S':=o.size::d) (Y:=[]) (Fz.az _ _) aL aL (λj b=>Or.inl (ai _ (ai _ b)))|>.done gD.mono L bh bE),⟨WB.of X (by rw[h2];exact bf.2),?_⟩,(F.trans r).ah V _ _⟩
   rw[Bk.qG,Bk.qG];omega
  have lJ:∀(g:E),J B g->aN cg 229 [vi (14:Int),vi v] g λrv D=>eF [o.size,m0.size,m.size] g D/\∃aM:Int,∃aO:Int,∃aP:Int,∃aQ:O,∃aR:O,rv=.agg #[vi aM,vi aO,vi aP,O.v aQ,O.v aR]/\
   let M2:E:=D.push (.cells (bt [.i aM,.i aO,.i aP,.s aQ,.s aR]) gB)
   jK M2 gB [.i (0:Int),.i (0:Int),.i (0:Int),.s O.nil,.s O.nil] 72 z (O.mk D.size 0 1 1) λQ K=>eF [o.size,m0.size,m.size] M2 K/\
    let y:E:=ah K o.size 0 [.s Q,.i v]
    ∃s c,Value.agg #[O.v Q,vi v]=.agg #[O.v s,vi c.aS]/\eO (bG d y) s c.aD/\(WB U f.length True aj.length c/\c.w+1050<=1100*(Bk.mk aD v).w)/\J m y:=by
   intro g r
   refine(jf (c:=z.D::l.D::u.D::o.size::d) (λj b=>?_) 14 v).mono λrv D⟨a,kk,p,X,h2,x1⟩=>?_
   .have:=r.size
    simp at b
    rcases b with h|h|h|h|h
    .omega
    .omega
    .omega
    .have:=x6.lt (N o.size aL);omega
    .have:=hS _ h;have:=v6.size;omega
   subst p
   have ag:=x6.trans (r.trans x1)
   refine⟨J.oE (x6.trans r) ag N,_,_,_,_,_,rfl,?_⟩
   refine GS.kH (x:=eY 14 v) (gs.ext gD.mono (r.trans x1)) (ag.fz []) X h2 (oh (fY R)) λr' K w aU aF a4=>⟨J.oE (ag.aK _) aU.ext N,P K r' _ aU.ext w (aX.yD (DK V (by rw[Z];exact bf.2))) ?_ ?_⟩
   .rw[cW,Z];simp[kK,dn,eY,oY]
   .rw[dC];simp[mI,cV.mr,eY];omega
  let⟨aF,hz⟩:=cG li v.toNat;refine⟨V,V,aF,cv.aF hz,λ_=>?_,λ_=>P B z R x6 gs aX Z V⟩;refine(dw (bP.ext v6) v).any.aH x6 N λc m7 I u7=>⟨_,rfl,λ_=>lJ m7 I,λ_=>?_⟩;exact(dw (cx.ext I) v).any.aH u7 N λc C x8 T=>⟨_,rfl,λ_=>lJ C (I.trans x8),λ_=>P C z R T ((gs.ext gD.mono I).ext gD.mono x8) aX Z V⟩
end
structure ZF(ds:List bz)(nr:Nat)(v lm:List Int)(b:Bk):Prop where
 aR:∀o∈lm,0<=o/\o<(v.length:Int)
 lN:lm.length+5*b.w<=1000000
 vN:v.length+5*b.w<=1000000
 wb:WB ds nr False v.length b
def XO(a:List bz)(d:List gN)(b:Bk):Prop:=∀(S:List Nat)(m:E),(∀c∈S,c<m.size)->∀(f r h t g:O)(v c:List Int),eK m f r a d->ap m h v->eO m t b.aD->ap m g c->ZF a d.length v c b->
 ns 242 [.agg #[O.v f,O.v r],O.v h,.agg #[O.v t,vi b.aS],O.v g] m S λe=>WB a d.length True v.length e/\e.w+20<=40*b.w+2*c.length
def JS{o:List Nat}{m:E}(hS:∀c∈o,c<m.size){ag am ay aY K:O}{G:List bz}{rs:List gN}{v:List Int}{x:cV}(hn:eK m ag am G rs)(hv:ap m ay v)(ha:ap m aY x.args)(hk:nD m K x.bC)
 (vN:v.length+5*x.w<=1000000)(aM:WS G rs.length False v.length x)(ih:∀h∈x.bC,XO G rs h):
 Km 262 [.agg #[O.v ag,O.v am],O.v ay,oW x aY K] m o λx'=>WS G rs.length True v.length x'/\x'.op=x.op/\x'.w<=1+x.args.length+40*bw x.bC:=by
 apply CL
 simp -zeta only[aC,aB]
 intro F e k a5
 let⟨N,H,s0,s1,s2⟩:=p7 (a:=F) (b:=e) (c:=k) rfl rfl rfl
 have a_:J k a5:=J.push _ _
 have gk:=GB.new (e.size::o) k
 clear_value k
 have bs:=ha.len;have bk:=hk.len;have hw:=cV.mr x;have bF:=Kx x.bC;have bo:=hv.len
 have aK:∀c∈e.size::o,c<k.size:=bO hS N.size (H _ aL)
 refine(il (e:=[k.size]) (by simp[a5]) (hn.le (N.trans a_).le).bo hn.types x.bP).aH a_ H λc cl m4 d aR x4 u4=>⟨_,rfl,?_⟩
 subst aR
 have bH:=d.len
 refine ez (n:=x.bC.length) (bk▸hk.gS) (λj s M=>Fz [k.size] m4 M/\(s.D=k.size\/m4.size<=s.D)/\∃p,GB (e.size::o) k M s p/\p.length=j/\(∀(aa:Nat)(h:Bk),p[aa]? =some h->WB G rs.length True (v.length+BG G x.op x.bP aa) h)/\bw p<=40*bw (x.bC.take j)) ⟨Fz.az _ _,Or.inl rfl,[],gk.ext rH.mono x4,rfl,aL,aL⟩ ?_
 rintro j s Z aX μ hj ⟨f5,bm,p,C,bI,a4,a0⟩ bq
 have L:=VH u4 f5 (ad _)
 have hy:=C.bn
 refine dit (λu=>?_) λu=>?_
 .intro m6
  have x6:J Z m6:=J.push _ _
  have u6:=L.trans x6
  let⟨h,P⟩:=cG x.bC j
  have bB:=wJ P
  have bD:=uq P
  have bu:=Qv hn.types x.op x.bP j
  have bx:=qb x.bC
  refine⟨λaZ M=>J Z M/\∃B,ap M aZ B/\B.length=BG G x.op x.bP j,⟨λh8=>?_,λh8=>?_⟩,?_⟩
  .simp only[aG]at h8
   have g:=(aM.eZ.all h8).1
   let⟨y,a⟩:=cG (cy G x.bP) j
   refine⟨V,V,y,(eP.1 ((d.le ((f5.then x6).df aL)).aF a)).2,?_⟩
   refine(dI (e:=[]) aL ((hn.le (N.trans u6).le).bo.le (zW _)) hn.types y).aH u6 H λaZ B m7 hf aR f i=>⟨_,rfl,x6.trans f,B,hf.le (bA _ _),?_⟩
   subst aR;exact(Ku h8 a).symm
  .simp only[aj]at h8
   exact⟨x6,[],mD _ _ _ _ _ _,(Kv h8).symm⟩
  rintro fs m8 ⟨R,B,hf,a2⟩
  have e8:(ay.len:Int)=((v.length:Nat):Int):=by rw[bo]
  rw[e8]
  refine(rQ (S:=[]) aL (hf.le (zW _)) v.length V).aH (L.trans R) H λmi ml y gm qm T u9=>⟨_,rfl,?_⟩
  let⟨aU,hs,e0,e1⟩:=hk.aF P
  have v9:=N.trans u9
  refine⟨V,V,_,v9.af e0,_,v9.af e1,?_⟩
  have z5:=L.size
  have g9:=C.ext rH.mono (R.trans T)
  have a3:∀{M:E},J y M->ap M mi ml:=λu=>((gm.done aL (oh qm.2)).le (bA _ _)).ext u
  have bJ:=qm.2
  have E5:∀{M f:E},J k M->J k f->∀{a6:Prop},a6->af f K.D (K.off+Int.toNat (j:Int)*2)=af M K.D (K.off+Int.toNat (j:Int)*2)/\af f K.D (K.off+Int.toNat (j:Int)*2+1)=af M K.D (K.off+Int.toNat (j:Int)*2+1)/\
   af f F.size 4=af M F.size 4/\af f m.size 0=af M m.size 0/\af f m.size 1=af M m.size 1/\a6:=λ{M f} u h' _ hp=>by
   have aD:∀h,h<k.size->∀z,af f h z=af M h z:=λh P z=>aJ (by rw[h'.same h P,u.same h P]) z
   exact⟨((N.trans h').af e0).trans ((N.trans u).af e0).symm,((N.trans h').af e1).trans ((N.trans u).af e1).symm,aD _ V _,aD _ V _,aD _ V _,hp⟩
  have ao:∀{M:E},J Z M->∀c∈s.D::e.size::o,c<M.size:=λu c d=>by
   have:=u.size;rcases List.mem_cons.1 d with g|g
   .omega
   .have:=aK c g;omega
  have X:∀{M:E}{a:Nat},J Z M->a<M.size->∀c∈[a,e.size,F.size,m.size],c<M.size:=λu P c d=>by
   rcases List.mem_cons.1 d with g|g
   .omega
   .exact(L.trans u).lt (H c g)
  have tail:∀(M:E)(a:Nat)(Q:O)(i:Bk),GB (a::e.size::o) k M s p->J Z M->J y M->y.size<=a->a<M.size->eO (bG (a::s.D::e.size::o) M) Q i.aD->WB G rs.length True (v.length+B.length) i/\i.w+20<=40*h.w+2*ml.length->
   let l:E:=ah M a 0 [.s Q,.i i.aS]
   aN cg 259 [vi (14:Int),O.v mi] l λrv q=>eF [a,e.size,F.size,m.size] l q/\∃ab:O,rv=O.v ab/\af q a 1=af l a 1/\af q a 0=af l a 0/\
    jK q gB [.i (0:Int),.i (0:Int),.i (0:Int),.s O.nil,.s O.nil] 72 ab Q λau w=>eF [a,e.size,F.size,m.size] q w/\af w a 1=af q a 1/\
     let M4:E:=w.push (.cells (bt [.s au,.i i.aS]) di)
     jK M4 di [.s O.nil,.i (0:Int)] 32 s (O.mk w.size 0 1 1) λac W=>eF [a,e.size,F.size,m.size] M4 W/\aX ac (cT ((j:Int)+(1:Int))) W/\μ ac (cT ((j:Int)+(1:Int))) W<μ s j Z:=by
   intro M a Q i C I bp bj bv ak hq l
   have z1:l.size=M.size:=aw _ _ _ _
   have z9:=(R.trans T).size
   have ba:J y l:=bp.ah bj _ _
   have U:J Z l:=(R.trans T).trans ba
   have bl:s.D≠a:=V
   have g1:GB (e.size::o) k l s p:=C.re rH.mono (Y:=[a]) ((Fz.az [a] M).ah (Or.inl aL) _ _) aL (by simpa using bl) λc d=>Or.inl (ai _ d)
   have bn:eO (bG (s.D::e.size::o) l) Q i.aD:=ak.le (cA aL λc d=>ai _ d)
   have bC:=Bk.mr i;have a0:=fY i.aD
   refine(eX (c:=s.D::e.size::o) (ao U) 14 (a3 ba) V).aH (J.az l) (X U V) λab _ q aH g an _=>⟨_,rfl,aJ (an.same _ V) _,aJ (an.same _ V) _,?_⟩
   subst g
   have z2:=an.size
   refine GS.all aH (an.fz []) (bn.le (ta an aH.bn.1)) bE λau w be bd bM a7=>?_
   have ae:J l w:=bd.ext
   have z3:=ae.size
   have bK:=aH.bn
   refine⟨λc d=>a7 c (oh (X U (a:=a) V c d)) (oh (X U (a:=a) V c d)),aJ (a7 _ V V) _,?_⟩
   intro M4
   have bg:=be.done gD.mono (ao U) bh bE
   refine GB.kH (c:=.mk (ml.map (eY 14)++i.aD) i.aS) (g1.ext rH.mono ae) ((((L.trans U).trans ae)).fz []) bg V λac W bf br bc a8=>⟨λc d=>?_,bq V _ _ ⟨(f5.then (U.trans ae)).Ow bm bc.1 a8,?_,_,bf,bE,λaa b2 r=>?_,?_⟩⟩
   .have:=X (U.trans ae) (a:=a) V c d
    rw[a8 c this (by simp at d;omega),(J.push w _).same c this]
   .have h1:=(f5.then (U.trans ae)).size
    rcases bc.2 with g|g<;>omega
   .rcases aW aa p.length with t|t
    .rw[ax t]at r;exact a4 aa b2 r
    .rw[aI t]at r
     have:aa -p.length=0:=by have:=av r;simp at this;omega
     rw[this]at r;simp at r;subst r
     have:aa=j:=V
     subst this
     rw[<-a2]
     refine WB.of ((rL V λz ho=>?_).append ?_) ?_
     .have:=qm.1 z ho;omega
     .rw[jT V];exact hq.1.aT.1
     .rw[cW,jT V,bT];exact hq.1.aT.2
   .rw[oN,uo,zy,Bk.qG,dC,ov]
    have:=hq.2;omega
  have a1:∀(M:E)(aF:List Nat)(aE:Value->E->Prop),J y M->(∀c∈aF,c<M.size)->(∀s f,ap f s (v++B)->J M f->aE (O.v s) f)->aN cg 189 [O.v ay,O.v fs] M λv m'=>eF aF M m'/\aE v m':=λM aF aE I X hK=>
   (eN (S:=[]) aL ((hv.ext (v9.trans I)).le (zW _)) ((hf.ext (T.trans I)).le (zW _)) V).aH (J.az M) X λs ll f C g x _=>hK s f (by subst g;exact(C.done aL bE).le (bA _ _)) x
  have D:∀(M:E)(S':List Nat)(t:O),(∀c∈S',c<M.size)->J y M->ap M t (v++B)->ns 242 [.agg #[O.v ag,O.v am],O.v t,.agg #[O.v aU,vi h.aS],O.v mi] M S' λi=>WB G rs.length True (v.length+B.length) i/\i.w+20<=40*h.w+2*ml.length:=by
   intro M S' t bi I r;have hm:=v9.trans I;have:=ih h (aq P) S' M bi ag am t aU mi (v++B) ml (hn.le hm.le) r (hs.le hm.le) (a3 I) ⟨λz ho=>?_,V,bE,by simp;rw[a2];exact aM.bC j h P⟩
   .simpa using this
   .have:=qm.1 z ho;simp;omega
  have iH:∀(M:E)(a:Nat)(t:O),GB (a::e.size::o) k M s p->J y M->y.size<=a->a<M.size->ap M t (v++B)->
   aN cg 242 [.agg #[O.v ag,O.v am],O.v t,.agg #[O.v aU,vi h.aS],O.v mi] M λrv f=>eF [a,e.size,F.size,m.size] M f/\∃aS:O,∃aT:Int,rv=.agg #[O.v aS,vi aT]/\
    let l:E:=ah f a 0 [.s aS,.i aT]
    aN cg 259 [vi (14:Int),O.v mi] l λrv q=>eF [a,e.size,F.size,m.size] l q/\∃ab:O,rv=O.v ab/\af q a 1=af l a 1/\af q a 0=af l a 0/\
     jK q gB [.i (0:Int),.i (0:Int),.i (0:Int),.s O.nil,.s O.nil] 72 ab aS λau w=>eF [a,e.size,F.size,m.size] q w/\af w a 1=af q a 1/\
      let M4:E:=w.push (.cells (bt [.s au,.i aT]) di)
      jK M4 di [.s O.nil,.i (0:Int)] 32 s (O.mk w.size 0 1 1) λac W=>eF [a,e.size,F.size,m.size] M4 W/\aX ac (cT ((j:Int)+(1:Int))) W/\μ ac (cT ((j:Int)+(1:Int))) W<μ s j Z:=by
   intro M a t C I h1 h2 h3
   have x5:=(R.trans T).trans I
   have z9:=(R.trans T).size
   refine(D M (a::s.D::e.size::o) t (λc d=>?_) I h3).aH (J.az M) (X x5 h2) λQ i f ak hq ar _=>⟨_,_,rfl,tail f a Q i (C.ext rH.mono ar) (x5.trans ar) (I.trans ar) h1 (ar.lt h2) ak hq⟩
   rcases List.mem_cons.1 d with g|g
   .omega
   .exact ao x5 c g
  have aQ:∀(M:E)(z:Obj),GB (e.size::o) k M s p->GB (M.size::e.size::o) k (M.push z) s p:=λM z C=>
   C.re rH.mono (Y:=[]) ((J.push M z).fz []) aL aL λc d=>by
    rcases List.mem_cons.1 d with g|g
    .exact Or.inr V
    .exact Or.inl g
  refine⟨a1 y _ _ (J.az _) (λc d=>u9.lt (H c d)) λt aP r A=>⟨_,rfl,E5 u9 (u9.trans A) ⟨?_,?_⟩⟩,?_⟩
  .have al:=u9.trans A
   have vu:=A.size
   refine(D aP (s.D::e.size::o) t (ao ((R.trans T).trans A)) A r).aH al H λQ i aA ak hq az a9=>⟨_,_,rfl,?_⟩
   intro aV
   have bL:=az.size
   exact E5 a9 (a9.aK _) (tail aV aA.size Q i (aQ aA _ ((g9.ext rH.mono A).ext rH.mono az)) ((((R.trans T).trans A).trans az).aK _) ((A.trans az).aK _) V (by simp[aV]) (ak.le (ta (J.push aA _) (ad _))) hq)
  .intro az
   have al:=u9.trans A
   have vu:=A.size
   exact E5 al (al.aK _) (iH az aP.size t (aQ aP _ (g9.ext rH.mono A)) (A.aK _) V (by simp[az]) (r.ext (J.push _ _)))
  .intro al
   have az:J y al:=J.push _ _
   have aV:J k al:=u9.trans az
   refine E5 u9 aV (a1 al _ _ az (X ((R.trans T).trans az) (by simp[al])) λt a9 r aA=>⟨_,rfl,E5 aV (aV.trans aA) ?_⟩)
   exact iH a9 y.size t ((aQ y _ g9).ext rH.mono aA) (az.trans aA) (ad _) (aA.lt (by simp[al])) r
 .have f:p.length=x.bC.length:=V
  rw[bX V]at a0
  refine(bN (e.size::o) (ha.ext (N.trans L)) V).aH L H λi l m6 a g x6 u6=>⟨_,rfl,aJ (x6.same _ (L.lt (H _ aL))) _,aJ (x6.same _ (L.lt (H _ aL))) _,?_⟩
  subst g
  intro m7
  refine⟨i,s,⟨x.op,x.bP,0,x.args,p⟩,rfl,(a.done (λc d=>aO (aK c d) L.size) V).le (cA aL λc d=>ai _ d),nD.le (cA aL λc d=>ai _ d) ((C.ext rH.mono x6).done rH.mono aK bh (by have:=qb x.bC;show p.length<=_;omega)),⟨aM.PG (λu=>u.elim) ⟨V,V⟩ f a4,rfl,?_⟩,(N.trans u6).ah V _ _⟩
  rw[cV.mr]
  simp only
  omega
structure LB(ds:List bz)(nr:Nat)(S:List Nat)(m2 M:E)(v lm:List Int)(aD:List cV)(k:Nat)(st inn ow:O):Prop where
 x:J m2 M
 hs:∃l,GS (inn.D::ow.D::S) m2 M st l/\WL ds nr True v.length l/\dc l=dc (aD.take k)/\sw l+2*k<=40*sw (aD.take k)
 hi:∃l,GI S m2 M inn l/\l.length=v.length+dc (aD.take k)
 ho:∃l,GI S m2 M ow l/\l.length<=lm.length+k/\∀o∈l,0<=o/\o<((v.length+dc (aD.take k):Nat):Int)
 ne:inn.D≠ow.D
def Iq{D:List bz}{G:List gN}:∀p:Bk,XO D G p:=by
 refine Bk.ind ?_;intro aD A ih j C hS bc bP ci ch ce H lm hn hv hs bq hp;have au:=hp.wb.aT;simp only[Bk.jS,Bk.ju]at*;have lN:=hp.lN;have vN:=hp.vN;rw[(Bk.qG aD A)]at lN vN;apply AP;simp -zeta only[aC,aB];intro m d f ac;let⟨B,u,s0,s1,s2⟩:=p7 (a:=m) (b:=d) (c:=f) rfl rfl rfl;have aM:J f ac:=J.push _ _;have aW:∀I,GS I f ac (.mk f.size 0 0 0) []:=λI=>GS.new I f;have s3:ac.size=f.size+1:=by simp[ac]
 clear_value ac;clear_value f;have bB:=hs.len;have bD:=Bw aD;have b1:=fY aD;refine(bN j (hv.ext (B.trans aM)) V).aH aM u λg _ m4 r e x4 u4=>⟨_,rfl,?_⟩;subst e;refine(bN j (bq.ext (B.trans u4)) V).aH u4 u λi _ m5 z e x5 u5=>⟨_,rfl,?_⟩;subst e;have a5:=r.bn;have bI:=z.bn;refine Ry (n:=aD.length) (bB▸hs.gS) (λk t g i a=>LB D G.length (d.size::j) f a H lm aD k t g i) ⟨u5,⟨[],((aW _).ext gD.mono x4).ext gD.mono x5,WL.nil _ _ _ _,rfl,aL⟩,⟨H,((r.ext x5).cx (λ_ h=>h) aM.size).any,aL⟩,⟨lm,(z.cx (λ_ h=>h) u4.size).any,V,by simpa using hp.aR⟩,V⟩ ?_;clear r z a5 bI aW;rintro k t g i s ba μ hk ⟨W,⟨R,K,av,P,b2⟩,⟨li,r,an⟩,⟨lo,z,bS,a1⟩,a3⟩ bL
 have v6:=B.trans W;have bV:=r.len bh;have bT:=sX (aD.take k);have bX:=qI k aD;have L:∀c∈d.size::j,c<f.size:=bO hS B.size (u _ aL);have cb:=K.bn;have a5:=r.bn;have b_:=z.bn;have bC:=fY (aD.take k);have bW:k<=sw (aD.take k):=by rw[gH]at bC;omega
 have bY:=fY R;have z6:=W.size;have ak:∀{a:E},GI (d.size::j) f a g li->ap a g li:=λq=>(q.done L V).le (bA _ _);have aZ:∀{a:E},GI (d.size::j) f a i lo->ap a i lo:=λq=>(q.done L V).le (bA _ _);have N:∀{a:E}{I:List Nat},s.size<=a.size->(∀c∈I,c<a.size)->∀c∈I++d.size::j,c<a.size:=λh hb c b=>by
  rcases List.mem_append.1 b with h|h
  .exact hb c h
  .have:=L c h;omega
 have aX:∀{a:E},J s a->∀c∈[d.size,m.size,C.size],c<a.size:=λh c b=>(W.trans h).lt (u c b);have bs:t.D≠g.D:=K.Lb r bh;have a4:t.D≠i.D:=K.Lb z bh;refine dit (λh=>?_) λh=>?_
 .let⟨ae,v⟩:=cG aD k;let⟨bb,kk,ha,a0,g0,g1,g2,g3,g4⟩:=hs.aF v;refine⟨V,V,_,v6.af g0,_,v6.af g1,_,v6.af g2,_,v6.af g3,_,v6.af g4,?_⟩;intro m7 y;have x8:J s y:=(J.push s _).ah (ad _) _ _;have s8:y.size=s.size+1:=by simp[y,m7,aw]
  clear_value y;have u8:=W.trans x8;have w:∀{a:E},y.size<=a.size->∀p∈[s.size,d.size,m.size,C.size],p<a.size:=λh p hb=>by
   rcases List.mem_cons.1 hb with e|e
   .omega
   .have:=u8.lt (u p e);omega
  have b7:=pR v;have b5:=qL v;have b6:=cV.mr ae;have aa:WS D G.length False li.length ae:=by rw[an];exact au.1 k ae v
  have aY:=ZO aa;have b3:=bD (k+1);have Z:∀{a:E},J f a->At a bc bP bb kk D G ae:=λh=>⟨hn.le (B.trans h).le,ha.ext (B.trans h),aa.eZ.call⟩;refine(nU (Z u8).QS (ak (r.ext x8)) (Z u8).args (a0.le (B.trans u8).le) V λp _=>nk p).aH (J.az y) (w (ad _)) λty m9 x9 _=>⟨_,rfl,?_⟩;have X9:=u8.trans x9;have z9:=x9.size;refine(yI (b:=[]) aL (Z X9) (ak ((r.ext x8).ext x9)) aa.eZ.args V).aH (J.az m9) (w V) λdu X bJ bl a8 aI _=>⟨_,rfl,?_⟩;have bR:=a8.2;have vu:=aI.size;refine(eX (c:=[t.D,g.D,i.D]++d.size::j) (N V bE) 14 ((bl.done aL V).le (bA _ _)) V).aH (J.az bJ) (w V) λcf _ ax bi e aK _=>⟨_,rfl,?_⟩;subst e;have cj:=aK.size;have aO:J s ax:=(((x8.trans x9).trans aI).trans aK);refine GS.all (K.ext gD.mono aO) (((X9.trans aI).trans aK).fz []) (bi.done gD.mono (N (I:=[t.D,g.D,i.D]) V bE) bh bE) bE λaG a6 aR bd a9 ay=>⟨λc b=>ay c (w V c b) ?_,?_⟩
  .simp at b;omega
  have aj:J f a6:=bd.ext;have aS:=(r.ext aO).jw (ay _ V bs.symm);have bm:=(z.ext aO).jw (ay _ V a4.symm);have bZ:aG.D=t.D\/ax.size<=aG.D:=a9.2;have b8:=aR.bn;have cl:=a9.1;refine(JS (o:=[aG.D,g.D,i.D]++d.size::j) (N V bE) (Z aj).QS (ak aS) (Z aj).args (a0.le (B.trans aj).le) V aa (ih ae (aq v))).aH (J.az a6) (w V) λca ck U a7 bo bp bM ag _=>⟨_,_,_,_,_,rfl,?_⟩;let⟨bF,bw,b4⟩:=bM;have cm:=ag.size;refine GS.kH (x:=U) (aR.ext gD.mono ag) ((aj.trans ag).fz []) bo bp bE λF al ao be a_ az=>⟨λc b=>?_,?_⟩
  .have:=w (a:=a7) V c b;rw[az c this (by simp at b;omega),(J.push a7 _).same c this]
  have aQ:J f al:=be.ext;have cn:=a_.1;have aT:=(aS.ext ag).jw (az _ V V);have ar:=(bm.ext ag).jw (az _ V V);have b0:F.D=t.D\/ax.size<=F.D:=by have:=a_.2;omega
  have B1:WL D G.length True H.length (R++X.map (eY 14)++[U])/\dc (R++X.map (eY 14)++[U])=dc (aD.take (k+1))/\sw (R++X.map (eY 14)++[U])+2*(k+1)<=40*sw (aD.take (k+1)):=by
   have bU:dn U=1:=by unfold dn at aY⊢;rw[bw];exact aY
   have d1:dc (X.map (eY 14))=0:=jT V _;refine⟨((av.append (rL V λo l=>?_)).yD ?_),?_,?_⟩
   .rw[P,<-an];exact aa.eZ.args o (a8.1 o l)
   .rw[cW,d1,P,jE,<-an];exact bF
   .rw[cW,cW,d1,P,kK,sY];omega
   .rw[dC,dC,ov,mI,vj];omega
  have a2:∀o∈lo,0<=o/\o<((H.length+dc (aD.take (k+1)):Nat):Int):=λo l=>by
   have:=a1 o l;omega
  have aU:∀(a:E)(T:O)(ab:List Int),J f a->y.size<=a.size->GS (g.D::T.D::d.size::j) f a F (R++X.map (eY 14)++[U])->GI (d.size::j) f a g li->GI (d.size::j) f a T ab->g.D≠T.D->ab.length<=lm.length+(k+1)->(∀o∈ab,0<=o/\o<((H.length+dc (aD.take (k+1)):Nat):Int))->
   jK (a.push (.cells (bt [.i ty]) aA)) aA [.i (0:Int)] 8 g (O.mk a.size 0 1 1) λaH M'=>eF [s.size,d.size,m.size,C.size] (a.push (.cells (bt [.i ty]) aA)) M'/\ba F aH T (cT ((k:Int)+(1:Int))) M'/\μ F aH T (cT ((k:Int)+(1:Int))) M'<μ t g i k s:=by
   intro a T ab v Q q gI gO br bn bx
   have b9:=gI.bn;have bH:=gO.bn
   have bv:F.D≠g.D:=q.Lb gI bh
   refine GI.kH gI (v.fz []) L V λaH M' bk bg aP aF=>⟨λc b=>?_,bL V _ _ _ _ ⟨bg.ext,⟨_,q.re gD.mono (Y:=[g.D]) ⟨aP.1,λc b hn=>aF c b (by simpa using hn)⟩ aL (by simpa using bv) (λc b=>?_),B1.1,B1.2.1,B1.2.2⟩,⟨_,bk,bE⟩,⟨ab,gO.jw (aF _ bH.2 br.symm),bn,bx⟩,?_⟩⟩
   .have:=w Q c b
    rw[aF c this (by simp at b;omega),(J.push a _).same c this]
   .simp only[aV]at b⊢
    rcases b with h|h|h
    .rcases aP.2 with e|e
     .exact Or.inl (Or.inl (h.trans e))
     .exact Or.inr V
    .exact Or.inl (Or.inr (Or.inl h))
    .exact Or.inl (Or.inr (Or.inr h))
   .rcases aP.2 with e|e<;>omega
  refine⟨λ_=>?_,λ_=>?_⟩
  .intro cc;have bu:F.D≠i.D:=ao.Lb ar bh;refine GI.kH ar (aQ.fz []) L V λbQ bK bj bf am aE=>⟨λc b=>?_,?_⟩
   .have:=w (a:=al) V c b;rw[aE c this (by simp at b;omega),(J.push al _).same c this]
   intro cd;have co:=am.1;refine aU bK bQ _ bf.ext V (ao.re gD.mono (Y:=[i.D]) ⟨am.1,λc b hn=>aE c b (by simpa using hn)⟩ aL (by simpa using bu) λc b=>?_) (aT.jw (aE _ V a3)) bj ?_ bE ?_
   .simp only[cZ,eE,aV]at b⊢;rcases b with h|h|h
    .exact Or.inl (Or.inl h)
    .rcases am.2 with e|e
     .exact Or.inl (Or.inr (Or.inl (h.trans e)))
     .exact Or.inr V
    .exact Or.inl (Or.inr (Or.inr h))
   .rcases am.2 with e|e<;>omega
   .intro o l;rcases List.mem_append.1 l with l|l
    .exact a2 o l
    .simp at l;omega
  .intro am;exact aU al i lo aQ V ao aT ar a3 V a2
 .have ar:k=aD.length:=V;subst ar;rw[fu]at*;have al:∀(a:E)(X:O)(F:List cV),J f a->s.size<=a.size->GS (g.D::i.D::d.size::j) f a X F->ap a i lo->WL D G.length True H.length F->dc F=dc aD->sw F+2*aD.length<=40*sw aD+2->
   aN cg 259 [vi (15:Int),O.v i] a λrv y=>eF [d.size,m.size,C.size] a y/\∃ae:O,rv=O.v ae/\af y m.size 1=af a m.size 1/\
    jK y gB [.i (0:Int),.i (0:Int),.i (0:Int),.s O.nil,.s O.nil] 72 X ae λaa Z=>eF [d.size,m.size,C.size] y Z/\af Z m.size 1=af y m.size 1/\
     let T:E:=ah Z d.size 0 [.s aa,.i A]
     ∃am p,Value.agg #[O.v aa,vi A]=.agg #[O.v am,vi p.aS]/\eO (bG j T) am p.aD/\(WB D G.length True H.length p/\p.w+20<=40*(Bk.mk aD A).w+2*lm.length)/\J C T:=by
   intro a X F v Q q l aE aj aG
   have hy:=q.bn
   have aF:=fY F
   have az:m.size<a.size:=v.lt (u _ aL)
   refine(eX (c:=[X.D,g.D,i.D]++d.size::j) (N Q bE) 15 l V).aH v u λae _ y ao e w u1=>⟨_,rfl,aJ (w.same _ az) _,?_⟩
   subst e
   have z1:=w.size
   have ax:∀c∈[d.size,m.size,C.size],c<y.size:=λc b=>u1.lt (u c b)
   have ay:∀c∈[d.size,m.size,C.size],c<f.size:=u
   refine GS.all (q.ext gD.mono w) (u1.fz []) (ao.done gD.mono (N (I:=[X.D,g.D,i.D]) Q bE) bh bE) bE λaa Z g2 ab ag U=>⟨λc b=>U c (ax c b) (oh (ay c b)),aJ (U _ V V) _,?_⟩
   intro T
   refine⟨aa,.mk _ A,rfl,eO.le (cA aL λc b=>ai _ b) ((g2.re gD.mono (S':=d.size::j) (Y:=[]) (Fz.az _ _) aL aL (λc b=>Or.inl (ai _ (ai _ b)))).done gD.mono L bh bE),⟨WB.of (aE.append (rL V λo l=>?_)) ?_,?_⟩,(B.trans ab.ext).ah V _ _⟩
   .have:=a1 o l;rw[aj];exact this
   .rw[cW,jT V,aj];exact au.2
   .rw[Bk.qG,Bk.qG,dC,ov];omega
  let⟨ag,Q⟩:=cG li A.toNat;refine⟨V,V,ag,(ak r).aF Q,λ_=>?_,λ_=>al s t R W (ad _) K (aZ z) av P V⟩;refine(jf (c:=[t.D,g.D,i.D]++d.size::j) (N (ad _) bE) 14 A).mono λrv y⟨pa,pk,e,h1,h2,w⟩=>?_;subst e;refine⟨w.dv (aX (J.az _)),_,_,_,_,_,rfl,?_⟩;have z1:=w.size;refine GS.kH (x:=eY 14 A) (K.ext gD.mono w) ((W.trans w).fz []) h1 h2 V λr' T q ab ag U=>⟨λc b=>?_,al T r' _ ab.ext V q (aZ ((z.ext w).jw (U _ V a4.symm))) (av.yD (DK V (by rw[P];exact au.2))) ?_ ?_⟩
  .have:=aX w c b;have h5:=u c b;rw[U c this V,(J.push y _).same c this]
  .rw[cW,P];simp[kK,dn,eY,oY]
  .rw[dC,mI,vj];have h5:(eY 14 A).w=2:=by rw[cV.mr];rfl
   omega
section
variable{b:List Nat}{f d h:E}{p t k:O}{q:gN}{l:Int}{g e j:Nat}
def mM.mono:om 1 mM:=⟨λh=>mM.le h _ _,λ⟨_,h,_⟩=>by rw[h];rfl⟩
def iK.mono:om 3 iK:=⟨λh=>iK.le h _ _,λ⟨_,h,_⟩=>by rw[h];rfl⟩
def fU(v:∀c∈b,c<f.size){bo:O}{j:List bz}(hd:cw f bo j)(w:dT j):aN cg 204 [O.v bo] f λT B=>∃s,T=O.v s/\cw (bG b B) s j/\J f B:=by
 apply Aw;intro N;have ab:=hd.len;have aa:=w.len;have u:Gr b f N jV 3 iK (.mk f.size 0 0 0) []:=Gr.new b (ad _) _ _ _;refine ez (n:=j.length) V (λq s M=>J f M/\Gr b f M jV 3 iK s (j.take q)) ⟨J.push _ _,u⟩ ?_;rintro q s d X μ hk ⟨r,m⟩ R
 have hy:=m.bn;refine dit (λl=>?_) λl=>?_
 .let⟨i,o⟩:=cG j q;let⟨z,A,u,g1,g2⟩:=hd.aF o;have ac:=A.len;have Z:=lx w o;intro P;have k:Gr (s.D::b) d P oT 1 mM (.mk d.size 0 0 0) []:=Gr.new _ (ad _) _ _ _;refine ez (n:=i.cons.length) V (λy c M=>J d M/\Gr (s.D::b) d M oT 1 mM c (i.cons.take y)) ⟨J.push _ _,k⟩ ?_;rintro y c C Y μ2 hj ⟨t,k⟩ Q;have g:=r.trans t;refine⟨V,V,z,g.af g2,dit (λK=>?_) λK=>?_⟩
  .let⟨E,x⟩:=cG i.cons y;let⟨U,L,H⟩:=A.aF x;have ae:E.length<=3:=(((w.dz q i o).iV V).2.2.2 E (aq x)).1;refine⟨V,V,z,g.af g2,V,V,U,g.af H,?_⟩;have af:=k.bn;refine(bN (c.D::s.D::b) (L.ext g) V).then λW _ h I e D=>⟨_,rfl,?_⟩;subst e;intro M;refine Gr.kH (g:=[.s .nil]) mM.mono bh (k.ext mM.mono D) ((t.trans D).fz []) ⟨W,rfl,I.done (λe p=>?_) V⟩ bE λS m7 G F _ _=>Q V _ _ ⟨F.ext,by rw[aU x];exact G⟩;have:=t.size;simp only[aV]at p;rcases p with l|l|l
   .omega
   .omega
   .have:=v e l;have:=r.size;omega
  .refine⟨V,V,_,g.af u,V,V,_,g.af g1,?_⟩;intro h;rw[bX V]at k;have D:eS (bG (s.D::b) C) 1 (mM (bG (s.D::b) C)) c i.cons:=k.done mM.mono (λe p=>by
    rcases List.mem_cons.1 p with x|x
    .omega
    .have:=v e x;have:=r.size;omega) bh V
   refine Gr.kH (g:=[.i 0,.i 0,.s .nil]) (k:=i) iK.mono bh (m.ext iK.mono t) (g.fz []) ⟨c,rfl,D⟩ bE λS M x p _ _=>R V _ _ ⟨p.ext,by rw[aU o];exact x⟩
 .rw[bX V]at m;exact⟨s,rfl,m.done iK.mono v bh V,r⟩
def ye(H:∀i∈b,i<f.size){B:O}{b1:Int}(I:ap f p q.params)(K:ap f t q.cR)(u:q.params.length<=100/\q.cR.length<=100):
 aN cg 231 [.agg #[O.v p,O.v t,vi q.aS,O.v B,vi l],.agg #[O.v k,vi b1]] f λP x=>∃m n,P=.agg #[O.v m,O.v n,vi q.aS,O.v k,vi b1]/\ap (bG b x) m q.params/\ap (bG b x) n q.cR/\J f x:=by
 apply De
 simp -zeta only[aC,aB]
 intro L j d
 let⟨s,w,S,T,U⟩:=p7 (a:=L) (b:=j) (c:=d) rfl rfl rfl
 clear_value d
 have z:∀i∈j.size::b,i<d.size:=bO H s.size (w _ aL)
 have c:∀{M y:E},J d M->J d y->∀g,g<d.size->∀o,af y g o=af M g o:=λF G g u o=>aJ (by rw[G.same g u,F.same g u]) o
 refine(bN (j.size::b) (I.ext s) V).aH (J.az d) w λm _ R C e a _=>⟨_,rfl,c (J.az _) a _ V _,c (J.az _) a _ V _,c (J.az _) a _ V _,c (J.az _) a _ V _,?_⟩
 subst e
 refine(bN (j.size::b) (K.ext (s.trans a)) V).aH a w λn _ N D e Q r=>⟨_,rfl,c a r _ V _,c a r _ V _,c a r _ V _,?_⟩
 subst e
 intro h
 have A:Le (bG (j.size::b) N) (bG b h):=cA aL λi v=>ai _ v
 exact⟨m,n,rfl,((C.done z V).le (Q.df _)).le A,(D.done (λi v=>a.lt (z i v)) V).le A,(s.trans r).ah V _ _⟩
abbrev GR(b:List Nat)(a f:E)(s:O)(l:List gN):Prop:=Gr b a f jO 5 iQ s l
def vR{L:List Nat}{m M:E}{v s:O}{x:List gN}{r:Bk}{N:O}{K:E->Prop}(W:∀c∈b,c<m.size)(w:∀c∈L,c<M.size/\c≠g/\c≠s.D)(A:J m M)(y:GR (g::b) m M s x)
 (z:cE M g na [.s v,.s s])(Z:m.size<=g)(hp:ap M p q.params)(ht:ap M t q.cR)(aa:eO (bG (s.D::g::b) M) k r.aD)(X:q.params.length<=100/\q.cR.length<=100)(hl:x.length<=100)
 (U:∀u d,GR (g::b) m d u (x++[⟨q.params,q.cR,q.aS,r⟩])->cE d g na [.s v,.s u]->J m d->K d):
 aN cg 231 [.agg #[O.v p,O.v t,vi q.aS,O.v N,vi l],.agg #[O.v k,vi r.aS]] M λH j=>eF L M j/\∃B:O,∃C:O,∃D:Int,∃F:O,∃G:Int,H=.agg #[O.v B,O.v C,vi D,O.v F,vi G]/\af j g 1=af M g 1/\
  let n:E:=j.push (.cells (bt [.s B,.s C,.i D,.s F,.i G]) jO)
  af n g 1=af j g 1/\
  jK n jO [.s O.nil,.s O.nil,.i (0:Int),.s O.nil,.i (0:Int)] 88 s (O.mk j.size 0 1 1) λab o=>eF L n o/\fJ o g 1 1/\
   let d:E:=ah o g 1 [.s ab]
   eF L o d/\K d:=by
 have hy:=y.bn
 have Y:=z.lt
 have hz:=A.size
 refine(ye (b:=s.D::g::b) (λc f=>?_) hp ht X).mono λH j⟨p',t',e,R,T,h⟩=>?_
 .simp only[aV]at f
  rcases f with e|e|e
  .omega
  .omega
  .have:=W c e;omega
 subst e
 refine⟨h.dv λc f=>(w c f).1,_,_,_,_,_,rfl,aJ (h.same _ Y) _,?_⟩
 intro n
 refine Gr.box (g:=[.s .nil,.s .nil,.i 0,.s .nil,.i 0]) (j:=1) (i:=[.s v,.s s]) (w:=⟨q.params,q.cR,q.aS,r⟩) iQ.mono bh (y.ext iQ.mono h) ((A.trans h).fz []) ⟨p',t',k,rfl,R,T,aa.le (h.df _)⟩ V (z.ext h) aL bh ⟨Z,aL⟩ (λc f=>⟨h.lt (w c f).1,(w c f).2⟩) λu m' Q I P z' q'=>U u m' Q I P.ext
def kW{β:Type}{a c:E}{g:O}{l:Nat}{f:E->List Ce->β->Prop}(q:om l f)(p:a=d.push (.cells (bt []) e))(i:c=a.push (.cells (bt [.s O.nil,.s O.nil]) j))(k:h=ah c a.size 0 [.s g,.s (O.mk d.size 0 0 0)]):
 J d h/\cE h a.size j [.s g,.s (O.mk d.size 0 0 0)]/\Gr b d h e l f (.mk d.size 0 0 0) []/\a.size=d.size+1/\h.size=d.size+2:=by
 subst p
 have n:J (d.push (.cells (bt []) e)) h:=by subst i k;exact(J.push _ _).ah (ad _) _ _
 refine⟨(J.push d _).trans n,?_,(Gr.new b (ad _) e l f).ext q n,aL,by subst i k;simp[aw]⟩
 have s:cE c (d.push (.cells (bt []) e)).size j [.s O.nil,.s O.nil]:=by rw[i];exact cE.push _ _ _
 rw[k]
 exact cE.ah (m:=c) (o:=0) (r:=[.s g,.s (.mk d.size 0 0 0)]) s
def kQ{β:Type}{o b1 r:Nat}{p:E->List Ce->β->Prop}{c A:O}{F:List bz}(G:om o p)(hz:0<o)(ac:j≠e)(X:∀w∈b,w<f.size)(Y:f.size<=b1/\b1<d.size)(K:J f d)(ak:g=d.size+1)
 (Z:cw (bG (b1::b) d) c F)(hn:A.len=r)(al:r<=1000)(ad:J d h)(U:cE h g j [.s c,.s (O.mk d.size 0 0 0)])(aa:Gr (g::b1::b) d h e o p (.mk d.size 0 0 0) [])(y:Nat->β->Prop)
 {C:(Int->E->Prop)->(Int->E->Nat)->Int->E->Prop}{R:O->O->E->Prop}
 (W:∀D N l q,cw (bG b q) D F->eS (bG b q) o (p (bG b q)) N l->l.length=r->(∀(i:Nat)(x:β),l[i]? =some x->y i x)->J f q->R D N q)
 (T:∀(k:Nat)(M:E)(s:O)(l:List β)(I:Int->E->Prop)(μ:Int->E->Nat),k<r->l.length=k->J d M->Gr (g::b1::b) d M e o p s l->cE M g j [.s c,.s s]->
  (∀u a x,Gr (g::b1::b) d a e o p u (l++[x])->cE a g j [.s c,.s u]->J d a->y k x->I (cT ((k:Int)+1)) a/\μ (cT ((k:Int)+1)) a<μ k M)->C I μ k M):
 ∃(v:Int->E->Prop)(μ0:Int->E->Nat),v (0:Int) h/\(∀(i:Int)(M:E),v i M->
  ((decide (i<(A.len:Int)))=true->C v μ0 i M)/\
  ((decide (i<(A.len:Int)))=false->∃m:O,af M g 0=some (O.v m)/\∃t:O,af M g 1=some (O.v t)/\
   let a:E:=ah M b1 0 [.s m,.s t]
   R m t a)):=by
 refine dU (n:=r) V (λk M=>J d M/\∃s l,Gr (g::b1::b) d M e o p s l/\cE M g j [.s c,.s s]/\l.length=k/\∀(i:Nat)(x:β),l[i]? =some x->y i x) ⟨ad,_,[],aa,U,rfl,aL⟩ ?_
 rintro k M I μ hk ⟨x,s,l,t,B,ab,H⟩ ae
 refine dit (λS=>?_) λS=>?_
 .refine T k M s l I μ V ab x t B λu a ag Q P x' L=>ae V _ ⟨x',u,_,Q,P,bE,λi aj m=>?_⟩
  rcases aW i l.length with z|z
  .rw[ax z]at m;exact H i aj m
  .rw[aI z]at m
   have:i -l.length=0:=by have:=av m;simp at this;omega
   rw[this]at m;simp at m;subst m
   have:i=k:=V
   subst this;exact L
 .refine⟨c,B.bZ 0,s,B.bZ 1,?_⟩
  intro a
  have L:=t.bn
  have z:=t.ne B ac
  have u:Le (bG (g::b1::b) M) (bG b a):=cA aL λw m=>ai _ (ai _ m)
  refine W c s l a (Z.le ((x.bG λw m=>?_).trans u)) (eS.le (t.nF G (λm=>?_) hz V) u λP ag=>G.le u) V H ((K.trans x).ah Y.1 _ _)
  .rcases List.mem_cons.1 m with e|e
   .exact Or.inr V
   .exact Or.inl e
  .simp only[aV]at m
   rcases m with e|e|e
   .exact z e
   .omega
   .have:=X _ e;have:=K.size;omega
structure yi(ds:List bz)(rs:List gN)(c:Prop)(W:Nat):Prop where
 iV:0<rs.length
 dz:∀q∈rs,q.params.length<=3/\q.cR.length<=3/\WB ds rs.length c q.params.length q.body/\q.body.w<=W
def uP(h:Nat)(e:List Value)(f:E)(b:List Nat)(g:List bz)(Q:List gN->Prop):Prop:=aN cg h e f λv a=>∃d r c,v=.agg #[O.v d,O.v r]/\eK (bG b a) d r g c/\Q c/\J f a
def HN{d:List bz}{a b:List gN}{c:Prop}{W:Nat}(j:0<a.length)(f:b.length=a.length)(h:∀(i:Nat)(q:gN),b[i]? =some q->q.params.length<=3/\q.cR.length<=3/\WB d a.length c q.params.length q.body/\q.body.w<=W):yi d b c W:=
 ⟨V,λq g=>by obtain⟨i,e⟩:=List.mem_iff_getElem?.1 g;rw[f];exact h i q e⟩
def IE(G:∀i∈b,i<f.size){D:O}{e cR:List Int}{K:Int}(B:ap f p e)(H:ap f t cR)(P:e.length<=100):
 kY 243 [.agg #[O.v p,O.v t,vi K,O.v D,vi l]] f b λa=>(∀o∈a,0<=o/\o<(e.length:Int))/\a.length<=e.length:=by
 apply Ba
 simp -zeta only[aC,aB]
 intro c d
 have v:J f c:=J.push _ _
 have A:∀x∈[f.size],x<c.size:=by simp[c]
 have E:GI b c d (.mk c.size 0 0 0) []:=GI.nil b c
 have L:J c d:=J.push _ _
 clear_value d
 clear_value c
 have R:=B.len
 refine ez (n:=e.length) V (λm s M=>J c M/\∃a,GI b c M s a/\(∀o∈a,0<=o/\o<(e.length:Int))/\a.length<=m) ⟨L,[],E,aL,ad _⟩ ?_
 rintro m s S N μ Q ⟨w,a,j,k,z⟩ q
 have r:=v.trans w
 refine⟨λg=>?_,λg=>⟨s,a,rfl,j.cx (λ_ g=>g) v.size,⟨k,by simp at g;omega⟩,r⟩⟩
 simp only[ar]at g
 let⟨M,I⟩:=cG e m
 refine⟨V,V,M,(B.ext r).aF I,λ_=>?_,λ_=>q V _ _ ⟨w,a,j,k,V⟩⟩
 refine(dw (H.ext r) m).any.aH w A λx T C u=>⟨_,rfl,λ_=>?_,λ_=>q V _ _ ⟨u,a,j.ext C,k,V⟩⟩
 intro h
 refine GI.kH (j.ext C) (u.fz []) (λi z=>v.lt (G i z)) V λW U F y _ _=>⟨J.oE (u.aK _) y.ext A,q V _ _ ⟨y.ext,_,F,λo i=>?_,bE⟩⟩
 rcases List.mem_append.1 i with i|i
 .exact k o i
 .simp at i;omega
end
section
variable{a:List Nat}{b:E}{d r:O}{c:List gN}
def Ik(hS:∀e∈a,e<b.size){Z aj t:O}{Q:List bz}{q:gN}(hn:eK b d r Q c)(W:ap b Z q.params)(ht:ap b aj q.cR)(hs:eO b t q.body.aD)(aH:q.params.length<=3)(aq:WB Q c.length False q.params.length q.body)(hw:q.body.w<=95):
 ns 241 [.agg #[O.v d,O.v r],.agg #[O.v Z,O.v aj,vi q.aS,O.v t,vi q.body.aS]] b a λl=>WB Q c.length True q.params.length l/\l.w<=1100*q.body.w:=by
 apply Az
 simp -zeta only[aC,aB]
 intro m0 D H
 let⟨v,h,s0,s1,s2⟩:=p7 (a:=m0) (b:=D) (c:=H) rfl rfl rfl
 clear_value H
 have aI:=W.len
 have T:∀e∈D.size::a,e<H.size:=bO hS v.size (h _ aL)
 refine(Dx (S:=[]) aL (hs.le v.le) _ V).aH (J.az H) h λus ul g hu aK P _=>⟨_,rfl,?_⟩
 have ao:ap g us ul:=hu.le (bA _ _)
 intro s I
 have aA:J g I:=(J.push g _).trans (J.push s _)
 have s4:s.size=g.size+1:=by simp[s]
 have i:GI a g I (.mk g.size 0 0 0) []:=(GI.nil a g).ext (J.push s _)
 have gd:GI a g I (.mk s.size 0 0 0) []:=(GI.nil a s).cx (λ_ R=>R) V
 clear_value I
 have z3:=P.size
 have am:∀e∈a,e<g.size:=λe f=>by have:=hS e f;have:=v.size;omega
 refine wN (n:=q.params.length) V (λk L sd M=>J g M/\∃j p,GI a g M L j/\GI a g M sd p/\L.D≠sd.D/\(∀o∈j,0<=o/\o<(q.params.length:Int))/\(∀o∈p,0<=o/\o<(q.params.length:Int))/\j.length<=k/\p.length<=k) ⟨aA,[],[],i,gd,bE,aL,aL,ad _,ad _⟩ ?_
 rintro k L sd m6 aD μ hk ⟨w,j,p,i,gd,G,B,A,cm,cd⟩ K
 have F:=P.trans w
 have v6:=v.trans F
 refine dit (λR=>?_) λR=>?_
 .let⟨ab,Y⟩:=cG q.params k
  have X:∀{m:List Int},(∀o∈m,0<=o/\o<(q.params.length:Int))->∀o∈m++[(k:Int)],0<=o/\o<(q.params.length:Int):=λh o C=>by
   rcases List.mem_append.1 C with C|C
   .exact h o C
   .simp at C;omega
  refine⟨V,V,ab,(W.ext v6).aF Y,λ_=>?_,λ_=>K V _ _ _ ⟨w,j,p,i,gd,G,B,A,V,V⟩⟩
  refine(dw (ht.ext v6) k).any.aH F h λaa m7 u u7=>⟨_,rfl,λ_=>?_,λ_=>K V _ _ _ ⟨w.trans u,j,p,i.ext u,gd.ext u,G,B,A,V,V⟩⟩
  refine(dw (ao.ext (w.trans u)) k).any.aH u7 h λaa m8 x8 u8=>⟨_,rfl,λ_=>?_,λ_=>?_⟩
  .have x:=u.trans x8
   intro m9
   exact GI.R9 (i.ext x) (gd.ext x) G ((w.trans x).fz []) V λr m' z N U y=>⟨J.oE ((F.trans x).aK _) (P.trans y.ext) h,K V _ _ _ ⟨y.ext,_,_,z,N,U,X B,A,bE,V⟩⟩
  .have x:=u.trans x8
   intro m9
   exact GI.R9 (gd.ext x) (i.ext x) G.symm ((w.trans x).fz []) V λr m' z N U y=>⟨J.oE ((F.trans x).aK _) (P.trans y.ext) h,K V _ _ _ ⟨y.ext,_,_,N,z,U.symm,B,X A,V,bE⟩⟩
 intro y
 have ac:J m6 y:=J.push _ _
 have aa:=F.trans ac
 have ab:=v.trans aa
 have e0:ap y (.mk m6.size 0 0 0) []:=mD _ _ _ _ _ _
 have ag:∀{M:E}{t:O}{m:List Int},GI a g M t m->m.length<=3->ap M t m:=λz h=>(z.done am V).le (bA _ _)
 clear_value y
 have aG:=q.body.Hf
 refine(Gm q.body (D.size::a) y (λe f=>aa.lt (T e f)) d r Z t L _ q.params j [] (hn.le ab.le) (W.ext ab) (hs.le ab.le) ((ag i V).ext ac) e0 ⟨B,V,bE,V,aq⟩).aH aa h λss l C an X ay ax=>⟨_,_,rfl,?_⟩
 intro ar o
 have ae:J C o:=(J.push C _).ah (ad _) _ _
 have aQ:o.size=C.size+1:=by simp[o,ar,aw]
 clear_value o
 have N:=ax.trans ae
 have U:∀e∈[C.size,D.size,m0.size,b.size],e<o.size:=λe f=>by
  rcases List.mem_cons.1 f with x|x
  .omega
  .exact N.lt (h e x)
 have aF:=Bk.mr l;have aE:=fY l.aD
 have aM:=X.2
 refine(eX (c:=D.size::a) (λe f=>N.lt (T e f)) 15 ((ag gd V).ext ((ac.trans ay).trans ae)) V).aH (J.az o) U λaP _ aN af x u _=>⟨_,rfl,aJ (u.same _ V) _,aJ (u.same _ V) _,?_⟩
 subst x
 have aR:=u.size
 have Y:=af.bn
 refine GS.all af (u.fz []) ((an.le (ae.df _)).le (ta u Y.1)) bE λav au al ak aS ah=>⟨λe f=>ah e (u.lt (U e f)) (oh (U e f)),aJ (ah _ V V) _,?_⟩
 intro aO
 have az:J b au:=(v.trans N).trans ak.ext
 refine⟨av,.mk _ l.aS,rfl,eO.le (cA aL λe f=>ai _ f) (al.done gD.mono (λe f=>N.lt (T e f)) bh bE),⟨WB.of ((rL V A).append ?_) ?_,?_⟩,az.ah V _ _⟩
 .rw[jT V];exact X.1.aT.1
 .rw[cW,jT V,bT];exact X.1.aT.2
 .rw[Bk.qG,dC,ov];omega
def Lz(K:∀e∈a,e<b.size){i:List bz}(k:eK b d r i c)(hk:yi i c False 95):uP 224 [.agg #[O.v d,O.v r]] b a i λx=>yi i x True 104500:=by
 apply Ep;simp -zeta only[aC,aB];intro f a2;let⟨z,v⟩:=dD (a:=f) (c:=a2) rfl rfl;have s1:f.size=b.size+1:=by simp[f]
 clear_value a2;have ai:=k.iT.len;have ar:=k.oA;refine(fU (b:=f.size::a) (bO K z.size (v _ aL)) (k.le z.le).bo k.types).mono λ_ P⟨ac,j,ae,A⟩=>?_;subst j;refine⟨A.dv v,_,rfl,?_⟩;intro Q am ab;have u2:=z.trans A;let⟨x5,B0,g0,s3,s5⟩:=kW (b:=Q.size::f.size::a) iQ.mono (d:=P) (a:=Q) (c:=am) (h:=ab) rfl rfl rfl;clear_value ab;have w:∀e∈[f.size,b.size],e<P.size:=λe g=>A.lt (v e g);have L:∀e∈f.size::a,e<P.size:=λe g=>A.lt (bO K z.size (v _ aL) e g);refine kQ (R:=λh o M=>∃d r x,Value.agg #[O.v h,O.v o]=.agg #[O.v d,O.v r]/\eK (bG a M) d r i x/\yi i x True 104500/\J b M) (r:=c.length) (f:=b) (b:=a) iQ.mono bh bh K ⟨V,w _ aL⟩ u2 s3 ae ai V x5 B0 g0 (λ_ q=>q.params.length<=3/\q.cR.length<=3/\WB i c.length True q.params.length q.body/\q.body.w<=104500) (λh t N u X Y o p s=>⟨h,t,N,rfl,⟨X,Y,k.types,V⟩,HN hk.iV o p,s⟩) λal M st N ao μ ag ap B W C an=>?_
 let⟨q,hq⟩:=cG c al ag;let⟨aa,ah,ak,hw⟩:=hk.dz q (aq hq);have o:=u2.trans B;let⟨au,av,h,T,U,c3,D,E,F,H,I⟩:=k.iT.aF hq;have G:∀{y:Value}{h s:Nat},af b h s=some y->af M h s=some y:=λu=>o.af u;refine⟨st,C.bZ 1,V,V,_,G D,_,G E,_,G F,_,G H,_,G I,V,V,_,G D,_,G E,_,G F,_,G H,_,G I,?_⟩;have hy:=W.bn;have ad:=C.lt;have zM:=B.size;refine(Ik (a:=st.D::Q.size::f.size::a) (λe g=>?_) (k.le o.le) (T.ext o) (U.ext o) (c3.le o.le) aa ak hw).aH B w λss b' M1 aj Z p u1=>⟨_,_,rfl,?_⟩
 .simp only[aV]at g;rcases g with j|j|j|j
  .omega
  .omega
  .have:=L e (by simp[j]);omega
  .have:=L e (by simp[j]);omega
 have t:∀{y:Value}{h s:Nat},af b h s=some y->af M1 h s=af M h s:=λu=>by rw[p.af (G u),G u]
 refine⟨t D,t E,t F,t H,t I,aJ (p.same _ (B.lt (w _ aL))) _,aJ (p.same _ ad) _,?_⟩;exact vR (b:=f.size::a) (v:=ac) (x:=N) L (λe g=>by have X:=w e g;have Y:=u1.size;omega) u1 (W.ext iQ.mono p) (C.ext p) V (T.ext (o.trans p)) (U.ext (o.trans p)) aj ⟨V,V⟩ V λs' Y g' X x'=>an s' Y _ g' X x' ⟨aa,ah,Z.1,by have:=Z.2;simp only;omega⟩
def P1(L:∀f∈a,f<b.size){t:List bz}(u:eK b d r t c)(hk:yi t c False 95):uP 225 [.agg #[O.v d,O.v r]] b a t λB=>yi t B True 104500:=by
 apply JT;simp -zeta only[aC,aB];intro p a2;let⟨D,y⟩:=dD (a:=p) (c:=a2) rfl rfl;have s1:p.size=b.size+1:=by simp[p]
 clear_value a2;have al:=u.iT.len;have az:=u.oA;refine(fU (b:=p.size::a) (bO L D.size (y _ aL)) (u.le D.le).bo u.types).mono λ_ T⟨ag,h,ah,F⟩=>?_;subst h;refine⟨F.dv y,_,rfl,?_⟩;intro A ap ac;have u2:=D.trans F;let⟨x5,B0,g0,s3,s5⟩:=kW (b:=A.size::p.size::a) iQ.mono (d:=T) (a:=A) (c:=ap) (h:=ac) rfl rfl rfl;clear_value ac;have P:∀f∈[p.size,b.size],f<T.size:=λf i=>F.lt (y f i);have N:∀f∈p.size::a,f<T.size:=λf i=>F.lt (bO L D.size (y _ aL) f i);refine kQ (R:=λe g M=>∃d r B,Value.agg #[O.v e,O.v g]=.agg #[O.v d,O.v r]/\eK (bG a M) d r t B/\yi t B True 104500/\J b M) (r:=c.length) (f:=b) (b:=a) iQ.mono bh bh L ⟨V,P _ aL⟩ u2 s3 ah al V x5 B0 g0 (λ_ q=>q.params.length<=3/\q.cR.length<=3/\WB t c.length True q.params.length q.body/\q.body.w<=104500) (λe o Q s h1 w g j k=>⟨e,o,Q,rfl,⟨h1,w,u.types,V⟩,HN hk.iV g j,k⟩) λao M st Q av μ ai ay Y aa H ar=>?_
 let⟨q,hq⟩:=cG c ao ai;let⟨ak,aj,an,hw⟩:=hk.dz q (aq hq);have C:=u2.trans Y;let⟨au,aD,o,I,c2,c3,e0,e1,e2,e3,e4⟩:=u.iT.aF hq;have G:∀{ae:Value}{o v:Nat},af b o v=some ae->af M o v=some ae:=λK=>C.af K;refine⟨V,V,_,G e0,_,G e1,_,G e2,_,G e3,_,G e4,?_⟩;intro m7 k;have hy:=aa.bn;have ax:=H.lt;have zM:=Y.size;have X:J M k:=(J.push M _).ah (ad _) _ _;have s8:k.size=M.size+1:=by simp[k,m7,aw]
 clear_value k;have z:∀f∈[M.size,p.size,b.size],f<k.size:=λf i=>by
  rcases List.mem_cons.1 i with h|h
  .omega
  .have:=P f h;omega
 have U:=C.trans X;have g:∀{Z M2:E},J k Z->J k M2->∀o,o<k.size->∀v,af M2 o v=af Z o v:=λK h' o hb v=>aJ (by rw[h'.same o hb,K.same o hb]) v;have j:M.size<k.size:=V;have i1:b.size<k.size:=z _ aL;have i2:A.size<k.size:=V;refine⟨st,(H.ext X).bZ 1,?_⟩;refine(IE (b:=[]) aL (I.ext U) (c2.ext U) V).aH (J.az k) z λow lo m9 go ho e _=>⟨_,rfl,g (J.az _) e _ j _,g (J.az _) e _ j _,g (J.az _) e _ j _,g (J.az _) e _ i1 _,g (J.az _) e _ i1 _,g (J.az _) e _ j _,g (J.az _) e _ j _,g (J.az _) e _ j _,g (J.az _) e _ j _,g (J.az _) e _ j _,g (J.az _) e _ i2 _,?_⟩;have W:=U.trans e;have z9:=e.size;have i:=ho.2;refine(Iq q.body (st.D::A.size::p.size::a) m9 (λf i=>?_) d r au o ow q.params lo (u.le W.le) (I.ext W) (c3.le W.le) ((go.done aL V).le (bA _ _)) ⟨ho.1,V,V,an⟩).aH e z λss b' aA am ab aE s=>⟨_,_,rfl,g e s _ j _,g e s _ j _,g e s _ j _,g e s _ j _,g e s _ j _,g e s _ i2 _,?_⟩
 .simp only[aV]at i;rcases i with h|h|h|h
  .omega
  .omega
  .have:=N f (by simp[h]);omega
  .have:=N f (by simp[h]);omega
 have x:=X.trans s;have vu:=s.size;exact vR (b:=p.size::a) (v:=ag) (x:=Q) N (λf i=>by have h1:=z f i;have w:=P f;simp only[aV]at i w;rcases i with h|h|h|h<;>first|omega|(have:=w (by simp[h]);omega)|simp at h) (Y.trans x) (aa.ext iQ.mono x) (H.ext x) V (I.ext (C.trans x)) (c2.ext (C.trans x)) am ⟨V,V⟩ V λs' M' g' w x'=>ar s' M' _ g' w x' ⟨ak,aj,ab.1,by have:=ab.2;simp only;omega⟩
end
section
variable{x:cV}{l:List cV}{m d M:E}{i f e h:O}{b:List Nat}{c g:List Int}{a:Int}{K:O->E->Prop}
def AM(a k:O)(m:E):dt cg 247 [oW x a k] m (x.op=14\/x.op=15):=by
 apply Gy;simp -zeta only[aC,aB];intro c;have b:J m c:=J.push _ _;refine⟨λh=>iN (Or.inl (by simpa using h)) b,λh=>eT ?_ b⟩;simp only[aj]at h;simp only[aG];omega
def Xp(l:List cV):Prop:=∀x∈l,x.args.length=1
def zl(l:List cV)(o:Int):Prop:=∃x∈l,o∈x.args
def Xp.at(h:Xp l){k:Nat}(a:l[k]? =some x):∃y,x.args[0]? =some y/\zl l y:=by
 have c:=h x (aq a);let⟨y,b⟩:=cG x.args 0;exact⟨y,b,x,aq a,aq b⟩
def OO(p:eO m i l)(B:Xp l)(H:l.length<=10^12)(v:Int):sT 272 [O.v i,vi v] m λb=>-(l.length:Int)<=b/\b<=l.length:=by
 apply Iw;have L:=p.len;refine ez (n:=l.length) V (λk b M=>J m M/\-(k:Int)<=b/\b<=(k:Int)) ⟨J.az _,V,V⟩ ?_;rintro k b c I μ K ⟨e,E,F⟩ C
 refine⟨λj=>?_,λj=>⟨b,rfl,⟨V,V⟩,e⟩⟩;simp only[ar]at j;let⟨x,q⟩:=cG l k;obtain⟨y,r,_⟩:=B.at q;obtain⟨a,Q,o,_,z,_,_,A,_⟩:=p.aF q;have G:=o.len;have P:=av r;have s:=e.af z;have G3:=e.af A;have h:=(o.ext e).aF r;have u:cT (b+1)=b+1:=aQ V V;have w:cT (b -1)=b -1:=aQ V V;rw[u,w];have N:∀d,-((k+1:Nat):Int)<=d->d<=((k+1:Nat):Int)->I d (cT ((k:Int)+1)) c/\μ d (cT ((k:Int)+1)) c<μ b k c:=λd a t=>C V _ _ ⟨e,a,t⟩
 have D:(0:Int)<=(k:Int)/\(k:Int)<(i.len:Int)/\∃f:O,af c i.D (i.off+Int.toNat (k:Int)*5+3)=some (O.v f)/\(0:Int)<=(0:Int)/\(0:Int)<(f.len:Int)/\∃g:Int,af c f.D (f.off+Int.toNat (0:Int)*1)=some (vi g)/\
  ((g==v)=true->I (b -1) (cT ((k:Int)+1)) c/\μ (b -1) (cT ((k:Int)+1)) c<μ b k c)/\((g==v)=false->I b (cT ((k:Int)+1)) c/\μ b (cT ((k:Int)+1)) c<μ b k c):=
  ⟨V,V,a,G3,V,V,y,h,λ_=>N _ V V,λ_=>N _ V V⟩
 exact⟨V,V,a,G3,V,V,y,h,λ_=>⟨V,V,_,s,λ_=>N _ V V,λ_=>D⟩,λ_=>D⟩
def MX(q:∀f∈b,f<m.size)(u:eO m i l)(j:Xp l)(G:l.length<=100000000000):kY 271 [O.v i] m b λc=>(∀o∈c,zl l o)/\c.length<=l.length:=by
 apply Ha;intro N;have K:=u.len;refine ez (n:=l.length) V (λk s M=>J m M/\∃c,GI b m M s c/\(∀o∈c,zl l o)/\c.length<=k) ⟨J.push m _,[],GI.nil b m,aL,ad _⟩ ?_;rintro k s d I μ H ⟨e,c,p,v,t⟩ C
 refine⟨λh=>?_,λh=>⟨s,c,rfl,p,⟨v,V⟩,e⟩⟩;simp only[ar]at h;let⟨x,w⟩:=cG l k;let⟨z,y,A⟩:=j.at w;obtain⟨a,R,r,_,E,_,_,g,_⟩:=u.aF w;have F:=r.len;have L:=av y;refine⟨V,V,a,e.af g,V,V,z,(r.ext e).aF y,?_⟩;refine(my (S:=b) (λf t=>aO (q f t) e.size) (p.done q V) z V).then λQ B P g f D=>⟨_,rfl,C V _ _ ⟨e.trans D,B,g.cx (λ_ h=>h) e.size,λo j=>?_,oh f.2⟩⟩;rcases f.1 o j with h|h
 .exact v o h
 .subst h;exact A
structure vz(b:List Nat)(m d M:E)(f e h:O)(c lr g:List Int):Prop where
 x:J m M
 gd:GI b m M f c
 gr:GI b m M e lr
 gv:GI [] d M h g
 n1:f.D≠e.D
 n2:f.D≠h.D
 n3:e.D≠h.D
def vz.ext{b:List Nat}{m d M i:E}{f e h:O}{c j g:List Int}(T:vz b m d M f e h c j g)(a:J M i):vz b m d i f e h c j g:=
 ⟨T.x.trans a,T.gd.ext a,T.gr.ext a,T.gv.ext a,T.n1,T.n2,T.n3⟩
def vz.ZL{j:List Int}(T:vz b m d M f e h c j g)(s:∀i∈b,i<m.size)(t:c.length<=10^12)(u:∀r i,vz b m d i r e h (c++[a]) j g->K r i):
 jK (M.push (.cells (bt [.i a]) aA)) aA [.i 0] 8 f (.mk M.size 0 1 1) K:=by
 have o:=T.gr.bn;have p:=T.gv.bn;have v:=T.n1;have w:=T.n2
 refine GI.kH T.gd (T.x.fz []) s t λr i n l z q=>u r i ⟨l.ext,n,T.gr.jw (q _ o.2 T.n1.symm),T.gv.jw (q _ p.2 T.n2.symm),?_,?_,T.n3⟩<;>rcases z.2 with k|k<;>omega
def vz.R9{j:List Int}(T:vz b m d M f e h c j g)(s:∀i∈b,i<m.size)(t:j.length<=10^12)(u:∀r i,vz b m d i f r h c (j++[a]) g->K r i):
 jK (M.push (.cells (bt [.i a]) aA)) aA [.i 0] 8 e (.mk M.size 0 1 1) K:=by
 have o:=T.gd.bn;have p:=T.gv.bn;have v:=T.n1;have w:=T.n3
 refine GI.kH T.gr (T.x.fz []) s t λr i n l z q=>u r i ⟨l.ext,T.gd.jw (q _ o.2 T.n1),n,T.gv.jw (q _ p.2 T.n3.symm),?_,T.n2,?_⟩<;>rcases z.2 with k|k<;>omega
def Vp(l:List cV)(c:List cV):Prop:=∃b a:List Int,c=b.map (eY 14)++a.map (eY 15)/\(∀o∈b,zl l o)/\(∀o∈a,zl l o)/\b.length+a.length<=l.length*l.length
def yd(v:∀t∈b,t<m.size)(Z:eO m i l)(a:Xp l)(x:l.length<=500000):Rf 248 [O.v i] m b (Vp l):=by
 apply CY;intro r d;have P:J m d:=(J.push m _).trans (J.push r _);have s1:r.size=m.size+1:=by simp[r]
 have gd:GI b m d (.mk m.size 0 0 0) []:=(GI.nil b m).ext (J.push r _);have U:GI b m d (.mk r.size 0 0 0) []:=(GI.nil b r).cx (λ_ F=>F) V;clear_value d;have ah:l.length*l.length<=250000000000:=bH (Mk x x) bh;refine(MX (b:=[]) aL (Z.le P.le) a V).then λh g m3 D L Q=>⟨_,rfl,?_⟩;have hv:ap m3 h g:=(D.done aL (oh L.2)).le (bA _ _);have am:=hv.len;have al:=L.2;have an:=D.bn;have au:=P.size;refine wN (n:=g.length) V (λp f e M=>∃c j,vz b m d M f e h c j g/\(∀o∈c,zl l o)/\(∀o∈j,zl l o)/\c.length+j.length<=p*l.length) ⟨[],[],⟨(P.trans Q),gd.ext Q,U.ext Q,D,bE,oh gd.bn,oh U.bn⟩,aL,aL,aL⟩ ?_;rintro p f e m4 ag μ hi ⟨c,j,T,hd,hr,X⟩ ae
 have ac:p*l.length<=l.length*l.length:=dh _ V;have G:∀{M:E}{f e:O}{c j:List Int},vz b m d M f e h c j g->ap M h g:=λT=>(T.gv.done aL V).le (bA _ _);refine dit (λF=>?_) λF=>?_
 .let⟨y,z⟩:=cG g p;have ab:=L.1 y (aq z);refine⟨V,V,y,(G T).aF z,?_⟩;refine(OO (Z.le T.x.le) a V y).then λw m5 hn s=>⟨_,rfl,?_⟩;have ak:(p+1)*l.length=p*l.length+l.length:=pW _ _;refine⟨λf k M=>k<=w/\(w<=0->k=w)/\(0<w->0<=k)/\∃H,vz b m d M f e h H j g/\(∀o∈H,zl l o)/\H.length+j.length+k.toNat<=p*l.length+w.toNat,λ_ k _=>k.toNat,⟨V,V,V,c,T.ext s,hd,V⟩,?_⟩;rintro af k m6 ⟨n1,n2,n3,I,A,Y,ai⟩;refine dit (λh1=>?_) λh1=>?_
  .refine⟨V,V,y,(G A).aF z,?_⟩;intro q;have u:cT (k -1)=k -1:=aQ V V;rw[u];exact A.ZL v V λN R B=>⟨⟨V,V,V,_,B,λo a=>by
    rcases List.mem_append.1 a with a|a
    .exact Y o a
    .simp at a;subst a;exact ab,bE⟩,by dsimp only;omega⟩
  .refine⟨λe q M=>k<=q/\q<=0/\∃K,vz b m d M af e h I K g/\(∀o∈K,zl l o)/\I.length+K.length+(-q).toNat<=p*l.length+l.length,λ_ q _=>(-q).toNat,⟨V,V,j,A,hr,V⟩,?_⟩;rintro ao q m8 ⟨p1,p2,ad,C,aa,aj⟩;refine⟨λW=>?_,λW=>ae V _ _ _ ⟨I,ad,C,Y,aa,V⟩⟩;simp only[ar]at W;refine⟨V,V,y,(G C).aF z,?_⟩;intro m9;have u:cT (q+1)=q+1:=aQ V V;rw[u];exact C.R9 v V λN R B=>⟨⟨V,V,_,B,λo a=>by
    rcases List.mem_append.1 a with a|a
    .exact aa o a
    .simp at a;subst a;exact ab,bE⟩,by dsimp only;omega⟩
 .have o:∀t∈b,t<m4.size:=λt X=>by have:=v t X;have:=T.x.size;omega
  refine(eX (c:=b) o 14 ((T.gd.done v V).le (bA _ _)) V).mono λ_ m5⟨s1,C,k,g1,u,s⟩=>?_;subst k;subst u;refine⟨_,rfl,?_⟩;have q:=g1.bn;refine(eX (c:=s1.D::b) (bO o s.size q.2) 15 (((T.ext s).gr.done v V).le (bA _ _)) V).mono λ_ m6⟨I,H,k,g2,y,w⟩=>?_;subst k;subst y;refine⟨_,rfl,?_⟩;refine GS.all (g1.ext gD.mono w) ((s.trans w).fz []) (g2.done gD.mono (bO o s.size q.2) bh bE) bE λN R A z _ _=>⟨N,_,rfl,A.cx gD.mono (λB x=>Or.inl x) T.x.size,⟨c,j,rfl,hd,hr,?_⟩,T.x.trans z.ext⟩;have:p*l.length<=l.length*l.length:=ac;omega
end
section
variable{a c:Nat}
def IQ(a b:Nat):a*a+b*b<=(a+b)*(a+b):=by
 rw[gL,Nat.mul_add,Nat.mul_add];omega
def P4{b:Nat}(h:a<=b):a*a<=b*b:=Mk h h
structure CN(ds:List bz)(c:Nat)(S:List Nat)(m2 M:E)(a:Nat)(aD:List cV)(k:Nat)(st run:O)(lo lr:List cV)(P:Nat):Prop where
 x:J m2 M
 gs:GS (run.D::S) m2 M st lo
 gr:GS [st.D] m2 M run lr
 wl:WL ds c True a lo
 Xs:dc lo=dc (aD.take k)
 sws:sw lo<=P*P
 P':P+2*lr.length<=sw (aD.take k)
 lJ:Xp lr
 Xy:∀o,zl lr o->0<=o/\o<((a+dc (aD.take k):Nat):Int)
 ne:st.D≠run.D
def PX{f:List bz}{l b:List cV}(h:Vp l b)(e:∀o,zl l o->0<=o/\o<(a:Int)):WL f c True a b/\dc b=0/\sw b<=(2*l.length)*(2*l.length):=by
 obtain⟨k,j,rfl,g,i,m⟩:=h;refine⟨(rL V λo d=>e o (g o d)).append ?_,?_,?_⟩
 .rw[jT V];exact rL V λo d=>e o (i o d)
 .rw[cW,jT V,jT V]
 .rw[dC,ov,ov];have:(2*l.length)*(2*l.length)=4*(l.length*l.length):=by
   rw[Nat.mul_mul_mul_comm]
  omega
def Zx(e:List bz)(c:Nat)(b:Bk):Prop:=∀(S:List Nat)(m:E),(∀d∈S,d<m.size)->∀(t:O)(a:Nat),eO m t b.aD->WB e c True a b->b.w<=400000->ns 232 [.agg #[O.v t,vi b.aS]] m S λd=>WB e c True a d/\d.w<=b.w*b.w
def Em{K:List bz}:∀g:Bk,Zx K c g:=by
 refine Bk.ind ?_;intro aD bf ih s I hS bU a hs a9 hw;have aK:=a9.aT;rw[Bk.qG]at hw⊢;simp only[Bk.jS,Bk.ju]at*;apply wZ;simp -zeta only[aC,aB];intro j k Q m3;let⟨x1,hl⟩:=dD (a:=j) (c:=k) rfl rfl;have s0:j.size=I.size+1:=by simp[j]
 have s1:k.size=I.size+2:=by simp[k,s0]
 have bl:J k m3:=(J.push k _).trans (J.push Q _);have s2:Q.size=k.size+1:=by simp[Q]
 have a1:∀u,GS u k m3 (.mk k.size 0 0 0) []:=λu=>(GS.new u k).ext gD.mono (J.push Q _);have a0:∀u,GS u k m3 (.mk Q.size 0 0 0) []:=λu=>(GS.new u Q).cx gD.mono (λg m=>Or.inl m) V;clear_value m3;clear_value k;have a8:=hs.len;have aH:=Bw aD;have bB:=fY aD;have az:∀e∈j.size::s,e<k.size:=bO hS x1.size (hl _ aL);refine wN (n:=aD.length) (a8▸hs.gS) (λv G z q=>∃Z t P,CN K c (j.size::s) k q a aD v G z Z t P) ⟨[],[],0,bl,a1 _,a0 _,WL.nil _ _ _ _,rfl,aL,aL,λ_ h=>by simp at h,λaf⟨_,h,_⟩=>by simp at h,bE⟩ ?_;rintro v G z y bn μ hk ⟨Z,t,P,C⟩ aM
 have T:=C.x;have R:=x1.trans T;have bM:=C.gs.bn;have bL:=C.gr.bn;have z4:=T.size;have ay:=C.P';have bC:=aH v;have bo:P*P<=160000000000:=bH (P4 (b:=400000) V) bh;have bx:=fY Z;have a6:=C.sws;have aF:=C.ne;have L:∀{q:E}{u:List Nat},y.size<=q.size->(∀e∈u,e<q.size)->∀e∈u++j.size::s,e<q.size:=λh m e f=>by
  rcases List.mem_append.1 f with h|h
  .exact m e h
  .have:=az e h;omega
 have aG:∀{q:E},J y q->eO q z t:=λh=>eO.le (bA _ _) ((C.gr.ext gD.mono h).nF gD.mono (by simpa using aF.symm) bh V);refine dit (λh=>?_) λh=>?_
 .let⟨d,X⟩:=cG aD v;let⟨pa,pk,ha,ab,g0,g1,g2,g3,g4⟩:=hs.aF X;refine⟨V,V,_,R.af g0,_,R.af g1,_,R.af g2,_,R.af g3,_,R.af g4,?_⟩;intro m5 F;have x6:J y F:=(J.push y _).ah (ad _) _ _;have s6:F.size=y.size+1:=by simp[F,m5,aw]
  clear_value F;have O:∀{q:E},F.size<=q.size->∀g∈[y.size,j.size,I.size],g<q.size:=λh g m=>by
   rcases List.mem_cons.1 m with i|i
   .omega
   .have:=hl g i;omega
  have bI:=pR X;have bF:=qL X;have a_:=cV.mr d;have W:=aK.1 v d X;have bD:=aH (v+1);have br:=qb d.bC;refine(AM pa pk F).aH (J.az F) (O (ad _)) λbp m7 a3 x7 _=>⟨_,rfl,λhp=>?_,λhp=>?_⟩
  · -- a pair goes to the run
   have hp:=a3.1 hp;have D:d.args.length=1:=W.eZ.lJ V;have N:dn d=0:=ae λh:oY d.op=>by have:=h.2;omega
   have A:=x6.trans x7;intro m8;have r:Le I (bG (z.D::[G.D]) m7):=(zW I).trans (((R.trans A).fz []).bG aL λe f=>by simp at f;have:=x1.size;exact Or.inr V);refine GS.kH (x:=d) (C.gr.ext gD.mono A) ((T.trans A).fz []) (ha.le r) (ab.le r) V λaZ M' U B l w=>⟨λe f=>?_,aM V _ _ _ ⟨Z,t++[d],P,B.ext,(C.gs.ext gD.mono A).re gD.mono (Y:=[z.D]) ⟨l.1,λe f o=>w e f (by simpa using o)⟩ aL (by simpa using aF) (λe f=>?_),U,C.wl,by rw[C.Xs];omega,a6,bE,λak o=>?_,λaf H=>?_,?_⟩⟩
   .have:=O (q:=m7) x7.size e f;rw[w e this (by simp at f;omega),(J.push m7 _).same e this]
   .rcases List.mem_cons.1 f with i|i
    .rcases l.2 with p|p
     .exact Or.inl (by rw[i,p];exact bg)
     .exact Or.inr V
    .exact Or.inl (ai _ i)
   .rcases List.mem_append.1 o with o|o
    .exact C.lJ ak o
    .simp at o;subst o;exact D
   .let⟨ak,o,p⟩:=H;have i:dc (aD.take (v+1))=dc (aD.take v):=V;rw[i];rcases List.mem_append.1 o with o|o
    .exact C.Xy af ⟨ak,o,p⟩
    .simp at o;subst o;exact W.eZ.args af p
   .have:=(C.gs.ext gD.mono A).bn;rcases l.2 with i|i<;>omega
  · -- another step ends the run
   have A:=x6.trans x7;have aS:=A.size;refine(yd (b:=[G.D,z.D]++j.size::s) (L aS bE) (aG A) C.lJ V).aH (J.az m7) (O x7.size) λbS ba bP aX bd aO _=>⟨_,rfl,?_⟩;let⟨an,ag,bj⟩:=PX (f:=K) (c:=c) bd C.Xy;have bu:=fY ba;have vu:=aO.size;have z7:=x7.size;have a2:(2*t.length)*(2*t.length)<=160000000000:=bH (P4 (b:=400000) V) bh;have aQ:=A.trans aO;refine GS.all (C.gs.ext gD.mono aQ) ((T.trans aQ).fz []) (aX.done gD.mono (L (u:=[G.D,z.D]) aS bE) bh V) V λw l au aU aR be=>⟨λe f=>be e (O V e f) (by simp at f;omega),?_⟩;have ap:J k l:=aU.ext;have bV:=aR.1;have bJ:=au.bn;have bq:w.D=G.D\/F.size<=w.D:=by have:=aR.2;omega
   intro p am;have aP:J l p:=J.push l _;have bT:p.size=l.size+1:=by simp[p]
   have bk:J p am:=J.push p _;have ar:=ap.trans aP;have gn:GS [w.D] k p (.mk l.size 0 0 0) []:=(GS.new _ l).cx gD.mono (λg m=>Or.inl m) ap.size;have gk:GB ([w.D,l.size]++j.size::s) p am (.mk p.size 0 0 0) []:=GB.new _ p;have aY:GS ([l.size]++j.size::s) k p w _:=au.re gD.mono (Y:=[]) (aP.fz []) aL aL λe f=>by
    rcases List.mem_cons.1 f with i|i
    .exact Or.inr V
    .exact Or.inl (ai _ i)
   clear_value am;clear_value p;have al:=ab.len;have bs:=Kx d.bC;have bt:bw d.bC<=400000:=V;refine ez (n:=d.bC.length) (al▸ab.gS) (λD bi q=>J p q/\∃r,GB ([w.D,l.size]++j.size::s) p q bi r/\r.length=D/\(∀(B:Nat)(g:Bk),r[B]? =some g->WB K c True (a+dc (aD.take v)+BG K d.op d.bP B) g)/\bw r<=bw (d.bC.take D)*bw (d.bC.take D)) ⟨bk,[],gk,rfl,aL,aL⟩ ?_;rintro D ks ac I2 μ2 hj ⟨aa,r,U,bv,aE,a4⟩ bc;have ah:=x1.trans (ar.trans aa);have bW:=aa.size;have bK:=U.bn;have N:∀g∈[y.size,j.size,I.size],g<ac.size:=O V;refine dit (λh2=>?_) λh2=>?_
   .let⟨g,m⟩:=cG d.bC D;let⟨tb,aV,f0,f1⟩:=ab.aF m;have a5:=wJ m;have aN:=uq m;refine⟨V,V,_,ah.af f0,_,ah.af f1,?_⟩;refine(ih d (aq X) g (aq m) ([ks.D,w.D,l.size]++j.size::s) ac (L V bE) tb _ (aV.le ah.le) (W.bC D g m) V).aH (J.az ac) N λss b' a7 aT aA ao _=>⟨_,_,rfl,?_⟩;refine GB.kH (c:=b') (U.ext rH.mono ao) ((aa.trans ao).fz []) aT V λaZ M' g2 f2 z2 q2=>⟨J.oE ((aa.trans ao).aK _) f2.ext (λe f=>oh (O (q:=p) V e f)),bc V _ _ ⟨f2.ext,_,g2,bE,λB b2 H=>?_,?_⟩⟩
    .rcases aW B r.length with aj|aj
     .rw[ax aj]at H;exact aE B b2 H
     .rw[aI aj]at H;have:B -r.length=0:=by have:=av H;simp at this;omega
      rw[this]at H;simp at H;subst H;have:B=D:=V;subst this;exact aA.1
    .rw[oN,uo,zy,aN];have h3:=IQ (bw (d.bC.take D)) g.w;have:=aA.2;omega
   .have a5:r.length=d.bC.length:=V;rw[bX V]at a4;refine(bN ([w.D,l.size]++j.size::s) (ha.ext ah) V).aH (J.az ac) N λs' l' bb ga i H _=>⟨_,rfl,aJ (H.same _ (N _ aL)) _,aJ (H.same _ (N _ aL)) _,aJ (H.same _ (N _ aL)) _,?_⟩;subst i;intro bQ;have aj:=aa.trans H;have bY:=H.size;have ao:∀e∈[w.D,l.size]++j.size::s,e<p.size:=L V bE;have a7:w.D≠l.size:=V;refine GS.kH (x:=⟨d.op,d.bP,d.bY,d.args,r⟩) (aY.ext gD.mono aj) ((ar.trans aj).fz []) (ga.done (λe f=>oh (ao e f)) V) (nD.le (H.df _) (U.done rH.mono ao bh (by show r.length<=_;omega))) bE λaN bR aZ aV bm aA=>⟨λe f=>?_,aM V _ _ _ ⟨_,[],P+2*t.length+d.w,aV.ext,aZ,?_,((C.wl.append (by rw[C.Xs];exact an)).yD (W.PG id W.eZ.bY a5 aE|>λh=>by rw[cW,C.Xs,ag,jE];exact h)),?_,?_,bE,λ_ h=>by simp at h,λaf⟨_,h,_⟩=>by simp at h,?_⟩⟩
    .have h3:=N e f;rw[aA e V (by simp at f;omega),(J.push bb _).same e V]
    · -- the new run is empty
     have i:=gn.ext gD.mono aj;let⟨p0,aT,p1,p2⟩:=i;refine⟨p0,aT,p1.congr (aA _ (by have:=aj.size;show l.size<_;omega) (kC a7)),p2.len,p2.size,λB cs ak _ o=>by simp at o⟩
    .rw[cW,cW,C.Xs,ag,kK,sY];have i:dn (⟨d.op,d.bP,d.bY,d.args,r⟩:cV)=dn d:=rfl;omega
    .rw[dC,dC,mI,vj];have h3:=IQ P (2*t.length);have h4:=IQ (P+2*t.length) d.w;have h5:(⟨d.op,d.bP,d.bY,d.args,r⟩:cV).w=1+d.args.length+bw r:=cV.mr _;have o:=IQ (1+d.args.length) (bw d.bC);have h7:1+d.args.length<=(1+d.args.length)*(1+d.args.length):=Nat.le_mul_of_pos_left _ V;rw[<-a_]at o;omega
    .rcases bm.2 with i|i
     .show aN.D≠l.size;omega
     .show aN.D≠l.size;omega
 .have al:v=aD.length:=V;subst al;rw[fu]at ay;have hd:dc (aD.take aD.length)=dc aD:=by rw[fu]
  have i:∀g∈[j.size,I.size],g<y.size:=λg m=>T.lt (hl g m);refine(yd (b:=[G.D,z.D]++j.size::s) (L (ad _) bE) (aG (J.az _)) C.lJ V).aH (J.az y) i λO l F r A d _=>⟨_,rfl,aJ (d.same _ (i _ aL)) _,?_⟩;let⟨an,ag,bj⟩:=PX (f:=K) (c:=c) A C.Xy;have D:=fY l;have a2:(2*t.length)*(2*t.length)<=160000000000:=bH (P4 (b:=400000) V) bh;have U:=d.size;refine GS.all (C.gs.ext gD.mono d) ((T.trans d).fz []) (r.done gD.mono (L (u:=[G.D,z.D]) (ad _) bE) bh V) V λB H w p W o=>⟨λe f=>o e (d.lt (i e f)) (oh (hl e f)),aJ (o _ (d.lt (i _ aL)) V) _,?_⟩;intro N;refine⟨B,.mk (Z++l) bf,rfl,eO.le (cA aL λe f=>ai _ f) ((w.re gD.mono (S':=j.size::s) (Y:=[]) (Fz.az _ _) aL aL (λe f=>Or.inl (ai _ f))).done gD.mono az bh bE),⟨WB.of (C.wl.append (by rw[C.Xs];exact an)) ?_,?_⟩,(x1.trans p.ext).ah V _ _⟩
  .rw[cW,C.Xs,ag,hd];exact aK.2
  .rw[Bk.qG,dC];have h3:=IQ P (2*t.length);have h4:=P4 ay;have h5:=IQ 1 (sw aD);omega
end
end Go.Proofs.YtkicoahejfbjhaaGreat
