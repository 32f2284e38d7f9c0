/- Part of a proof. -/
import Derived.Test.YtdalfjkmdekijaaGreatUN01
set_option linter.all false
set_option maxHeartbeats 8000000
set_option maxRecDepth 100000
namespace Go.Proofs.YtdalfjkmdekijaaGreat
open Go.Vc
section
variable{b:List Nat}{e:E}{d g:O}{f:List eQ}{c:Prop}{W:Nat}
def xu(U:∀c∈b,c<e.size){lt:O}{w:List bq}{K:List (List Int)}(z:dY e d g w f)(hW:W<=1000000)(hk:uK w f c W)(ah:oD e lt K)(aQ:K.length=f.length)(ar:∀c∈K,c.length<=3):
 qP 260 [.agg #[O.v d,O.v g],O.v lt] e b w λA=>uK w A c W/\A.length=f.length:=by
 apply Cl
 simp -zeta only[aG,aF]
 intro j a2
 let⟨N,F⟩:=dk (a:=j) (c:=a2) rfl rfl
 have s1:j.size=e.size+1:=by simp[j]
 clear_value a2
 have ay:=z.iB.len;have aS:=z.nv
 refine(fD (b:=j.size::b) (bR U N.size (F _ aJ)) (z.le N.le).bu z.types).mono λ_ aa⟨dd,h,ap,P⟩=>?_
 subst h
 refine⟨P.de F,_,rfl,?_⟩
 intro t aI al
 have u2:=N.trans P
 let⟨x5,B0,g0,s3,s5⟩:=kC (b:=t.size::j.size::b) iv.mono (d:=aa) (a:=t) (c:=aI) (h:=al) rfl rfl rfl
 clear_value al
 have Y:∀c∈[j.size,e.size],c<aa.size:=λc l=>P.lt (F c l)
 have ag:∀c∈j.size::b,c<aa.size:=λc l=>P.lt (bR U N.size (F _ aJ) c l)
 refine ka (R:=λk o M=>∃d g A,Value.agg #[O.v k,O.v o]=.agg #[O.v d,O.v g]/\dY (bI b M) d g w A/\(uK w A c W/\A.length=f.length)/\J e M) (t:=f.length) (f:=e) (b:=b) iv.mono bo bo U ⟨V,Y _ aJ⟩ u2 s3 ap ay V x5 B0 g0 (λI k=>(pc f)[I]? =some k.params.length/\k.params.length<=3/\k.dg.length<=3/\WB w (pc f) c k.params.length k.body/\k.body.w<=W) (λp r' aj m' h1 D o r s=>⟨p,r',aj,rfl,⟨h1,D,z.types,V⟩,⟨GM hk.gR o r,o⟩,s⟩) λI M u aj aL μ aq aP xM ae Q aK=>?_
 let⟨k,Z⟩:=cq f I aq
 let⟨ax,aO,aB,hw⟩:=hk.df k (av Z)
 have v6:=u2.trans xM
 let⟨aU,aV,r,c1,c2,c3,e0,e1,e2,e3,e4⟩:=z.iB.aQ Z
 have G:∀{am:Value}{r y:Nat},af e r y=some am->af M r y=some am:=λC=>v6.af C
 refine⟨V,V,_,G e0,_,G e1,_,G e2,_,G e3,_,G e4,?_⟩
 intro m7 o
 have hy:=ae.bn
 have aN:=Q.lt
 have zM:=xM.size
 have x8:J M o:=(J.push M _).aj (ad _) _ _
 have s8:o.size=M.size+1:=by simp[o,m7,aD]
 clear_value o
 have H:∀c∈[M.size,j.size,e.size],c<o.size:=λc l=>by
  rcases List.mem_cons.1 l with h|h
  .omega
  .have:=Y c h;omega
 have B:=v6.trans x8
 have s:∀{M1 M2:E},J o M1->J o M2->∀r,r<o.size->∀y,af M2 r y=af M1 r y:=λC h' r hb y=>aM (by rw[h'.same r hb,C.same r hb]) y
 have x:M.size<o.size:=V
 have i2:t.size<o.size:=V
 let⟨ac,ai⟩:=cq K I
 let⟨yt,aE,T⟩:=ah.aQ ai
 have aC:=ar ac (av ai)
 have aR:=ah.len
 have X:∀{M':E},o.size<=M'.size->∀c∈u.aC::t.size::j.size::b,c<M'.size:=λC c l=>by
  simp only[aW]at l;rcases l with h|h|h|h
  .omega
  .omega
  .have:=ag c (by simp[h]);omega
  .have:=ag c (by simp[h]);omega
 refine⟨u,(Q.ext x8).cK 1,V,V,yt,B.af T,?_⟩
 refine(bP (u.aC::t.size::j.size::b) (c1.ext B) V).aK (J.aH o) H λp' _ m9 gp h p _=>⟨_,rfl,s (J.aH _) p _ x _,s (J.aH _) p _ x _,s (J.aH _) p _ x _,((B.trans p).af T).trans (B.af T).symm,s (J.aH _) p _ i2 _,?_⟩
 subst h
 refine(bP (u.aC::t.size::j.size::b) (aE.ext (B.trans p)) V).aK p H λt' _ aH gt h an v=>⟨_,rfl,s p v _ x _,s p v _ x _,s p v _ x _,s p v _ i2 _,?_⟩
 subst h
 have z9:=p.size;have aX:=an.size
 refine(vo k.body (u.aC::t.size::j.size::b) aH (X V) r (c3.le (B.trans v).le) V).aK v H λss b' ak az h ao L=>⟨_,_,rfl,s v L _ x _,s v L _ i2 _,?_⟩
 subst h
 intro aT
 have ab:=x8.trans L
 have aY:=L.size
 have aw:au (bI (u.aC::t.size::j.size::b) ak) p' k.params:=(gp.done (X V) V).le ((an.trans ao).cR _)
 have aA:au (bI (u.aC::t.size::j.size::b) ak) t' ac:=(gt.done (X V) V).le (ao.cR _)
 exact Gr.box (g:=[.s .nil,.s .nil,.i 0,.s .nil,.i 0]) (j:=1) (y:=88) (i:=[.s dd,.s u]) (w:=⟨k.params,ac,k.aT,k.body⟩) iv.mono bo (ae.ext iv.mono ab) ((xM.trans ab).fz []) ⟨p',t',ss,rfl,aw,aA,az⟩ V (Q.ext ab) aJ bo ⟨V,aJ⟩ (λc l=>by have h1:=H c l;have D:=Y c;simp only[aW]at l D;rcases l with h|h|h|h<;>first|omega|(have:=D (by simp[h]);omega)|simp at h) λr' m' g' D f' z' q'=>aK r' m' _ g' D f'.ext ⟨Io (q:=k) Z,ax,aC,aB,hw⟩
def Jb(hS:∀c∈b,c<e.size){A:List bq}(Z:dY e d g A f)(hW:W<=1000000)(hk:uK A f c W):qP 250 [.agg #[O.v d,O.v g]] e b A λt=>uK A t c W:=by
 apply BN;simp -zeta only[aG,aF];intro i a2;let⟨x2,G⟩:=dk (a:=i) (c:=a2) rfl rfl;have s1:i.size=e.size+1:=by simp[i]
 have s2:a2.size=e.size+2:=by simp[a2,s1]
 clear_value a2;have aE:=Z.iB.len;have aC:=Z.nv;have ai:∀c∈i.size::b,c<a2.size:=bR hS x2.size (G _ aJ);have p:∀{M q:E},J a2 M->J a2 q->∀ac,af q e.size ac=af M e.size ac:=λu h' ac=>aM (by rw[h'.same _ (G _ aJ),u.same _ (G _ aJ)]) ac;have tail:∀(Q:E)(a:Nat)(z y:O)(C:List eQ),J a2 Q->a2.size<=a->cB Q a mC [.s z,.s y]->dY (bI (a::i.size::b) Q) z y A C->uK A C c W->
  ∃(I0:Int->E->Prop)(μ0:Int->E->Nat),I0 (0:Int) Q/\(∀(l:Int)(v:E),I0 l v->
   ((decide (l<=(12:Int)))=true->
    let U:E:=v.push (.cells (bE []) qy)
    ∃(w:O->Int->E->Prop)(μ1:O->Int->E->Nat),w (O.mk v.size 0 0 0) (0:Int) U/\(∀(s:O)(x:Int)(h:E),w s x h->
     ∃D:O,af h a 1=some (O.v D)/\
     ((decide (x<(D.len:Int)))=true->∃j:O,af h a 0=some (O.v j)/\∃k:O,af h a 1=some (O.v k)/\
      aP cv 262 [.agg #[O.v j,O.v k],vi x] h λY P=>eF [i.size,e.size] h P/\∃aa:O,Y=O.v aa/\
       let ae:E:=P.push (.cells (bE [.s aa]) qy)
       jb ae qy [.s O.nil] 24 s (O.mk P.size 0 1 1) λF B=>eF [i.size,e.size] ae B/\w F (cQ (x+(1:Int))) B/\μ1 F (cQ (x+(1:Int))) B<μ1 s x h)/\
     ((decide (x<(D.len:Int)))=false->∃j:O,af h a 0=some (O.v j)/\∃k:O,af h a 1=some (O.v k)/\
      aP cv 260 [.agg #[O.v j,O.v k],O.v s] h λH I=>eF [i.size,e.size] h I/\∃B:O,∃F:O,H=.agg #[O.v B,O.v F]/\fq I a 0 2/\
       let L:E:=aj I a 0 [.s B,.s F]
       eF [i.size,e.size] I L/\I0 (cQ (l+(1:Int))) L/\μ0 (cQ (l+(1:Int))) L<μ0 l v)))/\
   ((decide (l<=(12:Int)))=false->∃j:O,af v a 0=some (O.v j)/\∃k:O,af v a 1=some (O.v k)/\
    let ag:E:=aj v i.size 0 [.s j,.s k]
    ∃d g t,Value.agg #[O.v j,O.v k]=.agg #[O.v d,O.v g]/\dY (bI b ag) d g A t/\uK A t c W/\J e ag)):=by
  intro Q a z y C T ar hB hN R
  refine eu (n:=13) V (λ_ M=>J a2 M/\∃z y C,cB M a mC [.s z,.s y]/\dY (bI (a::i.size::b) M) z y A C/\uK A C c W) ⟨T,z,y,C,hB,hN,R⟩ ?_
  rintro aI v az μ aB ⟨x6,z,y,C,H,N,K⟩ ay
  have aA:=H.lt
  have aH:=N.iB.len
  have aD:=N.nv
  refine⟨λu=>?_,λu=>?_⟩
  .simp only[aq]at u
   intro U
   have ao:J v U:=J.push _ _
   have g0:Zb [] v U (.mk v.size 0 0 0) []:=Gr.new _ (ad _) _ _ _
   refine dE (n:=C.length) V (λx s M=>J v M/\∃l,Zb [] v M s l/\l.length=x/\∀c∈l,c.length<=3) ⟨ao,[],g0,rfl,aJ⟩ ?_
   rintro x s h I2 μ2 hf ⟨D,l,ab,ap,B⟩ am
   have u8:=x6.trans D
   have N8:=N.le (D.cR _)
   refine⟨y,(H.ext D).cK 1,dit (λF=>?_) λF=>?_⟩
   .let⟨X,hq⟩:=cq C x
    have an:=(K.df X (av hq)).2.1
    have j:=ab.bn
    refine⟨z,(H.ext D).cK 0,y,(H.ext D).cK 1,?_⟩
    refine(I6 (e:=[s.aC]) bS (N8.le (bA _ _)) K hq).aK u8 G λaa au P ak aw x9 u9=>⟨_,rfl,?_⟩
    intro ae
    refine Gr.kj (g:=[.s .nil]) mg.mono bo (ab.ext mg.mono x9) ((D.trans x9).fz []) ⟨aa,rfl,ak.done bS V⟩ V λw q g' k _ _=>⟨J.nP (u9.aR _) (x6.trans k.ext) G,am V _ _ ⟨k.ext,_,g',bS,λal j=>?_⟩⟩
    rcases List.mem_append.1 j with j|j
    .exact B al j
    .simp at j;subst j;omega
   .refine⟨z,(H.ext D).cK 0,y,(H.ext D).cK 1,?_⟩
    have ak:oD h s l:=eO.le (ab.done mg.mono aJ bo V) (bA _ _) (mg.le (bA _ _))
    have z8:=D.size;have z6:=x6.size
    refine(xu (b:=a::i.size::b) (λc k=>?_) (N8.le (bA _ _)) hW K ak V B).mono λ_ I⟨d2,Y,an,j,N2,⟨K2,_⟩,aa⟩=>?_
    .rcases List.mem_cons.1 k with j|j
     .omega
     .have:=ai c j;omega
    subst j
    have ae:=(H.ext D).ext aa
    refine⟨u8.Vj G aa,_,_,rfl,ae.fq aJ,?_⟩
    intro L
    have al:∀P,P≠a->L[P]? =I[P]? :=λP hb=>bh _ _ _ _ hb
    refine⟨λc k=>al c (oh (G c k)),ay V _ ⟨(u8.trans aa).aj ar _ _,d2,Y,an,cB.aj (m:=I) (o:=0) (r:=[.s d2,.s Y]) ae,N2.le (cp aJ λ_ u=>u),K2⟩⟩
  .refine⟨z,H.cK 0,y,H.cK 1,?_⟩
   intro ag
   exact⟨z,y,C,rfl,(N.le (gL v λc k=>ah _ k)).le (cp aJ λc k=>ah _ k),K,(x2.trans x6).aj V _ _⟩
 have au:∀X∈f,X.params.length<=3:=λX hq=>(hk.df X hq).1;have al:∀(M:E)(L:List Nat)(K:Value->E->Prop),J a2 M->(∀c∈L,c<M.size)->(∀s l q,oD q s l->l.length=f.length->(∀c∈l,c.length<=3)->J M q->K (O.v s) q)->aP cv 261 [.agg #[O.v d,O.v g]] M λak U=>eF L M U/\K ak U:=λM L K T hL R=>
  (Fe (e:=[]) aJ (Z.le (x2.trans T).le) au).mono λ_ q⟨s,l,j,I,F,B,Y⟩=>⟨Y.de hL,j▸R s l q (eO.le I (bA _ _) (mg.le (bA _ _))) F B Y⟩
 have dg:∀(M:E)(S' L:List Nat)(K:Value->E->Prop)(s:O)(l:List (List Int)),J a2 M->(∀c∈L,c<M.size)->(∀c∈S',c<M.size)->oD M s l->l.length=f.length->(∀c∈l,c.length<=3)->(∀x w t q,dY (bI S' q) x w A t->uK A t c W->J M q->K (.agg #[O.v x,O.v w]) q)->aP cv 260 [.agg #[O.v d,O.v g],O.v s] M λak U=>eF L M U/\K ak U:=λM S' L K s l T hL ap I F B R=>
  (xu ap (Z.le (x2.trans T).le) hW hk I F B).mono λ_ q⟨x,w,t,j,N,⟨K1,_⟩,Y⟩=>⟨Y.de hL,j▸R x w t q N K1 Y⟩
 have am:∀{M:E}{a:Nat},J a2 M->a<M.size->∀c∈a::i.size::b,c<M.size:=λu hb c k=>by
  have:=u.size;rcases List.mem_cons.1 k with j|j
  .omega
  .have:=ai c j;omega
 have ag:∀{M:E}{a:Nat},J a2 M->a<M.size->∀c∈[a,i.size,e.size],c<M.size:=λu hb c k=>by
  rcases List.mem_cons.1 k with j|j
  .omega
  .exact u.lt (G c j)
 refine⟨al a2 _ _ (J.aH _) G λs l ab I F B h=>⟨_,rfl,p (J.aH _) h _,p (J.aH _) h _,⟨?_,?_⟩⟩,?_⟩
 .refine dg ab (i.size::b) _ _ s l h (λc k=>h.lt (G c k)) (λc k=>h.lt (ai c k)) I F B λx w t m3 N K P=>⟨_,_,rfl,?_⟩;have D:=h.trans P;intro m4;have u4:J a2 m4:=D.aR _;refine⟨p D u4 _,p D u4 _,p D u4 _,p D u4 _,?_⟩;intro m5;have aa:J m3 m5:=(J.push m3 _).aj (ad _) _ _;exact tail m5 m3.size x w t (D.trans aa) D.size (cB.aj (m:=m4) (o:=0) (r:=[.s x,.s w]) (cB.push m3 _ _)) (N.le (aa.bI λc k=>by
   rcases List.mem_cons.1 k with j|j
   .exact Or.inr V
   .exact Or.inl j)) K
 .intro aa;have D:J a2 aa:=h.aR _;refine⟨p h D _,p h D _,p h D _,p h D _,?_⟩;refine dg aa (ab.size::i.size::b) _ _ s l D (ag D (by simp[aa])) (am D (by simp[aa])) (oD.ext (J.push _ _) I) F B λx w t ae N K P=>⟨_,_,rfl,?_⟩;intro an;exact tail an ab.size x w t ((D.trans P).aj h.size _ _) h.size (cB.aj (m:=ae) (o:=0) (r:=[.s x,.s w]) ((cB.push ab _ _).ext P)) (N.le (cp aJ λ_ u=>u)) K
 .intro aa;have D:J a2 aa:=J.push _ _;refine⟨p (J.aH _) D _,p (J.aH _) D _,p (J.aH _) D _,p (J.aH _) D _,?_⟩;refine al aa _ _ D (ag D (by simp[aa])) λs l ao I F B h=>⟨_,rfl,p D (D.trans h) _,p D (D.trans h) _,?_⟩;have ae:=D.trans h;have an:a2.size<ao.size:=h.lt (by simp[aa]);refine dg ao (a2.size::i.size::b) _ _ s l ae (ag ae an) (am ae an) I F B λx w t aw N K P=>⟨_,_,rfl,?_⟩;intro ax;exact tail ax a2.size x w t ((ae.trans P).aj (ad _) _ _) (ad _) (cB.aj (m:=aw) (o:=0) (r:=[.s x,.s w]) ((cB.push a2 _ _).ext (h.trans P))) (N.le (cp aJ λ_ u=>u)) K
end
section
variable{w:Int}{r:List Int}
structure bU where
 aV:Int
 mJ:Int
 aN:List Int
structure be where
 dW:Int
 pc:Int
 dst:Int
 ax:List Int
 bg:List Int
 bB:List Int
structure St where
 cY:Int
 value:Int
 bO:Int
 eH:Int
 bC:List Int
 heap:List bU
 ak:List be
def aQ(l:List Int)(i:Int):Int:=l.getD i.toNat 0
def iD(l:List Int)(i:Int)(v:Int):List Int:=l.set i.toNat v
def ix(w:Int):Nat:=(w -1000).toNat
def gZ(w:Int):Prop:=-999<=w/\w<=999
def js(h:List bU)(a:Nat):Prop:=∃c,h[a]? =some c/\0<c.aV
def ib(h:List bU)(w:Int):Prop:=1000<=w/\js h (ix w)
def pQ(h:List bU)(w:Int):Prop:=gZ w\/ib h w
def jS:bU:=⟨0,0,[]⟩
def bd(h:List bU)(w:Int):bU:=(h[ix w]?).getD jS
def aaa:da:=⟨[],[],0,0,[]⟩
def dm(a:cr)(n:Int):da:=(a.cy[n.toNat]?).getD aaa
def gA(a:cr):Int:=(eI a.bu).length
def eK:List Int->Nat->Int
 |[],_=>0
 |w::b,a=>(if w=1000+(a:Int)then 1 else 0)+eK b a
def dS:List bU->Nat->Int
 |[],_=>0
 |c::h,a=>eK c.aN a+dS h a
def cV:List Int->List Int->Nat->Int
 |r::c,o::b,a=>(if r=1000+(a:Int)then o else 0)+cV c b a
 |_,_,_=>0
def fj:List be->Nat->Int
 |[],_=>0
 |f::b,a=>cV f.ax f.bg a+fj b a
def holds:List be->Nat->Int
 |[],_=>0
 |f::b,a=>eK f.bB a+holds b a
def nM(a:cr)(x:Instr)(k:Nat):Bool:=(dm a x.bM).dg.any (λy=>y==(k:Int))
def jB(a:cr)(x:Instr):Nat->List Int->List Int
 |_,[]=>[]
 |k,r::b=>if nM a x k then jB a x (k+1) b else r::jB a x (k+1) b
def mq(a:cr)(x:Instr):Nat->List Int->List Int
 |_,[]=>[]
 |k,r::b=>if nM a x k then r::mq a x (k+1) b else mq a x (k+1) b
def dG(a:cr)(x:Instr):List Int:=
 if x.op=15\/x.op=6\/x.op=10\/x.op=11\/x.op=18\/x.op=23 then x.args
 else if x.op=16\/x.op=17 then x.args.take 1
 else if x.op=9\/x.op=24 then jB a x 0 x.args
 else[]
def dL(ax bg:List Int):List Int->List Int
 |[]=>bg
 |r::a=>dL ax (if 1000<=aQ ax r then iD bg r (aQ bg r -1)else bg) a
def dC(f:be)(a:List Int):List Int:=a.map (aQ f.ax)
def qV(l:List Int):List Int:=l.filter (λw=>decide (1000<=w))
def nU(h:List bU)(a:List Int):Prop:=∀w∈a,1000<=w->(bd h w).aV+eK a (ix w)<=999999
def Nt(h:List bU)(f:be)(x:Instr):Prop:=
 let w:=aQ f.ax (aQ x.args 0)
 ib h w/\qV (bd h w).aN=dC f (x.args.drop 1)/\((bd h w).aV=1\/nU h (bd h w).aN)/\(x.op=17->aQ f.bB (aQ x.args 0)=0)
def Ek(a:cr)(h:List bU)(w:Int):Prop:=
 ib h w/\0<=(bd h w).mJ -gA a/\(bd h w).mJ -gA a<a.cy.length/\
  (dm a ((bd h w).mJ -gA a)).params.length=(bd h w).aN.length+1/\(dm a ((bd h w).mJ -gA a)).dg.length=0/\
  ((bd h w).aV=1\/nU h (bd h w).aN)
def JL(h:List bU)(f:be)(x:Instr):Prop:=
 x.bY≠0->aQ f.bB (x.bY -1)≠0->(bd h (aQ f.bB (x.bY -1))).aN.length=x.args.length
def OF(a:cr)(h:List bU)(f:be)(x:Instr):Prop:=∀r∈mq a x 0 x.args,1000<=aQ f.ax r->ib h (aQ f.ax r)
def UG(l:List Int):Prop:=∀n∈l,n=0
structure uj(im:cr)(s:St)(f:be)(x:Instr)(bg:List Int):Prop where
 nn:∀o∈bg,0<=o
 dst:jE x.op->aQ bg x.dst<=0
 pw:(x.op=1\/x.op=2\/x.op=3\/x.op=4\/x.op=5\/x.op=20)->∀r∈x.args,aQ f.ax r<1000
 lX:x.op=6->JL s.heap f x
 dg:(x.op=9\/x.op=24)->OF im s.heap f x
 zero:(x.op=24\/x.op=23)->UG bg/\UG f.bB
 ret:x.op=23->1<s.ak.length\/aQ f.ax (aQ x.args 0)<1000
 apply:x.op=11->Ek im s.heap (aQ f.ax (aQ x.args 0))
 Zg:x.op=14->ib s.heap (aQ f.ax (aQ x.args 0))/\(bd s.heap (aQ f.ax (aQ x.args 0))).aV<999999
 drop:x.op=15->1000<=aQ f.ax (aQ x.args 0)
 TS:(x.op=16\/x.op=17)->Nt s.heap f x
 load:x.op=19->ib s.heap (aQ f.ax (aQ x.args 0))/\x.bM<(bd s.heap (aQ f.ax (aQ x.args 0))).aN.length
 Of:x.op=21->ib s.heap (aQ f.ax (aQ x.args 0))/\(bd s.heap (aQ f.ax (aQ x.args 0))).mJ∈cb im.bu x.bM
def JV(n:Int):Int:=if n< -999 then -999 else if 999<n then 999 else n
def TY(c a b:Int):Int:=
 if c=1 then JV (a+b)else if c=2 then JV (a -b)else if c=3 then JV (a*b)else if c=4/\a<b then 1 else 0
def fp:List bU->Nat
 |[]=>0
 |c::h=>if c.aV=0 then 0 else fp h+1
def lX(h:List bU)(a:Nat)(c:bU):List bU:=if a=h.length then h++[c]else h.set a c
def oL(h:List bU)(w:Int):List bU:=h.set (ix w) {bd h w with aV:=(bd h w).aV+1}
def gE(h:List bU)(w:Int):List bU:=h.set (ix w) {bd h w with aV:=(bd h w).aV -1}
def kT(h:List bU):List Int->List bU
 |[]=>h
 |w::a=>kT (oL h w) a
def kG(h:List bU):Nat->Nat
 |0=>0
 |n+1=>match h[n]? with
  |some c=>if c.aV=0 then kG h n else n+1
  |none=>kG h n
def rh(h:List bU):List bU:=h.take (kG h h.length)
def IA:List bU->Nat
 |[]=>0
 |c::h=>(if 0<c.aV then c.aV.toNat+c.aN.length else 0)+IA h
def mh:∀{e:List bU}{f:Nat}{b d:bU},e[f]? =some b->IA (e.set f d)+(if 0<b.aV then b.aV.toNat+b.aN.length else 0)=IA e+(if 0<d.aV then d.aV.toNat+d.aN.length else 0)
 |[],f,b,d,e=>by simp at e
 |i::e,0,b,d,g=>by simp at g;subst g;simp only[iR,IA];omega
 |i::e,f+1,b,d,g=>by
  have:=mh (e:=e) (f:=f) (b:=b) (d:=d) (by simpa using g);simp only[iQ,IA];omega
def cz{h:List bU}(b:ib h w):h[ix w]? =some (bd h w)/\0<(bd h w).aV:=by
 obtain⟨_,d,a,c⟩:=b;simp[bd,a,c]
open Classical in
noncomputable def je (h:List bU) (c:List Int):List bU:=
 match c with
 |[]=>h
 |w::r=>
  if b:ib h w then
   if a:(bd h w).aV=1 then je (h.set (ix w) jS) ((bd h w).aN.reverse++r)
   else je (gE h w) r
  else je h r
termination_by IA h+c.length
decreasing_by
 .let⟨e,a⟩:=cz b
  have:=mh (d:=jS) e
  simp only[jS,ao a]at this
  simp[jS]
  simp at this
  omega
 .let⟨e,a⟩:=cz b
  have b:=mh (d:={bd h w with aV:=(bd h w).aV -1}) e
  simp only[ao a]at b
  rw[ao V]at b
  simp[gE]
  omega
 .simp
def AK(h:List bU):je h []=h:=by rw[je]
def AL{h:List bU}(b:ib h w)(a:(bd h w).aV=1):je h (w::r)=je (h.set (ix w) jS) ((bd h w).aN.reverse++r):=by
 rw[je,Sk b,Sk a]
def vU{h:List bU}(b:ib h w)(a:(bd h w).aV≠1):je h (w::r)=je (gE h w) r:=by
 rw[je,Sk b,dif_neg a]
def vV{h:List bU}(a:¬ib h w):je h (w::r)=je h r:=by
 rw[je,dif_neg a]
def be.put(f:be)(r w o:Int):be:={f with ax:=iD f.ax r w,bg:=iD f.bg r o}
def jx(w:Int):Int:=if 1000<=w then 1 else 0
def fu(bg:List Int):List Int->List Int
 |[]=>bg
 |r::a=>fu (iD bg r (aQ bg r+1)) a
def gB(n:Nat):List Int:=List.replicate n 0
def iA(dg:List Int):Nat->List Int->List Int
 |_,[]=>[]
 |k,w::a=>(if dg.any (λy=>y==(k:Int))then 0 else jx w)::iA dg (k+1) a
def cN(a:cr)(g c:Int)(b:List Int):be:=
 ⟨g,0,c,b++gB ((dm a g).ax.toNat -b.length),iA (dm a g).dg 0 b++gB ((dm a g).ax.toNat -b.length),gB (dm a g).ax.toNat⟩
open Classical in
noncomputable def apart (h:List bU) (w:Int):List bU:=
 if(bd h w).aV=1 then rh (h.set (ix w) jS)else kT (gE h w) (qV (bd h w).aN)
def wX(l:List Int)(n:Int):Nat:=l.findIdx (λy=>y==n)
open Classical in
noncomputable def jI (b:cr) (s:St) (a:List be) (f:be) (x:Instr) (bg:List Int):St:=
 let g:be:={f with bg:=bg,pc:=f.pc+1}
 let c:=aQ x.args 0
 let w:=aQ f.ax c
 if x.op=0 then{s with ak:=a++[g.put x.dst x.bM 0]}
 else if x.op=1\/x.op=2\/x.op=3\/x.op=4 then{s with ak:=a++[g.put x.dst (TY x.op w (aQ f.ax (aQ x.args 1))) 0]}
 else if x.op=5 then{s with bC:=s.bC++[w],ak:=a++[g.put x.dst w 0]}
 else if x.op=6 then
  if x.bY≠0/\aQ f.bB (x.bY -1)≠0 then
   {s with heap:=s.heap.set (ix (aQ f.bB (x.bY -1))) ⟨1,x.bM,dC f x.args⟩,ak:=a++[{g with bB:=iD f.bB (x.bY -1) 0}.put x.dst (aQ f.bB (x.bY -1)) 1]}
  else{s with heap:=lX s.heap (fp s.heap) ⟨1,x.bM,dC f x.args⟩,ak:=a++[g.put x.dst (1000+fp s.heap) 1]}
 else if x.op=10 then{s with heap:=lX s.heap (fp s.heap) ⟨1,gA b+x.bM,dC f x.args⟩,ak:=a++[g.put x.dst (1000+fp s.heap) 1]}
 else if x.op=14 then{s with heap:=oL s.heap w,ak:=a++[{g with bg:=iD bg c (aQ bg c+1)}]}
 else if x.op=15 then{s with heap:=rh (je s.heap [w]),ak:=a++[g]}
 else if x.op=16\/x.op=17 then
  let d:={g with bg:=fu bg (x.args.drop 1)}
  if(bd s.heap w).aV=1/\x.op=17 then{s with heap:=s.heap.set (ix w) ⟨-1,0,gB (bd s.heap w).aN.length⟩,ak:=a++[{d with bB:=iD f.bB c w}]}
  else{s with heap:=apart s.heap w,ak:=a++[d]}
 else if x.op=18 then{s with ak:=a++[g.put x.dst w (jx w)]}
 else if x.op=19 then{s with ak:=a++[g.put x.dst (aQ (bd s.heap w).aN x.bM) 0]}
 else if x.op=20 then{s with ak:=a++[{g with pc:=if w=0 then x.bM else f.pc+1}]}
 else if x.op=21 then{s with ak:=a++[{g with pc:=aQ x.di (wX (cb b.bu x.bM) (bd s.heap w).mJ)}]}
 else if x.op=22 then{s with ak:=a++[{g with pc:=x.bM}]}
 else if x.op=9 then{s with bO:=s.bO+1,ak:=a++[g,cN b x.bM x.dst (dC f x.args)]}
 else if x.op=24 then{s with bO:=s.bO+1,ak:=a++[cN b x.bM f.dst (dC f x.args)]}
 else if x.op=11 then
  {s with bO:=s.bO+1,heap:=apart s.heap w,ak:=a++[g,cN b ((bd s.heap w).mJ -gA b) x.dst ((bd s.heap w).aN++[aQ f.ax (aQ x.args 1)])]}
 else -- 23
  match a.getLast? with
  |none=>{s with cY:=0,value:=w,ak:=[]}
  |some p=>{s with ak:=a.dropLast++[p.put f.dst w (jx w)]}
def wg(a:Int):Prop:=a=9\/a=11\/a=24
instance(a:Int):Decidable (wg a):=by unfold wg;infer_instance
def fJ(a:cr)(f:be):Instr:=((dm a f.dW).bt[f.pc.toNat]?).getD ⟨0,0,0,0,[],[]⟩
open Classical in
noncomputable def oB (a:cr) (s:St):St:=
 if s.cY≠3 then s else
 match s.ak.getLast? with
 |none=>s
 |some f=>
  if wg (fJ a f).op/\s.bO=s.eH then{s with cY:=1}
  else if uj a s f (fJ a f) (dL f.ax f.bg (dG a (fJ a f)))then
   jI a s s.ak.dropLast f (fJ a f) (dL f.ax f.bg (dG a (fJ a f)))
  else{s with cY:=2}
end
section
variable{f b:Nat}{h g:List bU}{e e':Nat->Int}{w:Int}{c d:bU}
def nO:∀(l r:List Int)(f:Nat),eK (l++r) f=eK l f+eK r f
 |[],r,f=>by simp[eK]
 |w::l,r,f=>by simp only[db,eK,nO l r f];omega
def yX:∀(l:List Int)(f:Nat),eK l.reverse f=eK l f
 |[],f=>rfl
 |w::l,f=>by simp only[List.reverse_cons,nO,yX l f,eK];omega
def iz:∀(l:List Int)(f:Nat),0<=eK l f
 |[],f=>by simp[eK]
 |w::l,f=>by have:=iz l f;simp only[eK];split<;>omega
def ng:∀{l:List Int}{f:Nat},(1000+(f:Int))∉l->eK l f=0
 |[],f,_=>rfl
 |w::l,f,h=>by
  simp only[aW,uJ]at h;simp only[eK,ng h.2];rw[ae (λe=>h.1 e.symm)];rfl
def tV:∀{l:List Int}{f:Nat},(1000+(f:Int))∈l->1<=eK l f
 |[],f,h=>by simp at h
 |w::l,f,h=>by
  simp only[eK];rcases List.mem_cons.1 h with rfl|h
  .rw[ao rfl];have:=iz l f;omega
  .have:=tV h;split<;>omega
def NU{l:List Int}(h:0<eK l f):(1000+(f:Int))∈l:=
 eU λa=>by rw[ng a]at h;omega
def RQ(n:Nat)(f:Nat):eK (gB n) f=0:=ng λh=>by have:=Vy h;omega
def vf:∀(l:List Int)(f:Nat),eK (qV l) f=eK l f
 |[],f=>rfl
 |w::l,f=>by
  have:=vf l f;simp only[qV]at this⊢;rw[List.filter_cons];split
  .simp only[eK,this]
  .rename_i h;simp only[eK,this];rw[ae (λe=>h bS)];omega
def kv:∀(l:List Int)(f:Nat),eK l f<=l.length
 |[],f=>by simp[eK]
 |w::l,f=>by have:=kv l f;simp only[eK,aY];split<;>omega
def tX:∀(h k:List bU)(f:Nat),dS (h++k) f=dS h f+dS k f
 |[],k,f=>by simp[dS]
 |c::h,k,f=>by simp only[db,dS,tX h k f];omega
def qu:∀(h:List bU)(f:Nat),0<=dS h f
 |[],f=>by simp[dS]
 |c::h,f=>by have:=qu h f;have:=iz c.aN f;simp only[dS];omega
def y9:∀{h:List bU}{f:Nat}{c:bU}(e:bU)(_:h[f]? =some c)(b:Nat),dS (h.set f e) b=dS h b -eK c.aN b+eK e.aN b
 |[],f,c,e,h,b=>by simp at h
 |d::h,0,c,e,g,b=>by simp at g;subst g;simp only[iR,dS];omega
 |d::h,f+1,c,e,g,b=>by
  have:=y9 (h:=h) (f:=f) e (by simpa using g) b;simp only[iQ,dS,this];omega
def KC:∀{h:List bU}{f:Nat},0<dS h f->∃c∈h,(1000+(f:Int))∈c.aN
 |[],f,h=>by simp[dS]at h
 |c::h,f,e=>by
  simp only[dS]at e;rcases gX (0<eK c.aN f)with b|b
  .exact⟨c,aZ,NU b⟩
  .let⟨d,hd,g⟩:=KC (h:=h) (f:=f) (oh (iz c.aN f));exact⟨d,ah _ hd,g⟩
def Rk:∀{h:List bU}{c:bU}(_:c∈h)(f:Nat),eK c.aN f<=dS h f
 |[],c,a,f=>by simp at a
 |d::h,c,a,f=>by
  simp only[dS];rcases List.mem_cons.1 a with rfl|a
  .have:=qu h f;omega
  .have:=Rk a f;have:=iz d.aN f;omega
structure nD(h:List bU)(c:bU):Prop where
 fl:c.aN.length<=3
 lo: -1<=c.aV
 hi:c.aV<=999999
 vT:c.aV<1->c.mJ=0/\(∀w∈c.aN,w=0)/\(c.aV=0->c.aN=[])
 pF:0<c.aV->(∀w∈c.aN,pQ h w)/\0<=c.mJ/\c.mJ<=99
def Sn(h:List bU):Prop:=∃a:Nat->Nat,∀(i:Nat)(c:bU),h[i]? =some c->∀w∈c.aN,1000<=w->a (ix w)<a i
structure fR(h:List bU)(e:Nat->Int):Prop where
 cell:∀c∈h,nD h c
 LD:Sn h
 ex:∀(f:Nat)(c:bU),h[f]? =some c->0<c.aV->c.aV=dS h f+e f
 nn:∀f,0<=e f
 lv:∀f,0<e f->js h f
def fR.congr(c:fR h e)(a:∀b,e' b=e b):fR h e':=by
 have:e'=e:=funext a;rw[this];exact c
def kP(f:Nat):ix (1000+(f:Int))=f:=by unfold ix;omega
def iN(h:1000<=w):1000+((ix w:Nat):Int)=w:=by unfold ix;omega
def Qn{v:Int}(a:1000<=v)(b:1000<=w)(h:ix v=ix w):v=w:=by rw[<-iN a,<-iN b,h]
def fR.field(i:fR h e)(g:c∈h)(f:w∈c.aN)(j:1000<=w):ib h w:=by
 have d:=i.cell c g;rcases gX (0<c.aV)with b|b
 .rcases(d.pF b).1 w f with a|a
  .have:=a.2;omega
  .exact a
 .have:=(d.vT V).2.1 w f;omega
def fR.WU(d:fR h e)(g:¬js h f):dS h f=0:=by
 rcases gX (0<dS h f)with a|a
 .let⟨c,b,i⟩:=KC a;have:=(d.field b i V).2;rw[kP]at this;exact absurd this g
 .have:=qu h f;omega
def fR.Yt(a:fR h e)(c:¬js h f):e f=0:=by
 have:=a.nn f;rcases gX (0<e f)with b|b
 .exact absurd (a.lv f b) c
 .omega
def gV(a:b≠f):(h.set f c)[b]? =h[b]? :=by rw[dT (λe=>a e.symm)]
def eV(hd:h[f]? =some d):(h.set f c)[f]? =some c:=by
 rw[dQ (az hd)]
def js.ne(a:b≠f):js (h.set f c) b<->js h b:=by unfold js;rw[gV a]
def js.EW(hd:h[f]? =some d):js (h.set f c) f<->0<c.aV:=by
 unfold js;rw[eV hd];simp
def pQ.mono(c:pQ h w)(b:1000<=w->js h (ix w)->js g (ix w)):pQ g w:=by
 rcases c with a|a
 .exact Or.inl a
 .exact Or.inr ⟨a.1,b a.1 a.2⟩
def nD.mono{h g:List bU}{c:bU}(a:nD h c)(e:0<c.aV->∀w∈c.aN,1000<=w->js h (ix w)->js g (ix w)):nD g c:=
 ⟨a.fl,a.lo,a.hi,a.vT,λb=>⟨λw d=>((a.pF b).1 w d).mono (e b w d),(a.pF b).2⟩⟩
def qj{x:bU}(i:x∈h.set f c):x=c\/∃b,b≠f/\h[b]? =some x:=by
 let⟨b,a⟩:=List.mem_iff_getElem?.1 i;by_cases e:b=f
 .subst e;rw[List.getElem?_set_self']at a;cases g:h[b]? with
  |none=>simp[g]at a
  |some d=>simp[g]at a;exact Or.inl a.symm
 .rw[gV e]at a;exact Or.inr ⟨b,e,a⟩
def fR.JE(j:fR h e)(g:h[f]? =some c)(i:0<c.aV){n:Int}(v:0<n)(u:n<=999999)
 (m:∀b,e' b=e b+if b=f then n -c.aV else 0)(s:0<=e' f):fR (h.set f {c with aV:=n}) e':=by
 have p:∀b,js (h.set f {c with aV:=n}) b<->js h b:=λb=>by
  by_cases a:b=f
  .subst a;rw[js.EW g];exact⟨λ_=>⟨c,g,i⟩,λ_=>v⟩
  .exact js.ne a
 have x:∀b,dS (h.set f {c with aV:=n}) b=dS h b:=λb=>by rw[y9 _ g];simp only[];omega
 refine⟨λA y=>?_,?_,λb d hd t=>?_,λb=>?_,λb l=>?_⟩
 .rcases qj y with rfl|⟨b,_,l⟩
  .have q:=j.cell c (av g)
   exact⟨q.fl,by simp only[];omega,u,λr=>by simp only[]at r;omega,λ_=>⟨λw k=>((q.pF i).1 w k).mono λ_ o=>(p _).2 o,(q.pF i).2⟩⟩
  .exact(j.cell A (av l)).mono λ_ w _ _ o=>(p _).2 o
 .let⟨z,r⟩:=j.LD
  refine⟨z,λo d hd w k i=>?_⟩
  by_cases q:o=f
  .subst q;rw[eV g]at hd;simp at hd;subst hd;exact r o c g w k i
  .rw[gV q]at hd;exact r o d hd w k i
 .rw[x,m]
  by_cases a:b=f
  .subst a;rw[eV g]at hd;simp at hd;subst hd
   have:=j.ex b c g i
   simp only[ao];omega
  .rw[gV a]at hd
   have:=j.ex b d hd t
   rw[ae a];omega
 .by_cases a:b=f
  .subst a;exact s
  .rw[m,ae a];have:=j.nn b;omega
 .rw[p]
  by_cases a:b=f
  .subst a;exact⟨c,g,i⟩
  .rw[m,ae a]at l;exact j.lv b V
def fR.Ql(j:fR h e)(m:h[f]? =some c)(I:c.aV=1)(J:0<e f){c':bU}(C: -1<=c'.aV)(L:c'.aV<1)(G:c'.mJ=0)
 (r:∀w∈c'.aN,w=0)(B:c'.aN.length<=3)(A:c'.aV=0->c'.aN=[])
 (p:∀b,e' b=e b -(if b=f then 1 else 0)+eK c.aN b):fR (h.set f c') e':=by
 have o:=j.ex f c m V
 have O:=qu h f
 have N:dS h f=0:=V
 have K:e f=1:=V
 have u:∀x∈h,(1000+(f:Int))∉x.aN:=λx o g=>by
  have:=Rk o f;have:=tV g;omega
 have M:eK c.aN f=0:=ng (u c (av m))
 have E:∀b,eK c'.aN b=0:=λb=>ng λg=>by have:=r _ g;omega
 have t:∀b,b≠f->js h b->js (h.set f c') b:=λb i q=>(js.ne i).2 q
 have D:∀x∈h,∀w∈x.aN,1000<=w->ix w≠f:=λx o w g n y=>by
  have:=iN n;rw[y]at this;rw[<-this]at g;exact u x o g
 refine⟨λx o=>?_,?_,λb d hd z=>?_,λb=>?_,λb k=>?_⟩
 .rcases qj o with rfl|⟨b,_,k⟩
  .exact⟨B,C,V,λ_=>⟨G,r,A⟩,λn=>V⟩
  .exact(j.cell x (av k)).mono λ_ w g n q=>t _ (D x (av k) w g n) q
 .let⟨H,F⟩:=j.LD
  refine⟨H,λv d hd w g n=>?_⟩
  by_cases s:v=f
  .subst s;rw[eV m]at hd;simp at hd;subst hd;have:=r w g;omega
  .rw[gV s]at hd;exact F v d hd w g n
 .rw[y9 _ m,E,p]
  by_cases i:b=f
  .subst i;rw[eV m]at hd;simp at hd;subst hd;omega
  .rw[gV i]at hd
   have:=j.ex b d hd z
   rw[ae i];omega
 .rw[p]
  have:=j.nn b
  have:=iz c.aN b
  split
  .rename_i i;subst i;omega
  .omega
 .rw[p]at k
  by_cases i:b=f
  .subst i;rw[ao rfl]at k;omega
  .rw[ae i]at k
   refine t b i ?_
   rcases gX (0<e b)with s|s
   .exact j.lv b s
   .have:=j.nn b
    have g:=NU (l:=c.aN) (f:=b) V
    have:=(j.field (av m) g V).2
    rwa[kP]at this
def fR.make(l:fR h e){v:Int}{c:List Int}(r:¬js h f)(p:g[f]? =some ⟨1,v,c⟩)(o:∀b,b≠f->g[b]? =h[b]?)
 (E:∀b,dS g b=dS h b+eK c b)(z:∀w∈c,pQ h w)(C:c.length<=3)(G:0<=v/\v<=99)(x:∀b,eK c b<=e b)
 (t:∀b,e' b=e b -eK c b+if b=f then 1 else 0):fR g e':=by
 have u:∀b,js h b->js g b:=λb i=>by
  by_cases a:b=f
  .subst a;exact absurd i r
  .unfold js;rw[o b a];exact i
 have L:=l.Yt r
 have N:=l.WU r
 have M:eK c f=0:=by have:=iz c f;have:=x f;omega
 refine⟨λK I=>?_,?_,λb d hd B=>?_,λb=>?_,λb j=>?_⟩
 .let⟨b,j⟩:=List.mem_iff_getElem?.1 I
  by_cases a:b=f
  .subst a;rw[p]at j;simp at j;subst j
   exact⟨C,aJ,aJ,sx,λ_=>⟨λw n=>(z w n).mono λ_ i=>u _ i,G⟩⟩
  .rw[o b a]at j
   exact(l.cell K (av j)).mono λ_ w _ _ i=>u _ i
 .let⟨s,F⟩:=l.LD
  refine⟨λk=>if k=f then(c.map λw=>s (ix w)).sum+1 else s k,λk d hd w n y=>?_⟩
  have H:ix w≠f:=λA=>by
   have D:ib h w:=by
    by_cases m:k=f
    .subst m;rw[p]at hd;simp at hd;subst hd;rcases z w n with q|q
     .have:=q.2;omega
     .exact q
    .rw[o k m]at hd;exact l.field (av hd) n y
   exact r (A▸D.2)
  simp only[ae H]
  by_cases m:k=f
  .subst m;rw[p]at hd;simp at hd;subst hd
   rw[ao rfl]
   have:∀(q:List Int),w∈q->s (ix w)<=(q.map λw=>s (ix w)).sum:=by
    intro q i;induction q with
    |nil=>simp at i
    |cons O q J=>
     simp only[cA,List.sum_cons];rcases List.mem_cons.1 i with rfl|i
     .omega
     .have:=J i;omega
   have:=this c n;omega
  .rw[ae m];rw[o k m]at hd;exact F k d hd w n y
 .rw[E,t]
  by_cases a:b=f
  .subst a;rw[p]at hd;simp at hd;subst hd
   rw[ao rfl];simp only[];omega
  .rw[o b a]at hd
   have:=l.ex b d hd B
   rw[ae a];omega
 .rw[t];have:=x b;split<;>omega
 .rw[t]at j
  by_cases a:b=f
  .subst a;exact⟨_,p,aJ⟩
  .rw[ae a]at j
   exact u b (l.lv b (oh (iz c b)))
def fR.je:∀(n:Nat)(h:List bU)(o:List Int)(e:Nat->Int),IA h+o.length<=n->fR h (λb=>e b+eK o b)->(∀b,0<=e b)->fR (je h o) e
 |n,h,[],e,_,a,_=>by rw[AK];exact a.congr λb=>by simp[eK]
 |n,h,w::r,e,f,a,d=>by
  rcases gX (ib h w)with c|c
  .let⟨g,m⟩:=cz c;have s:=iN c.1;have l:∀b,eK (w::r) b=(if b=ix w then 1 else 0)+eK r b:=λb=>by
    simp only[eK];congr 1;by_cases k:b=ix w
    .subst k;rw[ao s.symm,ao rfl]
    .rw[ae k,ae (λi=>k (by rw[i,kP]))]
   have p:=mh (d:=jS) g;by_cases j:(bd h w).aV=1
   .rw[AL c j];simp only[ao m,jS]at p;simp at p;cases n with
    |zero=>simp at f
    |succ n=>
    refine fR.je n _ _ e ?_ (fR.Ql a g j ?_ bo bo rfl (by simp[jS]) (by simp[jS]) (λ_=>rfl) λb=>?_) d
    .simp[jS]at f⊢;omega
    .simp only[l,ao];have:=d (ix w);have:=iz r (ix w);omega
    .simp only[l,nO,yX];omega
   .rw[vU c j];have q:=mh (d:={bd h w with aV:=(bd h w).aV -1}) g;simp only[ao m]at q;rw[ao V]at q;have t:=(a.cell _ (av g)).hi;cases n with
    |zero=>simp at f
    |succ n=>
    refine fR.je n _ _ e ?_ (fR.JE a g m V V (λb=>?_) ?_) d
    .simp only[aY]at f;simp only[gE];omega
    .simp only[l];split<;>omega
    .have:=d (ix w);have:=iz r (ix w);omega
  .rw[vV c];cases n with
   |zero=>simp at f
   |succ n=>
   refine fR.je n _ _ e (by simp at f;omega) (a.congr λb=>?_) d;simp only[eK];rw[ae]
   .omega
   .intro i;have:=a.lv b (by simp only[eK,ao i];have:=d b;have:=iz r b;omega);exact c ⟨V,by rw[i,kP];exact this⟩
def td(h:List bU):∀n,kG h n<=n
 |0=>ad _
 |n+1=>by
  simp only[kG];have:=td h n;split
  .split<;>omega
  .omega
def tc(h:List bU):∀(n k:Nat)(c:bU),kG h n<=k->k<n->h[k]? =some c->c.aV=0
 |0,k,c,_,d,_=>V
 |n+1,k,c,a,e,b=>by
  simp only[kG]at a;by_cases d:k=n
  .subst d;rw[b]at a;simp only[]at a;split at a
   .assumption
   .omega
  .split at a
   .split at a
    .exact tc h n k c a V b
    .omega
   .exact tc h n k c a V b
def Ln(h:List bU):∀(n:Nat)(c:bU),n<=h.length->h[kG h n -1]? =some c->0<kG h n->c.aV≠0
 |0,c,_,_,b=>by simp[kG]at b
 |n+1,c,f,a,b=>by
  simp only[kG]at a b;let⟨d,hd⟩:=cq h n;rw[hd]at a b;simp only[]at a b;split at a
  .rename_i e;rw[ao e]at b;exact Ln h n c V a b
  .rename_i e;simp at a;rw[hd]at a;simp at a;subst a;exact e
def ns(h:List bU):Prop:=∀c,h[h.length -1]? =some c->c.aV≠0
def FZ(h:List bU):ns (rh h):=by
 intro c a;have d:=td h h.length;unfold rh at a;rw[eJ,jv d]at a;rcases iS (kG h h.length)with b|b
 .rw[b]at a;simp at a
 .rw[dz V]at a;exact Ln h _ c (ad _) a b
def MY:∀{h:List bU},(∀c∈h,c.aN=[])->∀f,dS h f=0
 |[],_,f=>rfl
 |c::h,a,f=>by simp only[dS,a c aZ,eK,MY (λd hd=>a d (ah _ hd)) f];rfl
def fR.rh{h:List bU}{e:Nat->Int}(d:fR h e):fR (rh h) e:=by
 have u:=td h h.length;have q:∀(b:Nat)(c:bU),h[b]? =some c->c.aV≠0->b<kG h h.length:=λb c a i=>
  eU λv=>i (tc h h.length b c V (az a) a)
 have k:∀(b:Nat)(c:bU),(Go.Proofs.YtdalfjkmdekijaaGreat.rh h)[b]? =some c->h[b]? =some c:=λb c a=>by
  unfold Go.Proofs.YtdalfjkmdekijaaGreat.rh at a;have:=az a;rw[eJ]at this;rwa[dz V]at a
 have l:∀b,js h b->js (Go.Proofs.YtdalfjkmdekijaaGreat.rh h) b:=λb⟨c,a,j⟩=>⟨c,by
  unfold Go.Proofs.YtdalfjkmdekijaaGreat.rh;rw[dz (q b c a V)];exact a,j⟩
 have s:∀b,dS (Go.Proofs.YtdalfjkmdekijaaGreat.rh h) b=dS h b:=λb=>by
  have m:h=Go.Proofs.YtdalfjkmdekijaaGreat.rh h++h.drop (kG h h.length):=(dx _ _).symm;have n:dS (h.drop (kG h h.length)) b=0:=MY (λc a=>by
   let⟨o,g⟩:=List.mem_iff_getElem?.1 a;rw[rj]at g;have i:=tc h h.length _ c V (az g) g;exact((d.cell c (av g)).vT V).2.2 i) b
  have o:=tm (λg=>dS g b) m;simp only[tX,n]at o;omega
 refine⟨λc a=>?_,?_,λf c a j=>?_,d.nn,λf p=>l f (d.lv f p)⟩
 .let⟨b,g⟩:=List.mem_iff_getElem?.1 a;exact(d.cell c (av (k b c g))).mono λ_ w _ _ r=>l _ r
 .let⟨t,r⟩:=d.LD;exact⟨t,λg c a=>r g c (k g c a)⟩
 .rw[s];exact d.ex f c (k f c a) j
end
section
variable{l:List Int}{i x r:Int}{b:cr}{f:be}{s:St}
variable{B:Int}
def pI(b:0<=i)(c:i<l.length):l[i.toNat]? =some (aQ l i):=by
 let⟨x,a⟩:=cq l i.toNat;simp[aQ,a]
def NA(h:l[i.toNat]? =some x):aQ l i=x:=by simp[aQ,h]
def iK(a:0<=i)(b:i<l.length):aQ l i∈l:=iV (pI a b)
def j8(l:List Int)(i v:Int):(iD l i v).length=l.length:=by simp[iD]
def sE{v:Int}(h:x∈iD l i v):x=v\/x∈l:=by
 rcases cO h with h|h
 .exact Or.inr h
 .exact Or.inl h
def EZ(l:List Int)(i v:Int)(k:Nat):(iD l i v)[k]? =if k=i.toNat/\k<l.length then some v else l[k]? :=by
 unfold iD;by_cases h:k=i.toNat
 .subst h;by_cases a:i.toNat<l.length
  .rw[dQ a,ao ⟨rfl,a⟩]
  .rw[ae V,Ee V]
 .rw[ae V,dT (λe=>h e.symm)]
def GQ:∀(ax bg:List Int)(k:Nat)(w o e d:Int)(a:Nat),ax[k]? =some e->bg[k]? =some d->
 cV (ax.set k w) (bg.set k o) a=cV ax bg a -(if e=1000+(a:Int)then d else 0)+(if w=1000+(a:Int)then o else 0)
 |[],bg,k,w,o,e,d,a,b,c=>by simp at b
 |r::f,[],k,w,o,e,d,a,b,c=>by simp at c
 |r::f,q::g,0,w,o,e,d,a,b,c=>by
  simp at b c;subst b;subst c;simp only[iR,cV];omega
 |r::f,q::g,k+1,w,o,e,d,a,b,c=>by
  have:=GQ f g k w o e d a (by simpa using b) (by simpa using c);simp only[iQ,cV,this];omega
def T0{k:Nat}(h:l[k]? =some x):l.set k x=l:=by
 apply eM;intro i;by_cases a:k=i
 .subst a;rw[dQ (az h),h]
 .rw[dT a]
def GO{ax bg:List Int}(c:0<=r)(d:r<ax.length)(e:r<bg.length)(o:Int)(a:Nat):
 cV ax (iD bg r o) a=cV ax bg a+(if aQ ax r=1000+(a:Int)then o -aQ bg r else 0):=by
 have b:=pI c d
 have:=GQ ax bg r.toNat (aQ ax r) o _ _ a b (pI c e)
 rw[T0 b]at this
 rw[iD,this];split<;>omega
def MS{ax bg:List Int}(b:0<=r)(c:r<ax.length)(d:r<bg.length)(e:aQ bg r=0)(w o:Int)(a:Nat):
 cV (iD ax r w) (iD bg r o) a=cV ax bg a+(if w=1000+(a:Int)then o else 0):=by
 have:=GQ ax bg r.toNat w o _ _ a (pI b c) (pI b d)
 rw[iD,iD,this,e];split<;>omega
def sG:∀{ax bg:List Int},(∀o∈bg,0<=o)->∀a,0<=cV ax bg a
 |[],bg,h,a=>by cases bg<;>simp[cV]
 |r::b,[],h,a=>by simp[cV]
 |r::b,o::d,h,a=>by
  have:=sG (ax:=b) (bg:=d) (λx c=>h x (ah _ c)) a;have:=h o aZ;simp only[cV];split<;>omega
def sI:∀{ax bg:List Int},UG bg->∀a,cV ax bg a=0
 |[],bg,h,a=>by cases bg<;>simp[cV]
 |r::b,[],h,a=>by simp[cV]
 |r::b,o::d,h,a=>by
  have:=sI (ax:=b) (bg:=d) (λx c=>h x (ah _ c)) a;have:=h o aZ;simp only[cV,this];split<;>omega
def EQ:∀{c o1:List Int}(b o2:List Int),c.length=o1.length->∀a,cV (c++b) (o1++o2) a=cV c o1 a+cV b o2 a
 |[],[],b,o2,_,a=>by simp[cV]
 |[],_::_,_,_,h,_=>by simp at h
 |_::_,[],_,_,h,_=>by simp at h
 |r::e,o::d,b,o2,h,a=>by
  have:=EQ (c:=e) (o1:=d) b o2 (by simpa using h) a;simp only[db,cV,this];omega
def Kw:∀{ax bg:List Int}{e:Nat}{w o:Int}(_:∀o∈bg,0<=o)(_:ax[e]? =some w)(_:bg[e]? =some o){c:Nat}(_:w=1000+(c:Int)),o<=cV ax bg c
 |[],_,_,_,_,_,a,_,_,_=>by simp at a
 |_::_,[],_,_,_,_,_,b,_,_=>by simp at b
 |r::i,q::h,0,w,o,d,a,b,c,f=>by
  simp at a b;subst a;subst b;have:=sG (ax:=i) (bg:=h) (λx g=>d x (ah _ g)) c;simp only[cV,ao f];omega
 |r::i,q::h,e+1,w,o,d,a,b,c,f=>by
  have:=Kw (ax:=i) (bg:=h) (e:=e) (λx g=>d x (ah _ g)) (by simpa using a) (by simpa using b) f;have:=d q aZ;simp only[cV];split<;>omega
def fF:∀(l r:List be)(a:Nat),fj (l++r) a=fj l a+fj r a
 |[],r,a=>by simp[fj]
 |f::l,r,a=>by simp only[db,fj,fF l r a];omega
def jY(f:be)(a:Nat):fj [f] a=cV f.ax f.bg a:=by simp[fj]
def ez:∀(l r:List be)(a:Nat),holds (l++r) a=holds l a+holds r a
 |[],r,a=>by simp[holds]
 |f::l,r,a=>by simp only[db,holds,ez l r a];omega
def iC(f:be)(a:Nat):holds [f] a=eK f.bB a:=by simp[holds]
def uV:∀(l:List be)(a:Nat),0<=holds l a
 |[],a=>by simp[holds]
 |f::l,a=>by have:=uV l a;have:=iz f.bB a;simp only[holds];omega
def qM(ax:List Int):∀(a bg:List Int),(dL ax bg a).length=bg.length
 |[],bg=>rfl
 |r::a,bg=>by simp only[dL];rw[qM ax a];split<;>simp[j8]
def wU{ax:List Int}:∀(b bg:List Int),(∀r∈b,0<=r/\r<ax.length)->ax.length=bg.length->∀a,cV ax (dL ax bg b) a=cV ax bg a -eK (b.map (aQ ax)) a
 |[],bg,_,_,a=>by simp[dL,eK]
 |r::b,bg,h,c,a=>by
  have e:=h r aZ;have f:=λbg c=>wU (ax:=ax) b bg (λx d=>h x (ah _ d)) c a;simp only[dL,cA,eK];by_cases d:1000<=aQ ax r
  .rw[ao d,f _ (by rw[j8];exact c),GO e.1 e.2 V];split<;>omega
  .rw[ae d,f _ c,ae V];omega
def sZ{ax:List Int}:∀(b bg:List Int)(k:Nat)(o:Int),(dL ax bg b)[k]? =some o->∃q,bg[k]? =some q/\o<=q
 |[],bg,k,o,h=>⟨o,h,dh _⟩
 |r::b,bg,k,o,h=>by
  simp only[dL]at h;let⟨q,a,d⟩:=sZ b _ k o h;split at a
  .rw[EZ]at a;split at a
   .rename_i c;let⟨y,e⟩:=dJ c.2;have f:aQ bg r=y:=by rw[aQ,jm,<-c.1,e];rfl
    simp at a;exact⟨y,e,V⟩
   .exact⟨q,a,d⟩
  .exact⟨q,a,d⟩
def tP:∀(a bg:List Int),(fu bg a).length=bg.length
 |[],bg=>rfl
 |r::a,bg=>by simp only[fu];rw[tP a,j8]
def En{ax:List Int}:∀(b bg:List Int),(∀r∈b,0<=r/\r<ax.length)->ax.length=bg.length->∀a,cV ax (fu bg b) a=cV ax bg a+eK (b.map (aQ ax)) a
 |[],bg,_,_,a=>by simp[fu,eK]
 |r::b,bg,h,d,a=>by
  have c:=h r aZ;simp only[fu,cA,eK];rw[En (ax:=ax) b _ (λx e=>h x (ah _ e)) (by rw[j8];exact d) a,GO c.1 c.2 V];split<;>omega
def JR{ax:List Int}:∀(c bg:List Int),(∀r∈c,0<=r/\r<bg.length/\1000<=aQ ax r)->
 (∀(k:Nat)(o w:Int),bg[k]? =some o->ax[k]? =some w->0<=o/\(0<o->1000<=w))->∀(k:Nat)(o w:Int),(fu bg c)[k]? =some o->ax[k]? =some w->0<=o/\(0<o->1000<=w)
 |[],bg,_,h,k,o,w,a,b=>h k o w a b
 |r::c,bg,f,h,k,o,w,a,b=>by
  refine JR (ax:=ax) c (iD bg r (aQ bg r+1)) (λx d=>by rw[j8];exact f x (ah _ d)) (λk o w a b=>?_) k o w a b;rw[EZ]at a;split at a
  .rename_i e;have d:=f r aZ;have g:aQ ax r=w:=by rw[aQ,jm,<-e.1,b];rfl
   have i:=h k (aQ bg r) w (by rw[e.1];exact pI d.1 d.2.1) b;simp at a;exact⟨V,λ_=>V⟩
  .exact h k o w a b
def fB(h:List bU)(a:Nat):Prop:=∃c,h[a]? =some c/\c.aV<0
structure gF(b:cr)(f:be):Prop where
 dW:0<=f.dW/\f.dW<b.cy.length
 pc:0<=f.pc/\f.pc<(dm b f.dW).bt.length
 lr:(f.ax.length:Int)=(dm b f.dW).ax
 lo:(f.bg.length:Int)=(dm b f.dW).ax
 lh:(f.bB.length:Int)=(dm b f.dW).ax
 RW:∀w∈f.ax,gZ w\/1000<=w
 bg:∀(k:Nat)(o w:Int),f.bg[k]? =some o->f.ax[k]? =some w->0<=o/\(0<o->1000<=w)
 bB:∀w∈f.bB,w=0\/1000<=w
structure fG(B:Int)(b:cr)(s:St):Prop where
 eT:qQ B b
 cY:0<=s.cY/\s.cY<=3
 done:s.cY=0<->s.ak=[]
 value:gZ s.value
 tf:s.value≠0->s.cY=0
 eH:0<=s.eH/\s.eH<=40
 bO:0<=s.bO/\s.bO<=s.eH
 depth:(s.ak.length:Int)<=s.bO+1
 bC:∀n∈s.bC,gZ n
 heap:fR s.heap (fj s.ak)
 jc:ns s.heap
 ak:∀f∈s.ak,gF b f
 first:∀f,s.ak[0]? =some f->f.dst=0
 chain:∀(k:Nat)(f g:be),s.ak[k]? =some f->s.ak[k+1]? =some g->0<=g.dst/\g.dst<f.bg.length/\aQ f.bg g.dst=0
 kH:∀a,fB s.heap a->holds s.ak a=1
 mD:∀a,¬fB s.heap a->holds s.ak a=0
abbrev iT:=fG 2000
def gF.Pf(h:gF b f):∀o∈f.bg,0<=o:=λo c=>by
 let⟨k,a⟩:=List.mem_iff_getElem?.1 c;have e:=az a;have:=h.lo;have:=h.lr;let⟨w,d⟩:=cq f.ax k;exact(h.bg k o w a d).1
def JD{b:cr}:∀{c:List be},(∀f∈c,gF b f)->∀a,0<=fj c a
 |[],_,a=>by simp[fj]
 |f::c,h,a=>by
  have:=JD (λg d=>h g (ah _ d)) a;have:=sG (ax:=f.ax) (h f aZ).Pf a;simp only[fj];omega
def fG.split(h:fG B b s)(c:s.cY=3):∃a f,s.ak=a++[f]:=by
 have:s.ak≠[]:=λe=>by have:=h.done.2 e;omega
 exact⟨s.ak.dropLast,s.ak.getLast this,(iE this).symm⟩
def gF.Kk(j:qQ B b)(h:gF b f):∃p,b.cy[f.dW.toNat]? =some p/\dm b f.dW=p/\QN B b p/\p.bt[f.pc.toNat]? =some (fJ b f)/\iu b p f.pc.toNat (fJ b f):=by
 let⟨p,c⟩:=cq b.cy f.dW.toNat (oh h.dW);have e:dm b f.dW=p:=by simp[dm,c]
 have g:=j.df p (av c);have k:=h.pc;rw[e]at k;let⟨i,a⟩:=cq p.bt f.pc.toNat;have d:fJ b f=i:=by simp[fJ,e,a]
 exact⟨p,c,e,g,d▸a,d▸g.df _ _ a⟩
def fG.iP(h:fG B b s)(A:s.cY=3){d:List be}{g:be}(j:s.ak=d++[f]){c:List bU}{bC:List Int}(o:gF b g)(hd:g.dst=f.dst)
 (r:fR c (fj (d++[g])))(w:ns c)(t:∀a,fB c a->holds (d++[g]) a=1)(x:∀a,¬fB c a->holds (d++[g]) a=0)(v:∀n∈bC,gZ n){bO:Int}(n:s.bO<=bO/\bO<=s.eH):
 fG B b {s with heap:=c,bC:=bC,bO:=bO,ak:=d++[g]}:=by
 have z:=h.bO
 have m:=h.depth
 rw[j]at m
 refine⟨h.eT,h.cY,⟨λi=>by simp at i;omega,sx⟩,h.value,h.tf,h.eH,⟨by simp only[];omega,n.2⟩,by simp at m⊢;omega,v,r,w,λq a=>?_,λq a=>?_,λl p q c a=>?_,t,x⟩
 .rcases List.mem_append.1 a with a|a
  .exact h.ak q (by rw[j];exact bz _ a)
  .simp at a;subst a;exact o
 .have e:=h.first
  rw[j]at e
  cases d with
  |nil=>simp at a;subst a;rw[hd];exact e f aJ
  |cons y k=>simp at a;subst a;exact e y aJ
 .have k:=h.chain l
  rw[j]at k
  simp only[]at c a
  have u:=az a
  simp at u
  rw[ay V]at c
  rcases aX (l+1) d.length with e|e
  .rw[ay e]at a
   exact k p q (by rw[ay V];exact c) (by rw[ay e];exact a)
  .rw[aI e]at a
   have i:l+1 -d.length=0:=V
   rw[i]at a;simp at a;subst a
   rw[hd]
   exact k p f (by rw[ay V];exact c) (by rw[aI e,i];rfl)
end
section
variable{h:List bU}{a:Nat}{c d:bU}{w:Int}{e e':Nat->Int}
def fB.ne{b:Nat}(d:b≠a):fB (h.set a c) b<->fB h b:=by unfold fB;rw[gV d]
def fB.EW(hd:h[a]? =some d):fB (h.set a c) a<->c.aV<0:=by unfold fB;rw[eV hd];simp
def fB.set(hd:h[a]? =some d)(i:0<=d.aV)(j:0<=c.aV)(b:Nat):fB (h.set a c) b<->fB h b:=by
 by_cases g:b=a
 .subst g;rw[fB.EW hd];refine⟨λk=>V,λ⟨e,f,l⟩=>?_⟩;rw[hd]at f;simp at f;subst f;omega
 .exact fB.ne g
def fB.Uf(e:fB h a):¬js h a:=λ⟨c,b,g⟩=>by
 let⟨d,hd,f⟩:=e;rw[b]at hd;simp at hd;subst hd;omega
def fB.gE(c:ib h w)(b:Nat):fB (gE h w) b<->fB h b:=by
 let⟨a,d⟩:=cz c;exact fB.set a V (by simp only[];omega) b
def fB.oL(c:ib h w)(b:Nat):fB (oL h w) b<->fB h b:=by
 let⟨a,d⟩:=cz c;exact fB.set a V (by simp only[];omega) b
def fB.Ql(c:ib h w)(b:Nat):fB (h.set (ix w) jS) b<->fB h b:=by
 let⟨a,d⟩:=cz c;exact fB.set a V (by simp[jS]) b
def fB.je:∀(n:Nat)(h:List bU)(i:List Int),IA h+i.length<=n->∀b,fB (je h i) b<->fB h b
 |n,h,[],_,b=>by rw[AK]
 |0,h,w::r,c,b=>by simp at c
 |n+1,h,w::r,c,b=>by
  simp only[aY]at c;rcases gX (ib h w)with a|a
  .let⟨f,g⟩:=cz a;by_cases d:(bd h w).aV=1
   .have e:=mh (d:=jS) f;simp only[ao g,jS]at e;simp at e;rw[AL a d,fB.je n _ _ (by simp[jS];omega) b,fB.Ql a]
   .have e:=mh (d:={bd h w with aV:=(bd h w).aV -1}) f;simp only[ao g]at e;rw[ao V]at e;rw[vU a d,fB.je n _ _ (by simp only[Go.Proofs.YtdalfjkmdekijaaGreat.gE];omega) b,fB.gE a]
  .rw[vV a,fB.je n _ _ V b]
def fB.rh{h:List bU}(b:Nat):fB (rh h) b<->fB h b:=by
 have f:=td h h.length;unfold fB Go.Proofs.YtdalfjkmdekijaaGreat.rh;constructor
 .rintro⟨c,a,d⟩;have:=az a;rw[eJ]at this;rw[dz V]at a;exact⟨c,a,d⟩
 .rintro⟨c,a,d⟩;refine⟨c,?_,d⟩;rw[dz]
  .exact a
  .exact eU λe=>by have:=tc h h.length b c V (az a) a;omega
def fR.oL(c:fR h e)(f:ib h w)(i:(bd h w).aV<999999)(a:∀b,e' b=e b+if b=ix w then 1 else 0):fR (oL h w) e':=by
 let⟨d,g⟩:=cz f;refine c.JE d g V V (λb=>?_) ?_
 .rw[a];split<;>omega
 .rw[a];have:=c.nn (ix w);split<;>omega
def OR(a:ib h w){v:Int}(d:1000<=v):(bd (oL h w) v).aV=(bd h v).aV+(if v=w then 1 else 0):=by
 let⟨c,f⟩:=cz a;unfold oL;by_cases e:v=w
 .subst e;rw[ao rfl];conv=>lhs;unfold bd
  rw[eV c];rfl
 .rw[ae e];conv=>lhs;unfold bd
  rw[gV (λb=>e (Qn d a.1 b))];simp[bd]
def js.oL{h:List bU}{w:Int}(a:ib h w)(b:Nat):js (oL h w) b<->js h b:=by
 let⟨c,d⟩:=cz a;by_cases e:b=ix w
 .subst e;unfold Go.Proofs.YtdalfjkmdekijaaGreat.oL;rw[js.EW c];exact⟨λ_=>a.2,λ_=>by simp only[];omega⟩
 .exact js.ne e
def iy(d:1000<=w)(r:List Int)(b:Nat):eK (w::r) b=(if b=ix w then 1 else 0)+eK r b:=by
 simp only[eK];congr 1;have e:=iN d;by_cases a:b=ix w
 .subst a;rw[ao e.symm,ao rfl]
 .rw[ae a,ae (λc=>a (by rw[c,kP]))]
def fR.kT:∀(a:List Int)(h:List bU)(e e':Nat->Int),fR h e->(∀w∈a,ib h w/\(bd h w).aV+eK a (ix w)<=999999)->(∀b,e' b=e b+eK a b)->fR (kT h a) e'/\(∀b,fB (kT h a) b<->fB h b)/\(kT h a).length=h.length
 |[],h,e,e',i,_,g=>⟨i.congr λb=>by rw[g];simp[eK],λ_=>CJ,rfl⟩
 |w::a,h,e,e',i,k,g=>by
  let⟨c,p⟩:=k w aZ;rw[iy c.1,ao rfl]at p;have:=iz a (ix w);let⟨m,n,o⟩:=fR.kT a (Go.Proofs.YtdalfjkmdekijaaGreat.oL h w) (λb=>e b+if b=ix w then 1 else 0) e' (i.oL c V λb=>rfl) (λv q=>by
   let⟨d,j⟩:=k v (ah _ q);refine⟨⟨d.1,(js.oL c _).2 d.2⟩,?_⟩;rw[OR c d.1];rw[iy c.1]at j;split
   .rename_i f;subst f;rw[ao rfl]at j;omega
   .rename_i f;rw[ae (λl=>f (Qn d.1 c.1 l))]at j;omega) (λb=>by rw[g,iy c.1];omega)
  refine⟨m,λb=>by rw[Go.Proofs.YtdalfjkmdekijaaGreat.kT,n,fB.oL c],by rw[Go.Proofs.YtdalfjkmdekijaaGreat.kT,o];simp[Go.Proofs.YtdalfjkmdekijaaGreat.oL]⟩
def nh{l:List Int}:w∈qV l<->w∈l/\1000<=w:=by simp[qV]
def fR.apart{h:List bU}{e e':Nat->Int}(j:fR h e){w:Int}(o:ib h w)(H:0<e (ix w))(t:(bd h w).aV=1\/nU h (bd h w).aN)
 (A:∀b,e' b=e b -(if b=ix w then 1 else 0)+eK (bd h w).aN b)(K:ns h):fR (apart h w) e'/\(∀b,fB (apart h w) b<->fB h b)/\ns (apart h w):=by
 let⟨g,J⟩:=cz o
 unfold Go.Proofs.YtdalfjkmdekijaaGreat.apart
 by_cases r:(bd h w).aV=1
 .rw[ao r]
  exact⟨(j.Ql g r H (c':=jS) bo bo rfl (by simp[jS]) (by simp[jS]) (λ_=>rfl) A).rh,λb=>by rw[fB.rh,fB.Ql o],FZ _⟩
 .rw[ae r]
  have t:nU h (bd h w).aN:=by rcases t with m|m;exact absurd m r;exact m
  have Q:=(j.cell _ (av g)).hi
  have I:fR (Go.Proofs.YtdalfjkmdekijaaGreat.gE h w) (λb=>e b -if b=ix w then 1 else 0):=j.JE g J V V (λb=>by split<;>omega) bS
  have u:∀b,js h b->js (Go.Proofs.YtdalfjkmdekijaaGreat.gE h w) b:=λb f=>by
   by_cases k:b=ix w
   .subst k;unfold Go.Proofs.YtdalfjkmdekijaaGreat.gE;rw[js.EW g];simp only[];omega
   .exact(js.ne k).2 f
  let⟨m,y,z⟩:=fR.kT (qV (bd h w).aN) _ _ e' I (λv x=>by
   let⟨s,p⟩:=nh.1 x;have a:=j.field (av g) s p;refine⟨⟨a.1,u _ a.2⟩,?_⟩;have:=t v s p;rw[vf];have O:(bd (Go.Proofs.YtdalfjkmdekijaaGreat.gE h w) v).aV<=(bd h v).aV:=by
    by_cases k:ix v=ix w
    .have i:=Qn p o.1 k;subst i;unfold Go.Proofs.YtdalfjkmdekijaaGreat.gE;conv=>lhs;unfold bd
     rw[eV g];show(bd h v).aV -1<=(bd h v).aV;omega
    .unfold Go.Proofs.YtdalfjkmdekijaaGreat.gE;conv=>lhs;unfold bd
     rw[gV k];exact dh _
   omega) (λb=>by rw[A,vf])
  refine⟨m,λb=>by rw[y,fB.gE o],λc n=>?_⟩
  intro M
  rw[z]at n
  have B:(Go.Proofs.YtdalfjkmdekijaaGreat.gE h w).length=h.length:=by simp[Go.Proofs.YtdalfjkmdekijaaGreat.gE]
  rw[B]at n
  have f:=az n
  rw[z,B]at f
  let⟨d,hd⟩:=cq h (h.length -1)
  have N:=K d hd
  have G:=j.cell d (av hd)
  have P:=G.lo
  rcases gX (0<d.aV)with C|C
  .have F:∀(q:List Int)(l:List bU),(∀v∈q,ib l v)->∀b,js l b->js (Go.Proofs.YtdalfjkmdekijaaGreat.kT l q) b:=by
    intro q;induction q with
    |nil=>intro l _ b f;exact f
    |cons v q L=>
     intro l i b f;have a:=i v aZ;exact L _ (λE D=>⟨(i E (ah _ D)).1,(js.oL a _).2 (i E (ah _ D)).2⟩) b ((js.oL a _).2 f)
   let⟨D,i,E⟩:=F (qV (bd h w).aN) (Go.Proofs.YtdalfjkmdekijaaGreat.gE h w) (λv x=>by
    let⟨s,p⟩:=nh.1 x;have a:=j.field (av g) s p;exact⟨a.1,u _ a.2⟩) _ (u _ ⟨d,hd,C⟩)
   rw[n]at i;simp at i;subst i;omega
  .have l:fB h (h.length -1):=⟨d,hd,V⟩
   let⟨D,i,q⟩:=(y (h.length -1)).2 ((fB.gE o _).2 l)
   rw[n]at i;simp at i;subst i;omega
def uS:∀(h:List bU),fp h<=h.length
 |[]=>ad _
 |c::h=>by have:=uS h;simp only[fp,aY];split<;>omega
def CT:∀(h:List bU)(c:bU),h[fp h]? =some c->c.aV=0
 |[],c,a=>by simp[fp]at a
 |d::h,c,a=>by
  simp only[fp]at a;split at a
  .rename_i b;simp at a;subst a;exact b
  .exact CT h c (by simpa using a)
def fR.alloc(k:fR h e){t:Int}{f:List Int}(s:∀w∈f,pQ h w)(m:f.length<=3)(r:0<=t/\t<=99)(n:∀b,eK f b<=e b)
 (l:∀b,e' b=e b -eK f b+if b=fp h then 1 else 0)(u:ns h):
 fR (lX h (fp h) ⟨1,t,f⟩) e'/\(∀b,fB (lX h (fp h) ⟨1,t,f⟩) b<->fB h b)/\ns (lX h (fp h) ⟨1,t,f⟩):=by
 unfold lX
 have o:¬js h (fp h):=λ⟨c,a,v⟩=>by have:=CT h c a;omega
 by_cases i:fp h=h.length
 .rw[ao i]
  have q:(h++[⟨1,t,f⟩])[fp h]? =some ⟨1,t,f⟩:=by rw[i];simp
  have p:∀b,b≠fp h->(h++[⟨1,t,f⟩])[b]? =h[b]? :=λb g=>by
   rcases aX b h.length with j|j
   .rw[ay j]
   .rw[bV bS,bV j]
  refine⟨k.make o q p (λb=>by rw[tX];simp[dS]) s m r n l,λb=>?_,λc a=>?_⟩
  .by_cases g:b=fp h
   .rw[g];unfold fB;rw[q,i];simp
   .unfold fB;rw[p b g]
  .simp at a;subst a;simp
 .rw[ae i]
  have q:fp h<h.length:=by have:=uS h;omega
  let⟨d,hd⟩:=dJ q
  have j:=CT h d hd
  have p:=((k.cell d (av hd)).vT V).2.2 j
  refine⟨k.make o (eV hd) (λb g=>gV g) (λb=>by rw[y9 _ hd,p];simp[eK]) s m r n l,λb=>fB.set hd V aJ b,λc a=>?_⟩
  rw[iF]at a
  by_cases g:h.length -1=fp h
  .rw[g,eV hd]at a;simp at a;subst a;simp
  .rw[gV g]at a;exact u c a
end
section
variable{b:cr}{w:Int}{s:St}{f g:be}
variable{B:Int}
def Eb{b:cr}{x:Instr}:∀{l:List Int}{k:Nat}{r:Int},r∈jB b x k l->r∈l
 |[],k,r,h=>by simp[jB]at h
 |y::l,k,r,h=>by
  simp only[jB]at h;split at h
  .exact ah _ (Eb h)
  .rcases List.mem_cons.1 h with rfl|h
   .exact aZ
   .exact ah _ (Eb h)
def Nf{x:Instr}{r:Int}(h:r∈dG b x):r∈x.args:=by
 unfold dG at h;split at h
 .exact h
 split at h
 .exact dq h
 split at h
 .exact Eb h
 .simp at h
def yL{a:List bq}(h:dI a)(c:Int):(cg a c).length<=3:=by
 unfold cg;split
 .cases g:(eI a)[c.toNat]? with
  |none=>simp
  |some f=>
   have d:=av g;unfold eI at d;let⟨e,hd,b⟩:=List.mem_flatMap.1 d;let⟨k,i⟩:=List.mem_iff_getElem?.1 hd;have:=(h.df k e i).gR (List.length_pos_of_mem b);exact(this.2.2.2 f b).1
 .simp
def gF.put{b:cr}{g:be}(h:gF b g){r w o:Int}(i:0<=r)(f:gZ w\/1000<=w)(d:0<=o)(e:0<o->1000<=w):gF b (g.put r w o):=by
 refine⟨h.dW,h.pc,by simp only[be.put,j8];exact h.lr,by simp only[be.put,j8];exact h.lo,h.lh,λy a=>?_,λk q y c a=>?_,h.bB⟩
 .rcases sE a with rfl|a
  .exact f
  .exact h.RW y a
 .simp only[be.put]at c a;rw[EZ]at c a;have:=h.lr;have:=h.lo;split at c<;>split at a
  .simp at c a;subst c;subst a;exact⟨d,e⟩
  .omega
  .omega
  .exact h.bg k q y c a
def GW(w:Int):0<=jx w:=by unfold jx;split<;>omega
def Db(h:0<jx w):1000<=w:=by unfold jx at h;split at h<;>omega
def wi(w:Int)(b:Nat):(if w=1000+(b:Int)then jx w else 0)=eK [w] b:=by
 simp only[eK,jx];split
 .rw[ao V];rfl
 .rfl
def Gu(n:Int):gZ (JV n):=by unfold JV gZ;split<;>(try split)<;>omega
def Pj(c a b:Int):gZ (TY c a b):=by
 unfold TY;split
 .exact Gu _
 split
 .exact Gu _
 split
 .exact Gu _
 split<;>(unfold gZ;omega)
def mH(dg:List Int):∀(a:List Int)(k:Nat),(iA dg k a).length=a.length
 |[],k=>rfl
 |w::a,k=>by simp only[iA,aY,mH dg a]
def Il(dg:List Int):∀(b:List Int)(k j:Nat)(o w:Int),(iA dg k b)[j]? =some o->b[j]? =some w->0<=o/\(0<o->1000<=w)
 |[],k,j,o,w,_,h=>by simp at h
 |v::b,k,0,o,w,a,c=>by
  simp[iA]at a c;subst c;split at a
  .subst a;omega
  .subst a;exact⟨GW _,Db⟩
 |v::b,k,j+1,o,w,a,c=>Il dg b (k+1) j o w (by simpa[iA]using a) (by simpa using c)
def lR(n:Nat):(gB n).length=n:=by simp[gB]
def pR{n:Nat}(h:w∈gB n):w=0:=Vy h
def tU{g j:Int}{d:List Int}{p:da}(m:qQ B b)(l:0<=g)(h:b.cy[g.toNat]? =some p)(q:d.length=p.params.length)(n:∀w∈d,gZ w\/1000<=w):gF b (cN b g j d):=by
 have e:dm b g=p:=by simp[dm,h]
 have i:=m.df p (av h);have t:=i.ax;have r:=i.len;have s:=az h;refine⟨⟨l,by simp only[cN];omega⟩,⟨by simp[cN],by simp only[cN,e];omega⟩,?_,?_,?_,λw a=>?_,λk o w c a=>?_,λw a=>Or.inl (pR a)⟩
 .simp only[cN,e,aU,lR];omega
 .simp only[cN,e,aU,lR,mH];omega
 .simp only[cN,e,lR];omega
 .simp only[cN]at a;rcases List.mem_append.1 a with a|a
  .exact n w a
  .rw[pR a];exact Or.inl (by unfold gZ;omega)
 .simp only[cN]at c a;rcases aX k d.length with f|f
  .rw[ay (by rw[mH];exact f)]at c;rw[ay f]at a;exact Il _ d 0 k o w c a
  .rw[aI (by rw[mH];exact f)]at c;rw[pR (iV c)];omega
def ql(b:cr)(g d:Int)(a:List Int)(c:Nat):cV (cN b g d a).ax (cN b g d a).bg c=cV a (iA (dm b g).dg 0 a) c:=by
 simp only[cN];rw[EQ _ _ (mH _ _ _).symm,sI (λn e=>pR e)];omega
def oU(b:cr)(g c:Int)(d:List Int)(a:Nat):holds [cN b g c d] a=0:=by
 rw[iC];exact RQ _ _
def GU{b:cr}{d:Instr}(f:be):∀(e:List Int)(k:Nat)(a:Nat),cV (dC f e) (iA (dm b d.bM).dg k (dC f e)) a=eK ((jB b d k e).map (aQ f.ax)) a
 |[],k,a=>by simp[dC,cV,jB,eK]
 |r::h,k,a=>by
  have g:=GU (b:=b) (d:=d) f h (k+1) a;simp only[dC,cA,iA,cV,jB]at g⊢;rw[g];by_cases c:nM b d k=true
  .rw[ao c];unfold nM at c;rw[ao c];split<;>omega
  .rw[ae c];unfold nM at c;rw[ae c];simp only[cA,eK];have:=wi (aQ f.ax r) a;simp only[eK]at this;omega
def Im:∀(a:List Int)(k:Nat)(b:Nat),cV a (iA [] k a) b=eK a b
 |[],k,b=>by simp[cV,eK]
 |w::a,k,b=>by
  have:=Im a (k+1) b;have c:=wi w b;simp only[eK]at c;simp only[iA,cV,eK,this,PK,ft,mG];omega
def fG.pO{e:List bU}{c:List be}(i:fG B b s)(l:s.ak=c++[f])(m:g.bB=f.bB)(j:∀a,fB e a<->fB s.heap a):
 (∀a,fB e a->holds (c++[g]) a=1)/\(∀a,¬fB e a->holds (c++[g]) a=0):=by
 have h:∀a,holds (c++[g]) a=holds s.ak a:=λa=>by rw[l,ez,ez,iC,iC,m]
 exact⟨λa d=>by rw[h];exact i.kH a ((j a).1 d),λa d=>by rw[h];exact i.mD a λk=>d ((j a).2 k)⟩
def fG.push(h:fG B b s)(D:s.cY=3){d:List be}(e:s.ak=d++[f])(p:gF b g)(hd:0<=g.dst/\g.dst<f.bg.length/\aQ f.bg g.dst=0){c:List bU}{bO:Int}
 (r:fR c (fj (d++[f,g])))(v:ns c)(t:∀a,fB c a->holds (d++[f,g]) a=1)(w:∀a,¬fB c a->holds (d++[f,g]) a=0)(z:bO=s.bO+1)(C:s.bO<s.eH):
 fG B b {s with heap:=c,bO:=bO,ak:=d++[f,g]}:=by
 have A:=h.bO
 have m:=h.depth
 rw[e]at m
 refine⟨h.eT,h.cY,⟨λi=>by simp at i;omega,sx⟩,h.value,h.tf,h.eH,⟨by simp only[];omega,by simp only[];omega⟩,by simp at m⊢;omega,h.bC,r,v,λq a=>?_,λq a=>?_,λk x q c a=>?_,t,w⟩
 .rcases List.mem_append.1 a with a|a
  .exact h.ak q (by rw[e];exact bz _ a)
  .simp at a
   rcases a with rfl|rfl
   .exact h.ak _ (by rw[e];simp)
   .exact p
 .have j:=h.first
  rw[e]at j
  cases d with
  |nil=>simp at a;subst a;exact j f aJ
  |cons y l=>simp at a;subst a;exact j y aJ
 .have l:=h.chain k
  rw[e]at l
  simp only[]at c a
  have i:d++[f,g]=(d++[f])++[g]:=aJ
  rw[i]at c a
  have u:=az a
  simp at u
  rw[ay bS]at c
  rcases aX (k+1) (d++[f]).length with j|j
  .rw[ay j]at a
   exact l x q c a
  .simp at j
   rw[aI bS]at a
   have n:k+1 -(d++[f]).length=0:=bS
   rw[n]at a;simp at a;subst a
   rw[aI V]at c
   have o:k -d.length=0:=V
   rw[o]at c;simp at c;subst c;exact hd
def Qv{m:List be}(d:fG B b s)(S:s.cY=3)(p:s.ak=m++[f])
 (N:uj b s f (fJ b f) (dL f.ax f.bg (dG b (fJ b f))))(bf:¬(wg (fJ b f).op/\s.bO=s.eH)):
 fG B b (jI b s m f (fJ b f) (dL f.ax f.bg (dG b (fJ b f)))):=by
 have J:gF b f:=d.ak f (by rw[p];simp)
 let⟨ac,hp,aB,hP,a1,hI⟩:=J.Kk d.eT
 generalize fJ b f=x at*
 have⟨lr,lo,lh⟩:(f.ax.length:Int)=ac.ax/\(f.bg.length:Int)=ac.ax/\(f.bB.length:Int)=ac.ax:=⟨aB▸J.lr,aB▸J.lo,aB▸J.lh⟩
 have al:∀q∈x.args,0<=q/\q<f.ax.length:=λq u=>by have:=hI.args q u;omega
 have aZ:∀r∈dG b x,0<=r/\r<f.ax.length:=λr S=>al r (Nf S)
 have bm:=wU (ax:=f.ax) (dG b x) f.bg aZ V
 have bl:=qM f.ax (dG b x) f.bg
 have bk:=sZ (ax:=f.ax) (dG b x) f.bg
 generalize dL f.ax f.bg (dG b x)=bg at*
 have aF:∀E∈m,gF b E:=λE j=>d.ak E (by rw[p];exact bz _ j)
 have am:∀c,0<=fj m c+cV f.ax bg c:=λc=>by
  have:=JD aF c;have:=sG (ax:=f.ax) N.nn c;omega
 have F:fR s.heap (λc=>fj m c+cV f.ax bg c+eK ((dG b x).map (aQ f.ax)) c):=d.heap.congr λc=>by
  rw[p,fF,jY,bm];omega
 have a8:∀P:Int,0<=P->P<ac.bt.length->gF b {f with bg:=bg,pc:=P}:=λP h0 e=>
  ⟨J.dW,⟨h0,by rw[aB];exact e⟩,J.lr,by simp only[bl];exact J.lo,J.lh,J.RW,λy ab w X n=>by
   let⟨E,j,o⟩:=bk y ab X;have C:=J.bg y E w j n;exact⟨N.nn ab (iV X),λk=>C.2 V⟩,J.bB⟩
 have bn:=J.pc
 rw[aB]at bn
 have a6:x.op≠23->x.op≠24->f.pc+1<ac.bt.length:=λe C=>by
  rcases gX (f.pc+1<ac.bt.length)with A|A
  .exact A
  .have U:f.pc.toNat=ac.bt.length -1:=V;rw[U]at a1;have:=hP.yU x a1;omega
 have hG:x.op≠23->x.op≠24->gF b {f with bg:=bg,pc:=f.pc+1}:=λe C=>a8 _ V (a6 e C)
 have ap:∀r:Int,0<=r->r<f.ax.length->gZ (aQ f.ax r)\/1000<=aQ f.ax r:=λr h0 e=>J.RW _ (iK h0 e)
 have a4:∀r:Int,0<=r->r<f.ax.length->aQ f.ax r<1000->gZ (aQ f.ax r):=λr h0 e C=>by rcases ap r h0 e with A|A;exact A;omega
 have ah:=hI.dst
 have a2:jE x.op->aQ bg x.dst=0:=λO=>by
  have e:=N.dst O;have C:=N.nn _ (iK (l:=bg) ah.1 V);omega
 have bp:∀r∈dG b x,pQ s.heap (aQ f.ax r):=λr a9=>by
  have a_:=aZ r a9;rcases ap r a_.1 a_.2 with A|A
  .exact Or.inl A
  .refine Or.inr ⟨A,F.lv _ ?_⟩;have:=am (ix (aQ f.ax r));have:=tV (l:=(dG b x).map (aQ f.ax)) (f:=ix (aQ f.ax r)) (by rw[iN A];exact List.mem_map.2 ⟨r,a9,rfl⟩);omega
 have aG:∀(P:Int)(a3:List Int)(w ab:Int),jE x.op->∀c,fj (m++[be.put {f with bg:=bg,pc:=P,bB:=a3} x.dst w ab]) c=fj m c+cV f.ax bg c+(if w=1000+(c:Int)then ab else 0):=λP a3 w ab O c=>by
  rw[fF,jY];simp only[be.put];rw[MS ah.1 V V (a2 O)];omega
 have aM:∀(w:Int)(bC:List Int),jE x.op->x.op≠23->x.op≠24->dG b x=[]->(gZ w\/1000<=w)->(∀k∈bC,gZ k)->fG B b {s with bC:=bC,ak:=m++[be.put {f with bg:=bg,pc:=f.pc+1} x.dst w 0]}:=λw bC O e C v n X=>by
  let⟨z,Q⟩:=d.pO p (g:=be.put {f with bg:=bg,pc:=f.pc+1} x.dst w 0) rfl (λc=>CJ);refine d.iP S p (hd:=rfl) ((hG e C).put ah.1 n (dh _) (λA=>V)) (F.congr λc=>?_) d.jc z Q X (bO:=s.bO) ⟨dh _,d.bO.2⟩;rw[aG _ _ _ _ O,v];simp[eK]
 have aO:∀P:Int,0<=P->P<ac.bt.length->dG b x=[]->fG B b {s with ak:=m++[{f with bg:=bg,pc:=P}]}:=λP h0 e v=>by
  let⟨z,Q⟩:=d.pO p (g:={f with bg:=bg,pc:=P}) rfl (λc=>CJ);refine d.iP S p (hd:=rfl) (a8 P h0 e) (F.congr λc=>?_) d.jc z Q d.bC (bO:=s.bO) ⟨dh _,d.bO.2⟩;rw[fF,jY,v];simp[eK]
 have o:=hI.op
 unfold kK at o
 unfold jI
 simp only[]
 by_cases e0:x.op=0
 .rw[ao e0]at o⊢
  exact aM _ _ (by unfold jE;omega) V V (by simp[dG,e0]) (Or.inl o.2) d.bC
 rw[ae e0]at o⊢
 by_cases e1:x.op=1\/x.op=2\/x.op=3\/x.op=4
 .rw[ao e1]
  exact aM _ _ (by unfold jE;omega) V V (by unfold dG;rw[ae V,ae V,ae V]) (Or.inl (Pj _ _ _)) d.bC
 rw[ae e1]
 have aq:1<=x.args.length->0<=aQ x.args 0/\aQ x.args 0<f.ax.length:=λe=>al _ (iK V V)
 by_cases e5:x.op=5
 .rw[ao e5]
  rw[ae V,ao V]at o
  have u:=aq V
  have aw:gZ (aQ f.ax (aQ x.args 0)):=a4 _ u.1 u.2 (N.pw V _ (iK V V))
  refine aM _ _ (by unfold jE;omega) V V (by simp[dG,e5]) (Or.inl aw) λk G=>?_
  rcases List.mem_append.1 G with G|G
  .exact d.bC k G
  .simp at G;subst G;exact aw
 rw[ae e5]
 have ba:(dG b x=x.args)->∀w∈dC f x.args,pQ s.heap w:=λv w n=>by
  obtain⟨r,Z,rfl⟩:=List.mem_map.1 n;exact bp r (v▸Z)
 have aV:∀aC,dG b x=x.args->x.op≠23->x.op≠24->jE x.op->x.args.length<=3->0<=aC/\aC<=99->fG B b {s with heap:=lX s.heap (fp s.heap) ⟨1,aC,dC f x.args⟩,ak:=m++[be.put {f with bg:=bg,pc:=f.pc+1} x.dst (1000+fp s.heap) 1]}:=λaC v e C O A aT=>by
  let⟨T,k2,k3⟩:=F.alloc (t:=aC) (f:=dC f x.args) (e':=fj (m++[be.put {f with bg:=bg,pc:=f.pc+1} x.dst (1000+fp s.heap) 1])) (ba v) (by simpa[dC]using A) aT (λc=>by rw[v];have:=am c;simp only[dC];omega) (λc=>by
   rw[aG _ _ _ _ O,v];simp only[dC];have:(if(1000+(fp s.heap:Int))=1000+(c:Int)then(1:Int)else 0)=if c=fp s.heap then 1 else 0:=by
    by_cases k:c=fp s.heap
    .rw[ao k,ao V]
    .rw[ae k,ae V]
   rw[this];omega) d.jc
  let⟨z,Q⟩:=d.pO p (g:=be.put {f with bg:=bg,pc:=f.pc+1} x.dst (1000+fp s.heap) 1) rfl k2;exact d.iP S p (hd:=rfl) ((hG e C).put ah.1 (Or.inr V) V (λ_=>V)) T k3 z Q d.bC (bO:=s.bO) ⟨dh _,d.bO.2⟩
 have bq:(eI b.bu).length<=12:=by
  have:=sC d.eT.pA.types b.bu.length;rw[nI _ _ (ad _)]at this;exact this
 have bs:=d.eT.pA.len
 by_cases R:x.op=6
 .rw[ao R]
  rw[ae V,ae V,ao R]at o
  have v:dG b x=x.args:=by unfold dG;rw[ao V]
  have O:jE x.op:=by unfold jE;omega
  have aa:x.args.length<=3:=by rw[o.2.1];exact yL d.eT.pA.types _
  split
  .rename_i aE
   have K:0<=x.bY -1/\x.bY -1<f.bB.length:=V
   have hv:=J.bB _ (iK (l:=f.bB) K.1 K.2)
   have L:1000<=aQ f.bB (x.bY -1):=V
   have aD:0<holds s.ak (ix (aQ f.bB (x.bY -1))):=by
    rw[p,ez,iC];have:=uV m (ix (aQ f.bB (x.bY -1)));have:=tV (l:=f.bB) (f:=ix (aQ f.bB (x.bY -1))) (by rw[iN L];exact iK K.1 K.2);omega
   have Y:fB s.heap (ix (aQ f.bB (x.bY -1))):=eU λG=>by have:=d.mD _ G;omega
   have aj:=d.kH _ Y
   let⟨W,hd,ar⟩:=Y
   have au:∀c,eK W.aN c=0:=λc=>ng λn=>by
    have:=((F.cell W (av hd)).vT V).2.1 _ n;omega
   have T:=F.make (v:=x.bM) (c:=dC f x.args) (e':=fj (m++[be.put {f with bg:=bg,pc:=f.pc+1,bB:=iD f.bB (x.bY -1) 0} x.dst (aQ f.bB (x.bY -1)) 1])) (f:=ix (aQ f.bB (x.bY -1))) (g:=s.heap.set (ix (aQ f.bB (x.bY -1))) ⟨1,x.bM,dC f x.args⟩)
    (fB.Uf ⟨W,hd,ar⟩) (eV hd) (λc k=>gV k) (λc=>by rw[y9 _ hd,au];simp only[];omega) (ba v) (by simpa[dC]using aa) V (λc=>by rw[v];have:=am c;simp only[dC];omega) (λc=>by
     rw[aG _ _ _ _ O,v];simp only[dC];have:(if aQ f.bB (x.bY -1)=1000+(c:Int)then(1:Int)else 0)=if c=ix (aQ f.bB (x.bY -1))then 1 else 0:=by
      by_cases k:c=ix (aQ f.bB (x.bY -1))
      .rw[ao k,ao (by rw[k,iN L])]
      .rw[ae k,ae (λI=>k (by rw[I,kP]))]
     rw[this];omega)
   have aA:∀c,eK (iD f.bB (x.bY -1) 0) c=eK f.bB c -(if c=ix (aQ f.bB (x.bY -1))then 1 else 0):=by
    intro c;have ai:∀(D:List Int)(y:Nat)(w:Int),D[y]? =some w->eK (D.set y 0) c=eK D c -(if w=1000+(c:Int)then 1 else 0):=by
     intro D;induction D with
     |nil=>intro y w z;simp at z
     |cons af D ih=>
      intro y w z;cases y with
      |zero=>simp at z;subst z;simp only[iR,eK];rw[ae V];omega
      |succ y=>have:=ih y w (by simpa using z);simp only[iQ,eK,this];omega
    rw[iD,ai _ _ _ (pI K.1 K.2)];by_cases k:c=ix (aQ f.bB (x.bY -1))
    .rw[ao k,ao (by rw[k,iN L])]
    .rw[ae k,ae (λI=>k (by rw[I,kP]))]
   have M:∀c,holds (m++[be.put {f with bg:=bg,pc:=f.pc+1,bB:=iD f.bB (x.bY -1) 0} x.dst (aQ f.bB (x.bY -1)) 1]) c=holds s.ak c -(if c=ix (aQ f.bB (x.bY -1))then 1 else 0):=λc=>by
    rw[p,ez,ez,iC,iC];simp only[be.put];rw[aA];omega
   have an:gF b {f with bg:=bg,pc:=f.pc+1,bB:=iD f.bB (x.bY -1) 0}:=by
    have e:=hG V V;exact⟨e.dW,e.pc,e.lr,e.lo,by simp only[j8];exact e.lh,e.RW,e.bg,λw n=>by rcases sE n with n|n;exact Or.inl n;exact e.bB w n⟩
   refine d.iP S p (hd:=rfl) (an.put ah.1 (Or.inr L) V (λ_=>L)) T ?_ (λq u=>?_) (λq u=>?_) d.bC (bO:=s.bO) ⟨dh _,d.bO.2⟩
   .intro ag H
    rw[iF]at H
    by_cases k:s.heap.length -1=ix (aQ f.bB (x.bY -1))
    .rw[k,eV hd]at H;simp at H;subst H;simp
    .rw[gV k]at H;exact d.jc ag H
   .rw[M]
    by_cases k:q=ix (aQ f.bB (x.bY -1))
    .subst k;rw[fB.EW hd]at u;simp at u
    .rw[ae k];rw[fB.ne k]at u;have:=d.kH q u;omega
   .rw[M]
    by_cases k:q=ix (aQ f.bB (x.bY -1))
    .subst k;rw[ao rfl];omega
    .rw[ae k];rw[fB.ne k]at u;have:=d.mD q u;omega
  .exact aV _ v V V O aa V
 rw[ae R]
 by_cases Y:x.op=10
 .rw[ao Y]
  rw[ae V,ae V,ae R,ae V,ao Y]at o
  obtain⟨⟨E,aH,an,aK⟩,_⟩:=o
  have A:=(d.eT.pA.df E (av an)).1
  have:=az an
  exact aV _ (by unfold dG;rw[ao V]) V V (by unfold jE;omega) V (by unfold gA;omega)
 rw[ae Y]
 by_cases aD:x.op=14
 .rw[ao aD]
  rw[ae V,ao V]at o
  have u:=aq V
  have v:dG b x=[]:=by simp[dG,aD]
  let⟨G,W⟩:=N.Zg aD
  let⟨z,Q⟩:=d.pO p (g:={f with bg:=iD bg (aQ x.args 0) (aQ bg (aQ x.args 0)+1),pc:=f.pc+1}) rfl (λc=>fB.oL G c)
  have e:=hG V V
  refine d.iP S p (hd:=rfl) (g:={f with bg:=iD bg (aQ x.args 0) (aQ bg (aQ x.args 0)+1),pc:=f.pc+1}) ⟨e.dW,e.pc,e.lr,by simp only[j8];exact e.lo,e.lh,e.RW,λy ab w X n=>?_,e.bB⟩ (F.oL G W λc=>?_) ?_ z Q d.bC (bO:=s.bO) ⟨dh _,d.bO.2⟩
  .simp only[]at X n
   rw[EZ]at X
   split at X
   .rename_i K
    simp at X
    have U:aQ f.ax (aQ x.args 0)=w:=by rw[aQ,jm,<-K.1,n];rfl
    have:=N.nn _ (iK (l:=bg) u.1 V)
    have:=G.1
    exact⟨V,λ_=>V⟩
   .exact e.bg y ab w X n
  .rw[fF,jY,v]
   simp only[]
   rw[GO u.1 u.2 V]
   have K:=iN G.1
   simp only[fg,eK]
   by_cases k:c=ix (aQ f.ax (aQ x.args 0))
   .rw[ao k,ao (by rw[k,K])];omega
   .rw[ae k,ae (λI=>k (by rw[I,kP]))];omega
  .let⟨H,aA⟩:=cz G
   intro ag L
   unfold oL at L
   rw[iF]at L
   by_cases k:s.heap.length -1=ix (aQ f.ax (aQ x.args 0))
   .rw[k,eV H]at L;simp at L;subst L;simp only[];omega
   .rw[gV k]at L;exact d.jc ag L
 rw[ae aD]
 have aN:x.args.length=1->x.args=[aQ x.args 0]:=λe=>by
  cases hx:x.args with
  |nil=>rw[hx]at e;simp at e
  |cons af D=>cases D with
   |nil=>rfl
   |cons a7 D=>rw[hx]at e;simp at e
 by_cases aW:x.op=15
 .rw[ao aW]
  rw[ae V,ao V]at o
  have v:dG b x=[aQ x.args 0]:=by unfold dG;rw[ao V];exact aN V
  rw[v]at F
  have T:=fR.je _ s.heap [aQ f.ax (aQ x.args 0)] (λc=>fj m c+cV f.ax bg c) (ad _) (F.congr λc=>rfl) am
  let⟨z,Q⟩:=d.pO p (g:={f with bg:=bg,pc:=f.pc+1}) rfl (λc=>(fB.rh (h:=je s.heap [aQ f.ax (aQ x.args 0)]) c).trans (fB.je _ _ _ (ad _) c))
  exact d.iP S p (hd:=rfl) (hG V V) (T.rh.congr λc=>by rw[fF,jY]) (FZ _) z Q d.bC (bO:=s.bO) ⟨dh _,d.bO.2⟩
 rw[ae aW]
 by_cases W:x.op=16\/x.op=17
 .rw[ao W]
  rw[ae V,ae V,ae R,ae V,ae Y,ao W]at o
  have u:=aq V
  have v:dG b x=[aQ x.args 0]:=by
   unfold dG;rw[ae V,ao W];cases hx:x.args with
   |nil=>rw[hx]at o;simp at o
   |cons af D=>rfl
  let⟨G,aL,aP,aY⟩:=N.TS W
  let⟨H,aA⟩:=cz G
  have aR:∀r∈x.args.drop 1,0<=r/\r<bg.length/\1000<=aQ f.ax r:=λr Z=>by
   have e:=al r (Y8 Z);have C:aQ f.ax r∈qV (bd s.heap (aQ f.ax (aQ x.args 0))).aN:=by rw[aL];exact List.mem_map.2 ⟨r,Z,rfl⟩
   exact⟨e.1,V,(nh.1 C).2⟩
  have e:=hG V V
  have aa:gF b {f with bg:=fu bg (x.args.drop 1),pc:=f.pc+1}:=⟨e.dW,e.pc,e.lr,by simp only[tP];exact e.lo,e.lh,e.RW,JR (ax:=f.ax) _ bg aR e.bg,e.bB⟩
  have a5:∀c,cV f.ax (fu bg (x.args.drop 1)) c=cV f.ax bg c+eK (bd s.heap (aQ f.ax (aQ x.args 0))).aN c:=λc=>by
   rw[En (ax:=f.ax) _ _ (λr Z=>oh (aR r Z)) V,<-vf (bd s.heap _).aN,aL];rfl
  have au:0<fj m (ix (aQ f.ax (aQ x.args 0)))+cV f.ax bg (ix (aQ f.ax (aQ x.args 0)))+eK ((dG b x).map (aQ f.ax)) (ix (aQ f.ax (aQ x.args 0))):=by
   rw[v];have:=am (ix (aQ f.ax (aQ x.args 0)));simp only[cA,fg,iy G.1,ao,eK];omega
  have ar:∀c,fj m c+cV f.ax (fu bg (x.args.drop 1)) c=(fj m c+cV f.ax bg c+eK ((dG b x).map (aQ f.ax)) c) -(if c=ix (aQ f.ax (aQ x.args 0))then 1 else 0)+eK (bd s.heap (aQ f.ax (aQ x.args 0))).aN c:=λc=>by
   rw[a5,v];simp only[cA,fg,iy G.1,eK];omega
  split
  .rename_i aj
   have aU:=aY aj.2
   have T:=F.Ql H aj.1 au (c':=⟨-1,0,gB (bd s.heap (aQ f.ax (aQ x.args 0))).aN.length⟩) aJ aJ rfl (λw n=>pR n) (by simp only[lR];exact(F.cell _ (av H)).fl) (sx) (e':=fj (m++[{f with bg:=fu bg (x.args.drop 1),pc:=f.pc+1,bB:=iD f.bB (aQ x.args 0) (aQ f.ax (aQ x.args 0))}])) (λc=>by rw[fF,jY];exact ar c)
   have ai:∀(c:Nat)(w:Int)(D:List Int)(y:Nat),D[y]? =some 0->eK (D.set y w) c=eK D c+(if w=1000+(c:Int)then 1 else 0):=by
    intro c w D;induction D with
    |nil=>intro y z;simp at z
    |cons af D ih=>
     intro y z;cases y with
     |zero=>simp at z;subst z;simp only[iR,eK];split<;>simp_all<;>omega
     |succ y=>have:=ih y (by simpa using z);simp only[iQ,eK,this];omega
   have aS:aQ x.args 0<f.bB.length:=V
   have M:∀c,holds (m++[{f with bg:=fu bg (x.args.drop 1),pc:=f.pc+1,bB:=iD f.bB (aQ x.args 0) (aQ f.ax (aQ x.args 0))}]) c=holds s.ak c+(if c=ix (aQ f.ax (aQ x.args 0))then 1 else 0):=λc=>by
    rw[p,ez,ez,iC,iC];have aE:=pI (l:=f.bB) u.1 aS;rw[aU]at aE;simp only[iD];rw[ai c _ _ _ aE];by_cases k:c=ix (aQ f.ax (aQ x.args 0))
    .rw[ao k,ao (by rw[k,iN G.1])];omega
    .rw[ae k,ae (λI=>k (by rw[I,kP]))];omega
   have a0:¬fB s.heap (ix (aQ f.ax (aQ x.args 0))):=λz=>z.Uf G.2
   refine d.iP S p (hd:=rfl) (g:={f with bg:=fu bg (x.args.drop 1),pc:=f.pc+1,bB:=iD f.bB (aQ x.args 0) (aQ f.ax (aQ x.args 0))}) ⟨aa.dW,aa.pc,aa.lr,aa.lo,by simp only[j8];exact aa.lh,aa.RW,aa.bg,λw n=>?_⟩ T ?_ (λq K=>?_) (λq K=>?_) d.bC (bO:=s.bO) ⟨dh _,d.bO.2⟩
   .rcases sE n with n|n
    .rw[n];exact Or.inr G.1
    .exact J.bB w n
   .intro ag L
    rw[iF]at L
    by_cases k:s.heap.length -1=ix (aQ f.ax (aQ x.args 0))
    .rw[k,eV H]at L;simp at L;subst L;simp
    .rw[gV k]at L;exact d.jc ag L
   .rw[M]
    by_cases k:q=ix (aQ f.ax (aQ x.args 0))
    .rw[ao k,k,d.mD _ a0];rfl
    .rw[ae k];rw[fB.ne k]at K;have:=d.kH q K;omega
   .rw[M]
    by_cases k:q=ix (aQ f.ax (aQ x.args 0))
    .subst k;rw[fB.EW H]at K;simp at K
    .rw[ae k];rw[fB.ne k]at K;have:=d.mD q K;omega
  .let⟨T,k2,k3⟩:=F.apart G au aP (e':=fj (m++[{f with bg:=fu bg (x.args.drop 1),pc:=f.pc+1}])) (λc=>by rw[fF,jY];exact ar c) d.jc
   let⟨z,Q⟩:=d.pO p (g:={f with bg:=fu bg (x.args.drop 1),pc:=f.pc+1}) rfl k2
   exact d.iP S p (hd:=rfl) aa T k3 z Q d.bC (bO:=s.bO) ⟨dh _,d.bO.2⟩
 rw[ae W]
 by_cases aY:x.op=18
 .rw[ao aY]
  rw[ae V,ao V]at o
  have u:=aq V
  have v:dG b x=[aQ x.args 0]:=by unfold dG;rw[ao V];exact aN V
  have O:jE x.op:=by unfold jE;omega
  let⟨z,Q⟩:=d.pO p (g:=be.put {f with bg:=bg,pc:=f.pc+1} x.dst (aQ f.ax (aQ x.args 0)) (jx (aQ f.ax (aQ x.args 0)))) rfl (λc=>CJ)
  refine d.iP S p (hd:=rfl) ((hG V V).put ah.1 (ap _ u.1 u.2) (GW _) Db) (F.congr λc=>?_) d.jc z Q d.bC (bO:=s.bO) ⟨dh _,d.bO.2⟩
  rw[aG _ _ _ _ O,v,wi];rfl
 rw[ae aY]
 by_cases L:x.op=19
 .rw[ao L]
  rw[ae V,ae V,ae R,ae V,ae Y,ae W,ao L]at o
  let⟨G,k⟩:=N.load L
  let⟨H,aA⟩:=cz G
  refine aM _ _ (by unfold jE;omega) V V (by simp[dG,L]) ?_ d.bC
  rcases((F.cell _ (av H)).pF aA).1 _ (iK o.2.1 k)with C|C
  .exact Or.inl C
  .exact Or.inr C.1
 rw[ae L]
 by_cases aa:x.op=20
 .rw[ao aa]
  rw[ae V,ae V,ae R,ae V,ae Y,ae W,ae L,ao aa]at o
  have:=a6 V V
  exact aO _ (by split<;>omega) (by split<;>omega) (by simp[dG,aa])
 rw[ae aa]
 by_cases aj:x.op=21
 .rw[ao aj]
  rw[ae V,ae V,ae R,ae V,ae Y,ae W,ae L,ae aa,ae V,ao aj]at o
  let⟨G,aT⟩:=N.Of aj
  have ag:wX (cb b.bu x.bM) (bd s.heap (aQ f.ax (aQ x.args 0))).mJ<(cb b.bu x.bM).length:=PL ⟨_,aT,aJ⟩
  let⟨ai,k⟩:=o.2.2
  have:=k _ (iK (l:=x.di) (i:=(wX (cb b.bu x.bM) (bd s.heap (aQ f.ax (aQ x.args 0))).mJ:Nat)) V V)
  exact aO _ V V (by simp[dG,aj])
 rw[ae aj]
 by_cases ar:x.op=22
 .rw[ao ar]
  rw[ae V,ae V,ae R,ae V,ae Y,ae W,ae L,ae aa,ao ar]at o
  exact aO _ V V (by simp[dG,ar])
 rw[ae ar]
 have bb:∀w∈dC f x.args,gZ w\/1000<=w:=λw n=>by
  obtain⟨r,Z,rfl⟩:=List.mem_map.1 n;exact ap r (al r Z).1 (al r Z).2
 have aS:wg x.op->s.bO<s.eH:=λH=>by
  have:=d.bO;have:s.bO≠s.eH:=λU=>bf ⟨H,U⟩;omega
 have a5:∀(hp:List bU),s.bO<s.eH->x.op≠23->x.op≠24->∀(g:be),gF b g->jE x.op->g.dst=x.dst->fR hp (fj (m++[{f with bg:=bg,pc:=f.pc+1},g]))->ns hp->(∀c,fB hp c<->fB s.heap c)->(∀c,holds [g] c=0)->
  fG B b {s with bO:=s.bO+1,heap:=hp,ak:=m++[{f with bg:=bg,pc:=f.pc+1},g]}:=λhp br e C g hg O bi hH hT hK bj=>by
  have a0:=d.bO
  have au:=d.depth
  rw[p]at au
  have ee:m++[{f with bg:=bg,pc:=f.pc+1},g]=(m++[{f with bg:=bg,pc:=f.pc+1}])++[g]:=aJ
  have M:∀c,holds (m++[{f with bg:=bg,pc:=f.pc+1},g]) c=holds s.ak c:=λc=>by
   rw[ee,ez,bj,p,ez,ez,iC,iC];simp
  refine⟨d.eT,d.cY,⟨λU=>by simp at U;omega,sx⟩,d.value,d.tf,d.eH,⟨by simp only[];omega,by simp only[];omega⟩,by simp at au⊢;omega,d.bC,hH,hT,λE j=>?_,λE j=>?_,λy p1 E k j=>?_,λq u=>?_,λq u=>?_⟩
  .rcases List.mem_append.1 j with j|j
   .exact aF E j
   .simp at j
    rcases j with rfl|rfl
    .exact hG e C
    .exact hg
  .have ai:=d.first
   rw[p]at ai
   cases m with
   |nil=>simp at j;subst j;exact ai f aJ
   |cons af ys=>simp at j;subst j;exact ai af aJ
  .have ag:=d.chain y
   rw[p]at ag
   simp only[]at k j
   rw[ee]at k j
   have aR:=az j
   simp at aR
   rw[ay bS]at k
   rcases aX (y+1) (m.length+1)with A|A
   .rw[ay bS]at j
    rw[ay V]at k
    rcases aX (y+1) m.length with h4|h4
    .rw[ay h4]at j
     exact ag p1 E (by rw[ay V];exact k) (by rw[ay h4];exact j)
    .rw[aI h4]at j
     have I:y+1 -m.length=0:=V
     rw[I]at j;simp at j;subst j
     exact ag p1 f (by rw[ay V];exact k) (by rw[aI h4,I];rfl)
   .rw[aI bS]at j
    have I:y+1 -(m++[{f with bg:=bg,pc:=f.pc+1}]).length=0:=bS
    rw[I]at j;simp at j;subst j
    rw[aI V]at k
    have e3:y -m.length=0:=V
    rw[e3]at k;simp at k;subst k
    rw[bi]
    exact⟨ah.1,by simp only[];omega,a2 O⟩
  .rw[M];exact d.kH q ((hK q).1 u)
  .rw[M];exact d.mD q λA=>u ((hK q).2 A)
 by_cases e9:x.op=9
 .rw[ao e9]
  rw[ae V,ae V,ae R,ao V]at o
  let⟨E,aH,an,aK⟩:=o
  have v:dG b x=jB b x 0 x.args:=by unfold dG;rw[ae V,ae V,ao V]
  refine a5 s.heap (aS (Or.inl e9)) V V (cN b x.bM x.dst (dC f x.args)) (tU d.eT aH an (by simp[dC,aK]) bb) (by unfold jE;omega) rfl (F.congr λc=>?_) d.jc (λ_=>CJ) (oU _ _ _ _)
  rw[fF,v]
  simp only[fj]
  rw[ql,GU];omega
 rw[ae e9]
 by_cases aE:x.op=24
 .rw[ao aE]
  rw[ae V,ae V,ae R,ao V]at o
  let⟨E,aH,an,aK⟩:=o
  have v:dG b x=jB b x 0 x.args:=by unfold dG;rw[ae V,ae V,ao V]
  let⟨aL,aU⟩:=N.zero (Or.inl aE)
  have M:∀c,holds (m++[cN b x.bM f.dst (dC f x.args)]) c=holds s.ak c:=λc=>by
   rw[p,ez,ez,oU,iC,ng (λn=>oh (aU _ n))]
  have bc:=aS (Or.inr (Or.inr aE))
  refine d.iP S p (hd:=rfl) (tU d.eT aH an (by simp[dC,aK]) bb) (F.congr λc=>?_) d.jc (λq u=>by rw[M];exact d.kH q u) (λq u=>by rw[M];exact d.mD q u) d.bC (bO:=s.bO+1) V
  rw[fF,jY,ql,GU,v,sI aL];omega
 rw[ae aE]
 by_cases an:x.op=11
 .rw[ao an]
  rw[ao V]at o
  have v:dG b x=x.args:=by unfold dG;rw[ao V]
  have bc:x.args=[aQ x.args 0,aQ x.args 1]:=by
   cases hx:x.args with
   |nil=>rw[hx]at o;simp at o
   |cons af D=>cases D with
    |nil=>rw[hx]at o;simp at o
    |cons a7 D=>cases D with
     |nil=>rfl
     |cons _ _=>rw[hx]at o;simp at o
  have aH:0<=aQ x.args 1/\aQ x.args 1<f.ax.length:=al _ (iK V V)
  let⟨G,bo,bt,bh,aK,aP⟩:=N.apply an
  let⟨H,aA⟩:=cz G
  let⟨E,j⟩:=cq b.cy (((bd s.heap (aQ f.ax (aQ x.args 0))).mJ -gA b).toNat)
  have a7:dm b ((bd s.heap (aQ f.ax (aQ x.args 0))).mJ -gA b)=E:=by simp[dm,j]
  rw[a7]at bh aK
  have D:∀c,eK ((dG b x).map (aQ f.ax)) c=(if c=ix (aQ f.ax (aQ x.args 0))then 1 else 0)+eK [aQ f.ax (aQ x.args 1)] c:=λc=>by
   rw[v,bc];simp only[cA,fg];rw[iy]
   .rfl
   .exact G.1
  let⟨T,k2,k3⟩:=F.apart G (by simp only[D,ao];have:=am (ix (aQ f.ax (aQ x.args 0)));have:=iz [aQ f.ax (aQ x.args 1)] (ix (aQ f.ax (aQ x.args 0)));omega) aP
   (e':=fj (m++[{f with bg:=bg,pc:=f.pc+1},cN b ((bd s.heap (aQ f.ax (aQ x.args 0))).mJ -gA b) x.dst ((bd s.heap (aQ f.ax (aQ x.args 0))).aN++[aQ f.ax (aQ x.args 1)])])) (λc=>by
    rw[fF,D];simp only[fj];rw[ql,a7,List.length_eq_zero_iff.1 aK,Im,nO];omega) d.jc
  refine a5 _ (aS (Or.inr (Or.inl an))) V V _ (tU d.eT bo j bS λw n=>?_) (by unfold jE;omega) rfl T k3 k2 (oU _ _ _ _)
  rcases List.mem_append.1 n with n|n
  .rcases((F.cell _ (av H)).pF aA).1 w n with C|C
   .exact Or.inl C
   .exact Or.inr C.1
  .simp at n;subst n;exact ap _ aH.1 aH.2
 rw[ae an]
 have G:x.op=23:=by
  rw[ae V]at o;by_cases G:x.op=23
  .exact G
  .rw[ae V,ae R,ae V,ae Y,ae W,ae L,ae aa,ae ar,ae aj]at o;exact o.elim
 rw[ae V,ao V]at o
 have u:=aq V
 have v:dG b x=[aQ x.args 0]:=by unfold dG;rw[ao V];exact aN V
 let⟨aL,aU⟩:=N.zero (Or.inr G)
 have aK:∀c,holds [f] c=0:=λc=>by rw[iC];exact ng (λn=>oh (aU _ n))
 split
 .rename_i D
  have aA:m=[]:=List.getLast?_eq_none_iff.1 D
  subst aA
  have aH:=N.ret G
  have aw:=a4 _ u.1 u.2 (by rcases aH with e|e;(rw[p]at e;simp at e);exact e)
  have a0:=d.bO
  refine⟨d.eT,⟨aJ,aJ⟩,aJ,aw,aJ,d.eH,d.bO,bS,d.bC,F.congr λc=>?_,d.jc,aJ,aJ,aJ,λq K=>?_,λq K=>?_⟩
  .rw[v,sI aL]
   simp only[fj,cA,fg]
   rw[ng (by simp;have:=aw.2;omega)];rfl
  .have e:=d.kH q K
   rw[p]at e
   have C:=aK q
   simp only[dX]at e
   omega
  .simp[holds]
 .rename_i pf D
  have aA:m=m.dropLast++[pf]:=by
   have aP:m≠[]:=λU=>by rw[U]at D;simp at D
   rw[mM aP]at D;simp at D;rw[<-D];exact(iE aP).symm
  generalize m.dropLast=fs' at aA
  subst aA
  have aw:gF b pf:=aF pf aJ
  let⟨aH,a7,bc⟩:=d.chain fs'.length pf f (by rw[p];simp) (by rw[p];simp)
  have bh:f.dst<pf.ax.length:=by have:=aw.lr;have:=aw.lo;omega
  have a0:=d.bO
  have au:=d.depth
  rw[p]at au
  have M:∀c,holds (fs'++[pf.put f.dst (aQ f.ax (aQ x.args 0)) (jx (aQ f.ax (aQ x.args 0)))]) c=holds s.ak c:=λc=>by
   rw[p,ez,ez,aK,ez,iC,iC];simp[be.put]
  refine⟨d.eT,d.cY,⟨λU=>by simp at U;omega,sx⟩,d.value,d.tf,d.eH,d.bO,by simp at au⊢;omega,d.bC,F.congr λc=>?_,d.jc,λE j=>?_,λE j=>?_,λy p1 E k j=>?_,λq K=>by rw[M];exact d.kH q K,λq K=>by rw[M];exact d.mD q K⟩
  .rw[fF,jY,fF,jY,v,sI aL]
   simp only[be.put,cA,fg]
   rw[MS aH bh a7 bc,wi];omega
  .rcases List.mem_append.1 j with j|j
   .exact aF E (bz _ j)
   .simp at j;subst j
    exact aw.put aH (ap _ u.1 u.2) (GW _) Db
  .have ai:=d.first
   rw[p]at ai
   cases fs' with
   |nil=>simp at j;subst j;exact ai pf aJ
   |cons af ys=>simp at j;subst j;exact ai af aJ
  .have ag:=d.chain y
   rw[p]at ag
   simp only[]at k j
   have aR:=az j
   simp at aR
   rw[ay V]at k
   have e1:(fs'++[pf]++[f])[y]? =some p1:=by rw[ay bS,ay V];exact k
   rcases aX (y+1) fs'.length with A|A
   .rw[ay A]at j
    exact ag p1 E e1 (by rw[ay bS,ay A];exact j)
   .rw[aI A]at j
    have I:y+1 -fs'.length=0:=V
    rw[I]at j;simp at j;subst j
    exact ag p1 pf e1 (by rw[ay bS,aI A,I];rfl)
def Rp(h:fG B b s):fG B b (oB b s):=by
 unfold oB;by_cases c:s.cY=3
 .rw[ae (by simpa using c)];let⟨j,f,a⟩:=h.split c;have g:s.ak.getLast?=some f:=by rw[a];simp
  have i:s.ak.dropLast=j:=by rw[a];simp
  rw[g,i];simp only[];have d:∀n,1<=n->n<=2->fG B b {s with cY:=n}:=λn l m=>
   ⟨h.eT,⟨by simp only[];omega,by simp only[];omega⟩,⟨λe=>by simp only[]at e;omega,λe=>by simp only[]at e;rw[a]at e;simp at e⟩,h.value,λe=>oh (h.tf e),h.eH,h.bO,h.depth,h.bC,h.heap,h.jc,h.ak,h.first,h.chain,h.kH,h.mD⟩
  split
  .exact d 1 V V
  .rename_i e;split
   .rename_i k;exact Qv h c a k e
   .exact d 2 V V
 .rw[ao (by simpa using c)];exact h
end
section
variable{a:cr}
def rem(a:cr):List be->Int
 |[]=>0
 |f::b=>((dm a f.dW).bt.length -f.pc)+rem a b
noncomputable def aE (a:cr):Nat->St->St
 |0,s=>s
 |n+1,s=>aE a n (oB a s)
def Lk(a:cr):∀(n:Nat)(s:St),aE a (n+1) s=oB a (aE a n s)
 |0,s=>rfl
 |n+1,s=>by rw[aE,Lk a n,aE]
def Li{B:Int}{a:cr}:∀(n:Nat){s:St},fG B a s->fG B a (aE a n s)
 |0,s,h=>h
 |n+1,s,h=>Li n (Rp h)
def wT{s:St}(h:s.cY≠3):oB a s=s:=by unfold oB;rw[ao h]
def CE{a:cr}:∀(n:Nat){s:St},s.cY≠3->aE a n s=s
 |0,s,_=>rfl
 |n+1,s,h=>by rw[aE,wT h,CE n h]
def lp(a:cr)(eH:Int):St:=⟨3,0,0,eH,[],[],[cN a 0 0 []]⟩
def Lg{B:Int}{eH:Int}(c:qQ B a)(n:0<=eH/\eH<=40):fG B a (lp a eH):=by
 have q:=c.pA.len;let⟨p,i⟩:=cq a.cy 0;have l:=c.pA.first p i;have k:=tU (j:=0) (d:=[]) c (dh 0) i (by simp[l.1]) aJ;have h:∀f,fj [cN a 0 0 []] f=0:=λf=>by rw[jY,ql];simp[cV]
 refine⟨c,by simp[lp],by simp[lp],by simp[lp,gZ],by simp[lp],n,by simp[lp];omega,by simp[lp],by simp[lp],⟨by simp[lp],⟨λ_=>0,by simp[lp]⟩,by simp[lp],λd=>by simp only[lp];rw[h];omega,λd b=>by simp only[lp]at b;rw[h]at b;omega⟩,?_,?_,?_,?_,λd⟨j,e,_⟩=>by simp[lp]at e,λd _=>oU _ _ _ _ _⟩
 .intro j e;simp[lp]at e
 .intro g b;simp[lp]at b;subst b;exact k
 .intro g b;simp[lp]at b;subst b;rfl
 .intro r g o b m;simp[lp]at m
end
section
variable{k:Nat}{m:E}
def lx{b:List bq}{d:bq}:Gh b k d<->((yA b.length d.tn/\yA b.length d.to/\d.cons.length<=3/\(0<d.cons.length->d.tn=0/\d.to=0))/\
 (∀h∈d.cons,h.length<=3/\Eg b.length h)/\∀e∈b.take k,¬(d.cons.length=0/\e.cons.length=0/\e.tn=d.tn/\e.to=d.to)):=by
 constructor
 .intro l
  rcases iS d.cons.length with a|a
  .let⟨c,f,g⟩:=l.Ri a
   refine⟨⟨f,g,V,λl=>V⟩,λh m=>?_,λe i j=>c e i j.2⟩
   rw[List.length_eq_zero_iff.1 a]at m;cases m
  .let⟨c,f,g,h⟩:=l.gR a
   exact⟨⟨by unfold yA;omega,by unfold yA;omega,c,λ_=>⟨f,g⟩⟩,h,λe i j=>V⟩
 .rintro⟨⟨c,f,g,h⟩,l,m⟩
  exact⟨λa=>⟨g,(h a).1,(h a).2,l⟩,λa=>⟨λe i j=>m e i ⟨a,j⟩,c,f⟩⟩
def CY{bu:O}{c:List bq}(hd:bZ m bu c):dA cv 140 [O.v bu] m (dI c):=by
 apply xH;simp -zeta only[aG,aF];have v:=hd.len;have am:=hd.cap;refine dit (λaa=>?_) λaa=>?_
 .exact cw (λa=>oh a.len) (J.aH _)
 refine eu (n:=c.length) V (λk f=>J m f/\∀(j:Nat)(d:bq),j<k->c[j]? =some d->Gh c j d) ⟨J.aH _,aJ⟩ ?_;rintro j w ak μ hj ⟨H,S⟩ aj
 refine dit (λh1=>?_) λh1=>?_
 .let⟨d,D⟩:=cq c j;let⟨A,F,g0,g1,g2⟩:=(bZ.ext H hd).aQ D;have aq:=F.len;refine⟨V,V,_,g0,_,g1,A,g2,?_⟩;intro m2 q;have I:J w q:=((J.aH w).aR _).aj (ad _) _ _;have G:∀r∈[w.size],r<q.size:=by simp[q,m2,aD]
  clear_value q;have K:=H.trans I;have i:∀{f:E},J q f->¬Gh c j d->∃M:Bool,vb false=.bool M/\(M=true<->dI c)/\J m f:=λag af=>cw (λa=>af (a.df j d D)) (K.trans ag);refine⟨λf=>J q f/\yA c.length d.tn/\yA c.length d.to/\d.cons.length<=3/\(0<d.cons.length->d.tn=0/\d.to=0),?_,?_⟩
  .refine(oQ _ _ _).aK (J.aH _) G λr m4 g N s=>⟨_,rfl,λe=>i s λa=>nb g e (v▸(lx.1 a).1.1),λe=>?_⟩;have p:=yb g e;refine(oQ _ _ _).aK s G λr u g t b=>⟨_,rfl,λh=>i b λa=>nb g h (v▸(lx.1 a).1.2.1),λh=>?_⟩;have x:=yb g h;rw[v]at p x;refine dit (λy=>?_) λy=>?_
   .exact i b λa=>by have:=(lx.1 a).1.2.2.1;omega
   refine dit (λz=>?_) λz=>?_
   .refine⟨λl=>?_,λl=>?_⟩
    .simp only[uH]at l;exact i b λa=>l ((lx.1 a).1.2.2.2 V).1
    simp only[ig]at l;refine⟨λo=>?_,λo=>?_⟩
    .simp only[uH]at o;exact i b λa=>o ((lx.1 a).1.2.2.2 V).2
    simp only[ig]at o;exact⟨b,p,x,V,λ_=>⟨l,o⟩⟩
   .exact⟨b,p,x,V,λl=>V⟩
  .rintro m4 ⟨W,ae⟩;have an:=oD.ext (I.trans W) F;refine eu (n:=d.cons.length) V (λk f=>J q f/\∀A∈d.cons.take k,A.length<=3/\Eg c.length A) ⟨W,aJ⟩ ?_;rintro L u I2 μ2 hi ⟨l,T⟩ ah;refine dit (λN=>?_) λN=>?_
   .let⟨B,o⟩:=cq d.cons L;let⟨P,C,Q⟩:=(oD.ext (I.trans l) F).aQ o;have U:=C.len;refine⟨V,V,P,Q,?_⟩;intro x y;have p:J u y:=((J.aH u).aR _).aj (ad _) _ _;have R:∀r∈[u.size,w.size],r<y.size:=by
     have:=l.lt (G w.size aJ);simp[y,x,aD];omega
    clear_value y;refine dit (λs=>?_) λs=>?_
    .exact i (l.trans p) λa=>by have:=((lx.1 a).2.1 B (av o)).1;omega
    exact(uW (C.ext p) _).aK (J.aH _) R λr z g e t=>⟨_,rfl,λb=>i ((l.trans p).trans e) λa=>nb g b (v▸((lx.1 a).2.1 B (av o)).2),λb=>ah V _ ⟨(l.trans p).trans e,bN o T ⟨V,v▸yb g b⟩⟩⟩
   .have ab:=cU V T;refine⟨V,V,V,?_⟩;have P:bZ u (bu.cut 0 j 3) (c.take j):=eO.UU (bZ.ext (K.trans l) hd) V;have al:(bu.cut 0 j 3).len=j:=by rw[P.len];simp;omega
    simp -zeta only[om,Int.toNat_zero];refine eu (n:=j) V (λk f=>J u f/\∀g∈c.take k,¬(d.cons.length=0/\g.cons.length=0/\g.tn=d.tn/\g.to=d.to)) ⟨J.aH _,aJ⟩ ?_;rintro p x Y μ3 au ⟨C,U⟩ ai;refine dit (λs=>?_) λs=>?_
    .let⟨g,Q⟩:=cq c p;have R:(c.take j)[p]? =some g:=by rw[mS,ao V];exact Q
     let⟨Z,ac,q0,q1,q2⟩:=(bZ.ext C P).aQ R;have ar:=ac.len;refine⟨V,V,_,q0,_,q1,Z,q2,?_⟩;intro y z;have X:J x z:=((J.aH x).aR _).aj (ad _) _ _;clear_value z;have B:¬(d.cons.length=0/\g.cons.length=0/\g.tn=d.tn/\g.to=d.to)->Y (cQ ((p:Int)+1)) z/\μ3 (cQ ((p:Int)+1)) z<μ3 p x:=λo=>ai V _ ⟨C.trans X,bN Q U o⟩;refine⟨λe=>?_,λe=>?_⟩
     .simp only[aO]at e;refine⟨λt=>?_,λt=>?_⟩
      .simp only[aO]at t;refine⟨λb=>?_,λb=>?_⟩
       .simp only[aO]at b;refine⟨λh=>?_,λh=>?_⟩
        .simp only[aO]at h;exact i ((l.trans C).trans X) λa=>(lx.1 a).2.2 g (av R) ⟨V,V,b,h⟩
        .simp only[ap]at h;exact B λo=>h o.2.2.2
       .simp only[ap]at b;exact B λo=>b o.2.2.1
      .simp only[ap]at t;exact B λo=>t V
     .simp only[ap]at e;exact B λo=>e V
    .have:p=j:=V;subst this;refine aj V _ ⟨(K.trans l).trans C,λb e h a=>?_⟩
     by_cases g:b=p
     .subst g;rw[D]at a;simp at a;subst a;exact lx.2 ⟨ae,ab,U⟩
     .exact S b e V a
 .exact jt ⟨V,λL d bI=>S L d (oh (az bI)) bI⟩ H
def Nu(m:E)(b:List Ce)(p:da):Prop:=∃a l,b=[.s a,.s l,.i p.aT]/\au m a p.params/\au m l p.dg
def Nu.ext{m d:E}(b:J m d)(a:List Ce)(c:da):Nu m a c->Nu d a c:=λ⟨f,g,e,h,i⟩=>⟨f,g,e,h.ext b,i.ext b⟩
abbrev oK(m:E)(s:O)(l:List da):Prop:=eO m 3 (Nu m) s l
def oK.ext{m b:E}(a:J m b){s:O}{l:List da}(h:oK m s l):oK b s l:=h.mono a (Nu.ext a)
def oK.aQ{s:O}{l:List da}(h:oK m s l){x:da}(f:l[k]? =some x):
 ∃a b,au m a x.params/\au m b x.dg/\af m s.aC (s.off+k*3)=some (O.v a)/\af m s.aC (s.off+k*3+1)=some (O.v b)/\af m s.aC (s.off+k*3+2)=some (vi x.aT):=by
 obtain⟨g,⟨a,b,rfl,d,e⟩,c⟩:=h.jD k x f
 exact⟨a,b,d,e,c 0 (.s a) rfl,c 1 (.s b) rfl,c 2 (.i x.aT) rfl⟩
def EJ{Y Z:O}{q:List bq}{c:List da}(hd:bZ m Y q)(P:oK m Z c):
 dA cv 98 [O.v Y,O.v Z] m (JM q c/\∀p∈c,CP p.params p.dg):=by
 apply yS
 simp -zeta only[aG,aF]
 have N:=hd.len
 have ay:=P.len
 refine(CY hd).then λu m1 e f=>⟨_,rfl,λG=>cw (λa=>nb e G a.1.types) f,λG=>?_⟩
 have ht:=yb e G
 refine dit (λh2=>?_) λh2=>?_
 .exact cw (λa=>oh a.1.len) f
 refine dit (λh3=>?_) λh3=>?_
 .exact cw (λa=>oh a.1.len) f
 let⟨p0,A⟩:=cq c 0
 let⟨a0,l0,ak,aA,g0,g1,g2⟩:=(oK.ext f P).aQ A
 have aw:=ak.len
 refine⟨V,V,a0,g0,dit (λh4=>?_) λh4=>?_⟩
 .exact cw (λa=>oh ((a.1.first p0 A).1)) f
 refine⟨V,V,_,g2,λs=>?_,λs=>?_⟩
 .simp only[uH]at s
  exact cw (λa=>s (a.1.first p0 A).2) f
 simp only[ig]at s
 refine eu (n:=c.length) V (λj U=>J m U/\∀p∈c.take j,(p.params.length<=3/\Eg q.length p.params/\yA q.length p.aT)/\CP p.params p.dg) ⟨f,aJ⟩ ?_
 rintro j C ar μ hj ⟨l,hn⟩ ao
 refine dit (λh6=>?_) λh6=>?_
 .let⟨p,i⟩:=cq c j
  let⟨ah,an,M,z,q0,q1,q2⟩:=(oK.ext l P).aQ i
  have ax:=M.len
  have aC:=z.len
  have aB:=z.fA
  refine⟨V,V,ah,q0,an,q1,_,q2,?_⟩
  intro m3 D
  have o:J C D:=((J.aH C).aR _).aj (ad _) _ _
  have aa:∀u∈[C.size],u<D.size:=by simp[D,m3,aD]
  clear_value D
  refine dit (λh7=>?_) λh7=>?_
  .exact cw (λa=>oh ((a.1.df p (av i)).1)) (l.trans o)
  refine(uW (M.ext o) _).aK (J.aH _) aa λu m5 e h8 h9=>⟨_,rfl,λH=>cw (λa=>nb e H (N▸(a.1.df p (av i)).2.1)) ((l.trans o).trans h8),λH=>?_⟩
  have ac:=yb e H
  refine(oQ _ _ _).aK h9 aa λu W e au I=>⟨_,rfl,λK=>cw (λa=>nb e K (N▸(a.1.df p (av i)).2.2)) ((l.trans o).trans I),λK=>?_⟩
  have ab:=yb e K
  rw[N]at ac ab
  have ae:J m W:=(l.trans o).trans I
  have S:J C W:=o.trans I
  refine eu (n:=p.dg.length) V (λk U=>U=W/\∀(j:Nat)(v:Int),j<k->p.dg[j]? =some v->(∃t,0<=v/\p.params[v.toNat]? =some t/\t≠0)/\(∀E:Int,0<j->p.dg[j -1]? =some E->E<v)) ⟨rfl,aJ⟩ ?_
  rintro k m7 I2 μ2 hk ⟨rfl,Q⟩ af
  have w:¬CP p.params p.dg->∃X:Bool,vb false=.bool X/\(X=true<->JM q c/\∀p∈c,CP p.params p.dg)/\J m m7:=λam=>cw (λa=>am (a.2 p (av i))) ae
  refine dit (λai=>?_) λai=>?_
  .let⟨x,g⟩:=cq p.dg k
   refine⟨V,V,x,by simpa using S.af (z.aQ g),dit (λaj=>?_) λaj=>?_⟩
   .exact w λa=>by obtain⟨⟨t,y,_⟩,_⟩:=a k x g;omega
   refine⟨λy=>?_,λy=>?_⟩
   .simp only[uI,aq]at y
    refine w λa=>?_
    obtain⟨⟨t,_,d,_⟩,_⟩:=a k x g
    have:=az d;omega
   simp only[uI,bD]at y
   let⟨t,B⟩:=cq p.params x.toNat
   refine⟨V,V,t,by simpa using S.af (M.aQ B),λd=>?_,λd=>?_⟩
   .simp only[aO]at d
    refine w λa=>?_
    obtain⟨⟨b,_,r,L⟩,_⟩:=a k x g
    rw[B]at r;simp at r;exact L (r▸d)
   simp only[ap]at d
   refine dit (λr=>?_) λr=>?_
   .have e2:cQ ((k:Int) -1)=((k -1:Nat):Int):=by rw[aS V V];omega
    let⟨ag,T⟩:=cq p.dg (k -1)
    rw[e2]
    refine⟨V,V,ag,by simpa using S.af (z.aQ T),dit (λL=>?_) λL=>?_⟩
    .exact w λa=>by have:=(a k x g).2 ag V T;omega
    .refine af V _ ⟨rfl,λh v al b=>?_⟩
     by_cases F:h=k
     .subst F
      rw[g]at b;simp at b;subst b
      refine⟨⟨t,V,B,d⟩,λE _ R=>?_⟩
      rw[T]at R;simp at R;subst R;omega
     .exact Q h v V b
   .refine af V _ ⟨rfl,λh v al b=>?_⟩
    by_cases F:h=k
    .subst F
     rw[g]at b;simp at b;subst b
     exact⟨⟨t,V,B,d⟩,λE L _=>V⟩
    .exact Q h v V b
  .exact ao V _ ⟨ae,bN i hn ⟨⟨V,ac,ab⟩,λh v b=>Q h v (oh (az b)) b⟩⟩
 .have b:=cU V hn
  refine jt ⟨⟨ht,V,λp a=>(b p a).1,λp a=>?_⟩,λp a=>(b p a).2⟩ l
  rw[A]at a;simp at a;subst a
  exact⟨V,s⟩
end
section
variable{c:E}{d f a j:O}{b:cr}{i:Instr}
def EF{H:O}(D:eY c d H b):
 aP cv 55 [.agg #[O.v d,O.v H]] c λan t=>∃T f e,an=.tuple #[.agg #[O.v T,O.v f],vb e]/\(e=true<->JM b.bu b.cy/\∀H∈b.cy,CP H.params H.dg)/\
  (e=true->T=d/\oK t f b.cy)/\J c t:=by
 apply yQ
 simp -zeta only[aG,aF]
 intro G h
 have aq:=D.cy.len
 have s1:G.size=c.size+1:=by simp[G]
 have s2:h.size=c.size+2:=by simp[h,G]
 have ab:J c h:=((J.aH c).aR _).aR _
 refine dit (λh1=>?_) λh1=>?_
 .intro g
  exact⟨_,_,_,rfl,⟨sx,λD=>oh D.1.len⟩,sx,ab.aj V _ _⟩
 intro m4 C
 have s5:C.size=c.size+3:=by simp[C,m4,aD,s2]
 have al:J c C:=(ab.aR _).aj V _ _
 have ah:cB C h.size lB [.s d,.s .nil]:=cB.aj (m:=m4) (o:=0) (r:=[.s d,.s .nil]) (cB.push h _ _)
 clear_value C
 refine eu (n:=b.cy.length) V (λM t=>J c t/\C.size<=t.size/\∃g w,cB t h.size lB [.s d,.s g]/\gS c t pt 3 g w.flatten/\gU 3 (Nu c) w (b.cy.take M)/\(g≠.nil->h.size<g.aC)/\g.len=M)
  ⟨al,ad _,.nil,[],ah,gS.nil _ _ _ _,by simpa using gU.nil 3 (Nu c),aJ,rfl⟩ ?_
 rintro M i ao μ hk ⟨l,ar,g,w,s,K,L,Q,aa⟩ am
 refine dit (λh2=>?_) λh2=>?_
 .let⟨N,Y⟩:=cq b.cy M
  let⟨a,e,ac,ha,p,y,g0,g1,g2,g3,g4⟩:=D.cy.aQ Y
  refine⟨V,V,a,by simpa using l.af g0,e,by simpa using l.af g1,_,by simpa using l.af g2,_,by simpa using l.af g3,ac,by simpa using l.af g4,?_⟩
  intro S j
  have F:J i j:=((J.aH i).aR _).aj (ad _) _ _
  have s8:j.size=i.size+1:=by simp[j,S,aD]
  clear_value j
  refine⟨g,(s.ext F).cK 1,?_⟩
  intro u
  have R:J i u:=F.aR _
  have s9:u.size=i.size+2:=by simp[u,s8]
  have kZ:gN u j.size 0 [.s a,.s e,.i N.aT]:=(cB.push j _ _).jD
  clear_value u
  refine gS.append (zs:=[.s .nil,.s .nil,.i 0]) (d:=[.s a,.s e,.i N.aT]) (K.ext R) (l.trans R) rfl kZ (by simp[aa];omega) ?_
  intro v A h7 h8 U ap ae af
  have Z:v≠.nil->h.size<v.aC:=by
   intro z;rcases af with⟨_,x⟩|⟨aj,x,_⟩|x
   .exact absurd x z
   .have:=Q aj;omega
   .omega
  have I:∀k,k<u.size->k<=h.size\/k=i.size/\(g=.nil\/g.aC<i.size)->A[k]? =u[k]? :=by
   intro k q y;refine ae k q λz=>?_;have:=Q z;rcases y with y|⟨rfl,y|y⟩
   .omega
   .exact absurd y z
   .omega
  have ai:g=.nil\/g.aC<i.size:=K.lt
  have W:cB A h.size lB [.s d,.s g]:=(s.ext R).congr (I _ V (Or.inl (ad _)))
  refine⟨λk q=>?_,W.fq aJ,?_⟩
  .simp at q
   rcases q with rfl|rfl|rfl
   .exact I _ V (Or.inr ⟨rfl,ai⟩)
   .exact I _ V (Or.inl V)
   .exact I _ V (Or.inl V)
  intro B
  have au:B.size=A.size:=by simp[B,aD]
  have ag:cB B h.size lB [.s d,.s v]:=cB.aj (m:=A) (o:=1) (r:=[.s v]) W
  have X:∀e,e≠h.size->B[e]? =A[e]? :=λe p=>bh _ _ _ _ p
  have ak:J c B:=h8.aj V _ _
  clear_value B
  refine⟨λk q=>?_,?_⟩
  .simp at q
   rcases q with rfl|rfl|rfl<;>exact X _ V
  refine am V _ ⟨ak,V,v,w++[[.s a,.s e,.i N.aT]],ag,?_,?_,Z,by simp[U,aa]⟩
  .rw[xB]
   have P:gS c A pt 3 v (w.flatten++[[.s a,.s e,.i N.aT]].flatten):=by simpa using h7
   rcases P.lt with x|x
   .subst x;exact⟨P.len,Or.inl rfl⟩
   .refine P.congr (X _ λe2=>?_)
    by_cases E:v=.nil
    .subst E
     have:=U
     simp at this
    .have:=Z E;omega
  .rw[bF Y]
   exact L.zg rfl ⟨a,e,rfl,ha,p⟩
 .rw[cG V]at L
  have x:oK i g b.cy:=(eO.gG K L V V).mono (J.aH _) (Nu.ext l)
  refine⟨d,s.cK 0,g,s.cK 1,g,s.cK 1,?_⟩
  have u:∀e∈[G.size,c.size],e<i.size:=bS
  refine(EJ (bZ.ext l D.bu) x).aK (J.aH _) u λe S p k _=>⟨_,rfl,k.dB (s.cK 0),k.dB (s.cK 1),?_⟩
  intro j
  have z:∀e,e≠G.size->j[e]? =S[e]? :=λe p=>bh _ _ _ _ p
  have F:J c j:=(l.trans k).aj V _ _
  refine⟨d,g,e,rfl,p,λ_=>⟨rfl,?_⟩,F⟩
  have q:=K.ext k
  have v:gS c j pt 3 g w.flatten:=by
   by_cases E:g=.nil
   .subst E;exact⟨q.len,Or.inl rfl⟩
   .exact q.congr (z _ (oh (Q E)))
  exact(eO.gG v L V V).mono (J.aH _) (Nu.ext F)
def fY(b:cr)(i:Instr)(a:Int->Prop):Prop:=
 if i.op=0 then -999<=i.bM/\i.bM<=999
 else if i.op=6 then 0<=i.bM/\i.bM<(eI b.bu).length
 else if i.op=9\/i.op=24 then 0<=i.bM/\i.bM<b.cy.length
 else if i.op=10 then 0<=i.bM/\∃q,b.cy[i.bM.toNat]? =some q/\q.dg.length=0
 else if i.op=19 then 0<=i.bM/\i.bM<3
 else if i.op=20\/i.op=22 then a i.bM
 else if i.op=21 then 0<(cb b.bu i.bM).length/\i.di.length=(cb b.bu i.bM).length
 else i.bM=0
def GF(hd:bZ c d b.bu)(x:dI b.bu)(A:oK c f b.cy)(N:au c a i.args)(E:au c j i.di)(t:Nat)(v u:Array Value)(D:GL.elem t=true)(l:Int->Prop)
 (G:∀e,J c e->dA cv t (v.toList++[vi i.bM]++u.toList) e (l i.bM)):
 dA cv 101 [.agg #[O.v d,O.v f],.agg #[vi i.op,vi i.dst,vi i.bM,vi i.bY,O.v a,O.v j],.func (.func t) v u] c (fY b i l):=by
 apply pP d f i.op i.dst i.bM i.bY a j (.func t,v,u)
 simp -zeta only[aG,aF]
 intro y r
 have e:J c r:=((J.aH c).aR _).aR _
 have w:∀z∈[y.size,c.size],z<r.size:=by simp[r,y];omega
 have Q:=A.len
 have R:=E.len
 have C:cB r y.size dO [.i i.op,.i i.dst,.i i.bM,.i i.bY,.s a,.s j]:=cB.push _ _ _
 clear_value r
 refine⟨λk=>?_,λk=>?_⟩
 .simp only[aO]at k
  rw[show fY b i l<->-999<=i.bM/\i.bM<=999 by rw[fY,ao k]]
  refine⟨λh=>fV ?_ e,λh=>cw ?_ e⟩<;>simp at h
  .simp;omega
  .omega
 simp only[ap]at k
 refine⟨λm=>?_,λm=>?_⟩
 .simp only[aO]at m
  rw[show fY b i l<->0<=i.bM/\i.bM<(eI b.bu).length by rw[fY,ae k,ao m]]
  refine⟨λh=>?_,λh=>cw ?_ e⟩<;>simp at h
  .refine(uX (bZ.ext e hd) x.len (QU x)).aK (J.aH _) w λB g _=>⟨_,rfl,g.dB (C.cK 2),fV ?_ (e.trans g)⟩
   simp;omega
  .omega
 simp only[ap]at m
 refine⟨λn=>?_,λn=>?_⟩
 .simp only[cD,aO]at n
  rw[show fY b i l<->0<=i.bM/\i.bM<b.cy.length by rw[fY,ae k,ae m,ao n]]
  refine⟨λh=>fV ?_ e,λh=>cw ?_ e⟩<;>simp at h
  .simp;omega
  .omega
 simp only[bW,ap]at n
 replace n:¬(i.op=9\/i.op=24):=V
 refine⟨λo=>?_,λo=>?_⟩
 .simp only[aO]at o
  rw[show fY b i l<->0<=i.bM/\∃q,b.cy[i.bM.toNat]? =some q/\q.dg.length=0 by rw[fY,ae k,ae m,ae n,ao o]]
  refine⟨λh=>⟨λp=>?_,λp=>?_⟩,λh=>cw ?_ e⟩<;>simp at h
  .simp at p
   let⟨q,s⟩:=cq b.cy i.bM.toNat
   let⟨I,H,P,F,K,g1,g2⟩:=(oK.ext e A).aQ s
   have:=F.len
   refine⟨V,V,H,g1,fV ?_ e⟩
   simp only[aO]
   refine⟨λL=>⟨h,q,s,V⟩,λ⟨_,S,g,M⟩=>?_⟩
   rw[s]at g;simp at g;subst g;omega
  .simp at p
   exact cw (λ⟨_,q,g,_⟩=>oh (az g)) e
  .omega
 simp only[ap]at o
 refine⟨λp=>?_,λp=>?_⟩
 .simp only[aO]at p
  rw[show fY b i l<->0<=i.bM/\i.bM<3 by rw[fY,ae k,ae m,ae n,ae o,ao p]]
  refine⟨λh=>fV ?_ e,λh=>cw ?_ e⟩<;>simp at h
  .simp;omega
  .omega
 simp only[ap]at p
 refine⟨λq=>?_,λq=>?_⟩
 .simp only[cD,aO]at q
  rw[show fY b i l<->l i.bM by rw[fY,ae k,ae m,ae n,ae o,ae p,ao q]]
  exact⟨t,rfl,D,(G r e).aK (J.aH _) w λz B s g _=>⟨_,rfl,fV s (e.trans g)⟩⟩
 simp only[bW,ap]at q
 replace q:¬(i.op=20\/i.op=22):=V
 refine⟨λs=>?_,λs=>?_⟩
 .simp only[aO]at s
  rw[show fY b i l<->0<(cb b.bu i.bM).length/\i.di.length=(cb b.bu i.bM).length by rw[fY,ae k,ae m,ae n,ae o,ae p,ae q,ao s]]
  refine(Kj (bZ.ext e hd) x _).aK (J.aH _) w ?_
  rintro _ B ⟨H,rfl,F,g⟩
  have:=F.len
  refine⟨g,_,rfl,λh=>fV ?_ (e.trans g),λh=>cw ?_ (e.trans g)⟩<;>simp at h
  .simp only[aO];omega
  .omega
 .simp only[ap]at s
  rw[show fY b i l<->i.bM=0 by rw[fY,ae k,ae m,ae n,ae o,ae p,ae q,ae s]]
  exact fV aJ e
def gD(b:cr)(i:Instr)(c a:Int):Prop:=
 if i.op=0\/i.op=22 then c=0/\a=0
 else if i.op=1\/i.op=2\/i.op=3\/i.op=4\/i.op=11 then c=2/\a=2
 else if i.op=6 then c=(cg b.bu i.bM).length/\a=(cg b.bu i.bM).length
 else if i.op=9\/i.op=24 then∃q,b.cy[i.bM.toNat]? =some q/\c=q.params.length/\a=q.params.length
 else if i.op=10 then∃q,b.cy[i.bM.toNat]? =some q/\c=(q.params.length:Int) -1/\a=(q.params.length:Int) -1
 else if i.op=16\/i.op=17 then c=1/\a=4
 else c=1/\a=1
def Ki(hd:bZ c d b.bu)(A:dI b.bu)(x:oK c f b.cy){H:Int->Prop}(t:fY b i H):
 aP cv 102 [.agg #[O.v d,O.v f],.agg #[vi i.op,vi i.dst,vi i.bM,vi i.bY,O.v a,O.v j]] c λK I=>∃B z:Int,K=.tuple #[vi B,vi z]/\gD b i B z/\J c I:=by
 apply qU
 simp -zeta only[aG,aF]
 intro C u
 have g:J c u:=((J.aH c).aR _).aR _
 have E:∀D∈[C.size,c.size],D<u.size:=by simp[u,C];omega
 have M:=x.len
 clear_value u
 refine⟨λh=>?_,λh=>?_⟩
 .simp only[cD,aO]at h
  exact⟨_,_,rfl,by rw[gD,ao h];exact⟨rfl,rfl⟩,g⟩
 simp only[bW,ap]at h
 have l:¬(i.op=0\/i.op=22):=V
 refine⟨λq=>?_,λq=>?_⟩
 .simp only[cD,aO]at q
  exact⟨_,_,rfl,by rw[gD,ae l,ao q];exact⟨rfl,rfl⟩,g⟩
 simp only[bW,ap]at q
 have n:¬(i.op=1\/i.op=2\/i.op=3\/i.op=4\/i.op=11):=V
 refine⟨λe=>?_,λe=>?_⟩
 .simp only[aO]at e
  rw[fY,ae h.1,ao e]at t
  have m:=sC A b.bu.length
  rw[nI _ _ (ad _)]at m
  refine(Gy (bZ.ext g hd) A _ V).aK (J.aH _) E ?_
  rintro _ p ⟨s,rfl,o,k⟩
  have:=o.len
  exact⟨k,_,rfl,_,_,rfl,by rw[gD,ae l,ae n,ao e];omega,g.trans k⟩
 simp only[ap]at e
 refine⟨λo=>?_,λo=>?_⟩
 .simp only[cD,aO]at o
  rw[fY,ae h.1,ae e,ao o]at t
  let⟨v,m⟩:=cq b.cy i.bM.toNat
  let⟨p,G,s,F,w,g1,g2⟩:=(oK.ext g x).aQ m
  have:=s.len
  exact⟨V,V,p,w,_,_,rfl,by rw[gD,ae l,ae n,ae e,ao o];exact⟨v,m,V,V⟩,g⟩
 simp only[bW,ap]at o
 have r:¬(i.op=9\/i.op=24):=V
 refine⟨λk=>?_,λk=>?_⟩
 .simp only[aO]at k
  rw[fY,ae h.1,ae e,ae r,ao k]at t
  obtain⟨L,v,m,_⟩:=t
  let⟨p,G,s,F,w,g1,g2⟩:=(oK.ext g x).aQ m
  have:=s.len
  have:=s.fA
  have:=az m
  have y:cQ ((p.len:Int) -1)=(v.params.length:Int) -1:=by rw[aS V V];omega
  exact⟨V,V,p,w,_,_,rfl,by rw[gD,ae l,ae n,ae e,ae r,ao k];exact⟨v,m,y,y⟩,g⟩
 simp only[ap]at k
 refine⟨λm=>?_,λm=>?_⟩
 .simp only[cD,aO]at m
  exact⟨_,_,rfl,by rw[gD,ae l,ae n,ae e,ae r,ae k,ao m];exact⟨rfl,rfl⟩,g⟩
 .simp only[bW,ap]at m
  have p:¬(i.op=16\/i.op=17):=V
  exact⟨_,_,rfl,by rw[gD,ae l,ae n,ae e,ae r,ae k,ae p];exact⟨rfl,rfl⟩,g⟩
end
section
variable{m:E}{x k:Int}{a b1:Nat}{c:O}
def wY(b:af m a 0=some (vi k))(d:af m b1 4=some (O.v c)):
 dA cv 99 [vi x,vp a 0,vp b1 0] m (k+1<=x/\x<=(c.len:Int) -1):=by
 apply nK (a,0) (b1,0)
 refine⟨k,b,λh=>⟨c,d,fV ?_ (J.aH _)⟩,λh=>cw ?_ (J.aH _)⟩<;>simp at h
 .simp;omega
 .omega
def II{b2:Nat}(b:af m a 0=some (vi k))(d:af m b1 4=some (O.v c))
 (e:af m b2 0=some (.func (.func 99) #[] #[vp a 0,vp b1 0])):
 dA cv 100 [vi x,vp b2 0] m (¬(k+1<=x/\x<=(c.len:Int) -1)):=by
 apply nL (b2,0)
 refine⟨(.func 99,#[],#[vp a 0,vp b1 0]),e,_,rfl,rfl,?_⟩
 refine(wY b d).then λh i f g=>⟨_,rfl,fV ?_ g⟩
 rw[<-f];simp
def Ic{u:cr}{p:da}{k:Nat}{i:Instr}(N:p.ax<=1000000)(L:u.cy.length<=4)(F:∀q∈u.cy,q.params.length<=3):
 iu u p k i<->((0<=i.op/\i.op<=24/\i.op≠7/\i.op≠8/\i.op≠12/\i.op≠13)/\(0<=i.dst/\i.dst<p.ax/\(i.dst=0\/jE i.op)/\0<=i.bY/\i.bY<=p.ax/\(i.bY=0\/i.op=6))/\
  (∀n∈i.args,0<=n/\n<p.ax)/\(i.di.length=0\/i.op=21)/\(∀t∈i.di,(k:Int)+1<=t/\t<=(p.bt.length:Int) -1)/\
  fY u i (λt=>(k:Int)+1<=t/\t<=(p.bt.length:Int) -1)/\∀j h,gD u i j h->j<=i.args.length/\(i.args.length:Int)<=h):=by
 have M:(0<=i.dst/\i.dst<p.ax)->0<p.ax:=λw=>V
 constructor
 .intro w
  have b:=w.op
  have hd:=w.dst
  have C:∀n∈i.args,0<=n/\n<p.ax:=λn f=>by have:=w.args n f;omega
  have s:i.op≠21->∀t∈i.di,(k:Int)+1<=t/\t<=(p.bt.length:Int) -1:=λH t I=>by
   rcases w.di with o|o
   .exact absurd o H
   .rw[List.length_eq_zero_iff.1 o]at I;cases I
  have D:i.di.length=0\/i.op=21:=w.di.symm
  have G:0<=i.dst/\i.dst<p.ax:=V
  have hO:∀(_:0<=i.op/\i.op<=24/\i.op≠7/\i.op≠8/\i.op≠12/\i.op≠13)(_:0<=i.bY/\i.bY<=p.ax)(_:∀t∈i.di,(k:Int)+1<=t/\t<=(p.bt.length:Int) -1)
   (_:fY u i (λt=>(k:Int)+1<=t/\t<=(p.bt.length:Int) -1))(_:∀j h,gD u i j h->j<=i.args.length/\(i.args.length:Int)<=h),_:=
   λE B F K o=>(⟨E,⟨G.1,G.2,w.UZ,B.1,B.2,w.bY⟩,C,D,F,K,o⟩:(0<=i.op/\i.op<=24/\i.op≠7/\i.op≠8/\i.op≠12/\i.op≠13)/\(0<=i.dst/\i.dst<p.ax/\(i.dst=0\/jE i.op)/\0<=i.bY/\i.bY<=p.ax/\(i.bY=0\/i.op=6))/\
   (∀n∈i.args,0<=n/\n<p.ax)/\(i.di.length=0\/i.op=21)/\(∀t∈i.di,(k:Int)+1<=t/\t<=(p.bt.length:Int) -1)/\
   fY u i (λt=>(k:Int)+1<=t/\t<=(p.bt.length:Int) -1)/\∀j h,gD u i j h->j<=i.args.length/\(i.args.length:Int)<=h)
  have r:i.op≠6->0<=i.bY/\i.bY<=p.ax:=λH=>by rcases w.bY with o|o<;>omega
  unfold kK at b
  by_cases c:i.op=0
  .rw[ao c]at b
   refine hO V (r V) (s V) (by rw[fY,ao c];exact b.2) (λj h f=>?_)
   rw[gD,ao (Or.inl c)]at f;omega
  rw[ae c]at b
  by_cases g:i.op=1\/i.op=2\/i.op=3\/i.op=4\/i.op=11
  .rw[ao g]at b
   refine hO V (r V) (s V) ?_ (λj h f=>?_)
   .rw[fY,ae c,ae V,ae V,ae V,ae V,ae V,ae V];exact b.2
   .rw[gD,ae V,ao g]at f;omega
  rw[ae g]at b
  by_cases A:i.op=5\/i.op=14\/i.op=15\/i.op=18\/i.op=23
  .rw[ao A]at b
   refine hO V (r V) (s V) ?_ (λj h f=>?_)
   .rw[fY,ae c,ae V,ae V,ae V,ae V,ae V,ae V];exact b.2
   .rw[gD,ae V,ae g,ae V,ae V,ae V,ae V]at f;omega
  rw[ae A]at b
  by_cases a:i.op=6
  .rw[ao a]at b
   refine hO V b.2.2 (s V) ?_ (λj h f=>?_)
   .rw[fY,ae c,ao a];exact b.1
   .rw[gD,ae V,ae g,ao a]at f;omega
  rw[ae a]at b
  by_cases d:i.op=9\/i.op=24
  .rw[ao d]at b
   let⟨q,o,x,v⟩:=b
   have:=az x
   refine hO V (r V) (s V) ?_ (λj h f=>?_)
   .rw[fY,ae c,ae a,ao d];omega
   .rw[gD,ae V,ae g,ae a,ao d]at f
    let⟨J,l,y,m⟩:=f
    rw[x]at l;simp at l;subst l;omega
  rw[ae d]at b
  by_cases e:i.op=10
  .rw[ao e]at b
   let⟨⟨q,o,x,v⟩,l⟩:=b
   have:=az x
   refine hO V (r V) (s V) ?_ (λj h f=>?_)
   .rw[fY,ae c,ae a,ae d,ao e];exact⟨o,q,x,l q x⟩
   .rw[gD,ae V,ae g,ae a,ae d,ao e]at f
    let⟨J,l,y,m⟩:=f
    rw[x]at l;simp at l;subst l;omega
  rw[ae e]at b
  by_cases l:i.op=16\/i.op=17
  .rw[ao l]at b
   refine hO V (r V) (s V) ?_ (λj h f=>?_)
   .rw[fY,ae c,ae a,ae d,ae e,ae V,ae V,ae V];exact b.2
   .rw[gD,ae V,ae g,ae a,ae d,ae e,ao l]at f;omega
  rw[ae l]at b
  by_cases m:i.op=19
  .rw[ao m]at b
   refine hO V (r V) (s V) ?_ (λj h f=>?_)
   .rw[fY,ae c,ae a,ae d,ae e,ao m];omega
   .rw[gD,ae V,ae g,ae a,ae d,ae e,ae l]at f;omega
  rw[ae m]at b
  by_cases z:i.op=20
  .rw[ao z]at b
   refine hO V (r V) (s V) ?_ (λj h f=>?_)
   .rw[fY,ae c,ae a,ae d,ae e,ae m,ao (Or.inl z)];exact b.2
   .rw[gD,ae V,ae g,ae a,ae d,ae e,ae l]at f;omega
  rw[ae z]at b
  by_cases v:i.op=22
  .rw[ao v]at b
   refine hO V (r V) (s V) ?_ (λj h f=>?_)
   .rw[fY,ae c,ae a,ae d,ae e,ae m,ao (Or.inr v)];exact b.2
   .rw[gD,ao (Or.inr v)]at f;omega
  rw[ae v]at b
  by_cases y:i.op=21
  .rw[ao y]at b
   refine hO V (r V) b.2.2.2 ?_ (λj h f=>?_)
   .rw[fY,ae c,ae a,ae d,ae e,ae m,ae V,ao y]
    have:=b.2.2.1
    exact⟨b.2.1,V⟩
   .rw[gD,ae V,ae g,ae a,ae d,ae e,ae l]at f;omega
  rw[ae y]at b
  exact b.elim
 .rintro⟨E,B,C,D,s,b,h⟩
  refine⟨λn f=>oh (C n f),V,B.2.2.1,B.2.2.2.2.2,D.symm,?_⟩
  unfold kK
  by_cases c:i.op=0
  .rw[ao c]
   rw[fY,ao c]at b
   have:=h 0 0 (by rw[gD,ao (Or.inl c)];exact⟨rfl,rfl⟩)
   exact⟨V,b⟩
  rw[ae c]
  by_cases g:i.op=1\/i.op=2\/i.op=3\/i.op=4\/i.op=11
  .rw[ao g]
   rw[fY,ae c,ae V,ae V,ae V,ae V,ae V,ae V]at b
   have:=h 2 2 (by rw[gD,ae V,ao g];exact⟨rfl,rfl⟩)
   exact⟨V,b⟩
  rw[ae g]
  by_cases A:i.op=5\/i.op=14\/i.op=15\/i.op=18\/i.op=23
  .rw[ao A]
   rw[fY,ae c,ae V,ae V,ae V,ae V,ae V,ae V]at b
   have:=h 1 1 (by rw[gD,ae V,ae g,ae V,ae V,ae V,ae V];exact⟨rfl,rfl⟩)
   exact⟨V,b⟩
  rw[ae A]
  by_cases a:i.op=6
  .rw[ao a]
   rw[fY,ae c,ao a]at b
   have:=h _ _ (by rw[gD,ae V,ae g,ao a];exact⟨rfl,rfl⟩)
   exact⟨b,V,V⟩
  rw[ae a]
  by_cases d:i.op=9\/i.op=24
  .rw[ao d]
   rw[fY,ae c,ae a,ao d]at b
   let⟨q,j⟩:=cq u.cy i.bM.toNat
   have:=h _ _ (by rw[gD,ae V,ae g,ae a,ao d];exact⟨q,j,rfl,rfl⟩)
   exact⟨q,b.1,j,V⟩
  rw[ae d]
  by_cases e:i.op=10
  .rw[ao e]
   rw[fY,ae c,ae a,ae d,ao e]at b
   let⟨o,q,j,x⟩:=b
   have:=h _ _ (by rw[gD,ae V,ae g,ae a,ae d,ao e];exact⟨q,j,rfl,rfl⟩)
   refine⟨⟨q,o,j,V⟩,λJ r=>?_⟩
   rw[j]at r;simp at r;subst r;exact x
  rw[ae e]
  by_cases l:i.op=16\/i.op=17
  .rw[ao l]
   rw[fY,ae c,ae a,ae d,ae e,ae V,ae V,ae V]at b
   have:=h 1 4 (by rw[gD,ae V,ae g,ae a,ae d,ae e,ao l];exact⟨rfl,rfl⟩)
   exact⟨V,b⟩
  have j:i.op≠22->∀(c:¬i.op=0)(g:¬(i.op=1\/i.op=2\/i.op=3\/i.op=4\/i.op=11))(a:¬i.op=6)(d:¬(i.op=9\/i.op=24))(e:¬i.op=10)(l:¬(i.op=16\/i.op=17)),i.args.length=1:=λo c g a d e l=>by
   have:=h 1 1 (by rw[gD,ae V,ae g,ae a,ae d,ae e,ae l];exact⟨rfl,rfl⟩);omega
  rw[ae l]
  by_cases m:i.op=19
  .rw[ao m]
   rw[fY,ae c,ae a,ae d,ae e,ao m]at b
   exact⟨j V c g a d e l,V,V⟩
  rw[ae m]
  by_cases z:i.op=20
  .rw[ao z]
   rw[fY,ae c,ae a,ae d,ae e,ae m,ao (Or.inl z)]at b
   exact⟨j V c g a d e l,b⟩
  rw[ae z]
  by_cases v:i.op=22
  .rw[ao v]
   rw[fY,ae c,ae a,ae d,ae e,ae m,ao (Or.inr v)]at b
   have:=h 0 0 (by rw[gD,ao (Or.inr v)];exact⟨rfl,rfl⟩)
   exact⟨V,b⟩
  rw[ae v]
  by_cases y:i.op=21
  .rw[ao y]
   rw[fY,ae c,ae a,ae d,ae e,ae m,ae V,ao y]at b
   exact⟨j V c g a d e l,b.1,V,s⟩
  rw[ae y]
  omega
end
section
variable{b:E}{d:O}{c:cr}
def C0{W ah aw Q:O}(hd:bZ b d c.bu)(ht:dI c.bu)(hf:oK b W c.cy)(aI:c.cy.length<=4)(h3:∀q∈c.cy,q.params.length<=3)
 {q:da}(hc:dZ b Q q.bt)(hr:q.ax<=2000){l:Nat}{e:Instr}{K P:O}(X:au b K e.args)(hj:au b P e.di):
 dA cv 56 [.agg #[O.v d,O.v W],.agg #[O.v ah,O.v aw,vi q.aT,vi q.ax,O.v Q],vi l,.agg #[vi e.op,vi e.dst,vi e.bM,vi e.bY,O.v K,O.v P]] b (iu c q l e):=by
 apply oR
 simp -zeta only[aG,aF]
 intro B A E w
 have s1:B.size=b.size+1:=by simp[B]
 have s2:A.size=b.size+2:=by simp[A,s1]
 have s3:E.size=b.size+3:=by simp[E,s2]
 have s4:w.size=b.size+4:=by simp[w,s3]
 have z:J b w:=((((J.aH b).aR _).aR _).aR _).aR _
 have am:cB w A.size aA [.i l]:=(cB.push A _ _).ext (J.push _ _)
 have an:cB w B.size jd [.s ah,.s aw,.i q.aT,.i q.ax,.s Q]:=(cB.push B _ _).ext ((J.push A _).aR _)
 have u:=Ic (u:=c) (p:=q) (k:=l) (i:=e) (oh hr) aI h3
 have aB:=hc.len
 have aR:=X.len
 have aS:=hj.len
 clear_value w
 clear_value E
 clear_value A
 clear_value B
 refine⟨λh=>cw (λf=>?_) z,λc0=>⟨λh=>cw (λf=>?_) z,λc1=>⟨λh=>cw (λf=>?_) z,λc2=>⟨λh=>cw (λf=>?_) z,λc3=>⟨λh=>cw (λf=>?_) z,λc4=>⟨λh=>cw (λf=>?_) z,λc5=>?_⟩⟩⟩⟩⟩⟩
 any_goals (have:=(u.1 f).1;simp at h;omega)
 simp at c0 c1 c2 c3 c4 c5
 have f1:0<=e.op/\e.op<=24/\e.op≠7/\e.op≠8/\e.op≠12/\e.op≠13:=V
 refine⟨λx=>J w x/\(0<=e.dst/\e.dst<q.ax/\(e.dst=0\/jE e.op)/\0<=e.bY/\e.bY<=q.ax/\(e.bY=0\/e.op=6)),?_,?_⟩
 .refine⟨λh=>cw (λf=>?_) z,λG=>⟨λh=>cw (λf=>?_) z,λI=>?_⟩⟩
  .have:=(u.1 f).2.1;simp at h;omega
  .have:=(u.1 f).2.1;simp at h;omega
  simp at G I
  have tail:∀x,J w x->(e.dst=0\/jE e.op)->((decide (e.bY<(0:Int)))=true->∃g:Bool,Value.bool false=.bool g/\(g=true<->iu c q l e)/\J b x)/\((decide (e.bY<(0:Int)))=false->
   ((decide (e.bY>q.ax))=true->∃g:Bool,Value.bool false=.bool g/\(g=true<->iu c q l e)/\J b x)/\((decide (e.bY>q.ax))=false->
   ((e.bY !=(0:Int))=true->((e.op !=(6:Int))=true->∃g:Bool,Value.bool false=.bool g/\(g=true<->iu c q l e)/\J b x)/\((e.op !=(6:Int))=false->J w x/\(0<=e.dst/\e.dst<q.ax/\(e.dst=0\/jE e.op)/\0<=e.bY/\e.bY<=q.ax/\(e.bY=0\/e.op=6))))/\
   ((e.bY !=(0:Int))=false->J w x/\(0<=e.dst/\e.dst<q.ax/\(e.dst=0\/jE e.op)/\0<=e.bY/\e.bY<=q.ax/\(e.bY=0\/e.op=6))))):=by
   intro x H N
   have L:=z.trans H
   refine⟨λh=>cw (λf=>?_) L,λC=>⟨λh=>cw (λf=>?_) L,λF=>⟨λt=>⟨λh=>cw (λf=>?_) L,λM=>⟨H,?_⟩⟩,λt=>⟨H,?_⟩⟩⟩⟩
   .have:=(u.1 f).2.1;simp at h;omega
   .have:=(u.1 f).2.1;simp at h;omega
   .have:=(u.1 f).2.1.2.2.2.2.2;simp at h t;omega
   .simp at C F M;exact⟨G,I,N,C,F,Or.inr M⟩
   .simp at C F t;exact⟨G,I,N,C,F,Or.inl t⟩
  refine⟨λh=>?_,λh=>tail w (J.aH _) (Or.inl (by simpa using h))⟩
  refine(qB e.op w ⟨V,V⟩).aK (J.aH _) bS λv x D H _=>⟨v,rfl,λy=>cw (λf=>?_) (z.trans H),λy=>tail x H (Or.inr (yb D y))⟩
  have:=(u.1 f).2.1.2.2.1
  simp at h
  rcases this with s|s
  .exact h s
  .exact nb D y s
 .rintro x ⟨H,f2⟩
  refine eu (n:=e.args.length) (oh X.fA) (λae R=>J w R/\∀G∈e.args.take ae,0<=G/\G<q.ax) ⟨H,aJ⟩ ?_
  rintro ae I aQ μ hn ⟨y,aj⟩ aN
  have aa:=z.trans y
  refine dit (λh=>?_) λh=>?_
  .let⟨G,t⟩:=cq e.args ae
   refine⟨V,V,G,by simpa using(X.ext aa).aQ t,λs=>cw (λf=>?_) aa,λs=>⟨λC=>cw (λf=>?_) aa,λC=>aN V _ ⟨y,bN t aj ?_⟩⟩⟩
   .have:=(u.1 f).2.2.1 G (av t);simp at s;omega
   .have:=(u.1 f).2.2.1 G (av t);simp at C;omega
   .simp at s C;omega
  .have ax:∀G∈e.args,0<=G/\G<q.ax:=cU V aj
   intro m7 F
   have s8:F.size=I.size+1:=by simp[F,m7,aD]
   have C:J I F:=((J.aH I).aR _).aj (ad _) _ _
   have ac:=aa.trans C
   have al:af F I.size 0=some (.func (.func 99) #[] #[vp A.size 0,vp B.size 0]):=
    (cB.aj (m:=m7) (o:=0) (r:=[.fn (.func 99) #[] #[vp A.size 0,vp B.size 0]]) (cB.push I _ _)).cK 0
   have aT:=y.size
   clear_value F
   have aL:∀N,J F N->∀t,dA cv 99 [vi t,vp A.size 0,vp B.size 0] N ((l:Int)+1<=t/\t<=(q.bt.length:Int) -1):=λN s t=>by
    rw[<-aB];exact wY (am.ext (y.trans (C.trans s))|>.cK 0) (an.ext (y.trans (C.trans s))|>.cK 4)
   have jZ:(e.di.length=0\/e.op=21)->aP cv 59 [O.v P,.func (.func 100) #[] #[vp I.size 0]] F λaO U=>
    eF [E.size,b.size] F U/\∃ag:Bool,aO=vb ag/\(ag=true->∃g:Bool,Value.bool false=.bool g/\(g=true<->iu c q l e)/\J b U)/\
    (ag=false->∃L:Fn×Array Value×Array Value,af U I.size 0=some (.func L.1 L.2.1 L.2.2)/\
    aP cv 101 [.agg #[O.v d,O.v W],.agg #[vi e.op,vi e.dst,vi e.bM,vi e.bY,O.v K,O.v P],.func L.1 L.2.1 L.2.2] U λab M=>
    eF [E.size,b.size] U M/\∃T:Bool,ab=vb T/\((!T)=true->∃g:Bool,Value.bool false=.bool g/\(g=true<->iu c q l e)/\J b M)/\
    ((!T)=false->aP cv 102 [.agg #[O.v d,O.v W],.agg #[vi e.op,vi e.dst,vi e.bM,vi e.bY,O.v K,O.v P]] M λai S=>
    eF [E.size,b.size] M S/\∃Y:Int,∃Z:Int,ai=.tuple #[vi Y,vi Z]/\
    ((decide ((K.len:Int)>=Y))=true->∃g:Bool,Value.bool (decide ((K.len:Int)<=Z))=.bool g/\(g=true<->iu c q l e)/\J b S)/\
    ((decide ((K.len:Int)>=Y))=false->∃g:Bool,Value.bool false=.bool g/\(g=true<->iu c q l e)/\J b S))):=by
    intro aC
    have hl:∀v∈[E.size,b.size],v<F.size:=bS
    refine(mw (hj.ext ac) 100 #[] #[vp I.size 0] bo (λt=>¬((l:Int)+1<=t/\t<=(Q.len:Int) -1)) (λt _ N s=>II (am.ext (y.trans (C.trans s))|>.cK 0) (an.ext (y.trans (C.trans s))|>.cK 4) (s.af al))).aK (J.aH _) hl ?_
    intro v N D s _
    have M:=ac.trans s
    refine⟨v,rfl,λaz=>cw (λf=>?_) M,λay=>?_⟩
    .let⟨t,ab,g⟩:=D.1 az
     have:=(u.1 f).2.2.2.2.1 t ab
     exact g V
    have aE:∀t∈e.di,(l:Int)+1<=t/\t<=(q.bt.length:Int) -1:=λt ab=>by
     rcases gX ((l:Int)+1<=t/\t<=(Q.len:Int) -1)with h|h
     .omega
     .exact absurd (D.2 ⟨t,ab,h⟩) (by simp[ay])
    refine⟨(.func 99,#[],#[vp A.size 0,vp B.size 0]),s.af al,?_⟩
    have ao:∀v∈[E.size,b.size],v<N.size:=λv D=>s.lt (hl v D)
    refine(GF (bZ.ext M hd) ht (oK.ext M hf) (X.ext M) (hj.ext M) 99 #[] #[vp A.size 0,vp B.size 0] bo (λt=>(l:Int)+1<=t/\t<=(q.bt.length:Int) -1) (λR g=>by simpa using aL R (s.trans g) e.bM)).aK (J.aH _) ao ?_
    intro b2 aM ak L _
    have Z:=M.trans L
    refine⟨b2,rfl,λh=>cw (λf=>nb ak h (u.1 f).2.2.2.2.2.1) Z,λh=>?_⟩
    have ap:=yb ak h
    have aH:∀v∈[E.size,b.size],v<aM.size:=λv D=>L.lt (ao v D)
    refine(Ki (bZ.ext Z hd) ht (oK.ext Z hf) (a:=K) (j:=P) ap).aK (J.aH _) aH ?_
    rintro _ aU ⟨lo,Y,rfl,R,ai⟩
    have ar:=Z.trans ai
    have aK:∀T S,gD c e T S->T=lo/\S=Y:=λT S g=>by
     unfold gD at R g;repeat' (split at R)
     all_goals simp_all
     all_goals (obtain⟨q1,e1,e2,e3⟩:=R;simp_all)
    refine⟨ai,lo,Y,rfl,λh=>fV ?_ ar,λh=>cw (λf=>?_) ar⟩
    .rw[u]
     simp only[aq]at h⊢
     refine⟨λg=>⟨f1,f2,ax,aC,aE,ap,λT S h2=>?_⟩,λg=>?_⟩
     .obtain⟨rfl,rfl⟩:=aK T S h2;omega
     .have:=g.2.2.2.2.2.2 lo Y R;omega
    .have:=(u.1 f).2.2.2.2.2.2 lo Y R
     simp at h;omega
   refine⟨λs=>⟨λL=>cw (λf=>?_) ac,λL=>jZ (Or.inr (by simpa using L))⟩,λs=>jZ (Or.inl (by simp at s;omega))⟩
   have:=(u.1 f).2.2.2.1
   simp at s L;omega
def CW{ah:O}(v:eY b d ah c):dA cv 27 [.agg #[O.v d,O.v ah]] b (Ej c):=by
 apply xF;simp -zeta only[aG,aF];intro F;have ac:J b F:=(J.aH b).aR _;have s1:F.size=b.size+1:=by simp[F]
 clear_value F;refine(EF (v.ext ac)).aK (J.aH _) bS ?_;rintro _ M ⟨d',aj,ai,rfl,Y,an,H⟩;refine⟨H,d',aj,ai,rfl,?_⟩;intro m3 t;have s4:t.size=M.size+1:=by simp[t,m3,aD]
 have W:J M t:=((J.aH M).aR _).aj (ad _) _ _;have af:J b t:=(ac.trans H).trans W;have:=H.size;have aI:=v.cy.len;have aK:=v.cy.fA;clear_value t;refine⟨λhn=>cw (λf=>nb Y hn ⟨f.pA,λq x=>(f.df q x).dg⟩) af,λhy=>?_⟩;let⟨D,am⟩:=yb Y hy;obtain⟨rfl,hf⟩:=an (by simpa using hy);refine eu (n:=c.cy.length) V (λQ z=>J t z/\∀q∈c.cy.take Q,PT c q) ⟨J.aH _,aJ⟩ ?_;rintro Q N aw μ hn ⟨A,X⟩ au
 have K:=af.trans A;refine dit (λaE=>?_) λaB=>?_
 .let⟨q,x⟩:=cq c.cy Q;let⟨R,ag,S,ha,hl,w,g0,g1,g2,g3,g4⟩:=(v.ext K).cy.aQ x;refine⟨V,V,R,by simpa using g0,ag,by simpa using g1,_,by simpa using g2,_,by simpa using g3,S,by simpa using g4,?_⟩;intro m6 u;have s7:u.size=N.size+1:=by simp[u,m6,aD]
  have r:J N u:=((J.aH N).aR _).aj (ad _) _ _;have s:=K.trans r;have ax:=ha.len;have ay:=w.len;have aA:=w.fA;have o:=av x;clear_value u;refine⟨λe=>cw (λf=>?_) s,λT=>⟨λe=>cw (λf=>?_) s,λe2=>⟨λe=>cw (λf=>?_) s,λe3=>⟨λe=>cw (λf=>?_) s,λe4=>?_⟩⟩⟩⟩
  .have:=(f.df q o).ax;simp at e;split at e<;>omega
  .have:=(f.df q o).ax;simp at e;omega
  .have:=(f.df q o).len;simp at e;omega
  .have:=(f.df q o).len;simp at e;omega
  have ab:(q.params.length:Int)<=q.ax/\1<=q.ax/\q.ax<=2000:=by
   simp at T e2;split at T<;>omega
  have al:1<=q.bt.length/\(q.bt.length:Int)<=2000:=by simp at e3 e4;omega
  let⟨E,I⟩:=cq q.bt (q.bt.length -1);obtain⟨a0,j0,_,_,L,_⟩:=(dZ.ext r w).aQ I;refine⟨λz=>J u z/\(E.op=23\/E.op=24),?_,?_⟩
  .have e:cQ ((S.len:Int) -1)=((q.bt.length -1:Nat):Int):=by rw[aS V V];omega
   rw[e];refine⟨V,V,E.op,by simpa using L,λg=>⟨λh=>cw (λf=>?_) s,λh=>⟨J.aH _,Or.inr (by simpa using h)⟩⟩,λg=>⟨J.aH _,Or.inl (by simpa using g)⟩⟩;have:=(f.df q o).yU E I;simp at g h;omega
  .rintro m8 ⟨h8,ak⟩;refine eu (n:=q.bt.length) V (λy z=>J u z/\∀(j:Nat)(h:Instr),j<y->q.bt[j]? =some h->iu c q j h) ⟨h8,λj h C=>V⟩ ?_;rintro y P I2 μ2 hk ⟨m,aa⟩ ar;refine dit (λaH=>?_) λaC=>?_
   .let⟨h,g⟩:=cq q.bt y;let⟨xa,xj,ao,ap,L,k1,k2,k3,k4,k5⟩:=(dZ.ext (r.trans m) w).aQ g;refine⟨V,V,_,by simpa using L,_,by simpa using k1,_,by simpa using k2,_,by simpa using k3,xa,by simpa using k4,xj,by simpa using k5,?_⟩;intro aq G;have aM:G.size=P.size+1:=by simp[G,aq,aD]
    have p:J P G:=((J.aH P).aR _).aj (ad _) _ _;have ae:=(s.trans m).trans p;have q1:=m.size;have q2:=A.size;clear_value G;refine(C0 (ah:=R) (aw:=ag) (bZ.ext ae v.bu) D.types (oK.ext (W.trans (A.trans (r.trans (m.trans p)))) hf) D.len.2 (λU B=>(D.df U B).1) (dZ.ext (r.trans (m.trans p)) w) ab.2.2 (l:=y) (e:=h) (ao.ext p) (ap.ext p)).aK (J.aH _) bS ?_;intro b' aL Z U _;refine⟨b',rfl,λe=>cw (λf=>nb Z e ((f.df q o).df y h g)) (ae.trans U),λe=>ar V _ ⟨m.trans (p.trans U),λj i' C B=>?_⟩⟩;rcases Nat.lt_succ_iff_lt_or_eq.1 C with C|rfl
    .exact aa j i' C B
    .rw[g]at B;simp at B;subst B;exact yb Z e
   .refine au V _ ⟨A.trans (r.trans m),bN x X ⟨am q o,ab,al,λj h g=>aa j h (oh (az g)) g,λh g=>?_⟩⟩
    rw[I]at g;simp at g;subst g;exact ak
 .exact jt ⟨D,cU V X,bo⟩ K
end
section
variable{m:E}{s:O}{k:Nat}{γ σ:Type}
def OB(m:E)(a:List Ce)(c:bU):Prop:=∃f,a=[.i c.aV,.i c.mJ,.s f]/\au m f c.aN
def JF(m:E)(a:List Ce)(f:be):Prop:=∃r o h,a=[.i f.dW,.i f.pc,.i f.dst,.s r,.s o,.s h]/\au m r f.ax/\au m o f.bg/\au m h f.bB
abbrev cX(m:E)(s:O)(l:List bU):Prop:=eO m 3 (OB m) s l
abbrev lW(m:E)(s:O)(l:List be):Prop:=eO m 6 (JF m) s l
def OB.ext{m b:E}(g:J m b)(a:List Ce)(c:bU):OB m a c->OB b a c:=λ⟨f,d,e⟩=>⟨f,d,e.ext g⟩
def cX.ext{m b:E}(a:J m b){s:O}{l:List bU}(h:cX m s l):cX b s l:=h.mono a (OB.ext a)
def JF.ext{m d:E}(a:J m d)(b:List Ce)(c:be):JF m b c->JF d b c:=λ⟨r,o,h,e,f,g,i⟩=>⟨r,o,h,e,f.ext a,g.ext a,i.ext a⟩
def lW.ext{m b:E}(a:J m b){s:O}{l:List be}(h:lW m s l):lW b s l:=h.mono a (JF.ext a)
def cX.aQ{l:List bU}(h:cX m s l){x:bU}(c:l[k]? =some x):
 ∃f,au m f x.aN/\af m s.aC (s.off+k*3)=some (vi x.aV)/\af m s.aC (s.off+k*3+1)=some (vi x.mJ)/\af m s.aC (s.off+k*3+2)=some (O.v f):=by
 obtain⟨d,⟨f,rfl,b⟩,a⟩:=h.jD k x c
 exact⟨f,b,a 0 (.i x.aV) rfl,a 1 (.i x.mJ) rfl,a 2 (.s f) rfl⟩
def lW.aQ{l:List be}(h:lW m s l){x:be}(b:l[k]? =some x):
 ∃r o e,au m r x.ax/\au m o x.bg/\au m e x.bB/\af m s.aC (s.off+k*6)=some (vi x.dW)/\af m s.aC (s.off+k*6+1)=some (vi x.pc)/\af m s.aC (s.off+k*6+2)=some (vi x.dst)/\
  af m s.aC (s.off+k*6+3)=some (O.v r)/\af m s.aC (s.off+k*6+4)=some (O.v o)/\af m s.aC (s.off+k*6+5)=some (O.v e):=by
 obtain⟨f,⟨r,o,e,rfl,d,c,a⟩,kZ⟩:=h.jD k x b
 exact⟨r,o,e,d,c,a,kZ 0 (.i x.dW) rfl,kZ 1 (.i x.pc) rfl,kZ 2 (.i x.dst) rfl,kZ 3 (.s r) rfl,kZ 4 (.s o) rfl,kZ 5 (.s e) rfl⟩
def _root_.Go.Vc.eO.Gs{l:List Int}(h:eO m 1 UD s l){i:Int}(a:0<=i)(b:i<l.length):af m s.aC (s.off+i.toNat*1)=some (vi (aQ l i)):=au.aQ h (pI a b)
structure RV(m:E)(mb o:Nat)(d p bC hp fr:O)(im:cr)(s:St):Prop where
 eT:eY m d p im
 bu:af m mb 0=some (O.v d)
 cy:af m mb 1=some (O.v p)
 cY:af m mb o=some (vi s.cY)
 value:af m mb (o+1)=some (vi s.value)
 bO:af m mb (o+2)=some (vi s.bO)
 eH:af m mb (o+3)=some (vi s.eH)
 Z9:af m mb (o+4)=some (O.v bC)
 EC:af m mb (o+5)=some (O.v hp)
 Q5:af m mb (o+6)=some (O.v fr)
 bC:au m bC s.bC
 heap:cX m hp s.heap
 ak:lW m fr s.ak
def RV.ext{m f:E}{g o:Nat}{d p bC c b:O}{e:cr}{s:St}(h:RV m g o d p bC c b e s)(a:J m f):RV f g o d p bC c b e s:=
 ⟨h.eT.ext a,a.af h.bu,a.af h.cy,a.af h.cY,a.af h.value,a.af h.bO,a.af h.eH,a.af h.Z9,a.af h.EC,a.af h.Q5,h.bC.ext a,cX.ext a h.heap,lW.ext a h.ak⟩
def WR(P:Nat->Prop):∀(n:Nat),P n->∃k,P k/\∀j,P j->k<=j:=by
 intro n;induction n using Nat.strongRecOn with
 |_ n e=>
  intro b;rcases gX (∃j,j<n/\P j)with⟨j,a,d⟩|c
  .exact e j a d
  .exact⟨n,b,λj a=>eU λh=>c ⟨j,V,a⟩⟩
def wW{p:σ}{j:(σ->E->Prop)->(σ->E->Nat)->σ->E->Prop}(J:γ->σ->E->Prop)(ν:γ->Nat)(l:γ)(r:J l p m)
 (q:∀(g:γ)(s:σ)(a:E)(I:σ->E->Prop)(μ:σ->E->Nat),J g s a->(∀b d c,J b d c->ν b<ν g->I d c/\μ d c<μ s a)->j I μ s a):
 ∃(I:σ->E->Prop)(μ:σ->E->Nat),I p m/\∀s a,I s a->j I μ s a:=by
 classical
 let I:σ->E->Prop:=λs m=>∃g,J g s m
 have h:∀s m,I s m->∃k,(∃g,J g s m/\ν g=k)/\∀o,(∃g,J g s m/\ν g=o)->k<=o:=λs m⟨g,i⟩=>WR _ (ν g) ⟨g,i,rfl⟩
 let μ:σ->E->Nat:=λs m=>if e:I s m then Classical.choose (h s m e)else 0
 refine⟨I,μ,⟨l,r⟩,λs a e=>?_⟩
 let⟨g,i,u⟩:=(fy (h s a e)).1
 refine q g s a I μ i λb d c f t=>⟨⟨b,f⟩,?_⟩
 have n:I d c:=⟨b,f⟩
 simp only[μ,Sk e,Sk n]
 exact mT ((fy (h d c n)).2 _ ⟨b,f,rfl⟩) (u▸t)
def Rv{τ:Type}{i:σ}{j:τ}{h:(σ->τ->E->Prop)->(σ->τ->E->Nat)->σ->τ->E->Prop}(J:γ->σ->τ->E->Prop)(ν:γ->Nat)(k:γ)(n:J k i j m)
 (l:∀(g:γ)(s:σ)(t:τ)(a:E)(I:σ->τ->E->Prop)(μ:σ->τ->E->Nat),J g s t a->(∀f d e c,J f d e c->ν f<ν g->I d e c/\μ d e c<μ s t a)->h I μ s t a):
 ∃(I:σ->τ->E->Prop)(μ:σ->τ->E->Nat),I i j m/\∀s t a,I s t a->h I μ s t a:=by
 let⟨I,μ,o,p⟩:=wW (σ:=σ×τ) (p:=(i,j)) (j:=λI μ b a=>h (λs t=>I (s,t)) (λs t=>μ (s,t)) b.1 b.2 a) (λg b m=>J g b.1 b.2 m) ν k n (λg b a I μ q r=>l g b.1 b.2 a (λs t=>I (s,t)) (λs t=>μ (s,t)) q λf d e c=>r f (d,e) c)
 exact⟨λs t=>I (s,t),λs t=>μ (s,t),o,λs t=>p (s,t)⟩
end
section
variable{m g:E}{s d p a j t o e:O}{b r:List Int}{f:Nat}{K:Value->E->Prop}{c:cr}{x:Instr}
def _root_.Go.Vc.eO.sK(h:eO m 1 UD s b):gN m s.aC s.off (b.map Ce.i):=λi d a=>by
 rw[bT]at a;obtain⟨x,c,rfl⟩:=Option.map_eq_some_iff.1 a;have:=au.aQ h c;rw[cT]at this;exact this
def nE(f:Nat)(c:List Value)(m:E)(b:List Int):Prop:=aP cv f c m λv a=>∃s,v=O.v s/\gS m a aA 1 s (b.map Ce.i)/\J m a
def nE.then{c:List Value}(h:nE f c m b)(i:b.length<=1000000000)(e:∀s a,gS m a aA 1 s (b.map Ce.i)->au a s b->J m a->K (O.v s) a):aP cv f c m K:=
 h.mono λ_ _⟨s,d,a,g⟩=>d▸e s _ a (au.gG a V) g
def nE.aK{c:List Value}{d:List Nat}(h:nE f c m b)(l:b.length<=1000000000)(i:∀a∈d,a<m.size)(k:∀s a,gS m a aA 1 s (b.map Ce.i)->au a s b->J m a->K (O.v s) a):aP cv f c m λv a=>eF d m a/\K v a:=
 h.mono λ_ _⟨s,j,e,g⟩=>⟨g.de i,j▸k s _ e (au.gG e V) g⟩
def dK(w:Int)(m:E):dA cv 92 [vi w] m (1000<=w):=by
 apply zQ;exact fV aJ (J.aH _)
def gQ{a:O}{h:List bU}(j:cX m a h){w:Int}(C: -9223372036854775808<=w/\w<=9223372036854775807):dA cv 51 [O.v a,vi w] m (ib h w):=by
 apply Ft;have z:=j.len;have A:=j.fA;have o:cQ ((a.len:Int) -1)=(a.len:Int) -1:=aS V V;rw[o];have x:cQ (w -1000)=w -1000\/(w<1000/\¬(0<=cQ (w -1000)/\cQ (w -1000)<=(a.len:Int) -1))\/(w<1000/\cQ (w -1000)=w -1000+18446744073709551616):=by
  rcases gX (-9223372036854775808<=w -1000)with b|b
  .exact Or.inl (aS b V)
  .refine Or.inr (Or.inr ⟨V,?_⟩);simp only[cQ,IntKind.wrap,IntKind.signed,IntKind.bits];simp;omega
 refine(ba _ _ _ _).then λn D i b=>⟨n,rfl,λu=>?_,λt=>?_⟩
 .refine(dK _ _).then λb2 E l g=>⟨b2,rfl,λs=>?_,λr=>cw (λc=>fb l r c.1) (b.trans g)⟩;have k:=l.1 s;have p:cQ (w -1000)=w -1000:=aS V V;rw[p]at i⊢;have B:=i.1 u;let⟨e,c⟩:=cq h ((w -1000).toNat);obtain⟨f,y,q,_⟩:=(cX.ext (b.trans g) j).aQ c;refine⟨V,V,e.aV,q,fV ?_ (b.trans g)⟩;simp only[iX,aq];refine⟨λa=>⟨k,e,c,a⟩,λ⟨_,v,d,a⟩=>?_⟩;unfold ix at d;rw[c]at d;simp at d;subst d;exact a
 .refine cw (λ⟨k,e,c,_⟩=>fb i t ?_) b;have:=az c;unfold ix at this;rw[aS V V];omega
def KX(a:Int)(m:E):dA cv 167 [vi a] m (wg a):=by
 apply Fs;refine⟨λh=>jt ?_ (J.aH _),λh=>⟨λb=>jt ?_ (J.aH _),λb=>fV ?_ (J.aH _)⟩⟩<;>simp[wg]at* <;>omega
def Tz{q:da}(a:c.cy[x.bM.toNat]? =some q)(k:Nat):nM c x k=true<->(k:Int)∈q.dg:=by
 simp[nM,dm,a,List.any_eq_true]
def CM(c:cr)(x:Instr):Prop:=(x.op=9\/x.op=24)->0<=x.bM/\∃q,c.cy[x.bM.toNat]? =some q
def iu.call{p:da}{k:Nat}(h:iu c p k x):CM c x:=λe=>by
 have a:=h.op;unfold kK at a;rw[ae V,ae V,ae V,ae V,ao e]at a;obtain⟨q,b,d,_⟩:=a;exact⟨b,q,d⟩
def qY(h:eY m d p c)(z:CM c x)(a j:O)(k:Nat):
 dA cv 206 [.agg #[O.v d,O.v p],.agg #[vi x.op,vi x.dst,vi x.bM,vi x.bY,O.v a,O.v j],vi k] m ((x.op=9\/x.op=24)/\nM c x k=true):=by
 apply DC
 simp -zeta only[aG,aF]
 intro o b
 have n:J m b:=((J.aH m).aR _).aR _
 have A:∀f∈[o.size,m.size],f<b.size:=by simp[b,o];omega
 have L:=h.cy.len
 clear_value b
 have q:∀e:x.op=9\/x.op=24,(0:Int)<=x.bM/\x.bM<(p.len:Int)/\∃u:O,af b p.aC (p.off+Int.toNat x.bM*5+1)=some (O.v u)/\
  aP cv 30 [O.v u,vi k] b λr s=>eF [o.size,m.size] b s/\∃t:Bool,r=vb t/\∃f:Bool,vb t=.bool f/\(f=true<->((x.op=9\/x.op=24)/\nM c x k=true))/\J m s:=λe=>by
  let⟨v,N,l⟩:=z e
  let⟨D,C,E,I,B,K,F,g1,g2,G,H⟩:=(h.ext n).cy.aQ l
  have:=az l
  refine⟨v,V,C,g1,(dj B _).aK (J.aH _) A λf M y w _=>⟨f,rfl,fV ?_ (n.trans w)⟩⟩
  rw[y,Tz l]
  exact⟨λh=>⟨e,h⟩,λh=>h.2⟩
 refine⟨λi=>q (Or.inl (by simpa using i)),λi=>⟨λg=>q (Or.inr (by simpa using g)),λg=>cw (λ⟨e,_⟩=>?_) n⟩⟩
 simp at i g;omega
def Hf(a:Int)(m:E):dA cv 205 [vi a] m (a=6\/a=9\/a=10\/a=11):=by
 apply rD;refine⟨λh=>jt ?_ (J.aH _),λh=>⟨λb=>jt ?_ (J.aH _),λb=>⟨λc=>jt ?_ (J.aH _),λc=>fV ?_ (J.aH _)⟩⟩⟩<;>simp at* <;>omega
def qN(c:cr)(x:Instr)(n:Nat):List Int:=jB c x 0 (x.args.take n)
def CG(c:cr)(x:Instr):∀(b r:List Int)(k:Nat),jB c x k (b++r)=jB c x k b++jB c x (k+b.length) r
 |[],r,k=>by simp[jB]
 |a::b,r,k=>by
  have:=CG c x b r (k+1);simp only[db,jB,this,aY];have e:k+(b.length+1)=k+1+b.length:=V;rw[e];split<;>simp
def Ea(c:cr)(x:Instr):∀(b:List Int)(k:Nat),(jB c x k b).length<=b.length
 |[],k=>ad _
 |a::b,k=>by
  have:=Ea c x b (k+1);simp only[jB];split<;>simp<;>omega
def Sa(c:cr)(x:Instr):(dG c x).length<=x.args.length:=by
 unfold dG;split
 .exact ad _
 split
 .simp;omega
 split
 .exact Ea _ _ _ _
 .simp
def J.Df{a c:E}(f:J g a)(h:J g c){b:List Nat}(d:∀x∈b,x<g.size):eF b a c:=λx e=>by rw[f.same x (d x e),h.same x (d x e)]
def oW{v:Int}{K:O->E->Prop}(c:gS g m aA 1 s (b.map Ce.i))(h:J g m)(n:b.length<1000000000)
 (f:∀r a,gS g a aA 1 r ((b++[v]).map Ce.i)->J g a->K r a):
 jb (m.push (.cells (bE [.i v]) aA)) aA [.i (0:Int)] 8 s (O.mk m.size 0 1 1) K:=by
 have o:s.len=b.length:=by have:=c.len;simp at this;omega
 refine gS.append (zs:=[.i 0]) (d:=[.i v]) (c.ext (J.push _ _)) (h.aR _) rfl (cB.push m _ _).jD bS λr a d e i j k l=>?_
 exact f r a (by simpa using d) e
def Jp(aa:eY m d p c)(hc:CM c x)(I:au m a x.args)(ak:x.args.length<=1000000)(ab:(x.op=16\/x.op=17)->1<=x.args.length):
 nE 169 [.agg #[O.v d,O.v p],.agg #[vi x.op,vi x.dst,vi x.bM,vi x.bY,O.v a,O.v j]] m (dG c x):=by
 apply DQ
 simp -zeta only[aG,aF]
 intro C f Q
 have B:J m f:=((J.aH m).aR _).aR _
 have s2:f.size=m.size+2:=by simp[f,C]
 have h3:J f Q:=(J.aH f).aR _
 have u:gS f Q aA 1 (.mk f.size 0 0 0) []:=gS.new (J.aH f) aA 1 [] 0 aJ
 have s1:C.size=m.size+1:=by simp[C]
 have ah:=I.len
 have w:∀v∈[C.size,m.size],v<f.size:=λv t=>by simp at t;omega
 clear_value Q
 clear_value f
 have K:∀{o s b},gS f o aA 1 s b->gS m o aA 1 s b:=λu=>u.cL B.size
 refine⟨λZ o=>J f o/\gS f o aA 1 (.mk f.size 0 0 0) []/\(Z=true<->(x.op=15\/x.op=6\/x.op=10\/x.op=11\/x.op=18\/x.op=23\/x.op=9\/x.op=24)),?_,?_⟩
 .refine(Hf _ _).aK h3 w λv D t g i=>⟨v,rfl,λM=>⟨i,u.ext g,by have:=t.1 M;simp;omega⟩,λL=>?_⟩
  have h:=fb t L
  refine⟨λe=>⟨i,u.ext g,by simp at e;simp;omega⟩,λH=>⟨λe=>⟨i,u.ext g,by simp at e;simp;omega⟩,λq=>⟨λe=>⟨i,u.ext g,by simp at e;simp;omega⟩,λA=>⟨i,u.ext g,by simp at H q A;simp;omega⟩⟩⟩⟩
 .rintro Z D ⟨g,N,W⟩
  refine⟨λad=>?_,λac=>?_⟩
  .have hT:=W.1 ad
   refine dE (n:=x.args.length) V (λk s o=>J f o/\gS f o aA 1 s ((if x.op=9\/x.op=24 then qN c x k else x.args.take k).map Ce.i)) ⟨g,by simpa[qN,jB]using N⟩ ?_
   rintro k s m5 ag μ hk ⟨R,P⟩ Y
   have X:=B.trans R
   refine dit (λaj=>?_) λai=>?_
   .let⟨y,h⟩:=cq x.args k
    have U:qN c x (k+1)=qN c x k++jB c x k [y]:=by
     unfold qN;rw[bF h,CG];simp;congr 2;omega
    refine(qY (aa.ext X) hc a j k).aK R w λv m6 t S F=>⟨v,rfl,λM=>?_,λL=>?_⟩
    .have G:=nb t M
     refine⟨V,V,y,by simpa using(I.ext (B.trans F)).aQ h,?_⟩
     intro m7
     have T:(if x.op=9\/x.op=24 then qN c x k else x.args.take k).length<=k:=by
      split
      .refine bJ (Ea _ _ _ _) ?_;simp;omega
      .simp;omega
     refine oW (P.ext S) F V λr m8 z E=>?_
     refine⟨J.Df (F.aR _) E w,Y V _ _ ⟨E,?_⟩⟩
     by_cases e:x.op=9\/x.op=24
     .rw[ao e]at z⊢
      rw[U]
      have:jB c x k [y]=[y]:=by
       simp only[jB];rw[ae (λw=>G ⟨e,w⟩)]
      rw[this];exact z
     .rw[ae e]at z⊢
      rw[bF h];exact z
    .have G:=yb t L
     refine Y V _ _ ⟨F,?_⟩
     have T:=P.ext S
     rw[ao G.1]at T⊢
     rw[U]
     have:jB c x k [y]=[]:=by
      simp only[jB];rw[ao G.2]
     rw[this,eL];exact T
   .refine⟨s,rfl,?_,X⟩
    have q:dG c x=if x.op=9\/x.op=24 then qN c x k else x.args.take k:=by
     have A:x.args.take k=x.args:=cG V;unfold dG qN;rw[A];by_cases e:x.op=9\/x.op=24
     .rw[ae V,ae V,ao e,ao e]
     .rw[ao V,ae e]
    rw[q];exact K P
  .have hT:¬(x.op=15\/x.op=6\/x.op=10\/x.op=11\/x.op=18\/x.op=23\/x.op=9\/x.op=24):=λe=>by have:=W.2 e;rw[ac]at this;simp at this
   have i:=B.trans g
   have lj:∀e:x.op=16\/x.op=17,(0:Int)<=(0:Int)/\(0:Int)<(a.len:Int)/\∃F:Int,af D a.aC (a.off+Int.toNat (0:Int)*1)=some (vi F)/\
    jb (D.push (.cells (bE [.i F]) 3)) 3 [.i (0:Int)] 8 (O.mk f.size 0 0 0) (O.mk D.size 0 1 1) λL k=>eF [C.size,m.size] (D.push (.cells (bE [.i F]) 3)) k/\∃s,O.v L=O.v s/\gS m k aA 1 s ((dG c x).map Ce.i)/\J m k:=λe=>by
    have M:=ab e
    let⟨y,h⟩:=cq x.args 0
    refine⟨V,V,y,by simpa using(I.ext i).aQ h,oW (b:=[]) N g aJ λr m8 z E=>⟨J.Df (g.aR _) E w,r,rfl,?_,B.trans E⟩⟩
    have q:dG c x=[y]:=by
     unfold dG;rw[ae V,ao e];cases G:x.args with
     |nil=>rw[G]at h;simp at h
     |cons P b=>rw[G]at h;simp at h;subst h;rfl
    rw[q];exact K z
   refine⟨λe=>lj (Or.inl (by simpa using e)),λH=>⟨λe=>lj (Or.inr (by simpa using e)),λq=>⟨_,rfl,?_,i⟩⟩⟩
   have A:dG c x=[]:=by
    simp at H q;unfold dG;rw[ae V,ae V,ae V]
   rw[A];exact K N
def fE(c:au m s b)(l:b.length<=1000000000):nE 50 [O.v s] m b:=by
 apply mQ;intro d;have a:J m d:=(J.aH m).aR _;have g:gS m d aA 1 (.mk m.size 0 0 0) []:=gS.new (J.aH m) aA 1 [] 0 aJ;have f:=c.len;refine gS.append (zs:=[.i 0]) (d:=b.map Ce.i) g a (by simp[f]) (c.ext a).sK bS λr n a e h i j k=>⟨r,rfl,by simpa using a,e⟩
def KT(h:au m s b)(c:au m t r)(p:b.length+r.length<=1000000000):nE 106 [O.v s,O.v t] m (b++r):=by
 apply ub;refine(fE h V).then V λq w d e a=>⟨q,rfl,?_⟩;have i:=c.len;have o:=e.len;refine gS.append (zs:=[.i 0]) (d:=r.map Ce.i) d a (by simp[i]) (c.ext a).sK V λu v f g j k l n=>⟨u,rfl,by simpa using f,g⟩
def lJ(d:au m s b):dA cv 136 [O.v s] m (UG b):=by
 apply Dk;have g:=d.len;refine eu (n:=b.length) (g▸d.fA) (λk a=>J m a/\∀y∈b.take k,y=0) ⟨J.aH _,aJ⟩ ?_;rintro k o I μ l ⟨a,f⟩ j
 refine⟨λh=>?_,λh=>jt (cU (by simp at h;omega) f) a⟩;simp only[aq]at h;let⟨x,e⟩:=cq b k;refine⟨V,V,x,by simpa using a.af (d.aQ e),λc=>cw (λi=>?_) a,λc=>j V _ ⟨a,bN e f (by simpa using c)⟩⟩;have:=i x (av e);simp at c;omega
def Aa(d:au m s b):dA cv 207 [O.v s] m (∀o∈b,0<=o):=by
 apply vE;have g:=d.len;refine eu (n:=b.length) (g▸d.fA) (λk a=>J m a/\∀y∈b.take k,0<=y) ⟨J.aH _,aJ⟩ ?_;rintro k p I μ l ⟨a,f⟩ j
 refine⟨λh=>?_,λh=>jt (cU (by simp at h;omega) f) a⟩;simp only[aq]at h;let⟨x,e⟩:=cq b k;refine⟨V,V,x,by simpa using a.af (d.aQ e),λc=>cw (λi=>?_) a,λc=>j V _ ⟨a,bN e f (by simpa using c)⟩⟩;have:=i x (av e);simp at c;omega
def pW(f:au m s b)(j:au m t r):dA cv 243 [O.v s,O.v t] m (b=r):=by
 apply Ca;have l:=f.len;have q:=j.len;refine⟨λh=>cw (λe=>by subst e;simp at h;omega) (J.aH _),λh=>?_⟩;simp at h;refine eu (n:=b.length) (l▸f.fA) (λk a=>J m a/\b.take k=r.take k) ⟨J.aH _,aJ⟩ ?_;rintro k u I μ p ⟨c,i⟩ o
 refine⟨λh=>?_,λh=>jt (by simp at h;rwa[cG V,cG V]at i) c⟩;simp only[aq]at h;let⟨x,g⟩:=cq b k;let⟨y,d⟩:=cq r k;refine⟨V,V,x,by simpa using c.af (f.aQ g),V,V,y,by simpa using c.af (j.aQ d),λa=>cw (λe=>?_) c,λa=>o V _ ⟨c,?_⟩⟩
 .subst e;rw[g]at d;simp at d;simp at a;exact a d
 .rw[bF g,bF d,i];simp at a;rw[a]
abbrev fv(f:be)(r o h:O):Value:=.agg #[vi f.dW,vi f.pc,vi f.dst,O.v r,O.v o,O.v h]
abbrev xv(x:Instr)(a j:O):Value:=.agg #[vi x.op,vi x.dst,vi x.bM,vi x.bY,O.v a,O.v j]
def Dj{f:be}{r:O}(t:au m r f.ax)(g:au m a x.args)(C:∀y∈x.args,0<=y/\y<f.ax.length):
 dA cv 208 [fv f r o e,xv x a j] m (∀y∈x.args,aQ f.ax y<1000):=by
 apply xN
 simp -zeta only[aG,aF]
 intro w b
 have v:J m b:=((J.aH m).aR _).aR _
 have D:∀d∈[w.size,m.size],d<b.size:=by simp[b,w];omega
 have z:=g.len
 have K:=t.len
 clear_value b
 refine eu (n:=x.args.length) (z▸g.fA) (λl c=>J b c/\∀y∈x.args.take l,aQ f.ax y<1000) ⟨J.aH _,aJ⟩ ?_
 rintro l L I μ H ⟨u,s⟩ F
 have i:=v.trans u
 refine⟨λh=>?_,λh=>jt (cU (by simp at h;omega) s) i⟩
 simp only[aq]at h
 let⟨y,c⟩:=cq x.args l
 have k:=C y (av c)
 refine⟨V,V,y,by simpa using i.af (g.aQ c),k.1,V,aQ f.ax y,by simpa using i.af (t.Gs k.1 k.2),?_⟩
 refine(dK _ _).aK u D λd M q G p=>⟨d,rfl,λB=>cw (λE=>?_) (v.trans p),λA=>F V _ ⟨p,bN c s ?_⟩⟩
 .have:=E y (av c);have:=q.1 B;omega
 .have:=fb q A;omega
def Iq(b r:List Int):qV (b++r)=qV b++qV r:=by simp[qV]
def sJ(b:List Int):(qV b).length<=b.length:=il _ _
def nQ(f:au m s b)(A:b.length<=100000000):nE 242 [O.v s] m (qV b):=by
 apply xZ;intro g;have p:J m g:=(J.aH m).aR _;have u:gS m g aA 1 (.mk m.size 0 0 0) []:=gS.new (J.aH m) aA 1 [] 0 aJ;have z:=f.len;clear_value g;refine dE (n:=b.length) V (λk s a=>J m a/\gS m a aA 1 s ((qV (b.take k)).map Ce.i)) ⟨p,by simpa[qV]using u⟩ ?_;rintro k s B I μ y ⟨d,c⟩ j
 refine dit (λo=>?_) λo=>?_
 .let⟨x,e⟩:=cq b k;refine⟨V,V,x,by simpa using d.af (f.aQ e),?_⟩;refine(dK _ _).then λl C h a=>⟨l,rfl,λt=>?_,λq=>?_⟩
  .have i:=d.trans a;refine⟨V,V,x,by simpa using i.af (f.aQ e),?_⟩;intro D;refine oW (c.ext a) i (by have:=sJ (b.take k);simp at this;omega) λr E v w=>j V _ _ ⟨w,?_⟩
   rw[bF e,Iq];have:qV [x]=[x]:=by simp[qV,h.1 t]
   rw[this];exact v
  .refine j V _ _ ⟨d.trans a,?_⟩
   rw[bF e,Iq];have:qV [x]=[]:=by simp[qV];have:=fb h q;omega
   rw[this,eL];exact c.ext a
 .rw[cG V]at c;exact⟨s,rfl,c,d⟩
def nA{f:be}{r:O}(l:au m r f.ax)(p:au m s b)(x:∀y∈b,0<=y/\y<f.ax.length)(G:b.length<=100000000):
 nE 54 [fv f r o e,O.v s] m (dC f b):=by
 apply DZ
 simp -zeta only[aG,aF]
 intro a j
 have q:J m a:=(J.aH m).aR _
 have w:J a j:=(J.aH a).aR _
 have A:gS a j aA 1 (.mk a.size 0 0 0) []:=gS.new (J.aH a) aA 1 [] 0 aJ
 have z:∀u∈[m.size],u<a.size:=by simp[a]
 have F:=p.len
 have E:=l.len
 clear_value j
 clear_value a
 refine dE (n:=b.length) V (λk s c=>J a c/\gS a c aA 1 s ((dC f (b.take k)).map Ce.i)) ⟨w,by simpa[dC]using A⟩ ?_
 rintro k s H I μ D ⟨d,c⟩ B
 have g:=q.trans d
 refine dit (λv=>?_) λv=>?_
 .let⟨y,h⟩:=cq b k
  have i:=x y (av h)
  refine⟨V,V,y,by simpa using g.af (p.aQ h),i.1,V,aQ f.ax y,by simpa using g.af (l.Gs i.1 i.2),?_⟩
  intro K
  refine oW c d (by simp[dC];omega) λM L C t=>⟨J.Df (d.aR _) t z,B V _ _ ⟨t,?_⟩⟩
  rw[bF h]
  simpa[dC]using C
 .rw[cG V]at c
  exact⟨s,rfl,c.cL q.size,g⟩
end
section
variable{g:E}{b:be}{t v d p h u j:O}{s:St}{c:List Int}{q:Nat}{k:cr}{w:Int}{e:Nat->Int}{x:Instr}
variable{B:Int}
def Hz{e:O}(Q:au g t b.ax)(ho:au g v b.bg){s:O}(D:au g s c)(ad:∀y∈c,0<=y/\y<b.ax.length)(am:b.ax.length=b.bg.length)(ay:b.bg.length<=1000000)(aw:c.length<=1000000)
 (M:∀w∈b.bg,-1000000000<=w/\w<=1000000000):nE 168 [fv b t v e,O.v s] g (dL b.ax b.bg c):=by
 apply BU
 simp -zeta only[aG,aF]
 intro p
 have E:J g p:=(J.aH g).aR _
 have H:∀G∈[g.size],G<p.size:=by simp[p]
 have ax:=D.len
 have ar:=Q.len
 clear_value p
 refine(fE (ho.ext E) V).aK V H λx m2 o2 i2 Y=>⟨x,rfl,?_⟩
 have P:=i2.len
 have kj:∀(d F bg:List Int),dL b.ax bg (d++F)=dL b.ax (dL b.ax bg d) F:=by
  intro d;induction d with
  |nil=>intro F bg;rfl
  |cons y d k=>intro F bg;simp only[db,dL,k]
 have lo:∀(d bg:List Int)(A:Int),(∀w∈bg,A<=w)->∀w∈dL b.ax bg d,A -d.length<=w:=by
  intro d;induction d with
  |nil=>intro bg A h w q;have:=h w q;simp;omega
  |cons y d k=>
   intro bg A h w q;simp only[dL]at q;have:=k _ (A -1) (λu j=>by
    split at j
    .rcases gX (y.toNat<bg.length)with B|B
     .rcases sE j with j|j
      .have:=h _ (iV (i:=y.toNat) (a:=aQ bg y) (by obtain⟨C,z⟩:=dJ B;rw[NA z];exact z));omega
      .have:=h u j;omega
     .have z:iD bg y (aQ bg y -1)=bg:=by unfold iD;rw[Ee V]
      rw[z]at j;have:=h u j;omega
    .have:=h u j;omega) w q
   simp only[aY];omega
 refine eu (n:=c.length) V (λk j=>J p j/\gS p j aA 1 x ((dL b.ax b.bg (c.take k)).map Ce.i)) ⟨Y,o2⟩ ?_
 rintro k m3 aj μ hk ⟨R,C⟩ U
 have K:=E.trans R
 refine dit (λh=>?_) λh=>?_
 .let⟨y,u⟩:=cq c k
  have j:=ad y (av u)
  have an:=qM b.ax (c.take k) b.bg
  refine⟨V,V,y,by simpa using K.af (D.aQ u),j.1,V,aQ b.ax y,by simpa using K.af (Q.Gs j.1 j.2),?_⟩
  refine(dK _ _).aK R H λG T N L B=>⟨G,rfl,λab=>?_,λZ=>?_⟩
  .have S:=E.trans B
   have I:=C.ext L
   have i4:au T x (dL b.ax b.bg (c.take k)):=au.gG I V
   refine⟨V,V,y,by simpa using S.af (D.aQ u),V,V,y,by simpa using S.af (D.aQ u),j.1,V,aQ (dL b.ax b.bg (c.take k)) y,i4.Gs j.1 V,j.1,V,?_⟩
   have aq:=lo (c.take k) b.bg (-1000000000) (λw q=>(M w q).1) _ (iK (l:=dL b.ax b.bg (c.take k)) j.1 V)
   have ak:aQ (dL b.ax b.bg (c.take k)) y<=1000000000:=by
    let⟨q',ai,al⟩:=sZ (c.take k) b.bg y.toNat _ (pI (l:=dL b.ax b.bg (c.take k)) j.1 V);have:=(M q' (av ai)).2;omega
   have ap:(c.take k).length<=1000000:=bS
   rw[aS V V]
   rcases I.aQ with ag|⟨q,X,tail,z,e2,e3,e4,e5⟩
   .rw[ag]at P;simp at P;omega
   .have ah:x.off=0:=by rw[z];rfl
    have aa:x.aC=q:=by rw[z];rfl
    rw[ah,aa]
    have ac:0+y.toNat*1=y.toNat:=V
    rw[ac]
    have af:y.toNat<((dL b.ax b.bg (c.take k)).map Ce.i).length:=bS
    refine⟨e3.fq (by simp only[aU];omega),?_⟩
    intro m5
    have W:J p m5:=B.aj e2 _ _
    refine⟨J.Df B W H,U V _ ⟨W,?_⟩⟩
    rw[bF u,kj]
    simp only[dL,ao (N.1 ab)]
    refine⟨by rw[dP,j8,<-dP (f:=Ce.i)];exact I.len,Or.inr ⟨q,X,tail,z,e2,?_,?_,e5⟩⟩
    .have:=cB.aj (m:=T) (o:=y.toNat) (r:=[.i (aQ (dL b.ax b.bg (c.take k)) y -1)]) e3
     have z:iO ((dL b.ax b.bg (c.take k)).map Ce.i++tail) y.toNat [.i (aQ (dL b.ax b.bg (c.take k)) y -1)]=(iD (dL b.ax b.bg (c.take k)) y (aQ (dL b.ax b.bg (c.take k)) y -1)).map Ce.i++tail:=by
      simp only[iO,iD,tj];rw[Y9 _ _ af]
     rw[z]at this;exact this
    .simp only[aU,dP,j8]at e4⊢;exact e4
  .refine U V _ ⟨B,?_⟩
   rw[bF u,kj]
   simp only[dL,ae (fb N Z)]
   exact C.ext L
 .rw[cG V]at C
  exact⟨x,rfl,C.cL E.size,K⟩
def fC{bC t x:O}(a:RV g q 2 d p bC t x k s)(L:1000<=w){c:bU}(j:s.heap[ix w]? =some c):
 aP cv 212 [vp q 0,vi w] g λD v=>∃b,D=.agg #[vi c.aV,vi c.mJ,O.v b]/\au v b c.aN/\J g v:=by
 apply tA (q,0)
 simp -zeta only[aG,aF]
 intro B
 have f:J g B:=(J.aH g).aR _
 have l:=cX.ext f a.heap
 let⟨b,G,r,g1,g2⟩:=l.aQ j
 have I:=l.len
 have K:=l.fA
 have A:=az j
 unfold ix at A r g1 g2
 have e:cQ (w -1000)=w -1000:=aS V V
 rw[e]
 refine⟨t,f.af a.EC,V,V,c.aV,r,c.mJ,g1,b,g2,?_⟩
 intro C
 have m:J g C:=f.aj (ad _) _ _
 let⟨o,y,M,N,u⟩:=(cX.ext m a.heap).aQ j
 unfold ix at u
 have z:o=b:=by
  have F:=f.af (a.EC);obtain⟨E,H,_,_,n⟩:=a.heap.aQ j;unfold ix at n;have h:=f.af n;have i:=m.af n;rw[g2]at h;rw[u]at i;simp at h i;rw[O.Ix]at h i;rw[h,i]
 subst z
 exact⟨o,rfl,y,m⟩
def ua{bC L D:O}(C:RV g q 2 d p bC L D k s)(G:fR s.heap e){B:O}(o:au g B c)(I:∀w∈c,ib s.heap w)(Y:c.length<=1000000):
 dA cv 241 [vp q 0,O.v B] g (nU s.heap c):=by
 apply rc (q,0)
 have X:=o.len
 refine eu (n:=c.length) V (λr a=>J g a/\∀w∈c.take r,1000<=w->(bd s.heap w).aV+eK c (ix w)<=999999) ⟨J.aH _,aJ⟩ ?_
 rintro r Z P μ T ⟨y,v⟩ N
 refine⟨λh=>?_,λh=>jt (cU (by simp at h;omega) v) y⟩
 simp only[aq]at h
 let⟨x,l⟩:=cq c r
 have m:=I x (av l)
 have M:=iN m.1
 refine dE (n:=c.length) V (λj(z:Int) a=>J g a/\z=eK (c.take j) (ix x)) ⟨y,by simp[eK]⟩ ?_
 rintro j z m2 Q μ2 S ⟨f,rfl⟩ A
 refine dit (λE=>?_) λE=>?_
 .let⟨u,t⟩:=cq c j
  have K:=kv (c.take j) (ix x)
  have H:=iz (c.take j) (ix x)
  have F:(c.take j).length<=1000000:=bS
  have i:eK (c.take (j+1)) (ix x)=eK (c.take j) (ix x)+if u=x then 1 else 0:=by
   rw[bF t,nO];simp only[eK,M];omega
  refine⟨V,V,u,by simpa using f.af (o.aQ t),V,V,x,by simpa using f.af (o.aQ l),λa=>A V _ _ ⟨f,?_⟩,λa=>A V _ _ ⟨f,?_⟩⟩
  .simp at a;rw[i,ao a];exact aS V V
  .simp at a;rw[i,ae a];omega
 .rw[cG V]
  have K:=kv c (ix x)
  have H:=iz c (ix x)
  let⟨u,W⟩:=cz m
  have U:=(G.cell _ (av u)).hi
  refine⟨V,V,x,by simpa using f.af (o.aQ l),?_⟩
  refine(fC (C.ext f) m.1 u).mono ?_
  rintro _ m3 ⟨b,rfl,R,a⟩
  have t:cQ ((bd s.heap x).aV+eK c (ix x))=(bd s.heap x).aV+eK c (ix x):=aS V V
  refine⟨_,_,_,rfl,λi=>cw (λF=>?_) (f.trans a),λi=>N V _ ⟨f.trans a,bN l v λ_=>?_⟩⟩
  .have:=F x (av l) m.1
   rw[t]at i;simp at i;omega
  .rw[t]at i;simp at i;omega
def sq{h:List bU}:nU h (qV c)<->nU h c:=by
 unfold nU;constructor
 .intro b w d a;have:=b w (nh.2 ⟨d,a⟩) a;rwa[vf]at this
 .intro b w d a;rw[vf];exact b w (nh.1 d).1 a
def XY{s:O}(h:au g s c)(p:1<=c.length):au g (O.cut s 1 s.len 1) (c.drop 1):=by
 have b:=h.len;have i:=h.cap;have l:=h.fA;cases s with
 |nil=>simp at b;omega
 |CS d v a=>simp at b;omega
 |mk d v r o=>
  simp at b i l;refine⟨by simp[O.cut];omega,by simp[O.cut];omega,by simp[O.cut];omega,λn x a=>?_⟩;rw[rj]at a;have q:=az a;let⟨f,j,kZ⟩:=h.jD (1+n) x a;refine⟨f,j,λm e k=>?_⟩;have:=kZ m e k;simp only[O.cut,O.fO,O.jg]at this⊢;rw[ae V];rw[<-this];congr 1;omega
def gF.vg(h:gF k b){t:Int}(d:0<=t)(e:t<b.ax.length)(f:∀w∈b.ax,w<=9223372036854775807): -9223372036854775808<=aQ b.ax t/\aQ b.ax t<=9223372036854775807:=by
 have c:=iK (l:=b.ax) d e;refine⟨?_,f _ c⟩;rcases h.RW _ c with a|a
 .have:=a.1;omega
 .omega
def Jd{bC hp fr:O}(z:RV g q 2 d p bC hp fr k s)(M:fR s.heap e)(P:au g t b.ax)(N:au g h b.bB)(r:au g u x.args)
 (L:gF k b)(ai:∀w∈b.ax,w<=9223372036854775807)(Z:∀l∈x.args,0<=l/\l<b.ax.length)(ax:1<=x.args.length/\x.args.length<=4)(ay:x.op=16\/x.op=17):
 dA cv 213 [vp q 0,fv b t v h,xv x u j] g (Nt s.heap b x):=by
 apply sS (q,0)
 simp -zeta only[aG,aF]
 intro m1 F
 have a:J g F:=((J.aH g).aR _).aR _
 have m:∀i∈[m1.size,g.size],i<F.size:=by simp[F,m1];omega
 have ao:=r.len
 have aA:=P.len
 have aw:=N.len
 have an:=r.cap
 clear_value F
 have c:0<=aQ x.args 0/\aQ x.args 0<b.ax.length:=Z _ (iK V V)
 have R:aQ x.args 0<b.bB.length:=by have:=L.lr;have:=L.lh;omega
 have ak:=L.vg c.1 c.2 ai
 refine⟨V,V,aQ x.args 0,(r.ext a).Gs V V,c.1,V,aQ b.ax (aQ x.args 0),(P.ext a).Gs c.1 c.2,hp,a.af z.EC,?_⟩
 unfold Nt
 simp only[]
 generalize aB:aQ b.ax (aQ x.args 0)=w at*
 refine(gQ (cX.ext a z.heap) ak).aK (J.aH _) m λi m3 y B _=>⟨i,rfl,λah=>cw (λf=>nb y ah f.1) (a.trans B),λag=>?_⟩
 have n:=yb y ag
 let⟨C,az⟩:=cz n
 have aq:=(M.cell _ (av C)).fl
 have al:=a.trans B
 refine((fC (z.ext al) n.1 C)).aK B m ?_
 rintro _ m4 ⟨fl,rfl,aj,U⟩
 have S:=B.trans U
 refine⟨U,_,_,_,rfl,(nQ aj V).aK (oh (sJ (bd s.heap w).aN)) (λi y=>S.lt (m i y)) λps m5 o5 i5 h5=>⟨ps,rfl,V,V,V,?_⟩⟩
 have G:=S.trans h5
 have aa:=a.trans G
 have e1:(Int.toNat (1:Int))=1:=rfl
 have e2:(Int.toNat (u.len:Int))=u.len:=V
 rw[e1,e2]
 refine(nA (P.ext aa) (XY (r.ext aa) V) (λl o=>Z l (Y8 o)) bS).aK (by simp[dC];omega) (λi y=>G.lt (m i y)) λqs m6 o6 i6 I=>⟨qs,rfl,?_⟩
 have ab:=G.trans I
 refine(pW (i5.ext I) i6).aK ab m λb2 m7 W h7 A=>⟨b2,rfl,λad=>?_,λac=>cw (λf=>fb W ac f.2.1) (a.trans A)⟩
 have D:=W.1 ad
 refine(fC (z.ext (a.trans A)) n.1 C).aK A m ?_
 rintro _ m8 ⟨am,rfl,ar,K⟩
 have H:=A.trans K
 refine⟨K,_,_,_,rfl,λo=>?_,λo=>?_⟩
 .simp at o
  have E:=a.trans H
  refine⟨λl=>jt ⟨n,D,Or.inl o,λe=>by simp at l;omega⟩ E,λl=>⟨V,V,aQ x.args 0,(r.ext E).Gs V V,c.1,V,aQ b.bB (aQ x.args 0),(N.ext E).Gs c.1 R,fV ?_ E⟩⟩
  simp only[aO,ap,ne_eq]at l⊢
  exact⟨λQ=>⟨n,D,Or.inl o,λ_=>Q⟩,λf=>f.2.2.2 V⟩
 .simp at o
  refine(ua (z.ext (a.trans H)) M (i5.ext ((I.trans h7).trans K)) (λT E=>M.field (av C) (nh.1 E).1 (nh.1 E).2) (oh (sJ (bd s.heap w).aN))).aK H m λb3 m9 X h9 T=>⟨b3,rfl,λaf=>?_,λae=>cw (λf=>?_) (a.trans T)⟩
  .have Y:=sq.1 (X.1 af)
   have E:=a.trans T
   refine⟨λl=>jt ⟨n,D,Or.inr Y,λe=>by simp at l;omega⟩ E,λl=>⟨V,V,aQ x.args 0,(r.ext E).Gs V V,c.1,V,aQ b.bB (aQ x.args 0),(N.ext E).Gs c.1 R,fV ?_ E⟩⟩
   simp only[aO,ap,ne_eq]at l⊢
   exact⟨λQ=>⟨n,D,Or.inr Y,λ_=>Q⟩,λf=>f.2.2.2 V⟩
  .rcases f.2.2.1 with l|l
   .exact o l
   .exact fb X ae (sq.2 l)
def Hr{bC Q fr:O}(b:RV g q 2 d p bC Q fr k s)(H:qQ B k)(E:fR s.heap e)(hw: -9223372036854775808<=w/\w<=9223372036854775807):
 dA cv 211 [vp q 0,vi w] g (Ek k s.heap w):=by
 apply rR (q,0)
 simp -zeta only[aG,aF]
 refine⟨Q,b.EC,(gQ b.heap hw).then λi m1 x D=>⟨i,rfl,λai=>cw (λa=>nb x ai a.1) D,λah=>?_⟩⟩
 have z:=yb x ah
 let⟨G,al⟩:=cz z
 have L:=E.cell _ (av G)
 have aB:=(L.pF al).2
 refine(fC (b.ext D) z.1 G).mono ?_
 rintro _ f ⟨C,rfl,P,j⟩
 refine⟨_,_,_,rfl,?_⟩
 intro U h
 have an:=D.trans j
 have I:J f h:=((J.aH f).aR _).aj (ad _) _ _
 have s4:h.size=f.size+1:=by simp[h,U,aD]
 have hB:af h f.size 1=some (vi (bd s.heap w).mJ):=(cB.aj (m:=U) (o:=0) (r:=[.i (bd s.heap w).aV,.i (bd s.heap w).mJ,.s C]) (cB.push f _ _)).cK 1
 have y:∀i∈[f.size],i<h.size:=by simp[s4]
 clear_value h
 have c:=an.trans I
 have M:=b.ext c
 have aA:=b.eT.cy.len
 have az:=H.pA.len
 have aq:(eI k.bu).length<=12:=by
  have:=sC H.pA.types k.bu.length;rw[nI _ _ (ad _)]at this;exact this
 refine⟨d,M.bu,(pU M.eT.bu H.pA.types).aK (J.aH _) y λm5 t _=>⟨_,rfl,t.dB hB,p,(b.ext (c.trans t)).cy,?_⟩⟩
 have aC:=c.trans t
 have X:cQ ((bd s.heap w).mJ -((eI k.bu).length:Int))=(bd s.heap w).mJ -gA k:=aS V V
 have Y:cQ ((p.len:Int) -1)=(p.len:Int) -1:=aS V V
 rw[X,Y]
 refine(ba _ _ _ _).aK t y λb2 m6 N h6 l=>⟨b2,rfl,λae=>?_,λac=>cw (λa=>fb N ac ⟨a.2.1,oh a.2.2.1⟩) (c.trans l)⟩
 have S:=N.1 ae
 have A:=c.trans l
 have F:=b.ext A
 let⟨ao,R⟩:=cq k.cy (((bd s.heap w).mJ -gA k).toNat)
 have am:dm k ((bd s.heap w).mJ -gA k)=ao:=by simp[dm,R]
 obtain⟨W,l',c',ab,ak,au,g0,g1,_⟩:=F.eT.cy.aQ R
 have ar:=ab.len
 have ay:=ak.len
 have ax:=P.len
 have aw:=L.fl
 have Z:cQ ((C.len:Int)+1)=(C.len:Int)+1:=aS V V
 rw[Z]
 unfold Ek
 rw[am]
 refine⟨p,F.cy,V,V,W,g0,λu=>⟨p,F.cy,V,V,l',g1,λv=>⟨λn=>?_,λn=>?_⟩,λv=>cw (λa=>?_) A⟩,λu=>cw (λa=>?_) A⟩
 .simp at u v n
  exact jt ⟨z,S.1,V,V,V,Or.inl n⟩ A
 .simp at u v n
  refine(nQ (P.ext (I.trans l)) V).aK (oh (sJ (bd s.heap w).aN)) (λi x=>l.lt (y i x)) λps m7 o7 i7 aa=>⟨ps,rfl,?_⟩
  have K:=l.trans aa
  refine(ua (b.ext (c.trans K)) E i7 (λag T=>E.field (av G) (nh.1 T).1 (nh.1 T).2) (oh (sJ (bd s.heap w).aN))).aK K y λb3 m8 ag ap T=>⟨b3,rfl,fV ?_ (c.trans T)⟩
  rw[ag,sq]
  refine⟨λaj=>⟨z,S.1,V,V,V,Or.inr aj⟩,λa=>?_⟩
  rcases a.2.2.2.2.2 with j|j
  .exact absurd j n
  .exact j
 .have:=a.2.2.2.2.1;simp at v;omega
 .have:=a.2.2.2.1;simp at u;omega
def Hs{bC M E:O}(C:RV g q 2 d p bC M E k s)(B:au g h b.bB)(G:au g u x.args)(T:0<=x.bY/\x.bY<=b.bB.length)(U:b.bB.length<=1000000)
 (K:∀w∈b.bB,w≠0->1000<=w/\∃o,s.heap[ix w]? =some o):
 dA cv 209 [vp q 0,fv b t v h,xv x u j] g (JL s.heap b x):=by
 apply rS (q,0)
 simp -zeta only[aG,aF]
 intro n f
 have c:J g f:=((J.aH g).aR _).aR _
 have L:∀D∈[n.size,g.size],D<f.size:=by simp[f,n];omega
 have F:af f n.size 4=some (O.v u):=(cB.push n _ _).cK 4
 have Q:=G.len
 have S:=B.len
 clear_value f
 unfold JL
 refine⟨λm=>jt (λr=>absurd (by simpa using m) r) c,λm=>?_⟩
 simp at m
 have e:cQ (x.bY -1)=x.bY -1:=aS V V
 rw[e]
 have A:=(B.ext c).Gs (i:=x.bY -1) V V
 refine⟨V,V,aQ b.bB (x.bY -1),A,λa=>jt (λ_ r=>absurd (by simpa using a) r) c,λa=>?_⟩
 simp at a
 let⟨N,o,z⟩:=K _ (iK (l:=b.bB) (i:=x.bY -1) V V) a
 refine⟨V,V,aQ b.bB (x.bY -1),A,(fC (C.ext c) N z).aK (J.aH _) L ?_⟩
 rintro _ W ⟨P,rfl,I,r⟩
 have R:=I.len
 have H:bd s.heap (aQ b.bB (x.bY -1))=o:=by simp[bd,z]
 refine⟨r,_,_,_,rfl,r.dB F,fV ?_ (c.trans r)⟩
 rw[H]
 simp
 exact⟨λy _ _=>V,λy=>oh (y m a)⟩
def ur(k:cr)(x:Instr):∀(c t:List Int)(a:Nat),mq k x a (c++t)=mq k x a c++mq k x (a+c.length) t
 |[],t,a=>by simp[mq]
 |u::c,t,a=>by
  have:=ur k x c t (a+1);simp only[db,mq,this,aY];have e:a+(c.length+1)=a+1+c.length:=V;rw[e];split<;>simp
def vA{bC l Y:O}(o:RV g q 2 d p bC l Y k s)(R:au g t b.ax)(D:au g u x.args)(Z:gF k b)(af:∀w∈b.ax,w<=9223372036854775807)
 (ag:∀y∈x.args,0<=y/\y<b.ax.length)(hc:CM k x)(ai:x.op=9\/x.op=24):
 dA cv 210 [vp q 0,fv b t v h,xv x u j] g (OF k s.heap b x):=by
 apply rQ (q,0)
 simp -zeta only[aG,aF]
 intro W i
 have G:J g i:=((J.aH g).aR _).aR _
 have F:∀r∈[W.size,g.size],r<i.size:=by simp[i,W];omega
 have aa:=D.len
 have ak:=R.len
 clear_value i
 refine eu (n:=x.args.length) (aa▸D.fA) (λa c=>J i c/\∀y∈mq k x 0 (x.args.take a),1000<=aQ b.ax y->ib s.heap (aQ b.ax y)) ⟨J.aH _,by simp[mq]⟩ ?_
 rintro a m3 aj μ hk ⟨T,Q⟩ I
 have m:=G.trans T
 refine⟨λh=>?_,λh=>jt (by simp at h;rwa[cG V]at Q) m⟩
 simp only[aq]at h
 let⟨y,H⟩:=cq x.args a
 have f:=ag y (av H)
 have C:=o.ext m
 have S:mq k x 0 (x.args.take (a+1))=mq k x 0 (x.args.take a)++mq k x a [y]:=by
  rw[bF H,ur];congr 2;simp;omega
 have E:(nM k x a=true->1000<=aQ b.ax y->ib s.heap (aQ b.ax y))->∀z∈mq k x 0 (x.args.take (a+1)),1000<=aQ b.ax z->ib s.heap (aQ b.ax z):=λhh z c=>by
  rw[S]at c;rcases List.mem_append.1 c with c|c
  .exact Q z c
  .simp only[mq]at c;split at c
   .rename_i e;simp at c;subst c;exact hh e
   .simp at c
 have ah:nM k x a=true->y∈mq k x 0 x.args:=λe=>by
  have X:x.args=x.args.take (a+1)++x.args.drop (a+1):=(dx _ _).symm;rw[X,ur,S];refine bz _ (dw _ ?_);simp only[mq];rw[ao e];simp
 refine⟨V,V,y,by simpa using m.af (D.aQ H),f.1,V,aQ b.ax y,by simpa using m.af (R.Gs f.1 f.2),d,C.bu,p,C.cy,?_⟩
 refine(qY C.eT hc u j a).aK T F λr m4 M h4 K=>⟨r,rfl,λae=>?_,λad=>I V _ ⟨K,E λe=>absurd ⟨ai,e⟩ (fb M ad)⟩⟩
 have e:=(M.1 ae).2
 refine(dK _ _).aK K F λb2 m5 N h5 A=>⟨b2,rfl,λac=>?_,λab=>I V _ ⟨A,E λ_ l=>absurd l (fb N ab)⟩⟩
 have U:=G.trans A
 refine⟨l,(o.ext U).EC,(gQ (cX.ext U o.heap) (Z.vg f.1 f.2 af)).aK A F λb3 m6 P h6 L=>⟨b3,rfl,λB=>cw (λhM=>nb P B (hM y (ah e) (N.1 ac))) (G.trans L),λB=>I V _ ⟨L,E λ_ _=>yb P B⟩⟩⟩
end
section
structure CO(B:Int)(im:cr)(s:St)(fs:List be)(f:be)(x:Instr):Prop where
 ok:fG B im s
 run:s.cY=3
 fr:s.ak=fs++[f]
 cur:fJ im f=x
 yN:∀g∈s.ak,∀w∈g.ax,w<=9223372036854775807
section
variable{B:Int}{b:cr}{s:St}{c:List be}{f:be}{x:Instr}
def CO.F(a:CO B b s c f x):gF b f:=a.ok.ak f (by rw[a.fr];simp)
def CO.Qb(a:CO B b s c f x):∀w∈f.ax,w<=9223372036854775807:=a.yN f (by rw[a.fr];simp)
def CO.I(a:CO B b s c f x):∃p,b.cy[f.dW.toNat]? =some p/\dm b f.dW=p/\QN B b p/\p.bt[f.pc.toNat]? =some x/\iu b p f.pc.toNat x:=by
 have:=a.F.Kk a.ok.eT;rwa[a.cur]at this
def CO.LV(a:CO B b s c f x):f.ax.length=f.bg.length/\f.bB.length=f.bg.length/\1<=f.bg.length/\f.bg.length<=1000000:=by
 obtain⟨p,_,e,i,_,_⟩:=a.I;have d:=a.F.lr;have g:=a.F.lo;have h:=a.F.lh;rw[e]at d g h;have:=i.ax;have:=a.ok.eT.fA;omega
def CO.arg(a:CO B b s c f x):∀y∈x.args,0<=y/\y<f.ax.length:=λy h=>by
 obtain⟨p,_,e,_,_,g⟩:=a.I;have d:=a.F.lr;rw[e]at d;have:=g.args y h;omega
def CO.dst(a:CO B b s c f x):0<=x.dst/\x.dst<f.bg.length:=by
 obtain⟨p,_,e,_,_,g⟩:=a.I;have d:=a.F.lo;rw[e]at d;have:=g.dst;omega
def CO.call(a:CO B b s c f x):CM b x:=let⟨_,_,_,_,_,d⟩:=a.I;d.call
def CO.opc(a:CO B b s c f x):0<=x.op/\x.op<=24/\x.op≠7/\x.op≠8/\x.op≠12/\x.op≠13:=by
 obtain⟨p,_,_,e,_,d⟩:=a.I;exact((Ic (PO e.ax.2.2 a.ok.eT.fA) a.ok.eT.pA.len.2 λq g=>(a.ok.eT.pA.df q g).1).1 d).1
def CO.QR(g:CO B b s c f x):x.args.length<=4/\((x.op=5\/x.op=14\/x.op=15\/x.op=18\/x.op=23\/x.op=19\/x.op=20\/x.op=21)->x.args.length=1)/\((x.op=1\/x.op=2\/x.op=3\/x.op=4\/x.op=11)->x.args.length=2)/\
 ((x.op=16\/x.op=17)->1<=x.args.length)/\(x.op=6->0<=x.bY/\x.bY<=f.bB.length/\0<=x.bM/\x.bM<12/\x.args.length<=3)/\(x.op=10->0<=x.bM/\x.bM<4/\x.args.length<=3)/\(x.op=0->-999<=x.bM/\x.bM<=999):=by
 obtain⟨z,_,r,y,_,u⟩:=g.I
 have a:=u.op
 have t:=g.F.lh
 rw[r]at t
 have d:=g.ok.eT.pA
 have v:(eI b.bu).length<=12:=by
  have:=sC d.types b.bu.length;rw[nI _ _ (ad _)]at this;exact this
 have w:=yL d.types x.bM
 unfold kK at a
 by_cases h:x.op=0
 .rw[ao h]at a;omega
 rw[ae h]at a
 by_cases i:x.op=1\/x.op=2\/x.op=3\/x.op=4\/x.op=11
 .rw[ao i]at a;omega
 rw[ae i]at a
 by_cases j:x.op=5\/x.op=14\/x.op=15\/x.op=18\/x.op=23
 .rw[ao j]at a;omega
 rw[ae j]at a
 by_cases k:x.op=6
 .rw[ao k]at a;omega
 rw[ae k]at a
 by_cases l:x.op=9\/x.op=24
 .rw[ao l]at a
  let⟨q,n,e,o⟩:=a
  have:=(d.df q (av e)).1;omega
 rw[ae l]at a
 by_cases m:x.op=10
 .rw[ao m]at a
  obtain⟨⟨q,n,e,o⟩,_⟩:=a
  have:=(d.df q (av e)).1
  have:=az e
  have:=d.len;omega
 rw[ae m]at a
 by_cases n:x.op=16\/x.op=17
 .rw[ao n]at a;omega
 rw[ae n]at a
 by_cases o:x.op=19
 .rw[ao o]at a;omega
 rw[ae o]at a
 by_cases p:x.op=20
 .rw[ao p]at a;omega
 rw[ae p]at a
 by_cases q:x.op=22
 .rw[ao q]at a;omega
 rw[ae q]at a
 by_cases e:x.op=21
 .rw[ao e]at a
  have:=a.1;omega
 rw[ae e]at a;exact a.elim
def CO.Qo(d:CO B b s c f x):∀w∈f.bB,w≠0->1000<=w/\∃e,s.heap[ix w]? =some e/\e.aV<0:=λw h k=>by
 have g:1000<=w:=by have:=d.F.bB w h;omega
 refine⟨g,?_⟩;have j:0<holds s.ak (ix w):=by
  rw[d.fr,ez,iC];have:=uV c (ix w);have:=tV (l:=f.bB) (f:=ix w) (by rw[iN g];exact h);omega
 exact eU λi=>by have:=d.ok.mD (ix w) i;omega
def CO.WW(d:CO B b s c f x):∀o∈f.bg,0<=o/\o<=999999:=λo h=>by
 refine⟨(d.F.Pf o h),?_⟩;rcases gX (0<o)with i|i
 .let⟨k,e⟩:=List.mem_iff_getElem?.1 h;have:=d.LV;let⟨w,j⟩:=cq f.ax k (oh (az e));have m:=Kw d.F.Pf j e (c:=ix w) (by rw[iN ((d.F.bg k o w e j).2 i)]);have n:o<=fj s.ak (ix w):=by
   rw[d.fr,fF,jY];have:=JD (c:=c) (λg l=>d.ok.ak g (by rw[d.fr];exact bz _ l)) (ix w);omega
  let⟨g,hd,l⟩:=d.ok.heap.lv (ix w) V;have p:=d.ok.heap.ex _ g hd l;have q:=qu s.heap (ix w);have r:=(d.ok.heap.cell g (av hd)).hi;omega
 .omega
def CO.Rr(a:CO B b s c f x):∀r∈dG b x,0<=r/\r<f.ax.length:=λr d=>a.arg r (Nf d)
end
def K4{am:Int}{o:E}{mb:Nat}{ah ax bC d fr:O}{M:cr}{K:St}(Q:RV o mb 2 ah ax bC d fr M K){fs:List be}{m:be}{x:Instr}(C:CO am M K fs m x){Z ac h S al ow:O}(R:au o Z m.ax)(U:au o h m.bB)(L:au o S x.args){bg:List Int}(X:au o ow bg)(aB:bg.length=m.bg.length):
 dA cv 170 [vp mb 0,fv m Z ac h,xv x S al,O.v ow] o (uj M K m x bg):=by
 apply tC (mb,0)
 simp -zeta only[aG,aF]
 intro Y P
 have b:J o P:=((J.aH o).aR _).aR _
 have i:∀g∈[Y.size,o.size],g<P.size:=by simp[P,Y];omega
 have ai:cB P Y.size dO [.i x.op,.i x.dst,.i x.bM,.i x.bY,.s S,.s al]:=cB.push Y _ _
 have ao:cB P o.size eE [.i m.dW,.i m.pc,.i m.dst,.s Z,.s ac,.s h]:=(cB.push o _ _).ext (J.push Y _)
 have ay:=L.len
 have aD:=R.len
 have az:=U.len
 have aC:=X.len
 have hd:=C.dst
 have aA:=C.LV
 have G:=C.QR
 have hI:=C.ok.heap
 clear_value P
 refine⟨λN=>J P N/\(∀ac∈bg,0<=ac)/\(jE x.op->aQ bg x.dst<=0),?_,?_⟩
 .refine(Aa (X.ext b)).aK (J.aH _) i λg m3 c n _=>⟨g,rfl,λu=>cw (λl=>nb c u l.nn) (b.trans n),λz=>?_⟩
  refine(rV _ _).aK n i λb2 A y w a=>⟨b2,rfl,λu=>?_,λv=>⟨a,yb c z,λe=>absurd e (fb y v)⟩⟩
  refine⟨hd.1,V,aQ bg x.dst,(X.ext (b.trans a)).Gs hd.1 V,λk=>cw (λl=>?_) (b.trans a),λk=>⟨a,yb c z,λ_=>by simpa using k⟩⟩
  have:=l.dst (y.1 u);simp at k;omega
 .rintro m3 ⟨n,q,p⟩
  have f:=b.trans n
  have t:=Q.ext f
  have mk:∀{ad:Prop},(uj M K m x bg->ad)->(ad->uj M K m x bg)->(uj M K m x bg<->ad):=λI h2=>⟨I,h2⟩
  have B:1<=x.args.length->0<=aQ x.args 0/\aQ x.args 0<m.ax.length:=λI=>C.arg _ (iK V V)
  have D:∀{N},J o N->1<=x.args.length->af N S.aC (S.off+Int.toNat (0:Int)*1)=some (vi (aQ x.args 0)):=λhx I=>(L.ext hx).Gs V V
  have F:∀{N},J o N->1<=x.args.length->af N Z.aC (Z.off+Int.toNat (aQ x.args 0)*1)=some (vi (aQ m.ax (aQ x.args 0))):=λhx I=>(R.ext hx).Gs (B I).1 (B I).2
  refine⟨λe=>?_,λe1=>?_⟩
  .simp only[cD,aO]at e
   refine(Dj (R.ext f) (L.ext f) C.arg).aK n i λg A c w a=>⟨g,rfl,fV (c.trans ?_) (b.trans a)⟩
   refine⟨λd=>?_,λh=>h.pw V⟩
   refine⟨q,p,?_,?_,?_,?_,?_,?_,?_,?_,?_,?_,?_⟩<;>intro r<;>first|(exfalso;omega)|exact d
  simp only[bW,ap]at e1
  refine⟨λe=>?_,λe2=>?_⟩
  .simp only[aO]at e
   have j:=G.2.2.2.2.1 e
   refine(Hs t (U.ext f) (L.ext f) ⟨j.1,j.2.1⟩ V (λaa W T=>by obtain⟨I,s,H,_⟩:=C.Qo aa W T;exact⟨I,s,H⟩)).aK n i λg A c w a=>⟨g,rfl,fV (c.trans ?_) (b.trans a)⟩
   refine⟨λd=>?_,λh=>h.lX e⟩
   refine⟨q,p,?_,?_,?_,?_,?_,?_,?_,?_,?_,?_,?_⟩<;>intro r<;>first|(exfalso;omega)|exact d
  simp only[ap]at e2
  refine⟨λe=>?_,λe3=>?_⟩
  .simp only[aO]at e
   refine(vA t (R.ext f) (L.ext f) C.F C.Qb C.arg C.call (Or.inl e)).aK n i λg A c w a=>⟨g,rfl,fV (c.trans ?_) (b.trans a)⟩
   refine⟨λd=>?_,λh=>h.dg (Or.inl e)⟩
   refine⟨q,p,?_,?_,?_,?_,?_,?_,?_,?_,?_,?_,?_⟩<;>intro r<;>first|(exfalso;omega)|exact d
  simp only[ap]at e3
  refine⟨λe=>?_,λe4=>?_⟩
  .simp only[aO]at e
   refine(vA t (R.ext f) (L.ext f) C.F C.Qb C.arg C.call (Or.inr e)).aK n i λg A c w a=>⟨g,rfl,λu=>?_,λz=>cw (λl=>fb c z (l.dg (Or.inr e))) (b.trans a)⟩
   refine(lJ (X.ext (b.trans a))).aK a i λb2 m5 y k s=>⟨b2,rfl,λag=>?_,λv=>cw (λl=>fb y v (l.zero (Or.inl e)).1) (b.trans s)⟩
   refine(lJ (U.ext (b.trans s))).aK s i λb3 m6 H T j=>⟨b3,rfl,fV (H.trans ?_) (b.trans j)⟩
   refine⟨λd=>?_,λh=>(h.zero (Or.inl e)).2⟩
   refine⟨q,p,?_,?_,?_,?_,?_,?_,?_,?_,?_,?_,?_⟩<;>intro r<;>first|(exfalso;omega)|exact c.1 u|exact⟨y.1 ag,d⟩
  simp only[ap]at e4
  refine⟨λe=>?_,λe5=>?_⟩
  .simp only[aO]at e
   have W:=G.2.1 V
   refine(lJ (X.ext f)).aK n i λb2 m5 y k s=>⟨b2,rfl,λag=>?_,λv=>cw (λl=>fb y v (l.zero (Or.inr e)).1) (b.trans s)⟩
   refine(lJ (U.ext (b.trans s))).aK s i λb3 m6 H T j=>⟨b3,rfl,λav=>?_,λar=>cw (λl=>fb H ar (l.zero (Or.inr e)).2) (b.trans j)⟩
   have ab:=b.trans j
   have aj:=Q.ext ab
   have aa:=aj.ak.len
   have hO:∀d:1<K.ak.length\/aQ m.ax (aQ x.args 0)<1000,uj M K m x bg:=λd=>by
    refine⟨q,p,?_,?_,?_,?_,?_,?_,?_,?_,?_,?_,?_⟩<;>intro r<;>first|(exfalso;omega)|exact⟨y.1 ag,H.1 av⟩|exact d
   refine⟨fr,aj.Q5,λh8=>jt (hO (Or.inl (by simp at h8;omega))) ab,λh8=>?_⟩
   refine⟨V,V,_,D ab V,(B V).1,oh ((B V).2),_,F ab V,(dK _ _).aK j i λb4 m7 ak h9 ae=>⟨b4,rfl,fV ?_ (b.trans ae)⟩⟩
   simp at h8
   constructor
   .intro an
    exact hO (Or.inr (oh (nb ak an)))
   .intro l
    rcases l.ret e with an|an
    .omega
    .have:¬b4=true:=λaw=>by have:=ak.1 aw;omega
     simpa using this
  simp only[ap]at e5
  refine⟨λe=>?_,λe6=>?_⟩
  .simp only[aO]at e
   have W:=G.2.2.1 V
   have j:=B V
   refine⟨V,V,_,D f V,j.1,V,_,F f V,(Hr t C.ok.eT hI (C.F.vg j.1 j.2 C.Qb)).aK n i λg A c w a=>⟨g,rfl,fV (c.trans ?_) (b.trans a)⟩⟩
   refine⟨λd=>?_,λh=>h.apply e⟩
   refine⟨q,p,?_,?_,?_,?_,?_,?_,?_,?_,?_,?_,?_⟩<;>intro r<;>first|(exfalso;omega)|exact d
  simp only[ap]at e6
  refine⟨λe=>?_,λe7=>?_⟩
  .simp only[aO]at e
   have W:=G.2.1 V
   have j:=B V
   refine⟨V,V,_,D f V,j.1,V,_,F f V,d,t.EC,(gQ t.heap (C.F.vg j.1 j.2 C.Qb)).aK n i λg A c w a=>⟨g,rfl,λu=>?_,λz=>cw (λl=>fb c z (l.Zg e).1) (b.trans a)⟩⟩
   have v:=c.1 u
   refine(fC (Q.ext (b.trans a)) v.1 (cz v).1).aK a i ?_
   rintro _ m5 ⟨fl,rfl,aa,k⟩
   refine⟨k,_,_,_,rfl,fV ?_ (b.trans (a.trans k))⟩
   simp only[aq]
   refine⟨λd=>?_,λh=>(h.Zg e).2⟩
   refine⟨q,p,?_,?_,?_,?_,?_,?_,?_,?_,?_,?_,?_⟩<;>intro r<;>first|(exfalso;omega)|exact⟨v,d⟩
  simp only[ap]at e7
  refine⟨λe=>?_,λe8=>?_⟩
  .simp only[aO]at e
   have W:=G.2.1 V
   have j:=B V
   refine⟨V,V,_,D f V,j.1,V,_,F f V,(dK _ _).aK n i λg A c w a=>⟨g,rfl,fV (c.trans ?_) (b.trans a)⟩⟩
   refine⟨λd=>?_,λh=>h.drop e⟩
   refine⟨q,p,?_,?_,?_,?_,?_,?_,?_,?_,?_,?_,?_⟩<;>intro r<;>first|(exfalso;omega)|exact d
  simp only[ap]at e8
  refine⟨λe=>?_,λe9=>?_⟩
  .simp only[cD,aO]at e
   refine(Jd t hI (R.ext f) (U.ext f) (L.ext f) C.F C.Qb C.arg ⟨G.2.2.2.1 e,G.1⟩ e).aK n i λg A c w a=>⟨g,rfl,fV (c.trans ?_) (b.trans a)⟩
   refine⟨λd=>?_,λh=>h.TS e⟩
   refine⟨q,p,?_,?_,?_,?_,?_,?_,?_,?_,?_,?_,?_⟩<;>intro r<;>first|(exfalso;omega)|exact d
  simp only[bW,ap]at e9
  refine⟨λe=>?_,λab=>?_⟩
  .simp only[aO]at e
   have W:=G.2.1 V
   have j:=B V
   refine⟨d,t.EC,V,V,_,D f V,j.1,V,_,F f V,(gQ t.heap (C.F.vg j.1 j.2 C.Qb)).aK n i λg A c w a=>⟨g,rfl,λu=>?_,λz=>cw (λl=>fb c z (l.load e).1) (b.trans a)⟩⟩
   have v:=c.1 u
   have H:=b.trans a
   refine⟨V,V,_,D H V,j.1,V,_,F H V,(fC (Q.ext H) v.1 (cz v).1).aK a i ?_⟩
   rintro _ m5 ⟨fl,rfl,aa,k⟩
   have ag:=aa.len
   refine⟨k,_,_,_,rfl,k.dB ((ai.ext a).cK 2),fV ?_ (b.trans (a.trans k))⟩
   simp only[aq]
   refine⟨λd=>?_,λh=>oh ((h.load e).2)⟩
   refine⟨q,p,?_,?_,?_,?_,?_,?_,?_,?_,?_,?_,?_⟩<;>intro r<;>first|(exfalso;omega)|exact⟨v,V⟩
  simp only[ap]at ab
  refine⟨λe=>?_,λag=>?_⟩
  .simp only[aO]at e
   have W:=G.2.1 V
   have j:=B V
   refine⟨d,t.EC,V,V,_,D f V,j.1,V,_,F f V,(gQ t.heap (C.F.vg j.1 j.2 C.Qb)).aK n i λg A c w a=>⟨g,rfl,λu=>?_,λz=>cw (λl=>fb c z (l.Of e).1) (b.trans a)⟩⟩
   have v:=c.1 u
   have H:=b.trans a
   have l:=Q.ext H
   refine⟨ah,l.bu,V,V,_,D H V,j.1,V,_,F H V,(zo l.eT.bu C.ok.eT.pA.types _).aK a i ?_⟩
   rintro _ m5 ⟨cs,rfl,aj,k⟩
   have s:=a.trans k
   refine⟨k,cs,rfl,k.dB (F H V),k.dB (D H V),k.dB ((ai.ext a).cK 4),k.dB ((ao.ext a).cK 3),(fC (Q.ext (b.trans s)) v.1 (cz v).1).aK s i ?_⟩
   rintro _ m6 ⟨fl,rfl,aa,T⟩
   refine⟨T,_,_,_,rfl,(dj (aj.ext T) _).aK (s.trans T) i λb2 m7 y h8 ae=>⟨b2,rfl,fV (y.trans ?_) (b.trans ae)⟩⟩
   refine⟨λd=>?_,λh=>(h.Of e).2⟩
   refine⟨q,p,?_,?_,?_,?_,?_,?_,?_,?_,?_,?_,?_⟩<;>intro r<;>first|(exfalso;omega)|exact⟨v,d⟩
  .simp only[ap]at ag
   refine jt ?_ f
   refine⟨q,p,?_,?_,?_,?_,?_,?_,?_,?_,?_,?_,?_⟩<;>intro r<;>exfalso<;>omega
end
section
variable{p:Nat->Prop}{o n:Nat}{i:Int}{f:O}
structure dN(p:Nat->Prop)(ro:Nat->Nat)(m:E)(ro':Nat->Nat)(m':E):Prop where
 size:m.size<=m'.size
 jy:∀b,b<m.size->ro' b=ro b
 new:∀b,m'.size<=b->ro' b=0
 fU:∀b,b<m.size->¬p (ro b)->m'[b]? =m[b]?
def dN.aH(p:Nat->Prop){a:Nat->Nat}{m:E}(h:∀b,m.size<=b->a b=0):dN p a m a m:=⟨ad _,λ_ _=>rfl,h,λ_ _ _=>rfl⟩
def dN.trans{g i j:Nat->Nat}{d e f:E}(h:dN p g d i e)(k:dN p i e j f):dN p g d j f:=
 ⟨bJ h.size k.size,λb a=>by rw[k.jy b (aL a h.size),h.jy b a],k.new,λb a c=>by
  rw[k.fU b (aL a h.size) (by rw[h.jy b a];exact c),h.fU b a c]⟩
def dN.mono{q:Nat->Prop}{b c:Nat->Nat}{m a:E}(h:dN p b m c a)(g:∀k,p k->q k):dN q b m c a:=⟨h.size,h.jy,h.new,λd e i=>h.fU d e λf=>i (g _ f)⟩
def dN.fK(p:Nat->Prop){c:Nat->Nat}{m d:E}(h:J m d)(e:∀b,m.size<=b->c b=0):dN p c m c d:=⟨h.size,λ_ _=>rfl,λb a=>e b (bJ h.size a),λb a _=>h.same b a⟩
def dN.aj{a:Nat->Nat}{m:E}(g:∀b,m.size<=b->a b=0){b:Nat}(f:p (a b))(o:Nat)(l:List Ce):dN p a m a (aj m b o l):=
 ⟨pB (aD _ _ _ _).symm,λ_ _=>rfl,λc d=>g c (by rw[aD]at d;exact d),λc _ h=>bh _ _ _ _ λe=>h (e▸f)⟩
abbrev HC:=dN (λk=>k=3\/k=5\/k=6)
abbrev To:=dN (λk=>k≠0/\k≠9)
def dN.cL{g i:Nat->Nat}{c m f:E}(h:To g m i f)(e:J c m)(d:∀b,b<c.size->g b=0):J c f/\∀b,b<c.size->i b=0:=by
 have j:=e.size;exact⟨⟨bJ j h.size,λb a=>by rw[h.fU b V (by simp[d b a]),e.same b a]⟩,λb a=>by rw[h.jy b V,d b a]⟩
def dN.de{e f:Nat->Nat}{m d:E}(h:To e m f d){l:List Nat}(c:∀b∈l,b<m.size/\e b=0):eF l m d:=λb a=>h.fU b (c b a).1 (by simp[(c b a).2])
structure iG(ro:Nat->Nat)(m:E)(e sz k:Nat)(s:O)(l:List Ce):Prop where
 len:l.length=s.len*sz
 le:s.len<=s.cap
 aQ:s.cap=0\/∃b c tail,s=.mk b 0 s.len c/\ro b=k/\cB m b e (l++tail)/\(l++tail).length=c*sz
section
variable{c g:Nat->Nat}{b d:E}{e a k:Nat}{s:O}{l:List Ce}
def iG.Et(h:iG c b e a k s l)(f:s.cap=0):l=[]/\s.len=0:=by
 have:=h.le;have d:s.len=0:=V;exact⟨List.length_eq_zero_iff.1 (by rw[h.len,d];simp),d⟩
def iG.jD(h:iG c b e a k s l):gN b s.aC s.off l:=by
 rcases h.aQ with f|⟨j,d,tail,h1,h2,h3,h4⟩
 .rw[(h.Et f).1];intro i d g;simp at g
 .rw[h1];exact h3.jD.NW
def iG.wr(h:iG c b e a k s l)(d:o+n<=l.length):fq b s.aC (s.off+o) n:=by
 rcases h.aQ with f|⟨g,i,tail,h1,h2,h3,h4⟩
 .rw[(h.Et f).1]at d;intro m j;simp at d;omega
 .rw[h1];simp only[O.fO,O.jg,bG];exact h3.fq bS
def iG.fU(h:iG c b e a k s l)(p:s.cap≠0->d[s.aC]? =b[s.aC]?)(q:s.cap≠0->g s.aC=c s.aC):iG g d e a k s l:=by
 refine⟨h.len,h.le,?_⟩;rcases h.aQ with o|⟨m,n,tail,h1,h2,h3,h4⟩
 .exact Or.inl o
 .by_cases f:s.cap=0
  .exact Or.inl f
  .have i:=p f;have j:=q f;rw[h1]at i j;exact Or.inr ⟨m,n,tail,h1,j.trans h2,h3.congr i,h4⟩
def iG.aC(h:iG c b e a k s l)(f:s.cap≠0):s.aC<b.size/\c s.aC=k:=by
 rcases h.aQ with d|⟨g,i,tail,h1,h2,h3,h4⟩
 .exact absurd d f
 .rw[h1];exact⟨h3.lt,h2⟩
def iG.fI(h:iG c b e a k s l)(i:dN p c b g d)(j:¬p k):iG g d e a k s l:=
 h.fU (λf=>i.fU _ (h.aC f).1 (by rw[(h.aC f).2];exact j)) (λf=>i.jy _ (h.aC f).1)
def iG.set(h:iG c b e a k s l){new:List Ce}(w:o+new.length<=l.length):iG c (aj b s.aC (s.off+o) new) e a k s (iO l o new):=by
 refine⟨by rw[ln];exact h.len,h.le,?_⟩;rcases h.aQ with u|⟨j,n,tail,h1,h2,h3,h4⟩
 .exact Or.inl u
 .refine Or.inr ⟨j,n,tail,h1,h2,?_,by simp only[aU,ln]at h4⊢;exact h4⟩;have p:s.aC=j:=by rw[h1];rfl
  have q:s.off=0:=by rw[h1];rfl
  rw[p,q,bG];have:=cB.aj (m:=b) (o:=o) (r:=new) h3;have t:iO (l++tail) o new=iO l o new++tail:=by
   have f:(iO l o new).length=l.length:=ln _ _ _;apply eM;intro i;rcases aX i l.length with d|d
   .have g:(iO l o new++tail)[i]? =(iO l o new)[i]? :=ay (by rw[f];exact d);rw[g,kU,kU];simp only[aU];by_cases v:o<=i/\i<o+new.length
    .rw[ao V,ao V]
    .rw[ae V,ae V,ay d]
   .have g:(iO l o new++tail)[i]? =tail[i -l.length]? :=by rw[aI (by rw[f];exact d),f]
    rw[g,kU,ae V,aI d]
  rw[t]at this;exact this
def iG.cut(h:iG c b e a k s l){n:Nat}(m:n<=s.len):iG c b e a k (s.cut 0 n a) (l.take (n*a)):=by
 have j:=h.le;have q:=h.len;rcases h.aQ with i|⟨f,g,tail,h1,h2,h3,h4⟩
 .have d:n=0:=V;cases s with
  |nil=>exact⟨by simp[d,O.cut],by simp[O.cut],Or.inl rfl⟩
  |CS f o p=>exact⟨by simp[d,O.cut],by simp[O.cut],Or.inl rfl⟩
  |mk f o r p=>simp at i;subst i;exact⟨by simp[d,O.cut],by simp[d,O.cut],Or.inl (by simp[O.cut])⟩
 .rw[h1];have d:s.len<=g:=by rw[h1]at j;exact j
  refine⟨?_,by simp[O.cut];omega,Or.inr ⟨f,g,l.drop (n*a)++tail,?_,h2,?_,?_⟩⟩
  .simp only[O.cut,O.dU,eJ,Xh];have:n*a<=s.len*a:=dt _ m;omega
  .simp[O.cut]
  .rw[<-fe,dx];exact h3
  .rw[<-fe,dx];exact h4
end
def iG.append{g:Nat->Nat}{f:E}{j l:Nat}{zs:List Ce}{u:Nat}{s x:O}{n c:List Ce}{K:O->E->Prop}(h:iG g f j zs.length l s n)(t:∀a,f.size<=a->g a=0)
 (k:c.length=x.len*zs.length)(B:gN f x.aC x.off c)(i:(s.len+x.len)*u<=140737488355328)
 (q:∀v p d,iG v d j zs.length l p (n++c)->dN (λy=>y=l) g f v d->K p d):jb f j zs u s x K:=by
 have G:=h.le
 refine⟨c,k,B,λD=>?_,λF=>⟨i,n,h.len,h.jD,λd v=>?_⟩⟩
 .rcases h.aQ with C|⟨a,d,tail,h1,h2,h3,h4⟩
  .have w:x.len=0:=V
   have A:c=[]:=List.length_eq_zero_iff.1 (by rw[k,w];simp)
   subst A
   refine⟨λy z=>by simp at z,?_⟩
   have p:=q g s _ (by rw[eL];exact h) (dN.aH _ t)
   cases s with
   |nil=>exact p
   |CS a o H=>exact p
   |mk a o H d=>simp only[w,jo];exact p
  .have w:=h.len
   have A:s.cap=d:=by rw[h1];rfl
   rw[h1]
   simp only[O.fO,O.jg,O.dU,bG]
   simp only[aU]at h4
   have z:c.length<=tail.length:=by
    have y:(s.len+x.len)*zs.length<=d*zs.length:=dt _ V;rw[fZ]at y;omega
   refine⟨h3.fq (by simp only[aU];omega),?_⟩
   have p:=cB.aj (m:=f) (b:=a) (e:=j) (r:=c) (o:=s.len*zs.length) h3
   rw[<-w,AW n c tail z]at p
   refine q g _ _ ⟨?_,?_,Or.inr ⟨a,d,tail.drop c.length,rfl,h2,?_,?_⟩⟩ (dN.aj t h2 _ _)
   .simp only[aU,O.dU,fZ];omega
   .simp only[O.dU,O.ND];omega
   .rw[<-w];exact p
   .simp only[aU,List.length_drop];omega
 .refine q (λa=>if a=f.size then l else g a) _ _ ⟨?_,?_,Or.inr ⟨f.size,d,mf zs (d -(s.len+x.len)),rfl,aJ,cB.push _ _ _,?_⟩⟩ ⟨aJ,λa i=>ae V,λa i=>?_,λa i _=>by rw[xA,ae V]⟩
  .simp only[aU,O.dU,fZ,h.len,k]
  .simpa using v
  .simp only[aU,mE,h.len,k]
   rw[Nat.sub_mul,<-fZ]
   have:(s.len+x.len)*zs.length<=d*zs.length:=dt _ v
   omega
  .simp at i;rw[ae V];exact t a V
def iG.gG{d:Nat->Nat}{i m:E}{e f k:Nat}{s:O}{l:List Ce}(h:gS i m e f s l)(g:s≠.nil->d s.aC=k):iG d m e f k s l:=by
 refine⟨h.len,?_,?_⟩
 .rcases h.aQ with a|⟨b,c,tail,a,h2,h3,h4,h5⟩
  .rw[a];exact ad _
  .rw[a];exact h5
 .rcases h.aQ with a|⟨b,c,tail,a,h2,h3,h4,h5⟩
  .rw[a];exact Or.inl rfl
  .refine Or.inr ⟨b,c,tail,a,?_,h3,h4⟩;have:=g (by rw[a];simp);rw[a]at this;exact this
def iG.pw{e:Nat->Nat}{m:E}{k:Nat}{s:O}{l:List Int}(h:iG e m aA 1 k s (l.map Ce.i))(g:l.length<=9223372036854775807):au m s l:=by
 have d:s.len=l.length:=by have:=h.len;simp at this;omega
 refine⟨d,h.le,V,λj x c=>⟨[.i x],rfl,λi f a=>?_⟩⟩;have b:i=0:=by have:=az a;simp at this;omega
 subst b;simp at a;subst a;have:=h.jD j (.i x) (by simp[c]);simpa using this
def ze(l:List Int)(i:Nat)(v:Int):iO (l.map Ce.i) i [.i v]=(l.set i v).map Ce.i:=by simp[iO,tj]
def iG.iD{a:Nat->Nat}{m:E}{k:Nat}{s:O}{l:List Int}(h:iG a m aA 1 k s (l.map Ce.i))(b:0<=i)(c:i<l.length)(v:Int):iG a (aj m s.aC (s.off+i.toNat*1) [.i v]) aA 1 k s ((Go.Proofs.YtdalfjkmdekijaaGreat.iD l i v).map Ce.i):=by
 have:=h.set (o:=i.toNat) (new:=[.i v]) bS;rw[ze]at this;rw[cT];exact this
def iG.Sj{a:Nat->Nat}{m:E}{k:Nat}{s:O}{l:List Int}(h:iG a m aA 1 k s (l.map Ce.i))(b:0<=i)(c:i<l.length):fq m s.aC (s.off+i.toNat*1) 1:=by
 rw[cT];exact h.wr bS
def FB(m:E)(f:O)(l:List Int):Prop:=∃c tail,f=.mk f.aC 0 f.len c/\cB m f.aC aA (l.map Ce.i++tail)
def FN(N:Nat)(a:Nat->Nat)(m:E)(f:O)(l:List Int):Prop:=l≠[]->a f.aC=0/\N<=f.aC/\FB m f l
def HV(N:Nat)(b:Nat->Nat)(m:E)(a:List Ce)(c:bU):Prop:=∃f,a=[.i c.aV,.i c.mJ,.s f]/\au m f c.aN/\FN N b m f c.aN
def Xj(e:List (List Ce)):Prop:=∀(i j:Nat)(c d:List Ce)(a b:O),e[i]? =some c->e[j]? =some d->c[2]? =some (.s a)->d[2]? =some (.s b)->i≠j->a.len≠0->b.len≠0->a.aC≠b.aC
def Xj.nil:Xj []:=λi j c d a b h=>by simp at h
def eS(N:Nat)(b:Nat->Nat)(m:E)(c:O)(h:List bU):Prop:=∃a,iG b m rZ 3 3 c a.flatten/\gU 3 (HV N b m) a h/\Xj a
def Ur(a:Nat->Nat)(m:E)(i:Nat)(b:List Ce)(f:be):Prop:=
 ∃r o h,b=[.i f.dW,.i f.pc,.i f.dst,.s r,.s o,.s h]/\iG a m aA 1 (10+3*i) r (f.ax.map Ce.i)/\iG a m aA 1 (11+3*i) o (f.bg.map Ce.i)/\iG a m aA 1 (12+3*i) h (f.bB.map Ce.i)
structure Zw(ro:Nat->Nat)(m:E)(fr:O)(fs:List be)(css:List (List Ce)):Prop where
 sk:iG ro m eE 6 4 fr css.flatten
 len:css.length=fs.length
 size:∀cs∈css,cs.length=6
 df:∀(i:Nat)(cs:List Ce)(f:be),css[i]? =some cs->fs[i]? =some f->Ur ro m i cs f
def oF(d:Nat->Nat)(m:E)(b:O)(c:List be):Prop:=∃a,Zw d m b c a
def nF{m b:E}{l:List Int}(h:au m f l)(j:l≠[]->b[f.aC]? =m[f.aC]?):au b f l:=by
 by_cases a:l=[]
 .subst a;exact⟨h.len,h.cap,h.fA,aJ⟩
 .exact⟨h.len,h.cap,h.fA,λo x n=>let⟨d,e,g⟩:=h.jD o x n;⟨d,e,λi c k=>by rw[aM (j a)];exact g i c k⟩⟩
def oG{m:E}{l:List Int}(h:au m f l)(a:l≠[]):f.aC<m.size:=by
 cases l with
 |nil=>exact absurd rfl a
 |cons b l=>exact lH (h.aQ (k:=0) (x:=b) rfl)
def HV.fI{N:Nat}{k l:Nat->Nat}{m j:E}(c:dN p k m l j)(h:¬p 0)(e:List Ce)(d:bU):HV N k m e d->HV N l j e d:=λ⟨f,q,b,i⟩=>
 ⟨f,q,nF b λa=>c.fU _ (oG b a) (by rw[(i a).1];exact h),λa=>by
  let⟨g1,g2,n,tail,o,g⟩:=i a;exact⟨by rw[c.jy _ (oG b a)];exact g1,g2,n,tail,o,g.congr (c.fU _ g.lt (by rw[g1];exact h))⟩⟩
def eS.fI{N:Nat}{p:Nat->Prop}{d e:Nat->Nat}{m c:E}{b:O}{h:List bU}(n:eS N d m b h)(a:dN p d m e c)(g:¬p 0)(k:¬p 3):eS N e c b h:=by
 let⟨f,i,j,l⟩:=n;exact⟨f,i.fI a k,j.mono (HV.fI a g),l⟩
def Ur.fI{p:Nat->Prop}{e g:Nat->Nat}{m d:E}(a:dN p e m g d){i:Nat}(b:∀k,10+3*i<=k->k<=12+3*i->¬p k){c:List Ce}{f:be}:Ur e m i c f->Ur g d i c f:=λ⟨r,o,h,j,k,l,n⟩=>
 ⟨r,o,h,j,k.fI a (b _ V V),l.fI a (b _ V V),n.fI a (b _ V V)⟩
def oF.fI{p:Nat->Prop}{g j:Nat->Nat}{m e:E}{a:O}{b:List be}(r:oF g m a b)(c:dN p g m j e)(d:∀k,(k=4\/10<=k)->¬p k):oF j e a b:=by
 let⟨n,h⟩:=r;exact⟨n,h.sk.fI c (d 4 V),h.len,h.size,λi l f o q=>(h.df i l f o q).fI c λk s _=>d k V⟩
structure Cm(m0:E)(ro:Nat->Nat)(m:E)(mb e:Nat)(bx:List Ce)(bC hp fr:O)(lo:List Int)(lh:List bU)(lf:List be):Prop where
 cL:J m0 m
 kM:∀b,b<m0.size->ro b=0
 new:∀b,m.size<=b->ro b=0
 box:cB m mb e bx
 Rl:ro mb=1
 bC:iG ro m aA 1 2 bC (lo.map Ce.i)
 heap:eS m0.size ro m hp lh
 ak:oF ro m fr lf
section
variable{j:E}{b g:Nat->Nat}{a c:E}{d e:Nat}{h:List Ce}{bC l k:O}{r:List Int}{q:List bU}{o:List be}
def Cm.ext(L:Cm j b a d e h bC l k r q o)(g:J a c):Cm j b c d e h bC l k r q o/\To b a b c:=by
 have f:∀p,dN p b a b c:=λp=>dN.fK p g L.new;exact⟨⟨L.cL.trans g,L.kM,(f (λ_=>False)).new,L.box.ext g,L.Rl,L.bC.fI (f (λ_=>False)) id,L.heap.fI (f (λ_=>False)) id id,L.ak.fI (f (λ_=>False)) λ_ _=>id⟩,f _⟩
def Cm.oZ(L:Cm j b a d e h bC l k r q o)(i:Nat)(c:List Ce):Cm j b (aj a d i c) d e (iO h i c) bC l k r q o/\To b a b (aj a d i c):=by
 have f:dN (λg=>g=1) b a b (aj a d i c):=dN.aj L.new L.Rl _ _;have n:To b a b (aj a d i c):=f.mono λg p=>V;let⟨b1,b2⟩:=n.cL L.cL L.kM;exact⟨⟨b1,b2,f.new,cB.aj (m:=a) L.box,L.Rl,L.bC.fI f bo,L.heap.fI f bo bo,L.ak.fI f λg p=>V⟩,n⟩
def Cm.xz(L:Cm j b a d e h bC l k r q o){i:Nat}(c:i+n<=h.length):fq a d i n:=L.box.fq c
def Cm.jJ(L:Cm j b a d e h bC l k r q o)(f:dN (λi=>i=3\/i=5\/i=6) b a g c){m:O}{p:List bU}(s:eS j.size g c m p):Cm j g c d e h bC m k r p o/\To b a g c:=by
 have n:To b a g c:=f.mono λi t=>V;let⟨b1,b2⟩:=n.cL L.cL L.kM;exact⟨⟨b1,b2,f.new,L.box.congr (f.fU _ L.box.lt (by rw[L.Rl];decide)),by rw[f.jy _ L.box.lt];exact L.Rl,L.bC.fI f bo,s,L.ak.fI f λi t=>V⟩,n⟩
def Cm.KJ(L:Cm j b a d e h bC l k r q o)(f:dN (λi=>i=2) b a g c){p:O}{n:List Int}(s:iG g c aA 1 2 p (n.map Ce.i)):Cm j g c d e h p l k n q o/\To b a g c:=by
 have m:To b a g c:=f.mono λi t=>V;let⟨b1,b2⟩:=m.cL L.cL L.kM;exact⟨⟨b1,b2,f.new,L.box.congr (f.fU _ L.box.lt (by rw[L.Rl];decide)),by rw[f.jy _ L.box.lt];exact L.Rl,s,L.heap.fI f bo bo,L.ak.fI f λi t=>V⟩,m⟩
def Cm.lQ(L:Cm j b a d e h bC l k r q o)(f:dN (λi=>4<=i/\i≠9) b a g c){m:O}{p:List be}(s:oF g c m p):Cm j g c d e h bC l m r q p/\To b a g c:=by
 have n:To b a g c:=f.mono λi t=>V;let⟨b1,b2⟩:=n.cL L.cL L.kM;exact⟨⟨b1,b2,f.new,L.box.congr (f.fU _ L.box.lt (by rw[L.Rl];decide)),by rw[f.jy _ L.box.lt];exact L.Rl,L.bC.fI f bo,L.heap.fI f bo bo,s⟩,n⟩
end
end
section
variable{α:Type}{k:Nat}
def up{α:Type}(f:Nat->α)(k:Nat)(x:α):Nat->α:=λj=>if j=k then x else f j
@[simp] theorem Gb (f:Nat->α) (k:Nat) (x:α):up f k x k=x:=ao rfl
def PC(f:Nat->α)(k:Nat)(x:α){j:Nat}(h:j≠k):up f k x j=f j:=ae h
def Pr(a:Nat->O):List Ce:=[.s (a 0),.s (a 1),.s (a 2),.s (a 3),.s (a 4),.s (a 5),.s (a 6)]
def RZ(a:Nat->O)(b:k<7):(Pr a)[k]? =some (.s (a k)):=by
 rcases k with _|_|_|_|_|_|_|k<;>first|rfl|omega
def Nc(a:Nat->O)(b:k<7)(r:O):iO (Pr a) k [.s r]=Pr (up a k r):=by
 rcases k with _|_|_|_|_|_|_|k<;>first|rfl|omega
structure iY(ro:Nat->Nat)(m:E)(lb:Nat)(sl:Nat->O)(L:Nat->List Int):Prop where
 new:∀b,m.size<=b->ro b=0
 jy:ro lb=8
 box:cB m lb AA (Pr sl)
 sk:∀k,k<7->iG ro m aA 1 (k+1) (sl k) ((L k).map Ce.i)
section
variable{f j:Nat->Nat}{a h:E}{d:Nat}{b:Nat->O}{L:Nat->List Int}
def iY.cK(h:iY f a d b L){k:Nat}(c:k<7):af a d k=some (O.v (b k)):=by
 rw[h.box.cK,RZ b c];rfl
def iY.pw(h:iY f a d b L){k:Nat}(c:k<7)(e:(L k).length<=10^12):au a (b k) (L k):=(h.sk k c).pw V
def iY.len(h:iY f a d b L){k:Nat}(c:k<7):(b k).len=(L k).length:=by have:=(h.sk k c).len;simp at this;omega
def iY.to(h:iY f a d b L):To f a f a:=dN.aH _ h.new
def iY.ext(c:iY f a d b L)(e:J a h):iY f h d b L:=
 ⟨λi l=>c.new i (bJ e.size l),c.jy,c.box.congr (e.same d c.box.lt),λk g=>(c.sk k g).fU (λj=>e.same _ ((c.sk k g).aC j).1) λ_=>rfl⟩
def iY.kj(p:iY f a d b L)(s:k<7)(C:(L k).length<=10^12)(i:Int){K:O->E->Prop}
 (B:∀j r h,To f a j (aj h d k [.s r])->iY j (aj h d k [.s r]) d (up b k r) (up L k (L k++[i]))->K r h):
 jb (a.push (.cells (bE [.i i]) aA)) aA [.i 0] 8 (b k) (.mk a.size 0 1 1) λr h=>fq h d k 1/\K r h:=by
 have z:=J.push a (.cells (bE [.i i]) aA)
 have c:=p.ext z
 have D:=p.len s
 refine iG.append (zs:=[.i 0]) (c:=[.i i]) (c.sk k s) c.new aJ ((cB.push a (e:=aA) (l:=[.i i])).jD) (by simp only[O.dU];omega) λj r h v n=>?_
 have x:cB h d AA (Pr b):=c.box.congr (n.fU d c.box.lt (by simp only[c.jy];omega))
 have o:j d=8:=by rw[n.jy d c.box.lt,c.jy]
 have A:To f a j h:=(dN.fK _ z p.new).trans (n.mono λt y=>V)
 have u:To f a j (aj h d k [.s r]):=A.trans (dN.aj n.new (by simp only[o];omega) _ _)
 refine⟨x.fq (by show k+1<=7;omega),B j r h u ⟨u.new,o,Nc b s r▸cB.aj (m:=h) x,λt y=>?_⟩⟩
 by_cases g:t=k
 .subst g
  rw[Gb,Gb,eX]
  refine v.fU (λq=>bh _ _ _ _ λg=>?_) λ_=>rfl
  have:=(v.aC q).2
  rw[g,o]at this;omega
 .rw[PC _ _ _ g,PC _ _ _ g]
  have w:=(c.sk t y).fI n V
  refine w.fU (λq=>bh _ _ _ _ λg=>?_) λ_=>rfl
  have:=(w.aC q).2
  rw[g,o]at this;omega
def iY.put(h:iY f a d b L){i:Nat}(r:k<7)(n:i<(L k).length)(x:Int):
 fq a (b k).aC ((b k).off+i*1) 1/\iY f (aj a (b k).aC ((b k).off+i*1) [.i x]) d b (up L k ((L k).set i x))/\To f a f (aj a (b k).aC ((b k).off+i*1) [.i x]):=by
 have g:=h.sk k r
 have s:(L k).map Ce.i≠[]:=λe=>by simp at e;rw[e]at n;simp at n
 have j:(b k).cap≠0:=λj=>s (g.Et j).1
 let⟨t,l⟩:=g.aC j
 have c:To f a f (aj a (b k).aC ((b k).off+i*1) [.i x]):=dN.aj h.new (by simp only[l];omega) _ _
 refine⟨g.wr bS,⟨c.new,h.jy,h.box.congr (bh _ _ _ _ λe=>by have:=h.jy;rw[e,l]at this;omega),λp q=>?_⟩,c⟩
 by_cases e:p=k
 .subst e
  rw[Gb]
  have:=g.set (o:=i*1) (new:=[.i x]) bS
  rw[ze,cT]at this
  rw[cT];exact this
 .rw[PC _ _ _ e]
  have m:=h.sk p q
  refine m.fU (λj=>bh _ _ _ _ λe=>?_) λ_=>rfl
  have:=(m.aC j).2
  rw[e,l]at this;omega
def iY.W3(h:iY f a d b L)(j:k<7){r:O}{l:List Int}(o:iG f a aA 1 (k+1) r (l.map Ce.i)):
 fq a d k 1/\iY f (aj a d k [.s r]) d (up b k r) (up L k l)/\To f a f (aj a d k [.s r]):=by
 have c:To f a f (aj a d k [.s r]):=dN.aj h.new (by simp only[h.jy];omega) _ _
 refine⟨h.box.fq (by show k+1<=7;omega),⟨c.new,h.jy,Nc b j r▸cB.aj (m:=a) h.box,λn g=>?_⟩,c⟩
 have K:∀{i s l},iG f a aA 1 (i+1) s l->i<7->iG f (aj a d k [.s r]) aA 1 (i+1) s l:=λ{i s l} g' hk'=>by
  refine g'.fU (λp=>bh _ _ _ _ λe=>?_) λ_=>rfl;have:=(g'.aC p).2;rw[e,h.jy]at this;omega
 by_cases e:n=k
 .subst e
  rw[Gb,Gb];exact K o j
 .rw[PC _ _ _ e,PC _ _ _ e];exact K (h.sk n g) g
def iY.cut(h:iY f a d b L){k n:Nat}(c:k<7)(l:n<=(L k).length):
 n<=(b k).cap/\fq a d k 1/\iY f (aj a d k [.s ((b k).cut 0 n 1)]) d (up b k ((b k).cut 0 n 1)) (up L k ((L k).take n))/\To f a f (aj a d k [.s ((b k).cut 0 n 1)]):=by
 have g:=h.sk k c
 have i:=h.len c
 have j:=g.le
 have e:=g.cut (n:=n) V
 rw[cT,<-Nk]at e
 exact⟨V,h.W3 c e⟩
end
structure pE(ds:List bq)(n b:Nat)(L:Nat->List Int):Prop where
 len:∀k,k<6->(L k).length=n
 WY:∀(v:Nat)(p:Int),(L 2)[v]? =some p->p<v
 Ow:∀(v:Nat)(c f:Int),(L 3)[v]? =some c->(L 4)[v]? =some f->0<=c->0<=f/\f+((cg ds c).length:Int)<=b
 dg:(L 6).length<=10^12
abbrev rJ(a:List bq)(n:Nat)(L:Nat->List Int):Prop:=pE a n n L
def Kd(L:Nat->List Int)(t o p:Int):Nat->List Int:=up (up (up (up (up (up L 0 (L 0++[t])) 1 (L 1++[o])) 2 (L 2++[p])) 3 (L 3++[-1])) 4 (L 4++[-1])) 5 (L 5++[-1])
def zL{j:Nat->Nat}{m:E}{b:Nat}{x:Nat->O}{L:Nat->List Int}(h:iY j m b x L)(a:∀k,k<6->(L k).length<=10^12)(t o p:Int):
 aP cv 267 [vp b 0,vi t,vi o,vi p] m λ_ i=>∃l y,To j m l i/\iY l i b y (Kd L t o p):=by
 apply wE (b,0)
 simp -zeta only[bG]
 refine⟨_,h.cK (k:=0) bo,?_⟩
 intro z
 refine h.kj (k:=0) bo (a 0 bo) t λN U G n c=>⟨_,c.cK (k:=1) bo,?_⟩
 intro A
 refine c.kj (k:=1) bo (a 1 bo) o λP V H q d=>⟨_,d.cK (k:=2) bo,?_⟩
 intro B
 refine d.kj (k:=2) bo (a 2 bo) p λQ W I r e=>⟨_,e.cK (k:=3) bo,?_⟩
 intro C
 refine e.kj (k:=3) bo (a 3 bo) (-1) λR X J s f=>⟨_,f.cK (k:=4) bo,?_⟩
 intro D
 refine f.kj (k:=4) bo (a 4 bo) (-1) λS Y K u g=>⟨_,g.cK (k:=5) bo,?_⟩
 intro F
 exact g.kj (k:=5) bo (a 5 bo) (-1) λT Z M v w=>⟨_,_,((((n.trans q).trans r).trans s).trans u).trans v,w⟩
end
section
variable{l:List Int}{d:Nat->Nat}{a:E}{P:(Nat->List Int)->Prop}{b:Nat}{v:Int}
def GI.bC{S:List Nat}{n m:E}{s:O}(h:GI S n m s l):gS n m aA 1 s (l.map Ce.i):=by
 have u:=h.len bo;let⟨r,d,o,a⟩:=h;have t:d.flatten.length=l.length:=by rw[dp a.size,a.len];omega
 have q:d.flatten=l.map Ce.i:=by
  apply eM;intro e;rcases aX e l.length with b|b
  .let⟨x,k⟩:=dJ b;let⟨f,j⟩:=cq d e (by rw[a.len];exact b);have p:f=[.i x]:=a.df e f x j k;have g:=iH (g:=1) a.size j (i:=0) (c:=.i x) (by rw[p];rfl);simp only[cT,jo]at g;rw[g];simp[k]
  .rw[bV V,bV (by simpa using b)]
 rw[<-q];exact o
def AZ(f:Nat->Nat)(m:E)(e:Nat)(P:(Nat->List Int)->Prop)(v:Value)(a:E):Prop:=∃(b:Bool)(d:Nat->Nat),v=vb b/\To f m d a/\(b=true->∃g c,iY d a e g c/\P c)
def AZ.no{b:Nat->Nat}{m:E}{c:Nat}(h:To b m d a):AZ b m c P (vb false) a:=⟨false,d,rfl,h,aJ⟩
def AZ.Oy{c:Nat->Nat}{m:E}{b:Nat}{e:Nat->O}{L:Nat->List Int}(h:To c m d a)(f:iY d a b e L)(g:P L):AZ c m b P (vb true) a:=⟨true,d,rfl,h,λ_=>⟨e,L,f,g⟩⟩
def AZ.mono{e:Nat->Nat}{m:E}{c:Nat}{Q:(Nat->List Int)->Prop}{v:Value}(h:AZ e m c P v a)(n:∀L,P L->Q L):AZ e m c Q v a:=let⟨b,d,f,g,i⟩:=h;⟨b,d,f,g,λl=>let⟨o,L,j,k⟩:=i l;⟨o,L,j,n L k⟩⟩
def pE.bg{a:List bq}{n:Nat}{L:Nat->List Int}(h:pE a n b L)(g:l.length=n):pE a n b (up L 1 l):=
 ⟨λk d=>by by_cases e:k=1<;>simp_all [up,h.len k],λv p=>by simpa[up]using h.WY v p,λv c f=>by simpa[up]using h.Ow v c f,by simpa[up]using h.dg⟩
def pE.tok{a:List bq}{n:Nat}{L:Nat->List Int}(h:pE a n b L)(g:l.length=n):pE a n b (up L 5 l):=
 ⟨λk d=>by by_cases e:k=5<;>simp_all [up,h.len k],λv p=>by simpa[up]using h.WY v p,λv c f=>by simpa[up]using h.Ow v c f,by simpa[up]using h.dg⟩
def Kb{b x:Int}{v:Nat}(h:(l++[b])[v]? =some x):l[v]? =some x\/v=l.length/\x=b:=by
 rcases aX v l.length with a|a
 .rw[ay a]at h;exact Or.inl h
 .rw[aI a]at h;have:=az h;simp at this;have e:v=l.length:=V;subst e;simp at h;exact Or.inr ⟨rfl,h.symm⟩
def pE.CH{c:List bq}{n a:Nat}{L:Nat->List Int}(h:pE c n b L)(j:b<=a):pE c n a L:=
 ⟨h.len,h.WY,λv d f g i e=>oh (h.Ow v d f g i e),h.dg⟩
def pE.NM{f:List bq}{n:Nat}{L:Nat->List Int}(h:pE f n b L)(u t:Int){p:Int}(r:p<n):pE f (n+1) b (Kd L u t p):=by
 have a:=h.len;refine⟨λk w=>?_,λv q s=>?_,λv e g j m i=>?_,by simpa[Kd,up]using h.dg⟩
 .rcases k with _|_|_|_|_|_|k<;>first|omega|(simp[Kd,up,a])
 .have d:(L 2++[p])[v]? =some q:=by simpa[Kd,up]using s
  rcases Kb d with c|⟨rfl,rfl⟩
  .exact h.WY v q c
  .rw[a 2 bo];exact r
 .have l:(L 3++[-1])[v]? =some e:=by simpa[Kd,up]using j
  have o:(L 4++[-1])[v]? =some g:=by simpa[Kd,up]using m
  rcases Kb l with c|⟨rfl,rfl⟩
  .rcases Kb o with d|⟨d,rfl⟩
   .have:=h.Ow v e g c d i;omega
   .have:=az c;rw[a 4 bo]at d;rw[a 3 bo]at this;omega
  .omega
section
variable{f:Nat->Nat}{m:E}{e:Nat}{g:Nat->O}{L:Nat->List Int}{h:List bq}{c:Nat}
def iY.aQ(h:iY f m e g L){k:Nat}(b:k<7)(c:(L k).length<=10^12){i:Nat}{x:Int}(a:(L k)[i]? =some x):af m (g k).aC ((g k).off+i*1)=some (vi x):=(h.pw b c).aQ a
def ud(a:iY f m e g L)(q:rJ h c L)(u:c<=10^12)(b:0<=v)(s:v<c):aP cv 268 [vp e 0,vi v] m (AZ f m e λd=>∃l:List Int,l.length=c/\d=up L 1 l):=by
 apply wH (e,0);simp -zeta only[bG];have o:=q.len 1 bo;have t:=a.len (k:=1) bo;let⟨x,r⟩:=cq (L 1) v.toNat;have j:=a.aQ bo V r;have d:=a.cK (k:=1) bo;let⟨w,p,n⟩:=a.put (k:=1) (i:=v.toNat) bo V (cQ (x -1));exact⟨_,d,b,V,x,j,λ_=>.no a.to,λ_=>⟨_,d,_,d,b,V,x,j,b,V,w,.Oy n p ⟨_,by simp[o],rfl⟩⟩⟩
def rP(q:iY f m e g L)(j:rJ h c L)(t:c<=10^12)(i:0<=v)(o:v<c):nW 228 [vp e 0,vi v] m:=by
 apply vy (e,0);refine⟨λv a=>0<=v/\v<(c:Int)/\J m a,λv _=>v.toNat,⟨i,o,J.aH _⟩,?_⟩;rintro v A ⟨i,o,d⟩;have H:=q.ext d;have w:=H.len (k:=1) bo;have z:=H.len (k:=2) bo;have C:=j.len 1 bo;have D:=j.len 2 bo;let⟨x,s⟩:=cq (L 1) v.toNat;let⟨y,p⟩:=cq (L 2) v.toNat;have u:=j.WY _ _ p;refine⟨_,H.cK (k:=1) bo,i,V,x,H.aQ bo V s,λ_=>⟨_,H.cK (k:=6) bo,?_⟩,λ_=>rA d⟩;refine(dj (H.pw (k:=6) bo j.dg) v).then λb B _ l=>⟨_,rfl,λ_=>?_,λ_=>rA (d.trans l)⟩;have n:=H.ext l;refine⟨_,n.cK (k:=2) bo,i,V,y,n.aQ bo V p,λ_=>rA (d.trans l),λr=>?_⟩;simp only[bD]at r;exact⟨⟨V,V,d.trans l⟩,by show y.toNat<v.toNat;omega⟩
def KQ(i:iY f m e g L)(u:rJ h c L)(R:c<=10^12){b:Nat}(H:b<=c):aP cv 291 [vp e 0,vi b] m (AZ f m e λd=>(∀j,j<6->(d j).length=b)/\(d 6).length<=10^12):=by
 apply xW (e,0);simp -zeta only[bG];refine⟨λv a=>(b:Int)<=v/\v<=c/\a=m,λv _=>((c:Int) -v).toNat,⟨V,V,rfl⟩,?_⟩;rintro v W ⟨P,p,rfl⟩;have o:=λj(G:j<6)=>i.len (k:=j) V;have d:=u.len;have S:=o 0 bo;have T:=o 1 bo;have U:=o 5 bo;have n0:=d 0 bo;have n1:=d 1 bo;have n5:=d 5 bo;refine⟨_,i.cK (k:=0) bo,λw=>?_,λw=>?_⟩
 .simp only[aq]at w;let⟨x,q⟩:=cq (L 1) v.toNat;let⟨y,r⟩:=cq (L 5) v.toNat;refine⟨_,i.cK (k:=1) bo,V,V,x,i.aQ bo V q,λ_=>.no i.to,λ_=>⟨_,i.cK (k:=5) bo,V,V,y,i.aQ bo V r,λ_=>.no i.to,λ_=>?_⟩⟩;rw[aS V V];exact⟨⟨V,V,rfl⟩,by show((c:Int) -(v+1)).toNat<((c:Int) -v).toNat;omega⟩
 .have tk:∀{l:List Int},l.length=c->(l.take b).length=b:=λQ=>bS;have D:Int.toNat (0:Int)=0:=rfl;have E:Int.toNat (b:Int)=b:=V;rw[D,E];let⟨p1,I,p,x⟩:=i.cut (k:=0) (n:=b) bo (by rw[d 0 bo];exact H);refine⟨_,i.cK (k:=0) bo,V,V,V,I,?_⟩;intro X;let⟨p2,J,q,y⟩:=p.cut (k:=1) (n:=b) bo (by simp[up,d];omega);refine⟨_,p.cK (k:=1) bo,V,V,V,J,?_⟩;intro Y;let⟨p3,K,r,z⟩:=q.cut (k:=2) (n:=b) bo (by simp[up,d];omega);refine⟨_,q.cK (k:=2) bo,V,V,V,K,?_⟩;intro Z;let⟨p4,M,s,A⟩:=r.cut (k:=3) (n:=b) bo (by simp[up,d];omega);refine⟨_,r.cK (k:=3) bo,V,V,V,M,?_⟩;intro m5;let⟨p5,N,t,B⟩:=s.cut (k:=4) (n:=b) bo (by simp[up,d];omega);refine⟨_,s.cK (k:=4) bo,V,V,V,N,?_⟩;intro m6;let⟨p6,O,F,C⟩:=t.cut (k:=5) (n:=b) bo (by simp[up,d];omega);refine⟨_,t.cK (k:=5) bo,V,V,V,O,?_⟩;intro m7;refine AZ.Oy (((((x.trans y).trans z).trans A).trans B).trans C) F ⟨λj G=>?_,?_⟩
  .rcases j with _|_|_|_|_|_|j<;>first|omega|(simp[up,d];omega)
  .simpa[up]using u.dg
end
end
section
variable{a:Nat->Nat}{m d c:E}{X:List Nat}
def XI(m:E)(P:(Nat->List Int)->Prop)(v:Value)(c:E):Prop:=∃d,v=vp d 0/\J m c/\∃a e L,(∀b,b<m.size->a b=0)/\iY a c d e L/\P L
def Mc{t:Nat}{sl:Nat->O}{L:Nat->List Int}(h:iY a m t sl L)(S:∀b,b<7->(L b).length<=10^12):
 aP cv 289 [vp t 0] m (XI m λc=>∀b,b<7->c b=L b):=by
 apply uA (t,0)
 simp -zeta only[bG]
 refine⟨_,h.cK (k:=0) bo,_,h.cK (k:=1) bo,_,h.cK (k:=2) bo,_,h.cK (k:=3) bo,_,h.cK (k:=4) bo,_,h.cK (k:=5) bo,_,h.cK (k:=6) bo,?_⟩
 have C:∀{M:E}(b:Nat),b<7->J m M->iU 50 [O.v (sl b)] M [] (L b=·):=λb z y=>bP [] ((h.ext y).pw z (S b z)) (S b z)
 have c:∀{M H:E},J m M->J M H->∀B,af H t B=af M t B:=λy x' B=>aM (x'.same t (y.lt h.box.lt)) B
 have i:=J.aH m
 refine(C 0 bo i).then λU _ m1 I e d=>⟨_,rfl,c i d _,c i d _,c i d _,c i d _,c i d _,c i d _,?_⟩
 subst e
 refine(C 1 bo d).then λW _ m2 g1 e j=>⟨_,rfl,c d j _,c d j _,c d j _,c d j _,c d j _,?_⟩
 subst e
 have u:=d.trans j
 refine(C 2 bo u).then λX _ m3 g2 e l=>⟨_,rfl,c u l _,c u l _,c u l _,c u l _,?_⟩
 subst e
 have x:=u.trans l
 refine(C 3 bo x).then λY _ m4 K e n=>⟨_,rfl,c x n _,c x n _,c x n _,?_⟩
 subst e
 have D:=x.trans n
 refine(C 4 bo D).then λZ _ m5 N e o=>⟨_,rfl,c D o _,c D o _,?_⟩
 subst e
 have G:=D.trans o
 refine(C 5 bo G).then λs5 _ m6 P e p=>⟨_,rfl,c G p _,?_⟩
 subst e
 have u6:=G.trans p
 refine(C 6 bo u6).then λs6 _ v Q e q=>⟨_,rfl,?_⟩
 subst e
 intro w
 have r:J v w:=J.push _ _
 have z0:=i.size;have z1:=d.size;have z2:=j.size;have z3:=l.size;have z4:=n.size;have z5:=o.size;have z6:=p.size;have z7:=q.size
 have s8:w.size=v.size+1:=by simp[w]
 have y0:=I.bn;have y1:=g1.bn;have y2:=g2.bn;have y3:=K.bn;have y4:=N.bn;have y5:=P.bn;have y6:=Q.bn
 let f:Nat->Nat:=λg=>if g<m.size then 0 else if g<m1.size then 1 else if g<m2.size then 2 else if g<m3.size then 3 else if g<m4.size then 4 else if g<m5.size then 5 else if g<m6.size then 6 else if g<v.size then 7 else if g=v.size then 8 else 0
 let ab:Nat->O:=λb=>if b=0 then U else if b=1 then W else if b=2 then X else if b=3 then Y else if b=4 then Z else if b=5 then s5 else s6
 have A:∀{m0 M:E}{F:O}{T:List Int}{b:Nat},GI [] m0 M F T->J M w->f F.aC=b->iG f w aA 1 b F (T.map Ce.i):=λaa y hr=>iG.gG (aa.bC.ext y) λ_=>hr
 refine⟨v.size,rfl,u6.trans (q.trans r),f,ab,L,λg R=>ao R,⟨λg R=>?_,?_,cB.push _ _ _,λb z=>?_⟩,λ_ _=>rfl⟩
 .simp only[f]
  repeat rw[ae V]
 .simp only[f]
  repeat rw[ae V]
  simp
 .rcases b with _|_|_|_|_|_|_|b
  .exact A (F:=U) (b:=1) I (j.trans (l.trans (n.trans (o.trans (p.trans (q.trans r)))))) (by simp only[f];rw[ae V,ao V])
  .exact A (F:=W) (b:=2) g1 (l.trans (n.trans (o.trans (p.trans (q.trans r))))) (by simp only[f];rw[ae V,ae V,ao V])
  .exact A (F:=X) (b:=3) g2 (n.trans (o.trans (p.trans (q.trans r)))) (by simp only[f];rw[ae V,ae V,ae V,ao V])
  .exact A (F:=Y) (b:=4) K (o.trans (p.trans (q.trans r))) (by simp only[f];rw[ae V,ae V,ae V,ae V,ao V])
  .exact A (F:=Z) (b:=5) N (p.trans (q.trans r)) (by simp only[f];rw[ae V,ae V,ae V,ae V,ae V,ao V])
  .exact A (F:=s5) (b:=6) P (q.trans r) (by simp only[f];rw[ae V,ae V,ae V,ae V,ae V,ae V,ao V])
  .exact A (F:=s6) (b:=7) Q r (by simp only[f];rw[ae V,ae V,ae V,ae V,ae V,ae V,ae V,ao V])
  .omega
structure Gk(d:E)(X:List Nat)(a:Nat->Nat)(m:E):Prop where
 ext:J d m
 fS:∀b,b<d.size->a b=0
 box:∀b∈X,b<m.size/\a b=0
def Gk.to{g:Nat->Nat}(h:Gk d X a m)(e:To a m g c):Gk d X g c:=by
 let⟨i,j⟩:=e.cL h.ext h.fS;exact⟨i,j,λb f=>⟨aL (h.box b f).1 e.size,by rw[e.jy b (h.box b f).1];exact(h.box b f).2⟩⟩
def Gk.de{d m c:E}{X:List Nat}{a e:Nat->Nat}(h:Gk d X a m)(b:To a m e c):eF X m c:=b.de h.box
def Gk.fX(h:Gk d X a m)(x:J m c):Gk d X a c:=⟨h.ext.trans x,h.fS,λb e=>⟨x.lt (h.box b e).1,(h.box b e).2⟩⟩
def Hu{p I aa:O}{q:eQ}(s:au m p q.params)(F:au m I q.dg)(ad:q.params.length<=3)(ac:q.dg.length<=3)(w:List bq):
 aP cv 254 [.agg #[O.v p,O.v I,vi q.aT,O.v aa,vi q.body.aT]] m (XI m (rJ w q.params.length)):=by
 apply zW
 simp -zeta only[aG,aF]
 intro e
 have v:J m e:=J.push _ _
 have s1:e.size=m.size+1:=by simp[e]
 have W:∀b∈[m.size],b<e.size:=by simp[e]
 clear_value e
 refine(bP [] (F.ext v) V).aK (J.aH e) W λs6 _ f D o K _=>⟨_,rfl,?_⟩
 subst o
 intro t
 have P:J f t:=J.push _ _
 have s3:t.size=f.size+1:=by simp[t]
 have z2:=K.size
 have y6:=D.bn
 let h:Nat->Nat:=λb=>if b<e.size then 0 else if b<f.size then 7 else if b=f.size then 8 else 0
 let d:Nat->List Int:=λk=>if k<6 then[]else q.dg
 let r:Nat->O:=λk=>if k<6 then .nil else s6
 have R:iY h t f.size r d:=by
  refine⟨λb l=>?_,?_,cB.push _ _ _,λk B=>?_⟩
  .simp only[h];repeat rw[ae V]
  .simp only[h];repeat rw[ae V]
   simp
  .by_cases g:k<6
   .simp only[r,d,ao g];exact⟨aJ,aJ,Or.inl rfl⟩
   .have o:k=6:=V;subst o;simp only[r,d,ae g];refine iG.gG (D.bC.ext P) λ_=>?_;simp only[h];rw[ae V,ao V]
 have T:rJ w 0 d:=by
  refine⟨λk B=>by simp only[d,ao B];rfl,λg p s=>by simp[d]at s,λg j i z=>by simp[d]at z,by simp[d];omega⟩
 have fS:∀b,b<e.size->h b=0:=λb l=>ao l
 clear_value h d r
 have ag:=s.len
 refine eu (n:=q.params.length) V (λk M=>∃a C L,Gk e [m.size] a M/\iY a M f.size C L/\rJ w k L) ⟨h,r,d,⟨K.trans P,fS,λb l=>by simp at l;subst l;exact⟨V,fS _ V⟩⟩,R,T⟩ ?_
 rintro k M S μ B ⟨a,C,L,i,H,A⟩ Z
 refine dit (λU=>?_) λU=>?_
 .let⟨y,X⟩:=cq q.params k
  have N:∀(u:Int){g:E},J M g->aP cv 267 [vp f.size 0,vi y,vi u,vi (-1:Int)] g λ_ c=>eF [m.size] g c/\S (cQ ((k:Int)+1)) c/\μ (cQ ((k:Int)+1)) c<μ k M:=λu g x=>
   (zL (H.ext x) (λY Q=>by rw[A.len Y Q];omega) y u (-1)).mono λ_ c⟨Y,ab,j,Q⟩=>⟨(i.fX x).de j,Z V _ ⟨Y,ab,_,(i.fX x).to j,Q,(A.NM y u V).CH V⟩⟩
  have G:∀{g:E},J M g->af g p.aC (p.off+Int.toNat (k:Int)*1)=some (vi y):=λx=>(s.ext (v.trans (i.ext.trans x))).aQ X
  refine⟨V,V,y,G (J.aH _),λ_=>?_,λ_=>⟨V,V,y,G (J.aH _),N 0 (J.aH _)⟩⟩
  refine(dj (F.ext (v.trans i.ext)) (k:Int)).then λb M2 _ x=>⟨λj z=>x.same j (i.box j z).1,_,rfl,λ_=>⟨V,V,y,G x,N 1 x⟩,λ_=>⟨V,V,y,G x,N 0 x⟩⟩
 .have o:k=q.params.length:=V
  subst o
  exact⟨f.size,rfl,v.trans i.ext,a,C,L,λb l=>i.fS b V,H,A⟩
end
section
def iY.VB{b:Nat->Nat}{m f:E}{q:Nat}{a:Nat->O}{L:Nat->List Int}(h:iY b m q a L)(fS:∀c,c<f.size->b c=0){k p:Nat}(l:k<7)(c:p<(L k).length):f.size<=(a k).aC/\(a k).aC<m.size/\b (a k).aC=k+1:=by
 have g:=h.sk k l;have o:(L k).map Ce.i≠[]:=λe=>by simp at e;rw[e]at c;simp at c
 let⟨j,d⟩:=g.aC λi=>o (g.Et i).1;refine⟨Gf λn=>?_,j,d⟩;rw[fS _ n]at d;omega
def Gk.SS{c m a g:E}{d:Nat->Nat}{o1 o2:Obj}(j:J c m)(fS:∀b,b<c.size->d b=0)(k:∀b,m.size<=b->d b=0)(e:a=m.push o1)(h:g=a.push o2):Gk c [a.size,m.size] d g:=by
 let⟨l,i⟩:=dk e h;subst e;exact⟨j.trans l,fS,λb f=>⟨i b f,k b (by simp at f;omega)⟩⟩
section
variable{e:Nat->Nat}{m b:E}{g:Nat}{p:Nat->O}{L:Nat->List Int}{f:List bq}{l:List eQ}{h:Nat}{d r a o:O}{x:cF}{c:Prop}{q:List Nat}
def Pu(hx:J b m)(fS:∀u,u<b.size->e u=0)(K:iY e m g p L)(N:rJ f h L)(hn:h<=10^12)(hN:dY b d r f l)(ha:au b a x.args)(hf:OD f q c h x)(an:14<=x.op):
 aP cv 269 [vp g 0,.agg #[O.v d,O.v r],oC x a o] m (AZ e m g (rJ f h)):=by
 apply wF (g,0)
 simp -zeta only[aG,aF,bG]
 intro P Q
 have st:=Gk.SS (a:=P) (g:=Q) hx fS K.new rfl rfl
 have x2:J m Q:=(dk (a:=P) (c:=Q) rfl rfl).1
 have W:To e m e Q:=dN.fK _ x2 K.new
 clear_value Q
 clear_value P
 have D:=K.ext x2
 have aA:=ha.len
 have az:=hf.lj (Or.inl an)
 let⟨A,hy⟩:=cq x.args 0
 let⟨G,y1⟩:=hf.args A (av hy)
 have U:=N.len
 have n1:=U 1 bo;have n3:=U 3 bo;have n4:=U 4 bo;have n5:=U 5 bo
 have l3:=D.len (k:=3) bo;have l5:=D.len (k:=5) bo
 let⟨B,ae⟩:=cq (L 3) A.toNat
 let⟨v,ag⟩:=cq (L 4) A.toNat
 let⟨tk,ap⟩:=cq (L 5) A.toNat
 refine⟨bo,V,A,(ha.ext st.ext).aQ hy,?_⟩
 refine⟨λM=>0<=B/\∃R af s,s.length=h/\To e m R M/\Gk b [P.size,m.size] R M/\iY R M g af (up L 1 s),?_,?_⟩
 .refine⟨_,D.cK (k:=3) bo,G,V,B,D.aQ bo V ae,λ_=>.no W,λw=>?_⟩
  simp only[bD]at w
  refine⟨λ_=>⟨_,D.cK (k:=5) bo,G,V,tk,D.aQ bo V ap,λ_=>.no W,λ_=>?_⟩,λ_=>?_⟩<;>
  .refine(ud D N hn G y1).mono λax m3⟨u,R,ac,H,y⟩=>⟨st.de H,u,ac,λC=>.no (W.trans H),λC=>?_⟩
   obtain⟨af,z,t,s,hl,rfl⟩:=y (by simpa using C)
   exact⟨V,R,af,s,hl,W.trans H,st.to H,t⟩
 .rintro m3 ⟨al,aa,F,s,hl,H,S,y⟩
  have e3:(up L 1 s) 3=L 3:=rfl
  have e4:(up L 1 s) 4=L 4:=rfl
  have e5:(up L 1 s) 5=L 5:=rfl
  have e1:(up L 1 s) 1=s:=rfl
  have ar:=y.len (k:=3) bo
  rw[e3]at ar
  let⟨f0,f1⟩:=N.Ow A.toNat B v ae ag al
  refine⟨_,y.cK (k:=3) bo,G,V,B,y.aQ bo (by rw[e3];omega) ae,?_⟩
  have A1:=y.VB (f:=b) S.fS (k:=1) (p:=A.toNat) bo (by rw[e1];omega)
  have A5:=y.VB (f:=b) S.fS (k:=5) (p:=A.toNat) bo (by rw[e5];omega)
  have hS:∀u∈[(F 1).aC,(F 5).aC],u<m3.size:=λu C=>by simp at C;omega
  have ak:∀{M:E},J b M->Le b (bI [(F 1).aC,(F 5).aC] M):=λxx=>(yW b).trans (xx.bI λu C=>Or.inr (by simp at C;omega))
  refine(dF hS (hN.bu.le (ak S.ext)) hN.types B).mono λax m4⟨aj,fl,ac,hs,am,x4⟩=>⟨λu C=>x4.same u (S.box u C).1,aj,ac,?_⟩
  subst am
  have c4:To e m aa m4:=H.trans (dN.fK _ x4 y.new)
  have aC:=hs.len
  have f3:=Ey hN.types B
  refine eu (n:=(cg f B).length) V (λz M=>∃s,s.length=h/\To e m aa M/\Gk b [P.size,m.size] aa M/\iY aa M g F (up L 1 s)/\Fz [(F 1).aC,(F 5).aC] m4 M) ⟨s,hl,c4,(S.fX x4),(y.ext x4),Fz.aH _ _⟩ ?_
  rintro z M ay μ aB ⟨w,Z,X,ab,t,ad⟩ ai
  have ao:=hs.le (ad.cR λ_ K=>K)
  refine⟨λah=>?_,λah=>?_⟩
  .simp only[aq]at ah
   let⟨aw,hz⟩:=cq (cg f B) z
   refine⟨V,V,aw,(ao.le (bA _ _)).aQ hz,λ_=>?_,λ_=>ai V _ ⟨w,Z,X,ab,t,ad⟩⟩
   have E3:(up L 1 w) 4=L 4:=rfl
   have E1:(up L 1 w) 1=w:=rfl
   have G1:=t.cK (k:=1) bo
   have G4:=t.cK (k:=4) bo
   have l4:=t.len (k:=4) bo
   have l1:=t.len (k:=1) bo
   rw[E3]at l4;rw[E1]at l1
   have V4:=t.aQ (k:=4) bo (by rw[E3];omega) ag
   have ew:cQ (v+(z:Int))=v+z:=aS V V
   let⟨T,hw⟩:=cq w ((v+(z:Int)).toNat)
   let⟨wr,Y,I⟩:=t.put (k:=1) (i:=(v+(z:Int)).toNat) bo (by rw[E1];omega) (cQ (T+1))
   refine⟨_,G1,_,G4,G,V,v,V4,_,G1,_,G4,G,V,v,V4,?_⟩
   rw[ew]
   refine⟨V,V,T,t.aQ (k:=1) bo (by rw[E1];omega) hw,V,V,wr,ab.de I,ai V _ ⟨w.set (v+(z:Int)).toNat (cQ (T+1)),by simp[Z],X.trans I,ab.to I,?_,ad.aj (Or.inl aJ) _ _⟩⟩
   have:up (up L 1 w) 1 ((up L 1 w) 1|>.set (v+(z:Int)).toNat (cQ (T+1)))=up L 1 (w.set (v+(z:Int)).toNat (cQ (T+1))):=by funext j;simp only[up];split<;>rfl
   rw[this]at Y;exact Y
  .refine⟨λ_=>?_,λ_=>.Oy X t (N.bg Z)⟩
   have T:(up L 1 w) 5=L 5:=rfl
   have aw:=t.len (k:=5) bo
   rw[T]at aw
   let⟨wr,Y,I⟩:=t.put (k:=5) (i:=A.toNat) bo (by rw[T];omega) (aj.len:Int)
   exact⟨_,t.cK (k:=5) bo,G,V,wr,ab.de I,.Oy (X.trans I) Y ((N.bg Z).tok (by rw[T];simp[n5]))⟩
def IW(hx:J b m)(fS:∀j,j<b.size->e j=0)(Q:iY e m g p L)(hi:rJ f h L)(hn:h<=10^12)(hN:dY b d r f l)(B:au b a x.args)(D:OD f (pc l) c h x):
 aP cv 271 [vp g 0,.agg #[O.v d,O.v r],oC x a o] m (AZ e m g (rJ f h)):=by
 apply sR (g,0)
 simp -zeta only[aG,aF,bG]
 intro K H
 have st:=Gk.SS (a:=K) (g:=H) hx fS Q.new rfl rfl
 have x2:J m H:=(dk (a:=K) (c:=H) rfl rfl).1
 have c2:To e m e H:=dN.fK _ x2 Q.new
 clear_value H
 clear_value K
 have aa:=B.len
 have Z:∀{M:E},J b M->At M d r a o f l x:=λxx=>⟨hN.le xx.le,B.ext xx,D.bO⟩
 refine eu (n:=x.args.length) (aa▸B.fA) (λ_ M=>∃t T N,rJ f h N/\To e m t M/\Gk b [K.size,m.size] t M/\iY t M g T N) ⟨e,p,L,hi,c2,st,(Q.ext x2)⟩ ?_
 rintro ab M ag μ ah ⟨S,af,Y,v,P,C,s⟩ ad
 refine⟨λF=>?_,λF=>?_⟩
 .simp only[aq]at F
  let⟨I,G⟩:=cq x.args ab
  let⟨W,X⟩:=D.args I (av G)
  have N0:=v.len 0 bo
  refine⟨_,s.cK (k:=0) bo,?_⟩
  refine(lY (Z C.ext) (s.pw (k:=0) bo V) (by rw[N0];exact D.args) (h:=ab) V).mono λU m4⟨j,z,q⟩=>⟨λj u=>q.same j (C.box j u).1,j,z,λ_=>⟨V,V,I,(B.ext (C.ext.trans q)).aQ G,?_⟩,λ_=>ad V _ ⟨S,af,Y,v,P.trans (dN.fK _ q s.new),C.fX q,s.ext q⟩⟩
  have w:=C.fX q
  have y:To e m S m4:=P.trans (dN.fK _ q s.new)
  refine(ud (s.ext q) v hn W X).mono λU m5⟨j,t,z,A,h5⟩=>⟨w.de A,j,z,λu=>.no (y.trans A),λu=>?_⟩
  obtain⟨T,N,R,ac,hl,rfl⟩:=h5 (by simpa using u)
  exact ad V _ ⟨t,T,_,v.bg hl,y.trans A,w.to A,R⟩
 .refine eu (n:=x.args.length) (aa▸B.fA) (λ_ t=>J M t) (J.aH _) ?_
  rintro T M4 I4 μ4 ai q ac
  have w:=C.fX q
  have y:To e m S M4:=P.trans (dN.fK _ q s.new)
  have t:=s.ext q
  refine⟨λF=>?_,λF=>⟨λae=>?_,λ_=>.Oy y t v⟩⟩
  .simp only[aq]at F
   let⟨I,G⟩:=cq x.args T
   let⟨W,X⟩:=D.args I (av G)
   refine(nm (Z w.ext) (T:Int)).mono λU m5⟨j,z,A⟩=>⟨λj u=>A.same j (w.box j u).1,j,z,λ_=>⟨V,V,I,(B.ext (w.ext.trans A)).aQ G,?_⟩,λ_=>ac V _ (q.trans A)⟩
   refine(rP (t.ext A) v hn W X).mono λU m6⟨j,z,N⟩=>⟨λj u=>N.same j (A.lt (w.box j u).1),j,z,λ_=>.no (y.trans (dN.fK _ (A.trans N) t.new)),λ_=>ac V _ ((q.trans A).trans N)⟩
  .simp only[aq]at ae
   have I:=D.bY
   have u:=v.len 5 bo
   have N:=t.len (k:=5) bo
   have z:cQ (x.bY -1)=x.bY -1:=aS V V
   let⟨G,A⟩:=cq (Y 5) ((x.bY -1).toNat)
   let⟨wr,R,j⟩:=t.put (k:=5) (i:=(x.bY -1).toNat) bo V (-1)
   rw[z]
   exact⟨_,t.cK (k:=5) bo,V,V,G,t.aQ (k:=5) bo V A,λ_=>.no y,λ_=>⟨_,t.cK (k:=5) bo,V,V,wr,w.de j,.Oy (y.trans j) R (v.tok (by simp[u]))⟩⟩
end
end
section
variable{M:E}
def Na(a:Nat->Nat)(m:E):List Nat:=(List.range m.size).filter λb=>a b≠0
def Pn(c:Nat->Nat)(m:E):∀b∈Na c m,b<m.size:=λb a=>by simp[Na]at a;exact a.1
def RY{d:Nat->Nat}{m a:E}(fS:∀b,b<a.size->d b=0)(e:J a M):Le a (bI (Na d m) M):=
 (yW a).trans (e.bI λb c=>Or.inr (by
  simp[Na]at c;exact Gf λh=>c.2 (fS b h)))
def dN.ZQ{a l:Nat->Nat}{m f:E}(h:To a f l M)(k:∀b,m.size<=b->a b=0):Le (bI (Na a m) f) M:=λb o v j=>by
 let⟨d,e⟩:=eA.1 j;have i:=lH e;have g:a b=0:=by
  rcases aX b m.size with c|c
  .simp[Na]at d;exact d c
  .exact k b c
 rw[aM (h.fU b i (by simp[g]))];exact e
def QM(c:List bq)(h:List eQ)(i:Prop)(b:Bk):Prop:=∀(e:Nat->Nat)(m a:E)(d:Nat)(l:Nat->O)(L:Nat->List Int)(n k:Nat)(g r t:O),J a m->(∀b,b<a.size->e b=0)->iY e m d l L->rJ c n L->WB c (pc h) i n b->n+4*b.w<=10^12->k<=n->dY a g r c h->eG a t b.aE->
 aP cv 290 [vp d 0,.agg #[O.v g,O.v r],.agg #[O.v t,vi b.aT],vi k] m (AZ e m d λf=>(∀j,j<6->(f j).length=k)/\(f 6).length<=10^12)
def WA(m:E)(n:Nat)(v:Value)(c:E):Prop:=∃(a:Nat)(d:Bool),v=.tuple #[vp a 0,vb d]/\J m c/\(d=true->∃e f L,(∀b,b<m.size->e b=0)/\iY e c a f L/\∀j,j<6->(L j).length=n)
def pE.same{c:List bq}{n b:Nat}{L a:Nat->List Int}(h:pE c n b L)(e:∀k,k<7->a k=L k):pE c n b a:=
 ⟨λk d=>by rw[e k V];exact h.len k d,by rw[e 2 bo];exact h.WY,by rw[e 3 bo,e 4 bo];exact h.Ow,by rw[e 6 bo];exact h.dg⟩
section
variable{o:Nat->Nat}{m g:E}{j:Nat}{f:Nat->O}{L:Nat->List Int}{e:List bq}{h:List eQ}{b:Nat}{d r a l:O}{x:cF}{c:Prop}
def QE(hx:J g m)(aC:iY o m j f L)(hi:rJ e b L)(P:dY g d r e h)(ha:au g a x.args)(hk:mU g l x.bH)(hw:WS e (pc h) c b x)(t:b+4*x.w<=10^12){ab:Nat}{p:Bk}(aa:x.bH[ab]? =some p)(ih:QM e h c p):
 aP cv 285 [vp j 0,.agg #[O.v d,O.v r],oC x a l,vi ab] m (WA m b):=by
 apply xX (j,0)
 simp -zeta only[aG,aF,bG]
 intro I D
 let⟨x2,hl⟩:=dk (a:=I) (c:=D) rfl rfl
 clear_value D
 clear_value I
 have h2:=aC.ext x2
 have an:=hi.len
 have l0:=h2.len (k:=0) bo
 have n0:=an 0 bo
 have aY:=az aa
 have aZ:=hk.len
 have aX:=uo aa
 have a2:=cF.k8 x
 have Y:=hw.bH ab p aa
 have w:=hx.trans x2
 let⟨ae,ht,f0,f1⟩:=hk.aQ aa
 refine⟨_,h2.cK (k:=0) bo,?_⟩
 refine(Mc h2 (λu hj=>by
  by_cases A:u<6
  .rw[an u A];omega
  .have:u=6:=V;subst this;exact hi.dg)).mono λv m3⟨C,z,H,K,aR,s,q,h3,y⟩=>⟨H.Vj hl (J.aH _)|>λ_=>λp t=>H.same p (hl p t),(C,0),z,?_⟩
 have R:rJ e b s:=hi.same y
 have ai:Gk D [I.size,m.size] K m3:=⟨H,q,λp t=>⟨H.lt (hl p t),q p (hl p t)⟩⟩
 have hO:∀(M:E)(ac:Nat->Nat)(ah:Nat->O)(X:Nat->List Int)(F:Nat),Gk D [I.size,m.size] ac M->iY ac M C ah X->rJ e F X->WB e (pc h) c F p->F<=b+3->b<=F->
  aP cv 290 [vp C 0,.agg #[O.v d,O.v r],.agg #[O.v ae,vi p.aT],vi ((f 0).len:Int)] M λv m'=>eF [I.size,m.size] M m'/\∃S:Bool,v=vb S/\WA m b (.tuple #[vp C 0,vb S]) m':=λM ac ah X F U aA am aD a1 aE=>by
  have e0:(f 0).len=b:=V
  rw[e0]
  refine(ih ac M D C ah X F b d r ae U.ext U.fS aA am aD V aE (P.le w.le) (ht.le w.le)).mono λv m'⟨S,G,z,c5,N⟩=>⟨U.de c5,S,z,C,S,rfl,x2.trans (U.to c5).ext,λaI=>?_⟩
  obtain⟨T,W,A,h7,_⟩:=N aI
  exact⟨G,T,W,λp t=>(U.to c5).fS p (x2.lt t),A,h7⟩
 refine⟨λB=>?_,λB=>?_⟩
 .simp only[aO]at B
  have aw:=P.bu.le w.le
  obtain⟨aW,_⟩:=hw.dV.all B
  refine(gP (Pn K m3) (aw.le H.le) P.types x.bM).mono λv m4⟨s4,l4,z,aJ,e4,x4⟩=>⟨λp t=>x4.same p (ai.box p t).1,s4,z,?_⟩
  subst e4
  let⟨q,ar⟩:=cq (cb e x.bM) ab
  have ax:=aJ.le (bA _ _)
  have l4:=ax.len
  refine⟨V,V,q,ax.aQ ar,?_⟩
  have ad:=ai.fX x4
  have h4:=h3.ext x4
  refine(dF (Pn K m4) (aw.le (RY ad.fS ad.ext)) P.types q).mono λv m5⟨s5,l5,z,ay,e5,x5⟩=>⟨λp t=>x5.same p (ad.box p t).1,s5,z,?_⟩
  subst e5
  have aj:=ad.fX x5
  have N:=h4.ext x5
  have aU:=hw.dV.lj (Or.inr (Or.inr B))
  let⟨y,hy⟩:=cq x.args 0
  let⟨y0,y1⟩:=hw.dV.args y (av hy)
  have aV:=ha.len
  have N5:=R.len
  have a3:=N.len (k:=3) bo
  have F:=N5 3 bo;have n4:=N5 4 bo
  have ag:∀{M:E},J D M->af M a.aC (a.off+Int.toNat (0:Int)*1)=some (vi y):=λxx=>(ha.ext (w.trans xx)).aQ hy
  let⟨w6,A,c6⟩:=N.put (k:=3) (i:=y.toNat) bo V q
  refine⟨_,N.cK (k:=3) bo,V,V,y,ag aj.ext,y0,V,w6,?_⟩
  intro m6
  have ak:=aj.to c6
  let⟨w7,h7,c7⟩:=A.put (k:=4) (i:=y.toNat) bo (by show _<(s 4).length;omega) ((f 0).len:Int)
  have aK:=A.len (k:=4) bo
  have aB:up s 3 ((s 3).set y.toNat q) 4=s 4:=rfl
  rw[aB]at aK
  refine⟨aj.de c6,_,A.cK (k:=4) bo,V,V,y,ag ak.ext,y0,V,w7,?_⟩
  intro m7
  have aT:=ak.to c7
  have F3:=Ey P.types q
  have e0:((f 0).len:Int)=b:=V
  have i7:pE e b (b+(cg e q).length) (up (up s 3 ((s 3).set y.toNat q)) 4 ((s 4).set y.toNat ((f 0).len:Int))):=by
   refine⟨λu hj=>?_,λv aM hp=>R.WY v aM (by simpa[up]using hp),λv c ao hc hf h1=>?_,by simpa[up]using R.dg⟩
   .rcases u with _|_|_|_|_|_|u<;>first|omega|(simp[up,N5])
   .have Q:((s 3).set y.toNat q)[v]? =some c:=by simpa[up]using hc
    have Z:((s 4).set y.toNat ((f 0).len:Int))[v]? =some ao:=by simpa[up]using hf
    by_cases ev:y.toNat=v
    .subst ev;rw[dQ V]at Q Z;simp at Q Z;subst Q;omega
    .rw[dT ev]at Q Z;have:=R.Ow v c ao Q Z h1;omega
  have a0:=ay.len
  refine⟨ak.de c7,?_⟩
  refine eu (n:=(cg e q).length) V (λu M=>∃G T W,pE e (b+u) (b+(cg e q).length) W/\To K m5 G M/\Gk D [I.size,m.size] G M/\iY G M C T W) ⟨K,_,_,i7,c6.trans c7,aT,h7⟩ ?_
  rintro u M am μ hj ⟨aQ,aS,L8,Z,c8,C,aq⟩ aL
  refine dit (λaH=>?_) λaH=>?_
  .let⟨al,hz⟩:=cq (cg e q) u
   refine⟨V,V,al,(ay.le (c8.ZQ h4.new)).aQ hz,V,V,y,ag C.ext,?_⟩
   exact(zL aq (λaN Q=>by rw[Z.len aN Q];omega) al 0 y).mono λv M'⟨G,T,Q,h9⟩=>⟨C.de Q,aL V _ ⟨G,T,_,by rw[<-dR];exact Z.NM al 0 V,c8.trans Q,C.to Q,h9⟩⟩
  .have Q:u=(cg e q).length:=V
   subst Q
   rw[JP B ar]at Y
   exact⟨V,V,ae,(w.trans C.ext).af f0,p.aT,(w.trans C.ext).af f1,hO M aQ aS L8 _ C aq Z Y V V⟩
 .simp only[ap]at B
  rw[JQ B]at Y
  exact⟨V,V,ae,(w.trans H).af f0,p.aT,(w.trans H).af f1,hO m3 K aR s b ai h3 R Y V V⟩
end
end
section
def _root_.Go.Vc.VT{n b:Nat}(g:b<=n)(o:n<=9223372036854775807){m:E}{e:(Int->E->Prop)->(Int->E->Nat)->Int->E->Prop}(Q:Nat->E->Prop)(f:Q b m)
 (h:∀(k:Nat)(a:E)(I:Int->E->Prop)(μ:Int->E->Nat),b<=k->k<=n->Q k a->
  (k<n->∀c,Q (k+1) c->I (cQ ((k:Int)+1)) c/\μ (cQ ((k:Int)+1)) c<μ k a)->e I μ k a):
 ∃(I:Int->E->Prop)(μ:Int->E->Nat),I b m/\∀i a,I i a->e I μ i a:=by
 refine⟨λi c=>∃k:Nat,i=k/\b<=k/\k<=n/\Q k c,λi _=>(n -i).toNat,⟨b,rfl,ad _,g,f⟩,?_⟩
 rintro i a ⟨k,rfl,j,l,p⟩
 refine h k a _ _ j l p λd c q=>?_
 rw[kd d o]
 exact⟨⟨k+1,rfl,V,d,q⟩,Cv d⟩
section
variable{b:Nat->Nat}{m f:E}{e:Nat}{o:Nat->O}{L:Nat->List Int}{g:List bq}{l:List eQ}{h:Nat}{d r i j:O}{x:cF}{c:Prop}
def Ma(hx:J f m)(fS:∀p,p<f.size->b p=0)(t:iY b m e o L)(hi:rJ g h L)(hN:dY f d r g l)(ha:au f i x.args)(hk:mU f j x.bH)(P:WS g (pc l) c h x)(q:h+4*x.w<=10^12)(ap:x.op=7\/x.op=8)(ih:∀p∈x.bH,QM g l c p):
 aP cv 270 [vp e 0,.agg #[O.v d,O.v r],oC x i j] m (AZ b m e (rJ g h)):=by
 apply uz (e,0)
 simp -zeta only[aG,aF,bG]
 intro X I
 have st:=Gk.SS (a:=X) (g:=I) hx fS t.new rfl rfl
 let⟨Q,D⟩:=dk (a:=X) (c:=I) rfl rfl
 clear_value I
 clear_value X
 have al:=hk.len
 have aE:=ha.len
 have aC:=P.dV.lj V
 have am:0<x.bH.length:=by
  rcases ap with U|h8
  .have:=P.dV.Jr U;omega
  .exact(P.dV.all h8).2
 have N:∀{M:E},J I M->To b m b M:=λz=>dN.fK _ (Q.trans z) t.new
 have ag:∀(M:E)(H:Nat)(p:Bk),J I M->x.bH[H]? =some p->aP cv 285 [vp e 0,.agg #[O.v d,O.v r],oC x i j,vi H] M (WA M h):=λM H p z ah=>
  QE (hx.trans (Q.trans z)) (t.ext (Q.trans z)) hi hN ha hk P q ah (ih p (av ah))
 refine⟨λM=>J I M,⟨λ_=>?_,λ_=>J.aH _⟩,?_⟩
 .let⟨y,u⟩:=cq x.args 0
  let⟨w,A⟩:=P.dV.args y (av u)
  refine⟨bo,V,y,(ha.ext st.ext).aQ u,?_⟩
  exact(rP (t.ext Q) hi V w A).mono λZ Y⟨p,s,v⟩=>⟨λp q=>v.same p (D p q),p,s,λ_=>.no (N v),λ_=>v⟩
 .intro Y v
  let⟨b0,ak⟩:=dJ am
  refine(ag Y 0 b0 v ak).mono λZ m4⟨ac,ay,s,R,h1⟩=>⟨λp q=>R.same p (v.lt (D p q)),(ac,0),ay,s,λ_=>.no (N (v.trans R)),λab=>?_⟩
  let⟨az,ad,L1,ai,h1,n1⟩:=h1 (by simpa using ab)
  have ar:=n1 1 bo;have aw:=n1 5 bo
  refine VT (n:=x.bH.length) (b:=1) V (al▸hk.fA) (λ_ M=>J m4 M) (J.aH _) ?_
  rintro H M aB μ aD aH S ax
  have y:=(v.trans R).trans S
  have A:=h1.ext S
  refine⟨λW=>?_,λW=>?_⟩
  .simp only[aq]at W
   let⟨p,q⟩:=cq x.bH H
   refine(ag M H p y q).mono λZ m6⟨aa,aj,s,u,C⟩=>⟨λp q=>u.same p (y.lt (D p q)),(aa,0),aj,s,λ_=>.no (N (y.trans u)),λab=>?_⟩
   let⟨aK,aN,L2,aJ,C,n2⟩:=C (by simpa using ab)
   have an:=n2 1 bo;have aI:=n2 5 bo
   have B:=A.ext u
   refine⟨_,B.cK (k:=1) bo,_,C.cK (k:=1) bo,?_⟩
   refine(pW (B.pw (k:=1) bo V) (C.pw (k:=1) bo V)).mono λZ m7⟨F,s,_,w⟩=>⟨λp q=>w.same p (u.lt (y.lt (D p q))),F,s,λ_=>.no (N (y.trans (u.trans w))),λ_=>?_⟩
   have T:=B.ext w
   have U:=C.ext w
   refine⟨_,T.cK (k:=5) bo,_,U.cK (k:=5) bo,?_⟩
   refine(pW (T.pw (k:=5) bo V) (U.pw (k:=5) bo V)).mono λZ m8⟨F,s,_,K⟩=>⟨λp q=>K.same p (w.lt (u.lt (y.lt (D p q)))),F,s,λ_=>.no (N (y.trans (u.trans (w.trans K)))),λ_=>?_⟩
   exact ax V _ (S.trans (u.trans (w.trans K)))
  .let w:Nat->Nat:=λp=>if p<Y.size then b p else az p
   have uu:=Q.trans v
   have z:=uu.trans (R.trans S)
   have z4:=R.size;have zM:=S.size;have T:=uu.size
   have K:∀p,p<Y.size->w p=b p:=λp q=>ao q
   have H0:iY w M e o L:=by
    refine⟨λp q=>?_,by rw[K _ (aL t.box.lt T)];exact t.jy,(t.ext z).box,λu F=>(t.sk u F).fU (λB=>z.same _ ((t.sk u F).aC B).1) λB=>K _ (aL ((t.sk u F).aC B).1 T)⟩;simp only[w];rw[ae V];exact A.new p q
   have aa:∀u,u<7->iG w M aA 1 (u+1) (ad u) ((L1 u).map Ce.i):=λu F=>(A.sk u F).fU (λ_=>rfl) λB=>by
    have C:=((A.sk u F).aC B).2;simp only[w];rw[ae λW=>by rw[ai _ W]at C;omega]
   have c3:To b m w M:=⟨z.size,λp q=>K p (aL q T),H0.new,λp q _=>z.same p q⟩
   have aj:Gk f [X.size,m.size] w M:=⟨st.ext.trans y,λp q=>by rw[K p (aL (aL q hx.size) T)];exact fS p q,λp q=>⟨y.lt (D p q),by rw[K p (v.lt (D p q))];exact(st.box p q).2⟩⟩
   clear_value w
   refine⟨_,A.cK (k:=1) bo,?_⟩
   let⟨w5,h5,c5⟩:=H0.W3 (k:=1) bo (aa 1 bo)
   refine⟨w5,?_⟩
   intro m9
   have an:ac≠e:=λs=>by
    have h8:=A.jy;rw[s,ai _ (aL t.box.lt T)]at h8;omega
   have G:af m9 ac 5=some (O.v (ad 5)):=(aM (bh _ _ _ _ an) _).trans (A.cK (k:=5) bo)
   have A5:iG w m9 aA 1 (5+1) (ad 5) ((L1 5).map Ce.i):=by
    refine(aa 5 bo).fU (λB=>bh _ _ _ _ λs=>?_) λ_=>rfl;have:=((aa 5 bo).aC B).2;rw[s,H0.jy]at this;omega
   let⟨w6,h6,c6⟩:=h5.W3 (k:=5) bo A5
   exact⟨aj.de c5,_,G,w6,(aj.to c5).de c6,.Oy ((c3.trans c5).trans c6) h6 ((hi.bg ar).tok aw)⟩
end
end
section
section
variable{b:Nat->Nat}{m g:E}{f:Nat}{l:Nat->O}{L:Nat->List Int}{e:List bq}{h:List eQ}{n:Nat}{d r a j:O}{x:cF}{c:Prop}
def Fy(hx:J g m)(fS:∀o,o<g.size->b o=0)(aa:iY b m f l L)(w:rJ e n L)(U:dY g d r e h)(D:au g a x.args)(hk:mU g j x.bH)(F:WS e (pc h) c n x)(u:n+4*x.w<=10^12)(ih:∀o∈x.bH,QM e h c o):
 aP cv 255 [vp f 0,.agg #[O.v d,O.v r],oC x a j] m (AZ b m f (rJ e (n+dn x))):=by
 apply wG (f,0)
 simp -zeta only[aG,aF,bG]
 intro R X
 have S:=Gk.SS (a:=R) (g:=X) hx fS aa.new rfl rfl
 have x2:J m X:=(dk (a:=R) (c:=X) rfl rfl).1
 clear_value X
 clear_value R
 have h2:=aa.ext x2
 have an:=D.len
 have ap:=cF.k8 x
 have N0:=w.len 0 bo
 refine⟨_,h2.cK (k:=0) bo,?_⟩
 refine(ny (U.le S.ext.le) (h2.pw (k:=0) bo V) (D.ext S.ext) (hk.le S.ext.le) V (λo _=>mI o)).mono λA m3⟨G,t,_,x3⟩=>⟨λo u=>x3.same o (S.box o u).1,G,t,?_⟩
 have s:=S.fX x3
 have C:=h2.ext x3
 have P:To b m b m3:=dN.fK _ (x2.trans x3) aa.new
 have lj:14<=x.op\/x.op=7\/x.op=8->∃y:Int,x.args[0]? =some y/\0<=y/\y<(n:Int):=λho=>by
  have:=F.dV.lj ho;let⟨y,K⟩:=cq x.args 0;exact⟨y,K,F.dV.args y (av K)⟩
 refine⟨λok M=>∃v,To b m v M/\Gk g [R.size,m.size] v M/\(ok=true->∃Z N,iY v M f Z N/\rJ e n N),⟨λai=>?_,λaq=>⟨λaj=>?_,λar=>⟨λak=>?_,λaw=>⟨λh7=>?_,λn7=>?_⟩⟩⟩⟩,?_⟩
 .simp only[aO]at ai
  let⟨y,K,B,W⟩:=lj V
  have ac:=F.dV.lj V
  have Y:∀{M:E},J g M->af M a.aC (a.off+Int.toNat (0:Int)*1)=some (vi y):=λT=>(D.ext T).aQ K
  refine⟨bo,V,y,Y s.ext,?_⟩
  refine(rP C w V B W).mono λA H⟨o,t,q⟩=>⟨λo u=>q.same o (s.box o u).1,o,t,?_⟩
  have p:=C.ext q
  have z:=s.fX q
  have N1:=w.len 1 bo
  have l1:=p.len (k:=1) bo
  let⟨ab,ad⟩:=cq (L 1) y.toNat
  let⟨wr,Q,I⟩:=p.put (k:=1) (i:=y.toNat) bo V (cQ (ab+1))
  exact⟨_,p.cK (k:=1) bo,bo,V,y,Y z.ext,_,p.cK (k:=1) bo,bo,V,y,Y z.ext,B,V,ab,p.aQ bo V ad,B,V,wr,z.de I,b,(P.trans (dN.fK _ q C.new)).trans I,z.to I,λ_=>⟨l,_,Q,w.bg (by simp[N1])⟩⟩
 .simp only[aO]at aj
  let⟨y,K,B,W⟩:=lj V
  have ac:=F.dV.lj V
  refine⟨bo,V,y,(D.ext s.ext).aQ K,?_⟩
  refine(ud C w V B W).mono λA H⟨o,v,t,q,p⟩=>⟨s.de q,o,t,v,P.trans q,s.to q,λu=>?_⟩
  obtain⟨Z,N,Q,ab,Y,rfl⟩:=p u
  exact⟨Z,_,Q,w.bg Y⟩
 .simp only[cD,aO]at ak
  refine(Pu s.ext s.fS C w V U D F.dV V).mono λA H⟨o,v,t,q,p⟩=>⟨s.de q,o,t,v,P.trans q,s.to q,p⟩
 .simp only[cD,aO]at h7
  refine(Ma s.ext s.fS C w U D hk F u h7 ih).mono λA H⟨o,v,t,q,p⟩=>⟨s.de q,o,t,v,P.trans q,s.to q,p⟩
 .refine(IW s.ext s.fS C w V U D F.dV).mono λA H⟨o,v,t,q,p⟩=>⟨s.de q,o,t,v,P.trans q,s.to q,p⟩
 .rintro ok M ⟨ax,q,z,p⟩
  refine⟨λ_=>.no q,λam=>?_⟩
  let⟨ay,L4,p,i4⟩:=p (by simpa using am)
  have gr:∀{M':E}(G Y:Int),J M M'->dn x=1->aP cv 267 [vp f 0,vi G,vi Y,vi (-1:Int)] M' λ_ m'=>eF [R.size,m.size] M' m'/\AZ b m f (rJ e (n+dn x)) (vb true) m':=λG Y T hd=>
   (zL (p.ext T) (λH B=>by rw[i4.len H B];omega) G Y (-1)).mono λ_ m'⟨v,Z,I,Q⟩=>⟨(z.fX T).de I,.Oy ((q.trans (dN.fK _ T p.new)).trans I) Q (by rw[hd];exact(i4.NM G Y V).CH V)⟩
  refine(jz x.op M).mono λA m5⟨o,t,ab,B⟩=>⟨λo u=>B.same o (z.box o u).1,o,t,λag=>⟨λ_=>gr G 1 B (by have:=sB x o ab;rw[ao ag]at this;exact this),λ_=>?_⟩,λal=>?_⟩
  .refine(jz x.op m5).mono λA m6⟨N,t,W,H⟩=>⟨λo u=>H.same o (B.lt (z.box o u).1),N,t,λad=>gr 0 0 (B.trans H) (by have:=sB x N W;rw[ao ad]at this;exact this),λac=>?_⟩
   have:=W.2 (ab.1 ag);rw[this]at ac;simp at ac
  .have ah:=sB x o ab
   rw[ae (by simp[al])]at ah
   exact(jz x.op m5).mono λA m6⟨N,t,W,H⟩=>⟨λo u=>H.same o (B.lt (z.box o u).1),N,t,λad=>gr 0 0 (B.trans H) (by have:=sB x N W;rw[ao ad]at this;exact this),λac=>.Oy (q.trans (dN.fK _ (B.trans H) p.new)) (p.ext (B.trans H)) (by rw[ah];exact i4)⟩
end
def Mg{B:List bq}{rs:List eQ}{H:Prop}:∀b:Bk,QM B rs H b:=by
 refine Bk.ind ?_;intro aE ac ih r p mb E sl L aa D af am ap Y fS t Q W o hk O x;simp only[Bk.jG,Bk.iZ,Bk.pY]at*;apply vz (E,0);simp -zeta only[aG,aF,bG];intro q m;have st:=Gk.SS (a:=q) (g:=m) Y fS t.new rfl rfl;have F:J p m:=(dk (a:=q) (c:=m) rfl rfl).1;have I:To r p r m:=dN.fK _ F t.new;clear_value m;clear_value q;let⟨C,y,r1⟩:=W.bC;simp only[Bk.jG,Bk.iZ]at C y r1;have U:=x.len;have T:=Az aE;refine eu (n:=aE.length) (U▸x.fA) (λi M=>∃g s h,rJ B (aa+dc (aE.take i)) h/\To r p g M/\Gk mb [q.size,p.size] g M/\iY g M E s h) ⟨r,sl,L,by simpa using Q,I,st,t.ext F⟩ ?_;rintro i M ad μ ah ⟨an,ao,G,f,j,c,d⟩ ab
 have ag:=pL (aE.take i);have ai:=pZ i aE;have aj:=fw (aE.take i);refine dit (λS=>?_) λS=>?_
 .let⟨w,l⟩:=cq aE i;let⟨ae,kk,P,R,z,g1,g2,K,N⟩:=x.aQ l;have al:=pp l;have ak:=T (i+1);have X:=c.ext;refine⟨V,V,_,X.af z,_,X.af g1,_,X.af g2,_,X.af K,_,X.af N,?_⟩;refine(Fy X c.fS d f O P R (C i w l) V (ih w (av l))).mono λA m4⟨b,g,e,a,u⟩=>⟨c.de a,b,e,λ_=>.no (j.trans a),λo=>?_⟩;let⟨s,h,v,Z⟩:=u (by simpa using o);exact ab V _ ⟨g,s,h,by rw[(qb l),<-dR];exact Z,j.trans a,c.to a,v⟩
 .have K:i=aE.length:=V;rw[K,gY]at f;have ae:=pL aE;have ak:=fw aE;have Z:=f.len 0 bo;have l0:=d.len (k:=0) bo;let⟨X,P⟩:=cq (G 0) ac.toNat;refine⟨_,d.cK (k:=0) bo,y,V,X,d.aQ bo V P,λ_=>?_,λ_=>?_⟩
  .refine(ud d f V y V).mono λA m4⟨b,g,e,a,u⟩=>⟨c.de a,b,e,λ_=>.no (j.trans a),λo=>?_⟩;obtain⟨s,h,v,al,N,rfl⟩:=u (by simpa using o);refine(KQ v (f.bg N) V (b:=D) V).mono λA R⟨b,z,e,l,w⟩=>⟨(c.to a).de l,b,e,b,z,rfl,(j.trans a).trans l,w⟩
  .refine(KQ d f V (b:=D) V).mono λA R⟨b,z,e,l,w⟩=>⟨c.de l,b,e,b,z,rfl,j.trans l,w⟩
def Xy(m:E)(f:List bq)(q:eQ)(j:Int)(v:Value)(c:E):Prop:=∃(a:Nat)(d:Bool),v=.tuple #[vp a 0,vb d]/\J m c/\(d=true->0<=j/\j<=q.body.aE.length/\∃e g L,(∀b,b<m.size->e b=0)/\iY e c a g L/\rJ f (q.params.length+dc (q.body.aE.take j.toNat)) L)
def DB{m:E}{I T:O}{f:List bq}{z:List eQ}{ab:Prop}{W:Nat}(h:dY m I T f z)(P:uK f z ab W)(hW:W<=200000000000){K:Nat}{a:eQ}(w:z[K]? =some a){j:Int}(hj: -9000000000000000000<=j/\j<=9000000000000000000):
 aP cv 227 [.agg #[O.v I,O.v T],vi K,vi j] m (Xy m f a j):=by
 apply wD
 simp -zeta only[aG,aF]
 intro k
 have D:J m k:=J.push _ _
 have g:∀b∈[m.size],b<k.size:=by simp[k]
 clear_value k
 have aH:=h.iB.len;have aE:=h.nv
 have aC:=az w
 let⟨ah,af,ak,hw⟩:=P.df a (av w)
 let⟨aM,aN,b,c1,c2,H,e0,e1,e2,v,e4⟩:=h.iB.aQ w
 have x:∀{M:E}{an:Obj},J m M->Xy m f a j (.tuple #[vp M.size 0,vb false]) (M.push an):=λxx=>⟨_,false,rfl,xx.aR _,aJ⟩
 refine(DU (h.le D.le) (λd c=>oh (P.df d c))).aK (J.aH k) g λv1 m2 F _=>⟨_,rfl,λ_=>x (D.trans F),λ_=>?_⟩
 have Y:=D.trans F
 refine(ba _ _ _ _).aK F g λv2 m3 _ Z v3=>⟨_,rfl,λ_=>x (Y.trans Z),λ_=>?_⟩
 have B:=Y.trans Z
 have ay:=H.len
 refine⟨V,V,_,B.af v,?_⟩
 refine(ba _ _ _ _).aK v3 g λv4 R ac x4 C=>⟨_,rfl,λ_=>x (B.trans x4),λaj=>?_⟩
 have c:=B.trans x4
 have hr:=ac.1 (by simpa using aj)
 refine⟨V,V,_,c.af e0,_,c.af e1,_,c.af e2,_,c.af v,_,c.af e4,?_⟩
 refine(Hu (q:=a) (c1.ext c) (c2.ext c) ah af f).mono λar S⟨t,u,G,y,sl,aa,fS,L,i5⟩=>⟨λb d=>G.same b (C.lt (g b d)),(t,0),u,?_⟩
 obtain⟨al,_,_⟩:=ak.bC
 have aA:=Bk.k8 a.body
 have ai:=Az a.body.aE
 have aq:Gk R [m.size] y S:=⟨G,fS,λb d=>⟨G.lt (C.lt (g b d)),fS b (C.lt (g b d))⟩⟩
 have e6:j=((j.toNat:Nat):Int):=V
 obtain⟨s,ad⟩:∃s:Nat,j=s:=⟨j.toNat,e6⟩
 subst ad
 simp only[om]
 refine eu (n:=s) V (λi M=>∃l A o,rJ f (a.params.length+dc (a.body.aE.take i)) o/\To y S l M/\Gk R [m.size] l M/\iY l M t A o) ⟨y,sl,aa,by simpa using i5,L.to,aq,L⟩ ?_
 rintro i M aw μ aD ⟨ao,ap,L6,Q,c6,e,N⟩ am
 have U:J m M:=c.trans e.ext
 refine dit (λag=>?_) λag=>?_
 .let⟨au,r⟩:=cq a.body.aE i
  let⟨ax,kk,ha,ae,g0,g1,g2,g3,g4⟩:=(H.le c.le).aQ r
  have X:=e.ext
  have aL:=pp r
  have aK:=ai (i+1)
  have aB:=pL (a.body.aE.take i)
  have aI:=fw (a.body.aE.take i)
  refine⟨V,V,_,U.af v,V,V,_,X.af g0,_,X.af g1,_,X.af g2,_,X.af g3,_,X.af g4,?_⟩
  refine(Fy X e.fS N Q (h.le c.le) ha ae (al i au r) V (λb _=>Mg b)).mono λar m7⟨b,l,u,p,h7⟩=>⟨e.de p,b,u,λ_=>⟨t,false,rfl,c.trans (e.to p).ext,aJ⟩,λd=>?_⟩
  let⟨A,o,h8,i8⟩:=h7 (by simpa using d)
  exact am V _ ⟨l,A,o,by rw[qb r,<-dR];exact i8,c6.trans p,e.to p,h8⟩
 .have l:i=s:=V
  subst l
  exact⟨t,true,rfl,U,λ_=>⟨V,V,ao,ap,L6,λb d=>e.fS b (c.lt d),N,by simpa using Q⟩⟩
end
section
variable{f d:Int}{c P:Nat}{m:E}
def Rt(a:0<=f)(b:0<d):0<=f.tmod d/\f.tmod d<d:=⟨Int.tmod_nonneg _ a,Int.tmod_lt_of_pos _ b⟩
def Ng(a:0<=f)(b:0<d):0<=f.tdiv d/\f.tdiv d<=f:=by
 rw[pv a];exact⟨Int.ediv_nonneg a V,Int.ediv_le_self _ a⟩
def Vu{b:Int}(e:0<=f/\f<4611686018427387904)(g:0<=b/\b<4611686018427387904):0<=Vt f b:=by
 unfold Vt;have a:(f%18446744073709551616).toNat<2^62:=V;have c:(b%18446744073709551616).toNat<2^62:=V;have d:=Nat.xor_lt_two_pow a c;rw[aS V V];omega
def Rd(c:Nat)(a:O)(P:Nat)(m:E):Prop:=(∃p:Int,cB m c pu [.s a,.i p]/\0<=p/\p<=P)/\a.len<=a.cap/\∀k:Nat,k<a.len->∃v:Int,0<=v/\v<=255/\af (bI [c] m) a.aC (a.off+k*1)=some (.int .u8 v)
def Rd.mono{Q:Nat}{a:O}(h:Rd c a P m)(g:P<=Q):Rd c a Q m:=let⟨⟨p,b,d,f⟩,e⟩:=h;⟨⟨p,b,d,V⟩,e⟩
def Rd.lt{c P:Nat}{a:O}{m:E}(h:Rd c a P m):c<m.size:=let⟨⟨_,b,_⟩,_⟩:=h;b.lt
def Rd.LR{f:Nat}{b:O}{e M a:E}(d:Rd c b f e)(h:Rd c b P M)(l:Fz [c] e a)(k:a[c]? =M[c]?):Rd c b P a:=by
 obtain⟨⟨p,g,i,j⟩,_⟩:=h;exact⟨⟨p,g.congr k,i,j⟩,d.2.1,λo m=>let⟨v,q,r,n⟩:=d.2.2 o m;⟨v,q,r,l.cR (λ_ h=>h) _ _ _ n⟩⟩
def Rd.ext{a:O}{d:E}(h:Rd c a P m)(b:J m d):Rd c a P d:=h.LR h (b.fz _) (b.same _ h.lt)
def Rd.aj{c g P:Nat}{a:O}{d M:E}(f:Rd c a g d)(h:Rd c a P M)(j:Fz [c] d M){b:Nat}(i:d.size<=b)(o:Nat)(l:List Ce):Rd c a P (aj M b o l):=
 f.LR h (j.aj (Or.inr i) o l) (bh _ _ _ _ λe=>oh f.lt)
def XJ(c:Nat)(b:O)(P:Nat)(m:E)(d:Int)(v:Value)(a:E):Prop:=∃k:Int,v=vi k/\0<=k/\(k<d\/k=0)/\Rd c b (P+1) a/\Fz [c] m a
def bX{e:O}(s:Rd c e P m)(hP:P<=10^16)(d:Int):aP cv 20 [vp c 0,vi d] m (XJ c e P m d):=by
 let⟨⟨p,t,q,p1⟩,X,E⟩:=s;apply wK (c,0);simp -zeta only[bG];have g1:af m c 1=some (vi p):=t.cK 1;refine⟨p,g1,t.fq aJ,?_⟩;intro g;have U:cQ (p+1)=p+1:=aS V V;have T:cQ (p+1 -1)=p:=by rw[show p+1 -1=p by omega];exact aS V V
 have w:cB g c pu [.s e,.i (p+1)]:=by rw[<-U];exact cB.aj (m:=m) (r:=[.i (cQ (p+1))]) (o:=1) t
 have A:Fz [c] m g:=(Fz.aH [c] m).aj (Or.inl aJ) _ _;have F:Le (bI [c] m) (bI [c] g):=A.cR λ_ s=>s;clear_value g;have R:∀k:Int,0<=k->(k<d\/k=0)->XJ c e P m d (vi k) g:=λk C D=>⟨k,rfl,C,D,⟨⟨p+1,w,V,V⟩,X,λj f=>let⟨v,i,l,h⟩:=E j f;⟨v,i,l,F _ _ _ h⟩⟩,A⟩;have f:af g c 0=some (O.v e):=w.cK 0;have g1:af g c 1=some (vi (p+1)):=w.cK 1;have B:∀j:Int,0<=j->j<(e.len:Int)->∃v:Int,0<=v/\v<=255/\af g e.aC (e.off+j.toNat*1)=some (.int .u8 v):=λj C D=>by
  let⟨v,i,l,h⟩:=E j.toNat V;exact⟨v,i,l,(eA.1 (F _ _ _ h)).2⟩
 refine⟨λ_=>R 0 (dh _) (Or.inr rfl),λZ=>⟨_,f,λ_=>R 0 (dh _) (Or.inr rfl),λY=>?_⟩⟩;simp only[bD]at Z;simp only[ap]at Y;have G:0<d:=V;refine⟨_,g1,_,f,?_⟩;rw[T];refine⟨λz=>?_,λ_=>?_⟩
 .simp only[aq]at z;let⟨v,i,l,h⟩:=B p q z;refine⟨_,f,q,z,v,h,V,?_⟩;rw[aS V V];have:=Rt i G;exact R _ this.1 (Or.inl this.2)
 .have y:(0:Int)<(e.len:Int):=V;let⟨I,J⟩:=Rt q y;let⟨v,i,l,h⟩:=B _ I J;have S:cQ (cQ (p*7)+3)=p*7+3:=by rw[aS (b:=p*7) V V,aS V V]
  let⟨K,L⟩:=Rt (f:=p*7+3) V y;let⟨u,u0,u1,hu⟩:=B _ K L;let⟨d0,d1⟩:=Ng q y;rw[S];refine⟨_,f,_,f,V,I,J,v,h,_,f,_,f,V,K,L,u,hu,_,f,V,bo,V,?_⟩;have M:cQ (cQ v*131)=v*131:=by rw[aS (b:=v) V V,aS V V]
  have N:cQ (cQ u*1117)=u*1117:=by rw[aS (b:=u) V V,aS V V]
  have E3:cQ (p*29)=p*29:=aS V V;have Q:cQ (cQ (p.tdiv e.len)*53)=p.tdiv e.len*53:=by rw[aS (b:=p.tdiv e.len) V V,aS V V]
  rw[M,N,E3,Q,aS (b:=v*131+u*1117) V V,aS (b:=v*131+u*1117+p*29) V V,aS (b:=v*131+u*1117+p*29+p.tdiv e.len*53) V V];have H:0<=v*131+u*1117+p*29+p.tdiv e.len*53:=V;let⟨q0,q1⟩:=Ng (d:=64) H bo;rw[aS (b:=Int.tdiv _ 64) V V];have W:=Vu (f:=v*131+u*1117+p*29+p.tdiv e.len*53) (b:=(v*131+u*1117+p*29+p.tdiv e.len*53).tdiv 64) ⟨H,V⟩ ⟨q0,V⟩;let⟨z0,z1⟩:=Rt W G;exact R _ z0 (Or.inl z1)
def jR{a:O}(h:Rd c a P m)(j:P<=10^16){s:O}{l:List Int}(d:au (bI [c] m) s l)(o:0<l.length):
 aP cv 74 [vp c 0,O.v s] m λv f=>∃k:Int,v=vi k/\k∈l/\Rd c a (P+1) f/\Fz [c] m f:=by
 apply ye (c,0)
 have p:=d.len
 refine(bX h j (s.len:Int)).mono λv r⟨k,g,n,q,i,b⟩=>⟨k,g,n,V,?_⟩
 let⟨x,e⟩:=cq l k.toNat
 exact⟨x,(eA.1 ((b.cR (λ_ h=>h)) _ _ _ (d.aQ e))).2,x,rfl,av e,i,b⟩
end
section
variable{d:List Nat}{c:E}
def _root_.Go.Vc.Gr.set{α:Type}{d X:List Nat}{t c:E}{z f:Nat}{R:E->List Ce->α->Prop}{s:O}{y:List α}(w:nG f R)(h:Gr d t c z f R s y)(hf:Fz X t c){k:Nat}(I:k<y.length){cs:List Ce}{a:α}(F:R (bI (s.aC::d) c) cs a):
 fq c s.aC (s.off+k*f) f/\Gr d t (aj c s.aC (s.off+k*f) cs) z f R s (y.set k a)/\Fz X t (aj c s.aC (s.off+k*f) cs)/\(∀g,g≠s.aC->(aj c s.aC (s.off+k*f) cs)[g]? =c[g]?):=by
 have hy:=h.bn
 let⟨C,e,D,j⟩:=h
 have ab:∀g,g≠s.aC->(aj c s.aC (s.off+k*f) cs)[g]? =c[g]? :=λg Z=>bh _ _ _ _ Z
 let⟨g,i,tail,u,Q,A,S,T⟩:=D.aQ.resolve_left C
 have H:=w.len F
 let⟨l,x⟩:=cq e k (by rw[j.len];exact I)
 have af:=j.size l (av x)
 have M:s.off+k*f=k*f:=by rw[u];simp
 have G:s.aC=g:=by rw[u];rfl
 have J:=az x
 have N:e=e.take k++l::e.drop (k+1):=by
  have v:=List.getElem?_eq_some_iff.1 x;let⟨W,Y⟩:=v;rw[<-Y,<-lC W,dx]
 have ad:(e.take k).flatten.length=k*f:=by rw[dp λi n=>j.size i (dq n),eJ,jv V]
 have ac:e.set k cs=e.take k++cs::e.drop (k+1):=by
  rw[Oz,ao J]
 have aa:iO (e.flatten++tail) (k*f) cs=(e.set k cs).flatten++tail:=by
  have U:e.flatten++tail=(e.take k).flatten++(l++((e.drop (k+1)).flatten++tail)):=by
   conv=>lhs;rw[N]
   simp
  rw[U,<-ad,AW _ _ _ bS,ac];rw[show cs.length=l.length by omega,List.drop_left];simp
 have L:(e.set k cs).flatten.length=e.flatten.length:=by
  rw[dp (b:=f) λi n=>?_,dp j.size,iF];rcases cO n with h|h
  .exact j.size i h
  .rw[h];exact H
 have K:Le (bI (s.aC::d) c) (bI (s.aC::d) (aj c s.aC (s.off+k*f) cs)):=cp aJ λ_ h=>h
 refine⟨?_,⟨C,e.set k cs,⟨by rw[L];exact D.len,Or.inr ⟨g,i,tail,u,Q,?_,?_,T⟩⟩,⟨by simp[j.len],λi n=>?_,λP i ae p q=>?_⟩⟩,hf.aj (Or.inr hy.1) _ _,ab⟩
 .rw[M,G]
  refine A.fq ?_
  have:(e.take k).flatten.length+l.length<=e.flatten.length:=by
   conv=>rhs;rw[N]
   simp
  simp only[aU];omega
 .have v:=cB.aj (m:=c) (b:=g) (r:=cs) (o:=k*f) A
  rw[M,G,<-aa];exact v
 .rw[<-S,aU,aU,L]
 .rcases cO n with h|h
  .exact j.size i h
  .rw[h];exact H
 .by_cases B:k=P
  .subst B
   rw[dQ J]at p
   rw[dQ I]at q
   simp at p q;subst p q
   exact w.le K F
  .rw[dT B]at p q
   exact w.le K (j.df P i ae p q)
def Ae(hS:∀a∈d,a<c.size){g C L:O}{S:Int}{aE:List cF}{q:cF}{f:Nat}(s:eG (bI d c) g aE)(ha:au (bI d c) C q.args)(hk:mU (bI d c) L q.bH)(hj:f<=aE.length)(hb:aE.length<=900000000000):
 aP cv 229 [.agg #[O.v g,vi S],vi f,oC q C L] c λai N=>∃W,ai=.agg #[O.v W,vi S]/\eG (bI d N) W (aE.take f++[q]++aE.drop f)/\J c N:=by
 apply DJ
 simp -zeta only[aG,aF]
 intro P h e k
 let⟨r,m,s1,s2,s3⟩:=pJ (a:=P) (b:=h) (c:=e) rfl rfl rfl
 have z:J e k:=J.push _ _
 have s4:k.size=e.size+1:=by simp[k]
 have g0:GS (h.size::d) e k (.mk e.size 0 0 0) []:=GS.new _ _
 clear_value k
 clear_value e
 have u4:=r.trans z
 have K:=s.len
 have ak:=s.cap
 have I:∀a∈[h.size,P.size,c.size],a<k.size:=λa b=>z.lt (m a b)
 have H:∀{M:E}{D:Nat},J c M->c.size<=D->Le (bI d c) (bI (D::h.size::d) M):=λxx aj=>xx.bI λa b=>by
  simp only[aW]at b;rcases b with l|l|l
  .exact Or.inr V
  .exact Or.inr V
  .exact Or.inl l
 have X:Int.toNat (0:Int)=0:=rfl
 have Y:Int.toNat (f:Int)=f:=V
 have Z:Int.toNat (g.len:Int)=g.len:=V
 rw[X,Y,Z]
 refine⟨V,V,V,?_⟩
 have ac:eG (bI (e.size::h.size::d) k) (g.cut 0 f 5) (aE.take f):=by simpa using(s.le (H (D:=e.size) u4 V)).J0 (i:=0) (dy _) hj
 refine GS.all g0 (z.fz []) ac bS λT y g1 F z1 q1=>⟨λa b=>q1 a (I a b) (by have:=m a b;simp;omega),V,V,V,?_⟩
 intro Q
 have t:J y Q:=J.push _ _
 have y1:=g1.bn
 have n:J e y:=F.ext
 have A:∀o,af Q c.size o=af y c.size o:=λo=>aM (t.same _ (oh (I c.size aJ))) o
 refine⟨A 1,A 0,?_⟩
 refine GS.kj (x:=q) g1 F (ha.le (H (D:=T.aC) (r.trans n) V)) (hk.le (H (D:=T.aC) (r.trans n) V)) bS λU R g2 v z2 q2=>⟨J.nP (n.trans t) v.ext (λa b=>oh (m a b)),?_⟩
 have p:J e R:=v.ext
 have y2:=g2.bn
 have u:∀{M B:E},J e M->J e B->∀o,af B c.size o=af M c.size o:=λaa h' o=>aM (by rw[h'.same _ (m _ aJ),aa.same _ (m _ aJ)]) o
 refine⟨u (n.trans t) p 1,u (n.trans t) p 0,?_⟩
 have ae:eG (bI (U.aC::h.size::d) R) (g.cut f g.len 5) (aE.drop f):=by
  have:=(s.le (H (D:=U.aC) (r.trans p) V)).J0 (i:=f) (j:=g.len) V V;rwa[K,cG (ad _),<-K]at this
 refine GS.all g2 v ae bS λr3 m8 G w z3 q3=>⟨J.nP p w.ext m,u p w.ext 1,?_⟩
 intro m9
 have y3:=G.bn
 have ab:∀a∈h.size::d,a<e.size:=λa b=>by
  rcases List.mem_cons.1 b with l|l
  .omega
  .have:=hS a l;omega
 refine⟨r3,rfl,?_,(r.trans w.ext).aj V _ _⟩
 have hD:=G.done fQ.mono ab bo bS
 have ag:Le (bI (h.size::d) m8) (bI d m9):=cp aJ λa b=>ah _ b
 exact eG.le ag (by simpa[fe]using hD)
def DX(C:∀b∈d,b<c.size){u L p:O}{A:List bq}{w:List eQ}{q:eQ}{n:Nat}{l:Bk}(i:dY (bI d c) u L A w)(D:w[n]? =some q)(h3:q.params.length<=3/\q.dg.length<=3)(ag:eG (bI d c) p l.aE):
 qP 230 [.agg #[O.v u,O.v L],vi n,.agg #[O.v p,vi l.aT]] c d A λai=>ai=w.set n ⟨q.params,q.dg,q.aT,l⟩:=by
 apply wS
 simp -zeta only[aG,aF]
 intro F h g j
 let⟨r,o,s1,s2,s3⟩:=pJ (a:=F) (b:=h) (c:=g) rfl rfl rfl
 have y:J g j:=J.push _ _
 have s4:j.size=g.size+1:=by simp[j]
 have g0:GR (h.size::d) g j (.mk g.size 0 0 0) []:=Gr.new _ (ad _) _ _ _
 clear_value j
 clear_value g
 have u4:=r.trans y
 have an:=i.iB.len;have am:=i.nv
 have ak:=az D
 have ac:∀b∈[h.size,F.size,c.size],b<j.size:=λb e=>y.lt (o b e)
 have H:∀{M:E}{z:Nat},J c M->c.size<=z->Le (bI d c) (bI (z::h.size::d) M):=λxx aj=>xx.bI λb e=>by
  simp only[aW]at e;rcases e with f|f|f
  .exact Or.inr V
  .exact Or.inr V
  .exact Or.inl f
 refine Gr.all (g:=[.s .nil,.s .nil,.i 0,.s .nil,.i 0]) iv.mono bo g0 (y.fz []) (i.iB.le (H (z:=g.size) u4 V)) bS λm v g1 B z1 q1=>⟨λb e=>q1 b (ac b e) (by have:=o b e;simp;omega),V,V,?_⟩
 simp only[dX]at g1
 have x:J g v:=B.ext
 have y1:=g1.bn
 let⟨ao,ap,t,R,T,c3,U,W,X,Y,Z⟩:=(i.iB.le (H (z:=m.aC) (r.trans x) V)).aQ D
 have fS:∀{P:Value}{t I:Nat},af (bI (m.aC::h.size::d) v) t I=some P->af v t I=some P:=λaa=>(eA.1 aa).2
 refine⟨_,fS U,_,fS W,_,fS X,_,fS Y,_,fS Z,?_⟩
 have z5:=x.size
 refine(xt (b:=m.aC::h.size::d) (λb e=>?_) (R.le (bA _ _)) (T.le (bA _ _)) V).mono λrv m6⟨K,N,f,h1,h2,s⟩=>?_
 .simp only[aW]at e
  rcases e with f|f|f
  .omega
  .omega
  .have:=C b f;omega
 subst f
 have g2:=g1.ext iv.mono s
 have al:=g2.len bo
 let⟨wr,g3,f3,q3⟩:=Gr.set (k:=n) (cs:=[.s K,.s N,.i q.aT,.s p,.i l.aT]) (a:=⟨q.params,q.dg,q.aT,l⟩) iv.mono g2 (B.then s) V ⟨K,N,p,rfl,h1,h2,ag.le (H (z:=m.aC) ((r.trans x).trans s) V)⟩
 refine⟨λb e=>s.same b (oh (o b e)),_,_,_,_,_,rfl,V,V,wr,?_⟩
 intro m7
 refine⟨λb e=>q3 b (oh (o b e)),?_⟩
 intro G
 have ab:∀b∈h.size::d,b<g.size:=λb e=>by
  rcases List.mem_cons.1 e with f|f
  .omega
  .have:=C b f;omega
 have ae:Le (bI (h.size::d) m7) (bI d G):=cp aJ λb e=>ah _ e
 have Q:J c G:=(r.trans f3.ext).aj V _ _
 exact⟨u,m,_,rfl,⟨i.bu.le (Q.cR _),yC.le ae (g3.done iv.mono ab bo bS),i.types,bS⟩,rfl,Q⟩
end
def Ul{c:List bq}{f:List Nat}{b:Nat}{l:List cF}(h:WL c f True b l){j:Nat}{a v:Int}(e:14<=a/\a<=17)(m:0<=v/\v<((b+dc (l.take j):Nat):Int)):
 WL c f True b (l.take j++[eP a v]++l.drop j)/\dc (l.take j++[eP a v]++l.drop j)=dc l/\sw (l.take j++[eP a v]++l.drop j)=sw l+2:=by
 have d:dc [eP a v]=0:=jH e.1 [v]
 have g:sw [eP a v]=2:=nH a [v]
 have i:=cJ (l.take j) (l.drop j)
 have k:=dv (l.take j) (l.drop j)
 rw[dx]at i k
 refine⟨((h.take j).zg (CQ e m)).append ?_,?_,?_⟩
 .rw[cJ,d];exact h.drop j
 .rw[cJ,cJ,d];omega
 .rw[dv,dv,g];omega
def Su(h:Nat)(e:List Value)(m:E)(S:List Nat)(b:Nat)(f:O)(P:Nat)(g:List bq)(Q:List eQ->Prop):Prop:=
 aP cv h e m λv a=>∃d r c,v=.agg #[O.v d,O.v r]/\dY (bI S a) d r g c/\Q c/\Rd b f P a/\Fz [b] m a
def Ps{i:List Nat}{m:E}(hS:∀l∈i,l<m.size){d P:Nat}{Q:O}(ax:d∈i)(h0:Rd d Q P m)(hP:P+4<=10^16){y t:O}{B:List bq}{L:List eQ}(hn:dY (bI i m) y t B L){aa:Nat}(R:uK B L True aa)(hW:aa<=200000000000):
 Su 173 [vp d 0,.agg #[O.v y,O.v t]] m i d Q (P+4) B λW=>uK B W True (aa+4):=by
 apply IY (d,0)
 simp -zeta only[aG,aF,bG]
 intro f ag
 let⟨x2,hl⟩:=dk (a:=f) (c:=ag) rfl rfl
 have s1:f.size=m.size+1:=by simp[f]
 have s2:ag.size=m.size+2:=by simp[ag,s1]
 clear_value ag
 have b2:=hn.iB.len;have b1:=hn.nv
 have b3:=h0.lt
 have nb:∀a∈[f.size,m.size],a<ag.size/\a∉[d]:=λa c=>⟨hl a c,by have:=hl a c;simp at c⊢;omega⟩
 have EW:uK B L True (aa+4):=⟨R.gR,λq C=>let⟨g,a,l,e⟩:=R.df q C;⟨g,a,l,V⟩⟩
 refine(bX (h0.ext x2) V (t.len:Int)).mono λo h⟨ab,e,f0,f1,h3,z3⟩=>⟨z3.de nb,ab,e,?_⟩
 have u3:Fz [d] m h:=(x2.fz _).trans z3
 have bT:ab<(L.length:Int):=by have:=R.gR;omega
 let⟨q,C⟩:=cq L ab.toNat
 let⟨aI,aH,bl,hw⟩:=R.df q (av C)
 have Hn:∀{M:E},Fz [d] m M->dY (bI i M) y t B L:=λp=>hn.le (p.cR λa c=>by simp at c;subst c;exact ax)
 have HS:∀{M:E}(bb:Nat),m.size<=bb->Fz [d] m M->Le (bI i m) (bI (bb::f.size::i) M):=λbb bN gg=>gg.bI (λa c=>by simp at c;subst c;exact ax) λl s=>by
  simp only[aW]at s;rcases s with e|e|e
  .exact Or.inr V
  .exact Or.inr V
  .exact Or.inl e
 have ck:=z3.size
 let⟨cd,cf,a,c1,c2,c3,e0,e1,e2,e3,e4⟩:=(hn.le (HS h.size V u3)).iB.aQ C
 have fS:∀{M:E}{i:List Nat}{o:Value}{a I:Nat},af (bI i M) a I=some o->af M a I=some o:=λF=>(eA.1 F).2
 refine⟨f0,V,a,fS e3,q.body.aT,fS e4,?_⟩
 intro m4 m5
 have x5:J h m5:=(J.push h _).aj (ad _) _ _
 have s5:m5.size=h.size+1:=by simp[m5,m4,aD]
 clear_value m5
 have bO:=c3.len
 have bZ:=c3.fA
 have bP:=Bk.k8 q.body
 have b4:=fw q.body.aE
 have aw:∀a∈[h.size,f.size,m.size],a<m5.size/\a∉[d]:=λa c=>by simp at c⊢;omega
 rw[aS V V]
 refine(bX (h3.ext x5) V _).mono λo m6⟨G,e,j0,j1,h6,z6⟩=>⟨z6.de aw,G,e,?_⟩
 have u6:Fz [d] m m6:=(u3.then x5).trans z6
 have bF:=z6.size
 have bc:=(Hn u6).le (bA _ _)
 obtain⟨fn,a4⟩:∃fn:Nat,ab=fn:=⟨ab.toNat,V⟩
 subst a4
 simp only[om]at C
 have al:∀a∈[h.size,f.size,m.size],a<m6.size/\a∉[d]:=λa c=>⟨aL (aw a c).1 bF,(aw a c).2⟩
 have aP:∀{M:E},Rd d Q (P+4) M->Fz [d] m M->∃d' U W,Value.agg #[O.v y,O.v t]=.agg #[O.v d',O.v U]/\dY (bI i (aj M f.size 0 [.s y,.s t])) d' U B W/\uK B W True (aa+4)/\Rd d Q (P+4) (aj M f.size 0 [.s y,.s t])/\Fz [d] m (aj M f.size 0 [.s y,.s t]):=λhr p=>
  have g':=p.aj (b:=f.size) (Or.inr V) 0 [.s y,.s t]
  ⟨y,t,L,rfl,Hn g',EW,h0.aj hr p V _ _,g'⟩
 refine(DB bc R hW C V).mono λo D⟨lb,ok,e,A,hA⟩=>⟨A.de λa c=>(al a c).1,(lb,0),ok,e,λ_=>?_,λbe=>?_⟩
 .intro m8
  exact aP ((h6.ext A).mono V) (u6.then A)
 obtain⟨_,jl,ro,sl,au,b9,h7,i7⟩:=hA (by simpa using be)
 intro m8
 have x8:J D m8:=J.push _ _
 have g8:GI i D m8 (.mk D.size 0 0 0) []:=GI.nil i D
 clear_value m8
 have z7:=A.size
 have bQ:=pL q.body.aE
 have a3:=SZ q.body.aE G.toNat
 have N0:=i7.len 0 bo
 have u7:Fz [d] m D:=u6.then A
 have aC:∀l∈i,l<D.size:=λl s=>aL (hS l s) u7.size
 refine dE (n:=(au 0).length) V (λan X M=>J D M/\∃H,GI i D M X H/\H.length<=an/\∀z∈H,0<=z/\z<(((au 0).length:Nat):Int)) ⟨x8,[],g8,ad _,aJ⟩ ?_
 rintro an X m9 bK μ bW ⟨u,H,p,b0,ai⟩ aA
 have h9:=h7.ext u
 have l0:=h9.len (k:=0) bo
 have am:∀a∈[h.size,f.size,m.size],a<m9.size/\a∉[d]:=λa c=>⟨u.lt (A.lt (al a c).1),(al a c).2⟩
 refine⟨_,h9.cK (k:=0) bo,λa_=>?_,λbU=>?_⟩
 .simp only[aq]at a_
  let⟨z,g⟩:=cq (au 0) an
  refine⟨_,h9.cK (k:=0) bo,V,V,z,h9.aQ bo V g,λ_=>?_,λ_=>aA V _ _ ⟨u,H,p,V,ai⟩⟩
  refine(rP h9 i7 V (v:=(an:Int)) V V).mono λo az⟨bb,e,w⟩=>⟨w.de λa c=>(am a c).1,bb,e,λ_=>?_,λ_=>aA V _ _ ⟨u.trans w,H,p.ext w,V,ai⟩⟩
  intro T
  have gy:=p.bn
  refine GI.kj (p.ext w) ((u.trans w).fz []) aC V λU bn N K _ Y=>⟨J.nP ((u.trans w).aR _) K.ext (λa c=>A.lt (al a c).1),aA V _ _ ⟨K.ext,_,N,bS,λz g=>?_⟩⟩
  rcases List.mem_append.1 g with g|g
  .exact ai z g
  .simp at g;omega
 .have bV:=p.len bo
  have u9:Fz [d] m m9:=u7.then u
  have r9:Rd d Q (P+2) m9:=(h6.ext (A.trans u)).mono V
  refine⟨λ_=>?_,λbd=>?_⟩
  .intro az
   exact aP (r9.mono V) u9
  simp only[ap]at bd
  have gy:=p.bn
  have gb:X.aC∉[d]:=by simp;have:=u7.size;omega
  refine(bX r9 V (X.len:Int)).mono λo az⟨ay,e,i0,i1,aY,ah⟩=>⟨ah.de am,ay,e,i0,V,?_⟩
  let⟨w,aO⟩:=cq H ay.toNat
  let⟨w0,w1⟩:=ai w (av aO)
  have a5:af m9 X.aC (X.off+ay.toNat*1)=some (vi w):=((p.done aC V).le (bA _ _)).aQ aO
  refine⟨w,(aM (ah.same _ gy.2 gb) _).trans a5,?_⟩
  have bu:=u9.trans ah
  have cl:=u.size;have bH:=ah.size
  have aE:∀a∈[h.size,f.size,m.size],a<az.size/\a∉[d]:=λa c=>⟨aL (am a c).1 bH,(am a c).2⟩
  have ew:cQ (cQ ((a.len:Int) -G)+1)=(a.len:Int) -G+1:=by rw[aS (b:=(a.len:Int) -G) V V,aS V V]
  rw[ew]
  refine(bX aY V _).mono λo T⟨i2,e,b5,b6,aZ,ar⟩=>⟨ar.de aE,i2,e,?_⟩
  have aQ:=bu.trans ar
  have bJ:=ar.size
  have ak:∀a∈[h.size,f.size,m.size],a<T.size:=λa c=>aL (aE a c).1 bJ
  have ac:∀{M:E},T.size<=M.size->∀l∈h.size::f.size::i,l<M.size:=λhz l s=>by
   simp only[aW]at s;have h1:=ak h.size aJ;have h2:=ak f.size aJ;rcases s with e|e|e
   .omega
   .omega
   .have:=hS l e;have:=aQ.size;omega
  have bw:Fz [d] h T:=(((((x5.fz _).trans z6).then A).then u).trans ah).trans ar
  have a2:=c3.le (bw.cR λl s=>by simp at s;subst s;simp[ax])
  obtain⟨g,a6⟩:∃g:Nat,G=g:=⟨G.toNat,V⟩
  obtain⟨kn,a9⟩:∃kn:Nat,i2=kn:=⟨i2.toNat,V⟩
  subst a6 a9
  have bk:g+kn<=q.body.aE.length:=V
  have aX:cQ ((g:Int)+(kn:Int))=((g+kn:Nat):Int):=by rw[aS V V];omega
  simp only[om]at N0 a3
  let⟨bm,r0,r1⟩:=bl.bC
  have bR:dc (q.body.aE.take g)<=dc (q.body.aE.take (g+kn)):=by
   have:=SZ (q.body.aE.take (g+kn)) g;rwa[Lu,jv V]at this
  let⟨bB,bx,bD⟩:=Ul (j:=g+kn) (a:=15) (v:=w) bm bo ⟨w0,V⟩
  have bj:(q.body.aE.take (g+kn)++[eP 15 w]++q.body.aE.drop (g+kn)).take g=q.body.aE.take g:=by
   rw[fe,mN bS,Lu,jv V]
  let⟨bC,bz,bE⟩:=Ul (j:=g) (a:=14) (v:=w) bB bo ⟨w0,by rw[bj];omega⟩
  generalize aN:q.body.aE.take (g+kn)++[eP 15 w]++q.body.aE.drop (g+kn)=st1 at*
  have bY:st1.length=q.body.aE.length+1:=by rw[<-aN];simp;omega
  have K:∀{M Z:E},J M Z->T.size<=M.size->∀a∈[h.size,f.size,m.size],∀I,af Z a I=af M a I:=λxx hz a c I=>aM (xx.same a (aL (ak a c) hz)) I
  have kS:∀{M Z:E},J M Z->T.size<=M.size->eF [h.size,f.size,m.size] M Z:=λxx hz a c=>xx.same a (aL (ak a c) hz)
  rw[aX]
  refine(iJ (c:=h.size::f.size::i) (ac (ad _)) 15 w).mono λo bn⟨bL,b7,e,a0,a7,N⟩=>⟨kS N (ad _),_,_,_,_,_,e,K N (ad _) _ aJ _,K N (ad _) _ aJ _,?_⟩
  have aV:=N.size
  refine(Ae (d:=h.size::f.size::i) (S:=q.body.aT) (q:=eP 15 w) (ac aV) (a2.le (N.cR _)) a0 a7 bk V).mono λo bp⟨bt,e,aK,ao⟩=>⟨kS ao aV,_,_,e,?_⟩
  rw[aN]at aK
  intro ae
  have cg:=ao.size
  have ch:ae.size=bp.size:=aD _ _ _ _
  have aR:=(aQ.then N).then ao
  have bv:Fz [d] m ae:=aR.aj (Or.inr V) _ _
  have bs:Rd d Q (P+2+1+1) ae:=h0.aj ((aZ.ext N).ext ao) aR V _ _
  have bh:eG (bI (h.size::f.size::i) ae) bt st1:=aK.le (cp aJ λ_ F=>F)
  clear_value ae
  refine(iJ (c:=h.size::f.size::i) (ac V) 14 w).mono λo b_⟨bM,b8,e,a1,a8,z⟩=>⟨kS z V,_,_,_,_,_,e,K z V _ aJ _,K z V _ aJ _,K z V _ aJ _,K z V _ aJ _,?_⟩
  have ci:=z.size
  refine(Ae (d:=h.size::f.size::i) (S:=q.body.aT) (q:=eP 14 w) (ac V) (bh.le (z.cR _)) a1 a8 (f:=g) V V).mono λo ca⟨ce,e,bi,Y⟩=>⟨kS Y V,_,_,e,K Y V _ aJ _,K Y V _ aJ _,?_⟩
  have cj:=Y.size
  have aT:=(bv.then z).then Y
  refine(DX (d:=h.size::f.size::i) (ac V) (l:=.mk (st1.take g++[eP 14 w]++st1.drop g) q.body.aT) (hn.le (HS h.size V aT)) C ⟨aI,aH⟩ bi).mono λo cb⟨d',U,W,e,ba,bg,aB⟩=>⟨kS aB V,d',U,e,?_⟩
  intro cc
  have aU:=aT.then aB
  refine⟨d',U,W,rfl,ba.le (cp aJ λl s=>by simp[s]),?_,h0.aj (((bs.ext z).ext Y).ext aB) aU V _ _,aU.aj (Or.inr V) _ _⟩
  subst bg
  refine⟨by simp;exact R.gR,λbr bf=>?_⟩
  rw[WZ (b:=⟨q.params,q.dg,q.aT,.mk (st1.take g++[eP 14 w]++st1.drop g) q.body.aT⟩) C rfl]
  rcases cO bf with F|F
  .exact EW.df br F
  .subst F
   refine⟨aI,aH,.of bC ⟨r0,by rw[bz,bx];exact r1⟩,?_⟩
   show Bk.w (.mk _ _)<=_
   rw[Bk.pY,bE,bD];omega
section
variable{f:E}{t:O}{d:Bk}{j e:Int}{g l:List Nat}{h c:Nat}
def ph(l:eG f t d.aE):rm 278 [.agg #[O.v t,vi d.aT]] f λc=>0<=c/\c<=d.aE.length/\∀(i:Nat)(e:cF),d.aE[i]? =some e->(i:Int)<c->14<=e.op/\e.op<=17:=by
 apply xV;simp -zeta only[aG,aF];intro a;have B:J f a:=J.push _ _;have w:∀q∈[f.size],q<a.size:=by simp[a]
 clear_value a;have x:=l.len;refine eu (n:=d.aE.length) (x▸l.fA) (λc M=>J a M/\∀(i:Nat)(e:cF),d.aE[i]? =some e->i<c->14<=e.op/\e.op<=17) ⟨J.aH _,λi e _ b=>V⟩ ?_;rintro c M I μ L ⟨p,o⟩ z
 have u:=B.trans p;have R:∀{m:E},J f m->∃k:Int,vi (c:Int)=vi k/\(0<=k/\k<=d.aE.length/\∀(i:Nat)(e:cF),d.aE[i]? =some e->(i:Int)<k->14<=e.op/\e.op<=17)/\J f m:=λD=>⟨c,rfl,⟨V,V,λi e g b=>o i e g V⟩,D⟩;refine⟨λb=>?_,λb=>R u⟩;simp only[aq]at b;let⟨e,g⟩:=cq d.aE c;obtain⟨h,P,H,N,s,_⟩:=l.aQ g;refine⟨V,V,_,u.af s,?_⟩;refine(sQ e.op M).aK p w λG Q v C A=>⟨_,rfl,λy=>z V _ ⟨A,λi F j K=>?_⟩,λ_=>R (u.trans C)⟩;by_cases r:i=c
 .subst r;rw[g]at j;simp at j;subst j;exact v.1 y
 .exact o i F j V
def Cz(b:eG f t d.aE){w:Int}(K:0<=j/\j<=d.aE.length)(z:∀(r:Nat)(s:cF),d.aE[r]? =some s->(r:Int)<j->0<s.args.length):
 rm 279 [.agg #[O.v t,vi d.aT],vi j,vi w,vi e] f λc=>-1<=c/\(0<=c->c<j/\∃s:cF,d.aE[c.toNat]? =some s/\s.op=w/\s.args[0]? =some e):=by
 apply FJ
 simp -zeta only[aG,aF]
 intro i
 have B:J f i:=J.push _ _
 clear_value i
 have L:=b.len
 have H:=b.fA
 obtain⟨k,A⟩:∃k:Nat,j=k:=⟨j.toNat,V⟩
 subst A
 refine eu (n:=k) V (λc M=>J i M) (J.aH _) ?_
 rintro c M I μ F l v
 have u:=B.trans l
 refine⟨λa=>?_,λa=>⟨-1,rfl,⟨V,λa=>V⟩,u⟩⟩
 simp only[aq]at a
 let⟨s,g⟩:=cq d.aE c
 let⟨h,N,m,G,x,g1,g2,y,D⟩:=b.aQ g
 have E:=m.len
 have:=z c s g V
 let⟨C,q⟩:=cq s.args 0
 refine⟨V,V,_,u.af x,λo=>⟨V,V,_,u.af y,bo,V,C,(m.ext u).aQ q,λp=>?_,λ_=>v V _ l⟩,λ_=>v V _ l⟩
 simp only[aO]at o p
 refine⟨c,rfl,⟨V,λ_=>⟨V,s,?_,o,by rw[<-p];exact q⟩⟩,u⟩
 simpa using g
def N7(k:eG f t d.aE){b:Int}(D:0<=b/\b<=d.aE.length):rm 286 [.agg #[O.v t,vi d.aT],vi b,vi j] f λc=>(-1<=c/\c<d.aE.length)/\(0<=c->b<=c/\∀s,d.aE[c.toNat]? =some s->s.op=6):=by
 apply He;simp -zeta only[aG,aF];intro l;have y:J f l:=J.push _ _;clear_value l;have w:=k.len;obtain⟨g,v⟩:∃g:Nat,b=g:=⟨b.toNat,V⟩;subst v;refine VT (n:=d.aE.length) (b:=g) V (w▸k.fA) (λc M=>J l M) (J.aH _) ?_;rintro c M I μ _ B o x
 have u:=y.trans o;refine⟨λi=>?_,λi=>⟨-1,rfl,⟨⟨V,V⟩,λi=>V⟩,u⟩⟩;simp only[aq]at i;let⟨s,m⟩:=cq d.aE c;let⟨h,E,A,C,p,g1,g2,q,z⟩:=k.aQ m;have N:=x V _ o
 exact⟨V,V,_,u.af p,λr=>⟨V,V,_,u.af g2,λ_=>⟨V,V,_,u.af q,λ_=>⟨c,rfl,⟨⟨V,V⟩,λ_=>⟨V,λF e=>by simp at e;rw[m]at e;cases e;simpa using r⟩⟩,u⟩,λ_=>N⟩,λ_=>N⟩,λ_=>N⟩
def Hg(d:Bk)(Z:∀l∈g,l<f.size)(C:eG f t d.aE)(hw:d.w<=10^12):aP cv 280 [.agg #[O.v t,vi d.aT]] f λai E=>∃s,ai=.agg #[O.v s,vi d.aT]/\GS g f E s d.aE/\J f E:=by
 let⟨aE,q⟩:=d;rw[Bk.pY]at hw;simp only[Bk.jG,Bk.iZ]at*;apply qI;simp -zeta only[aG,aF];intro j b h F p;let⟨K,A⟩:=dk (a:=j) (c:=b) rfl rfl;have s0:j.size=f.size+1:=by simp[j]
 have s1:b.size=f.size+2:=by simp[b,s0]
 have s2:h.size=b.size+1:=by simp[h]
 have s3:F.size=h.size+1:=by simp[F]
 have L:J h p:=(J.push h _).aj (ad _) _ _;have aj:J b p:=(J.push b _).trans L;have x:GS (h.size::j.size::g) b p (.mk b.size 0 0 0) []:=(GS.new _ b).ext fQ.mono L;have N:cB p h.size cZ [.s (.mk b.size 0 0 0),.i q]:=cB.aj (m:=F) (o:=0) (r:=[.s (.mk b.size 0 0 0),.i q]) (cB.push h _ _);clear_value p;have aa:∀l∈j.size::g,l<b.size:=bR Z K.size (A _ aJ);have ag:=C.len;have al:=fw aE;refine eu (n:=aE.length) (ag▸C.fA) (λc M=>J b M/\∃s,GS (h.size::j.size::g) b M s (aE.take c)/\cB M h.size cZ [.s s,.i q]) ⟨aj,_,x,N⟩ ?_;rintro c G ak μ hk ⟨w,s,v,B⟩ ah
 have k:=K.trans w;have af:∀d∈[j.size,f.size],d<G.size:=λd y=>w.lt (A d y);have hy:=v.bn;have z5:=w.size;have I:=B.lt;refine dit (λY=>?_) λY=>?_
 .let⟨e,D⟩:=cq aE c;let⟨pa,pk,ha,ae,x,g1,g2,W,X⟩:=C.aQ D;have am:=Oe D;refine⟨s,B.cK 0,V,V,_,k.af x,_,k.af g1,_,k.af g2,_,k.af W,_,k.af X,?_⟩;refine(xk (e:=s.aC::h.size::j.size::g) (bR (bR aa z5 I) (ad _) hy.2) (ha.ext k) (ae.le k.le) V (λd _=>vo d)).aK (J.aH G) af λP Q x' H ab ac R u _=>⟨_,_,_,_,_,rfl,aM (u.same _ I) _,?_⟩;subst R;intro m7;refine Gr.box (g:=[.i 0,.i 0,.i 0,.s .nil,.s .nil]) (j:=0) (i:=[.s s,.i q]) (w:=e) fQ.mono bo (v.ext fQ.mono u) ((w.trans u).fz []) ⟨P,Q,rfl,ab,ac⟩ bS (B.ext u) aJ bo ⟨V,aJ⟩ (λl z=>by have M:=A l z;have T:=u.size;omega) λr' E U M T z' q'=>ah V _ ⟨T.ext,r',?_,M⟩
  rw[bF D];exact U
 .rw[cG V]at v;refine⟨s,B.cK 0,q,B.cK 1,?_⟩;intro H;have u:Fz [j.size] G H:=(Fz.aH _ _).aj (Or.inl aJ) _ _;have D:GS g b H s aE:=v.re fQ.mono u aJ bS λl z=>Or.inl (by simp[z]);exact⟨s,rfl,Gr.cL fQ.mono D (λd y=>Or.inl y) V,k.aj V _ _⟩
def Um{f:List bq}{d:Prop}{a:List cF}(j:WL f l d h a){e b:cF}(g:a[c]? =some e)(p:WS f l d (h+dc (a.take c)) b)(hd:dn b=dn e):
 WL f l d h (a.set c b)/\dc (a.set c b)=dc a/\sw (a.set c b)+e.w=sw a+b.w:=by
 have o:=az g
 have k:a.set c b=a.take c++([b]++a.drop (c+1)):=by rw[Oz,ao o];rfl
 have i:a=a.take c++([e]++a.drop (c+1)):=by
  let⟨m,n⟩:=List.getElem?_eq_some_iff.1 g;rw[<-n];show a=a.take c++(a[c]::a.drop (c+1));rw[<-lC m,dx]
 have q:dc a=dc (a.take c)+(dn e+dc (a.drop (c+1))):=by
  conv=>lhs;rw[i]
  rw[cJ,cJ,jW,sA];omega
 have r:sw a=sw (a.take c)+(e.w+sw (a.drop (c+1))):=by
  conv=>lhs;rw[i]
  rw[dv,dv,lZ,uE];omega
 rw[k]
 refine⟨(j.take c).append ((WL.lj p).append ?_),?_,?_⟩
 .have:=j.drop (c+1)
  rw[qb g]at this
  rw[jW,sA,hd,jo,dR];exact this
 .rw[cJ,cJ,jW,sA];omega
 .rw[dv,dv,lZ,uE];omega
def _root_.Go.Vc.Gr.cells{α:Type}{r:E}{m d:Nat}{R:E->List Ce->α->Prop}{s:O}{l:List α}(n:Gr g r f m d R s l){e:α}(i:l[c]? =some e):∃a,R (bI (s.aC::g) f) a e/\gN f s.aC (s.off+c*d) a:=by
 let⟨t,k,o,b⟩:=n;let⟨a,h⟩:=cq k c (by rw[b.len];exact az i);refine⟨a,b.df c a e h i,λq j p=>?_⟩;have:=o.jD (c*d+q) j (iH b.size h p);rwa[<-dR]at this
def Jk(hS:∀c∈g,c<f.size)(w:eG f t d.aE){U:List bq}(ap:WB U l True h d)(hw:d.w<=10^12)(hx:0<=e/\e<(h:Int))(a7:h<=10^12)(j:Int):
 aP cv 277 [.agg #[O.v t,vi d.aT],vi e,vi j] f λaa m'=>∃s o,aa=.agg #[O.v s,vi o.aT]/\eG m' s o.aE/\(eG (bI g f) t d.aE->eG (bI g m') s o.aE)/\(WB U l True h o/\o.w<=d.w)/\J f m':=by
 apply BY
 simp -zeta only[aG,aF]
 intro n u
 let⟨D,q⟩:=dk (a:=n) (c:=u) rfl rfl
 have s1:n.size=f.size+1:=by simp[n]
 have s2:u.size=f.size+2:=by simp[u,s1]
 clear_value u
 let⟨Z,aV⟩:=ap.bC
 have F:∀{ac M':E},J u ac->J u M'->∀L,af M' f.size L=af ac f.size L:=λp h' L=>aM (by rw[h'.same _ (q _ aJ),p.same _ (q _ aJ)]) L
 refine(ph (w.le D.le)).aK (J.aH u) q λn1 m3 Y T _=>⟨_,rfl,F (J.aH _) T _,F (J.aH _) T _,?_⟩
 refine(Cz (w.le (D.trans T).le) (w:=16) (e:=e) ⟨Y.1,Y.2.1⟩ λaq s hi aO=>?_).aK T q λn2 m4 aQ x4 P=>⟨_,rfl,?_⟩
 .have:=Y.2.2 aq s hi aO
  have:=(Z aq s hi).dV.lj V
  omega
 refine(ph (w.le (D.trans P).le)).aK P q λn3 m5 an x5 Q=>⟨_,rfl,F P Q _,F P Q _,?_⟩
 refine(N7 (w.le (D.trans Q).le) (j:=j) ⟨an.1,an.2.1⟩).aK Q q λn4 A⟨bc,ao⟩ x6 v6=>⟨_,rfl,?_⟩
 have u6:=D.trans v6
 have ax:∃s o,Value.agg #[O.v t,vi d.aT]=.agg #[O.v s,vi o.aT]/\eG (aj A n.size 0 [.s t,.i d.aT]) s o.aE/\(eG (bI g f) t d.aE->eG (bI g (aj A n.size 0 [.s t,.i d.aT])) s o.aE)/\(WB U l True h o/\o.w<=d.w)/\J f (aj A n.size 0 [.s t,.i d.aT]):=
  have W:=u6.aj (b:=n.size) V 0 [.s t,.i d.aT]
  ⟨t,d,rfl,w.le W.le,λp=>p.le (W.cR _),⟨ap,ad _⟩,W⟩
 refine⟨λ_=>ax,λh2=>⟨λ_=>ax,λh4=>?_⟩⟩
 simp only[bD]at h2 h4
 have z6:=v6.size
 have ak:∀c∈n.size::g,c<A.size:=λc i=>by
  rcases List.mem_cons.1 i with m|m
  .omega
  .have:=hS c m;omega
 refine(Hg d ak (w.le u6.le) hw).mono λaa K⟨M,m,g7,x7⟩=>⟨λc i=>x7.same c (oh (q c i)),_,_,m,?_⟩
 intro m8 B
 have x9:J K B:=(J.push K _).aj (ad _) _ _
 have s9:B.size=K.size+1:=by simp[B,m8,aD]
 clear_value B
 have y7:=g7.bn
 have z7:=x7.size
 have g9:=g7.ext fQ.mono x9
 have am:∀c∈[K.size,n.size,f.size],c<B.size/\c≠M.aC:=λc i=>by simp at i;omega
 refine(iJ (c:=M.aC::n.size::g) (λc i=>?_) 17 e).mono λaa av⟨ag,ar,m,aL,aN,C⟩=>⟨λc i=>C.same c (am c i).1,_,_,_,_,_,m,aM (C.same _ V) _,?_⟩
 .rcases List.mem_cons.1 i with m|m
  .omega
  .have:=ak c m;omega
 have ai:=g9.ext fQ.mono C
 have bh:=ai.len bo
 let⟨bb,N,G,bd,a8⟩:=aQ.2 V
 have aA:J A av:=(x7.trans x9).trans C
 have aR:=az G
 let⟨a1,X,aE,aZ⟩:=Gr.set (k:=n2.toNat) (cs:=[.i 17,.i 0,.i 0,.s ag,.s ar]) (a:=eP 17 e) fQ.mono ai (aA.fz []) aR ⟨ag,ar,rfl,aL,aN⟩
 refine⟨V,V,a1,?_⟩
 intro H
 have bm:=C.size
 have bi:H.size=av.size:=aD _ _ _ _
 refine⟨λc i=>aZ c (am c i).2,V,V,?_⟩
 have aW:=Z _ N G
 have w1:=aW.dV.lj (Or.inl V)
 have d1:dn (eP 17 e)=dn N:=by
  unfold dn;rw[ae (λp:oE _=>by have:=p.2;simp only[eP]at this;omega),ae (λp:oE _=>oh p.2)]
 let⟨ay,a3,bk⟩:=Um Z G (CQ (c:=17) (v:=e) bo ⟨hx.1,V⟩) d1
 have bf:=cF.k8 N
 have a_:(eP 17 e).w=2:=rfl
 let⟨y,z⟩:=cq (d.aE.set n2.toNat (eP 17 e)) n4.toNat bS
 have ba:=X.len bo
 obtain⟨a6,⟨pa,pk,rfl,aT,aU⟩,kZ⟩:=X.cells z
 have e0:=kZ 0 _ rfl;have e1:=kZ 1 _ rfl;have e2:=kZ 2 _ rfl;have e3:=kZ 3 _ rfl;have e4:=kZ 4 _ rfl
 refine⟨_,e0,_,e1,_,e2,_,e3,_,e4,?_⟩
 intro aX I
 have R:J H I:=(J.push H _).aj (ad _) _ _
 have bj:I.size=H.size+1:=by simp[I,aX,aD]
 clear_value I
 have aI:=X.ext fQ.mono R
 have aC:cQ (1+e)=1+e:=aS V V
 rw[aC]
 have aB:=(aE.then R)
 let⟨a2,aK,aH,a0⟩:=Gr.set (k:=n4.toNat) (cs:=[.i y.op,.i y.bM,.i (1+e),.s pa,.s pk]) (a:=⟨y.op,y.bM,1+e,y.args,y.bH⟩) fQ.mono aI aB bS ⟨pa,pk,rfl,au.le (R.cR _) aT,mU.le (R.cR _) aU⟩
 refine⟨V,V,a2,?_⟩
 intro aw
 have r:=ay _ y z
 let⟨a5,a4,bl⟩:=Um (b:=⟨y.op,y.bM,1+e,y.args,y.bH⟩) ay z ⟨⟨r.dV.op,r.dV.args,r.dV.lj,⟨by show 0<=1+e;omega,by show 1+e<=_;omega⟩,r.dV.Jr,r.dV.all,λ_=>(ao V).2 y (by rw[dT λm=>by have:=(ao V).2 N (m▸G);omega]at z;exact z),r.dV.ar⟩,r.bH⟩ rfl
 refine⟨λc i=>a0 c (by simp at i;omega),?_⟩
 intro aY
 have bg:(⟨y.op,y.bM,1+e,y.args,y.bH⟩:cF).w=y.w:=rfl
 have a9:=Bk.k8 d
 have be:=fw d.aE
 have ab:eG (bI (n.size::g) aw) M _:=aK.mZ fQ.mono (S:=n.size::g) (λi=>by
  rcases List.mem_cons.1 i with m|m
  .omega
  .have:=hS _ m;omega) bo bS
 have al:Le (bI (n.size::g) aw) (bI g aY):=cp aJ λc i=>ah _ i
 refine⟨M,.mk _ d.aT,rfl,(ab.le al).le (bA _ _),λ_=>ab.le al,⟨.of a5 (by rw[a4,a3];exact aV),?_⟩,(u6.trans aH.ext).aj V _ _⟩
 rw[Bk.pY];omega
end
def SA(c:List bq)(d:List eQ)(N:Nat):Prop:=∀(b:Bk),b.w<=N->∀(S:List Nat)(m:E),(∀a∈S,a<m.size)->∀(f r t kH:O)(l:List Int)(a:Nat),dY m f r c d->eG m t b.aE->au m kH l->WB c (pc d) True a b->a+4*b.w<=10^12->l.length+4*b.w<=10^12->
 mO 233 [.agg #[O.v f,O.v r],.agg #[O.v t,vi b.aT],O.v kH] m S λe=>WB c (pc d) True a e/\e.w<=b.w
def Jl{D:List Nat}{m:E}(hS:∀c∈D,c<m.size){R ac pa pk kH:O}{j:List bq}{A:List eQ}{a:cF}{y:List Int}{F:Nat}(q:dY m R ac j A)(ha:au m pa a.args)(hk:mU m pk a.bH)(I:au m kH y)(Y:WS j (pc A) True F a)(hb:F+4*a.w<=10^12)(a2:y.length+4*a.w<=10^12){l:Nat}{i:Bk}(U:a.bH[l]? =some i)(ih:SA j A i.w):
 mO 259 [.agg #[O.v R,O.v ac],oC a pa pk,vi l,O.v kH] m D λk=>WB j (pc A) True (F+AI j a.op a.bM l) k/\k.w<=i.w:=by
 apply BZ
 simp -zeta only[aG,aF]
 intro aa s b
 let⟨f,hl,s1,h,s3⟩:=pJ (a:=aa) (b:=s) (c:=b) rfl rfl rfl
 clear_value b
 let⟨ai,ht,f0,f1⟩:=hk.aQ U
 have a0:=az U
 have a1:=hk.len
 have aW:=ha.len
 have a5:=cF.k8 a
 have aY:=uo U
 have ae:=Y.bH l i U
 have aZ:=i.Gc
 have aC:∀{M:E},J b M->∀c∈s.size::D,c<M.size:=λxx c d=>by
  have:=xx.size;rcases List.mem_cons.1 d with e|e
  .omega
  .have:=hS c e;omega
 have hO:∀(M:E)(Z u:O)(l':List Int)(k:Bk)(Lx:List Nat),J m M->J b M->(∀c∈Lx,c<M.size)->eG M u k.aE->au M Z l'->l'.length<=y.length+1->WB j (pc A) True (F+AI j a.op a.bM l) k->k.w<=i.w->
  aP cv 233 [.agg #[O.v R,O.v ac],.agg #[O.v u,vi k.aT],O.v Z] M λv r=>eF Lx M r/\∃(h:O)(b2:Bk),v=.agg #[O.v h,vi b2.aT]/\∀g,g=aj r s.size 0 [.s h,.i b2.aT]->∃s3 b3,(Value.agg #[O.v h,vi b2.aT])=.agg #[O.v s3,vi b3.aT]/\eG (bI D g) s3 b3.aE/\(WB j (pc A) True (F+AI j a.op a.bM l) b3/\b3.w<=i.w)/\J m g:=λM Z u l' k Lx xm aU aB hs aK a3 aR aQ=>by
  have h3:=OP q.types a.op a.bM l
  refine(ih k aQ (s.size::D) M (aC aU) R ac u Z l' _ (q.le xm.le) hs aK aR V V).mono λv r⟨h,b2,e,aN,aE,x'⟩=>⟨x'.de aB,h,b2,e,λg am=>⟨h,b2,rfl,?_,⟨aE.1,V⟩,?_⟩⟩
  .rw[am];exact aN.le (cp aJ λc d=>ah _ d)
  .rw[am];exact(xm.trans x').aj V _ _
 refine⟨λG=>?_,λG=>?_⟩
 .refine⟨V,V,_,f.af f0,_,f.af f1,?_⟩
  refine(hO b kH ai y i _ f (J.aH _) hl (ht.le f.le) (I.ext f) V ae (ad _)).mono λv r⟨o,h,b2,e,p⟩=>⟨o,_,_,e,?_⟩
  intro g
  exact p g rfl
 .have G:a.op=8:=by simpa using G
  obtain⟨aX,_⟩:=Y.dV.all G
  have aV:=Y.dV.lj (Or.inr (Or.inr G))
  let⟨B,hy⟩:=cq a.args 0
  let⟨y0,y1⟩:=Y.dV.args B (av hy)
  refine⟨bo,V,B,(ha.ext f).aQ hy,V,V,_,f.af f0,_,f.af f1,?_⟩
  intro m4 t
  have x5:J b t:=(J.push b _).aj (ad _) _ _
  have s5:t.size=b.size+1:=by simp[t,m4,aD]
  clear_value t
  have L:=f.trans x5
  have w:∀{M:E},J t M->∀c∈[b.size,s.size,aa.size,m.size],c<M.size:=λxx c d=>by have:=xx.size;simp at d;omega
  refine(dj (I.ext L) B).any.aK (J.aH t) (w (J.aH _)) λbb m6 n _=>⟨_,rfl,λ_=>?_,λ_=>?_⟩
  .have N:=L.trans n
   let⟨cn,aH⟩:=cq (cb j a.bM) l
   have C:∀{M M':E},J t M->J M M'->∀c∈[b.size,s.size,aa.size,m.size],∀ab,af M' c ab=af M c ab:=λT h' c d ab=>aM (h'.same c (w T c d)) ab
   refine(gP (e:=[]) aJ (q.bu.le N.le) q.types a.bM).aK n (w (J.aH _)) λs7 l7 m7 X e x7 v7=>⟨_,rfl,C n x7 _ aJ _,C n x7 _ aJ _,C n x7 _ aJ _,?_⟩
   subst e
   have X:=X.le (bA _ _)
   have l7:=X.len
   refine⟨V,V,cn,X.aQ aH,?_⟩
   refine(dF (e:=[]) aJ (q.bu.le ((L.trans v7).le.trans (yW _))) q.types cn).aK v7 (w (J.aH _)) λs8 l8 m8 a4 e x8 v8=>⟨_,rfl,C v7 x8 _ aJ _,C v7 x8 _ aJ _,?_⟩
   subst e
   have z8:=v8.size
   have h3:=OP q.types a.op a.bM l
   have an:eG (bI [b.size] m8) ai i.aE:=ht.le ((yW m).trans ((L.trans v8).bI λc d=>Or.inr (by simp at d;omega)))
   refine(Jk (g:=[b.size]) bS (an.le (bA _ _)) ae V (e:=B) ⟨y0,V⟩ V (s8.len:Int)).mono λv m9⟨s9,b9,e,_,aO,H,x9⟩=>⟨λc d=>x9.same c (w v8 c d),_,_,e,?_⟩
   intro z
   have v9:=v8.trans x9
   have al:J b z:=(x5.trans v9).aj V _ _
   have W:eG z s9 b9.aE:=((aO an).le (cp (a:=[b.size]) aJ λ_ T=>T)).le (bA _ _)
   have a9:z.size=m9.size:=aD _ _ _ _
   have z9:=v9.size
   have K:∀{M:E},z.size<=M.size->∀c∈[b.size,s.size,aa.size,m.size],c<M.size:=λT c d=>by simp at d;omega
   clear_value z
   refine(ph W).aK (J.aH z) (K (ad _)) λa7 a6 ag ay _=>⟨_,rfl,?_⟩
   obtain⟨aS,_⟩:=H.1.bC
   refine(Cz (W.le ay.le) (w:=17) (e:=B) ⟨ag.1,ag.2.1⟩ λao u hj aL=>?_).aK ay (K (ad _)) λa8 aT _ a_ P=>⟨_,rfl,λ_=>?_,λ_=>?_⟩
   .have:=ag.2.2 ao u hj aL
    have:=(aS ao u hj).dV.lj V
    omega
   .have Q:=al.trans P
    refine(nk (S:=[]) aJ ((I.ext (f.trans Q)).le (yW _)) B V).aK P (K (ad _)) λaw ap aq aA ar ba ak=>⟨_,rfl,?_⟩
    have ax:=al.trans ak
    have aI:au aq aw ap:=(aA.done aJ (oh ar.2)).le (bA _ _)
    refine(hO aq aw s9 ap b9 _ (f.trans ax) ax (K ak.size) (W.le ak.le) aI ar.2 H.1 H.2).mono λv r⟨o,h,b2,e,p⟩=>⟨o,_,_,e,?_⟩
    intro g
    exact p g rfl
   .have Q:=al.trans P
    refine(hO aT kH s9 y b9 _ (f.trans Q) Q (K P.size) (W.le P.le) (I.ext (f.trans Q)) V H.1 H.2).mono λv r⟨o,h,b2,e,p⟩=>⟨o,_,_,e,?_⟩
    intro g
    exact p g rfl
  .have N:=L.trans n
   refine(hO m6 kH ai y i _ N (x5.trans n) (w n) (ht.le N.le) (I.ext N) V ae (ad _)).mono λv r⟨o,h,b2,e,p⟩=>⟨o,_,_,e,?_⟩
   intro g
   exact p g rfl
section
variable{c:List eQ}
def SA.gE{b:List bq}{N a:Nat}(h:SA b c N)(e:a<=N):SA b c a:=λd f=>h d (bJ f e)
def FE{K:List bq}:∀N:Nat,SA K c N:=by
 intro N;induction N with
 |zero=>intro v hb;have:=v.Gc;omega
 |succ N t=>
 intro v hb p R hS aC a5 a6 kH a3 ae hn hs ao av aK aR;let⟨aE,A⟩:=v;have ai:=av.bC;rw[Bk.pY]at*;simp only[Bk.jG,Bk.iZ]at*;apply yf;simp -zeta only[aG,aF];intro T j h f m5 G;let⟨x3,hl,s1,s2,s3⟩:=pJ (a:=T) (b:=j) (c:=h) rfl rfl rfl;have s4:f.size=h.size+1:=by simp[f]
 have aj:J f G:=(J.push f _).aj (ad _) _ _;have aA:J h G:=(J.push h _).trans aj;have g0:GS (f.size::j.size::p) h G (.mk h.size 0 0 0) []:=(GS.new _ h).ext fQ.mono aj;have B0:cB G f.size cZ [.s (.mk h.size 0 0 0),.i A]:=cB.aj (m:=m5) (o:=0) (r:=[.s (.mk h.size 0 0 0),.i A]) (cB.push f _ _);have al:∀d∈j.size::p,d<h.size:=bR hS x3.size (hl _ aJ);clear_value G;clear_value h;have ap:=hs.len;have ar:=Az aE;have aV:=fw aE;refine eu (n:=aE.length) (ap▸hs.fA) (λl M=>J h M/\∃s u,GS (f.size::j.size::p) h M s u/\cB M f.size cZ [.s s,.i A]/\u.length=l/\WL K (pc c) True ae u/\dc u=dc (aE.take l)/\sw u<=sw (aE.take l)) ⟨aA,_,[],g0,B0,rfl,WL.nil _ _ _ _,aJ,aJ⟩ ?_;rintro l M aB μ hk ⟨xM,s,u,O,B,aT,wl,P,au⟩ ax
 have y:=x3.trans xM;have aQ:∀{q:E},h.size<=q.size->∀d∈[j.size,T.size,R.size],d<q.size:=λz d e=>aL (hl d e) z;have hy:=O.bn;have zM:=xM.size;have aH:=B.lt;refine dit (λz=>?_) λz=>?_
 .let⟨x,D⟩:=cq aE l;let⟨pa,pk,ha,Z,e0,e1,e2,e3,e4⟩:=hs.aQ D;have a0:=Oe D;have a2:=cF.k8 x;have aN:=pK x.bH;have a1:=pp D;have aZ:=qb D;have Q:=ai.1 l x D;have aP:=pL (aE.take l);have aU:=fw (aE.take l);have aY:=ar (l+1);refine⟨V,V,_,y.af e0,_,y.af e1,_,y.af e2,_,y.af e3,_,y.af e4,?_⟩;intro m7 k m9;have x8:J M k:=(J.push M _).aj (ad _) _ _;have s8:k.size=M.size+1:=by simp[k,m7,aD]
  have x9:J k m9:=J.push _ _;have ak:GB (s.aC::f.size::j.size::p) k m9 (.mk k.size 0 0 0) []:=GB.new _ k;clear_value m9;clear_value k;have Y:∀d∈s.aC::f.size::j.size::p,d<k.size:=λd e=>by
   simp only[aW]at e;rcases e with g|g|g|g
   .omega
   .omega
   .omega
   .have:=hS d g;omega
  have aa:=Z.len;refine dE (n:=x.bH.length) (aa▸Z.fA) (λF ks q=>J k q/\∃lk,GB (s.aC::f.size::j.size::p) k q ks lk/\lk.length=F/\(∀(w:Nat)(v:Bk),lk[w]? =some v->WB K (pc c) True (ae+dc (aE.take l)+AI K x.op x.bM w) v)/\bw lk<=bw (x.bH.take F)) ⟨x9,[],ak,rfl,aJ,aJ⟩ ?_;rintro F ks I I2 μ2 hj ⟨H,lk,X,aS,ag,an⟩ aw;have C:J R I:=y.trans (x8.trans H);have yk:=X.bn;have z2:=H.size;have ab:∀{q:E},k.size<=q.size->∀d∈[M.size,j.size,T.size,R.size],d<q.size:=λz d e=>by simp at e;omega
  refine dit (λh2=>?_) λh2=>?_
  .let⟨v,U⟩:=cq x.bH F;have aO:=uo U;have am:=tR U;refine(Jl (D:=ks.aC::s.aC::f.size::j.size::p) (λd e=>?_) (hn.le C.le) (ha.ext C) (Z.le C.le) (ao.ext C) Q V V U (t.gE V)).aK (J.aH I) (ab z2) λss b' a4 aq af ac _=>⟨_,_,rfl,?_⟩
   .rcases List.mem_cons.1 e with g|g
    .omega
    .have:=Y d g;omega
   refine GB.kj (c:=b') (X.ext qO.mono ac) ((H.trans ac).fz []) aq V λr' q g2 f2 a7 q2=>⟨J.nP ((H.trans ac).aR _) f2.ext (ab (ad _)),aw V _ _ ⟨f2.ext,_,g2,bS,λw b2 t=>?_,?_⟩⟩
   .rcases aX w lk.length with W|W
    .rw[ay W]at t;exact ag w b2 t
    .rw[aI W]at t;have:w -lk.length=0:=by have:=az t;simp at this;omega
     rw[this]at t;simp at t;subst t;have:w=F:=V;subst this;exact af.1
   .rw[nY,tQ,yH,am];have:=af.2;omega
  .have ac:lk.length=x.bH.length:=V;rw[cG V]at an;have W:J M I:=x8.trans H;have U:=B.ext W;have G2:=O.ext fQ.mono W;refine⟨s,U.cK 0,?_⟩;refine(bP (s.aC::f.size::j.size::p) (ha.ext C) V).aK (J.aH I) (ab z2) λs' l' af ga g t _=>⟨_,rfl,aM (t.same _ V) _,aM (t.same _ V) _,aM (t.same _ V) _,aM (t.same _ U.lt) _,?_⟩;subst g;intro am;refine Gr.box (g:=[.i 0,.i 0,.i 0,.s .nil,.s .nil]) (L:=[M.size,j.size,T.size,R.size]) (j:=0) (y:=72) (i:=[.s s,.i A]) (w:=⟨x.op,x.bM,x.bY,x.args,lk⟩) fQ.mono bo (G2.ext fQ.mono t) (((xM.trans W).trans t).fz []) ⟨s',ks,rfl,(ga.done (λd e=>oh (Y d e)) V),mU.le (t.cR _) (X.done qO.mono Y bo (by show lk.length<=_;omega))⟩ V (U.ext t) aJ bo ⟨V,aJ⟩ (λd e=>by have h1:=t.size;simp at e;omega) λr' m' g' B' f' z' q'=>ax V _ ⟨f'.ext,r',_,g',B',bS,wl.zg (Q.Pb id Q.dV.bY Q.dV.Zi ac ag|>λz=>by rw[P];exact z),?_,?_⟩
   .rw[cJ,jW,sA,P];have g:dn (⟨x.op,x.bM,x.bY,x.args,lk⟩:cF)=dn x:=rfl;omega
   .rw[dv,lZ,uE];have h5:(⟨x.op,x.bM,x.bY,x.args,lk⟩:cF).w=1+x.args.length+bw lk:=cF.k8 _;omega
 .have aa:l=aE.length:=V;subst aa;rw[gY]at P au;refine⟨s,B.cK 0,A,B.cK 1,?_⟩;intro m7;have k:Le (bI (f.size::j.size::p) M) (bI p m7):=cp aJ λd e=>ah _ (ah _ e);have t:=O.ne B bo;refine⟨s,.mk u A,rfl,eG.le k (O.mZ fQ.mono (λe=>?_) bo (by show u.length<=_;omega)),⟨.of wl (by rw[P];exact ai.2),by rw[Bk.pY];omega⟩,y.aj V _ _⟩;rcases List.mem_cons.1 e with g|g
  .exact t g
  .have:=al _ g;omega
def Mk{g:List Nat}{f:E}(X:∀a∈g,a<f.size){v w:O}{r:List bq}(t:dY f v w r c){W:Nat}(hW:W<=200000000000)(hk:uK r c True W):qP 176 [.agg #[O.v v,O.v w]] f g r λI=>uK r I True W:=by
 apply FF;simp -zeta only[aG,aF];intro h a2;let⟨K,F⟩:=dk (a:=h) (c:=a2) rfl rfl;have s1:h.size=f.size+1:=by simp[h]
 clear_value a2;have aq:=t.iB.len;have aB:=t.nv;refine(fD (b:=h.size::g) (bR X K.size (F _ aJ)) (t.le K.le).bu t.types).mono λ_ ac⟨ak,s,al,L⟩=>?_;subst s;refine⟨L.de F,_,rfl,?_⟩;intro ae ax aj;have u2:=K.trans L;let⟨x5,B0,g0,s3,s5⟩:=kC (b:=ae.size::h.size::g) iv.mono (d:=ac) (a:=ae) (c:=ax) (h:=aj) rfl rfl rfl;clear_value aj;have H:∀a∈[h.size,f.size],a<ac.size:=λa k=>L.lt (F a k);have Y:∀a∈h.size::g,a<ac.size:=λa k=>L.lt (bR X K.size (F _ aJ) a k);refine ka (R:=λb d M=>∃v w I,Value.agg #[O.v b,O.v d]=.agg #[O.v v,O.v w]/\dY (bI g M) v w r I/\uK r I True W/\J f M) (t:=c.length) (f:=f) (b:=g) iv.mono bo bo X ⟨V,H _ aJ⟩ u2 s3 al aq V x5 B0 g0 (λaa e=>(pc c)[aa]? =some e.params.length/\e.params.length<=3/\e.dg.length<=3/\WB r (pc c) True e.params.length e.body/\e.body.w<=W) (λb o ab p h1 h2 d i j=>⟨b,o,ab,rfl,⟨h1,h2,t.types,V⟩,GM hk.gR d i,j⟩) λaa M st ab az μ am aA N ag P ay=>?_
 let⟨e,Z⟩:=cq c aa am;let⟨ap,ao,aw,hw⟩:=hk.df e (av Z);have D:=u2.trans N;let⟨aC,aD,b,c1,c2,c3,Q,T,U,z,A⟩:=t.iB.aQ Z;have G:∀{x:Value}{b o:Nat},af f b o=some x->af M b o=some x:=λi=>D.af i;refine⟨st,P.cK 1,V,V,_,G Q,_,G T,_,G U,_,G z,_,G A,V,V,_,G z,_,G A,?_⟩;intro j;have hy:=ag.bn;have ah:=P.lt;have zM:=N.size;have d:J M j:=J.push _ _;have s7:j.size=M.size+1:=by simp[j]
 have an:au j (.mk M.size 0 0 0) []:=lU _ _ _ _ _ _;clear_value j;have p:∀{x:Value}{b o:Nat},af f b o=some x->af j b o=af M b o:=λi=>by rw[d.af (G i),G i]
 have C:∀{b o:Nat},b<M.size->af j b o=af M b o:=λi=>aM (d.same _ i) _;have B:f.size<M.size:=N.lt (H _ aJ);refine⟨p z,p A,C B,C B,C B,p Q,p T,p U,p z,p A,C B,C ah,?_⟩;refine(FE e.body.w e.body (ad _) (st.aC::ae.size::h.size::g) j (λa k=>?_) v w b (.mk M.size 0 0 0) [] e.params.length (t.le (D.trans d).le) (c3.le (D.trans d).le) an aw V bS).aK (N.trans d) H λss b' M1 ar ai u u1=>⟨_,_,rfl,?_⟩
 .simp only[aW]at k;rcases k with s|s|s|s
  .omega
  .omega
  .have:=Y a (by simp[s]);omega
  .have:=Y a (by simp[s]);omega
 have y:∀{x:Value}{b o:Nat},af f b o=some x->af M1 b o=af j b o:=λi=>by rw[u.af (d.af (G i)),d.af (G i)]
 refine⟨y Q,y T,y U,y z,y A,aM (u.same _ (d.lt B)) _,aM (u.same _ (d.lt ah)) _,?_⟩;exact ve (b:=h.size::g) (v:=ak) (x:=ab) Y (λa k=>by have h1:=H a k;have h2:=u1.size;omega) u1 (ag.ext iv.mono (d.trans u)) (P.ext (d.trans u)) V (c1.ext (D.trans (d.trans u))) (c2.ext (D.trans (d.trans u))) ar ⟨V,V⟩ V λs' M' g' B' x'=>ay s' M' _ g' B' x' ⟨Io (q:=e) Z,ap,ao,ai.1,bJ ai.2 hw⟩
end
section
variable{m:E}{t:O}{b:Bk}{a:List Nat}
def QT(a:Int)(l:List cF):Nat:=l.countP λs=>s.op=a
def XV:∀l:List cF,QT 14 l+QT 15 l<=l.length
 |[]=>by simp[QT]
 |s::l=>by
  have:=XV l;simp only[QT,List.countP_cons,aY]at this⊢;by_cases h:s.op=14
  .simp[h];omega
  .by_cases a:s.op=15
   .simp[a];omega
   .simp[h,a];omega
def SY(a:Int)(l:List cF)(s:cF):QT a (l++[s])=QT a l+(if s.op=a then 1 else 0):=by
 simp[QT,List.countP_append,List.countP_cons]
def HI(g:eG m t b.aE):rm 274 [.agg #[O.v t,vi b.aT]] m λk=>0<=k/\k<=b.aE.length/\∀(i:Nat)(a:cF),b.aE[i]? =some a->(i:Int)<k->a.op=14\/a.op=15:=by
 apply Ah;simp -zeta only[aG,aF];intro c;have G:J m c:=J.push _ _;have z:∀q∈[m.size],q<c.size:=by simp[c]
 clear_value c;have A:=g.len;refine eu (n:=b.aE.length) (A▸g.fA) (λk M=>J c M/\∀(i:Nat)(a:cF),b.aE[i]? =some a->i<k->a.op=14\/a.op=15) ⟨J.aH _,λi a _ h=>V⟩ ?_;rintro k M L μ S ⟨o,l⟩ D
 have u:=G.trans o;have R:∀{j:E},J m j->∃f:Int,vi (k:Int)=vi f/\(0<=f/\f<=b.aE.length/\∀(i:Nat)(a:cF),b.aE[i]? =some a->(i:Int)<f->a.op=14\/a.op=15)/\J m j:=λI=>⟨k,rfl,⟨V,V,λi a d h=>l i a d V⟩,I⟩;refine⟨λh=>?_,λh=>R u⟩;simp only[aq]at h;let⟨a,d⟩:=cq b.aE k;let⟨p,C,P,T,s,g1,g2,v,w⟩:=g.aQ d;refine⟨V,V,_,u.af s,_,u.af g1,_,u.af g2,_,u.af v,_,u.af w,?_⟩;refine(zP (x:=a) p C M).aK o z λN U y H F=>⟨_,rfl,λB=>D V _ ⟨F,λi K e Q=>?_⟩,λ_=>R (u.trans H)⟩;by_cases r:i=k
 .subst r;rw[d]at e;simp at e;subst e;exact y.1 B
 .exact l i K e V
def xf(L:∀g∈a,g<m.size)(C:eG m t b.aE){d:Nat}(hm:d<=b.aE.length)(e:Int)(K:∀(i:Nat)(s:cF),b.aE[i]? =some s->i<d->0<s.args.length)(hb:b.aE.length<=10^12):
 iU 275 [.agg #[O.v t,vi b.aT],vi d,vi e] m a λl=>(∀y∈l,∃(i:Nat)(s:cF),i<d/\b.aE[i]? =some s/\y∈s.args)/\l.length<=QT e (b.aE.take d):=by
 apply Bj
 simp -zeta only[aG,aF]
 intro c w
 have z:J m c:=J.push _ _
 have N:∀g∈[m.size],g<c.size:=by simp[c]
 have Q:J c w:=J.push _ _
 have I:GI a c w (.mk c.size 0 0 0) []:=GI.nil a c
 clear_value w
 clear_value c
 have ac:=C.len
 refine dE (n:=d) V (λk s M=>J c M/\∃l,GI a c M s l/\(∀y∈l,∃(i:Nat)(s:cF),i<d/\b.aE[i]? =some s/\y∈s.args)/\l.length<=QT e (b.aE.take k)) ⟨Q,[],I,aJ,aJ⟩ ?_
 rintro k s M S μ hk ⟨p,l,q,v,P⟩ E
 have u:=z.trans p
 refine dit (λr=>?_) λr=>?_
 .let⟨x,o⟩:=cq b.aE k
  let⟨U,kk,B,ab,F,W,X,G,Y⟩:=C.aQ o
  have Z:=B.len
  have:=K k x o V
  let⟨y,D⟩:=cq x.args 0
  have j:QT e (b.aE.take (k+1))=QT e (b.aE.take k)+(if x.op=e then 1 else 0):=by rw[bF o,SY]
  have aa:QT e (b.aE.take k)<=(b.aE.take k).length:=List.countP_le_length
  have ad:=pZ k b.aE
  refine⟨V,V,_,u.af F,λh=>⟨V,V,_,u.af G,bo,V,y,(B.ext u).aQ D,?_⟩,λh=>E V _ _ ⟨p,l,q,v,?_⟩⟩
  .intro m3
   simp only[aO]at h
   rw[ao h]at j
   refine GI.kj q (p.fz []) (λg j=>z.lt (L g j)) V λaf T H A _ _=>⟨J.nP (p.aR _) A.ext N,E V _ _ ⟨A.ext,_,H,λR f=>?_,bS⟩⟩
   rcases List.mem_append.1 f with f|f
   .exact v R f
   .simp at f;subst f;exact⟨k,x,V,o,av D⟩
  .simp only[ap]at h
   rw[ae h]at j;omega
 .have f:k=d:=V
  subst f
  exact⟨s,l,rfl,q.cL (λ_ r=>r) z.size,⟨v,P⟩,u⟩
def QV:∀{l:List cF},(∀x∈l,dn x=0)->dc l=0
 |[],_=>rfl
 |x::l,h=>by rw[jW,h x aZ,QV λy a=>h y (ah _ a)]
def Ua:∀{l:List cF},(∀x∈l,2<=x.w)->2*l.length<=sw l
 |[],_=>aJ
 |x::l,h=>by
  have b:=h x aZ;have c:=Ua λy a=>h y (ah _ a);rw[lZ,aY];omega
def La(hS:∀c∈a,c<m.size){X:O}{q:List Int}{ds:List bq}{nr:List Nat}{g:Nat}(o:eG (bI a m) t b.aE)(hf:au m X q)(bm:q.length<=3)(al:WB ds nr True (g+q.length) b)(hw:b.w<=100000000000)(ha:g<=10^12){h:Int}(hx:0<=h/\h<(g:Int)):
 mO 258 [.agg #[O.v t,vi b.aT],vi h,O.v X,vi g] m a λb'=>WB ds nr True (g+q.length) b'/\b'.w<=b.w+8:=by
 apply DG
 simp -zeta only[aG,aF]
 intro p T
 let⟨B,C⟩:=dk (a:=p) (c:=T) rfl rfl
 have s1:p.size=m.size+1:=by simp[p]
 have s2:T.size=m.size+2:=by simp[T,s1]
 clear_value T
 let⟨am,aL⟩:=al.bC
 have ak:=o.le (bA _ _)
 have bj:=Bk.k8 b
 have bu:=fw b.aE
 have aO:=o.len
 have bl:=o.cap
 have bn:=hf.len
 refine(HI (ak.le B.le)).aK (J.aH T) C λmn m3 a6 x3 _=>⟨_,rfl,?_⟩
 obtain⟨kn,a4⟩:∃kn:Nat,mn=kn:=⟨mn.toNat,V⟩
 subst a4
 have aK:∀(d:Nat)(s:cF),b.aE[d]? =some s->d<kn->s.op=14\/s.op=15:=λd s w aE=>a6.2.2 d s w V
 have aj:∀(d:Nat)(s:cF),b.aE[d]? =some s->d<kn->0<s.args.length:=λd s w aE=>by
  have:=aK d s w aE;have:=(am d s w).dV.lj V;omega
 refine(xf (a:=[]) aJ (ak.le (B.trans x3).le) (d:=kn) V 14 aj V).aK x3 C λsd G m4 gd hd x4 v4=>⟨_,rfl,?_⟩
 refine(xf (a:=[]) aJ (ak.le (B.trans v4).le) (d:=kn) V 15 aj V).aK v4 C λsr Q m5 gr hr x5 v5=>⟨_,rfl,?_⟩
 have bk:=XV (b.aE.take kn)
 have bw:(b.aE.take kn).length=kn:=bS
 have aN:au m5 sr Q:=(gr.done aJ V).le (bA _ _)
 refine(dj aN h).aK v5 C λbi m6 bh x6 A=>⟨_,rfl,λ_=>⟨t,b,rfl,o.le (((B.trans A).aj V _ _).cR _),⟨al,V⟩,(B.trans A).aj V _ _⟩,λbp=>⟨λ_=>⟨t,b,rfl,o.le (((B.trans A).aj V _ _).cR _),⟨al,V⟩,(B.trans A).aj V _ _⟩,λa7=>?_⟩⟩
 have br:0<q.length:=by simp only[ap]at a7;omega
 have aH:∀s∈b.aE.take kn,∃d:Nat,d<kn/\b.aE[d]? =some s:=λs o=>by
  let⟨d,w⟩:=List.mem_iff_getElem?.1 o;have:=az w;rw[dz V]at w;exact⟨d,V,w⟩
 have aC:dc (b.aE.take kn)=0:=QV λs o=>by
  let⟨d,Z,L⟩:=aH s o;have:=aK d s L Z;exact ae λY:oE s.op=>by have:=Y.2;omega
 have bt:2*kn<=sw (b.aE.take kn):=by
  have:=Ua (l:=b.aE.take kn) λs o=>by
   let⟨d,Z,L⟩:=aH s o;have:=aj d s L Z;have:=cF.k8 s;omega
  omega
 have bv:sw b.aE=sw (b.aE.take kn)+sw (b.aE.drop kn):=by rw[<-dv,dx]
 have a1:dc b.aE=dc (b.aE.take kn)+dc (b.aE.drop kn):=by rw[<-cJ,dx]
 have Xs:∀y:Int,(∃(d:Nat)(s:cF),d<kn/\b.aE[d]? =some s/\y∈s.args)->0<=y/\y<((g+q.length:Nat):Int):=λy⟨d,s,Z,L,h3⟩=>by
  have h4:=(am d s L).dV.args y h3;have h5:=SZ (b.aE.take kn) d;rw[Lu,jv V]at h5;omega
 refine(rG (S:=[]) aJ ((aN.ext x6).le (yW _)) h V).aK A C λbd a_ m8 aB aI x8 v8=>⟨_,rfl,?_⟩
 have y2:=aB.bn
 have bV:=x8.size
 have a8:au (bI [bd.aC] m8) sd G:=((gd.done aJ V).le (bA _ _)).le (((x5.trans x6).le.trans (yW m6)).trans (x8.bI λc e=>Or.inr (by simp at e;omega)))
 refine vX (n:=q.length) V (λk sd sr M=>J m6 M/\∃G Q,au (bI [sr.aC] M) sd G/\GI [] m6 M sr Q/\(∀y∈G,0<=y/\y<((g+q.length:Nat):Int))/\G.length<=QT 14 (b.aE.take kn)/\(∀y∈Q,0<=y/\y<((g+q.length:Nat):Int))/\Q.length<=QT 15 (b.aE.take kn)+k) ⟨x8,G,a_,a8,aB,λy P=>Xs y (hd.1 y P),hd.2,λy P=>Xs y (hr.1 y (aI.1 y P)),PO aI.2 hr.2⟩ ?_
 rintro k H D u av μ hk ⟨I,ac,R,N,K,aa,aD,ab,bs⟩ an
 have U:=(B.trans A).trans I
 have y3:=K.bn
 have r:∀c∈[p.size,m.size],c<u.size:=λc e=>I.lt (A.lt (C c e))
 refine⟨λY=>?_,λY=>?_⟩
 .simp only[aq]at Y
  let⟨y,P⟩:=cq q k
  have ew:cQ ((g:Int)+(k:Int))=(g:Int)+k:=aS V V
  rw[ew]
  have ai:∀{M:E},J u M->af M X.aC (X.off+Int.toNat (k:Int)*1)=some (vi y):=λv=>(hf.ext (U.trans v)).aQ P
  have ax:∀{M:E},J u M->av H D (cQ ((k:Int)+1)) M/\μ H D (cQ ((k:Int)+1)) M<μ H D k u:=λv=>an V _ _ _ ⟨I.trans v,ac,R,N.le (v.cR _),K.ext v,aa,aD,ab,V⟩
  have NM:∀{M:E},J u M->jb (M.push (.cells (bE [.i ((g:Int)+k)]) aA)) aA [.i 0] 8 D (.mk M.size 0 1 1) λar W=>eF [p.size,m.size] (M.push (.cells (bE [.i ((g:Int)+k)]) aA)) W/\av H ar (cQ ((k:Int)+1)) W/\μ H ar (cQ ((k:Int)+1)) W<μ H D k u:=λ{M} v=>by
   refine GI.kj (K.ext v) ((I.trans v).fz []) aJ V λar W g' f' z' q'=>⟨J.nP ((I.trans v).aR _) f'.ext (λc e=>A.lt (C c e)),an V _ _ _ ⟨f'.ext,ac,_,(N.le (v.cR _)).le (oP λc e hn=>?_),g',aa,aD,λag z=>?_,bS⟩⟩
   .simp at hn;refine⟨?_,q' c e hn⟩;simp;rcases z'.2 with f|f<;>omega
   .rcases List.mem_append.1 z with z|z
    .exact ab ag z
    .simp at z;omega
  refine⟨V,V,y,ai (J.aH _),λ_=>?_,λ_=>⟨V,V,y,ai (J.aH _),λ_=>?_,λ_=>ax (J.aH _)⟩⟩
  .refine(dj (N.le (bA _ _)) _).aK (J.aH u) r λbb aR _ F _=>⟨_,rfl,λ_=>?_,λ_=>⟨V,V,y,ai F,λ_=>?_,λ_=>ax F⟩⟩
   .refine(rG (S:=[D.aC]) (by have:=F.size;simp;omega) (N.le (F.cR _)) _ V).aK F r λaT aQ aw aP ao aU ay=>⟨_,rfl,an V _ _ _ ⟨I.trans ay,aQ,R,aP.done (by have:=F.size;simp;omega) (oh ao.2),K.ext ay,λag z=>aa ag (ao.1 ag z),oh ao.2,ab,V⟩⟩
   .intro aw
    exact NM F
  .intro aw
   exact NM (J.aH _)
 .have a9:au u D R:=(K.done aJ V).le (bA _ _)
  have F:∀{M:E},u.size<=M.size->∀c∈p.size::a,c<M.size:=λz c e=>by
   rcases List.mem_cons.1 e with f|f
   .have:=r p.size aJ;omega
   .have:=hS c f;have:=U.size;omega
  refine(eN (c:=p.size::a) (F (ad _)) 14 (N.le (bA _ _)) V).aK (J.aH u) r λba bz bC aw aV ai _=>⟨_,rfl,?_⟩
  subst aV
  have bQ:=aw.bn
  have bf:=ai.size
  refine(iJ (c:=ba.aC::p.size::a) (λc e=>?_) 16 h).mono λbP bD⟨bg,bx,f,a0,a3,ao⟩=>⟨λc e=>ao.same c (ai.lt (r c e)),_,_,_,_,_,f,?_⟩
  .rcases List.mem_cons.1 e with f|f
   .omega
   .exact F bf c f
  intro bF
  have ar:=ai.trans ao
  refine GS.kj (x:=eP 16 h) (aw.ext fQ.mono ao) (ar.fz []) a0 a3 bS λbb bG ax P bW bL=>⟨J.nP (ar.aR _) P.ext r,?_⟩
  have bR:=ax.bn
  have bU:=ar.size
  have aT:=P.size
  refine(eN (c:=bb.aC::p.size::a) (λc e=>?_) 15 (a9.ext P.ext) V).aK P.ext r λbO bB bH aY aX be aR=>⟨_,rfl,?_⟩
  .rcases List.mem_cons.1 e with f|f
   .omega
   .exact F aT c f
  subst aX
  refine GS.all (ax.ext fQ.mono be) (aR.fz []) (aY.done fQ.mono (λc e=>?_) bo bS) bS λaQ aP ay v bX bM=>⟨J.nP aR v.ext r,V,V,V,?_⟩
  .rcases List.mem_cons.1 e with f|f
   .omega
   .exact F aT c f
  have bT:=ay.bn
  have z9:=U.size
  have a5:Le (bI a m) (bI (aQ.aC::p.size::a) aP):=(U.trans v.ext).bI λc e=>by
   simp only[aW]at e;rcases e with f|f|f
   .exact Or.inr V
   .exact Or.inr V
   .exact Or.inl f
  have ek:Int.toNat (kn:Int)=kn:=V
  have el:Int.toNat (t.len:Int)=t.len:=V
  rw[ek,el]
  have a2:eG (bI (aQ.aC::p.size::a) aP) (t.cut kn t.len 5) (b.aE.drop kn):=by
   have:=(o.le a5).J0 (i:=kn) (j:=t.len) V V;rwa[aO,cG (ad _),<-aO]at this
  refine GS.all ay v a2 bS λbc bJ aZ ag bY bN=>⟨J.nP v.ext ag.ext r,aM (by rw[ag.ext.same _ (r _ aJ),v.ext.same _ (r _ aJ)]) _,?_⟩
  intro bK
  have aU:=aZ.done fQ.mono (F (ad _)) bo bS
  have W:dc [eP 16 h]=0:=jH bo [h]
  have e2:sw [eP 16 h]=2:=nH 16 [h]
  have W1:WL ds nr True (g+q.length) (ac.map (eP 14)++[eP 16 h]++R.map (eP 15)++b.aE.drop kn):=by
   refine WL.append (WL.append ((qT bo aa).zg ?_) ?_) ?_
   .rw[jH bo];exact CQ bo ⟨hx.1,V⟩
   .rw[cJ,jH bo,W];exact qT bo ab
   .rw[cJ,cJ,jH bo,jH bo,W];have:=am.drop kn;rwa[aC]at this
  refine⟨bc,.mk (ac.map (eP 14)++[eP 16 h]++R.map (eP 15)++b.aE.drop kn) b.aT,rfl,eG.le (cp aJ λc e=>ah _ e) aU,⟨.of W1 ?_,?_⟩,(U.trans ag.ext).aj V _ _⟩
  .rw[cJ,cJ,cJ,jH bo,jH bo,W]
   rw[a1,aC]at aL
   simpa using aL
  .rw[Bk.pY,dv,dv,dv,nH,nH,e2];omega
end
def ZC(c:List bq)(d:List eQ)(b:Bk):Prop:=∀(S:List Nat)(m:E),(∀a∈S,a<m.size)->∀(f r t:O)(a:Nat),dY m f r c d->eG m t b.aE->WB c (pc d) True a b->a+4*b.w<=10^12->9*b.w<=100000000000->
 mO 232 [.agg #[O.v f,O.v r],.agg #[O.v t,vi b.aT],vi a] m S λe=>WB c (pc d) True a e/\e.w+8<=9*b.w
def Cf{z:List bq}{rs:List eQ}:∀B:Bk,ZC z rs B:=by
 refine Bk.ind ?_;intro aE X ih p ac hS aR a6 bW q I hs bj bx bz;have a1:=bj.bC;rw[Bk.pY]at*;simp only[Bk.jG,Bk.iZ]at*;apply vH;simp -zeta only[aG,aF];intro ag j t g m5 m6;let⟨x3,hl,s1,s2,s3⟩:=pJ (a:=ag) (b:=j) (c:=t) rfl rfl rfl;have s4:g.size=t.size+1:=by simp[g]
 have a8:J g m6:=(J.push g _).aj (ad _) _ _;have bp:J t m6:=(J.push t _).trans a8;have g0:GS (g.size::j.size::p) t m6 (.mk t.size 0 0 0) []:=(GS.new _ t).ext fQ.mono a8;have B0:cB m6 g.size cZ [.s (.mk t.size 0 0 0),.i X]:=cB.aj (m:=m5) (o:=0) (r:=[.s (.mk t.size 0 0 0),.i X]) (cB.push g _ _);have a_:∀d∈j.size::p,d<t.size:=bR hS x3.size (hl _ aJ);clear_value m6;clear_value t;have be:=hs.len;have bg:=Az aE;have bL:=fw aE;refine dE (n:=aE.length) (be▸hs.fA) (λk(v:Int) M=>v=((q+dc (aE.take k):Nat):Int)/\J t M/\∃s w,GS (g.size::j.size::p) t M s w/\cB M g.size cZ [.s s,.i X]/\w.length=k/\WL z (pc rs) True q w/\dc w=dc (aE.take k)/\sw w<=9*sw (aE.take k)) ⟨aJ,bp,_,[],g0,B0,rfl,WL.nil _ _ _ _,aJ,aJ⟩ ?_;rintro k v0 M aQ μ hk ⟨bi,xM,s,w,al,Z,bG,wl,aq,bh⟩ a5
 subst bi;have v:=x3.trans xM;have hy:=al.bn;have zM:=xM.size;have bt:=Z.lt;refine dit (λam=>?_) λam=>?_
 .let⟨c,P⟩:=cq aE k;let⟨pa,pk,ha,aH,e0,e1,e2,e3,e4⟩:=hs.aQ P;have bO:=Oe P;have bT:=cF.k8 c;have bB:=pK c.bH;have bQ:=pp P;have bN:=qb P;have N:=a1.1 k c P;have bD:=pL (aE.take k);have bK:=fw (aE.take k);have bM:=bg (k+1);refine⟨V,V,_,v.af e0,_,v.af e1,_,v.af e2,_,v.af e3,_,v.af e4,?_⟩;intro m7 l R;have x8:J M l:=(J.push M _).aj (ad _) _ _;have s8:l.size=M.size+1:=by simp[l,m7,aD]
  have x9:J l R:=J.push _ _;have s9:R.size=l.size+1:=by simp[R]
  have a9:GB (s.aC::g.size::j.size::p) l R (.mk l.size 0 0 0) []:=GB.new _ l;clear_value R;clear_value l;have aB:∀d∈s.aC::g.size::j.size::p,d<l.size:=λd h=>by
   simp only[aW]at h;rcases h with e|e|e|e
   .omega
   .omega
   .omega
   .have:=hS d e;omega
  have aK:=aH.len;have D:∀{f:E},l.size<=f.size->∀d∈[M.size,j.size,ag.size,ac.size],d<f.size:=λam d h=>by simp at h;omega
  have z9:R.size=l.size+1:=s9;refine(gP (e:=[l.size]) bS (I.bu.le (v.trans (x8.trans x9)).le) I.types c.bM).aK (J.aH R) (D x9.size) λsc lc bU aY e a7 _=>⟨_,rfl,?_⟩;subst e;have bH:=aY.len;refine dE (n:=c.bH.length) (aK▸aH.fA) (λu ks f=>J l f/\au (bI [ks.aC] f) sc (cb z c.bM)/\∃lk,GB (s.aC::g.size::j.size::p) l f ks lk/\lk.length=u/\(∀(Q:Nat)(B:Bk),lk[Q]? =some B->WB z (pc rs) True (q+dc (aE.take k)+AI z c.op c.bM Q) B)/\bw lk<=9*bw (c.bH.take u)) ⟨x9.trans a7,aY,[],a9.ext qO.mono a7,rfl,aJ,aJ⟩ ?_;rintro u ks A I2 μ2 hj ⟨aj,aZ,lk,gk,bF,aU,bd⟩ bm;have F:J ac A:=v.trans (x8.trans aj);have yk:=gk.bn;have T:=aj.size;refine dit (λh2=>?_) λh2=>?_
  .let⟨B,U⟩:=cq c.bH u;let⟨tb,a0,f0,f1⟩:=aH.aQ U;have bC:=uo U;have bb:=tR U;have an:=N.bH u B U;have h3:=OP I.types c.op c.bM u;have aA:∀{f:E},J A f->∀d∈ks.aC::s.aC::g.size::j.size::p,d<f.size:=λxx d h=>by
    have:=xx.size;rcases List.mem_cons.1 h with e|e
    .omega
    .have:=aB d e;omega
   have ak:∀{f:E}{Y:O}{C:Bk},J A f->eG (bI (ks.aC::s.aC::g.size::j.size::p) f) Y C.aE->WB z (pc rs) True (q+dc (aE.take k)+AI z c.op c.bM u) C->C.w<=9*B.w->
    jb (f.push (.cells (bE [.s Y,.i C.aT]) cZ)) cZ [.s .nil,.i 0] 32 ks (.mk f.size 0 1 1) λW M3=>eF [M.size,j.size,ag.size,ac.size] (f.push (.cells (bE [.s Y,.i C.aT]) cZ)) M3/\I2 W (cQ ((u:Int)+1)) M3/\μ2 W (cQ ((u:Int)+1)) M3<μ2 ks u A:=λ{f Y C} x11 ab hwb' hw'=>by
    refine GB.kj (c:=C) (gk.ext qO.mono x11) ((aj.trans x11).fz []) ab V λW M3 g2 f2 br q2=>⟨J.nP ((aj.trans x11).aR _) f2.ext (D (ad _)),bm V _ _ ⟨f2.ext,(aZ.le (x11.cR _)).le (oP λd h aV=>?_),_,g2,bS,λQ b2 H=>?_,?_⟩⟩
    .simp at aV
     refine⟨?_,q2 d h aV⟩
     simp
     rcases br.2 with e|e<;>omega
    .rcases aX Q lk.length with y|y
     .rw[ay y]at H;exact aU Q b2 H
     .rw[aI y]at H
      have:Q -lk.length=0:=by have:=az H;simp at this;omega
      rw[this]at H;simp at H;subst H
      have:Q=u:=V
      subst this;exact hwb'
    .rw[nY,tQ,yH,bb]
     omega
   refine⟨λG=>?_,λG=>?_⟩
   .simp only[aO]at G;obtain⟨bv,_⟩:=N.dV.all G;have bs:=N.dV.lj (Or.inr (Or.inr G));let⟨aN,a2⟩:=cq c.args 0;let⟨y0,y1⟩:=N.dV.args aN (av a2);have bu:=ha.len;let⟨cn,aT⟩:=cq (cb z c.bM) u;refine⟨V,V,cn,(aZ.le (bA _ _)).aQ aT,?_⟩;refine(dF (e:=[]) aJ (I.bu.le (F.le.trans (yW _))) I.types cn).aK (J.aH A) (D T) λsf lf a3 ar e aw _=>⟨_,rfl,?_⟩;subst e;have ar:=ar.le (bA _ _);have bJ:=ar.len;have aa:=F.trans aw;rw[JP G aT]at an h3 ak;have ax:af a3 pa.aC (pa.off+Int.toNat (0:Int)*1)=some (vi aN):=(ha.ext aa).aQ a2;refine⟨V,V,_,aa.af f0,_,aa.af f1,bo,V,aN,ax,?_⟩;have ew:cQ (((q+dc (aE.take k):Nat):Int)+(sf.len:Int))=((q+dc (aE.take k)+(cg z cn).length:Nat):Int):=by rw[aS V V];omega
    rw[ew];refine(ih c (av P) B (av U) (ks.aC::s.aC::g.size::j.size::p) a3 (aA aw) aR a6 tb _ (I.le aa.le) (a0.le aa.le) an V V).aK aw (D T) λY C bk ab aC ai aL=>⟨_,_,rfl,?_⟩;refine⟨by rw[ai.af ax,ax],aM (ai.same _ (aw.lt (D T _ aJ))) _,?_⟩;refine(La (a:=ks.aC::s.aC::g.size::j.size::p) (aA aL) ab (ar.ext ai) V aC.1 V V ⟨y0,y1⟩).aK aL (D T) λbV b2 a4 bf ba y bn=>⟨_,_,rfl,?_⟩;intro bl;exact ak bn bf ba.1 V
   .simp only[ap]at G;rw[JQ G]at an ak;refine⟨V,V,_,F.af f0,_,F.af f1,?_⟩;refine(ih c (av P) B (av U) (ks.aC::s.aC::g.size::j.size::p) A (aA (J.aH _)) aR a6 tb _ (I.le F.le) (a0.le F.le) an V V).aK (J.aH A) (D T) λY C bk ab aC ai aL=>⟨_,_,rfl,?_⟩;intro a4;exact ak ai ab aC.1 V
  .have an:lk.length=c.bH.length:=V;rw[cG V]at bd;have U:J M A:=x8.trans aj;have H:=Z.ext U;have G2:=al.ext fQ.mono U;refine⟨s,H.cK 0,?_⟩;refine(bP (s.aC::g.size::j.size::p) (ha.ext F) V).aK (J.aH A) (D T) λs' l' a4 ga e y _=>⟨_,rfl,aM (y.same _ V) _,aM (y.same _ V) _,aM (y.same _ V) _,aM (y.same _ H.lt) _,?_⟩;subst e;intro bl;refine Gr.box (g:=[.i 0,.i 0,.i 0,.s .nil,.s .nil]) (K:=λf=>aP cv 109 [vi c.op] f λv G=>eF [M.size,j.size,ag.size,ac.size] f G/\∃C:Bool,v=vb C/\
    (C=true->aQ (cQ (((q+dc (aE.take k):Nat):Int)+1)) (cQ ((k:Int)+1)) G/\μ (cQ (((q+dc (aE.take k):Nat):Int)+1)) (cQ ((k:Int)+1)) G<μ ((q+dc (aE.take k):Nat):Int) (k:Int) M)/\
    (C=false->aQ ((q+dc (aE.take k):Nat):Int) (cQ ((k:Int)+1)) G/\μ ((q+dc (aE.take k):Nat):Int) (cQ ((k:Int)+1)) G<μ ((q+dc (aE.take k):Nat):Int) (k:Int) M)) (L:=[M.size,j.size,ag.size,ac.size]) (j:=0) (y:=72) (i:=[.s s,.i X]) (w:=⟨c.op,c.bM,c.bY,c.args,lk⟩) fQ.mono bo (G2.ext fQ.mono y) (((xM.trans U).trans y).fz []) ⟨s',ks,rfl,(ga.done (λd h=>oh (aB d h)) V),mU.le (y.cR _) (gk.done qO.mono aB bo (by show lk.length<=_;omega))⟩ V (H.ext y) aJ bo ⟨V,aJ⟩ (λd h=>by have C:=y.size;simp at h;omega) λW m' g' Y f' z' q'=>?_
   have W':WL z (pc rs) True q (w++[⟨c.op,c.bM,c.bY,c.args,lk⟩]):=wl.zg (N.Pb id N.dV.bY N.dV.Zi an aU|>λam=>by rw[aq];exact am);have ar:=y.size;refine(jz c.op m').mono λv G⟨bb,e,ak,C⟩=>⟨λd h=>C.same d (oh (D T d h)),bb,e,?_⟩;have ab:=sB c bb ak;have aa:dc (w++[⟨c.op,c.bM,c.bY,c.args,lk⟩])=dc (aE.take (k+1)):=by
    rw[cJ,jW,sA,aq];have e:dn (⟨c.op,c.bM,c.bY,c.args,lk⟩:cF)=dn c:=rfl;omega
   have ai:sw (w++[⟨c.op,c.bM,c.bY,c.args,lk⟩])<=9*sw (aE.take (k+1)):=by
    rw[dv,lZ,uE];have h5:(⟨c.op,c.bM,c.bY,c.args,lk⟩:cF).w=1+c.args.length+bw lk:=cF.k8 _;omega
   refine⟨λht=>?_,λhf=>?_⟩
   .rw[ao ht]at ab;rw[aS (b:=((q+dc (aE.take k):Nat):Int)+1) V V];exact a5 V _ _ ⟨V,f'.ext.trans C,W,_,g'.ext fQ.mono C,Y.ext C,bS,W',aa,ai⟩
   .rw[ae (by simp[hf])]at ab;exact a5 V _ _ ⟨V,f'.ext.trans C,W,_,g'.ext fQ.mono C,Y.ext C,bS,W',aa,ai⟩
 .have aK:k=aE.length:=V;subst aK;rw[gY]at aq bh;refine⟨s,Z.cK 0,X,Z.cK 1,?_⟩;intro m7;have c:Le (bI (g.size::j.size::p) M) (bI p m7):=cp aJ λd h=>ah _ (ah _ h);have f:=al.ne Z bo;refine⟨s,.mk w X,rfl,eG.le c (al.mZ fQ.mono (λh=>?_) bo (by show w.length<=_;omega)),⟨.of wl (by rw[aq];exact a1.2),by rw[Bk.pY];omega⟩,v.aj V _ _⟩;rcases List.mem_cons.1 h with e|e
  .exact f e
  .have:=a_ _ e;omega
def DN{f:List Nat}{g:E}(D:∀c∈f,c<g.size){k r:O}{i:List bq}{p:List eQ}(j:dY g k r i p){W:Nat}(hW:9*W<=100000000000)(hk:uK i p True W):qP 175 [.agg #[O.v k,O.v r]] g f i λv=>uK i v True (9*W):=by
 apply wN;simp -zeta only[aG,aF];intro d a2;let⟨z,u⟩:=dk (a:=d) (c:=a2) rfl rfl;have s1:d.size=g.size+1:=by simp[d]
 clear_value a2;have am:=j.iB.len;have az:=j.nv;refine(fD (b:=d.size::f) (bR D z.size (u _ aJ)) (j.le z.le).bu j.types).mono λ_ N⟨ae,e,ai,A⟩=>?_;subst e;refine⟨A.de u,_,rfl,?_⟩;intro P ap ab;have u2:=z.trans A;let⟨x5,B0,g0,s3,s5⟩:=kC (b:=P.size::d.size::f) iv.mono (d:=N) (a:=P) (c:=ap) (h:=ab) rfl rfl rfl;clear_value ab;have H:∀c∈[d.size,g.size],c<N.size:=λc a=>A.lt (u c a);have F:∀c∈d.size::f,c<N.size:=λc a=>A.lt (bR D z.size (u _ aJ) c a);refine ka (R:=λb h M=>∃k r v,Value.agg #[O.v b,O.v h]=.agg #[O.v k,O.v r]/\dY (bI f M) k r i v/\uK i v True (9*W)/\J g M) (t:=p.length) (f:=g) (b:=f) iv.mono bo bo D ⟨V,H _ aJ⟩ u2 s3 ai am V x5 B0 g0 (λK b=>(pc p)[K]? =some b.params.length/\b.params.length<=3/\b.dg.length<=3/\WB i (pc p) True b.params.length b.body/\b.body.w<=9*W) (λh x L y Y t o s w=>⟨h,x,L,rfl,⟨Y,t,j.types,V⟩,GM hk.gR o s,w⟩) λK M st L au μ aj ax T X B aq=>?_
 let⟨b,I⟩:=cq p K aj;let⟨al,ak,ao,hw⟩:=hk.df b (av I);have w:=u2.trans T;let⟨ar,aA,s,U,c2,c3,e0,e1,e2,e3,e4⟩:=j.iB.aQ I;have G:∀{ac:Value}{s o:Nat},af g s o=some ac->af M s o=some ac:=λah=>w.af ah;refine⟨V,V,_,G e0,_,G e1,_,G e2,_,G e3,_,G e4,?_⟩;intro m7 h;have hy:=X.bn;have aw:=B.lt;have zM:=T.size;have Q:J M h:=(J.push M _).aj (ad _) _ _;have s8:h.size=M.size+1:=by simp[h,m7,aD]
 clear_value h;have aa:∀c∈[M.size,d.size,g.size],c<h.size:=λc a=>by
  rcases List.mem_cons.1 a with e|e
  .omega
  .have:=H c e;omega
 have w8:=w.trans Q;have ay:=U.len;have ag:(ar.len:Int)=(b.params.length:Nat):=V;refine⟨st,(B.ext Q).cK 1,?_⟩;rw[ag];refine(Cf b.body (st.aC::P.size::d.size::f) h (λc a=>?_) k r s b.params.length (j.le w8.le) (c3.le w8.le) ao V V).aK (J.aH h) aa λss b' M1 an Z y _=>⟨_,_,rfl,?_⟩
 .simp only[aW]at a;rcases a with e|e|e|e
  .omega
  .omega
  .have:=F c (by simp[e]);omega
  .have:=F c (by simp[e]);omega
 have C:∀o,af M1 M.size o=af h M.size o:=λo=>aM (y.same _ V) o;refine⟨C 0,C 1,C 2,C 3,C 4,aM (y.same _ V) _,?_⟩;have x:=Q.trans y;have z1:=y.size;exact ve (b:=d.size::f) (v:=ae) (x:=L) F (λc a=>by have Y:=aa c a;have t:=H c;simp only[aW]at a t;rcases a with e|e|e|e<;>first|omega|(have:=t (by simp[e]);omega)|simp at e) (T.trans x) (X.ext iv.mono x) (B.ext x) V (U.ext (w.trans x)) (c2.ext (w.trans x)) an ⟨V,V⟩ V λs' Y g' t x'=>aq s' Y _ g' t x' ⟨Io (q:=b) I,al,ak,Z.1,by have:=Z.2;show b'.w<=_;omega⟩
end Go.Proofs.YtdalfjkmdekijaaGreat
