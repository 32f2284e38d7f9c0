/- Part of a proof. -/
import Derived.Carry
import Derived.ChangeSame
import Derived.ChangeSlices
import Derived.Deep.Slices
import Derived.OpenShut
import Derived.RowKit
import Derived.WideShapes
import Derived.Test.YtdalfjkmdekijaaGreatUN00
import Derived.Test.YtdalfjkmdekijaaGreatUN03
import Derived.Test.YtdalfjkmdekijaaGreatUN04
set_option linter.all false
set_option maxHeartbeats 8000000
set_option maxRecDepth 100000
namespace Go.Proofs.YtdalfjkmdekijaaGreat
open Go.Vc
section
variable{r:Int}{k:Nat}{l b:List Int}
open Classical in
noncomputable def Rh (bt:List Instr) (B k:Nat):List Int:=me (λr=>decide (Cn bt r k)) B
def Vn(x:Instr):List Int:=if x.op=14\/x.op=15 then[]else Mp [] x.args
structure Lz(bt:List Instr)(B:Nat):Prop where
 args:∀(k:Nat)(x:Instr),bt[k]? =some x->∀a∈x.args,0<=a/\a<(B:Int)
 Xr:∀(k:Nat)(x:Instr),bt[k]? =some x->∀n∈mr x k,(k:Int)<n/\n<bt.length
 dst:∀(k:Nat)(x:Instr),bt[k]? =some x->0<=x.dst/\x.dst<(B:Int)
 len:∀(k:Nat)(x:Instr),bt[k]? =some x->x.args.length<=100/\x.di.length<=100
 eC:∀(k:Nat)(x:Instr),bt[k]? =some x->x.op≠7/\x.op≠8
 fA:B<=1000000/\bt.length<=1000000
section
variable{bt:List Instr}{B:Nat}
def TH(C:Lz bt B)(h:Cn bt r k):0<=r/\r<(B:Int):=by
 induction h with
 |use a b _=>exact C.args _ _ a _ b
 |Xr _ _ _ _ a=>exact a
def TG(C:Lz bt B):r∈Rh bt B k<->Cn bt r k:=by
 unfold Rh;rw[qD];constructor
 .rintro⟨j,_,rfl,h⟩;simpa using h
 .intro h;have:=TH C h;refine⟨r.toNat,V,V,?_⟩;rw[show((r.toNat:Nat):Int)=r by omega];simpa using h
def TF(k:Nat):(Rh bt B k).length<=B:=ms B
def Yq(C:Lz bt B)(a:l.Pairwise (·<·))(h:∀r,r∈l<->Cn bt r k):l=Rh bt B k:=Nz a (y8 B) λr=>by rw[h,<-TG C]
noncomputable def Vm (bt:List Instr) (B:Nat) (b:List Int):List Int:=b.foldl (λa n=>Mp a (Rh bt B n.toNat)) []
def Ue{n:Int}(h:b[k]? =some n):Vm bt B (b.take (k+1))=Mp (Vm bt B (b.take k)) (Rh bt B n.toNat):=by
 unfold Vm;rw[bF h,List.foldl_append];rfl
def Ok(C:Lz bt B):∀(b a:List Int)(r:Int),r∈b.foldl (λa n=>Mp a (Rh bt B n.toNat)) a<->r∈a\/∃n∈b,Cn bt r n.toNat
 |[],a,r=>aJ
 |n::b,a,r=>by
  rw[List.foldl_cons,Ok C b,AY,TG C];constructor
  .rintro((h|h)|⟨m,d,c⟩)
   .exact Or.inl h
   .exact Or.inr ⟨n,aZ,h⟩
   .exact Or.inr ⟨m,ah _ d,c⟩
  .rintro(h|⟨m,d,c⟩)
   .exact Or.inl (Or.inl h)
   .rcases List.mem_cons.1 d with e|e
    .subst e;exact Or.inl (Or.inr c)
    .exact Or.inr ⟨m,e,c⟩
def Oj:∀(b a:List Int),a.Pairwise (·<·)->(b.foldl (λa n=>Mp a (Rh bt B n.toNat)) a).Pairwise (·<·)
 |[],_,h=>h
 |n::b,a,h=>Oj b _ (Om h)
def UJ:∀{l:List Int}{B:Nat},l.Pairwise (·<·)->(∀r∈l,0<=r/\r<(B:Int))->l.length<=B:=λ{l B} ha hr=>by
 have:l=me (λk=>decide ((k:Int)∈l)) B:=Vh ha hr λk _=>aJ;rw[this];exact ms B
def Ru(C:Lz bt B)(b:List Int):(Vm bt B b).length<=B:=UJ (Oj b [] List.Pairwise.nil) λr a=>by
 obtain⟨n,_,h⟩:=((Ok C b [] r).1 a).resolve_left aJ;exact TH C h
def Vp{x:Instr}:r∈Vn x<->r∈x.args/\¬(x.op=14\/x.op=15):=by
 unfold Vn;split
 .simp[*]
 .rw[AY];simp[*]
def Vo(x:Instr):(Vn x).length<=x.args.length:=by
 unfold Vn;split
 .simp
 .have:=wV x.args [];simpa using this
open Classical in
def WT(C:Lz bt B){x:Instr}(g:bt[k]? =some x)(e:∀n,n∈b<->n∈mr x k){W:List Int}(f:W=(Vm bt B b).filter (λr=>!decide (jE x.op/\r=x.dst))):Mp W (Vn x)=Rh bt B k:=by
 subst f;refine Yq C (Om ((Oj b [] List.Pairwise.nil).sublist List.filter_sublist)) λr=>?_;rw[AY,Vp,List.mem_filter,Qq g,Vm,Ok C];simp only[iW,false_or,gC,bD];constructor
 .rintro(⟨⟨n,a,c⟩,d⟩|h)
  .exact Or.inr ⟨⟨n,(e n).1 a,c⟩,λh=>d ⟨h.1,h.2.symm⟩⟩
  .exact Or.inl h
 .rintro(h|⟨⟨n,a,c⟩,d⟩)
  .exact Or.inr h
  .exact Or.inl ⟨⟨n,(e n).2 a,c⟩,λh=>d ⟨h.1,h.2.symm⟩⟩
end
def JA{m M:E}(h:J m M){S:List Nat}(c:∀b∈S,m.size<=b):Le m (bI S M):=λb o v a=>eA.2 ⟨λd=>by have:=c b d;have:=lH a;omega,h.af a⟩
def iU.YA{f:Nat}{a:List Value}{m:E}(h:iU f a m [] (l=·))(b:l.length<=10^12):qR f a m l:=h.mono λ_ d⟨s,c,e,g,q,x⟩=>by
 subst q;exact⟨s,e,(GI.done g aJ b).le (bA _ _),x⟩
section
variable{m:E}{d:List Nat}{x:Instr}{a j c:O}{bt:List Instr}{B:Nat}
def Mm(A:∀c∈d,c<m.size)(u:au (bI d m) a x.args)(G:x.args.length<=100):iU 97 [.agg #[vi x.op,vi x.dst,vi x.bM,vi x.bY,O.v a,O.v j]] m d (Vn x=·):=by
 apply FK;simp -zeta only[aG,aF];intro b;have e:J m b:=J.push m _;have z1:b.size=m.size+1:=by simp[b]
 clear_value b;have t:∀c∈d,c<b.size:=λc f=>by have:=A c f;omega
 intro p;have g2:GI d b p (.mk b.size 0 0 0) []:=GI.nil d b;have q:J b p:=J.push b _;clear_value p;have E:=u.len;refine⟨λi=>⟨λl=>?_,λl=>?_⟩,λi=>?_⟩
 .refine dE (n:=x.args.length) V (λk s M=>J b M/\GI d b M s (Mp [] (x.args.take k))) ⟨q,g2⟩ ?_;rintro k s K I μ F ⟨g,o⟩ C
  have B:=wV (x.args.take k) [];simp only[eJ,cE]at B;have X:=e.trans g;refine dit (λh=>?_) λh=>?_
  .let⟨y,v⟩:=cq x.args k;refine⟨V,V,y,u.Ka X v,?_⟩;refine(nj (λc f=>aL (t c f) g.size) (o.done t V) y V).then λr H L z D w=>⟨w.de λc f=>by have:=g.size;simp at f;omega,_,rfl,C V _ _ ⟨g.trans w,?_⟩⟩;rw[Lp v,D];exact z.cL (λ_ h=>h) g.size
  .rw[dD V]at o;refine⟨s,_,rfl,o.cL (λ_ h=>h) e.size,?_,X⟩;unfold Vn;rw[ae];simp at i l;omega
 .refine⟨_,_,rfl,g2.cL (λ_ h=>h) e.size,?_,e.trans q⟩;unfold Vn;rw[ao];simp at l;omega
 .refine⟨_,_,rfl,g2.cL (λ_ h=>h) e.size,?_,e.trans q⟩;unfold Vn;rw[ao];simp at i;omega
def Pa(m:E)(n:Int):au (m.push (.cells (bE [.i n]) aA)) (.mk m.size 0 1 1) [n]:=au.gG (gS.new (J.aH m) aA 1 [.i n] 1 rfl) aJ
def K6(q:dZ m c bt)(B:bt[k]? =some x)(ab:bt.length<=1000000)(hj:x.di.length<=100):aP cv 94 [O.v c,vi k] m λY F=>∃s l,Y=O.v s/\au F s l/\(∀i,i∈l<->i∈mr x k)/\J m F:=by
 apply FA;simp -zeta only[aG,aF];let⟨a,j,ha,A,N,g1,g2,P,R,T⟩:=q.aQ B;have ad:=az B;have aa:=q.len;have L:Int.toNat (k:Int)=k:=V;rw[L];refine⟨V,V,_,N,_,g1,_,g2,_,P,_,R,_,T,?_⟩;intro U b;obtain⟨o,-,z2⟩:=iL (M:=m) (d:=U) (c:=b) rfl rfl rfl;clear_value b;have K:cQ ((k:Int)+1)=(k:Int)+1:=aS V V;rw[K];unfold mr;refine⟨λg=>?_,λg=>⟨λe=>?_,λe=>⟨λh=>?_,λh=>⟨λp=>?_,λp=>?_⟩⟩⟩⟩
 .simp at g;intro d;refine⟨_,[],rfl,au.gG (gS.new (J.aH b) aA 1 [] 0 rfl) aJ,λi=>?_,o.trans (J.push _ _)⟩;rw[ae V,ae V,ae V,ao g]
 .simp at g e;intro d;refine⟨_,[x.bM],rfl,Pa b _,λi=>?_,o.trans (J.push _ _)⟩;rw[ao e]
 .simp at g e h;intro d;have w:au d (.mk b.size 0 1 1) [(k:Int)+1]:=Pa b _;have u:J b d:=J.push _ _;clear_value d;refine(nj (S:=[]) aJ (w.le (JA (J.aH _) aJ)) x.bM aJ).then λr E W v t f=>⟨f.de λI y=>by have:=u.size;simp at y;omega,_,rfl,r,E,rfl,(v.done aJ (by subst t;have:=Jz [(k:Int)+1] x.bM;simp at this;omega)).le (bA _ _),λi=>?_,(o.trans u).trans f⟩;rw[ae e,ao h,<-t,EL];simp;omega
 .simp at g e h p;intro d;have Q:GI [] b d (.mk b.size 0 0 0) []:=GI.nil [] b;have u:J b d:=J.push _ _;clear_value d;have ac:=A.len;refine dE (n:=x.di.length) V (λk s w=>J b w/\GI [] b w s (Mp [] (x.di.take k))) ⟨u,Q⟩ ?_;rintro D s W Z μ hi ⟨f,z⟩ X
  have q:=wV (x.di.take D) [];simp only[eJ,cE]at q;refine dit (λw=>?_) λw=>?_
  .let⟨H,C⟩:=cq x.di D;refine⟨V,V,H,by simpa using(A.ext (o.trans f)).aQ C,?_⟩;refine(nj (S:=[]) aJ (z.done aJ V) H V).then λr E m5 v t G=>⟨G.de λI y=>by have:=f.size;simp at y;omega,_,rfl,X V _ _ ⟨f.trans G,?_⟩⟩;rw[Lp C,t];exact v.cL (λ_ w=>w) f.size
  .rw[dD V]at z;refine⟨s,_,rfl,(z.done aJ (by have:=wV x.di [];simp at this;omega)).le (bA _ _),λi=>?_,o.trans f⟩;rw[ae e,ae h,ao p,AY];simp
 .simp at g e h p;intro d;refine⟨_,[(k:Int)+1],rfl,Pa b _,λi=>?_,o.trans (J.push _ _)⟩;rw[ae e,ae h,ae p,ae V]
end
end
section
section
variable{a:E}{c:O}{bt:List Instr}{b:Nat}
def Ol(C:Lz bt b)(a:List Int)(k:Nat):(Vm bt b (a.take k)).length<=b:=Ru C _
open Classical in
def Hq(hc:dZ a c bt)(C:Lz bt b){w:Nat}(aw:w<=bt.length):aP cv 52 [O.v c,vi w] a λv m'=>∃d h,v=O.v (.mk d 0 bt.length bt.length)/\cB m' d qy h/\h.length=bt.length/\
 (∀k,w<=k->k<bt.length->∃s,h[k]? =some (.s s)/\au m' s (Rh bt b k))/\J a m':=by
 apply BO
 have aB:=hc.len
 have fA:=C.fA
 have en:Int.toNat (c.len:Int)=bt.length:=V
 rw[en]
 refine⟨V,V,V,V,?_⟩
 intro F
 have B1:cB F a.size qy (mf [.s .nil] bt.length):=cB.push a _ _
 have x1:J a F:=J.push a _
 have z1:F.size=a.size+1:=by simp[F]
 clear_value F
 have e0:cQ ((c.len:Int) -1)=(bt.length:Int) -1:=by rw[aS V V];omega
 rw[e0]
 refine wW (γ:=Nat) (λi D M=>D=(i:Int) -1/\w<=i/\i<=bt.length/\J a M/\a.size<M.size/\∃h,cB M a.size qy h/\h.length=bt.length/\∀k,i<=k->k<bt.length->∃s,h[k]? =some (.s s)/\au (bI [a.size] M) s (Rh bt b k)) id bt.length
  ⟨rfl,aw,ad _,x1,V,_,B1,by simp[mE],λk h1 h2=>V⟩ ?_
 rintro i D j am μ ⟨rfl,aC,aE,G,z2,h,Q,ai,sK⟩ al
 refine dit (λh1=>?_) λh1=>?_
 .obtain⟨k,rfl⟩:∃k,i=k+1:=⟨i -1,V⟩
  have ek:(((k+1:Nat):Int) -1)=(k:Int):=V
  rw[ek]at al⊢
  have ap:Int.toNat (k:Int)=k:=V
  have aq:cQ ((k:Int) -1)=(k:Int) -1:=aS V V
  rw[ap,aq]
  let⟨x,A⟩:=cq bt k
  have ak:=C.len k x A
  intro m3
  have g3:GI [a.size] j m3 (.mk j.size 0 0 0) []:=GI.nil _ j
  have x3:J j m3:=J.push _ _
  clear_value m3
  have X3:=G.trans x3
  refine(K6 (dZ.ext X3 hc) A fA.2 ak.2).mono λ_ m4⟨az,u,an,ht,hn,x4⟩=>⟨az,an,?_⟩
  have X4:=x3.trans x4
  have aG:=ht.len
  have aH:=ht.fA
  have B4:=Q.ext X4
  refine dE (n:=u.length) V (λK s M=>J m4 M/\GI [a.size] j M s (Vm bt b (u.take K))) ⟨J.aH _,g3.ext x4⟩ ?_
  rintro K ib m5 aA ν hj ⟨P,I⟩ ay
  have t:=X4.trans P
  have ul:=Ol C u K
  have z:∀d∈[a.size],d<j.size:=bS
  have ag:∀d∈[a.size],d<m5.size:=λd g=>aL (z d g) t.size
  have f:∀{o v},af a c.aC o=some v->af m5 c.aC o=some v:=λy=>(G.trans t).af y
  refine dit (λh2=>?_) λh2=>?_
  .let⟨l,p⟩:=cq u K
   have U:=C.Xr k x A l ((hn l).1 (av p))
   obtain⟨s,q,ab⟩:=sK l.toNat V V
   have H:=B4.ext P
   have T:Int.toNat (l:Int)=l.toNat:=rfl
   refine⟨V,V,l,by simpa using(ht.ext P).aQ p,V,by simp only[O.dU];omega,s,?_,?_⟩
   .simp -zeta only[O.fO,O.jg,bG,cT]
    rw[H.cK,q];rfl
   have ll:=TF (bt:=bt) (B:=b) l.toNat
   refine(wP ag (I.done z V) (ab.le (t.cR _)) V).then λL W m6 R N e=>⟨_,rfl,ay V _ _ ⟨P.trans e,?_⟩⟩
   rw[Ue p,N];exact R.cL (λ_ y=>y) t.size
  .rw[dD V]at I
   let⟨T,jj,ha,aF,U,Y,c2,c3,c4,c5⟩:=hc.aQ A
   have ul:=Ru C u
   have hO:∀(M:E)(L:O)(W:List Int),J m5 M->GI [a.size] j M L W->W.length<=b->W=(Vm bt b u).filter (λac=>!decide (jE x.op/\ac=x.dst))->
    aP cv 97 [.agg #[vi x.op,vi x.dst,vi x.bM,vi x.bY,O.v T,O.v jj]] M λv m8=>∃N:O,v=O.v N/\aP cv 95 [O.v L,O.v N] m8 λv p=>∃l:O,v=O.v l/\
     0<=(k:Int)/\(k:Int)<((O.mk a.size 0 bt.length bt.length).len:Int)/\fq p ((O.mk a.size 0 bt.length bt.length).aC) ((O.mk a.size 0 bt.length bt.length).off+k*1) 1/\(am ((k:Int) -1) (aj p ((O.mk a.size 0 bt.length bt.length).aC) ((O.mk a.size 0 bt.length bt.length).off+k*1) [.s l])/\μ ((k:Int) -1) (aj p ((O.mk a.size 0 bt.length bt.length).aC) ((O.mk a.size 0 bt.length bt.length).off+k*1) [.s l])<μ (k:Int) j):=λM L W xM gM wl hW=>by
    have R:=t.trans xM
    have aa:∀d∈[a.size],d<M.size:=λd g=>aL (z d g) R.size
    refine(Mm (d:=[a.size]) aa (ha.le (JA (G.trans R) aJ)) ak.1).then λN aK m8 g8 e8 x8=>⟨N,rfl,?_⟩
    subst e8
    have aN:=Vo x
    have ah:∀d∈[a.size],d<m8.size:=λd g=>aL (aa d g) x8.size
    refine(wP ah ((gM.ext x8).done z V) (g8.done aa V) V).then λl aM p g9 e9 x9=>⟨l,rfl,?_⟩
    rw[WT C A hn hW]at e9
    subst e9
    have H:=(R.trans x8).trans x9
    have B9:=Q.ext H
    simp -zeta only[O.dU,O.fO,O.jg,bG,cT]
    have ll:=TF (bt:=bt) (B:=b) k
    have i9:=g9.done ah V
    have f9:Le (bI [a.size] p) (bI [a.size] (aj p a.size k [.s l])):=(Fz.cR (X:=[a.size]) ⟨by rw[aD];exact ad _,λd _ g=>bh _ _ _ _ (by simpa using g)⟩ aJ)
    refine⟨V,V,B9.fq V,al k _ _ ⟨rfl,V,V,(G.trans H).aj (ad _) _ _,by rw[aD];have:=H.size;omega,_,cB.aj (m:=p) (o:=k) (r:=[.s l]) B9,by simp[ln,ai],λD h3 Z=>?_⟩ (Nat.lt_succ_self k)⟩
    by_cases ei:D=k
    .subst ei
     refine⟨l,?_,i9.le f9⟩
     rw[kU,ao ⟨ad _,aJ,V⟩];simp
    .obtain⟨s,q,ab⟩:=sK D V Z
     refine⟨s,?_,(ab.le (H.cR _)).le f9⟩
     rw[kU,ae bS];exact q
   refine⟨V,V,_,f U,(rV _ _).then λd m6 g e=>⟨d,rfl,λhy=>?_,λax=>?_⟩⟩
   .have hs:=g.1 hy
    refine⟨V,V,_,e.af (f Y),?_⟩
    have ar:∀d∈[a.size],d<m6.size:=λd g=>aL (ag d g) e.size
    refine(sX ar ((I.ext e).done z V) x.dst V).then λab aI m7 g7 e7 q=>⟨ab,rfl,V,V,_,q.af (e.af (f U)),_,q.af (e.af (f Y)),_,q.af (e.af (f c2)),_,q.af (e.af (f c3)),_,q.af (e.af (f c4)),_,q.af (e.af (f c5)),?_⟩
    subst e7
    refine hO m7 ab _ (e.trans q) (g7.cL (λ_ y=>y) (by have:=t.size;have:=e.size;omega)) (bJ (il _ _) ul) (List.filter_congr λac _=>by simp[hs])
   .have hs:=fb g ax
    refine⟨V,V,_,e.af (f U),_,e.af (f Y),_,e.af (f c2),_,e.af (f c3),_,e.af (f c4),_,e.af (f c5),?_⟩
    refine hO m6 ib _ e (I.ext e) ul ?_
    rw[List.filter_eq_self.2 λac _=>by simp[hs]]
 .have:i=w:=V
  subst this
  exact⟨a.size,h,rfl,Q,ai,λk h3 Z=>let⟨s,T,d⟩:=sK k h3 Z;⟨s,T,d.le (bA _ _)⟩,G⟩
end
section
variable{m:E}{d p bC c b:O}{a:cr}{s:St}
def XU{a:cr}(g:Ej a){n:Nat}{q:da}(w:a.cy[n]? =some q):Lz q.bt q.ax.toNat:=by
 have P:=g.df q (av w);have y:=P.ax;have v:∀t,(cb a.bu t).length<=3:=λt=>by
  unfold cb;split
  .let⟨d,hd⟩:=cq a.bu (t.toNat -1);rw[hd];simp only[lF,pD,dP,List.length_range];rcases iS d.cons.length with e|e
   .omega
   .exact((g.pA.types.df _ d hd).gR e).1
  .simp
 refine⟨λk x c s u=>?_,λk x c n f=>?_,λk x c=>?_,λk x c=>?_,λk x c=>?_,V,by have:=P.len;omega⟩
 .have:=(P.df k x c).args s u;omega
 .have I:=P.df k x c;have b:=I.op;unfold kK at b;unfold mr at f;split at f
  .rename_i e;rw[ae V,ae V,ae V,ae V,ae V,ae V,ae V,ae V,ae V,ao e]at b;simp at f;subst f;omega
  rename_i j;have yU:¬(x.op=23\/x.op=24)->k+1<q.bt.length:=λi=>by
   have l:=az c;rcases aX (k+1) q.bt.length with h|h
   .exact h
   .have e:k=q.bt.length -1:=V;rw[e]at c;exact absurd (P.yU x c) i
  split at f
  .rename_i e;rw[ae V,ae V,ae V,ae V,ae V,ae V,ae V,ae V,ao e]at b;have:=yU V;simp at f;omega
  split at f
  .rename_i e;rw[ae V,ae V,ae V,ae V,ae V,ae V,ae V,ae V,ae V,ae V,ao e]at b;have:=b.2.2.2 n f;omega
  split at f
  .simp at f
  .rename_i e;have:=yU e;simp at f;omega
 .have:=(P.df k x c).dst;omega
 .have I:=P.df k x c;have b:=I.op;unfold kK at b;refine⟨?_,?_⟩
  .by_cases j:x.op=0
   .rw[ao j]at b;omega
   rw[ae j]at b;by_cases l:x.op=1\/x.op=2\/x.op=3\/x.op=4\/x.op=11
   .rw[ao l]at b;omega
   rw[ae l]at b;by_cases a2:x.op=5\/x.op=14\/x.op=15\/x.op=18\/x.op=23
   .rw[ao a2]at b;omega
   rw[ae a2]at b;by_cases a3:x.op=6
   .rw[ao a3]at b;have:=yL g.pA.types x.bM;omega
   rw[ae a3]at b;by_cases a4:x.op=9\/x.op=24
   .rw[ao a4]at b;obtain⟨i,_,h,e⟩:=b;have:=(g.pA.df i (av h)).1;omega
   rw[ae a4]at b;by_cases m:x.op=10
   .rw[ao m]at b;obtain⟨⟨i,_,h,e⟩,_⟩:=b;have:=(g.pA.df i (av h)).1;omega
   rw[ae m]at b;by_cases i:x.op=16\/x.op=17
   .rw[ao i]at b;omega
   rw[ae i]at b;by_cases o:x.op=19
   .rw[ao o]at b;omega
   rw[ae o]at b;by_cases p:x.op=20
   .rw[ao p]at b;omega
   rw[ae p]at b;by_cases r:x.op=22
   .rw[ao r]at b;omega
   rw[ae r]at b;by_cases h:x.op=21
   .rw[ao h]at b;have:=b.1;omega
   rw[ae h]at b;exact b.elim
  .rcases I.di with e|e
   .rw[ae V,ae V,ae V,ae V,ae V,ae V,ae V,ae V,ae V,ae V,ao e]at b;have:=b.2.2.1;have:=v x.bM;omega
   .omega
 .have b:=(P.df k x c).op;unfold kK at b;refine⟨λe=>?_,λe=>?_⟩;all_goals
   rw[ae V,ae V,ae V,ae V,ae V,ae V,ae V,ae V,ae V,ae V,ae V]at b
   exact b
end
end
section
variable{k:Nat}{f:be}
section
variable{b:E}{d p bC e c:O}{a:cr}{s:St}
def PE{b:List be}(c:b[k]? =some f)(h:b.length<=k+1):AB a b k=dC f (jT a f):=by
 unfold AB;rw[c,bV V];rfl
def PF{b:List be}{g:be}(c:b[k]? =some f)(d:b[k+1]? =some g):AB a b k=dC f ((jT a f).filter λr=>!decide (r=g.dst)):=by
 unfold AB;rw[c,d];rfl
def MM{a:cr}{q:da}(b:gF a f)(e:dm a f.dW=q):jT a f=Rh q.bt q.ax.toNat f.pc.toNat:=by
 have:=b.lr;unfold jT Rh;rw[e]at this⊢;rw[show f.ax.length=q.ax.toNat by omega]
def GJ{a:cr}:∀r∈jT a f,0<=r/\r<f.ax.length:=λr b=>by
 obtain⟨k,c,rfl,_⟩:=qD.1 b;omega
def Vr{a:cr}{b:List be}(d:∀f∈b,f.ax.length<=2000)(k:Nat):(AB a b k).length<=2000:=by
 unfold AB;cases c:b[k]? with
 |none=>simp
 |some f=>
  have e:=d f (av c);have h:(jT a f).length<=f.ax.length:=ms _;cases b[k+1]? with
  |none=>simp;omega
  |some g=>have:=il (λr=>!decide (r=g.dst)) (jT a f);simp at this⊢;omega
def JB{a:cr}{b:List be}(c:∀f∈b,f.ax.length<=2000):∀k,(Qs a b k).length<=k*2000
 |0=>by simp[Qs]
 |k+1=>by have:=JB (a:=a) c k;have:=Vr (a:=a) c k;rw[Qs,aU];omega
def Vs{a:cr}{b:List be}{w:Int}(h:w∈AB a b k):∃f∈b,w∈f.ax:=by
 unfold AB at h;cases d:b[k]? with
 |none=>rw[d]at h;simp at h
 |some f=>
  rw[d]at h;refine⟨f,av d,?_⟩;have:∃r∈jT a f,aQ f.ax r=w:=by
   cases e:b[k+1]? with
   |none=>rw[e]at h;simpa using h
   |some i=>rw[e]at h;obtain⟨r,c,g⟩:=List.mem_map.1 h;exact⟨r,(List.mem_filter.1 c).1,g⟩
  obtain⟨r,c,rfl⟩:=this;have:=GJ r c;exact iK this.1 this.2
def NS{a:cr}{b:List be}{w:Int}:∀{k:Nat},w∈Qs a b k->∃f∈b,w∈f.ax
 |0,h=>by simp[Qs]at h
 |k+1,h=>by rw[Qs,lE]at h;exact h.elim NS Vs
def Lf{r o e:O}(g:au b r f.ax){q:O}{l:List Int}(d:au b q l)(a:∀y∈l,0<=y/\y<f.ax.length)(h:l.length<=1000000):qR 54 [fv f r o e,O.v q] b (dC f l):=
 (nA g d a V).mono λ_ i⟨s,e,c,x⟩=>⟨s,e,au.gG c (by simp[dC];omega),x⟩
def Fx(aa:eY b d p a)(R:fQ b bC e c s)(q:iT a s):qR 26 [.agg #[O.v d,O.v p],Ox s bC e c] b (ry a s.ak):=by
 apply zV;simp -zeta only[aG,aF];intro C j;let⟨x2,hl⟩:=dk (a:=C) (c:=j) rfl rfl;clear_value j;intro U;have o3:gS j U aA 1 (.mk j.size 0 0 0) []:=gS.new (J.aH j) aA 1 [] 0 aJ;have x3:J j U:=J.push j _;clear_value U;have hd:s.ak.length<=41:=by have:=q.depth;have:=q.bO;have:=q.eH;omega
 have aI:=R.ak.len;have ae:∀f∈s.ak,f.ax.length<=2000:=λf o=>by
  have u:=(q.ak f o).lr;have v:=q.ak f o;let⟨r,hq⟩:=cq a.cy f.dW.toNat (by have:=v.dW;omega);have g:dm a f.dW=r:=by simp[dm,hq]
  have:=(q.eT.df r (av hq)).ax;rw[g]at u;omega
 have nl:=λk=>JB (a:=a) ae k;refine dE (n:=s.ak.length) V (λk r l=>J j l/\gS j l aA 1 r ((Qs a s.ak k).map Ce.i)) ⟨x3,by simpa[Qs]using o3⟩ ?_;rintro k r w al μ hk ⟨I,X⟩ aB
 refine dit (λh1=>?_) λh1=>?_
 .let⟨f,o⟩:=cq s.ak k;have v:=q.ak f (av o);let⟨pr,P⟩:=cq a.cy f.dW.toNat (by have:=v.dW;omega);have ep:dm a f.dW=pr:=by simp[dm,P]
  have ak:=XU q.eT P;have t:=x2.trans I;let⟨ah,ag,eh,hr,ho,he,g0,g1,g2,g3,g4,g5⟩:=R.ak.aQ o;let⟨aD,h,am,ha,i,hc,c0,c1,c2,c3,c4⟩:=aa.cy.aQ P;have aL:=aa.cy.len;have ek:Int.toNat (k:Int)=k:=V;rw[ek];refine⟨V,V,_,t.af g0,_,t.af g1,_,t.af g2,ah,t.af g3,ag,t.af g4,eh,t.af g5,?_⟩;intro m5 W;obtain⟨Z,B6,z6⟩:=iL (M:=w) (d:=m5) (c:=W) rfl rfl rfl;clear_value W;have L:=t.trans Z;have aw:=v.pc;rw[ep]at aw;have e1:f.pc=(f.pc.toNat:Int):=V;have ab:∀h∈[w.size,C.size,b.size],h<W.size:=λh i=>by
   rcases List.mem_cons.1 i with g|g
   .omega
   .exact(I.trans Z).lt (hl h g)
  have aM:=v.dW;refine⟨V,V,am,by simpa using L.af c4,?_⟩;rw[e1];refine(Hq (dZ.ext L hc) ak (w:=f.pc.toNat) V).mono λ_ F⟨lb,aE,g,Bl,aH,sK,z⟩=>⟨z.de ab,_,g,?_⟩;obtain⟨rs,ax,Q⟩:=sK f.pc.toNat (ad _) V;rw[<-MM v ep]at Q;have X7:=L.trans z;have ac:∀h∈[w.size,C.size,b.size],h<F.size:=λh i=>z.lt (ab h i);refine⟨gl z V _,V,by simp only[O.dU];omega,rs,?_,?_⟩
  .simp -zeta only[O.fO,O.jg,bG,cT,om];rw[Bl.cK,ax];rfl
  have e2:cQ ((c.len:Int) -1)=(s.ak.length:Int) -1:=by rw[aS V V];omega
  have e3:cQ ((k:Int)+1)=((k+1:Nat):Int):=by rw[aS V V];omega
  rw[e2,e3,<-e1];have af:(jT a f).length<=2000:=bJ (ms _) (ae f (av o));have az:=nl k;have hO:∀(l:E)(Y:O)(B:List Int),J F l->au l Y B->(∀y∈B,y∈jT a f)->B.length<=2000->AB a s.ak k=dC f B->aP cv 54 [fv f ah ag eh,O.v Y] l λaC x=>eF [w.size,C.size,b.size] l x/\∃G:O,aC=O.v G/\
   jb x aA [.i (0:Int)] 8 r G λH D=>eF [w.size,C.size,b.size] x D/\(al H ((k+1:Nat):Int) D/\μ H ((k+1:Nat):Int) D<μ r k w):=λl Y B K ht ar aK hw=>by
   have XM:=X7.trans K
   refine(Lf (hr.ext XM) ht (λy T=>GJ y (ar y T)) V).mono λ_ x⟨G,g,aq,A⟩=>⟨A.de λh i=>K.lt (ac h i),G,g,?_⟩
   have aj:=((Z.trans z).trans K).trans A
   refine EP (X.ext aj) ((I.trans aj).fz []) aq (by simp[dC];omega) λH D o9 f9 z9 k9 j9 _=>⟨λh i=>?_,?_⟩
   .rcases List.mem_cons.1 i with g|i
    .subst g
     refine j9 _ (by have:=((z.trans K).trans A).size;omega) λN g=>?_
     rcases X.lt with u|u
     .exact N u
     .omega
    .exact k9 h (hl h i)
   have nx:=aB V H D ⟨f9.ext,by rw[Qs,hw];exact o9⟩
   rw[aS V V]at nx
   exact nx
  refine dit (λh2=>?_) λh2=>?_
  .let⟨N,hg⟩:=cq s.ak (k+1);let⟨r',o',e',_,_,_,_,_,ao,_,_,_⟩:=R.ak.aQ hg;have an:Int.toNat ((k+1:Nat):Int)=k+1:=V;rw[an];refine⟨V,V,N.dst,X7.af ao,?_⟩;have ay:=(sX (S:=[]) (d:=F) aJ (Q.le (JA (J.aH _) aJ)) N.dst V).YA (by have:=il (λy=>!decide (y=N.dst)) (jT a f);omega);refine ay.mono λ_ x⟨ai,g,ap,A⟩=>⟨A.de ac,ai,g,?_⟩;exact hO x ai _ A ap (λy T=>(List.mem_filter.1 T).1) (bJ (il _ _) af) (PF o hg)
  .exact hO F rs _ (J.aH _) Q (λ_ u=>u) af (PE o V)
 .have g:k=s.ak.length:=V;subst g;have az:=nl s.ak.length;exact⟨r,rfl,au.gG X (by show(Qs a s.ak s.ak.length).length<=_;omega),x2.trans I⟩
def TN(c:vO s):∀w∈ry a s.ak,uN w:=λw d=>let⟨f,b,h⟩:=NS d;(c.ak f b).1 w h
def RO(b:iT a s):(ry a s.ak).length<=100000:=by
 have hd:s.ak.length<=41:=by have:=b.depth;have:=b.bO;have:=b.eH;omega
 have:=JB (a:=a) (b:=s.ak) (λf c=>by
  have h:=(b.ak f c).lr;have g:=b.ak f c;let⟨q,d⟩:=cq a.cy f.dW.toNat (by have:=g.dW;omega);have e:dm a f.dW=q:=by simp[dm,d]
  have:=(b.eT.df q (av d)).ax;rw[e]at h;omega) s.ak.length
 unfold ry;omega
open Classical in
def rC(u:eY b d p a)(r:fQ b bC e c s)(k:vO s):qR 8 [.agg #[O.v d,O.v p],Ox s bC e c] b (needL a s):=by
 apply wq;simp -zeta only[aG,aF];intro t v;let⟨n,l⟩:=dk (a:=t) (c:=v) rfl rfl;have F:t.size=b.size+1:=by simp[t]
 clear_value v;refine(DV (u.ext n) (r.ext n) k).aK (J.aH _) l λg B f h _=>⟨g,rfl,λq=>⟨.nil,rfl,?_,n.trans h⟩,λq=>?_⟩
 .rw[needL,ae (nb f q)];exact⟨rfl,dy _,aJ,aJ⟩
 have m:=yb f q;have j:=n.trans h;have fA:=k.lh;refine(Fx (u.ext j) (r.ext j) m).mono λ_ C⟨A,o,z,i⟩=>⟨i.de (λg f=>h.lt (l g f)),A,o,gl i (h.lt (l _ aJ)) _,?_⟩;have E:=RO m;refine(Jj (r.heap.ext (j.trans i)) k.heap fA (λw x=>(m.heap.cell w x).fl) z (TN k) V).mono λ_ D⟨w,o,y,x⟩=>⟨x.de (λg f=>(h.trans i).lt (l g f)),w,o,w,rfl,?_,(j.trans i).trans x⟩;rw[needL,ao m];exact y
end
end
section
variable{f:Nat->Bool}{c:E}{b:Nat}
open Classical in
noncomputable def tB (p:Prop):Bool:=decide p
def Og{p:Prop}:tB p=true<->p:=by unfold tB;simp
def V1{p:Prop}(h:¬p):tB p=false:=by unfold tB;simpa using h
def vK{p q:Prop}(h:p<->q):tB p=tB q:=by rw[lD,Og,Og];exact h
def RU(f:Nat->Bool)(a:Nat)(v:Bool):Nat->Bool:=λx=>if x=a then v else f x
def ku{n:Nat}{g:Nat->Bool}(h:∀x,x<n->f x=g x):km n f=km n g:=by
 unfold km;exact Zq λx a=>by rw[h x (by simpa using a)]
def SU{n:Nat}(a:Nat)(v:Bool):iO (km n f) a [.t v]=km n (RU f a v):=by
 apply eM;intro i;rw[kU];unfold km RU;simp only[aY,cE,dP,List.length_range,bT];rcases aX i n with h|h
 .rw[xC h];by_cases e:i=a
  .subst e;rw[ao ⟨ad _,V,h⟩];simp
  .rw[ae V];simp[e]
 .have e:(List.range n)[i]? =none:=bV (by simpa using h);rw[e,ae V];rfl
def NB{n:Nat}(B:cB c b fL (km n f))(a:Nat)(v:Bool):cB (aj c b a [.t v]) b fL (km n (RU f a v)):=by
 have:=cB.aj (m:=c) (o:=a) (r:=[.t v]) B;rw[SU]at this;exact this
def WN{o:Nat}{l:List Ce}:Fz [b] c (aj c b o l):=⟨by rw[aD];exact ad _,λ_ _ a=>bh _ _ _ _ (by simpa using a)⟩
section
variable{m:E}{S:List Nat}{x:Instr}{a j d:O}{bt:List Instr}{B:Nat}
def Qm(a:∀b∈S,b<m.size)(l:List Int)(c:l.length<=9223372036854775807):au (bI S (m.push (.cells (bE (l.map Ce.i)) aA))) (.mk m.size 0 l.length l.length) l:=au.NV a (gS.new (J.aH m) aA 1 (l.map Ce.i) l.length aJ) c
def LP(p:∀b∈S,b<m.size)(r:au (bI S m) j x.di){k:Nat}(t:k<=1000000):aP cv 86 [.agg #[vi x.op,vi x.dst,vi x.bM,vi x.bY,O.v a,O.v j],vi k] m λv l=>∃s,v=O.v s/\au (bI S l) s (mr x k)/\J m l:=by
 apply vZ;simp -zeta only[aG,aF];intro i;have f:J m i:=J.push m _;clear_value i;have h:∀b∈S,b<i.size:=λb q=>f.lt (p b q);have o:cQ ((k:Int)+1)=(k:Int)+1:=aS V V;rw[o];unfold mr;refine⟨λc=>?_,λc=>⟨λd=>?_,λd=>⟨λe=>?_,λe=>⟨λg=>?_,λg=>?_⟩⟩⟩⟩
 .simp at c;intro n;rw[ao c];exact⟨_,rfl,Qm h [x.bM] aJ,f.trans (J.push _ _)⟩
 .simp at c d;intro n;rw[ae c,ao d];exact⟨_,rfl,Qm h [(k:Int)+1,x.bM] aJ,f.trans (J.push _ _)⟩
 .simp at c d e;rw[ae c,ae d,ao e];exact⟨_,rfl,r.le (f.cR _),f⟩
 .simp at c d e g;rw[ae c,ae d,ae e,ao g];exact⟨.nil,rfl,⟨rfl,dy _,aJ,aJ⟩,f⟩
 .simp at c d e g;intro n;rw[ae c,ae d,ae e,ae V];exact⟨_,rfl,Qm h [(k:Int)+1] aJ,f.trans (J.push _ _)⟩
end
section
variable{h:E}{d p:O}{j:cr}{e:da}{a i:Nat}
def GD(ax:eY h d p j)(ay:j.cy[a]? =some e)(aa:Lz e.bt e.ax.toNat)(hr:0<=e.ax)(aX:i<e.bt.length):nE 43 [.agg #[O.v d,O.v p],vi a,vi i] h (Rh e.bt e.ax.toNat i):=by
 apply Be;simp -zeta only[aG,aF];intro ag;have x1:J h ag:=J.push h _;have z1:ag.size=h.size+1:=by simp[ag]
 clear_value ag;have fA:=aa.fA;have a5:=ax.cy.len;have a4:=az ay;let⟨pa,pl,pc,ha,hb,P,c0,c1,c2,c3,c4⟩:=ax.cy.aQ ay;have en:Int.toNat (a:Int)=a:=V;rw[en];refine⟨V,V,pa,x1.af c0,pl,x1.af c1,_,x1.af c2,_,x1.af c3,pc,x1.af c4,?_⟩;intro aN G;obtain⟨x3,-,z3⟩:=iL (M:=ag) (d:=aN) (c:=G) rfl rfl rfl;clear_value G;have X3:=x1.trans x3;have aZ:=P.len;have el:Int.toNat (pc.len:Int)=e.bt.length:=V;rw[el];refine⟨V,V,V,V,?_⟩;intro m4;have B4:∃w,cB m4 G.size w (mf [.s .nil] e.bt.length):=⟨_,cB.push G _ _⟩;have x4:J G m4:=J.push G _;have z4:m4.size=G.size+1:=by simp[m4]
 clear_value m4;have e0:cQ ((pc.len:Int) -1)=(e.bt.length:Int) -1:=by rw[aS V V];omega
 rw[e0];generalize hB:e.ax.toNat=B at aa fA;have eB:Int.toNat e.ax=B:=hB;have aU:e.ax=(B:Int):=V;generalize a0:e.bt=bt at*;generalize hL:G.size=L at*;refine wW (γ:=Nat) (λz q c=>q=(z:Int) -1/\i<=z/\z<=bt.length/\Fz [L] m4 c/\∃ac w,cB c L w ac/\ac.length=bt.length/\∀k,z<=k->k<bt.length->∃b,ac[k]? =some (.s (.mk b 0 B B))/\b≠L/\cB c b fL (km B λl=>tB (Cn bt l k))) id bt.length
  ⟨rfl,V,ad _,Fz.aH _ _,_,_,B4.choose_spec,by simp[mE],λk D A=>V⟩ ?_
 rintro z q W au μ ⟨rfl,a1,a2,f5,ac,ce,B5,aL,sK⟩ aA
 have z5:=f5.size;have E5:J G W:=⟨V,λb hb=>(f5.same b V bS).trans (x4.same b hb)⟩;have R:=X3.trans E5;refine dit (λD=>?_) λD=>?_
 .obtain⟨k,rfl⟩:∃k,z=k+1:=⟨z -1,V⟩;have ek:(((k+1:Nat):Int) -1)=(k:Int):=V;rw[ek]at aA⊢
  have aE:Int.toNat (k:Int)=k:=V;have aH:cQ ((k:Int) -1)=(k:Int) -1:=aS V V;rw[aE,aH];let⟨x,T⟩:=cq bt k;have a3:=aa.len k x T;let⟨aC,jj,ha,aM,g0,g1,g2,g3,g4,g5⟩:=P.aQ T;refine⟨V,V,_,R.af g0,_,R.af g1,_,R.af g2,_,R.af g3,aC,R.af g4,jj,R.af g5,?_⟩;intro m6 C;obtain⟨x7,-,z7⟩:=iL (M:=W) (d:=m6) (c:=C) rfl rfl rfl;clear_value C;refine⟨V,V,V,V,?_⟩;intro X;have R8:cB X C.size fL (km B λ_=>false):=Jv C _;have x8:J C X:=J.push C _;have z8:X.size=C.size+1:=by simp[X]
  clear_value X;have aB:=x7.trans x8;have B8:=B5.ext aB;simp -zeta only[O.dU,O.fO,O.jg,bG,cT];refine⟨V,V,B8.fq V,?_⟩;intro Q;have B9:cB Q L ce (iO ac k [.s (.mk C.size 0 B B)]):=cB.aj (m:=X) (o:=k) (r:=[.s (.mk C.size 0 B B)]) B8;have f9:Fz [L] X Q:=WN;have aV:L<W.size:=B5.lt;have R9:cB Q C.size fL (km B λ_=>false):=R8.congr (bh _ _ _ _ V);have z9:Q.size=X.size:=by simp[Q,aD]
  clear_value Q;have F9:Fz [L] W Q:=(aB.fz _).trans f9;have E9:J G Q:=⟨V,λb hb=>(F9.same b (by have:=E5.size;omega) bS).trans (E5.same b hb)⟩;have X9:=X3.trans E9;refine⟨λb hb=>f9.same b (by simp at hb;omega) (by simp at hb⊢;omega),?_⟩;generalize aY:C.size=b at*;have aI:∀t∈[b],t<Q.size:=bS;refine(LP aI (aM.le (JA X9 bS)) V).mono λ_ ai⟨aQ,w,ht,I⟩=>⟨I.de bS,aQ,w,?_⟩;have a7:=ht.len;have a8:=ht.fA;have a9:=I.size;have al:∀{c:E},Fz [b] ai c->(∀q,k<q->q<bt.length->∃u,af c L q=some (O.v (.mk u 0 B B))/\cB c u fL (km B λl=>tB (Cn bt l q))/\u≠b)/\af c L k=some (O.v (.mk b 0 B B)):=λ{c} fM=>by
   have BM:cB c L ce (iO ac k [.s (.mk b 0 B B)]):=(B9.ext I).congr (fM.same L V bS);refine⟨λq A F=>?_,?_⟩
   .obtain⟨u,r1,Z,H⟩:=sK q V F;refine⟨u,?_,?_,by have:=H.lt;omega⟩
    .rw[BM.cK,kU,ae bS,r1];rfl
    .have an:=H.lt;exact((H.congr (F9.same u an (by simpa using Z))).ext I).congr (fM.same u V bS)
   .rw[BM.cK,kU,ao ⟨ad _,aJ,V⟩];simp[Ce.v]
  have de:∀{c M':E},Fz [b] ai c->Fz [b] c M'->eF [W.size,ag.size,h.size] c M':=λf f' t P=>f'.same t (by have:=f.size;simp at P;omega) (by simp at P⊢;omega);refine eu (n:=(mr x k).length) V (λU c=>Fz [b] ai c/\cB c b fL (km B λl=>tB (∃a∈(mr x k).take U,Cn bt l a.toNat))) ⟨Fz.aH _ _,by rw[ku (g:=λ_=>false) λy _=>V1 aJ];exact R9.ext I⟩ ?_;rintro U ar aR ν hj ⟨S,ak⟩ aO;have aT:J h ar:=⟨by have:=X9.size;have:=S.size;omega,λt P=>((S.same t V bS).trans (I.same t V)).trans (X9.same t P)⟩;refine dit (λA=>?_) λA=>?_
  .let⟨Y,ap⟩:=cq (mr x k) U;have aW:=aa.Xr k x T Y (av ap);obtain⟨u,r1,Z,aK⟩:=(al S).1 Y.toNat V V;refine⟨V,V,Y,by simpa using(ht.le (S.cR aJ)|>.le (bA _ _)).aQ ap,V,V,_,by simpa using r1,?_⟩;refine eu (n:=B) V (λq c=>Fz [b] ar c/\cB c b fL (km B λl=>tB (∃a∈(mr x k).take U,Cn bt l a.toNat)||(decide (l<q)&&tB (Cn bt l Y.toNat)))) ⟨Fz.aH _ _,by rw[ku (g:=λl=>tB (∃a∈(mr x k).take U,Cn bt l a.toNat)) λy _=>aJ];exact ak⟩ ?_;rintro q ah aw ξ hi ⟨am,v⟩ aP;have ab:=S.trans am;refine dit (λF=>?_) λF=>?_
   .simp only[O.dU]at F;have ei:Int.toNat (q:Int)=q:=V;have H:cB ah u fL (km B λl=>tB (Cn bt l Y.toNat)):=Z.congr (am.same u Z.lt (by simpa using aK));obtain⟨-,q1⟩:=al ab;simp -zeta only[O.dU,O.fO,O.jg,bG,cT];rw[ei];refine⟨V,V,_,tO H V,V,V,_,q1,V,V,_,q1,V,by simp only[O.dU];omega,_,by simpa using tO v (show q<B by omega),?_⟩;have oB:∀s:Bool,s=(tB (∃a∈(mr x k).take U,Cn bt q a.toNat)||tB (Cn bt q Y.toNat))->eF [W.size,ag.size,h.size] ah (aj ah b q [.t s])/\(aw (cQ ((q:Int)+1)) (aj ah b q [.t s])/\ξ (cQ ((q:Int)+1)) (aj ah b q [.t s])<ξ (q:Int) ah):=λs hv=>by
     refine⟨de ab WN,aP V _ ⟨am.trans WN,?_⟩⟩;have:=NB v q s;rw[ku (g:=λl=>tB (∃a∈(mr x k).take U,Cn bt l a.toNat)||(decide (l<q+1)&&tB (Cn bt l Y.toNat)))]at this
     .exact this
     intro y _;unfold RU;by_cases K:y=q
     .subst K;rw[ao rfl,hv];simp
     .rw[ae K];have w:decide (y<q)=decide (y<q+1):=by rw[decide_eq_decide];omega
      simp only[w]
    simp -zeta only[O.dU,O.fO,O.jg,bG,cT];refine⟨λN=>⟨V,V,v.fq (by rw[mX];omega),oB true ?_⟩,λN=>⟨V,V,v.fq (by rw[mX];omega),oB _ ?_⟩⟩
    .rw[N];rfl
    .rw[N];rfl
   .simp only[O.dU]at F;have ei:q=B:=V;subst ei;refine aO V _ ⟨ab,?_⟩;rw[ku (g:=λl=>tB (∃a∈(mr x k).take (U+1),Cn bt l a.toNat))]at v
    .exact v
    intro y hy;rw[lD,bF ap];simp only[cD,bK,aq,Og,lE,fP];constructor
    .rintro(⟨a,D,A⟩|⟨_,s⟩)
     .exact⟨a,Or.inl D,A⟩
     .exact⟨Y,Or.inr rfl,s⟩
    .rintro⟨a,D|D,A⟩
     .exact Or.inl ⟨a,D,A⟩
     .subst D;exact Or.inr ⟨hy,A⟩
  .rw[dD V]at ak;refine⟨λc=>Fz [b] ai c/\cB c b fL (km B λl=>tB ((∃a∈mr x k,Cn bt l a.toNat)/\¬(jE x.op/\x.dst=l))),?_,?_⟩
   .refine(qB x.op ar (aa.eC k x T)).mono λ_ ah⟨sb,w,am,Y⟩=>⟨Y.de (by have:=S.size;simp;omega),sb,w,λhy=>?_,λhn=>?_⟩
    .have hs:=am.1 hy;have ab:=S.trans (Y.fz [b]);obtain⟨-,q1⟩:=al ab;have hd:=aa.dst k x T;have v:=ak.ext Y;refine⟨V,V,_,q1,V,by simp only[O.dU];omega,?_⟩;simp -zeta only[O.fO,O.jg,bG,cT];refine⟨v.fq (by rw[mX];omega),de ab WN,ab.trans WN,?_⟩;have:=NB v x.dst.toNat false;rw[ku (g:=λl=>tB ((∃a∈mr x k,Cn bt l a.toNat)/\¬(jE x.op/\x.dst=l)))]at this
     .exact this
     intro y _;unfold RU;by_cases K:y=x.dst.toNat
     .rw[ao K];symm;exact V1 λs=>s.2 ⟨hs,V⟩
     .rw[ae K];exact vK ⟨λs=>⟨s,λt=>K V⟩,λs=>s.1⟩
    .have hs:¬jE x.op:=fb am hn;refine⟨S.trans (Y.fz _),?_⟩;have v:=ak.ext Y;rw[ku (g:=λl=>tB ((∃a∈mr x k,Cn bt l a.toNat)/\¬(jE x.op/\x.dst=l)))]at v
     .exact v
     intro y _;exact vK ⟨λs=>⟨s,λt=>hs t.1⟩,λs=>s.1⟩
   .rintro am ⟨ah,Y⟩;have hO:∀{c:E},Fz [b] ai c->cB c b fL (km B λl=>tB (Cn bt l k))->au ((k:Int) -1) c/\μ ((k:Int) -1) c<μ (k:Int) W:=λ{c} fM RM=>by
     have zM:=fM.size;refine aA k _ _ ⟨rfl,V,V,⟨V,λt D A=>?_⟩,iO ac k [.s (.mk b 0 B B)],ce,(B9.ext I).congr (fM.same L V bS),by simp[ln,aL],λq F N=>?_⟩ (Nat.lt_succ_self k)
     .exact((fM.same t V bS).trans (I.same t V)).trans ((F9.same t V A).trans (f5.same t D A))
     .by_cases ei:q=k
      .subst ei;exact⟨b,by rw[kU,ao ⟨ad _,aJ,V⟩];simp,V,RM⟩
      .obtain⟨u,r1,Z,H⟩:=sK q V N;have an:=H.lt;exact⟨u,by rw[kU,ae bS];exact r1,Z,((H.congr (F9.same u an (by simpa using Z))).ext I).congr (fM.same u V bS)⟩
    have an:(x.op=14\/x.op=15)->au ((k:Int) -1) am/\μ ((k:Int) -1) am<μ (k:Int) W:=λho=>by
     refine hO ah ?_;rw[ku (g:=λl=>tB (Cn bt l k))]at Y
     .exact Y
     intro y _;refine vK ?_;rw[Qq T];exact⟨λs=>Or.inr s,λs=>s.resolve_left λt=>t.2 ho⟩
    refine⟨λF=>⟨λN=>?_,λN=>an (Or.inr (by simpa using N))⟩,λF=>an (Or.inl (by simpa using F))⟩;have ho:¬(x.op=14\/x.op=15):=by simp at F N;omega
    have aW:=ha.len;refine eu (n:=x.args.length) V (λq c=>Fz [b] ai c/\cB c b fL (km B λl=>tB ((l:Int)∈x.args.take q\/(∃a∈mr x k,Cn bt l a.toNat)/\¬(jE x.op/\x.dst=l)))) ⟨ah,by rw[ku (g:=λl=>tB ((∃a∈mr x k,Cn bt l a.toNat)/\¬(jE x.op/\x.dst=l))) λy _=>vK aJ];exact Y⟩ ?_;rintro q aK aw ξ hi ⟨u,v⟩ aP;have ap:J h aK:=⟨by have:=X9.size;have:=u.size;omega,λt P=>((u.same t V bS).trans (I.same t V)).trans (X9.same t P)⟩;refine dit (λh5=>?_) λh5=>?_
    .let⟨l,ab⟩:=cq x.args q;have a6:=aa.args k x T l (av ab);obtain⟨-,q1⟩:=al u;refine⟨V,V,l,by simpa using(ha.ext ap).aQ ab,V,V,_,q1,V,by simp only[O.dU];omega,?_⟩;simp -zeta only[O.fO,O.jg,bG,cT];refine⟨v.fq (by rw[mX];omega),de u WN,aP V _ ⟨u.trans WN,?_⟩⟩;have:=NB v l.toNat true;rw[ku (g:=λy=>tB ((y:Int)∈x.args.take (q+1)\/(∃a∈mr x k,Cn bt y a.toNat)/\¬(jE x.op/\x.dst=y)))]at this
     .exact this
     intro y _;unfold RU;rw[bF ab];by_cases K:y=l.toNat
     .rw[ao K];symm;refine Og.2 (Or.inl ?_);simp;right;omega
     .rw[ae K];refine vK ?_;simp only[lE,fP];constructor
      .exactλs=>s.imp Or.inl id
      .exactλs=>s.imp (λs=>s.resolve_right V) id
    .rw[dD V]at v;refine hO u ?_;rw[ku (g:=λl=>tB (Cn bt l k))]at v
     .exact v
     intro y _;refine vK ?_;rw[Qq T];exact or_congr ⟨λs=>⟨s,ho⟩,λs=>s.1⟩ CJ
 .have:z=i:=V;subst this;obtain⟨b,r1,Z,H⟩:=sK z (ad _) V;have t:Int.toNat (z:Int)=z:=V;rw[t];simp -zeta only[O.dU,O.fO,O.jg,bG,cT];refine⟨V,V,.mk b 0 B B,by rw[B5.cK,r1];rfl,?_⟩;exact(uY H V).mono λ_ m6⟨l,w,u,s⟩=>⟨s.de bS,l,w,l,rfl,u.cL R.size,R.trans s⟩
end
end
section
def _root_.Go.Vc.gS.ne{j m:E}{e d k:Nat}{s:O}{l f:List Ce}{c:Nat}(h:gS j m e k s l)(B:cB m c d f)(g:d≠e)(i:s≠.nil):c≠s.aC:=λb=>by
 rcases h.aQ with a|⟨n,o,tail,a,h2,h3,h4,h5⟩
 .exact i a
 .rw[a]at b;simp only[O.fO]at b;subst b;have:=B.symm.trans h3;injection this with this
  injection this with _ this
  exact g this
section
variable{m:E}{d p bC b c:O}{a:cr}{s:St}
def MI{P:Int->Bool}{l:List Int}{k:Nat}{x:Int}(h:l[k]? =some x):(l.take (k+1)).filter P=(l.take k).filter P++if P x=true then[x]else[]:=by
 rw[bF h,Ot];congr 1;cases h:P x<;>simp[h]
open Classical in
def ru(af:eY m d p a)(R:fQ m bC b c s)(aa:vO s)(q:iT a s):qR 23 [.agg #[O.v d,O.v p],Ox s bC b c] m (me (λe=>decide (Iy s.heap (ry a s.ak) e)) s.heap.length):=by
 apply we;simp -zeta only[aG,aF];intro v D;let⟨x2,F⟩:=dk (a:=v) (c:=D) rfl rfl;have s1:v.size=m.size+1:=by simp[v]
 clear_value D;have am:=JU q;have hd:s.ak.length<=41:=by have:=q.depth;have:=q.bO;have:=q.eH;omega
 have aC:=R.ak.len;have aE:=af.cy.len;have ag:∀f∈s.ak,f.ax.length<=2000:=λf o=>by
  have l:=(q.ak f o).lr;have B:=q.ak f o;let⟨I,hq⟩:=cq a.cy f.dW.toNat (by have:=B.dW;omega);have g:dm a f.dW=I:=by simp[dm,hq]
  have:=(q.eT.df I (av hq)).ax;rw[g]at l;omega
 have nl:=λk=>JB (a:=a) ag k;refine dE (n:=s.ak.length) V (λk I e=>J D e/\gS D e aA 1 I ((Qs a s.ak k).map Ce.i)) ⟨J.aH _,by simpa[Qs]using gS.nil _ _ _ _⟩ ?_;rintro k I x aB μ hk ⟨E,o4⟩ az
 have e2:cQ ((c.len:Int) -1)=(s.ak.length:Int) -1:=by rw[aS V V];omega
 rw[e2];refine dit (λh1=>?_) λh1=>?_
 .let⟨f,o⟩:=cq s.ak k;have B:=q.ak f (av o);let⟨pr,Q⟩:=cq a.cy f.dW.toNat (by have:=B.dW;omega);have ep:dm a f.dW=pr:=by simp[dm,Q]
  have CD:=XU q.eT Q;have aH:=(q.eT.df pr (av Q)).ax;have j:=x2.trans E;let⟨ak,ai,eh,hr,ho,he,g0,g1,g2,g3,g4,g5⟩:=R.ak.aQ o;have ek:Int.toNat (k:Int)=k:=V;have e3:cQ ((k:Int)+1)=((k+1:Nat):Int):=by rw[aS V V];omega
  have an:Int.toNat ((k+1:Nat):Int)=k+1:=V;rw[ek,e3,an];refine⟨V,V,_,j.af g0,_,j.af g1,_,j.af g2,ak,j.af g3,ai,j.af g4,eh,j.af g5,?_⟩;intro m5 W;obtain⟨Z,B6,z6⟩:=iL (M:=x) (d:=m5) (c:=W) rfl rfl rfl;clear_value W;have X6:=j.trans Z;have aw:=B.pc;have aI:=B.dW;rw[ep]at aw;have e1:f.pc=(f.pc.toNat:Int):=V;have e4:f.dW=(f.dW.toNat:Int):=V;have ar:∀r∈[x.size,v.size,m.size],r<W.size:=λr u=>by
   rcases List.mem_cons.1 u with g|g
   .omega
   .exact(E.trans Z).lt (F r g)
  rw[e1,e4];refine(GD (af.ext X6) Q CD V V).mono λ_ X⟨t,g,Y,x7⟩=>⟨x7.de ar,t,g,?_⟩;rw[<-MM B ep]at Y;have aM:(jT a f).length<=2000:=bJ (ms _) (ag f (av o));have S:au X t (jT a f):=au.gG Y V;have X7:=X6.trans x7;have aL:=S.len;have ay:=nl k;obtain⟨P,hP,hw⟩:∃P:Int->Bool,(∀y,P y=match s.ak[k+1]? with|none=>true|some A=>!decide (y=A.dst))/\AB a s.ak k=dC f ((jT a f).filter P):=by
   refine⟨λy=>match s.ak[k+1]? with|none=>true|some A=>!decide (y=A.dst),λy=>rfl,?_⟩;cases C:s.ak[k+1]? with
   |none=>
    rw[PE o (List.getElem?_eq_none_iff.1 C),List.filter_eq_self.2 λ_ _=>rfl]
   |some A=>rw[PF o C]
  have B7:=B6.ext x7;have al:=Z.trans x7;refine dE (n:=(jT a f).length) V (λi h e=>J D e/\X.size<=e.size/\au e t (jT a f)/\cB e x.size eE [.i f.dW,.i f.pc,.i f.dst,.s ak,.s ai,.s eh]/\(h=.nil\/h.aC<x.size\/X.size<=h.aC)/\gS D e aA 1 h ((Qs a s.ak k++dC f (((jT a f).take i).filter P)).map Ce.i)) ⟨E.trans al,ad _,S,B7,o4.lt.imp id Or.inl,by simpa[dC]using o4.ext al⟩ ?_;rintro i h e ac ν hi ⟨L,z8,t8,K,n8,H⟩ ah;have X8:=x2.trans L;have ax:t=.nil\/W.size<=t.aC/\t.aC<X.size:=by
   rcases Y.aC with l|l
   .exact Or.inl l
   .rcases Y.lt with w|w
    .exact Or.inl w
    .exact Or.inr ⟨l,w⟩
  refine dit (λh2=>?_) λh2=>?_
  .let⟨y,T⟩:=cq (jT a f) i;have U:=GJ y (av T);have aK:=hr.len;have aD:(dC f (((jT a f).take i).filter P)).length<=2000:=by
    have:=il P ((jT a f).take i);simp only[eJ]at this;simp only[dC,dP];omega
   have aj:P y=true->jb (e.push (.cells (bE [.i (aQ f.ax y)]) aA)) aA [.i (0:Int)] 8 h (.mk e.size 0 1 1) λab G=>eF [x.size,v.size,m.size] (e.push (.cells (bE [.i (aQ f.ax y)]) aA)) G/\(ac ab (cQ ((i:Int)+1)) G/\ν ab (cQ ((i:Int)+1)) G<ν h (i:Int) e):=λb=>by
    have z:J e (e.push (.cells (bE [.i (aQ f.ax y)]) aA)):=J.push _ _;refine EP (H.ext z) ((L.trans z).fz []) (Pa e (aQ f.ax y)) (by simp only[aU,aY,cE];omega) λab G o9 f9 z9 k9 j9 i9=>?_;have zp:(e.push (.cells (bE [.i (aQ f.ax y)]) aA)).size=e.size+1:=aJ;have sm:eF [x.size,v.size,m.size] (e.push (.cells (bE [.i (aQ f.ax y)]) aA)) G:=λr u=>by
     rcases List.mem_cons.1 u with g|u
     .subst g;exact j9 _ ((K.ext z).lt) ((H.ext z).ne (K.ext z) bo)
     .exact k9 r (F r u)
    refine⟨sm,ah V _ _ ⟨f9.ext,V,?_,(K.ext z).congr (sm x.size aJ),?_,?_⟩⟩
    .refine au.iI (t8.ext z) ?_;rcases ax with l|l
     .rw[l];exact k9 0 (by have:=F v.size aJ;omega)
     .refine j9 _ V λN u=>?_;rcases n8 with w|w|w
      .exact N w
      .have:=Z.size;omega
      .omega
    .rcases i9 with N|N|N
     .exact Or.inl N
     .rw[N];rcases n8 with w|w
      .subst w;exact Or.inr (Or.inl (by show 0<_;have:=F v.size aJ;have:=E.size;omega))
      .exact Or.inr w
     .exact Or.inr (Or.inr V)
    .rw[MI T,ao b];simpa[dC]using o9
   have skip:P y=false->ac h (cQ ((i:Int)+1)) e/\ν h (cQ ((i:Int)+1)) e<ν h (i:Int) e:=λb=>ah V _ _ ⟨L,z8,t8,K,n8,by rw[MI T,ae (by simp[b]),eL];exact H⟩;have ey:Int.toNat y=y.toNat:=rfl;refine⟨V,V,y,by simpa using t8.aQ T,λw=>?_,λw=>?_⟩
   .simp only[aO]at w;refine⟨V,V,aQ f.ax y,by simpa using(hr.ext X8).aQ (pI U.1 U.2),aj ?_⟩;rw[hP,bV V]
   .simp only[ap,ne_eq]at w;let⟨A,C⟩:=cq s.ak (k+1);let⟨r',o',e',_,_,_,_,_,aq,_,_,_⟩:=R.ak.aQ C;refine⟨V,V,A.dst,X8.af aq,λN=>⟨V,V,aQ f.ax y,by simpa using(hr.ext X8).aQ (pI U.1 U.2),aj ?_⟩,λN=>skip ?_⟩
    .rw[hP,C];simpa using N
    .rw[hP,C];simpa using N
  .rw[dD V,<-hw]at H;have w:=az V h e ⟨L,H⟩
   rw[e3]at w;exact w
 .have g:k=s.ak.length:=V;subst g;have ay:=nl s.ak.length;have j:=x2.trans E;refine(IH (R.heap.ext j) aa.heap aa.lh am.heap (au.gG o4 V) (λw hw=>let⟨f,o,l⟩:=NS hw;(aa.ak f o).1 w l) V).mono λ_ m5⟨t,g,S,e⟩=>⟨e.de λr u=>E.lt (F r u),t,g,t,rfl,S,j.trans e⟩
end
end
section
variable{B:Nat}
def Vb{i:cr}{p:da}{t:List Nat}{o:Nat}{x:Instr}(h:Us i.bu t B o x)(g:Tg (p.bt.length -1) x)(A:0<p.bt.length)(C:x.dst<p.ax)(y:x.op<=23)(n:∀(s r:Nat),t[s]? =some r->∃q,i.cy[s]? =some q/\q.params.length=r/\q.dg=[]):kK i p o x:=by
 have a:=h.op;have z:=h.bY;have hd:=h.dst.1;unfold Sf at a;rcases tg x.op 12 with l|l
 .rw[ao l]at a;obtain⟨b,k,u,v⟩:=a;have j:x.op=0\/(x.op=1\/x.op=2\/x.op=3\/x.op=4\/x.op=11)\/x.op=5\/x.op=6\/x.op=9\/x.op=10:=V;unfold Ar at b;unfold kK;rcases j with e|e|e|e|e|e
  .rw[ao e]at b⊢;exact b
  .rw[ae V,ao e]at b⊢;exact b
  .rw[ae V,ae V,ao e]at b;rw[ae V,ae V,ao (Or.inl e)];exact b
  .rw[ae V,ae V,ae V,ao e]at b;rw[ae V,ae V,ae V,ao e];exact⟨b.1,b.2,V⟩
  .rw[ae V,ae V,ae V,ae V,ao e]at b;rw[ae V,ae V,ae V,ae V,ao (Or.inl e)];let⟨q,c,d,_⟩:=n _ _ b.2;exact⟨q,b.1,c,d⟩
  .rw[ae V,ae V,ae V,ae V,ae V,ao e]at b;rw[ae V,ae V,ae V,ae V,ae V,ao e];let⟨q,c,d,m⟩:=n _ _ b.2;exact⟨⟨q,b.1,c,d⟩,λw f=>by rw[c]at f;cases f;rw[m];rfl⟩
 .rw[ae V]at a;unfold kK;rw[ae V,ae V];by_cases e:x.op=14\/x.op=15\/x.op=18\/x.op=23
  .rw[ao e]at a;rw[ao (Or.inr e)];exact a
  rw[ae e]at a;rw[ae V,ae V,ae V,ae V];by_cases j:x.op=16\/x.op=17
  .rw[ao j]at a⊢;exact a
  rw[ae j]at a⊢;by_cases k:x.op=19
  .rw[ao k]at a⊢;exact a
  rw[ae k]at a⊢;by_cases b:x.op=20
  .rw[ao b]at a⊢;have:=g.1 (Or.inl b);exact⟨a.1,V⟩
  rw[ae b]at a⊢;by_cases f:x.op=22
  .rw[ao f]at a⊢;have:=g.1 (Or.inr f);exact⟨a.1,V⟩
  rw[ae f]at a⊢;obtain⟨v,c,d,m,w⟩:=a;rw[ao v];exact⟨c,d,V,λu h=>by have:=w u h;have:=g.2 u h;omega⟩
def Tw{f:List bq}{t:List (da×Ex)}{i:List eQ}{e:List da}{W:Nat}(l:GP f (t.map (·.1)))(U:i.length=t.length)(O:∀(k:Nat)(q:eQ),i[k]? =some q->Zc t k q)(Y:e.length=i.length)(Z:B<=1000000)(hW:6*W<=1000000)(C:yB e)
 (w:∀(k:Nat)(p:da),e[k]? =some p->∃q,i[k]? =some q/\PX f (pc i) B q p/\p.bt.length<=6*W):qQ 1000000 ⟨f,e⟩:=by
 have u:∀(k:Nat)(p:da),e[k]? =some p->∃y,(t.map (·.1))[k]? =some y/\p.params=y.params/\p.dg=[]/\p.aT=y.aT:=λk p g=>by
  obtain⟨q,m,a,-⟩:=w k p g;obtain⟨S,b,c,d,N⟩:=O k q m;exact⟨S.1,by rw[bT,b];rfl,a.params.trans c,a.dg.trans d,a.aT.trans N⟩
 have P:∀(n E:Nat),(pc i)[n]? =some E->∃q,e[n]? =some q/\q.params.length=E/\q.dg=[]:=λn E z=>by
  have Q:=az z;rw[Kx]at Q;let⟨p,D⟩:=cq e n;obtain⟨q,m,a,-⟩:=w n p D;obtain⟨_,_,_,v,_⟩:=u n p D;rw[Io m]at z;exact⟨p,D,by rw[a.params];exact lG z,v⟩
 refine⟨⟨pH l.ds,⟨C.gR,C.nv⟩,λp h=>?_,λp h=>?_⟩,λp h=>?_,dh _⟩
 .obtain⟨k,g⟩:=List.mem_iff_getElem?.1 h
  obtain⟨y,r,c,-,d⟩:=u k p g
  have j:=tJ _ (l.df y (av r))
  have hd:=mW f l.ds
  refine⟨by rw[c];exact j.1,λs o=>?_,?_⟩
  .rw[c]at o;have:=j.2.1 s o;exact⟨this.1,by show s<=(f.length:Int);omega⟩
  .rw[d];exact⟨j.2.2.1,by show y.aT<=(f.length:Int);omega⟩
 .obtain⟨y,r,c,-,d⟩:=u 0 p h
  have:=l.first y r
  exact⟨by rw[c,this.1];rfl,by rw[d,this.2]⟩
 .obtain⟨k,g⟩:=List.mem_iff_getElem?.1 h
  obtain⟨q,m,a,hw⟩:=w k p g
  obtain⟨y,r,c,d,-⟩:=u k p g
  have L:=(C.df p h).gR
  let⟨G,K⟩:=cq p.bt (p.bt.length -1)
  have X:=a.yU G K
  obtain⟨⟨M,-⟩,-,T⟩:=a.bt _ G K
  have R:1<=p.ax:=by
   have A:=M.ok.arg V;let⟨F,J⟩:=cq G.args 0;have:=T F (av J);have:=M.args F (av J);omega
  have I:=a.ax
  rw[<-a.params]at I
  refine⟨by rw[d];intro k F h;simp at h,⟨I.1,R,V⟩,⟨L,V⟩,λk s x=>?_,λs x=>Or.inl (a.yU s x)⟩
  obtain⟨⟨b,o⟩,hd,j⟩:=a.bt k s x
  refine⟨λH h=>⟨(b.args H h).1,by have:=j H h;omega⟩,⟨b.dst.1,V⟩,b.UZ,b.bY.imp id And.left,b.di.imp id λv=>by rw[v];rfl,Vb b o L hd ?_ P⟩
  have A:=b.op
  unfold Sf at A
  rcases tg s.op 24 with h|h
  .omega
  .rw[ae V,ae V,ae V,ae V,ae V,ae V]at A
   omega
end
section
section
variable{a:List Nat}{m:E}{b P:Nat}{c:O}
def yd(i:∀d∈a,d<m.size)(x:b∈a)(q:Rd b c P m)(hP:P+3000+4*(300+40*Cg 18)<=10^16):aP cv 21 [vp b 0] m λal z=>AR a al z/\Fz [b] m z/\Rd b c (P+3000+4*(300+40*Cg 18)) z:=by
 apply tG (b,0);simp -zeta only[aG,aF];have f:=q.lt;intro d K;have b2:BS [d.size,m.size] b c m P K:=BS.Zl (BS.lj (S:=a) q _).1 _;have s1:d.size=m.size+1:=by simp[d]
 clear_value K;refine(sP (b2.hS i) (by simp[x]) b2.s.r V).mono λ_ m3⟨R,ai,o,ap,e,hd,j,H,r3,F⟩=>⟨(b2.lw f λ_ h=>h).de F,R,ai,e,?_⟩;have b3:=b2.to F r3;refine(vF (b3.hS i) (hd.le (bA _ _)) (eO.le j (bA _ _) λ_ _=>XG.mono.le (bA _ _)) H).mono λ_ m4⟨T,r4,rs,e,n4,⟨ae,aq,aj⟩,C⟩=>⟨(b3.lw f λ_ h=>h).de (C.fz _),T,r4,e,?_⟩;have b4:=b3.to (C.fz _) (b3.s.r.ext C);refine(zC (b4.hS i) (n4.le (bA _ _)) ae).mono λ_ m5⟨U,r5,av,e,n5,⟨ag,ar,ak⟩,D⟩=>⟨(b4.lw f λ_ h=>h).de (D.fz _),U,r5,e,?_⟩;have b5:=b4.to (D.fz _) (b4.s.r.ext D);refine(zG (b5.hS i) (n5.le (bA _ _)) ag (C:=418003) ⟨V,V⟩).mono λ_ k⟨n,u,v,e,X,Z,⟨pk,ac,px⟩,E⟩=>⟨(b5.lw f λ_ h=>h).de (E.fz _),n,u,e,?_⟩;have b6:=b5.to (E.fz _) (b5.s.r.ext E);have ah:qQ 1000000 ⟨o,v⟩:=Tw H.gp V (λg A t=>by
  obtain⟨G,w,p,r,s⟩:=ak g A t;obtain⟨I,y,l,a2,a3⟩:=aj g G w;exact⟨I,y,p.trans l,r.trans a2,s.trans a3⟩) ac bo bo pk px
 have t6:IT (bI ([d.size,m.size]++a) k) n u (o,v):=⟨X,Z⟩;intro m7 l;obtain⟨g,l8,-⟩:=b6.box (S:=a) (m1:=m7) (m2:=l) rfl rfl rfl;clear_value l;have A:=IT.mn _ _ _ _ _ l8 t6;have y:=g.fS;have I:Le (bI ([k.size,d.size,m.size]++a) l) (bI [b] l):=gL _ (by simp[x]);refine(vx (c:=⟨o,v⟩) g.s.r V (A.1.le I) (gT.le I A.2) ah).mono λ_ m9⟨au,ro,bC,j,w,s,e,N,hn,Y,L,r,r9,p⟩=>?_;have G:∀t,af m9 k.size t=af l k.size t:=λt=>kg p f (y _ aJ) t;refine⟨(g.lw f λ_ h=>h).de p,_,_,_,_,bC,j,w,e,G _,G _,?_⟩;intro ad J;have t9:=IT.mn _ _ _ _ _ (BS.le (B:=[k.size,d.size,m.size]) x p) A;let⟨Q,aa⟩:=(g.to p r9).put (S:=a) q (by simp:m.size∈_) [.s n,.s u];let⟨h,ab⟩:=Q.put (S:=a) q (by simp:d.size∈_) [.i s.cY,.i s.value,.i s.bO,.i s.eH,.s bC,.s j,.s w];have M:=IT.mn _ _ _ _ _ ((aa.trans ab).trans (gL _ λ_=>dw _)) t9;have ha:=y m.size aJ;have hb:=y d.size aJ;have ao:=jF Y;refine⟨⟨n,u,⟨o,v⟩,bC,j,w,s,rfl,⟨M.1,M.2⟩,?_,L.Yk r bo,by have:=r.bC;omega,by have:=r.heap;omega⟩,h.s.f,h.s.r.mono V⟩;refine(N.old (M':=bI a J) (by rw[O8];simp[J,ad,aD]) λO am an=>?_).IK (L.jh r bo);rw[O6 λW=>by have:=i O W;have:=g.s.f.size;omega];exact(bh _ _ _ _ V).trans (bh _ _ _ _ V)
end
section
variable{m:E}
def wo{S:List Nat}(U:∀h∈S,h<m.size){bt:O}(z:HU m bt):aP cv 5 [O.v bt] m λv N=>AR S v N/\J m N:=by
 apply sO;simp -zeta only[aG,aF];intro b c;let⟨d,l⟩:=dk (a:=b) (c:=c) rfl rfl;have s1:b.size=m.size+1:=by simp[b]
 clear_value c;refine(Hv (z.ext d)).mono λ_ m3⟨bs,e,Q,u⟩=>⟨u.de l,(c.size,0),e,?_⟩;have hr:=Q.lt;have hm:=l m.size aJ;have ac:=l b.size aJ;have de:∀{M C:E},m3.size<=M.size->Fz [c.size] M C->eF [b.size,m.size] M C:=λhz f=>f.de λg k=>by have:=l g k;have:=u.size;simp only[fP];omega
 refine(bX Q bo 2).mono λ_ B⟨Z,e,i,j,R,x⟩=>⟨de (ad _) x,Z,e,?_⟩;have z4:=x.size;have hO:∀(v:Value)(a:E),AR ([b.size,m.size,c.size]++S) v a->Fz [c.size] B a->eF [b.size,m.size] B a/\∃s t:O,∃i j n o:Int,∃p q r:O,v=.tuple #[.agg #[O.v s,O.v t],.agg #[vi i,vi j,vi n,vi o,O.v p,O.v q,O.v r]]/\
  (AR S (.tuple #[.agg #[O.v s,O.v t],.agg #[vi i,vi j,vi n,vi o,O.v p,O.v q,O.v r]]) (aj (aj a m.size 0 [.s s,.s t]) b.size 0 [.i i,.i j,.i n,.i o,.s p,.s q,.s r])/\J m (aj (aj a m.size 0 [.s s,.s t]) b.size 0 [.i i,.i j,.i n,.i o,.s p,.s q,.s r])):=λv a⟨D,P,im,bC,L,F,ab,e,K,Y,X⟩ y=>by
  refine⟨de z4 y,D,P,_,_,_,_,bC,L,F,e,?_⟩
  have z5:=y.size
  have A:∀{aa l':List Ce},Le (bI ([b.size,m.size,c.size]++S) a) (bI S (aj (aj a m.size 0 aa) b.size 0 l')):=λg ae v z=>by
   let⟨G,H⟩:=eA.1 z;simp at G;refine eA.2 ⟨G.2.2.2,?_⟩;rw[aM ((bh _ _ _ _ V).trans (bh _ _ _ _ V))];exact H
  refine⟨⟨D,P,im,bC,L,F,ab,rfl,⟨K.bu.le A,gT.le A K.cy⟩,Y.le A,X⟩,?_⟩
  have f:Fz [c.size] c a:=((u.fz _).trans x).trans y
  have T:J m a:=⟨by have:=d.size;have:=u.size;omega,λg k=>(f.same g (d.lt k) (by have:=d.size;simp;omega)).trans (d.same g k)⟩
  exact(T.aj V _ _).aj V _ _
 have I:∀h∈[b.size,m.size,c.size]++S,h<B.size:=λh W=>by
  have H:=d.size;rcases List.mem_append.1 W with e|e
  .simp at e;omega
  .have:=U h e;omega
 refine⟨λ_=>?_,λ_=>?_⟩
 .exact(yd I aJ R (by simp[Cg])).mono λv a⟨w,f,_⟩=>hO v a w f
 .exact(Fb I aJ R (by simp[Cg])).mono λv a⟨w,f,_⟩=>hO v a w f
end
end
section
section
variable{m:E}{s a:O}{l:List Int}{h:List bU}
def oT(c:au m s l)(e:Int):dA cv 11 [O.v s,vi e] m (e∈l):=by
 apply IJ;have i:=c.len;refine eu (n:=l.length) (i▸c.fA) (λk M=>J m M/\e∉l.take k) ⟨J.aH _,aJ⟩ ?_;rintro k p I μ o ⟨x,b⟩ j
 refine dit (λg=>?_) λg=>?_
 .let⟨y,d⟩:=cq l k;refine⟨V,V,y,by simpa using(c.ext x).aQ d,λa=>jt ?_ x,λa=>j V _ ⟨x,?_⟩⟩
  .simp at a;exact a▸av d
  .simp at a;rw[bF d,lE];simp only[fP];exactλh=>h.elim b λf=>a f.symm
 .rw[cG V]at b;exact cw b x
def wZ(b:au m s l)(a:l.Pairwise (·<·)):dA cv 12 [O.v s] m True:=by
 apply C3;have p:=b.len;have fA:=b.fA;refine wW (γ:=Nat) (λk i M=>i=(k:Int)+1/\J m M) (λk=>l.length -k) 0 ⟨rfl,J.aH _⟩ ?_;rintro k _ r I μ ⟨rfl,x⟩ o
 refine⟨λh=>?_,λh=>jt trivial x⟩;simp only[aq]at h;let⟨y,e⟩:=cq l (k+1);let⟨z,f⟩:=cq l k;have g:cQ ((k:Int)+1 -1)=k:=by rw[aS V V];omega
 have c:Int.toNat ((k:Int)+1)=k+1:=V;have j:cQ ((k:Int)+1+1)=((k+1:Nat):Int)+1:=by rw[aS V V];omega
 have q:z<y:=by
  let⟨n,i⟩:=List.getElem?_eq_some_iff.1 f;let⟨d,c⟩:=List.getElem?_eq_some_iff.1 e;have:=List.pairwise_iff_getElem.1 a k (k+1) n d V;rw[i,c]at this;exact this
 rw[g,c,j];exact⟨V,V,y,by simpa using(b.ext x).aQ e,V,V,z,by simpa using(b.ext x).aQ f,λd=>by simp at d;omega,λ_=>o (k+1) _ _ ⟨rfl,x⟩ (by show l.length -(k+1)<l.length -k;omega)⟩
end
section
variable{m:E}
end
end
section
section
open Tryz
variable{m:E}{R:Value->E->Prop}
def uq(a:O):=cW m R ⟨[(9,[(7,.I)])],[],[(9,[84,83])]⟩ [a] func3
end
section
variable{m:E}{d p bC b c:O}{a:cr}{s:St}
def A2(l:eY m d p a)(o:fQ m bC b c s)(k:vO s):qR 6 [.agg #[O.v d,O.v p],Ox s bC b c] m (needL a s):=by
 apply wa;simp -zeta only[aG,aF];intro x q;let⟨f,n⟩:=dk (a:=x) (c:=q) rfl rfl;clear_value q;refine(nJ (l.ext f) (o.ext f) k).aK (J.aH _) n λh y e j _=>⟨h,rfl,λi=>⟨.nil,rfl,?_,f.trans j⟩,λi=>?_⟩
 .rw[needL,ae (nb e i)];exact⟨rfl,dy _,aJ,aJ⟩
 have r:=yb e i;have g:=f.trans j;refine(ru (l.ext g) (o.ext g) k r).mono λ_ z⟨t,v,w,u⟩=>⟨u.de λh e=>j.lt (n h e),t,v,t,rfl,?_,g.trans u⟩;rw[needL,ao r];exact w
open Classical in
def IG(P:eY m d p a)(v:fQ m bC b c s)(C:vO s):qR 10 [.agg #[O.v d,O.v p],Ox s bC b c] m (Qf a s):=by
 apply CU;simp -zeta only[aG,aF];intro R S;let⟨x,u⟩:=dk (a:=R) (c:=S) rfl rfl;clear_value S;refine(nJ (P.ext x) (v.ext x) C).aK (J.aH _) u λg m3 h o _=>⟨g,rfl,λi=>⟨.nil,rfl,?_,x.trans o⟩,λi=>?_⟩
 .rw[Qf,ae (nb h i)];exact⟨rfl,dy _,aJ,aJ⟩
 have X:=yb h i;have A:=x.trans o;have fA:=C.lh;have aj:=v.heap.len;refine(ru (P.ext A) (v.ext A) C X).mono λ_ T⟨ag,j,ht,y⟩=>⟨y.de λg h=>o.lt (u g h),ag,j,?_⟩;have K:=A.trans y;have ak:=ms (f:=λe=>decide (Iy s.heap (ry a s.ak) e)) s.heap.length;rw[Qf,ao X];refine dE (n:=s.heap.length) V (λk F l=>J T l/\gS T l aA 1 F ((me (λe=>decide (js s.heap e/\¬Iy s.heap (ry a s.ak) e)) k).map Ce.i)) ⟨J.aH _,by simpa[me]using gS.nil _ _ _ _⟩ ?_;rintro k F U ah μ hk ⟨G,o5⟩ E
 have pl:=ms (f:=λe=>decide (js s.heap e/\¬Iy s.heap (ry a s.ak) e)) k;refine dit (λh1=>?_) λh1=>?_
 .let⟨L,B⟩:=cq s.heap k;let⟨ai,hF,g0,g1,g2⟩:=cX.aQ (cX.ext (K.trans G) v.heap) B;have Z:Int.toNat (k:Int)=k:=V;rw[Z];refine⟨V,V,_,g0,_,g1,_,g2,?_⟩;intro m6 D;obtain⟨z,Y,z7⟩:=iL (M:=U) (d:=m6) (c:=D) rfl rfl rfl;clear_value D;have q:=G.trans z;have l7:∀g∈[U.size,R.size,m.size],g<D.size:=λg h=>by
   rcases List.mem_cons.1 h with j|j
   .omega
   .exact((o.trans y).trans q).lt (u g j)
  have ab:¬0<L.aV->me (λe=>decide (js s.heap e/\¬Iy s.heap (ry a s.ak) e)) (k+1)=me (λe=>decide (js s.heap e/\¬Iy s.heap (ry a s.ak) e)) k:=λhn=>by
   rw[me,ae,eL];simp only[aq];rintro⟨⟨c',N,b⟩,_⟩;rw[B]at N;cases N;exact hn b
  refine⟨λe=>?_,λe=>?_⟩
  .simp only[iX,aq]at e;refine(wm (ht.ext q) k).aK (J.aH _) l7 λg w h r _=>⟨g,rfl,λt=>?_,λt=>?_⟩;all_goals
    have Q:g=true<->Iy s.heap (ry a s.ak) k:=by
     rw[h,qD];constructor
     .rintro⟨l,_,j,i⟩;have:l=k:=V;subst this;simpa using i
     .exactλi=>⟨k,V,rfl,by simpa using i⟩
   .intro l;have H:J w l:=J.push _ _;have i9:au l (.mk w.size 0 1 1) [(k:Int)]:=Pa w k;have z9:l.size=w.size+1:=by simp[l]
    clear_value l;have W:=((o5.ext z).ext r).ext H;have I:=(Y.ext r).ext H;refine EP W (((q.trans r).trans H).fz []) i9 (by simp only[aY,cE];omega) λam al af aa an ad ac _=>⟨λg h=>?_,E V _ _ ⟨aa.ext,?_⟩⟩
    .rcases List.mem_cons.1 h with j|h
     .subst j;exact ac _ I.lt (W.ne I bo)
     .exact ad g ((o.trans y).lt (u g h))
    .rw[me,ao];exact af;simp only[aq];exact⟨⟨L,B,e⟩,λi=>by rw[Q.2 i]at t;simp at t⟩
   .refine E V _ _ ⟨q.trans r,?_⟩
    rw[me,ae,eL];exact(o5.ext z).ext r;simp only[aq];exactλi=>i.2 (Q.1 (by simpa using t))
  .simp only[iX,bD]at e;exact E V _ _ ⟨q,by rw[ab e];exact o5.ext z⟩
 .have j:k=s.heap.length:=V;subst j;exact⟨F,rfl,au.gG o5 V,K.trans G⟩
end
def TO{a:cr}{s:St}:(needL a s).Pairwise (·<·):=by
 unfold needL;split
 .exact y8 _
 .exact List.Pairwise.nil
def Tq{a:cr}{s:St}:(Qf a s).Pairwise (·<·):=by
 unfold Qf;split
 .exact y8 _
 .exact List.Pairwise.nil
section
variable{m:E}{a b c:O}{d e:List Int}{h:List bU}
end
section
variable{m:E}
def xK{bt:O}(h:HU m bt):aP cv 3 [O.v bt] m (LwR m):=by
 apply uq;simp(config:={maxSteps:=1000000}) -zeta only[aG,aF];refine⟨λ_=>⟨rfl,J.aH _⟩,λ_=>?_⟩;refine(wo (S:=[]) aJ h).mono λ_ f⟨⟨U,ae,C,bC,K,fr,p,e,hi,hs,r,_⟩,x1⟩=>⟨U,ae,_,_,_,_,bC,K,fr,e,?_⟩;have v:eY f U ae C:=⟨hi.bu.le (bA _ _),gT.le (bA _ _) hi.cy⟩;have o:=hs.le (bA _ _);intro l a2 a3 a4;have z1:l.size=f.size+1:=by simp[l]
 have P:J f a4:=(((J.push f _).trans (J.push l _)).aj (ad _) _ _).aj V _ _;have z4:a4.size=f.size+2:=by simp[a4,a3,a2,l,aD]
 clear_value a4;have hl:∀b∈[l.size,f.size],b<a4.size:=bS;refine(A2 (v.ext P) (o.ext P) r).mono λ_ m5⟨al,e,w,Q⟩=>⟨Q.de hl,al,e,?_⟩;have j:=P.trans Q;have i:∀b∈[l.size,f.size],b<m5.size:=λb c=>Q.lt (hl b c);refine(rC (v.ext j) (o.ext j) r).mono λ_ m6⟨N,e,L,R⟩=>⟨R.de i,N,e,?_⟩;refine(tT (w.ext R) L).aK R i λb m7 c x7 u7=>⟨b,rfl,?_⟩;obtain rfl:=c.2 rfl;have T:=j.trans u7;refine⟨sx,λ_=>?_⟩;refine(nJ (v.ext T) (o.ext T) r).aK u7 i λq au hc ay t=>⟨q,rfl,λI=>?_,λhy=>?_⟩;all_goals have z:=j.trans t
 .exact(rC (v.ext z) (o.ext z) r).mono λ_ k⟨N,e,L,d⟩=>⟨d.de (λb c=>t.lt (i b c)),N,e,(tT (w.ext (t.trans d)) L).aK (t.trans d) i λb u c x g=>⟨b,rfl,by rw[c.2 rfl],(x1.trans j).trans g⟩⟩
 have ok:=yb hc hy;have ar:=o.heap.len;have fA:=r.lh;refine(IG (v.ext z) (o.ext z) r).mono λ_ aa⟨am,e,B,ag⟩=>⟨ag.de (λb c=>t.lt (i b c)),am,e,?_⟩;have u:=t.trans ag;have g:∀b∈[l.size,f.size],b<aa.size:=λb c=>u.lt (i b c);refine eu (n:=p.heap.length) V (λk M=>J aa M) (J.aH _) ?_;rintro k av ao μ hk y M
 have an:=TO (a:=C) (s:=p);have aj:=Tq (a:=C) (s:=p);have af:=w.ext (u.trans y);have ax:=B.ext y;refine⟨λW=>?_,λW=>(wZ af an).aK y g λb ab c ah d=>⟨b,rfl,λ_=>(wZ (B.ext d) aj).aK d g λb ac c ai x=>⟨b,rfl,by rw[c.2 trivial],((x1.trans j).trans u).trans x⟩,λh=>by rw[c.2 trivial]at h;simp at h⟩⟩;simp only[aq]at W;let⟨q,H⟩:=cq p.heap k;let⟨ap,hF,g0,g1,g2⟩:=cX.aQ (cX.ext ((j.trans u).trans y) o.heap) H;have Y:0<q.aV<->js p.heap k:=⟨λh=>⟨q,H,h⟩,λ⟨D,A,K⟩=>by rw[H]at A;cases A;exact K⟩;have F:=TP ok (a:=k);have X:=Ts ok (a:=k);refine⟨V,V,q.aV,by simpa using g0,?_⟩;refine(oT af k).aK y g λb aw c az D=>⟨b,rfl,λA=>?_,λA=>?_⟩
 .have hr:=F.1 (c.1 A);have ak:=Y.2 hr.lv;refine⟨λh3=>by simp[ak]at h3,λ_=>?_⟩;refine(oT (w.ext (u.trans D)) k).aK D g λb2 ab Z ah d=>⟨b2,rfl,λ_=>?_,λ_=>M V _ d⟩;exact(oT (B.ext d) k).aK d g λb3 ac G ai x=>⟨b3,rfl,λE=>absurd hr (X.1 (G.1 E)).2,λ_=>M V _ x⟩
 .have I:¬Iy p.heap (ry C p.ak) k:=λh=>by rw[c.2 (F.2 h)]at A;simp at A
  refine(oT (B.ext D) k).aK D g λb2 ab Z ah d=>⟨b2,rfl,?_⟩;have ak:decide (0<q.aV)=b2:=by
   rw[lD,aai,Z,X,Y];exact⟨λh=>⟨h,I⟩,λh=>h.1⟩
  simp only[iX,ak];refine⟨λh=>by simp at h,λ_=>?_⟩;exact(oT (w.ext (u.trans d)) k).aK d g λb3 ac G ai x=>⟨b3,rfl,λE=>absurd (F.1 (G.1 E)) I,λ_=>M V _ x⟩
end
end
end Go.Proofs.YtdalfjkmdekijaaGreat
section
namespace Go.Vc
variable{t:TypeId}{a:Addr}
open Go.ChangeShapes Go.WideShapes Go.RowKit
section
variable{H:Type}{b:TypeId×Value->H}{P:Program}{w:World}
def SC(b:TypeId×Value->H)(P:Program)(w:World)(t:TypeId)(Q:List Ce->Prop):Prop:=
 ∀(n:Nat)(a:List Value)(x:DataW H×List MemPlace),DataW.trod b P w 0 (λ_=>true) true n t a=some x->∃c,a=c.map Ce.v/\Q c
def SC.mono{Q Q':List Ce->Prop}(h:SC b P w t Q)(f:∀a,Q a->Q' a):SC b P w t Q':=λn a x g=>
 let⟨c,d,e⟩:=h n a x g
 ⟨c,d,f _ e⟩
def RD{v:Value}(h:w.cell? a=some v):a.spot=none:=by
 unfold World.cell? at h;split at h
 .split at h
  .cases h
  .rename_i b;simpa using b
 .cases h
def RB(h:a.spot=none)(i:Nat):a.add i=⟨a.block,a.off+i,none⟩:=by
 obtain⟨c,o,s⟩:=a;simp only at h;subst h;unfold Addr.add;by_cases b:i=0
 .subst b;simp
 .simp[b]
end
section
variable{H:Type}{b:TypeId×Value->H}{P:Program}
def CF(l:laidOutB P=true){W j:World}(k:Below W.heap.size W j):∀{f:List TypeId}{i:List Value}{g:List (DataW H)}{d:List MemPlace},
 (f.all λt=>P.readableRec t&&decide (t<P.types.size))=true->DataW.TrodAll b P W 0 (λ_=>true) true f i g d->(∀x∈d,x.block<W.heap.size)->∀e:Nat->Bool,(∀p∈d,e p.block=true)->
 DataW.TrodAll b P j 0 e true f i g d
 |[],_,_,_,_,h,_,_,_=>by
  obtain⟨rfl,rfl,rfl⟩:=trodAll_nil h;exact trodAll_mk0
 |t::f,_,_,_,c,h,m,e,n=>by
  obtain⟨v,i,s,g,p,r,rfl,rfl,rfl,o,q⟩:=trodAll_cons h;simp only[Nj,bK,aq]at c;exact⟨p,r,WideElems.Trod_stays l c.1.1 c.1.2 o (λx a=>k.same (m x (by simp[a]))) (λx a=>n x (by simp[a])),CF l k (by simpa using c.2) q (λx a=>m x (by simp[a])) e (λx a=>n x (by simp[a])),rfl⟩
def LY{f:Func}{s:ChangeSpec}{W g:World}{i:Array Value}{d:List (DataW H)}{o:List MemPlace}
 (J:laidOutB P=true)(L:(f.params.toList.all λt=>P.readableRec t&&decide (t<P.types.size))=true)(z:f.resultTypes=#[t])(v:P.underlying t=some .bool)(B:s.vars=[])
 (j:DataW.Whole b P f.params.toList s.vars false W i.toList d [] o)(F:(s.fn H (d++[])).args=d)(G:(s.fn H (d++[])).results=[.lit (.bool true)])(I:(s.fn H (d++[])).vars=[])
 (k:Below W.heap.size W g):s.post b P f false true false false W i (.bool true) g:=by
 have h:∀a∈o,a.block<W.heap.size:=λa l=>by simpa using j.lt a l
 have r:=j
 obtain⟨a,N,E,q,rfl,C,M⟩:=j
 rw[B]at q
 obtain⟨_,rfl⟩:=trodVars_none q
 simp only[eL]at h C r
 have u:∀c:Nat->Bool,(∀x∈a,c x.block=true)->DataW.TrodAll b P g 0 c true f.params.toList i.toList (s.fn H (d++[])).args a:=λc K=>by
  rw[F];exact CF J k L E h c K
 have A:∀c:Nat->Bool,DataW.TrodVars b P g c s.vars (s.fn H (d++[])).vars []:=λc=>by rw[B,I];rfl
 have y:∀(e:Nat)(c:Nat->Bool)(hd:Bool),DataW.TrodAll b P g e c hd f.resultTypes.toList ((Value.bool true).resultList f.resultTypes.size) (s.fn H (d++[])).results []:=λe c hd=>by
  rw[G,z];exact trodAll_cons_mk (shut_bool v _) trodAll_mk0
 refine⟨d,[],a,[],a,[],r,y _ _ _,u _ (λx m=>by simpa using h x m),A _,k.frame _,λ_=>?_⟩
 refine⟨ok_one z rfl (okWide_bool_mk v _),_,_,([]++a)++[],⟨[]++a,[],trodAll_append (u _ (λ_ _=>rfl)) (y _ _ _),A _,rfl,?_,λD=>by cases D⟩,?_⟩
 .intro e n l
  have w:MemPlace.cell e n∈a:=by simpa using l
  rw[k.frozen (p:=⟨e,n,none⟩) (h _ w)]
  exact C e n w
 .intro x m _
  simpa using m
end
end Go.Vc
end
section
namespace Go.Proofs.YtdalfjkmdekijaaGreat
open Go.Vc Go.ChangeShapes
def RS{H:Type}{x:TypeId×Value->H}{P:Program}{w:World}{t e r:Nat}{v:Value}{u:DataW H}{I:List MemPlace}(p:P.underlying t=some (.slice e))(B:P.underlying e=some (.int .u8))(A:P.cellsOf e=1)
 (E:Value.okWide P w .any r t v)(y:DataW.Trod x P w 0 (λ_=>true) true t v u I):∃s,v=O.v s/\HU w.heap s:=by
 obtain⟨J,q,h,rfl⟩:=Go.WideShapes.okWide_slice p E
 obtain⟨L,C⟩:=y
 rcases open_ints p B A C with⟨b,_⟩|⟨d,N,K,g,b,_,D,M,G,_,l,F⟩
 .simp[Value.cells]at b
  obtain⟨rfl,rfl,rfl⟩:=b
  exact⟨.nil,rfl,ad _,λk a=>by simp at a⟩
 .simp[Value.cells]at b
  obtain⟨rfl,rfl,rfl⟩:=b
  simp only[Ly]at G
  rcases iS h with i|i
  .subst i
   have:q=0:=V
   subst this
   obtain⟨c,o,s⟩:=d
   cases s with
   |none=>exact⟨.mk c o 0 0,rfl,ad _,λk a=>by simp at a⟩
   |some f=>exact⟨.CS c o f,rfl,ad _,λk a=>by simp at a⟩
  .have z:=l 0 V
   have n:d.spot=none:=by
    have:=RD z;simpa[Addr.add]using this
   obtain⟨c,o,s⟩:=d
   simp only at n
   subst n
   refine⟨.mk c o q h,rfl,D,λk a=>?_⟩
   simp only[O.dU]at a
   have m:k<g.length:=V
   have j:=l k m
   have f:=F (g.getD k 0) (by rw[jm,List.getElem?_eq_getElem m];simp)
   rw[Lit.wf,bK,aq,aq]at f
   refine⟨g.getD k 0,f.1,f.2,?_⟩
   .rw[RB rfl,yI]at j
    simpa using j
end Go.Proofs.YtdalfjkmdekijaaGreat
end
