/- Part of a proof. -/
import Derived.Test.YtghjegjkpepmpaaGreatSO02
set_option linter.all false
set_option maxHeartbeats 8000000
set_option maxRecDepth 100000
namespace Go.Proofs.YtghjegjkpepmpaaGreat
open Go.Vc
section
variable{m:E}{t:O}{b:Bk}{a:List Nat}
def RO(a:Int)(l:List cZ):Nat:=l.countP λs=>s.op=a
def Ys:∀l:List cZ,RO 14 l+RO 15 l<=l.length
 |[]=>by simp[RO]
 |s::l=>by
  have:=Ys l;simp only[RO,List.countP_cons,be]at this⊢;by_cases h:s.op=14
  .simp[h];omega
  .by_cases a:s.op=15
   .simp[a];omega
   .simp[h,a];omega
def TR(a:Int)(l:List cZ)(s:cZ):RO a (l++[s])=RO a l+(if s.op=a then 1 else 0):=by
 simp[RO,List.countP_append,List.countP_cons]
def Je(g:eR m t b.aE):tr 241 [.agg #[O.v t,vi b.aT]] m λk=>0<=k/\k<=b.aE.length/\∀(i:Nat)(a:cZ),b.aE[i]? =some a->(i:Int)<k->a.op=14\/a.op=15:=by
 apply BC;simp -zeta only[aD,aC];intro c;have G:J m c:=J.push _ _;have z:∀q∈[m.size],q<c.size:=by simp[c]
 clear_value c;have A:=g.len;refine dW (n:=b.aE.length) (A▸g.gX) (λk M=>J c M/\∀(i:Nat)(a:cZ),b.aE[i]? =some a->i<k->a.op=14\/a.op=15) ⟨J.aA _,λi a _ h=>V⟩ ?_;rintro k M L μ S ⟨o,l⟩ D
 have u:=G.trans o;have R:∀{j:E},J m j->∃f:Int,vi (k:Int)=vi f/\(0<=f/\f<=b.aE.length/\∀(i:Nat)(a:cZ),b.aE[i]? =some a->(i:Int)<f->a.op=14\/a.op=15)/\J m j:=λI=>⟨k,rfl,⟨V,V,λi a d h=>l i a d V⟩,I⟩;refine⟨λh=>?_,λh=>R u⟩;simp only[ar]at h;let⟨a,d⟩:=cL b.aE k;let⟨p,C,P,T,s,g1,g2,v,w⟩:=g.aF d;refine⟨V,V,_,u.af s,_,u.af g1,_,u.af g2,_,u.af v,_,u.af w,?_⟩;refine(Bh (x:=a) p C M).aJ o z λN U y H F=>⟨_,rfl,λB=>D V _ ⟨F,λi K e Q=>?_⟩,λ_=>R (u.trans H)⟩;by_cases r:i=k
 .subst r;rw[d]at e;simp at e;subst e;exact y.1 B
 .exact l i K e V
def yx(L:∀g∈a,g<m.size)(C:eR m t b.aE){d:Nat}(hm:d<=b.aE.length)(e:Int)(K:∀(i:Nat)(s:cZ),b.aE[i]? =some s->i<d->0<s.args.length)(hb:b.aE.length<=10^12):
 lE 242 [.agg #[O.v t,vi b.aT],vi d,vi e] m a λl=>(∀y∈l,∃(i:Nat)(s:cZ),i<d/\b.aE[i]? =some s/\y∈s.args)/\l.length<=RO e (b.aE.take d):=by
 apply CK
 simp -zeta only[aD,aC]
 intro c w
 have z:J m c:=J.push _ _
 have N:∀g∈[m.size],g<c.size:=by simp[c]
 have Q:J c w:=J.push _ _
 have I:GI a c w (.mk c.size 0 0 0) []:=GI.nil a c
 clear_value w
 clear_value c
 have ac:=C.len
 refine eB (n:=d) V (λk s M=>J c M/\∃l,GI a c M s l/\(∀y∈l,∃(i:Nat)(s:cZ),i<d/\b.aE[i]? =some s/\y∈s.args)/\l.length<=RO e (b.aE.take k)) ⟨Q,[],I,aN,aN⟩ ?_
 rintro k s M S μ hk ⟨p,l,q,v,P⟩ E
 have u:=z.trans p
 refine dit (λr=>?_) λr=>?_
 .let⟨x,o⟩:=cL b.aE k
  let⟨U,kk,B,ab,F,W,X,G,Y⟩:=C.aF o
  have Z:=B.len
  have:=K k x o V
  let⟨y,D⟩:=cL x.args 0
  have j:RO e (b.aE.take (k+1))=RO e (b.aE.take k)+(if x.op=e then 1 else 0):=by rw[aV o,TR]
  have aa:RO e (b.aE.take k)<=(b.aE.take k).length:=List.countP_le_length
  have ad:=qY k b.aE
  refine⟨V,V,_,u.af F,λh=>⟨V,V,_,u.af G,bn,V,y,(B.ext u).aF D,?_⟩,λh=>E V _ _ ⟨p,l,q,v,?_⟩⟩
  .intro m3
   simp only[aG]at h
   rw[ao h]at j
   refine GI.kY q (p.fz []) (λg j=>z.lt (L g j)) V λaf T H A _ _=>⟨J.oV (p.aL _) A.ext N,E V _ _ ⟨A.ext,_,H,λR f=>?_,bG⟩⟩
   rcases List.mem_append.1 f with f|f
   .exact v R f
   .simp at f;subst f;exact⟨k,x,V,o,aq D⟩
  .simp only[aj]at h
   rw[ae h]at j;omega
 .have f:k=d:=V
  subst f
  exact⟨s,l,rfl,q.cA (λ_ r=>r) z.size,⟨v,P⟩,u⟩
def RP:∀{l:List cZ},(∀x∈l,dn x=0)->dc l=0
 |[],_=>rfl
 |x::l,h=>by rw[k8,h x aZ,RP λy a=>h y (ah _ a)]
def UA:∀{l:List cZ},(∀x∈l,2<=x.w)->2*l.length<=sw l
 |[],_=>aN
 |x::l,h=>by
  have b:=h x aZ;have c:=UA λy a=>h y (ah _ a);rw[mW,be];omega
def Mu(hS:∀c∈a,c<m.size){X:O}{q:List Int}{ds:List bB}{nr g:Nat}(o:eR (bI a m) t b.aE)(hf:ap m X q)(bm:q.length<=3)(am:WB ds nr True (g+q.length) b)(hw:b.w<=100000000000)(ha:g<=10^12){h:Int}(hx:0<=h/\h<(g:Int)):
 nK 217 [.agg #[O.v t,vi b.aT],vi h,O.v X,vi g] m a λb'=>WB ds nr True (g+q.length) b'/\b'.w<=b.w+8:=by
 apply Fb
 simp -zeta only[aD,aC]
 intro p T
 let⟨B,C⟩:=dI (a:=p) (c:=T) rfl rfl
 have s1:p.size=m.size+1:=by simp[p]
 have s2:T.size=m.size+2:=by simp[T,s1]
 clear_value T
 let⟨an,aL⟩:=am.aU
 have al:=o.le (bD _ _)
 have bj:=Bk.mJ b
 have bt:=gB b.aE
 have aO:=o.len
 have bl:=o.cap
 have bo:=hf.len
 refine(Je (al.le B.le)).aJ (J.aA T) C λmn m3 a6 x3 _=>⟨_,rfl,?_⟩
 obtain⟨kn,a4⟩:∃kn:Nat,mn=kn:=⟨mn.toNat,V⟩
 subst a4
 have aK:∀(d:Nat)(s:cZ),b.aE[d]? =some s->d<kn->s.op=14\/s.op=15:=λd s w aG=>a6.2.2 d s w V
 have ak:∀(d:Nat)(s:cZ),b.aE[d]? =some s->d<kn->0<s.args.length:=λd s w aG=>by
  have:=aK d s w aG;have:=(an d s w).fj.lY V;omega
 refine(yx (a:=[]) aN (al.le (B.trans x3).le) (d:=kn) V 14 ak V).aJ x3 C λsd G m4 gd hd x4 v4=>⟨_,rfl,?_⟩
 refine(yx (a:=[]) aN (al.le (B.trans v4).le) (d:=kn) V 15 ak V).aJ v4 C λsr Q m5 gr hr x5 v5=>⟨_,rfl,?_⟩
 have bk:=Ys (b.aE.take kn)
 have bv:(b.aE.take kn).length=kn:=bG
 have aM:ap m5 sr Q:=(gr.done aN V).le (bD _ _)
 refine(dA aM h).aJ v5 C λbi m6 bh x6 A=>⟨_,rfl,λ_=>⟨t,b,rfl,o.le (((B.trans A).ai V _ _).dj _),⟨am,V⟩,(B.trans A).ai V _ _⟩,λbp=>⟨λ_=>⟨t,b,rfl,o.le (((B.trans A).ai V _ _).dj _),⟨am,V⟩,(B.trans A).ai V _ _⟩,λa7=>?_⟩⟩
 have bq:0<q.length:=by simp only[aj]at a7;omega
 have aH:∀s∈b.aE.take kn,∃d:Nat,d<kn/\b.aE[d]? =some s:=λs o=>by
  let⟨d,w⟩:=List.mem_iff_getElem?.1 o;have:=aw w;rw[dK V]at w;exact⟨d,V,w⟩
 have aE:dc (b.aE.take kn)=0:=RP λs o=>by
  let⟨d,Z,L⟩:=aH s o;have:=aK d s L Z;exact ae λY:pG s.op=>by have:=Y.2;omega
 have bs:2*kn<=sw (b.aE.take kn):=by
  have:=UA (l:=b.aE.take kn) λs o=>by
   let⟨d,Z,L⟩:=aH s o;have:=ak d s L Z;have:=cZ.mJ s;omega
  omega
 have bu:sw b.aE=sw (b.aE.take kn)+sw (b.aE.drop kn):=by rw[<-dH,dv]
 have a1:dc b.aE=dc (b.aE.take kn)+dc (b.aE.drop kn):=by rw[<-da,dv]
 have XV:∀y:Int,(∃(d:Nat)(s:cZ),d<kn/\b.aE[d]? =some s/\y∈s.args)->0<=y/\y<((g+q.length:Nat):Int):=λy⟨d,s,Z,L,h3⟩=>by
  have h4:=(an d s L).fj.args y h3;have h5:=TU (b.aE.take kn) d;rw[MN,ju V]at h5;omega
 refine(sM (S:=[]) aN ((aM.ext x6).le (Ap _)) h V).aJ A C λbd a_ m8 aA aJ x8 v8=>⟨_,rfl,?_⟩
 have y2:=aA.bq
 have bV:=x8.size
 have a8:ap (bI [bd.D] m8) sd G:=((gd.done aN V).le (bD _ _)).le (((x5.trans x6).le.trans (Ap m6)).trans (x8.bI λc e=>Or.inr (by simp at e;omega)))
 refine xt (n:=q.length) V (λk sd sr M=>J m6 M/\∃G Q,ap (bI [sr.D] M) sd G/\GI [] m6 M sr Q/\(∀y∈G,0<=y/\y<((g+q.length:Nat):Int))/\G.length<=RO 14 (b.aE.take kn)/\(∀y∈Q,0<=y/\y<((g+q.length:Nat):Int))/\Q.length<=RO 15 (b.aE.take kn)+k) ⟨x8,G,a_,a8,aA,λy P=>XV y (hd.1 y P),hd.2,λy P=>XV y (hr.1 y (aJ.1 y P)),O6 aJ.2 hr.2⟩ ?_
 rintro k H D u av μ hk ⟨I,ac,R,N,K,aa,aF,ab,br⟩ ao
 have U:=(B.trans A).trans I
 have y3:=K.bq
 have r:∀c∈[p.size,m.size],c<u.size:=λc e=>I.lt (A.lt (C c e))
 refine⟨λY=>?_,λY=>?_⟩
 .simp only[ar]at Y
  let⟨y,P⟩:=cL q k
  have ew:cG ((g:Int)+(k:Int))=(g:Int)+k:=aR V V
  rw[ew]
  have ai:∀{M:E},J u M->af M X.D (X.off+Int.toNat (k:Int)*1)=some (vi y):=λv=>(hf.ext (U.trans v)).aF P
  have ay:∀{M:E},J u M->av H D (cG ((k:Int)+1)) M/\μ H D (cG ((k:Int)+1)) M<μ H D k u:=λv=>ao V _ _ _ ⟨I.trans v,ac,R,N.le (v.dj _),K.ext v,aa,aF,ab,V⟩
  have OU:∀{M:E},J u M->jT (M.push (.cells (bz [.i ((g:Int)+k)]) aB)) aB [.i 0] 8 D (.mk M.size 0 1 1) λau W=>eF [p.size,m.size] (M.push (.cells (bz [.i ((g:Int)+k)]) aB)) W/\av H au (cG ((k:Int)+1)) W/\μ H au (cG ((k:Int)+1)) W<μ H D k u:=λ{M} v=>by
   refine GI.kY (K.ext v) ((I.trans v).fz []) aN V λau W g' f' z' q'=>⟨J.oV ((I.trans v).aL _) f'.ext (λc e=>A.lt (C c e)),ao V _ _ _ ⟨f'.ext,ac,_,(N.le (v.dj _)).le (pR λc e hn=>?_),g',aa,aF,λag z=>?_,bG⟩⟩
   .simp at hn;refine⟨?_,q' c e hn⟩;simp;rcases z'.2 with f|f<;>omega
   .rcases List.mem_append.1 z with z|z
    .exact ab ag z
    .simp at z;omega
  refine⟨V,V,y,ai (J.aA _),λ_=>?_,λ_=>⟨V,V,y,ai (J.aA _),λ_=>?_,λ_=>ay (J.aA _)⟩⟩
  .refine(dA (N.le (bD _ _)) _).aJ (J.aA u) r λbb aS _ F _=>⟨_,rfl,λ_=>?_,λ_=>⟨V,V,y,ai F,λ_=>?_,λ_=>ay F⟩⟩
   .refine(sM (S:=[D.D]) (by have:=F.size;simp;omega) (N.le (F.dj _)) _ V).aJ F r λaT aQ ax aP aq aU az=>⟨_,rfl,ao V _ _ _ ⟨I.trans az,aQ,R,aP.done (by have:=F.size;simp;omega) (oh aq.2),K.ext az,λag z=>aa ag (aq.1 ag z),oh aq.2,ab,V⟩⟩
   .intro ax
    exact OU F
  .intro ax
   exact OU (J.aA _)
 .have a9:ap u D R:=(K.done aN V).le (bD _ _)
  have F:∀{M:E},u.size<=M.size->∀c∈p.size::a,c<M.size:=λz c e=>by
   rcases List.mem_cons.1 e with f|f
   .have:=r p.size aN;omega
   .have:=hS c f;have:=U.size;omega
  refine(fe (c:=p.size::a) (F (ad _)) 14 (N.le (bD _ _)) V).aJ (J.aA u) r λba bx bC ax aV ai _=>⟨_,rfl,?_⟩
  subst aV
  have bR:=ax.bq
  have bf:=ai.size
  refine(jx (c:=ba.D::p.size::a) (λc e=>?_) 16 h).mono λbQ bE⟨bg,bw,f,a0,a3,aq⟩=>⟨λc e=>aq.same c (ai.lt (r c e)),_,_,_,_,_,f,?_⟩
  .rcases List.mem_cons.1 e with f|f
   .omega
   .exact F bf c f
  intro bF
  have au:=ai.trans aq
  refine GS.kY (x:=fg 16 h) (ax.ext gK.mono aq) (au.fz []) a0 a3 bG λbb bH ay P bW bM=>⟨J.oV (au.aL _) P.ext r,?_⟩
  have bS:=ay.bq
  have bU:=au.size
  have aT:=P.size
  refine(fe (c:=bb.D::p.size::a) (λc e=>?_) 15 (a9.ext P.ext) V).aJ P.ext r λbP bA bJ aY aX be aS=>⟨_,rfl,?_⟩
  .rcases List.mem_cons.1 e with f|f
   .omega
   .exact F aT c f
  subst aX
  refine GS.all (ay.ext gK.mono be) (aS.fz []) (aY.done gK.mono (λc e=>?_) bn bG) bG λaQ aP az v bX bN=>⟨J.oV aS v.ext r,V,V,V,?_⟩
  .rcases List.mem_cons.1 e with f|f
   .omega
   .exact F aT c f
  have bT:=az.bq
  have z9:=U.size
  have a5:Le (bI a m) (bI (aQ.D::p.size::a) aP):=(U.trans v.ext).bI λc e=>by
   simp only[aW]at e;rcases e with f|f|f
   .exact Or.inr V
   .exact Or.inr V
   .exact Or.inl f
  have ek:Int.toNat (kn:Int)=kn:=V
  have el:Int.toNat (t.len:Int)=t.len:=V
  rw[ek,el]
  have a2:eR (bI (aQ.D::p.size::a) aP) (t.cut kn t.len 5) (b.aE.drop kn):=by
   have:=(o.le a5).La (i:=kn) (j:=t.len) V V;rwa[aO,bZ (ad _),<-aO]at this
  refine GS.all az v a2 bG λbc bK aZ ag bY bO=>⟨J.oV v.ext ag.ext r,aI (by rw[ag.ext.same _ (r _ aN),v.ext.same _ (r _ aN)]) _,?_⟩
  intro bL
  have aU:=aZ.done gK.mono (F (ad _)) bn bG
  have W:dc [fg 16 h]=0:=j9 bn [h]
  have e2:sw [fg 16 h]=2:=oP 16 [h]
  have W1:WL ds nr True (g+q.length) (ac.map (fg 14)++[fg 16 h]++R.map (fg 15)++b.aE.drop kn):=by
   refine WL.append (WL.append ((sk bn aa).yV ?_) ?_) ?_
   .rw[j9 bn];exact Ee bn ⟨hx.1,V⟩
   .rw[da,j9 bn,W];exact sk bn ab
   .rw[da,da,j9 bn,j9 bn,W];have:=an.drop kn;rwa[aE]at this
  refine⟨bc,.mk (ac.map (fg 14)++[fg 16 h]++R.map (fg 15)++b.aE.drop kn) b.aT,rfl,eR.le (cD aN λc e=>ah _ e) aU,⟨.of W1 ?_,?_⟩,(U.trans ag.ext).ai V _ _⟩
  .rw[da,da,da,j9 bn,j9 bn,W]
   rw[a1,aE]at aL
   simpa using aL
  .rw[Bk.qW,dH,dH,dH,oP,oP,e2];omega
end
def ZZ(c:List bB)(d:List gU)(b:Bk):Prop:=∀(S:List Nat)(m:E),(∀a∈S,a<m.size)->∀(f r t:O)(a:Nat),eM m f r c d->eR m t b.aE->WB c d.length True a b->a+4*b.w<=10^12->9*b.w<=100000000000->
 nK 200 [.agg #[O.v f,O.v r],.agg #[O.v t,vi b.aT],vi a] m S λe=>WB c d.length True a e/\e.w+8<=9*b.w
def Dv{z:List bB}{rs:List gU}:∀B:Bk,ZZ z rs B:=by
 refine Bk.ind ?_;intro aE X ih p ac hS aS a6 bW q I hs bj bv bx;have a1:=bj.aU;rw[Bk.qW]at*;simp only[Bk.j8,Bk.jE]at*;apply wV;simp -zeta only[aD,aC];intro ag j t g m5 m6;let⟨x3,hl,s1,s2,s3⟩:=qF (a:=ag) (b:=j) (c:=t) rfl rfl rfl;have s4:g.size=t.size+1:=by simp[g]
 have a8:J g m6:=(J.push g _).ai (ad _) _ _;have bp:J t m6:=(J.push t _).trans a8;have g0:GS (g.size::j.size::p) t m6 (.mk t.size 0 0 0) []:=(GS.new _ t).ext gK.mono a8;have B0:cK m6 g.size dp [.s (.mk t.size 0 0 0),.i X]:=cK.ai (m:=m5) (o:=0) (r:=[.s (.mk t.size 0 0 0),.i X]) (cK.push g _ _);have a_:∀d∈j.size::p,d<t.size:=bR hS x3.size (hl _ aN);clear_value m6;clear_value t;have be:=hs.len;have bg:=BV aE;have bM:=gB aE;refine eB (n:=aE.length) (be▸hs.gX) (λk(v:Int) M=>v=((q+dc (aE.take k):Nat):Int)/\J t M/\∃s w,GS (g.size::j.size::p) t M s w/\cK M g.size dp [.s s,.i X]/\w.length=k/\WL z rs.length True q w/\dc w=dc (aE.take k)/\sw w<=9*sw (aE.take k)) ⟨aN,bp,_,[],g0,B0,rfl,WL.nil _ _ _ _,aN,aN⟩ ?_;rintro k v0 M aQ μ hk ⟨bi,xM,s,w,am,Z,bH,wl,au,bh⟩ a5
 subst bi;have v:=x3.trans xM;have hy:=am.bq;have zM:=xM.size;have bs:=Z.lt;refine dit (λan=>?_) λan=>?_
 .let⟨c,N⟩:=cL aE k;let⟨pa,pk,ha,aJ,e0,e1,e2,e3,e4⟩:=hs.aF N;have bP:=Pl N;have bT:=cZ.mJ c;have bA:=qG c.bF;have bS:=qu N;have bO:=rf N;have U:=a1.1 k c N;have bE:=tz (aE.take k);have bL:=gB (aE.take k);have bN:=bg (k+1);refine⟨V,V,_,v.af e0,_,v.af e1,_,v.af e2,_,v.af e3,_,v.af e4,?_⟩;intro m7 l Q;have x8:J M l:=(J.push M _).ai (ad _) _ _;have s8:l.size=M.size+1:=by simp[l,m7,ax]
  have x9:J l Q:=J.push _ _;have s9:Q.size=l.size+1:=by simp[Q]
  have a9:GB (s.D::g.size::j.size::p) l Q (.mk l.size 0 0 0) []:=GB.new _ l;clear_value Q;clear_value l;have aF:∀d∈s.D::g.size::j.size::p,d<l.size:=λd h=>by
   simp only[aW]at h;rcases h with e|e|e|e
   .omega
   .omega
   .omega
   .have:=hS d e;omega
  have aL:=aJ.len;have D:∀{f:E},l.size<=f.size->∀d∈[M.size,j.size,ag.size,ac.size],d<f.size:=λan d h=>by simp at h;omega
  have z9:Q.size=l.size+1:=s9;refine(iH (e:=[l.size]) bG (I.br.le (v.trans (x8.trans x9)).le) I.types c.bS).aJ (J.aA Q) (D x9.size) λsc lc bU aY e a7 _=>⟨_,rfl,?_⟩;subst e;have bJ:=aY.len;refine eB (n:=c.bF.length) (aL▸aJ.gX) (λu ks f=>J l f/\ap (bI [ks.D] f) sc (cB z c.bS)/\∃lk,GB (s.D::g.size::j.size::p) l f ks lk/\lk.length=u/\(∀(P:Nat)(B:Bk),lk[P]? =some B->WB z rs.length True (q+dc (aE.take k)+Ch z c.op c.bS P) B)/\bw lk<=9*bw (c.bF.take u)) ⟨x9.trans a7,aY,[],a9.ext rZ.mono a7,rfl,aN,aN⟩ ?_;rintro u ks A I2 μ2 hj ⟨ak,aZ,lk,gk,bF,aU,bd⟩ bm;have F:J ac A:=v.trans (x8.trans ak);have yk:=gk.bq;have R:=ak.size;refine dit (λh2=>?_) λh2=>?_
  .let⟨B,T⟩:=cL c.bF u;let⟨tb,a0,f0,f1⟩:=aJ.aF T;have bC:=xk T;have bb:=uP T;have ar:=U.bF u B T;have h3:=QX I.types c.op c.bS u;have aB:∀{f:E},J A f->∀d∈ks.D::s.D::g.size::j.size::p,d<f.size:=λxx d h=>by
    have:=xx.size;rcases List.mem_cons.1 h with e|e
    .omega
    .have:=aF d e;omega
   have al:∀{f:E}{Y:O}{C:Bk},J A f->eR (bI (ks.D::s.D::g.size::j.size::p) f) Y C.aE->WB z rs.length True (q+dc (aE.take k)+Ch z c.op c.bS u) C->C.w<=9*B.w->
    jT (f.push (.cells (bz [.s Y,.i C.aT]) dp)) dp [.s .nil,.i 0] 32 ks (.mk f.size 0 1 1) λW M3=>eF [M.size,j.size,ag.size,ac.size] (f.push (.cells (bz [.s Y,.i C.aT]) dp)) M3/\I2 W (cG ((u:Int)+1)) M3/\μ2 W (cG ((u:Int)+1)) M3<μ2 ks u A:=λ{f Y C} x11 ab hwb' hw'=>by
    refine GB.kY (c:=C) (gk.ext rZ.mono x11) ((ak.trans x11).fz []) ab V λW M3 g2 f2 bq q2=>⟨J.oV ((ak.trans x11).aL _) f2.ext (D (ad _)),bm V _ _ ⟨f2.ext,(aZ.le (x11.dj _)).le (pR λd h aV=>?_),_,g2,bG,λP b2 H=>?_,?_⟩⟩
    .simp at aV
     refine⟨?_,q2 d h aV⟩
     simp
     rcases bq.2 with e|e<;>omega
    .rcases aX P lk.length with y|y
     .rw[az y]at H;exact aU P b2 H
     .rw[aK y]at H
      have:P -lk.length=0:=by have:=aw H;simp at this;omega
      rw[this]at H;simp at H;subst H
      have:P=u:=V
      subst this;exact hwb'
    .rw[pp,uO,zT,bb]
     omega
   refine⟨λG=>?_,λG=>?_⟩
   .simp only[aG]at G;obtain⟨bu,_⟩:=U.fj.all G;have br:=U.fj.lY (Or.inr (Or.inr G));let⟨aP,a2⟩:=cL c.args 0;let⟨y0,y1⟩:=U.fj.args aP (aq a2);have bt:=ha.len;let⟨cn,aT⟩:=cL (cB z c.bS) u;refine⟨V,V,cn,(aZ.le (bD _ _)).aF aT,?_⟩;refine(dN (e:=[]) aN (I.br.le (F.le.trans (Ap _))) I.types cn).aJ (J.aA A) (D R) λsf lf a3 av e ay _=>⟨_,rfl,?_⟩;subst e;have av:=av.le (bD _ _);have bK:=av.len;have aa:=F.trans ay;rw[KP G aT]at ar h3 al;have aA:af a3 pa.D (pa.off+Int.toNat (0:Int)*1)=some (vi aP):=(ha.ext aa).aF a2;refine⟨V,V,_,aa.af f0,_,aa.af f1,bn,V,aP,aA,?_⟩;have ew:cG (((q+dc (aE.take k):Nat):Int)+(sf.len:Int))=((q+dc (aE.take k)+(cJ z cn).length:Nat):Int):=by rw[aR V V];omega
    rw[ew];refine(ih c (aq N) B (aq T) (ks.D::s.D::g.size::j.size::p) a3 (aB ay) aS a6 tb _ (I.le aa.le) (a0.le aa.le) ar V V).aJ ay (D R) λY C bk ab aH ai aM=>⟨_,_,rfl,?_⟩;refine⟨by rw[ai.af aA,aA],aI (ai.same _ (ay.lt (D R _ aN))) _,?_⟩;refine(Mu (a:=ks.D::s.D::g.size::j.size::p) (aB aM) ab (av.ext ai) V aH.1 V V ⟨y0,y1⟩).aJ aM (D R) λbV b2 a4 bf ba y bo=>⟨_,_,rfl,?_⟩;intro bl;exact al bo bf ba.1 V
   .simp only[aj]at G;rw[KQ G]at ar al;refine⟨V,V,_,F.af f0,_,F.af f1,?_⟩;refine(ih c (aq N) B (aq T) (ks.D::s.D::g.size::j.size::p) A (aB (J.aA _)) aS a6 tb _ (I.le F.le) (a0.le F.le) ar V V).aJ (J.aA A) (D R) λY C bk ab aH ai aM=>⟨_,_,rfl,?_⟩;intro a4;exact al ai ab aH.1 V
  .have ar:lk.length=c.bF.length:=V;rw[bZ V]at bd;have T:J M A:=x8.trans ak;have H:=Z.ext T;have G2:=am.ext gK.mono T;refine⟨s,H.cq 0,?_⟩;refine(bQ (s.D::g.size::j.size::p) (ha.ext F) V).aJ (J.aA A) (D R) λs' l' a4 ga e y _=>⟨_,rfl,aI (y.same _ V) _,aI (y.same _ V) _,aI (y.same _ V) _,aI (y.same _ H.lt) _,?_⟩;subst e;intro bl;refine Gr.box (g:=[.i 0,.i 0,.i 0,.s .nil,.s .nil]) (K:=λf=>aO cp 149 [vi c.op] f λv G=>eF [M.size,j.size,ag.size,ac.size] f G/\∃C:Bool,v=vb C/\
    (C=true->aQ (cG (((q+dc (aE.take k):Nat):Int)+1)) (cG ((k:Int)+1)) G/\μ (cG (((q+dc (aE.take k):Nat):Int)+1)) (cG ((k:Int)+1)) G<μ ((q+dc (aE.take k):Nat):Int) (k:Int) M)/\
    (C=false->aQ ((q+dc (aE.take k):Nat):Int) (cG ((k:Int)+1)) G/\μ ((q+dc (aE.take k):Nat):Int) (cG ((k:Int)+1)) G<μ ((q+dc (aE.take k):Nat):Int) (k:Int) M)) (L:=[M.size,j.size,ag.size,ac.size]) (j:=0) (y:=72) (i:=[.s s,.i X]) (w:=⟨c.op,c.bS,c.cg,c.args,lk⟩) gK.mono bn (G2.ext gK.mono y) (((xM.trans T).trans y).fz []) ⟨s',ks,rfl,(ga.done (λd h=>oh (aF d h)) V),nT.le (y.dj _) (gk.done rZ.mono aF bn (by show lk.length<=_;omega))⟩ V (H.ext y) aN bn ⟨V,aN⟩ (λd h=>by have C:=y.size;simp at h;omega) λW m' g' Y f' z' q'=>?_
   have W':WL z rs.length True q (w++[⟨c.op,c.bS,c.cg,c.args,lk⟩]):=wl.yV (U.P9 id U.fj.cg ar aU|>λan=>by rw[au];exact an);have av:=y.size;refine(jW c.op m').mono λv G⟨bb,e,al,C⟩=>⟨λd h=>C.same d (oh (D R d h)),bb,e,?_⟩;have ab:=tB c bb al;have aa:dc (w++[⟨c.op,c.bS,c.cg,c.args,lk⟩])=dc (aE.take (k+1)):=by
    rw[da,k8,tA,au];have e:dn (⟨c.op,c.bS,c.cg,c.args,lk⟩:cZ)=dn c:=rfl;omega
   have ai:sw (w++[⟨c.op,c.bS,c.cg,c.args,lk⟩])<=9*sw (aE.take (k+1)):=by
    rw[dH,mW,vJ];have h5:(⟨c.op,c.bS,c.cg,c.args,lk⟩:cZ).w=1+c.args.length+bw lk:=cZ.mJ _;omega
   refine⟨λht=>?_,λhf=>?_⟩
   .rw[ao ht]at ab;rw[aR (b:=((q+dc (aE.take k):Nat):Int)+1) V V];exact a5 V _ _ ⟨V,f'.ext.trans C,W,_,g'.ext gK.mono C,Y.ext C,bG,W',aa,ai⟩
   .rw[ae (by simp[hf])]at ab;exact a5 V _ _ ⟨V,f'.ext.trans C,W,_,g'.ext gK.mono C,Y.ext C,bG,W',aa,ai⟩
 .have aL:k=aE.length:=V;subst aL;rw[fB]at au bh;refine⟨s,Z.cq 0,X,Z.cq 1,?_⟩;intro m7;have c:Le (bI (g.size::j.size::p) M) (bI p m7):=cD aN λd h=>ah _ (ah _ h);have f:=am.ne Z bn;refine⟨s,.mk w X,rfl,eR.le c (am.nV gK.mono (λh=>?_) bn (by show w.length<=_;omega)),⟨.of wl (by rw[au];exact a1.2),by rw[Bk.qW];omega⟩,v.ai V _ _⟩;rcases List.mem_cons.1 h with e|e
  .exact f e
  .have:=a_ _ e;omega
def Fi{d:List Nat}{f:E}(A:∀c∈d,c<f.size){j r:O}{h:List bB}{k:List gU}(i:eM f j r h k){W:Nat}(hW:9*W<=100000000000)(X:yH h k True W):vr 170 [.agg #[O.v j,O.v r]] f d h λu=>yH h u True (9*W):=by
 apply yd;simp -zeta only[aD,aC];intro b a2;let⟨y,t⟩:=dI (a:=b) (c:=a2) rfl rfl;have s1:b.size=f.size+1:=by simp[b]
 clear_value a2;have al:=i.jg.len;have aA:=i.oQ;refine(fX (b:=b.size::d) (bR A y.size (t _ aN)) (i.le y.le).br i.types).mono λ_ I⟨ac,e,ah,z⟩=>?_;subst e;refine⟨z.dz t,_,rfl,?_⟩;intro K ap aa;have u2:=y.trans z;let⟨x5,B0,g0,s3,s5⟩:=lC (b:=K.size::b.size::d) jc.mono (d:=I) (a:=K) (c:=ap) (h:=aa) rfl rfl rfl;clear_value aa;have F:∀c∈[b.size,f.size],c<I.size:=λc a=>z.lt (t c a);have D:∀c∈b.size::d,c<I.size:=λc a=>z.lt (bR A y.size (t _ aN) c a);refine lz (R:=λg o M=>∃j r u,Value.agg #[O.v g,O.v o]=.agg #[O.v j,O.v r]/\eM (bI d M) j r h u/\yH h u True (9*W)/\J f M) (r:=k.length) (f:=f) (b:=d) jc.mono bn bn A ⟨V,F _ aN⟩ u2 s3 ah al V x5 B0 g0 (λ_ q=>q.params.length<=3/\q.cY.length<=3/\WB h k.length True q.params.length q.body/\q.body.w<=9*W) (λg w H x T s o p v=>⟨g,w,H,rfl,⟨T,s,i.types,V⟩,Ik X.jm o p,v⟩) λao M st H av μ ai ay N Q B ar=>?_
 let⟨q,Z⟩:=cL k ao ai;let⟨ak,aj,an,hw⟩:=X.dD q (aq Z);have v:=u2.trans N;let⟨au,aB,p,P,c2,c3,e0,e1,e2,e3,e4⟩:=i.jg.aF Z;have G:∀{ab:Value}{p o:Nat},af f p o=some ab->af M p o=some ab:=λag=>v.af ag;refine⟨V,V,_,G e0,_,G e1,_,G e2,_,G e3,_,G e4,?_⟩;intro m7 g;have hy:=Q.bq;have aw:=B.lt;have zM:=N.size;have L:J M g:=(J.push M _).ai (ad _) _ _;have s8:g.size=M.size+1:=by simp[g,m7,ax]
 clear_value g;have Y:∀c∈[M.size,b.size,f.size],c<g.size:=λc a=>by
  rcases List.mem_cons.1 a with e|e
  .omega
  .have:=F c e;omega
 have w8:=v.trans L;have az:=P.len;have ae:(au.len:Int)=(q.params.length:Nat):=V;refine⟨st,(B.ext L).cq 1,?_⟩;rw[ae];refine(Dv q.body (st.D::K.size::b.size::d) g (λc a=>?_) j r p q.params.length (i.le w8.le) (c3.le w8.le) an V V).aJ (J.aA g) Y λss b' M1 am U w _=>⟨_,_,rfl,?_⟩
 .simp only[aW]at a;rcases a with e|e|e|e
  .omega
  .omega
  .have:=D c (by simp[e]);omega
  .have:=D c (by simp[e]);omega
 have C:∀o,af M1 M.size o=af g M.size o:=λo=>aI (w.same _ V) o;refine⟨C 0,C 1,C 2,C 3,C 4,aI (w.same _ V) _,?_⟩;have x:=L.trans w;have z1:=w.size;exact wz (b:=b.size::d) (v:=ac) (x:=H) D (λc a=>by have T:=Y c a;have s:=F c;simp only[aW]at a s;rcases a with e|e|e|e<;>first|omega|(have:=s (by simp[e]);omega)|simp at e) (N.trans x) (Q.ext jc.mono x) (B.ext x) V (P.ext (v.trans x)) (c2.ext (v.trans x)) am ⟨V,V⟩ V λs' T g' s x'=>ar s' T _ g' s x' ⟨ak,aj,U.1,by have:=U.2;show b'.w<=_;omega⟩
section
variable{S:List Nat}{m:E}{c:O}{l:List Instr}
def dU.le{m b:E}(h:Le m b){a:List Ce}{x:Instr}:dU m a x->dU b a x:=λ⟨c,j,d,e,f⟩=>⟨c,j,d,e.le h,f.le h⟩
def dU.mono:oO 6 dU:=⟨λh=>dU.le h,λh=>by obtain⟨_,_,rfl,_⟩:=h;rfl⟩
def ft.le{m b:E}(a:Le m b){s:O}{l:List Instr}(h:ft m s l):ft b s l:=eV.le h a λ_ _=>dU.le a
def lK.le{m b:E}(h:Le m b){a:List Ce}{x:dC}:lK m a x->lK b a x:=λ⟨d,l,c,e,f,g,i⟩=>⟨d,l,c,e,f.le h,g.le h,ft.le h i⟩
def lK.mono:oO 5 lK:=⟨λh=>lK.le h,λh=>by obtain⟨_,_,_,rfl,_⟩:=h;rfl⟩
def iC.le{m b:E}(a:Le m b){s:O}{l:List dC}(h:iC m s l):iC b s l:=eV.le h a λ_ _=>lK.le a
def Wc(x:Instr)(a j:O):Value:=.agg #[vi x.op,vi x.dst,vi x.bS,vi x.cg,O.v a,O.v j]
def wK(A:∀c∈S,c<m.size){r u:O}{x:Instr}(B:ap m r x.args)(C:ap m u x.eN)(h:x.args.length<=10^12/\x.eN.length<=10^12):
 aO cp 173 [Wc x r u] m λH p=>∃g j,H=Wc x g j/\ap (bI S p) g x.args/\ap (bI S p) j x.eN/\J m p:=by
 apply rT
 simp -zeta only[aD,aC]
 intro d e
 let⟨k,i⟩:=dI (a:=d) (c:=e) rfl rfl
 have K:d.size=m.size+1:=by simp[d]
 clear_value e
 have s:∀c∈d.size::S,c<e.size:=bR A k.size (i _ aN)
 have b:∀{M q:E},J e M->J M q->∀o,af q m.size o=af M m.size o:=λy z o=>aI (z.same _ (y.lt (i _ aN))) o
 refine(bQ (d.size::S) (B.ext k) h.1).aJ (J.aA e) i λg _ I v l a _=>⟨_,rfl,b (J.aA _) a _,b (J.aA _) a _,b (J.aA _) a _,b (J.aA _) a _,b (J.aA _) a _,?_⟩
 subst l
 refine(bQ (d.size::S) (C.ext (k.trans a)) h.2).aJ a i λj _ D w l f G=>⟨_,rfl,b a f _,b a f _,b a f _,b a f _,?_⟩
 subst l
 intro F
 have t:Le (bI (d.size::S) D) (bI S F):=cD aN λc n=>ah _ n
 exact⟨g,j,rfl,((v.done s h.1).le (f.dj _)).le t,(w.done (λc n=>a.lt (s c n)) h.2).le t,(k.trans G).ai V _ _⟩
def Nv(d:ft m c l)(s:Int):FH 166 [O.v c,vi s] m:=by
 apply Hh;have k:=d.len;refine eB (n:=l.length) (k▸d.gX) (λ_ _ M=>J m M) (J.aA _) ?_;rintro q K M I μ F e u
 refine⟨λh=>?_,λ_=>rN e⟩;simp only[ar]at h;let⟨x,o⟩:=cL l q;let⟨z,H,b,E,A,g,B,C,f,D⟩:=(ft.ext e d).aF o;have j:=b.len;refine⟨V,V,_,g,?_⟩;refine eB (n:=x.args.length) (j▸b.gX) (λ_ _ a=>J M a) (J.aA _) ?_;rintro r L w v μ2 G a t;refine⟨V,V,_,a.af f,λi=>?_,λ_=>u V _ _ (e.trans a)⟩;simp only[ar]at i;let⟨y,p⟩:=cL x.args r;exact⟨V,V,_,a.af f,V,V,y,(b.ext a).aF p,t V _ _ a⟩
structure PB(k:Nat)(x:Instr):Prop where
 Nf:x.op=22->(k:Int)<x.bS
 arg:x.op=18\/x.op=23\/x.op=16\/x.op=17->0<x.args.length
def Sw(l:List Instr):Prop:=∀(k:Nat)(x:Instr),l[k]? =some x->PB k x
def Jd(f:ft m c l)(E:Sw l){n:Int}(C:0<=n)(So:Int):pb 202 [O.v c,vi n,vi So] m:=by
 apply BA;simp -zeta only[aD,aC];have I:=f.len;have L:=f.gX;refine⟨λv _ M=>0<=v/\J m M,λv _ _=>((l.length:Int) -v).toNat,⟨C,J.aA _⟩,?_⟩;rintro v G M ⟨F,k⟩;refine⟨λh=>?_,λ_=>rA k⟩;simp only[ar]at h;let⟨a,o⟩:=cL l v.toNat;let⟨d,N,e,K,s,t,w,z,A,B⟩:=(ft.ext k f).aF o;have H:=e.len;have g:=E _ a o;refine⟨F,V,_,s,_,t,_,w,_,z,_,A,_,B,?_⟩;intro P b;have j:J M b:=(J.push M _).ai (ad _) _ _;clear_value b;have u:=k.trans j;have Nf:(a.op==22)=true->(0<=a.bS/\J m b)/\((l.length:Int) -a.bS).toNat<((l.length:Int) -v).toNat:=λh=>by
  simp only[aG]at h;have:=g.Nf h;exact⟨⟨V,u⟩,V⟩
 have p:(a.op==23)=true->(0:Int)<=0/\(0:Int)<(d.len:Int)/\∃q:Int,af b d.D (d.off+Int.toNat (0:Int)*1)=some (vi q)/\∃r:Bool,vb (q==G)=.bool r/\J m b:=λh=>by
  simp only[aG]at h;have:=g.arg V;let⟨y,i⟩:=cL a.args 0;exact⟨bn,V,y,(e.ext j).aF i,rA u⟩
 refine⟨λD=>?_,λ_=>⟨Nf,λ_=>⟨p,λ_=>rA u⟩⟩⟩;simp only[aG]at D;have:=g.arg V;let⟨y,i⟩:=cL a.args 0;refine⟨bn,V,y,(e.ext j).aF i,λ_=>?_,λ_=>⟨Nf,λ_=>⟨p,λ_=>rA u⟩⟩⟩;rw[aR (b:=v+1) V V];exact⟨⟨V,u⟩,by show((l.length:Int) -(v+1)).toNat<((l.length:Int) -v).toNat;omega⟩
def KM(l b:List Instr):Prop:=b.length=l.length/\∀(k:Nat)(a:Instr),b[k]? =some a->∃x,l[k]? =some x/\(a=x\/a=⟨24,0,x.bS,0,x.args,x.eN⟩)
def QQ(l:List Instr):Prop:=∀x∈l,x.args.length<=10^12/\x.eN.length<=10^12
abbrev VM(S:List Nat)(a m:E)(s:O)(l:List Instr):Prop:=Gr S a m dZ 6 dU s l
def Kr(hS:∀c∈S,c<m.size)(f:ft m c l)(ae:Sw l)(af:QQ l)(hb:l.length<=10^12):
 aO cp 172 [O.v c] m λN L=>∃s e,N=O.v s/\VM S m L s e/\KM l e/\J m L:=by
 apply Dx
 simp -zeta only[aD,aC]
 intro H
 have x1:J m H:=J.push _ _
 have g0:VM S m H (.mk m.size 0 0 0) []:=Gr.new S (ad _) _ _ _
 clear_value H
 have ac:=f.len
 refine eB (n:=l.length) (ac▸f.gX) (λk s M=>J m M/\∃e,VM S m M s e/\KM (l.take k) e) ⟨x1,[],g0,by simp[KM]⟩ ?_
 rintro k s M Q μ hk ⟨q,e,A,D,F⟩ ai
 refine dit (λaa=>?_) λaa=>?_
 .let⟨d,G⟩:=cL l k
  let⟨al,an,ha,hj,R,T,U,W,X,Y⟩:=(ft.ext q f).aF G
  have ag:=af d (aq G)
  have hy:=A.bq
  have zM:=q.size
  have am:e.length=k:=by rw[D];simp;omega
  have ab:∀c∈s.D::S,c<M.size:=λc f=>by
   rcases List.mem_cons.1 f with u|u
   .omega
   .have:=hS c u;omega
  refine⟨V,V,_,R,_,T,_,U,_,W,_,X,_,Y,?_⟩
  refine(wK ab ha hj ag).mono λN y⟨t,w,u,B,C,P⟩=>⟨_,_,_,_,_,_,u,?_⟩
  intro m3 j
  have i:J y j:=(J.push y _).ai (ad _) _ _
  have s4:j.size=y.size+1:=by simp[j,m3,ax]
  clear_value j
  have p:=P.trans i
  have z:∀{g:E}{b:Instr},J j g->ap (bI (s.D::S) g) t b.args->ap (bI (s.D::S) g) w b.eN->(b=d\/b=⟨24,0,d.bS,0,d.args,d.eN⟩)->
   jT (g.push (.cells (bz [.i b.op,.i b.dst,.i b.bS,.i b.cg,.s t,.s w]) dZ)) dZ [.i 0,.i 0,.i 0,.i 0,.s .nil,.s .nil] 80 s (.mk g.size 0 1 1) λI r=>eF [y.size] (g.push (.cells (bz [.i b.op,.i b.dst,.i b.bS,.i b.cg,.s t,.s w]) dZ)) r/\Q I (cG ((k:Int)+1)) r/\μ I (cG ((k:Int)+1)) r<μ s k M:=λ{g b} xx h1 h2 h3=>by
   have z4:=p.size
   have zx:=xx.size
   refine Gr.kY (g:=[.i 0,.i 0,.i 0,.i 0,.s .nil,.s .nil]) (k:=b) dU.mono bn (A.ext dU.mono (p.trans xx)) ((q.trans (p.trans xx)).fz []) ⟨t,w,rfl,h1,h2⟩ V λI r g3 Z z3 q3=>⟨λc f=>?_,ai V _ _ ⟨Z.ext,_,g3,bG,λv aj h=>?_⟩⟩
   .have o:=P.size
    simp at f;subst f
    rw[q3 _ V V,(J.push g _).same _ V]
   .rcases aX v e.length with o|o
    .rw[az o]at h
     let⟨ak,K,ah⟩:=F v aj h
     rw[dK V]at K⊢
     exact⟨ak,K,ah⟩
    .rw[aK o]at h
     have:v -e.length=0:=by have:=aw h;simp at this;omega
     rw[this]at h;simp at h;subst h
     have:v=k:=V
     subst this
     exact⟨d,by rw[dK V];exact G,h3⟩
  have z4:=p.size
  refine⟨λh9=>?_,λ_=>?_⟩
  .rw[aR (b:=(k:Int)+1) V V]
   refine(Jd (ft.ext (q.trans p) f) ae V d.dst).aJ (J.aA j) bG λah K o _=>⟨_,rfl,λ_=>?_,λ_=>?_⟩
   .intro m6
    have:=z (b:=⟨24,0,d.bS,0,d.args,d.eN⟩) o ((B.le (i.dj _)).le (o.dj _)) ((C.le (i.dj _)).le (o.dj _)) (Or.inr rfl)
    rw[aR (b:=(k:Int)+1) V V]at this
    exact this
   .intro m6
    have:=z (b:=d) o ((B.le (i.dj _)).le (o.dj _)) ((C.le (i.dj _)).le (o.dj _)) (Or.inl rfl)
    rw[aR (b:=(k:Int)+1) V V]at this
    exact this
  .intro K
   exact z (b:=d) (J.aA _) (B.le (i.dj _)) (C.le (i.dj _)) (Or.inl rfl)
 .rw[bZ V]at D F
  exact⟨s,e,rfl,A,⟨D,F⟩,q⟩
end
section
variable{b:List dC}
structure TB(p:dC):Prop where
 params:p.params.length<=3
 cY:p.cY.length<=3
 jm:0<p.dk.length
 oQ:p.dk.length<=10^12
 dk:Sw p.dk
 jw:QQ p.dk
structure Ed(b:List dC):Prop where
 jm:0<b.length
 oQ:b.length<=4
 dD:∀p∈b,TB p
def QP(f:Nat)(c:List Value)(m:E)(S:List Nat)(e:List bB)(Q:List dC->Prop):Prop:=aO cp f c m λv a=>∃d p b,v=.agg #[O.v d,O.v p]/\cz (bI S a) d e/\iC (bI S a) p b/\Q b/\J m a
def KM.ok{l d:List Instr}(h:KM l d)(g:Sw l)(f:QQ l):Sw d/\QQ d:=by
 let⟨j,e⟩:=h;refine⟨λk a c=>?_,λa c=>?_⟩
 .obtain⟨x,b,rfl|rfl⟩:=e k a c
  .exact g k a b
  .exact⟨sx,sx⟩
 .let⟨k,i⟩:=List.mem_iff_getElem?.1 c;obtain⟨x,b,rfl|rfl⟩:=e k a i
  .exact f a (aq b)
  .exact f x (aq b)
def Vy{a:List dC}(h:Ed b)(f:a.length=b.length)(c:∀(i:Nat)(q:dC),a[i]? =some q->TB q):Ed a:=
 ⟨by have:=h.jm;omega,oh h.oQ,λq e=>by obtain⟨i,d⟩:=List.mem_iff_getElem?.1 e;exact c i q d⟩
def Jg{d:List Nat}{l:E}(T:∀c∈d,c<l.size){y z:O}{A:List bB}(hd:cz l y A)(ht:dV A)(hp:iC l z b)(W:Ed b):QP 120 [.agg #[O.v y,O.v z]] l d A Ed:=by
 apply BH;simp -zeta only[aD,aC];intro f a2;let⟨K,F⟩:=dI (a:=f) (c:=a2) rfl rfl;have s1:f.size=l.size+1:=by simp[f]
 clear_value a2;have ao:=hp.len;have aG:=W.oQ;refine(fX (b:=f.size::d) (bR T K.size (F _ aN)) (hd.le K.le) ht).mono λ_ Z⟨dd,e,am,L⟩=>?_;subst e;refine⟨L.dz F,_,rfl,?_⟩;intro o au ai;have u2:=K.trans L;let⟨x5,B0,g0,s3,s5⟩:=lC (b:=o.size::f.size::d) lK.mono (d:=Z) (a:=o) (c:=au) (h:=ai) rfl rfl rfl;clear_value ai;have U:∀c∈[f.size,l.size],c<Z.size:=λc g=>L.lt (F c g);have ae:∀c∈f.size::d,c<Z.size:=λc g=>L.lt (bR T K.size (F _ aN) c g);refine lz (R:=λj k M=>∃y z h,Value.agg #[O.v j,O.v k]=.agg #[O.v y,O.v z]/\cz (bI d M) y A/\iC (bI d M) z h/\Ed h/\J l M) (r:=b.length) (f:=l) (b:=d) lK.mono bn bn T ⟨V,U _ aN⟩ u2 s3 am ao V x5 B0 g0 (λ_ r=>TB r) (λh r' ah m' h1 C j k p=>⟨h,r',ah,rfl,h1,C,Vy W j k,p⟩) λar M s ah az μ an aE xM ac N av=>?_
 let⟨r,hq⟩:=cL b ar an;have t:=W.dD r (aq hq);have q3:=t.params;have q4:=t.cY;have qf:=t.oQ;have qs:=t.jm;have v6:=u2.trans xM;let⟨aA,p,c,c1,c2,c3,e0,e1,e2,e3,e4⟩:=hp.aF hq;have G:∀{aa:Value}{p v:Nat},af l p v=some aa->af M p v=some aa:=λB=>v6.af B;refine⟨V,V,_,G e0,_,G e1,_,G e2,_,G e3,_,G e4,?_⟩;intro m7 k;have hy:=ac.bq;have aB:=N.lt;have zM:=xM.size;have x8:J M k:=(J.push M _).ai (ad _) _ _;have s8:k.size=M.size+1:=by simp[k,m7,ax]
 clear_value k;have H:∀c∈[M.size,f.size,l.size],c<k.size:=λc g=>by
  rcases List.mem_cons.1 g with e|e
  .omega
  .have:=U c e;omega
 have w8:=v6.trans x8;have D:∀{M':E},k.size<=M'.size->∀c∈s.D::o.size::f.size::d,c<M'.size:=λB c g=>by
  simp only[aW]at g;rcases g with e|e|e|e
  .omega
  .omega
  .have:=ae c (by simp[e]);omega
  .have:=ae c (by simp[e]);omega
 have h:∀{P M2:E},J k P->J P M2->∀p,p<k.size->∀v,af M2 p v=af P p v:=λB h' p hb v=>aI (h'.same p (B.lt hb)) v;have q:M.size<k.size:=V;have X:o.size<k.size:=V;refine⟨s,(N.ext x8).cq 1,?_⟩;refine(bQ (s.D::o.size::f.size::d) (c1.ext w8) V).aJ (J.aA k) H λa' _ m9 ga e j _=>⟨_,rfl,h (J.aA _) j _ q _,h (J.aA _) j _ q _,h (J.aA _) j _ q _,h (J.aA _) j _ q _,h (J.aA _) j _ X _,?_⟩;subst e;refine(bQ (s.D::o.size::f.size::d) (c2.ext (w8.trans j)) V).aJ j H λb' _ aH gb e x w=>⟨_,rfl,h j x _ q _,h j x _ q _,h j x _ q _,h j x _ X _,?_⟩;subst e;have z9:=j.size;have vQ:=x.size;refine(Kr (S:=s.D::o.size::f.size::d) (D V) (ft.ext (w8.trans w) c3) t.dk t.jw qf).mono λaa Y⟨Q,I,e,gc,ag,u⟩=>⟨λc g=>u.same c (w.lt (H c g)),Q,e,h w u _ q _,h w u _ q _,h w u _ X _,?_⟩;intro aJ;have ab:=x8.trans (w.trans u);have aK:=u.size;let⟨aw,ay⟩:=ag.ok t.dk t.jw;have aF:=ag.1;have aj:ap (bI (s.D::o.size::f.size::d) Y) a' r.params:=(ga.done (D V) V).le ((x.trans u).dj _);have ak:ap (bI (s.D::o.size::f.size::d) Y) b' r.cY:=(gb.done (D V) V).le (u.dj _);have al:ft (bI (s.D::o.size::f.size::d) Y) Q I:=gc.done dU.mono (D V) bn V;exact Gr.box (g:=[.s .nil,.s .nil,.i 0,.i 0,.s .nil]) (j:=1) (y:=88) (i:=[.s dd,.s s]) (w:=⟨r.params,r.cY,r.aT,r.ak,I⟩) lK.mono bn (ac.ext lK.mono ab) ((xM.trans ab).fz []) ⟨a',b',Q,rfl,aj,ak,al⟩ V (N.ext ab) aN bn ⟨V,aN⟩ (λc g=>by have h1:=H c g;have C:=U c;simp only[aW]at g C;rcases g with e|e|e|e<;>first|omega|(have:=C (by simp[e]);omega)|simp at e) λr' m' g' C f' z' q'=>av r' m' _ g' C f'.ext ⟨q3,q4,by show 0<I.length;omega,by show I.length<=_;omega,aw,ay⟩
end
section
variable{S:List Nat}{d c:E}{b:Nat}{s:O}{l:List Instr}{x:Instr}
structure FD(S:List Nat)(d c:E)(b:Nat)(s:O)(l:List Instr):Prop where
 box:cK c b oI [.s s]
 gr:VM (b::S) d c s l
 up:d.size<=b
def FD.ext{S:List Nat}{d c a:E}{b:Nat}{s:O}{l:List Instr}(h:FD S d c b s l)(x:J c a):FD S d a b s l:=⟨h.box.ext x,h.gr.ext dU.mono x,h.up⟩
def FD.ne{S:List Nat}{d c:E}{b:Nat}{s:O}{l:List Instr}(h:FD S d c b s l):s.D≠b:=h.gr.ne h.box bn
def Pz(S:List Nat)(d c:E)(b:Nat)(s:O)(P:List Instr->Prop)(f:E):Prop:=∃a e,FD S d f b a e/\P e/\Fz [b,s.D] c f/\(a.D=s.D\/c.size<=a.D)
def qT{v z:O}(p:FD S d c b s l)(E:d.size<=c.size)(H:ap (bI (s.D::b::S) c) v x.args)(I:ap (bI (s.D::b::S) c) z x.eN)(q:l.length<=10^12):
 aO cp 165 [vp b 0,Wc x v z] c λP M=>P=vi (l.length:Nat)/\Pz S d c b s (l++[x]=·) M:=by
 apply xL (b,0)
 simp -zeta only[aD,aC]
 intro g
 have n:J c g:=J.push _ _
 have s1:g.size=c.size+1:=by simp[g]
 clear_value g
 have h:=p.ext n
 have W:=h.gr.bq
 have D:=h.box.lt
 have T:=p.box.lt
 have X:=p.gr.bq
 refine⟨s,h.box.cq 0,?_⟩
 intro N
 have F:J g N:=J.push _ _
 refine⟨aI (F.same _ D) _,?_⟩
 have U:(c.extract 0 d.size).size=d.size:=mD E
 have g1:VM (b::S) (c.extract 0 d.size) g s l:=Gr.cA dU.mono h.gr (λG q=>Or.inl q) V
 refine Gr.kY (g:=[.i 0,.i 0,.i 0,.i 0,.s .nil,.s .nil]) (k:=x) dU.mono bn g1 ((((J.Nj E).trans n).fz [])) ⟨v,z,rfl,H.le (n.dj _),I.le (n.dj _)⟩ V λi k A R Q u=>?_
 have Z:∀e,e<g.size->e≠s.D->k[e]? =g[e]? :=u
 have y:cK k b oI [.s s]:=h.box.congr (u b D (kT h.ne))
 have L:=A.ne y bn
 refine⟨λe f=>?_,y.fO aN,?_⟩
 .simp at f;subst f
  rw[u c.size V V,F.same _ V]
 intro t
 have C:cK t b oI [.s i]:=cK.ai (m:=k) (o:=0) (r:=[.s i]) y
 have w:∀e,e≠b->t[e]? =k[e]? :=λe f=>bg _ _ _ _ f
 have s4:t.size=k.size:=ax _ _ _ _
 refine⟨λe f=>w e (by simp at f;omega),i,C.cq 0,?_⟩
 have B:VM (b::S) d t i (l++[x]):=by
  refine Gr.cA dU.mono (A.re dU.mono (Y:=[b]) ⟨V,λe f j=>w e (by simpa using j)⟩ aN (by simp;exact L) λe f=>Or.inl f) (λG q=>Or.inl q) V
 have G:=B.len bn
 have K:i.len=l.length+1:=by rw[G];simp
 refine⟨?_,i,_,⟨C,B,p.up⟩,rfl,⟨V,λe f j=>?_⟩,oh Q.2⟩
 .rw[K,aR V V];congr 1;omega
 .simp only[aW,km,Cb,vP]at j
  rw[w e j.1,u e V j.2,n.same e f]
def Rz{j:Nat}(h:FD S d c b s l)(o:d.size<=c.size)(r:l[j]? =some x):
 aO cp 204 [vp b 0,vi j] c λ_ K=>Pz S d c b s (l.set j ⟨x.op,0,l.length,0,x.args,x.eN⟩=·) K:=by
 apply xK (b,0)
 simp -zeta only[aD,aC]
 have G:=aw r
 have I:=h.gr.len bn
 obtain⟨M,⟨q,t,rfl,E,F⟩,jD⟩:=h.gr.cells r
 have w:=jD 0 _ rfl;have y:=jD 1 _ rfl;have z:=jD 2 _ rfl;have A:=jD 3 _ rfl;have B:=jD 4 _ rfl;have C:=jD 5 _ rfl
 refine⟨s,h.box.cq 0,V,V,_,w,_,y,_,z,_,A,_,B,_,C,?_⟩
 intro L e
 have g:J c e:=(J.push c _).ai (ad _) _ _
 have Q:e.size=c.size+1:=by simp[e,L,ax]
 clear_value e
 have i:=h.ext g
 have H:=i.ne
 have O:=h.gr.bq
 have P:=g.size
 refine⟨s,i.box.cq 0,s,i.box.cq 0,V,V,?_⟩
 have g1:VM (b::S) (c.extract 0 d.size) e s l:=Gr.cA dU.mono i.gr (λv m=>Or.inl m) (by rw[mD o];exact ad _)
 rw[I]
 let⟨wr,D,N,p⟩:=Gr.set (k:=j) (cs:=[.i x.op,.i 0,.i l.length,.i 0,.s q,.s t]) (a:=⟨x.op,0,l.length,0,x.args,x.eN⟩) dU.mono g1 (((J.Nj o).trans g).fz []) G ⟨q,t,rfl,E.le (g.dj _),F.le (g.dj _)⟩
 refine⟨wr,?_⟩
 intro u
 have R:u.size=e.size:=ax _ _ _ _
 refine⟨λf n=>p f (by simp at n;omega),s,_,⟨i.box.congr (p b (kT H)),Gr.cA dU.mono D (λv m=>Or.inl m) (by rw[mD o];exact ad _),h.up⟩,rfl,⟨V,λf n m=>?_⟩,Or.inl rfl⟩
 simp only[aW,km,Cb,vP]at m
 have v:u[f]? =e[f]? :=p f m.2
 rw[v,g.same f n]
end
section
variable{n a:Nat}
def nj(l b:List Instr)(n:Nat):Prop:=∃a,b=l++a/\(∀(i:Nat)(x:Instr),a[i]? =some x->PB (l.length+i) x)/\QQ a/\a.length<=n
def nj.aA(l:List Instr):nj l l 0:=⟨[],aN,aN,λ_ h=>by simp at h,ad _⟩
def nj.fu{l b:List Instr}(h:nj l b n)(i:n<=a):nj l b a:=let⟨f,c,d,e,g⟩:=h;⟨f,c,d,e,V⟩
def nj.len{l a:List Instr}(h:nj l a n):a.length<=l.length+n:=by obtain⟨b,rfl,_,_,d⟩:=h;simp;omega
def nj.trans{l e f:List Instr}(h:nj l e n)(p:nj e f a):nj l f (n+a):=by
 obtain⟨c,rfl,g,k,s⟩:=h;obtain⟨r,rfl,j,m,t⟩:=p;refine⟨c++r,aN,λi x b=>?_,λx q=>?_,bG⟩
 .rcases aX i c.length with d|d
  .rw[az d]at b;exact g i x b
  .rw[aK d]at b;have:=j _ x b;have o:(l++c).length+(i -c.length)=l.length+i:=bG;rw[o]at this;exact this
 .rcases List.mem_append.1 q with h|h
  .exact k x h
  .exact m x h
def nj.lY{l:List Instr}{x:Instr}(h:PB l.length x)(c:x.args.length<=10^12/\x.eN.length<=10^12):nj l (l++[x]) 1:=
 ⟨[x],rfl,λi y a=>by
  have:i=0:=by have:=aw a;simp at this;omega
  subst this;simp at a;subst a;exact h,λy b=>by simp at b;subst b;exact c,aN⟩
section
variable{S:List Nat}{d m c:E}{b:Nat}{s e:O}{l f:List Instr}
def FD.gN(h:FD S d m b s l)(f:J d m)(e:Fz [b,s.D] m c):J d c:=by
 have j:=h.gr.bq;have i:=h.up;exact Fz.ext (((f.fz [b,s.D]).trans e).DW λg a=>Or.inr (by simp at a;omega))
def Q3(h:Fz [b,s.D] m c)(f:e.D=s.D\/m.size<=e.D):Le (bI [s.D,b] m) (bI [e.D,b] c):=pR λa g i=>by
 simp at i;refine⟨by simp;rcases f with d|d<;>omega,h.same a g bG⟩
def Pz.dz{L:List Nat}(f:Fz [b,s.D] m c)(d:∀a∈L,a<m.size/\a≠b/\a≠s.D):eF L m c:=λa e=>f.same a (d a e).1 (by have:=d a e;simp;omega)
end
structure Sx(S:List Nat)(mb m:E)(eb:Nat)(s:O)(l:List Instr)(cons first:O)(cl fl:List Int):Prop where
 em:FD S mb m eb s l
 x:J mb m
 gN:∀c∈S,c<m.size
 cons:ap (bI [s.D,eb] m) cons cl
 first:ap (bI [s.D,eb] m) first fl
 same:fl.length=cl.length
 jw:∀y∈fl,0<=y/\y<=900000000000
def Sx.ext{S:List Nat}{e m d:E}{b:Nat}{s:O}{l:List Instr}{cons first:O}{a c:List Int}(h:Sx S e m b s l cons first a c)(x:J m d):Sx S e d b s l cons first a c:=
 ⟨h.em.ext x,h.x.trans x,λf g=>x.lt (h.gN f g),h.cons.le (x.dj _),h.first.le (x.dj _),h.same,h.jw⟩
def Sx.next{S:List Nat}{e m d:E}{a:Nat}{s c:O}{o j:List Instr}{cons first:O}{f g:List Int}(h:Sx S e m a s o cons first f g)(l:FD S e d a c j)(b:Fz [a,s.D] m d)(i:c.D=s.D\/m.size<=c.D):Sx S e d a c j cons first f g:=
 ⟨l,h.em.gN h.x b,λk n=>aP (h.gN k n) b.size,h.cons.le (Q3 b i),h.first.le (Q3 b i),h.same,h.jw⟩
def Yf(f:List bB)(g:List gU)(x:cZ):Prop:=∀(S:List Nat)(a m:E)(c:Nat)(s:O)(l:List Instr)(cons first:O)(b h:List Int)(e r d k:O),Sx S a m c s l cons first b h->WS f g.length True b.length x->b.length+4*x.w<=900000000000->l.length+6*x.w<=10^12->eM a e r f g->ap a d x.args->nT a k x.bF->
 aO cp 188 [vp c 0,.agg #[O.v e,O.v r],pD x d k,O.v cons,O.v first] m λ_ j=>Pz S a m c s (λi=>nj l i (6*x.w)) j
def Xb(f:List bB)(g:List gU)(b:Bk):Prop:=∀(S:List Nat)(a m:E)(d:Nat)(s:O)(l:List Instr)(cons first:O)(c h:List Int)(e r t:O),Sx S a m d s l cons first c h->WB f g.length True c.length b->c.length+4*b.w<=900000000000->l.length+6*b.w<=10^12->eM a e r f g->eR a t b.aE->
 aO cp 164 [vp d 0,.agg #[O.v e,O.v r],.agg #[O.v t,vi b.aT],O.v cons,O.v first] m λ_ j=>Pz S a m d s (λi=>nj l i (6*(b.w -1))) j
end
def tI(m:E):ap m .nil []:=⟨rfl,ad _,aN,aN⟩
def Mj{ds:List bB}{rs:List gU}{aE:List cZ}{a8:Int}(b:∀a∈aE,a.op=7\/a.op=8->Yf ds rs a):Xb ds rs (.mk aE a8):=by
 intro z mb D f ab ah cons first cl fl aM a7 bw E0 a1 be bf hn hs
 have a2:=a1.aU;rw[Bk.qW]at*;simp only[Bk.j8,Bk.jE]at*;apply vD (f,0);simp -zeta only[aD,aC];intro Q F;let⟨x2,hl⟩:=dI (a:=Q) (c:=F) rfl rfl;have s1:Q.size=D.size+1:=by simp[Q]
 have s2:F.size=D.size+2:=by simp[F,s1]
 clear_value F;have a0:=hs.len;have az:=BV aE;have bl:=gB aE;have bh:=E0.em.box.lt;have bs:=E0.em.gr.bq;have bj:=E0.x.size;refine xt (n:=aE.length) (a0▸hs.gX) (λo cons first M=>∃m P A L,Sx z mb M f m P cons first A L/\A.length=cl.length+dc (aE.take o)/\nj ah P (6*sw (aE.take o))/\Fz [f,ab.D] D M/\(m.D=ab.D\/F.size<=m.D)/\F.size<=M.size) ⟨ab,ah,cl,fl,E0.ext x2,aN,(nj.aA ah).fu (dQ _),x2.fz _,Or.inl rfl,ad _⟩ ?_;rintro o cons first M a9 μ hk ⟨m,P,A,L,R,aV,ag,fz,aZ,hM⟩ aJ
 have bi:=ag.len;have bo:=az o;have s:=R.em.gr.bq;refine dit (λk=>?_) λk=>?_
 .let⟨a,Z⟩:=cL aE o;let⟨pa,pk,O,aX,e0,e1,e2,e3,e4⟩:=hs.aF Z;have bq:=qu Z;have bp:=rf Z;have br:=cZ.mJ a;have bm:=az (o+1);have bg:=tz (aE.take o);have bk:=gB (aE.take o);have Y:=a2.1 o a Z;rw[<-aV]at Y;have X:=R.x;refine⟨V,V,_,X.af e0,_,X.af e1,_,X.af e2,_,X.af e3,_,X.af e4,?_⟩;intro m3 p;have x4:J M p:=(J.push M _).ai (ad _) _ _;have s4:p.size=M.size+1:=by simp[p,m3,ax]
  clear_value p;have j:=R.ext x4;have N:∀{T:E},p.size<=T.size->∀h∈[M.size,Q.size,D.size],h<T.size/\h≠f/\h≠m.D:=λhz h r=>by simp at r;omega
  have kS:∀{y U:E},p.size<=y.size->J y U->eF [M.size,Q.size,D.size] y U:=λhz xx h r=>xx.same h (N hz h r).1;have C:∀{y U:E},p.size<=y.size->J y U->∀ai,af U M.size ai=af y M.size ai:=λhz xx ai=>aI (xx.same _ V) ai;have an:∀{T:E},p.size<=T.size->∀c∈m.D::f::z,c<T.size:=λhz c b=>by
   simp only[aW]at b;rcases b with e|e|e
   .omega
   .omega
   .have:=R.gN c e;have:=X.size;omega
  refine⟨λI=>∃g u,Sx z mb I f g u cons first A L/\nj P u (6*a.w)/\Fz [f,m.D] p I/\(g.D=m.D\/p.size<=g.D),⟨λh7=>?_,λn7=>⟨λaR=>?_,λa5=>⟨λaS=>?_,λa6=>?_⟩⟩⟩,?_⟩
  .simp only[bT,aG]at h7;refine(b a (aq Z) h7 z mb p f m P cons first A L aM a7 pa pk j Y V V hn O aX).mono λv m5⟨g,u,ac,p5,K,b5⟩=>⟨Pz.dz K (N (ad _)),g,u,j.next ac K b5,p5,K,b5⟩
  .simp only[bT,aG]at aR;refine(bQ (m.D::f::z) (O.ext j.x) V).mono λv m5⟨a',la,e,ga,ea,d⟩=>⟨kS (ad _) d,a',e,C (ad _) d _,?_⟩;subst ea;have l:=j.ext d;have t:=d.size;refine(qT (x:=⟨a.op,0,0,0,a.args,[]⟩) l.em l.x.size (GI.done ga (an (ad _)) (by show a.args.length<=_;omega)) (tI _) V).mono λv G⟨ev,s6,l6,ak,p6,B,b6⟩=>⟨Pz.dz B (N t),_,ev,s6,l6,l.next ak B b6,?_,(d.fz _).trans B,V⟩;subst p6;exact(nj.lY ⟨λk=>by simp only at k;omega,λk=>by simp only at k;omega⟩ ⟨by show a.args.length<=_;omega,aN⟩).fu V
  .simp only[bT,aG]at aS;have bb:=Y.fj.lY V;let⟨H,ar⟩:=cL a.args 0;let⟨y0,y1⟩:=Y.fj.args H (aq ar);have bd:=O.len;have c4:=(j.cons.le (bD _ _));have f4:=(j.first.le (bD _ _));have a3:=c4.len;have a4:=f4.len;have aY:=j.same;let⟨cn,aO⟩:=cL A H.toNat;let⟨fn,am⟩:=cL L H.toNat;let⟨a_,ba⟩:=j.jw fn (aq am);have F4:=f4.aF am;refine⟨bn,V,H,(O.ext j.x).aF ar,y0,V,cn,c4.aF aO,y0,V,fn,F4,?_⟩;refine(dN (e:=[]) aN (hn.br.le (j.x.le.trans (Ap _))) hn.types cn).mono λv m5⟨aT,bt,e,aK,aw,d⟩=>⟨kS (ad _) d,aT,e,by rw[d.af F4,F4],C (ad _) d _,C (ad _) d _,?_⟩;subst aw;have t:=d.size;have F3:=FZ hn.types cn;obtain⟨fk,aQ⟩:∃fk:Nat,fn=fk:=⟨fn.toNat,V⟩;subst aQ;refine(sB (S:=[]) aN aK fk V).mono λv G⟨aU,bv,e,aA,al,i⟩=>⟨kS t i,aU,e,C t i _,C t i _,?_⟩;have z6:=i.size;refine(eP (S:=[]) aN ((O.ext (j.x.trans (d.trans i))).le (Ap _)) (aA.done uv.mono aN bn (oh al.2)) (oh al.2)).mono λv m7⟨av,aa,e,aF,au,q⟩=>⟨kS V q,av,e,C V q _,?_⟩;have W:=(d.trans i).trans q;have w:=j.ext W;have z7:=q.size;have aH:GI (m.D::f::z) G m7 av aa:=GI.any aF;have bc:aa.length<=a.args.length+3:=by rw[<-au];simp;have:=al.2;omega
   have aL:0<aa.length:=by rw[<-au];simp;omega
   refine(qT (x:=⟨a.op,0,0,0,aa,[]⟩) w.em w.x.size (aH.done (an V) V) (tI _) V).mono λv m8⟨ev,s8,l8,ay,p8,f8,b8⟩=>⟨Pz.dz f8 (N V),_,ev,s8,l8,w.next ay f8 b8,?_,(W.fz _).trans f8,V⟩;subst p8;exact(nj.lY ⟨λk=>by simp only at k;omega,λ_=>aL⟩ ⟨by show aa.length<=_;omega,aN⟩).fu V
  .refine(bQ (m.D::f::z) (O.ext j.x) V).mono λv m5⟨a',la,e,ga,ea,d⟩=>⟨kS (ad _) d,a',e,C (ad _) d _,C (ad _) d _,C (ad _) d _,?_⟩;subst ea;simp only[bu,aj]at a5 a6;have l:=j.ext d;have t:=d.size;have aa:a.op<=11:=by
    rcases Y.fj.op with k|k
    .exact k.2
    .omega
   refine(qT (x:=⟨a.op,(cons.len:Int),a.bS,a.cg,a.args,[]⟩) l.em l.x.size (GI.done ga (an (ad _)) (by show a.args.length<=_;omega)) (tI _) V).mono λv G⟨ev,s6,l6,ak,p6,B,b6⟩=>⟨Pz.dz B (N t),_,ev,s6,l6,l.next ak B b6,?_,(d.fz _).trans B,V⟩;subst p6;exact(nj.lY ⟨λk=>by simp only at k;omega,λk=>by simp only at k;omega⟩ ⟨by show a.args.length<=_;omega,aN⟩).fu V
  .rintro I ⟨g,u,l,p5,K,b5⟩;have t:=K.size;have ac:nj ah u (6*sw (aE.take (o+1))):=(ag.trans p5).fu V;have av:Fz [f,ab.D] D I:=(fz.then x4).sG K λH s=>by
    simp only[aW,km,Cb]at s⊢;rcases s with e|e
    .exact Or.inl (Or.inl e)
    .rcases aZ with d|d
     .exact Or.inl (Or.inr V)
     .exact Or.inr V
   have aw:g.D=ab.D\/F.size<=g.D:=V;have bb:=l.em.gr.bq;have al:∀h∈[M.size,Q.size,D.size],h<I.size:=λh r=>aP (N (ad _) h r).1 t;have ay:=λh r=>tB a h r;refine(jW a.op I).mono λv G⟨h,e,r,i⟩=>⟨λc b=>i.same c (al c b),h,e,λht=>?_,λhf=>?_⟩
   .have hd:=ay h r;rw[ao ht]at hd;intro m7;have q:J G m7:=J.push _ _;have ba:=l.em.box.lt;have z6:=i.size;have aa:∀c∈[g.D,f],c<G.size:=λc b=>by simp at b;omega
    have a3:ap (bI [g.D,f] m7) (.mk G.size 0 1 1) [0]:=ap.lit aB [0] aa rfl rfl aN;have W:=i.trans q;have w:=l.ext W;have a_:=w.cons.len;refine(eP (S:=[g.D,f]) (λc b=>q.lt (aa c b)) w.cons a3 bG).mono λv m8⟨aK,aA,e,aO,ar,x8⟩=>⟨λc b=>x8.same c (q.lt (i.lt (al c b))),aK,e,?_⟩;intro m9;have d:J m8 m9:=J.push _ _;have z7:=q.size;have z8:=x8.size;have am:∀c∈[g.D,f],c<m8.size:=λc b=>by have:=aa c b;omega
    have a4:ap (bI [g.D,f] m9) (.mk m8.size 0 1 1) [0]:=ap.lit aB [0] am rfl rfl aN;have E9:=w.ext (x8.trans d);have aY:=E9.same;refine(eP (S:=[g.D,f]) (λc b=>d.lt (am c b)) E9.first a4 bG).mono λv aH⟨aL,aF,e,aQ,au,B⟩=>⟨λc b=>B.same c (d.lt (x8.lt (q.lt (i.lt (al c b))))),aL,e,?_⟩;have ak:=E9.ext B;have aT:ap (bI [g.D,f] aH) aK aA:=(GI.done aO (λc b=>q.lt (aa c b)) (by rw[<-ar];simp;omega)).le ((d.trans B).dj _);have aU:ap (bI [g.D,f] aH) aL aF:=GI.done aQ (λc b=>d.lt (am c b)) (by rw[<-au];simp;omega);refine aJ V _ _ _ ⟨g,u,aA,aF,⟨ak.em,ak.x,ak.gN,aT,aU,by rw[<-ar,<-au];simp;omega,λH s=>?_⟩,by rw[<-ar];simp;omega,ac,av.then (((W.trans x8).trans d).trans B),aw,?_⟩
    .rw[<-au]at s;rcases List.mem_append.1 s with s|s
     .exact l.jw H s
     .simp at s;omega
    .have:=d.size;have:=B.size;omega
   .have hd:=ay h r;rw[ae (by simp[hf])]at hd;exact aJ V _ _ _ ⟨g,u,A,L,l.ext i,V,ac,av.then i,aw,oh i.size⟩
 .have a:o=aE.length:=V;subst a;rw[fB]at ag;exact⟨m,P,R.em,ag.fu V,fz,V⟩
section
variable{m:E}
def Js(m:E)(s:O):Prop:=s.len<=s.cap/\∀k:Nat,k<s.len->∃v:Int,0<=v/\v<=255/\af m s.D (s.off+k*1)=some (.int .u8 v)
def IY{dk:O}(h:Js m dk):aO cp 9 [O.v dk] m λv i=>∃a,v=vp m.size 0/\Rd m.size a 0 i/\J m i:=by
 let⟨g,f⟩:=h;apply Bp;have R:∀a:O,Js m a->∃l,vp m.size 0=vp m.size 0/\Rd m.size l 0 (m.push (.cells (bz [.s a,.i 0]) qx))/\J m (m.push (.cells (bz [.s a,.i 0]) qx)):=λa⟨n,o⟩=>by
  refine⟨a,rfl,⟨⟨0,cK.push _ _ _,de _,aN⟩,n,λk c=>?_⟩,J.push _ _⟩;let⟨v,d,e,b⟩:=o k c;have s:=mC b;exact⟨v,d,e,eS.2 ⟨bG,(J.push m _).af b⟩⟩
 refine⟨λh=>?_,λ_=>R dk ⟨g,f⟩⟩;simp only[ar]at h;refine⟨bn,bn,V,?_⟩;refine R _ ?_;cases dk with
 |nil=>simp at h
 |zX j p q=>simp at h
 |mk j p t q=>
  simp only[O.gL,O.OI]at h g;refine⟨by simp[O.cut];omega,λk c=>?_⟩;have r:k<2000:=by simpa[O.cut]using c
  let⟨v,d,e,b⟩:=f k bG;exact⟨v,d,e,by simpa[O.cut]using b⟩
def KH(f:Nat)(b:List Value)(m:E)(S:List Nat)(Q:Ex->Prop):Prop:=aO cp f b m λv a=>∃s e,v=.agg #[vi e.op,vi e.bS,O.v s]/\fI (bI S a) s e.bF/\Q e/\J m a
def Bf(S:List Nat)(n:Int)(m:E):KH 250 [vi n] m S (.mk 0 n []=·):=by
 apply EV;simp -zeta only[aD,aC];intro a b d;have c:J m b:=(J.push m _).trans (J.push a _);exact⟨_,.mk 0 n [],rfl,mR _ _ _ _ _ _,rfl,c.ai (ad _) _ _⟩
def mI(S:List Nat)(n:Int)(m:E):KH 285 [vi n] m S (.mk 12 n []=·):=by
 apply Dy;simp -zeta only[aD,aC];intro a b d;have c:J m b:=(J.push m _).trans (J.push a _);exact⟨_,.mk 12 n [],rfl,mR _ _ _ _ _ _,rfl,c.ai (ad _) _ _⟩
def JN{S:List Nat}{s:O}{bF:List Ex}(h:fI (bI S m) s bF)(a bS:Int):KH 283 [vi a,vi bS,O.v s] m S (.mk a bS bF=·):=by
 apply Ki;simp -zeta only[aD,aC];intro d c;have b:J m c:=(J.push m _).ai (ad _) _ _;exact⟨s,.mk a bS bF,rfl,h.le (b.dj _),rfl,b⟩
def BE{a P:Nat}{b:O}(r:Rd a b P m)(x:P+4<=10^16):aO cp 302 [vp a 0] m λv h=>∃k:Int,v=vi k/\Rd a b (P+4) h/\Fz [a] m h:=by
 apply Fh (a,0);refine(cr r V 6).mono λv y⟨d,e,_,_,s,n⟩=>⟨d,e,?_⟩;refine(cr s V 6).mono λv z⟨f,e,_,_,t,o⟩=>⟨f,e,?_⟩;refine(cr t V 40).mono λv i⟨g,e,_,_,c,p⟩=>⟨g,e,?_⟩;intro j;have l:J i j:=J.push _ _;have w:ap (bI [a] j) (.mk i.size 0 10 10) [d,f,0,1,2,-1,3,g,999,-998]:=ap.lit aB _ (by have:=c.lt;simpa using this) rfl rfl aN;refine(kO (c.ext l) V w aN).mono λv A⟨k,e,_,u,q⟩=>⟨k,e,k,rfl,u,((n.trans o).trans p).then l|>.trans q⟩
end
section
variable{m:E}
def ZX(e:Ex):Prop:=∀(m:E)(t:O),fI m t e.bF->∀left:Int,left<=600->tr 287 [.agg #[vi e.op,vi e.bS,O.v t],vi left] m λk=>k= -1\/0<=k/\k+e.n=left
def IZ:∀e:Ex,ZX e:=by
 refine Ex.ind ?_;intro L bS bF s m N c left F;simp only[Ex.Wh,Ex.Us,Ex.Sd,Ex.SU]at*;apply Bq;simp -zeta only[aD,aC];intro a;have f:J m a:=J.push _ _;have p:∀h∈[m.size],h<a.size:=by simp[a]
 clear_value a;have d:∀{M:E},J m M->∃k:Int,vi (-1:Int)=vi k/\(k= -1\/0<=k/\k+((1+en bF:Nat):Int)=left)/\J m M:=λB=>⟨-1,rfl,Or.inl rfl,B⟩;refine⟨λ_=>d f,λl=>?_⟩;simp only[bO]at l;have r:=c.len;rw[aR (b:=left -1) V V];refine eB (n:=bF.length) (r▸c.gX) (λk(v:Int) M=>J a M/\0<=v/\v+1+en (bF.take k)=left) ⟨J.aA _,V,aN⟩ ?_;rintro k v M I μ D ⟨g,z,A⟩ t
 have u:=f.trans g;refine dit (λj=>?_) λj=>?_
 .let⟨e,b⟩:=cL bF k;let⟨w,q,i,g1,g2⟩:=c.aF b;refine⟨V,V,_,u.af i,_,u.af g1,_,u.af g2,?_⟩;refine(s e (aq b) M w (fI.le u.le q) v V).aJ g p λK H G C y=>⟨_,rfl,λ_=>d (u.trans C),λo=>?_⟩;simp only[bO]at o;refine t V _ _ ⟨y,V,?_⟩
  rw[Ky b];omega
 .rw[bZ V]at A;exact⟨v,rfl,Or.inr ⟨z,V⟩,u⟩
def Br{t:O}{e:Ex}(h:fI m t e.bF):tr 256 [.agg #[vi e.op,vi e.bS,O.v t]] m λk=>k= -1\/k=e.n/\e.n<=30:=by
 apply Fa;simp -zeta only[aD,aC];intro a;have b:J m a:=J.push _ _;have g:∀d∈[m.size],d<a.size:=by simp[a]
 clear_value a;refine(IZ e a t (fI.le b.le h) 30 bn).aJ (J.aA a) g λn j i c l=>⟨_,rfl,λ_=>⟨-1,rfl,Or.inl rfl,b.trans c⟩,λf=>?_⟩;simp only[bO]at f;rw[aR (b:=30 -n) V V];exact⟨_,rfl,Or.inr ⟨V,V⟩,b.trans c⟩
def Mw{s:O}{l:List Int}(h:ap m s l)(e:Int):tr 249 [O.v s,vi e] m λk=>-1<=k/\k<l.length:=by
 apply Fe;have c:=h.len;refine dW (n:=l.length) (c▸h.gX) (λ_ M=>J m M) (J.aA _) ?_;rintro k M I μ g a f
 refine⟨λb=>?_,λ_=>⟨-1,rfl,⟨V,V⟩,a⟩⟩;simp only[ar]at b;let⟨x,d⟩:=cL l k;exact⟨V,V,x,(h.ext a).aF d,λ_=>⟨k,rfl,⟨V,V⟩,a⟩,λ_=>f V _ a⟩
def Mg(f:O)(m:E):aO cp 175 [O.v f] m λv a=>v=.agg #[O.v f]/\J m a:=by
 apply Mf;simp -zeta only[aD,aC];intro b c;exact⟨trivial,(J.push m _).ai (ad _) _ _⟩
def RC(p:O)(r:Int)(m:E):aO cp 220 [O.v p,vi r] m λv a=>v=.agg #[O.v p,vi r,vi 0,vi 0,O.v .nil]/\J m a:=by
 apply Mx;simp -zeta only[aD,aC];intro b c;exact⟨trivial,(J.push m _).ai (ad _) _ _⟩
end
section
variable{a:List Nat}{m:E}{b d p:O}
def Hw(q:∀c∈a,c<m.size){l:List Int}(h:ap m b l)(w:l.length<=10^12)(u:Int):lE 303 [O.v b,vi u] m a λc=>(∀y∈c,0<=y/\y<(l.length:Int))/\c.length<=l.length:=by
 apply zB;intro B;have r:=h.len;refine eB (n:=l.length) (r▸h.gX) (λk s M=>J m M/\∃c,GI a m M s c/\(∀y∈c,0<=y/\y<(l.length:Int))/\c.length<=k) ⟨J.push m _,[],GI.nil a m,aN,ad _⟩ ?_;rintro k s M I μ z ⟨e,c,g,f,A⟩ j
 refine⟨λi=>?_,λi=>⟨s,c,rfl,g,⟨f,V⟩,e⟩⟩;simp only[ar]at i;let⟨x,t⟩:=cL l k;refine⟨V,V,x,(h.ext e).aF t,λ_=>?_,λ_=>j V _ _ ⟨e,c,g,f,V⟩⟩;intro C;exact GI.kY g (e.fz []) q V λD v p o _ _=>j V _ _ ⟨o.ext,_,p,λy d=>by
  rcases List.mem_append.1 d with d|d
  .exact f y d
  .simp at d;omega,bG⟩
def TE(m:E)(b:List Ce)(p:dC):Prop:=∃a x y z,b=[.s a,.i p.aT,.i x,.i y,.s z]/\ap m a p.params
abbrev pL(m:E)(s:O)(l:List dC):Prop:=eV m 5 (TE m) s l
def TE.le{m b:E}(h:Le m b){a:List Ce}{p:dC}:TE m a p->TE b a p:=λ⟨c,x,y,z,d,e⟩=>⟨c,x,y,z,d,e.le h⟩
def pL.le{m b:E}(a:Le m b){s:O}{l:List dC}(h:pL m s l):pL b s l:=eV.le h a λ_ _=>TE.le a
def pL.aF{s:O}{l:List dC}(h:pL m s l){k:Nat}{p:dC}(d:l[k]? =some p):∃a,ap m a p.params/\af m s.D (s.off+k*5)=some (O.v a)/\af m s.D (s.off+k*5+1)=some (vi p.aT):=by
 obtain⟨e,⟨a,x,y,z,rfl,c⟩,b⟩:=h.iL k p d;exact⟨a,c,b 0 _ rfl,b 1 _ rfl⟩
def ClQ(a:List bB)(b:List dC)(t y:Int):Prop:=∃(f:Nat)(q:dC),y=f/\b[f]? =some q/\0<q.params.length/\(0<t->∃d∈a,d.cons.length=0/\q.params.getLast?=some d.tq/\q.aT=d.to)
def yy(X:∀g∈a,g<m.size){h:List bB}{e:List dC}(hd:cz m d h)(ht:dV h)(o:pL m p e)(hf:e.length<=1000)(v:Int):lE 309 [.agg #[O.v d,O.v p],vi v] m a λb=>(∀y∈b,ClQ h e v y)/\b.length<=e.length:=by
 apply CO;simp -zeta only[aD,aC];intro c q;have z:J m c:=J.push _ _;have G:∀g∈[m.size],g<c.size:=by simp[c]
 have R:GI a c q (.mk c.size 0 0 0) []:=GI.nil a c;have x2:J c q:=J.push _ _;clear_value q;clear_value c;have aa:=o.len;refine eB (n:=e.length) (aa▸o.gX) (λk t M=>J c M/\∃b,GI a c M t b/\(∀y∈b,ClQ h e v y)/\b.length<=k) ⟨x2,[],R,aN,ad _⟩ ?_;rintro k t M ac μ hk ⟨A,b,i,j,af⟩ r
 have u:=z.trans A;refine⟨λF=>?_,λF=>⟨t,b,rfl,i.cA (λ_ E=>E) z.size,⟨j,V⟩,u⟩⟩;simp only[ar]at F;let⟨s,I⟩:=cL e k;let⟨B,l,C,P⟩:=o.aF I;have ae:=l.len;have ag:=l.gX;refine⟨V,V,_,u.af C,λS=>?_,λ_=>r V _ _ ⟨A,b,i,j,V⟩⟩;simp only[ar]at S;rw[aR (b:=(B.len:Int) -1) V V];let⟨y,K⟩:=cL s.params (((B.len:Int) -1).toNat);refine⟨V,V,_,u.af C,V,V,y,(l.ext u).aF K,V,V,_,u.af P,?_⟩;refine(AK (hd.le u.le) ht y s.aT).aJ A G λai m3 H L w=>⟨_,rfl,λZ=>?_,λ_=>r V _ _ ⟨w,b,i.ext L,j,V⟩⟩;intro m4;refine GI.kY (i.ext L) (w.fz []) (λg f=>z.lt (X g f)) V λaj M' Q D _ _=>⟨J.oV (w.aL _) D.ext G,r V _ _ ⟨D.ext,_,Q,λab f=>?_,bG⟩⟩;rcases List.mem_append.1 f with f|f
 .exact j ab f
 .simp at f Z;refine⟨k,s,f,I,V,λE=>?_⟩;rcases H with H|⟨ah,N,_,Y,T,U,W⟩
  .omega
  .refine⟨N,aq Y,T,?_,W.symm⟩;rw[List.getLast?_eq_getElem?,U,<-K];congr 1;omega
def qj{i:List bB}{j:List dC}{v:List Int}(hd:cz m d i)(k:dV i)(q:pL m p j)(o:j.length<=1000)(r:ap m b v)(t:Int):pb 304 [.agg #[O.v d,O.v p],O.v b,vi t] m:=by
 apply EJ;simp -zeta only[aD,aC];intro a;have f:J m a:=J.push _ _;have e:∀n∈[m.size],n<a.size:=by simp[a]
 clear_value a;refine(nv (hd.le f.le) k t).any.aJ (J.aA a) e λl x g _=>⟨_,rfl,λ_=>rA (f.trans g),λ_=>?_⟩;have c:=f.trans g;refine(yy (a:=[]) aN (hd.le c.le) k (pL.le c.le q) o t).aJ g e λA w y _ _ h s=>⟨_,rfl,λ_=>rA (c.trans h),λ_=>?_⟩;exact(dA (r.ext (c.trans h)) t).any.aJ s e λl z u _=>⟨_,rfl,rA ((c.trans h).trans u)⟩
end
def Md{a P:Nat}{p:O}{m:E}(h:Rd a p P m)(Q:P+1<=10^16){q v x:O}{i:List bB}{r:List dC}{L:List Int}(hd:cz (bI [a] m) q i)(H:dV i)(G:pL (bI [a] m) v r)(B:r.length<=1000)(I:ap (bI [a] m) x L):
 aO cp 297 [vp a 0,.agg #[O.v q,O.v v],O.v x] m λw u=>∃k:Int,w=vi k/\(k=1\/0<=k/\k<=4/\k<=i.length)/\Rd a p (P+1) u/\Fz [a] m u:=by
 apply EH (a,0)
 simp -zeta only[aD,aC]
 intro b d
 have U:b.size=m.size+1:=by simp[b]
 have M:J m b:=J.push _ _
 have y:J b d:=J.push _ _
 have z:J m d:=M.trans y
 have S:=h.lt
 have t:∀c∈[m.size],c<d.size/\c∉[a]:=λc n=>by have:=y.size;simp at n⊢;omega
 have K:ap (bI [a] d) (.mk b.size 0 7 7) [1,1,3,0,2,4,3]:=ap.lit aB _ bG rfl rfl aN
 clear_value d
 have R:=hd.len
 refine(kO (h.ext z) V K aN).mono λw f⟨k,A,C,l,j⟩=>⟨j.dz t,k,A,?_⟩
 have e:Fz [a] m f:=(z.fz _).trans j
 have s:0<=k/\k<=4:=by simp at C;omega
 refine⟨λ_=>⟨1,rfl,Or.inl rfl,l,e⟩,λF=>?_⟩
 simp only[bO]at F
 have o:Le (bI [a] m) f:=(e.dj λ_ h=>h).trans (bD _ _)
 have D:∀c∈[m.size],c<f.size:=λc n=>aP (t c n).1 j.size
 refine(qj (hd.le o) H (pL.le o G) B (I.le o) k).aJ (J.aA f) D λN T g _=>⟨_,rfl,λ_=>⟨1,rfl,Or.inl rfl,l.ext g,e.then g⟩,λ_=>⟨k,rfl,Or.inr ⟨s.1,s.2,V⟩,l.ext g,e.then g⟩⟩

section
variable{t:Int}{x:Ex}
def KO:List bB:=[⟨0,0,[[],[0,1]]⟩,⟨0,0,[]⟩,⟨0,0,[[],[3,0,3]]⟩]
def Se:List bB:=[⟨0,0,[[1,3]]⟩,⟨1,0,[]⟩,⟨0,0,[[1,1,0],[0],[3]]⟩,⟨0,1,[]⟩]
def se:List (List bB):=KO::Se.map λd=>KO++[d]
def PG:List (List Int×Int):=[([],0),([1],0),([1,1],1),([1],1),([1,0],1),([2,1],1),([1,1],0),([3],0),([0],1),([0,1],1),([3,0],3),([3],1),([1,3,0],0),([0],0),([0,0],0),([1,0],0)]
structure GP(ds:List bB)(fs:List dC):Prop where
 ds:ds∈se
 jm:0<fs.length
 oQ:fs.length<=4
 dD:∀q∈fs,(q.params,q.aT)∈PG
def Lo(t:Int):Prop:=t=0\/t=1\/t=3
instance(t:Int):Decidable (Lo t):=inferInstanceAs (Decidable (_\/_))
def Ty(a:List bB)(t:Int):Prop:=0<=t/\t<=(a.length:Int)
instance(a:List bB)(t:Int):Decidable (Ty a t):=inferInstanceAs (Decidable (_/\_))
section
variable{a:List bB}{b:List dC}
def pN:∀a∈se,3<=a.length/\a.length<=4:=bn
def QT:∀a∈se,∀t∈[(0:Int),1,2,3,4],∀c∈(cB a t).take 2,((cB a t).head?=some c\/t∉cJ a c)->(cJ a c).length<=3/\(∀f∈cJ a c,Lo f)/\(Lo t->(cJ a c).length=0):=bn
def RK:∀a∈se,0<(cB a 1).length/\0<(cB a 3).length/\(cB a 0).length=0:=bn
def QR:∀a∈se,∀d∈a,d.cons.length=0->∀s∈PG,s.1.getLast?=some d.tq->s.2=d.to->∀f∈s.1.dropLast,Lo f:=bn
def NI:∀a∈se,cB a 1=[0,1]/\cB a 3=[2,3]/\cJ a 0=[]/\cJ a 1=[0,1]/\cJ a 2=[]/\cJ a 3=[3,0,3]:=bn
def zO:∀a∈se,(∀t∈[(0:Int),1,2,3,4],∀c∈cB a t,(cJ a c).length<=3/\∀f∈cJ a c,Ty a f)/\(∀t∈[(0:Int),1,2,3,4],(cB a t).length<=3)/\(∀d∈a,Ty a d.tq):=bn
def QS:∀a∈se,∀t∈[(1:Int),3,4],(t:Int)<=a.length->(∀d∈a[t.toNat -1]?,d.cons.length≠0)->0<(cB a t).length:=bn
def xf:∀s∈PG,s.1.length<=3/\(∀t∈s.1,0<=t/\t<=3)/\0<=s.2/\s.2<=3:=bn
def Vn(a:0<=t)(b:t<=4):t∈[(0:Int),1,2,3,4]:=bG
def Ty.YI(hd:a∈se)(h:Ty a t):t∈[(0:Int),1,2,3,4]:=Vn h.1 (O6 (pN a hd) h.2)
def GP.ty(h:GP a b)(c:0<=t)(d:t<=3):Ty a t:=⟨c,oh (pN a h.ds)⟩
def Lo.ty(hd:a∈se)(h:Lo t):Ty a t:=by have:=pN a hd;unfold Lo at h;constructor<;>omega
end
def TH:∀a∈se,∀d∈a,0<d.cons.length->d.cons.length<=3/\d.tq=0/\d.to=0/\∀f∈d.cons,f.length<=3/\∀t∈f,0<=t/\t<=(a.length:Int):=bn
def TJ:∀a∈se,∀k∈List.range a.length,∀d∈a[k]?,d.cons.length=0->(∀e∈a.take k,¬(e.cons.length=0/\e.tq=d.tq/\e.to=d.to))/\Ty a d.tq/\Ty a d.to:=bn
def tw{a:List bB}(h:a∈se):dV a:=
 ⟨(pN a h).2,λk d b=>⟨TH a h d (aq b),TJ a h k (List.mem_range.2 (aw b)) d b⟩⟩
structure XF(ds:List bB)(nf a:Nat)(op bS:Int)(n:Nat):Prop where
 o:0<=op/\op<=13
 UF:op=12->0<=bS/\bS<(a:Int)
 Kw:op=13->n=2
 Zr:op=7->n=3
 all:op=8->n=1+(cB ds bS).length/\0<(cB ds bS).length
 call:op=9->0<=bS/\bS<(nf:Int)
def xb(b:List bB)(a bS:Int):Nat->Nat
 |0=>0
 |i+1=>if a=13 then 1 else Ch b a bS i
inductive WX(ds:List bB)(nf:Nat):Nat->Ex->Prop
 |mk {a:Nat} {op bS:Int} {bF:List Ex} (fj:XF ds nf a op bS bF.length) (hk:∀(i:Nat)(e:Ex),bF[i]? =some e->WX ds nf (a+xb ds op bS i) e):WX ds nf a (.mk op bS bF)
section
variable{b:List bB}{c a:Nat}{d bS:Int}{bF:List Ex}
def WX.aU{e:Ex}(h:WX b c a e):XF b c a e.op e.bS e.bF.length/\∀(i:Nat)(x:Ex),e.bF[i]? =some x->WX b c (a+xb b e.op e.bS i) x:=by
 cases h with
 |mk fj d=>exact⟨fj,d⟩
def Zu(a:d≠13)(c:d≠8)(i:Nat):xb b d bS i=0:=by
 cases i with
 |zero=>rfl
 |succ i=>show(if d=13 then 1 else Ch b d bS i)=0;rw[ae a,KQ c]
def WX.fj(k:0<=d/\d<=11)(g:d=7->bF.length=3)(f:d≠8)(i:d=9->0<=bS/\bS<(c:Int))(j:∀e∈bF,WX b c a e):WX b c a (.mk d bS bF):=
 .mk ⟨⟨V,V⟩,λh=>V,λh=>V,g,λh=>absurd h f,i⟩ λl e h=>by rw[Zu V f];exact j e (aq h)
def WX.int(n:Int):WX b c a (.mk 0 n []):=.fj bn (λh=>V) bn (λh=>V) aN
def WX.UF(h:0<=bS/\bS<(a:Int)):WX b c a (.mk 12 bS []):=.mk ⟨bn,λ_=>h,λh=>V,λh=>V,λh=>V,λh=>V⟩ aN
def WX.lt{y:Ex}(e:WX b c a x)(f:WX b c (a+1) y):WX b c a (.mk 13 0 [x,y]):=
 .mk ⟨bn,λh=>V,λ_=>rfl,λh=>V,λh=>V,λh=>V⟩ λi g d=>by
  rcases i with _|_|i
  .simp at d;subst d;exact e
  .simp at d;subst d;exact f
  .simp at d
def WX.mt{l:List Ex}(k:WX b c a x)(n:l.length=(cB b bS).length)(m:0<l.length)(j:∀(i:Nat)(e:Ex)(f:Int),l[i]? =some e->(cB b bS)[i]? =some f->WX b c (a+(cJ b f).length) e):WX b c a (.mk 8 bS (x::l)):=
 .mk ⟨bn,λh=>V,λh=>V,λh=>V,λ_=>⟨bG,V⟩,λh=>V⟩ λi e d=>by
  rcases i with _|i
  .simp at d;subst d;exact k
  .simp at d;let⟨f,g⟩:=cL (cB b bS) i (oh (aw d));have:=j i e f d g;show WX b c (a+Ch b 8 bS i) e;rw[KP rfl g];exact this
end
end
section
variable{X:List Nat}{b k c:Nat}{s:O}
structure GC(rb:Nat)(bs:O)(P:Nat)(d p:O)(ds:List bB)(fs:List dC)(m:E):Prop where
 rd:Rd rb bs P m
 hd:cz (bI [rb] m) d ds
 hp:pL (bI [rb] m) p fs
 gp:GP ds fs
def Lw(a:Nat)(L:List Nat)(m:E):Prop:=∀b∈L,b<m.size/\b≠a
def XP(S:List Nat)(b:Nat)(c:O)(m:E)(P:Nat)(Q:Ex->Prop)(v:Value)(a:E):Prop:=∃s e,v=.agg #[vi e.op,vi e.bS,O.v s]/\fI (bI S a) s e.bF/\Q e/\Rd b c P a/\Fz [b] m a
abbrev IR(a:Nat)(m:E)(s:O)(l:List Int):Prop:=ap (bI [a] m) s l
section
variable{e P i:Nat}{h d p:O}{l:List bB}{n:List dC}{m M g:E}{S L:List Nat}{f:Nat}{j:List Value}{Q Q':Ex->Prop}
def fh(f:Fz [e] m M):Le (bI [e] m) (bI [e] M):=f.dj λ_ h=>h
def GC.to(a:GC e h P d p l n m)(f:Fz [e] m M)(r:Rd e h i M):GC e h i d p l n M:=⟨r,a.hd.le (fh f),pL.le (fh f) a.hp,a.gp⟩
def GC.ext(a:GC e h P d p l n m)(x:J m M):GC e h P d p l n M:=a.to (x.fz _) (a.rd.ext x)
def GC.types(a:GC e h P d p l n m):dV l:=tw a.gp.ds
def Lw.fz(h:Lw e L m)(f:Fz X m M):Lw e L M:=λb a=>⟨aP (h b a).1 f.size,(h b a).2⟩
def Lw.lt(h:Lw e L m)(f:Fz X m M):∀b∈L,b<M.size:=λb a=>(h.fz f b a).1
def Lw.dz(h:Lw e L m)(f:Fz [e] m M):eF L m M:=f.dz λb a=>⟨(h b a).1,by have:=(h b a).2;simpa using this⟩
def Lw.cq(h:Lw e L m)(f:Fz [e] m M)(c:Fz [e] M g)(a:b∈L)(o:Nat):af g b o=af M b o:=aI (c.same b (h.fz f b a).1 (by have:=(h b a).2;simpa using this)) o
def XP.mono{P i:Nat}(k:∀a,Q a->Q' a)(j:P<=i){v:Value}:XP S e h m P Q v M->XP S e h m i Q' v M:=λ⟨s,a,b,c,d,f,g⟩=>⟨s,a,b,c,k a d,f.mono j,g⟩
def XP.then{K:Value->E->Prop}(c:aO cp f j M (XP S e h M P Q))(m:Lw e L M)(n:∀s a g,fI (bI S g) s a.bF->Q a->Rd e h P g->Fz [e] M g->K (.agg #[vi a.op,vi a.bS,O.v s]) g):aO cp f j M λv g=>eF L M g/\K v g:=
 c.mono λv g⟨s,a,d,i,k,l,b⟩=>⟨m.dz b,d▸n s a g i k l b⟩
def Lw.tQ(h:Lw e L m)(f:Fz [e] m M)(a:Fz [e] m g):eF L M g:=λb c=>by
 have:=h b c;rw[f.same b this.1 (by simpa using this.2),a.same b this.1 (by simpa using this.2)]
def XP.ret{p:Nat}(q:aO cp f j M (XP (b::S) e h M P Q))(t:Lw e L M)(o:Fz [e] m M)(r:Rd e h p m)(n:m.size<=b)(v:∀a,Q a->Q' a)(u:P<=i):
 aO cp f j M λA g=>eF L M g/\∃c d:Int,∃k:O,A=.agg #[vi c,vi d,O.v k]/\XP S e h m i Q' (.agg #[vi c,vi d,O.v k]) (ai g b 0 [.i c,.i d,.s k]):=
 XP.then q t λs a g z y w l=>⟨_,_,_,rfl,s,a,rfl,fI.le (cD aN λB x=>ah _ x) z,v a y,r.ai (w.mono u) (o.trans l) n 0 _,(o.trans l).ai (Or.inr n) _ _⟩
abbrev GE(S:List Nat)(a m:E)(s:O)(l:List Ex):Prop:=Gr S a m bH 3 Cc s l
def XP.kY{B:Nat}{i:E}{s:O}{n:List Ex}{K:O->E->Prop}(D:aO cp f j M (XP (s.D::S) e h M P Q))(t:GE S i M s n)(z:Fz [e] i M)(w:Lw e L i)(u:Rd e h B i)(H:e∈S)(l:n.length<=1000)
 (F:∀c r g,Q c->GE S i g r (n++[c])->Rd e h P g->Fz [e] i g->Fz [e,s.D] M g->(r.D=s.D\/M.size<=r.D)->K r g):
 aO cp f j M λN k=>eF L M k/\∃o p:Int,∃q:O,N=.agg #[vi o,vi p,O.v q]/\
  jT (k.push (.cells (bz [.i o,.i p,.s q]) bH)) bH [.i 0,.i 0,.s .nil] 40 s (O.mk k.size 0 1 1) λr g=>eF L (k.push (.cells (bz [.i o,.i p,.s q]) bH)) g/\K r g:=
 XP.then D (w.fz z) λU c k J G x d=>⟨_,_,_,rfl,by
  have T:=t.bq;have I:=u.lt;have v:=z.trans d;refine Gr.kY (g:=[.i 0,.i 0,.s .nil]) (k:=c) Cc.mono bn (t.eC Cc.mono d (by simp;exact⟨H,I⟩)) v (by cases c;exact Cc.of J) V λr g C m R A=>⟨w.tQ (v.push _) m,F c r g G C (u.Nd x m (A e x.lt V)) m ⟨bJ d.size R.1,λb y l=>?_⟩ (oh d.size)⟩;simp only[aW,km,Cb,vP]at l;rw[A b (aP y d.size) l.2,d.same b y (by simpa using l.1)]⟩
def YK{b:E}(h:Fz [e,k] b M)(d:s.D=k\/b.size<=s.D)(a:Fz [e,s.D] M g):Fz [e,k] b g:=
 h.sG a λy c=>by simp at c⊢;omega
end
def ny{S:List Nat}{d P:Nat}{b:O}{m:E}{bF:List Ex}(j:Rd d b P m)(h:fI (bI S m) s bF)(a bS:Int):aO cp 283 [vi a,vi bS,O.v s] m (XP S d b m P (.mk a bS bF=·)):=
 (JN h a bS).mono λv l⟨k,e,f,g,i,c⟩=>⟨k,e,f,g,i,j.ext c,c.fz _⟩
def XN(b:List bB)(d:List dC)(c:Nat)(e:Ex):Prop:=(∀a,WX b d.length a e)/\e.n<=c
def Xh(c k:Nat)(e:List bB)(f:List dC)(t:Int):Prop:=∀(S:List Nat)(a P:Nat)(b d p:O)(m:E),(∀g∈S,g<m.size)->a∈S->GC a b P d p e f m->P+k<=10^16->
 aO cp 305 [vp a 0,.agg #[O.v d,O.v p],vi t] m (XP S a b m (P+k) (XN e f c))
def Sp{a:List bB}{b:List dC}{l:List Ex}{f i:Int}(m:f=6\/f=10)(h:∀e∈l,XN a b 1 e)(k:l.length+1<=c):XN a b c (.mk f i l):=
 ⟨λg=>.fj V (λh=>V) V (λh=>V) λe d=>(h e d).1 g,by
  rw[Ex.SU];have:∀l:List Ex,(∀e∈l,XN a b 1 e)->en l<=l.length:=λl=>by
   induction l with
   |nil=>simp
   |cons x l j=>intro h;rw[ON,be];have:=(h x aN).2;have:=j λe d=>h e (by simp[d]);omega
  have:=this l h;omega⟩
def JM{d:List bB}{fs:List dC}{t:Int}(ht:Ty d t)(D:(Lo t/\c=1/\k=5)\/((∀a,Lo a->Xh 1 5 d fs a)/\c=4/\k=20)):Xh c k d fs t:=by
 intro r f B H an ax al hS aa a hP;apply Du (f,0);simp -zeta only[aD,aC];intro m ab;let⟨x2,hl⟩:=dI (a:=m) (c:=ab) rfl rfl;have s1:m.size=al.size+1:=by simp[m]
 clear_value ab;have hr:=a.rd.lt;have L2:Lw f [m.size,al.size] ab:=λb K=>⟨hl b K,by simp at K;omega⟩;have Y:=a.types;have h5:=Ty.YI a.gp.ds ht;have ag:∀e∈m.size::r,e<ab.size:=bR hS x2.size (hl _ aN);have c2:=a.ext x2;refine(iH (e:=[f]) (by simp;exact c2.rd.lt) (c2.hd.le (bD _ _)) Y t).mono λA m3⟨cs,l,e,hc,q,G⟩=>⟨L2.dz (G.fz _),cs,e,?_⟩;subst q;have u:=c2.ext G;have N:=L2.fz (G.fz []);have u3:=x2.trans G;have aM:=hc.len;refine dit (λh0=>?_) λh0=>?_
 .let⟨X,ak⟩:=cL (cB d t) 0;have hh:(cB d t).head?=some X:=by rw[List.head?_eq_getElem?];exact ak
  have L:X∈(cB d t).take 2:=List.mem_take_iff_getElem.2 ⟨0,V,by have:=List.getElem?_eq_some_iff.1 ak;exact this.2⟩;have A0:∀{M:E},Fz [f] m3 M->af M cs.D (cs.off+Int.toNat 0*1)=some (vi X):=λR=>(eS.1 ((hc.le (fh R)).aF ak)).2;refine⟨bn,V,X,A0 (Fz.aA _ _),λa M=>a∈(cB d t).take 2/\Rd f H (B+1) M/\Fz [f] m3 M,⟨λI=>?_,λI=>⟨L,u.rd.mono V,Fz.aA _ _⟩⟩,?_⟩
  .simp only[ar]at I;let⟨o,i⟩:=cL (cB d t) 1;have t1:o∈(cB d t).take 2:=List.mem_take_iff_getElem.2 ⟨1,V,by have:=List.getElem?_eq_some_iff.1 i;exact this.2⟩;refine(cr u.rd V 4).mono λA m4⟨F,e,_,_,j,g⟩=>⟨N.dz g,F,e,λh=>⟨bn,V,o,(eS.1 ((hc.le (fh g)).aF i)).2,t1,j,g⟩,λh=>⟨L,j,g⟩⟩
  rintro c' v ⟨aA,w,i⟩;have O:=N.fz i;refine⟨λa M=>a∈(cB d t).take 2/\((cB d t).head?=some a\/t∉cJ d a)/\Rd f H (B+1) M/\Fz [f] m3 M,?_,?_⟩
  .refine(dN (e:=[]) aN ((u.to i w).hd.le ((bD _ _).trans (Ap _))) Y c').mono λA m6⟨R,l,e,hf,q,x⟩=>⟨O.dz (x.fz _),R,e,?_⟩;subst q;refine(dA (hf.le (bD _ _)) t).mono λA o⟨b,e,K,g⟩=>⟨(O.fz (x.fz [])).dz (g.fz _),b,e,λau=>?_,λah=>⟨aA,Or.inr λj=>by rw[K.2 j]at ah;exact absurd ah bn,(w.ext x).ext g,(i.then x).then g⟩⟩;have j:=(i.then x).then g;exact⟨bn,V,X,A0 j,L,Or.inl hh,(w.ext x).ext g,j⟩
  rintro Q p ⟨I,h2,r8,Z⟩;let⟨z3,aE,zz⟩:=QT d a.gp.ds t h5 Q I h2;have c8:=u.to Z r8;have L8:=N.fz Z;have F8:Fz [f] al p:=(u3.fz _).trans Z;have z8:=Z.size;have aG:=G.size;have z2:=x2.size;intro U;have x9:J p U:=J.push _ _;have g9:GE (m.size::r) p U (.mk p.size 0 0 0) []:=Gr.new _ (ad _) _ _ _;have s9:U.size=p.size+1:=by simp[U]
  clear_value U;refine(dN (e:=[f,p.size]) bG (c8.hd.le (x9.bI aN)) Y Q).mono λA av⟨R,l,e,hf,q,ac⟩=>⟨(L8.fz (x9.fz [])).dz (ac.fz _),R,e,?_⟩;subst q;have aB:=hf.len;refine eB (n:=(cJ d Q).length) V (λj s M=>∃l,GE (m.size::r) p M s l/\l.length=j/\(∀e∈l,XN d fs 1 e)/\Rd f H (B+1+5*j) M/\Fz [f] p M/\Fz [f,p.size] av M/\(s.D=p.size\/av.size<=s.D)) ⟨[],g9.ext Cc.mono ac,rfl,aN,(r8.ext x9).ext ac,((x9.trans ac).fz _),Fz.aA _ _,Or.inl rfl⟩ ?_;rintro j s M ay μ hj ⟨l,C,aF,T,W,o,ae,hs⟩ am
  have LM:=L8.fz o;refine dit (λh=>?_) λh=>?_
  .rcases D with⟨aj,_,_⟩|⟨ih,e1,e2⟩
   .have:=zz aj;omega
   let⟨y,z⟩:=cL (cJ d Q) j;refine⟨V,V,y,(eS.1 ((hf.le (ae.dj λ_ h=>h)).aF z)).2,?_⟩;exact XP.kY (ih y (aE y (aq z)) (s.D::m.size::r) f (B+1+5*j) H an ax M (bR (λe g=>by have:=ag e g;have:=o.size;have:=G.size;omega) (ad _) C.bq.2) (by simp[aa]) (c8.to o W) V) C o L8 r8 (by simp[aa]) V λe aL M' g g' r' f' ap aI=>
    am V _ _ ⟨_,g',bG,λe' ai=>by rcases List.mem_append.1 ai with h|h;exact T e' h;simp at h;subst h;exact g,r'.mono V,f',YK ae hs ap,oh ae.size⟩
  .have az:∀e∈m.size::r,e<p.size:=λe g=>by have:=ag e g;omega
   exact XP.ret (ny W (C.done Cc.mono az bn V) 6 Q) LM (F8.trans o) a.rd V (λe g=>g▸Sp (Or.inl rfl) T (by rcases D with⟨h,e,_⟩|⟨_,e,_⟩;have:=zz h;omega;omega)) (by rcases D with⟨h,_,e⟩|⟨_,_,e⟩;have:=zz h;omega;omega)
 .refine(yy (a:=[f]) (by simp;exact u.rd.lt) (u.hd.le (bD _ _)) Y (pL.le (bD _ _) u.hp) (oh a.gp.oQ) t).mono λA m4⟨R,l,e,gl,T,p⟩=>⟨N.dz (p.fz _),R,e,?_⟩;have ae:IR f m4 R l:=GI.done gl (by simp;exact u.rd.lt) (O6 T.2 a.gp.oQ);have aP:=ae.len;have X:=u.ext p;have Q:=N.fz (p.fz []);have u4:=u3.trans p;have z4:=p.size;have z3:=G.size;refine⟨λb M=>(b=true->0<t/\0<R.len)/\M=m4,⟨λh=>⟨λU=>by simp only[ar]at h U;omega,rfl⟩,λh=>⟨aN,rfl⟩⟩,?_⟩;rintro b _ ⟨K,rfl⟩;refine⟨λau=>?_,λah=>?_⟩
  .let⟨L,aO⟩:=K au;refine(cr X.rd V R.len).mono λA v⟨F,e,k0,k2,w,i⟩=>⟨Q.dz i,F,e,k0,V,?_⟩;let⟨y,z⟩:=cL l F.toNat;obtain⟨fi,q,rfl,U,aT,aH⟩:=T.1 y (aq z);let⟨dd,aA,az,aE,aJ⟩:=aH L;have aj:=QR d a.gp.ds dd aA az _ (a.gp.dD q (aq U)) aE aJ;have aU:q.params.length<=3:=(xf _ (a.gp.dD q (aq U))).1;have Z:=X.to i w;have O:=Q.fz i;let⟨ps,ak,e0,e1⟩:=Z.hp.aF U;have aQ:=ak.len;have aB:=aw U;have aS:=Z.hp.len;refine⟨_,(eS.1 ((ae.le (fh i)).aF z)).2,V,V,ps,(eS.1 e0).2,?_⟩;intro m6;have x:J v m6:=J.push _ _;have g6:GE (m.size::r) v m6 (.mk v.size 0 0 0) []:=Gr.new _ (ad _) _ _ _;clear_value m6;have z5:=i.size;have ac:∀e∈m.size::r,e<v.size:=λe g=>by have:=ag e g;omega
   have aV:¬Lo t\/(Lo t/\0<t):=by by_cases h:Lo t;exact Or.inr ⟨h,L⟩;exact Or.inl h
   have hd:=RK d a.gp.ds;rcases D with⟨aG,_,_⟩|⟨ih,e2,e3⟩
   .exfalso;rcases aG with h|h|h
    .omega
    .subst h;omega
    .subst h;omega
   refine eB (n:=q.params.length -1) V (λj s M=>∃l,GE (m.size::r) v M s l/\l.length=j/\(∀e∈l,XN d fs 1 e)/\Rd f H (B+1+5*j) M/\Fz [f] v M) ⟨[],g6,rfl,aN,w.ext x,x.fz _⟩ ?_;rintro j s M ay μ hj ⟨l',C,aF,av,W,o⟩ am
   have ew:cG ((j:Int)+1)=j+1:=aR V V;refine⟨λh=>?_,λh=>?_⟩
   .simp only[ew,ar]at h;let⟨y,z⟩:=cL q.params j;have aK:y∈q.params.dropLast:=List.mem_iff_getElem?.2 ⟨j,by rw[List.getElem?_dropLast,ao V];exact z⟩;refine⟨V,V,y,(eS.1 ((ak.le (fh o)).aF z)).2,?_⟩;exact XP.kY (ih y (aj y aK) (s.D::m.size::r) f (B+1+5*j) H an ax M (bR (λe g=>O6 (ac e g) o.size) (ad _) C.bq.2) (by simp[aa]) (Z.to o W) V) C o O w (by simp[aa]) V λe aL M' g g' r' f' ap aI=>
     am V _ _ ⟨_,g',bG,λe' ai=>by rcases List.mem_append.1 ai with h|h;exact av e' h;simp at h;subst h;exact g,r'.mono V,f'⟩
   .simp only[ew,bO]at h;exact XP.ret (ny W (C.done Cc.mono ac bn V) 10 _) (O.fz o) (((u4.fz _).trans i).trans o) a.rd V (λe g=>g▸Sp (Or.inr rfl) av V) V
  .refine(BE X.rd (by rcases D with⟨_,_,e⟩|⟨_,_,e⟩<;>omega)).mono λA v⟨F,e,w,i⟩=>⟨Q.dz i,F,e,?_⟩;exact XP.ret (P:=B+4) ((Bf (m.size::r) F v).mono λA x⟨o,e,I,h2,j,h⟩=>⟨o,e,I,h2,j,w.ext h,h.fz _⟩) (Q.fz i) ((u4.fz _).trans i) a.rd V (λe g=>g▸⟨λh=>.int _,by rw[Ex.SU];rcases D with⟨_,e,_⟩|⟨_,e,_⟩<;>simp[e]⟩) (by rcases D with⟨_,_,e⟩|⟨_,_,e⟩<;>omega)
end
section
variable{a:Nat}{t:Int}
def _root_.Go.Vc.Q8{σ:Type}(o:a<=9223372036854775807)(e:1<=a){m:E}{h:σ}{g:(σ->Int->E->Prop)->(σ->Int->E->Nat)->σ->Int->E->Prop}(Q:Nat->σ->E->Prop)(l:Q 1 h m)
 (j:∀(k:Nat)(s:σ)(b:E)(I:σ->Int->E->Prop)(μ:σ->Int->E->Nat),1<=k->k<=a->Q k s b->
  (k<a->∀d c,Q (k+1) d c->I d (cG ((k:Int)+1)) c/\μ d (cG ((k:Int)+1)) c<μ s k b)->g I μ s k b):
 ∃(I:σ->Int->E->Prop)(μ:σ->Int->E->Nat),I h 1 m/\∀s i b,I s i b->g I μ s i b:=by
 refine⟨λs i c=>∃k:Nat,i=k/\1<=k/\k<=a/\Q k s c,λ_ i _=>(a -i).toNat,⟨1,rfl,ad _,e,l⟩,?_⟩
 rintro s i b ⟨k,rfl,e,n,p⟩
 refine j k s b _ _ e n p λf d c q=>?_
 rw[kQ f o]
 exact⟨⟨k+1,rfl,V,f,q⟩,DM f⟩
def _root_.Go.Vc.V9(l:a<=9223372036854775807)(d:1<=a){m:E}{f:(Int->E->Prop)->(Int->E->Nat)->Int->E->Prop}(Q:Nat->E->Prop)(g:Q 1 m)
 (h:∀(k:Nat)(b:E)(I:Int->E->Prop)(μ:Int->E->Nat),1<=k->k<=a->Q k b->
  (k<a->∀c,Q (k+1) c->I (cG ((k:Int)+1)) c/\μ (cG ((k:Int)+1)) c<μ k b)->f I μ k b):
 ∃(I:Int->E->Prop)(μ:Int->E->Nat),I 1 m/\∀i b,I i b->f I μ i b:=by
 refine⟨λi c=>∃k:Nat,i=k/\1<=k/\k<=a/\Q k c,λi _=>(a -i).toNat,⟨1,rfl,ad _,d,g⟩,?_⟩
 rintro i b ⟨k,rfl,d,j,n⟩
 refine h k b _ _ d j n λe c o=>?_
 rw[kQ e l]
 exact⟨⟨k+1,rfl,V,e,o⟩,DM e⟩
def Kq{a:List bB}{b:List dC}(hd:a∈se)(c:Ty a t):Xh 4 20 a b t:=JM c (Or.inr ⟨λ_ h=>JM (h.ty hd) (Or.inl ⟨h,rfl,rfl⟩),rfl,rfl⟩)
def KH.x{f:Nat}{a:List Value}{S:List Nat}{d P:Nat}{b:O}{m:E}{Q:Ex->Prop}(h:KH f a m S Q)(k:Rd d b P m):aO cp f a m (XP S d b m P Q):=
 h.mono λv n⟨l,e,g,i,j,c⟩=>⟨l,e,g,i,j,k.ext c,c.fz _⟩
section
variable{f:List Nat}{c P:Nat}{h d p j:O}{g:List bB}{e:List dC}{b:E}{i:List Int}
def rU(hS:∀o∈f,o<b.size)(ag:c∈f)(o:GC c h P d p g e b)(hP:P+22<=10^16)(hv:IR c b j i)(ak:i.length<=1000)(ht:Ty g t):
 aO cp 286 [vp c 0,.agg #[O.v d,O.v p],O.v j,vi t] b (XP f c h b (P+22) λa=>WX g e.length i.length a/\a.n<=4):=by
 apply Ke (c,0)
 simp -zeta only[aD,aC]
 intro k y
 let⟨A,hl⟩:=dI (a:=k) (c:=y) rfl rfl
 have s1:k.size=b.size+1:=by simp[k]
 clear_value y
 have hr:=o.rd.lt
 have Y:Lw c [k.size,b.size] y:=λN hb=>⟨hl N hb,by simp at hb;omega⟩
 have ae:∀a∈k.size::f,a<y.size:=bR hS A.size (hl _ aN)
 have z2:=A.size
 refine(Hw (a:=[c]) (m:=y) bG ((hv.le (bD _ _)).ext A) V t).mono λ_ U⟨r,ac,a,gl,ah,B⟩=>⟨Y.dz (B.fz _),r,a,?_⟩
 have aa:IR c U r ac:=GI.done gl bG V
 have F:=(o.ext A).ext B
 have D:=Y.fz (B.fz [])
 have C:Fz [c] b U:=(A.trans B).fz _
 have al:=aa.len
 have z3:=B.size
 have jw:∀{Q:Nat}{M:E},GC c h Q d p g e M->Fz [c] b M->y.size<=M.size->Lw c [k.size,b.size] M->Q<=P+2->aO cp 305 [vp c 0,.agg #[O.v d,O.v p],vi t] M λW n=>eF [k.size,b.size] M n/\∃s u:Int,∃w:O,W=.agg #[vi s,vi u,O.v w]/\XP f c h b (P+22) (λa=>WX g e.length i.length a/\a.n<=4) (.agg #[vi s,vi u,O.v w]) (ai n k.size 0 [.i s,.i u,.s w]):=λR T h1 I hq=>
  XP.ret (Kq o.gp.ds ht (k.size::f) c _ h d p _ (λa l=>oh (ae a l)) (by simp[ag]) R V) I T o.rd V (λa l=>⟨l.1 _,l.2⟩) V
 have UF:∀{Q:Nat}{M:E},GC c h Q d p g e M->Fz [c] b M->Fz [c] U M->Lw c [k.size,b.size] M->Q<=P+2->0<r.len->aO cp 47 [vp c 0,vi (r.len:Int)] M λaj n=>eF [k.size,b.size] M n/\∃K:Int,aj=vi K/\(0:Int)<=K/\K<(r.len:Int)/\∃ad:Int,af n r.D (r.off+Int.toNat K*1)=some (vi ad)/\
  aO cp 285 [vi ad] n λW Z=>eF [k.size,b.size] n Z/\∃s u:Int,∃w:O,W=.agg #[vi s,vi u,O.v w]/\XP f c h b (P+22) (λa=>WX g e.length i.length a/\a.n<=4) (.agg #[vi s,vi u,O.v w]) (ai Z k.size 0 [.i s,.i u,.s w]):=λR T f3 I hq h0=>
  (cr R.rd V r.len).mono λ_ n⟨ab,a,k0,k1,r',H⟩=>by
   let⟨X,hy⟩:=cL ac ab.toNat;exact⟨I.dz H,ab,a,k0,V,X,(eS.1 ((aa.le (fh (f3.trans H))).aF hy)).2,XP.ret ((mI (k.size::f) X n).x r') (I.fz H) (T.trans H) o.rd V (λa l=>l▸⟨.UF (ah.1 X (aq hy)),by rw[Ex.SU];simp⟩) V⟩
 refine⟨λx=>?_,λx=>jw F C z3 D V⟩
 simp only[ar]at x
 refine(cr F.rd V 6).mono λ_ m4⟨k1,a,_,_,r4,l⟩=>⟨D.dz l,k1,a,λx=>UF (F.to l r4) (C.trans l) l (D.fz l) V V,λx=>?_⟩
 intro m5
 have z:J m4 m5:=J.push _ _
 have G:=(F.to l r4).ext z
 have L:=(D.fz l).fz (z.fz [])
 exact(qj (v:=[]) (G.hd.le (bD _ _)) o.types (pL.le (bD _ _) G.hp) (oh o.gp.oQ) (mR _ _ _ _ _ _) t).mono λ_ m6⟨N,a,q⟩=>⟨L.dz (q.fz _),N,a,λx=>UF (G.ext q) ((C.trans l).then (z.trans q)) (l.then (z.trans q)) (L.fz (q.fz [])) V V,λx=>jw (G.ext q) ((C.trans l).then (z.trans q)) (by have:=l.size;have:=z.size;have:=q.size;omega) (L.fz (q.fz [])) V⟩
def J0(Y:∀m∈f,m<b.size)(hd:cz b d g)(ht:dV g)(C:pL b p e)(hf:e.length<=1000)(X:1<=e.length)(t:Int):lE 300 [.agg #[O.v d,O.v p],vi t] b f λh=>(∀y∈h,∃(o:Nat)(q:dC),y=o/\e[o]? =some q)/\h.length<=e.length:=by
 apply CM;simp -zeta only[aD,aC];intro a E;have L:J b a:=J.push _ _;have A:∀m∈[b.size],m<a.size:=by simp[a]
 have W:GI f a E (.mk a.size 0 0 0) []:=GI.nil f a;have x2:J a E:=J.push _ _;clear_value E;clear_value a;have ah:=C.len;refine Q8 (a:=e.length) V X (λu I M=>J a M/\∃h,GI f a M I h/\(∀y∈h,∃(o:Nat)(q:dC),y=o/\e[o]? =some q)/\h.length<=u) ⟨x2,[],W,aN,aN⟩ ?_;rintro u I M ac μ ae hk ⟨l,h,x,D,ag⟩ T
 have K:=L.trans l;refine⟨λQ=>?_,λQ=>⟨I,h,rfl,x.cA (λ_ i=>i) L.size,⟨D,V⟩,K⟩⟩;simp only[ar]at Q;let⟨q,R⟩:=cL e u;let⟨ad,z,w,U⟩:=C.aF R;have Z:=z.len;refine⟨V,V,_,K.af U,?_⟩;refine eB (n:=q.params.length) (Z▸z.gX) (λ_ _ N=>J M N) (J.aA _) ?_;rintro aa ok r I2 μ2 hj c S;have k:=K.trans c;refine⟨V,V,_,k.af w,λi=>⟨λ_=>?_,λ_=>S (by simp only[ar]at i;omega) _ _ c⟩,λi=>⟨λ_=>?_,λ_=>T V _ _ ⟨l.trans c,h,x.ext c,D,V⟩⟩⟩
 .simp only[ar]at i;let⟨y,hy⟩:=cL q.params aa;have P:=(z.ext k).aF hy;refine⟨V,V,_,k.af w,V,V,y,P,?_⟩;intro F;have j:J r F:=J.push _ _;have G:∀{s H:Nat}{ab:Value},af r s H=some ab->af F s H=af r s H:=λi=>by rw[j.af i,i]
  have B:b.size<r.size:=aP (A _ aN) (l.trans c).size;refine⟨G P,G (k.af w),aI (j.same _ B) _,aI (j.same _ B) _,aI (j.same _ B) _,?_⟩;exact(qj (v:=[]) (hd.le (k.trans j).le) ht (pL.le (k.trans j).le C) hf (mR _ _ _ _ _ _) y).aJ ((l.trans c).trans j) A λs m5 x5 _=>⟨_,rfl,S V _ _ ((c.trans j).trans x5)⟩
 .intro F;refine GI.kY (x.ext c) ((l.trans c).fz []) (λm j=>L.lt (Y m j)) V λP N B s _ _=>⟨J.oV ((l.trans c).aL _) s.ext A,T V _ _ ⟨s.ext,_,B,λH j=>?_,bG⟩⟩;rcases List.mem_append.1 j with j|j
  .exact D H j
  .simp at j;exact⟨u,q,j,R⟩
end
end
section
variable{f c:Int}{g:O}{e:List Int}
def Cg(c:Int):Nat:=30*4^c.toNat
def uJ(h:f<=c):Cg f<=Cg c:=Nat.mul_le_mul_left _ (Nat.pow_le_pow_right bn V)
def QO(c:Int):30<=Cg c:=Nat.le_mul_of_pos_right _ (Nat.pow_pos bn)
def RF(a:0<=f)(h:f+1<=c):4*Cg f<=Cg c:=by
 refine bJ (ur ?_) (uJ h);unfold Cg;rw[show(f+1).toNat=f.toNat+1 by omega,Nat.pow_succ];omega
def KG(b:List bB)(g:List dC)(c:Int):Prop:=∀(S:List Nat)(a P:Nat)(d e p h:O)(m:E)(v:List Int)(t:Int),(∀f∈S,f<m.size)->a∈S->GC a d P e p b g m->P+Cg c<=10^16->IR a m h v->v.length+3*c.toNat<=1000->Ty b t->
 aO cp 282 [vp a 0,.agg #[O.v e,O.v p],O.v h,vi t,vi c] m (XP S a d m (P+Cg c) λf=>WX b g.length v.length f/\(c<=2->f.n<=4))
def XL(S:List Nat)(b:Nat)(c:O)(m:E)(P:Nat)(Q:List Ex->Prop)(v:Value)(a:E):Prop:=∃s l,v=O.v s/\fI (bI S a) s l/\Q l/\Rd b c P a/\Fz [b] m a
def Lh{S:List Nat}{M:E}(i:∀c∈S,c<M.size)(p:Nat):∀(l:List (Ex×O))(_:l.length<=1000)(_:∀x∈l,fI (bI S M) x.2 x.1.bF){a:List Ce}{n:Nat},a=l.flatMap (λx=>[.i x.1.op,.i x.1.bS,.s x.2])->n=l.length->
 GE S M (M.push (.cells (bz a) bH)) (.mk M.size 0 n n) (l.map (·.1)):=by
 intro l q h a n j k
 refine Gr.lit (f:=l.map λx=>[.i x.1.op,.i x.1.bS,.s x.2]) Cc.mono (ad _) i (by rw[j,List.flatMap_def]) (by simp[k]) ⟨aN,λc d=>?_,λr c o f e=>?_⟩
 .simp at d;obtain⟨_,_,_,rfl⟩:=d;rfl
 .simp only[cN,jO]at f e
  obtain⟨x,g,rfl⟩:=f
  obtain⟨y,b,rfl⟩:=e
  rw[g]at b;simp at b;subst b
  have:=h x (aq g)
  cases m:x.1 with
  |mk t n s=>rw[m]at this;exact Cc.of this
section
variable{j L:List Nat}{h P:Nat}{k d p o:O}{i:List bB}{l:List dC}{m:E}{v:List Int}
def Nq(z:0<=c)(ih:∀a,0<=a->a<=c->KG i l a)(G:∀s∈j,s<m.size)(I:h∈j)(s:GC h k P d p i l m)(hP:P+3*Cg c<=10^16)(hv:IR h m o v)(ah:v.length+3*c.toNat<=1000)(ae:c<=1000)(K:IR h m g e)(h3:e.length<=3)(aa:∀u∈e,Ty i u):
 aO cp 298 [vp h 0,.agg #[O.v d,O.v p],O.v o,O.v g,vi c] m (XL j h k m (P+3*Cg c) λb=>b.length=e.length/\∀f∈b,WX i l.length v.length f):=by
 apply GZ (h,0)
 simp -zeta only[aD,aC]
 intro a B
 have C:J m a:=J.push _ _
 have hr:=s.rd.lt
 have R:Lw h [m.size] a:=by intro c z;simp[a]at z⊢;omega
 have X:GE j a B (.mk a.size 0 0 0) []:=Gr.new _ (ad _) _ _ _
 have Q:J a B:=J.push _ _
 clear_value B
 clear_value a
 have D:=s.ext C
 have ag:=K.len
 refine eB (n:=e.length) V (λr w M=>∃b,GE j a M w b/\b.length=r/\(∀f∈b,WX i l.length v.length f)/\Rd h k (P+r*Cg c) M/\Fz [h] a M) ⟨[],X,rfl,aN,by simpa using D.rd.ext Q,Q.fz _⟩ ?_
 rintro r w M ac μ hk ⟨b,y,af,H,N,F⟩ ab
 have t:=(C.fz [h]).trans F
 refine dit (λq=>?_) λq=>?_
 .let⟨u,L⟩:=cL e r
  let⟨S,E⟩:=Ol (d:=(g.len:Int)) z V
  rw[aR (b:=Int.tdiv c _) V V]
  have hm:=uJ E
  have Z:r*Cg c+Cg c<=3*Cg c:=by rw[<-qB];exact dm _ V
  refine⟨V,V,u,(eS.1 ((K.le (fh t)).aF L)).2,V,?_⟩
  exact XP.kY (ih _ S E (w.D::j) h _ k d p o M v u (bR G t.size y.bq.2) (by simp[I]) (s.to t N) V (hv.le (fh t)) V (aa u (aq L))) y F R D.rd I V λf ai M' A W r' U _ _=>
   ab V _ _ ⟨_,W,bG,λT Y=>by rcases List.mem_append.1 Y with q|q;exact H T q;simp at q;subst q;exact A.1,r'.mono (by rw[qB];omega),U⟩
 .have Z:r*Cg c<=3*Cg c:=dm _ V
  exact⟨w,b,rfl,y.done Cc.mono (λf A=>C.lt (G f A)) bn V,⟨V,H⟩,N.mono V,t⟩
def zP{n F B:Nat}{q:E}{Q:Ex->Prop}{u bS:Int}(T:0<=c)(ih:∀a,0<=a->a<=c->KG i l a)(R:∀r∈n::j,r<m.size)(Y:h∈j)(r:GC h k P d p i l m)(K:P+3*Cg c<=10^16)(hv:IR h m o v)(ab:v.length+3*c.toNat<=1000)(U:c<=1000)(Z:IR h m g e)(I:e.length<=3)(aa:∀t∈e,Ty i t)
 (D:Lw h L m)(W:Fz [h] q m)(G:Rd h k F q)(X:q.size<=n)(N:∀a,a.length=e.length->(∀f∈a,WX i l.length v.length f)->Q (.mk u bS a))(M:P+3*Cg c<=B):
 aO cp 298 [vp h 0,.agg #[O.v d,O.v p],O.v o,O.v g,vi c] m λw b=>eF L m b/\∃s:O,w=O.v s/\
  aO cp 283 [vi u,vi bS,O.v s] b λw A=>eF L b A/\∃x y:Int,∃z:O,w=.agg #[vi x,vi y,O.v z]/\XP j h k q B Q (.agg #[vi x,vi y,O.v z]) (ai A n 0 [.i x,.i y,.s z]):=
 (Nq (j:=n::j) T ih R (by simp[Y]) r K hv ab U Z I aa).mono λ_ b⟨s,a,f,H,C,J,t⟩=>⟨D.dz t,s,f,XP.ret (ny J H u bS) (D.fz t) (W.trans t) G X (λf V=>V▸N a C.1 C.2) M⟩
def J4(I:3<=c/\c<=100)(ih:∀e,0<=e->e<=c -1->KG i l e)(hS:∀r∈j,r<m.size)(ag:h∈j)(r:GC h k P d p i l m)(hP:P+23+3*Cg (c -1)<=10^16)(hv:IR h m o v)(aU:v.length+3*c.toNat<=1000){al:Int}(ht:Ty i al):
 aO cp 299 [vp h 0,.agg #[O.v d,O.v p],O.v o,vi al,vi c] m (XP j h k m (P+23+3*Cg (c -1)) (WX i l.length v.length)):=by
 apply CZ (h,0)
 simp -zeta only[aD,aC]
 intro q E m3
 let⟨T,hl⟩:=dI (a:=q) (c:=E) rfl rfl
 have s1:q.size=m.size+1:=by simp[q]
 have U:J E m3:=J.push _ _
 have hr:=r.rd.lt
 have z2:=T.size
 have aE:ap (bI [h] m3) (.mk E.size 0 4 4) [1,1,3,4]:=ap.lit aB _ bG rfl rfl aN
 clear_value m3
 clear_value E
 have L2:Lw h [q.size,m.size] E:=λc I=>⟨hl c I,by simp at I;omega⟩
 have ax:∀e∈q.size::j,e<E.size:=bR hS T.size (hl _ aN)
 have c3:=(r.ext T).ext U
 have L3:=L2.fz (U.fz [])
 have W:=r.types
 refine(kO c3.rd V aE aN).mono λ_ m4⟨R,e,hk,r4,G⟩=>⟨L3.dz G,R,e,?_⟩
 have X:=c3.to G r4
 have L4:=L3.fz G
 have aL:=X.hd.len
 have dl:=pN i r.gp.ds
 have af:R∈[(1:Int),3,4]:=by simp at hk⊢;omega
 have lY:0<(cB i 1).length:=(RK i r.gp.ds).1
 refine⟨λg M=>g∈[(1:Int),3,4]/\g<=i.length/\0<(cB i g).length/\J m4 M,⟨λ_=>⟨bn,V,lY,J.aA _⟩,λab=>?_⟩,?_⟩
 .simp only[bO]at ab
  refine(nv (X.hd.le (bD _ _)) W R).mono λ_ m5⟨c,e,I,u⟩=>⟨L4.dz (u.fz _),c,e,λ_=>⟨bn,V,lY,u⟩,λf=>⟨af,V,QS i r.gp.ds R af V λai N s=>?_,u⟩⟩
  rw[I.2 ⟨ai,by simp at af;omega,N,s⟩]at f;exact absurd f bn
 rintro g m5 ⟨an,ay,aH,u⟩
 have Y:=X.ext u
 have L5:=L4.fz (u.fz [])
 have F5:Fz [h] m m5:=(((T.trans U).fz _).trans G).then u
 have k5:g∈[(0:Int),1,2,3,4]:=by simp at an⊢;omega
 have hf:=zO i r.gp.ds
 have aI:=hf.2.1 g k5
 refine(iH (e:=[h]) (by simp;exact Y.rd.lt) (Y.hd.le (bD _ _)) W g).mono λ_ m6⟨Z,t,e,hc,ai,L⟩=>⟨L5.dz (L.fz _),Z,e,?_⟩
 subst ai
 have c6:=Y.ext L
 have L6:=L5.fz (L.fz [])
 have F6:=F5.then L
 have aJ:=hc.len
 have z3:=U.size;have z4:=G.size;have z5:=u.size;have z6:=L.size
 have am:∀e∈q.size::j,e<m6.size:=λe s=>by have:=ax e s;omega
 refine XP.then (rU (f:=q.size::j) am (by simp[ag]) c6 V (hv.le (fh F6)) V ⟨by simp at an;omega,ay⟩) L6 λs0 e0 F h7 q7 r7 H=>⟨_,_,_,rfl,?_⟩
 intro m8
 have x8:J F m8:=J.push _ _
 have z7:=H.size
 have ac:∀e∈q.size::j,e<F.size:=λe s=>by have:=am e s;omega
 have g8:GE (q.size::j) F m8 (.mk F.size 0 1 1) [e0]:=Lh ac 0 [(e0,s0)] aN (by simpa using h7) rfl rfl
 clear_value m8
 have L7:=L6.fz H
 have F7:=F6.trans H
 refine eB (n:=(cB i g).length) V (λA aj M=>∃t,GE (q.size::j) F M aj (e0::t)/\t.length=A/\(∀(z:Nat)(e:Ex)(C:Int),t[z]? =some e->(cB i g)[z]? =some C->WX i l.length (v.length+(cJ i C).length) e)/\Rd h k (P+23+A*Cg (c -1)) M/\Fz [h] F M) ⟨[],g8,rfl,aN,by simpa using(r7.ext x8).mono V,x8.fz _⟩ ?_
 rintro A aj M aG μ hj ⟨t,aa,aT,N,K,D⟩ aF
 have w:=L7.fz D
 have aQ:A*Cg (c -1)<=3*Cg (c -1):=dm _ V
 refine dit (λab=>?_) λab=>?_
 .let⟨C,hy⟩:=cL (cB i g) A
  let⟨aM,aP⟩:=hf.1 g k5 C (aq hy)
  have aV:=aa.bq
  have cM:=(c6.to H r7).to D K
  refine⟨V,V,C,(eS.1 ((hc.le (fh (H.trans D))).aF hy)).2,V,?_⟩
  refine(dN (e:=[h]) (by simp;exact K.lt) cM.hd W C).mono λ_ m9⟨f9,l9,e,h9,q9,f⟩=>⟨w.dz (f.fz _),f9,e,w.cq (Fz.aA _ _) (f.fz _) aN _,w.cq (Fz.aA _ _) (f.fz _) aN _,?_⟩
  subst q9
  refine(eP (S:=[h]) (by simp;exact(K.ext f).lt) (hv.le (fh ((F7.trans D).then f))) h9 V).mono λ_ ao⟨ak,ah,e,au,ar,B⟩=>⟨(w.fz (f.fz [])).dz (B.fz _),ak,e,w.cq (f.fz _) (B.fz _) aN _,w.cq (f.fz _) (B.fz _) aN _,?_⟩
  have av:IR h ao ak ah:=GI.done au (by simp;exact(K.ext f).lt) (by rw[<-ar];simp;omega)
  let⟨d0,d1⟩:=Ol (f:=c -2) (d:=(Z.len:Int)) V V
  rw[aR (b:=c -2) V V,aR (b:=Int.tdiv _ _) V V]
  have hm:=uJ (f:=Int.tdiv (c -2) Z.len) (c:=c -1) V
  have aS:A*Cg (c -1)+Cg (c -1)<=3*Cg (c -1):=by rw[<-qB];exact dm _ V
  have fT:=(D.then f).then B
  have aA:ah.length=v.length+(cJ i C).length:=by rw[<-ar];simp
  refine XP.kY (ih _ d0 V (aj.D::q.size::j) h _ k d p ak ao ah al (bR (λe s=>O6 (ac e s) fT.size) (ad _) (O6 f.size B.size)) (by simp[ag]) ((cM.ext f).ext B) V av V ht) ((aa.ext Cc.mono f).ext Cc.mono B) fT L7 r7 (by simp[ag]) bG λe aW M' s g' r' f' _ _=>
   aF V _ _ ⟨t++[e],g',bG,λz e' y' y Q=>?_,r'.mono (by rw[qB];omega),f'⟩
  rcases aX z t.length with ae|ae
  .rw[az ae]at y;exact N z e' y' y Q
  .rw[aK ae]at y
   have:z -t.length=0:=by have:=aw y;simp at this;omega
   rw[this]at y;simp at y;subst y
   have:z=A:=V
   subst this
   rw[hy]at Q;simp at Q;subst Q
   rw[<-aA];exact s.1
 .exact XP.ret (ny K (aa.done Cc.mono ac bn bG) 8 g) w (F7.trans D) r.rd V (λe s=>s▸.mt q7.1 V V N) V
end
end
section
section
variable{e L:List Nat}{c P:Nat}{g d p i:O}{f:List bB}{h:List dC}{m:E}{v:List Int}
def J5{o:Int}(hb:3<=o/\o<=100)(ih:∀j,0<=j->j<=o -1->KG f h j)(hS:∀q∈e,q<m.size)(R:c∈e)(q:GC c g P d p f h m)(hP:P+24+3*Cg (o -1)<=10^16)(T:IR c m i v)(aF:v.length+3*o.toNat<=1000){ab:Int}(ht:Ty f ab):
 aO cp 301 [vp c 0,.agg #[O.v d,O.v p],O.v i,vi ab,vi o] m (XP e c g m (P+24+3*Cg (o -1)) (WX f h.length v.length)):=by
 apply C0 (c,0)
 simp -zeta only[aD,aC]
 intro x aa
 let⟨W,N⟩:=dI (a:=x) (c:=aa) rfl rfl
 have s1:x.size=m.size+1:=by simp[x]
 clear_value aa
 have hr:=q.rd.lt
 have z2:=W.size
 have L2:Lw c [x.size,m.size] aa:=λo hb=>⟨N o hb,by simp at hb;omega⟩
 have ao:∀j∈x.size::e,j<aa.size:=bR hS W.size (N _ aN)
 have c2:=q.ext W
 have ac:=q.types
 have aE:=q.hd.len
 have dl:=pN f q.gp.ds
 have av:cG (o -2)=o -2:=aR V V
 have ak:cG (o -1)=o -1:=aR V V
 have oQ:=q.gp.oQ
 have ax:v.length+3*(o -2).toNat<=1000:=V
 have hm:=uJ (f:=o -2) (c:=o -1) V
 have az:P+24+Cg (o -2)<=10^16:=V
 refine⟨λM=>Rd c g (P+1) M/\Fz [c] aa M,?_,?_⟩
 .refine(cr c2.rd V 4).mono λ_ m3⟨y,j,_,_,r3,X⟩=>⟨L2.dz X,y,j,λ_=>?_,λ_=>⟨r3,X⟩⟩
  refine V9 (a:=f.length+1) V V (λ_ M=>Rd c g (P+1) M/\Fz [c] aa M) ⟨r3,X⟩ ?_
  rintro Y M au μ aw ha ⟨Q,H⟩ ae
  have L:=c2.to H Q
  have LM:=L2.fz H
  refine⟨λs=>?_,λs=>⟨Q,H⟩⟩
  simp only[ar]at s
  have ea:cG ((Y:Int) -1)=Y -1:=aR V V
  rw[ea]
  refine(nv (L.hd.le (bD _ _)) ac Y).mono λ_ I⟨b4,j,an,K⟩=>⟨LM.dz (K.fz _),b4,j,λh1=>?_,λ_=>ae V _ ⟨Q.ext K,H.then K⟩⟩
  obtain⟨aj,_,hq,ay⟩:=an.1 h1
  have U:f[((Y:Int) -1).toNat]? =some aj:=by rw[<-hq];congr 1;omega
  obtain⟨_,_,g0,g1,_⟩:=L.hd.aF U
  have D:=L.ext K
  have u:=LM.fz (K.fz [])
  have l:=H.then K
  refine⟨V,V,_,K.af (eS.1 g1).2,λ_=>?_,λ_=>ae V _ ⟨Q.ext K,l⟩⟩
  refine(qj (D.hd.le (bD _ _)) ac (pL.le (bD _ _) D.hp) V ((T.le (fh ((W.fz _).trans l))).le (bD _ _)) Y).mono λ_ t⟨b5,j,k⟩=>⟨u.dz (k.fz _),b5,j,λ_=>?_,λ_=>ae V _ ⟨(Q.ext K).ext k,l.then k⟩⟩
  have F:=D.ext k
  have w:=u.fz (k.fz [])
  have f5:=l.then k
  have z5:=f5.size
  have ag:∀j∈x.size::e,j<t.size:=λj G=>by have:=ao j G;omega
  obtain⟨_,_,af,_,_⟩:=F.hd.aF U
  refine⟨V,V,_,(eS.1 af).2,?_⟩
  refine XP.then (rU (f:=x.size::e) ag (by simp[R]) F V (T.le (fh ((W.fz _).trans f5))) V ⟨V,V⟩) w λs6 e6 B h6 q6 r6 z=>⟨_,_,_,rfl,?_⟩
  have c6:=F.to z r6
  have A:=w.fz z
  obtain⟨_,_,am,_,_⟩:=c6.hd.aF U
  refine⟨by rw[(eS.1 am).2,(eS.1 af).2],w.cq (Fz.aA _ _) z aN _,w.cq (Fz.aA _ _) z aN _,w.cq (Fz.aA _ _) z aN _,?_⟩
  rw[av]
  have F6:=(W.fz [c]).trans (f5.trans z)
  have ah:∀j∈x.size::e,j<B.size:=λj G=>by have:=ag j G;have:=z.size;omega
  refine XP.then (ih (o -2) V V (x.size::e) c (P+1+22) g d p i B v _ ah (by simp[R]) c6 V (T.le (fh F6)) ax ((zO f q.gp.ds).2.2 aj (aq U))) A λs7 e7 C h7 q7 r7 r=>⟨_,_,_,rfl,?_⟩
  intro Z
  have x8:J C Z:=J.push _ _
  have al:∀j∈x.size::e,j<C.size:=λj G=>by have:=ah j G;have:=r.size;omega
  have g8:GE (x.size::e) C Z (.mk C.size 0 2 2) [e6,e7]:=Lh al 0 [(e6,s6),(e7,s7)] aN (by simp;exact⟨fI.le (r.dj (by simp[R])) h6,h7⟩) rfl rfl
  clear_value Z
  exact XP.ret (ny (r7.ext x8) (g8.done Cc.mono al bn aN) 11 0) ((A.fz r).fz (x8.fz [])) ((F6.trans r).then x8) q.rd V (λj G=>G▸.fj bn (λs=>V) bn (λs=>V) (by simp;exact⟨q6.1,q7.1⟩)) V
 rintro M ⟨Q,H⟩
 have L:=c2.to H Q
 have LM:=L2.fz H
 have zM:=H.size
 have FM:=(W.fz [c]).trans H
 refine(iH (e:=[c]) (by simp;exact Q.lt) (L.hd.le (bD _ _)) ac ab).mono λ_ m3⟨cs,al,j,hc,aj,x3⟩=>⟨LM.dz (x3.fz _),cs,j,?_⟩
 subst aj
 have Z:=L.ext x3
 have X:=LM.fz (x3.fz [])
 have K:=FM.then x3
 have z3:=x3.size
 have aA:=hc.len
 have af:∀{M:E},m3.size<=M.size->∀j∈x.size::e,j<M.size:=λs j G=>by have:=ao j G;omega
 refine⟨λs=>?_,λs=>⟨λs=>XP.ret (rU (f:=x.size::e) (af (ad _)) (by simp[R]) Z V (T.le (fh K)) V ht) X K q.rd V (λj G=>G.1) V,λs=>?_⟩⟩
 .simp only[ar]at s
  refine(cr Z.rd V cs.len).mono λ_ I⟨y,j,k0,k1,U,l⟩=>⟨X.dz l,y,j,k0,V,?_⟩
  let⟨ae,hy⟩:=cL (cB f ab) y.toNat
  have ag:=(zO f q.gp.ds).1 ab (Ty.YI q.gp.ds ht) ae (aq hy)
  have D:=Z.to l U
  have u:=X.fz l
  refine⟨ae,(eS.1 ((hc.le (fh l)).aF hy)).2,?_⟩
  refine(dN (e:=[c]) (by simp;exact U.lt) D.hd ac ae).mono λ_ t⟨f5,l5,j,h5,q5,k⟩=>⟨u.dz (k.fz _),f5,j,u.cq (Fz.aA _ _) (k.fz _) aN _,u.cq (Fz.aA _ _) (k.fz _) aN _,?_⟩
  subst q5
  rw[ak]
  exact zP V ih (af (O6 l.size k.size)) R (D.ext k) V (T.le (fh ((K.trans l).then k))) V V h5 ag.1 ag.2 (u.fz (k.fz [])) ((K.trans l).then k) q.rd V (λal _ N=>.fj bn (λs=>V) bn (λs=>V) N) V
 .refine(cr Z.rd V 3).mono λ_ I⟨y,j,k0,k1,U,l⟩=>⟨X.dz l,y,j,λ_=>?_,λ_=>?_⟩
  .have D:=Z.to l U
   have u:=X.fz l
   have z4:=l.size;have aw:=U.lt
   intro t
   have k:J I t:=J.push _ _
   have ae:ap (bI [c] t) (.mk I.size 0 1 1) [0]:=ap.lit aB _ bG rfl rfl aN
   clear_value t
   have z5:=k.size
   rw[ak]
   exact zP V ih (af V) R (D.ext k) V (T.le (fh ((K.trans l).then k))) V V ae aN (by simp[q.gp.ty]) (u.fz (k.fz [])) ((K.trans l).then k) q.rd V (λal _ N=>.fj bn (λs=>V) bn (λs=>V) N) V
  .have D:=Z.to l U
   have u:=X.fz l
   have F4:=K.trans l
   have z4:=l.size;have aw:=U.lt
   have iS:∀{ay M:E}{Y t0:Nat},GC c g (P+3) d p f h M->Fz [c] I M->ap (bI [c] M) (.mk t0 0 2 2) [0,0]->∀op:Int,op∈[(1:Int),2,3,4]->aO cp 298 [vp c 0,.agg #[O.v d,O.v p],O.v i,O.v (.mk t0 0 2 2),vi (o -1)] M λan M1=>eF [x.size,m.size] M M1/\∃au:O,an=O.v au/\
    aO cp 283 [vi op,vi 0,O.v au] M1 λan M2=>eF [x.size,m.size] M1 M2/\∃r0 r1:Int,∃r2:O,an=.agg #[vi r0,vi r1,O.v r2]/\XP e c g m (P+24+3*Cg (o -1)) (WX f h.length v.length) (.agg #[vi r0,vi r1,O.v r2]) (ai M2 x.size 0 [.i r0,.i r1,.s r2]):=λL ae s op ag=>
    zP V ih (af (oh ae.size)) R L V (T.le (fh (F4.trans ae))) V V s aN (by simp[q.gp.ty]) (u.fz ae) (F4.trans ae) q.rd V (λal _ N=>.fj (by simp at ag;omega) (λs=>by simp at ag;omega) (by simp at ag;omega) (λs=>by simp at ag;omega) N) V
   rw[ak]
   refine⟨?_,?_⟩
   .intro t
    have k:J I t:=J.push _ _
    have ah:ap (bI [c] t) (.mk I.size 0 4 4) [1,2,3,4]:=ap.lit aB _ bG rfl rfl aN
    clear_value t
    have F:=D.ext k
    have w:=u.fz (k.fz [])
    have z5:=k.size
    refine⟨u.cq (Fz.aA _ _) (k.fz _) aN _,u.cq (Fz.aA _ _) (k.fz _) aN _,?_,?_⟩
    .refine(kO F.rd V ah aN).mono λ_ B⟨y,j,hk,r6,z⟩=>⟨w.dz z,y,j,w.cq (Fz.aA _ _) z aN _,w.cq (Fz.aA _ _) z aN _,?_⟩
     intro C
     have x7:J B C:=J.push _ _
     have am:ap (bI [c] C) (.mk B.size 0 2 2) [0,0]:=ap.lit aB _ (by simp;exact r6.lt) rfl rfl aN
     clear_value C
     have A:=w.fz z
     exact⟨A.cq (Fz.aA _ _) (x7.fz _) aN _,A.cq (Fz.aA _ _) (x7.fz _) aN _,iS (ay:=C) (Y:=0) ((F.to z r6).ext x7) (((k.fz _).trans z).then x7) am y hk⟩
    .intro B
     have z:J t B:=J.push _ _
     have am:ap (bI [c] B) (.mk t.size 0 2 2) [0,0]:=ap.lit aB _ bG rfl rfl aN
     clear_value B
     have A:=w.fz (z.fz [])
     refine⟨w.cq (Fz.aA _ _) (z.fz _) aN _,w.cq (Fz.aA _ _) (z.fz _) aN _,?_⟩
     refine(kO (F.ext z).rd V (ah.le (fh (z.fz _))) aN).mono λ_ C⟨y,j,hk,r7,r⟩=>⟨A.dz r,y,j,A.cq (Fz.aA _ _) r aN _,A.cq (Fz.aA _ _) r aN _,iS (ay:=C) (Y:=0) ((F.ext z).to r r7) (((k.trans z).fz _).trans r) (am.le (fh r)) y hk⟩
   .intro t
    have k:J I t:=J.push _ _
    have ah:ap (bI [c] t) (.mk I.size 0 2 2) [0,0]:=ap.lit aB _ bG rfl rfl aN
    clear_value t
    have F:=D.ext k
    have w:=u.fz (k.fz [])
    have z5:=k.size
    refine⟨u.cq (Fz.aA _ _) (k.fz _) aN _,u.cq (Fz.aA _ _) (k.fz _) aN _,?_⟩
    intro B
    have z:J t B:=J.push _ _
    have am:ap (bI [c] B) (.mk t.size 0 4 4) [1,2,3,4]:=ap.lit aB _ bG rfl rfl aN
    clear_value B
    have A:=w.fz (z.fz [])
    refine⟨w.cq (Fz.aA _ _) (z.fz _) aN _,w.cq (Fz.aA _ _) (z.fz _) aN _,?_⟩
    refine(kO (F.ext z).rd V am aN).mono λ_ C⟨y,j,hk,r7,r⟩=>⟨A.dz r,y,j,A.cq (Fz.aA _ _) r aN _,A.cq (Fz.aA _ _) r aN _,iS (ay:=C) (Y:=0) ((F.ext z).to r r7) (((k.trans z).fz _).trans r) ((ah.le (fh (z.fz _))).le (fh r)) y hk⟩
end
end
section
variable{c:Int}
def Xp{l:List bB}{q:List dC}(hb:0<=c/\c<=100)(ih:∀d,0<=d->d<=c -1->KG l q d):KG l q c:=by
 intro r e P G R U ae v w A hS z j hP K aI I;apply Mp (e,0);simp -zeta only[aD,aC];intro h aa;let⟨x2,hl⟩:=dI (a:=h) (c:=aa) rfl rfl;have s1:h.size=v.size+1:=by simp[h]
 clear_value aa;have hr:=j.rd.lt;have z2:=x2.size;have L2:Lw e [h.size,v.size] aa:=λc hb=>⟨hl c hb,by simp at hb;omega⟩;have H:∀{d:E},aa.size<=d.size->∀f∈h.size::r,f<d.size:=λy f he=>by have:=bR hS x2.size (hl h.size aN) f he;omega
 have c2:=j.ext x2;have am:=j.types;have oQ:=j.gp.oQ;have jm:=j.gp.jm;have aF:=QO c;have au:∀{al:Nat}{d:E},GC e G al R U l q d->Fz [e] aa d->al+22<=P+Cg c->aO cp 286 [vp e 0,.agg #[O.v R,O.v U],O.v ae,vi A] d λad M2=>eF [h.size,v.size] d M2/\∃W X:Int,∃Y:O,ad=.agg #[vi W,vi X,O.v Y]/\XP r e G v (P+Cg c) (λf=>WX l q.length w.length f/\(c<=2->f.n<=4)) (.agg #[vi W,vi X,O.v Y]) (ai M2 h.size 0 [.i W,.i X,.s Y]):=λcM g hq=>
  XP.ret (rU (f:=h.size::r) (H g.size) (by simp[z]) cM V (K.le (fh ((x2.fz _).trans g))) V I) (L2.fz g) ((x2.fz _).trans g) j.rd V (λf he=>⟨he.1,λ_=>he.2⟩) hq
 refine⟨λ_=>au c2 (Fz.aA _ _) V,λh3=>?_⟩;simp only[bO]at h3;have aG:=RF (f:=c -1) (c:=c) V V;have aH:=RF (f:=c -2) (c:=c -1) V V;have aE:=QO (c -2);have an:cG (c -1)=c -1:=aR V V;have hQ:∀f,WX l q.length w.length f->WX l q.length w.length f/\(c<=2->f.n<=4):=λf y=>⟨y,λy=>V⟩;refine(cr c2.rd V 12).mono λ_ m3⟨ab,f,k0,k1,r3,f3⟩=>⟨L2.dz f3,ab,f,?_⟩;have u:=c2.to f3 r3;have N:=L2.fz f3;have t:=(x2.fz [e]).trans f3;have z3:=f3.size;have ay:=H z3;have av:∀{d:E},J m3 d->aO cp 301 [vp e 0,.agg #[O.v R,O.v U],O.v ae,vi A,vi c] d λad M2=>eF [h.size,v.size] d M2/\∃W X:Int,∃Y:O,ad=.agg #[vi W,vi X,O.v Y]/\XP r e G v (P+Cg c) (λf=>WX l q.length w.length f/\(c<=2->f.n<=4)) (.agg #[vi W,vi X,O.v Y]) (ai M2 h.size 0 [.i W,.i X,.s Y]):=λC=>
  XP.ret (J5 (e:=h.size::r) ⟨V,V⟩ ih (H (oh C.size)) (by simp[z]) (u.ext C) V (K.le (fh (t.then C))) V I) (N.fz (C.fz [])) (t.then C) j.rd V hQ V
 refine⟨λ_=>au u f3 V,λ_=>⟨λ_=>?_,λ_=>⟨λ_=>?_,λ_=>⟨λ_=>XP.ret (J4 (j:=h.size::r) ⟨V,V⟩ ih ay (by simp[z]) u V (K.le (fh t)) V I) N t j.rd V hQ V,λ_=>⟨λ_=>?_,λ_=>av (J.aA _)⟩⟩⟩⟩⟩
 .refine(Md r3 V u.hd am u.hp V (K.le (fh t))).mono λ_ k⟨B,f,hu,r4,f4⟩=>⟨N.dz f4,B,f,bn,bn,?_⟩;have Q:=u.to f4 r4;have p:=N.fz f4;have F4:=t.trans f4;have z4:=f4.size;have az:Ty l B:=by have:=pN l j.gp.ds;unfold Ty;omega
  let⟨d0,d1⟩:=Ol (f:=c) (d:=2) V V;have d2:Int.tdiv c 2<=c -1:=by rw[qy V];omega
  have d3:Int.tdiv c 2+Int.tdiv c 2<=c:=by rw[qy V];omega
  rw[aR (b:=Int.tdiv c 2) V V];generalize Int.tdiv c 2=h2 at*;have hm:=uJ d2;have D:∀{d M':E},Fz [e] k d->Fz [e] d M'->af M' v.size 0=af d v.size 0:=λg f'=>p.cq g f' aN _;have F:∀{d M':E},Fz [e] k d->Fz [e] d M'->af M' v.size 1=af d v.size 1:=λg f'=>p.cq g f' aN _;have ag:=λ(d:E)(cM:GC e G (P+2) R U l q d)(g:Fz [e] k d)=>ih h2 d0 d2 (h.size::r) e (P+2) G R U ae d w B (H (oh g.size)) (by simp[z]) cM V (K.le (fh (F4.trans g))) V az;have ah:=λ(d:E)(ac:O)(cM:GC e G (P+2+Cg h2) R U l q d)(g:Fz [e] k d)(hw:IR e d ac (w++[B]))=>ih h2 d0 d2 (h.size::r) e (P+2+Cg h2) G R U ac d (w++[B]) A (H (oh g.size)) (by simp[z]) cM V hw bG I;have aj:=λ(d:E)(ac:O)(g:Fz [e] k d)(hR:e<d.size)(y:IR e d ac [B])=>eP (S:=[e]) (by simp;exact hR) (K.le (fh (F4.trans g))) y bG;have ak:=λ(M0 d:E)(Z e2:Ex)(t1 t2:O)(g:Fz [e] k d)(hR:Rd e G (P+2+Cg h2+Cg h2) d)(h1:fI (bI (h.size::r) d) t1 Z.bF)(ax:fI (bI (h.size::r) d) t2 e2.bF)(w1:WX l q.length w.length Z)(w2:WX l q.length (w++[B]).length e2)=>
   have C:=J.push d (.cells (bz [.i Z.op,.i Z.bS,.s t1,.i e2.op,.i e2.bS,.s t2]) bH)
   have ao:=H (d:=d) (oh g.size)
   XP.ret (S:=r) (Q':=λf=>WX l q.length w.length f/\(c<=2->f.n<=4)) (ny (hR.ext C) ((Lh ao 0 [(Z,t1),(e2,t2)] aN (by simp;exact⟨h1,ax⟩) rfl rfl).done Cc.mono ao bn aN) 13 0) ((p.fz g).fz (C.fz [])) ((F4.trans g).then C) j.rd V (λf he=>he▸hQ _ (.lt w1 (by simpa using w2))) (i:=P+Cg c) V
  refine⟨?_,?_⟩
  .refine XP.then (ag k Q (Fz.aA _ _)) p λs5 T L h5 q5 r5 m=>⟨_,_,_,rfl,D (Fz.aA _ _) m,F (Fz.aA _ _) m,?_⟩;intro m6;have s:J L m6:=J.push _ _;have aA:ap (bI [e] m6) (.mk L.size 0 1 1) [B]:=ap.lit aB _ (by simp;exact r5.lt) rfl rfl aN;clear_value m6;have o:=m.then s;refine⟨D m (s.fz _),F m (s.fz _),D m (s.fz _),F m (s.fz _),?_⟩;refine(aj m6 _ o (r5.ext s).lt aA).mono λ_ m7⟨s7,l7,f,g7,q7,i⟩=>⟨(p.fz o).dz (i.fz _),s7,f,D o (i.fz _),F o (i.fz _),?_⟩;subst q7;refine XP.then (ah m7 s7 (((Q.to m r5).ext s).ext i) (o.then i) (GI.done g7 (by simp;exact(r5.ext s).lt) bG)) ((p.fz o).fz (i.fz [])) λs8 e8 m8 h8 q8 r8 f8=>⟨_,_,_,rfl,?_⟩;exact ak m8 m8 T e8 s5 s8 ((o.then i).trans f8) r8 (fI.le (((s.trans i).fz [e]).trans f8|>.dj (by simp[z])) h5) h8 q5.1 q8.1
  .intro L;have s:J k L:=J.push _ _;have aA:ap (bI [e] L) (.mk k.size 0 1 1) [B]:=ap.lit aB _ (by simp;exact r4.lt) rfl rfl aN;clear_value L;refine⟨D (Fz.aA _ _) (s.fz _),F (Fz.aA _ _) (s.fz _),D (Fz.aA _ _) (s.fz _),F (Fz.aA _ _) (s.fz _),?_⟩;refine XP.then (ag L (Q.ext s) (s.fz _)) (p.fz (s.fz [])) λs6 e6 m6 h6 q6 r6 o=>⟨_,_,_,rfl,D (s.fz _) o,F (s.fz _) o,?_⟩;have T:=(s.fz [e]).trans o;refine(aj m6 _ T r6.lt (aA.le (fh o))).mono λ_ m7⟨s7,l7,f,g7,q7,i⟩=>⟨(p.fz T).dz (i.fz _),s7,f,D T (i.fz _),F T (i.fz _),?_⟩;subst q7;refine XP.then (ah m7 s7 (((Q.ext s).to o r6).ext i) (T.then i) (GI.done g7 (by simp;exact r6.lt) bG)) ((p.fz T).fz (i.fz [])) λs8 e8 m8 h8 q8 r8 f8=>⟨_,_,_,rfl,?_⟩;exact ak m8 m8 e6 e8 s6 s8 ((T.then i).trans f8) r8 (fI.le ((i.fz [e]).trans f8|>.dj (by simp[z])) h6) h8 q6.1 q8.1
 .intro k;have i:J m3 k:=J.push _ _;have s:ap (bI [e] k) (.mk m3.size 0 3 3) [0,A,A]:=ap.lit aB _ (by simp;exact r3.lt) rfl rfl aN;clear_value k;rw[an];exact zP V ih (H (oh i.size)) z (u.ext i) V (K.le (fh (t.then i))) V V s aN (by simp;exact⟨j.gp.ty bn bn,I⟩) (N.fz (i.fz [])) (t.then i) j.rd V (λo hl hw=>hQ _ (.fj bn (λ_=>by simpa using hl) bn (λy=>V) hw)) V
 .refine(J0 (f:=[e]) (by simp;exact r3.lt) (u.hd.le (bD _ _)) am (pL.le (bD _ _) u.hp) V jm A).mono λ_ k⟨B,o,f,gl,hq,i⟩=>⟨N.dz (i.fz _),B,f,λy=>?_,λ_=>av i⟩;simp only[ar]at y;have ac:IR e k B o:=GI.done gl (by simp;exact r3.lt) V;have ao:=ac.len;have Q:=u.ext i;have p:=N.fz (i.fz []);refine(cr Q.rd V B.len).mono λ_ L⟨ab,f,k0,k1,r5,m⟩=>⟨p.dz m,ab,f,k0,V,?_⟩;let⟨aj,hy⟩:=cL o ab.toNat;obtain⟨fi,ah,rfl,F⟩:=hq.1 aj (aq hy);have s:=Q.to m r5;let⟨ps,ag,e0,Z⟩:=s.hp.aF F;have ak:=aw F;have ax:=s.hp.len;have T:=xf _ (j.gp.dD ah (aq F));have D:=(i.fz [e]).trans m;refine⟨_,(eS.1 ((ac.le (fh m)).aF hy)).2,V,V,ps,(eS.1 e0).2,?_⟩;rw[an];exact zP V ih (H (oh D.size)) z s V (K.le (fh (t.trans D))) V V ag T.1 (λA I=>j.gp.ty (T.2.1 A I).1 (T.2.1 A I).2) (p.fz m) (t.trans D) j.rd V (λo _ hw=>hQ _ (.fj bn (λy=>V) bn (λ_=>⟨V,V⟩) hw)) V
def Rb{b:List bB}{d:List dC}:∀(n:Nat)(c:Int),c.toNat=n->0<=c/\c<=100->KG b d c:=λn=>by
 induction n using Nat.strongRecOn with
 |ind n f=>exactλc i h=>Xp h λa e g=>f a.toNat V a rfl ⟨e,V⟩
section
variable{S:List Nat}{e P:Nat}{h d p j:O}{g:List bB}{i:List dC}{f:E}{v:List Int}
def Yg(g:List bB)(b a:Nat)(e:Ex):Prop:=WX g b a e/\e.n<=30
def Mm(hS:∀y∈S,y<f.size)(ab:e∈S)(y:GC e h P d p g i f)(hP:P+20*Cg 18<=10^16)(hv:IR e f j v)(ak:v.length<=100){T:Int}(ht:Ty g T)(s:0<=c/\c<=18):
 aO cp 255 [vp e 0,.agg #[O.v d,O.v p],O.v j,vi T,vi c] f (XP S e h f (P+20*Cg 18) (Yg g i.length v.length)):=by
 apply EP (e,0)
 simp -zeta only[aD,aC]
 intro t B
 let⟨w,hl⟩:=dI (a:=t) (c:=B) rfl rfl
 have s1:t.size=f.size+1:=by simp[t]
 clear_value B
 have hr:=y.rd.lt
 have z2:=w.size
 have N:Lw e [t.size,f.size] B:=λc s=>⟨hl c s,by simp at s;omega⟩
 have aa:∀{M:E},B.size<=M.size->∀k∈t.size::S,k<M.size:=λR k Z=>by have:=bR hS w.size (hl t.size aN) k Z;omega
 have W:=y.ext w
 have hm:=uJ s.2
 refine XP.then (Rb _ c rfl ⟨s.1,V⟩ (t.size::S) e P h d p j B v T (aa (ad _)) (by simp[ab]) W V (hv.le (fh (w.fz _))) V ht) N λs3 F l h3 q3 r3 f3=>⟨_,_,_,rfl,?_⟩
 intro m4 C
 have U:J l C:=(J.push l _).ai (ad _) _ _
 have B5:cK C l.size bH [.i F.op,.i F.bS,.s s3]:=cK.ai (m:=m4) (o:=0) (r:=[.i F.op,.i F.bS,.s s3]) (cK.push l _ _)
 have s5:C.size=l.size+1:=by simp[C,m4,ax]
 clear_value C
 have z3:=f3.size
 have ae:∀k∈l.size::t.size::S,k<C.size:=bR (aa z3) U.size V
 refine⟨λq M=>∃(I:O)(k:Ex)(u:Nat),0<=q/\q<=18/\q.toNat<=u/\u<=18/\cK M l.size bH [.i k.op,.i k.bS,.s I]/\fI (bI (l.size::t.size::S) M) I k.bF/\WX g i.length v.length k/\(q<=2->k.n<=4)/\Rd e h (P+(19 -u)*Cg 18) M/\Fz [e] B M/\C.size<=M.size,λq _=>q.toNat,⟨s3,F,18,s.1,s.2,V,ad _,B5,fI.le (U.bI λc s=>(List.mem_cons.1 s).elim (λR=>Or.inr V) Or.inl) h3,q3.1,q3.2,(r3.ext U).mono V,(f3.then U),ad _⟩,?_⟩
 rintro q M ⟨I,k,u,b0,b1,bk,al,K,hs,hw,hn,rM,X,zM⟩
 have FM:=(w.fz [e]).trans X
 refine⟨_,K.cq 0,_,K.cq 1,_,K.cq 2,?_⟩
 refine(Br (fI.le (bD _ _) hs)).mono λ_ H⟨n6,e6,q6,D⟩=>⟨(N.fz X).dz (D.fz _),n6,e6,?_⟩
 have L:=K.ext D
 have r6:=rM.ext D
 have z:=X.then D
 have z6:=D.size
 have kc:(19 -u)*Cg 18+Cg 18<=20*Cg 18:=by rw[<-qB];exact dm _ V
 have aU:k.n<=30->∃v0:Int,af H l.size 0=some (vi v0)/\∃v1:Int,af H l.size 1=some (vi v1)/\∃v2:O,af H l.size 2=some (O.v v2)/\XP S e h f (P+20*Cg 18) (Yg g i.length v.length) (.agg #[vi v0,vi v1,O.v v2]) (ai H t.size 0 [.i v0,.i v1,.s v2]):=λac=>
  ⟨_,L.cq 0,_,L.cq 1,_,L.cq 2,I,k,rfl,fI.le (cD aN λy Y=>ah _ (ah _ Y)) (fI.le (D.dj _) hs),⟨hw,ac⟩,y.rd.ai (r6.mono V) ((w.fz _).trans z) V 0 _,((w.fz _).trans z).ai (Or.inr V) _ _⟩
 refine⟨λR=>⟨λA=>?_,λA=>aU (by simp only[bO]at A;have:=hn V;omega)⟩,λR=>aU (by simp only[bO]at R;omega)⟩
 simp only[ar]at A
 let⟨d0,d1⟩:=Ol (f:=q) (d:=2) b0 V
 have d2:Int.tdiv q 2<=q -1:=by rw[qy b0];omega
 rw[aR (b:=Int.tdiv q 2) V V]
 generalize Int.tdiv q 2=A at*
 have ag:=uJ (f:=A) (c:=18) V
 refine⟨bn,?_⟩
 refine XP.then (Rb _ A rfl ⟨d0,V⟩ (l.size::t.size::S) e _ h d p j H v T (λk Z=>oh (ae k Z)) (by simp[ab]) (W.to z r6) V (hv.le (fh ((w.fz _).trans z))) V ht) (N.fz z) λs7 G m7 h7 q7 r7 Q=>⟨_,_,_,rfl,?_⟩
 have aj:e≠l.size:=V
 have B7:cK m7 l.size bH [.i k.op,.i k.bS,.s I]:=L.congr (Q.same _ V bG)
 refine⟨B7.fO aN,?_⟩
 intro m8
 have B8:cK m8 l.size bH [.i G.op,.i G.bS,.s s7]:=cK.ai (m:=m7) (o:=0) (r:=[.i G.op,.i G.bS,.s s7]) B7
 have f8:Fz [e] B m8:=(z.trans Q).ai (Or.inr V) _ _
 have s8:m8.size=m7.size:=ax _ _ _ _
 have z7:=Q.size
 refine⟨λc s=>bg _ _ _ _ (oh ((N c s).1)),⟨s7,G,u -1,d0,V,V,V,B8,fI.le (cD aN λy Y=>Y) h7,q7.1,q7.2,?_,f8,V⟩,by show A.toNat<q.toNat;omega⟩
 refine W.rd.ai (r7.mono ?_) (z.trans Q) V 0 _
 rw[show 19 -(u -1)=19 -u+1 by omega,qB];omega
end
end
section
structure HX(S:List Nat)(ds:List bB)(nf a:Nat)(M:E)(s:O)(e:Ex):Prop where
 sl:fI (bI S M) s e.bF
 wx:WX ds nf a e
structure Rs(rb:Nat)(bs:O)(m:E)(Q:Nat)(M:E):Prop where
 f:Fz [rb] m M
 r:Rd rb bs Q M
section
variable{S L:List Nat}{f Q q u k a i:Nat}{j d p s w:O}{h:List bB}{t:List dC}{n M c:E}{g:Ex}{v:List Int}{K:Int->Int->O->E->Prop}
def HX.fz(b:HX S h i a M s g)(e:f∈S)(d:Fz [f] M c):HX S h i a c s g:=⟨fI.le (d.dj (by simp[e])) b.sl,b.wx⟩
def HX.ext(b:HX S h i a M s g)(x:J M c):HX S h i a c s g:=⟨fI.le (x.dj _) b.sl,b.wx⟩
def HX.iu(b:HX S h i a M s g)(x:J M c)(f:M.size<=k):HX (k::S) h i a c s g:=⟨fI.le (x.bI λe d=>(List.mem_cons.1 d).elim (λb=>Or.inr V) Or.inl) b.sl,b.wx⟩
def HX.fu(b:HX (k::S) h i a M s g):HX S h i a M s g:=⟨fI.le (je M λ_=>ah _) b.sl,b.wx⟩
def HX.put(b:HX S h i a M s g)(c:k∈S)(o:Nat)(l:List Ce):HX S h i a (ai M k o l) s g:=⟨fI.le (cD c λ_ b=>b) b.sl,b.wx⟩
def Rs.ext(h:Rs f j n Q M)(x:J M c):Rs f j n Q c:=⟨h.f.then x,h.r.ext x⟩
def Rs.to(h:Rs f j n Q M)(a:Fz [f] M c)(r:Rd f j q c):Rs f j n q c:=⟨h.f.trans a,r⟩
def Rs.put(h:Rs f j n Q M)(b:Rd f j u n)(a:n.size<=k)(o:Nat)(l:List Ce):Rs f j n Q (ai M k o l):=⟨h.f.ai (Or.inr a) _ _,b.ai h.r h.f a o l⟩
def lw(h:f<n.size)(a:∀b∈L,n.size<=b/\b<M.size):Lw f L M:=λb c=>⟨(a b c).2,oh ((a b c).1)⟩
def kg(a:Fz [f] M c)(h:f<n.size)(b:n.size<=k/\k<M.size)(o:Nat):af c k o=af M k o:=aI (a.same k b.2 bG) o
def kW{d c:E}{z a:List Ce}{t:Nat}(f:d=M.push (.cells (bz z) t))(g:c=ai d M.size 0 a)(i:a.length=z.length):J M c/\cK c M.size t a/\c.size=M.size+1:=by
 subst f g;refine⟨(J.push M _).ai (ad _) _ _,?_,by rw[ax];simp⟩;have h:=cK.ai (m:=M.push (.cells (bz z) t)) (b:=M.size) (e:=t) (l:=z) (o:=0) (r:=a) (cK.push _ _ _);rwa[show jt z 0 a=a from by
  have h:=Cs [] a z V;rw[Jr V]at h;simpa using h]at h
def XP.kk{e:Nat}{b:List Value}{T:Ex->Prop}(n:aO cp e b M (XP S f j M Q T))(o:Lw f L M)(p:∀s g c,fI (bI S c) s g.bF->T g->Rd f j Q c->Fz [f] M c->K g.op g.bS s c):aO cp e b M λv c=>eF L M c/\∃h i:Int,∃k:O,v=.agg #[vi h,vi i,O.v k]/\K h i k c:=
 XP.then n o λs g c a l m d=>⟨_,_,_,rfl,p s g c a l m d⟩
def xc(S:List Nat)(h:List bB)(i:Nat)(m:Lw f L M){n:Int}(p:0<=n/\n<(a:Int))(o:∀s c,HX S h i a c s (.mk 12 n [])->J M c->K 12 n s c):aO cp 285 [vi n] M λv c=>eF L M c/\∃b d:Int,∃e:O,v=.agg #[vi b,vi d,O.v e]/\K b d e c:=
 (mI S n M).mono λv c⟨s,g,j,k,l,x⟩=>⟨m.dz (x.fz _),by subst l;exact⟨_,_,_,j,o s c ⟨k,.UF p⟩ x⟩⟩
def JA(S:List Nat)(h:List bB)(i a:Nat)(m:Lw f L M)(n:Int)(o:∀s c,HX S h i a c s (.mk 0 n [])->J M c->K 0 n s c):aO cp 250 [vi n] M λv c=>eF L M c/\∃b d:Int,∃e:O,v=.agg #[vi b,vi d,O.v e]/\K b d e c:=
 (Bf S n M).mono λv c⟨s,g,j,k,l,x⟩=>⟨m.dz (x.fz _),by subst l;exact⟨_,_,_,j,o s c ⟨k,.int n⟩ x⟩⟩
def pu(l:List (Ex×O))(d:l.length<=1000)(b:∀c∈S,c<M.size)(h:∀x∈l,fI (bI S M) x.2 x.1.bF){a:List Ce}{n:Nat}(c:a=l.flatMap λx=>[.i x.1.op,.i x.1.bS,.s x.2])(e:n=l.length):fI (bI S (M.push (.cells (bz a) bH))) (.mk M.size 0 n n) (l.map (·.1)):=
 (Lh b 0 l d h c e).done Cc.mono b bn bG
def jK{bF:List Ex}(k:fI (bI S M) s bF){b bS:Int}(q:WX h i a (.mk b bS bF))(o:Lw f L M)(p:∀s c,HX S h i a c s (.mk b bS bF)->J M c->K b bS s c):
 aO cp 283 [vi b,vi bS,O.v s] M λv c=>eF L M c/\∃d e:Int,∃j:O,v=.agg #[vi d,vi e,O.v j]/\K d e j c:=
 (JN k b bS).mono λv c⟨s,g,l,m,n,x⟩=>⟨o.dz (x.fz _),by subst n;exact⟨_,_,_,l,p s c ⟨m,q⟩ x⟩⟩
def Gb(x:∀a∈S,a<M.size)(z:f∈S)(a:GC f j Q d p h t M)(C:Q+Cg 18<=10^16)(B:IR f M w v)(E:v.length<=100){e b:Int}(A:Ty h e)(i:0<=b/\b<=18)(u:Lw f L M)(y:∀g s c,HX S h t.length v.length c s g->Rd f j (Q+Cg 18) c->Fz [f] M c->K g.op g.bS s c):
 aO cp 282 [vp f 0,.agg #[O.v d,O.v p],O.v w,vi e,vi b] M λv c=>eF L M c/\∃k l:Int,∃m:O,v=.agg #[vi k,vi l,O.v m]/\K k l m c:=
 have D:=uJ i.2
 XP.kk (Rb _ b rfl ⟨i.1,V⟩ S f Q j d p w M v e x z a V B V A) u λs g c n o q r=>y g s c ⟨n,o.1⟩ (q.mono V) r
end
end
section
def WX.Pu{b:List bB}{c a:Nat}{n:Int}{bF:List Ex}(h:∀e∈bF,WX b c a e):WX b c a (.mk 6 n bF):=.fj bn (λh=>V) bn (λh=>V) h
section
variable{c:List Nat}{e P:Nat}{g d p:O}{f:List bB}{h:List dC}{b:E}
def Ms(f:List bB)(z:Nat)(hS:∀Z∈c,Z<b.size)(aa:e∈c)(U:Rd e g P b)(hP:P+100<=10^16)(aF:Int):aO cp 284 [vp e 0,vi aF] b (XP c e g b (P+100) (WX f z 0)):=by
 apply E8 (e,0);simp -zeta only[aD,aC];intro aA ac;have x2:J b ac:=(J.push b _).trans (J.push aA _);have s2:ac.size=b.size+2:=by simp[ac,aA]
 clear_value ac;have L:=U.lt;have ap:∀{h:E},ac.size<=h.size->∀Z∈b.size::c,Z<h.size:=λv=>bR hS V V;have X:Rs e g b P ac:=⟨x2.fz _,U.ext x2⟩;refine jK (S:=b.size::c) (a:=0) (h:=f) (i:=z) (f:=e) (bF:=[]) (mR _ _ _ _ _ _) (.Pu aN) (lw L bG) λs3 m3 h3 x3=>?_;intro m4 D;let⟨x5,B5,z5⟩:=kW (M:=m3) (d:=m4) (c:=D) rfl rfl rfl;clear_value D;have z3:=x3.size;have r5:=(X.ext x3).ext x5;refine⟨λ_=>?_,λ_=>?_⟩
 .intro m6;have x6:J D m6:=J.push _ _;clear_value m6;have z6:=x6.size;refine jK (S:=b.size::c) (a:=0) (h:=f) (i:=z) (f:=e) (bF:=[]) (mR _ _ _ _ _ _) (.Pu aN) (lw L bG) λQ F h7 x7=>?_;intro m8 y;let⟨x9,B9,z9⟩:=kW (M:=F) (d:=m8) (c:=y) rfl rfl rfl;clear_value y;have z7:=x7.size;have r9:=((r5.ext x6).ext x7).ext x9;have h9:=h7.ext x9;have G:∀{h C:E},y.size<=h.size->Fz [e] h C->∀i,af C F.size i=af h F.size i:=λv ah i=>kg ah L ⟨V,V⟩ i;have LW:∀{h:E},y.size<=h.size->Lw e [F.size,m3.size,b.size] h:=λv=>lw L bG;have LK:∀{h:E}{s:Nat},y.size<=s->s<h.size->Lw e [s,F.size,m3.size,b.size] h:=λv T=>lw L bG;have hw:∀n:Int,WX f z 0 (.mk 6 3 [.mk 6 2 [],.mk 0 n [],.mk 6 2 []]):=λn=>.Pu (by simp;exact⟨.Pu aN,.int n,.Pu aN⟩);refine⟨λlY h=>∃H l,lY.2=0/\b.size<=lY.1/\cK h lY.1 bH [.i l.op,.i l.bS,.s H]/\HX (b.size::c) f z 0 h H l/\HX (b.size::c) f z 0 h Q (.mk 6 2 [])/\Rs e g b (P+1) h/\y.size<=h.size,?_,?_⟩
  .have iS:∀{s t0:Nat}{h:E}{n:Int},cK h s bH [.i 0,.i 0,.s .nil]->y.size<=s->fI (bI (s::b.size::c) h) (.mk t0 0 3 3) [.mk 6 2 [],.mk 0 n [],.mk 6 2 []]->Rs e g b (P+1) h->HX (s::b.size::c) f z 0 h Q (.mk 6 2 [])->
    aO cp 283 [vi 6,vi 3,O.v (.mk t0 0 3 3)] h λaG C=>eF [s,F.size,m3.size,b.size] h C/\∃r0 r1:Int,∃X:O,aG=.agg #[vi r0,vi r1,O.v X]/\∃H l,((s,0):Nat×Nat).2=0/\b.size<=((s,0):Nat×Nat).1/\cK (ai C s 0 [.i r0,.i r1,.s X]) ((s,0):Nat×Nat).1 bH [.i l.op,.i l.bS,.s H]/\HX (b.size::c) f z 0 (ai C s 0 [.i r0,.i r1,.s X]) H l/\HX (b.size::c) f z 0 (ai C s 0 [.i r0,.i r1,.s X]) Q (.mk 6 2 [])/\Rs e g b (P+1) (ai C s 0 [.i r0,.i r1,.s X])/\y.size<=(ai C s 0 [.i r0,.i r1,.s X]).size:=λB hk W N v=>
    jK W (hw _) (LK hk B.lt) λs' C T au=>⟨s',.mk 6 3 [.mk 6 2 [],.mk 0 _ [],.mk 6 2 []],rfl,by show b.size<=_;omega,cK.ai (m:=C) (o:=0) (r:=[.i 6,.i 3,.s s']) (B.ext au),(T.put aN _ _).fu,((v.ext au).put aN _ _).fu,(N.ext au).put U V _ _,by rw[ax];have:=B.lt;have:=au.size;omega⟩
   have zb:∀h:E,J h (h.push (.cells (bz [.i 0,.i 0,.s .nil]) bH))/\cK (h.push (.cells (bz [.i 0,.i 0,.s .nil]) bH)) h.size bH [.i 0,.i 0,.s .nil]:=λh=>⟨J.push _ _,cK.push _ _ _⟩;have aq:∀{ag:List Nat}{h:E}{n:Int}{si:O},(∀Z∈ag,Z<h.size)->HX ag f z 0 h Q (.mk 6 2 [])->HX ag f z 0 h si (.mk 0 n [])->fI (bI ag (h.push (.cells (bz [.i 6,.i 2,.s Q,.i 0,.i n,.s si,.i 6,.i 2,.s Q]) bH))) (.mk h.size 0 3 3) [.mk 6 2 [],.mk 0 n [],.mk 6 2 []]:=λhS v T=>
    pu [(.mk 6 2 [],Q),(.mk 0 _ [],_),(.mk 6 2 [],Q)] aN hS (by simp;exact⟨v.sl,T.sl,v.sl⟩) rfl rfl
   have ay:∀{h:E}{s:Nat},y.size<=s->s<h.size->∀Z∈s::b.size::c,Z<h.size:=λv T=>bR (ap (h:=y) V) V T;refine⟨(cr r9.r V 9).mono λ_ w⟨n,l,_,_,an,u⟩=>⟨(LW (ad _)).dz u,n,l,G (ad _) u _,G (ad _) u _,G (ad _) u _,G (ad _) u _,G (ad _) u _,G (ad _) u _,?_,?_⟩,?_⟩
   .have I:=r9.to u an;have vQ:=u.size;have K:=h9.fz (by simp[aa]) u;refine JA (b.size::c) f z 0 (LW vQ) n λaB p aj q=>?_;have av:=q.size;have d:=λi=>G vQ (q.fz _) i;refine⟨d _,d _,d _,d _,d _,d _,?_,?_⟩
    .intro k;have j:J p k:=J.push _ _;have W:fI (bI (b.size::c) k) (.mk p.size 0 3 3) [.mk 6 2 [],.mk 0 n [],.mk 6 2 []]:=aq (ag:=b.size::c) (ap V) (K.ext q) aj;have aH:=j.size;refine⟨?_,?_⟩
     .refine jK (M:=k) (f:=e) W (hw n) (LW V) λaz A ao t=>?_;intro R;have ak:J A R:=J.push _ _;have al:=t.size;have d:=λi=>G (h:=A) (C:=R) V (ak.fz _) i;refine⟨d _,d _,d _,d _,d _,d _,?_⟩;intro ae;let⟨Y,ab,am⟩:=kW (M:=A) (d:=R) (c:=ae) rfl rfl rfl;exact⟨az,.mk 6 3 [.mk 6 2 [],.mk 0 n [],.mk 6 2 []],rfl,by show b.size<=A.size;omega,ab,ao.ext Y,(((K.ext q).ext j).ext t).ext Y,(((I.ext q).ext j).ext t).ext Y,V⟩
     .intro A;obtain⟨t,R⟩:J k A/\cK A k.size bH [.i 0,.i 0,.s .nil]:=zb k;have d:=λi=>G (h:=k) (C:=A) V (t.fz _) i;exact⟨d _,d _,d _,d _,d _,d _,iS R V (fI.le (t.bI λam hb=>(List.mem_cons.1 hb).elim (λv=>Or.inr V) Or.inl) W) (((I.ext q).ext j).ext t) (((K.ext q).ext j).iu t (ad _))⟩
    .intro k;obtain⟨j,ae⟩:J p k/\cK k p.size bH [.i 0,.i 0,.s .nil]:=zb p;have d:=λi=>G (h:=p) (C:=k) V (j.fz _) i;refine⟨d _,d _,d _,d _,d _,d _,?_⟩;intro A;have t:J k A:=J.push _ _;have R:=(K.ext q).iu j (ad _);exact iS (ae.ext t) V (aq (ay V ae.lt) R (aj.iu j (ad _))) (((I.ext q).ext j).ext t) (R.ext t)
   .have I:=r9.to u an;have vQ:=u.size;have K:=h9.fz (by simp[aa]) u;intro p;obtain⟨q,Y⟩:J w p/\cK p w.size bH [.i 0,.i 0,.s .nil]:=zb w;have d:=λi=>G (h:=w) (C:=p) V (q.fz _) i;have av:=q.size;refine⟨d _,d _,d _,d _,d _,d _,?_⟩;refine JA (w.size::b.size::c) f z 0 (LK V Y.lt) n λal k ak j=>?_;have d:=λi=>G (h:=p) (C:=k) V (j.fz _) i;refine⟨d _,d _,d _,d _,d _,d _,?_⟩;intro A;have t:J k A:=J.push _ _;have R:=(K.iu q (ad _)).ext j;exact iS ((Y.ext j).ext t) V (aq (ay V (Y.ext j).lt) R ak) (((I.ext q).ext j).ext t) (R.ext t)
   .intro w;obtain⟨I,aw⟩:J y w/\cK w y.size bH [.i 0,.i 0,.s .nil]:=zb y;have d:=λi=>G (h:=y) (C:=w) V (I.fz _) i;have vQ:=I.size;refine⟨d _,d _,d _,d _,d _,d _,?_⟩;refine(cr (r9.ext I).r V 9).mono λ_ p⟨n,l,_,_,aE,ab⟩=>⟨(LK (ad _) aw.lt).dz ab,n,l,?_⟩;have d:=λi=>G (h:=w) (C:=p) V ab i;refine⟨d _,d _,d _,d _,d _,d _,?_⟩;have Y:=aw.congr (ab.same y.size aw.lt bG);have av:=ab.size;refine JA (y.size::b.size::c) f z 0 (LK (ad _) Y.lt) n λal k ak j=>?_;have d:=λi=>G (h:=p) (C:=k) V (j.fz _) i;refine⟨d _,d _,d _,d _,d _,d _,?_⟩;intro A;have t:J k A:=J.push _ _;have R:=((h9.iu I (ad _)).fz (by simp[aa]) ab).ext j;exact iS ((Y.ext j).ext t) (ad _) (aq (ay (ad _) (Y.ext j).lt) R ak) ((((r9.ext I).to ab aE).ext j).ext t) (R.ext t)
  .rintro⟨s,i⟩ h ⟨H,l,ho,hk,B,v,T,N,Y⟩;simp only at ho hk B;subst ho;have bl:=B.lt;refine⟨_,B.cq 0,_,B.cq 1,_,B.cq 2,?_⟩;have L3:∀{C:E},h.size<=C.size->Lw e [F.size,m3.size,b.size] C:=λv=>LW V;refine(cr N.r V 9).mono λ_ w⟨n,en,_,_,an,u⟩=>⟨(L3 (ad _)).dz u,n,en,?_⟩;have vQ:=u.size;have gg:∀{R ab:E},h.size<=R.size->Fz [e] R ab->∀i,af ab s i=af R s i:=λv ah i=>kg ah L ⟨hk,V⟩ i;have ga:=λi=>G (h:=h) (C:=w) Y u i;have gb:=λi=>gg (R:=h) (ab:=w) (ad _) u i;refine⟨?_,?_,?_,?_,?_,?_,?_⟩;iterate 6 first|exact ga _|exact gb _
   refine JA (b.size::c) f z 0 (L3 vQ) n λaB p aj q=>?_;have ga:=λi=>G (h:=w) (C:=p) V (q.fz _) i;have gb:=λi=>gg (R:=w) (ab:=p) vQ (q.fz _) i;refine⟨?_,?_,?_,?_,?_,?_,?_⟩;iterate 6 first|exact ga _|exact gb _
   intro k;have j:J p k:=J.push _ _;have av:=q.size;have ag:=(v.fz (by simp[aa]) u).ext q;have am:=(T.fz (by simp[aa]) u).ext q;have W:fI (bI (b.size::c) k) (.mk p.size 0 3 3) [l,.mk 0 n [],.mk 6 2 []]:=pu (S:=b.size::c) (M:=p) [(l,H),(.mk 0 n [],aB),(.mk 6 2 [],Q)] aN (ap V) (by simp;exact⟨ag.sl,aj.sl,am.sl⟩) rfl rfl;refine jK (M:=k) (f:=e) W (.Pu (by simp;exact⟨ag.wx,aj.wx,am.wx⟩)) (L3 (C:=k) (oh j.size)) λaz A ao t=>?_;have aq:=(((N.to u an).ext q).ext j).ext t;exact⟨az,_,rfl,(ao.put aN _ _).fu.sl,ao.wx,((aq.put U (ad _) _ _).r).mono V,(aq.put U (ad _) _ _).f⟩
 .intro m6 F;let⟨x7,B7,z7⟩:=kW (M:=D) (d:=m6) (c:=F) rfl rfl rfl;clear_value F;have r7:=r5.ext x7;have C:∀{h:E},F.size<=h.size->Lw e [m3.size,b.size] h:=λv=>lw L bG;refine(cr r7.r V 3).mono λ_ m8⟨n,en,n0,n3,Q,u⟩=>⟨(lw L bG:Lw e [D.size,m3.size,b.size] F).dz u,n,en,?_⟩;rw[aR (b:=1+n) V V];have z8:=u.size;have T:b.size<=D.size:=V;refine⟨λs h=>0<=s/\s<=3/\∃H l,cK h D.size bH [.i l.op,.i l.bS,.s H]/\HX (D.size::b.size::c) f z 0 h H l/\Rs e g b (P+1+4*(3 -s).toNat) h/\F.size<=h.size,λs _=>s.toNat,⟨V,V,s3,.mk 6 0 [],B7.congr (u.same _ V bG),((h3.ext x5).iu x7 (ad _)).fz (by simp[aa]) u,⟨(r7.to u Q).f,Q.mono V⟩,z8⟩,?_⟩;rintro s h ⟨i0,i3,H,l,B,v,N,Y⟩;refine⟨λhi=>?_,λ_=>⟨_,B.cq 0,_,B.cq 1,_,B.cq 2,H,l,rfl,(v.fu.put aN _ _).fu.sl,v.wx,(N.put U (ad _) _ _).r.mono V,(N.put U (ad _) _ _).f⟩⟩;simp only[ar]at hi;refine⟨_,B.cq 0,_,B.cq 1,_,B.cq 2,?_⟩;have d:∀{R ab:E},F.size<=R.size->Fz [e] R ab->∀i,af ab D.size i=af R D.size i:=λv ah i=>kg ah L ⟨T,V⟩ i;refine(BE N.r V).mono λ_ y⟨A,en,d9,t⟩=>⟨(C Y).dz t,A,en,d Y t _,d Y t _,d Y t _,?_⟩;have z9:=t.size;refine JA (D.size::b.size::c) f z 0 (C V) A λan w K I=>⟨d V (I.fz _) _,d V (I.fz _) _,d V (I.fz _) _,?_⟩;intro p;have q:J w p:=J.push _ _;have vQ:=I.size;have av:=q.size;have ag:=(v.fz (by simp[aa]) t).ext I;have W:fI (bI (D.size::b.size::c) p) (.mk w.size 0 2 2) [.mk 0 A [],l]:=pu (S:=D.size::b.size::c) (M:=w) [(.mk 0 A [],an),(l,H)] aN (bR (ap (h:=w) V) (ad _) V) (by simp;exact⟨K.sl,ag.sl⟩) rfl rfl;refine jK (M:=p) (f:=e) W (.Pu (by simp;exact⟨K.wx,ag.wx⟩)) (C (h:=p) V) λal k ak j=>?_;have ae:cK k D.size bH [.i l.op,.i l.bS,.s H]:=(((B.congr (t.same _ B.lt bG)).ext I).ext q).ext j;have aH:=j.size;rw[aR (b:=s -1) V V];refine⟨ae.fO aN,λam hb=>bg _ _ _ _ (by simp at hb;omega),⟨V,V,al,.mk 6 1 [.mk 0 A [],l],cK.ai (m:=k) (o:=0) (r:=[.i 6,.i 1,.s al]) ae,ak.put aN _ _,?_,by rw[ax];omega⟩,by show(s -1).toNat<s.toNat;omega⟩;have aj:=((((N.to t d9).ext I).ext q).ext j).put U T 0 [.i 6,.i 1,.s al];exact⟨aj.f,aj.r.mono V⟩
end
end
section
structure BX(S:List Nat)(ds:List bB)(nf a k:Nat)(M:E)(s:O)(e:Ex):Prop where
 b:cK M k bH [.i e.op,.i e.bS,.s s]
 h:HX (k::S) ds nf a M s e
section
variable{S:List Nat}{d Q i j k a c:Nat}{h s:O}{b:List bB}{g M f:E}{e:Ex}
def BX.new{f d:E}(h:HX S b c a M s e)(g:f=M.push (.cells (bz [.i 0,.i 0,.s .nil]) bH))(i:d=ai f M.size 0 [.i e.op,.i e.bS,.s s]):J M d/\BX S b c a M.size d s e/\d.size=M.size+1:=
 let⟨x,B,z⟩:=kW g i rfl;⟨x,⟨B,h.iu x (ad _)⟩,z⟩
def BX.fz(h:BX S b c a k M s e)(j:d∈S)(i:k≠d)(g:Fz [d] M f):BX S b c a k f s e:=⟨h.b.congr (g.same k h.b.lt (by simpa using i)),h.h.fz (by simp[j]) g⟩
def BX.ext(h:BX S b c a k M s e)(x:J M f):BX S b c a k f s e:=⟨h.b.ext x,h.h.ext x⟩
def BX.set(h:BX S b c a k M s e){f:O}{d:Ex}(g:HX (k::S) b c a M f d):BX S b c a k (ai M k 0 [.i d.op,.i d.bS,.s f]) f d:=⟨cK.ai (m:=M) (o:=0) (r:=[.i d.op,.i d.bS,.s f]) h.b,g.put aN _ _⟩
def HX.iS(f:HX (k::S) b c a M s e)(r:Rs d h g Q M)(l:Rd d h j g)(m:g.size<=k)(n:Q<=i):XP S d h g i (WX b c a) (.agg #[vi e.op,vi e.bS,O.v s]) (ai M k 0 [.i e.op,.i e.bS,.s s]):=
 ⟨s,e,rfl,(f.put aN _ _).fu.sl,f.wx,(r.put l m _ _).r.mono n,(r.put l m _ _).f⟩
end
section
variable{b:List Nat}{c P:Nat}{g d p:O}{f:List bB}{e:List dC}{m:E}
def Kg(hS:∀l∈b,l<m.size)(z:c∈b)(l:GC c g P d p f e m)(hP:P+200+Cg 18<=10^16):aO cp 251 [vp c 0,.agg #[O.v d,O.v p]] m (XP b c g m (P+200+Cg 18) (WX f e.length 0)):=by
 apply Dh (c,0);simp -zeta only[aD,aC];intro h q A;let⟨x2,hl⟩:=dI (a:=h) (c:=q) rfl rfl;have s1:h.size=m.size+1:=by simp[h]
 have s2:q.size=m.size+2:=by simp[q,s1]
 have X:J q A:=J.push _ _;have y:=l.rd.lt;have ac:ap (bI [c] A) (.mk q.size 0 3 3) [1,1,3]:=ap.lit aB _ bG rfl rfl aN;clear_value A;clear_value q;have G:∀{i:E},q.size<=i.size->∀l∈h.size::b,l<i.size:=λF=>bR hS V V;have r3:Rs c g m P A:=⟨(x2.trans X).fz _,(l.rd.ext x2).ext X⟩;have z3:=X.size;refine(kO r3.r V ac aN).mono λ_ m4⟨W,u,ht,d4,H⟩=>⟨(lw y bG:Lw c [h.size,m.size] A).dz H,W,u,?_⟩;have r4:=r3.to H d4;have z4:=H.size;intro Q;have x5:J m4 Q:=J.push _ _;have ae:ap (bI [c] Q) (.mk m4.size 0 1 1) [W]:=ap.lit aB _ (by simp;exact d4.lt) rfl rfl aN;clear_value Q;have R:=r4.ext x5;have z5:=x5.size;refine Gb (S:=h.size::b) (G V) (by simp[z]) (l.to R.f R.r) V ae aN (l.gp.ty (t:=0) bn bn) bn (lw y bG) λD s6 v h6 d6 f6=>?_;intro m7 B;let⟨x8,b8,z8⟩:=BX.new (f:=m7) (d:=B) h6 rfl rfl;clear_value B;have z6:=f6.size;have T:=(R.to f6 d6).ext x8;have L:v.size≠c:=V;have Z:∀{i:E},B.size<=i.size->Lw c [v.size,h.size,m.size] i:=λF=>lw y bG;refine⟨λi=>∃U u,BX (h.size::b) f e.length 1 v.size i U u/\Rs c g m (P+2+Cg 18) i/\B.size<=i.size,?_,?_⟩
 .refine(cr T.r V 3).mono λ_ n⟨Y,en,_,_,x,j⟩=>⟨(Z (ad _)).dz j,Y,en,λ_=>?_,λ_=>⟨s6,D,b8.fz (by simp[z]) L j,⟨(T.to j x).f,x.mono V⟩,j.size⟩⟩;have s:=b8.fz (by simp[z]) L j;have z9:=j.size;intro o;have w:J n o:=J.push _ _;have N:fI (bI (v.size::h.size::b) o) (.mk n.size 0 1 1) [D]:=pu (S:=v.size::h.size::b) (M:=n) [(D,s6)] aN (bR (G (i:=n) V) (ad _) s.b.lt) (by simp;exact s.h.sl) rfl rfl;have vQ:=w.size;refine jK (M:=o) N (.fj (a:=1) (b:=f) (c:=e.length) bn (λF=>V) bn (λF=>V) (by simp;exact s.h.wx)) (Z V) λab af K C=>?_;have r:=((T.to j x).ext w).ext C;have I:=((s.ext w).ext C).set K;exact⟨ab,.mk 5 0 [D],I,⟨(r.put l.rd V _ _).f,((r.put l.rd V _ _).r).mono V⟩,by rw[ax];have:=C.size;omega⟩
 rintro i ⟨U,u,r,aa,ah⟩;refine⟨_,r.b.cq 0,_,r.b.cq 1,_,r.b.cq 2,?_⟩;have Y:∀{i:E},B.size<=i.size->Lw c [h.size,m.size] i:=λF=>lw y bG;refine XP.kk (Ms (c:=h.size::b) f e.length (G V) (by simp[z]) aa.r V W) (Y ah) λs9 e9 n h9 w9 x j=>?_;have I:=λag=>kg j y (k:=v.size) ⟨V,r.b.lt⟩ ag;refine⟨I _,I _,I _,?_⟩;have z9:=j.size;intro o;have w:J n o:=J.push _ _;have s:=r.fz (by simp[z]) L j;have N:fI (bI (h.size::b) o) (.mk n.size 0 2 2) [e9,u]:=pu (S:=h.size::b) (M:=n) [(e9,s9),(u,U)] aN (G V) (by simp;exact⟨h9,s.h.fu.sl⟩) rfl rfl;refine jK (M:=o) N (.lt w9 r.h.wx) (Y (oh w.size)) λab af K C=>?_;exact K.iS (((aa.to j x).ext w).ext C) l.rd V V
def J3(hS:∀j∈b,j<m.size)(y:c∈b)(j:GC c g P d p f e m)(hP:P+200+2*Cg 18<=10^16){I:Nat}{q:dC}(hq:e[I]? =some q)(h1:1<=q.params.length):
 aO cp 254 [vp c 0,.agg #[O.v d,O.v p],vi I] m (XP b c g m (P+200+2*Cg 18) (WX f e.length q.params.length)):=by
 apply CW (c,0)
 simp -zeta only[aD,aC]
 intro i C
 let⟨x2,hl⟩:=dI (a:=i) (c:=C) rfl rfl
 have s1:i.size=m.size+1:=by simp[i]
 have s2:C.size=m.size+2:=by simp[C,s1]
 have x:=j.rd.lt
 clear_value C
 have v:∀{h:E},C.size<=h.size->∀j∈i.size::b,j<h.size:=λl=>bR hS V V
 have r2:Rs c g m P C:=⟨x2.fz _,j.rd.ext x2⟩
 have s:∀{h:E},C.size<=h.size->Lw c [i.size,m.size] h:=λl=>lw x bG
 let⟨ps,ap,e0,e1⟩:=j.hp.aF hq
 have aV:=aw hq
 have aY:=j.hp.len
 have X:=xf _ (j.gp.dD q (aq hq))
 have h3:q.params.length<=3:=X.1
 have W:∀{h:E},Fz [c] m h->IR c h ps q.params:=λac=>ap.le (fh ac)
 have E1:∀{h:E},Fz [c] m h->af h p.D (p.off+I*5+1)=some (vi q.aT):=λac=>(eS.1 (fh ac _ _ _ e1)).2
 refine⟨V,V,ps,(eS.1 (fh r2.f _ _ _ e0)).2,?_⟩
 refine xc (i.size::b) f e.length (a:=q.params.length) (s (ad _)) V λs3 m3 ao x3=>?_
 have z3:=x3.size
 refine JA (i.size::b) f e.length q.params.length (s z3) 1 λs4 m4 h4 x4=>?_
 have z4:=x4.size
 intro m5
 have x5:J m4 m5:=J.push _ _
 have aI:fI (bI (i.size::b) m5) (.mk m4.size 0 2 2) [.mk 12 0 [],.mk 0 1 []]:=pu (S:=i.size::b) (M:=m4) [(.mk 12 0 [],s3),(.mk 0 1 [],s4)] aN (v V) (by simp;exact⟨(ao.ext x4).sl,h4.sl⟩) rfl rfl
 have z5:=x5.size
 refine jK (M:=m5) aI (.fj (a:=q.params.length) (b:=f) (c:=e.length) bn (λl=>V) bn (λl=>V) (by simp;exact⟨ao.wx,h4.wx⟩)) (s V) λs6 K h6 x6=>?_
 have z6:=x6.size
 have r6:=(((r2.ext x3).ext x4).ext x5).ext x6
 intro m7
 have x7:J K m7:=J.push _ _
 have g7:GE (i.size::b) K m7 (.mk K.size 0 1 1) [.mk 2 0 [.mk 12 0 [],.mk 0 1 []]]:=Lh (v V) 0 [(.mk 2 0 [.mk 12 0 [],.mk 0 1 []],s6)] aN (by simpa using h6.sl) rfl rfl
 clear_value m7
 have aZ:=ap.len
 refine Q8 (a:=q.params.length) V h1 (λY F h=>∃z,GE (i.size::b) K h F z/\z.length=Y/\(∀w∈z,WX f e.length q.params.length w)/\Rd c g (P+22*Y) h/\Fz [c] K h) ⟨_,g7,rfl,by simpa using h6.wx,(r6.r.ext x7).mono V,x7.fz _⟩ ?_
 rintro Y F h aU μ aW hj ⟨z,r,aX,hw,rM,fM⟩ aL
 have U:=r6.f.trans fM
 have zM:=fM.size
 refine⟨λl=>?_,λ_=>?_⟩
 .simp only[ar]at l
  let⟨A,o⟩:=cL q.params Y
  have u:=X.2.1 A (aq o)
  refine⟨V,V,A,(eS.1 ((W U).aF o)).2,?_⟩
  exact XP.kY (rU (f:=F.D::i.size::b) (bR (v (h:=h) V) (ad _) r.bq.2) (by simp[y]) (j.to U rM) V (W U) V (j.gp.ty u.1 u.2)) r fM (s V) r6.r (by simp[y]) V λw av N G g' L D _ _=>
   aL V _ _ ⟨_,g',bG,λB H=>by rcases List.mem_append.1 H with l|l;exact hw B l;simp at l;subst l;exact G.1,L.mono V,D⟩
 refine jK (r.done Cc.mono (v (h:=K) V) bn V) (.fj (a:=q.params.length) (b:=f) (c:=e.length) bn (λl=>V) bn (λ_=>⟨V,V⟩) hw) (s V) λs8 o h8 x8=>?_
 intro m9 A
 let⟨ay,ab,vQ⟩:=BX.new (f:=m9) (d:=A) h8 rfl rfl
 clear_value A
 have z8:=x8.size
 have D:Rs c g m (P+66) A:=⟨(U.then x8).then ay,((rM.ext x8).ext ay).mono V⟩
 have hk:o.size≠c:=V
 refine⟨λh=>∃F w,BX (i.size::b) f e.length q.params.length o.size h F w/\Rs c g m (P+66+Cg 18) h/\A.size<=h.size,⟨V,V,_,E1 D.f,λ_=>?_,λ_=>⟨s8,_,ab,⟨D.f,D.r.mono V⟩,ad _⟩⟩,?_⟩
 .have T:∀{h:E},A.size<=h.size->Lw c [o.size,i.size,m.size] h:=λl=>lw x bG
  have ag:∀{h:E},A.size<=h.size->∀j∈o.size::i.size::b,j<h.size:=λl=>bR (v (h:=A) V) l V
  refine Gb (S:=o.size::i.size::b) (ag (ad _)) (by simp[y]) (j.to D.f D.r) V (W D.f) V (j.gp.ty (t:=0) bn bn) bn (T (ad _)) λH ah Z N aj u=>?_
  have r:=λR=>kg u x (k:=o.size) ⟨V,ab.b.lt⟩ R
  refine⟨r _,r _,r _,?_⟩
  have aE:=u.size
  intro B
  have G:J Z B:=J.push _ _
  have ae:=ab.fz (by simp[y]) hk u
  have Q:fI (bI (o.size::i.size::b) B) (.mk Z.size 0 2 2) [H,.mk 9 I z]:=pu (S:=o.size::i.size::b) (M:=Z) [(H,ah),(.mk 9 I z,s8)] aN (ag aE) (by simp;exact⟨N.sl,ae.h.sl⟩) rfl rfl
  have aT:=G.size
  refine jK (M:=B) Q (.Pu (by simp;exact⟨N.wx,h8.wx⟩)) (T V) λai aa ak L=>?_
  have al:=(((D.to u aj).ext G).ext L).put j.rd (k:=o.size) V 0 [.i 6,.i 1,.s ai]
  have hb:=((ae.ext G).ext L).set ak
  exact⟨ai,.mk 6 1 [H,.mk 9 I z],hb,al,by rw[ax];have:=L.size;omega⟩
 rintro M3 ⟨F,w,u,av,a2⟩
 refine JA (i.size::b) f e.length q.params.length (s V) 0 λah Z N az=>?_
 have aE:=az.size
 refine xc (i.size::b) f e.length (a:=q.params.length) (s V) V λaM B al G=>?_
 have aT:=G.size
 intro aa
 have L:J B aa:=J.push _ _
 have Q:fI (bI (i.size::b) aa) (.mk B.size 0 2 2) [.mk 0 0 [],.mk 12 0 []]:=pu (S:=i.size::b) (M:=B) [(.mk 0 0 [],ah),(.mk 12 0 [],aM)] aN (v V) (by simp;exact⟨(N.ext G).sl,al.sl⟩) rfl rfl
 have a3:=L.size
 refine jK (M:=aa) Q (.fj (a:=q.params.length) (b:=f) (c:=e.length) bn (λl=>V) bn (λl=>V) (by simp;exact⟨N.wx,al.wx⟩)) (s V) λaP aJ am aA=>?_
 intro aK au
 let⟨aR,aj,a5⟩:=BX.new (f:=aK) (d:=au) am rfl rfl
 clear_value au
 have a4:=aA.size
 have ai:=(((az.trans G).trans L).trans aA).trans aR
 have T:=av.ext ai
 have u:=u.ext ai
 refine⟨_,u.b.cq 0,_,u.b.cq 1,_,u.b.cq 2,V,V,_,E1 T.f,?_⟩
 refine Gb (S:=i.size::b) (v V) (by simp[y]) (j.to T.f T.r) V (W T.f) V (j.gp.ty X.2.2.1 X.2.2.2) bn (lw x bG) λak aQ ae an aG H=>?_
 have r:=λR=>kg H x (k:=o.size) ⟨V,u.b.lt⟩ R
 have g':=λR=>kg H x (k:=aJ.size) ⟨V,aj.b.lt⟩ R
 refine⟨?_,?_,?_,?_,?_,?_,?_⟩
 iterate 6 first|exact r _|exact g' _
 have a6:=H.size
 intro ag
 have aB:J ae ag:=J.push _ _
 have aF:=u.fz (by simp[y]) hk H
 have Q:fI (bI (i.size::b) ag) (.mk ae.size 0 3 3) [.mk 4 0 [.mk 0 0 [],.mk 12 0 []],w,ak]:=pu (S:=i.size::b) (M:=ae) [(.mk 4 0 [.mk 0 0 [],.mk 12 0 []],aP),(w,F),(ak,aQ)] aN (v V) (by simp;exact⟨(aj.h.fu.fz (by simp[y]) H).sl,aF.h.fu.sl,an.sl⟩) rfl rfl
 refine jK (M:=ag) Q (.fj (a:=q.params.length) (b:=f) (c:=e.length) bn (λ_=>rfl) bn (λl=>V) (by simp;exact⟨am.wx,u.h.wx,an.wx⟩)) (lw x (by have:=aB.size;simp;omega)) λa1 a0 aH aS=>?_
 exact aH.iS (((T.to H aG).ext aB).ext aS) j.rd V V
end
end
section
section
variable{c:List Nat}{b P:Nat}{h d p:O}{f:List bB}{g:List dC}{m:E}
def WX.m1{d c:Nat}{x y z:Ex}(hd:f∈se)(j:WX f d c x)(k:WX f d c y)(l:WX f d (c+2) z):WX f d c (.mk 8 1 [x,y,z]):=by
 obtain⟨e,-,g,h,-⟩:=NI f hd;refine .mt j (by rw[e];rfl) aN λi n m b a=>?_;rw[e]at a;rcases i with _|_|i
 .simp at b a;subst b a;rw[g];exact k
 .simp at b a;subst b a;rw[h];exact l
 .simp at b
def Kj(hS:∀r∈c,r<m.size)(H:b∈c)(r:GC b h P d p f g m)(hP:P+200+2*Cg 18<=10^16){F:Nat}{q:dC}(hq:g[F]? =some q){ah:Int}(ha:0<=ah/\ah<(q.params.length:Int)):
 aO cp 252 [vp b 0,.agg #[O.v d,O.v p],vi F,vi ah] m (XP c b h m (P+200+2*Cg 18) (WX f g.length q.params.length)):=by
 apply Dj (b,0)
 simp -zeta only[aD,aC]
 intro j Z
 let⟨x2,hl⟩:=dI (a:=j) (c:=Z) rfl rfl
 have s1:j.size=m.size+1:=by simp[j]
 have s2:Z.size=m.size+2:=by simp[Z,s1]
 have hr:=r.rd.lt
 clear_value Z
 have an:∀{i:E},Z.size<=i.size->∀r∈j.size::c,r<i.size:=λl=>bR hS V V
 have r2:Rs b h m P Z:=⟨x2.fz _,r.rd.ext x2⟩
 have L1:∀{i:E},Z.size<=i.size->Lw b [j.size,m.size] i:=λl=>lw hr bG
 let⟨ps,aY,e0,e1⟩:=r.hp.aF hq
 have ba:=aw hq
 have be:=r.hp.len
 have aL:=xf _ (r.gp.dD q (aq hq))
 have h3:q.params.length<=3:=aL.1
 have PS:∀{i:E},Fz [b] m i->IR b i ps q.params:=λK=>aY.le (fh K)
 have E1:∀{i:E},Fz [b] m i->af i p.D (p.off+F*5+1)=some (vi q.aT):=λK=>(eS.1 (fh K _ _ _ e1)).2
 have bf:=aY.len
 have a0:=r.gp.ty (t:=0) bn bn
 have bd:=QO 18
 refine⟨V,V,ps,(eS.1 (fh r2.f _ _ _ e0)).2,?_⟩
 intro m3
 have x3:J Z m3:=J.push _ _
 have aM:ap (bI [b] m3) (.mk Z.size 0 2 2) [0,1]:=ap.lit aB _ bG rfl rfl aN
 clear_value m3
 have r3:=r2.ext x3
 have z3:=x3.size
 refine(eP (S:=[b]) bG (PS r3.f) aM bG).mono λ_ m4⟨aS,wl,u,gw,qw,x4⟩=>⟨(L1 z3).dz (x4.fz _),aS,u,?_⟩
 subst qw
 have a6:IR b m4 aS (q.params++[0,1]):=GI.done gw bG bG
 have r4:=r3.ext x4
 have z4:=x4.size
 intro m5
 have x5:J m4 m5:=J.push _ _
 have g5:GE (j.size::c) m4 m5 (.mk m4.size 0 0 0) []:=Gr.new _ (ad _) _ _ _
 clear_value m5
 refine eB (n:=q.params.length) V (λN w i=>∃I,GE (j.size::c) m4 i w I/\I.length=N/\(∀u∈I,WX f g.length (q.params.length+2) u)/\Rd b h (P+N) i/\Fz [b] m4 i) ⟨[],g5,rfl,aN,(r4.r.ext x5).mono V,x5.fz _⟩ ?_
 rintro N w i a4 μ hj ⟨I,aK,bc,hw,rM,fM⟩ a8
 have FM:=r4.f.trans fM
 have zM:=fM.size
 refine⟨λl=>?_,λ_=>?_⟩
 .simp only[ar]at l
  let⟨aU,L⟩:=cL q.params N
  have iS:∀{K:Nat}{T:List Value}{y:E}{R:Nat},aO cp K T y (XP (w.D::j.size::c) b h y R (WX f g.length (q.params.length+2)))->R<=P+(N+1)->Rd b h (P+(N+1)) y->Fz [b] i y->aO cp K T y λab A=>eF [j.size,m.size] y A/\∃G C:Int,∃r2:O,ab=.agg #[vi G,vi C,O.v r2]/\
   jT (A.push (.cells (bz [.i G,.i C,.s r2]) bH)) bH [.i 0,.i 0,.s .nil] 40 w (O.mk A.size 0 1 1) λW z=>eF [j.size,m.size] (A.push (.cells (bz [.i G,.i C,.s r2]) bH)) z/\a4 W (cG ((N:Int)+1)) z/\μ W (cG ((N:Int)+1)) z<μ w N i:=λhc hQ C Y=>
   XP.kY hc (aK.eC Cc.mono Y (by simp;exact⟨Or.inr H,V⟩)) (fM.trans Y) (L1 V) r4.r (by simp[H]) V λu W z s g' r' f' _ _=>
    a8 V _ _ ⟨_,g',bG,λo B=>by rcases List.mem_append.1 B with l|l;exact hw o l;simp at l;subst l;exact s,r'.mono hQ,f'⟩
  refine⟨λ_=>?_,λ_=>⟨V,V,aU,(eS.1 ((PS FM).aF L)).2,λ_=>?_,λ_=>iS (((mI _ _ _).x rM).mono λ_ _ l=>l.mono (λu s=>s▸.UF ⟨V,V⟩) (ad _)) V (rM.mono V) (Fz.aA _ _)⟩⟩
  .rw[aR (b:=(ps.len:Int)+1) V V]
   exact iS (((mI _ _ _).x rM).mono λ_ _ l=>l.mono (λu s=>s▸.UF ⟨V,V⟩) (ad _)) V (rM.mono V) (Fz.aA _ _)
  .refine(cr rM V 2).mono λ_ m6⟨ae,en,_,_,D,B⟩=>⟨(L1 V).dz B,ae,en,λ_=>?_,λ_=>iS (((mI _ _ _).x D).mono λ_ _ l=>l.mono (λu s=>s▸.UF ⟨V,V⟩) (ad _)) V D B⟩
   have z6:=B.size
   have aa:∀{y:E},m6.size<=y.size->∀r∈w.D::j.size::c,r<y.size:=λl=>bR (an (i:=m6) V) l (oh aK.bq.2)
   refine xc (w.D::j.size::c) f g.length (a:=q.params.length+2) (L1 V) V λs7 m7 h7 Q=>?_
   have z7:=Q.size
   refine xc (w.D::j.size::c) f g.length (a:=q.params.length+2) (L1 V) V λs8 o h8 x8=>?_
   have z8:=x8.size
   intro m9
   have x9:J o m9:=J.push _ _
   have X:fI (bI (w.D::j.size::c) m9) (.mk o.size 0 2 2) [.mk 12 N [],.mk 12 ps.len []]:=pu (S:=w.D::j.size::c) (M:=o) [(.mk 12 N [],s7),(.mk 12 ps.len [],s8)] aN (aa V) (by simp;exact⟨(h7.ext x8).sl,h8.sl⟩) rfl rfl
   have U:=((D.ext Q).ext x8).ext x9
   exact iS ((ny U X 1 0).mono λ_ _ l=>l.mono (λu s=>s▸.fj bn (λl=>V) bn (λl=>V) (by simp;exact⟨h7.wx,h8.wx⟩)) (ad _)) V U (((B.then Q).then x8).then x9)
 refine jK (aK.done Cc.mono (an (i:=m4) V) bn V) (.fj (a:=q.params.length+2) (b:=f) (c:=g.length) bn (λl=>V) bn (λ_=>⟨V,V⟩) hw) (L1 V) λs6 m6 h6 x6=>?_
 have z6:=x6.size
 intro m7 o
 let⟨x8,B8,z8⟩:=kW (M:=m6) (d:=m7) (c:=o) rfl rfl rfl
 clear_value o
 intro m9 C
 let⟨aT,av,vQ⟩:=BX.new (f:=m9) (d:=C) (h6.ext x8) rfl rfl
 clear_value C
 have aa:Rs b h m (P+3) C:=⟨((FM.then x6).then x8).then aT,(((rM.ext x6).ext x8).ext aT).mono V⟩
 have hk:o.size≠b:=V
 have L2:∀{i:E},C.size<=i.size->Lw b [o.size,m6.size,j.size,m.size] i:=λl=>lw hr bG
 have ao:∀{i:E},C.size<=i.size->∀r∈o.size::j.size::c,r<i.size:=λl=>bR (an (i:=C) V) l V
 have aV:∀{i:E},Fz [b] m4 i->IR b i aS (q.params++[0,1]):=λK=>a6.le (fh K)
 have aX:Fz [b] m4 C:=((fM.then x6).then x8).then aT
 have wl:(q.params++[0,1]).length=q.params.length+2:=aN
 refine⟨λi=>∃w u,BX (j.size::c) f g.length (q.params.length+2) o.size i w u/\Rs b h m (P+10+Cg 18) i/\C.size<=i.size,⟨V,V,_,E1 aa.f,λaZ=>?_,λ_=>⟨V,V,_,E1 aa.f,λ_=>?_,λ_=>⟨s6,_,av,⟨aa.f,aa.r.mono V⟩,ad _⟩⟩⟩,?_⟩
 .simp only[aG]at aZ
  refine(cr aa.r V 5).mono λ_ ac⟨ae,en,_,_,aJ,z⟩=>⟨(L2 (ad _)).dz z,ae,en,λ_=>?_,λ_=>⟨V,V,_,E1 (aa.f.trans z),λl=>by rw[aZ]at l;exact absurd l bn,λ_=>⟨s6,_,av.fz (by simp[H]) hk z,⟨(aa.to z aJ).f,aJ.mono V⟩,z.size⟩⟩⟩
  have Q:=aa.to z aJ
  have T:=z.size
  have aW:=av.fz (by simp[H]) hk z
  refine Gb (v:=q.params++[0,1]) (S:=o.size::j.size::c) (ao T) (by simp[H]) (r.to Q.f Q.r) V (aV (aX.trans z)) bG a0 bn (L2 T) λal aA A am ak s=>?_
  rw[wl]at am
  intro Y U
  let⟨ab,aI,a_⟩:=BX.new (f:=Y) (d:=U) am rfl rfl
  clear_value U
  have a2:=s.size
  have az:=(Q.to s ak).ext ab
  have aj:=(aW.fz (by simp[H]) hk s).ext ab
  have bb:A.size≠b:=V
  have aH:HX (A.size::o.size::j.size::c) f g.length (q.params.length+2) U s6 (.mk 9 F I):=(aW.h.fz (by simp[H]) s).iu ab (ad _)
  have L3:∀{i:E},U.size<=i.size->Lw b [A.size,o.size,m6.size,j.size,m.size] i:=λl=>lw hr bG
  refine⟨λi=>∃w u,BX (o.size::j.size::c) f g.length (q.params.length+2) A.size i w u/\HX (o.size::j.size::c) f g.length (q.params.length+2) i s6 (.mk 9 F I)/\Rs b h m (P+4+Cg 18) i/\U.size<=i.size/\cK i o.size bH [.i 9,.i F,.s s6],⟨λ_=>?_,λ_=>⟨aA,al,aI,aH.fu,az,ad _,aj.b⟩⟩,?_⟩
  .let⟨aU,L⟩:=cL q.params 0
   refine⟨bn,V,aU,(eS.1 ((PS az.f).aF L)).2,λ_=>?_,λ_=>⟨aA,al,aI,aH.fu,az,ad _,aj.b⟩⟩
   refine xc (A.size::o.size::j.size::c) f g.length (a:=q.params.length+2) (L3 (ad _)) V λaE au ay R=>?_
   have a3:=R.size
   refine xc (A.size::o.size::j.size::c) f g.length (a:=q.params.length+2) (L3 a3) V λaF G ag B=>?_
   have bh:=B.size
   intro aP
   have a1:J G aP:=J.push _ _
   have X:fI (bI (A.size::o.size::j.size::c) aP) (.mk G.size 0 2 2) [.mk 12 0 [],.mk 12 ps.len []]:=pu (S:=A.size::o.size::j.size::c) (M:=G) [(.mk 12 0 [],aE),(.mk 12 ps.len [],aF)] aN (bR (ao (i:=G) V) (ad _) V) (by simp;exact⟨(ay.ext B).sl,ag.sl⟩) rfl rfl
   have bi:=a1.size
   refine jK (M:=aP) X (.fj (a:=q.params.length+2) (b:=f) (c:=g.length) bn (λl=>V) bn (λl=>V) (by simp;exact⟨ay.wx,ag.wx⟩)) (L3 V) λaQ a7 a5 a9=>?_
   have D:=((R.trans B).trans a1).trans a9
   have hb:=(aI.ext D).set a5
   have ha:=(aH.ext D).put (k:=A.size) aN 0 [.i 11,.i 0,.s aQ]
   have hB:cK (ai a7 A.size 0 [.i 11,.i 0,.s aQ]) o.size bH [.i 9,.i F,.s s6]:=(aj.b.ext D).congr (bg _ _ _ _ V)
   exact⟨aQ,.mk 11 0 [.mk 12 0 [],.mk 12 ps.len []],hb,ha.fu,(az.ext D).put r.rd V _ _,by rw[ax];have:=D.size;omega,hB⟩
  rintro M3 ⟨w,u,L,D,W,aQ,aU⟩
  refine⟨_,L.b.cq 0,_,L.b.cq 1,_,L.b.cq 2,?_⟩
  intro au
  have R:J M3 au:=J.push _ _
  have X:fI (bI (o.size::j.size::c) au) (.mk M3.size 0 2 2) [u,.mk 9 F I]:=pu (S:=o.size::j.size::c) (M:=M3) [(u,w),(.mk 9 F I,s6)] aN (ao V) (by simp;exact⟨L.h.fu.sl,D.sl⟩) rfl rfl
  have a3:=R.size
  refine jK (M:=au) X (.Pu (by simp;exact⟨L.h.wx,D.wx⟩)) (L2 V) λaF G ag B=>?_
  have hb:=(BX.mk (e:=.mk 9 F I) ((aU.ext R).ext B) ((D.ext R).ext B)).set ag
  have aP:=((W.ext R).ext B).put r.rd (k:=o.size) V 0 [.i 6,.i 1,.s aF]
  exact⟨aF,.mk 6 1 [u,.mk 9 F I],hb,⟨aP.f,aP.r.mono V⟩,by rw[ax];have:=B.size;omega⟩
 .intro ac
  have D:J C ac:=J.push _ _
  have aM:ap (bI [b] ac) (.mk C.size 0 2 2) [1,2]:=ap.lit aB _ bG rfl rfl aN
  clear_value ac
  have T:=D.size
  have G:∀{y M2:E}{B:Nat},C.size<=y.size->Fz [b] y M2->m.size<=B->B<C.size->∀z,af M2 B z=af y B z:=λl K h1 h2 z=>kg K hr ⟨h1,V⟩ z
  refine⟨G (ad _) (D.fz _) V V _,G (ad _) (D.fz _) V V _,G (ad _) (D.fz _) V V _,G (ad _) (D.fz _) V V _,G (ad _) (D.fz _) V V _,?_⟩
  have Q:=aa.ext D
  refine(kO Q.r V aM aN).mono λ_ A⟨ae,en,hn,ak,s⟩=>⟨(L2 T).dz s,ae,en,G T s V V _,G T s V V _,G T s V V _,G T s V V _,G T s V V _,?_⟩
  have aI:=Q.to s ak
  have a2:=s.size
  refine Gb (v:=q.params++[0,1]) (S:=o.size::j.size::c) (ao V) (by simp[H]) (r.to aI.f aI.r) V (aV ((aX.then D).trans s)) bG a0 bn (L2 V) λaF aU Y aH aP ag=>?_
  rw[wl]at aH
  have aW:=ag.size
  refine⟨G V ag V V _,G V ag V V _,G V ag V V _,?_⟩
  intro U
  have ab:J Y U:=J.push _ _
  have az:=((av.ext D).fz (by simp[H]) hk s).fz (by simp[H]) hk ag
  have X:fI (bI (o.size::j.size::c) U) (.mk Y.size 0 2 2) [aF,.mk 9 F I]:=pu (S:=o.size::j.size::c) (M:=Y) [(aF,aU),(.mk 9 F I,s6)] aN (ao V) (by simp;exact⟨aH.sl,az.h.sl⟩) rfl rfl
  have a_:=ab.size
  simp at hn
  refine jK (M:=U) X (.fj (a:=q.params.length+2) (b:=f) (c:=g.length) V (λl=>V) V (λl=>V) (by simp;exact⟨aH.wx,az.h.wx⟩)) (L2 V) λaE au ay R=>?_
  have hb:=((az.ext ab).ext R).set ay
  have aJ:=(((aI.to ag aP).ext ab).ext R).put r.rd (k:=o.size) V 0 [.i ae,.i 0,.s aE]
  exact⟨aE,.mk ae 0 [aF,.mk 9 F I],hb,⟨aJ.f,aJ.r.mono V⟩,by rw[ax];have:=R.size;omega⟩
 rintro M3 ⟨w,u,L,W,aQ⟩
 have L3:∀{i:E},C.size<=i.size->Lw b [m6.size,j.size,m.size] i:=λl=>lw hr bG
 have R:∀{y M2:E}{B:Nat},M3.size<=y.size->Fz [b] y M2->m.size<=B->B<C.size->∀z,af M2 B z=af y B z:=λl K h1 h2 z=>kg K hr ⟨h1,V⟩ z
 refine⟨V,V,_,E1 W.f,_,L.b.cq 0,_,L.b.cq 1,_,L.b.cq 2,?_⟩
 refine xc (j.size::c) f g.length (a:=q.params.length) (L3 aQ) ha λay ac ae D=>?_
 have T:=D.size
 have gx:∀B z,m.size<=B->B<C.size->af ac B z=af M3 B z:=λB z h1 h2=>R (ad _) (D.fz _) h1 h2 z
 refine⟨gx _ _ V V,gx _ _ V V,gx _ _ V V,(E1 (W.f.then D)).trans (E1 W.f).symm,gx _ _ V V,gx _ _ V V,gx _ _ V V,?_⟩
 have Q:=W.ext D
 refine Gb (S:=j.size::c) (an V) (by simp[H]) (r.to Q.f Q.r) V (PS Q.f) V (r.gp.ty aL.2.2.1 aL.2.2.2) bn (L3 V) λal aA A am ak s=>?_
 have G:∀z,af A o.size z=af ac o.size z:=R T s V V
 refine⟨G _,G _,G _,?_⟩
 have a2:=s.size
 intro Y
 have ag:J A Y:=J.push _ _
 have aj:=(L.ext D).fz (by simp[H]) hk s
 have X:fI (bI (j.size::c) Y) (.mk A.size 0 3 3) [.mk 12 ah [],al,u]:=pu (S:=j.size::c) (M:=A) [(.mk 12 ah [],ay),(al,aA),(u,w)] aN (an V) (by simp;exact⟨(ae.fz (by simp[H]) s).sl,am.sl,aj.h.fu.sl⟩) rfl rfl
 refine jK (M:=Y) X (.m1 r.gp.ds ae.wx am.wx L.h.wx) (L3 (oh ag.size)) λaz U au ab=>?_
 exact au.iS (((Q.to s ak).ext ag).ext ab) r.rd V V
end
end
section
variable{g:E}{s:O}{l:List Int}{c f:Ex}
abbrev G3(M a:E)(k:Nat)(X:Prop):Prop:=af a k 0=af M k 0/\af a k 1=af M k 1/\af a k 2=af M k 2/\X
abbrev E3(v:Value)(X:Int->Int->O->Prop):Prop:=∃a b:Int,∃c:O,v=.agg #[vi a,vi b,O.v c]/\X a b c
abbrev N1(L:List Nat)(e:Nat)(M:E)(K:Int->Int->O->E->Prop):Prop:=aO cp 283 [vi 1,vi 0,O.v (.mk e 0 2 2)] M λv a=>eF L M a/\E3 v λb c d=>K b c d a
section
variable(L:List Nat)(k:Nat)(b:Int)(h i d p w l:O)(j a e:Nat)(F:Int->Int->O->E->Prop)
abbrev TR5(g:Nat)(M:E):Prop:=N1 L g M λd e f c=>G3 M c a (N1 L c.size (c.push (.cells (bz [.i 9,.i b,.s h,.i d,.i e,.s f]) bH)) F)
abbrev TR4(c d:Int)(e:O)(M:E):Prop:=G3 M (M.push (.cells (bz [.i c,.i d,.s e,.i 9,.i b,.s i]) bH)) a (TR5 L b h a F M.size (M.push (.cells (bz [.i c,.i d,.s e,.i 9,.i b,.s i]) bH)))
abbrev TR3(M:E):Prop:=aO cp 282 [vp k 0,.agg #[O.v d,O.v p],O.v w,vi 0,vi 4] M λv c=>eF L M c/\E3 v λe f g=>G3 M c j (G3 M c a (TR4 L b h i a F e f g c))
abbrev TR2(f:Nat)(M:E):Prop:=aO cp 157 [O.v l,O.v (.mk f 0 3 3)] M λv c=>eF L M c/\∃s:O,v=O.v s/\G3 M c j (af c e 0=af M e 0/\af c e 1=af M e 1/\G3 M c a (TR3 L k b h i d p s j a F c))
end
def _root_.Go.Vc.Vo{σ τ:Type}{n:Nat}(q:n<=9223372036854775807)(e:1<=n){m:E}{h:σ}{j:τ}{g:(σ->τ->Int->E->Prop)->(σ->τ->Int->E->Nat)->σ->τ->Int->E->Prop}(Q:Nat->σ->τ->E->Prop)(o:Q 1 h j m)
 (l:∀(k:Nat)(s:σ)(t:τ)(a:E)(I:σ->τ->Int->E->Prop)(μ:σ->τ->Int->E->Nat),1<=k->k<=n->Q k s t a->
  (k<n->∀c d b,Q (k+1) c d b->I c d (cG ((k:Int)+1)) b/\μ c d (cG ((k:Int)+1)) b<μ s t k a)->g I μ s t k a):
 ∃(I:σ->τ->Int->E->Prop)(μ:σ->τ->Int->E->Nat),I h j 1 m/\∀s t i a,I s t i a->g I μ s t i a:=by
 refine⟨λs t i b=>∃k:Nat,i=k/\1<=k/\k<=n/\Q k s t b,λ_ _ i _=>(n -i).toNat,⟨1,rfl,ad _,e,o⟩,?_⟩
 rintro s t i a ⟨k,rfl,e,p,r⟩
 refine l k s t a _ _ e p r λf c d b u=>?_
 rw[kQ f q]
 exact⟨⟨k+1,rfl,V,f,u⟩,DM f⟩
def PD(_:E)(a:List Ce)(n:Int):Prop:=∃s:O,a=[.i 12,.i n,.s s]/\s.len=0
def PD.mono:oO 3 PD:=⟨λ_ h=>h,λ⟨_,h,_⟩=>by rw[h];rfl⟩
abbrev GV(g m:E)(s:O)(l:List Int):Prop:=Gr [] g m bH 3 PD s l
def GV.eC{m a:E}(h:GV g m s l)(q:a[s.D]? =m[s.D]?):GV g a s l:=by
 let⟨c,b,d,e⟩:=h;exact⟨c,b,d.congr q,e.mono λ_ _ h=>h⟩
def GV.ex{a:List Nat}{m:E}(h:GV g m s l)(j:s.D∉a)(t:l.length<=1000):fI (bI a m) s (l.map λn=>.mk 12 n []):=by
 let⟨e,d,f,i⟩:=h;have H:=Gr.nV (S:=a) PD.mono ⟨e,d,f,i.mono λ_ _ h=>h⟩ j bn V;refine⟨by rw[H.len];simp,H.cap,H.gX,λq c b=>?_⟩;simp only[cN,jO]at b;obtain⟨n,k,rfl⟩:=b;obtain⟨r,⟨u,rfl,p⟩,o⟩:=H.iL q n k;exact⟨_,Cc.of ⟨p,V,V,aN⟩,o⟩
structure AS(S:List Nat)(ds:List bB)(nf a n0 k Q rb:Nat)(bs:O)(m M:E)(sl:O)(el:Ex)(sr:O)(er:Ex):Prop where
 b:cK M k bH [.i 0,.i 0,.s .nil]
 hk:n0<=k
 l:HX (k::S) ds nf a M sl el
 r:HX (k::S) ds nf a M sr er
 s:Rs rb bs m Q M
section
variable{S:List Nat}{e:List bB}{h a n k Q r b:Nat}{d o p:O}{m M q:E}{i j:Ex}
def AS.ext(f:AS S e h a n k Q b d m M o i p j)(c:J M q):AS S e h a n k Q b d m q o i p j:=⟨f.b.ext c,f.hk,f.l.ext c,f.r.ext c,f.s.ext c⟩
def AS.fz(c:AS S e h a n k Q b d m M o i p j)(g:b∈S)(l:k≠b)(f:Fz [b] M q)(s:Rd b d r q):AS S e h a n k r b d m q o i p j:=⟨c.b.congr (f.same k c.b.lt (by simpa using l)),c.hk,c.l.fz (by simp[g]) f,c.r.fz (by simp[g]) f,c.s.to f s⟩
def AS.new(f:n<=M.size)(l:HX S e h a M o i)(r:HX S e h a M p j)(s:Rs b d m Q M):J M (M.push (.cells (bz [.i 0,.i 0,.s .nil]) bH))/\AS S e h a n M.size Q b d m (M.push (.cells (bz [.i 0,.i 0,.s .nil]) bH)) o i p j:=
 have c:=J.push M (.cells (bz [.i 0,.i 0,.s .nil]) bH)
 ⟨c,cK.push _ _ _,f,l.iu c (ad _),r.iu c (ad _),s.ext c⟩
end
section
variable{h:List Nat}{b P:Nat}{o d p:O}{i:List bB}{j:List dC}{m:E}
def WX.m3{e d:Nat}{z:Ex}(hd:i∈se)(l:WX i e d c)(m:WX i e d f)(n:WX i e (d+3) z):WX i e d (.mk 8 3 [c,f,z]):=by
 obtain⟨-,g,-,-,j,k⟩:=NI i hd;refine .mt l (by rw[g];rfl) aN λh p o b a=>?_;rw[g]at a;rcases h with _|_|h
 .simp at b a;subst b a;rw[j];exact m
 .simp at b a;subst b a;rw[k];exact n
 .simp at b
def WX.add{b a:Nat}(d:WX i b a c)(e:WX i b a f):WX i b a (.mk 1 0 [c,f]):=.fj bn (λh=>V) bn (λh=>V) (by simp;exact⟨d,e⟩)
def Kk(hS:∀F∈h,F<m.size)(aU:b∈h)(F:GC b o P d p i j m)(hP:P+200+3*Cg 18<=10^16){C:Nat}{w:dC}(hq:j[C]? =some w)(bF:1<=w.params.length):
 aO cp 253 [vp b 0,.agg #[O.v d,O.v p],vi C] m (XP h b o m (P+200+3*Cg 18) (WX i j.length w.params.length)):=by
 apply Dk (b,0)
 simp -zeta only[aD,aC]
 intro A au
 let⟨x2,hl⟩:=dI (a:=A) (c:=au) rfl rfl
 have s1:A.size=m.size+1:=by simp[A]
 have s2:au.size=m.size+2:=by simp[au,s1]
 have hr:=F.rd.lt
 clear_value au
 have ay:∀{g:E},au.size<=g.size->∀F∈A.size::h,F<g.size:=λz=>bR hS V V
 have r2:Rs b o m P au:=⟨x2.fz _,F.rd.ext x2⟩
 have L1:∀{g:E},au.size<=g.size->Lw b [A.size,m.size] g:=λz=>lw hr bG
 let⟨ps,bk,e0,e1⟩:=F.hp.aF hq
 have bY:=aw hq
 have b2:=F.hp.len
 have bc:=xf _ (F.gp.dD w (aq hq))
 have h3:w.params.length<=3:=bc.1
 have PS:∀{g:E},Fz [b] m g->IR b g ps w.params:=λD=>bk.le (fh D)
 have E1:∀{g:E},Fz [b] m g->af g p.D (p.off+C*5+1)=some (vi w.aT):=λD=>(eS.1 (fh D _ _ _ e1)).2
 have b3:=bk.len
 have bs:=F.gp.ty (t:=0) bn bn
 have aA:b∈A.size::h:=by simp[aU]
 refine⟨V,V,ps,(eS.1 (fh r2.f _ _ _ e0)).2,?_⟩
 refine xc (A.size::h) i j.length (a:=w.params.length+3) (L1 (ad _)) V λs3 Z bC x3=>?_
 have z3:=x3.size
 intro m4
 have x4:J Z m4:=J.push _ _
 have g4:GV Z m4 (.mk Z.size 0 1 1) [(ps.len:Int)]:=Gr.lit (f:=[[.i 12,.i ps.len,.s s3]]) PD.mono (ad _) aN rfl rfl ⟨rfl,aN,λaE F B hj q=>by
  have:aE=0:=by have:=aw hj;simp at this;omega
  subst this;simp at hj q;subst hj q;exact⟨s3,rfl,bC.sl.len⟩⟩
 have s4:m4.size=Z.size+1:=by simp[m4]
 clear_value m4
 rw[aR (b:=(ps.len:Int)+2) V V]
 refine xc (A.size::h) i j.length (a:=w.params.length+3) (L1 V) V λs5 m5 h5 x5=>?_
 have z5:=x5.size
 intro m6
 have x6:J m5 m6:=J.push _ _
 have g6:GV m5 m6 (.mk m5.size 0 1 1) [(ps.len:Int)+2]:=Gr.lit (f:=[[.i 12,.i (ps.len+2),.s s5]]) PD.mono (ad _) aN rfl rfl ⟨rfl,aN,λaE F B hj q=>by
  have:aE=0:=by have:=aw hj;simp at this;omega
  subst this;simp at hj q;subst hj q;exact⟨s5,rfl,h5.sl.len⟩⟩
 clear_value m6
 have r3:=r2.ext x3
 have vq:∀{g u:E}{L:Int}{s:O}{l:List Int}{aX:O->E->Prop}{aT:O},GV Z g s l->J Z g->l.length<=10->aT.len=0->(∀R u,GV Z u R (l++[L])->J Z u->g.size<=u.size->(R.D=s.D\/g.size<=R.D)->(∀H,H<g.size->H≠s.D->u[H]? =g[H]?)->aX R u)->
  jT (g.push (.cells (bz [.i 12,.i L,.s aT]) bH)) bH [.i 0,.i 0,.s .nil] 40 s (.mk g.size 0 1 1) aX:=λaP c hl ht hk=>
  Gr.kY (g:=[.i 0,.i 0,.s .nil]) (X:=[]) PD.mono bn aP (c.fz []) ⟨_,rfl,ht⟩ V λR u g' f' aJ w=>hk R u g' f'.ext aJ.1 aJ.2 w
 refine Vo (n:=w.params.length) V bF (λaE s aT g=>∃l l',GV Z g s l/\GV Z g aT l'/\l.length=aE/\l'.length=aE/\(∀L∈l,0<=L/\L<((w.params.length+3:Nat):Int))/\(∀L∈l',0<=L/\L<((w.params.length+3:Nat):Int))/\J Z g/\s.D≠aT.D) ⟨_,_,(g4.eC ((x5.trans x6).same _ (by show Z.size<_;omega))),Gr.cA PD.mono g6 (λ_ z=>Or.inl z) V,rfl,rfl,bG,bG,(x4.trans x5).trans x6,by show Z.size≠m5.size;omega⟩ ?_
 rintro aE s aT g bW μ bZ hj ⟨l,l',aP,g',b0,b1,hw,bo,xM,bE⟩ bL
 have zM:=xM.size
 have RM:=r3.ext xM
 refine⟨λz=>?_,λ_=>?_⟩
 .simp only[ar]at z
  refine xc (A.size::h) i j.length (a:=w.params.length+3) (L1 V) V λs7 W h7 x7=>?_
  have gy:=aP.bq;have aZ:=g'.bq
  have z7:=x7.size
  intro m8
  refine vq (u:=W) (aP.eC (x7.same _ gy.2)) (xM.trans x7) V h7.sl.len λr9 m9 r x9 z9 Y T=>?_
  refine⟨(L1 (g:=Z) z3).tQ ((((xM.trans x7).trans (J.push W _)).fz [b])) (x9.fz _),?_⟩
  refine xc (A.size::h) i j.length (a:=w.params.length+3) (L1 V) V λaa ag a8 ah=>?_
  intro bp
  have N:=((g'.eC (x7.same _ aZ.2)).eC (T _ V (kT bE))).eC (ah.same _ V)
  have vQ:=ah.size
  refine vq (u:=W) N (x9.trans ah) V a8.sl.len λbd K I aH bS U Q=>?_
  refine⟨(L1 (g:=Z) z3).tQ (((x9.trans ah).trans (J.push ag _)).fz [b]) (aH.fz _),bL V _ _ _ ⟨_,_,(r.eC (ah.same _ r.bq.2)).eC (Q _ (oh r.bq.2) V),I,bG,bG,λL q=>?_,λL q=>?_,aH,oh r.bq.2⟩⟩
  .rcases List.mem_append.1 q with z|z
   .exact hw L z
   .simp at z;omega
  .rcases List.mem_append.1 q with z|z
   .exact bo L z
   .simp at z;omega
 have gy:=aP.bq;have aZ:=g'.bq
 have nS:∀H,Z.size<=H->H∉A.size::h:=λH hb z=>by have:=ay (g:=au) (ad _) H z;omega
 have be:∀l:List Int,(∀L∈l,0<=L/\L<((w.params.length+3:Nat):Int))->WX i j.length (w.params.length+3) (.mk 9 C (l.map λL=>.mk 12 L [])):=λl hl=>.fj bn (λz=>V) bn (λ_=>⟨V,V⟩) (by simp;exactλL q=>.UF (hl L q))
 refine jK (aP.ex (nS _ gy.1) V) (be l hw) (L1 V) λsl W h7 x7=>?_
 intro m8 m9
 obtain⟨x9,-,z9⟩:=kW (M:=W) (d:=m8) (c:=m9) rfl rfl rfl
 clear_value m9
 have z7:=x7.size
 refine jK ((g'.eC ((x7.trans x9).same _ aZ.2)).ex (nS _ aZ.1) V) (be l' bo) (lw hr bG) λsr ag a8 ah=>?_
 intro bp K
 obtain⟨aH,-,bS⟩:=kW (M:=ag) (d:=bp) (c:=K) rfl rfl rfl
 clear_value K
 have vQ:=ah.size
 have a9:=((h7.ext x9).ext ah).ext aH
 have ba:=a8.ext aH
 generalize bh:Ex.mk 9 C (l.map λL=>.mk 12 L [])=el at a9
 generalize bi:Ex.mk 9 C (l'.map λL=>.mk 12 L [])=er at ba
 have bd:=(((RM.ext x7).ext x9).ext ah).ext aH
 have bX:=((x7.trans x9).trans ah).trans aH
 have bj:∀{r:Nat},K.size<=r->r≠b:=λz=>V
 have G:∀{g u:E}{r aS:Nat},K.size<=g.size->Fz [b] g u->m.size<=r->r<K.size->af u r aS=af g r aS:=λz D h1 h2=>kg D hr ⟨h1,V⟩ _
 have L4:∀{g:E},K.size<=g.size->Lw b [ag.size,W.size,A.size,m.size] g:=λz=>lw hr bG
 have L5:∀{g:E}{r:Nat},K.size<=r->r<g.size->Lw b [r,ag.size,W.size,A.size,m.size] g:=λz h'=>lw hr bG
 have a1:∀{g:E}{r:Nat},K.size<=r->r<g.size->∀F∈r::A.size::h,F<g.size:=λz h'=>bR (ay (g:=K) V) V h'
 have a5:=λ(c f:Ex)=>WX.add (i:=i) (b:=j.length) (a:=w.params.length+3) (c:=c) (f:=f)
 let aX:=λ(r:Nat)(g:E)=>∃s B,BX (A.size::h) i j.length (w.params.length+3) r g s B/\HX (r::A.size::h) i j.length (w.params.length+3) g sl el/\Rs b o m (P+Cg 18) g
 have bx:∃k9,el=.mk 9 C k9:=⟨_,bh.symm⟩
 have bA:∃k9,er=.mk 9 C k9:=⟨_,bi.symm⟩
 clear bh bi
 obtain⟨kl,rfl⟩:=bx
 obtain⟨kr,rfl⟩:=bA
 let av:=λ(r aY:Nat)(g:E)=>AS (A.size::h) i j.length (w.params.length+3) K.size r (P+aY) b o m g sl (.mk 9 C kl) sr (.mk 9 C kr)
 let aM:=λr=>[r,ag.size,W.size,A.size,m.size]
 let K0:=λ(jV:Nat×Nat)(g:E)=>jV.2=0/\K.size<=jV.1/\aX jV.1 g
 let aL:=λ(r:Nat)(q H:Int)(F:O)(u:E)=>K0 (r,0) (ai u r 0 [.i q,.i H,.s F])
 have H3:∀{g u:E}{Q:Prop},K.size<=g.size->Fz [b] g u->Q->G3 g u W.size Q:=λI D c=>⟨G I D V V,G I D V V,G I D V V,c⟩
 have H6:∀{g u:E}{Q:Prop},K.size<=g.size->Fz [b] g u->Q->G3 g u ag.size (G3 g u W.size Q):=λI D c=>⟨G I D V V,G I D V V,G I D V V,H3 I D c⟩
 have H5:∀{g u:E}{Q:Prop},K.size<=g.size->Fz [b] g u->Q->af u m.size 0=af g m.size 0/\af u m.size 1=af g m.size 1/\G3 g u W.size Q:=λI D c=>⟨G I D V V,G I D V V,H3 I D c⟩
 have H8:∀{g u:E}{Q:Prop},K.size<=g.size->Fz [b] g u->Q->G3 g u ag.size (af u m.size 0=af g m.size 0/\af u m.size 1=af g m.size 1/\G3 g u W.size Q):=λI D c=>⟨G I D V V,G I D V V,G I D V V,H5 I D c⟩
 have R7:∀{r t0:Nat}{g:E}{B:Ex},av r (Cg 18) g->fI (bI (r::A.size::h) g) (.mk t0 0 2 2) [.mk 9 C kl,B]->WX i j.length (w.params.length+3) B->N1 (aM r) t0 g (aL r):=λq hs hw=>
  jK hs (a5 _ _ q.l.wx hw) (L5 q.hk q.b.lt) λs' u h' c=>by
   have hb:=(BX.mk (e:=.mk 0 0 []) (s:=.nil) (q.b.ext c) ⟨⟨rfl,ad _,aN,aN⟩,.int 0⟩).set h';exact⟨rfl,q.hk,s',_,hb,(q.l.ext c).put aN _ _,(q.s.ext c).put F.rd (oh q.hk) _ _⟩
 have R6:∀{r:Nat}{g:E}{s:O}{q H:Int}{kk:List Ex},av r (Cg 18) g->HX (r::A.size::h) i j.length (w.params.length+3) g s (.mk q H kk)->N1 (aM r) g.size (g.push (.cells (bz [.i 9,.i C,.s sl,.i q,.i H,.s s]) bH)) (aL r):=λq z=>
  R7 (q.ext (J.push _ _)) (pu [(.mk 9 C kl,sl),(.mk _ _ _,_)] aN (a1 q.hk q.b.lt) (by simp;exact⟨q.l.sl,z.sl⟩) rfl rfl) z.wx
 have R5:∀{r t0:Nat}{g:E}{B:Ex},av r (Cg 18) g->fI (bI (r::A.size::h) g) (.mk t0 0 2 2) [B,.mk 9 C kr]->WX i j.length (w.params.length+3) B->TR5 (aM r) C sl W.size (aL r) t0 g:=λq hs hw=>
  jK hs (a5 _ _ hw q.r.wx) (L5 q.hk q.b.lt) λs' u h' c=>
   have I:=QK (nR q.hk q.b.lt)
   H3 I (c.fz _) (R6 (q.ext c) h')
 have R4:∀{r:Nat}{g:E}{s:O}{B:Ex},av r (Cg 18) g->HX (r::A.size::h) i j.length (w.params.length+3) g s B->TR4 (aM r) C sl sr W.size (aL r) B.op B.bS s g:=λ{r g s B} q z=>
  have c:=J.push g (.cells (bz [.i B.op,.i B.bS,.s s,.i 9,.i C,.s sr]) bH)
  have I:=QK (nR q.hk q.b.lt)
  H3 I (c.fz _) (R5 (q.ext c) (pu [(B,s),(.mk 9 C kr,sr)] aN (a1 q.hk q.b.lt) (by simp;exact⟨z.sl,q.r.sl⟩) rfl rfl) z.wx)
 have bf:∀{a6 L':List Nat}{g:E}{ab:O}{K':Int->Int->O->E->Prop},(∀F∈a6,F<g.size)->b∈a6->Rs b o m P g->IR b g ab (w.params++[3,0,3])->Lw b L' g->(∀B s u,HX a6 i j.length (w.params.length+3) u s B->Rd b o (P+Cg 18) u->Fz [b] g u->K' B.op B.bS s u)->aO cp 282 [vp b 0,.agg #[O.v d,O.v p],O.v ab,vi 0,vi 4] g λbO u=>eF L' g u/\∃r0 r1:Int,∃r2:O,bO=.agg #[vi r0,vi r1,O.v r2]/\K' r0 r1 r2 u:=λbD bJ R hw hL hk=>
  Gb (v:=w.params++[3,0,3]) bD bJ (F.to R.f R.r) V hw bG bs bn hL λB s u z d D=>hk B s u (by simpa using z) d D
 have R3:∀{r:Nat}{g:E}{ab:O},av r 0 g->IR b g ab (w.params++[3,0,3])->TR3 (aM r) b C sl sr d p ab ag.size W.size (aL r) g:=λq hw=>
  bf (a1 q.hk q.b.lt) (by simp[aU]) q.s hw (L5 q.hk q.b.lt) λB s u z d' D=>
   have I:=QK (nR q.hk q.b.lt)
   H6 I D (R4 (q.fz aA (bj q.hk) D d') z)
 have R2:∀{r t0:Nat}{g:E},av r 0 g->ap (bI [b] g) (.mk t0 0 3 3) [3,0,3]->TR2 (aM r) b C sl sr d p ps ag.size W.size m.size (aL r) t0 g:=λq hw=>
  (eP (S:=[b]) (by simp;exact q.s.r.lt) (PS q.s.f) hw bG).mono λ_ u⟨ab,wl,B,gw,qw,c⟩=>by
   subst qw;have I:=QK (nR q.hk q.b.lt);exact⟨(L5 q.hk q.b.lt).dz (c.fz _),ab,B,H8 I (c.fz _) (R3 (q.ext c) (GI.done gw (by simp;exact q.s.r.lt) bG))⟩
 have aG:∀{g:E}{aY:Nat},K.size<=g.size->HX (A.size::h) i j.length (w.params.length+3) g sl (.mk 9 C kl)->HX (A.size::h) i j.length (w.params.length+3) g sr (.mk 9 C kr)->Rs b o m (P+aY) g->J g (g.push (.cells (bz [.i 0,.i 0,.s .nil]) bH))/\av g.size aY (g.push (.cells (bz [.i 0,.i 0,.s .nil]) bH)):=λh1 h2 h3 h4=>AS.new h1 h2 h3 h4
 have r0:Rs b o m (P+0) K:=bd
 have wl:∀g:E,b<g.size->ap (bI [b] (g.push (.cells (bz [.i 3,.i 0,.i 3]) aB))) (.mk g.size 0 3 3) [3,0,3]:=λg z=>ap.lit aB _ (by simp;exact z) rfl rfl aN
 refine⟨K0,⟨?_,?_⟩,?_⟩
 .intro ac
  have N:J K ac:=J.push _ _
  have a3:ap (bI [b] ac) (.mk K.size 0 3 3) [3,0,3]:=wl K bd.r.lt
  clear_value ac
  have aK:=N.size
  have a_:=a9.ext N;have bb:=ba.ext N;have Y:=r0.ext N
  refine H8 (ad _) (N.fz _) ⟨?_,?_⟩
  .refine(eP (S:=[b]) (by simp;exact Y.r.lt) (PS Y.f) a3 bG).mono λ_ al⟨ab,bP,B,gw,qw,T⟩=>⟨(L4 aK).dz (T.fz _),ab,B,H8 aK (T.fz _) ⟨?_,?_⟩⟩
   all_goals have a4:IR b al ab (w.params++[3,0,3]):=qw▸GI.done gw (by simp;exact Y.r.lt) (by rw[<-qw];simp;omega)
   all_goals have bv:=T.size
   .refine bf (a6:=A.size::h) (ay V) aA (Y.ext T) a4 (L4 V) λaj a2 am ak a7 ae=>H6 V ae ⟨?_,?_⟩
    all_goals have az:=(a_.ext T).fz aA ae
    all_goals have aQ:=(bb.ext T).fz aA ae
    all_goals have aW:=(Y.ext T).to ae a7
    all_goals have bT:=ae.size
    .intro ao
     have aa:J am ao:=J.push _ _
     have bl:fI (bI (A.size::h) ao) (.mk am.size 0 2 2) [aj,.mk 9 C kr]:=pu [(aj,a2),(.mk 9 C kr,sr)] aN (ay V) (by simp;exact⟨ak.sl,aQ.sl⟩) rfl rfl
     have bU:=aa.size
     refine H3 V (aa.fz _) ⟨?_,?_⟩
     .refine jK (M:=ao) bl (a5 _ _ ak.wx aQ.wx) (L4 V) λbM aF a0 aI=>H3 V (aI.fz _) ⟨?_,?_⟩
      all_goals have Q:=aa.trans aI
      all_goals have bV:=aI.size
      .intro aV
       have an:J aF aV:=J.push _ _
       have bm:fI (bI (A.size::h) aV) (.mk aF.size 0 2 2) [.mk 9 C kl,.mk 1 0 [aj,.mk 9 C kr]]:=pu [(.mk 9 C kl,sl),(.mk 1 0 [aj,.mk 9 C kr],bM)] aN (ay V) (by simp;exact⟨(az.ext Q).sl,a0.sl⟩) rfl rfl
       have b4:=an.size
       refine⟨?_,?_⟩
       .refine jK (M:=aV) bm (a5 _ _ az.wx a0.wx) (L4 V) λbN bq bB bt=>?_
        have b5:=bt.size
        intro br
        have bQ:J bq br:=J.push _ _
        refine H8 V (bQ.fz _) ?_
        intro bK
        let⟨bu,bw,b6⟩:=BX.new (f:=br) (d:=bK) bB rfl rfl
        have U:=Q.trans (an.trans bt)
        exact⟨rfl,by show K.size<=bq.size;omega,bN,_,bw,(az.ext U).iu bu (ad _),(aW.ext U).ext bu⟩
       .let⟨U,q⟩:=aG (g:=aV) V ((az.ext Q).ext an) ((aQ.ext Q).ext an) ((aW.ext Q).ext an)
        exact H8 V (U.fz _) (R7 q (fI.le (U.bI λH hb=>(List.mem_cons.1 hb).elim (λz=>Or.inr V) Or.inl) bm) a0.wx)
      .let⟨U,q⟩:=aG (g:=aF) V (az.ext Q) (aQ.ext Q) (aW.ext Q)
       exact H8 V (U.fz _) (R6 q (a0.iu U (ad _)))
     .let⟨U,q⟩:=aG (g:=ao) V (az.ext aa) (aQ.ext aa) (aW.ext aa)
      exact H8 V (U.fz _) (R5 q (fI.le (U.bI λH hb=>(List.mem_cons.1 hb).elim (λz=>Or.inr V) Or.inl) bl) ak.wx)
    .let⟨U,q⟩:=aG (g:=am) V az aQ aW
     exact H8 V (U.fz _) (R4 q (ak.iu U (ad _)))
   .let⟨U,q⟩:=aG (g:=al) V (a_.ext T) (bb.ext T) (Y.ext T)
    exact H8 V (U.fz _) (R3 q (a4.le (fh (U.fz _))))
  .let⟨U,q⟩:=aG (g:=ac) aK a_ bb Y
   exact H8 aK (U.fz _) (R2 q (a3.le (fh (U.fz _))))
 .let⟨U,q⟩:=aG (g:=K) (ad _) a9 ba r0
  have za:=U.size
  intro ac
  refine H8 (ad _) (U.fz _) ?_
  intro al
  have T:J ac al:=J.push _ _
  exact H8 za (T.fz _) (R2 (q.ext T) (wl ac q.s.r.lt))
 rintro⟨r,aS⟩ g ⟨ho,hk,s,B,H,hl,R⟩
 simp only at ho hk H hl
 subst ho
 have bu:=H.b.lt
 have a_:=bj hk
 have U:∀{u:E},g.size<=u.size->Lw b [ag.size,W.size,A.size,m.size] u:=λz=>L4 V
 have I:K.size<=g.size:=V
 have a0:∀{u:E},g.size<=u.size->∀F∈r::A.size::h,F<u.size:=λz=>a1 hk V
 refine⟨λu=>∃s B,BX (A.size::h) i j.length (w.params.length+3) r u s B/\Rs b o m (P+2*Cg 18) u/\g.size<=u.size,⟨V,V,_,E1 R.f,λ_=>?_,λ_=>⟨s,B,H,⟨R.f,R.r.mono V⟩,ad _⟩⟩,?_⟩
 .intro ac
  have N:J g ac:=J.push _ _
  have a3:ap (bI [b] ac) (.mk g.size 0 3 3) [3,0,3]:=wl g R.r.lt
  clear_value ac
  have aK:=N.size
  have Y:=R.ext N
  refine H5 I (N.fz _) ?_
  refine(eP (S:=[b]) (by simp;exact Y.r.lt) (PS Y.f) a3 bG).mono λ_ al⟨ab,bP,e',gw,qw,T⟩=>⟨(U aK).dz (T.fz _),ab,e',H5 V (T.fz _) ?_⟩
  have a4:IR b al ab (w.params++[3,0,3]):=qw▸GI.done gw (by simp;exact Y.r.lt) (by rw[<-qw];simp;omega)
  have bv:=T.size
  have aQ:=Y.ext T
  refine Gb (v:=w.params++[3,0,3]) (S:=r::A.size::h) (a0 V) (by simp[aU]) (F.to aQ.f aQ.r) V a4 bG bs bn (U V) λaj a2 am ak a7 ae=>H3 V ae ?_
  have ak:HX (r::A.size::h) i j.length (w.params.length+3) am a2 aj:=by simpa using ak
  have bT:=ae.size
  refine xc (r::A.size::h) i j.length (a:=w.params.length+3) (U V) V λbm ao az aa=>H3 V (aa.fz _) ?_
  intro aF
  have aI:J ao aF:=J.push _ _
  have bU:=aa.size
  have bb:=(((hl.ext N).ext T).fz (by simp[aU]) ae).ext aa
  have hs:fI (bI (r::A.size::h) aF) (.mk ao.size 0 3 3) [.mk 9 C kl,aj,.mk 12 (ps.len+2) []]:=pu [(.mk 9 C kl,sl),(aj,a2),(.mk 12 (ps.len+2) [],bm)] aN (a0 V) (by simp;exact⟨bb.sl,(ak.ext aa).sl,az.sl⟩) rfl rfl
  have bV:=aI.size
  refine jK (M:=aF) hs (.Pu (by simp;exact⟨bb.wx,ak.wx,az.wx⟩)) (U V) λbq aV br an=>?_
  have aW:=((((H.ext N).ext T).fz (by simp[aU]) a_ ae).ext (aa.trans aI)).ext an
  have hb:=aW.set br
  have bl:=(((aQ.to ae a7).ext (aa.trans aI)).ext an).put F.rd (k:=r) V 0 [.i 6,.i 3,.s bq]
  exact⟨aW.b.fO aN,λb' bt=>bg _ _ _ _ (by simp at bt;omega),bq,.mk 6 3 [.mk 9 C kl,aj,.mk 12 (ps.len+2) []],hb,⟨bl.f,bl.r.mono V⟩,by rw[ax];have:=an.size;omega⟩
 rintro M3 ⟨s,B,H,R,aJ⟩
 refine⟨V,V,_,E1 R.f,_,H.b.cq 0,_,H.b.cq 1,_,H.b.cq 2,?_⟩
 refine xc (A.size::h) i j.length (a:=w.params.length) (U aJ) V λaV ac ak N=>?_
 have aK:=N.size
 have ae:∀{M1 M2:E}{aS:Nat},g.size<=M1.size->Fz [b] M1 M2->af M2 r aS=af M1 r aS:=λz D=>kg D hr ⟨V,V⟩ _
 refine⟨ae aJ (N.fz _),ae aJ (N.fz _),ae aJ (N.fz _),(E1 (R.f.then N)).trans (E1 R.f).symm,G V (N.fz _) V V,G V (N.fz _) V V,G V (N.fz _) V V,?_⟩
 have Y:=R.ext N
 refine Gb (S:=A.size::h) (ay V) aA (F.to Y.f Y.r) V (PS Y.f) V (F.gp.ty bc.2.2.1 bc.2.2.2) bn (U V) λaj aW al an aQ T=>⟨ae V T,ae V T,ae V T,?_⟩
 have bv:=T.size
 intro am
 have aF:J al am:=J.push _ _
 have aI:=(H.ext N).fz aA a_ T
 have hs:fI (bI (A.size::h) am) (.mk al.size 0 3 3) [.mk 12 0 [],aj,B]:=pu [(.mk 12 0 [],aV),(aj,aW),(B,s)] aN (ay V) (by simp;exact⟨(ak.fz aA T).sl,an.sl,aI.h.fu.sl⟩) rfl rfl
 refine jK (M:=am) hs (.m3 F.gp.ds ak.wx an.wx H.h.wx) (U (oh aF.size)) λbm ao az aa=>?_
 exact az.iS (((Y.to T aQ).ext aF).ext aa) F.rd V V
end
end
section
variable{a:E}{c:List Ce}{b:Nat}
section
variable{f:List Nat}{e P:Nat}{h d p:O}{i:List bB}{g:List dC}{m:E}
def Nl(hS:∀n∈f,n<m.size)(aj:e∈f)(n:GC e h P d p i g m)(hP:P+300+40*Cg 18<=10^16){N:Nat}{q:dC}(z:g[N]? =some q)(ak:N=0->q.params.length=0):
 aO cp 221 [vp e 0,.agg #[O.v d,O.v p],vi N] m (XP f e h m (P+300+40*Cg 18) (Yg i g.length q.params.length)):=by
 apply GM (e,0)
 simp -zeta only[aD,aC]
 intro l w
 let⟨x2,hl⟩:=dI (a:=l) (c:=w) rfl rfl
 have s1:l.size=m.size+1:=by simp[l]
 have s2:w.size=m.size+2:=by simp[w,s1]
 have hr:=n.rd.lt
 clear_value w
 have ae:∀{a:E},w.size<=a.size->∀n∈l.size::f,n<a.size:=λc=>bR hS V V
 have t:Rs e h m P w:=⟨x2.fz _,n.rd.ext x2⟩
 have J:∀{a:E},w.size<=a.size->Lw e [l.size,m.size] a:=λc=>lw hr bG
 let⟨U,ag,e0,e1⟩:=n.hp.aF z
 have an:=aw z
 have ao:=n.hp.len
 have ab:=xf _ (n.gp.dD q (aq z))
 have h3:q.params.length<=3:=ab.1
 have Z:∀{a:E},Fz [e] m a->IR e a U q.params:=λx=>ag.le (fh x)
 have au:=ag.len
 have aa:e∈l.size::f:=by simp[aj]
 have am:=n.gp.ty ab.2.2.1 ab.2.2.2
 refine⟨V,V,U,(eS.1 (fh t.f _ _ _ e0)).2,V,V,_,(eS.1 (fh t.f _ _ _ e1)).2,?_⟩
 refine(Mw ((Z t.f).le (bD _ _)) 1).mono λ_ m3⟨pl,en,ap,x3⟩=>⟨(J (ad _)).dz (x3.fz _),pl,en,?_⟩
 have z3:=x3.size
 refine JA (l.size::f) i g.length q.params.length (J z3) 0 λs4 o C x4=>?_
 have z4:=x4.size
 intro m5 H
 let⟨x6,b6,z6⟩:=BX.new (f:=m5) (d:=H) C rfl rfl
 clear_value H
 have r6:=((t.ext x3).ext x4).ext x6
 have hk:o.size≠e:=V
 have L6:∀{a:E},H.size<=a.size->Lw e [o.size,l.size,m.size] a:=λc=>lw hr bG
 refine(cr r6.r V 4).mono λ_ r⟨b,en,_,_,d7,L⟩=>⟨(L6 (ad _)).dz L,b,en,?_⟩
 have I:=r6.to L d7
 have z7:=L.size
 have B:=n.to I.f I.r
 have D:∀j∈o.size::l.size::f,j<r.size:=bR (ae (a:=r) V) (ad _) V
 have F:e∈o.size::l.size::f:=by simp[aj]
 have iS:∀{x:Nat}{ac:List Value}{Q:Nat},aO cp x ac r (XP (o.size::l.size::f) e h r Q (WX i g.length q.params.length))->Q<=P+300+20*Cg 18->aO cp x ac r λv A=>eF [o.size,l.size,m.size] r A/\∃W X:Int,∃t:O,v=.agg #[vi W,vi X,O.v t]/\
  ∃u j,BX (l.size::f) i g.length q.params.length o.size (ai A o.size 0 [.i W,.i X,.s t]) u j/\Rs e h m (P+300+20*Cg 18) (ai A o.size 0 [.i W,.i X,.s t])/\H.size<=(ai A o.size 0 [.i W,.i X,.s t]).size:=λc hQ=>
  XP.kk c (L6 z7) λu j A h1 h2 h3 C=>by
   have hb:=((b6.fz aa hk L).fz aa hk C).set ⟨h1,h2⟩;have ah:=(I.to C h3).put n.rd (k:=o.size) V 0 [.i j.op,.i j.bS,.s u];exact⟨u,j,hb,⟨ah.f,ah.r.mono hQ⟩,by rw[ax];have:=C.size;omega⟩
 have uQ:=λ(a:E)(S':List Nat)(h1:∀j∈S',j<a.size)(h2:e∈S')(Q:Nat)(cM:GC e h Q d p i g a)(x:Fz [e] m a)(hQ:Q+20*Cg 18<=10^16)(s:Int)(hb:0<=s/\s<=18)=>Mm (S:=S') h1 h2 cM hQ (Z x) V am hb
 have R:=iS ((uQ r _ D F _ B I.f V 18 bn).mono λ_ _ c=>c.mono (λj K=>K.1) (ad _)) V
 have first:1<=q.params.length->∃y:Int,q.params[0]? =some y/\af r U.D (U.off+Int.toNat 0*1)=some (vi y):=λc=>by
  let⟨y,T⟩:=cL q.params 0;exact⟨y,T,(eS.1 ((Z I.f).aF T)).2⟩
 refine⟨λa=>∃u j,BX (l.size::f) i g.length q.params.length o.size a u j/\Rs e h m (P+300+20*Cg 18) a/\H.size<=a.size,?_,?_⟩
 .refine⟨λv a=>(v=true->N=0)/\r=a,⟨λ_=>⟨λc=>by simp at c;omega,rfl⟩,λ_=>⟨sx,rfl⟩⟩,?_⟩
  rintro v _ ⟨G,rfl⟩
  refine⟨λc=>?_,λ_=>?_⟩
  .have Y:=ak (G c)
   exact iS ((Kg D F B V).mono λ_ _ c=>c.mono (λj K=>by rw[Y];exact K) (ad _)) V
  refine⟨λv a=>(v=true->0<=pl)/\r=a,⟨λ_=>⟨λc=>⟨λ_=>⟨λ_=>by simpa using c,rfl⟩,λ_=>⟨λ_=>by simpa using c,rfl⟩⟩,λ_=>⟨aN,rfl⟩⟩,λ_=>⟨aN,rfl⟩⟩,?_⟩
  rintro v _ ⟨G,rfl⟩
  refine⟨λc=>iS (Kj D F B V z ⟨G c,V⟩) V,λ_=>?_⟩
  refine⟨λv a=>(v=true->1<=q.params.length)/\r=a,⟨λ_=>⟨λc=>?_,λ_=>⟨aN,rfl⟩⟩,λ_=>⟨aN,rfl⟩⟩,?_⟩
  .simp only[ar]at c
   let⟨y,T,K⟩:=first V
   exact⟨bn,V,y,K,λ_=>⟨λ_=>⟨λ_=>V,rfl⟩,λ_=>⟨λ_=>V,rfl⟩⟩,λ_=>⟨aN,rfl⟩⟩
  rintro v _ ⟨G,rfl⟩
  refine⟨λc=>iS (Kk D F B V z (G c)) V,λ_=>⟨λ_=>⟨λc=>?_,λ_=>R⟩,λ_=>R⟩⟩
  simp only[ar]at c
  let⟨y,T,K⟩:=first V
  have Y:=iS (J3 D F B V z V) V
  exact⟨bn,V,y,K,λ_=>⟨λ_=>Y,λ_=>⟨λ_=>Y,λ_=>R⟩⟩,λ_=>R⟩
 rintro a ⟨u,j,s,al,av⟩
 refine⟨_,s.b.cq 0,_,s.b.cq 1,_,s.b.cq 2,?_⟩
 refine(Br (fI.le (bD _ _) s.h.sl)).mono λ_ m8⟨n8,e8,q8,Y⟩=>⟨(J V).dz (Y.fz _),n8,e8,?_⟩
 have z8:=Y.size
 have G:=al.ext Y
 have K:=s.ext Y
 refine⟨λ_=>XP.ret (uQ m8 (l.size::f) (ae V) aa _ (n.to G.f G.r) G.f V 12 bn) (J V) G.f n.rd V (λ_ c=>c) V,λc=>⟨_,K.b.cq 0,_,K.b.cq 1,_,K.b.cq 2,?_⟩⟩
 simp only[bO]at c
 have r9:=G.put n.rd (k:=l.size) V 0 [.i j.op,.i j.bS,.s u]
 exact⟨u,j,rfl,(K.h.fu.put aN _ _).fu.sl,⟨s.h.wx,V⟩,r9.r.mono V,r9.f⟩
end
def Co{α:Type}{R:E->List Ce->α->Prop}{n:Nat}(g:oO n R){S:List Nat}(o:∀d∈S,d<a.size)(e:Nat)(l:List (α×List Ce))(h:∀x∈l,R (bI S a) x.2 x.1)(p:c=l.flatMap (·.2))(q:b=l.length):
 Gr S a (a.push (.cells (bz c) e)) e n R (.mk a.size 0 b b) (l.map (·.1)):=by
 refine Gr.lit (f:=l.map (·.2)) g (ad _) o (by rw[p,List.flatMap_def]) (by simp[q]) ⟨aN,λd i=>?_,λr d e k j=>?_⟩
 .simp at i;let⟨m,f⟩:=i;exact g.len (h _ f)
 .simp only[cN,jO]at k j
  obtain⟨x,m,rfl⟩:=k
  obtain⟨y,f,rfl⟩:=j
  rw[m]at f;simp at f;subst f
  exact h x (aq m)
abbrev UZ(m:E)(s:O)(l:List (List Int)):Prop:=eV m 1 (nh m) s l
def xl{S:List Nat}(d:∀e∈S,e<a.size)(e:Nat)(l:List (List Int×O))(k:l.length<=1000)(h:∀x∈l,ap (bI S a) x.2 x.1)(f:c=l.map λx=>.s x.2)(g:b=l.length):UZ (bI S (a.push (.cells (bz c) e))) (.mk a.size 0 b b) (l.map (·.1)):=by
 have H:=Co (R:=λm c x=>nh m c x) (n:=1) ⟨λh=>nh.le h _ _,λ⟨_,h,_⟩=>by rw[h];rfl⟩ d e (l.map λx=>(x.1,[Ce.s x.2])) (λx i=>by simp at i;obtain⟨m,o,j,rfl⟩:=i;exact⟨_,rfl,h _ j⟩) (c:=c) (b:=b) (by rw[f];clear f g h k;induction l<;>simp_all) (by simp[g]);have i:=Gr.done nh.mono H d bn bG;rwa[show(l.map λx=>(x.1,[Ce.s x.2])).map (·.1)=l.map (·.1)by simp[XE,Function.comp_def]]at i
abbrev Zx(S:List Nat)(a m:E)(s:O)(l:List bB):Prop:=Gr S a m kj 3 iV s l
end
section
variable{K:O->E->Prop}
section
variable{S L:List Nat}{c P:Nat}{d:O}{m b:E}
def NQ(f:O)(d:∀a∈L,a<b.size)(g:∀a,J b a->K f a):aO cp 175 [O.v f] b λv a=>eF L b a/\∃c:O,v=.agg #[O.v c]/\K c a:=
 (Mg f b).mono λ_ a⟨e,x⟩=>⟨x.dz d,f,e,g a x⟩
def DE(f:O)(d:∀a,J b a->K f a):aO cp 175 [O.v f] b λv a=>∃c:O,v=.agg #[O.v c]/\K c a:=
 (Mg f b).mono λ_ a⟨e,x⟩=>⟨f,e,d a x⟩
def wM(hS:∀s∈S,s<m.size)(T:c∈S)(Q:Rd c d P m)(hP:P+1<=10^16):
 aO cp 174 [vp c 0] m λa6 U=>∃t ds,a6=O.v t/\Zx S m U t ds/\ds∈se/\Rd c d (P+1) U/\Fz [c] m U:=by
 apply Bb (c,0)
 simp -zeta only[aD,aC]
 have hr:=Q.lt
 have i:∀{b:E},m.size<=b.size->∀s∈S,s<b.size:=λh s hc=>by have:=hS s hc;omega
 have I:∀(b:E)(l:List Int)(L:List Ce)(D:Nat),m.size<=b.size->L=l.map Ce.i->D=l.length->l.length<=1000->ap (bI S (b.push (.cells (bz L) aB))) (.mk b.size 0 D D) l:=λb l L D h h1 h2 h3=>ap.lit aB l (i h) h1 h2 V
 have au:∀(b:E)(f:Nat),ap (bI S b) (.mk f 0 0 0) []:=λb f=>mR _ _ _ _ _ _
 intro a3
 have x1:J m a3:=J.push _ _
 refine DE _ λy x2=>?_
 intro m3
 have x3:J y m3:=J.push _ _
 have z2:=(x1.trans x2).size
 have i3:ap (bI S m3) (.mk y.size 0 2 2) [0,1]:=I y [0,1] _ _ z2 rfl rfl bn
 clear_value m3
 refine DE _ λm4 H=>?_
 intro q
 have x5:J m4 q:=J.push _ _
 have z4:=(x3.trans H).size
 have c5:UZ (bI S q) (.mk m4.size 0 2 2) [[],[0,1]]:=xl (i V) _ [([],.mk m.size 0 0 0),([0,1],.mk y.size 0 2 2)] aN (by simp;exact⟨au _ _,i3.le (H.dj _)⟩) rfl rfl
 clear_value q
 intro m6 B
 obtain⟨x7,-,z7⟩:=kW (M:=q) (d:=m6) (c:=B) rfl rfl rfl
 clear_value B
 have z5:=x5.size
 intro m8
 have x8:J B m8:=J.push _ _
 clear_value m8
 have z8:=x8.size
 refine NQ _ bG λC x9=>?_
 intro W
 have aE:J C W:=J.push _ _
 have z9:=x9.size
 have aY:ap (bI S W) (.mk C.size 0 3 3) [3,0,3]:=I C [3,0,3] _ _ V rfl rfl bn
 clear_value W
 have vQ:=aE.size
 refine NQ _ bG λX ai=>?_
 intro k
 have aF:J X k:=J.push _ _
 have a_:=ai.size
 have aM:UZ (bI S k) (.mk X.size 0 2 2) [[],[3,0,3]]:=xl (i V) _ [([],.mk B.size 0 0 0),([3,0,3],.mk C.size 0 3 3)] aN (by simp;exact⟨au _ _,aY.le (ai.dj _)⟩) rfl rfl
 clear_value k
 intro a4 n
 obtain⟨a7,-,bb⟩:=kW (M:=k) (d:=a4) (c:=n) rfl rfl rfl
 clear_value n
 have ba:=aF.size
 have LL:∀{b:E},n.size<=b.size->∀f∈[k.size,q.size],f<b.size:=λh=>bG
 intro Y
 have aG:J n Y:=J.push _ _
 have aZ:ap (bI S Y) (.mk n.size 0 2 2) [1,3]:=I n [1,3] _ _ V rfl rfl bn
 clear_value Y
 have a8:=aG.size
 refine NQ _ (LL a8) λZ aj=>?_
 intro o
 have aH:J Z o:=J.push _ _
 have bc:=aj.size
 have aP:UZ (bI S o) (.mk Z.size 0 1 1) [[1,3]]:=xl (i V) _ [([1,3],.mk n.size 0 2 2)] aN (by simp;exact aZ.le (aj.dj _)) rfl rfl
 clear_value o
 have bd:=aH.size
 intro aa
 have aI:J o aa:=J.push _ _
 have a0:ap (bI S aa) (.mk o.size 0 3 3) [1,1,0]:=I o [1,1,0] _ _ V rfl rfl bn
 clear_value aa
 have be:=aI.size
 refine NQ _ (LL V) λx ak=>?_
 intro ab
 have al:J x ab:=J.push _ _
 have bf:=ak.size
 have a1:ap (bI S ab) (.mk x.size 0 1 1) [0]:=I x [0] _ _ V rfl rfl bn
 clear_value ab
 have bg:=al.size
 refine NQ _ (LL V) λz F=>?_
 intro ac
 have G:J z ac:=J.push _ _
 have bh:=F.size
 have a2:ap (bI S ac) (.mk z.size 0 1 1) [3]:=I z [3] _ _ V rfl rfl bn
 clear_value ac
 have bi:=G.size
 refine NQ _ (LL V) λae u=>?_
 intro p
 have aJ:J ae p:=J.push _ _
 have bj:=u.size
 have aQ:UZ (bI S p) (.mk ae.size 0 3 3) [[1,1,0],[0],[3]]:=xl (i V) _ [([1,1,0],.mk o.size 0 3 3),([0],.mk x.size 0 1 1),([3],.mk z.size 0 1 1)] aN (by simp;exact⟨a0.le ((((((ak.trans al).trans F).trans G).trans u)).dj _),a1.le (((F.trans G).trans u).dj _),a2.le (u.dj _)⟩) rfl rfl
 clear_value p
 have bk:=aJ.size
 have ax:=(((((aI.trans ak).trans al).trans F).trans G).trans u).trans aJ
 have aw:=(((a7.trans aG).trans aj).trans aH).trans ax
 have K:=(((((x7.trans x8).trans x9).trans aE).trans ai).trans aF).trans aw
 have w:∀{am an:E}{t:O}{l:List (List Int)},J am an->UZ (bI S am) t l->UZ (bI S an) t l:=λaA h=>eV.le h (aA.dj _) (nh.le (aA.dj _))
 have ag:UZ (bI S p) .nil []:=⟨rfl,ad _,aN,aN⟩
 intro e
 have r:J p e:=J.push _ _
 have aT:cz (bI S e) (.mk p.size 0 4 4) Se:=(Co (R:=iV) iV.mono (i (b:=p) V) kj [(⟨0,0,[[1,3]]⟩,[.i 0,.i 0,.s (.mk Z.size 0 1 1)]),(⟨1,0,[]⟩,[.i 1,.i 0,.s .nil]),(⟨0,0,[[1,1,0],[0],[3]]⟩,[.i 0,.i 0,.s (.mk ae.size 0 3 3)]),(⟨0,1,[]⟩,[.i 0,.i 1,.s .nil])] (by simp;exact⟨⟨_,rfl,w ax aP⟩,⟨_,rfl,ag⟩,⟨_,rfl,aQ⟩,⟨_,rfl,ag⟩⟩) rfl rfl).done iV.mono (i V) bn bn
 clear_value e
 have bl:=r.size
 intro A
 have v:J e A:=J.push _ _
 have ay:Zx S e A (.mk e.size 0 3 3) KO:=Co (R:=iV) iV.mono (i (b:=e) V) kj [(⟨0,0,[[],[0,1]]⟩,[.i 0,.i 0,.s (.mk m4.size 0 2 2)]),(⟨0,0,[]⟩,[.i 0,.i 0,.s .nil]),(⟨0,0,[[],[3,0,3]]⟩,[.i 0,.i 0,.s (.mk X.size 0 2 2)])] (by simp;exact⟨⟨_,rfl,w (K.trans r) c5⟩,⟨_,rfl,w r ag⟩,⟨_,rfl,w (aw.trans r) aM⟩⟩) rfl rfl
 clear_value A
 have av:=((((x1.trans x2).trans x3).trans H).trans x5).trans (K.trans (r.trans v))
 have bm:=v.size
 have aL:Lw c [k.size,q.size] A:=λf j=>⟨LL V f j,by simp at j;omega⟩
 refine(cr (Q.ext av) V 5).mono λ_ af⟨az,aR,k0,k1,N,g⟩=>⟨aL.dz g,az,aR,λh=>?_,λ_=>⟨_,KO,rfl,Gr.cA iV.mono (ay.eC iV.mono g (by simp;exact⟨T,V⟩)) (λ_ h=>Or.inl h) V,by simp[se],N,(av.fz _).trans g⟩⟩
 simp only[ar]at h
 let⟨ah,hq⟩:=cL Se az.toNat (by simp[Se];omega)
 have aX:Le (bI S e) (bI (e.size::S) af):=(v.bI λf j=>(List.mem_cons.1 j).elim (λh=>Or.inr V) Or.inl).trans (g.dj (by simp[T]))
 let⟨aS,hf,e0,e1,e2⟩:=(aT.le aX).aF hq
 refine⟨k0,bG,_,(eS.1 e0).2,_,(eS.1 e1).2,_,(eS.1 e2).2,?_⟩
 intro a9
 have aU:Zx S e af (.mk e.size 0 3 3) KO:=ay.eC iV.mono g (by simp;exact⟨T,V⟩)
 have hz:=g.size
 have aV:KO++[ah]∈se:=by
  have:=aq hq;simp only[se,aW,XG];exact Or.inr ⟨ah,this,rfl⟩
 refine Gr.kY (g:=[.i 0,.i 0,.s .nil]) (k:=ah) iV.mono bn aU ((v.fz _).trans g) ⟨aS,rfl,hf⟩ (by simp[KO]) λa5 M' g' f' z' q'=>?_
 have ao:=((((((x1.trans x2).trans x3).trans H).trans x5).trans (K.trans r)).fz [c]).trans f'
 have aK:Lw c [k.size,q.size] e:=λf j=>⟨LL V f j,by simp at j;omega⟩
 exact⟨aK.tQ (((v.fz [c]).trans g).then (J.push af _)) f',a5,_,rfl,Gr.cA iV.mono g' (λ_ h=>Or.inl h) V,aV,Q.Nd N ao (q' c N.lt (by show c≠e.size;omega)),ao⟩
end
end
section
variable{a:Nat}{b:List Ce}
def PA(M:E)(b:List Ce)(x:dC×Option Ex):Prop:=∃c a k z,b=[.s c,.i x.1.aT,.i a,.i k,.s z]/\ap M c x.1.params/\∀e,x.2=some e->a=e.op/\k=e.bS/\fI M z e.bF
def PA.mono:oO 5 PA:=⟨λh⟨b,a,k,z,e,c,d⟩=>⟨b,a,k,z,e,c.le h,λx j=>let⟨f,g,i⟩:=d x j;⟨f,g,fI.le h i⟩⟩,λ⟨_,_,_,_,e,_⟩=>by rw[e];rfl⟩
def Zw(M:E)(b:List Ce)(x:dC×Ex):Prop:=∃a s,b=[.s a,.i x.1.aT,.i x.2.op,.i x.2.bS,.s s]/\ap M a x.1.params/\fI M s x.2.bF
def Zw.mono:oO 5 Zw:=⟨λh⟨a,s,e,b,c⟩=>⟨a,s,e,b.le h,fI.le h c⟩,λ⟨_,_,e,_⟩=>by rw[e];rfl⟩
abbrev Xc(m:E)(s:O)(l:List (dC×Ex)):Prop:=eV m 5 (Zw m) s l
structure Xe(ds:List bB)(l:List (dC×Ex)):Prop where
 gp:GP ds (l.map (·.1))
 uQ:∀x∈l,Yg ds l.length x.1.params.length x.2
def Gr.Z4{α:Type}{S:List Nat}{q p:E}{j g h c k:Nat}{R:E->List Ce->α->Prop}{o:List α}(x:0<g)(m:Gr S q p j g R (.mk h 0 a c) o)(v:k<=a):Gr S q p j g R (.mk h 0 k c) (o.take k):=by
 have w:=m.len x;obtain⟨-,b,r,d⟩:=m;simp only[O.gL]at w;have t:b.length=a:=by rw[d.len];omega
 rcases r.aF with e|⟨B,C,tail,e,h4,h5,h6,h7⟩
 .simp at e
 simp only[O.gL,O.mk.injEq]at e h7;obtain⟨rfl,-,-,rfl⟩:=e;have l:b.flatten=(b.take k).flatten++(b.drop k).flatten:=by rw[<-qX,dv]
 have n:∀c∈b.take k,c.length=g:=λc s=>d.size c (dF s);refine⟨aN,b.take k,⟨by rw[cy n,gQ,t,ju v];rfl,Or.inr ⟨h,c,(b.drop k).flatten++tail,aN,h4,by rw[<-fF,<-l];exact h5,by rw[<-fF,<-l];exact h6,bG⟩⟩,?_,n,λy z A f i=>?_⟩
 .rw[gQ,gQ,d.len]
 .rw[lT]at f i;split at f
  .rename_i u;rw[ao u]at i;exact d.dD y z A f i
  .simp at f
section
variable{S L:List Nat}{d P:Nat}{c:O}{m M:E}
def rP{K:O->Int->Int->Int->O->E->Prop}(l:List Int)(r:Int)(n:∀c∈S,c<M.size)(m:∀d∈L,d<M.size)(t:l.length<=1000)(p:b=l.map Ce.i)(s:a=l.length)(q:∀c,J M c->ap (bI S c) (.mk M.size 0 a a) l->K (.mk M.size 0 a a) r 0 0 .nil c):
 aO cp 220 [O.v (.mk M.size 0 a a),vi r] (M.push (.cells (bz b) aB)) λv c=>eF L (M.push (.cells (bz b) aB)) c/\∃e:O,∃f:Int,∃g:Int,∃h:Int,∃i:O,v=.agg #[O.v e,vi f,vi g,vi h,O.v i]/\K e f g h i c:=
 have j:=J.push M (.cells (bz b) aB)
 (RC _ r _).mono λ_ c⟨k,x⟩=>⟨x.dz λd o=>j.lt (m d o),_,_,_,_,_,k,q c (j.trans x) ((ap.lit aB l n p s V).le (x.dj _))⟩
def yu(a:List Int)(r:Int):dC:=⟨a,[],r,0,[]⟩
def TE.mono:oO 5 TE:=⟨λh=>TE.le h,λ⟨_,_,_,_,e,_⟩=>by rw[e];rfl⟩
def Rw(l:List (dC×O))(c:∀d∈S,d<M.size)(h:∀x∈l,ap (bI S M) x.2 x.1.params)(k:l.length<=1000)(f:b=l.flatMap λx=>[.s x.2,.i x.1.aT,.i 0,.i 0,.s .nil])(g:a=l.length):pL (bI S (M.push (.cells (bz b) fx))) (.mk M.size 0 a a) (l.map (·.1)):=by
 have H:=(Co (R:=TE) TE.mono c fx (l.map λx=>(x.1,[Ce.s x.2,.i x.1.aT,.i 0,.i 0,.s .nil])) (λx d=>by simp at d;obtain⟨i,j,e,rfl⟩:=d;exact⟨_,_,_,_,rfl,h _ e⟩) (c:=b) (b:=a) (by rw[f,List.flatMap_map]) (by simp[g])).done TE.mono c bn bG;rwa[show(l.map λx=>(x.1,[Ce.s x.2,.i x.1.aT,.i 0,.i 0,.s .nil])).map (·.1)=l.map (·.1)by simp[XE,Function.comp_def]]at H
end
end
section
def Vt:List dC:=[yu [1] 0,yu [1,1] 1,yu [1] 1,yu [1,0] 1,yu [2,1] 1,yu [1,1] 0]
def VD:List dC:=[yu [3] 0,yu [0] 1,yu [0,1] 1,yu [3,0] 3,yu [3] 1,yu [1,3,0] 0]
def Pn:List dC:=[yu [0] 0,yu [0,0] 0,yu [1,0] 0,yu [0] 1]
def QU:(∀q∈Vt,(q.params,q.aT)∈PG)/\(∀q∈VD,(q.params,q.aT)∈PG)/\∀q∈Pn,(q.params,q.aT)∈PG:=bn
def Pb{α:Type}{l:List α}{k:Nat}{x:α}(h:l[k]? =some x):l.set k x=l:=ic λi=>by
 rw[jM];split
 .rename_i e;subst e;rw[ao (aw h),h]
 .rfl
section
variable{b:List Nat}{c P:Nat}{d:O}{m:E}
def ET(hS:∀j∈b,j<m.size)(s:c∈b)(I:Rd c d P m)(hP:P+10+4*(300+40*Cg 18)<=10^16):
 aO cp 207 [vp c 0] m λbz m'=>∃w aV y o,bz=.agg #[O.v w,O.v aV]/\cz (bI b m') w y/\Xc (bI b m') aV o/\Xe y o/\Rd c d (P+10+4*(300+40*Cg 18)) m'/\Fz [c] m m':=by
 apply xO (c,0)
 unfold sL
 simp(config:={zeta:=false,maxSteps:=2000000}) only[aD,aC]
 have hr:=I.lt
 intro aa
 have x1:J m aa:=J.push _ _
 have s1:aa.size=m.size+1:=by simp[aa]
 clear_value aa
 have an:∀j∈m.size::b,j<aa.size:=bR hS x1.size V
 refine(wM an (by simp[s]) (I.ext x1) V).mono λ_ e⟨w,y,r,gd,aL,d2,f2⟩=>⟨f2.dz bG,w,r,?_⟩
 have z2:=f2.size
 have F2:=(x1.fz [c]).trans f2
 have aK:cz (bI (m.size::b) e) w y:=gd.done iV.mono an bn (oh (pN y aL))
 intro m3 A
 obtain⟨x4,-,z4⟩:=kW (M:=e) (d:=m3) (c:=A) rfl rfl rfl
 clear_value A
 have h:∀{g:E},A.size<=g.size->∀j∈e.size::m.size::b,j<g.size:=λq=>bR (λj hc=>oh (an j hc)) q V
 have LL:∀{g:E},A.size<=g.size->∀v∈[e.size,m.size],v<g.size:=λq=>bG
 refine rP (S:=e.size::m.size::b) [1] 0 (h V) (LL V) bn rfl rfl λa9 x5 i1=>?_
 have z5:=x5.size
 refine rP (S:=e.size::m.size::b) [1,1] 1 (h V) (LL V) bn rfl rfl λa2 x6 i2=>?_
 have z6:=x6.size
 refine rP (S:=e.size::m.size::b) [1] 1 (h V) (LL V) bn rfl rfl λa3 x7 i3=>?_
 have z7:=x7.size
 refine rP (S:=e.size::m.size::b) [1,0] 1 (h V) (LL V) bn rfl rfl λa4 x8 i4=>?_
 have z8:=x8.size
 refine rP (S:=e.size::m.size::b) [2,1] 1 (h V) (LL V) bn rfl rfl λa_ x9 i5=>?_
 have z9:=x9.size
 refine rP (S:=e.size::m.size::b) [1,1] 0 (h V) (LL V) bn rfl rfl λa6 aA i6=>?_
 have vQ:=aA.size
 intro b1
 have y1:J a6 b1:=J.push _ _
 have X9:=x9.trans aA;have X8:=x8.trans X9;have X7:=x7.trans X8;have X6:=x6.trans X7
 have g1:pL (bI (e.size::m.size::b) b1) (.mk a6.size 0 6 6) Vt:=Rw [(yu [1] 0,.mk A.size 0 1 1),(yu [1,1] 1,.mk a9.size 0 2 2),(yu [1] 1,.mk a2.size 0 1 1),(yu [1,0] 1,.mk a3.size 0 2 2),(yu [2,1] 1,.mk a4.size 0 2 2),(yu [1,1] 0,.mk a_.size 0 2 2)] (h V) (by simp;exact⟨i1.le (X6.dj _),i2.le (X7.dj _),i3.le (X8.dj _),i4.le (X9.dj _),i5.le (aA.dj _),i6⟩) aN rfl rfl
 have bK:b1.size=a6.size+1:=by simp[b1]
 clear_value b1
 have w1:=y1.size
 refine rP (S:=e.size::m.size::b) [3] 0 (h V) (LL V) bn rfl rfl λc1 u1 j1=>?_
 have v1:=u1.size
 refine rP (S:=e.size::m.size::b) [0] 1 (h V) (LL V) bn rfl rfl λc2 u2 j2=>?_
 have v2:=u2.size
 refine rP (S:=e.size::m.size::b) [0,1] 1 (h V) (LL V) bn rfl rfl λc3 u3 j3=>?_
 have v3:=u3.size
 refine rP (S:=e.size::m.size::b) [3,0] 3 (h V) (LL V) bn rfl rfl λc4 u4 j4=>?_
 have v4:=u4.size
 refine rP (S:=e.size::m.size::b) [3] 1 (h V) (LL V) bn rfl rfl λc5 u5 j5=>?_
 have v5:=u5.size
 refine rP (S:=e.size::m.size::b) [1,3,0] 0 (h V) (LL V) bn rfl rfl λc6 u6 j6=>?_
 have v6:=u6.size
 intro b2
 have y2:J c6 b2:=J.push _ _
 have U5:=u5.trans u6;have U4:=u4.trans U5;have U3:=u3.trans U4;have U2:=u2.trans U3
 have g2:pL (bI (e.size::m.size::b) b2) (.mk c6.size 0 6 6) VD:=Rw [(yu [3] 0,.mk b1.size 0 1 1),(yu [0] 1,.mk c1.size 0 1 1),(yu [0,1] 1,.mk c2.size 0 2 2),(yu [3,0] 3,.mk c3.size 0 2 2),(yu [3] 1,.mk c4.size 0 1 1),(yu [1,3,0] 0,.mk c5.size 0 3 3)] (h V) (by simp;exact⟨j1.le (U2.dj _),j2.le (U3.dj _),j3.le (U4.dj _),j4.le (U5.dj _),j5.le (u6.dj _),j6⟩) aN rfl rfl
 have bL:b2.size=c6.size+1:=by simp[b2]
 clear_value b2
 have w2:=y2.size
 refine rP (S:=e.size::m.size::b) [0] 0 (h V) (LL V) bn rfl rfl λe1 t1 k1=>?_
 have q1:=t1.size
 refine rP (S:=e.size::m.size::b) [0,0] 0 (h V) (LL V) bn rfl rfl λe2 t2 k2=>?_
 have q2:=t2.size
 refine rP (S:=e.size::m.size::b) [1,0] 0 (h V) (LL V) bn rfl rfl λe3 t3 k3=>?_
 have q3:=t3.size
 refine rP (S:=e.size::m.size::b) [0] 1 (h V) (LL V) bn rfl rfl λe4 t4 k4=>?_
 have q4:=t4.size
 intro b3
 have y3:J e4 b3:=J.push _ _
 have T3:=t3.trans t4;have T2:=t2.trans T3
 have g3:pL (bI (e.size::m.size::b) b3) (.mk e4.size 0 4 4) Pn:=Rw [(yu [0] 0,.mk b2.size 0 1 1),(yu [0,0] 0,.mk e1.size 0 2 2),(yu [1,0] 0,.mk e2.size 0 2 2),(yu [0] 1,.mk e3.size 0 1 1)] (h V) (by simp;exact⟨k1.le (T2.dj _),k2.le (T3.dj _),k3.le (t4.dj _),k4⟩) aN rfl rfl
 have bM:b3.size=e4.size+1:=by simp[b3]
 clear_value b3
 have w3:=y3.size
 refine rP (S:=e.size::m.size::b) [] 0 (h V) (LL V) bn rfl rfl λM0 x0 n0=>?_
 have z0:=x0.size
 have aG:=((((u1.trans U2).trans y2)).trans (t1.trans T2)).trans (y3.trans x0)
 have XM:J A M0:=((x5.trans X6).trans y1).trans aG
 have G1:=pL.le (aG.dj _) g1
 have G2:=pL.le ((((t1.trans T2)).trans (y3.trans x0)).dj _) g2
 have a8:=pL.le (x0.dj _) g3
 have dM:Rd c d (P+1) M0:=(d2.ext x4).ext XM
 have L2:∀{g:E},A.size<=g.size->Lw c [e.size,m.size] g:=λq=>lw hr bG
 have bE:c∈e.size::m.size::b:=by simp[s]
 have l:∀{g M':E}{v W:Nat},A.size<=v->v<g.size->Fz [c] g M'->af M' v W=af g v W:=λh1 h2 N=>aI (N.same _ h2 bG) _
 refine(cr dM V _).mono λ_ m5⟨r1,en,bu,aY,d5,f5⟩=>⟨(L2 V).dz f5,r1,en,bu,by simp at aY⊢;omega,?_⟩
 have ak:Le (bI (e.size::m.size::b) M0) (bI (e.size::m.size::b) m5):=f5.dj (by simp[s])
 have bS:=f5.size
 let⟨K,aP⟩:=cL Vt r1.toNat (by simp[Vt]at aY⊢;omega)
 obtain⟨_,⟨pa,pn,pk,pz,rfl,pi⟩,pr⟩:=(pL.le ak G1).iL _ K aP
 have pg:=λt j q=>(eS.1 (pr t j q)).2
 refine⟨_,pg 0 _ rfl,_,pg 1 _ rfl,_,pg 2 _ rfl,_,pg 3 _ rfl,_,pg 4 _ rfl,?_⟩
 refine(cr d5 V _).mono λ_ m6⟨r2,en,bw,a0,d6,z⟩=>⟨(L2 V).dz z,r2,en,?_⟩
 have bT:=z.size
 have al:Le (bI (e.size::m.size::b) m5) (bI (e.size::m.size::b) m6):=z.dj (by simp[s])
 let⟨p2,aQ⟩:=cL VD r2.toNat (by simp[VD]at a0⊢;omega)
 obtain⟨_,⟨qa,qn,qk,qz,rfl,qi⟩,qr⟩:=(pL.le (ak.trans al) G2).iL _ p2 aQ
 have qg:=λt j q=>(eS.1 (qr t j q)).2
 refine⟨l bG bG z,l bG bG z,l bG bG z,l bG bG z,l bG bG z,bw,by simp at a0⊢;omega,_,qg 0 _ rfl,_,qg 1 _ rfl,_,qg 2 _ rfl,_,qg 3 _ rfl,_,qg 4 _ rfl,?_⟩
 refine(cr d6 V _).mono λ_ f⟨r3,en,bx,a1,d7,p⟩=>⟨(L2 V).dz p,r3,en,?_⟩
 have bU:=p.size
 have am:Le (bI (e.size::m.size::b) m6) (bI (e.size::m.size::b) f):=p.dj (by simp[s])
 let⟨p3,aS⟩:=cL Pn r3.toNat (by simp[Pn]at a1⊢;omega)
 obtain⟨_,⟨ra,rn,rk,rz,rfl,ri⟩,rr⟩:=(pL.le ((ak.trans al).trans am) a8).iL _ p3 aS
 have rg:=λt j q=>(eS.1 (rr t j q)).2
 refine⟨l bG bG p,l bG bG p,l bG bG p,l bG bG p,l bG bG p,l bG bG p,l bG bG p,l bG bG p,l bG bG p,l bG bG p,bx,by simp at a1⊢;omega,_,rg 0 _ rfl,_,rg 1 _ rfl,_,rg 2 _ rfl,_,rg 3 _ rfl,_,rg 4 _ rfl,?_⟩
 intro T
 have a5:J f T:=J.push _ _
 have bl:ap (bI (e.size::m.size::b) f) (.mk b3.size 0 0 0) []:=mR _ _ _ _ _ _
 have gf:Gr (e.size::m.size::b) f T fx 5 PA (.mk f.size 0 4 4) [(yu [] 0,none),(K,none),(p2,none),(p3,none)]:=Co PA.mono (h V) fx [((yu [] 0,none),[.s (.mk b3.size 0 0 0),.i 0,.i 0,.i 0,.s .nil]),((K,none),[.s pa,.i K.aT,.i pn,.i pk,.s pz]),((p2,none),[.s qa,.i p2.aT,.i qn,.i qk,.s qz]),((p3,none),[.s ra,.i p3.aT,.i rn,.i rk,.s rz])] (by simp;exact⟨⟨_,_,_,_,rfl,bl,aN⟩,⟨_,_,_,_,rfl,pi.le (al.trans am),aN⟩,⟨_,_,_,_,rfl,qi.le am,aN⟩,⟨_,_,_,_,rfl,ri,aN⟩⟩) rfl rfl
 have s8:T.size=f.size+1:=by simp[T]
 clear_value T
 let u:=[yu [] 0,K,p2,p3]
 have bB:f.size≠e.size:=V
 have bd:∀ac∈u,(ac.params,ac.aT)∈PG:=by
  simp only[u,aW,km,Cb];rintro ac (rfl|rfl|rfl|rfl)
  .simp[yu,PG]
  .exact QU.1 _ (aq aP)
  .exact QU.2.1 _ (aq aQ)
  .exact QU.2.2 _ (aq aS)
 have a7:Fz [c] e f:=(((x4.trans XM).fz [c]).trans f5).trans (z.trans p)
 have aX:∀{g:E}{ag:O}{o:List (dC×Option Ex)}(W:Nat)(L:List Ce),Gr (e.size::m.size::b) f g fx 5 PA ag o->Gr (e.size::m.size::b) f (ai g e.size W L) fx 5 PA ag o:=λW L G=>G.NV PA.mono ((Fz.aA [e.size] _).ai (Or.inl aN) W L) aN (by have:=G.bq;simp;omega)
 intro U
 have g9:Gr (e.size::m.size::b) f U fx 5 PA (.mk f.size 0 4 4) [(yu [] 0,none),(K,none),(p2,none),(p3,none)]:=aX 1 [.s (.mk f.size 0 4 4)] gf
 have r9:Rs c d e (P+4) U:=(Rs.mk (a7.then a5) (d7.ext a5)).put d2 (ad _) 1 [.s (.mk f.size 0 4 4)]
 have s9:U.size=T.size:=ax _ _ _ _
 clear_value U
 intro ay
 have ah:J U ay:=J.push _ _
 have bp:ap (bI [c] ay) (.mk U.size 0 5 5) [4,4,3,2,4]:=ap.lit aB _ bG rfl rfl aN
 clear_value ay
 have bP:=ah.size
 refine(kO (r9.r.ext ah) V bp aN).mono λ_ bq⟨mn,en,bk,ba,ae⟩=>⟨(L2 V).dz ae,mn,en,?_⟩
 have bQ:=ae.size
 have bD:2<=mn/\mn<=4:=by simp at bk;omega
 obtain⟨n,rfl⟩:∃n:Nat,mn=n:=⟨mn.toNat,V⟩
 have bh:O.cut (.mk f.size 0 4 4) (Int.toNat 0) (Int.toNat n) 5=.mk f.size 0 n 4:=by simp[O.cut]
 rw[bh]
 refine⟨bn,V,bG,?_⟩
 intro ab
 have bc:Gr (e.size::m.size::b) f ab fx 5 PA (.mk f.size 0 n 4) ([(yu [] 0,none),(K,none),(p2,none),(p3,none)].take n):=Gr.Z4 bn (aX 1 [.s (.mk f.size 0 n 4)] ((g9.ext PA.mono ah).eC PA.mono ae (by simp[s];omega))) V
 have bv:Rs c d e (P+5) ab:=((r9.ext ah).to ae ba).put d2 (ad _) 1 [.s (.mk f.size 0 n 4)]
 have bH:ab.size=bq.size:=ax _ _ _ _
 clear_value ab
 have aT:(u.take n).length=n:=by simp[u];omega
 have gp:GP y (u.take n):=⟨aL,V,V,λac i=>bd ac (dF i)⟩
 have ew:cG ((n:Int) -1)=n -1:=aR V V
 rw[ew]
 refine⟨λN g=>∃(i:Nat)(o:List (dC×Option Ex)),N=(i:Int) -1/\i<=n/\Gr (e.size::m.size::b) f g fx 5 PA (.mk f.size 0 n 4) o/\o.map (·.1)=u.take n/\(∀(t:Nat)(x:dC×Option Ex),o[t]? =some x->i<=t->∃r,x.2=some r/\Yg y n x.1.params.length r)/\Rs c d e (P+5+(n -i)*(300+40*Cg 18)) g/\ab.size<=g.size,λN _=>(N+1).toNat,⟨n,_,rfl,ad _,bc,by rw[Ou];rfl,λt x C q=>by have:=aw C;simp at this;omega,by rw[QL,QM];exact bv,ad _⟩,?_⟩
 rintro N g ⟨i,o,rfl,bC,G,hl,ar,Y,zM⟩
 have bj:o.length=n:=by rw[<-aT,<-hl];simp
 have gy:=G.bq
 simp only[O.jJ]at gy
 have aJ:f.size∉e.size::m.size::b:=λq=>by have:=h (g:=A) (ad _) _ q;omega
 refine dit (λq=>?_) λq=>?_
 .obtain⟨i,rfl⟩:∃D,i=D+1:=⟨i -1,V⟩
  have ek:((i+1:Nat):Int) -1=(i:Int):=V
  rw[ek]
  let⟨x,Q⟩:=cL o i
  have au:(u.take n)[i]? =some x.1:=by rw[<-hl];simp[Q]
  have bo:pL (bI [c] g) (.mk f.size 0 n 4) (u.take n):=by
   have H:=G.nV PA.mono aJ bn V;rw[<-hl];refine⟨bG,H.cap,H.gX,λD aF hy=>?_⟩;simp only[cN,jO]at hy;obtain⟨Z,R,rfl⟩:=hy;obtain⟨L,⟨F,i1,i2,i3,rfl,ha,-⟩,av⟩:=H.iL D Z R;have aU:=je g (S:=e.size::m.size::b) (c:=[c]) (by simp[s]);exact⟨_,⟨F,_,_,_,rfl,ha.le aU⟩,aU.iL av⟩
  have bi:cz (bI [c] g) w y:=aK.le ((je e (c:=[c]) (by simp[s])).trans (fh Y.f))
  have hB:(n -(i+1))*(300+40*Cg 18)+(300+40*Cg 18)=(n -i)*(300+40*Cg 18):=by rw[<-qB];congr 1;omega
  have be:(n -i)*(300+40*Cg 18)<=4*(300+40*Cg 18):=dm _ V
  have bm:i=0->x.1.params.length=0:=λI=>by subst I;obtain⟨n',rfl⟩:∃n',n=n'+1:=⟨n -1,V⟩;simp[u]at au;rw[<-au];rfl
  have bf:∀j∈f.size::e.size::m.size::b,j<g.size:=bR (h (g:=g) V) (ad _) gy.2
  refine XP.kk (Nl (f:=f.size::e.size::m.size::b) bf (by simp[s]) ⟨Y.r,bi,bo,gp⟩ V au bm) (L2 V) λag r M1 hs B bb aj=>?_
  have bN:=aj.size
  intro br az
  obtain⟨aE,-,bO⟩:=kW (M:=M1) (d:=br) (c:=az) rfl rfl rfl
  clear_value az
  have aH:=(G.eC PA.mono aj (by simp[s];omega)).ext PA.mono aE
  obtain⟨L,⟨F,i1,i2,i3,rfl,ha,-⟩,jD⟩:=aH.cells Q
  have bs:=jD 0 _ rfl;have bt:=jD 1 _ rfl
  refine⟨V,bG,F,bs,V,bG,_,bt,V,bG,?_⟩
  obtain⟨wr,gs,-,bF⟩:=aH.set PA.mono (X:=List.range f.size) ⟨V,λv hb hn=>absurd (List.mem_range.2 hb) hn⟩ (k:=i) V (a:=(x.1,some r)) (cs:=[.s F,.i x.1.aT,.i r.op,.i r.bS,.s ag]) ⟨F,_,_,_,rfl,ha,λe' aM=>by simp at aM;subst aM;exact⟨rfl,rfl,fI.le (aE.dj _) hs⟩⟩
  refine⟨wr,?_⟩
  intro aM
  have bJ:aM.size=az.size:=ax _ _ _ _
  have aZ:Rs c d e (P+5+(n -(i+1))*(300+40*Cg 18)+300+40*Cg 18) aM:=((Y.to aj bb).ext aE).put d2 (by show e.size<=f.size;omega) _ _
  refine⟨λv hb=>bg _ _ _ _ (by simp at hb;show v≠f.size;omega),⟨i,o.set i (x.1,some r),aR V V,V,gs,?_,λt aF C bA=>?_,⟨aZ.f,aZ.r.mono V⟩,V⟩,?_⟩
  .rw[uq,Pb (by simp[Q]),hl]
  .rw[jM]at C
   split at C
   .rename_i e';subst e';rw[ao V]at C;simp at C;subst C
    have:(u.take n).length=n:=aT
    rw[this]at B;exact⟨r,rfl,B⟩
   .exact ar t aF C V
  .rw[aR V V];show((i:Int) -1+1).toNat<((i:Int)+1).toNat;omega
 .have I:i=0:=V
  subst I
  have aj:Le (bI (e.size::m.size::b) g) (bI b (ai g m.size 0 [.s w,.s (.mk f.size 0 n 4)])):=cD aN λj hc=>by simp[hc]
  have H:=G.nV PA.mono aJ bn V
  have be:(n -0)*(300+40*Cg 18)<=4*(300+40*Cg 18):=dm _ V
  have C:Rs c d m (P+5+(n -0)*(300+40*Cg 18)) g:=⟨F2.trans Y.f,Y.r⟩
  have C:=C.put I (ad _) 0 [.s w,.s (.mk f.size 0 n 4)]
  have az:(o.map λx=>(x.1,x.2.getD (.mk 0 0 []))).map (·.1)=u.take n:=by rw[XE,<-hl];rfl
  refine⟨w,.mk f.size 0 n 4,y,o.map λx=>(x.1,x.2.getD (.mk 0 0 [])),rfl,aK.le ((Y.f.dj (by simp[s])).trans ((cD aN λj hc=>by simp[hc]))),⟨bG,H.cap,H.gX,λD aF hy=>?_⟩,⟨by rw[az];exact gp,λx Q=>?_⟩,C.r.mono V,C.f⟩
  .simp only[cN,jO]at hy
   obtain⟨Z,R,rfl⟩:=hy
   let⟨r,B,hf⟩:=ar D Z R (dQ _)
   obtain⟨L,⟨F,i1,i2,i3,rfl,ha,hb⟩,av⟩:=H.iL D Z R
   obtain⟨rfl,rfl,au⟩:=hb r B
   exact⟨_,⟨F,i3,by simp[B],ha.le aj,by simp only[B,vO];exact fI.le aj au⟩,aj.iL av⟩
  .simp only[XG]at Q
   obtain⟨Z,R,rfl⟩:=Q
   let⟨D,F⟩:=List.mem_iff_getElem?.1 R
   let⟨r,B,hf⟩:=ar D Z F (dQ _)
   simp only[B,vO,eu,bj];exact hf
end
end
structure Pt(S:List Nat)(m0 m:E)(lb:Nat)(s:O)(l:List cZ)(sc:Nat):Prop where
 box:cK m lb lS [.s s,.i sc]
 gr:GS (lb::S) m0 m s l
 up:m0.size<=lb
def Pt.ext{S:List Nat}{c m b:E}{a d:Nat}{s:O}{l:List cZ}(h:Pt S c m a s l d)(x:J m b):Pt S c b a s l d:=⟨h.box.ext x,h.gr.ext gK.mono x,h.up⟩
def Pt.ne{S:List Nat}{b m:E}{a c:Nat}{s:O}{l:List cZ}(h:Pt S b m a s l c):s.D≠a:=h.gr.ne h.box bn
def LoP(S:List Nat)(f m:E)(c:Nat)(s:O)(P:List cZ->Nat->Prop)(d:E):Prop:=∃a b e,Pt S f d c a b e/\P b e/\Fz [c,s.D] m d/\(a.D=s.D\/m.size<=a.D)
def Mc{S:List Nat}{n e:E}{b f:Nat}{s w D:O}{l:List cZ}{x:cZ}(q:Pt S n e b s l f)(C:n.size<=e.size)(P:ap (bI (s.D::b::S) e) w x.args)(Q:nT (bI (s.D::b::S) e) D x.bF)(t:l.length<=1000000)(hs:f<=1000000):
 aO cp 281 [vp b 0,pD x w D] e λW T=>W=vi (f:Nat)/\LoP S n e b s (λc d=>c=l++[x]/\d=f+1) T:=by
 apply wQ (b,0)
 simp -zeta only[aD,aC]
 intro i
 have k:J e i:=J.push _ _
 have s1:i.size=e.size+1:=by simp[i]
 clear_value i
 have g:=q.ext k
 have hy:=g.gr.bq
 have I:=g.box.lt
 have aa:=q.box.lt
 have ab:=q.gr.bq
 refine⟨s,g.box.cq 0,?_⟩
 intro U
 have K:J i U:=J.push _ _
 refine⟨aI (K.same _ I) _,?_⟩
 have g1:GS (b::S) (e.extract 0 n.size) i s l:=Gr.cA gK.mono g.gr (λL t=>Or.inl t) (by rw[mD C];exact ad _)
 refine Gr.kY (g:=[.i 0,.i 0,.i 0,.s .nil,.s .nil]) (k:=x) gK.mono bn g1 (((J.Nj C).trans k).fz []) ⟨w,D,rfl,P.le (k.dj _),eV.le Q (k.dj _) λ_ _=>rZ.le (k.dj _)⟩ V λp u G Z X F=>?_
 have A:cK u b lS [.s s,.i f]:=g.box.congr (F b I (kT g.ne))
 have R:=G.ne A bn
 refine⟨λc d=>?_,A.fO aN,?_⟩
 .simp at d;subst d
  rw[F e.size V V,K.same _ V]
 intro j
 have B:cK j b lS [.s p,.i f]:=cK.ai (m:=u) (o:=0) (r:=[.s p]) A
 have y:∀c,c≠b->j[c]? =u[c]? :=λc d=>bg _ _ _ _ d
 have s4:j.size=u.size:=ax _ _ _ _
 have M:cG ((f:Int)+1)=(f+1:Nat):=by rw[aR V V];rfl
 refine⟨λc d=>y c (by simp at d;omega),_,B.cq 1,B.fO aN,?_⟩
 rw[M]
 intro v
 have H:cK v b lS [.s p,.i (f+1:Nat)]:=cK.ai (m:=j) (o:=1) (r:=[.i (f+1:Nat)]) B
 have z:∀c,c≠b->v[c]? =j[c]? :=λc d=>bg _ _ _ _ d
 have s5:v.size=j.size:=ax _ _ _ _
 refine⟨λc d=>z c (by simp at d;omega),_,H.cq 1,?_⟩
 have N:GS (b::S) n v p (l++[x]):=by
  refine Gr.cA gK.mono (G.re gK.mono (Y:=[b]) ⟨V,λc d h=>?_⟩ aN (by simp;exact R) λc d=>Or.inl d) (λL t=>Or.inl t) (by rw[mD C];exact ad _);have:c≠b:=by simpa using h
  exact(z c this).trans (y c this)
 refine⟨by rw[aR V V];congr 1;omega,p,_,_,⟨H,N,q.up⟩,⟨rfl,rfl⟩,⟨V,λc d h=>?_⟩,oh X.2⟩
 simp only[aW,km,Cb,vP]at h
 rw[z c h.1,y c h.1,F c V h.2,k.same c d]
section
variable{K D d b:Nat}{a:List cZ}
structure LW(ds:List bB)(nf sc:Nat)(a:List cZ)(K D sc':Nat):Prop where
 wl:WL ds nf False sc a
 dd:sc'=sc+dc a
 sz:sw a<=K
 oQ:sc'<=sc+D
def LW.aA(b:List bB)(c a:Nat):LW b c a [] 0 0 a:=⟨.nil _ _ _ _,aN,aN,V⟩
def LW.fu{c:List bB}{e f g:Nat}(h:LW c e f a K D g)(j:K<=d)(i:D<=b):LW c e f a d b g:=⟨h.wl,h.dd,oh h.sz,oh h.oQ⟩
def LW.trans{e:List bB}{f i j k:Nat}{g:List cZ}(h:LW e f i a K D j)(c:LW e f j g d b k):LW e f i (a++g) (K+d) (D+b) k:=
 ⟨h.wl.append (h.dd▸c.wl),by rw[c.dd,h.dd,da];omega,by have:=h.sz;have:=c.sz;rw[dH];omega,O6 h.oQ c.oQ⟩
def LW.lY{b:List bB}{c a:Nat}{x:cZ}(h:WS b c False a x):LW b c a [x] x.w 1 (a+1):=⟨.lY h,by rw[k8,tA,Z5 h],by simp[sw],V⟩
section
variable{S:List Nat}{e m f:E}{c g j:Nat}{s i:O}{l h:List cZ}
def Pt.gN(h:Pt S e m c s l g)(d:J e m)(b:Fz [c,s.D] m f):J e f:=by
 have k:=h.gr.bq;have j:=h.up;exact Fz.ext (((d.fz [c,s.D]).trans b).DW λi a=>Or.inr (by simp at a;omega))
def Pt.re{S' Y:List Nat}(h:Pt S e m c s l g)(j:Fz Y m f)(d:∀b∈Y,b∈S/\b≠c/\b≠s.D)(k:∀b∈S',b∈S\/m.size<=b):Pt S' e f c s l g:=
 ⟨h.box.congr (j.same _ h.box.lt λi=>(d _ i).2.1 rfl),h.gr.re gK.mono j (λb a=>ah _ (d b a).1) (λi=>(d _ i).2.2 rfl) λb a=>(List.mem_cons.1 a).elim (λi=>Or.inl (by rw[i];exact aZ)) λa=>(k b a).imp (ah _) id,h.up⟩
end
structure LS(S:List Nat)(m0 m:E)(lb:Nat)(s:O)(l:List cZ)(sc:Nat)(MT:O)(ev:List Int):Prop where
 em:Pt S m0 m lb s l sc
 x:J m0 m
 gN:∀c∈S,c<m.size
 MT:ap (bI [s.D,lb] m) MT ev
 sm:∀y∈ev,0<=y/\y<(sc:Int)
def exV(e:Ex)(t:O):Value:=.agg #[vi e.op,vi e.bS,O.v t]
def U7(b:List bB)(h:Nat)(e:Ex):Prop:=∀(S:List Nat)(c m:E)(d:Nat)(s:O)(l:List cZ)(f:Nat)(MT:O)(ev:List Int)(g p t:O),LS S c m d s l f MT ev->WX b h ev.length e->f+4*e.n<=2000->ev.length+4*e.n<=2000->l.length+4*e.n<=2000->cz c g b->dV b->fI c t e.bF->
 aO cp 248 [vp d 0,.agg #[O.v g,O.v p],exV e t,O.v MT] m λv k=>∃r:Int,v=vi r/\LoP S c m d s (λj i=>∃a,j=l++a/\LW b h f a (3*e.n -1) e.n i/\0<=r/\r<(i:Int)) k
def ZU(a:List bB)(f:Nat)(e:Ex):Prop:=∀(S:List Nat)(m:E)(b:Nat)(MT:O)(ev:List Int)(d p t:O),(∀c∈S,c<m.size)->ap m MT ev->(∀y∈ev,0<=y/\y<(b:Int))->WX a f ev.length e->b+4*e.n<=2000->ev.length+4*e.n<=2000->cz m d a->dV a->fI m t e.bF->
 nK 219 [.agg #[O.v d,O.v p],exV e t,O.v MT,vi b] m S λc=>WB a f False b c/\c.w<=3*e.n
def _root_.Go.Vc.Ex.NW(e:Ex):1<=e.n:=by rw[Ex.YP];omega
def DK{s:List bB}{w:Nat}{e:Ex}(k:U7 s w e):ZU s w e:=by
 intro i v n MT ev C R X t H L N ab Z hd M I;apply zi;simp -zeta only[aD,aC];intro P f b c d;let⟨g,hl,s1,s2,s3⟩:=qF (a:=P) (b:=f) (c:=b) rfl rfl rfl;have p:J b c:=J.push _ _;have W:c.size=b.size+1:=by simp[c]
 have F:GS ((b.size+1)::f.size::i) b c (.mk b.size 0 0 0) []:=Gr.new _ (ad _) _ _ _;have h:J c d:=J.push _ _;have z:cK d c.size lS [.s (.mk b.size 0 0 0),.i n]:=cK.push _ _ _;clear_value d c b;have Y:=g;have q:=(g.trans p).trans h;have z5:=h.size;have G:∀r∈f.size::i,r<d.size:=bR t q.size V;have O:Pt (f.size::i) b d c.size (.mk b.size 0 0 0) [] n:=⟨z,W▸F.ext gK.mono h,V⟩;have hp:=e.NW;refine(k (f.size::i) b d c.size _ [] n MT ev C R X ⟨O,p.trans h,G,(H.le (((g.trans p).trans h).bI (S:=[]) bG|>λk=>(Ap v).trans k)),L⟩ N V V bG (hd.le g.le) M (fI.le g.le I)).mono λae Q⟨x,E,y,m,ac,o6,⟨a,D,o,T,U⟩,j,b6⟩=>?_;subst D;have z6:=j.size;have A:J v Q:=Fz.ext (((q.fz [c.size,b.size]).trans j).DW λB l=>by simp at l;omega);refine⟨j.dz λB l=>by simp at l;simp;omega,x,E,y,o6.box.cq 0,?_⟩;intro m7;have hz:=o.sz;have aa:=gB m;refine⟨y,.mk m x,rfl,eR.le (cD aN λr u=>by simp[u]) (o6.gr.nV gK.mono (λu=>?_) bn (by show m.length<=_;omega)),⟨WB.of o.wl ⟨T,by rw[<-o.dd];exact U⟩,by rw[Bk.qW];omega⟩,A.ai V _ _⟩;have hy:=o6.gr.bq;have K:=o6.ne;simp only[aW]at u;rcases u with e|e|e
 .exact K e
 .omega
 .have:=t _ e;omega
end
section
variable{M c:E}{a:Nat}
def PV{m:E}{t:O}{l:List Ex}(h:fI m t l){k:Nat}{x:Ex}(f:l[k]? =some x)(a:J m M):∃u,fI m u x.bF/\af M t.D (t.off+k*3)=some (vi x.op)/\af M t.D (t.off+k*3+1)=some (vi x.bS)/\af M t.D (t.off+k*3+2)=some (O.v u):=
 let⟨u,b,c,d,e⟩:=h.aF f;⟨u,b,a.af c,a.af d,a.af e⟩
def gx(x:J M c){o:Nat}{v:Value}(h:af M a o=some v):af c a o=af M a o:=by rw[x.af h,h]
def gl(x:J M c)(h:a<M.size)(o:Nat):af c a o=af M a o:=aI (x.same a h) o
def Uo{q:List bB}{nf:Nat}{p bS:Int}{bF:List Ex}(ih:∀t∈bF,U7 q nf t):U7 q nf (.mk p bS bF):=by
 intro u W D d A aa sc MT ev al an bt e hw br bi bp hd ht hk;have N:=hw.aU;simp only[exV,Ex.Wh,Ex.Us,Ex.Sd,Ex.SU]at*;apply uD (d,0);simp -zeta only[aD,aC];intro am s;let⟨G,hl⟩:=dI (a:=am) (c:=s) rfl rfl;have s1:am.size=D.size+1:=by simp[am]
 have s2:s.size=D.size+2:=by simp[s,s1]
 clear_value s;have aS:=hk.len;have bm:=hk.gX;have bo:=e.em.box.lt;have h:=e.em.gr.bq;have bq:=e.em.ne;have dj:∀{M:E}{f:O},Fz [d,A.D] D M->(f.D=A.D\/D.size<=f.D)->Le (bI [A.D,d] D) (bI [f.D,d] M):=λab g=>pR λa aF hn=>by
  simp at hn;exact⟨by simp;rcases g with t|t<;>omega,ab.same a aF bG⟩
 have st:∀{av:List Nat}{M:E}{f:O}{l':List cZ}{F:Nat},Pt av W M d f l' F->Fz [d,A.D] D M->(f.D=A.D\/D.size<=f.D)->(∀l∈av,l<M.size)->sc<=F->LS av W M d f l' F MT ev:=λai ab g hS hs=>⟨ai,e.em.gN e.x ab,hS,e.MT.le (dj ab g),λy h=>⟨(e.sm y h).1,oh ((e.sm y h).2)⟩⟩;have dz:∀{M c:E}{f:O},s.size<=M.size->(f.D=A.D\/s.size<=f.D)->Fz [d,f.D] M c->eF [am.size,D.size] M c:=λhz g ab=>ab.dz λa aF=>by simp at aF;simp;omega
 have ak:∀{M c:E},s.size<=M.size->J M c->eF [am.size,D.size] M c:=λhz bc=>bc.dz λa g=>by simp at g;omega
 have fr:∀{M c:E}{f:O},Fz [d,A.D] D M->(f.D=A.D\/s.size<=f.D)->Fz [d,f.D] M c->Fz [d,A.D] D c:=λab g L=>ab.sG L λy h=>by simp at h⊢;omega
 refine⟨λao=>?_,λao=>⟨λag=>?_,λag=>⟨λar=>?_,λar=>?_⟩⟩⟩
 .simp only[aG]at ao;let⟨j,o⟩:=N.1.UF ao;have k:=e.MT.len;let⟨y,v⟩:=cL ev bS.toNat;have i:=e.sm y (aq v);exact⟨j,V,y,(eS.1 ((e.MT.le (G.dj _)).aF v)).2,y,rfl,A,aa,sc,e.em.ext G,⟨[],aN,(LW.aA q nf sc).fu V V,i⟩,G.fz _,Or.inl rfl⟩
 .simp only[aG]at ag;have h2:=N.1.Kw ag;let⟨T,U⟩:=cL bF 0;let⟨j,i⟩:=cL bF 1;have aO:en bF=T.n+j.n:=by
   obtain⟨w,a,rfl⟩:∃w a,bF=[w,a]:=by
    match bF,h2 with
    |[w,a],_=>exact⟨w,a,rfl⟩
   simp at U i;subst U i;simp[en]
  have p0:=T.NW;have p1:=j.NW;let⟨u0,aI,g0,g1,g2⟩:=PV hk U (e.x.trans G);refine⟨bn,V,_,g0,_,g1,_,g2,?_⟩;have S2:=st (e.em.ext G) (G.fz _) (Or.inl rfl) (λl r=>oh (e.gN l r)) (ad _);refine(ih T (aq U) u W s d A aa sc MT ev al an u0 S2 (by have:=N.2 0 T U;simpa[xb]using this) V V V hd ht aI).mono λR o⟨P,ay,H,l3,Q,o3,⟨af,ax,Z,ba,bb⟩,f3,b3⟩=>⟨dz (ad _) (Or.inl rfl) f3,P,ay,?_⟩;subst ax;have F3:=fr (G.fz _) (Or.inl rfl) f3;have z3:=f3.size;have X3:=e.em.gN e.x F3;let⟨u1,aA,k0,k1,k2⟩:=PV hk i X3;have a0:=Z.oQ;have a7:=gB af;have a_:=Z.sz;refine⟨bn,V,_,k0,_,k1,_,k2,?_⟩;have S3:=st o3 F3 V (λl r=>oh (e.gN l r)) (oh Z.dd);have z:∀l∈[H.D,d],l<o.size:=λl r=>by have:=o3.gr.bq;have:=o3.box.lt;simp at r;omega
  intro C;have k:J o C:=J.push _ _;have aE:ap (bI [H.D,d] C) (.mk o.size 0 1 1) [P]:=ap.lit aB _ z rfl rfl aN;clear_value C;refine⟨gx k k0,gx k k1,gx k k2,gl k V _,gl k V _,gl k V _,?_⟩;have z4:=k.size;refine(eP (S:=[H.D,d]) (λl r=>k.lt (z l r)) (S3.MT.le (k.dj _)) aE bG).mono λR m5⟨I,l5,e5,g5,q5,B⟩=>⟨ak V B,I,e5,gx B (k.af k0),gx B (k.af k1),gx B (k.af k2),gl B V _,gl B V _,gl B V _,?_⟩;subst q5;have z5:=B.size;have S5:LS u W m5 d H (aa++af) Q I (ev++[P]):=⟨(o3.ext k).ext B,(X3.trans k).trans B,λl r=>oh (e.gN l r),GI.done g5 (λl r=>k.lt (z l r)) bG,λy h=>by
   rcases List.mem_append.1 h with h|h
   .have:=e.sm y h;have:=Z.dd;omega
   .simp at h;omega⟩
  refine(ih j (aq i) u W m5 d H (aa++af) Q I (ev++[P]) al an u1 S5 (by have:=N.2 1 j i;simpa[xb,ag]using this) V bG bG hd ht aA).mono λR m6⟨r1,au,s6,l6,aM,o6,⟨aH,ac,w6,aJ,aL⟩,K,b6⟩=>⟨dz V V K,r1,au,r1,rfl,s6,l6,aM,o6,⟨af++aH,by rw[ac,fF],(Z.trans w6).fu V V,aJ,aL⟩,fr ((F3.then k).then B) V K,V⟩
 .simp only[bT,aG]at ar;have h3:p=7->bF.length=3:=N.1.Zr;have aE:p=8->bF.length=1+(cB q bS).length/\0<(cB q bS).length:=N.1.all;have a4:1<=bF.length:=by rcases ar with i|i;have:=h3 i;omega;have:=aE i;omega
  let⟨T,U⟩:=cL bF 0;have bj:en (bF.take 1)=T.n:=by have:=Ky U;simpa using this
  have bk:=RZ bF 1;have p0:=T.NW;let⟨u0,aI,g0,g1,g2⟩:=PV hk U (e.x.trans G);refine⟨bn,V,_,g0,_,g1,_,g2,?_⟩;have S2:=st (e.em.ext G) (G.fz _) (Or.inl rfl) (λl r=>oh (e.gN l r)) (ad _);refine(ih T (aq U) u W s d A aa sc MT ev al an u0 S2 (by have:=N.2 0 T U;simpa[xb]using this) V V V hd ht aI).mono λR o⟨P,ay,H,l3,Q,o3,⟨af,ax,Z,ba,bb⟩,f3,b3⟩=>⟨dz (ad _) (Or.inl rfl) f3,P,ay,?_⟩;subst ax;have F3:=fr (G.fz _) (Or.inl rfl) f3;have z3:=f3.size;have X3:=e.em.gN e.x F3;have a0:=Z.oQ;have a7:=gB af;have a_:=Z.sz;have S3:=st o3 F3 V (λl r=>oh (e.gN l r)) (oh Z.dd);have aA:∀l∈H.D::d::u,l<o.size:=bR (bR (m:=D) e.gN V o3.box.lt) (ad _) o3.gr.bq.2;intro C;have k:J o C:=J.push _ _;have g4:GB (H.D::d::u) o C (.mk o.size 0 0 0) []:=GB.new _ o;have s4:C.size=o.size+1:=by simp[C]
  clear_value C;refine(iH (e:=[o.size]) bG (hd.le (X3.trans k).le) ht bS).mono λR m5⟨cs,cl,ec,r,qc,B⟩=>⟨ak V B,cs,ec,?_⟩;subst qc;have bg:=r.len;have z5:=B.size;refine Q8 (a:=bF.length) (aS▸hk.gX) a4 (λj ks M=>∃z,GB (H.D::d::u) o M ks z/\z.length+1=j/\(∀(ac:Nat)(a:Bk),z[ac]? =some a->WB q nf False (Q+Ch q p bS ac) a)/\bw z+3*T.n<=3*en (bF.take j)/\J o M/\Fz [o.size] m5 M/\(ks.D=o.size\/m5.size<=ks.D)) ⟨[],g4.ext rZ.mono B,rfl,aN,bG,k.trans B,Fz.aA _ _,Or.inl rfl⟩ ?_;rintro j ks M aV μ bl hj ⟨z,L,a6,aT,a1,xM,fM,aQ⟩ aJ
  have zM:=xM.size;have aP:=L.bq;have oM:=o3.box.ext xM;refine dit (λi=>?_) λi=>?_
  .have ew:cG ((j:Int) -1)=((j -1:Nat):Int):=by rw[aR V V];omega
   refine⟨λaU c=>J M c/\aU=(Ch q p bS (j -1):Nat),⟨λh8=>?_,λh8=>⟨J.aA _,by simp only[aj]at h8;rw[KQ h8];rfl⟩⟩,?_⟩
   .simp only[aG]at h8;have ha:=aE h8;let⟨y,v⟩:=cL (cB q bS) (j -1);rw[ew];refine⟨V,V,y,(eS.1 ((r.le (fM.dj aN)).aF v)).2,?_⟩;refine(dN (e:=[]) aN (hd.le ((X3.trans xM).le.trans (Ap _))) ht y).mono λR m6⟨K,l6,e6,h6,q6,I⟩=>⟨ak V I,K,e6,I,?_⟩;subst q6;rw[KP h8 v,h6.len]
   rintro aU m6 ⟨I,rfl⟩;let⟨t,he⟩:=cL bF j;have X6:=(X3.trans xM).trans I;let⟨aM,hu,k0,k1,k2⟩:=PV hk he X6;have B6:=oM.ext I;have z6:=I.size;refine⟨V,V,_,k0,_,k1,_,k2,_,B6.cq 1,_,B6.cq 1,?_⟩;have bd:=QX ht p bS (j -1);have a3:=Ky he;have a2:=RZ bF (j+1);have a8:=t.NW;refine(mw (S:=[]) (d:=m6) aN Q (Ch q p bS (j -1)) V).mono λR m7⟨s7,l7,e7,g7,q7,v⟩=>⟨ak V v,s7,e7,gx v (B6.cq 1),gx v k0,gx v k1,gx v k2,gl v V _,gl v V _,gl v V _,?_⟩;have z7:=v.size;have aZ:ap (bI [] m7) MT ev:=(S3.MT.le ((((xM.trans I).trans v).dj _).trans (bD _ _))).le (Ap _);refine(eP (S:=[]) aN aZ (GI.done g7 aN V) V).mono λR m8⟨s8,l8,e8,g8,q8,K⟩=>⟨ak V K,s8,e8,gx K ((B6.ext v).cq 1),gx K (v.af k0),gx K (v.af k1),gx K (v.af k2),gl K V _,gl K V _,gl K V _,?_⟩;subst q8;have z8:=K.size;have a5:(ev++l7).length=ev.length+Ch q p bS (j -1):=by simp;exact q7.2
   rw[aR (b:=(Q:Int)+(Ch q p bS (j -1):Nat)) V V,show(Q:Int)+(Ch q p bS (j -1):Nat)=((Q+Ch q p bS (j -1):Nat):Int)by omega];have au:=(I.trans v).trans K;have a9:WX q nf (ev++l7).length t:=by
    have:=N.2 j t he;rw[a5];obtain⟨j',rfl⟩:∃j',j=j'+1:=⟨j -1,V⟩;have aY:xb q p bS (j'+1)=Ch q p bS j':=ae (by simpa using ag);rwa[aY]at this
   refine(DK (ih t (aq he)) (ks.D::H.D::d::u) m8 _ s8 (ev++l7) al an aM (bR (λl r=>oh (aA l r)) (ad _) V) ((GI.done g8 aN V).le (bD _ _)) (λy h=>?_) a9 V V (hd.le ((X6.trans v).trans K).le) ht (fI.le ((X6.trans v).trans K).le hu)).mono λR m9⟨s9,b9,e9,h9,q9,x9⟩=>⟨ak V x9,s9,_,e9,?_⟩
   .rcases List.mem_append.1 h with h|h
    .have:=S3.sm y h;omega
    .have:=q7.1 y h;omega
   intro bs;have z9:=x9.size;have bf:=qG z;refine GB.kY (c:=b9) ((L.ext rZ.mono au).ext rZ.mono x9) (((xM.trans au).trans x9).fz []) h9 V λaL c g' f' z' q'=>⟨λa g=>by
    have aO:a<o.size:=by simp at g;omega
    rw[f'.ext.same a aO,(((xM.trans au).trans x9).aL _).same a aO],aJ V _ _ ⟨_,g',by rw[bh,List.length_singleton];omega,λac a hi=>?_,?_,f'.ext,(fM.then (au.trans x9)).sG (Y:=[ks.D]) ⟨z'.1,λa g hn=>q' a g (by simpa using hn)⟩ (λy h=>by simp at h⊢;omega),oh fM.size⟩⟩
   .rcases aX ac z.length with aH|aH
    .rw[az aH]at hi;exact aT ac a hi
    .rw[aK aH]at hi;have:ac -z.length=0:=by have:=aw hi;simp at this;omega
     rw[this]at hi;simp at hi;subst hi;have:ac=j -1:=V;subst this;exact q9.1
   .rw[pp,uO,zT];have:=q9.2;omega
  .have K:j=bF.length:=V;subst K;rw[fB]at a1;intro m6;have I:J M m6:=J.push _ _;have aU:ap (bI (H.D::d::u) m6) (.mk M.size 0 1 1) [P]:=ap.lit aB _ (λl r=>oh (aA l r)) rfl rfl aN;have z6:=I.size;have aQ:nT (bI (H.D::d::u) m6) ks z:=nT.le (I.dj _) (L.done rZ.mono aA bn (oh (qG z)));clear_value m6;have X6:=xM.trans I;refine(Mc (x:=⟨p,bS,0,[P],z⟩) (o3.ext X6) (X3.trans X6).size aU aQ bG V).mono λR m7⟨aO,s7,l7,aY,o7,⟨au,aH⟩,v,b7⟩=>⟨dz V V v,Q,aO,Q,rfl,s7,l7,aY,o7,⟨af++[⟨p,bS,0,[P],z⟩],by rw[au,fF],?_,V,V⟩,fr (F3.then X6) V v,V⟩;have ws:WS q nf False Q ⟨p,bS,0,[P],z⟩:=⟨⟨Or.inl (by show 0<=p/\p<=11;omega),bG,λ_=>rfl,⟨by show(0:Int)<=0;omega,by show(0:Int)<=_;omega⟩,λi=>by show z.length=2;have:=h3 i;omega,λi=>by show z.length=(cB q bS).length/\0<z.length;have:=aE i;omega,λi=>by simp only at i;omega⟩,aT⟩;subst aH;exact(Z.trans (LW.lY ws)).fu (by rw[cZ.mJ];simp only[be,eY];omega) V
 .simp only[bu,aj]at ar;simp only[aj]at ao ag;have ho:=N.1.o;intro o;have x3:J s o:=J.push _ _;have g3:GI [] s o (.mk s.size 0 0 0) []:=GI.nil [] s;have aQ:o.size=s.size+1:=by simp[o]
  clear_value o;have o3:Pt (s.size::u) W o d A aa sc:=(e.em.ext G).re (x3.fz []) aN λa g=>(List.mem_cons.1 g).elim (λi=>Or.inr V) Or.inl;refine eB (n:=bF.length) (aS▸hk.gX) (λj w M=>∃f F r l,Pt (w.D::u) W M d f (aa++r) F/\LW q nf sc r (3*en (bF.take j) -j) (en (bF.take j)) F/\GI [] s M w l/\l.length=j/\(∀y∈l,0<=y/\y<(F:Int))/\Fz [d,A.D] D M/\(f.D=A.D\/s.size<=f.D)/\s.size<=M.size) ⟨A,sc,[],[],by simpa using o3,(LW.aA q nf sc).fu (dQ _) (dQ _),g3,rfl,aN,(G.trans x3).fz _,Or.inl rfl,V⟩ ?_;rintro j w M aV μ hj ⟨f,F,r,l,ai,v,L,a6,T,fM,g,zM⟩ aJ
  have H:=e.em.gN e.x fM;have af:=v.oQ;have aH:=v.dd;have aP:=L.bq;have B:w.D≠d:=L.ne ai.box bn;have LG:w.D≠f.D:=L.LG ai.gr bn;have aO:=gB r;have ax:=v.sz;have a2:=RZ bF j;refine dit (λi=>?_) λi=>?_
  .let⟨t,he⟩:=cL bF j;let⟨aM,hu,k0,k1,k2⟩:=PV hk he H;have a3:=Ky he;have aI:=RZ bF (j+1);have a8:=t.NW;have au:=Q4 (bF.take j);rw[gQ,ju V]at au;refine⟨V,V,_,k0,_,k1,_,k2,?_⟩;have SM:=st ai fM V (bR (m:=D) e.gN V aP.2) V;refine(ih t (aq he) (w.D::u) W M d f (aa++r) F MT ev al an aM SM (by have:=N.2 j t he;rwa[Zu V V]at this) V V bG hd ht hu).mono λR C⟨aL,er,s4,l4,aE,U,⟨aA,ac,Z,P,r1⟩,z,b4⟩=>⟨dz zM g z,aL,er,?_⟩;subst ac;have z4:=z.size;have F4:=fr fM g z;intro m5;have Q:GI [] s C w l:=GI.any (c:=[d,f.D]) ((GI.any (e:=[d,f.D]) L).NV uv.mono z (λ_ i=>i) (by simp;exact⟨B,LG⟩));have ay:w.D≠s4.D:=Q.LG U.gr bn;refine GI.kY Q (X:=List.range s.size) ⟨V,λa g hn=>absurd (List.mem_range.2 g) hn⟩ aN V λa' c g' f' z' q'=>?_;have I:Fz [w.D] C c:=⟨z'.1,λa g hn=>q' a g (by simpa using hn)⟩;refine⟨λa g=>?_,aJ V _ _ ⟨s4,aE,r++aA,l++[aL],?_,(v.trans Z).fu V V,g',bG,λy h=>?_,F4.sG I λy h=>by simp at h⊢;omega,V,V⟩⟩
   .simp at g;rw[q' a V V,(J.push C _).same a V]
   .rw[<-fF];exact U.re I (by simp;exact⟨B,ay⟩) λa g=>(List.mem_cons.1 g).elim (λt=>by subst t;rcases z'.2 with t|t;exact Or.inl (by simp[t]);exact Or.inr t) λi=>Or.inl (ah _ i)
   .have:=Z.dd;rcases List.mem_append.1 h with h|h
    .have:=T y h;omega
    .simp at h;omega
  .have K:j=bF.length:=V;subst K;rw[fB]at v af ax;have au:=Q4 bF;intro C;have k:J M C:=J.push _ _;have Q:w.D∉f.D::d::u:=by
    simp only[aW,vP];exact⟨LG,B,λi=>oh (e.gN _ i)⟩
   have ha:ap (bI (f.D::d::u) M) w l:=(GI.any (e:=f.D::d::u) L).nV uv.mono Q bn V;have U:Pt u W M d f (aa++r) F:=ai.re (Fz.aA [] _) aN λa g=>Or.inl (ah _ g);have z4:=k.size;refine(Mc (x:=⟨p,bS,0,l,[]⟩) (U.ext k) (H.trans k).size (ha.le (k.dj _)) (mR _ _ _ _ _ _) bG V).mono λR m5⟨P,Z,l5,ac,o5,⟨z,I⟩,t,b5⟩=>⟨dz V g t,F,P,F,rfl,Z,l5,ac,o5,⟨r++[⟨p,bS,0,l,[]⟩],by rw[z,fF],?_,V,V⟩,fr (fM.then k) g t,V⟩;have ws:WS q nf False F ⟨p,bS,0,l,[]⟩:=⟨⟨Or.inl (by show 0<=p/\p<=11;omega),T,λi=>by simp only at i;omega,⟨by show(0:Int)<=0;omega,by show(0:Int)<=_;omega⟩,λi=>by simp only at i;omega,λi=>by simp only at i;omega,N.1.call⟩,aN⟩;subst I;exact(v.trans (LW.lY ws)).fu (by rw[cZ.mJ];simp only[zT];omega) V
def Up{a:List bB}{c:Nat}:∀e:Ex,U7 a c e:=Ex.ind λ_ _ _ b=>Uo b
end
def I6{t:List Nat}{w:E}(hS:∀d∈t,d<w.size){U ak:O}{N:List bB}{P:List (dC×Ex)}(hd:cz w U N)(hp:Xc w ak P)(aa:Xe N P):vr 206 [.agg #[O.v U,O.v ak]] w t N λrs=>yH N rs False 95:=by
 apply Bu;simp -zeta only[aD,aC];have ht:=tw aa.gp.ds;intro h a2;let⟨L,hl⟩:=dI (a:=h) (c:=a2) rfl rfl;have s1:h.size=w.size+1:=by simp[h]
 clear_value a2;have aM:=hp.len;have aZ:P.length<=4:=by have:=aa.gp.oQ;simpa using this
 have aY:0<P.length:=by have:=aa.gp.jm;simpa using this
 refine(fX (b:=h.size::t) (bR hS L.size (hl _ aN)) (hd.le L.le) ht).mono λ_ av⟨dd,e,aK,x3⟩=>?_;subst e;refine⟨x3.dz hl,_,rfl,?_⟩;intro k aS aF;have u2:=L.trans x3;let⟨x5,B0,g0,s3,s5⟩:=lC (b:=k.size::h.size::t) jc.mono (d:=av) (a:=k) (c:=aS) (h:=aF) rfl rfl rfl;clear_value aF;have ag:∀d∈[h.size,w.size],d<av.size:=λd g=>x3.lt (hl d g);have aB:∀d∈h.size::t,d<av.size:=λd g=>x3.lt (bR hS L.size (hl _ aN) d g);refine lz (R:=λb c C=>∃U T rs,Value.agg #[O.v b,O.v c]=.agg #[O.v U,O.v T]/\eM (bI t C) U T N rs/\yH N rs False 95/\J w C) (r:=P.length) (f:=w) (b:=t) jc.mono bn bn hS ⟨V,ag _ aN⟩ u2 s3 aK aM V x5 B0 g0 (λ_ q=>q.params.length<=3/\q.cY.length<=3/\WB N P.length False q.params.length q.body/\q.body.w<=95) (λb s l' m' h1 h2 c f j=>⟨b,s,l',rfl,⟨h1,h2,ht,V⟩,⟨V,λq hq=>by obtain⟨p,l⟩:=List.mem_iff_getElem?.1 hq;rw[c];exact f p q l⟩,j⟩) λab C y l' aI μ aL aV xM az al aT=>?_
 let⟨q,hq⟩:=cL P ab aL;let⟨aR,aX⟩:=aa.uQ q (aq hq);have aP:q.1.params.length<=3:=(xf _ (aa.gp.dD q.1 (List.mem_map.2 ⟨q,aq hq,rfl⟩))).1;have X:=u2.trans xM;obtain⟨cs,⟨ao,aH,rfl,ha,hk⟩,hr⟩:=hp.iL ab q hq;have aE:=ha.len;refine⟨V,V,_,X.af (hr 0 _ rfl),_,X.af (hr 1 _ rfl),_,X.af (hr 2 _ rfl),_,X.af (hr 3 _ rfl),_,X.af (hr 4 _ rfl),?_⟩;intro m7 l;have hy:=az.bq;have aU:=al.lt;have zM:=xM.size;obtain⟨x8,-,s8⟩:=kW (M:=C) (d:=m7) (c:=l) rfl rfl rfl;clear_value l;have W:∀d∈[C.size,h.size,w.size],d<l.size:=λd g=>by
  rcases List.mem_cons.1 g with e|e
  .omega
  .have:=ag d e;omega
 have w8:=X.trans x8;have ac:∀{s:E},l.size<=s.size->∀d∈y.D::k.size::h.size::t,d<s.size:=λaA d g=>by
  simp only[aW]at g;rcases g with e|e|e|e
  .omega
  .omega
  .have:=aB d (by simp[e]);omega
  .have:=aB d (by simp[e]);omega
 have hm:=u2.size;have aG:∀{s:E},J l s->∀{an:Value->E->Prop},(∀H F f,ap f H F->F.length=q.1.params.length->(∀b∈F,0<=b/\b<(q.1.params.length:Int))->J s f->an (O.v H) f)->aO cp 163 [vi 0,vi (ao.len:Int)] s an:=λ{s} x an hk'=>by
  rw[aE];exact(mw (S:=[]) (d:=s) aN 0 q.1.params.length V).mono λax f⟨H,F,e,gn,qn,xn⟩=>by
   subst e;exact hk' H F f ((GI.done gn aN V).le (bD _ _)) qn.2 (λb hy=>oh (qn.1 b hy)) xn
 have gN:∀{s:E}{ay:List Nat}{H:O}{F:List Int},(∀d∈ay,d<s.size)->J l s->ap s H F->F.length=q.1.params.length->(∀b∈F,0<=b/\b<(q.1.params.length:Int))->nK 219 [.agg #[O.v U,O.v ak],.agg #[vi q.2.op,vi q.2.bS,O.v aH],O.v H,vi (ao.len:Int)] s ay λI=>WB N P.length False q.1.params.length I/\I.w<=3*q.2.n:=λaJ x Y h1 h2=>by
  rw[aE];exact DK (Up q.2) _ _ q.1.params.length _ _ U ak aH aJ Y h2 (by rw[h1];exact aR) V V (hd.le (w8.trans x).le) ht (fI.le (w8.trans x).le hk)
 have G:∀{v f:E}{I Z:Nat},l.size<=v.size->J v f->I<l.size->af f I Z=af v I Z:=λaA x hb=>gl x V _;have j:C.size<l.size:=V;have K:w.size<l.size:=W _ aN;refine⟨λI s=>∃p D,I.2=0/\l.size<=I.1/\cK s I.1 dp [.s p,.i D.aT]/\eR (bI (y.D::k.size::h.size::t) s) p D.aE/\(WB N P.length False q.1.params.length D/\D.w<=3*q.2.n)/\J l s,⟨?_,?_⟩,?_⟩
 .refine aG (J.aA l) λH F B Y ae aj b=>⟨b.dz W,H,rfl,G (ad _) b j,G (ad _) b j,G (ad _) b j,G (ad _) b K,G (ad _) b K,?_,?_⟩;all_goals have u:=b.size
  .refine(gN (ay:=y.D::k.size::h.size::t) (ac u) b Y ae aj).mono λax A⟨p,D,e,aw,aQ,c⟩=>⟨c.dz λd g=>b.lt (W d g),p,_,e,?_⟩;have vQ:=c.size;intro Q;have z:J A Q:=J.push _ _;refine⟨G V z j,G V z j,G V z j,G V z K,G V z K,?_⟩;intro au;let⟨am,ar,a0⟩:=kW (M:=A) (d:=Q) (c:=au) rfl rfl rfl;exact⟨p,D,rfl,by show l.size<=A.size;omega,ar,eR.le (am.dj _) aw,aQ,(b.trans c).trans am⟩
  .intro A;have c:J B A:=J.push _ _;have am:cK A B.size dp [.s .nil,.i 0]:=cK.push _ _ _;have vQ:=c.size;clear_value A;refine⟨G u c j,G u c j,G u c j,G u c K,G u c K,?_⟩;refine(gN (ay:=B.size::y.D::k.size::h.size::t) (bR (ac u) vQ am.lt) (b.trans c) (Y.ext c) ae aj).mono λax Q⟨p,D,e,ar,aw,z⟩=>⟨z.dz λd g=>?_,p,_,e,?_⟩
   .rcases List.mem_cons.1 g with e|e
    .rw[e];exact am.lt
    .have:=W d e;omega
   intro au;exact⟨p,D,rfl,u,cK.ai (m:=Q) (o:=0) (r:=[.s p,.i D.aT]) (am.ext z),eR.le (cD aN λd g=>ah _ g) ar,aw,((b.trans c).trans z).ai u _ _⟩
 .intro B;have b:J l B:=J.push _ _;have B9:cK B l.size dp [.s .nil,.i 0]:=cK.push _ _ _;have u:=b.size;clear_value B;refine⟨G (ad _) b j,G (ad _) b j,G (ad _) b j,G (ad _) b K,G (ad _) b K,?_⟩;have sm:∀{v f:E},B.size<=v.size->J v f->eF [l.size,C.size,h.size,w.size] v f:=λaA x=>x.dz λd g=>by
   rcases List.mem_cons.1 g with e|e
   .have:=B9.lt;omega
   .have:=W d e;omega
  refine aG b λH F A Y ae aj c=>⟨sm (ad _) c,H,rfl,G u c j,G u c j,G u c j,G u c K,G u c K,?_⟩;have vQ:=c.size;refine(gN (ay:=l.size::y.D::k.size::h.size::t) (bR (ac (s:=A) V) (ad _) (oh B9.lt)) (b.trans c) Y ae aj).mono λax Q⟨p,D,e,ar,aw,z⟩=>⟨sm vQ z,p,_,e,?_⟩;intro au;exact⟨p,D,rfl,ad _,cK.ai (m:=Q) (o:=0) (r:=[.s p,.i D.aT]) ((B9.ext c).ext z),eR.le (cD aN λd g=>ah _ g) ar,aw,((b.trans c).trans z).ai (ad _) _ _⟩
 rintro⟨kb,Z⟩ v ⟨p,D,ho,aw,BB,aQ,ar,x1⟩;simp only at ho aw BB;subst ho;have bl:=BB.lt;have z1:=x1.size;have X1:=x8.trans x1;refine⟨y,(al.ext X1).cq 1,_,BB.cq 0,_,BB.cq 1,?_⟩;have ae:k.size<l.size:=V;have iS:∀{f:E}{Q b':O},J v f->ap (bI (y.D::k.size::h.size::t) f) Q q.1.params->ap (bI (y.D::k.size::h.size::t) f) b' []->af (f.push (.cells (bz [.s Q,.s b',.i q.1.aT,.s p,.i D.aT]) jX)) k.size 1=af f k.size 1/\
  jT (f.push (.cells (bz [.s Q,.s b',.i q.1.aT,.s p,.i D.aT]) jX)) jX [.s .nil,.s .nil,.i 0,.s .nil,.i 0] 88 y (O.mk f.size 0 1 1) λT z=>eF [C.size,h.size,w.size] (f.push (.cells (bz [.s Q,.s b',.i q.1.aT,.s p,.i D.aT]) jX)) z/\fO z k.size 1 1/\(eF [C.size,h.size,w.size] z (ai z k.size 1 [.s T])/\(aI (cG ((ab:Int)+1)) (ai z k.size 1 [.s T])/\μ (cG ((ab:Int)+1)) (ai z k.size 1 [.s T])<μ ab C)):=λL h1 h2=>
  Gr.box (g:=[.s .nil,.s .nil,.i 0,.s .nil,.i 0]) (j:=1) (y:=88) (i:=[.s dd,.s y]) (w:=⟨q.1.params,[],q.1.aT,D⟩) jc.mono bn ((az.ext jc.mono X1).ext jc.mono L) (((xM.trans X1).trans L).fz []) ⟨_,_,p,rfl,h1,h2,eR.le (L.dj _) aQ⟩ V ((al.ext X1).ext L) aN bn ⟨V,aN⟩ (λd g=>⟨by have:=W d g;have:=L.size;omega,by
   rcases List.mem_cons.1 g with e|e
   .omega
   .have:=ag d e;omega,by
   rcases List.mem_cons.1 g with e|e
   .omega
   .have:=ag d e;omega⟩) λT m' g' B' f' z' q'=>aT T m' ⟨q.1.params,[],q.1.aT,D⟩ g' B' f'.ext ⟨aP,aN,ar.1,by have:=ar.2;show D.w<=95;omega⟩
 have am:∀{f:E},J v f->ap f ao q.1.params:=λx=>ha.ext ((X.trans X1).trans x);have aj:∀{f:E},J v f->∀d∈y.D::k.size::h.size::t,d<f.size:=λx=>ac (oh x.size);have g1:∀{f z:E}{Z:Nat},J v f->J f z->af z kb Z=af f kb Z:=λx x'=>gl x' (oh x.size) _;have au:∀{f z:E},J v f->J f z->eF [C.size,h.size,w.size] f z:=λx x'=>x'.dz λd g=>by have:=W d g;have:=x.size;omega
 refine⟨?_,?_⟩
 .refine(bQ (y.D::k.size::h.size::t) (am (J.aA _)) V).mono λ_ B⟨Q,la,e,ga,ea,b⟩=>⟨au (J.aA _) b,Q,e,g1 (J.aA _) b,g1 (J.aA _) b,G z1 b j,G z1 b ae,?_⟩;subst ea;have u:=b.size;intro A;have c:J B A:=J.push _ _;refine⟨g1 b c,g1 b c,G V c j,G V c j,G V c ae,?_⟩;exact iS (b.trans c) ((GI.done ga (aj (J.aA _)) V).le (c.dj _)) (mR _ _ _ _ _ _)
 .intro B;have b:J v B:=J.push _ _;have u:=b.size;refine⟨g1 (J.aA _) b,g1 (J.aA _) b,G z1 b j,G z1 b j,G z1 b ae,?_⟩;refine(bQ (y.D::k.size::h.size::t) (am b) V).mono λ_ A⟨Q,la,e,ga,ea,c⟩=>⟨au b c,Q,e,g1 b c,g1 b c,G V c j,G V c ae,?_⟩;subst ea;exact iS (b.trans c) (GI.done ga (aj b) V) (mR _ _ _ _ _ _)
section
variable{L:List Nat}{K:Int->E->Prop}{v:Int}
def D0(P:Nat->Prop)(l b:List Instr)(n:Nat):Prop:=∃a,b=l++a/\(∀(i:Nat)(x:Instr),a[i]? =some x->PB (l.length+i) x\/P (l.length+i)/\x.op=22)/\QQ a/\a.length<=n
section
variable{P c:Nat->Prop}{l a e:List Instr}{n b k:Nat}{x:Instr}
def nj.w(h:nj l a n):D0 P l a n:=let⟨g,b,c,d,e⟩:=h;⟨g,b,λi x f=>Or.inl (c i x f),d,e⟩
def D0.YE(h:D0 P l a n)(f:∀q,¬P q)(m:n<=b):nj l a b:=let⟨j,c,d,e,k⟩:=h;⟨j,c,λi x g=>(d i x g).resolve_right λh=>f _ h.1,e,V⟩
def D0.imp(h:D0 P l a n)(g:∀q,P q->c q)(o:n<=b):D0 c l a b:=let⟨k,d,e,f,m⟩:=h;⟨k,d,λj x i=>(e j x i).imp id λh=>⟨g _ h.1,h.2⟩,f,V⟩
def D0.len(h:D0 P l a n):l.length<=a.length/\a.length<=l.length+n:=by obtain⟨b,rfl,-,-,d⟩:=h;simp;omega
def D0.then(o:D0 P l a n)(p:nj a e b):D0 P l e (n+b):=by
 obtain⟨d,rfl,g,j,s⟩:=o;obtain⟨r,rfl,h,k,t⟩:=p;refine⟨d++r,aN,λi x c=>?_,λx q=>(List.mem_append.1 q).elim (j x) (k x),bG⟩;rcases aX i d.length with f|f
 .rw[az f]at c;exact g i x c
 .rw[aK f]at c;have:=h _ x c;have m:(l++d).length+(i -d.length)=l.length+i:=bG;rw[m]at this;exact Or.inl this
def D0.Nf(h:D0 P l a n)(j:P a.length):D0 P l (a++[⟨22,0,0,0,[],[]⟩]) (n+1):=by
 obtain⟨c,rfl,e,f,m⟩:=h;refine⟨c++[⟨22,0,0,0,[],[]⟩],aN,λi x b=>?_,λx k=>?_,bG⟩
 .rcases aX i c.length with d|d
  .rw[az d]at b;exact e i x b
  .rw[aK d]at b;have:i -c.length=0:=by have:=aw b;simp at this;omega
   rw[this]at b;simp at b;subst b;have g:i=c.length:=V;subst g;exact Or.inr ⟨by simpa using j,rfl⟩
 .rcases List.mem_append.1 k with h|h
  .exact f x h
  .simp at h;subst h;simp
def D0.set(h:D0 P l a n)(g:l.length<=k)(m:PB k x)(j:x.args.length<=10^12/\x.eN.length<=10^12):D0 (λq=>P q/\q≠k) l (a.set k x) n:=by
 obtain⟨p,rfl,c,e,d⟩:=h;refine⟨p.set (k -l.length) x,by rw[XZ _ _ g],λi y b=>?_,λy o=>?_,bG⟩
 .rw[jM]at b;split at b
  .rename_i q;have f:l.length+i=k:=V;split at b
   .simp at b;subst b;rw[f];exact Or.inl m
   .simp at b
  .exact(c i y b).imp id λh=>⟨⟨h.1,V⟩,h.2⟩
 .rcases cF o with h|h
  .exact e y h
  .rw[h];exact j
def D0.Z0(h:D0 P l a n)(d:l.length<=k)(c:a[k]? =some x):D0 (λq=>P q/\q≠k) l (a.set k ⟨x.op,0,a.length,0,x.args,x.eN⟩) n:=by
 have m:=aw c;have g:=h;obtain⟨i,rfl,e,f,j⟩:=h;rw[aK d]at c;have b:=e _ x c;rw[show l.length+(k -l.length)=k by omega]at b;refine g.set d ⟨λ_=>by show(k:Int)<((l++i).length:Nat);omega,λh=>?_⟩ (f x (aq c));simp only at h;rcases b with b|b
 .exact b.arg h
 .omega
end
section
variable{S:List Nat}{e m a:E}{b:Nat}{s c:O}{l d:List Instr}
def FD.re{S' Y:List Nat}(h:FD S e m b s l)(i:Fz Y m a)(f:∀c∈Y,c∈S/\c≠b/\c≠s.D)(j:∀c∈S',c∈S\/m.size<=c):FD S' e a b s l:=
 ⟨h.box.congr (i.same _ h.box.lt λg=>(f _ g).2.1 rfl),h.gr.re dU.mono i (λc d=>ah _ (f c d).1) (λg=>(f _ g).2.2 rfl) λc d=>(List.mem_cons.1 d).elim (λg=>Or.inl (by rw[g];exact aZ)) λd=>(j c d).imp (ah _) id,h.up⟩
def Ir(k:FD S e m b s l)(z:J e m)(w:∀h∈S,h<m.size)(n:l.length<=10^12)(u:∀f∈L,f<m.size/\f≠b/\f≠s.D){o i bS:Int}(y:∀c d a,FD S e a b c d->d=l++[⟨o,i,bS,0,[v],[]⟩]->Fz [b,s.D] m a->(c.D=s.D\/m.size<=c.D)->K (l.length:Nat) a):
 aO cp 165 [vp b 0,.agg #[vi o,vi i,vi bS,vi 0,O.v (.mk m.size 0 1 1),O.v .nil]] (m.push (.cells (bz [.i v]) aB)) λr a=>eF L (m.push (.cells (bz [.i v]) aB)) a/\∃q:Int,r=vi q/\K q a:=by
 have g:=J.push m (.cells (bz [.i v]) aB)
 have D:=k.gr.bq;have C:=k.box.lt
 have A:ap (bI (s.D::b::S) (m.push (.cells (bz [.i v]) aB))) (.mk m.size 0 1 1) [v]:=ap.lit aB _ (by
  intro h p;simp only[aW]at p;rcases p with j|j|j
  .omega
  .omega
  .exact w h j) rfl rfl aN
 refine(qT (x:=⟨o,i,bS,0,[v],[]⟩) (k.ext g) (z.trans g).size A (tI _) n).mono λr a⟨p,c,d,t,j,h,B⟩=>⟨Pz.dz h λf n=>?_,_,p,?_⟩
 .have:=u f n;exact⟨g.lt this.1,this.2⟩
 exact y c d a t j.symm (((g.fz [b,s.D])).trans h) (oh g.size)
def Ul(j:FD S e m b s l)(t:J e m)(p:l.length<=10^12)(o:∀f∈L,f<m.size/\f≠b/\f≠s.D)(q:∀c d a,FD S e a b c d->d=l++[⟨22,0,0,0,[],[]⟩]->Fz [b,s.D] m a->(c.D=s.D\/m.size<=c.D)->K (l.length:Nat) a):
 aO cp 165 [vp b 0,.agg #[vi 22,vi 0,vi 0,vi 0,O.v .nil,O.v .nil]] m λr a=>eF L m a/\∃n:Int,r=vi n/\K n a:=
 (qT (x:=⟨22,0,0,0,[],[]⟩) j t.size (tI _) (tI _) p).mono λr a⟨i,c,d,k,h,f,g⟩=>⟨Pz.dz f o,_,i,q c d a k h.symm f g⟩
def TG{K:E->Prop}{k:Nat}{x:Instr}(i:FD S e m b s l)(q:J e m)(p:l[k]? =some x)(n:∀f∈L,f<m.size/\f≠b/\f≠s.D)(o:∀c d a,FD S e a b c d->d=l.set k ⟨x.op,0,l.length,0,x.args,x.eN⟩->Fz [b,s.D] m a->(c.D=s.D\/m.size<=c.D)->K a):
 aO cp 204 [vp b 0,vi k] m λ_ a=>eF L m a/\K a:=
 (Rz i q.size p).mono λr a⟨c,d,j,h,f,g⟩=>⟨Pz.dz f n,o c d a j h.symm f g⟩
end
def Rm{l:List Instr}{d:Int}:nj l (l++[⟨18,d,0,0,[v],[]⟩]) 1:=nj.lY ⟨sx,λ_=>aN⟩ aN
end
section
variable{b:List gU}
def Me{D:List bB}{h:cZ}(co:h.op=7\/h.op=8)(ih:∀c∈h.bF,Xb D b c):Yf D b h:=by
 intro B G F d s z cons first cl fl a4 ba aH ai i au cv cG r ha hk
 apply uC (d,0);simp -zeta only[aD,aC];intro aw ac;let⟨x2,hl⟩:=dI (a:=aw) (c:=ac) rfl rfl;have s1:aw.size=F.size+1:=by simp[aw]
 have s2:ac.size=F.size+2:=by simp[ac,s1]
 clear_value ac;have cy:=i.em.box.lt;have cT:=i.em.gr.bq;have cS:=cZ.mJ h;have cp:=ha.len;have cE:=hk.len;have cD:=qG h.bF;have cM:=au.fj.lY V;have cw:=i.cons.len;have cI:=i.x.size;have dj:∀{f:E}{g:O},Fz [d,s.D] F f->(g.D=s.D\/F.size<=g.D)->Le (bI [s.D,d] F) (bI [g.D,d] f):=Q3;have st:∀{a0:List Nat}{f:E}{g:O}{L:List Instr},FD a0 G f d g L->Fz [d,s.D] F f->(g.D=s.D\/F.size<=g.D)->(∀m∈a0,m<f.size)->Sx a0 G f d g L cons first cl fl:=λv I e hS=>⟨v,i.em.gN i.x I,hS,i.cons.le (dj I e),i.first.le (dj I e),i.same,i.jw⟩
 have LL:∀{f:E}{g:O},ac.size<=f.size->(g.D=s.D\/ac.size<=g.D)->∀c∈[aw.size,F.size],c<f.size/\c≠d/\c≠g.D:=λhz e c a6=>by simp at a6;omega
 have fr:∀{f p:E}{g:O},Fz [d,s.D] F f->(g.D=s.D\/ac.size<=g.D)->Fz [d,g.D] f p->Fz [d,s.D] F p:=λI e aa=>I.sG aa λA o=>by simp at o⊢;omega
 have gN:∀{f:E},F.size<=f.size->∀m∈B,m<f.size:=λj m hc=>by have:=i.gN m hc;omega
 have aF:∀{w:Nat}{c:Bk}{f:E},h.bF[w]? =some c->J G f->∃K,eR G K c.aE/\af f ai.D (ai.off+w*2)=some (O.v K)/\af f ai.D (ai.off+w*2+1)=some (vi c.aT):=λe be=>let⟨K,h1,h2,h3⟩:=hk.aF e;⟨K,h1,be.af h2,be.af h3⟩;refine⟨λh7=>?_,λh7=>?_⟩
 .simp only[aG]at h7;have aO:=au.fj.Kw h7;let⟨C,P⟩:=cL h.bF 0;let⟨b1,R⟩:=cL h.bF 1;have bT:bw h.bF=C.w+b1.w:=by
   obtain⟨u,y,l⟩:∃u y,h.bF=[u,y]:=by
    match h.bF,aO with
    |[u,y],_=>exact⟨u,y,rfl⟩
   rw[l]at P R⊢;simp at P R;subst P R;simp[bw]
  have w0:=C.HD;have w1:=b1.HD;have ab:∀w,Ch D h.op h.bS w=0:=λw=>KQ V;have E2:=i.ext x2;refine(bQ (s.D::d::B) (ha.ext E2.x) V).mono λy N⟨a',la,l,ga,ea,x3⟩=>⟨x3.dz hl,a',l,?_⟩;subst ea;have z3:=x3.size;have aP:∀m∈s.D::d::B,m<ac.size:=bR (bR (gN (f:=ac) V) V V) (ad _) V;refine(qT (x:=⟨20,0,0,0,h.args,[]⟩) (E2.em.ext x3) (E2.x.trans x3).size (GI.done ga aP (by show h.args.length<=_;omega)) (tI _) V).mono λy m4⟨ev,s4,l4,ao,p4,f4,b4⟩=>⟨Pz.dz f4 (LL z3 (Or.inl rfl)),_,ev,?_⟩;subst p4;have z4:=f4.size;have F4:Fz [d,s.D] F m4:=((x2.trans x3).fz _).trans f4;have w4:D0 (λ_=>False) z (z++[⟨20,0,0,0,h.args,[]⟩]) 1:=(nj.lY ⟨sx,sx⟩ ⟨by show h.args.length<=_;omega,aN⟩).w;let⟨t0,aQ,g0,g1⟩:=aF P (i.em.gN i.x F4);refine⟨bn,V,_,g0,_,g1,?_⟩;have ae:=au.bF 0 C P;rw[ab]at ae;have aU:=w4.len;refine(ih C (aq P) B G m4 d s4 _ cons first cl fl a4 ba t0 (st ao F4 V (gN V)) (by simpa using ae) V V r aQ).mono λy t⟨s5,l5,a5,p5,f5,b5⟩=>⟨Pz.dz f5 (LL V V),?_⟩;have F5:=fr F4 V f5;have z5:=f5.size;have w5:=w4.then p5;have X5:=i.em.gN i.x F5;obtain⟨_,-,-,g5⟩:=aF P X5;refine⟨bn,V,_,g5,?_⟩;have aV:=w5.len;refine Ir a5 X5 (gN V) V (LL V V) λs6 Q Z av e6 f6 b6=>?_;have F6:=fr F5 V f6;have z6:=f6.size;have w6:D0 (λ_=>False) z Q (1+6*(C.w -1)+1):=e6▸w5.then Rm;have aX:=w6.len;have a7:Q.length=l5.length+1:=by rw[e6];simp
  have X6:=i.em.gN i.x F6;refine Ul av X6 V (LL V V) λs7 l7 m7 ay e7 f7 b7=>?_;have F7:=fr F6 V f7;have z7:=f7.size;have w7:D0 (λq=>q=Q.length) z l7 (1+6*(C.w -1)+1+1):=e7▸(w6.imp (λ_ j=>j.elim) (ad _)).Nf rfl;have a8:l7.length=Q.length+1:=by rw[e7];simp
  let⟨H,al⟩:=cL l7 z.length;refine TG ay (i.em.gN i.x F7) al (LL V V) λs8 l8 U aE e8 f8 b8=>?_;have w8:D0 (λq=>q=Q.length) z l8 (1+6*(C.w -1)+1+1):=e8▸(w7.Z0 (ad _) al).imp (λ_ j=>j.1) (ad _);have a9:l8.length=l7.length:=by rw[e8];simp
  have T:=fr F7 V f8;have z8:=f8.size;let⟨t1,aT,k0,k1⟩:=aF R (i.em.gN i.x T);refine⟨bn,V,_,k0,_,k1,?_⟩;have ag:=au.bF 1 b1 R;rw[ab]at ag;have aZ:=w8.len;refine(ih b1 (aq R) B G U d s8 l8 cons first cl fl a4 ba t1 (st aE T V (gN V)) (by simpa using ag) V V r aT).mono λy m9⟨s9,l9,aK,p9,W,b9⟩=>⟨Pz.dz W (LL V V),?_⟩;have F9:=fr T V W;have z9:=W.size;have w9:=w8.then p9;have X9:=i.em.gN i.x F9;obtain⟨_,-,-,g9⟩:=aF R X9;refine⟨bn,V,_,g9,?_⟩;have bY:=w9.len;have a_:l8.length<=l9.length:=by obtain⟨nw,l,-⟩:=p9;rw[l];simp
  refine Ir aK X9 (gN V) V (LL V V) λbr Y bb am aI aA bA=>?_;have aM:D0 (λq=>q=Q.length) z Y (1+6*(C.w -1)+1+1+6*(b1.w -1)+1):=aI▸w9.then Rm;have az:=fr F9 V aA;have vQ:=aA.size;have b0:Y.length=l9.length+1:=by rw[aI];simp
  let⟨bd,ak⟩:=cL Y Q.length;refine TG am (i.em.gN i.x az) ak (LL V V) λaY aL bc an aS aJ bC=>?_;exact⟨aY,aL,an,aS▸(aM.Z0 V ak).YE (λq j=>j.2 j.1) V,fr az V aJ,V⟩
 .simp only[aj]at h7;have h8:h.op=8:=V;let⟨cC,cA⟩:=au.fj.all h8;let⟨A,bm⟩:=cL h.args 0;let⟨y0,y1⟩:=au.fj.args A (aq bm);obtain⟨yn,rfl⟩:∃b8:Nat,A=b8:=⟨A.toNat,V⟩;have E2:=i.ext x2;refine⟨bn,V,yn,(ha.ext E2.x).aF bm,?_⟩;have b7:∀m∈[s.D,d],m<ac.size:=λm hc=>by simp at hc;omega
  refine(iH (e:=[s.D,d]) b7 (r.br.le E2.x.le) r.types h.bS).mono λy N⟨aQ,ch,ec,hc,qc,x3⟩=>⟨x3.dz hl,aQ,ec,?_⟩;subst qc;have cx:=hc.len;have z3:=x3.size;intro m4;refine Ir (E2.em.ext x3) (E2.x.trans x3) (gN V) V (LL z3 (Or.inl rfl)) λs5 l5 t a5 e5 f5 b5=>?_;have z5:=f5.size;have w5:D0 (λ_=>False) z l5 1:=e5▸(nj.lY ⟨sx,sx⟩ ⟨aN,aN⟩).w;have cY:l5.length=z.length+1:=by rw[e5];simp
  intro Z m7;have x6:J t Z:=J.push _ _;have x7:J Z m7:=J.push _ _;have s6:Z.size=t.size+1:=by simp[Z]
  have s7:m7.size=Z.size+1:=by simp[m7]
  have bN:GI [] t m7 (.mk t.size 0 0 0) []:=(GI.nil [] t).ext x7;have bL:GI [] t m7 (.mk Z.size 0 0 0) []:=GI.cA (GI.nil [] Z) (λ_ j=>j) x6.size;clear_value m7 Z;have bf:=x6.trans x7;have aE:∀{f p:E}{g:O},Fz [d,s.D] N f->(g.D=s.D\/N.size<=g.D)->Fz [d,g.D] f p->Fz [d,s.D] N p:=λI e aa=>I.sG aa λA o=>by simp at o⊢;omega
  have F0:Fz [d,s.D] F N:=(x2.trans x3).fz _;have bg:∀{f:E}{g:O}{w:Nat}{m:Int},Fz [d,s.D] N f->(g.D=s.D\/N.size<=g.D)->(cB D h.bS)[w]? =some m->af f aQ.D (aQ.off+w*1)=some (vi m):=λ{f g w m} I e j=>(eS.1 ((hc.le (pR (c:=[g.D,d]) (a:=f) λc a6 r=>by
   simp at r;exact⟨by simp;rcases e with l|l<;>omega,I.same c a6 bG⟩)).aF j)).2
  have bt:∀{f:E},t.size<=f.size->Fz (List.range t.size) t f:=λj=>⟨j,λc e r=>absurd (List.mem_range.2 e) r⟩;have ak:∀{f p:E}{u:O}{ul:List Int}{aP:List Nat},GI [] t f u ul->Fz aP f p->u.D∉aP->GI [] t p u ul:=λ{f p u ul aP} aa I j=>GI.any ((GI.any (e:=aP) aa).NV uv.mono I (λ_ j=>j) j);have o7:FD (t.size::Z.size::B) G m7 d s5 l5:=a5.re (bf.fz []) aN λc e=>by
   simp only[aW]at e;rcases e with l|l|l
   .exact Or.inr V
   .exact Or.inr V
   .exact Or.inl l
  refine xt (n:=(cB D h.bS).length) V (λai K en f=>∃g L tl C,FD (K.D::en.D::B) G f d g L/\D0 (λq=>(q:Int)∈C) z L (1+6*bw (h.bF.take ai))/\GI [] t f K tl/\tl.length=ai/\GI [] t f en C/\C.length<=ai/\(∀A∈C,∃q:Nat,A=q/\z.length<q/\q<L.length)/\K.D≠en.D/\Fz [d,s.D] N f/\(g.D=s.D\/N.size<=g.D)/\m7.size<=f.size/\z.length<L.length)
   ⟨s5,l5,[],[],o7,w5.imp (λ_ j=>j.elim) aN,bN,rfl,bL,ad _,aN,by show t.size≠Z.size;omega,f5.then bf,V,ad _,V⟩ ?_
  rintro T K en f ce μ hj ⟨g,L,tl,C,v,bc,gt,cO,ge,cz,a8,cK,I,e,zM,cH⟩ bo
  have bv:=F0.trans I;have XM:=i.em.gN i.x bv;have ty:=gt.bq;have ey:=ge.bq;have t1:K.D≠d:=gt.ne v.box bn;have t2:K.D≠g.D:=gt.LG v.gr bn;have n1:en.D≠d:=ge.ne v.box bn;have n2:en.D≠g.D:=ge.LG v.gr bn;have cN:=v.gr.len bn;have cR:=bc.len;have bT:=KV h.bF T;have oy:=v.gr.bq;have c2:=v.box.lt;refine dit (λj=>?_) λj=>?_
  .let⟨m,a7⟩:=cL (cB D h.bS) T;let⟨c,aK⟩:=cL h.bF T;have ct:=uP aK;have cu:=KV h.bF (T+1);have cr:=c.HD;have bk:Ch D h.op h.bS T=(cJ D m).length:=KP h8 a7;have cq:=QX r.types h.op h.bS T;refine⟨g,v.box.cq 0,?_⟩;intro U;refine GI.kY gt (bt V) aN V λt' M1 aT cj z1 q1=>?_;have fa:Fz [K.D] f M1:=⟨z1.1,λc e r=>q1 c e (by simpa using r)⟩;refine⟨λc e=>by
    simp at e;rw[q1 c V V,(J.push f _).same c V],?_⟩
   have f1:Fz [d,s.D] N M1:=I.sG fa λA o=>by simp at o⊢;omega
   have bK:=ak ge fa bG;have o1:FD (t'.D::en.D::B) G M1 d g L:=v.re fa (by simp;exact⟨t1,t2⟩) λc e=>by
    rcases List.mem_cons.1 e with l|l
    .rcases z1.2 with e'|e'
     .exact Or.inl (by rw[l,e'];simp)
     .exact Or.inr V
    .exact Or.inl (ah _ l)
   have cc:=aT.bq;refine⟨V,V,m,bg f1 e a7,?_⟩;have X1:=i.em.gN i.x (F0.trans f1);refine(dN (e:=[]) aN (r.br.le (X1.le.trans (Ap _))) r.types m).mono λy M2⟨ff,cn,ef,hf,qf,aO⟩=>⟨aO.dz λc e=>by simp at e;omega,ff,ef,?_⟩;subst qf;have bU:=hf.len;have z2:=aO.size;have f2:=f1.then aO;refine dW (n:=(cJ D m).length) V (λw p=>∃ay av,FD (t'.D::en.D::B) G p d ay av/\D0 (λq=>(q:Int)∈C) z av (1+6*bw (h.bF.take T)+w)/\Fz [d,g.D] M2 p/\(ay.D=g.D\/M2.size<=ay.D)/\L.length<=av.length) ⟨g,L,o1.ext aO,bc,Fz.aA _ _,Or.inl rfl,ad _⟩ ?_;rintro w M3 I3 μ3 hi ⟨ae,l3,o3,w3,f3,b3,cV⟩ b_;have c5:=f3.size;have F3:=aE f2 e f3;have aU:ae.D=s.D\/N.size<=ae.D:=V;have cQ:=w3.len;have X3:=i.em.gN i.x (F0.trans F3);have LM:∀{p:E}{u:O},M3.size<=p.size->(u.D=s.D\/N.size<=u.D)->∀c∈[aw.size,F.size],c<p.size/\c≠d/\c≠u.D:=λhz e=>LL V V;have aV:∀{p:E},M3.size<=p.size->∀m∈t'.D::en.D::B,m<p.size:=λj=>bR (bR (gN (f:=M3) V) (ad _) V) j V;refine⟨λa9=>?_,λa9=>?_⟩
   .simp only[ar]at a9;intro m9;refine Ir o3 X3 (aV (ad _)) V (LM (ad _) aU) λs4 l4 M4 o4 e4 f4 b4=>b_ V _ ⟨s4,l4,o4,?_,f3.sG f4 λA o=>by simp at o⊢;omega,V,by rw[e4];simp;omega⟩;rw[e4];exact w3.then (nj.lY ⟨sx,sx⟩ ⟨aN,aN⟩)
   simp only[bO]at a9;have a_:w=(cJ D m).length:=V;subst a_;have y3:=o3.gr.bq;have cf:=o3.box.lt;have ab:∀{p:E},M3.size<=p.size->∀m∈[ae.D,d],m<p.size:=λj m hc=>by simp at hc;omega
   rw[bU];refine(mw (S:=[ae.D,d]) (ab (ad _)) 0 (cJ D m).length V).mono λy M4⟨s4,l4,e4,g4,q4,x4⟩=>⟨x4.dz λc e=>by simp at e;omega,s4,e4,?_⟩;have z4:=x4.size;have h4:=GI.done g4 (ab (ad _)) V;let⟨tk,bX,k0,k1⟩:=aF aK (X3.trans x4);have F4:=F3.then x4;have R:∀{u y:E},J M4 u->J u y->∀v,af y aw.size v=af u aw.size v/\af y F.size v=af u F.size v:=λaH c v=>⟨gl c (oh aH.size) v,gl c (oh aH.size) v⟩;refine⟨V,V,tk,k0,_,k1,V,V,m,bg F4 aU a7,?_⟩;have S4:=st o3 (F0.trans F3) V (aV (ad _));have cg:=S4.cons.len;have cm:=S4.first.len;have c3:=S4.same;refine(vj (S:=[ae.D,d]) (ab z4) (S4.cons.le (x4.dj _)) V (a:=yn) V m).mono λy M5⟨s5,cX,e5,g5,q5,P⟩=>⟨P.dz λc e=>by simp at e;omega,s5,e5,gx P k0,gx P k1,(R (J.aA _) P _).1,(R (J.aA _) P _).2,(R (J.aA _) P _).2,?_⟩;have z5:=P.size;have h5:=GI.done g5 (ab z4) (by rw[<-q5];simp;omega);refine(eP (S:=[ae.D,d]) (ab V) h5 (h4.le (P.dj _)) (by rw[<-q5];simp;omega)).mono λy M6⟨bb,Q,e6,g6,q6,al⟩=>⟨al.dz λc e=>by simp at e;omega,bb,e6,gx al (P.af k0),gx al (P.af k1),(R P al _).1,(R P al _).2,(R P al _).2,?_⟩;have z6:=al.size;have an:=P.trans al;have h6:=GI.done g6 (ab V) (by rw[<-q6,<-q5];simp;omega);refine(vj (S:=[ae.D,d]) (ab V) (S4.first.le ((x4.trans an).dj _)) V (a:=yn) V cons.len).mono λy M7⟨ca,l7,e7,g7,q7,ag⟩=>⟨ag.dz λc e=>by simp at e;omega,ca,e7,gx ag (an.af k0),gx ag (an.af k1),(R an ag _).1,(R an ag _).2,(R an ag _).2,?_⟩;have z7:=ag.size;have ao:=an.trans ag;have bP:=GI.done g7 (ab V) (by rw[<-q7];simp;omega);refine(eP (S:=[ae.D,d]) (ab V) bP (h4.le (ao.dj _)) (by rw[<-q7];simp;omega)).mono λy M8⟨s8,l8,e8,g8,q8,H⟩=>⟨H.dz λc e=>by simp at e;omega,s8,e8,gx H (ao.af k0),gx H (ao.af k1),(R ao H _).1,(R ao H _).2,(R ao H _).2,?_⟩;have z8:=H.size;have bS:=GI.done g8 (ab V) (by rw[<-q8,<-q7];simp;omega);have am:=(x4.trans ao).trans H;have bl:Q.length=cl.length+Ch D h.op h.bS T:=by rw[<-q6,<-q5,bk];simp;omega
   have bV:l8.length=Q.length:=by rw[<-q8,<-q7,bl,bk];simp;omega
   have ES:Sx (t'.D::en.D::B) G M8 d ae l3 bb s8 Q l8:=⟨o3.ext am,X3.trans am,aV am.size,h6.le ((ag.trans H).dj _),bS,bV,λA o=>by
    rw[<-q8]at o;rcases List.mem_append.1 o with o|o
    .rw[<-q7]at o;rcases cF o with o|o
     .exact i.jw A o
     .omega
    .have:=q4.1 A o;omega⟩
   have bZ:WB D b.length True Q.length c:=by rw[bl];exact au.bF T c aK
   refine(ih c (aq aK) _ G M8 d ae l3 bb s8 Q l8 a4 ba tk ES bZ V V r bX).mono λy M9⟨s9,l9,o9,p9,W,b9⟩=>⟨Pz.dz W (LM (oh am.size) aU),?_⟩;have z9:=W.size;have c6:=am.size;have F9:=aE (F3.then am) aU W;have X9:=i.em.gN i.x (F0.trans F9);have w9:=w3.then p9;have bY:=w9.len;have cW:l3.length<=l9.length:=by obtain⟨nw,l,-⟩:=p9;rw[l];simp
   obtain⟨_,-,-,g9⟩:=aF aK X9;refine⟨V,V,_,g9,?_⟩;refine Ir o9 X9 (aV V) V (LM V V) λbr Y bd aX aI aA bA=>?_;have vQ:=aA.size;have az:=aE F9 V aA;have aM:D0 (λq=>(q:Int)∈C) z Y (1+6*bw (h.bF.take T)+(cJ D m).length+6*(c.w -1)+1):=aI▸w9.then Rm;have b0:Y.length=l9.length+1:=by rw[aI];simp
   have cP:=aM.len;have kI:∀{u:O}{ul:List Int},GI [] t M1 u ul->u.D≠d->u.D≠g.D->u.D<M1.size->GI [] t bd u ul:=λ{u ul} aa a1 a2 a3=>by
    have g2:=aa.ext aO;have g3:=ak g2 f3 (by simp;exact⟨a1,a2⟩);have bF:=g3.ext am;have bH:=ak bF W (by simp;exact⟨a1,by rcases b3 with l|l<;>omega⟩);exact ak bH aA (by simp;exact⟨a1,by rcases b9 with l|l<;>omega⟩)
   have bs:t'.D≠d:=aT.ne o1.box bn;have cb:t'.D≠g.D:=aT.LG o1.gr bn;have bj:=kI aT bs cb cc.2;have bh:=kI bK n1 n2 V;rw[aR (b:=(aQ.len:Int) -1) V V];refine⟨λbW=>?_,λbW=>bo V _ _ _ ⟨br,Y,tl++[(g.len:Int)],C,aX,aM.imp (λ_ j=>j) V,bj,bG,bh,V,λA o=>by obtain⟨q,l,h1,h2⟩:=a8 A o;exact⟨q,l,h1,V⟩,V,az,V,V,V⟩⟩;have c1:=aX.gr.bq;refine Ul aX (i.em.gN i.x (F0.trans az)) V (LM V V) λaY aL aZ bp aS aJ bC=>?_;have c4:=aJ.size;have bx:=aE az V aJ;have cd:D0 (λq=>(q:Int)∈C++[(Y.length:Int)]) z aL (1+6*bw (h.bF.take T)+(cJ D m).length+6*(c.w -1)+1+1):=aS▸(aM.imp (λq j=>List.mem_append.2 (Or.inl j)) (ad _)).Nf aN;have cU:aL.length=Y.length+1:=by rw[aS];simp
   have nx:∀{u:O}{ul:List Int},GI [] t bd u ul->u.D≠d->GI [] t aZ u ul:=λaa aH=>ak aa aJ (by simp;exact⟨aH,aa.LG aX.gr bn⟩);have bM:=nx bj bs;have bi:=nx bh n1;intro c0;refine GI.kY bi (bt V) aN V λci bz bJ ck bu bq=>?_;have fb:Fz [en.D] aZ bz:=⟨bu.1,λc e r=>bq c e (by simpa using r)⟩;have bE:en.D≠aY.D:=bi.LG bp.gr bn;refine⟨λc e=>by
    simp at e;rw[bq c V V,(J.push aZ _).same c V],bo V _ _ _ ⟨aY,aL,tl++[(g.len:Int)],C++[(Y.length:Int)],?_,cd.imp (λ_ j=>j) V,ak bM fb bG,bG,bJ,bG,λA o=>?_,V,bx.sG fb λA o=>by simp at o⊢;omega,V,V,V⟩⟩
   .exact bp.re fb (by simp;exact⟨n1,bE⟩) λc e=>by
     simp only[aW]at e⊢;rcases e with l|l|l
     .exact Or.inl (Or.inl l)
     .rcases bu.2 with e'|e'
      .exact Or.inl (Or.inr (Or.inl V))
      .exact Or.inr V
     .exact Or.inl (Or.inr (Or.inr l))
   .rcases List.mem_append.1 o with o|o
    .let⟨q,l,h1,h2⟩:=a8 A o;exact⟨q,l,h1,V⟩
    .simp at o;exact⟨Y.length,o,V,V⟩
  .have al:T=(cB D h.bS).length:=V;subst al;refine⟨g,v.box.cq 0,?_⟩;intro U;have H:J f U:=J.push _ _;have ao:ap (bI (g.D::d::B) U) (.mk f.size 0 1 1) [(yn:Int)]:=ap.lit aB _ (bR (bR (gN (f:=f) V) (ad _) V) (ad _) V) rfl rfl aN;have s8:U.size=f.size+1:=by simp[U]
   clear_value U;refine⟨gl H V _,gl H V _,V,V,?_⟩;have P:FD B G U d g L:=(v.ext H).re (Fz.aA [] _) aN λc e=>Or.inl (ah _ (ah _ e));have az:K.D∉g.D::d::B:=by
    simp only[aW,vP];exact⟨t2,t1,λj=>oh (gN (f:=F) (ad _) _ j)⟩
   have an:ap (bI (g.D::d::B) U) K tl:=(GI.any (e:=g.D::d::B) (gt.ext H)).nV uv.mono az bn V;obtain⟨wr,gs,-,Y⟩:=P.gr.set dU.mono (X:=List.range G.size) ⟨V,λc e r=>absurd (List.mem_range.2 e) r⟩ (k:=z.length) V (a:=⟨21,0,h.bS,0,[(yn:Int)],tl⟩) (cs:=[.i 21,.i 0,.i h.bS,.i 0,.s (.mk f.size 0 1 1),.s K]) ⟨_,_,rfl,ao,an⟩;refine⟨wr,?_⟩;intro m9;have s9:m9.size=U.size:=ax _ _ _ _;have o9:FD B G m9 d g (L.set z.length ⟨21,0,h.bS,0,[(yn:Int)],tl⟩):=⟨P.box.congr (Y d (kT P.ne)),gs,P.up⟩;have W:Fz [d,g.D] f m9:=⟨V,λc e r=>by
    simp at r;have e1:m9[c]? =U[c]? :=Y c r.2;rw[e1,H.same c e]⟩
   have w9:=(bc.set (x:=⟨21,0,h.bS,0,[(yn:Int)],tl⟩) (k:=z.length) (ad _) ⟨sx,sx⟩ ⟨aN,by show tl.length<=_;omega⟩).imp (c:=λq=>(q:Int)∈C) (λ_ j=>j.1) (ad _);refine⟨λc e=>Y c (by simp at e;omega),?_⟩;have aA:=ge.len bn;refine dW (n:=C.length) V (λw p=>∃ay av,FD B G p d ay av/\D0 (λq=>(q:Int)∈C.drop w) z av (1+6*bw (h.bF.take (cB D h.bS).length))/\av.length=L.length/\GI [] t p en C/\Fz [d,s.D] N p/\(ay.D=s.D\/N.size<=ay.D)/\m7.size<=p.size) ⟨g,_,o9,by simpa using w9,aN,ak ge W (by simp;exact⟨n1,n2⟩),aE I e W,e,V⟩ ?_;rintro w p I2 μ2 hi ⟨ay,l2,o2,w2,am,Q,f2,b2,z2⟩ av;refine dit (λj=>?_) λj=>?_
   .let⟨A,R⟩:=cL C w;obtain⟨q,rfl,aI,aJ⟩:=a8 A (aq R);have ag:ap (bI [] p) en C:=(GI.any (e:=[]) Q).nV uv.mono aN bn V;have ae:=ag.le (bD _ _);let⟨xq,ab⟩:=cL l2 q;refine⟨V,V,q,ae.aF R,?_⟩;refine TG o2 (i.em.gN i.x (F0.trans f2)) ab (LL V V) λs4 l4 M4 o4 e4 f4 b4=>av V _ ⟨s4,l4,o4,?_,by rw[e4];simp;exact am,ak Q f4 (by simp;exact⟨n1,Q.LG o2.gr bn⟩),aE f2 b2 f4,oh f2.size,oh f4.size⟩;rw[e4];refine(w2.Z0 V ab).imp (λq' j=>?_) (ad _);let⟨h1,h2⟩:=j;rw[qE V]at h1;rcases List.mem_cons.1 h1 with l|l
    .have:C[w]=(q:Int):=by have:=List.getElem?_eq_some_iff.1 R;exact this.2
     rw[this]at l;exact absurd V h2
    .exact l
   .have a_:w=C.length:=V;subst a_;rw[List.drop_length]at w2;exact⟨ay,l2,o2,w2.YE aN V,F0.trans f2,V⟩
def Mk{c:List bB}:∀a:Bk,Xb c b a:=Bk.ind λaE r f=>Mj λx e h=>Me h λa d=>f x e a d
end
def nj.dk{l:List Instr}{n:Nat}(h:nj [] l n):Sw l/\QQ l/\l.length<=n:=by
 obtain⟨e,rfl,b,c,d⟩:=h;exact⟨λk x a=>by have:=b k x a;simpa using this,c,d⟩
def Mo{e:List Nat}{r:E}(hS:∀f∈e,f<r.size){B ag:O}{Z:List bB}{rs:List gU}(P:eM r B ag Z rs){al:Nat}(ay:yH Z rs True al)(hW:al<=120000000000):QP 118 [.agg #[O.v B,O.v ag]] r e Z Ed:=by
 apply EQ;simp -zeta only[aD,aC];have ht:=P.types;have hp:=P.jg;intro b a2;let⟨x2,hl⟩:=dI (a:=b) (c:=a2) rfl rfl;have s1:b.size=r.size+1:=by simp[b]
 clear_value a2;have aX:=hp.len;have bo:=P.oQ;have bm:=ay.jm;refine(fX (b:=b.size::e) (bR hS x2.size (hl _ aN)) (P.br.le x2.le) ht).mono λ_ ac⟨dd,g,aU,x3⟩=>?_;subst g;refine⟨x3.dz hl,_,rfl,?_⟩;intro j a3 aF;have u2:=x2.trans x3;let⟨x5,B0,g0,s3,s5⟩:=lC (b:=j.size::b.size::e) lK.mono (d:=ac) (a:=j) (c:=a3) (h:=aF) rfl rfl rfl;clear_value aF;have ax:∀f∈[b.size,r.size],f<ac.size:=λf l=>x3.lt (hl f l);have av:∀f∈b.size::e,f<ac.size:=λf l=>x3.lt (bR hS x2.size (hl _ aN) f l);refine lz (R:=λd h u=>∃B p c,Value.agg #[O.v d,O.v h]=.agg #[O.v B,O.v p]/\cz (bI e u) B Z/\iC (bI e u) p c/\Ed c/\J r u) (r:=rs.length) (f:=r) (b:=e) lK.mono bn bn hS ⟨V,ax _ aN⟩ u2 s3 aU aX V x5 B0 g0 (λ_ q=>TB q) (λc r' aA m' d h t k o=>⟨c,r',aA,rfl,d,h,⟨V,V,λq hq=>by obtain⟨s,p⟩:=List.mem_iff_getElem?.1 hq;exact k s q p⟩,o⟩) λaz u o aA bf μ aV bk xM ar aj a6=>?_
 let⟨q,hq⟩:=cL rs az aV;let⟨q3,ba,bb,qw⟩:=ay.dD q (aq hq);have F:=u2.trans xM;obtain⟨cs,⟨bg,k,bd,rfl,c1,c2,c3⟩,Q⟩:=hp.iL az q hq;have aP:=c1.len;have qp:=q.body.HD;refine⟨V,V,_,F.af (Q 0 _ rfl),_,F.af (Q 1 _ rfl),_,F.af (Q 2 _ rfl),_,F.af (Q 3 _ rfl),_,F.af (Q 4 _ rfl),?_⟩;intro m7 c;have hy:=ar.bq;have bi:=aj.lt;have zM:=xM.size;obtain⟨x8,-,s8⟩:=kW (M:=u) (d:=m7) (c:=c) rfl rfl rfl;clear_value c;have bl:=u2.size;have w8:=F.trans x8;have N:∀{I:E},c.size<=I.size->∀f∈o.D::j.size::b.size::e,f<I.size:=λh f l=>by
  simp only[aW]at l;rcases l with g|g|g|g
  .omega
  .omega
  .have:=av f (by simp[g]);omega
  .have:=av f (by simp[g]);omega
 have bj:b.size<ac.size:=ax _ aN;intro d s;have x9:J c d:=J.push _ _;have s9:d.size=c.size+1:=by simp[d]
 have aJ:J d s:=J.push _ _;have bu:s.size=d.size+1:=by simp[s]
 have g9:VM (d.size::o.D::j.size::b.size::e) c d (.mk c.size 0 0 0) []:=Gr.new _ (ad _) _ _ _;have aL:cK s d.size oI [.s (.mk c.size 0 0 0)]:=cK.push _ _ _;have aQ:FD (o.D::j.size::b.size::e) c s d.size (.mk c.size 0 0 0) []:=⟨aL,g9.ext dU.mono aJ,V⟩;clear_value s d;have am:=x9.trans aJ;have aB:∀f∈[c.size,d.size],f<s.size:=λf l=>by simp at l;omega
 have LL:∀{I:E}{s':O},s.size<=I.size->(s'.D=c.size\/s.size<=s'.D)->∀k∈[u.size,b.size,r.size],k<I.size/\k≠d.size/\k≠s'.D:=λhz z k aS=>by simp at aS;omega
 rw[aP];refine(mw (S:=[c.size,d.size]) aB 0 q.params.length V).mono λ_ aE⟨U,ab,g,aR,aI,W⟩=>⟨W.dz λk z=>by simp at z;omega,U,g,?_⟩;have au:=GI.done aR aB V;have be:=W.size;have aM:Sx (o.D::j.size::b.size::e) c aE d.size (.mk c.size 0 0 0) [] U U ab ab:=⟨aQ.ext W,am.trans W,N V,au,au,rfl,λy hy=>oh (aI.1 y hy)⟩;refine(Mk q.body _ c aE d.size _ [] U U ab ab B ag bd aM (by rw[aI.2];exact bb) V bG (P.le w8.le) (eR.le w8.le c3)).mono λbw aZ⟨bv,bp,ae,aH,aa,aO⟩=>⟨Pz.dz aa (LL be (Or.inl rfl)),?_⟩;have bA:=aa.size;simp only[O.jJ]at aO aa;have an:J c aZ:=Fz.ext ((((am.trans W).fz [d.size,c.size]).trans aa).DW λk z=>Or.inr (by simp at z;omega));have a9:=aH.len;intro bq;refine Ir ae an (N V) (by simp at a9;omega) (LL V V) λA D v L ao ap bh=>?_;have bC:=ap.size;have bx:=ae.gr.bq;have X:J c v:=ae.gN an ap;have a_:nj [] D (6*q.body.w):=ao▸(aH.trans (nj.lY (x:=⟨23,0,0,0,[q.body.aT],[]⟩) ⟨sx,λ_=>aN⟩ aN)).fu V;let⟨a7,a8,bt⟩:=a_.dk;have aY:0<D.length:=by rw[ao];simp
 have ak:=aj.ext (x8.trans X);refine⟨o,ak.cq 1,A,L.box.cq 0,A,L.box.cq 0,?_⟩;have bz:=L.gr.bq;have a5:=L.ne;have a4:A.D∉d.size::o.D::j.size::b.size::e:=by
  simp only[aW,vP];have l:=λh:A.D∈o.D::j.size::b.size::e=>N (I:=c) (ad _) _ h;refine⟨a5,λh=>?_,λh=>?_,λh=>?_,λh=>?_⟩<;>have:=l (by simp[h])<;>omega
 have aw:ft (bI (d.size::o.D::j.size::b.size::e) v) A D:=L.gr.nV dU.mono a4 bn V;have G:∀{y K:E}{k aG:Nat},v.size<=y.size->J y K->k<v.size->af K k aG=af y k aG:=λh ai z=>gl ai V _;have sm:∀{y K:E},v.size<=y.size->J y K->eF [u.size,b.size,r.size] y K:=λh ai=>ai.dz λk z=>by simp at z;omega
 have T:d.size<v.size:=V;have C:u.size<v.size:=V;have i3:j.size<v.size:=V;refine(bQ (o.D::j.size::b.size::e) (c1.ext (w8.trans X)) V).mono λ_ br⟨a',la,g,ga,ea,p⟩=>⟨sm (ad _) p,a',g,G (ad _) p T,G (ad _) p C,G (ad _) p T,G (ad _) p C,G (ad _) p C,G (ad _) p i3,?_⟩;subst ea;have H:=p.size;refine(bQ (o.D::j.size::b.size::e) (c2.ext ((w8.trans X).trans p)) V).mono λ_ a0⟨b',lb,g,gb,eb,t⟩=>⟨sm H t,b',g,G H t T,G H t C,G H t T,G H t C,G H t i3,?_⟩;subst eb;have bE:=t.size;have aK:=p.trans t;refine(Nv (m:=a0) (ft.ext aK (eV.le aw (bD _ _) λ_ _=>dU.le (bD _ _))) (q.params.length:Nat)).mono λ_ a1⟨rg,g,_,w⟩=>⟨sm V w,rg,g,G V w T,G V w C,G V w i3,?_⟩;have bF:=w.size;have Y:=aK.trans w;intro bs;have aT:ft (bI (o.D::j.size::b.size::e) a1) A D:=eV.le aw ((Y.dj _).trans (je _ λ_ h=>ah _ h)) λ_ _=>dU.le ((Y.dj _).trans (je _ λ_ h=>ah _ h));have XX:=(x8.trans X).trans Y;refine Gr.box (g:=[.s .nil,.s .nil,.i 0,.i 0,.s .nil]) (j:=1) (y:=88) (i:=[.s dd,.s o]) (w:=⟨q.params,q.cY,q.aT,rg,D⟩) lK.mono bn (ar.ext lK.mono XX) ((xM.trans XX).fz []) ⟨a',b',A,rfl,(GI.done ga (N V) V).le ((t.trans w).dj _),(GI.done gb (N V) V).le (w.dj _),aT⟩ V (ak.ext Y) aN bn ⟨V,aN⟩ (λf l=>?_) λr' m' g' B' f' z' q'=>a6 r' m' _ g' B' f'.ext ⟨q3,ba,aY,by show D.length<=_;omega,a7,a8⟩
 simp at l;omega
section
def Mn{α:Type}(T:E->O->O->α->Prop):Prop:=∀M a b c x,Le M a->T M b c x->T a b c x
def PP{α:Type}(T:E->O->O->α->Prop)(U:α->Prop)(S:List Nat)(d:Nat)(e:O)(m:E)(P:Nat)(v:Value)(a:E):Prop:=∃b c x,v=.agg #[O.v b,O.v c]/\T (bI S a) b c x/\U x/\Rd d e P a/\Fz [d] m a
def NT(m:E)(a b:O)(x:List bB×List gU):Prop:=eM m a b x.1 x.2
def IT(m:E)(a b:O)(x:List bB×List dC):Prop:=cz m a x.1/\iC m b x.2
def GT(m:E)(a b:O)(x:List bB×List (dC×Ex)):Prop:=cz m a x.1/\Xc m b x.2
def UN(c:Prop)(W:Nat)(x:List bB×List gU):Prop:=yH x.1 x.2 c W/\x.1∈se
def UI(x:List bB×List dC):Prop:=Ed x.2/\x.1∈se
def NT.mn:Mn NT:=λ_ _ _ _ _ h t=>eM.le t h
def IT.mn:Mn IT:=λ_ _ _ _ _ h t=>⟨t.1.le h,iC.le h t.2⟩
structure BS(B:List Nat)(rb:Nat)(bs:O)(m:E)(Q:Nat)(M:E):Prop where
 s:Rs rb bs m Q M
 gN:∀c∈B,m.size<=c/\c<M.size
section
variable{α:Type}{T:E->O->O->α->Prop}{U:α->Prop}{S B L:List Nat}{d Q h j k f t:Nat}{g a b:O}{m M e:E}{x:α}{i:List Value}
def BS.hS(h:BS B d g m Q M)(a:∀c∈S,c<m.size):∀c∈B++S,c<M.size:=λc b=>(List.mem_append.1 b).elim (λe=>(h.gN c e).2) λe=>aP (a c e) h.s.f.size
def BS.to(a:BS B d g m Q M)(f:Fz [d] M e)(r:Rd d g h e):BS B d g m h e:=⟨a.s.to f r,λc b=>⟨(a.gN c b).1,aP (a.gN c b).2 f.size⟩⟩
def BS.lw(h:BS B d g m Q M)(a:d<m.size)(c:∀b∈L,b∈B):Lw d L M:=Go.Proofs.YtghjegjkpepmpaaGreat.lw a λb e=>h.gN b (c b e)
def BS.call(c:BS B d g m Q M)(o:d<m.size)(p:∀b∈L,b∈B)(l:aO cp f i M (PP T U (B++S) d g M h)){K:O->O->E->Prop}
 (q:∀a b x e,U x->T (bI (B++S) e) a b x->BS B d g m h e->Fz [d] M e->K a b e):aO cp f i M λv e=>eF L M e/\∃j k:O,v=.agg #[O.v j,O.v k]/\K j k e:=
 l.mono λ_ e⟨a,b,x,n,t,u,r,f⟩=>⟨(c.lw o p).dz f,a,b,n,q a b x e u t (c.to f r) f⟩
def BS.pick(h:BS B d g m Q M)(c:d<m.size)(k:Q<=10^16)(j:∀b∈L,b∈B)(n:Int){K:Int->E->Prop}
 (l:∀i e,0<=i->(i<n\/i=0)->BS B d g m (Q+1) e->Fz [d] M e->K i e):aO cp 47 [vp d 0,vi n] M λv e=>eF L M e/\∃i:Int,v=vi i/\K i e:=
 (cr h.s.r k n).mono λ_ e⟨i,a,o,p,r,f⟩=>⟨(h.lw c j).dz f,i,a,l i e o p (h.to f r) f⟩
def BS.box{m1 m2:E}{z l:List Ce}(h:BS B d g m Q M)(f:m1=M.push (.cells (bz z) t))(i:m2=ai m1 M.size 0 l)(n:l.length=z.length):BS (M.size::B) d g m Q m2/\Le (bI (B++S) M) (bI (M.size::B++S) m2)/\cK m2 M.size t l:=by
 let⟨x,a,z⟩:=kW f i n;have o:=h.s.f.size;refine⟨⟨h.s.ext x,λc k=>?_⟩,x.bI λb j=>(List.mem_cons.1 j).elim (λh=>Or.inr V) Or.inl,a⟩;rcases List.mem_cons.1 k with e|e
 .omega
 .have:=h.gN c e;omega
def BS.put(h:BS B d g m Q M)(b:Rd d g j m)(a:k∈B)(l:List Ce):BS B d g m Q (ai M k 0 l)/\Le (bI (B++S) M) (bI (B++S) (ai M k 0 l)):=
 ⟨⟨h.s.put b (h.gN k a).1 _ _,λc e=>by rw[ax];exact h.gN c e⟩,cD (by simp[a]) λ_ h=>h⟩
def BS.le(a:d∈S)(f:Fz [d] M e):Le (bI (B++S) M) (bI (B++S) e):=f.dj (by simp[a])
def BS.iS(f:BS B d g m Q M)(o:Mn T)(i:Rd d g j m)(p:k∈B)(q:T (bI (B++S) M) a b x)(r:U x)(n:Q<=h)(l:List Ce):PP T U S d g m h (.agg #[O.v a,O.v b]) (ai M k 0 l):=
 have⟨c,e⟩:=f.put (S:=S) i p l
 ⟨a,b,x,rfl,o _ _ _ _ _ (e.trans (je _ λ_=>eG _)) q,r,c.s.r.mono n,c.s.f⟩
def BS.lY(a:Rd d g Q m)(o:Obj):BS [m.size] d g m Q (m.push o)/\Le (bI S m) (bI ([m.size]++S) (m.push o)):=⟨⟨⟨(J.push m o).fz _,a.ext (J.push m o)⟩,aN⟩,tC (J.push m o) (ad _)⟩
def LH{a:List bB}{c:Prop}{W:Nat}(j:vr f i M S a λb=>yH a b c W)(hd:a∈se)(r:Rd d g Q M):aO cp f i M (PP NT (UN c W) S d g M Q):=
 j.mono λ_ _⟨e,k,b,h,n,o,x⟩=>⟨e,k,(a,b),h,n,⟨o,hd⟩,r.ext x,x.fz _⟩
def Wb{a:List bB}(h:QP f i M S a Ed)(hd:a∈se)(r:Rd d g Q M):aO cp f i M (PP IT UI S d g M Q):=
 h.mono λ_ _⟨b,j,k,e,n,c,o,x⟩=>⟨b,j,(a,k),e,⟨n,c⟩,⟨o,hd⟩,r.ext x,x.fz _⟩
end
section
variable{a:List Nat}{m:E}{b P:Nat}{c:O}
def Jc(f:∀d∈a,d<m.size)(j:b∈a)(d:Rd b c P m)(D:P+1000+4*(300+40*Cg 18)<=10^16):aO cp 190 [vp b 0] m (PP NT (UN False 95) a b c m (P+11+4*(300+40*Cg 18))):=by
 apply Bw (b,0);simp -zeta only[aD,aC];have e:=d.lt;intro k;obtain⟨b1,-⟩:BS [m.size] b c m P k/\True:=⟨(BS.lY (S:=a) d _).1,trivial⟩;clear_value k;refine b1.call (T:=GT) (U:=λx=>Xe x.1 x.2) (S:=a) e (λ_ h=>h) ((ET (b1.hS f) (by simp[j]) b1.s.r V).mono λv M⟨i,p,g,t,l,n,o,q,r,s⟩=>⟨i,p,(g,t),l,⟨n,o⟩,q,r,s⟩) λi p x F u t b2 A=>?_;refine b2.call (S:=a) e (λ_ h=>h) (LH (I6 (b2.hS f) (t.1.le (bD _ _)) (eV.le t.2 (bD _ _) λ_ _=>Zw.mono.le (bD _ _)) u) u.gp.ds b2.s.r) λy J L G g t3 b3 B=>?_;intro r l;obtain⟨b5,q,-⟩:=b3.box (S:=a) (m1:=r) (m2:=l) rfl rfl rfl;clear_value l;have s:=NT.mn _ _ _ _ _ q t3;refine b5.pick e V (λ_ h=>h) 3 λE H _ _ b6 o=>?_;have n:=NT.mn _ _ _ _ _ (BS.le j o) s;refine⟨λ_=>?_,λ_=>b6.iS NT.mn d aN n g V _⟩;exact b6.call (S:=a) e (λ_ h=>h) (LH (Kf (b6.hS f) (n.le (bD _ _)) V g.1) g.2 b6.s.r) λz K M I w v h C=>h.iS NT.mn d aN v w V _
def EM(j:∀d∈a,d<m.size)(g:b∈a)(d:Rd b c P m)(M:P+1000+4*(300+40*Cg 18)<=10^16):aO cp 167 [vp b 0] m (PP NT (UN True 104500) a b c m (P+12+4*(300+40*Cg 18))):=by
 apply xJ (b,0);simp -zeta only[aD,aC];have f:=d.lt;intro n;obtain⟨b1,-⟩:BS [m.size] b c m P n/\True:=⟨(BS.lY (S:=a) d _).1,trivial⟩;clear_value n;refine b1.call (S:=a) f (λ_ h=>h) (Jc (b1.hS j) (by simp[g]) b1.s.r V) λI U X Q i t2 b2 K=>?_;intro x o;obtain⟨b4,w,-⟩:=b2.box (S:=a) (m1:=x) (m2:=o) rfl rfl rfl;clear_value o;have q:=NT.mn _ _ _ _ _ w t2;refine b4.call (S:=a) f (λ_ h=>h) (LH (Mh (b4.hS j) (q.le (bD _ _)) i.1) i.2 b4.s.r) λJ W Y y G B b5 u=>?_;intro z p;obtain⟨r,l,-⟩:=b5.box (S:=a) (m1:=z) (m2:=p) rfl rfl rfl;clear_value p;have C:=NT.mn _ _ _ _ _ l B;refine r.pick f V (λ_ h=>h) 4 λN R _ _ e k=>?_;have D:=NT.mn _ _ _ _ _ (BS.le g k) C;refine⟨λ_=>?_,λ_=>e.iS NT.mn d aN D G V _⟩;have E:=NT.mn _ _ _ _ _ (((BS.le g u).trans l).trans (BS.le g k)) q;refine e.call (S:=a) f (λ_ h=>h) (LH (Qr (e.hS j) (E.le (bD _ _)) i.1) i.2 e.s.r) λt A Z T H F s L=>?_;intro O;let⟨h,v⟩:=s.put (S:=a) d (by simp:y.size∈_) [.s t,.s A];exact h.iS NT.mn d aN (NT.mn _ _ _ _ _ v F) H V _
end
end
section
variable{c:Prop}
structure BF(S:List Nat)(rb:Nat)(bs:O)(m:E)(k Q W:Nat)(M:E):Prop where
 b:BS [k,m.size] rb bs m Q M
 x:∃d r x,cK M k nB [.s d,.s r]/\NT (bI (k::m.size::S) M) d r x/\UN True W x
def UN.mono{W W':Nat}{x:List bB×List gU}(h:UN c W x)(f:W<=W'):UN c W' x:=⟨⟨h.1.jm,λq g=>let⟨a,b,d,e⟩:=h.1.dD q g;⟨a,b,d,bJ e f⟩⟩,h.2⟩
section
variable{e h:List Nat}{d k Q Q' W W' i f:Nat}{g:O}{a M b:E}{K:E->Prop}{j:O->O->List Value}
def BF.mono(h:BF e d g a k Q W M)(j:Q<=Q')(l:W<=W'):BF e d g a k Q' W' M:=⟨⟨⟨h.b.s.f,h.b.s.r.mono j⟩,h.b.gN⟩,let⟨i,r,x,b,f,c⟩:=h.x;⟨i,r,x,b,f,c.mono l⟩⟩
def BF.to(i:BF e d g a k Q W M)(n:d<a.size)(m:d∈e)(f:Fz [d] M b)(j:BS [k,a.size] d g a Q' b):BF e d g a k Q' W b:=
 let⟨l,r,x,h,t,c⟩:=i.x
 ⟨j,l,r,x,h.congr (f.same k h.lt (by have:=i.b.gN k aN;simp;omega)),NT.mn _ _ _ _ _ (BS.le (B:=[k,a.size]) m f) t,c⟩
def BF.pick(j:BF e d g a k Q W M)(l:d<a.size)(q:d∈e)(o:Q<=10^16)(m:∀c∈h,c∈[k,a.size])(n:Int){K:Int->E->Prop}
 (p:∀i b,BF e d g a k (Q+1) W b->K i b):aO cp 47 [vp d 0,vi n] M λv b=>eF h M b/\∃i:Int,v=vi i/\K i b:=
 j.b.pick l o m n λi b _ _ c f=>p i b (j.to l q f c)
def BF.ZA(q:BF e d g a k Q W M)(w:Rd d g i a)(F:k≠a.size)(y:∀p∈h,p=a.size)
 (c:∀l n x,NT (bI (k::a.size::e) M) l n x->UN True W x->aO cp f (j l n) M (PP NT (UN True W') (k::a.size::e) d g M Q'))
 (I:∀b,BF e d g a k Q' W' b->K b):∃z:O,af M k 0=some (O.v z)/\∃A:O,af M k 1=some (O.v A)/\aO cp f (j z A) M λT b=>eF h M b/\∃t u:O,T=.agg #[O.v t,O.v u]/\fO b k 0 2/\(eF h b (ai b k 0 [.s t,.s u])/\K (ai b k 0 [.s t,.s u])):=by
 let⟨l,n,x,B,J,P⟩:=q.x
 have G:=w.lt
 have V:=q.b.gN k aN
 refine⟨l,B.cq 0,n,B.cq 1,q.b.call (S:=e) (L:=h) G (λp s=>by simp[y p s]) (c l n x J P) λp s U b R N C D=>?_⟩
 have v:=B.congr (D.same k B.lt bG)
 let⟨b2,H⟩:=C.put (S:=e) w (by simp:k∈_) [.s p,.s s]
 exact⟨v.fO aN,λc E=>bg _ _ _ _ (by rw[y c E];exact kT F),I _ ⟨b2,p,s,U,cK.ai (m:=b) (o:=0) (r:=[.s p,.s s]) v,NT.mn _ _ _ _ _ H N,R⟩⟩
def BF.aU(h:BF e d g a k Q W M)(j:Rd d g i a)(l:Q<=Q'):∃b:O,af M k 0=some (O.v b)/\∃c:O,af M k 1=some (O.v c)/\PP NT (UN True W) e d g a Q' (.agg #[O.v b,O.v c]) (ai M a.size 0 [.s b,.s c]):=
 let⟨f,r,_,B,t,u⟩:=h.x
 ⟨f,B.cq 0,r,B.cq 1,h.b.iS NT.mn j aN t u l _⟩
end
section
variable{a:List Nat}{b:E}{d P:Nat}{e:O}
def YS{h:Nat}{g:List Value}{M:E}{Q:Nat}{b:List bB}{W:Nat}(k:Tw h g M a d e Q b λf=>yH b f c W)(hd:b∈se):aO cp h g M (PP NT (UN c W) a d e M Q):=
 k.mono λ_ _⟨i,l,f,j,n,o,r,x⟩=>⟨i,l,(b,f),j,n,⟨o,hd⟩,r,x⟩
def Sa(i:∀c∈a,c<b.size)(k:d∈a)(g:Rd d e P b)(h:P+4<=10^16){W:Nat}(j:W<=200000000000)(f r:O)(x:List bB×List gU)(t:NT (bI a b) f r x)(u:UN True W x):aO cp 168 [vp d 0,.agg #[O.v f,O.v r]] b (PP NT (UN True (W+4)) a d e b (P+4)):=
 YS (Qq i k g h t u.1 j) u.2
def CL(z:∀c∈a,c<b.size)(l:d∈a)(g:Rd d e P b)(Z:P+1000+4*(300+40*Cg 18)<=10^16):aO cp 119 [vp d 0] b (PP NT (UN True 98289774148) a d e b (P+24+4*(300+40*Cg 18))):=by
 apply wG (d,0);simp -zeta only[aD,aC];have k:=g.lt;intro q;have z1:q.size=b.size+1:=by simp[q]
 obtain⟨b1,-⟩:BS [b.size] d e b P q/\True:=⟨(BS.lY (S:=a) g _).1,trivial⟩;clear_value q;refine b1.call (S:=a) k (λ_ h=>h) (EM (b1.hS z) (by simp[l]) b1.s.r V) λD H J f I t2 b2 K=>?_;have z2:=K.size;intro N G;let⟨b4,L,C⟩:=b2.box (S:=a) (m1:=N) (m2:=G) rfl rfl rfl;clear_value G;have X:=NT.mn _ _ _ _ _ L t2;have p:f.size≠b.size:=V;have n:∀{M:E}{Q W:Nat},BF a d e b f.size Q W M->∀c∈f.size::b.size::a,c<M.size:=λh=>h.b.hS z;have F:d∈f.size::b.size::a:=by simp[l]
 refine⟨BF a d e b f.size (P+17+4*(300+40*Cg 18)) 104504,?_,λR U=>?_⟩
 .refine b4.pick k V (λ_ h=>h) 4 λA m5 _ _ b5 t=>?_;have u:=NT.mn _ _ _ _ _ (BS.le (B:=[f.size,b.size]) l t) X;have s:=C.congr (t.same _ C.lt bG);refine⟨λ_=>b5.call (S:=a) k (λ_ h=>h) (Sa (b5.hS z) F b5.s.r V V D H J u I) λi j x O Y T b6 w=>?_,λ_=>BF.mono ⟨b5,D,H,J,s,u,I⟩ V V⟩;intro R;let⟨v,y⟩:=b6.put (S:=a) g (by simp:f.size∈_) [.s i,.s j];exact BF.mono ⟨v,i,j,x,cK.ai (m:=O) (o:=0) (r:=[.s i,.s j]) (s.congr (w.same _ s.lt bG)),NT.mn _ _ _ _ _ y T,Y⟩ V V
 refine⟨BF a d e b f.size (P+18+4*(300+40*Cg 18)) 10921086016,?_,λY O=>?_⟩
 .refine U.pick k l V aN 4 λA v s=>⟨λ_=>s.ZA g p aN (λi j x t u=>LH (IC (n s) (t.le (bD _ _)) V u.1) u.2 s.b.s.r) λy h=>h.mono V V,λ_=>s.mono V V⟩
 refine O.pick k l V aN 3 λA aa s=>?_;refine⟨BF a d e b f.size (P+19+4*(300+40*Cg 18)) 98289774144,⟨λ_=>s.ZA g p aN (λi j x t u=>LH (Fi (n s) (t.le (bD _ _)) V u.1) u.2 s.b.s.r) λy h=>h.mono V V,λ_=>s.mono V V⟩,λab v=>?_⟩;refine⟨BF a d e b f.size (P+19+4*(300+40*Cg 18)) 98289774144,⟨λ_=>v.ZA g p aN (λi j x t u=>LH (Nw (n v) (t.le (bD _ _)) V u.1) u.2 v.b.s.r) λy h=>h.mono V V,λ_=>v.mono V V⟩,λac T=>?_⟩;refine T.pick k l V aN 6 λA ad w=>⟨λ_=>w.ZA g p aN (λi j x t u=>Sa (n w) F w.b.s.r V V i j x t u) λy h=>h.aU g V,λ_=>(w.mono (Q':=P+24+4*(300+40*Cg 18)) (W':=98289774148) V V).aU g V⟩
def IK(j:∀c∈a,c<b.size)(l:d∈a)(f:Rd d e P b)(B:P+1000+4*(300+40*Cg 18)<=10^16):aO cp 46 [vp d 0] b (PP IT UI a d e b (P+25+4*(300+40*Cg 18))):=by
 apply Bc (d,0);simp -zeta only[aD,aC];have g:=f.lt;intro m;obtain⟨b1,-⟩:BS [b.size] d e b P m/\True:=⟨(BS.lY (S:=a) f _).1,trivial⟩;clear_value m;refine b1.call (S:=a) g (λ_ h=>h) (CL (b1.hS j) (by simp[l]) b1.s.r V) λv H K D o t2 b2 y=>?_;refine b2.call (S:=a) g (λ_ h=>h) (Wb (Mo (b2.hS j) (t2.le (bD _ _)) o.1 V) o.2 b2.s.r) λw I L E i t3 b3 z=>?_;intro r n;obtain⟨b5,q,-⟩:=b3.box (S:=a) (m1:=r) (m2:=n) rfl rfl rfl;clear_value n;have s:=IT.mn _ _ _ _ _ q t3;refine b5.pick g V (λ_ h=>h) 3 λC F _ _ b6 p=>?_;have k:=IT.mn _ _ _ _ _ (BS.le l p) s;refine⟨λ_=>?_,λ_=>b6.iS IT.mn f aN k i V _⟩;exact b6.call (S:=a) g (λ_ h=>h) (Wb (Jg (b6.hS j) (k.1.le (bD _ _)) (tw i.2) (iC.le (bD _ _) k.2) i.1) i.2 b6.s.r) λx J M G u t h A=>h.iS IT.mn f aN t u V _
end
end
section
variable{x:Instr}
section
variable{S:List Nat}{m M:E}{a P Q:Nat}{b:O}
def Ar(h:Rs a b m Q M)(i:Q<=10^16)(c:List Int){d:List Ce}{n:Nat}(j:d=c.map Ce.i)(p:n=c.length)(l:0<c.length/\c.length<=100):
 aO cp 53 [vp a 0,O.v (.mk M.size 0 n n)] (M.push (.cells (bz d) aB)) λv e=>∃t:Int,v=vi t/\t∈c/\Rs a b m (Q+1) e/\Fz [a] (M.push (.cells (bz d) aB)) e:=by
 have x:=J.push M (.cells (bz d) aB)
 have o:=h.r.lt
 refine(kO (h.ext x).r i (ap.lit aB c (by simp;exact o) j p V) l.1).mono λv e⟨q,g,k,r,f⟩=>⟨q,g,k,(h.ext x).to f r,f⟩
def _root_.Go.Vc.Gr.Ly{b c:E}{s:O}{l:List Int}(h:GI S b M s l)(f:Fz [a] M c)(d:a<b.size):GI S b c s l:=have:=h.bq;GI.jG h (f.same _ this.2 bG)
def qV(n:Rd a b P m)(hP:P+10<=10^16){D:O}{l:List Int}(S:ap m D l)(hb:l.length<=10^12):aO cp 54 [vp a 0,O.v D] m λaa o=>∃s c,aa=O.v s/\GI [] m o s c/\c.length<=l.length+1/\(∀w∈c,w∈l\/-1<=w/\w<=1001)/\Rd a b (P+3) o/\Fz [a] m o:=by
 apply tf (a,0);have g:=n.lt;refine(bQ [] S V).mono λ_ W⟨s,c,e,j,I,G⟩=>⟨s,e,?_⟩;subst I;have ab:=j.len bn;have p:Rs a b m P W:=⟨G.fz _,n.ext G⟩;have iS:∀{M:E}{Q:Nat},Rs a b m Q M->Q<=P+2->GI [] m M s l->aO cp 53 [vp a 0,O.v (.mk M.size 0 5 5)] (M.push (.cells (bz [.i 0,.i 1,.i 2,.i (-1),.i 1000]) aB)) λx r=>∃i:Int,x=vi i/\
  jT (r.push (.cells (bz [.i i]) aB)) aB [.i 0] 8 s (.mk r.size 0 1 1) λt q=>∃s c,O.v t=O.v s/\GI [] m q s c/\c.length<=l.length+1/\(∀w∈c,w∈l\/-1<=w/\w<=1001)/\Rd a b (P+3) q/\Fz [a] m q:=λ{M Q} rM hQ gM=>
  (Ar rM V [0,1,2,-1,1000] rfl rfl aN).mono λ_ r⟨t,e,u,f,d⟩=>⟨t,e,by
   have g2:=(gM.ext (J.push M _)).Ly d g;refine GI.kY g2 f.f aN V λx o L z z' Y=>⟨x,_,rfl,L,aN,λw v=>?_,?_,z⟩
   .rcases List.mem_append.1 v with h|h
    .exact Or.inl h
    .simp at h u;exact Or.inr V
   .exact(n.Nd f.r z (Y a f.r.lt (oh g2.bq))).mono V⟩
 refine⟨λR=>?_,λ_=>iS p V j⟩;simp only[kU,ar]at R;refine(cr p.r V 2).mono λ_ m2⟨T,e,_,_,y,d⟩=>⟨T,e,λ_=>?_,λ_=>iS (p.to d y) V (j.Ly d g)⟩;have f:=p.to d y;refine(cr f.r V (s.len:Int)).mono λ_ X⟨i,e,U,k1,H,A⟩=>⟨i,e,?_⟩;refine(Ar (f.to A H) V [0,1,-1,7,1000,1001] rfl rfl aN).mono λ_ m5⟨t,e,u,F,K⟩=>⟨t,e,U,V,?_⟩;have C:=(((j.Ly d g).Ly A g).ext (J.push X _)).Ly K g;let⟨w,N,B,Z⟩:=C.set F.f (k:=i.toNat) V t;refine⟨w,s,_,rfl,N,aN,λw v=>?_,(n.Nd F.r B (Z a (oh C.bq))).mono V,B⟩;rcases cF v with h|h
 .exact Or.inl h
 .simp at u;exact Or.inr V
def IX(Z:List Nat)(a:Nat)(b:O)(m:E)(P:Nat)(U:Instr->Prop)(v:Value)(c:E):Prop:=∃x d j,v=Wc x d j/\ap (bI Z c) d x.args/\ap (bI Z c) j x.eN/\U x/\Rd a b P c/\Fz [a] m c
def wJ(S:List Nat){p t:O}(v:ap m p x.args)(w:ap m t x.eN)(s:x.args.length<=10^12/\x.eN.length<=10^12):
 aO cp 173 [Wc x p t] m λz l=>∃c d,z=Wc x c d/\GI S m l c x.args/\GI S m l d x.eN/\c.D≠d.D/\J m l:=by
 apply rT
 simp -zeta only[aD,aC]
 intro i j
 let⟨e,g⟩:=dI (a:=i) (c:=j) rfl rfl
 have F:i.size=m.size+1:=by simp[i]
 clear_value j
 have b:∀{M n:E},J j M->J M n->∀o,af n m.size o=af M m.size o:=λh u o=>aI (u.same _ (h.lt (g _ aN))) o
 refine(bQ S (v.ext e) s.1).aJ (J.aA j) g λc _ B q k a _=>⟨_,rfl,b (J.aA _) a _,b (J.aA _) a _,b (J.aA _) a _,b (J.aA _) a _,b (J.aA _) a _,?_⟩
 subst k
 refine(bQ S (w.ext (e.trans a)) s.2).aJ a g λd _ C r k f y=>⟨_,rfl,b a f _,b a f _,b a f _,b a f _,?_⟩
 subst k
 intro D
 have G:=q.bq;have H:=r.bq
 have A:=g i.size aN
 exact⟨c,d,rfl,((q.ext f).jG (bg _ _ _ _ V)).cA (λ_ h=>h) e.size,(r.jG (bg _ _ _ _ V)).cA (λ_ h=>h) (e.trans a).size,V,(e.trans y).ai V _ _⟩
end
structure BI(a0:E)(k rb:Nat)(bs:O)(m:E)(Q:Nat)(M:E)(a j:O)(l l':List Int):Prop where
 ga:GI [] a0 M a l
 gj:GI [] a0 M j l'
 ne:a.D≠j.D
 s:Rs rb bs m Q M
 lo:m.size+2<=a0.size/\l.length<=1000000000001/\l'.length<=1000000000001
 hi:a.D≠k/\j.D≠k/\m.size<=k/\k<M.size
section
variable{Z L:List Nat}{f m M c:E}{b k P g Q h:Nat}{d a j:O}{l e:List Int}
def BI.to(g:BI f k b d m Q M a j l e)(n:b<m.size)(i:Fz [b] M c)(r:Rd b d h c):BI f k b d m h c a j l e:=
 have:=g.lo
 ⟨g.ga.Ly i V,g.gj.Ly i V,g.ne,g.s.to i r,g.lo,g.hi.1,g.hi.2.1,g.hi.2.2.1,aP g.hi.2.2.2 i.size⟩
def BI.put(h:BI f k b d m Q M a j l e)(g:Rd b d P m)(o:Nat)(c:List Ce):BI f k b d m Q (ai M k o c) a j l e:=
 have:=h.lo;have:=h.hi;have:=h.ga.bq
 ⟨GI.jG h.ga (bg _ _ _ _ V),GI.jG h.gj (bg _ _ _ _ V),h.ne,h.s.put g V _ _,h.lo,by rw[ax];exact h.hi⟩
def BI.iS{U:Instr->Prop}(h:BI f k b d m Q M a j l e)(v:Rd b d P m)(t:∀c∈Z,c<m.size){i:Nat}(y:i=m.size+1)(w:Q<=g){r n q p:Int}(x:U ⟨r,n,q,p,l,e⟩)(s:List Ce):IX Z b d m g U (.agg #[vi r,vi n,vi q,vi p,O.v a,O.v j]) (ai M i 0 s):=by
 have:=h.lo;have:=h.hi;have z:=h.ga.bq;have A:=h.gj.bq;have u:=h.s.put v (k:=i) V 0 s;exact⟨⟨r,n,q,p,l,e⟩,a,j,rfl,Gr.done uv.mono (GI.any (GI.jG h.ga (bg _ _ _ _ V))) (λc o=>oh (t c o)) bn (bJ h.lo.2.1 bn),Gr.done uv.mono (GI.any (GI.jG h.gj (bg _ _ _ _ V))) (λc o=>oh (t c o)) bn (bJ h.lo.2.2 bn),x,u.r.mono w,u.f⟩
def BI.pick(h:BI f k b d m Q M a j l e)(r:b<m.size)(t:Q<=10^16)(s:∀g∈L,m.size<=g/\g<=k)(p:Int){K:Int->E->Prop}
 (v:∀i c,0<=i->(i<p\/i=0)->BI f k b d m (Q+1) c a j l e->(∀o,af c k o=af M k o)->Fz [b] M c->K i c):aO cp 47 [vp b 0,vi p] M λz c=>eF L M c/\∃i:Int,z=vi i/\K i c:=
 have:=h.lo;have:=h.hi;have:=h.ga.bq
 (cr h.s.r t p).mono λ_ c⟨i,q,w,x,y,n⟩=>⟨n.dz λg u=>by have:=s g u;simp;omega,i,q,v i c w x (h.to r n y) (λo=>aI (n.same k h.hi.2.2.2 bG) o) n⟩
end
def Tq(x y:Instr):Prop:=(∀k,PB k x->PB k y)/\y.args.length<=10^12/\y.eN.length<=10^12
def Iz{Z:List Nat}{m:E}{g P:Nat}{t F H:O}(d:∀c∈Z,c<m.size)(a:Rd g t P m)(hP:P+10<=10^16)(R:ap (bI [g] m) F x.args)(hj:ap m H x.eN)(b:x.args.length<=10^12/\x.eN.length<=10^12)(hx:∃I,PB I x):
 aO cp 122 [vp g 0,Wc x F H] m (IX Z g t m (P+3) (Tq x)):=by
 apply AL (g,0)
 simp(config:={maxSteps:=1000000}) -zeta only[aD,aC]
 have p:=a.lt
 intro r u
 let⟨W,hl⟩:=dI (a:=r) (c:=u) rfl rfl
 have i:r.size=m.size+1:=by simp[r]
 have s2:u.size=m.size+2:=by simp[u,i]
 clear_value u
 clear_value r
 refine(wJ [] ((R.le (bD _ _)).ext W) (hj.ext W) b).mono λ_ w⟨s,K,e,ga,gj,T,X⟩=>⟨X.dz hl,_,_,_,_,_,_,e,?_⟩
 intro m4 U
 obtain⟨N,-,z5⟩:=kW (M:=w) (d:=m4) (c:=U) rfl rfl rfl
 clear_value U
 have ya:=ga.bq;have yj:=gj.bq
 have X5:=(W.trans X).trans N
 have b5:BI u w.size g t m P U s K x.args x.eN:=⟨ga.ext N,gj.ext N,T,⟨X5.fz _,a.ext X5⟩,⟨V,pB b.1,pB b.2⟩,V,V,V,V⟩
 have o:∀n∈[w.size,r.size,m.size],m.size<=n/\n<=w.size:=bG
 let⟨q,z,C,A,j,B⟩:=x
 have uz:Tq ⟨q,z,C,A,j,B⟩ ⟨q,z,C,A,j,B⟩:=⟨λ_ h=>h,b⟩
 refine b5.pick p V o 5 λae f _ _ b6 _ f6=>?_
 have y:∀{Y:E}{aa:Nat},BI u w.size g t m aa Y s K j B->aa<=P+3->IX Z g t m (P+3) (Tq ⟨q,z,C,A,j,B⟩) (.agg #[vi q,vi z,vi C,vi A,O.v s,O.v K]) (ai Y r.size 0 [.i q,.i z,.i C,.i A,.s s,.s K]):=λh hQ=>h.iS a d i hQ uz _
 have ab:q=16\/q=17->(0:Int)<=0/\(0:Int)<(F.len:Int)/\∃v:Int,af f F.D (F.off+Int.toNat 0*1)=some (vi v)/\IX Z g t m (P+3) (Tq ⟨q,z,C,A,j,B⟩) (.agg #[vi 15,vi 0,vi 0,vi 0,O.v (.mk f.size 0 1 1),O.v .nil]) (ai (f.push (.cells (bz [.i v]) aB)) r.size 0 [.i 15,.i 0,.i 0,.i 0,.s (.mk f.size 0 1 1),.s .nil]):=λe=>by
  have hn:0<j.length:=let⟨_,h⟩:=hx;h.arg bG;have S:=R.len;let⟨D,hy⟩:=cL j 0 hn;have z6:=b6.hi;have r7:=(b6.s.ext (J.push f (.cells (bz [.i D]) aB))).put a (k:=r.size) V 0 [.i 15,.i 0,.i 0,.i 0,.s (.mk f.size 0 1 1),.s .nil];have Q:GI [] f (f.push (.cells (bz [.i D]) aB)) (.mk f.size 0 1 1) [D]:=Gr.lit (f:=[[.i D]]) uv.mono (ad _) aN rfl rfl ⟨rfl,aN,λH cs x G L=>by
   cases H with
   |zero=>simp at G L;rw[<-G,<-L];rfl
   |succ H=>simp at G⟩
  exact⟨de 0,by simp at S;omega,D,(eS.1 ((R.le (b6.s.f.dj aN)).aF hy)).2,⟨15,0,0,0,[D],[]⟩,_,.nil,rfl,GI.done (GI.any (GI.jG Q (bg _ _ _ _ bG))) (λc L=>oh (d c L)) aN,⟨rfl,dQ _,aN,aN⟩,⟨λ_ _=>⟨sx,sx⟩,aN,aN⟩,r7.r.mono V,r7.f⟩
 refine⟨λ_=>⟨λe=>?_,λ_=>⟨λe=>(b6.put a _ _).iS a d i V ⟨λ_ _=>⟨sx,sx⟩,b⟩ _,λ_=>⟨λe=>?_,λ_=>y b6 V⟩⟩⟩,λ_=>⟨λ_=>⟨λG=>?_,λ_=>y b6 V⟩,λ_=>⟨λ_=>?_,λ_=>⟨λ_=>⟨λe=>ab (Or.inl (by simpa using e)),λ_=>⟨λe=>ab (Or.inr (by simpa using e)),λ_=>⟨λe=>b6.pick p V o 4 λv L _ _ c _ _=>(c.put a _ _).iS a d i V ⟨λ_ h=>⟨h.Nf,h.arg⟩,b⟩ _,λ_=>y b6 V⟩⟩⟩,λ_=>⟨λ_=>⟨λe=>?_,λ_=>⟨λe=>?_,λ_=>y b6 V⟩⟩,λ_=>y b6 V⟩⟩⟩⟩⟩
 .simp only[aG]at e
  exact(b6.put a _ _).iS a d i V ⟨λ_ _=>⟨sx,sx⟩,b⟩ _
 .simp only[aG]at e
  exact(b6.put a _ _).iS a d i V ⟨λ_ h=>⟨sx,λ_=>h.arg (by simp[e])⟩,b⟩ _
 .simp only[kU,ar]at G
  have S:=b6.ga.len bn
  refine b6.pick p V o (s.len:Int) λI m7 k0 k1 b7 Q f7=>⟨Q 4,b7.pick p V o 4 λv L _ _ c g8 f8=>⟨g8 4,k0,V,?_⟩⟩
  let⟨ac,g9,f9,q9⟩:=GI.set c.ga (((((X.trans N).fz [g]).trans f6).trans f7).trans f8) (k:=I.toNat) (by show I.toNat<j.length;have:s.len=j.length:=S;omega) v
  have yb:=c.hi
  refine⟨ac,λn b=>q9 n (by have:=o n b;simp at b;omega),BI.iS (k:=w.size) (l:=j.set I.toNat v) (e:=B) ⟨g9,GI.jG c.gj (q9 _ (kT T)),T,⟨c.s.f.ai (Or.inr V) _ _,a.ai c.s.r c.s.f V _ _⟩,⟨V,by simpa using pB b.1,pB b.2⟩,V,V,V,by rw[ax];omega⟩ a d i V ⟨λ_ h=>⟨h.Nf,λe=>by simpa using h.arg e⟩,by simpa using b⟩ _⟩
 .refine(xY q f).any.mono λ_ m7⟨n,e,I⟩=>⟨I.dz λn b=>O6 (o n b) b6.hi,n,e,λ_=>?_,λ_=>y (b6.to p (I.fz _) (b6.s.r.ext I)) V⟩
  exact(b6.to p (I.fz _) (b6.s.r.ext I)).pick p V o 4 λv L _ _ c _ _=>(c.put a _ _).iS a d i V ⟨λ_ h=>⟨h.Nf,h.arg⟩,b⟩ _
 .simp only[aG]at e
  exact b6.pick p V o 9 λv L _ _ c _ _=>(c.put a _ _).iS a d i V ⟨λ_ h=>⟨λh=>by simp[e]at h,h.arg⟩,b⟩ _
 .simp only[aG]at e
  exact b6.pick p V o 3 λv L _ _ c _ _=>(c.put a _ _).iS a d i V ⟨λ_ h=>⟨λh=>by simp[e]at h,h.arg⟩,b⟩ _
end
section
def RA(M:E)(c:List Ce)(x:dC×O):Prop:=∃a b,c=[.s a,.s b,.i x.1.aT,.i x.1.ak,.s x.2]/\ap M a x.1.params/\ap M b x.1.cY
def RA.mono:oO 5 RA:=⟨λh⟨a,b,e,c,d⟩=>⟨a,b,e,c.le h,d.le h⟩,λ⟨_,_,e,_⟩=>by rw[e];rfl⟩
def hd(x:dC×O):dC×O:=({x.1 with dk:=[]},x.2)
abbrev Ks(l:List (dC×O)):List Nat:=l.map λx=>x.2.D
structure vR(S:List Nat)(m0 M:E)(dd q:O)(ds:List bB)(l:List (dC×O)):Prop where
 d:cz (bI (q.D::(Ks l++S)) M) dd ds
 g:Gr (Ks l++S) m0 M jI 5 RA q (l.map hd)
 c:∀x∈l,Gr (q.D::(Ks l++S)) m0 M dZ 6 dU x.2 x.1.dk
 nd:(Ks l).Nodup
 lt:∀b∈S,b<M.size
 nq:q.D∉S
 nc:∀x∈l,x.2.D∉S
section
variable{S S' Y:List Nat}{b f M e:E}{c q:O}{d:List bB}{l:List (dC×O)}
def vR.kq(h:vR S b M c q d l):∀x∈l,x.2.D≠q.D:=λx a=>(h.c x a).LG h.g bn
def vR.re(i:vR S b M c q d l)(o:Fz Y M e)(k:∀a∈Y,a∈S)(n:∀a∈S',(a∈S\/M.size<=a)/\a<e.size)(p:f.size<=b.size):vR S' f e c q d l:=by
 have t:=i.g.bq;have r:∀{a:Nat},a∈Ks l++S'->a∈Ks l++S\/M.size<=a:=λg=>by
  rcases List.mem_append.1 g with h|h
  .exact Or.inl (bL _ h)
  .exact(n _ h).1.imp (eG _) id
 have s:∀{a:Nat},a∈q.D::(Ks l++S')->a∈q.D::(Ks l++S)\/M.size<=a:=λg=>by
  rcases List.mem_cons.1 g with h|h
  .exact Or.inl (by simp[h])
  .exact(r h).imp (ah _) id
 refine⟨i.d.le (o.bI (λa g=>by simp[k a g]) λa g=>s g),Gr.cA RA.mono (i.g.re RA.mono o (λa g=>by simp[k a g]) (λj=>i.nq (k _ j)) λa g=>r g) (λa g=>Or.inl g) p,λx m=>Gr.cA dU.mono ((i.c x m).re dU.mono o (λa g=>by simp[k a g]) (λj=>i.nc x m (k _ j)) λa g=>s g) (λa g=>Or.inl g) p,i.nd,λa g=>(n a g).2,λj=>?_,λx m j=>?_⟩
 .rcases(n _ j).1 with h|h
  .exact i.nq h
  .omega
 .have:=(i.c x m).bq;rcases(n _ j).1 with h|h
  .exact i.nc x m h
  .omega
def vR.dk(h:vR S b M c q d l){y:dC×O}(a:y∈l)(j:y.1.dk.length<=10^12):ft (bI (q.D::S) M) y.2 y.1.dk:=
 have g:Gr (q.D::S) b M dZ 6 dU y.2 y.1.dk:=(h.c y a).re dU.mono (Fz.aA [] M) aN aN λi f=>Or.inl (by rcases List.mem_cons.1 f with e|e<;>simp[e])
 g.nV dU.mono (by simp;exact⟨h.kq y a,h.nc y a⟩) bn V
def vR.gr(h:vR S b M c q d l)(u:∀x∈l,x.1.dk.length<=10^12):Gr S b M jI 5 lK q (l.map (·.1)):=by
 let⟨v,n,z,r⟩:=h.g;refine⟨v,n,z,by simpa using r.len,r.size,λk m x t a=>?_⟩;rw[cN]at a;cases f:l[k]? with
 |none=>simp[f]at a
 |some y=>
  simp[f]at a;subst a;let⟨j,g,e,o,p⟩:=r.dD k m (hd y) t (by simp[f]);have i:=aq f;have w:Le (bI (q.D::(Ks l++S)) M) (bI (q.D::S) M):=je M λg s=>by rcases List.mem_cons.1 s with e|e<;>simp[e]
  exact⟨j,g,y.2,e,o.le w,p.le w,h.dk i (u y i)⟩
def vR.yV{L:List Nat}{j G:E}{t e ks:O}{p:dC}{h tb i:Nat}{bc:List Ce}{P:E->Prop}(n:vR S b M c q d l)(x:J M j)(Q:Gr (q.D::(Ks l++S)) G j dZ 6 dU ks p.dk)(h8:M.size<=G.size)
 (ha:ap (bI (ks.D::q.D::(Ks l++S)) j) t p.params)(g:ap (bI (ks.D::q.D::(Ks l++S)) j) e p.cY)(Z:cK M h tb bc)(hi:i<bc.length)(ht:tb≠jI)(v:b.size<=h/\h∈S)(R:∀e∈L,e<j.size/\e≠h/\e≠q.D)(hl:l.length<=1000)(T:J b M)
 (hk:∀r k,vR S b k c r d (l++[(p,ks)])->cK k h tb (jt bc i [.s r])->J b k->P k):
 af (j.push (.cells (bz [.s t,.s e,.i p.aT,.i p.ak,.s ks]) jI)) h i=af j h i/\
 jT (j.push (.cells (bz [.s t,.s e,.i p.aT,.i p.ak,.s ks]) jI)) jI [.s .nil,.s .nil,.i 0,.i 0,.s .nil] 88 q (.mk j.size 0 1 1) λr k=>eF L (j.push (.cells (bz [.s t,.s e,.i p.aT,.i p.ak,.s ks]) jI)) k/\fO k h i 1/\(eF L k (ai k h i [.s r])/\P (ai k h i [.s r])):=by
 have z:=Z.ext x
 have U:=J.push j (.cells (bz [.s t,.s e,.i p.aT,.i p.ak,.s ks]) jI)
 have yk:=Q.bq
 have yq:=n.g.bq
 have zx:=x.size
 have hq:q.D≠h:=λf=>n.nq (by rw[f];exact v.2)
 have kx:ks.D∉S:=λo=>by have:=n.lt _ o;omega
 have ck:∀y∈l,y.2.D<M.size:=λy s=>(n.c y s).bq.2
 have I:∀e∈Ks (l++[(p,ks)])++S,e∈Ks l++S\/e=ks.D:=λe g=>by
  simp only[Ks,fA,cO,fG,List.mem_append,lU]at g⊢;rcases g with(f|f)|f<;>simp[f]
 have g1:Gr (Ks (l++[(p,ks)])++S) b j jI 5 RA q (l.map hd):=n.g.re RA.mono (x.fz []) aN aN λe g=>(I e g).imp id λf=>V
 have Y:Le (bI (ks.D::q.D::(Ks l++S)) j) (bI (q.D::(Ks (l++[(p,ks)])++S)) j):=je j λe g=>by
  rcases List.mem_cons.1 g with f|f
  .simp[f]
  .rcases I e f with f|f
   .exact ah _ (ah _ f)
   .simp[f]
 refine⟨aI (U.same h z.lt) i,Gr.kY (g:=[.s .nil,.s .nil,.i 0,.i 0,.s .nil]) (k:=hd (p,ks)) RA.mono bn g1 ((T.trans x).fz []) ⟨t,e,rfl,ha.le Y,g.le Y⟩ bG λr k ab aa B F=>?_⟩
 have K:=z.congr (F h z.lt (kT hq))
 have hr:r.D≠h:=by have:=z.lt;omega
 have A:∀e,e≠h->(ai k h i [.s r])[e]? =k[e]? :=λe g=>bg _ _ _ _ g
 have N:Fz [q.D,h] j (ai k h i [.s r]):=⟨by rw[ax];exact B.1,λe g w=>(A e (by simp at w;omega)).trans (F e g (by simp at w;omega))⟩
 have C:Fz [q.D,h] M (ai k h i [.s r]):=(x.fz _).trans N
 have F0:J b (ai k h i [.s r]):=(aa.ai (Or.inr v.1) _ _).ext
 have ae:=B.1
 have W:∀e∈r.D::(Ks (l++[(p,ks)])++S),(e∈q.D::(Ks l++S)\/e=ks.D)\/j.size<=e:=λe g=>by
  rcases List.mem_cons.1 g with f|f
  .rcases B.2 with u|u
   .exact Or.inl (Or.inl (by simp[f,u]))
   .exact Or.inr V
  .exact Or.inl ((I e f).imp (ah _) id)
 have X:∀e∈r.D::(Ks (l++[(p,ks)])++S),e∈q.D::(Ks l++S)\/M.size<=e:=λe g=>(W e g).elim (λf=>f.imp id λf=>V) λf=>Or.inr V
 have H:∀e∈[q.D,h],e∈q.D::(Ks l++S):=λe g=>by simp at g;rcases g with f|f<;>simp[f,v.2]
 refine⟨λe g=>?_,K.fO V,λe g=>A e (R e g).2.1,hk r _ ⟨n.d.le (C.bI H X),?_,λy s=>?_,?_,λe g=>?_,λo=>?_,λy s o=>?_⟩ (cK.ai (m:=k) K) F0⟩
 .have D:=R e g
  rw[F e V D.2.2,U.same e V]
 .rw[fA]
  let⟨g0,D,g1,g2⟩:=ab
  exact⟨g0,D,g1.congr (A _ hr),g2.mono λcs y=>RA.mono.le (pR λe g w=>⟨w,A e λf=>w (by rw[f];simp[v.2])⟩)⟩
 .rcases List.mem_append.1 s with f|f
  .exact(n.c y f).re dU.mono C H (by simp;exact⟨n.kq y f,λu=>n.nc y f (u▸v.2)⟩) X
  .simp at f
   subst f
   let⟨ac,D,ad,rr⟩:=Q
   have w:Gr (ks.D::q.D::(Ks l++S)) G j dZ 6 dU ks p.dk:=⟨ac,D,ad,rr.mono λcs y=>dU.mono.le (je j λe g=>by
    rcases List.mem_cons.1 g with f|f
    .simp[f]
    .exact f)⟩
   exact Gr.cA dU.mono (w.re dU.mono N (λe g=>ah _ (H e g)) (by simp;exact⟨V,λu=>kx (u▸v.2)⟩) λe g=>(W e g).imp (λf=>f.elim (ah _) λf=>by simp[f]) id) (λe g=>Or.inl g) (oh T.size)
 .simp only[Ks,fA,cO,fG]
  refine List.nodup_append.2 ⟨n.nd,aN,λe g u o=>?_⟩
  simp at o g
  obtain⟨w,D,s,rfl⟩:=g
  have:=ck _ s
  simp at this;omega
 .have:=n.lt e g
  have:=C.size
  omega
 .rcases B.2 with f|f
  .exact n.nq (f▸o)
  .have:=n.lt _ o;omega
 .rcases List.mem_append.1 s with f|f
  .exact n.nc y f o
  .simp at f
   subst f
   exact kx o
end
end
def wI{h:List Nat}{m:E}(R:∀c∈h,c<m.size){ae ak:O}{H:List bB}{C:List dC}(hd:cz m ae H)(ht:dV H)(hp:iC m ak C)(ai:Ed C):
 aO cp 121 [.agg #[O.v ae,O.v ak]] m λN Y=>∃t q l,N=.agg #[O.v t,O.v q]/\vR h m Y t q H l/\l.map (·.1)=C/\J m Y:=by
 apply AU
 simp -zeta only[aD,aC]
 intro b a2
 let⟨x2,hl⟩:=dI (a:=b) (c:=a2) rfl rfl
 have s1:b.size=m.size+1:=by simp[b]
 clear_value a2
 have aH:=hp.len;have aG:=ai.oQ
 refine(fX (b:=b.size::h) (bR R x2.size (hl _ aN)) (hd.le x2.le) ht).mono λ_ z⟨t,e,av,x3⟩=>?_
 subst e
 refine⟨x3.dz hl,_,rfl,?_⟩
 intro j az ac
 have Z:=x2.trans x3
 let⟨x5,B0,g0,s3,s5⟩:=lC (b:=j.size::b.size::h) RA.mono (d:=z) (a:=j) (c:=az) (h:=ac) rfl rfl rfl
 clear_value ac
 have ah:∀c∈[b.size,m.size],c<z.size:=λc d=>x3.lt (hl c d)
 have i1:=ah b.size aN
 have z2:=Z.size
 have A0:vR (j.size::b.size::h) z ac t (.mk z.size 0 0 0) H []:=⟨av.le (x5.bI λf s=>by
  simp only[Ks,fG,eH,aW]at s;rcases s with e|e|e
  .exact Or.inr (by rw[e];exact ad _)
  .exact Or.inr V
  .exact Or.inl (List.mem_cons.2 e)),g0,aN,aN,λf s=>by
   simp only[aW]at s;rcases s with e|e|e
   .omega
   .omega
   .have:=R f e;omega,λd=>by
   simp only[aW]at d;rcases d with e|e|e
   .simp at e;omega
   .simp at e;omega
   .have:=R _ e;simp at this;omega,aN⟩
 refine dW (n:=C.length) V (λX g=>J z g/\∃k l,vR (j.size::b.size::h) z g t k H l/\cK g j.size vK [.s t,.s k]/\l.map (·.1)=C.take X) ⟨x5,_,[],A0,B0,rfl⟩ ?_
 rintro X g aE μ hk ⟨xM,o,l,A,B,T⟩ aB
 have zM:=xM.size
 refine dit (λx=>?_) λx=>?_
 .let⟨q,hq⟩:=cL C X
  have W:=ai.dD q (aq hq)
  have q3:=W.params;have q4:=W.cY;have qf:=W.oQ
  have v6:=Z.trans xM
  let⟨aF,f,c,c1,c2,c3,e0,e1,e2,e3,e4⟩:=hp.aF hq
  have G:∀{N:Value}{f y:Nat},af m f y=some N->af g f y=some N:=λx=>v6.af x
  refine⟨V,V,_,G e0,_,G e1,_,G e2,_,G e3,_,G e4,?_⟩
  intro m7 k
  obtain⟨Q,-,s8⟩:=kW (M:=g) (d:=m7) (c:=k) rfl rfl rfl
  clear_value k
  have U:∀c∈[g.size,b.size,m.size],c<k.size:=λc d=>by
   rcases List.mem_cons.1 d with e|e
   .omega
   .have:=ah c e;omega
  have w8:=v6.trans Q
  have hT:∀{w:E},g.size<=w.size->∀c∈o.D::(Ks l++(j.size::b.size::h)),c<w.size:=λx c d=>by
   rcases List.mem_cons.1 d with e|e
   .have:=A.g.bq;omega
   .rcases List.mem_append.1 e with e|e
    .obtain⟨u,r,rfl⟩:=List.mem_map.1 e;have:=(A.c u r).bq;omega
    .have:=A.lt c e;omega
  intro m9
  have x9:J k m9:=J.push _ _
  have ar:Gr (o.D::(Ks l++(j.size::b.size::h))) k m9 dZ 6 dU (.mk k.size 0 0 0) []:=Gr.new _ (ad _) _ _ _
  clear_value m9
  have au:=c3.len
  refine eB (n:=q.dk.length) (au▸c3.gX) (λab ks u=>J k u/\Gr (o.D::(Ks l++(j.size::b.size::h))) k u dZ 6 dU ks (q.dk.take ab)) ⟨x9,ar⟩ ?_
  rintro ab ks u I2 μ2 hj ⟨r,I⟩ aA
  have X2:=w8.trans r
  have z2:=r.size
  have ay:∀c∈[g.size,b.size,m.size],c<u.size:=λc d=>r.lt (U c d)
  refine dit (λh2=>?_) λh2=>?_
  .let⟨K,D⟩:=cL q.dk ab
   let⟨pa,pj,ha,ax,P,ag,aj,am,an,ao⟩:=(ft.ext X2 c3).aF D
   have yk:=I.bq
   refine⟨V,V,_,P,_,ag,_,aj,_,am,_,an,_,ao,?_⟩
   refine(wK (S:=ks.D::o.D::(Ks l++(j.size::b.size::h))) (λc d=>?_) ha ax (W.jw K (aq D))).mono λN aJ⟨a',j',e,aa,aw,v⟩=>⟨λc d=>v.same c (ay c d),_,_,_,_,_,_,e,?_⟩
   .rcases List.mem_cons.1 d with e|e
    .omega
    .exact hT V c e
   intro aK
   refine Gr.kY (g:=[.i 0,.i 0,.i 0,.i 0,.s .nil,.s .nil]) (k:=K) dU.mono bn (I.ext dU.mono v) ((r.trans v).fz []) ⟨a',j',rfl,aa,aw⟩ bG λal M3 g3 F z3 aL=>⟨J.oV ((r.trans v).aL _) F.ext U,aA V _ _ ⟨F.ext,?_⟩⟩
   rw[aV D];exact g3
  .rw[bZ V]at I
   have v:∀{M1 u:E},J k M1->J M1 u->∀f,f<k.size->∀y,af u f y=af M1 f y:=λx h' f s y=>aI (h'.same f (x.lt s)) y
   have K:g.size<k.size:=V
   have i2:j.size<k.size:=aP B.lt Q.size
   refine⟨o,(B.ext (Q.trans r)).cq 1,?_⟩
   refine(bQ [] (c1.ext X2) V).aJ r U λa' _ ao ga e F D=>⟨_,rfl,v r F _ K _,v r F _ K _,v r F _ K _,v r F _ i2 _,?_⟩
   subst e
   refine(bQ [] (c2.ext (w8.trans D)) V).aJ D U λb' _ aj gb e P am=>⟨_,rfl,v D P _ K _,v D P _ K _,v D P _ i2 _,?_⟩
   subst e
   intro aw
   have ax:=D.size
   have aJ:=am.size
   have yk:=I.bq
   have ag:∀{w:E},u.size<=w.size->∀c∈ks.D::o.D::(Ks l++(j.size::b.size::h)),c<w.size:=λx c d=>by
    rcases List.mem_cons.1 d with e|e
    .omega
    .exact hT V c e
   have aa:ap (bI (ks.D::o.D::(Ks l++(j.size::b.size::h))) aj) a' q.params:=(GI.done (GI.any ga) (ag (ad _)) V).le (P.dj _)
   have an:ap (bI (ks.D::o.D::(Ks l++(j.size::b.size::h))) aj) b' q.cY:=GI.done (GI.any gb) (ag F.size) V
   have ll:l.length=X:=by have:=nE List.length T;simp at this;omega
   have yq:=A.g.bq
   exact A.yV (i:=1) (bc:=[.s t,.s o]) (tb:=vK) (p:=⟨q.params,q.cY,q.aT,q.ak,q.dk⟩) (L:=[g.size,b.size,m.size]) (Q.trans am) (I.ext dU.mono (F.trans P)) V aa an B aN bn ⟨V,aN⟩ (λc d=>by
    have hn:=A.nq;simp only[aW,vP]at d hn;have:=Q.size;have:=B.lt;rcases d with e|e|e|e
    .omega
    .omega
    .omega
    .simp at e) V xM λal Y A' B' x'=>aB V Y ⟨x',al,_,A',B',by rw[aV hq,fA,T];rfl⟩
 .refine⟨t,B.cq 0,o,B.cq 1,?_⟩
  intro w
  rw[bZ V]at T
  have k:Fz [b.size] g w:=(Fz.aA _ g).ai (Or.inl aN) _ _
  exact⟨t,o,l,rfl,A.re k aN (λf s=>⟨Or.inl (by simp[s]),O6 (R f s) k.size⟩) Z.size,T,(Z.trans xM).ai V _ _⟩
section
variable{cs:List Ce}{p:dC}{y:Instr}
def Qn{α:Type}{l:List α}{f:Nat}{x:α}(h:l[f]? =some x):l.set f x=l:=by
 apply ic;intro i;rw[jM];split
 .next e=>
  subst e;rw[h];split
  .rfl
  .next hi=>exact absurd (aw h) hi
 .rfl
section
variable{S L B X:List Nat}{c m M:E}{a q d:O}{b:List bB}{l:List (dC×O)}{e Q f k:Nat}{x:dC×O}
def BS.psh(h:BS B e d m Q M)(o:Obj):BS (M.size::B) e d m Q (M.push o):=⟨h.s.ext (J.push M o),λc b=>by
 have z:=h.s.f.size;rw[Array.size_push];rcases List.mem_cons.1 b with a|a
 .omega
 .have:=h.gN c a;omega⟩
def vR.oQ(h:Ed (l.map (·.1)))(a:x∈l):TB x.1:=h.dD x.1 (List.mem_map.2 ⟨x,a,rfl⟩)
def vR.len(h:vR S c M a q b l):q.len=l.length:=by have:=h.g.len bn;simpa using this
def vR.iL(n:vR S c M a q b l)(z:l.length<=1000)(k:l[f]? =some x):∃e d:O,af M q.D (q.off+f*5)=some (O.v e)/\af M q.D (q.off+f*5+1)=some (O.v d)/\af M q.D (q.off+f*5+2)=some (vi x.1.aT)/\af M q.D (q.off+f*5+3)=some (vi x.1.ak)/\af M q.D (q.off+f*5+4)=some (O.v x.2)/\ap (bI (q.D::S) M) e x.1.params/\ap (bI (q.D::S) M) d x.1.cY:=by
 let⟨A,m,v,r⟩:=n.g;have y:=aw k;have t:f<m.length:=by have:=r.len;simp at this;omega
 let⟨cs,j⟩:=dG t;let⟨e,d,h,o,p⟩:=r.dD f cs (hd x) j (by simp[k]);have iL:=v.iL;have w:Le (bI (q.D::(Ks l++S)) M) (bI (q.D::S) M):=je M λd s=>by rcases List.mem_cons.1 s with h|h<;>simp[h]
 have aF:∀i g,cs[i]? =some g->af M q.D (q.off+f*5+i)=some g.v:=λi g u=>by
  have:=iL (f*5+i) g (fY r.size j u);rwa[<-dq]at this
 subst h;exact⟨e,d,aF 0 _ rfl,aF 1 _ rfl,aF 2 _ rfl,aF 3 _ rfl,aF 4 _ rfl,o.le w,p.le w⟩
def vR.it(h:vR S c M a q b l)(g:l.length<=1000)(e:∀x∈l,x.1.dk.length<=10^12):IT (bI S M) a q (b,l.map (·.1)):=
 ⟨h.d.le (je M λf d=>by simp[d]),(h.gr e).nV lK.mono h.nq bn (by simp only[eu];omega)⟩
def vR.aae(h:vR S c M a q b l)(i:Fz X c M)(o:l.length<=1000)(f:∀x∈l,x.1.dk.length<=10^12)(j:k<l.length)(m:lK (bI (q.D::S) M) cs p):
 fO M q.D (q.off+k*5) 5/\∃n,IT (bI S (ai M q.D (q.off+k*5) cs)) a q (b,n):=by
 obtain⟨w,g,-,-⟩:=(h.gr f).set lK.mono i (k:=k) (by simpa using j) m
 have F:Fz [q.D] M (ai M q.D (q.off+k*5) cs):=(Fz.aA _ M).ai (Or.inl aN) _ _
 exact⟨w,_,h.d.le (F.bI (λe d=>by simp at d;simp[d]) λe d=>Or.inl (by simp[d])),g.nV lK.mono h.nq bn bG⟩
def vR.wr(h:vR S c M a q b l)(v:Fz X c M)(j:l[f]? =some x)(A:k<x.1.dk.length)(B:dU (bI (q.D::(Ks l++S)) M) cs y):
 fO M x.2.D (x.2.off+k*6) 6/\vR S c (ai M x.2.D (x.2.off+k*6) cs) a q b (l.set f ({x.1 with dk:=x.1.dk.set k y},x.2)):=by
 have n:=aq j
 have t:x.2.D∈Ks l:=List.mem_map.2 ⟨x,n,rfl⟩
 have C:∀d∈x.2.D::q.D::(Ks l++S),d∈q.D::(Ks l++S):=λd g=>by
  rcases List.mem_cons.1 g with e|e
  .rw[e];exact ah _ (bL _ t)
  .exact e
 obtain⟨D,u,-,E⟩:=(h.c x n).set dU.mono v A (dU.le (je M C) B)
 have F:Fz [x.2.D] M (ai M x.2.D (x.2.off+k*6) cs):=(Fz.aA _ M).ai (Or.inl aN) _ _
 have p:∀d∈[x.2.D],d∈Ks l++S:=λd g=>by simp at g;rw[g];exact bL _ t
 have o:Ks (l.set f ({x.1 with dk:=x.1.dk.set k y},x.2))=Ks l:=by
  simp only[Ks,uq];exact Qn (by simp[j])
 have w:(l.set f ({x.1 with dk:=x.1.dk.set k y},x.2)).map hd=l.map hd:=by
  rw[uq];exact Qn (by simp[j,hd])
 have r:∀z∈l.set f ({x.1 with dk:=x.1.dk.set k y},x.2),z=({x.1 with dk:=x.1.dk.set k y},x.2)\/z∈l/\z.2.D≠x.2.D:=λz m=>by
  let⟨G,i⟩:=List.mem_iff_getElem?.1 m;rw[jM]at i;split at i
  .split at i
   .exact Or.inl (by simpa using i.symm)
   .simp at i
  .next hne=>
   refine Or.inr ⟨aq i,λe=>hne ?_⟩;have s:f<(Ks l).length:=by simpa[Ks]using aw j
   exact(List.getElem?_inj s h.nd).1 (by simp[Ks,j,i,e])
 refine⟨D,?_,?_,λz m=>?_,by rw[o];exact h.nd,λd g=>by rw[ax];exact h.lt d g,h.nq,λz m=>?_⟩
 .rw[o];exact h.d.le (F.dj λd g=>ah _ (p d g))
 .rw[o,w];exact h.g.NV RA.mono F p (by simp;exactλe=>h.kq x n e.symm)
 .rw[o]
  rcases r z m with e|⟨e,s⟩
  .rw[e];exact u
  .exact(h.c z e).NV dU.mono F (λd g=>ah _ (p d g)) (by simpa using s)
 .rcases r z m with e|⟨e,s⟩
  .rw[e];exact h.nc x n
  .exact h.nc z e
end
def U9{c:List dC}(h:Ed c){f k:Nat}{x:Instr}(g:c[f]? =some p)(i:p.dk[k]? =some x)(d:Tq x y):Ed (c.set f {p with dk:=p.dk.set k y}):=by
 have b:=h.dD p (aq g);refine⟨by simpa using h.jm,by simpa using h.oQ,λq j=>?_⟩;rcases cF j with e|e
 .exact h.dD q e
 .subst e;refine⟨b.params,b.cY,by simpa using b.jm,by simpa using b.oQ,λl z a=>?_,λz a=>?_⟩
  .simp only[jM]at a;split at a
   .next e=>
    subst e;split at a
    .simp at a;subst a;exact d.1 _ (b.dk _ _ i)
    .simp at a
   .exact b.dk _ _ a
  .rcases cF a with e|e
   .exact b.jw z e
   .rw[e];exact d.2
section
variable{a:List Nat}{m:E}{b P:Nat}{c:O}
def IA(hS:∀k∈a,k<m.size)(ac:b∈a)(I:Rd b c P m)(hP:P+100<=10^16){ab p:O}{s:List bB×List dC}(ag:IT (bI a m) ab p s)(R:UI s):aO cp 48 [vp b 0,.agg #[O.v ab,O.v p]] m (PP IT UI a b c m (P+11)):=by
 apply AM (b,0);simp -zeta only[aD,aC];have z:=I.lt;intro i Z;have b2:BS [i.size,m.size] b c m P Z:=BS.psh (BS.lY (S:=a) I _).1 _;have T:J m Z:=(J.push m _).trans (J.push i _);clear_value Z;refine(wI (b2.hS hS) ((ag.1.le (bD _ _)).ext T) (tw R.2) (eV.mono (iC.le (bD _ _) ag.2) T λ_ _=>lK.le T.le) R.1).mono λ_ j⟨w,q,l,e,A,hl,x3⟩=>⟨(b2.lw z λ_ h=>h).dz (x3.fz _),w,q,e,?_⟩;have b3:=b2.to (x3.fz _) (b2.s.r.ext x3);intro m4 K;obtain⟨b5,-,-⟩:=b3.box (S:=a) (m1:=m4) (m2:=K) rfl rfl rfl;obtain⟨x5,-,-⟩:=kW (M:=j) (d:=m4) (c:=K) rfl rfl rfl;clear_value K;have A5:vR ([j.size,i.size,m.size]++a) m K w q s.1 l:=A.re (x5.fz []) aN (λd f=>⟨by
  rcases List.mem_cons.1 f with e|e
  .exact Or.inr V
  .exact Or.inl e,b5.hS hS d f⟩) T.size
 refine b5.pick z V (λ_ h=>h) 2 λam m6 i0 i1 b6 f6=>?_;have hB:∀d∈[b],d∈[j.size,i.size,m.size]++a:=by simp[ac]
 have Q:∀{u M':E}{l:List (dC×O)},vR ([j.size,i.size,m.size]++a) m u w q s.1 l->Fz [b] u M'->vR ([j.size,i.size,m.size]++a) m M' w q s.1 l:=λh G=>h.re G hB (λd f=>⟨Or.inl f,aP (h.lt d f) G.size⟩) (ad _);refine⟨λN u=>∃n:Nat,N=n/\n<=2/\BS [j.size,i.size,m.size] b c m (P+11 -5*n) u/\∃l,vR ([j.size,i.size,m.size]++a) m u w q s.1 l/\Ed (l.map (·.1)),λN _=>N.toNat,⟨(am+1).toNat,by rw[aR V V];omega,V,⟨⟨b6.s.f,b6.s.r.mono V⟩,b6.gN⟩,l,Q A5 f6,hl▸R.1⟩,?_⟩;rintro N u ⟨n,rfl,hk,d,l,A,r⟩;refine⟨λh=>?_,λ_=>d.iS IT.mn I aN (x:=(s.1,l.map (·.1))) (A.it (by have:=r.oQ;simp at this;omega) λy g=>(vR.oQ r g).oQ) ⟨r,R.2⟩ V _⟩;simp only[kU,ar]at h;have az:=A.len;have l4:l.length<=4:=by simpa using r.oQ
 have l0:0<l.length:=by simpa using r.jm
 refine d.pick z V (λ_ h=>h) (q.len:Int) λG m7 X f1 b7 f7=>?_;have U:=Q A f7;let⟨y,g⟩:=cL l G.toNat;obtain⟨-,-,-,-,-,-,g7,-,-⟩:=U.iL V g;have C:=vR.oQ r (aq g);have av:=(U.dk (aq g) C.oQ).len;have au:=C.jm;refine⟨X,V,y.2,g7,b7.pick z V (λ_ h=>h) (y.2.len:Int) λan L j0 j1 W f8=>?_⟩;have t:=Q U f8;obtain⟨-,-,-,-,-,-,g8,-,-⟩:=t.iL V g;let⟨ao,B⟩:=cL y.1.dk an.toNat;let⟨ap,jj,ha,hj,e0,e1,e2,e3,e4,e5⟩:=(t.dk (aq g) C.oQ).aF B;have gN:∀{d o:Nat}{ai:Value},af (bI (q.D::([j.size,i.size,m.size]++a)) L) d o=some ai->af L d o=some ai:=λh=>(eS.1 h).2;refine⟨X,V,y.2,g8,X,V,y.2,g8,j0,V,_,gN e0,_,gN e1,_,gN e2,_,gN e3,_,gN e4,_,gN e5,?_⟩;have hZ:∀k∈q.D::(Ks l++([j.size,i.size,m.size]++a)),k<L.size:=λk Y=>by
  rcases List.mem_cons.1 Y with e|e
  .rw[e];exact t.g.bq.2
  .rcases List.mem_append.1 e with e|e
   .obtain⟨aa,v,rfl⟩:=List.mem_map.1 e;exact(t.c aa v).bq.2
   .exact t.lt k e
 refine(Iz hZ W.s.r V (ha.le (je _ (by simp[ac]))) (hj.le (bD _ _)) (C.jw ao (aq B)) ⟨_,C.dk _ _ B⟩).mono λ_ m9⟨D,a',j',e,ak,al,f,r9,H⟩=>⟨(W.lw z λ_ h=>h).dz H,_,_,_,_,_,_,e,?_⟩;have F:=Q t H;have v:=W.to H r9;let⟨aa,aj⟩:=F.wr v.s.f g (aw B) (cs:=[.i D.op,.i D.dst,.i D.bS,.i D.cg,.s a',.s j']) (y:=D) ⟨a',j',rfl,ak,al⟩;have yc:=(F.c y (aq g)).bq;have ae:∀o d,d∈q.D::([j.size,i.size,m.size]++a)->d≠b->af m9 d o=af L d o:=λo d f hn=>aI (H.same d (hZ d ((List.mem_cons.1 f).elim (λe=>by simp[e]) λe=>ah _ (eG _ e))) (by simpa using hn)) o;have yq:=F.g.bq;have ay:=v.gN j.size aN;refine⟨ae _ _ aN V,ae _ _ aN V,j0,V,aa,λd f=>bg _ _ _ _ λe=>(F.nc y (aq g)) (by rw[<-e];exact bL _ f),⟨n -1,?_,V,⟨⟨v.s.f.ai (Or.inr V) _ _,(I.ai v.s.r v.s.f V _ _).mono V⟩,λk Y=>by rw[ax];exact v.gN k Y⟩,_,aj,?_⟩,?_⟩
 .rw[aR V V];omega
 .rw[uq];exact U9 r (by simp[g]) B f
 .rw[aR V V];show((n:Int) -1).toNat<(n:Int).toNat;omega
end
end
section
variable{m:E}{b:Nat}{a j:O}
def BI.lY{L:List Nat}{g M:E}{k Q:Nat}{i:O}{p q:List Int}(h:BI g k b i m Q M a j p q)(o:b<m.size)(u:Q<=10^16)(s:∀e∈L,m.size<=e/\e<=k)(d:List Int){f:List Ce}{n:Nat}(w:f=d.map Ce.i)(A:n=d.length)(z:0<d.length/\d.length<=100){K:Int->E->Prop}
 (y:∀t c,BI g k b i m (Q+1) c a j p q->K t c):aO cp 53 [vp b 0,O.v (.mk M.size 0 n n)] (M.push (.cells (bz f) aB)) λC c=>eF L (M.push (.cells (bz f) aB)) c/\∃t:Int,C=vi t/\K t c:=
 have:=h.hi
 have x:=J.push M (.cells (bz f) aB)
 have D:=x.size
 (Ar h.s u d w A z).mono λ_ c⟨t,r,_,B,l⟩=>⟨l.dz λe v=>by have:=s e v;simp only[lU];omega,t,r,y t c ((h.to o (x.fz _) (h.s.r.ext x)).to o l B.r)⟩
def Hl{Z:List Nat}{P:Nat}{s:O}{x:Instr}(o:∀c∈Z,c<m.size)(c:Rd b s P m)(hP:P+20<=10^16)(U:ap m a x.args)(W:ap m j x.eN)(p:x.args.length<=10^12/\x.eN.length<=10^12):
 aO cp 124 [vp b 0,Wc x a j] m (IX Z b s m (P+4) λ_=>True):=by
 apply zn (b,0)
 simp(config:={maxSteps:=1000000}) -zeta only[aD,aC]
 have q:=c.lt
 intro v h
 let⟨H,C⟩:=dI (a:=v) (c:=h) rfl rfl
 have i:v.size=m.size+1:=by simp[v]
 have s2:h.size=m.size+2:=by simp[h,i]
 clear_value h
 clear_value v
 refine(wJ [] (U.ext H) (W.ext H) p).mono λ_ r⟨K,N,l,L,E,X,S⟩=>⟨S.dz C,_,_,_,_,_,_,l,?_⟩
 intro Y F
 obtain⟨I,-,z5⟩:=kW (M:=r) (d:=Y) (c:=F) rfl rfl rfl
 clear_value F
 have ya:=L.bq;have yj:=E.bq
 have J:=(H.trans S).trans I
 have b5:BI h r.size b s m P F K N x.args x.eN:=⟨L.ext I,E.ext I,X,⟨J.fz _,c.ext J⟩,⟨V,pB p.1,pB p.2⟩,V,V,V,V⟩
 have u:∀B∈[r.size,v.size,m.size],m.size<=B/\B<=r.size:=bG
 refine b5.pick q V u 6 λac y _ _ b6 _ f6=>?_
 have y6:=b6.hi
 have R:∀{w:O}{Q:List Int},GI [] h y w Q->Q.length<=10^12->aO cp 54 [vp b 0,O.v w] y λA f=>eF [r.size,v.size,m.size] y f/\∃e,A=O.v e/\∃g,GI [] y f e g/\g.length<=1000000000001/\Rd b s (P+4) f/\Fz [b] y f:=λn C=>
  (qV b6.s.r V (ap.le (bD _ _) (n.done aN C)) C).mono λ_ f⟨e,g,l,T,D,_,z,t⟩=>⟨t.dz λB p=>by have:=u B p;simp only[lU];omega,e,l,g,T,V,z,t⟩
 refine⟨λ_=>b6.pick q V u 26 λA G _ _ d _ _=>(d.put c _ _).iS c o i V trivial _,λ_=>⟨λ_=>b6.lY q V u [0,1,-1,99] rfl rfl aN λA G d=>(d.put c _ _).iS c o i V trivial _,λ_=>⟨λ_=>b6.lY q V u [0,1,5,-1,1000,2000] rfl rfl aN λA G d=>(d.put c _ _).iS c o i V trivial _,λ_=>⟨λ_=>b6.lY q V u [0,1,-1,99] rfl rfl aN λA G d=>(d.put c _ _).iS c o i V trivial _,λ_=>⟨λ_=>?_,λ_=>⟨λ_=>?_,λ_=>b6.iS c o i V trivial _⟩⟩⟩⟩⟩⟩
 .refine(R b6.ga p.1).mono λ_ f⟨w,e,l,g,n,D,z,t⟩=>⟨w,e,l,?_⟩
  have aa:=n.bq
  have ab:=b6.s.f.size
  have k:=b6.to q t z
  have d:BI h r.size b s m (P+4) f e N g x.eN:=⟨n.cA aN V,k.gj,oh E.bq,k.s,⟨V,D,b6.lo.2.2⟩,V,V,k.hi.2.2⟩
  exact(d.put c _ _).iS c o i V trivial _
 .refine(R b6.gj p.2).mono λ_ f⟨w,e,l,g,n,D,z,t⟩=>⟨w,e,l,?_⟩
  have aa:=n.bq
  have ab:=b6.s.f.size
  have k:=b6.to q t z
  have d:BI h r.size b s m (P+4) f K e x.args g:=⟨k.ga,n.cA aN V,V,k.s,⟨V,b6.lo.2.1,D⟩,V,V,k.hi.2.2⟩
  exact(d.put c _ _).iS c o i V trivial _
end
section
def AD(S:List Nat)(b:Nat)(c:O)(m:E)(P:Nat)(v:Value)(a:E):Prop:=∃s d,v=O.v s/\cz (bI S a) s d/\Rd b c P a/\Fz [b] m a
structure DD(S:List Nat)(rb:Nat)(bs:O)(m:E)(Q:Nat)(M:E)(s:O)(ds:List bB):Prop where
 g:Zx S m M s ds
 r:Rs rb bs m Q M
 l:0<ds.length/\ds.length<=100
section
variable{a:List Nat}{b P Q h g:Nat}{c s:O}{m M f:E}{e:List bB}
def DD.to(d:DD a b c m Q M s e)(i:b∈a/\b<m.size)(g:Fz [b] M f)(r:Rs b c m h f):DD a b c m h f s e:=⟨d.g.eC iV.mono g (by simp;exact i),r,d.l⟩
def DD.ext(h:DD a b c m Q M s e)(x:J M f):DD a b c m Q f s e:=⟨h.g.ext iV.mono x,h.r.ext x,h.l⟩
def DD.gN(h:DD a b c m Q M s e)(g:∀d∈a,d<m.size):∀d∈s.D::a,d<M.size:=λd i=>(List.mem_cons.1 i).elim (λf=>f▸h.g.bq.2) λf=>aP (g d f) h.r.f.size
def DD.lit(h:DD a b c m Q M s e)(f:∀d∈a,d<m.size)(l:List Int){cs:List Ce}{n:Nat}(d:cs=l.map Ce.i)(g:n=l.length)(i:l.length<=100):ap (bI (s.D::a) (M.push (.cells (bz cs) aB))) (.mk M.size 0 n n) l:=ap.lit aB l (h.gN f) d g V
def DD.iS(h:DD a b c m Q M s e)(f:∀d∈a,d<m.size)(d:Q<=g):AD a b c m g (O.v s) M:=⟨s,e,rfl,h.g.done iV.mono f bn (oh h.l),h.r.r.mono d,h.r.f⟩
def DD.set(h:DD a b c m Q M s e)(o:∀f∈a,f<m.size)(i:Rd b c P m)(n:Q<=g){k:Int}(p:0<=k/\k<(e.length:Int)){cs:List Ce}{d:bB}(hd:iV (bI (s.D::a) M) cs d):
 0<=k/\k<(s.len:Int)/\fO M s.D (s.off+k.toNat*3) 3/\AD a b c m g (O.v s) (ai M s.D (s.off+k.toNat*3) cs):=by
 have q:=h.g.len bn
 have y:=h.g.bq
 let⟨w,l,f,j⟩:=h.g.set iV.mono h.r.f (k:=k.toNat) V hd
 exact⟨p.1,V,w,s,_,rfl,l.done iV.mono o bn (by have:=h.l;simp;omega),(i.Nd h.r.r f (j b (oh i.lt))).mono n,f⟩
def DD.iu(h:DD a b c m Q M s e)(i:∀d∈a,d<m.size)(k:Rd b c P m)(q:Q<=g){d:List Ce}{n:Nat}(l:List (bB×List Ce))(hd:∀x∈l,iV (bI (s.D::a) M) x.2 x.1)(t:d=l.flatMap (·.2))(u:n=l.length)(v:l.length<=100):
 jT (M.push (.cells (bz d) kj)) kj [.i 0,.i 0,.s .nil] 40 s (.mk M.size 0 n n) λr f=>AD a b c m g (O.v r) f:=by
 have x:=J.push M (.cells (bz d) kj)
 have z:=h.g.bq
 have H:=(Co iV.mono (h.gN i) kj l hd t u).done iV.mono (h.gN i) bn bG
 have w:=h.l
 refine Gr.all (g:=[.i 0,.i 0,.s .nil]) iV.mono bn (h.ext x).g (h.ext x).r.f H bG λr y p j A o=>⟨r,_,rfl,p.done iV.mono i bn bG,(k.Nd (h.ext x).r.r j (o b (h.ext x).r.r.lt (oh k.lt))).mono q,j⟩
def JY(g:∀z∈a,z<m.size)(O:b∈a)(v:Rd b c P m)(hP:P+100<=10^16):aO cp 123 [vp b 0] m (AD a b c m (P+6)):=by
 apply CI (b,0);have hr:=v.lt;have w:b∈a/\b<m.size:=⟨O,hr⟩;refine(wM g O v V).mono λ_ m1⟨s,e,h,g1,ad,d1,f1⟩=>⟨s,h,?_⟩;have R:DD a b c m (P+1) m1 s e:=⟨g1,⟨f1,d1⟩,oh (pN e ad)⟩;have sl:s.len=e.length:=g1.len bn;have dl:=R.l;refine(cr d1 V (s.len:Int)).mono λ_ m2⟨D,h,k0,k1,d2,f2⟩=>⟨D,h,?_⟩;have Z:=R.to w f2 (R.r.to f2 d2);have N:0<=D/\D<(e.length:Int):=V;refine(cr d2 V 14).mono λ_ F⟨ae,h,_,_,d3,f3⟩=>⟨ae,h,?_⟩;have k:=Z.to w f3 (Z.r.to f3 d3);have Q:∀{M:E},UZ M .nil []:=⟨rfl,dQ _,aN,aN⟩;have x:∀{M f:E},J M f->Le (bI (s.D::a) M) (bI (s.D::a) f):=λX=>X.dj _;refine⟨λ_=>?_,λ_=>⟨λ_=>?_,λ_=>⟨λ_=>?_,λ_=>⟨λ_=>?_,λ_=>⟨λ_=>?_,λ_=>⟨λ_=>k.iu g v V [(⟨0,0,[]⟩,[.i 0,.i 0,.s .nil]),(⟨3,0,[]⟩,[.i 3,.i 0,.s .nil])] (by simp;exact⟨⟨.nil,rfl,Q⟩,⟨.nil,rfl,Q⟩⟩) rfl rfl aN,λ_=>k.iS g V⟩⟩⟩⟩⟩⟩
 .refine(Ar k.r V [-1,5,0,2] rfl rfl aN).mono λ_ o⟨t,h,_,G,u⟩=>⟨t,h,?_⟩;have r:=(k.ext (J.push F _)).to w u G;refine(Ar G V [0,1,5] rfl rfl aN).mono λ_ l⟨q,h,_,A,y⟩=>⟨q,h,?_⟩;have p:=(r.ext (J.push o _)).to w y A;exact p.set g v V N (d:=⟨t,q,[]⟩) ⟨.nil,rfl,Q⟩
 .refine(Ar k.r V [-1,0,4,5] rfl rfl aN).mono λ_ o⟨t,h,_,G,u⟩=>⟨t,h,?_⟩;have r:=(k.ext (J.push F _)).to w u G;have L:=r.lit g [t] (cs:=[.i t]) (n:=1) rfl rfl aN;refine DE _ λl y=>?_;have p:=(r.ext (J.push o _)).ext y;have a2:=p.lit g [0,0,0,0] (cs:=[.i 0,.i 0,.i 0,.i 0]) (n:=4) rfl rfl aN;refine DE _ λq B=>?_;have H:=(p.ext (J.push l _)).ext B;have a3:=H.lit g [] (cs:=[]) (n:=0) rfl rfl aN;refine DE _ λA C=>?_;have I:=(H.ext (J.push q _)).ext C;have K:=(J.push q (.cells (bz []) aB)).trans C;have U:=((J.push l (.cells (bz [.i 0,.i 0,.i 0,.i 0]) aB)).trans B);have z:=xl (I.gN g) pA [([t],.mk o.size 0 1 1),([0,0,0,0],.mk l.size 0 4 4),([],.mk q.size 0 0 0)] aN (by
   simp only[aW,km,Cb,forall_eq_or_imp,forall_eq];exact⟨L.le (x ((y.trans U).trans K)),a2.le (x (B.trans K)),a3.le (x C)⟩) (c:=[.s (.mk o.size 0 1 1),.s (.mk l.size 0 4 4),.s (.mk q.size 0 0 0)]) (b:=3) rfl rfl
  exact(I.ext (J.push A _)).set g v V N (d:=⟨0,0,_⟩) ⟨_,rfl,z⟩
 .have L:=k.lit g [cG (D+1)] (cs:=[.i (cG (D+1))]) (n:=1) rfl rfl aN;refine DE _ λl y=>?_;have p:=(k.ext (J.push F _)).ext y;have z:=xl (p.gN g) pA [([cG (D+1)],.mk F.size 0 1 1)] aN (by
   simp only[aW,km,Cb,forall_eq];exact L.le (x y)) (c:=[.s (.mk F.size 0 1 1)]) (b:=1) rfl rfl
  exact(p.ext (J.push l _)).set g v V N (d:=⟨0,0,_⟩) ⟨_,rfl,z⟩
 .refine(Ar k.r V [0,2,1] rfl rfl aN).mono λ_ o⟨t,h,_,G,u⟩=>⟨t,h,?_⟩;have r:=(k.ext (J.push F _)).to w u G;exact r.iu g v V [(⟨2,t,[]⟩,[.i 2,.i t,.s .nil])] (by simp;exact⟨.nil,rfl,Q⟩) rfl rfl aN
 .refine(cr k.r.r V 2).mono λ_ o⟨t,h,_,_,d4,u⟩=>⟨t,h,?_⟩;have r:=k.to w u (k.r.to u d4);have L:=r.lit g [] (cs:=[]) (n:=0) rfl rfl aN;refine DE _ λl y=>?_;have p:=(r.ext (J.push o _)).ext y;have a2:=p.lit g [2] (cs:=[.i 2]) (n:=1) rfl rfl aN;refine DE _ λq B=>?_;have H:=(p.ext (J.push l _)).ext B;have a3:=H.lit g [] (cs:=[]) (n:=0) rfl rfl aN;refine DE _ λA C=>?_;have I:=(H.ext (J.push q _)).ext C;have a4:=I.lit g [] (cs:=[]) (n:=0) rfl rfl aN;refine DE _ λm8 Y=>?_;have D8:=(I.ext (J.push A _)).ext Y;have W:=(J.push A (.cells (bz []) aB)).trans Y;have K:=(J.push q (.cells (bz []) aB)).trans C;have U:=((J.push l (.cells (bz [.i 2]) aB)).trans B);have z:=xl (D8.gN g) pA [([],.mk o.size 0 0 0),([2],.mk l.size 0 1 1),([],.mk q.size 0 0 0),([],.mk A.size 0 0 0)] aN (by
   simp only[aW,km,Cb,forall_eq_or_imp,forall_eq];exact⟨L.le (x (((y.trans U).trans K).trans W)),a2.le (x ((B.trans K).trans W)),a3.le (x (C.trans W)),a4.le (x Y)⟩) (c:=[.s (.mk o.size 0 0 0),.s (.mk l.size 0 1 1),.s (.mk q.size 0 0 0),.s (.mk A.size 0 0 0)]) (b:=4) rfl rfl
  have T:=D8.ext (J.push m8 (.cells (bz [.s (.mk o.size 0 0 0),.s (.mk l.size 0 1 1),.s (.mk q.size 0 0 0),.s (.mk A.size 0 0 0)]) pA));refine(cr T.r.r V 3).mono λ_ af⟨aa,h,j0,j1,ac,G⟩=>⟨aa,h,j0,bG,aN,?_⟩;have c':=(eV.le z (G.dj (S:=s.D::a) (by simp[O])) λab X=>nh.le (G.dj (by simp[O])) ab X).La (i:=aa.toNat) (j:=4) V aN;exact(T.to w G (T.r.to G ac)).set g v V N (d:=⟨t,0,_⟩) ⟨_,rfl,c'⟩
end
end
end Go.Proofs.YtghjegjkpepmpaaGreat
